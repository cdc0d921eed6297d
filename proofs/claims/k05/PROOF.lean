import PyProof.Rows.All
import Wide.All
import OpenK.AllK
import Wide.FinOn
import HandS.ForMost
import HandS.ForExc
import HandS.Small
import HandS.Walk
import HandS.Wide
import HandS.Text
import HandS.IsInst
import HandS.Codes
import HandS.Deep
import PyProof.ListStr
import PyProof.Rows.SeqMore
import HandS.More
import HandS.Dict
import HandS.Comp
import HandS.DictComp
import HandS.ExcIs
import HandS.ExcOwn
import KE.GoesNew
import KE.GoesMore
import HandS.Iter
import HandS.RevTup
import HandS.Conv
import HandS.Defaults
import HandS.Head2
import HandS.HeadHook2
import HandS.HeadEnd
import PyProof.TupleOfStr
import KE.KStateDown
import HandS.Ends
import HandS.SortKw
import KE.SortKeyHeap
import KE.SortData
import KE.KSortKey
import HandS.MapJoin
import HandS.WideBits
import PyProof.JoinWalk
import KE.LtData
import PyProof.StrLawsIn
import PyProof.Rows.StrLawsPart
import HandS.DictTup
import HandS.Zip
import PyProof.SumWalkG
import PyProof.WalksMore
import PyProof.Rows.SumAny
import HandS.ExcInit
import HandS.Nested
import KE.KExcSuper
import HandS.ExcField
import KE.DataEq
import KE.BitLaws
import PyProof.P3Eq
import PySem.Challenge.RW_madeanew_k05_worth
set_option Elab.async false
set_option linter.all false
set_option maxRecDepth 100000
namespace Ip
open PySem L2

/-! ## data by value -/
inductive D where
  | non | bl (b : Bool) | int (i : Int) | str (s : Str)
  | tup (ds : List D) | lst (ds : List D)
  | dic (ks ds : List D)
  | dit (ks : List (List Key)) (ds : List D)
  | obj (c : Str) (ns : List Str) (ds : List D)
  deriving Inhabited

def kD : Key → D
  | .inl i => .int i
  | .inr x => .str x
def kT (k : List Key) : D := .tup (k.map kD)

/-- facts of the text: the written part, the classes' addresses -/
structure Gx where
  K : PySem.W.Frag
  ct : Str → Option Addr

mutual
/-- v stands for d in the heap H -/
inductive RV (g : Gx) (H : Hp) : D → V → Prop where
  | non : RV g H .non .non
  | bl (b : Bool) : RV g H (.bl b) (.bl b)
  | int (i : Int) : RV g H (.int i) (.int i)
  | str (x : Str) : RV g H (.str x) (.str x)
  | tup {a : Addr} {vs : List V} {ds : List D} : H a = some (.tup vs) → RVs g H ds vs → RV g H (.tup ds) (.ref a)
  | lst {a : Addr} {vs : List V} {ds : List D} : SqL g.K H a vs → RVs g H ds vs → RV g H (.lst ds) (.ref a)
  | dK {a : Addr} {ks : List Key} {vs : List V} {ds : List D} : Rd H a (.dK (ks.zip vs)) → ks.length = vs.length → RVs g H ds vs → RV g H (.dic (ks.map kD) ds) (.ref a)
  | dT {a : Addr} {ks : List (List Key)} {vs : List V} {ds : List D} : Rd H a (.dT (ks.zip vs)) → ks.length = vs.length → RVs g H ds vs → RV g H (.dit ks ds) (.ref a)
  | obj {a C dx : Addr} {c : Str} {ns : List Str} {vs : List V} {ds : List D} : H a = some (.ins C dx (ns.zip vs)) → g.ct c = some C → ns.length = vs.length → RVs g H ds vs → RV g H (.obj c ns ds) (.ref a)
inductive RVs (g : Gx) (H : Hp) : List D → List V → Prop where
  | nil : RVs g H [] []
  | cons {d : D} {v : V} {ds : List D} {vs : List V} : RV g H d v → RVs g H ds vs → RVs g H (d :: ds) (v :: vs)
end

/-! ## heaps: a smaller one is kept (dicts up to their locks) -/
def NotD : HO → Prop
  | .dK _ => False
  | .dT _ => False
  | _ => True
structure HLe (A B : Hp) : Prop where
  o : ∀ b o, A b = some o → NotD o → B b = some o
  k : ∀ b kvs, Rd A b (.dK kvs) → Rd B b (.dK kvs)
  t : ∀ b kvs, Rd A b (.dT kvs) → Rd B b (.dT kvs)
theorem HLe.refl (A : Hp) : HLe A A := ⟨fun _ _ h _ => h, fun _ _ h => h, fun _ _ h => h⟩
theorem HLe.trans {A B C : Hp} (x : HLe A B) (y : HLe B C) : HLe A C :=
  ⟨fun b o h n => y.o b o (x.o b o h n) n, fun b k h => y.k b k (x.k b k h), fun b k h => y.t b k (x.t b k h)⟩
theorem HLe.of_same {A B : Hp} (s : Same A B) : HLe A B :=
  ⟨fun b o h _ => s b o h, fun b k h => h.elim (fun e => .inl (s _ _ e)) fun ⟨o, e⟩ => .inr ⟨o, s _ _ e⟩, fun b k h => h.elim (fun e => .inl (s _ _ e)) fun ⟨o, e⟩ => .inr ⟨o, s _ _ e⟩⟩
theorem HLe.rd {A B : Hp} (s : HLe A B) {a : Addr} {u : HO} (hn : NotD u) (hf : ∀ o, NotD (.frz o u)) (h : Rd A a u) : Rd B a u :=
  h.elim (fun e => .inl (s.o _ _ e hn)) fun ⟨o, e⟩ => .inr ⟨o, s.o _ _ e (hf o)⟩
theorem HLe.sqT {A B : Hp} (s : HLe A B) {K : PySem.W.Frag} {a : Addr} {vs : List V} (h : SqT K A a vs) : SqT K B a vs :=
  h.elim (fun e => .inl (s.rd trivial (fun _ => trivial) e)) .inr
theorem HLe.sqL {A B : Hp} (s : HLe A B) {K : PySem.W.Frag} {a : Addr} {vs : List V} (h : SqL K A a vs) : SqL K B a vs :=
  h.elim (fun e => .inl (s.rd trivial (fun _ => trivial) e)) .inr
mutual
theorem RV.mono {g : Gx} {A B : Hp} (s : HLe A B) : ∀ {d : D} {v : V}, RV g A d v → RV g B d v
  | _, _, .non => .non
  | _, _, .bl b => .bl b
  | _, _, .int i => .int i
  | _, _, .str x => .str x
  | _, _, .tup h r => .tup (s.o _ _ h trivial) (RVs.mono s r)
  | _, _, .lst h r => .lst (s.sqL h) (RVs.mono s r)
  | _, _, .dK h l r => .dK (s.k _ _ h) l (RVs.mono s r)
  | _, _, .dT h l r => .dT (s.t _ _ h) l (RVs.mono s r)
  | _, _, .obj h c l r => .obj (s.o _ _ h trivial) c l (RVs.mono s r)
theorem RVs.mono {g : Gx} {A B : Hp} (s : HLe A B) : ∀ {ds : List D} {vs : List V}, RVs g A ds vs → RVs g B ds vs
  | _, _, .nil => .nil
  | _, _, .cons h r => .cons (RV.mono s h) (RVs.mono s r)
end
theorem RVs.length {g : Gx} {A : Hp} : ∀ {ds : List D} {vs : List V}, RVs g A ds vs → ds.length = vs.length
  | _, _, .nil => rfl
  | _, _, .cons _ r => by simp [RVs.length r]
theorem RVs.get {g : Gx} {A : Hp} : ∀ {ds : List D} {vs : List V} {i : Nat} {d : D}, RVs g A ds vs → ds[i]? = some d → ∃ v, vs[i]? = some v ∧ RV g A d v
  | _, _, _, _, .nil, e => by simp at e
  | _, _, 0, _, .cons r _, e => by simp at e; subst e; exact ⟨_, rfl, r⟩
  | _, _, i + 1, d, .cons _ t, e => by
    obtain ⟨u, h1, h2⟩ := RVs.get (i := i) (d := d) t (by simpa using e)
    exact ⟨u, by simpa using h1, h2⟩
theorem RVs.getV {g : Gx} {A : Hp} : ∀ {ds : List D} {vs : List V} {i : Nat} {v : V}, RVs g A ds vs → vs[i]? = some v → ∃ d, ds[i]? = some d ∧ RV g A d v
  | _, _, _, _, .nil, e => by simp at e
  | _, _, 0, _, .cons r _, e => by simp at e; subst e; exact ⟨_, rfl, r⟩
  | _, _, i + 1, d, .cons _ t, e => by
    obtain ⟨u, h1, h2⟩ := RVs.getV (i := i) (v := d) t (by simpa using e)
    exact ⟨u, by simpa using h1, h2⟩
theorem RVs.app {g : Gx} {A : Hp} : ∀ {ds es : List D} {vs ws : List V}, RVs g A ds vs → RVs g A es ws → RVs g A (ds ++ es) (vs ++ ws)
  | _, _, _, _, .nil, s => s
  | _, _, _, _, .cons r t, s => .cons r (RVs.app t s)
theorem RVs.set {g : Gx} {A : Hp} {d : D} {v : V} (r : RV g A d v) : ∀ {ds : List D} {vs : List V} (i : Nat), RVs g A ds vs → RVs g A (ds.set i d) (vs.set i v)
  | _, _, _, .nil => .nil
  | _, _, 0, .cons _ t => .cons r t
  | _, _, i + 1, .cons q t => .cons q (RVs.set r i t)
theorem RVs.take {g : Gx} {A : Hp} : ∀ {ds : List D} {vs : List V} (n : Nat), RVs g A ds vs → RVs g A (ds.take n) (vs.take n)
  | _, _, 0, _ => .nil
  | _, _, _ + 1, .nil => .nil
  | _, _, n + 1, .cons r t => .cons r (RVs.take n t)
theorem RVs.drop {g : Gx} {A : Hp} : ∀ {ds : List D} {vs : List V} (n : Nat), RVs g A ds vs → RVs g A (ds.drop n) (vs.drop n)
  | _, _, 0, r => r
  | _, _, _ + 1, .nil => .nil
  | _, _, n + 1, .cons _ t => RVs.drop n t
theorem RVs.eraseIdx {g : Gx} {A : Hp} : ∀ {ds : List D} {vs : List V} (n : Nat), RVs g A ds vs → RVs g A (ds.eraseIdx n) (vs.eraseIdx n)
  | _, _, _, .nil => .nil
  | _, _, 0, .cons _ t => t
  | _, _, n + 1, .cons r t => .cons r (RVs.eraseIdx n t)
theorem RVs.reverse {g : Gx} {A : Hp} {ds : List D} {vs : List V} (h : RVs g A ds vs) : RVs g A ds.reverse vs.reverse := by
  induction ds generalizing vs with
  | nil => cases h; exact .nil
  | cons d ds ih =>
    cases h with
    | cons r t =>
      rw [List.reverse_cons, List.reverse_cons]
      exact RVs.app (ih t) (.cons r .nil)
theorem RVs.ints {g : Gx} {A : Hp} : ∀ (ns : List Int), RVs g A (ns.map D.int) (ns.map V.int)
  | [] => .nil
  | n :: ns => .cons (.int n) (RVs.ints ns)
theorem RVs.of_ints {g : Gx} {A : Hp} : ∀ {ns : List Int} {vs : List V}, RVs g A (ns.map D.int) vs → vs = ns.map V.int
  | [], _, .nil => rfl
  | n :: ns, _, .cons (.int _) t => by rw [RVs.of_ints t]; rfl
theorem RVs.of_strs {g : Gx} {A : Hp} : ∀ {ns : List Str} {vs : List V}, RVs g A (ns.map D.str) vs → vs = ns.map V.str
  | [], _, .nil => rfl
  | n :: ns, _, .cons (.str _) t => by rw [RVs.of_strs t]; rfl

/-! ## masks -/
def mask (H : Hp) (M : List Addr) : Hp := fun a => if a ∈ M then none else H a
theorem mask_in {H : Hp} {M : List Addr} {a : Addr} (h : a ∈ M) : mask H M a = none := by unfold mask; rw [if_pos h]
theorem mask_out {H : Hp} {M : List Addr} {a : Addr} (h : a ∉ M) : mask H M a = H a := by unfold mask; rw [if_neg h]
theorem mask_some {H : Hp} {M : List Addr} {a : Addr} {o : HO} (h : mask H M a = some o) : a ∉ M ∧ H a = some o := by
  unfold mask at h
  by_cases q : a ∈ M
  · rw [if_pos q] at h; cases h
  · rw [if_neg q] at h; exact ⟨q, h⟩
theorem mask_same {H : Hp} {M : List Addr} : Same (mask H M) H := fun _ _ h => (mask_some h).2
theorem mask_sub {H : Hp} {M M' : List Addr} (h : ∀ a ∈ M', a ∈ M) : Same (mask H M) (mask H M') := fun b o e => by
  obtain ⟨h1, h2⟩ := mask_some e
  rw [mask_out (fun q => h1 (h b q))]; exact h2
theorem mask_congr {H : Hp} {M M' : List Addr} (h : ∀ a, a ∈ M ↔ a ∈ M') : mask H M = mask H M' := by
  funext a
  unfold mask
  by_cases q : a ∈ M
  · rw [if_pos q, if_pos ((h a).mp q)]
  · rw [if_neg q, if_neg fun z => q ((h a).mpr z)]
/-- all that is not masked is kept -/
theorem mask_keep {H H' : Hp} {M : List Addr} (s : ∀ b o, b ∉ M → H b = some o → H' b = some o) : Same (mask H M) (mask H' M) := fun b o e => by
  obtain ⟨h1, h2⟩ := mask_some e
  rw [mask_out h1]; exact s b o h1 h2
theorem RV.out {g : Gx} {H : Hp} {M : List Addr} {d : D} {v : V} (h : RV g (mask H M) d v) : RV g H d v := h.mono (.of_same mask_same)
theorem RVs.out {g : Gx} {H : Hp} {M : List Addr} {d : List D} {v : List V} (h : RVs g (mask H M) d v) : RVs g H d v := h.mono (.of_same mask_same)

/-! ## an object that is owned: what stands at a, its items within Hm -/
inductive Cont (g : Gx) (H Hm : Hp) (a : Addr) : D → Prop where
  | lst {vs : List V} {ds : List D} : H a = some (.lst vs) → RVs g Hm ds vs → Cont g H Hm a (.lst ds)
  | dK {ks : List Key} {vs : List V} {ds : List D} : H a = some (.dK (ks.zip vs)) → ks.length = vs.length → RVs g Hm ds vs → Cont g H Hm a (.dic (ks.map kD) ds)
  | dT {ks : List (List Key)} {vs : List V} {ds : List D} : H a = some (.dT (ks.zip vs)) → ks.length = vs.length → RVs g Hm ds vs → Cont g H Hm a (.dit ks ds)
  | obj {C dx : Addr} {c : Str} {ns : List Str} {vs : List V} {ds : List D} : H a = some (.ins C dx (ns.zip vs)) → g.ct c = some C → ns.length = vs.length → RVs g Hm ds vs → Cont g H Hm a (.obj c ns ds)
theorem Cont.mono {g : Gx} {H H' A B : Hp} {a : Addr} {d : D} (e : ∀ o, H a = some o → H' a = some o) (s : HLe A B) (h : Cont g H A a d) : Cont g H' B a d := by
  cases h with
  | lst h r => exact .lst (e _ h) (r.mono s)
  | dK h l r => exact .dK (e _ h) l (r.mono s)
  | dT h l r => exact .dT (e _ h) l (r.mono s)
  | obj h c l r => exact .obj (e _ h) c l (r.mono s)
theorem Cont.trk {g : Gx} {H Hm : Hp} {a : Addr} {d : D} (h : Cont g H Hm a d) : H a ≠ none := by
  cases h with
  | lst h _ => rw [h]; simp
  | dK h _ _ => rw [h]; simp
  | dT h _ _ => rw [h]; simp
  | obj h _ _ _ => rw [h]; simp
/-- it is let go: from now on it is read alone -/
theorem Cont.rv {g : Gx} {H Hm : Hp} {a : Addr} {d : D} (h : Cont g H Hm a d) {Hn : Hp} (e : Hn a = H a) (s : HLe Hm Hn) : RV g Hn d (.ref a) := by
  cases h with
  | lst h r => exact .lst (.of (e.trans h)) (r.mono s)
  | dK h l r => exact .dK (.inl (e.trans h)) l (r.mono s)
  | dT h l r => exact .dT (.inl (e.trans h)) l (r.mono s)
  | obj h c l r => exact .obj (e.trans h) c l (r.mono s)
end Ip
namespace Ip
open PySem L2

abbrev Env := List (Option D)
/-- known, and no tuple -/
def Hd (H : Hp) (a : Addr) : Prop := H a ≠ none ∧ ∀ vs, H a ≠ some (.tup vs)
theorem Hd.of {H H' : Hp} {a : Addr} (h : Hd H a) (e : H' a = H a) : Hd H' a := by unfold Hd; rw [e]; exact h
theorem Cont.hd {g : Gx} {H Hm : Hp} {a : Addr} {d : D} (h : Cont g H Hm a d) : Hd H a := by
  cases h with
  | lst h _ => exact ⟨by rw [h]; simp, fun vs => by rw [h]; simp⟩
  | dK h _ _ => exact ⟨by rw [h]; simp, fun vs => by rw [h]; simp⟩
  | dT h _ _ => exact ⟨by rw [h]; simp, fun vs => by rw [h]; simp⟩
  | obj h _ _ _ => exact ⟨by rw [h]; simp, fun vs => by rw [h]; simp⟩
structure Ex where
  cls : Str
  fld : Option (Str × D)
inductive R (α : Type) where
  | ok (a : α) (ρ : Env) | exn (e : Ex) (ρ : Env) | bad
inductive Fl where
  | nx | rt (d : D) | bk | ct

/-- a def's activation: the classes, the heap at its entry, what its callers own, the parameters that it may change -/
structure Ac where
  ct : Str → Option Addr
  H0 : Hp
  hid : List Addr
  io : List Nat
  ioA : List Addr

def sa (σ : L2.St) (i : Nat) : Addr := match σ[i]? with
  | some (some (.ref a)) => a
  | _ => 0
theorem nem {Γ : List Nat} {i j : Nat} (h : i ∉ Γ) (hj : j ∈ Γ) : j ≠ i := fun e => h (e ▸ hj)
theorem sa_eq {σ : L2.St} {i : Nat} {a : Addr} (h : σ[i]? = some (some (.ref a))) : sa σ i = a := by unfold sa; rw [h]
theorem sa_set {σ : L2.St} {i j : Nat} {v : Option V} (h : j ≠ i) : sa (σ.set i v) j = sa σ j := by
  unfold sa; rw [List.getElem?_set_ne (Ne.symm h)]
def Ms (σ : L2.St) (hid : List Addr) (Γ : List Nat) : List Addr := hid ++ Γ.map (sa σ)
theorem mem_Ms {σ : L2.St} {hid : List Addr} {Γ : List Nat} {a : Addr} : a ∈ Ms σ hid Γ ↔ a ∈ hid ∨ ∃ i, i ∈ Γ ∧ sa σ i = a := by
  unfold Ms; rw [List.mem_append, List.mem_map]

section
variable (K : PySem.W.Frag) (C : Ac)
abbrev gx : Gx := ⟨K, C.ct⟩
structure ST (hid : List Addr) (Γ : List Nat) (ρ : Env) (σ : L2.St) (H : Hp) : Prop where
  len : ρ.length = σ.length
  sub : ∀ a ∈ C.hid, a ∈ hid
  trk : ∀ a ∈ hid, Hd H a
  tmp : ∀ a ∈ hid, a ∈ C.hid ∨ C.H0 a = none
  nd : (Γ.map (sa σ)).Nodup
  dis : ∀ i ∈ Γ, sa σ i ∉ hid
  own : ∀ i ∈ Γ, sa σ i ∈ C.ioA ∨ C.H0 (sa σ i) = none
  frm : HLe (mask C.H0 (C.hid ++ C.ioA)) (mask H (C.hid ++ C.ioA))
  frh : ∀ a ∈ C.hid, H a = C.H0 a
  gro : ∀ a, C.H0 a ≠ none → H a ≠ none
  io : ∀ i ∈ C.io, i ∈ Γ
  pin : C.io.map (sa σ) = C.ioA
  sl : ∀ i d, i ∉ Γ → ρ[i]? = some (some d) → ∃ v, σ[i]? = some (some v) ∧ RV (gx K C) (mask H (Ms σ hid Γ)) d v
  ow : ∀ i, i ∈ Γ → ∃ d, ρ[i]? = some (some d) ∧ σ[i]? = some (some (.ref (sa σ i))) ∧ Cont (gx K C) H (mask H (Ms σ hid Γ)) (sa σ i) d
end
/-- what a step keeps -/
structure Stp (M M' hid : List Addr) (H H' : Hp) : Prop where
  le : HLe (mask H M) (mask H' M')
  fx : ∀ a ∈ hid, H' a = H a
theorem Stp.refl (M hid : List Addr) (H : Hp) : Stp M M hid H H := ⟨.refl _, fun _ _ => rfl⟩
theorem Stp.trans {M1 M2 M3 h1 h2 : List Addr} {A B Cc : Hp} (x : Stp M1 M2 h1 A B) (y : Stp M2 M3 h2 B Cc) (s : ∀ a ∈ h1, a ∈ h2) : Stp M1 M3 h1 A Cc :=
  ⟨x.le.trans y.le, fun a h => (y.fx a (s a h)).trans (x.fx a h)⟩

/-- a value that has come: fz: read alone; else it is owned (fresh), or of no object; tm: its address -/
inductive Val (g : Gx) (H : Hp) (M : List Addr) : Bool → D → V → List Addr → Prop where
  | fz {d : D} {v : V} {b : Bool} : RV g (mask H M) d v → (b = true → ∀ a, v ≠ .ref a) → Val g H M b d v []
  | fr {d : D} {a : Addr} : Cont g H (mask H M) a d → Val g H M true d (.ref a) [a]

section
variable {K : PySem.W.Frag} {C : Ac} {hid : List Addr} {Γ : List Nat} {ρ : Env} {σ : L2.St} {H : Hp}
theorem ST.inj (S : ST K C hid Γ ρ σ H) {i j : Nat} (hi : i ∈ Γ) (hj : j ∈ Γ) (e : sa σ i = sa σ j) : i = j := by
  have nd := S.nd
  clear S
  induction Γ with
  | nil => cases hi
  | cons k r ih =>
    rw [List.map_cons, List.nodup_cons] at nd
    rcases List.mem_cons.mp hi with rfl | hi'
    · rcases List.mem_cons.mp hj with rfl | hj'
      · rfl
      · exact absurd (e ▸ List.mem_map_of_mem hj') nd.1
    · rcases List.mem_cons.mp hj with rfl | hj'
      · exact absurd (e ▸ List.mem_map_of_mem hi') nd.1
      · exact ih hi' hj' nd.2
theorem ST.trkM (S : ST K C hid Γ ρ σ H) : ∀ a ∈ Ms σ hid Γ, H a ≠ none := fun a ha => by
  rcases mem_Ms.mp ha with h | ⟨i, hi, rfl⟩
  · exact (S.trk a h).1
  · obtain ⟨d, _, _, c⟩ := S.ow i hi
    exact c.trk
theorem ST.ntp (S : ST K C hid Γ ρ σ H) : ∀ a ∈ Ms σ hid Γ, ∀ vs, H a ≠ some (.tup vs) := fun a ha => by
  rcases mem_Ms.mp ha with h | ⟨i, hi, rfl⟩
  · exact (S.trk a h).2
  · obtain ⟨d, _, _, c⟩ := S.ow i hi
    exact c.hd.2
theorem ST.hdM (S : ST K C hid Γ ρ σ H) : ∀ a ∈ Ms σ hid Γ, Hd H a := fun a ha => ⟨S.trkM a ha, S.ntp a ha⟩
theorem nodup_of_map {α β : Type} {f : α → β} : ∀ {l : List α}, (l.map f).Nodup → l.Nodup
  | [], _ => List.nodup_nil
  | a :: l, h => by
    rw [List.map_cons, List.nodup_cons] at h
    exact List.nodup_cons.mpr ⟨fun q => h.1 (List.mem_map_of_mem q), nodup_of_map h.2⟩
theorem nodup_map_on {α β : Type} {f : α → β} : ∀ {l : List α}, l.Nodup → (∀ a ∈ l, ∀ b ∈ l, f a = f b → a = b) → (l.map f).Nodup
  | [], _, _ => List.nodup_nil
  | a :: l, h, hf => by
    rw [List.nodup_cons] at h
    rw [List.map_cons, List.nodup_cons]
    refine ⟨fun q => ?_, nodup_map_on h.2 fun x hx y hy => hf x (List.mem_cons_of_mem _ hx) y (List.mem_cons_of_mem _ hy)⟩
    obtain ⟨b, hb, e⟩ := List.mem_map.mp q
    have := hf b (List.mem_cons_of_mem _ hb) a List.mem_cons_self e
    exact h.1 (this ▸ hb)
/-- some owned slots are let go -/
theorem ST.weak (S : ST K C hid Γ ρ σ H) {Γ' : List Nat} (h : ∀ i ∈ Γ', i ∈ Γ) (nd : Γ'.Nodup) (io : ∀ i ∈ C.io, i ∈ Γ') : ST K C hid Γ' ρ σ H := by
  have hM : ∀ a, a ∈ Ms σ hid Γ' → a ∈ Ms σ hid Γ := fun a ha => by
    rcases mem_Ms.mp ha with q | ⟨i, hi, e⟩
    · exact mem_Ms.mpr (.inl q)
    · exact mem_Ms.mpr (.inr ⟨i, h i hi, e⟩)
  have le : HLe (mask H (Ms σ hid Γ)) (mask H (Ms σ hid Γ')) := .of_same (mask_sub hM)
  refine ⟨S.len, S.sub, S.trk, S.tmp, nodup_map_on nd fun a ha b hb e => S.inj (h a ha) (h b hb) e, fun i hi => S.dis i (h i hi), fun i hi => S.own i (h i hi), S.frm, S.frh, S.gro, io, S.pin, fun i d hi e => ?_, fun i hi => ?_⟩
  · by_cases q : i ∈ Γ
    · obtain ⟨d', e1, e2, c⟩ := S.ow i q
      rw [e] at e1; cases e1
      refine ⟨_, e2, c.rv ?_ le⟩
      rw [mask_out]
      intro z
      rcases mem_Ms.mp z with z | ⟨j, hj, ej⟩
      · exact S.dis i q z
      · exact hi (S.inj (h j hj) q ej ▸ hj)
    · obtain ⟨v, e1, r⟩ := S.sl i d q e
      exact ⟨v, e1, r.mono le⟩
  · obtain ⟨d, e1, e2, c⟩ := S.ow i (h i hi)
    exact ⟨d, e1, e2, c.mono (fun _ z => z) le⟩
theorem Ms_sub {σ : L2.St} {hid : List Addr} {Γ Γ' : List Nat} (h : ∀ i ∈ Γ', i ∈ Γ) : ∀ a, a ∈ Ms σ hid Γ' → a ∈ Ms σ hid Γ := fun a ha => by
  rcases mem_Ms.mp ha with q | ⟨i, hi, e⟩
  · exact mem_Ms.mpr (.inl q)
  · exact mem_Ms.mpr (.inr ⟨i, h i hi, e⟩)
theorem Ms_subH {σ : L2.St} {hid hid' : List Addr} {Γ : List Nat} (h : ∀ i ∈ hid', i ∈ hid) : ∀ a, a ∈ Ms σ hid' Γ → a ∈ Ms σ hid Γ := fun a ha => by
  rcases mem_Ms.mp ha with q | z
  · exact mem_Ms.mpr (.inl (h _ q))
  · exact mem_Ms.mpr (.inr z)
/-- temporaries are let go -/
theorem ST.forget (S : ST K C hid Γ ρ σ H) {hid' : List Addr} (h : ∀ a ∈ hid', a ∈ hid) (hs : ∀ a ∈ C.hid, a ∈ hid') : ST K C hid' Γ ρ σ H := by
  have le : HLe (mask H (Ms σ hid Γ)) (mask H (Ms σ hid' Γ)) := .of_same (mask_sub (Ms_subH h))
  refine ⟨S.len, hs, fun a ha => S.trk a (h a ha), fun a ha => S.tmp a (h a ha), S.nd, fun i hi q => S.dis i hi (h _ q), S.own, S.frm, S.frh, S.gro, S.io, S.pin, fun i d hi e => ?_, fun i hi => ?_⟩
  · obtain ⟨v, e1, r⟩ := S.sl i d hi e
    exact ⟨v, e1, r.mono le⟩
  · obtain ⟨d, e1, e2, c⟩ := S.ow i hi
    exact ⟨d, e1, e2, c.mono (fun _ z => z) le⟩
/-- the heap goes on, all that is not owned is kept, what is owned stands as it stood -/
theorem ST.step (S : ST K C hid Γ ρ σ H) {H' : Hp} (k : HLe (mask H (Ms σ hid Γ)) (mask H' (Ms σ hid Γ))) (f : ∀ a ∈ Ms σ hid Γ, H' a = H a) (gro : ∀ a, H a ≠ none → H' a ≠ none) : ST K C hid Γ ρ σ H' := by
  have fx : ∀ a ∈ hid, H' a = H a := fun a h => f a (mem_Ms.mpr (.inl h))
  -- the frame
  have frm : HLe (mask C.H0 (C.hid ++ C.ioA)) (mask H' (C.hid ++ C.ioA)) := by
    -- what C.H0 tracks outside is not owned, or it is a local's (then C.H0 does not track it)
    have out : ∀ b, b ∉ C.hid ++ C.ioA → C.H0 b ≠ none → b ∉ Ms σ hid Γ := fun b hb hn hM => by
      rcases mem_Ms.mp hM with q | ⟨i, hi, rfl⟩
      · rcases S.tmp b q with z | z
        · exact hb (List.mem_append_left _ z)
        · exact hn z
      · rcases S.own i hi with z | z
        · exact hb (List.mem_append_right _ z)
        · exact hn z
    refine ⟨fun b o e n => ?_, fun b kv e => ?_, fun b kv e => ?_⟩
    · obtain ⟨h1, h2⟩ := mask_some e
      have e2 := (mask_some (S.frm.o b o e n)).2
      have hM := out b h1 (by rw [h2]; simp)
      have := k.o b o (by rw [mask_out hM]; exact e2) n
      rw [mask_out hM] at this
      rw [mask_out h1]; exact this
    · have hb : b ∉ C.hid ++ C.ioA ∧ C.H0 b ≠ none := by
        rcases e with e | ⟨o, e⟩ <;> exact ⟨(mask_some e).1, by rw [(mask_some e).2]; simp⟩
      have hM := out b hb.1 hb.2
      have r1 := S.frm.k b kv e
      have r2 : Rd (mask H (Ms σ hid Γ)) b (.dK kv) := by
        rcases r1 with r | ⟨o, r⟩
        · exact .inl (by rw [mask_out hM]; exact (mask_some r).2)
        · exact .inr ⟨o, by rw [mask_out hM]; exact (mask_some r).2⟩
      rcases k.k b kv r2 with r | ⟨o, r⟩
      · exact .inl (by rw [mask_out hb.1]; exact (mask_some r).2)
      · exact .inr ⟨o, by rw [mask_out hb.1]; exact (mask_some r).2⟩
    · have hb : b ∉ C.hid ++ C.ioA ∧ C.H0 b ≠ none := by
        rcases e with e | ⟨o, e⟩ <;> exact ⟨(mask_some e).1, by rw [(mask_some e).2]; simp⟩
      have hM := out b hb.1 hb.2
      have r1 := S.frm.t b kv e
      have r2 : Rd (mask H (Ms σ hid Γ)) b (.dT kv) := by
        rcases r1 with r | ⟨o, r⟩
        · exact .inl (by rw [mask_out hM]; exact (mask_some r).2)
        · exact .inr ⟨o, by rw [mask_out hM]; exact (mask_some r).2⟩
      rcases k.t b kv r2 with r | ⟨o, r⟩
      · exact .inl (by rw [mask_out hb.1]; exact (mask_some r).2)
      · exact .inr ⟨o, by rw [mask_out hb.1]; exact (mask_some r).2⟩
  refine ⟨S.len, S.sub, fun a ha => (S.trk a ha).of (f a (mem_Ms.mpr (.inl ha))), S.tmp, S.nd, S.dis, S.own, frm, fun a ha => (fx a (S.sub a ha)).trans (S.frh a ha), fun a ha => gro a (S.gro a ha), S.io, S.pin, fun i d hi e => ?_, fun i hi => ?_⟩
  · obtain ⟨v, e1, r⟩ := S.sl i d hi e
    exact ⟨v, e1, r.mono k⟩
  · obtain ⟨d, e1, e2, c⟩ := S.ow i hi
    exact ⟨d, e1, e2, c.mono (fun o z => (f _ (mem_Ms.mpr (.inr ⟨i, hi, rfl⟩))).trans z) k⟩
/-- objects are new, none is changed -/
theorem ST.same (S : ST K C hid Γ ρ σ H) {H' : Hp} (k : Same H H') : ST K C hid Γ ρ σ H' := by
  refine S.step (.of_same (mask_keep fun b o _ e => k b o e)) (fun a ha => ?_) fun a ha => ?_
  · have := S.trkM a ha
    cases q : H a with
    | none => exact absurd q this
    | some o => exact k a o q
  · cases q : H a with
    | none => exact absurd q ha
    | some o => rw [k a o q]; simp
theorem ST.sameStp (S : ST K C hid Γ ρ σ H) {H' : Hp} (k : Same H H') : Stp (Ms σ hid Γ) (Ms σ hid Γ) hid H H' :=
  ⟨.of_same (mask_keep fun b o _ e => k b o e), fun a ha => by
    have := (S.trk a ha).1
    cases q : H a with
    | none => exact absurd q this
    | some o => exact k a o q⟩
theorem same_upd {H : Hp} {p : Addr} {o : HO} (h : H p = none) : Same H (upd H p o) := fun b u e => by
  rw [upd_ne (ne_of_none e h)]; exact e
theorem ST.none_out (S : ST K C hid Γ ρ σ H) {p : Addr} (h : H p = none) : p ∉ Ms σ hid Γ := fun q => S.trkM p q h
/-- a temporary is held -/
theorem ST.hold (S : ST K C hid Γ ρ σ H) {p : Addr} {o : HO} (h : H p = none) (hu : ∀ vs, o ≠ .tup vs := by intro _ z; cases z) : ST K C (p :: hid) Γ ρ σ (upd H p o) := by
  have hp := S.none_out h
  have h0 : C.H0 p = none := by
    cases q : C.H0 p with
    | none => rfl
    | some u => exact absurd h (S.gro p (by rw [q]; simp))
  have S1 := S.same (same_upd (o := o) h)
  have le : HLe (mask H (Ms σ hid Γ)) (mask (upd H p o) (Ms σ (p :: hid) Γ)) := .of_same fun b u e => by
    obtain ⟨e1, e2⟩ := mask_some e
    have hb : b ≠ p := ne_of_none e2 h
    rw [mask_out, upd_ne hb]; exact e2
    intro z
    rcases mem_Ms.mp z with z | z
    · rcases List.mem_cons.mp z with z | z
      · exact hb z
      · exact e1 (mem_Ms.mpr (.inl z))
    · exact e1 (mem_Ms.mpr (.inr z))
  refine ⟨S.len, fun a ha => List.mem_cons_of_mem _ (S.sub a ha), fun a ha => ?_, fun a ha => ?_, S.nd, fun i hi q => ?_, S.own, S1.frm, S1.frh, S1.gro, S.io, S.pin, fun i d hi e => ?_, fun i hi => ?_⟩
  · rcases List.mem_cons.mp ha with rfl | ha
    · exact ⟨by rw [upd_same]; simp, fun vs => by rw [upd_same]; exact fun z => hu vs (Option.some.inj z)⟩
    · exact S1.trk a ha
  · rcases List.mem_cons.mp ha with rfl | ha
    · exact .inr h0
    · exact S.tmp a ha
  · rcases List.mem_cons.mp q with q | q
    · exact hp (mem_Ms.mpr (.inr ⟨i, hi, q⟩))
    · exact S.dis i hi q
  · obtain ⟨v, e1, r⟩ := S.sl i d hi e
    exact ⟨v, e1, r.mono le⟩
  · obtain ⟨d, e1, e2, c⟩ := S.ow i hi
    exact ⟨d, e1, e2, c.mono (fun u z => same_upd h _ _ z) le⟩
theorem ST.holdStp (S : ST K C hid Γ ρ σ H) {p : Addr} {o : HO} (h : H p = none) : Stp (Ms σ hid Γ) (Ms σ (p :: hid) Γ) hid H (upd H p o) := by
  refine ⟨.of_same fun b u e => ?_, fun a ha => upd_ne fun z => (S.trk a ha).1 (z ▸ h)⟩
  obtain ⟨e1, e2⟩ := mask_some e
  have hb : b ≠ p := ne_of_none e2 h
  rw [mask_out, upd_ne hb]; exact e2
  intro z
  rcases mem_Ms.mp z with z | z
  · rcases List.mem_cons.mp z with z | z
    · exact hb z
    · exact e1 (mem_Ms.mpr (.inl z))
  · exact e1 (mem_Ms.mpr (.inr z))
theorem mask_updM {H : Hp} {M : List Addr} {a : Addr} {o : HO} (h : a ∈ M) : mask (upd H a o) M = mask H M := by
  funext b
  by_cases q : b ∈ M
  · rw [mask_in q, mask_in q]
  · rw [mask_out q, mask_out q, upd_ne (show b ≠ a from fun e => q (e ▸ h))]
/-- the object of an owned slot is changed -/
theorem ST.change (S : ST K C hid Γ ρ σ H) {i : Nat} (hi : i ∈ Γ) {o : HO} {d : D} (c : Cont (gx K C) (upd H (sa σ i) o) (mask H (Ms σ hid Γ)) (sa σ i) d) : ST K C hid Γ (ρ.set i (some d)) σ (upd H (sa σ i) o) := by
  have hM : sa σ i ∈ Ms σ hid Γ := mem_Ms.mpr (.inr ⟨i, hi, rfl⟩)
  have em := mask_updM (H := H) (o := o) hM
  have ne : ∀ b, b ∈ hid → b ≠ sa σ i := fun b hb e => S.dis i hi (e ▸ hb)
  have trk : ∀ a, H a ≠ none → upd H (sa σ i) o a ≠ none := fun a ha => by
    by_cases q : a = sa σ i
    · rw [q, upd_same]; simp
    · rw [upd_ne q]; exact ha
  have frm : HLe (mask C.H0 (C.hid ++ C.ioA)) (mask (upd H (sa σ i) o) (C.hid ++ C.ioA)) := by
    by_cases q : sa σ i ∈ C.hid ++ C.ioA
    · rw [mask_updM q]; exact S.frm
    · have h0 : C.H0 (sa σ i) = none := by
        rcases S.own i hi with z | z
        · exact absurd (List.mem_append_right _ z) q
        · exact z
      refine ⟨fun b u e n => ?_, fun b kv e => ?_, fun b kv e => ?_⟩
      · have hb : b ≠ sa σ i := ne_of_none (mask_some e).2 h0
        have := S.frm.o b u e n
        rw [mask_out (mask_some e).1] at this ⊢
        rw [upd_ne hb]; exact this
      · have hb : b ≠ sa σ i ∧ b ∉ C.hid ++ C.ioA := by
          rcases e with e | ⟨o, e⟩ <;> exact ⟨ne_of_none (mask_some e).2 h0, (mask_some e).1⟩
        rcases S.frm.k b kv e with r | ⟨u, r⟩
        · exact .inl (by rw [mask_out hb.2, upd_ne hb.1]; exact (mask_some r).2)
        · exact .inr ⟨u, by rw [mask_out hb.2, upd_ne hb.1]; exact (mask_some r).2⟩
      · have hb : b ≠ sa σ i ∧ b ∉ C.hid ++ C.ioA := by
          rcases e with e | ⟨o, e⟩ <;> exact ⟨ne_of_none (mask_some e).2 h0, (mask_some e).1⟩
        rcases S.frm.t b kv e with r | ⟨u, r⟩
        · exact .inl (by rw [mask_out hb.2, upd_ne hb.1]; exact (mask_some r).2)
        · exact .inr ⟨u, by rw [mask_out hb.2, upd_ne hb.1]; exact (mask_some r).2⟩
  have il : i < ρ.length := by
    obtain ⟨d0, e1, _, _⟩ := S.ow i hi
    exact (List.getElem?_eq_some_iff.mp e1).1
  refine ⟨by rw [List.length_set]; exact S.len, S.sub, fun a ha => (S.trk a ha).of (upd_ne (ne a ha)), S.tmp, S.nd, S.dis, S.own, frm, fun a ha => by rw [upd_ne (ne a (S.sub a ha))]; exact S.frh a ha, fun a ha => trk a (S.gro a ha), S.io, S.pin, fun j e hj ej => ?_, fun j hj => ?_⟩
  · have hji : j ≠ i := fun z => hj (z ▸ hi)
    rw [List.getElem?_set_ne (Ne.symm hji)] at ej
    rw [em]
    exact S.sl j e hj ej
  · rw [em]
    by_cases q : j = i
    · subst q
      obtain ⟨d0, _, e2, _⟩ := S.ow j hj
      exact ⟨d, List.getElem?_set_self il, e2, c⟩
    · obtain ⟨d0, e1, e2, c0⟩ := S.ow j hj
      refine ⟨d0, by rw [List.getElem?_set_ne (Ne.symm q)]; exact e1, e2, c0.mono (fun u z => ?_) (.refl _)⟩
      rw [upd_ne fun e => q (S.inj hj hi e)]; exact z
theorem ST.changeStp (S : ST K C hid Γ ρ σ H) {i : Nat} (hi : i ∈ Γ) {o : HO} : Stp (Ms σ hid Γ) (Ms σ hid Γ) hid H (upd H (sa σ i) o) :=
  ⟨by rw [mask_updM (mem_Ms.mpr (.inr ⟨i, hi, rfl⟩))]; exact .refl _, fun a ha => upd_ne fun e => S.dis i hi (e ▸ ha)⟩
theorem Ms_set {σ : L2.St} {hid : List Addr} {Γ : List Nat} {i : Nat} {v : Option V} (h : i ∉ Γ) : Ms (σ.set i v) hid Γ = Ms σ hid Γ := by
  unfold Ms
  rw [List.map_congr_left fun j hj => sa_set (nem h hj)]
theorem map_sa_set {σ : L2.St} {Γ : List Nat} {i : Nat} {v : Option V} (h : i ∉ Γ) : Γ.map (sa (σ.set i v)) = Γ.map (sa σ) :=
  List.map_congr_left fun j hj => sa_set (nem h hj)
/-- a slot that is not owned takes a value that is read alone -/
theorem ST.put (S : ST K C hid Γ ρ σ H) {i : Nat} (hi : i ∉ Γ) {d : D} {v : V} (r : RV (gx K C) (mask H (Ms σ hid Γ)) d v) (il : i < ρ.length) : ST K C hid Γ (ρ.set i (some d)) (σ.set i (some v)) H := by
  have ii : i ∉ C.io := fun z => hi (S.io i z)
  refine ⟨by rw [List.length_set, List.length_set]; exact S.len, S.sub, S.trk, S.tmp, by rw [map_sa_set hi]; exact S.nd, fun j hj => by rw [sa_set (nem hi hj)]; exact S.dis j hj, fun j hj => by rw [sa_set (nem hi hj)]; exact S.own j hj,
    S.frm, S.frh, S.gro, S.io, by rw [map_sa_set ii]; exact S.pin, fun j e hj ej => ?_, fun j hj => ?_⟩
  · rw [Ms_set hi]
    by_cases q : j = i
    · subst q
      rw [List.getElem?_set_self il] at ej
      cases ej
      exact ⟨v, List.getElem?_set_self (by rw [← S.len]; exact il), r⟩
    · rw [List.getElem?_set_ne (Ne.symm q)] at ej ⊢
      exact S.sl j e hj ej
  · have q : j ≠ i := nem hi hj
    rw [Ms_set hi, sa_set q, List.getElem?_set_ne (Ne.symm q), List.getElem?_set_ne (Ne.symm q)]
    exact S.ow j hj
/-- a slot takes a value that is owned -/
theorem ST.take {a : Addr} (S : ST K C (a :: hid) Γ ρ σ H) {i : Nat} (hi : i ∉ Γ) {d : D} (c : Cont (gx K C) H (mask H (Ms σ (a :: hid) Γ)) a d) (il : i < ρ.length) (ha : a ∉ hid) (hs : ∀ b ∈ C.hid, b ∈ hid) :
    ST K C hid (i :: Γ) (ρ.set i (some d)) (σ.set i (some (.ref a))) H := by
  have ii : i ∉ C.io := fun z => hi (S.io i z)
  have il' : i < σ.length := by rw [← S.len]; exact il
  have si : sa (σ.set i (some (.ref a))) i = a := sa_eq (List.getElem?_set_self il')
  have eM : ∀ b, b ∈ Ms (σ.set i (some (.ref a))) hid (i :: Γ) ↔ b ∈ Ms σ (a :: hid) Γ := fun b => by
    unfold Ms
    rw [List.map_cons, si, map_sa_set hi]
    simp only [List.mem_append, List.mem_cons]
    constructor
    · rintro (h | h | h)
      · exact .inl (.inr h)
      · exact .inl (.inl h)
      · exact .inr h
    · rintro ((h | h) | h)
      · exact .inr (.inl h)
      · exact .inl h
      · exact .inr (.inr h)
  have em : mask H (Ms (σ.set i (some (.ref a))) hid (i :: Γ)) = mask H (Ms σ (a :: hid) Γ) := mask_congr eM
  refine ⟨by rw [List.length_set, List.length_set]; exact S.len, hs, fun b hb => S.trk b (List.mem_cons_of_mem _ hb), fun b hb => S.tmp b (List.mem_cons_of_mem _ hb), ?_, fun j hj => ?_, fun j hj => ?_,
    S.frm, S.frh, S.gro, fun j hj => List.mem_cons_of_mem _ (S.io j hj), by rw [map_sa_set ii]; exact S.pin, fun j e hj ej => ?_, fun j hj => ?_⟩
  · rw [List.map_cons, si, map_sa_set hi, List.nodup_cons]
    refine ⟨fun z => ?_, S.nd⟩
    obtain ⟨k, hk, e⟩ := List.mem_map.mp z
    exact S.dis k hk (e ▸ List.mem_cons_self)
  · rcases List.mem_cons.mp hj with rfl | hj
    · rw [si]; exact ha
    · rw [sa_set (nem hi hj)]; exact fun z => S.dis j hj (List.mem_cons_of_mem _ z)
  · rcases List.mem_cons.mp hj with rfl | hj
    · rw [si]
      rcases S.tmp a List.mem_cons_self with z | z
      · exact absurd (hs a z) ha
      · exact .inr z
    · rw [sa_set (nem hi hj)]; exact S.own j hj
  · have q : j ≠ i := fun e => hj (e ▸ List.mem_cons_self)
    rw [List.getElem?_set_ne (Ne.symm q)] at ej ⊢
    rw [em]
    exact S.sl j e (fun z => hj (List.mem_cons_of_mem _ z)) ej
  · rw [em]
    rcases List.mem_cons.mp hj with rfl | hj
    · rw [si]
      exact ⟨d, List.getElem?_set_self il, List.getElem?_set_self il', c⟩
    · have q : j ≠ i := nem hi hj
      rw [sa_set q, List.getElem?_set_ne (Ne.symm q), List.getElem?_set_ne (Ne.symm q)]
      exact S.ow j hj
end
end Ip

namespace Ip
open PySem L2
/-! ## what is read of a value: its object in H, its items in Hm -/
inductive Shal (g : Gx) (H Hm : Hp) : D → V → Prop where
  | non : Shal g H Hm .non .non
  | bl (b : Bool) : Shal g H Hm (.bl b) (.bl b)
  | int (i : Int) : Shal g H Hm (.int i) (.int i)
  | str (x : Str) : Shal g H Hm (.str x) (.str x)
  | tup {a : Addr} {vs : List V} {ds : List D} : H a = some (.tup vs) → RVs g Hm ds vs → Hm a = some (.tup vs) → Shal g H Hm (.tup ds) (.ref a)
  | lst {a : Addr} {vs : List V} {ds : List D} : SqL g.K H a vs → RVs g Hm ds vs → Shal g H Hm (.lst ds) (.ref a)
  | dK {a : Addr} {ks : List Key} {vs : List V} {ds : List D} : Rd H a (.dK (ks.zip vs)) → ks.length = vs.length → RVs g Hm ds vs → Shal g H Hm (.dic (ks.map kD) ds) (.ref a)
  | dT {a : Addr} {ks : List (List Key)} {vs : List V} {ds : List D} : Rd H a (.dT (ks.zip vs)) → ks.length = vs.length → RVs g Hm ds vs → Shal g H Hm (.dit ks ds) (.ref a)
  | obj {a Cc dx : Addr} {c : Str} {ns : List Str} {vs : List V} {ds : List D} : H a = some (.ins Cc dx (ns.zip vs)) → g.ct c = some Cc → ns.length = vs.length → RVs g Hm ds vs → Shal g H Hm (.obj c ns ds) (.ref a)
theorem RV.shal {g : Gx} {H : Hp} {M : List Addr} {d : D} {v : V} (h : RV g (mask H M) d v) : Shal g H (mask H M) d v := by
  have s : HLe (mask H M) H := .of_same mask_same
  cases h with
  | non => exact .non
  | bl b => exact .bl b
  | int i => exact .int i
  | str x => exact .str x
  | tup h r => exact .tup (s.o _ _ h trivial) r h
  | lst h r => exact .lst (s.sqL h) r
  | dK h l r => exact .dK (s.k _ _ h) l r
  | dT h l r => exact .dT (s.t _ _ h) l r
  | obj h c l r => exact .obj (s.o _ _ h trivial) c l r
theorem Cont.shal {g : Gx} {H Hm : Hp} {a : Addr} {d : D} (h : Cont g H Hm a d) : Shal g H Hm d (.ref a) := by
  cases h with
  | lst h r => exact .lst (.of h) r
  | dK h l r => exact .dK (.inl h) l r
  | dT h l r => exact .dT (.inl h) l r
  | obj h c l r => exact .obj h c l r
theorem Shal.rv {g : Gx} {H : Hp} {M : List Addr} {d : D} {v : V} (h : Shal g H (mask H M) d v) : RV g H d v := by
  have s : HLe (mask H M) H := .of_same mask_same
  cases h with
  | non => exact .non
  | bl b => exact .bl b
  | int i => exact .int i
  | str x => exact .str x
  | tup h r => exact .tup h (r.mono s)
  | lst h r => exact .lst h (r.mono s)
  | dK h l r => exact .dK h l (r.mono s)
  | dT h l r => exact .dT h l (r.mono s)
  | obj h c l r => exact .obj h c l (r.mono s)
theorem Val.shal {g : Gx} {H H' : Hp} {M M' tm hid : List Addr} {b : Bool} {d : D} {v : V} (h : Val g H M b d v tm) (s : Stp M M' (tm ++ hid) H H') : Shal g H' (mask H' M') d v := by
  cases h with
  | fz r _ => exact (r.mono s.le).shal
  | fr c => exact (c.mono (fun o e => (s.fx _ (by simp)).trans e) s.le).shal
theorem Val.shal0 {g : Gx} {H : Hp} {M tm : List Addr} {b : Bool} {d : D} {v : V} (h : Val g H M b d v tm) : Shal g H (mask H M) d v := h.shal (hid := []) (Stp.refl _ _ _)
/-- a value is let go: it is read alone from now on -/
theorem Val.rv {g : Gx} {H : Hp} {M M' tm : List Addr} {b : Bool} {d : D} {v : V} (h : Val g H M b d v tm) (s : ∀ a ∈ M', a ∈ M) (ht : ∀ a ∈ tm, a ∉ M') : RV g (mask H M') d v := by
  cases h with
  | fz r _ => exact r.mono (.of_same (mask_sub s))
  | fr c => exact c.rv (mask_out (ht _ (by simp))) (.of_same (mask_sub s))

/-! ## exceptions -/
def ExR (g : Gx) (H Hm : Hp) (e : Ex) (cls : Value) (od : Option Addr) : Prop :=
  ∃ Cc, g.ct e.cls = some Cc ∧ cls = .ref Cc ∧ match e.fld with
    | none => od = none
    | some p => ∃ dd v, od = some dd ∧ H dd = some (.xd [(p.1, v)]) ∧ RV g Hm p.2 v

/-! ## judgements -/
section
variable (K : PySem.W.Frag) (C : Ac) (W : WX)
def PostE (Γ Γ' : List Nat) (fr : Bool) (hid : List Addr) (σ : L2.St) (H : Hp) (Q : VK) : R D → Prop
  | .ok d ρ' => ∀ v H' tm, ST K C (tm ++ hid) Γ' ρ' σ H' → Stp (Ms σ hid Γ) (Ms σ (tm ++ hid) Γ') hid H H' → Val (gx K C) H' (Ms σ (tm ++ hid) Γ') fr d v tm → (∀ a ∈ tm, a ∉ Ms σ hid Γ') → Q v H'
  | .exn e ρ' => ∀ cls od H', ExR (gx K C) H' (mask H' (Ms σ C.hid C.io)) e cls od → ST K C C.hid C.io ρ' σ H' → W cls od σ H'
  | .bad => False
def tE (Γ Γ' : List Nat) (fr : Bool) (f : Env → R D) : TE := fun σ H Q => ∃ hid ρ, ST K C hid Γ ρ σ H ∧ PostE K C W Γ Γ' fr hid σ H Q (f ρ)
def PostT (Γ Γ' : List Nat) (hid : List Addr) (σ : L2.St) (H : Hp) (Q : Bool → Hp → Prop) : R Bool → Prop
  | .ok b ρ' => ∀ H', ST K C hid Γ' ρ' σ H' → Stp (Ms σ hid Γ) (Ms σ hid Γ') hid H H' → Q b H'
  | .exn e ρ' => ∀ cls od H', ExR (gx K C) H' (mask H' (Ms σ C.hid C.io)) e cls od → ST K C C.hid C.io ρ' σ H' → W cls od σ H'
  | .bad => False
def tT (Γ Γ' : List Nat) (f : Env → R Bool) : TT := fun σ H Q => ∃ hid ρ, ST K C hid Γ ρ σ H ∧ PostT K C W Γ Γ' hid σ H Q (f ρ)
def PostS (Γ Γ' Γb : List Nat) (fr : Bool) (Dn : Ends) (σ : L2.St) (H : Hp) : R Fl → Prop
  | .ok .nx ρ' => ∀ σ' H', ST K C C.hid Γ' ρ' σ' H' → Stp (Ms σ C.hid Γ) (Ms σ' C.hid Γ') C.hid H H' → Dn.nx σ' H'
  | .ok .bk ρ' => ∀ σ' H', ST K C C.hid Γb ρ' σ' H' → Stp (Ms σ C.hid Γ) (Ms σ' C.hid Γb) C.hid H H' → Dn.bk σ' H'
  | .ok .ct ρ' => ∀ σ' H', ST K C C.hid Γb ρ' σ' H' → Stp (Ms σ C.hid Γ) (Ms σ' C.hid Γb) C.hid H H' → Dn.ct σ' H'
  | .ok (.rt d) ρ' => ∀ v σ' H' tm, ST K C (tm ++ C.hid) C.io ρ' σ' H' → Val (gx K C) H' (Ms σ' (tm ++ C.hid) C.io) fr d v tm → (∀ a ∈ tm, a ∉ Ms σ' C.hid C.io) → Dn.rt v H'
  | .exn e ρ' => ∀ cls od σ' H', ExR (gx K C) H' (mask H' (Ms σ' C.hid C.io)) e cls od → ST K C C.hid C.io ρ' σ' H' → W cls od σ' H'
  | .bad => False
def tS (Γ Γ' Γb : List Nat) (fr : Bool) (f : Env → R Fl) : TS := fun Dn σ H => ∃ ρ, ST K C C.hid Γ ρ σ H ∧ PostS K C W Γ Γ' Γb fr Dn σ H (f ρ)
end
end Ip
namespace Ip
open PySem L2

structure SE (X : Cx) (C : Ac) (W : WX) (Γ : List Nat) (e : Expr) (Γ' : List Nat) (fr : Bool) (f : Env → R D) : Prop where
  pe : PE X e (tE X.K C W Γ Γ' fr f)
structure SP (X : Cx) (C : Ac) (W : WX) (Γ : List Nat) (e : Expr) (Γ' : List Nat) (f : Env → R Bool) : Prop where
  pt : PT X e (tT X.K C W Γ Γ' f)
structure SW (X : Cx) (C : Ac) (W : WX) (Γ : List Nat) (e : Expr) (Γ' : List Nat) (f : Env → R Bool) : Prop where
  pw : PW X e (tT X.K C W Γ Γ' f)
structure SS (X : Cx) (C : Ac) (W : WX) (Γ : List Nat) (st : Stmt) (Γ' Γb : List Nat) (fr : Bool) (f : Env → R Fl) : Prop where
  ps : PS X st (tS X.K C W Γ Γ' Γb fr f)
structure SSs (X : Cx) (C : Ac) (W : WX) (Γ : List Nat) (st : List Stmt) (Γ' Γb : List Nat) (fr : Bool) (f : Env → R Fl) : Prop where
  ps : PSs X st (tS X.K C W Γ Γ' Γb fr f)

theorem peImp {X : Cx} {e : Expr} {t t' : TE} (h : PE X e t) (i : ∀ σ H Q, t' σ H Q → t σ H Q) : PE X e t' := ⟨fun pins s σ H Q I q => h.run pins s σ H Q I (i σ H Q q)⟩
theorem ptImp {X : Cx} {e : Expr} {t t' : TT} (h : PT X e t) (i : ∀ σ H Q, t' σ H Q → t σ H Q) : PT X e t' := ⟨fun pins s σ H Q I q => h.run pins s σ H Q I (i σ H Q q)⟩
theorem pwImp {X : Cx} {e : Expr} {t t' : TT} (h : PW X e t) (i : ∀ σ H Q, t' σ H Q → t σ H Q) : PW X e t' := ⟨fun wh pins s σ H Q I q => h.run wh pins s σ H Q I (i σ H Q q)⟩
theorem paImp {X : Cx} {e : List Expr} {t t' : TA} (h : PA X e t) (i : ∀ σ H Q, t' σ H Q → t σ H Q) : PA X e t' := ⟨fun pos pins s σ H Q I q => h.run pos pins s σ H Q I (i σ H Q q)⟩
theorem psImp {X : Cx} {e : Stmt} {t t' : TS} (h : PS X e t) (i : ∀ Dn σ H, t' Dn σ H → t Dn σ H) : PS X e t' := ⟨fun pins s σ H Q I q => h.run pins s σ H Q I (i Q σ H q)⟩
theorem pssImp {X : Cx} {e : List Stmt} {t t' : TS} (h : PSs X e t) (i : ∀ Dn σ H, t' Dn σ H → t Dn σ H) : PSs X e t' := ⟨fun pins s σ H Q I q => h.run pins s σ H Q I (i Q σ H q)⟩

/-! ## the semantics: small words -/
def R.bind {α β : Type} : R α → (α → Env → R β) → R β
  | .ok a ρ, k => k a ρ
  | .exn e ρ, _ => .exn e ρ
  | .bad, _ => .bad
def ofO {α : Type} (ρ : Env) : Option α → R α
  | some a => .ok a ρ
  | none => .bad
def mVar (i : Nat) : Env → R D := fun ρ => ofO ρ (ρ.getD i none)
def mC (d : D) : Env → R D := fun ρ => .ok d ρ
def mBin (op : D → D → Option D) (f h : Env → R D) : Env → R D := fun ρ => (f ρ).bind fun a ρ1 => (h ρ1).bind fun b ρ2 => ofO ρ2 (op a b)
def mUn (op : D → Option D) (f : Env → R D) : Env → R D := fun ρ => (f ρ).bind fun a ρ1 => ofO ρ1 (op a)

theorem getD_some {ρ : Env} {i : Nat} {d : D} (h : ρ.getD i none = some d) : ρ[i]? = some (some d) := by
  rw [List.getD_eq_getElem?_getD] at h
  cases q : ρ[i]? with
  | none => rw [q] at h; cases h
  | some o => rw [q] at h; exact congrArg some h

/-- which slots stay owned -/
def okG (io Γ' Γ : List Nat) : Bool := Γ'.all (fun i => Γ.contains i) && decide Γ'.Nodup && io.all fun i => Γ'.contains i
theorem okG_of {io Γ' Γ : List Nat} (h : okG io Γ' Γ = true) : (∀ i ∈ Γ', i ∈ Γ) ∧ Γ'.Nodup ∧ ∀ i ∈ io, i ∈ Γ' := by
  simp only [okG, Bool.and_eq_true, List.all_eq_true, List.contains_iff_mem, decide_eq_true_eq] at h
  exact ⟨h.1.1, h.1.2, h.2⟩

section
variable {X : Cx} {C : Ac} {W : WX} {Γ Γ1 Γ2 Γ' : List Nat} {fr fr1 fr2 : Bool} {f h : Env → R D} {e a b : Expr} {pos : Pos}

theorem valImm {g : Gx} {H : Hp} {M : List Addr} {d : D} {v : V} (r : RV g (mask H M) d v) (hv : ∀ a, v ≠ .ref a) : Val g H M fr d v [] := .fz r fun _ => hv
/-- a frozen value, no object's -/
theorem se_imm {d : D} {v : V} (hp : PE X e (tC v)) (hr : ∀ A, RV ⟨X.K, C.ct⟩ A d v) (hv : ∀ a, v ≠ .ref a) : SE X C W Γ e Γ fr (mC d) := ⟨peImp hp fun σ H Q ⟨hid, ρ, S, p⟩ =>
  p v H [] S (Stp.refl _ _ _) (.fz (hr _) fun _ => hv) fun _ z => nomatch z⟩
theorem se_int {i : Int} {j : Nat} : SE X C W Γ (.Constant (.int i) j pos) Γ fr (mC (.int i)) := se_imm pe_int (fun _ => .int i) (fun _ z => nomatch z)
theorem se_bl {i : Bool} {j : Nat} : SE X C W Γ (.Constant (.bool i) j pos) Γ fr (mC (.bl i)) := se_imm pe_bl (fun _ => .bl i) (fun _ z => nomatch z)
theorem se_str {i : Str} {j : Nat} : SE X C W Γ (.Constant (.str i) j pos) Γ fr (mC (.str i)) := se_imm pe_str (fun _ => .str i) (fun _ z => nomatch z)
theorem se_non {j : Nat} : SE X C W Γ (.Constant .none j pos) Γ fr (mC .non) := se_imm pe_non (fun _ => .non) (fun _ z => nomatch z)

/-- a name that is read alone -/
theorem se_var (i : Nat) {x : Str} (hN : X.N[i]? = some x := by rfl) (hv : Vis X.env.scope x := by first | exact Or.inl rfl | exact Or.inr (Or.inl rfl) | exact Or.inr (Or.inr rfl)) (hΓ : Γ.contains i = false := by rfl)
    (hd : (x == ("__debug__" : Str)) = false := by decide) (hcd : (x == ("__classdict__" : Str)) = false := by decide) : SE X C W Γ (.Name x pos) Γ false (mVar i) := ⟨peImp (pe_var hN hv hd hcd) fun σ H Q ⟨hid, ρ, S, p⟩ => by
  unfold mVar at p
  cases q : ρ.getD i none with
  | none => rw [q] at p; exact p.elim
  | some d =>
    rw [q] at p
    have hi : i ∉ Γ := fun z => by rw [List.contains_iff_mem.mpr z] at hΓ; cases hΓ
    obtain ⟨v, e, r⟩ := S.sl i d hi (getD_some q)
    exact ⟨v, e, p v H [] S (Stp.refl _ _ _) (.fz r fun z => nomatch z) fun _ z => nomatch z⟩⟩
/-- an owned name, let go -/
theorem se_varF (i : Nat) (Γ' : List Nat) {x : Str} (hN : X.N[i]? = some x := by rfl) (hv : Vis X.env.scope x := by first | exact Or.inl rfl | exact Or.inr (Or.inl rfl) | exact Or.inr (Or.inr rfl)) (hΓ : okG C.io Γ' Γ = true := by rfl) (hi' : Γ'.contains i = false := by rfl)
    (hd : (x == ("__debug__" : Str)) = false := by decide) (hcd : (x == ("__classdict__" : Str)) = false := by decide) : SE X C W Γ (.Name x pos) Γ' false (mVar i) := ⟨peImp (pe_var hN hv hd hcd) fun σ H Q ⟨hid, ρ, S, p⟩ => by
  unfold mVar at p
  cases q : ρ.getD i none with
  | none => rw [q] at p; exact p.elim
  | some d =>
    rw [q] at p
    obtain ⟨h1, h2, h3⟩ := okG_of hΓ
    have hi : i ∉ Γ' := fun z => by rw [List.contains_iff_mem.mpr z] at hi'; cases hi'
    have S' := S.weak h1 h2 h3
    obtain ⟨v, e, r⟩ := S'.sl i d hi (getD_some q)
    exact ⟨v, e, p v H [] S' ⟨.of_same (mask_sub (Ms_sub h1)), fun _ _ => rfl⟩ (.fz r fun z => nomatch z) fun _ z => nomatch z⟩⟩
/-- a fresh value, let go -/
theorem se_fz (h : SE X C W Γ e Γ' fr f) : SE X C W Γ e Γ' false f := ⟨peImp h.pe fun σ H Q ⟨hid, ρ, S, p⟩ => by
  refine ⟨hid, ρ, S, ?_⟩
  cases q : f ρ with
  | bad => rw [q] at p; exact p
  | exn e ρ' => rw [q] at p; exact p
  | ok d ρ' =>
    rw [q] at p
    intro v H' tm S' k va ht
    have sub : ∀ a ∈ Ms σ hid Γ', a ∈ Ms σ (tm ++ hid) Γ' := Ms_subH fun a ha => List.mem_append_right _ ha
    exact p v H' [] (S'.forget (fun a ha => List.mem_append_right _ ha) S.sub) ⟨k.le.trans (.of_same (mask_sub sub)), k.fx⟩ (.fz (va.rv sub ht) fun z => nomatch z) fun _ z => nomatch z⟩

/-! ## what is kept while others are reckoned -/
/-- d stands at v: read alone, or a temporary's -/
def Kept (g : Gx) (H : Hp) (M tm : List Addr) (d : D) (v : V) : Prop := RV g (mask H M) d v ∨ ∃ a ∈ tm, v = .ref a ∧ Cont g H (mask H M) a d
theorem Kept.of {g : Gx} {H : Hp} {M tm : List Addr} {d : D} {v : V} {b : Bool} (h : Val g H M b d v tm) : Kept g H M tm d v := by
  cases h with
  | fz r _ => exact .inl r
  | fr c => exact .inr ⟨_, by simp, rfl, c⟩
theorem Kept.stp {g : Gx} {H H' : Hp} {M M' tm tm' hid : List Addr} {d : D} {v : V} (h : Kept g H M tm d v) (s : Stp M M' (tm ++ hid) H H') (hs : ∀ a ∈ tm, a ∈ tm') : Kept g H' M' tm' d v := by
  rcases h with r | ⟨a, ha, rfl, c⟩
  · exact .inl (r.mono s.le)
  · exact .inr ⟨a, hs a ha, rfl, c.mono (fun o e => (s.fx a (List.mem_append_left _ ha)).trans e) s.le⟩
theorem Kept.shal {g : Gx} {H : Hp} {M tm : List Addr} {d : D} {v : V} (h : Kept g H M tm d v) : Shal g H (mask H M) d v := by
  rcases h with r | ⟨a, _, rfl, c⟩
  · exact r.shal
  · exact c.shal
theorem Kept.rv {g : Gx} {H : Hp} {M M' tm : List Addr} {d : D} {v : V} (h : Kept g H M tm d v) (s : ∀ a ∈ M', a ∈ M) (ht : ∀ a ∈ tm, a ∉ M') : RV g (mask H M') d v := by
  rcases h with r | ⟨a, ha, rfl, c⟩
  · exact r.mono (.of_same (mask_sub s))
  · exact c.rv (mask_out (ht a ha)) (.of_same (mask_sub s))

/-- two in a row -/
theorem two {σ : L2.St} {H : Hp} {hid : List Addr} {ρ : Env} {Rr : V → V → Hp → Prop} (S : ST X.K C hid Γ ρ σ H)
    (ok : ∀ d1 ρ1 d2 ρ2, f ρ = .ok d1 ρ1 → h ρ1 = .ok d2 ρ2 → ∀ x y H2 tm, ST X.K C (tm ++ hid) Γ2 ρ2 σ H2 → Stp (Ms σ hid Γ) (Ms σ (tm ++ hid) Γ2) hid H H2 → (∀ a ∈ tm, a ∉ Ms σ hid Γ2) →
      Kept (gx X.K C) H2 (Ms σ (tm ++ hid) Γ2) tm d1 x → Kept (gx X.K C) H2 (Ms σ (tm ++ hid) Γ2) tm d2 y → Rr x y H2)
    (b1 : f ρ ≠ .bad) (b2 : ∀ d1 ρ1, f ρ = .ok d1 ρ1 → h ρ1 ≠ .bad)
    (x1 : ∀ e ρ', f ρ = .exn e ρ' → ∀ cls od H', ExR (gx X.K C) H' (mask H' (Ms σ C.hid C.io)) e cls od → ST X.K C C.hid C.io ρ' σ H' → W cls od σ H')
    (x2 : ∀ d1 ρ1 e ρ', f ρ = .ok d1 ρ1 → h ρ1 = .exn e ρ' → ∀ cls od H', ExR (gx X.K C) H' (mask H' (Ms σ C.hid C.io)) e cls od → ST X.K C C.hid C.io ρ' σ H' → W cls od σ H') :
    tE X.K C W Γ Γ1 fr1 f σ H fun x H1 => tE X.K C W Γ1 Γ2 fr2 h σ H1 fun y H2 => Rr x y H2 := by
  refine ⟨hid, ρ, S, ?_⟩
  cases q : f ρ with
  | bad => exact absurd q b1
  | exn e ρ' => exact x1 e ρ' q
  | ok d1 ρ1 =>
    intro x H1 tm1 S1 k1 v1 t1
    refine ⟨tm1 ++ hid, ρ1, S1, ?_⟩
    cases q2 : h ρ1 with
    | bad => exact absurd q2 (b2 _ _ q)
    | exn e ρ' => exact x2 _ _ e ρ' q q2
    | ok d2 ρ2 =>
      intro y H2 tm2 S2 k2 v2 t2
      have e : tm2 ++ (tm1 ++ hid) = (tm2 ++ tm1) ++ hid := (List.append_assoc ..).symm
      rw [e] at S2 k2 v2
      refine ok d1 ρ1 d2 ρ2 q q2 x y H2 (tm2 ++ tm1) S2 (k1.trans k2 fun a ha => List.mem_append_right _ ha) (fun a ha z => ?_) ((Kept.of v1).stp k2 fun a ha => List.mem_append_right _ ha) ?_
      · rcases List.mem_append.mp ha with ha | ha
        · exact t2 a ha (Ms_subH (fun b hb => List.mem_append_right _ hb) a z)
        · rcases mem_Ms.mp z with z | ⟨i, hi, rfl⟩
          · exact t1 a ha (mem_Ms.mpr (.inl z))
          · exact S2.dis i hi (List.mem_append_left _ (List.mem_append_right _ ha))
      · rcases Kept.of v2 with r | ⟨a, ha, r⟩
        · exact .inl r
        · exact .inr ⟨a, List.mem_append_left _ ha, r⟩

/-- temporaries are let go, new objects have come -/
theorem ST.fin {K : PySem.W.Frag} {hid tm : List Addr} {ρ : Env} {σ : L2.St} {H : Hp} (S : ST K C (tm ++ hid) Γ ρ σ H) (hs : ∀ a ∈ C.hid, a ∈ hid) {H' : Hp} (s : Same H H') : ST K C hid Γ ρ σ H' :=
  (S.same s).forget (fun a ha => List.mem_append_right _ ha) hs
theorem Stp.fin {hid tm M : List Addr} {σ : L2.St} {H0 H H' : Hp} (k : Stp M (Ms σ (tm ++ hid) Γ) hid H0 H) (s : Same H H') (trk : ∀ a ∈ hid, H a ≠ none) : Stp M (Ms σ hid Γ) hid H0 H' :=
  ⟨k.le.trans ((HLe.of_same (mask_sub (Ms_subH fun a ha => List.mem_append_right _ ha))).trans (.of_same (mask_keep fun b o _ e => s b o e))), fun a ha => by
    have := k.fx a ha
    rw [← this]
    cases q : H a with
    | none => exact absurd q (trk a ha)
    | some o => exact s a o q⟩

/-- an operation on two values: what its reading asks, from data -/
def OpS (g : Gx) (r : R2) (op : D → D → Option D) : Prop := ∀ (H : Hp) (M : List Addr) (x y : V) (dx dy d : D) (Q : VK), (∀ a ∈ M, H a ≠ none) → Shal g H (mask H M) dx x → Shal g H (mask H M) dy y → op dx dy = some d →
  (∀ v H', Same H H' → RV g (mask H' M) d v → Q v H') → r x y H Q
theorem ofO_ok {α : Type} {ρ ρ' : Env} {o : Option α} {a : α} (h : ofO ρ o = .ok a ρ') : o = some a ∧ ρ = ρ' := by
  cases o with
  | none => exact nomatch h
  | some b => cases h; exact ⟨rfl, rfl⟩
/-- the frame of all rules of two expressions -/
theorem mBin_tE {op : D → D → Option D} {r : R2} (ho : OpS ⟨X.K, C.ct⟩ r op) {σ : L2.St} {H : Hp} {Q : VK} (p : tE X.K C W Γ Γ2 false (mBin op f h) σ H Q) :
    tE X.K C W Γ Γ1 fr1 f σ H fun x H1 => tE X.K C W Γ1 Γ2 fr2 h σ H1 fun y H2 => r x y H2 Q := by
  obtain ⟨hid, ρ, S, p⟩ := p
  unfold mBin at p
  refine two (fr1 := fr1) (fr2 := fr2) S (fun d1 ρ1 d2 ρ2 q1 q2 x y H2 tm S2 k2 t2 v1 v2 => ?_) (fun q => ?_) (fun d1 ρ1 q1 q2 => ?_) (fun e ρ' q => ?_) fun d1 ρ1 e ρ' q1 q2 => ?_
  · rw [q1] at p
    dsimp only [R.bind] at p
    rw [q2] at p
    dsimp only [R.bind] at p
    cases q3 : op d1 d2 with
    | none => rw [q3] at p; exact p.elim
    | some d =>
      rw [q3] at p
      refine ho H2 (Ms σ (tm ++ hid) Γ2) x y d1 d2 d Q S2.trkM v1.shal v2.shal q3 fun v H' s rv => ?_
      exact p v H' [] (S2.fin S.sub s) (k2.fin s fun a ha => (S2.trk a (List.mem_append_right _ ha)).1) (.fz (rv.mono (.of_same (mask_sub (Ms_subH fun a ha => List.mem_append_right _ ha)))) fun z => nomatch z) fun _ z => nomatch z
  · rw [q] at p; exact p
  · rw [q1] at p
    dsimp only [R.bind] at p
    rw [q2] at p; exact p
  · rw [q] at p; exact p
  · rw [q1] at p
    dsimp only [R.bind] at p
    rw [q2] at p; exact p
theorem se_bin {op : Operator} {r : R2} {opD : D → D → Option D} (ho : OpR X (binaryOp op) r) (hs : OpS ⟨X.K, C.ct⟩ r opD) (ha : SE X C W Γ a Γ1 fr1 f) (hb : SE X C W Γ1 b Γ2 fr2 h) : SE X C W Γ (.BinOp a op b pos) Γ2 false (mBin opD f h) :=
  ⟨peImp (pe_op ho ha.pe hb.pe) fun _ _ _ p => mBin_tE hs p⟩
theorem se_cmp {op : CmpOp} {r : R2} {opD : D → D → Option D} (ho : OpR X (compareOp op) r) (hs : OpS ⟨X.K, C.ct⟩ r opD) (ha : SE X C W Γ a Γ1 fr1 f) (hb : SE X C W Γ1 b Γ2 fr2 h) (hm : behindInMarks op b = false) : SE X C W Γ (.Compare a [op] [b] pos) Γ2 false (mBin opD f h) :=
  ⟨peImp (pe_cmpR ho ha.pe hb.pe hm) fun _ _ _ p => mBin_tE hs p⟩
theorem se_ix {r : R2} {opD : D → D → Option D} (ho : IxR X r) (hs : OpS ⟨X.K, C.ct⟩ r opD) (ha : SE X C W Γ a Γ1 fr1 f) (hb : SE X C W Γ1 b Γ2 fr2 h) (hm : PlainIx b) : SE X C W Γ (.Subscript a b pos) Γ2 false (mBin opD f h) :=
  ⟨peImp (pe_ix ho ha.pe hb.pe hm) fun _ _ _ p => mBin_tE hs p⟩
end
end Ip
namespace Ip
open PySem L2

/-! ## tests -/
def asB : D → Option Bool
  | .bl b => some b
  | _ => none
def mTest (f : Env → R D) : Env → R Bool := fun ρ => (f ρ).bind fun d ρ' => ofO ρ' (asB d)
def mNot (f : Env → R Bool) : Env → R Bool := fun ρ => (f ρ).bind fun b ρ' => .ok (!b) ρ'
def mAnd (f g : Env → R Bool) : Env → R Bool := fun ρ => (f ρ).bind fun b ρ' => if b then g ρ' else .ok false ρ'
def mOr (f g : Env → R Bool) : Env → R Bool := fun ρ => (f ρ).bind fun b ρ' => if b then .ok true ρ' else g ρ'
def mAndV (f g : Env → R D) : Env → R D := fun ρ => (f ρ).bind fun d ρ' => match d with
  | .bl true => g ρ'
  | .bl false => .ok (.bl false) ρ'
  | _ => .bad
def mOrV (f g : Env → R D) : Env → R D := fun ρ => (f ρ).bind fun d ρ' => match d with
  | .bl true => .ok (.bl true) ρ'
  | .bl false => g ρ'
  | _ => .bad
def mNotV (f : Env → R D) : Env → R D := fun ρ => (f ρ).bind fun d ρ' => match d with
  | .bl b => .ok (.bl (!b)) ρ'
  | _ => .bad
def mIf (c : Env → R Bool) (f g : Env → R D) : Env → R D := fun ρ => (c ρ).bind fun b ρ' => if b then f ρ' else g ρ'

theorem val_bl {g : Gx} {H : Hp} {M tm : List Addr} {fr b : Bool} {v : V} (h : Val g H M fr (.bl b) v tm) : v = .bl b ∧ tm = [] := by
  cases h with
  | fz r _ => cases r; exact ⟨rfl, rfl⟩
  | fr c => cases c
section
variable {X : Cx} {C : Ac} {W : WX} {Γ Γ1 Γ2 Γ' : List Nat} {fr fr1 fr2 : Bool} {f h : Env → R D} {fb hb' : Env → R Bool} {e a b c : Expr} {pos : Pos} {rest : List Expr}

theorem tT_tE {σ : L2.St} {H : Hp} {Q : Bool → Hp → Prop} (p : tT X.K C W Γ Γ' (mTest f) σ H Q) : tE X.K C W Γ Γ' fr f σ H fun x H' => ∃ k, x = .bl k ∧ Q k H' := by
  obtain ⟨hid, ρ, S, p⟩ := p
  refine ⟨hid, ρ, S, ?_⟩
  unfold mTest at p
  cases q : f ρ with
  | bad => rw [q] at p; exact p
  | exn e ρ' => rw [q] at p; exact p
  | ok d ρ' =>
    rw [q] at p
    intro v H' tm S' k va ht
    dsimp only [R.bind] at p
    cases d with
    | bl b =>
      obtain ⟨rfl, rfl⟩ := val_bl va
      exact ⟨b, rfl, p H' S' k⟩
    | _ => exact (show False from p).elim
theorem sp_val (ha : SE X C W Γ e Γ' fr f) (he : ∀ whole, isTrue e X.env whole = (do let v ← whole; standAt e.pos; holding [v] (truthy v)) := by intro _; rfl) : SP X C W Γ e Γ' (mTest f) :=
  ⟨ptImp (pt_val ha.pe he) fun _ _ _ p => tT_tE p⟩
theorem sp_cmp {op : CmpOp} {r : R2} {opD : D → D → Option D} (ho : OpR X (compareOp op) r) (hs : OpS ⟨X.K, C.ct⟩ r opD) (ha : SE X C W Γ a Γ1 fr1 f) (hb : SE X C W Γ1 b Γ2 fr2 h) (hm : behindInMarks op b = false) : SP X C W Γ (.Compare a [op] [b] pos) Γ2 (mTest (mBin opD f h)) :=
  ⟨ptImp (pt_cmpR ho ha.pe hb.pe hm) fun _ _ _ p => mBin_tE hs (tT_tE p)⟩
theorem sp_not (ha : SP X C W Γ a Γ' fb) : SP X C W Γ (.UnaryOp .Not a pos) Γ' (mNot fb) := ⟨ptImp (pt_not ha.pt) fun σ H Q ⟨hid, ρ, S, p⟩ => by
  refine ⟨hid, ρ, S, ?_⟩
  unfold mNot at p
  cases q : fb ρ with
  | bad => rw [q] at p; exact p
  | exn e ρ' => rw [q] at p; exact p
  | ok b ρ' => rw [q] at p; exact p⟩
theorem SW.pt (h : SW X C W Γ e Γ' fb) : SP X C W Γ e Γ' fb := ⟨h.pw.pt⟩
theorem sw_and1 (ha : SP X C W Γ a Γ' fb) : SW X C W Γ (.BoolOp .And [a] pos) Γ' fb := ⟨pw_and1 ha.pt⟩
theorem sw_or1 (ha : SP X C W Γ a Γ' fb) : SW X C W Γ (.BoolOp .Or [a] pos) Γ' fb := ⟨pw_or1 ha.pt⟩
theorem ST.weakStp {K : PySem.W.Frag} {hid : List Addr} {σ : L2.St} {H H' : Hp} {M : List Addr} (k : Stp M (Ms σ hid Γ) hid H H') (h : ∀ i ∈ Γ', i ∈ Γ) : Stp M (Ms σ hid Γ') hid H H' := ⟨k.le.trans (.of_same (mask_sub (Ms_sub h))), k.fx⟩
theorem sw_and (ha : SP X C W Γ a Γ1 fb) (hb : SW X C W Γ1 (.BoolOp .And (b :: rest) pos) Γ2 hb') (hk : okG C.io Γ2 Γ1 = true := by rfl) : SW X C W Γ (.BoolOp .And (a :: b :: rest) pos) Γ2 (mAnd fb hb') :=
  ⟨pwImp (pw_and ha.pt hb.pw) fun σ H Q ⟨hid, ρ, S, p⟩ => by
  refine ⟨hid, ρ, S, ?_⟩
  unfold mAnd at p
  cases q : fb ρ with
  | bad => rw [q] at p; exact p
  | exn e ρ' => rw [q] at p; exact p
  | ok b ρ' =>
    rw [q] at p
    intro H1 S1 k1
    dsimp only [R.bind] at p
    cases b with
    | false =>
      obtain ⟨h1, h2, h3⟩ := okG_of hk
      rw [if_neg Bool.false_ne_true] at p ⊢
      exact p H1 (S1.weak h1 h2 h3) (ST.weakStp (K := X.K) k1 h1)
    | true =>
      rw [if_pos rfl] at p ⊢
      refine ⟨hid, ρ', S1, ?_⟩
      cases q2 : hb' ρ' with
      | bad => rw [q2] at p; exact p
      | exn e ρ' => rw [q2] at p; exact p
      | ok b ρ2 =>
        rw [q2] at p
        exact fun H2 S2 k2 => p H2 S2 (k1.trans k2 fun _ z => z)⟩
theorem sw_or (ha : SP X C W Γ a Γ1 fb) (hb : SW X C W Γ1 (.BoolOp .Or (b :: rest) pos) Γ2 hb') (hk : okG C.io Γ2 Γ1 = true := by rfl) : SW X C W Γ (.BoolOp .Or (a :: b :: rest) pos) Γ2 (mOr fb hb') :=
  ⟨pwImp (pw_or ha.pt hb.pw) fun σ H Q ⟨hid, ρ, S, p⟩ => by
  refine ⟨hid, ρ, S, ?_⟩
  unfold mOr at p
  cases q : fb ρ with
  | bad => rw [q] at p; exact p
  | exn e ρ' => rw [q] at p; exact p
  | ok b ρ' =>
    rw [q] at p
    intro H1 S1 k1
    dsimp only [R.bind] at p
    cases b with
    | true =>
      obtain ⟨h1, h2, h3⟩ := okG_of hk
      rw [if_pos rfl] at p ⊢
      exact p H1 (S1.weak h1 h2 h3) (ST.weakStp (K := X.K) k1 h1)
    | false =>
      rw [if_neg Bool.false_ne_true] at p ⊢
      refine ⟨hid, ρ', S1, ?_⟩
      cases q2 : hb' ρ' with
      | bad => rw [q2] at p; exact p
      | exn e ρ' => rw [q2] at p; exact p
      | ok b ρ2 =>
        rw [q2] at p
        exact fun H2 S2 k2 => p H2 S2 (k1.trans k2 fun _ z => z)⟩
/-- a second expression behind a value that has no object -/
theorem PostE.pre {hid : List Addr} {σ : L2.St} {H H1 : Hp} {Q : VK} {r : R D} (k : Stp (Ms σ hid Γ) (Ms σ hid Γ1) hid H H1) (p : PostE X.K C W Γ Γ2 fr hid σ H Q r) : PostE X.K C W Γ1 Γ2 fr hid σ H1 Q r := by
  cases r with
  | bad => exact p
  | exn e ρ => exact p
  | ok d ρ => exact fun v H' tm S' k' va ht => p v H' tm S' (k.trans k' fun _ z => z) va ht
theorem se_and (ha : SE X C W Γ a Γ1 fr1 f) (hb : SE X C W Γ1 (.BoolOp .And (b :: rest) pos) Γ2 fr h) (hk : okG C.io Γ2 Γ1 = true := by rfl) : SE X C W Γ (.BoolOp .And (a :: b :: rest) pos) Γ2 fr (mAndV f h) :=
  ⟨peImp (pe_and ha.pe hb.pe) fun σ H Q ⟨hid, ρ, S, p⟩ => by
  refine ⟨hid, ρ, S, ?_⟩
  unfold mAndV at p
  cases q : f ρ with
  | bad => rw [q] at p; exact p
  | exn e ρ' => rw [q] at p; exact p
  | ok d ρ' =>
    rw [q] at p
    intro v H1 tm S1 k1 va ht
    dsimp only [R.bind] at p
    cases d with
    | bl b =>
      obtain ⟨rfl, rfl⟩ := val_bl va
      refine ⟨b, rfl, ?_⟩
      cases b with
      | false =>
        obtain ⟨h1, h2, h3⟩ := okG_of hk
        rw [if_neg Bool.false_ne_true]
        exact p _ H1 [] (S1.weak h1 h2 h3) (ST.weakStp (K := X.K) k1 h1) (.fz (.bl false) fun _ _ z => nomatch z) fun _ z => nomatch z
      | true =>
        rw [if_pos rfl]
        exact ⟨hid, ρ', S1, PostE.pre k1 p⟩
    | _ => exact (show False from p).elim⟩
theorem se_or (ha : SE X C W Γ a Γ1 fr1 f) (hb : SE X C W Γ1 (.BoolOp .Or (b :: rest) pos) Γ2 fr h) (hk : okG C.io Γ2 Γ1 = true := by rfl) : SE X C W Γ (.BoolOp .Or (a :: b :: rest) pos) Γ2 fr (mOrV f h) :=
  ⟨peImp (pe_or ha.pe hb.pe) fun σ H Q ⟨hid, ρ, S, p⟩ => by
  refine ⟨hid, ρ, S, ?_⟩
  unfold mOrV at p
  cases q : f ρ with
  | bad => rw [q] at p; exact p
  | exn e ρ' => rw [q] at p; exact p
  | ok d ρ' =>
    rw [q] at p
    intro v H1 tm S1 k1 va ht
    dsimp only [R.bind] at p
    cases d with
    | bl b =>
      obtain ⟨rfl, rfl⟩ := val_bl va
      refine ⟨b, rfl, ?_⟩
      cases b with
      | true =>
        obtain ⟨h1, h2, h3⟩ := okG_of hk
        rw [if_pos rfl]
        exact p _ H1 [] (S1.weak h1 h2 h3) (ST.weakStp (K := X.K) k1 h1) (.fz (.bl true) fun _ _ z => nomatch z) fun _ z => nomatch z
      | false =>
        rw [if_neg Bool.false_ne_true]
        exact ⟨hid, ρ', S1, PostE.pre k1 p⟩
    | _ => exact (show False from p).elim⟩
theorem se_one {op : BoolOp} (ha : SE X C W Γ a Γ' fr f) : SE X C W Γ (.BoolOp op [a] pos) Γ' fr f := ⟨pe_one ha.pe⟩
theorem se_not (ha : SE X C W Γ a Γ' fr1 f) : SE X C W Γ (.UnaryOp .Not a pos) Γ' fr (mNotV f) := ⟨peImp (pe_not ha.pe) fun σ H Q ⟨hid, ρ, S, p⟩ => by
  refine ⟨hid, ρ, S, ?_⟩
  unfold mNotV at p
  cases q : f ρ with
  | bad => rw [q] at p; exact p
  | exn e ρ' => rw [q] at p; exact p
  | ok d ρ' =>
    rw [q] at p
    intro v H1 tm S1 k1 va ht
    dsimp only [R.bind] at p
    cases d with
    | bl b =>
      obtain ⟨rfl, rfl⟩ := val_bl va
      exact ⟨b, rfl, p _ H1 [] S1 k1 (.fz (.bl _) fun _ _ z => nomatch z) fun _ z => nomatch z⟩
    | _ => exact (show False from p).elim⟩
theorem se_ifExp (hc : SP X C W Γ c Γ1 fb) (ha : SE X C W Γ1 a Γ2 fr f) (hb : SE X C W Γ1 b Γ2 fr h) : SE X C W Γ (.IfExp c a b pos) Γ2 fr (mIf fb f h) := ⟨peImp (pe_ifExp hc.pt ha.pe hb.pe) fun σ H Q ⟨hid, ρ, S, p⟩ => by
  refine ⟨hid, ρ, S, ?_⟩
  unfold mIf at p
  cases q : fb ρ with
  | bad => rw [q] at p; exact p
  | exn e ρ' => rw [q] at p; exact p
  | ok d ρ' =>
    rw [q] at p
    intro H1 S1 k1
    dsimp only [R.bind] at p
    cases d with
    | true => rw [if_pos rfl] at p ⊢; exact ⟨hid, ρ', S1, PostE.pre k1 p⟩
    | false => rw [if_neg Bool.false_ne_true] at p ⊢; exact ⟨hid, ρ', S1, PostE.pre k1 p⟩⟩

/-! ## several expressions -/
inductive Kepts (g : Gx) (H : Hp) (M tm : List Addr) : List D → List V → Prop where
  | nil : Kepts g H M tm [] []
  | cons {d : D} {v : V} {ds : List D} {vs : List V} : Kept g H M tm d v → Kepts g H M tm ds vs → Kepts g H M tm (d :: ds) (v :: vs)
theorem Kepts.length {g : Gx} {H : Hp} {M tm : List Addr} : ∀ {ds : List D} {vs : List V}, Kepts g H M tm ds vs → ds.length = vs.length
  | _, _, .nil => rfl
  | _, _, .cons _ t => by rw [List.length_cons, List.length_cons, t.length]
theorem Kepts.rv {g : Gx} {H : Hp} {M M' tm : List Addr} (s : ∀ a ∈ M', a ∈ M) (ht : ∀ a ∈ tm, a ∉ M') : ∀ {ds : List D} {vs : List V}, Kepts g H M tm ds vs → RVs g (mask H M') ds vs
  | _, _, .nil => .nil
  | _, _, .cons k t => .cons (k.rv s ht) (t.rv s ht)
inductive Shals (g : Gx) (H Hm : Hp) : List D → List V → Prop where
  | nil : Shals g H Hm [] []
  | cons {d : D} {v : V} {ds : List D} {vs : List V} : Shal g H Hm d v → Shals g H Hm ds vs → Shals g H Hm (d :: ds) (v :: vs)
theorem Kepts.shals {g : Gx} {H : Hp} {M tm : List Addr} : ∀ {ds : List D} {vs : List V}, Kepts g H M tm ds vs → Shals g H (mask H M) ds vs
  | _, _, .nil => .nil
  | _, _, .cons k t => .cons k.shal t.shals
section
variable (K : PySem.W.Frag) (C : Ac) (W : WX)
def PostA (Γ Γ' : List Nat) (hid : List Addr) (σ : L2.St) (H : Hp) (Q : List V → Hp → Prop) : R (List D) → Prop
  | .ok ds ρ' => ∀ vs H' tm, ST K C (tm ++ hid) Γ' ρ' σ H' → Stp (Ms σ hid Γ) (Ms σ (tm ++ hid) Γ') hid H H' → (∀ a ∈ tm, a ∉ Ms σ hid Γ') → Kepts (gx K C) H' (Ms σ (tm ++ hid) Γ') tm ds vs → Q vs H'
  | .exn e ρ' => ∀ cls od H', ExR (gx K C) H' (mask H' (Ms σ C.hid C.io)) e cls od → ST K C C.hid C.io ρ' σ H' → W cls od σ H'
  | .bad => False
def tAs (Γ Γ' : List Nat) (f : Env → R (List D)) : TA := fun σ H Q => ∃ hid ρ, ST K C hid Γ ρ σ H ∧ PostA K C W Γ Γ' hid σ H Q (f ρ)
end
structure SA (X : Cx) (C : Ac) (W : WX) (Γ : List Nat) (es : List Expr) (Γ' : List Nat) (f : Env → R (List D)) : Prop where
  pa : PA X es (tAs X.K C W Γ Γ' f)
  len : ∀ ρ ds ρ', f ρ = .ok ds ρ' → ds.length = es.length
def mNil : Env → R (List D) := fun ρ => .ok [] ρ
def mCons (f : Env → R D) (g : Env → R (List D)) : Env → R (List D) := fun ρ => (f ρ).bind fun d ρ1 => (g ρ1).bind fun ds ρ2 => .ok (d :: ds) ρ2
theorem sa_nil : SA X C W Γ [] Γ mNil := ⟨paImp pa_nil fun σ H Q ⟨hid, ρ, S, p⟩ => p [] H [] S (Stp.refl _ _ _) (fun _ z => nomatch z) .nil, fun ρ ds ρ' e => by cases e; rfl⟩
theorem sa_cons {es : List Expr} {g : Env → R (List D)} (ha : SE X C W Γ a Γ1 fr1 f) (hr : SA X C W Γ1 es Γ2 g) (hs : starEach (a :: es) X.env = (false, eval a X.env) :: starEach es X.env := by rfl) : SA X C W Γ (a :: es) Γ2 (mCons f g) := by
  refine ⟨paImp (pa_cons ha.pe hr.pa hs) fun σ H Q ⟨hid, ρ, S, p⟩ => ⟨hid, ρ, S, ?_⟩, fun ρ ds ρ' e => ?_⟩
  · unfold mCons at p
    cases q : f ρ with
    | bad => rw [q] at p; exact p
    | exn e ρ' => rw [q] at p; exact p
    | ok d ρ1 =>
      rw [q] at p
      dsimp only [R.bind] at p
      intro v H1 tm1 S1 k1 va t1
      refine ⟨tm1 ++ hid, ρ1, S1, ?_⟩
      cases q2 : g ρ1 with
      | bad => rw [q2] at p; exact p
      | exn e ρ' => rw [q2] at p; exact p
      | ok ds ρ2 =>
        rw [q2] at p
        dsimp only at p
        intro vs H2 tm2 S2 k2 t2 ks
        have e : tm2 ++ (tm1 ++ hid) = (tm2 ++ tm1) ++ hid := (List.append_assoc ..).symm
        rw [e] at S2 k2 ks
        have up : ∀ {ds : List D} {vs : List V}, Kepts (gx X.K C) H2 (Ms σ ((tm2 ++ tm1) ++ hid) Γ2) tm2 ds vs → Kepts (gx X.K C) H2 (Ms σ ((tm2 ++ tm1) ++ hid) Γ2) (tm2 ++ tm1) ds vs := by
          intro ds vs h
          induction h with
          | nil => exact .nil
          | cons k _ ih =>
            refine .cons ?_ ih
            rcases k with r | ⟨a, ha, r⟩
            · exact .inl r
            · exact .inr ⟨a, List.mem_append_left _ ha, r⟩
        refine p (v :: vs) H2 (tm2 ++ tm1) S2 (k1.trans k2 fun a ha => List.mem_append_right _ ha) (fun a ha z => ?_) (.cons ((Kept.of va).stp k2 fun a ha => List.mem_append_right _ ha) (up ks))
        rcases List.mem_append.mp ha with ha | ha
        · exact t2 a ha (Ms_subH (fun b hb => List.mem_append_right _ hb) a z)
        · rcases mem_Ms.mp z with z | ⟨i, hi, rfl⟩
          · exact t1 a ha (mem_Ms.mpr (.inl z))
          · exact S2.dis i hi (List.mem_append_left _ (List.mem_append_right _ ha))
  · unfold mCons at e
    cases q : f ρ with
    | bad => rw [q] at e; exact nomatch e
    | exn x ρ' => rw [q] at e; exact nomatch e
    | ok d ρ1 =>
      rw [q] at e
      dsimp only [R.bind] at e
      cases q2 : g ρ1 with
      | bad => rw [q2] at e; exact nomatch e
      | exn x ρ' => rw [q2] at e; exact nomatch e
      | ok ds2 ρ2 =>
        rw [q2] at e
        cases e
        rw [List.length_cons, List.length_cons, hr.len _ _ _ q2]

/-! ## displays -/
def mTup (g : Env → R (List D)) : Env → R D := fun ρ => (g ρ).bind fun ds ρ' => .ok (.tup ds) ρ'
def mLst (g : Env → R (List D)) : Env → R D := fun ρ => (g ρ).bind fun ds ρ' => .ok (.lst ds) ρ'
theorem line_le {n : Nat} (h : n ≤ 1000) : n ≤ sizeLine := Nat.le_trans h (by decide)
theorem se_tup {es : List Expr} {x1} {g : Env → R (List D)} (ha : SA X C W Γ es Γ' g) (hl : es.length ≤ 1000 := by decide) : SE X C W Γ (.Tuple es x1 pos) Γ' false (mTup g) := ⟨peImp (pe_tup ha.pa) fun σ H Q ⟨hid, ρ, S, p⟩ => by
  refine ⟨hid, ρ, S, ?_⟩
  unfold mTup at p
  cases q : g ρ with
  | bad => rw [q] at p; exact p
  | exn e ρ' => rw [q] at p; exact p
  | ok ds ρ' =>
    rw [q] at p
    dsimp only [R.bind] at p
    intro vs H1 tm S1 k1 t1 ks
    refine ⟨by rw [← ks.length, ha.len _ _ _ q]; exact line_le hl, fun a hp => ?_⟩
    have s := same_upd (o := HO.tup vs) hp
    refine p (.ref a) _ [] (S1.fin S.sub s) (k1.fin s fun a ha => (S1.trk a (List.mem_append_right _ ha)).1) (.fz ?_ fun z => nomatch z) fun _ z => nomatch z
    have sub : ∀ b ∈ Ms σ hid Γ', b ∈ Ms σ (tm ++ hid) Γ' := Ms_subH fun a ha => List.mem_append_right _ ha
    have hn : a ∉ Ms σ hid Γ' := fun z => S1.none_out hp (sub a z)
    refine .tup (by show mask (upd H1 a (HO.tup vs)) (Ms σ hid Γ') a = _; rw [mask_out hn, upd_same]) ((ks.rv sub t1).mono (.of_same (mask_keep fun b o _ e => s b o e)))⟩
theorem se_lst {es : List Expr} {g : Env → R (List D)} (ha : SA X C W Γ es Γ' g) (hl : es.length ≤ 1000 := by decide) : SE X C W Γ (.List es pos) Γ' true (mLst g) := ⟨peImp (pe_lst ha.pa) fun σ H Q ⟨hid, ρ, S, p⟩ => by
  refine ⟨hid, ρ, S, ?_⟩
  unfold mLst at p
  cases q : g ρ with
  | bad => rw [q] at p; exact p
  | exn e ρ' => rw [q] at p; exact p
  | ok ds ρ' =>
    rw [q] at p
    dsimp only [R.bind] at p
    intro vs H1 tm S1 k1 t1 ks
    refine ⟨by rw [← ks.length, ha.len _ _ _ q]; exact line_le hl, fun a hp => ?_⟩
    have S2 := S1.forget (fun a ha => List.mem_append_right _ ha) S.sub
    have sub : ∀ b ∈ Ms σ hid Γ', b ∈ Ms σ (tm ++ hid) Γ' := Ms_subH fun a ha => List.mem_append_right _ ha
    have k2 : Stp (Ms σ hid Γ) (Ms σ hid Γ') hid H H1 := ⟨k1.le.trans (.of_same (mask_sub sub)), k1.fx⟩
    have kh := S2.holdStp (o := HO.lst vs) hp
    exact p (.ref a) _ [a] (S2.hold hp) (k2.trans kh fun _ z => z) (.fr (.lst upd_same ((ks.rv sub t1).mono kh.le))) fun b hb => by
      rw [List.mem_singleton.mp hb]; exact S2.none_out hp⟩

/-! ## statements -/
def mSeq (f g : Env → R Fl) : Env → R Fl := fun ρ => match f ρ with
  | .ok .nx ρ' => g ρ'
  | r => r
def mNx : Env → R Fl := fun ρ => .ok .nx ρ
def mRet (f : Env → R D) : Env → R Fl := fun ρ => (f ρ).bind fun d ρ' => .ok (.rt d) ρ'
def mIfS (c : Env → R Bool) (f g : Env → R Fl) : Env → R Fl := fun ρ => (c ρ).bind fun b ρ' => if b then f ρ' else g ρ'
def mDrop (f : Env → R D) : Env → R Fl := fun ρ => (f ρ).bind fun d ρ' => .ok .nx ρ'
def mSet (i : Nat) (f : Env → R D) : Env → R Fl := fun ρ => (f ρ).bind fun d ρ' => if i < ρ'.length then .ok .nx (ρ'.set i (some d)) else .bad
def isObj : D → Bool
  | .lst _ => true
  | .dic _ _ => true
  | .dit _ _ => true
  | .obj _ _ _ => true
  | _ => false
def mSetO (i : Nat) (f : Env → R D) : Env → R Fl := fun ρ => (f ρ).bind fun d ρ' => if i < ρ'.length ∧ isObj d = true then .ok .nx (ρ'.set i (some d)) else .bad
variable {Γb : List Nat} {st : Stmt} {sts : List Stmt} {fs gs : Env → R Fl}
theorem PostS.pre {Dn : Ends} {σ σ1 : L2.St} {H H1 : Hp} {r : R Fl} (k : Stp (Ms σ C.hid Γ) (Ms σ1 C.hid Γ1) C.hid H H1) (p : PostS X.K C W Γ Γ2 Γb fr Dn σ H r) : PostS X.K C W Γ1 Γ2 Γb fr Dn σ1 H1 r := by
  cases r with
  | bad => exact p
  | exn e ρ => exact p
  | ok d ρ =>
    cases d with
    | nx => exact fun σ' H' S' k' => p σ' H' S' (k.trans k' fun _ z => z)
    | bk => exact fun σ' H' S' k' => p σ' H' S' (k.trans k' fun _ z => z)
    | ct => exact fun σ' H' S' k' => p σ' H' S' (k.trans k' fun _ z => z)
    | rt d => exact p
theorem ss_nil : SSs X C W Γ [] Γ Γb fr mNx := ⟨pssImp pss_nil fun Dn σ H ⟨ρ, S, p⟩ => p σ H S (Stp.refl _ _ _)⟩
theorem ss_pass : SS X C W Γ (.Pass pos) Γ Γb fr mNx := ⟨psImp ps_pass fun Dn σ H ⟨ρ, S, p⟩ => p σ H S (Stp.refl _ _ _)⟩
theorem ss_break : SS X C W Γ (.Break pos) Γ' Γ fr (fun ρ => .ok .bk ρ) := ⟨psImp ps_break fun Dn σ H ⟨ρ, S, p⟩ => p σ H S (Stp.refl _ _ _)⟩
theorem ss_continue : SS X C W Γ (.Continue pos) Γ' Γ fr (fun ρ => .ok .ct ρ) := ⟨psImp ps_continue fun Dn σ H ⟨ρ, S, p⟩ => p σ H S (Stp.refl _ _ _)⟩
theorem ss_one (h : SS X C W Γ st Γ' Γb fr fs) : SSs X C W Γ [st] Γ' Γb fr fs := ⟨pss_one h.ps⟩
theorem ss_cons (h1 : SS X C W Γ st Γ1 Γb fr fs) (h2 : SSs X C W Γ1 sts Γ2 Γb fr gs) : SSs X C W Γ (st :: sts) Γ2 Γb fr (mSeq fs gs) := ⟨pssImp (pss_cons h1.ps h2.ps) fun Dn σ H ⟨ρ, S, p⟩ => by
  refine ⟨ρ, S, ?_⟩
  unfold mSeq at p
  cases q : fs ρ with
  | bad => rw [q] at p; exact p
  | exn e ρ' => rw [q] at p; exact p
  | ok d ρ' =>
    rw [q] at p
    cases d with
    | nx => exact fun σ' H' S' k' => ⟨ρ', S', PostS.pre k' p⟩
    | bk => exact p
    | ct => exact p
    | rt d => exact p⟩
theorem ss_weak (h : SSs X C W Γ sts Γ1 Γb fr fs) (hk : okG C.io Γ2 Γ1 = true := by rfl) : SSs X C W Γ sts Γ2 Γb fr fs := ⟨pssImp h.ps fun Dn σ H ⟨ρ, S, p⟩ => by
  refine ⟨ρ, S, ?_⟩
  obtain ⟨h1, h2, h3⟩ := okG_of hk
  cases q : fs ρ with
  | bad => rw [q] at p; exact p
  | exn e ρ' => rw [q] at p; exact p
  | ok d ρ' =>
    rw [q] at p
    cases d with
    | nx => exact fun σ' H' S' k' => p σ' H' (S'.weak h1 h2 h3) (ST.weakStp (K := X.K) k' h1)
    | bk => exact p
    | ct => exact p
    | rt d => exact p⟩
theorem ss_weakb (h : SSs X C W Γ sts Γ' Γ1 fr fs) (hk : okG C.io Γb Γ1 = true := by rfl) : SSs X C W Γ sts Γ' Γb fr fs := ⟨pssImp h.ps fun Dn σ H ⟨ρ, S, p⟩ => by
  refine ⟨ρ, S, ?_⟩
  obtain ⟨h1, h2, h3⟩ := okG_of hk
  cases q : fs ρ with
  | bad => rw [q] at p; exact p
  | exn e ρ' => rw [q] at p; exact p
  | ok d ρ' =>
    rw [q] at p
    cases d with
    | nx => exact p
    | bk => exact fun σ' H' S' k' => p σ' H' (S'.weak h1 h2 h3) (ST.weakStp (K := X.K) k' h1)
    | ct => exact fun σ' H' S' k' => p σ' H' (S'.weak h1 h2 h3) (ST.weakStp (K := X.K) k' h1)
    | rt d => exact p⟩
theorem ss_ret (ha : SE X C W Γ e Γ1 fr f) (hk : okG C.io C.io Γ1 = true := by rfl) : SS X C W Γ (.Return (some e) pos) Γ' Γb fr (mRet f) := ⟨psImp (ps_ret ha.pe) fun Dn σ H ⟨ρ, S, p⟩ => by
  refine ⟨C.hid, ρ, S, ?_⟩
  unfold mRet at p
  cases q : f ρ with
  | bad => rw [q] at p; exact p
  | exn e ρ' => rw [q] at p; exact fun cls od H' x S' => p cls od σ H' x S'
  | ok d ρ' =>
    rw [q] at p
    dsimp only [R.bind] at p
    intro v H1 tm S1 k1 va t1
    obtain ⟨h1, h2, h3⟩ := okG_of hk
    have sub : ∀ a ∈ Ms σ (tm ++ C.hid) C.io, a ∈ Ms σ (tm ++ C.hid) Γ1 := Ms_sub h1
    refine p v σ H1 tm (S1.weak h1 h2 h3) ?_ fun a ha z => t1 a ha (Ms_sub h1 a z)
    cases va with
    | fz r hv => exact .fz (r.mono (.of_same (mask_sub sub))) hv
    | fr c => exact .fr (c.mono (fun _ z => z) (.of_same (mask_sub sub)))⟩
theorem ss_retN (hk : okG C.io C.io Γ = true := by rfl) : SS X C W Γ (.Return none pos) Γ' Γb fr (mRet (mC .non)) := ⟨psImp ps_retN fun Dn σ H ⟨ρ, S, p⟩ => by
  obtain ⟨h1, h2, h3⟩ := okG_of hk
  exact p .non σ H [] (S.weak h1 h2 h3) (.fz .non fun _ _ z => nomatch z) fun _ z => nomatch z⟩
theorem ss_if {A B : List Stmt} (hc : SP X C W Γ c Γ1 fb) (ha : SSs X C W Γ1 A Γ2 Γb fr fs) (hb : SSs X C W Γ1 B Γ2 Γb fr gs) : SS X C W Γ (.If c A B pos) Γ2 Γb fr (mIfS fb fs gs) := ⟨psImp (ps_if hc.pt ha.ps hb.ps) fun Dn σ H ⟨ρ, S, p⟩ => by
  refine ⟨C.hid, ρ, S, ?_⟩
  unfold mIfS at p
  cases q : fb ρ with
  | bad => rw [q] at p; exact p
  | exn e ρ' => rw [q] at p; exact fun cls od H' x S' => p cls od σ H' x S'
  | ok b ρ' =>
    rw [q] at p
    dsimp only [R.bind] at p
    intro H1 S1 k1
    cases b with
    | true => rw [if_pos rfl] at p ⊢; exact ⟨ρ', S1, PostS.pre k1 p⟩
    | false => rw [if_neg Bool.false_ne_true] at p ⊢; exact ⟨ρ', S1, PostS.pre k1 p⟩⟩
theorem ss_expr (ha : SE X C W Γ e Γ' fr1 f) (hs : swapsWith e none pos.line X.env = pure false := by rfl) : SS X C W Γ (.Expr e pos) Γ' Γb fr (mDrop f) := ⟨psImp (ps_expr ha.pe hs) fun Dn σ H ⟨ρ, S, p⟩ => by
  refine ⟨C.hid, ρ, S, ?_⟩
  unfold mDrop at p
  cases q : f ρ with
  | bad => rw [q] at p; exact p
  | exn e ρ' => rw [q] at p; exact fun cls od H' x S' => p cls od σ H' x S'
  | ok d ρ' =>
    rw [q] at p
    dsimp only [R.bind] at p
    intro v H1 tm S1 k1 va t1
    exact p σ H1 (S1.forget (fun a ha => List.mem_append_right _ ha) fun _ z => z) ⟨k1.le.trans (.of_same (mask_sub (Ms_subH fun a ha => List.mem_append_right _ ha))), k1.fx⟩⟩
theorem notin_of {Γ : List Nat} {i : Nat} (h : Γ.contains i = false) : i ∉ Γ := fun z => by rw [List.contains_iff_mem.mpr z] at h; cases h
/-- what a store of a value that is read alone asks -/
theorem put_tE {i : Nat} {Dn : Ends} {σ : L2.St} {H : Hp} (hk : okG C.io Γ2 Γ1 = true) (hi : Γ2.contains i = false) (p : tS X.K C W Γ Γ2 Γb fr (mSet i f) Dn σ H) : tE X.K C W Γ Γ1 false f σ H fun x H1 => Dn.nx (σ.set i (some x)) H1 := by
  obtain ⟨ρ, S, p⟩ := p
  refine ⟨C.hid, ρ, S, ?_⟩
  unfold mSet at p
  cases q : f ρ with
  | bad => rw [q] at p; exact p
  | exn e ρ' => rw [q] at p; exact fun cls od H' x S' => p cls od σ H' x S'
  | ok d ρ' =>
    rw [q] at p
    dsimp only [R.bind] at p
    intro v H1 tm S1 k1 va t1
    cases va with
    | fz r hv =>
      obtain ⟨h1, h2, h3⟩ := okG_of hk
      have S2 : ST X.K C C.hid Γ2 ρ' σ H1 := S1.weak h1 h2 h3
      have r2 := r.mono (.of_same (mask_sub (Ms_sub h1)))
      by_cases il : i < ρ'.length
      · rw [if_pos il] at p
        refine p _ H1 (S2.put (notin_of hi) r2 il) ?_
        rw [Ms_set (notin_of hi)]
        exact ST.weakStp (K := X.K) k1 h1
      · rw [if_neg il] at p; exact p.elim
/-- x = e, read alone from now on -/
theorem ss_set (i : Nat) {x : Str} {pos' : Pos} (hN : X.N.Nodup) (ha : SE X C W Γ e Γ1 false f) (hi : X.N[i]? = some x := by rfl) (hx : Loc X.env.scope x := by first | exact Or.inl rfl | exact Or.inr rfl) (hk : okG C.io Γ2 Γ1 = true := by rfl) (hn : Γ2.contains i = false := by rfl)
    (hs : swapsWith e (some (.Name x pos')) pos.line X.env = pure false := by rfl) (hf : X.fn x = true ∨ X.env.scope.names.lookup x = some .local := by first | exact .inl rfl | exact .inr rfl | assumption) : SS X C W Γ (.Assign [.Name x pos'] e pos) Γ2 Γb fr (mSet i f) :=
  ⟨psImp (ps_set hN hi hx ha.pe hs hf) fun Dn σ H p => put_tE hk hn p⟩
theorem obj_val {g : Gx} {H : Hp} {M tm : List Addr} {b : Bool} {d : D} {v : V} (h : Val g H M b d v tm) (ho : isObj d = true) (hb : b = true) : ∃ a, v = .ref a ∧ tm = [a] ∧ Cont g H (mask H M) a d := by
  cases h with
  | fz r hv =>
    cases r with
    | lst _ _ => exact absurd rfl (hv hb _)
    | dK _ _ _ => exact absurd rfl (hv hb _)
    | dT _ _ _ => exact absurd rfl (hv hb _)
    | obj _ _ _ _ => exact absurd rfl (hv hb _)
    | _ => exact absurd ho Bool.false_ne_true
  | fr c => exact ⟨_, rfl, rfl, c⟩
theorem take_tE {i : Nat} {Dn : Ends} {σ : L2.St} {H : Hp} (hk : okG C.io Γ2 Γ1 = true) (hi : Γ2.contains i = false) (p : tS X.K C W Γ (i :: Γ2) Γb fr (mSetO i f) Dn σ H) : tE X.K C W Γ Γ1 true f σ H fun x H1 => Dn.nx (σ.set i (some x)) H1 := by
  obtain ⟨ρ, S, p⟩ := p
  refine ⟨C.hid, ρ, S, ?_⟩
  unfold mSetO at p
  cases q : f ρ with
  | bad => rw [q] at p; exact p
  | exn e ρ' => rw [q] at p; exact fun cls od H' x S' => p cls od σ H' x S'
  | ok d ρ' =>
    rw [q] at p
    dsimp only [R.bind] at p
    intro v H1 tm S1 k1 va t1
    obtain ⟨h1, h2, h3⟩ := okG_of hk
    by_cases il : i < ρ'.length ∧ isObj d = true
    · rw [if_pos il] at p
      obtain ⟨a, rfl, rfl, c⟩ := obj_val va il.2 rfl
      have S2 : ST X.K C (a :: C.hid) Γ2 ρ' σ H1 := S1.weak h1 h2 h3
      have hi' := notin_of hi
      have c2 : Cont (gx X.K C) H1 (mask H1 (Ms σ (a :: C.hid) Γ2)) a d := c.mono (fun _ z => z) (.of_same (mask_sub (Ms_sub h1)))
      have ha : a ∉ C.hid := fun z => t1 a (by simp) (mem_Ms.mpr (.inl z))
      refine p _ H1 (S2.take hi' c2 il.1 ha fun _ z => z) ⟨?_, k1.fx⟩
      have il' : i < σ.length := by rw [← S2.len]; exact il.1
      have si : sa (σ.set i (some (.ref a))) i = a := sa_eq (List.getElem?_set_self il')
      refine k1.le.trans (.of_same (mask_sub fun b hb => ?_))
      unfold Ms at hb ⊢
      rw [List.map_cons, si, map_sa_set hi'] at hb
      rcases List.mem_append.mp hb with hb | hb
      · exact List.mem_append_left _ (List.mem_cons_of_mem _ hb)
      · rcases List.mem_cons.mp hb with rfl | hb
        · exact List.mem_append_left _ List.mem_cons_self
        · obtain ⟨j, hj, rfl⟩ := List.mem_map.mp hb
          exact List.mem_append_right _ (List.mem_map.mpr ⟨j, h1 j hj, rfl⟩)
    · rw [if_neg il] at p; exact p.elim
/-- x = e, owned from now on -/
theorem ss_setO (i : Nat) {x : Str} {pos' : Pos} (hN : X.N.Nodup) (ha : SE X C W Γ e Γ1 true f) (hi : X.N[i]? = some x := by rfl) (hx : Loc X.env.scope x := by first | exact Or.inl rfl | exact Or.inr rfl) (hk : okG C.io Γ2 Γ1 = true := by rfl) (hn : Γ2.contains i = false := by rfl)
    (hs : swapsWith e (some (.Name x pos')) pos.line X.env = pure false := by rfl) (hf : X.fn x = true ∨ X.env.scope.names.lookup x = some .local := by first | exact .inl rfl | exact .inr rfl | assumption) : SS X C W Γ (.Assign [.Name x pos'] e pos) (i :: Γ2) Γb fr (mSetO i f) :=
  ⟨psImp (ps_set hN hi hx ha.pe hs hf) fun Dn σ H p => take_tE hk hn p⟩
end
end Ip
namespace Ip
open PySem L2 PySem.Spec PyProof.Rows

/-! ## a def's semantics -/
inductive FR where
  | ok (d : D) (outs : List D) | exn (e : Ex) (outs : List D) | bad
abbrev FSem := List D → FR
def outsOf (io : List Nat) (ρ : Env) : List D := io.filterMap fun i => ρ.getD i none
def fnEnd (io : List Nat) : R Fl → FR
  | .ok (.rt d) ρ => .ok d (outsOf io ρ)
  | .ok .nx ρ => .ok .non (outsOf io ρ)
  | .exn e ρ => .exn e (outsOf io ρ)
  | _ => .bad
def env0 (n : Nat) (ds : List D) : Env := ds.map some ++ List.replicate (n - ds.length) none
def fnSem (n : Nat) (io : List Nat) (body : Env → R Fl) : FSem := fun ds => fnEnd io (body (env0 n ds))

structure CArgs (g : Gx) (io : List Nat) (ds : List D) (vs : List V) (H : Hp) (hid ioA : List Addr) : Prop where
  len : ds.length = vs.length
  ioa : io.map (fun i => vs[i]?) = ioA.map fun a => some (V.ref a)
  nd : ioA.Nodup
  dis : ∀ a ∈ ioA, a ∉ hid
  trk : ∀ a ∈ hid, Hd H a
  fz : ∀ i d, i ∉ io → ds[i]? = some d → ∃ v, vs[i]? = some v ∧ RV g (mask H (hid ++ ioA)) d v
  own : ∀ i, i ∈ io → ∃ d a, ds[i]? = some d ∧ vs[i]? = some (.ref a) ∧ Cont g H (mask H (hid ++ ioA)) a d
structure CEnd (g : Gx) (io : List Nat) (vs : List V) (H : Hp) (hid ioA : List Addr) (outs : List D) (tm : List Addr) (H' : Hp) : Prop where
  le : HLe (mask H (hid ++ ioA)) (mask H' (hid ++ ioA))
  fx : ∀ a ∈ hid, H' a = H a
  gro : ∀ a, H a ≠ none → H' a ≠ none
  olen : outs.length = io.length
  own : ∀ (k i : Nat) (d : D), io[k]? = some i → outs[k]? = some d → ∃ a, vs[i]? = some (.ref a) ∧ Cont g H' (mask H' (tm ++ (hid ++ ioA))) a d
  tn : ∀ a ∈ tm, H a = none
def PostF (g : Gx) (io : List Nat) (fr : Bool) (vs : List V) (H : Hp) (hid ioA : List Addr) (Q : VK) (E : XK) : FR → Prop
  | .ok d outs => ∀ v H' tm, CEnd g io vs H hid ioA outs tm H' → Val g H' (tm ++ (hid ++ ioA)) fr d v tm → Q v H'
  | .exn e outs => ∀ cls od H', CEnd g io vs H hid ioA outs [] H' → ExR g H' (mask H' (hid ++ ioA)) e cls od → E cls od H'
  | .bad => False
/-- the promise of a def whose semantics is F: n parameters, those in io may be changed -/
def spF (K : PySem.W.Frag) (ct : Str → Option Addr) (n : Nat) (io : List Nat) (fr : Bool) (F : FSem) : Sp := fun vs H Q E => ∃ (ds : List D) (hid ioA : List Addr),
  vs.length = n ∧ CArgs ⟨K, ct⟩ io ds vs H hid ioA ∧ PostF ⟨K, ct⟩ io fr vs H hid ioA Q E (F ds)

theorem outs_get {K : PySem.W.Frag} {C : Ac} {hid : List Addr} {Γ : List Nat} {ρ : Env} {σ : L2.St} {H : Hp} (S : ST K C hid Γ ρ σ H) : ∀ (io : List Nat), (∀ i ∈ io, i ∈ Γ) → (outsOf io ρ).length = io.length ∧
    ∀ (k i : Nat) (d : D), io[k]? = some i → (outsOf io ρ)[k]? = some d → ρ[i]? = some (some d)
  | [], _ => ⟨rfl, fun k i d h => by simp at h⟩
  | j :: r, hs => by
    obtain ⟨h1, h2⟩ := outs_get S r fun i hi => hs i (List.mem_cons_of_mem _ hi)
    obtain ⟨dj, ej, _, _⟩ := S.ow j (hs j List.mem_cons_self)
    have e : outsOf (j :: r) ρ = dj :: outsOf r ρ := by
      unfold outsOf
      rw [List.filterMap_cons, List.getD_eq_getElem?_getD, ej]
      rfl
    rw [e]
    refine ⟨by rw [List.length_cons, List.length_cons, h1], fun k i d hk ho => ?_⟩
    cases k with
    | zero =>
      have : j = i := Option.some.inj hk
      subst this
      have : dj = d := Option.some.inj ho
      subst this
      exact ej
    | succ k => exact h2 k i d (by simpa using hk) (by simpa using ho)
theorem map_some_inj {α β : Type} {f : α → Option β} {g' : α → β} : ∀ {l : List α} {m : List β}, (∀ a ∈ l, f a = some (g' a)) → l.map f = m.map some → l.map g' = m
  | [], [], _, _ => rfl
  | [], _ :: _, _, h => by simp at h
  | _ :: _, [], _, h => by simp at h
  | a :: l, b :: m, hf, h => by
    rw [List.map_cons, List.map_cons, hf a List.mem_cons_self] at h
    injection h with h1 h2
    rw [List.map_cons, Option.some.inj h1, map_some_inj (fun a ha => hf a (List.mem_cons_of_mem _ ha)) h2]
theorem start_get {N : List Str} {vs : List V} {i : Nat} {v : V} (h : vs[i]? = some v) : (L2.start N vs)[i]? = some (some v) := by
  unfold L2.start
  have hi := (List.getElem?_eq_some_iff.mp h).1
  rw [List.getElem?_append_left (by simpa using hi), List.getElem?_map, h]
  rfl
theorem env0_get {n : Nat} {ds : List D} {i : Nat} {d : D} (h : ds[i]? = some d) : (env0 n ds)[i]? = some (some d) := by
  unfold env0
  have hi := (List.getElem?_eq_some_iff.mp h).1
  rw [List.getElem?_append_left (by simpa using hi), List.getElem?_map, h]
  rfl
theorem env0_some {n : Nat} {ds : List D} {i : Nat} {d : D} (h : (env0 n ds)[i]? = some (some d)) : ds[i]? = some d := by
  unfold env0 at h
  by_cases hi : i < ds.length
  · rw [List.getElem?_append_left (by simpa using hi), List.getElem?_map] at h
    cases e : ds[i]? with
    | none => rw [e] at h; cases h
    | some a => rw [e] at h; cases h; rfl
  · rw [List.getElem?_append_right (by simpa using hi), List.getElem?_replicate] at h
    split at h <;> cases h

theorem ST.begin {K : PySem.W.Frag} {ct : Str → Option Addr} {N : List Str} {io : List Nat} {ds : List D} {vs : List V} {H : Hp} {hid ioA : List Addr} (A : CArgs ⟨K, ct⟩ io ds vs H hid ioA) (hl : vs.length ≤ N.length) :
    ST K ⟨ct, H, hid, io, ioA⟩ hid io (env0 N.length ds) (L2.start N vs) H ∧ io.map (sa (L2.start N vs)) = ioA := by
  have pin : io.map (sa (L2.start N vs)) = ioA := by
    refine map_some_inj (f := fun i => match vs[i]? with | some (V.ref a) => some a | _ => none) (fun i hi => ?_) ?_
    · obtain ⟨d, a, _, e2, _⟩ := A.own i hi
      rw [e2]
      exact congrArg some (sa_eq (start_get e2)).symm
    · have h := congrArg (List.map fun (o : Option V) => match o with | some (V.ref a) => some a | _ => none) A.ioa
      rw [List.map_map, List.map_map] at h
      exact h
  have hM : Ms (L2.start N vs) hid io = hid ++ ioA := by unfold Ms; rw [pin]
  refine ⟨⟨?_, fun _ z => z, A.trk, fun a ha => .inl ha, by rw [pin]; exact A.nd, fun i hi => ?_, fun i hi => ?_, .refl _, fun _ _ => rfl, fun _ z => z, fun _ z => z, pin, fun i d hi e => ?_, fun i hi => ?_⟩, pin⟩
  · unfold env0 L2.start
    rw [List.length_append, List.length_append, List.length_map, List.length_map, List.length_replicate, List.length_replicate, A.len]
  · exact A.dis _ (by rw [← pin]; exact List.mem_map_of_mem hi)
  · exact .inl (by rw [← pin]; exact List.mem_map_of_mem hi)
  · obtain ⟨v, e1, r⟩ := A.fz i d hi (env0_some e)
    exact ⟨v, start_get e1, by rw [hM]; exact r⟩
  · obtain ⟨d, a, e1, e2, c⟩ := A.own i hi
    have es := sa_eq (start_get (N := N) e2)
    exact ⟨d, env0_get e1, by rw [es]; exact start_get e2, by rw [hM, es]; exact c⟩
theorem ST.cend {K : PySem.W.Frag} {ct : Str → Option Addr} {io : List Nat} {ds : List D} {vs : List V} {H : Hp} {hid ioA : List Addr} (A : CArgs ⟨K, ct⟩ io ds vs H hid ioA) {tm : List Addr} {ρ : Env} {σ : L2.St} {H' : Hp}
    (S : ST K ⟨ct, H, hid, io, ioA⟩ (tm ++ hid) io ρ σ H') (ht : ∀ a ∈ tm, a ∉ Ms σ hid io) : CEnd ⟨K, ct⟩ io vs H hid ioA (outsOf io ρ) tm H' ∧ Ms σ (tm ++ hid) io = tm ++ (hid ++ ioA) ∧ Ms σ hid io = hid ++ ioA := by
  have pin : io.map (sa σ) = ioA := S.pin
  have hM : Ms σ (tm ++ hid) io = tm ++ (hid ++ ioA) := by unfold Ms; rw [pin, List.append_assoc]
  obtain ⟨o1, o2⟩ := outs_get S io fun _ z => z
  refine ⟨⟨S.frm, S.frh, S.gro, o1, fun k i d hk ho => ?_, fun a ha => ?_⟩, hM, by unfold Ms; rw [pin]⟩
  · have e1 := o2 k i d hk ho
    have hi := List.mem_of_getElem? hk
    obtain ⟨d', e2, e3, c⟩ := S.ow i hi
    rw [e1] at e2; cases e2
    refine ⟨sa σ i, ?_, by rw [← hM]; exact c⟩
    have h := congrArg (fun l => l[k]?) A.ioa
    simp only [List.getElem?_map, hk, Option.map_some] at h
    rw [← pin] at h
    simp only [List.getElem?_map, hk, Option.map_some] at h
    exact Option.some.inj h
  · rcases S.tmp a (List.mem_append_left _ ha) with z | z
    · exact absurd (mem_Ms.mpr (.inl z)) (ht a ha)
    · exact z

/-- the body of a def as its semantics tells -/
theorem body_sp {X : Cx} {K : PySem.W.Frag} {ct : Str → Option Addr} {N : List Str} {io : List Nat} {n : Nat} {fr : Bool} {f : Env → R Fl} {bd : List Stmt} {vs : List V} {H : Hp} {Q : VK} {E : XK} {W : WX} (hX : X.K = K) (hW : ∀ cls od σ H', E cls od H' → W cls od σ H')
    (hb : ∀ (hid ioA : List Addr), SSs X ⟨ct, H, hid, io, ioA⟩ W io bd io [] fr f) (hl : n ≤ N.length) (h : spF K ct n io fr (fnSem N.length io f) vs H Q E) :
    ∃ t, PSs X bd t ∧ t { nx := fun _ H' => Q .non H', rt := Q } (L2.start N vs) H := by
  subst hX
  obtain ⟨ds, hid, ioA, hn, A, p⟩ := h
  refine ⟨_, (hb hid ioA).ps, ?_⟩
  obtain ⟨S, pin⟩ := ST.begin (N := N) A (by rw [hn]; exact hl)
  refine ⟨_, S, ?_⟩
  unfold fnSem at p
  cases q : f (env0 N.length ds) with
  | bad => rw [q] at p; exact p
  | exn e ρ' =>
    rw [q] at p
    intro cls od σ' H' x S'
    obtain ⟨c, _, hM⟩ := ST.cend (tm := []) A S' fun _ z => nomatch z
    exact hW _ _ _ _ (p cls od H' c (by rw [← hM]; exact x))
  | ok fl ρ' =>
    rw [q] at p
    cases fl with
    | bk => exact (show False from p).elim
    | ct => exact (show False from p).elim
    | nx =>
      intro σ' H' S' _
      obtain ⟨c, _, hM⟩ := ST.cend (tm := []) A S' fun _ z => nomatch z
      exact p .non H' [] c (.fz .non fun _ _ z => nomatch z)
    | rt d =>
      intro v σ' H' tm S' va ht
      obtain ⟨c, hM, _⟩ := ST.cend A S' ht
      exact p v H' tm c (by rw [← hM]; exact va)

theorem spF_len {K : PySem.W.Frag} {ct : Str → Option Addr} {n : Nat} {io : List Nat} {fr : Bool} {F : FSem} {ps : List Str} (h : n = ps.length) : ∀ vs H Q E, spF K ct n io fr F vs H Q E → vs.length = ps.length := fun vs H Q E ⟨_, _, _, e, _⟩ => e.trans h
/-- THE RULE of a def -/
theorem def_ok {P : Program} {w : World} {K : PySem.W.Frag} {mg : Str → Option Value} {base : Heap} {x qual : Str} {st : Stmt} {f : Addr} {fd : FuncData} {N ps : List Str} {k n : Nat} {io : List Nat} {fr : Bool} {ct : Str → Option Addr} {sem : Env → R Fl}
    (F : Fun K x qual st f fd) (S : FnScope N ps (defScope st)) (hn : n = ps.length)
    (hb : ∀ (cdv : Value) (A : Around) (outer : List PySem.Env) (s : Shared) (H : Hp) (E : XK) (hid ioA : List Addr), Room k (A.deeper (envOfC qual (defScope st) s.heap.objs.size f cdv)) →
      SSs (cxOf (L2.CX P w) P w K mg base N qual (defScope st) f cdv A outer s H E) ⟨ct, H, hid, io, ioA⟩ (fun cls od _ H' => E cls od H') io (defBody st) io [] fr sem) :
    FnOk P w K mg base (L2.CX P w) (k + 1) f fd ps (spF K ct n io fr (fnSem N.length io sem)) := by
  refine F.okX S (spF_len hn) fun cdv A outer s H vs Q E hr h => ?_
  refine body_sp (X := cxOf (L2.CX P w) P w K mg base N qual (defScope st) f cdv A outer s H E) (W := fun cls od _ H' => E cls od H') rfl (fun _ _ _ _ h => h) (fun hid ioA => hb cdv A outer s H E hid ioA hr) ?_ h
  have := congrArg List.length S.pre
  rw [List.length_take] at this
  omega
end Ip
namespace Ip
open PySem L2 PySem.Spec PyProof.Rows

theorem HLe.hold {H H' : Hp} {M tm : List Addr} (le : HLe (mask H M) (mask H' M)) (tn : ∀ a ∈ tm, H a = none) : HLe (mask H M) (mask H' (tm ++ M)) := by
  have out : ∀ b o, mask H M b = some o → b ∉ tm := fun b o e z => by
    have := (mask_some e).2
    rw [tn b z] at this; cases this
  have go : ∀ b u, b ∉ tm → mask H' M b = some u → mask H' (tm ++ M) b = some u := fun b u n e => by
    obtain ⟨h1, h2⟩ := mask_some e
    rw [mask_out (fun z => (List.mem_append.mp z).elim n h1)]; exact h2
  refine ⟨fun b o e n => go b o (out b o e) (le.o b o e n), fun b kv e => ?_, fun b kv e => ?_⟩
  · have nb : b ∉ tm := e.elim (fun e => out b _ e) fun ⟨o, e⟩ => out b _ e
    exact (le.k b kv e).elim (fun e => .inl (go b _ nb e)) fun ⟨o, e⟩ => .inr ⟨o, go b _ nb e⟩
  · have nb : b ∉ tm := e.elim (fun e => out b _ e) fun ⟨o, e⟩ => out b _ e
    exact (le.t b kv e).elim (fun e => .inl (go b _ nb e)) fun ⟨o, e⟩ => .inr ⟨o, go b _ nb e⟩

section
variable {K : PySem.W.Frag} {C : Ac} {hid tm : List Addr} {Γ : List Nat} {ρ ρ' : Env} {σ : L2.St} {H H' : Hp}
/-- the heap goes on, owned objects may change, temporaries come -/
theorem ST.goes (S : ST K C hid Γ ρ σ H) (le : HLe (mask H (Ms σ hid Γ)) (mask H' (Ms σ hid Γ))) (fx : ∀ a ∈ hid, H' a = H a) (gro : ∀ a, H a ≠ none → H' a ≠ none) (tn : ∀ a ∈ tm, H a = none) (tt : ∀ a ∈ tm, Hd H' a)
    (hl : ρ'.length = ρ.length) (hs : ∀ j, j ∉ Γ → ρ'[j]? = ρ[j]?) (ho : ∀ j, j ∈ Γ → (ρ'[j]? = ρ[j]? ∧ H' (sa σ j) = H (sa σ j)) ∨ ∃ d, ρ'[j]? = some (some d) ∧ Cont (gx K C) H' (mask H' (tm ++ Ms σ hid Γ)) (sa σ j) d) :
    ST K C (tm ++ hid) Γ ρ' σ H' ∧ Stp (Ms σ hid Γ) (Ms σ (tm ++ hid) Γ) hid H H' := by
  have eM : Ms σ (tm ++ hid) Γ = tm ++ Ms σ hid Γ := by unfold Ms; rw [List.append_assoc]
  have leh := le.hold tn
  have h0 : ∀ a ∈ tm, C.H0 a = none := fun a ha => by
    cases q : C.H0 a with
    | none => rfl
    | some u => exact absurd (tn a ha) (S.gro a (by rw [q]; simp))
  -- the frame
  have out : ∀ b, b ∉ C.hid ++ C.ioA → C.H0 b ≠ none → b ∉ Ms σ hid Γ := fun b hb hn hM => by
    rcases mem_Ms.mp hM with q | ⟨i, hi, rfl⟩
    · rcases S.tmp b q with z | z
      · exact hb (List.mem_append_left _ z)
      · exact hn z
    · rcases S.own i hi with z | z
      · exact hb (List.mem_append_right _ z)
      · exact hn z
  have frm : HLe (mask C.H0 (C.hid ++ C.ioA)) (mask H' (C.hid ++ C.ioA)) := by
    refine ⟨fun b o e n => ?_, fun b kv e => ?_, fun b kv e => ?_⟩
    · obtain ⟨h1, h2⟩ := mask_some e
      have e2 := (mask_some (S.frm.o b o e n)).2
      have hM := out b h1 (by rw [h2]; simp)
      have := le.o b o (by rw [mask_out hM]; exact e2) n
      rw [mask_out hM] at this
      rw [mask_out h1]; exact this
    · have hb : b ∉ C.hid ++ C.ioA ∧ C.H0 b ≠ none := by
        rcases e with e | ⟨o, e⟩ <;> exact ⟨(mask_some e).1, by rw [(mask_some e).2]; simp⟩
      have hM := out b hb.1 hb.2
      have r2 : Rd (mask H (Ms σ hid Γ)) b (.dK kv) := by
        rcases S.frm.k b kv e with r | ⟨o, r⟩
        · exact .inl (by rw [mask_out hM]; exact (mask_some r).2)
        · exact .inr ⟨o, by rw [mask_out hM]; exact (mask_some r).2⟩
      rcases le.k b kv r2 with r | ⟨o, r⟩
      · exact .inl (by rw [mask_out hb.1]; exact (mask_some r).2)
      · exact .inr ⟨o, by rw [mask_out hb.1]; exact (mask_some r).2⟩
    · have hb : b ∉ C.hid ++ C.ioA ∧ C.H0 b ≠ none := by
        rcases e with e | ⟨o, e⟩ <;> exact ⟨(mask_some e).1, by rw [(mask_some e).2]; simp⟩
      have hM := out b hb.1 hb.2
      have r2 : Rd (mask H (Ms σ hid Γ)) b (.dT kv) := by
        rcases S.frm.t b kv e with r | ⟨o, r⟩
        · exact .inl (by rw [mask_out hM]; exact (mask_some r).2)
        · exact .inr ⟨o, by rw [mask_out hM]; exact (mask_some r).2⟩
      rcases le.t b kv r2 with r | ⟨o, r⟩
      · exact .inl (by rw [mask_out hb.1]; exact (mask_some r).2)
      · exact .inr ⟨o, by rw [mask_out hb.1]; exact (mask_some r).2⟩
  refine ⟨⟨hl.trans S.len, fun a ha => List.mem_append_right _ (S.sub a ha), fun a ha => ?_, fun a ha => ?_, S.nd, fun i hi q => ?_, S.own, frm, fun a ha => (fx a (S.sub a ha)).trans (S.frh a ha), fun a ha => gro a (S.gro a ha), S.io, S.pin, fun j d hj e => ?_, fun j hj => ?_⟩,
    by rw [eM]; exact leh, fx⟩
  · rcases List.mem_append.mp ha with ha | ha
    · exact tt a ha
    · exact (S.trk a ha).of (fx a ha)
  · rcases List.mem_append.mp ha with ha | ha
    · exact .inr (h0 a ha)
    · exact S.tmp a ha
  · rcases List.mem_append.mp q with q | q
    · obtain ⟨d, _, _, c⟩ := S.ow i hi
      exact c.trk (tn _ q)
    · exact S.dis i hi q
  · rw [hs j hj] at e
    obtain ⟨v, e1, r⟩ := S.sl j d hj e
    exact ⟨v, e1, by rw [eM]; exact r.mono leh⟩
  · obtain ⟨d, e1, e2, c⟩ := S.ow j hj
    rw [eM]
    rcases ho j hj with ⟨z1, z2⟩ | ⟨d', z1, z2⟩
    · exact ⟨d, z1.trans e1, e2, c.mono (fun o e => z2.trans e) leh⟩
    · exact ⟨d', z1, e2, z2⟩
end

/-! ## calls of defs -/
structure Fn (P : Program) (w : World) (K : PySem.W.Frag) (mg : Str → Option Value) (base : Heap) (ct : Str → Option Addr) (x : Str) (k n : Nat) (io : List Nat) (fr : Bool) (F : FSem) : Prop where
  ex : ∃ (f : Addr) (fd : FuncData) (ps : List Str), FnOk P w K mg base (L2.CX P w) k f fd ps (spF K ct n io fr F) ∧ mg x = some (.ref f) ∧ PySem.W.keepIn K (.ref f) = true ∧ Binds K fd ps []
def frR (ρ : Env) : FR → R D
  | .ok d _ => .ok d ρ
  | .exn e _ => .exn e ρ
  | .bad => .bad
def frR1 (i : Nat) (ρ : Env) : FR → R D
  | .ok d [c] => .ok d (ρ.set i (some c))
  | .exn e [c] => .exn e (ρ.set i (some c))
  | _ => .bad
def mCall0 (F : FSem) (g : Env → R (List D)) : Env → R D := fun ρ => (g ρ).bind fun ds ρ1 => frR ρ1 (F ds)
def mCall1 (F : FSem) (p i : Nat) (g : Env → R (List D)) : Env → R D := fun ρ => (g ρ).bind fun ds ρ1 => match ρ1.getD i none with
  | some c => frR1 i ρ1 (F (ds.set p c))
  | none => .bad
theorem RVs.at {g : Gx} {H : Hp} {ds : List D} {vs : List V} (r : RVs g H ds vs) : ∀ (i : Nat) (d : D), ds[i]? = some d → ∃ v, vs[i]? = some v ∧ RV g H d v := fun i d e => r.get e
theorem val_trk {g : Gx} {H : Hp} {M tm : List Addr} {b : Bool} {d : D} {v : V} (h : Val g H M b d v tm) : ∀ a ∈ tm, Hd H a := by
  cases h with
  | fz _ _ => exact fun _ z => nomatch z
  | fr c => intro a ha; rw [List.mem_singleton.mp ha]; exact c.hd

section
variable {X : Cx} {C : Ac} {W : WX} {Γ Γ1 Γ' : List Nat} {fr : Bool} {e : Expr} {es : List Expr} {g : Env → R (List D)} {x : Str} {p pos : Pos} {k n : Nat} {F : FSem}
/-- what the callee's promise asks, from the caller's state (no parameter is changed) -/
theorem sp_call0 {hid tm : List Addr} {ρ1 : Env} {σ : L2.St} {H H1 : Hp} {Q : VK} {ds : List D} {vs : List V} (hn : n = ds.length)
    (S1 : ST X.K C (tm ++ hid) Γ' ρ1 σ H1) (hs : ∀ a ∈ C.hid, a ∈ hid) (k1 : Stp (Ms σ hid Γ) (Ms σ (tm ++ hid) Γ') hid H H1) (t1 : ∀ a ∈ tm, a ∉ Ms σ hid Γ') (ks : Kepts (gx X.K C) H1 (Ms σ (tm ++ hid) Γ') tm ds vs)
    (hio : okG C.io C.io Γ' = true) (q : PostE X.K C W Γ Γ' fr hid σ H Q (frR ρ1 (F ds))) : spF X.K C.ct n [] fr F vs H1 Q (WE W σ) := by
  have sub : ∀ b ∈ Ms σ hid Γ', b ∈ Ms σ (tm ++ hid) Γ' := Ms_subH fun a ha => List.mem_append_right _ ha
  have S2 := S1.forget (fun a ha => List.mem_append_right _ ha) hs
  have rv : RVs (gx X.K C) (mask H1 (Ms σ hid Γ')) ds vs := ks.rv sub t1
  have k2 : Stp (Ms σ hid Γ) (Ms σ hid Γ') hid H H1 := ⟨k1.le.trans (.of_same (mask_sub sub)), k1.fx⟩
  refine ⟨ds, Ms σ hid Γ', [], ks.length ▸ hn.symm, ⟨ks.length, rfl, List.nodup_nil, (fun _ z => nomatch z), S2.hdM, fun i d _ e => ?_, (fun i z => nomatch z)⟩, ?_⟩
  · rw [List.append_nil]; exact rv.at i d e
  · -- behind the call
    have go : ∀ {outs : List D} {tm' : List Addr} {H' : Hp}, CEnd (gx X.K C) [] vs H1 (Ms σ hid Γ') [] outs tm' H' → (∀ a ∈ tm', Hd H' a) → ST X.K C (tm' ++ hid) Γ' ρ1 σ H' ∧ Stp (Ms σ hid Γ') (Ms σ (tm' ++ hid) Γ') hid H1 H' := by
      intro outs tm' H' c tt
      have le := c.le
      rw [List.append_nil] at le
      exact S2.goes le (fun a ha => c.fx a (mem_Ms.mpr (.inl ha))) c.gro c.tn tt rfl (fun _ _ => rfl) fun j hj => .inl ⟨rfl, c.fx _ (mem_Ms.mpr (.inr ⟨j, hj, rfl⟩))⟩
    cases qq : F ds with
    | bad => rw [qq] at q; exact q
    | exn e outs =>
      rw [qq] at q
      intro cls od H' c xr
      obtain ⟨S3, _⟩ := go c fun _ z => nomatch z
      obtain ⟨h1, h2, h3⟩ := okG_of hio
      have S4 : ST X.K C C.hid C.io ρ1 σ H' := (ST.forget S3 (hid' := C.hid) (fun a ha => hs a ha) fun _ z => z).weak h1 h2 h3
      refine q cls od H' ?_ S4
      rw [List.append_nil] at xr
      obtain ⟨Cc, x1, x2, x3⟩ := xr
      refine ⟨Cc, x1, x2, ?_⟩
      cases qf : e.fld with
      | none => rw [qf] at x3; exact x3
      | some d =>
        rw [qf] at x3
        obtain ⟨dd, v, y1, y2, y3⟩ := x3
        exact ⟨dd, v, y1, y2, y3.mono (.of_same (mask_sub fun a ha => by
          rcases mem_Ms.mp ha with z | ⟨j, hj, z⟩
          · exact mem_Ms.mpr (.inl (hs a z))
          · exact mem_Ms.mpr (.inr ⟨j, h1 j hj, z⟩)))⟩
    | ok d outs =>
      rw [qq] at q
      intro v H' tm' c va
      obtain ⟨S3, k3⟩ := go c (val_trk va)
      refine q v H' tm' S3 (k2.trans k3 fun _ z => z) ?_ fun a ha z => S2.none_out (c.tn a ha) z
      rw [List.append_nil] at va
      have eM : Ms σ (tm' ++ hid) Γ' = tm' ++ Ms σ hid Γ' := by unfold Ms; rw [List.append_assoc]
      rw [eM]; exact va
theorem call0_tE {t : TE} {σ : L2.St} {H : Hp} {Q : VK} (ha : SA X C W Γ es Γ' g) (hn : n = es.length) (hio : okG C.io C.io Γ' = true) (p : tE X.K C W Γ Γ' fr (mCall0 F g) σ H Q) :
    tAs X.K C W Γ Γ' g σ H fun vs H1 => spF X.K C.ct n [] fr F vs H1 Q (WE W σ) := by
  obtain ⟨hid, ρ, S, p⟩ := p
  refine ⟨hid, ρ, S, ?_⟩
  unfold mCall0 at p
  cases q : g ρ with
  | bad => rw [q] at p; exact p
  | exn e ρ' => rw [q] at p; exact p
  | ok ds ρ1 =>
    rw [q] at p
    exact fun vs H1 tm S1 k1 t1 ks => sp_call0 (by rw [ha.len _ _ _ q]; exact hn) S1 S.sub k1 t1 ks hio p
/-- f(e, ..) of a def that changes no argument -/
theorem se_call0 (G : Fn X.prog X.w X.K X.mg X.base C.ct x k n [] fr F) (tk : Takes X W) (hr : Room k X.A) (ha : SA X C W Γ (e :: es) Γ' g) (hn : n = (e :: es).length := by rfl) (hg : Gl X x := by rfl) (hio : okG C.io C.io Γ' = true := by rfl) (hdb : (x == ("__debug__" : Str)) = false := by decide)
    (he : starEach (e :: es) X.env = (false, eval e X.env) :: starEach es X.env := by rfl) (hpl : (backTo pos (starEach es X.env)).any (·.1) = false := by rfl) : SE X C W Γ (.Call (.Name x p) (e :: es) [] pos) Γ' fr (mCall0 F g) := by
  obtain ⟨f, fd, ps, G, hm, hk, hb⟩ := G.ex
  exact ⟨peImp (pe_callS G hr hg hm hk hb (passAt tk) ha.pa hdb he hpl) fun σ H Q p => call0_tE (t := fun _ _ _ => True) ha hn hio p⟩

/-! ### an argument that is changed -/
inductive K1 (g : Gx) (H : Hp) (M tm : List Addr) (a : Addr) : Nat → List D → List V → Prop where
  | here {d : D} {ds : List D} {vs : List V} : Kepts g H M tm ds vs → K1 g H M tm a 0 (d :: ds) (.ref a :: vs)
  | cons {p : Nat} {d : D} {v : V} {ds : List D} {vs : List V} : Kept g H M tm d v → K1 g H M tm a p ds vs → K1 g H M tm a (p + 1) (d :: ds) (v :: vs)
def PostA1 (K : PySem.W.Frag) (C : Ac) (W : WX) (p i : Nat) (Γ Γ' : List Nat) (hid : List Addr) (σ : L2.St) (H : Hp) (Q : List V → Hp → Prop) : R (List D) → Prop
  | .ok ds ρ' => ∀ vs H' tm, ST K C (tm ++ hid) Γ' ρ' σ H' → Stp (Ms σ hid Γ) (Ms σ (tm ++ hid) Γ') hid H H' → (∀ a ∈ tm, a ∉ Ms σ hid Γ') → K1 (gx K C) H' (Ms σ (tm ++ hid) Γ') tm (sa σ i) p ds vs → Q vs H'
  | .exn e ρ' => ∀ cls od H', ExR (gx K C) H' (mask H' (Ms σ C.hid C.io)) e cls od → ST K C C.hid C.io ρ' σ H' → W cls od σ H'
  | .bad => False
structure SA1 (X : Cx) (C : Ac) (W : WX) (p i : Nat) (Γ : List Nat) (es : List Expr) (Γ' : List Nat) (f : Env → R (List D)) : Prop where
  pa : PA X es fun σ H Q => ∃ hid ρ, ST X.K C hid Γ ρ σ H ∧ PostA1 X.K C W p i Γ Γ' hid σ H Q (f ρ)
  len : ∀ ρ ds ρ', f ρ = .ok ds ρ' → ds.length = es.length
def mIo (g : Env → R (List D)) : Env → R (List D) := fun ρ => (g ρ).bind fun ds ρ' => .ok (.non :: ds) ρ'
theorem sa_io (i : Nat) {y : Str} {yp : Pos} (hr : SA X C W Γ es Γ' g) (hN : X.N[i]? = some y := by rfl) (hv : Vis X.env.scope y := by first | exact Or.inl rfl | exact Or.inr (Or.inl rfl) | exact Or.inr (Or.inr rfl)) (hi : Γ.contains i = true := by rfl)
    (hd : (y == ("__debug__" : Str)) = false := by decide) (hcd : (y == ("__classdict__" : Str)) = false := by decide) (hs : starEach (.Name y yp :: es) X.env = (false, eval (.Name y yp) X.env) :: starEach es X.env := by rfl) : SA1 X C W 0 i Γ (.Name y yp :: es) Γ' (mIo g) := by
  refine ⟨paImp (pa_cons (pe_var hN hv hd hcd) hr.pa hs) fun σ H Q ⟨hid, ρ, S, p⟩ => ?_, fun ρ ds ρ' e => ?_⟩
  · obtain ⟨d, e1, e2, c⟩ := S.ow i (List.contains_iff_mem.mp hi)
    refine ⟨_, e2, hid, ρ, S, ?_⟩
    unfold mIo at p
    cases q : g ρ with
    | bad => rw [q] at p; exact p
    | exn e ρ' => rw [q] at p; exact p
    | ok ds ρ1 =>
      rw [q] at p
      exact fun vs H1 tm S1 k1 t1 ks => p _ H1 tm S1 k1 t1 (.here ks)
  · unfold mIo at e
    cases q : g ρ with
    | bad => rw [q] at e; exact nomatch e
    | exn x ρ' => rw [q] at e; exact nomatch e
    | ok ds2 ρ2 =>
      rw [q] at e
      cases e
      rw [List.length_cons, List.length_cons, hr.len _ _ _ q]
theorem sa1_cons {a : Expr} {fr1 : Bool} {f : Env → R D} {p i : Nat} (ha : SE X C W Γ a Γ1 fr1 f) (hr : SA1 X C W p i Γ1 es Γ' g) (hs : starEach (a :: es) X.env = (false, eval a X.env) :: starEach es X.env := by rfl) : SA1 X C W (p + 1) i Γ (a :: es) Γ' (mCons f g) := by
  refine ⟨paImp (pa_cons ha.pe hr.pa hs) fun σ H Q ⟨hid, ρ, S, p⟩ => ⟨hid, ρ, S, ?_⟩, fun ρ ds ρ' e => ?_⟩
  · unfold mCons at p
    cases q : f ρ with
    | bad => rw [q] at p; exact p
    | exn e ρ' => rw [q] at p; exact p
    | ok d ρ1 =>
      rw [q] at p
      dsimp only [R.bind] at p
      intro v H1 tm1 S1 k1 va t1
      refine ⟨tm1 ++ hid, ρ1, S1, ?_⟩
      cases q2 : g ρ1 with
      | bad => rw [q2] at p; exact p
      | exn e ρ' => rw [q2] at p; exact p
      | ok ds ρ2 =>
        rw [q2] at p
        dsimp only at p
        intro vs H2 tm2 S2 k2 t2 ks
        have e : tm2 ++ (tm1 ++ hid) = (tm2 ++ tm1) ++ hid := (List.append_assoc ..).symm
        rw [e] at S2 k2 ks
        have upk : ∀ {d : D} {v : V}, Kept (gx X.K C) H2 (Ms σ ((tm2 ++ tm1) ++ hid) Γ') tm2 d v → Kept (gx X.K C) H2 (Ms σ ((tm2 ++ tm1) ++ hid) Γ') (tm2 ++ tm1) d v := by
          intro d v k
          rcases k with r | ⟨a, ha, r⟩
          · exact .inl r
          · exact .inr ⟨a, List.mem_append_left _ ha, r⟩
        have ups : ∀ {ds : List D} {vs : List V}, Kepts (gx X.K C) H2 (Ms σ ((tm2 ++ tm1) ++ hid) Γ') tm2 ds vs → Kepts (gx X.K C) H2 (Ms σ ((tm2 ++ tm1) ++ hid) Γ') (tm2 ++ tm1) ds vs := by
          intro ds vs h
          induction h with
          | nil => exact .nil
          | cons k _ ih => exact .cons (upk k) ih
        have up1 : ∀ {p : Nat} {ds : List D} {vs : List V}, K1 (gx X.K C) H2 (Ms σ ((tm2 ++ tm1) ++ hid) Γ') tm2 (sa σ i) p ds vs → K1 (gx X.K C) H2 (Ms σ ((tm2 ++ tm1) ++ hid) Γ') (tm2 ++ tm1) (sa σ i) p ds vs := by
          intro p ds vs h
          induction h with
          | here k => exact .here (ups k)
          | cons k _ ih => exact .cons (upk k) ih
        refine p (v :: vs) H2 (tm2 ++ tm1) S2 (k1.trans k2 fun a ha => List.mem_append_right _ ha) (fun a ha z => ?_) (.cons ((Kept.of va).stp k2 fun a ha => List.mem_append_right _ ha) (up1 ks))
        rcases List.mem_append.mp ha with ha | ha
        · exact t2 a ha (Ms_subH (fun b hb => List.mem_append_right _ hb) a z)
        · rcases mem_Ms.mp z with z | ⟨i, hi, rfl⟩
          · exact t1 a ha (mem_Ms.mpr (.inl z))
          · exact S2.dis i hi (List.mem_append_left _ (List.mem_append_right _ ha))
  · unfold mCons at e
    cases q : f ρ with
    | bad => rw [q] at e; exact nomatch e
    | exn x ρ' => rw [q] at e; exact nomatch e
    | ok d ρ1 =>
      rw [q] at e
      dsimp only [R.bind] at e
      cases q2 : g ρ1 with
      | bad => rw [q2] at e; exact nomatch e
      | exn x ρ' => rw [q2] at e; exact nomatch e
      | ok ds2 ρ2 =>
        rw [q2] at e
        cases e
        rw [List.length_cons, List.length_cons, hr.len _ _ _ q2]
theorem K1.len {g : Gx} {H : Hp} {M tm : List Addr} {a : Addr} {p : Nat} {ds : List D} {vs : List V} (h : K1 g H M tm a p ds vs) : ds.length = vs.length := by
  induction h with
  | here k => rw [List.length_cons, List.length_cons, k.length]
  | cons _ _ ih => rw [List.length_cons, List.length_cons, ih]
theorem K1.at {g : Gx} {H : Hp} {M tm : List Addr} {a : Addr} {p : Nat} {ds : List D} {vs : List V} (h : K1 g H M tm a p ds vs) : vs[p]? = some (.ref a) := by
  induction h with
  | here k => rfl
  | cons _ _ ih => simpa using ih
theorem K1.lt {g : Gx} {H : Hp} {M tm : List Addr} {a : Addr} {p : Nat} {ds : List D} {vs : List V} (h : K1 g H M tm a p ds vs) : p < ds.length := by
  induction h with
  | here k => simp
  | cons _ _ ih => simpa using ih
theorem K1.rv {g : Gx} {H : Hp} {M M' tm : List Addr} {a : Addr} {p : Nat} {ds : List D} {vs : List V} (s : ∀ a ∈ M', a ∈ M) (ht : ∀ a ∈ tm, a ∉ M') (h : K1 g H M tm a p ds vs) : ∀ (j : Nat) (d : D), j ≠ p → ds[j]? = some d → ∃ v, vs[j]? = some v ∧ RV g (mask H M') d v := by
  induction h with
  | here k =>
    intro j d hj e
    cases j with
    | zero => exact absurd rfl hj
    | succ j =>
      obtain ⟨v, h1, h2⟩ := (k.rv s ht).get (i := j) (d := d) (by simpa using e)
      exact ⟨v, by simpa using h1, h2⟩
  | cons k _ ih =>
    intro j d hj e
    cases j with
    | zero =>
      have : _ = d := Option.some.inj e
      subst this
      exact ⟨_, rfl, k.rv s ht⟩
    | succ j =>
      obtain ⟨v, h1, h2⟩ := ih j d (fun z => hj (by rw [z])) (by simpa using e)
      exact ⟨v, by simpa using h1, h2⟩
theorem sp_call1 {p i : Nat} {hid tm : List Addr} {ρ1 : Env} {σ : L2.St} {H H1 : Hp} {Q : VK} {ds : List D} {vs : List V} {c0 : D} (hn : n = ds.length) (hi : i ∈ Γ') (hc : ρ1.getD i none = some c0)
    (S1 : ST X.K C (tm ++ hid) Γ' ρ1 σ H1) (hs : ∀ a ∈ C.hid, a ∈ hid) (k1 : Stp (Ms σ hid Γ) (Ms σ (tm ++ hid) Γ') hid H H1) (t1 : ∀ a ∈ tm, a ∉ Ms σ hid Γ') (ks : K1 (gx X.K C) H1 (Ms σ (tm ++ hid) Γ') tm (sa σ i) p ds vs)
    (hio : okG C.io C.io Γ' = true) (q : PostE X.K C W Γ Γ' fr hid σ H Q (frR1 i ρ1 (F (ds.set p c0)))) : spF X.K C.ct n [p] fr F vs H1 Q (WE W σ) := by
  have sub : ∀ b ∈ Ms σ hid Γ', b ∈ Ms σ (tm ++ hid) Γ' := Ms_subH fun a ha => List.mem_append_right _ ha
  have S2 := S1.forget (fun a ha => List.mem_append_right _ ha) hs
  have k2 : Stp (Ms σ hid Γ) (Ms σ hid Γ') hid H H1 := ⟨k1.le.trans (.of_same (mask_sub sub)), k1.fx⟩
  have hM : sa σ i ∈ Ms σ hid Γ' := mem_Ms.mpr (.inr ⟨i, hi, rfl⟩)
  have eq : ∀ a, a ∈ ((Ms σ hid Γ').filter fun b => decide (b ≠ sa σ i)) ++ [sa σ i] ↔ a ∈ Ms σ hid Γ' := fun a => by
    simp only [List.mem_append, List.mem_filter, List.mem_singleton, decide_eq_true_eq]
    constructor
    · rintro (h | h)
      · exact h.1
      · rw [h]; exact hM
    · intro h
      by_cases z : a = sa σ i
      · exact .inr z
      · exact .inl ⟨h, z⟩
  have em : ∀ A : Hp, mask A (((Ms σ hid Γ').filter fun b => decide (b ≠ sa σ i)) ++ [sa σ i]) = mask A (Ms σ hid Γ') := fun A => mask_congr eq
  obtain ⟨d0, e1, e2, cc⟩ := S2.ow i hi
  have e1' := getD_some hc
  rw [e1] at e1'; cases e1'
  have pl : p < ds.length := ks.lt
  refine ⟨ds.set p c0, (Ms σ hid Γ').filter fun b => decide (b ≠ sa σ i), [sa σ i], ks.len ▸ hn.symm, ⟨by rw [List.length_set]; exact ks.len, by rw [List.map_singleton, List.map_singleton, ks.at], by simp, fun a ha z => ?_, fun a ha => S2.hdM a (List.mem_filter.mp ha).1, fun j d hj e => ?_, fun j hj => ?_⟩, ?_⟩
  · rw [List.mem_singleton.mp ha] at z
    have := (List.mem_filter.mp z).2
    simp at this
  · have hjp : j ≠ p := fun z => hj (by simp [z])
    rw [List.getElem?_set_ne (Ne.symm hjp)] at e
    rw [em]
    exact ks.rv sub t1 j d hjp e
  · rw [List.mem_singleton.mp hj]
    exact ⟨c0, sa σ i, List.getElem?_set_self pl, ks.at, by rw [em]; exact cc⟩
  · have il : i < ρ1.length := (List.getElem?_eq_some_iff.mp e1).1
    have go : ∀ {outs : List D} {tm' : List Addr} {H' : Hp}, CEnd (gx X.K C) [p] vs H1 ((Ms σ hid Γ').filter fun b => decide (b ≠ sa σ i)) [sa σ i] outs tm' H' → (∀ a ∈ tm', Hd H' a) →
        ∃ c, outs = [c] ∧ ST X.K C (tm' ++ hid) Γ' (ρ1.set i (some c)) σ H' ∧ Stp (Ms σ hid Γ') (Ms σ (tm' ++ hid) Γ') hid H1 H' := by
      intro outs tm' H' c tt
      have le := c.le
      rw [em, em] at le
      obtain ⟨c1, rfl⟩ : ∃ c1, outs = [c1] := by
        have := c.olen
        match outs, this with
        | [c1], _ => exact ⟨c1, rfl⟩
      have fx : ∀ a ∈ Ms σ hid Γ', a ≠ sa σ i → H' a = H1 a := fun a ha hne => c.fx a (List.mem_filter.mpr ⟨ha, by simpa using hne⟩)
      refine ⟨c1, rfl, S2.goes le (fun a ha => fx a (mem_Ms.mpr (.inl ha)) fun z => S2.dis i hi (z ▸ ha)) c.gro c.tn tt (List.length_set ..) (fun j hj => List.getElem?_set_ne (nem hj hi)) fun j hj => ?_⟩
      by_cases z : j = i
      · subst z
        obtain ⟨a, ea, ca⟩ := c.own 0 p c1 rfl rfl
        rw [ks.at] at ea
        have ea' : sa σ j = a := by
          have := Option.some.inj ea
          injection this
        subst ea'
        refine .inr ⟨c1, List.getElem?_set_self il, ca.mono (fun _ z => z) (.of_same (mask_sub fun b hb => ?_))⟩
        rcases List.mem_append.mp hb with hb | hb
        · exact List.mem_append_left _ hb
        · exact List.mem_append_right _ ((eq b).mpr hb)
      · exact .inl ⟨List.getElem?_set_ne (Ne.symm z), fx _ (mem_Ms.mpr (.inr ⟨j, hj, rfl⟩)) fun e => z (S2.inj hj hi e)⟩
    cases qq : F (ds.set p c0) with
    | bad => rw [qq] at q; exact q
    | exn e outs =>
      rw [qq] at q
      intro cls od H' c xr
      obtain ⟨c1, rfl, S3, _⟩ := go c fun _ z => nomatch z
      obtain ⟨h1, h2, h3⟩ := okG_of hio
      have S4 : ST X.K C C.hid C.io (ρ1.set i (some c1)) σ H' := (ST.forget S3 (hid' := C.hid) (fun a ha => hs a ha) fun _ z => z).weak h1 h2 h3
      refine q cls od H' ?_ S4
      rw [em] at xr
      obtain ⟨Cc, x1, x2, x3⟩ := xr
      refine ⟨Cc, x1, x2, ?_⟩
      cases qf : e.fld with
      | none => rw [qf] at x3; exact x3
      | some d =>
        rw [qf] at x3
        obtain ⟨dd, v, y1, y2, y3⟩ := x3
        exact ⟨dd, v, y1, y2, y3.mono (.of_same (mask_sub fun a ha => by
          rcases mem_Ms.mp ha with z | ⟨j, hj, z⟩
          · exact mem_Ms.mpr (.inl (hs a z))
          · exact mem_Ms.mpr (.inr ⟨j, h1 j hj, z⟩)))⟩
    | ok d outs =>
      rw [qq] at q
      intro v H' tm' c va
      obtain ⟨c1, rfl, S3, k3⟩ := go c (val_trk va)
      refine q v H' tm' S3 (k2.trans k3 fun _ z => z) ?_ fun a ha z => S2.none_out (c.tn a ha) z
      have eM : Ms σ (tm' ++ hid) Γ' = tm' ++ Ms σ hid Γ' := by unfold Ms; rw [List.append_assoc]
      have em2 : mask H' (tm' ++ (((Ms σ hid Γ').filter fun b => decide (b ≠ sa σ i)) ++ [sa σ i])) = mask H' (tm' ++ Ms σ hid Γ') := mask_congr fun a => by
        rw [List.mem_append, eq, List.mem_append]
      rw [eM]
      cases va with
      | fz r hv => exact .fz (by rw [← em2]; exact r) hv
      | fr cx => exact .fr (cx.mono (fun _ z => z) (by rw [← em2]; exact .refl _))
/-- f(.., x, ..) of a def that changes its argument number p, the owned name i -/
theorem se_call1 {q i : Nat} (G : Fn X.prog X.w X.K X.mg X.base C.ct x k n [q] fr F) (tk : Takes X W) (hr : Room k X.A) (ha : SA1 X C W q i Γ (e :: es) Γ' g) (hn : n = (e :: es).length := by rfl) (hi : Γ'.contains i = true := by rfl) (hg : Gl X x := by rfl) (hio : okG C.io C.io Γ' = true := by rfl) (hdb : (x == ("__debug__" : Str)) = false := by decide)
    (he : starEach (e :: es) X.env = (false, eval e X.env) :: starEach es X.env := by rfl) (hpl : (backTo pos (starEach es X.env)).any (·.1) = false := by rfl) : SE X C W Γ (.Call (.Name x p) (e :: es) [] pos) Γ' fr (mCall1 F q i g) := by
  obtain ⟨f, fd, ps, G, hm, hk, hb⟩ := G.ex
  refine ⟨peImp (pe_callS G hr hg hm hk hb (passAt tk) ha.pa hdb he hpl) fun σ H Q ⟨hid, ρ, S, p⟩ => ⟨hid, ρ, S, ?_⟩⟩
  unfold mCall1 at p
  cases q : g ρ with
  | bad => rw [q] at p; exact p
  | exn e ρ' => rw [q] at p; exact p
  | ok ds ρ1 =>
    rw [q] at p
    dsimp only [R.bind] at p
    intro vs H1 tm S1 k1 t1 ks
    cases qc : ρ1.getD i none with
    | none => rw [qc] at p; exact p.elim
    | some c0 =>
      rw [qc] at p
      exact sp_call1 (by rw [ha.len _ _ _ q]; exact hn) (List.contains_iff_mem.mp hi) qc S1 S.sub k1 t1 ks hio p
end
end Ip
namespace Ip
open PySem L2 PySem.Spec PyProof.Rows

/-! ## methods, constructors, attributes -/
section
variable {X : Cx} {CX : CXT} {k : Nat} {f Cc : Addr} {fd : FuncData} {ps : List Str} {sp : Sp} {E : L2.St → XK} {x m : Str} {p pos apos : Pos} {e o : Expr} {es : List Expr} {ta : TE} {t : TA}
/-- o.m(e, ..): the class is told by the object -/
theorem pe_methD {pl : Sem Bool} (he : PE X o ta) (ha : PA X (e :: es) t)
    (hst : starEach (e :: es) X.env = (false, eval e X.env) :: starEach es X.env := by rfl) (hpl : (backTo pos (starEach es X.env)).any (·.1) = false := by rfl)
    (ht : eval (.Call (.Attribute o m apos) (e :: es) [] pos) X.env = (do
      let ov ← eval o X.env
      standAt apos.atName
      let (f, first) ← holding [ov] (getMethod ov m pl)
      callWith pos f first (backTo pos (starEach (e :: es) X.env)) (backToKw pos (keywordEach [] X.env))) := by rfl) :
    PE X (.Call (.Attribute o m apos) (e :: es) [] pos) (fun σ H Q => ta σ H fun x H1 => ∃ (a dx Cc f : Addr) (fs : List (Str × V)) (k : Nat) (fd : FuncData) (ps : List Str) (sp : Sp) (E : XK), x = .ref a ∧ H1 a = some (.ins Cc dx fs) ∧ fs.lookup m = none ∧ Cls X.K Cc ∧ Meth X.K Cc m f ∧
      FnOk X.prog X.w X.K X.mg X.base (L2.CX X.prog X.w) k f fd ps sp ∧ Room k X.A ∧ Binds X.K fd ps [] ∧ PassesAt (L2.CX X.prog X.w) X σ E ∧ t σ H1 fun vs H2 => sp (x :: vs) H2 Q E) := by
  refine ⟨fun pins s σ H Q I h => ?_⟩
  refine PySem.W.methodCall_KW (pl := pl) (thn (he.run pins s σ H _ I h) fun u s1 ⟨x, H1, I1, rx, a, dx, Cc, f, fs, k, fd, ps, sp, E, ex, ea, l, c, hm, F, hr, hb, hx, q⟩ => ?_) ht
  subst ex
  obtain rfl : u = Value.ref a := rx
  refine getmeth_ok I1 ea c hm l ?_
  refine PySem.W.callWith_K (first := [.ref a]) (h₀ := X.base) I.ok.mod.kin hm.kp (thn (ha.run pos pins s1 σ H1 _ I1 q) fun us s2 ⟨vs, H2, I2, r, q2⟩ => ⟨I2.kIn, ?_⟩) hst hpl
  exact run_fnS (E := fun _ => E) (us := .ref a :: us) (vs := .ref a :: vs) F hr hb hx I2 (.cons rfl r) q2
theorem pe_methD0 {pl : Sem Bool} (he : PE X o ta)
    (ht : eval (.Call (.Attribute o m apos) [] [] pos) X.env = (do
      let ov ← eval o X.env
      standAt apos.atName
      let (f, first) ← holding [ov] (getMethod ov m pl)
      callWith pos f first (backTo pos (starEach [] X.env)) (backToKw pos (keywordEach [] X.env))) := by rfl) :
    PE X (.Call (.Attribute o m apos) [] [] pos) (fun σ H Q => ta σ H fun x H1 => ∃ (a dx Cc f : Addr) (fs : List (Str × V)) (k : Nat) (fd : FuncData) (ps : List Str) (sp : Sp) (E : XK), x = .ref a ∧ H1 a = some (.ins Cc dx fs) ∧ fs.lookup m = none ∧ Cls X.K Cc ∧ Meth X.K Cc m f ∧
      FnOk X.prog X.w X.K X.mg X.base (L2.CX X.prog X.w) k f fd ps sp ∧ Room k X.A ∧ Binds X.K fd ps [] ∧ PassesAt (L2.CX X.prog X.w) X σ E ∧ sp [x] H1 Q E) := by
  refine ⟨fun pins s σ H Q I h => ?_⟩
  refine PySem.W.methodCall_KW (pl := pl) (thn (he.run pins s σ H _ I h) fun u s1 ⟨x, H1, I1, rx, a, dx, Cc, f, fs, k, fd, ps, sp, E, ex, ea, l, c, hm, F, hr, hb, hx, q⟩ => ?_) ht
  subst ex
  obtain rfl : u = Value.ref a := rx
  refine getmeth_ok I1 ea c hm l ?_
  exact PySem.W.callWith_K0 (first := [.ref a]) I1.kIn hm.kp (run_fnS (E := fun _ => E) (us := [.ref a]) (vs := [.ref a]) F hr hb hx I1 (.cons rfl .nil) q)
theorem run_makeS {pins : List (Addr × Obj)} {σ : L2.St} {H : Hp} {s : Shared} {Q : VK} {us : List Value} {vs : List V} (M : Mk X.K Cc f) (F : FnOk X.prog X.w X.K X.mg X.base (L2.CX X.prog X.w) k f fd ps sp) (hr : Room (k + 1) X.A) (hb : Binds X.K fd ps [])
    (hx : PassesAt (L2.CX X.prog X.w) X σ (E σ)) (I : Inv X pins σ H s) (r : Vals vs us)
    (h : ∀ x dx, H x = none → H dx = none → dx ≠ x → sp (.ref x :: vs) (upd (upd H dx (.own x)) x (.ins Cc dx [])) (fun v H2 => v = .non ∧ Q (.ref x) H2) (E σ)) :
    wpAny (model X.prog X.w) X.A (call (.ref Cc) us) (EP X pins σ Q) X.xe s := by
  have hq := h (s.heap.objs.size + 1) s.heap.objs.size (I.hok.fresh (Nat.le_succ _)) (I.hok.fresh (Nat.le_refl _)) (Nat.ne_of_lt (Nat.lt_succ_self _))
  have I2 := Inv.made (C := Cc) I
  have r2 : Vals (V.ref (s.heap.objs.size + 1) :: vs) (Value.ref (s.heap.objs.size + 1) :: us) := .cons rfl r
  have hl : (Value.ref (s.heap.objs.size + 1) :: us ++ []).length = ps.length := by
    rw [List.append_nil, ← r2.length]
    exact F.len _ _ _ _ hq
  have hbb := hb _ (Value.ref (s.heap.objs.size + 1) :: us) I2.kIn hl
  rw [List.append_nil] at hbb
  refine wpAny_call (make_map (f := f) I.kIn M.makes M.init (beq_iff_eq.mp M.fn) (codeAny_mono (F.run _ X.stack _ _ ⟨Value.ref (s.heap.objs.size + 1) :: us, []⟩ (Value.ref (s.heap.objs.size + 1) :: us) _ _ (E σ) (hr.make Cc us [])
    (I2.env0.make Cc us []) hbb r2 hq) fun r s' hq' => ?_))
  cases r with
  | error e => exact hx pins _ _ e s' I2 hq'
  | ok fl =>
    cases fl with
    | ret u =>
      obtain ⟨v, H', I3, rv, ev, q3⟩ := I2.after hq'
      subst ev
      exact ⟨rv, ⟨V.ref (s.heap.objs.size + 1), H', I3, rfl, q3⟩⟩
    | next => exact False.elim hq'
    | brk => exact False.elim hq'
    | cont => exact False.elim hq'
theorem pe_makeE (M : Mk X.K Cc f) (F : FnOk X.prog X.w X.K X.mg X.base (L2.CX X.prog X.w) k f fd ps sp) (hr : Room (k + 1) X.A) (hg : Gl X x) (hm : X.mg x = some (.ref Cc)) (hb : Binds X.K fd ps []) (hx : ∀ σ, PassesAt (L2.CX X.prog X.w) X σ (E σ))
    (ha : PA X (e :: es) t) (hdb : (x == ("__debug__" : Str)) = false := by decide) (he : starEach (e :: es) X.env = (false, eval e X.env) :: starEach es X.env := by rfl) (hpl : (backTo pos (starEach es X.env)).any (·.1) = false := by rfl) :
    PE X (.Call (.Name x p) (e :: es) [] pos) (fun σ H Q => t σ H fun vs H1 => ∀ x dx, H1 x = none → H1 dx = none → dx ≠ x → sp (.ref x :: vs) (upd (upd H1 dx (.own x)) x (.ins Cc dx [])) (fun v H2 => v = .non ∧ Q (.ref x) H2) (E σ)) := by
  refine ⟨fun pins s σ H Q I h => ?_⟩
  refine wpAny_Call_Name_kw (ld_glob I hg hm ?_ hdb)
  refine PySem.W.callWith_K (h₀ := X.base) I.ok.mod.kin M.kp (thn (ha.run pos pins s σ H _ I h) fun us s1 ⟨vs, H1, I1, r, q⟩ => ⟨I1.kIn, ?_⟩) he hpl
  exact run_makeS M F hr hb (hx σ) I1 r q
end

/-- a method, found at each of the classes cs -/
structure Mt (P : Program) (w : World) (K : PySem.W.Frag) (mg : Str → Option Value) (base : Heap) (ct : Str → Option Addr) (c m : Str) (k n : Nat) (fr : Bool) (F : FSem) : Prop where
  ex : ∃ (Cc f : Addr) (fd : FuncData) (ps : List Str), ct c = some Cc ∧ Cls K Cc ∧ Meth K Cc m f ∧ FnOk P w K mg base (L2.CX P w) k f fd ps (spF K ct n [] fr F) ∧ Binds K fd ps []
structure Mkr (P : Program) (w : World) (K : PySem.W.Frag) (mg : Str → Option Value) (base : Heap) (ct : Str → Option Addr) (c : Str) (k n : Nat) (F : FSem) : Prop where
  ex : ∃ (Cc f : Addr) (fd : FuncData) (ps : List Str), ct c = some Cc ∧ mg c = some (.ref Cc) ∧ Mk K Cc f ∧ FnOk P w K mg base (L2.CX P w) k f fd ps (spF K ct n [0] false F) ∧ Binds K fd ps []
structure At (K : PySem.W.Frag) (ct : Str → Option Addr) (c f : Str) : Prop where
  ex : ∃ Cc : Addr, ct c = some Cc ∧ Cls K Cc ∧ NoAttr K Cc f
def clsOf : D → Option Str
  | .obj c _ _ => some c
  | _ => none
def hasNo (m : Str) : D → Bool
  | .obj _ ns _ => !ns.contains m
  | _ => false
def mMeth (cs : List Str) (m : Str) (F : FSem) (f : Env → R D) (g : Env → R (List D)) : Env → R D := fun ρ => (f ρ).bind fun o ρ1 => match clsOf o with
  | some c => if cs.contains c = true ∧ hasNo m o = true then (g ρ1).bind fun ds ρ2 => frR ρ2 (F (o :: ds)) else .bad
  | none => .bad
def fldD (f : Str) : D → Option D
  | .obj _ ns ds => (ns.zip ds).lookup f
  | _ => none
def mFld (cs : List Str) (n : Str) (f : Env → R D) : Env → R D := fun ρ => (f ρ).bind fun o ρ1 => match clsOf o with
  | some c => if cs.contains c = true then ofO ρ1 (fldD n o) else .bad
  | none => .bad
def frMk (ρ : Env) : FR → R D
  | .ok .non [o] => .ok o ρ
  | .exn e _ => .exn e ρ
  | _ => .bad
def mMake (c : Str) (F : FSem) (g : Env → R (List D)) : Env → R D := fun ρ => (g ρ).bind fun ds ρ1 => frMk ρ1 (F (.obj c [] [] :: ds))

theorem lookup_zip_none {α : Type} {m : Str} : ∀ {ns : List Str} {vs : List α}, ns.contains m = false → (ns.zip vs).lookup m = none
  | [], _, _ => rfl
  | n :: ns, [], _ => rfl
  | n :: ns, v :: vs, h => by
    rw [List.contains_cons, Bool.or_eq_false_iff] at h
    rw [List.zip_cons_cons, List.lookup_cons, h.1]
    exact lookup_zip_none h.2
theorem lookup_zip_rv {g : Gx} {H : Hp} {f : Str} {d : D} : ∀ {ns : List Str} {ds : List D} {vs : List V}, RVs g H ds vs → (ns.zip ds).lookup f = some d → ∃ v, (ns.zip vs).lookup f = some v ∧ RV g H d v
  | [], _, _, _, h => by simp at h
  | n :: ns, [], _, _, h => by simp at h
  | n :: ns, e :: ds, _, .cons (v := v) (vs := vs) r t, h => by
    rw [List.zip_cons_cons, List.lookup_cons] at h
    rw [List.zip_cons_cons, List.lookup_cons]
    cases q : f == n with
    | true => rw [q] at h; cases h; exact ⟨v, rfl, r⟩
    | false => rw [q] at h; exact lookup_zip_rv t h

section
variable {X : Cx} {C : Ac} {W : WX} {Γ Γ1 Γ' Γb : List Nat} {fr fr1 : Bool} {e o : Expr} {es : List Expr} {f : Env → R D} {g : Env → R (List D)} {x m c : Str} {cs : List Str} {p pos apos : Pos} {k n : Nat} {F : FSem}
theorem shal_obj {g : Gx} {H Hm : Hp} {o : D} {v : V} {c : Str} (h : Shal g H Hm o v) (hc : clsOf o = some c) : ∃ a Cc dx ns vs ds, o = .obj c ns ds ∧ v = .ref a ∧ H a = some (.ins Cc dx (ns.zip vs)) ∧ g.ct c = some Cc ∧ ns.length = vs.length ∧ RVs g Hm ds vs := by
  cases h with
  | obj h1 h2 h3 h4 =>
    cases hc
    exact ⟨_, _, _, _, _, _, rfl, rfl, h1, h2, h3, h4⟩
  | _ => cases hc
theorem meth_core {hid : List Addr} {ρ : Env} {σ : L2.St} {H : Hp} {Q : VK} {R0 : V → Hp → Prop}
    (p : tE X.K C W Γ Γ' fr (mMeth cs m F f g) σ H Q)
    (go : ∀ (c : Str) (o : D) (v : V) (H1 : Hp) (tm1 : List Addr) (hid : List Addr) (ρ1 : Env), cs.contains c = true → clsOf o = some c → hasNo m o = true → ST X.K C (tm1 ++ hid) Γ1 ρ1 σ H1 → (∀ a ∈ C.hid, a ∈ hid) → Stp (Ms σ hid Γ) (Ms σ (tm1 ++ hid) Γ1) hid H H1 →
      Val (gx X.K C) H1 (Ms σ (tm1 ++ hid) Γ1) fr1 o v tm1 → (∀ a ∈ tm1, a ∉ Ms σ hid Γ1) → PostE X.K C W Γ Γ' fr hid σ H Q ((g ρ1).bind fun ds ρ2 => frR ρ2 (F (o :: ds))) → R0 v H1) : tE X.K C W Γ Γ1 fr1 f σ H R0 := by
  obtain ⟨hid, ρ, S, p⟩ := p
  refine ⟨hid, ρ, S, ?_⟩
  unfold mMeth at p
  cases q : f ρ with
  | bad => rw [q] at p; exact p
  | exn e ρ' => rw [q] at p; exact p
  | ok o ρ1 =>
    rw [q] at p
    dsimp only [R.bind] at p
    intro v H1 tm1 S1 k1 va t1
    cases qc : clsOf o with
    | none => rw [qc] at p; exact p.elim
    | some c =>
      rw [qc] at p
      dsimp only at p
      by_cases hh : cs.contains c = true ∧ hasNo m o = true
      · rw [if_pos hh] at p
        exact go c o v H1 tm1 hid ρ1 hh.1 qc hh.2 S1 S.sub k1 va t1 p
      · rw [if_neg hh] at p; exact p.elim
/-- o.m(e, ..) -/
theorem se_meth {pl : Sem Bool} (G : ∀ c, cs.contains c = true → Mt X.prog X.w X.K X.mg X.base C.ct c m k n fr F) (tk : Takes X W) (hr : Room k X.A) (ho : SE X C W Γ o Γ1 fr1 f) (ha : SA X C W Γ1 (e :: es) Γ' g) (hn : n = (o :: e :: es).length := by rfl) (hio : okG C.io C.io Γ' = true := by rfl)
    (hst : starEach (e :: es) X.env = (false, eval e X.env) :: starEach es X.env := by rfl) (hpl : (backTo pos (starEach es X.env)).any (·.1) = false := by rfl)
    (ht : eval (.Call (.Attribute o m apos) (e :: es) [] pos) X.env = (do
      let ov ← eval o X.env
      standAt apos.atName
      let (f, first) ← holding [ov] (getMethod ov m pl)
      callWith pos f first (backTo pos (starEach (e :: es) X.env)) (backToKw pos (keywordEach [] X.env))) := by rfl) : SE X C W Γ (.Call (.Attribute o m apos) (e :: es) [] pos) Γ' fr (mMeth cs m F f g) := by
  refine ⟨peImp (pe_methD (pl := pl) ho.pe ha.pa hst hpl ht) fun σ H Q p => meth_core (hid := []) (ρ := []) p fun c od v H1 tm1 hid ρ1 hc qc hh S1 hs k1 va t1 p => ?_⟩
  obtain ⟨Cc, fa, fd, ps, e1, cl, mt, fn, bi⟩ := (G c hc).ex
  obtain ⟨a, Cc', dx, ns, vs, ds, rfl, rfl, h1, h2, h3, h4⟩ := shal_obj va.shal0 qc
  have e2 : Cc' = Cc := Option.some.inj (h2.symm.trans e1)
  subst e2
  have hno : (ns.zip vs).lookup m = none := lookup_zip_none (by simpa [hasNo] using hh)
  refine ⟨a, dx, Cc', fa, _, k, fd, ps, _, WE W σ, rfl, h1, hno, cl, mt, fn, hr, bi, passAt tk σ, tm1 ++ hid, ρ1, S1, ?_⟩
  cases q2 : g ρ1 with
  | bad => rw [q2] at p; exact p
  | exn e ρ' => rw [q2] at p; exact p
  | ok es2 ρ2 =>
    rw [q2] at p
    dsimp only [R.bind] at p
    intro us H2 tm2 S2 k2 t2 ks
    have e : tm2 ++ (tm1 ++ hid) = (tm2 ++ tm1) ++ hid := (List.append_assoc ..).symm
    rw [e] at S2 k2 ks
    have upk : ∀ {d : D} {v : V}, Kept (gx X.K C) H2 (Ms σ ((tm2 ++ tm1) ++ hid) Γ') tm2 d v → Kept (gx X.K C) H2 (Ms σ ((tm2 ++ tm1) ++ hid) Γ') (tm2 ++ tm1) d v := by
      intro d v k
      rcases k with r | ⟨a, ha, r⟩
      · exact .inl r
      · exact .inr ⟨a, List.mem_append_left _ ha, r⟩
    have ups : ∀ {ds : List D} {vs : List V}, Kepts (gx X.K C) H2 (Ms σ ((tm2 ++ tm1) ++ hid) Γ') tm2 ds vs → Kepts (gx X.K C) H2 (Ms σ ((tm2 ++ tm1) ++ hid) Γ') (tm2 ++ tm1) ds vs := by
      intro ds vs h
      induction h with
      | nil => exact .nil
      | cons k _ ih => exact .cons (upk k) ih
    refine sp_call0 (ds := .obj c ns ds :: es2) (by have := ha.len _ _ _ q2; simp only [List.length_cons] at this hn ⊢; omega) S2 hs (k1.trans k2 fun a ha => List.mem_append_right _ ha) (fun a ha z => ?_) (.cons ((Kept.of va).stp k2 fun a ha => List.mem_append_right _ ha) (ups ks)) hio p
    rcases List.mem_append.mp ha with ha | ha
    · exact t2 a ha (Ms_subH (fun b hb => List.mem_append_right _ hb) a z)
    · rcases mem_Ms.mp z with z | ⟨i, hi, rfl⟩
      · exact t1 a ha (mem_Ms.mpr (.inl z))
      · exact S2.dis i hi (List.mem_append_left _ (List.mem_append_right _ ha))
/-- o.m() -/
theorem se_meth0 {pl : Sem Bool} (G : ∀ c, cs.contains c = true → Mt X.prog X.w X.K X.mg X.base C.ct c m k n fr F) (tk : Takes X W) (hr : Room k X.A) (ho : SE X C W Γ o Γ1 fr1 f) (hn : n = 1 := by rfl) (hio : okG C.io C.io Γ1 = true := by rfl)
    (ht : eval (.Call (.Attribute o m apos) [] [] pos) X.env = (do
      let ov ← eval o X.env
      standAt apos.atName
      let (f, first) ← holding [ov] (getMethod ov m pl)
      callWith pos f first (backTo pos (starEach [] X.env)) (backToKw pos (keywordEach [] X.env))) := by rfl) : SE X C W Γ (.Call (.Attribute o m apos) [] [] pos) Γ1 fr (mMeth cs m F f mNil) := by
  refine ⟨peImp (pe_methD0 (pl := pl) ho.pe ht) fun σ H Q p => meth_core (hid := []) (ρ := []) p fun c od v H1 tm1 hid ρ1 hc qc hh S1 hs k1 va t1 p => ?_⟩
  obtain ⟨Cc, fa, fd, ps, e1, cl, mt, fn, bi⟩ := (G c hc).ex
  have ks : Kepts (gx X.K C) H1 (Ms σ (tm1 ++ hid) Γ1) tm1 [od] [v] := .cons (Kept.of va) .nil
  obtain ⟨a, Cc', dx, ns, vs, ds, rfl, rfl, h1, h2, h3, h4⟩ := shal_obj va.shal0 qc
  have e2 : Cc' = Cc := Option.some.inj (h2.symm.trans e1)
  subst e2
  have hno : (ns.zip vs).lookup m = none := lookup_zip_none (by simpa [hasNo] using hh)
  exact ⟨a, dx, Cc', fa, _, k, fd, ps, _, WE W σ, rfl, h1, hno, cl, mt, fn, hr, bi, passAt tk σ, sp_call0 (ds := [.obj c ns ds]) hn S1 hs k1 t1 ks hio p⟩
/-- o.f -/
theorem se_fld (G : ∀ c, cs.contains c = true → At X.K C.ct c m) (ho : SE X C W Γ o Γ1 fr1 f) (hb : attributeBase o m X.env (eval o X.env) = eval o X.env := by rfl) : SE X C W Γ (.Attribute o m pos) Γ1 false (mFld cs m f) := ⟨peImp (pe_fld ho.pe hb) fun σ H Q ⟨hid, ρ, S, p⟩ => by
  refine ⟨hid, ρ, S, ?_⟩
  unfold mFld at p
  cases q : f ρ with
  | bad => rw [q] at p; exact p
  | exn e ρ' => rw [q] at p; exact p
  | ok od ρ1 =>
    rw [q] at p
    dsimp only [R.bind] at p
    intro v H1 tm1 S1 k1 va t1
    cases qc : clsOf od with
    | none => rw [qc] at p; exact p.elim
    | some c =>
      rw [qc] at p
      dsimp only at p
      by_cases hh : cs.contains c = true
      · rw [if_pos hh] at p
        obtain ⟨Cc, e1, cl, na⟩ := (G c hh).ex
        obtain ⟨a, Cc', dx, ns, vs, ds, rfl, rfl, h1, h2, h3, h4⟩ := shal_obj va.shal0 qc
        have e2 : Cc' = Cc := Option.some.inj (h2.symm.trans e1)
        subst e2
        cases ql : fldD m (.obj c ns ds) with
        | none => rw [ql] at p; exact p.elim
        | some d =>
          rw [ql] at p
          obtain ⟨w, hw, rw'⟩ := lookup_zip_rv h4 ql
          have sub : ∀ b ∈ Ms σ hid Γ1, b ∈ Ms σ (tm1 ++ hid) Γ1 := Ms_subH fun a ha => List.mem_append_right _ ha
          refine ⟨a, Cc', dx, _, w, rfl, h1, cl, na, hw, ?_⟩
          exact p w H1 [] (S1.forget (fun a ha => List.mem_append_right _ ha) S.sub) ⟨k1.le.trans (.of_same (mask_sub sub)), k1.fx⟩ (.fz (rw'.mono (.of_same (mask_sub sub))) fun z => nomatch z) fun _ z => nomatch z
      · rw [if_neg hh] at p; exact p.elim⟩
/-- C(e, ..) -/
theorem se_make (G : Mkr X.prog X.w X.K X.mg X.base C.ct x k n F) (tk : Takes X W) (hr : Room (k + 1) X.A) (ha : SA X C W Γ (e :: es) Γ' g) (hn : n = (e :: e :: es).length := by rfl) (hg : Gl X x := by rfl) (hio : okG C.io C.io Γ' = true := by rfl) (hdb : (x == ("__debug__" : Str)) = false := by decide)
    (he : starEach (e :: es) X.env = (false, eval e X.env) :: starEach es X.env := by rfl) (hpl : (backTo pos (starEach es X.env)).any (·.1) = false := by rfl) : SE X C W Γ (.Call (.Name x p) (e :: es) [] pos) Γ' true (mMake x F g) := by
  obtain ⟨Cc, f, fd, ps, ec, hm, M, fn, bi⟩ := G.ex
  refine ⟨peImp (pe_makeE (E := WE W) M fn hr hg hm bi (passAt tk) ha.pa hdb he hpl) fun σ H Q ⟨hid, ρ, S, p⟩ => ⟨hid, ρ, S, ?_⟩⟩
  unfold mMake at p
  cases q : g ρ with
  | bad => rw [q] at p; exact p
  | exn e ρ' => rw [q] at p; exact p
  | ok ds ρ1 =>
    rw [q] at p
    dsimp only [R.bind] at p
    intro vs H1 tm S1 k1 t1 ks a dx na nd hne
    have sub : ∀ b ∈ Ms σ hid Γ', b ∈ Ms σ (tm ++ hid) Γ' := Ms_subH fun a ha => List.mem_append_right _ ha
    have S2 := S1.forget (fun a ha => List.mem_append_right _ ha) S.sub
    have k2 : Stp (Ms σ hid Γ) (Ms σ hid Γ') hid H H1 := ⟨k1.le.trans (.of_same (mask_sub sub)), k1.fx⟩
    have rv : RVs (gx X.K C) (mask H1 (Ms σ hid Γ')) ds vs := ks.rv sub t1
    have aM := S2.none_out na
    obtain ⟨Hx, eHx⟩ : ∃ Hx, Hx = upd (upd H1 dx (.own a)) a (.ins Cc dx []) := ⟨_, rfl⟩
    rw [← eHx]
    have sx : Same H1 Hx := by
      rw [eHx]
      intro b u hb
      rw [upd_ne (ne_of_none hb na), upd_ne (ne_of_none hb nd)]; exact hb
    have ea : Hx a = some (.ins Cc dx []) := by rw [eHx]; exact upd_same
    -- the masks
    have l1 : HLe (mask H1 (Ms σ hid Γ')) (mask Hx (Ms σ hid Γ' ++ [a])) := .of_same fun b u hb => by
      obtain ⟨b1, b2⟩ := mask_some hb
      rw [mask_out, sx _ _ b2]
      intro z
      rcases List.mem_append.mp z with z | z
      · exact b1 z
      · rw [List.mem_singleton.mp z, na] at b2; cases b2
    refine ⟨.obj x [] [] :: ds, Ms σ hid Γ', [a], ?_, ⟨?_, rfl, by simp, fun b hb => by rw [List.mem_singleton.mp hb]; exact aM, fun b hb => ?_, fun i d hi hd => ?_, fun i hi => ?_⟩, ?_⟩
    · rw [List.length_cons, ← ks.length, ha.len _ _ _ q, hn]; rfl
    · rw [List.length_cons, List.length_cons, ks.length]
    · refine (S2.hdM b hb).of ?_
      cases qq : H1 b with
      | none => exact absurd qq (S2.trkM b hb)
      | some u => exact sx b u qq
    · cases i with
      | zero => exact absurd List.mem_cons_self hi
      | succ i =>
        obtain ⟨v, h1, h2⟩ := rv.get (i := i) (d := d) (by simpa using hd)
        exact ⟨v, by simpa using h1, h2.mono l1⟩
    · rw [List.mem_singleton.mp hi]
      exact ⟨_, a, rfl, rfl, .obj (ns := []) (vs := []) ea ec rfl .nil⟩
    · have go : ∀ {outs : List D} {tm' : List Addr} {H' : Hp}, CEnd (gx X.K C) [0] (.ref a :: vs) Hx (Ms σ hid Γ') [a] outs tm' H' → tm' = [] →
          ∃ o, outs = [o] ∧ ST X.K C ([a] ++ hid) Γ' ρ1 σ H' ∧ Stp (Ms σ hid Γ') (Ms σ ([a] ++ hid) Γ') hid H1 H' ∧ Cont (gx X.K C) H' (mask H' (Ms σ ([a] ++ hid) Γ')) a o := by
        intro outs tm' H' c ht
        subst ht
        obtain ⟨o, rfl⟩ : ∃ o, outs = [o] := by
          have := c.olen
          match outs, this with
          | [o], _ => exact ⟨o, rfl⟩
        have gro : ∀ b, H1 b ≠ none → H' b ≠ none := fun b hb => c.gro b (by
          cases qq : H1 b with
          | none => exact absurd qq hb
          | some u => rw [sx b u qq]; simp)
        have fx : ∀ b ∈ Ms σ hid Γ', H' b = H1 b := fun b hb => (c.fx b hb).trans (by
          cases qq : H1 b with
          | none => exact absurd qq (S2.trkM b hb)
          | some u => exact sx b u qq)
        have le : HLe (mask H1 (Ms σ hid Γ')) (mask H' (Ms σ hid Γ')) := (l1.trans c.le).trans (.of_same (mask_sub fun b hb => List.mem_append_left _ hb))
        obtain ⟨b, eb, cb⟩ := c.own 0 0 o rfl rfl
        have eb' : a = b := by
          have := Option.some.inj eb
          injection this
        subst eb'
        obtain ⟨S3, k3⟩ := S2.goes (tm := [a]) le (fun b hb => fx b (mem_Ms.mpr (.inl hb))) gro (fun b hb => by rw [List.mem_singleton.mp hb]; exact na) (fun b hb => by rw [List.mem_singleton.mp hb]; exact cb.hd) rfl (fun _ _ => rfl) fun j hj => .inl ⟨rfl, fx _ (mem_Ms.mpr (.inr ⟨j, hj, rfl⟩))⟩
        refine ⟨o, rfl, S3, k3, cb.mono (fun _ z => z) (.of_same (mask_sub fun b hb => ?_))⟩
        unfold Ms at hb
        rw [List.append_assoc] at hb
        rcases List.mem_append.mp hb with hb | hb
        · exact List.mem_append_right _ (List.mem_append_right _ hb)
        · exact List.mem_append_right _ (List.mem_append_left _ hb)
      cases qq : F (.obj x [] [] :: ds) with
      | bad => rw [qq] at p; exact p
      | exn e outs =>
        rw [qq] at p
        intro cls od H' c xr
        obtain ⟨o, rfl, S3, k3, _⟩ := go c rfl
        obtain ⟨h1, h2, h3⟩ := okG_of hio
        have S4 : ST X.K C C.hid C.io ρ1 σ H' := (ST.forget S3 (hid' := C.hid) (fun b hb => List.mem_append_right _ (S.sub b hb)) fun _ z => z).weak h1 h2 h3
        refine p cls od H' ?_ S4
        obtain ⟨Cc, x1, x2, x3⟩ := xr
        refine ⟨Cc, x1, x2, ?_⟩
        cases qf : e.fld with
        | none => rw [qf] at x3; exact x3
        | some d =>
          rw [qf] at x3
          obtain ⟨dd, v, y1, y2, y3⟩ := x3
          exact ⟨dd, v, y1, y2, y3.mono (.of_same (mask_sub fun b hb => by
            rcases mem_Ms.mp hb with z | ⟨j, hj, z⟩
            · exact List.mem_append_left _ (mem_Ms.mpr (.inl (S.sub b z)))
            · exact List.mem_append_left _ (mem_Ms.mpr (.inr ⟨j, h1 j hj, z⟩))))⟩
      | ok d outs =>
        rw [qq] at p
        intro v H' tm' c va
        cases va with
        | fz r hv =>
          obtain ⟨o, rfl, S3, k3, cb⟩ := go c rfl
          cases d with
          | non =>
            cases r
            exact ⟨rfl, p (.ref a) H' [a] S3 (k2.trans k3 fun _ z => z) (.fr cb) fun b hb => by rw [List.mem_singleton.mp hb]; exact aM⟩
          | _ => exact (show False from p).elim
end
end Ip
namespace Ip
open PySem L2 PySem.Spec PyProof.Rows

/-! ## what is walked -/
/-- J gives the items one after the other, as long as what is read alone at (H, M) is kept -/
def ItOk (g : Gx) (J : It) (items : List D) (H : Hp) (M : List Addr) : Prop :=
  ∃ (Gd : Hp → Prop) (Y : Nat → Hp → V → Hp → Prop), Walk J items.length Gd Y ∧ (∀ H1 M1, HLe (mask H M) (mask H1 M1) → Gd H1) ∧
    ∀ i x H1 H1' d, items[i]? = some d → Gd H1 → Y i H1 x H1' → Same H1 H1' ∧ ∀ M1, (∀ a ∈ M1, Hd H1 a) → HLe (mask H M) (mask H1 M1) → RV g (mask H1' M1) d x
def PostI (K : PySem.W.Frag) (C : Ac) (W : WX) (Γ Γ' : List Nat) (hid : List Addr) (σ : L2.St) (H : Hp) (Q : It → Hp → Prop) : R (List D) → Prop
  | .ok ds ρ' => ∀ J H', ST K C hid Γ' ρ' σ H' → Stp (Ms σ hid Γ) (Ms σ hid Γ') hid H H' → ItOk (gx K C) J ds H' (Ms σ hid Γ') → Q J H'
  | .exn e ρ' => ∀ cls od H', ExR (gx K C) H' (mask H' (Ms σ C.hid C.io)) e cls od → ST K C C.hid C.io ρ' σ H' → W cls od σ H'
  | .bad => False
structure SI (X : Cx) (C : Ac) (W : WX) (Γ : List Nat) (tg iter : Expr) (Γ' : List Nat) (f : Env → R (List D)) : Prop where
  pi : PI X tg iter fun σ H Q => ∃ hid ρ, ST X.K C hid Γ ρ σ H ∧ PostI X.K C W Γ Γ' hid σ H Q (f ρ)
theorem piImp {X : Cx} {tg e : Expr} {t t' : TI} (h : PI X tg e t) (i : ∀ σ H Q, t' σ H Q → t σ H Q) : PI X tg e t' := ⟨fun pins s σ H Q I q => h.run pins s σ H Q I (i σ H Q q)⟩

/-- a value that is walked, by its kind -/
def IvR (X : Cx) (tg : Expr) (r : V → Hp → (It → Hp → Prop) → Prop) : Prop :=
  ∀ (pins : List (Addr × Obj)) (s : Shared) (σ : L2.St) (H : Hp) (x : V) (v : Value) (Q : It → Hp → Prop), Inv X pins σ H s → RelV x v → r x H Q → wpAny (model X.prog X.w) X.A (pyIter v) (PIE X pins σ tg Q) X.xe s
theorem pi_iv {X : Cx} {tg e : Expr} {t : TE} {r : V → Hp → (It → Hp → Prop) → Prop} (h : IvR X tg r) (he : PE X e t) : PI X tg e fun σ H Q => t σ H fun x H1 => r x H1 Q :=
  ⟨fun pins s σ H Q I q => thn (he.run pins s σ H _ I q) fun v s1 ⟨x, H1, I1, r1, q1⟩ => h pins s1 σ H1 x v Q I1 r1 q1⟩
theorem IvR.or {X : Cx} {tg : Expr} {r r' : V → Hp → (It → Hp → Prop) → Prop} (h : IvR X tg r) (h' : IvR X tg r') : IvR X tg fun x H Q => r x H Q ∨ r' x H Q := fun pins s σ H x v Q I rx q => q.elim (h pins s σ H x v Q I rx) (h' pins s σ H x v Q I rx)
theorem iv_list {X : Cx} {tg : Expr} : IvR X tg fun x H Q => ∃ a, x = .ref a ∧ (∃ xs, SqL X.K H a xs) ∧ Q (Itl X.K a) H := by
  intro pins s σ H x v Q I rx ⟨a, ex, ⟨xs, hq⟩, q⟩
  subst ex; cases rx
  obtain ⟨its, rv, pl, _⟩ := I.list hq
  exact wpAny_pyIter_list pl.isList (pi_one (tk := s.toks) I _ (turn_list a _) ⟨_, Heap.get?_push_size _ rfl, rfl, rfl⟩ q)
theorem iv_tup {X : Cx} {tg : Expr} : IvR X tg fun x H Q => ∃ a, x = .ref a ∧ (∃ xs, SqT X.K H a xs) ∧ Q (Itt X.K a) H := by
  intro pins s σ H x v Q I rx ⟨a, ex, ⟨xs, hq⟩, q⟩
  subst ex; cases rx
  obtain ⟨its, rv, pl, _⟩ := I.tuple hq
  exact wpAny_pyIter_tuple (show s.heap.IsTuple a its.toArray from pl) (pi_one (tk := s.toks) I _ (turn_tuple a _) ⟨_, Heap.get?_push_size _ rfl, rfl, rfl⟩ q)
theorem iv_str {X : Cx} {tg : Expr} : IvR X tg fun y H Q => ∃ x, y = .str x ∧ Q (Its x) H := by
  intro pins s σ H y v Q I ry ⟨x, ex, q⟩
  subst ex
  obtain ⟨t, rfl⟩ := ry
  cases ha : x.cps.all (· < 128)
  · exact wpAny_pyIter_wide ha (pi_one (tk := s.toks) I _ (turn_str _ x t "str_iterator" (.inr rfl)) ⟨_, Heap.get?_push_size _ rfl, rfl, rfl⟩ q)
  · exact wpAny_pyIter_ascii ha (pi_one (tk := s.toks) I _ (turn_str _ x t "str_ascii_iterator" (.inl rfl)) ⟨_, Heap.get?_push_size _ rfl, rfl, rfl⟩ q)
def chD (c : Nat) : D := .str ⟨#[c]⟩
/-- the items of a list, a tuple, a text -/
def asSeq : D → Option (List D)
  | .lst ds => some ds
  | .tup ds => some ds
  | .str x => some (x.cps.toList.map chD)
  | _ => none
def mSeqI (f : Env → R D) : Env → R (List D) := fun ρ => (f ρ).bind fun d ρ' => ofO ρ' (asSeq d)
theorem itok_list {g : Gx} {H : Hp} {M : List Addr} {a : Addr} {vs : List V} {ds : List D} (h : SqL g.K (mask H M) a vs) (r : RVs g (mask H M) ds vs) : ItOk g (Itl g.K a) ds H M := by
  refine ⟨fun H1 => SqL g.K H1 a vs, YAt vs, by rw [r.length]; exact walk_list, fun H1 M1 le => (HLe.of_same mask_same).sqL (le.sqL h), fun i x H1 H1' d hd _ y => ?_⟩
  obtain ⟨rfl, hx⟩ := y
  refine ⟨Same.refl _, fun M1 _ le => ?_⟩
  obtain ⟨v, e, rv⟩ := r.get hd
  rw [hx] at e; cases e
  exact rv.mono le
theorem itok_tup {g : Gx} {H : Hp} {M : List Addr} {a : Addr} {vs : List V} {ds : List D} (h : mask H M a = some (.tup vs)) (r : RVs g (mask H M) ds vs) : ItOk g (Itt g.K a) ds H M := by
  refine ⟨fun H1 => SqT g.K H1 a vs, YAt vs, by rw [r.length]; exact walk_tup, fun H1 M1 le => SqT.of (mask_some (le.o _ _ h trivial)).2, fun i x H1 H1' d hd _ y => ?_⟩
  obtain ⟨rfl, hx⟩ := y
  refine ⟨Same.refl _, fun M1 _ le => ?_⟩
  obtain ⟨v, e, rv⟩ := r.get hd
  rw [hx] at e; cases e
  exact rv.mono le
theorem itok_str {g : Gx} {H : Hp} {M : List Addr} {x : Str} : ItOk g (Its x) (x.cps.toList.map chD) H M := by
  refine ⟨fun _ => True, _, by rw [List.length_map, Array.length_toList]; exact walk_str, fun _ _ _ => trivial, fun i v H1 H1' d hd _ y => ?_⟩
  obtain ⟨rfl, c, hc, rfl⟩ := y
  refine ⟨Same.refl _, fun M1 _ _ => ?_⟩
  rw [List.getElem?_map, Array.getElem?_toList, hc] at hd
  cases hd
  exact .str _
theorem itok_range {g : Gx} {H : Hp} {M : List Addr} {lo : Int} {n : Nat} : ItOk g (Itr lo n) ((List.range n).map fun i => D.int (lo + (i : Nat))) H M := by
  refine ⟨fun _ => True, _, by rw [List.length_map, List.length_range]; exact walk_range, fun _ _ _ => trivial, fun i v H1 H1' d hd _ y => ?_⟩
  obtain ⟨rfl, rfl⟩ := y
  refine ⟨Same.refl _, fun M1 _ _ => ?_⟩
  rw [List.getElem?_map] at hd
  by_cases hi : i < n
  · rw [List.getElem?_range hi] at hd
    cases hd
    exact .int _
  · rw [List.getElem?_eq_none (by simpa using hi)] at hd
    cases hd

section
variable {X : Cx} {C : Ac} {W : WX} {Γ Γ1 Γ2 Γ' Γb : List Nat} {fr fr1 : Bool} {e e2 tg iter : Expr} {es : List Expr} {f : Env → R D} {g : Env → R (List D)} {p pos : Pos}
theorem si_seq (ha : SE X C W Γ e Γ' fr f) : SI X C W Γ tg e Γ' (mSeqI f) := ⟨piImp (pi_iv (iv_list.or (iv_tup.or iv_str)) ha.pe) fun σ H Q ⟨hid, ρ, S, p⟩ => by
  refine ⟨hid, ρ, S, ?_⟩
  unfold mSeqI at p
  cases q : f ρ with
  | bad => rw [q] at p; exact p
  | exn e ρ' => rw [q] at p; exact p
  | ok d ρ' =>
    rw [q] at p
    dsimp only [R.bind] at p
    intro v H1 tm S1 k1 va t1
    have sub : ∀ b ∈ Ms σ hid Γ', b ∈ Ms σ (tm ++ hid) Γ' := Ms_subH fun a ha => List.mem_append_right _ ha
    have S2 := S1.forget (fun a ha => List.mem_append_right _ ha) S.sub
    have k2 : Stp (Ms σ hid Γ) (Ms σ hid Γ') hid H H1 := ⟨k1.le.trans (.of_same (mask_sub sub)), k1.fx⟩
    have rv : RV (gx X.K C) (mask H1 (Ms σ hid Γ')) d v := va.rv sub t1
    cases rv with
    | lst h r => exact .inl ⟨_, rfl, ⟨_, (HLe.of_same mask_same).sqL h⟩, p _ H1 S2 k2 (itok_list h r)⟩
    | tup h r => exact .inr (.inl ⟨_, rfl, ⟨_, SqT.of (mask_some h).2⟩, p _ H1 S2 k2 (itok_tup h r)⟩)
    | str x => exact .inr (.inr ⟨_, rfl, p _ H1 S2 k2 itok_str⟩)
    | _ => exact (show False from p).elim⟩
def asR1 : List D → Option (List D)
  | [.int n] => if -(2 ^ 62) ≤ n ∧ n < 2 ^ 62 then some ((List.range n.toNat).map fun i => .int (i : Nat)) else none
  | _ => none
def asR2 : List D → Option (List D)
  | [.int a, .int b] => if -(2 ^ 62) ≤ a ∧ a < 2 ^ 62 ∧ -(2 ^ 62) ≤ b ∧ b < 2 ^ 62 then some ((List.range (b - a).toNat).map fun i => .int (a + (i : Nat))) else none
  | _ => none
def mArgI (o : List D → Option (List D)) (g : Env → R (List D)) : Env → R (List D) := fun ρ => (g ρ).bind fun ds ρ' => ofO ρ' (o ds)
theorem kept_int {gg : Gx} {H : Hp} {M tm : List Addr} {i : Int} {v : V} (h : Kept gg H M tm (.int i) v) : v = .int i := by
  rcases h with r | ⟨a, _, _, c⟩
  · cases r; rfl
  · cases c
theorem asR1_inv {ds its : List D} (h : asR1 ds = some its) : ∃ n : Int, ds = [.int n] ∧ -(2 ^ 62) ≤ n ∧ n < 2 ^ 62 ∧ its = (List.range n.toNat).map fun i => .int (i : Nat) := by
  unfold asR1 at h
  split at h
  · split at h
    · cases h; exact ⟨_, rfl, by omega, by omega, rfl⟩
    · cases h
  · cases h
theorem asR2_inv {ds its : List D} (h : asR2 ds = some its) : ∃ a b : Int, ds = [.int a, .int b] ∧ -(2 ^ 62) ≤ a ∧ a < 2 ^ 62 ∧ -(2 ^ 62) ≤ b ∧ b < 2 ^ 62 ∧ its = (List.range (b - a).toNat).map fun i => .int (a + (i : Nat)) := by
  unfold asR2 at h
  split at h
  · split at h
    · cases h; exact ⟨_, _, rfl, by omega, by omega, by omega, by omega, rfl⟩
    · cases h
  · cases h
theorem PostI.ofO {K : PySem.W.Frag} {C : Ac} {W : WX} {Γ Γ' : List Nat} {hid : List Addr} {σ : L2.St} {H : Hp} {Q : It → Hp → Prop} {ρ' : Env} {o : Option (List D)} (p : PostI K C W Γ Γ' hid σ H Q (ofO ρ' o)) : ∃ its, o = some its ∧ ∀ J H', ST K C hid Γ' ρ' σ H' → Stp (Ms σ hid Γ) (Ms σ hid Γ') hid H H' → ItOk (gx K C) J its H' (Ms σ hid Γ') → Q J H' := by
  cases o with
  | none => exact (show False from p).elim
  | some its => exact ⟨its, rfl, p⟩
theorem si_range1 (ha : SA X C W Γ [e] Γ' g) (hm : X.mg "range" = none) (hg : Gl X "range" := by rfl) (hs : starEach [e] X.env = [(false, eval e X.env)] := by rfl) : SI X C W Γ tg (.Call (.Name "range" p) [e] [] pos) Γ' (mArgI asR1 g) :=
  ⟨piImp (pi_range1 hg hm ha.pa hs) fun σ H Q ⟨hid, ρ, S, p⟩ => by
  refine ⟨hid, ρ, S, ?_⟩
  unfold mArgI at p
  cases q : g ρ with
  | bad => rw [q] at p; exact p
  | exn e ρ' => rw [q] at p; exact p
  | ok ds ρ' =>
    rw [q] at p
    dsimp only [R.bind] at p
    intro vs H1 tm S1 k1 t1 ks
    have sub : ∀ b ∈ Ms σ hid Γ', b ∈ Ms σ (tm ++ hid) Γ' := Ms_subH fun a ha => List.mem_append_right _ ha
    have S2 := S1.forget (fun a ha => List.mem_append_right _ ha) S.sub
    have k2 : Stp (Ms σ hid Γ) (Ms σ hid Γ') hid H H1 := ⟨k1.le.trans (.of_same (mask_sub sub)), k1.fx⟩
    obtain ⟨its, ho, p⟩ := PostI.ofO p
    obtain ⟨n, rfl, h1, h2, rfl⟩ := asR1_inv ho
    cases ks with
    | cons k ks =>
    cases ks
    have := kept_int k
    subst this
    refine ⟨n, rfl, h1, h2, p _ H1 S2 k2 ?_⟩
    have z := itok_range (g := gx X.K C) (H := H1) (M := Ms σ hid Γ') (lo := 0) (n := n.toNat)
    simpa only [Int.zero_add] using z⟩
theorem si_range2 (ha : SA X C W Γ [e, e2] Γ' g) (hm : X.mg "range" = none) (hg : Gl X "range" := by rfl) (hs : starEach [e, e2] X.env = [(false, eval e X.env), (false, eval e2 X.env)] := by rfl) (hs2 : starEach [e2] X.env = [(false, eval e2 X.env)] := by rfl) : SI X C W Γ tg (.Call (.Name "range" p) [e, e2] [] pos) Γ' (mArgI asR2 g) :=
  ⟨piImp (pi_range2 hg hm ha.pa hs hs2) fun σ H Q ⟨hid, ρ, S, p⟩ => by
  refine ⟨hid, ρ, S, ?_⟩
  unfold mArgI at p
  cases q : g ρ with
  | bad => rw [q] at p; exact p
  | exn e ρ' => rw [q] at p; exact p
  | ok ds ρ' =>
    rw [q] at p
    dsimp only [R.bind] at p
    intro vs H1 tm S1 k1 t1 ks
    have sub : ∀ b ∈ Ms σ hid Γ', b ∈ Ms σ (tm ++ hid) Γ' := Ms_subH fun a ha => List.mem_append_right _ ha
    have S2 := S1.forget (fun a ha => List.mem_append_right _ ha) S.sub
    have k2 : Stp (Ms σ hid Γ) (Ms σ hid Γ') hid H H1 := ⟨k1.le.trans (.of_same (mask_sub sub)), k1.fx⟩
    obtain ⟨its, ho, p⟩ := PostI.ofO p
    obtain ⟨a, b, rfl, h1, h2, h3, h4, rfl⟩ := asR2_inv ho
    cases ks with
    | cons k ks =>
    cases ks with
    | cons k' ks =>
    cases ks
    have := kept_int k
    subst this
    have := kept_int k'
    subst this
    exact ⟨a, b, rfl, ⟨h1, h2, h3, h4⟩, p _ H1 S2 k2 itok_range⟩⟩
end
end Ip
namespace Ip
open PySem L2 PySem.Spec PyProof.Rows

section
variable {X : Cx} {C : Ac} {W : WX} {Γ Γ1 Γ2 Γ3 Γ' Γb : List Nat} {fr fr1 fr2 fr3 : Bool} {e a b c : Expr} {es : List Expr} {f h k : Env → R D} {g : Env → R (List D)} {p pos apos : Pos}
/-! ## how an expression ends -/
theorem fin_fz {hid tm : List Addr} {ρ' : Env} {σ : L2.St} {H H1 : Hp} {Q : VK} {d : D} (p : PostE X.K C W Γ Γ' false hid σ H Q (.ok d ρ')) (hs : ∀ a ∈ C.hid, a ∈ hid) (S1 : ST X.K C (tm ++ hid) Γ' ρ' σ H1) (k1 : Stp (Ms σ hid Γ) (Ms σ (tm ++ hid) Γ') hid H H1) :
    ∀ v H', Same H1 H' → RV (gx X.K C) (mask H' (Ms σ (tm ++ hid) Γ')) d v → Q v H' := fun v H' s rv =>
  p v H' [] (S1.fin hs s) (k1.fin s fun a ha => (S1.trk a (List.mem_append_right _ ha)).1) (.fz (rv.mono (.of_same (mask_sub (Ms_subH fun a ha => List.mem_append_right _ ha)))) fun z => nomatch z) fun _ z => nomatch z
theorem fin_fr {hid tm : List Addr} {ρ' : Env} {σ : L2.St} {H H1 : Hp} {Q : VK} {d : D} (p : PostE X.K C W Γ Γ' true hid σ H Q (.ok d ρ')) (hs : ∀ a ∈ C.hid, a ∈ hid) (S1 : ST X.K C (tm ++ hid) Γ' ρ' σ H1) (k1 : Stp (Ms σ hid Γ) (Ms σ (tm ++ hid) Γ') hid H H1) :
    ∀ q u, H1 q = none → Cont (gx X.K C) (upd H1 q u) (mask H1 (Ms σ (tm ++ hid) Γ')) q d → Q (.ref q) (upd H1 q u) := fun q u hq c => by
  have sub : ∀ b ∈ Ms σ hid Γ', b ∈ Ms σ (tm ++ hid) Γ' := Ms_subH fun a ha => List.mem_append_right _ ha
  have S2 := S1.forget (fun a ha => List.mem_append_right _ ha) hs
  have k2 : Stp (Ms σ hid Γ) (Ms σ hid Γ') hid H H1 := ⟨k1.le.trans (.of_same (mask_sub sub)), k1.fx⟩
  have kh := S2.holdStp (o := u) hq
  refine p (.ref q) _ [q] (S2.hold hq fun vs z => c.hd.2 vs (by rw [upd_same, z])) (k2.trans kh fun _ z => z) (.fr (c.mono (fun _ z => z) ((HLe.of_same (mask_sub sub)).trans kh.le))) fun b hb => ?_
  rw [List.mem_singleton.mp hb]; exact S2.none_out hq

/-! ## arguments that are seen alone -/
def PostV (K : PySem.W.Frag) (C : Ac) (W : WX) (Γ Γ' : List Nat) (hid : List Addr) (σ : L2.St) (H : Hp) (Q : List V → Hp → Prop) : R (List D) → Prop
  | .ok ds ρ' => ∀ vs H' tm, ST K C (tm ++ hid) Γ' ρ' σ H' → Stp (Ms σ hid Γ) (Ms σ (tm ++ hid) Γ') hid H H' → (∀ a ∈ tm, a ∉ Ms σ hid Γ') → Shals (gx K C) H' (mask H' (Ms σ (tm ++ hid) Γ')) ds vs → Q vs H'
  | .exn e ρ' => ∀ cls od H', ExR (gx K C) H' (mask H' (Ms σ C.hid C.io)) e cls od → ST K C C.hid C.io ρ' σ H' → W cls od σ H'
  | .bad => False
def tVs (K : PySem.W.Frag) (C : Ac) (W : WX) (Γ Γ' : List Nat) (f : Env → R (List D)) : TA := fun σ H Q => ∃ hid ρ, ST K C hid Γ ρ σ H ∧ PostV K C W Γ Γ' hid σ H Q (f ρ)
structure SV (X : Cx) (C : Ac) (W : WX) (Γ : List Nat) (es : List Expr) (Γ' : List Nat) (f : Env → R (List D)) : Prop where
  pa : PA X es (tVs X.K C W Γ Γ' f)
theorem sv_nil : SV X C W Γ [] Γ mNil := ⟨paImp pa_nil fun σ H Q ⟨hid, ρ, S, p⟩ => p [] H [] S (Stp.refl _ _ _) (fun _ z => nomatch z) .nil⟩
theorem sv_cons (ha : SE X C W Γ a Γ1 fr1 f) (hr : SV X C W Γ1 es Γ2 g) (hs : starEach (a :: es) X.env = (false, eval a X.env) :: starEach es X.env := by rfl) : SV X C W Γ (a :: es) Γ2 (mCons f g) := by
  refine ⟨paImp (pa_cons ha.pe hr.pa hs) fun σ H Q ⟨hid, ρ, S, p⟩ => ⟨hid, ρ, S, ?_⟩⟩
  unfold mCons at p
  cases q : f ρ with
  | bad => rw [q] at p; exact p
  | exn e ρ' => rw [q] at p; exact p
  | ok d ρ1 =>
    rw [q] at p
    dsimp only [R.bind] at p
    intro v H1 tm1 S1 k1 va t1
    refine ⟨tm1 ++ hid, ρ1, S1, ?_⟩
    cases q2 : g ρ1 with
    | bad => rw [q2] at p; exact p
    | exn e ρ' => rw [q2] at p; exact p
    | ok ds ρ2 =>
      rw [q2] at p
      dsimp only at p
      intro vs H2 tm2 S2 k2 t2 ks
      have e : tm2 ++ (tm1 ++ hid) = (tm2 ++ tm1) ++ hid := (List.append_assoc ..).symm
      rw [e] at S2 k2 ks
      refine p (v :: vs) H2 (tm2 ++ tm1) S2 (k1.trans k2 fun a ha => List.mem_append_right _ ha) (fun a ha z => ?_) (.cons ((Kept.of va).stp (tm' := tm2 ++ tm1) k2 fun a ha => List.mem_append_right _ ha).shal ks)
      rcases List.mem_append.mp ha with ha | ha
      · exact t2 a ha (Ms_subH (fun b hb => List.mem_append_right _ hb) a z)
      · rcases mem_Ms.mp z with z | ⟨i, hi, rfl⟩
        · exact t1 a ha (mem_Ms.mpr (.inl z))
        · exact S2.dis i hi (List.mem_append_left _ (List.mem_append_right _ ha))
def mOwn (i : Nat) (g : Env → R (List D)) : Env → R (List D) := fun ρ => (g ρ).bind fun ds ρ2 => match ρ2.getD i none with
  | some d => .ok (d :: ds) ρ2
  | none => .bad
theorem own_at {K : PySem.W.Frag} {hid : List Addr} {ρ : Env} {σ : L2.St} {H : Hp} (S : ST K C hid Γ ρ σ H) {i : Nat} (hi : Γ.contains i = true) : ∃ d, ρ.getD i none = some d ∧ σ[i]? = some (some (.ref (sa σ i))) ∧ Cont (gx K C) H (mask H (Ms σ hid Γ)) (sa σ i) d := by
  obtain ⟨d, e1, e2, c⟩ := S.ow i (List.contains_iff_mem.mp hi)
  exact ⟨d, by rw [List.getD_eq_getElem?_getD, e1]; rfl, e2, c⟩
/-- an owned name as an argument, not let go -/
theorem sv_own (i : Nat) {x : Str} (hr : SV X C W Γ es Γ2 g) (hN : X.N[i]? = some x := by rfl) (hv : Vis X.env.scope x := by first | exact Or.inl rfl | exact Or.inr (Or.inl rfl) | exact Or.inr (Or.inr rfl)) (hi : Γ.contains i = true := by rfl) (hi2 : Γ2.contains i = true := by rfl)
    (hs : starEach (.Name x p :: es) X.env = (false, eval (.Name x p) X.env) :: starEach es X.env := by rfl) (hd : (x == ("__debug__" : Str)) = false := by decide) (hcd : (x == ("__classdict__" : Str)) = false := by decide) : SV X C W Γ (.Name x p :: es) Γ2 (mOwn i g) := by
  refine ⟨paImp (pa_cons (pe_var hN hv hd hcd) hr.pa hs) fun σ H Q ⟨hid, ρ, S, p⟩ => ?_⟩
  obtain ⟨d0, _, e2, _⟩ := own_at S hi
  refine ⟨_, e2, hid, ρ, S, ?_⟩
  unfold mOwn at p
  cases q : g ρ with
  | bad => rw [q] at p; exact p
  | exn e ρ' => rw [q] at p; exact p
  | ok ds ρ2 =>
    rw [q] at p
    dsimp only [R.bind] at p
    intro vs H2 tm2 S2 k2 t2 ks
    obtain ⟨d, e1, _, c⟩ := own_at S2 hi2
    rw [e1] at p
    exact p _ H2 tm2 S2 k2 t2 (.cons c.shal ks)

/-! ## calls of builtins -/
def CalS (g : Gx) (r : List V → Hp → VK → Prop) (o : List D → Option D) : Prop := ∀ (H : Hp) (M : List Addr) (vs : List V) (ds : List D) (d : D) (Q : VK), (∀ a ∈ M, H a ≠ none) → Shals g H (mask H M) ds vs → o ds = some d →
  (∀ v H', Same H H' → RV g (mask H' M) d v → Q v H') → r vs H Q
def CalO (g : Gx) (r : List V → Hp → VK → Prop) (o : List D → Option D) : Prop := ∀ (H : Hp) (M : List Addr) (vs : List V) (ds : List D) (d : D) (Q : VK), (∀ a ∈ M, H a ≠ none) → Shals g H (mask H M) ds vs → o ds = some d →
  (∀ q u, H q = none → Cont g (upd H q u) (mask H M) q d → Q (.ref q) (upd H q u)) → r vs H Q
def mArg (o : List D → Option D) (g : Env → R (List D)) : Env → R D := fun ρ => (g ρ).bind fun ds ρ' => ofO ρ' (o ds)
theorem arg_tE {r : List V → Hp → VK → Prop} {o : List D → Option D} (hs : CalS ⟨X.K, C.ct⟩ r o) {σ : L2.St} {H : Hp} {Q : VK} (p : tE X.K C W Γ Γ' false (mArg o g) σ H Q) : tVs X.K C W Γ Γ' g σ H fun vs H1 => r vs H1 Q := by
  obtain ⟨hid, ρ, S, p⟩ := p
  refine ⟨hid, ρ, S, ?_⟩
  unfold mArg at p
  cases q : g ρ with
  | bad => rw [q] at p; exact p
  | exn e ρ' => rw [q] at p; exact p
  | ok ds ρ2 =>
    rw [q] at p
    dsimp only [R.bind] at p
    intro vs H1 tm S1 k1 t1 ks
    cases q2 : o ds with
    | none => rw [q2] at p; exact p.elim
    | some d => rw [q2] at p; exact hs H1 _ vs ds d Q S1.trkM ks q2 (fin_fz p S.sub S1 k1)
theorem arg_tO {r : List V → Hp → VK → Prop} {o : List D → Option D} (hs : CalO ⟨X.K, C.ct⟩ r o) {σ : L2.St} {H : Hp} {Q : VK} (p : tE X.K C W Γ Γ' true (mArg o g) σ H Q) : tVs X.K C W Γ Γ' g σ H fun vs H1 => r vs H1 Q := by
  obtain ⟨hid, ρ, S, p⟩ := p
  refine ⟨hid, ρ, S, ?_⟩
  unfold mArg at p
  cases q : g ρ with
  | bad => rw [q] at p; exact p
  | exn e ρ' => rw [q] at p; exact p
  | ok ds ρ2 =>
    rw [q] at p
    dsimp only [R.bind] at p
    intro vs H1 tm S1 k1 t1 ks
    cases q2 : o ds with
    | none => rw [q2] at p; exact p.elim
    | some d => rw [q2] at p; exact hs H1 _ vs ds d Q S1.trkM ks q2 (fin_fr p S.sub S1 k1)
variable {id T : String} {x : Str} {r : List V → Hp → VK → Prop} {o : List D → Option D}
theorem se_calB (hc : CallR X (.builtin id) r) (hs : CalS ⟨X.K, C.ct⟩ r o) (hm : X.mg x = none) (ha : SV X C W Γ (e :: es) Γ' g) (hg : Gl X x := by rfl) (hv : bootBuiltins x = some (.builtin id) := by decide +kernel) (hn : x ≠ "__name__" := by decide) (hdb : (x == ("__debug__" : Str)) = false := by decide)
    (he : starEach (e :: es) X.env = (false, eval e X.env) :: starEach es X.env := by rfl) (hpl : (backTo pos (starEach es X.env)).any (·.1) = false := by rfl) : SE X C W Γ (.Call (.Name x p) (e :: es) [] pos) Γ' false (mArg o g) :=
  ⟨peImp (pe_callB hc hg hm hv ha.pa hn hdb he hpl) fun _ _ _ p => arg_tE hs p⟩
theorem se_calT (hc : CallR X (.type T) r) (hs : CalS ⟨X.K, C.ct⟩ r o) (hm : X.mg x = none) (ha : SV X C W Γ (e :: es) Γ' g) (hg : Gl X x := by rfl) (hv : bootBuiltins x = some (.type T) := by decide +kernel) (hn : x ≠ "__name__" := by decide) (hdb : (x == ("__debug__" : Str)) = false := by decide)
    (he : starEach (e :: es) X.env = (false, eval e X.env) :: starEach es X.env := by rfl) (hpl : (backTo pos (starEach es X.env)).any (·.1) = false := by rfl) : SE X C W Γ (.Call (.Name x p) (e :: es) [] pos) Γ' false (mArg o g) :=
  ⟨peImp (pe_callTy hc hg hm hv ha.pa hn hdb he hpl) fun _ _ _ p => arg_tE hs p⟩
theorem se_calO (hc : CallR X (.type T) r) (hs : CalO ⟨X.K, C.ct⟩ r o) (hm : X.mg x = none) (ha : SV X C W Γ (e :: es) Γ' g) (hg : Gl X x := by rfl) (hv : bootBuiltins x = some (.type T) := by decide +kernel) (hn : x ≠ "__name__" := by decide) (hdb : (x == ("__debug__" : Str)) = false := by decide)
    (he : starEach (e :: es) X.env = (false, eval e X.env) :: starEach es X.env := by rfl) (hpl : (backTo pos (starEach es X.env)).any (·.1) = false := by rfl) : SE X C W Γ (.Call (.Name x p) (e :: es) [] pos) Γ' true (mArg o g) :=
  ⟨peImp (pe_callTy hc hg hm hv ha.pa hn hdb he hpl) fun _ _ _ p => arg_tO hs p⟩

/-! ### the builtins -/
def oLen : List D → Option D
  | [.str y] => if y.length ≤ sizeLine then some (.int y.length) else none
  | [.lst ds] => some (.int ds.length)
  | [.tup ds] => some (.int ds.length)
  | _ => none
theorem cal_len {gg : Gx} : CalS gg (fun xs H Q => ∃ x n, xs = [x] ∧ LenV gg.K x H n ∧ Q (.int n) H) oLen := fun H M vs ds d Q tr ks ho q => by
  cases ks with
  | nil => cases ho
  | cons s t =>
    cases t with
    | cons _ _ => cases s <;> cases ho
    | nil =>
      cases s with
      | str y =>
        simp only [oLen, Option.ite_none_right_eq_some, Option.some.injEq] at ho
        obtain ⟨hz, rfl⟩ := ho
        exact ⟨_, _, rfl, ⟨hz, rfl⟩, q _ H (.refl _) (.int _)⟩
      | lst e r => cases ho; rw [r.length] at q; exact ⟨_, _, rfl, .inl ⟨_, e, rfl⟩, q _ H (.refl _) (.int _)⟩
      | tup e r => cases ho; rw [r.length] at q; exact ⟨_, _, rfl, .inr ⟨_, SqT.of e, rfl⟩, q _ H (.refl _) (.int _)⟩
      | _ => cases ho
end
end Ip
namespace Ip
open PySem L2 PySem.Spec PyProof.Rows

/-! ## isinstance(e, T), T a type of the language -/
def tyD : D → Option String
  | .non => some "NoneType"
  | .bl _ => some "bool"
  | .int _ => some "int"
  | .str _ => some "str"
  | .tup _ => some "tuple"
  | .lst _ => some "list"
  | .dic _ _ => some "dict"
  | .dit _ _ => some "dict"
  | _ => none
def subT (a b : String) : Bool := a == b || (a == "bool" && b == "int")
def tys : List String := ["NoneType", "bool", "int", "str", "tuple", "list", "dict"]
def KbOk (T : String) : Prop := ∀ t ∈ tys, kitB t T = some (subT t T)
theorem kb_of {T : String} (h : (tys.all fun t => decide (kitB t T = some (subT t T))) = true) : KbOk T := fun t ht => of_decide_eq_true (List.all_eq_true.mp h t ht)
theorem kb_int : KbOk "int" := kb_of (by decide +kernel)
theorem kb_bool : KbOk "bool" := kb_of (by decide +kernel)
theorem kb_str : KbOk "str" := kb_of (by decide +kernel)
theorem kb_list : KbOk "list" := kb_of (by decide +kernel)
theorem kb_tuple : KbOk "tuple" := kb_of (by decide +kernel)
theorem kb_dict : KbOk "dict" := kb_of (by decide +kernel)
theorem kit_shal {X : Cx} {pins : List (Addr × Obj)} {σ : L2.St} {H Hm : Hp} {s : Shared} {g : Gx} {d : D} {x : V} {u : Value} {t : String} (I : Inv X pins σ H s) (hg : g.K = X.K) (sh : Shal g H Hm d x) (rx : RelV x u) (ht : tyD d = some t) :
    ∃ P : Heap → Prop, PySem.W.KitX X.K u (.type t) P ∧ P s.heap ∧ u ≠ .builtin "__main__.__loader__#opaque" := by
  have ext : ∀ {y : Value}, TyX X.K H x y → y = .type t → ∃ P : Heap → Prop, PySem.W.KitX X.K u (.type t) P ∧ P s.heap ∧ u ≠ .builtin "__main__.__loader__#opaque" := fun ty e => by
    rw [← e]; exact kit_of I rx ty
  cases sh with
  | non => cases ht; exact ext (.base .non) rfl
  | bl b => cases ht; exact ext (.base (.bl b)) rfl
  | int i => cases ht; exact ext (.base (.int i)) rfl
  | str y => cases ht; exact ext (.base (.str y)) rfl
  | tup h _ => cases ht; exact ext (.base (.tup h)) rfl
  | lst h _ =>
    cases ht
    rw [hg] at h
    rcases h with (h | ⟨o, h⟩) | ⟨o, _, _, h, c, _⟩
    · exact ext (.base (.lst h)) rfl
    · exact ext (.base (.frz h)) rfl
    · exact ext (.kList h c) rfl
  | dK h _ _ =>
    cases ht
    rcases h with h | ⟨o, h⟩
    · exact ext (.base (.dK h)) rfl
    · exact ext (.fDict h) rfl
  | @dT a ks vs ds h _ _ =>
    cases ht
    rcases h with h | ⟨ob, h⟩
    · exact ext (.base (.dT h)) rfl
    · cases (show u = Value.ref a from rx)
      obtain ⟨_, _, _, xs, _, o, es, ep, h1, h2, _⟩ := (show ObjOk X.prog X.w H s.heap a (.frz ob (.dT (ks.zip vs))) from I.hok a _ h)
      exact ⟨_, PySem.W.kitx_dict, ⟨o, h1, h2.1⟩, fun z => nomatch z⟩
  | obj _ _ _ _ => cases ht
def rIsS (g : Gx) (T : String) : List V → Hp → VK → Prop := fun xs H Q => ∃ (x : V) (d : D) (Hm : Hp) (t : String), xs = [x, .ty T] ∧ Shal g H Hm d x ∧ tyD d = some t ∧ Q (.bl (subT t T)) H
theorem call_isS {X : Cx} {g : Gx} (hg : g.K = X.K) {T : String} (hT : KbOk T) : CallR X (.builtin "isinstance") (rIsS g T) := by
  intro pins s σ H xs us Q I r h
  obtain ⟨x, d, Hm, t, rfl, sh, ht, q⟩ := h
  obtain ⟨u1, u2, rfl, r1, r2⟩ := vals2 r
  cases (show u2 = Value.type T from r2)
  obtain ⟨P, Z, p, hx⟩ := kit_shal I hg sh r1 ht
  have hm : t ∈ tys := by
    cases d <;> first | (cases ht; decide) | cases ht
  exact PySem.W.kia_one Z I.kIn p (kit_ty (hT t hm)) hx fun tk => ⟨.bl _, H, I.tok tk, rfl, q⟩
def isiD (T : String) (d : D) : Option D := (tyD d).map fun t => .bl (subT t T)
section
variable {X : Cx} {C : Ac} {W : WX} {Γ Γ1 Γ2 Γ3 Γ' Γb : List Nat} {fr fr1 fr2 fr3 : Bool} {e a b c : Expr} {es : List Expr} {f h k : Env → R D} {g : Env → R (List D)} {p pos apos p2 : Pos}
theorem un_tE {op : D → Option D} {r : V → Hp → VK → Prop} (ho : ∀ (H : Hp) (M : List Addr) (x : V) (dx d : D) (Q : VK), (∀ a ∈ M, H a ≠ none) → Shal ⟨X.K, C.ct⟩ H (mask H M) dx x → op dx = some d → (∀ v H', Same H H' → RV ⟨X.K, C.ct⟩ (mask H' M) d v → Q v H') → r x H Q)
    {σ : L2.St} {H : Hp} {Q : VK} (p : tE X.K C W Γ Γ' false (mUn op f) σ H Q) : tE X.K C W Γ Γ' fr f σ H fun x H1 => r x H1 Q := by
  obtain ⟨hid, ρ, S, p⟩ := p
  refine ⟨hid, ρ, S, ?_⟩
  unfold mUn at p
  cases q : f ρ with
  | bad => rw [q] at p; exact p
  | exn e ρ' => rw [q] at p; exact p
  | ok d ρ1 =>
    rw [q] at p
    dsimp only [R.bind] at p
    intro v H1 tm S1 k1 va t1
    cases q2 : op d with
    | none => rw [q2] at p; exact p.elim
    | some z => rw [q2] at p; exact ho H1 _ v d z Q S1.trkM va.shal0 q2 (fin_fz p S.sub S1 k1)
theorem se_isi {T : String} {x : Str} (he : SE X C W Γ e Γ' fr f) (hT : KbOk T) (hi : X.mg "isinstance" = none) (hm : X.mg x = none) (hgi : Gl X "isinstance" := by rfl) (hg : Gl X x := by rfl) (hvi : bootBuiltins "isinstance" = some (.builtin "isinstance") := by decide +kernel)
    (hv : bootBuiltins x = some (.type T) := by decide +kernel) (hn : x ≠ "__name__" := by decide) (hdb : (x == ("__debug__" : Str)) = false := by decide)
    (hs : starEach [e, .Name x p2] X.env = (false, eval e X.env) :: starEach [.Name x p2] X.env := by rfl) (hs2 : starEach [.Name x p2] X.env = (false, eval (.Name x p2) X.env) :: starEach [] X.env := by rfl)
    (hpl : (backTo pos (starEach [.Name x p2] X.env)).any (·.1) = false := by rfl) : SE X C W Γ (.Call (.Name "isinstance" p) [e, .Name x p2] [] pos) Γ' false (mUn (isiD T) f) :=
  ⟨peImp (pe_callB (call_isS (g := ⟨X.K, C.ct⟩) rfl hT) hgi hi hvi (pa_cons he.pe (pa_cons (pe_bltn hg hm hv (show RelV (.ty T) (Value.type T) from rfl) hn hdb) pa_nil hs2) hs) (by decide) (by decide) hs hpl) fun σ H Q q => by
    refine un_tE (r := fun x H1 Q => rIsS ⟨X.K, C.ct⟩ T [x, .ty T] H1 Q) (fun H M x dx d Q tr sh ho q => ?_) q
    unfold isiD at ho
    cases ht : tyD dx with
    | none => rw [ht] at ho; cases ho
    | some t =>
      rw [ht] at ho
      cases ho
      exact ⟨x, dx, _, t, rfl, sh, ht, q _ H (.refl _) (.bl _)⟩⟩
/-! ## two operands, each read alone or seen -/
def Post2 (K : PySem.W.Frag) (C : Ac) (W : WX) (Γ Γ' : List Nat) (hid : List Addr) (σ : L2.St) (H : Hp) (Q : V → V → Hp → Prop) : R (D × D) → Prop
  | .ok d ρ' => ∀ x y H' tm, ST K C (tm ++ hid) Γ' ρ' σ H' → Stp (Ms σ hid Γ) (Ms σ (tm ++ hid) Γ') hid H H' → (∀ a ∈ tm, a ∉ Ms σ hid Γ') → Shal (gx K C) H' (mask H' (Ms σ (tm ++ hid) Γ')) d.1 x → Shal (gx K C) H' (mask H' (Ms σ (tm ++ hid) Γ')) d.2 y → Q x y H'
  | .exn e ρ' => ∀ cls od H', ExR (gx K C) H' (mask H' (Ms σ C.hid C.io)) e cls od → ST K C C.hid C.io ρ' σ H' → W cls od σ H'
  | .bad => False
structure S2 (X : Cx) (C : Ac) (W : WX) (Γ : List Nat) (a b : Expr) (Γ' : List Nat) (f : Env → R (D × D)) : Prop where
  ex : ∃ ta tb, PE X a ta ∧ PE X b tb ∧ ∀ σ H Rr, (∃ hid ρ, ST X.K C hid Γ ρ σ H ∧ Post2 X.K C W Γ Γ' hid σ H Rr (f ρ)) → ta σ H fun x H1 => tb σ H1 fun y H2 => Rr x y H2
def mPair (f h : Env → R D) : Env → R (D × D) := fun ρ => (f ρ).bind fun x ρ1 => (h ρ1).bind fun y ρ2 => .ok (x, y) ρ2
def mPairO (i : Nat) (h : Env → R D) : Env → R (D × D) := fun ρ => (h ρ).bind fun y ρ2 => match ρ2.getD i none with
  | some x => .ok (x, y) ρ2
  | none => .bad
def mPairR (f : Env → R D) (i : Nat) : Env → R (D × D) := fun ρ => (f ρ).bind fun x ρ2 => match ρ2.getD i none with
  | some y => .ok (x, y) ρ2
  | none => .bad
theorem s2_ee (ha : SE X C W Γ a Γ1 fr1 f) (hb : SE X C W Γ1 b Γ2 fr2 h) : S2 X C W Γ a b Γ2 (mPair f h) := ⟨_, _, ha.pe, hb.pe, fun σ H Rr ⟨hid, ρ, S, p⟩ => by
  unfold mPair at p
  refine two (fr1 := fr1) (fr2 := fr2) S (fun d1 ρ1 d2 ρ2 q1 q2 x y H2 tm S2 k2 t2 v1 v2 => ?_) (fun q => ?_) (fun d1 ρ1 q1 q2 => ?_) (fun e ρ' q => ?_) fun d1 ρ1 e ρ' q1 q2 => ?_
  · rw [q1] at p
    dsimp only [R.bind] at p
    rw [q2] at p
    exact p x y H2 tm S2 k2 t2 v1.shal v2.shal
  · rw [q] at p; exact p
  · rw [q1] at p
    dsimp only [R.bind] at p
    rw [q2] at p; exact p
  · rw [q] at p; exact p
  · rw [q1] at p
    dsimp only [R.bind] at p
    rw [q2] at p; exact p⟩
theorem s2_oe (i : Nat) {x : Str} (hb : SE X C W Γ b Γ2 fr2 h) (hN : X.N[i]? = some x := by rfl) (hv : Vis X.env.scope x := by first | exact Or.inl rfl | exact Or.inr (Or.inl rfl) | exact Or.inr (Or.inr rfl)) (hi : Γ.contains i = true := by rfl) (hi2 : Γ2.contains i = true := by rfl)
    (hd : (x == ("__debug__" : Str)) = false := by decide) (hcd : (x == ("__classdict__" : Str)) = false := by decide) : S2 X C W Γ (.Name x p) b Γ2 (mPairO i h) := ⟨_, _, pe_var hN hv hd hcd, hb.pe, fun σ H Rr ⟨hid, ρ, S, p⟩ => by
  obtain ⟨d0, _, e2, _⟩ := own_at S hi
  refine ⟨_, e2, hid, ρ, S, ?_⟩
  unfold mPairO at p
  cases q : h ρ with
  | bad => rw [q] at p; exact p
  | exn e ρ' => rw [q] at p; exact p
  | ok d2 ρ2 =>
    rw [q] at p
    dsimp only [R.bind] at p
    intro y H2 tm S2 k2 va t2
    obtain ⟨d, e1, _, c⟩ := own_at S2 hi2
    rw [e1] at p
    exact p _ y H2 tm S2 k2 t2 c.shal va.shal0⟩
theorem s2_eo (i : Nat) {x : Str} (ha : SE X C W Γ a Γ2 fr2 f) (hN : X.N[i]? = some x := by rfl) (hv : Vis X.env.scope x := by first | exact Or.inl rfl | exact Or.inr (Or.inl rfl) | exact Or.inr (Or.inr rfl)) (hi2 : Γ2.contains i = true := by rfl)
    (hd : (x == ("__debug__" : Str)) = false := by decide) (hcd : (x == ("__classdict__" : Str)) = false := by decide) : S2 X C W Γ a (.Name x p) Γ2 (mPairR f i) := ⟨_, _, ha.pe, pe_var hN hv hd hcd, fun σ H Rr ⟨hid, ρ, S, p⟩ => by
  refine ⟨hid, ρ, S, ?_⟩
  unfold mPairR at p
  cases q : f ρ with
  | bad => rw [q] at p; exact p
  | exn e ρ' => rw [q] at p; exact p
  | ok d2 ρ2 =>
    rw [q] at p
    dsimp only [R.bind] at p
    intro y H2 tm S2 k2 va t2
    obtain ⟨d, e1, e2, c⟩ := own_at S2 hi2
    rw [e1] at p
    exact ⟨_, e2, p y _ H2 tm S2 k2 t2 va.shal0 c.shal⟩⟩
def OpO (g : Gx) (r : R2) (op : D → D → Option D) : Prop := ∀ (H : Hp) (M : List Addr) (x y : V) (dx dy d : D) (Q : VK), (∀ a ∈ M, H a ≠ none) → Shal g H (mask H M) dx x → Shal g H (mask H M) dy y → op dx dy = some d →
  (∀ q u, H q = none → Cont g (upd H q u) (mask H M) q d → Q (.ref q) (upd H q u)) → r x y H Q
def m2 (op : D → D → Option D) (f : Env → R (D × D)) : Env → R D := fun ρ => (f ρ).bind fun d ρ2 => ofO ρ2 (op d.1 d.2)
variable {f2 : Env → R (D × D)}
theorem m2_tE {ta tb : TE} {op : D → D → Option D} {r : R2} (ho : OpS ⟨X.K, C.ct⟩ r op) (hx : ∀ σ H Rr, (∃ hid ρ, ST X.K C hid Γ ρ σ H ∧ Post2 X.K C W Γ Γ' hid σ H Rr (f2 ρ)) → ta σ H fun x H1 => tb σ H1 fun y H2 => Rr x y H2)
    {σ : L2.St} {H : Hp} {Q : VK} (p : tE X.K C W Γ Γ' false (m2 op f2) σ H Q) : tOp r ta tb σ H Q := by
  obtain ⟨hid, ρ, S, p⟩ := p
  refine hx σ H (fun x y H2 => r x y H2 Q) ⟨hid, ρ, S, ?_⟩
  unfold m2 at p
  cases q : f2 ρ with
  | bad => rw [q] at p; exact p
  | exn e ρ' => rw [q] at p; exact p
  | ok d ρ2 =>
    rw [q] at p
    dsimp only [R.bind] at p
    intro x y H1 tm S1 k1 t1 s1 s2
    cases q2 : op d.1 d.2 with
    | none => rw [q2] at p; exact p.elim
    | some z => rw [q2] at p; exact ho H1 _ x y _ _ z Q S1.trkM s1 s2 q2 (fin_fz p S.sub S1 k1)
theorem m2_tO {ta tb : TE} {op : D → D → Option D} {r : R2} (ho : OpO ⟨X.K, C.ct⟩ r op) (hx : ∀ σ H Rr, (∃ hid ρ, ST X.K C hid Γ ρ σ H ∧ Post2 X.K C W Γ Γ' hid σ H Rr (f2 ρ)) → ta σ H fun x H1 => tb σ H1 fun y H2 => Rr x y H2)
    {σ : L2.St} {H : Hp} {Q : VK} (p : tE X.K C W Γ Γ' true (m2 op f2) σ H Q) : tOp r ta tb σ H Q := by
  obtain ⟨hid, ρ, S, p⟩ := p
  refine hx σ H (fun x y H2 => r x y H2 Q) ⟨hid, ρ, S, ?_⟩
  unfold m2 at p
  cases q : f2 ρ with
  | bad => rw [q] at p; exact p
  | exn e ρ' => rw [q] at p; exact p
  | ok d ρ2 =>
    rw [q] at p
    dsimp only [R.bind] at p
    intro x y H1 tm S1 k1 t1 s1 s2
    cases q2 : op d.1 d.2 with
    | none => rw [q2] at p; exact p.elim
    | some z => rw [q2] at p; exact ho H1 _ x y _ _ z Q S1.trkM s1 s2 q2 (fin_fr p S.sub S1 k1)
theorem se_bin2 {op : Operator} {r : R2} {opD : D → D → Option D} (ho : OpR X (binaryOp op) r) (hs : OpS ⟨X.K, C.ct⟩ r opD) (h2 : S2 X C W Γ a b Γ' f2) : SE X C W Γ (.BinOp a op b pos) Γ' false (m2 opD f2) := by
  obtain ⟨ta, tb, pa, pb, hx⟩ := h2.ex
  exact ⟨peImp (pe_op ho pa pb) fun _ _ _ p => m2_tE hs hx p⟩
theorem se_binO {op : Operator} {r : R2} {opD : D → D → Option D} (ho : OpR X (binaryOp op) r) (hs : OpO ⟨X.K, C.ct⟩ r opD) (h2 : S2 X C W Γ a b Γ' f2) : SE X C W Γ (.BinOp a op b pos) Γ' true (m2 opD f2) := by
  obtain ⟨ta, tb, pa, pb, hx⟩ := h2.ex
  exact ⟨peImp (pe_op ho pa pb) fun _ _ _ p => m2_tO hs hx p⟩
theorem se_cmp2 {op : CmpOp} {r : R2} {opD : D → D → Option D} (ho : OpR X (compareOp op) r) (hs : OpS ⟨X.K, C.ct⟩ r opD) (h2 : S2 X C W Γ a b Γ' f2) (hm : behindInMarks op b = false := by rfl) : SE X C W Γ (.Compare a [op] [b] pos) Γ' false (m2 opD f2) := by
  obtain ⟨ta, tb, pa, pb, hx⟩ := h2.ex
  exact ⟨peImp (pe_cmpR ho pa pb hm) fun _ _ _ p => m2_tE hs hx p⟩
theorem se_ix2 {r : R2} {opD : D → D → Option D} (ho : IxR X r) (hs : OpS ⟨X.K, C.ct⟩ r opD) (h2 : S2 X C W Γ a b Γ' f2) (hm : PlainIx b := by exact fun _ _ => rfl) : SE X C W Γ (.Subscript a b pos) Γ' false (m2 opD f2) := by
  obtain ⟨ta, tb, pa, pb, hx⟩ := h2.ex
  exact ⟨peImp (pe_ix ho pa pb hm) fun _ _ _ p => m2_tE hs hx p⟩
/-! ### a op b op' c -/
def mChain (op op' : D → D → Option D) (f h k : Env → R D) : Env → R D := fun ρ => (f ρ).bind fun x ρ1 => (h ρ1).bind fun y ρ2 => match op x y with
  | some (.bl true) => (k ρ2).bind fun z ρ3 => ofO ρ3 (op' y z)
  | some (.bl false) => .ok (.bl false) ρ2
  | _ => .bad
theorem chain_tE {r r' : R2} {opD opD' : D → D → Option D} (hs : OpS ⟨X.K, C.ct⟩ r opD) (hs' : OpS ⟨X.K, C.ct⟩ r' opD') (hk : okG C.io Γ3 Γ2 = true) {σ : L2.St} {H : Hp} {Q : VK} (pp : tE X.K C W Γ Γ3 false (mChain opD opD' f h k) σ H Q) :
    tChain r r' (tE X.K C W Γ Γ1 fr1 f) (tE X.K C W Γ1 Γ2 fr2 h) (tE X.K C W Γ2 Γ3 fr3 k) σ H Q := by
  obtain ⟨hid, ρ, S, p⟩ := pp
  unfold mChain at p
  refine two (fr1 := fr1) (fr2 := fr2) S (fun d1 ρ1 d2 ρ2 q1 q2 x y H2 tm S2 k2 t2 v1 v2 => ?_) (fun q => ?_) (fun d1 ρ1 q1 q2 => ?_) (fun e ρ' q => ?_) fun d1 ρ1 e ρ' q1 q2 => ?_
  · rw [q1] at p
    dsimp only [R.bind] at p
    rw [q2] at p
    dsimp only [R.bind] at p
    cases q3 : opD d1 d2 with
    | none => rw [q3] at p; exact p.elim
    | some z =>
      rw [q3] at p
      cases z with
      | bl w =>
        refine hs H2 (Ms σ (tm ++ hid) Γ2) x y d1 d2 _ _ S2.trkM v1.shal v2.shal q3 fun v H3 s rv => ?_
        cases rv
        refine ⟨w, rfl, ?_⟩
        have S3 := S2.same s
        have k3 : Stp (Ms σ hid Γ) (Ms σ (tm ++ hid) Γ2) hid H H3 := ⟨k2.le.trans (.of_same (mask_keep fun b o _ e => s b o e)), fun a ha => by
          have e := k2.fx a ha
          rw [← e]
          cases q : H2 a with
          | none => exact absurd q (S2.trk a (List.mem_append_right _ ha)).1
          | some o => exact s a o q⟩
        cases w with
        | false =>
          rw [if_neg Bool.false_ne_true]
          obtain ⟨h1, h2, h3⟩ := okG_of hk
          have S4 := S3.weak h1 h2 h3
          exact fin_fz (tm := tm) p S.sub S4 ⟨k3.le.trans (.of_same (mask_sub (Ms_sub h1))), k3.fx⟩ _ H3 (.refl _) (.bl _)
        | true =>
          rw [if_pos rfl]
          refine ⟨tm ++ hid, ρ2, S3, ?_⟩
          cases q4 : k ρ2 with
          | bad => rw [q4] at p; exact p
          | exn e ρ' => rw [q4] at p; exact p
          | ok d3 ρ3 =>
            rw [q4] at p
            dsimp only [R.bind] at p
            intro z H4 tm4 S4 k4 v4 t4
            cases q5 : opD' d2 d3 with
            | none => rw [q5] at p; exact p.elim
            | some d =>
              rw [q5] at p
              have v2' : Kept (gx X.K C) H4 (Ms σ (tm4 ++ (tm ++ hid)) Γ3) (tm4 ++ tm) d2 y := by
                refine Kept.stp (M := Ms σ (tm ++ hid) Γ2) (H := H3) (hid := hid) ?_ k4 fun a ha => List.mem_append_right _ ha
                rcases v2 with r | ⟨a, ha, rfl, c⟩
                · exact .inl (r.mono (.of_same (mask_keep fun b o _ e => s b o e)))
                · exact .inr ⟨a, ha, rfl, c.mono (fun o e => s _ _ e) (.of_same (mask_keep fun b o _ e => s b o e))⟩
              have e : tm4 ++ (tm ++ hid) = (tm4 ++ tm) ++ hid := (List.append_assoc ..).symm
              rw [e] at S4 k4 v4 v2'
              exact hs' H4 _ y z d2 d3 d Q S4.trkM v2'.shal v4.shal0 q5 (fin_fz p S.sub S4 (k3.trans k4 fun a ha => List.mem_append_right _ ha))
      | _ => exact (show False from p).elim
  · rw [q] at p; exact p
  · rw [q1] at p
    dsimp only [R.bind] at p
    rw [q2] at p; exact p
  · rw [q] at p; exact p
  · rw [q1] at p
    dsimp only [R.bind] at p
    rw [q2] at p; exact p
theorem se_chain {op op' : CmpOp} {r r' : R2} {opD opD' : D → D → Option D} (ho : OpR X (compareOp op) r) (ho' : OpR X (compareOp op') r') (hs : OpS ⟨X.K, C.ct⟩ r opD) (hs' : OpS ⟨X.K, C.ct⟩ r' opD') (ha : SE X C W Γ a Γ1 fr1 f) (hb : SE X C W Γ1 b Γ2 fr2 h) (hc : SE X C W Γ2 c Γ3 fr3 k)
    (hk : okG C.io Γ3 Γ2 = true := by rfl) (hm : lastMarks [op, op'] [b, c] = false := by with_unfolding_all rfl) : SE X C W Γ (.Compare a [op, op'] [b, c] pos) Γ3 false (mChain opD opD' f h k) :=
  ⟨peImp (pe_chain ho ho' ha.pe hb.pe hc.pe hm) fun σ H Q p => chain_tE hs hs' hk p⟩
end
end Ip
namespace Ip
open PySem L2 PySem.Spec PyProof.Rows

/-! ## the operators on data -/
theorem shal_int {g : Gx} {H Hm : Hp} {i : Int} {v : V} (h : Shal g H Hm (.int i) v) : v = .int i := by cases h; rfl
theorem shal_str {g : Gx} {H Hm : Hp} {i : Str} {v : V} (h : Shal g H Hm (.str i) v) : v = .str i := by cases h; rfl
def ifO (b : Prop) [Decidable b] (d : D) : Option D := if b then some d else none
theorem ifO_some {b : Prop} [Decidable b] {d e : D} (h : ifO b d = some e) : b ∧ d = e := by
  unfold ifO at h
  split at h
  · cases h; exact ⟨by assumption, rfl⟩
  · cases h
def addD : D → D → Option D
  | .int i, .int j => some (.int (i + j))
  | .str i, .str j => ifO (i.length + j.length ≤ sizeLine) (.str (i ++ j))
  | _, _ => none
def subD : D → D → Option D
  | .int i, .int j => some (.int (i - j))
  | _, _ => none
def mulD : D → D → Option D
  | .int i, .int j => ifO ((-(2 ^ 64) < j ∧ j < 2 ^ 64) ∨ (-(2 ^ 64) < i ∧ i < 2 ^ 64) ∨ i.natAbs.log2 + j.natAbs.log2 < 1000000) (.int (i * j))
  | _, _ => none
def fdivD : D → D → Option D
  | .int i, .int j => ifO (0 < j ∧ j.natAbs.log2 < 9000) (.int (i / j))
  | _, _ => none
def modD : D → D → Option D
  | .int i, .int j => ifO (0 < j) (.int (i % j))
  | _, _ => none
def powD : D → D → Option D
  | .int i, .int j => ifO (0 ≤ j ∧ j ≤ 1000000 ∧ i.natAbs < 2 ^ 64) (.int (i ^ j.toNat))
  | _, _ => none
def ltD : D → D → Option D
  | .int i, .int j => some (.bl (decide (i < j)))
  | .str i, .str j => some (.bl (decide (i.cps.toList < j.cps.toList)))
  | _, _ => none
def leD : D → D → Option D
  | .int i, .int j => some (.bl (decide (i ≤ j)))
  | .str i, .str j => some (.bl (!decide (j.cps.toList < i.cps.toList)))
  | _, _ => none
def gtD : D → D → Option D
  | .int i, .int j => some (.bl (decide (j < i)))
  | .str i, .str j => some (.bl (decide (j.cps.toList < i.cps.toList)))
  | _, _ => none
def geD : D → D → Option D
  | .int i, .int j => some (.bl (decide (j ≤ i)))
  | .str i, .str j => some (.bl (!decide (i.cps.toList < j.cps.toList)))
  | _, _ => none
theorem or_or {X : Cx} {op : Value → Value → Sem Value} {r r' : R2} (h : OpR X op r) (h' : OpR X op r') : OpR X op (fun x y H Q => r x y H Q ∨ r' x y H Q) := fun pins s σ H x y v u Q I rx ry q => q.elim (h pins s σ H x y v u Q I rx ry) (h' pins s σ H x y v u Q I rx ry)
section
variable {g : Gx}
/-- both ints, or both texts -/
theorem ops_two {rI rS : R2} {op : D → D → Option D} (hn : ∀ a b d, op a b = some d → (∃ i j, a = .int i ∧ b = .int j) ∨ ∃ i j, a = .str i ∧ b = .str j)
    (hI : ∀ i j d H M Q, op (.int i) (.int j) = some d → (∀ v H', Same H H' → RV g (mask H' M) d v → Q v H') → rI (.int i) (.int j) H Q)
    (hS : ∀ i j d H M Q, op (.str i) (.str j) = some d → (∀ v H', Same H H' → RV g (mask H' M) d v → Q v H') → rS (.str i) (.str j) H Q) : OpS g (fun x y H Q => rI x y H Q ∨ rS x y H Q) op := fun H M x y dx dy d Q tr sx sy ho q => by
  rcases hn _ _ _ ho with ⟨i, j, rfl, rfl⟩ | ⟨i, j, rfl, rfl⟩
  · rw [shal_int sx, shal_int sy]; exact .inl (hI i j d H M Q ho q)
  · rw [shal_str sx, shal_str sy]; exact .inr (hS i j d H M Q ho q)
theorem ops_int {r : R2} {op : D → D → Option D} (hn : ∀ a b d, op a b = some d → ∃ i j, a = .int i ∧ b = .int j)
    (hI : ∀ i j d H M Q, op (.int i) (.int j) = some d → (∀ v H', Same H H' → RV g (mask H' M) d v → Q v H') → r (.int i) (.int j) H Q) : OpS g r op := fun H M x y dx dy d Q tr sx sy ho q => by
  obtain ⟨i, j, rfl, rfl⟩ := hn _ _ _ ho
  rw [shal_int sx, shal_int sy]; exact hI i j d H M Q ho q
theorem inv_int {op : D → D → Option D} (h : ∀ a b, op a b ≠ none → ∃ i j, a = .int i ∧ b = .int j) : ∀ a b d, op a b = some d → ∃ i j, a = .int i ∧ b = .int j := fun a b d e => h a b (by rw [e]; simp)
end
section
variable {g : Gx} {X : Cx}
theorem add_ok : OpS g (fun x y H Q => (rI0 fun i j => .int (i + j)) x y H Q ∨ (fun x y H Q => ∃ i j, x = .str i ∧ y = .str j ∧ i.length + j.length ≤ sizeLine ∧ Q (.str (i ++ j)) H) x y H Q) addD :=
  ops_two (fun a b d h => by cases a <;> cases b <;> first | exact .inl ⟨_, _, rfl, rfl⟩ | exact .inr ⟨_, _, rfl, rfl⟩ | cases h)
    (fun i j d H M Q h q => by cases h; exact ⟨i, j, rfl, rfl, q _ H (.refl _) (.int _)⟩)
    fun i j d H M Q h q => by obtain ⟨h1, rfl⟩ := ifO_some h; exact ⟨i, j, rfl, rfl, h1, q _ H (.refl _) (.str _)⟩
theorem sub_ok : OpS g (rI0 fun i j => .int (i - j)) subD :=
  ops_int (fun a b d h => by cases a <;> cases b <;> first | exact ⟨_, _, rfl, rfl⟩ | cases h) fun i j d H M Q h q => by cases h; exact ⟨i, j, rfl, rfl, q _ H (.refl _) (.int _)⟩
theorem mul_ok : OpS g (fun x y H Q => (rI CMul fun i j => .int (i * j)) x y H Q ∨ (rI CMulW fun i j => .int (i * j)) x y H Q) mulD :=
  ops_int (fun a b d h => by cases a <;> cases b <;> first | exact ⟨_, _, rfl, rfl⟩ | cases h) fun i j d H M Q h q => by
    obtain ⟨h1, rfl⟩ := ifO_some h
    rcases h1 with h1 | h1 | h1
    · exact .inl ⟨i, j, rfl, rfl, .inr h1, q _ H (.refl _) (.int _)⟩
    · exact .inl ⟨i, j, rfl, rfl, .inl h1, q _ H (.refl _) (.int _)⟩
    · exact .inr ⟨i, j, rfl, rfl, h1, q _ H (.refl _) (.int _)⟩
theorem fdiv_ok : OpS g (rI CDivW fun i j => .int (i / j)) fdivD :=
  ops_int (fun a b d h => by cases a <;> cases b <;> first | exact ⟨_, _, rfl, rfl⟩ | cases h) fun i j d H M Q h q => by obtain ⟨h1, rfl⟩ := ifO_some h; exact ⟨i, j, rfl, rfl, h1, q _ H (.refl _) (.int _)⟩
theorem mod_ok : OpS g (rI (fun _ j => 0 < j) fun i j => .int (i % j)) modD :=
  ops_int (fun a b d h => by cases a <;> cases b <;> first | exact ⟨_, _, rfl, rfl⟩ | cases h) fun i j d H M Q h q => by obtain ⟨h1, rfl⟩ := ifO_some h; exact ⟨i, j, rfl, rfl, h1, q _ H (.refl _) (.int _)⟩
theorem pow_ok : OpS g (rI CPow fun i j => .int (i ^ j.toNat)) powD :=
  ops_int (fun a b d h => by cases a <;> cases b <;> first | exact ⟨_, _, rfl, rfl⟩ | cases h) fun i j d H M Q h q => by obtain ⟨h1, rfl⟩ := ifO_some h; exact ⟨i, j, rfl, rfl, h1, q _ H (.refl _) (.int _)⟩
theorem lt_ok : OpS g (fun x y H Q => (rI0 fun i j => .bl (decide (i < j))) x y H Q ∨ (fun x y H Q => ∃ i j, x = .str i ∧ y = .str j ∧ Q (.bl (decide (i.cps.toList < j.cps.toList))) H) x y H Q) ltD :=
  ops_two (fun a b d h => by cases a <;> cases b <;> first | exact .inl ⟨_, _, rfl, rfl⟩ | exact .inr ⟨_, _, rfl, rfl⟩ | cases h)
    (fun i j d H M Q h q => by cases h; exact ⟨i, j, rfl, rfl, q _ H (.refl _) (.bl _)⟩) fun i j d H M Q h q => by cases h; exact ⟨i, j, rfl, rfl, q _ H (.refl _) (.bl _)⟩
theorem le_ok : OpS g (fun x y H Q => (rI0 fun i j => .bl (decide (i ≤ j))) x y H Q ∨ (fun x y H Q => ∃ i j, x = .str i ∧ y = .str j ∧ Q (.bl (!decide (j.cps.toList < i.cps.toList))) H) x y H Q) leD :=
  ops_two (fun a b d h => by cases a <;> cases b <;> first | exact .inl ⟨_, _, rfl, rfl⟩ | exact .inr ⟨_, _, rfl, rfl⟩ | cases h)
    (fun i j d H M Q h q => by cases h; exact ⟨i, j, rfl, rfl, q _ H (.refl _) (.bl _)⟩) fun i j d H M Q h q => by cases h; exact ⟨i, j, rfl, rfl, q _ H (.refl _) (.bl _)⟩
theorem gt_ok : OpS g (fun x y H Q => (rI0 fun i j => .bl (decide (j < i))) x y H Q ∨ (fun x y H Q => ∃ i j, x = .str i ∧ y = .str j ∧ Q (.bl (decide (j.cps.toList < i.cps.toList))) H) x y H Q) gtD :=
  ops_two (fun a b d h => by cases a <;> cases b <;> first | exact .inl ⟨_, _, rfl, rfl⟩ | exact .inr ⟨_, _, rfl, rfl⟩ | cases h)
    (fun i j d H M Q h q => by cases h; exact ⟨i, j, rfl, rfl, q _ H (.refl _) (.bl _)⟩) fun i j d H M Q h q => by cases h; exact ⟨i, j, rfl, rfl, q _ H (.refl _) (.bl _)⟩
theorem ge_ok : OpS g (fun x y H Q => (rI0 fun i j => .bl (decide (j ≤ i))) x y H Q ∨ (fun x y H Q => ∃ i j, x = .str i ∧ y = .str j ∧ Q (.bl (!decide (i.cps.toList < j.cps.toList))) H) x y H Q) geD :=
  ops_two (fun a b d h => by cases a <;> cases b <;> first | exact .inl ⟨_, _, rfl, rfl⟩ | exact .inr ⟨_, _, rfl, rfl⟩ | cases h)
    (fun i j d H M Q h q => by cases h; exact ⟨i, j, rfl, rfl, q _ H (.refl _) (.bl _)⟩) fun i j d H M Q h q => by cases h; exact ⟨i, j, rfl, rfl, q _ H (.refl _) (.bl _)⟩
def isN : D → Bool
  | .non => true
  | _ => false
theorem shal_isN {H Hm : Hp} {d : D} {v : V} (h : Shal g H Hm d v) : decide (v = .non) = isN d := by
  cases h <;> rfl
def isNoneD (a b : D) : Option D := if isN b then some (.bl (isN a)) else none
def isNotNoneD (a b : D) : Option D := if isN b then some (.bl (!isN a)) else none
theorem isN_ok : OpS g (fun x y H Q => y = .non ∧ Q (.bl (decide (x = .non))) H) isNoneD := fun H M x y dx dy d Q tr sx sy ho q => by
  cases dy <;> first | (cases ho; cases sy; exact ⟨rfl, q _ H (.refl _) (by rw [shal_isN sx]; exact .bl _)⟩) | cases ho
theorem notN_ok : OpS g (fun x y H Q => y = .non ∧ Q (.bl (!decide (x = .non))) H) isNotNoneD := fun H M x y dx dy d Q tr sx sy ho q => by
  cases dy <;> first | (cases ho; cases sy; exact ⟨rfl, q _ H (.refl _) (by rw [shal_isN sx]; exact .bl _)⟩) | cases ho

/-! ### == -/
mutual
def toPy : D → Option PyData
  | .non => some .none
  | .bl b => some (.bool b)
  | .int i => some (.int i)
  | .str x => some (.str x)
  | .lst ds => (toPys ds).map .list
  | .tup ds => (toPys ds).map .tuple
  | _ => none
def toPys : List D → Option (List PyData)
  | [] => some []
  | d :: ds => match toPy d, toPys ds with
    | some p, some ps => some (p :: ps)
    | _, _ => none
end
mutual
theorem RV.dp {H : Hp} : ∀ (d : D) (v : V) (p : PyData), RV g H d v → toPy d = some p → Dp g.K H v p
  | .non, _, _, r, e => by cases r; cases e; exact .non
  | .bl b, _, _, r, e => by cases r; cases e; exact .bl b
  | .int i, _, _, r, e => by cases r; cases e; exact .int i
  | .str x, _, _, r, e => by cases r; cases e; exact .str x
  | .lst ds, _, p, r, e => by
    cases r with
    | lst h r =>
      unfold toPy at e
      cases q : toPys ds with
      | none => rw [q] at e; cases e
      | some ps => rw [q] at e; cases e; exact .lst h (RVs.dp ds _ ps r q)
  | .tup ds, _, p, r, e => by
    cases r with
    | tup h r =>
      unfold toPy at e
      cases q : toPys ds with
      | none => rw [q] at e; cases e
      | some ps => rw [q] at e; cases e; exact .tup (.of h) (RVs.dp ds _ ps r q)
  | .dic _ _, _, _, _, e => by unfold toPy at e; cases e
  | .dit _ _, _, _, _, e => by unfold toPy at e; cases e
  | .obj _ _ _, _, _, _, e => by unfold toPy at e; cases e
theorem RVs.dp {H : Hp} : ∀ (ds : List D) (vs : List V) (ps : List PyData), RVs g H ds vs → toPys ds = some ps → DpAll g.K H vs ps
  | [], _, _, r, e => by cases r; unfold toPys at e; cases e; exact .nil
  | d :: ds, _, ps, r, e => by
    cases r with
    | cons r t =>
      unfold toPys at e
      cases q1 : toPy d with
      | none => rw [q1] at e; cases e
      | some p =>
        rw [q1] at e
        cases q2 : toPys ds with
        | none => rw [q2] at e; cases e
        | some qs => rw [q2] at e; cases e; exact .cons (RV.dp d _ p r q1) (RVs.dp ds _ qs t q2)
end
def eqD (a b : D) : Option D := match toPy a, toPy b with
  | some p, some q => ifO (SeqAt.shaped p = true ∧ SeqAt.shaped q = true) (.bl (PyData.eqv p q))
  | _, _ => none
def neD (a b : D) : Option D := match toPy a, toPy b with
  | some p, some q => ifO (SeqAt.shaped p = true ∧ SeqAt.shaped q = true) (.bl (!PyData.eqv p q))
  | _, _ => none
theorem eq_ok : OpS g (rEqD g.K) eqD := fun H M x y dx dy d Q tr sx sy ho q => by
  unfold eqD at ho
  cases q1 : toPy dx with
  | none => rw [q1] at ho; cases ho
  | some p =>
    cases q2 : toPy dy with
    | none => rw [q1, q2] at ho; cases ho
    | some p' =>
      rw [q1, q2] at ho
      obtain ⟨⟨h1, h2⟩, rfl⟩ := ifO_some ho
      exact ⟨p, p', RV.dp _ _ _ sx.rv q1, RV.dp _ _ _ sy.rv q2, h1, h2, q _ H (.refl _) (.bl _)⟩
theorem ne_ok : OpS g (rNeD g.K) neD := fun H M x y dx dy d Q tr sx sy ho q => by
  unfold neD at ho
  cases q1 : toPy dx with
  | none => rw [q1] at ho; cases ho
  | some p =>
    cases q2 : toPy dy with
    | none => rw [q1, q2] at ho; cases ho
    | some p' =>
      rw [q1, q2] at ho
      obtain ⟨⟨h1, h2⟩, rfl⟩ := ifO_some ho
      exact ⟨p, p', RV.dp _ _ _ sx.rv q1, RV.dp _ _ _ sy.rv q2, h1, h2, q _ H (.refl _) (.bl _)⟩

/-! ### in -/
def inSD (a b : D) : Option Bool := match a, b with
  | .str x, .str z => match x.cps.toList with
    | [c] => some (decide (c ∈ z.cps.toList))
    | _ => none
  | _, _ => none
def inD (a b : D) : Option D := (inSD a b).map .bl
def notInD (a b : D) : Option D := (inSD a b).map fun k => .bl !k
theorem inSD_inv {a b : D} {k : Bool} (h : inSD a b = some k) : ∃ c z, a = .str ⟨#[c]⟩ ∧ b = .str z ∧ k = decide (c ∈ z.cps.toList) := by
  unfold inSD at h
  cases a <;> cases b <;> first | cases h | skip
  rename_i x z
  dsimp only at h
  split at h
  · rename_i c e
    cases h
    refine ⟨c, z, ?_, rfl, rfl⟩
    cases x
    exact congrArg (fun a => D.str ⟨a⟩) (Array.toList_inj.mp e)
  · cases h
theorem inS_ok : OpS g (fun x y H Q => ∃ (c : Nat) (z : Str), x = .str ⟨#[c]⟩ ∧ y = .str z ∧ Q (.bl (decide (c ∈ z.cps.toList))) H) inD := fun H M x y dx dy d Q tr sx sy ho q => by
  unfold inD at ho
  cases e : inSD dx dy with
  | none => rw [e] at ho; cases ho
  | some k =>
    rw [e] at ho
    cases ho
    obtain ⟨c, z, rfl, rfl, rfl⟩ := inSD_inv e
    rw [shal_str sx, shal_str sy]
    exact ⟨c, z, rfl, rfl, q _ H (.refl _) (.bl _)⟩
theorem notInS_ok : OpS g (fun x y H Q => ∃ (c : Nat) (z : Str), x = .str ⟨#[c]⟩ ∧ y = .str z ∧ Q (.bl (!decide (c ∈ z.cps.toList))) H) notInD := fun H M x y dx dy d Q tr sx sy ho q => by
  unfold notInD at ho
  cases e : inSD dx dy with
  | none => rw [e] at ho; cases ho
  | some k =>
    rw [e] at ho
    cases ho
    obtain ⟨c, z, rfl, rfl, rfl⟩ := inSD_inv e
    rw [shal_str sx, shal_str sy]
    exact ⟨c, z, rfl, rfl, q _ H (.refl _) (.bl _)⟩
/-! ### x[i] -/
def ixD (a b : D) : Option D := match a, b with
  | .lst ds, .int i => atI ds i
  | .tup ds, .int i => atI ds i
  | .str z, .int i => if z.length ≤ sizeLine then (atI z.cps.toList i).map chD else none
  | _, _ => none
theorem atI_len {α β : Type} {xs : List α} {ys : List β} {i : Int} (h : xs.length = ys.length) : ∀ {x : α}, atI xs i = some x → ∃ j : Nat, xs[j]? = some x ∧ ∀ y, ys[j]? = some y → atI ys i = some y := fun {x} e => by
  unfold atI at e ⊢
  rw [← h]
  cases q : ixN xs.length i with
  | none => rw [q] at e; cases e
  | some j => rw [q] at e; exact ⟨j, e, fun y hy => hy⟩
theorem ix_ok : OpS g (rIx g.K) ixD := fun H M x y dx dy d Q tr sx sy ho q => by
  cases dx <;> cases dy <;> first | (cases ho; done) | skip
  · rename_i z i
    cases sx; cases sy
    unfold ixD at ho
    dsimp only at ho
    split at ho
    · rename_i hz
      cases e : atI z.cps.toList i with
      | none => rw [e] at ho; cases ho
      | some c => rw [e] at ho; cases ho; exact .inr (.inr ⟨z, i, c, rfl, rfl, hz, e, q _ H (.refl _) (.str _)⟩)
    · cases ho
  · rename_i ds i
    cases sy
    cases sx with
    | tup h r =>
      obtain ⟨j, h1, h2⟩ := atI_len r.length (show atI ds i = some d from ho)
      obtain ⟨v, e, rv⟩ := r.get h1
      exact .inr (.inl ⟨_, _, i, v, rfl, rfl, .of h, h2 v e, q v H (.refl _) rv⟩)
  · rename_i ds i
    cases sy
    cases sx with
    | lst h r =>
      obtain ⟨j, h1, h2⟩ := atI_len r.length (show atI ds i = some d from ho)
      obtain ⟨v, e, rv⟩ := r.get h1
      exact .inl ⟨_, _, i, v, rfl, rfl, h, h2 v e, q v H (.refl _) rv⟩
/-! ### list + list, text * int -/
def catD : D → D → Option D
  | .lst a, .lst b => ifO (a.length + b.length ≤ sizeLine) (.lst (a ++ b))
  | _, _ => none
def negD : D → Option D
  | .int i => some (.int (-i))
  | _ => none
theorem neg_ok : ∀ (H : Hp) (M : List Addr) (x : V) (dx d : D) (Q : VK), (∀ a ∈ M, H a ≠ none) → Shal g H (mask H M) dx x → negD dx = some d → (∀ v H', Same H H' → RV g (mask H' M) d v → Q v H') → (rU fun i => .int (-i)) x H Q := fun H M x dx d Q tr sx ho q => by
  cases dx <;> first | (cases ho; done) | skip
  cases ho
  cases sx
  exact ⟨_, rfl, q _ H (.refl _) (.int _)⟩
end
end Ip
namespace Ip
open PySem L2 PySem.Spec PyProof.Rows

/-! ## more builtins -/
section
variable {g : Gx} {X : Cx}
theorem shals1 {H Hm : Hp} {d : D} {vs : List V} (h : Shals g H Hm [d] vs) : ∃ v, vs = [v] ∧ Shal g H Hm d v := by
  cases h with
  | cons s t => cases t; exact ⟨_, rfl, s⟩
theorem shals2 {H Hm : Hp} {d e : D} {vs : List V} (h : Shals g H Hm [d, e] vs) : ∃ v u, vs = [v, u] ∧ Shal g H Hm d v ∧ Shal g H Hm e u := by
  cases h with
  | cons s t =>
    obtain ⟨u, rfl, r⟩ := shals1 t
    exact ⟨_, u, rfl, s, r⟩
def oAbs : List D → Option D
  | [.int i] => some (.int (if i < 0 then -i else i))
  | _ => none
theorem cal_abs : CalS g (fun xs H Q => ∃ i, xs = [.int i] ∧ Q (.int (if i < 0 then -i else i)) H) oAbs := fun H M vs ds d Q tr ks ho q => by
  unfold oAbs at ho
  split at ho
  · cases ho
    obtain ⟨v, rfl, s⟩ := shals1 ks
    cases s
    exact ⟨_, rfl, q _ H (.refl _) (.int _)⟩
  · cases ho
def oInt : List D → Option D
  | [.int i] => some (.int i)
  | [.bl k] => some (.int (if k then 1 else 0))
  | _ => none
theorem cal_int : CalS g (fun xs H Q => (∃ i, xs = [.int i] ∧ Q (.int i) H) ∨ ∃ k, xs = [.bl k] ∧ Q (.int (if k then 1 else 0)) H) oInt := fun H M vs ds d Q tr ks ho q => by
  unfold oInt at ho
  split at ho
  · cases ho
    obtain ⟨v, rfl, s⟩ := shals1 ks
    cases s
    exact .inl ⟨_, rfl, q _ H (.refl _) (.int _)⟩
  · cases ho
    obtain ⟨v, rfl, s⟩ := shals1 ks
    cases s
    exact .inr ⟨_, rfl, q _ H (.refl _) (.int _)⟩
  · cases ho
def oMax : List D → Option D
  | [.int i, .int j] => some (.int (if j > i then j else i))
  | _ => none
def oMin : List D → Option D
  | [.int i, .int j] => some (.int (if j < i then j else i))
  | _ => none
theorem cal_max : CalS g (fun xs H Q => ∃ i j, xs = [.int i, .int j] ∧ Q (.int (if j > i then j else i)) H) oMax := fun H M vs ds d Q tr ks ho q => by
  unfold oMax at ho
  split at ho
  · cases ho
    obtain ⟨v, u, rfl, s, t⟩ := shals2 ks
    cases s; cases t
    exact ⟨_, _, rfl, q _ H (.refl _) (.int _)⟩
  · cases ho
theorem cal_min : CalS g (fun xs H Q => ∃ i j, xs = [.int i, .int j] ∧ Q (.int (if j < i then j else i)) H) oMin := fun H M vs ds d Q tr ks ho q => by
  unfold oMin at ho
  split at ho
  · cases ho
    obtain ⟨v, u, rfl, s, t⟩ := shals2 ks
    cases s; cases t
    exact ⟨_, _, rfl, q _ H (.refl _) (.int _)⟩
  · cases ho
def dInts : List D → Option (List Int)
  | [] => some []
  | .int i :: ds => (dInts ds).map (i :: ·)
  | _ :: _ => none
theorem ints_inv : ∀ {ds : List D} {ns : List Int}, dInts ds = some ns → ds = ns.map D.int
  | [], _, h => by cases h; rfl
  | d :: ds, ns, h => by
    cases d with
    | int i =>
      simp only [dInts, Option.map_eq_some_iff] at h
      obtain ⟨ms, h1, rfl⟩ := h
      rw [ints_inv h1]; rfl
    | _ => cases h
def dStrs : List D → Option (List Str)
  | [] => some []
  | .str i :: ds => (dStrs ds).map (i :: ·)
  | _ :: _ => none
theorem strs_inv : ∀ {ds : List D} {ns : List Str}, dStrs ds = some ns → ds = ns.map D.str
  | [], _, h => by cases h; rfl
  | d :: ds, ns, h => by
    cases d with
    | str i =>
      simp only [dStrs, Option.map_eq_some_iff] at h
      obtain ⟨ms, h1, rfl⟩ := h
      rw [strs_inv h1]; rfl
    | _ => cases h
theorem ints_map : ∀ ns : List Int, dInts (ns.map D.int) = some ns
  | [] => rfl
  | n :: ns => by rw [List.map_cons, dInts, ints_map ns]; rfl
theorem strs_map : ∀ ns : List Str, dStrs (ns.map D.str) = some ns
  | [] => rfl
  | n :: ns => by rw [List.map_cons, dStrs, strs_map ns]; rfl
def oSum : List D → Option D
  | [.lst ds] => (dInts ds).map fun ns => .int ns.sum
  | _ => none
theorem cal_sum : CalS g (rSum g.K) oSum := fun H M vs ds d Q tr ks ho q => by
  unfold oSum at ho
  split at ho
  · rename_i ds
    simp only [Option.map_eq_some_iff] at ho
    obtain ⟨ns, h1, rfl⟩ := ho
    have := ints_inv h1
    subst this
    obtain ⟨v, rfl, s⟩ := shals1 ks
    cases s with
    | lst h r =>
      have := r.of_ints
      subst this
      exact ⟨_, ns, rfl, h, q _ H (.refl _) (.int _)⟩
  · cases ho
/-- list(x) of a list or a tuple -/
def oList : List D → Option D
  | [.lst ds] => some (.lst ds)
  | [.tup ds] => some (.lst ds)
  | _ => none
theorem cal_list : CalO g (fun xs H Q => ∃ p ys, xs = [.ref p] ∧ (SqL g.K H p ys ∨ SqT g.K H p ys) ∧ ∀ l, H l = none → Q (.ref l) (upd H l (.lst ys))) oList := fun H M vs ds d Q tr ks ho q => by
  unfold oList at ho
  split at ho
  · cases ho
    obtain ⟨v, rfl, s⟩ := shals1 ks
    cases s with
    | lst h r => exact ⟨_, _, rfl, .inl h, fun l hl => q l _ hl (.lst upd_same r)⟩
  · cases ho
    obtain ⟨v, rfl, s⟩ := shals1 ks
    cases s with
    | tup h r => exact ⟨_, _, rfl, .inr (.of h), fun l hl => q l _ hl (.lst upd_same r)⟩
  · cases ho
/-- list(x) of a text -/
def rListS (_ : PySem.W.Frag) : List V → Hp → VK → Prop := fun xs H Q => ∃ x : Str, xs = [.str x] ∧ x.cps.size ≤ sizeLine ∧ ∀ l, H l = none → Q (.ref l) (upd H l (.lst (x.cps.toList.map fun c => V.str ⟨#[c]⟩)))
theorem vals_signs (x : Str) : ∀ (us : List Value) (n : Nat), us.length + n = x.cps.size → (∀ (i : Nat) (v : Value), us[i]? = some v → SignAt x (n + i) v) → Vals ((x.cps.toList.drop n).map fun c => V.str ⟨#[c]⟩) us
  | [], n, hn, _ => by rw [List.drop_eq_nil_of_le (by simp at hn ⊢; omega)]; exact .nil
  | u :: us, n, hn, h => by
    obtain ⟨c, t, hc, rfl⟩ := h 0 u rfl
    have e : x.cps.toList.drop n = c :: x.cps.toList.drop (n + 1) := by
      have hl : n < x.cps.toList.length := by simp at hn ⊢; omega
      rw [List.drop_eq_getElem_cons hl]
      congr 1
      have h2 : x.cps[n]? = some c := by simpa using hc
      rw [← Array.getElem?_toList, List.getElem?_eq_getElem hl] at h2
      exact Option.some.inj h2
    rw [e]
    refine .cons ⟨t, rfl⟩ (vals_signs x us (n + 1) (by simp at hn ⊢; omega) fun i v hv => ?_)
    have := h (i + 1) v (by simpa using hv)
    rwa [show n + (i + 1) = n + 1 + i by omega] at this
theorem call_listS (hc : X.calm = true) : CallR X (.type "list") (rListS X.K) := by
  intro pins s σ H xs us Q I r h
  obtain ⟨x, rfl, hz, q⟩ := h
  obtain ⟨u, rfl, rx⟩ := vals1 r
  obtain ⟨t, rfl⟩ := rx
  refine call_list_str (I.ok.hd hc) x t (hn := hz) fun h' tk acc' c' hk hS' hacc => ?_
  have rv := vals_signs x acc'.toList 0 (by have := hacc.1; simp [Array.length_toList, this]) fun i v hv => by
    have := hacc.2 i v (by rw [← Array.getElem?_toList]; exact hv)
    rwa [Nat.zero_add]
  rw [List.drop_zero] at rv
  exact ⟨.ref _, _, I.laid (t' := tk) hk (Nat.le_refl _) (o := .lst (x.cps.toList.map fun c => V.str ⟨#[c]⟩)) ⟨by rw [List.length_map, Array.length_toList]; exact hz, acc'.toList, c', rv, by rw [Array.toArray_toList]; exact hS'⟩, rfl, q _ (I.hok.fresh (Nat.le_refl _))⟩
def oListS : List D → Option D
  | [.str x] => ifO (x.cps.size ≤ sizeLine) (.lst (x.cps.toList.map chD))
  | _ => none
theorem rvs_signs {H : Hp} : ∀ l : List Nat, RVs g H (l.map chD) (l.map fun c => V.str ⟨#[c]⟩)
  | [] => .nil
  | c :: l => .cons (.str _) (rvs_signs l)
theorem cal_listS : CalO g (rListS g.K) oListS := fun H M vs ds d Q tr ks ho q => by
  unfold oListS at ho
  split at ho
  · obtain ⟨hz, rfl⟩ := ifO_some ho
    obtain ⟨v, rfl, s⟩ := shals1 ks
    cases s
    exact ⟨_, rfl, hz, fun l hl => q l _ hl (.lst upd_same (rvs_signs _))⟩
  · cases ho
/-- list(d) of a dict whose keys are dInts and texts -/
def oListD : List D → Option D
  | [.dic ks _] => some (.lst ks)
  | _ => none
def isKD : D → Bool
  | .int _ => true
  | .str _ => true
  | _ => false
def oListDK : List D → Option D
  | [.dic ks _] => if ks.all isKD then some (.lst ks) else none
  | _ => none
theorem kT_notK (k : List Key) : isKD (kT k) = false := rfl
theorem rvs_keys {H : Hp} : ∀ (ks : List Key) (vs : List V), ks.length = vs.length → RVs g H (ks.map kD) ((ks.zip vs).map fun kv => kV kv.1)
  | [], _, _ => .nil
  | k :: ks, [], h => by simp at h
  | k :: ks, v :: vs, h => by
    refine .cons ?_ (rvs_keys ks vs (by simpa using h))
    cases k with
    | inl i => exact .int i
    | inr x => exact .str x
theorem rvs_keysT {H : Hp} (vs : List V) (ks : List (List Key)) (h : (ks.map kT).all isKD = true) : ks = [] := by
  cases ks with
  | nil => rfl
  | cons k ks => simp [kT_notK] at h
/-- tuple(x) -/
def oTup : List D → Option D
  | [.lst ds] => some (.tup ds)
  | [.tup ds] => some (.tup ds)
  | _ => none
theorem cal_tup : CalS g (fun xs H Q => ∃ p ys, xs = [.ref p] ∧ ((SqL g.K H p ys ∧ ∀ l, H l = none → Q (.ref l) (upd H l (.tup ys))) ∨ (SqT g.K H p ys ∧ Q (.ref p) H))) oTup := fun H M vs ds d Q tr ks ho q => by
  unfold oTup at ho
  split at ho
  · cases ho
    obtain ⟨v, rfl, s⟩ := shals1 ks
    cases s with
    | @lst _ ws _ h r =>
      refine ⟨_, _, rfl, .inl ⟨h, fun l hl => ?_⟩⟩
      have hn : l ∉ M := fun z => tr l z hl
      have sm := same_upd (o := HO.tup ws) hl
      refine q _ _ sm (.tup ?_ (r.mono (.of_same (mask_keep fun b o _ e => sm b o e))))
      rw [mask_out hn, upd_same]
  · cases ho
    obtain ⟨v, rfl, s⟩ := shals1 ks
    cases s with
    | tup h r hm => exact ⟨_, _, rfl, .inr ⟨.of h, q _ H (.refl _) (.tup hm r)⟩⟩
  · cases ho
end
end Ip
namespace Ip
open PySem L2 PySem.Spec PyProof.Rows

/-! ## list + list -/
def rCatQ (K : PySem.W.Frag) : R2 := fun x y H Q => ∃ a b xs ys, x = .ref a ∧ y = .ref b ∧ SqL K H a xs ∧ SqL K H b ys ∧ xs.length + ys.length ≤ sizeLine ∧ ∀ p, H p = none → Q (.ref p) (upd H p (.lst (xs ++ ys)))
theorem op_catQ {X : Cx} : OpR X (binaryOp .Add) (rCatQ X.K) := by
  intro pins s σ H x y v u Q I rx ry ⟨a, b, xs, ys, ex, ey, ha, hb, hz, q⟩
  subst ex; subst ey
  cases rx; cases ry
  obtain ⟨is1, r1, p1, _⟩ := I.list ha
  obtain ⟨is2, r2, p2, _⟩ := I.list hb
  obtain ⟨⟨c1, dd1, da1, sl1⟩, o1, k1, n1, e1⟩ := p1.isList
  obtain ⟨⟨c2, dd2, da2, sl2⟩, o2, k2, n2, e2⟩ := p2.isList
  simp only at k1 e1 k2 e2
  subst k1; subst e1; subst k2; subst e2
  have hs : is1.toArray.size + is2.toArray.size ≤ sizeLine := by rw [List.size_toArray, List.size_toArray, ← r1.length, ← r2.length]; exact hz
  refine concat_meets ⟨_, o1, rfl⟩ ⟨_, o2, rfl⟩ noFill_list_add seq_list_add PySem.F.slot_list_add PySem.F.entry_list_add (PySem.F.args_list_add_2 _ _) (list_addW a b is1.toArray is2.toArray n1 n2 dd1 dd2 sl1 sl2 hs) ⟨o1, o2, ?_⟩
  rw [show is1.toArray ++ is2.toArray = (is1 ++ is2).toArray by simp]
  exact ⟨.ref _, _, I.lnew (t' := s.toks) (r1.append r2) (by rw [List.length_append]; exact hz), rfl, q _ I.fresh⟩
theorem cat_ok {g : Gx} : OpO g (rCatQ g.K) catD := fun H M x y dx dy d Q tr sx sy ho q => by
  cases dx <;> cases dy <;> first | (cases ho; done) | skip
  obtain ⟨hz, rfl⟩ := ifO_some ho
  cases sx with
  | lst h r =>
    cases sy with
    | lst h' r' => exact ⟨_, _, _, _, rfl, rfl, h, h', by rw [← r.length, ← r'.length]; exact hz, fun l hl => q l _ hl (.lst upd_same (r.app r'))⟩

section
variable {X : Cx} {C : Ac} {W : WX} {Γ Γ1 Γ2 Γ3 Γ' Γb : List Nat} {fr fr1 fr2 fr3 : Bool} {e a b c : Expr} {es : List Expr} {f h k : Env → R D} {g : Env → R (List D)} {p pos apos cpos p2 : Pos}
/-! ## methods of a text -/
def MtV (gg : Gx) (r : V → List V → Hp → VK → Prop) (o : Str → List D → Option D) : Prop := ∀ (H : Hp) (M : List Addr) (x : Str) (vs : List V) (ds : List D) (d : D) (Q : VK), (∀ a ∈ M, H a ≠ none) → Shals gg H (mask H M) ds vs → o x ds = some d →
  (∀ v H', Same H H' → RV gg (mask H' M) d v → Q v H') → r (.str x) vs H Q
def mStrM (o : Str → List D → Option D) (f : Env → R D) (g : Env → R (List D)) : Env → R D := fun ρ => (f ρ).bind fun d ρ1 => match d with
  | .str s => (g ρ1).bind fun ds ρ2 => ofO ρ2 (o s ds)
  | _ => .bad
theorem se_strM {id : String} {name : Str} {r : V → List V → Hp → VK → Prop} {o : Str → List D → Option D} (slot : Slot "str" name id) (hty : typeOf (.builtin id) = pure (.type "method_descriptor")) (hm : MtR X id r) (hs : MtV ⟨X.K, C.ct⟩ r o) (ha : SE X C W Γ a Γ1 fr f) (hv : SV X C W Γ1 (e :: es) Γ2 g)
    (hbase : attributeBase a name X.env (eval a X.env) = eval a X.env := by rfl)
    (hfew : ((backTo cpos (starEach (e :: es) X.env)).all (fun x => !x.1) && (backToKw cpos (keywordEach [] X.env)).all (fun x => x.1.isSome) && decide ((e :: es).length + ([] : List Keyword).length + (if ([] : List Keyword).isEmpty then 0 else 1) < 30)) = true := by rfl)
    (hline : (apos.endLine == cpos.line) = true := by rfl) (hst : starEach (e :: es) X.env = (false, eval e X.env) :: starEach es X.env := by rfl) (hplain : (backTo cpos (starEach es X.env)).any (·.1) = false := by rfl) :
    SE X C W Γ (.Call (.Attribute a name apos) (e :: es) [] cpos) Γ2 false (mStrM o f g) := ⟨peImp (pe_bm PySem.F.plainAttrs_str slot hty hm ha.pe hv.pa hbase hfew hline hst hplain) fun σ H Q ⟨hid, ρ, S, p⟩ => by
  refine ⟨hid, ρ, S, ?_⟩
  unfold mStrM at p
  cases q : f ρ with
  | bad => rw [q] at p; exact p
  | exn e ρ' => rw [q] at p; exact p
  | ok d ρ1 =>
    rw [q] at p
    dsimp only [R.bind] at p
    intro v H1 tm S1 k1 va t1
    cases d with
    | str x =>
      have := shal_str va.shal0
      subst this
      refine ⟨rfl, tm ++ hid, ρ1, S1, ?_⟩
      cases q2 : g ρ1 with
      | bad => simp only [q2] at p; exact p
      | exn e ρ' => simp only [q2] at p; exact p
      | ok ds ρ2 =>
        simp only [q2] at p
        intro vs H2 tm2 S2 k2 t2 ks
        have e : tm2 ++ (tm ++ hid) = (tm2 ++ tm) ++ hid := (List.append_assoc ..).symm
        rw [e] at S2 k2 ks
        cases q3 : o x ds with
        | none => rw [q3] at p; exact p.elim
        | some z => rw [q3] at p; exact hs H2 _ x vs ds z Q S2.trkM ks q3 (fin_fz p S.sub S2 (k1.trans k2 fun a ha => List.mem_append_right _ ha))
    | _ => exact (show False from p).elim⟩
def oJoin (s : Str) : List D → Option D
  | [.lst ds] => (dStrs ds).bind fun ys => ifO ((ys.map (·.length)).sum + ys.length * s.length ≤ 16777216) (.str (Txt.join s ys))
  | [.tup ds] => (dStrs ds).bind fun ys => ifO ((ys.map (·.length)).sum + ys.length * s.length ≤ 16777216) (.str (Txt.join s ys))
  | _ => none
theorem join_ok {gg : Gx} : MtV gg (fun x xs H Q => ∃ a p, ∃ ys : List Str, x = .str a ∧ xs = [.ref p] ∧ (SqL gg.K H p (ys.map V.str) ∨ SqT gg.K H p (ys.map V.str)) ∧ (ys.map (·.length)).sum + ys.length * a.length ≤ 16777216 ∧ Q (.str (Txt.join a ys)) H) oJoin := fun H M x vs ds d Q tr ks ho q => by
  unfold oJoin at ho
  split at ho
  · simp only [Option.bind_eq_some_iff] at ho
    obtain ⟨ys, h1, h2⟩ := ho
    obtain ⟨h3, rfl⟩ := ifO_some h2
    have := strs_inv h1
    subst this
    obtain ⟨v, rfl, s⟩ := shals1 ks
    cases s with
    | lst h r =>
      have := r.of_strs
      subst this
      exact ⟨x, _, ys, rfl, rfl, .inl h, h3, q _ H (.refl _) (.str _)⟩
  · simp only [Option.bind_eq_some_iff] at ho
    obtain ⟨ys, h1, h2⟩ := ho
    obtain ⟨h3, rfl⟩ := ifO_some h2
    have := strs_inv h1
    subst this
    obtain ⟨v, rfl, s⟩ := shals1 ks
    cases s with
    | tup h r =>
      have := r.of_strs
      subst this
      exact ⟨x, _, ys, rfl, rfl, .inr (.of h), h3, q _ H (.refl _) (.str _)⟩
  · cases ho
def oFind (s : Str) : List D → Option D
  | [.str b] => some (.int (Txt.find s b))
  | _ => none
theorem find_ok {gg : Gx} : MtV gg (fun x xs H Q => ∃ a b, x = .str a ∧ xs = [.str b] ∧ Q (.int (Txt.find a b)) H) oFind := fun H M x vs ds d Q tr ks ho q => by
  unfold oFind at ho
  split at ho
  · cases ho
    obtain ⟨v, rfl, s⟩ := shals1 ks
    cases s
    exact ⟨x, _, rfl, rfl, q _ H (.refl _) (.int _)⟩
  · cases ho
/-! ## slices of a text -/
def PostO (K : PySem.W.Frag) (C : Ac) (W : WX) (Γ Γ' : List Nat) (hid : List Addr) (σ : L2.St) (H : Hp) (Q : Option Int → Hp → Prop) : R (Option Int) → Prop
  | .ok o ρ' => ∀ H', ST K C hid Γ' ρ' σ H' → Stp (Ms σ hid Γ) (Ms σ hid Γ') hid H H' → Q o H'
  | .exn e ρ' => ∀ cls od H', ExR (gx K C) H' (mask H' (Ms σ C.hid C.io)) e cls od → ST K C C.hid C.io ρ' σ H' → W cls od σ H'
  | .bad => False
structure SO (X : Cx) (C : Ac) (W : WX) (Γ : List Nat) (e : Option Expr) (Γ' : List Nat) (f : Env → R (Option Int)) : Prop where
  po : PO X e fun σ H Q => ∃ hid ρ, ST X.K C hid Γ ρ σ H ∧ PostO X.K C W Γ Γ' hid σ H Q (f ρ)
theorem poImp {e : Option Expr} {t t' : TO} (h : PO X e t) (i : ∀ σ H Q, t' σ H Q → t σ H Q) : PO X e t' := ⟨fun pins s σ H Q I q => h.run pins s σ H Q I (i σ H Q q)⟩
def mONone : Env → R (Option Int) := fun ρ => .ok none ρ
def mOSome (f : Env → R D) : Env → R (Option Int) := fun ρ => (f ρ).bind fun d ρ1 => match d with
  | .int i => .ok (some i) ρ1
  | _ => .bad
theorem so_none : SO X C W Γ none Γ mONone := ⟨poImp po_none fun σ H Q ⟨hid, ρ, S, p⟩ => p H S (Stp.refl _ _ _)⟩
theorem so_some (ha : SE X C W Γ a Γ' fr f) : SO X C W Γ (some a) Γ' (mOSome f) := ⟨poImp (po_some ha.pe) fun σ H Q ⟨hid, ρ, S, p⟩ => by
  refine ⟨hid, ρ, S, ?_⟩
  unfold mOSome at p
  cases q : f ρ with
  | bad => rw [q] at p; exact p
  | exn e ρ' => rw [q] at p; exact p
  | ok d ρ1 =>
    rw [q] at p
    dsimp only [R.bind] at p
    intro v H1 tm S1 k1 va t1
    cases d with
    | int i =>
      have := shal_int va.shal0
      subst this
      exact ⟨i, rfl, p H1 (S1.forget (fun a ha => List.mem_append_right _ ha) S.sub) ⟨k1.le.trans (.of_same (mask_sub (Ms_subH fun a ha => List.mem_append_right _ ha))), k1.fx⟩⟩
    | _ => exact (show False from p).elim⟩
def mSlice (f : Env → R D) (l u : Env → R (Option Int)) : Env → R D := fun ρ => (f ρ).bind fun d ρ1 => match d with
  | .str z => (l ρ1).bind fun lo ρ2 => (u ρ2).bind fun hi ρ3 => ofO ρ3 (ifO (z.length ≤ sizeLine) (.str (cutS z lo hi)))
  | _ => .bad
variable {lo hi : Option Expr} {l u : Env → R (Option Int)}
theorem se_slice (ha : SE X C W Γ a Γ1 fr f) (hl : SO X C W Γ1 lo Γ2 l) (hu : SO X C W Γ2 hi Γ3 u) : SE X C W Γ (.Subscript a (.Slice lo hi none p2) pos) Γ3 false (mSlice f l u) := ⟨peImp (pe_slice sl_str ha.pe hl.po hu.po) fun σ H Q ⟨hid, ρ, S, p⟩ => by
  refine ⟨hid, ρ, S, ?_⟩
  unfold mSlice at p
  cases q : f ρ with
  | bad => rw [q] at p; exact p
  | exn e ρ' => rw [q] at p; exact p
  | ok d ρ1 =>
    rw [q] at p
    dsimp only [R.bind] at p
    intro v H1 tm S1 k1 va t1
    cases d with
    | str x =>
      have := shal_str va.shal0
      subst this
      have S1' := S1.forget (fun a ha => List.mem_append_right _ ha) S.sub
      have k1' : Stp (Ms σ hid Γ) (Ms σ hid Γ1) hid H H1 := ⟨k1.le.trans (.of_same (mask_sub (Ms_subH fun a ha => List.mem_append_right _ ha))), k1.fx⟩
      refine ⟨hid, ρ1, S1', ?_⟩
      cases q2 : l ρ1 with
      | bad => simp only [q2] at p; exact p
      | exn e ρ' => simp only [q2] at p; exact p
      | ok o1 ρ2 =>
        simp only [q2] at p
        intro H2 S2 k2
        refine ⟨hid, ρ2, S2, ?_⟩
        cases q3 : u ρ2 with
        | bad => simp only [q3] at p; exact p
        | exn e ρ' => simp only [q3] at p; exact p
        | ok o2 ρ3 =>
          simp only [q3] at p
          intro H3 S3 k3
          unfold ifO at p
          by_cases hz : x.length ≤ sizeLine
          · rw [if_pos hz] at p
            exact ⟨x, rfl, hz, fin_fz (tm := []) p S.sub S3 ((k1'.trans k2 fun _ z => z).trans k3 fun _ z => z) _ H3 (.refl _) (.str _)⟩
          · rw [if_neg hz] at p; exact p.elim
    | _ => exact (show False from p).elim⟩
/-! ## methods of an owned list -/
def lstO : Option D → Option (List D)
  | some (.lst ds) => some ds
  | _ => none
theorem lstO_some {o : Option D} {ds : List D} (h : lstO o = some ds) : o = some (.lst ds) := by
  unfold lstO at h
  split at h
  · cases h; rfl
  · cases h
def mLstM (i : Nat) (step : List D → List D → Option (D × List D)) (g : Env → R (List D)) : Env → R D := fun ρ => match lstO (ρ.getD i none) with
  | none => .bad
  | some _ => (g ρ).bind fun xs ρ1 => match lstO (ρ1.getD i none) with
    | none => .bad
    | some ds => match step ds xs with
      | none => .bad
      | some z => .ok z.1 (ρ1.set i (some (.lst z.2)))
def LsM (gg : Gx) (r : V → List V → Hp → VK → Prop) (step : List D → List D → Option (D × List D)) : Prop := ∀ (H : Hp) (M : List Addr) (a : Addr) (us ws : List V) (ds xs : List D) (z : D × List D) (Q : VK), H a = some (.lst us) → RVs gg (mask H M) ds us → RVs gg (mask H M) xs ws → step ds xs = some z →
  (∀ us' v, RVs gg (mask H M) z.2 us' → RV gg (mask H M) z.1 v → Q v (upd H a (.lst us'))) → r (.ref a) ws H Q
theorem lsm_tE (i : Nat) {r : V → List V → Hp → VK → Prop} {step : List D → List D → Option (D × List D)} (hs : LsM ⟨X.K, C.ct⟩ r step) (ha : SA X C W Γ es Γ' g) (hi : Γ.contains i = true) (hi2 : Γ'.contains i = true) {σ : L2.St} {H : Hp} {Q : VK} (p : tE X.K C W Γ Γ' false (mLstM i step g) σ H Q) :
    tBM X.K "list" r (tVar i) (tAs X.K C W Γ Γ' g) σ H Q := by
  obtain ⟨hid, ρ, S, p⟩ := p
  obtain ⟨d0, e1, e2, c0⟩ := own_at S hi
  refine ⟨_, e2, ?_⟩
  unfold mLstM at p
  cases q0 : lstO (ρ.getD i none) with
  | none => rw [q0] at p; exact (show False from p).elim
  | some ds0 =>
    simp only [q0] at p
    have e0 := lstO_some q0
    rw [e1] at e0
    cases e0
    refine ⟨?_, hid, ρ, S, ?_⟩
    · cases c0 with
      | lst h _ => exact .inl ⟨rfl, _, .of h⟩
    · cases q : g ρ with
      | bad => rw [q] at p; exact p
      | exn e ρ' => rw [q] at p; exact p
      | ok xs ρ1 =>
        rw [q] at p
        dsimp only [R.bind] at p
        intro vs H1 tm S1 k1 t1 ks
        have sub : ∀ b ∈ Ms σ hid Γ', b ∈ Ms σ (tm ++ hid) Γ' := Ms_subH fun a ha => List.mem_append_right _ ha
        have S2 := S1.forget (fun a ha => List.mem_append_right _ ha) S.sub
        have k2 : Stp (Ms σ hid Γ) (Ms σ hid Γ') hid H H1 := ⟨k1.le.trans (.of_same (mask_sub sub)), k1.fx⟩
        have rv : RVs (gx X.K C) (mask H1 (Ms σ hid Γ')) xs vs := ks.rv sub t1
        obtain ⟨d1, f1, f2, c1⟩ := own_at S2 hi2
        cases q1 : lstO (ρ1.getD i none) with
        | none => rw [q1] at p; exact (show False from p).elim
        | some ds =>
          simp only [q1] at p
          have e0 := lstO_some q1
          rw [f1] at e0
          cases e0
          cases q3 : step ds xs with
          | none => rw [q3] at p; exact (show False from p).elim
          | some z =>
            simp only [q3] at p
            cases c1 with
            | @lst us _ h r1 =>
              have hm : sa σ i ∈ Ms σ hid Γ' := mem_Ms.mpr (.inr ⟨i, List.contains_iff_mem.mp hi2, rfl⟩)
              refine hs H1 (Ms σ hid Γ') _ us vs ds xs z Q h r1 rv q3 fun us' v r2 r3 => ?_
              refine p v _ [] (S2.change (List.contains_iff_mem.mp hi2) (.lst upd_same r2)) (k2.trans (S2.changeStp (List.contains_iff_mem.mp hi2)) fun _ z => z) (.fz ?_ fun z => nomatch z) fun _ z => nomatch z
              show RV (gx X.K C) (mask (upd H1 (sa σ i) (.lst us')) (Ms σ hid Γ')) z.1 v
              rw [mask_updM hm]
              exact r3
theorem se_lstM (i : Nat) {x name : Str} {id : String} {r : V → List V → Hp → VK → Prop} {step : List D → List D → Option (D × List D)} (slot : Slot "list" name id) (hty : typeOf (.builtin id) = pure (.type "method_descriptor")) (hm : MtM X id r) (hs : LsM ⟨X.K, C.ct⟩ r step) (ha : SA X C W Γ (e :: es) Γ' g)
    (hN : X.N[i]? = some x := by rfl) (hv : Vis X.env.scope x := by first | exact Or.inl rfl | exact Or.inr (Or.inl rfl) | exact Or.inr (Or.inr rfl)) (hi : Γ.contains i = true := by rfl) (hi2 : Γ'.contains i = true := by rfl)
    (hd : (x == ("__debug__" : Str)) = false := by decide) (hcd : (x == ("__classdict__" : Str)) = false := by decide)
    (hbase : attributeBase (.Name x p) name X.env (eval (.Name x p) X.env) = eval (.Name x p) X.env := by rfl)
    (hfew : ((backTo cpos (starEach (e :: es) X.env)).all (fun x => !x.1) && (backToKw cpos (keywordEach [] X.env)).all (fun x => x.1.isSome) && decide ((e :: es).length + ([] : List Keyword).length + (if ([] : List Keyword).isEmpty then 0 else 1) < 30)) = true := by rfl)
    (hline : (apos.endLine == cpos.line) = true := by rfl) (hst : starEach (e :: es) X.env = (false, eval e X.env) :: starEach es X.env := by rfl) (hplain : (backTo cpos (starEach es X.env)).any (·.1) = false := by rfl) :
    SE X C W Γ (.Call (.Attribute (.Name x p) name apos) (e :: es) [] cpos) Γ' false (mLstM i step g) :=
  ⟨peImp (pe_bm PySem.F.plainAttrs_list slot hty hm (pe_var hN hv hd hcd) ha.pa hbase hfew hline hst hplain) fun σ H Q p => lsm_tE i hs ha hi hi2 p⟩
theorem se_lstM0 (i : Nat) {x name : Str} {id : String} {r : V → List V → Hp → VK → Prop} {step : List D → List D → Option (D × List D)} (slot : Slot "list" name id) (hty : typeOf (.builtin id) = pure (.type "method_descriptor")) (hm : MtM X id r) (hs : LsM ⟨X.K, C.ct⟩ r step)
    (hN : X.N[i]? = some x := by rfl) (hv : Vis X.env.scope x := by first | exact Or.inl rfl | exact Or.inr (Or.inl rfl) | exact Or.inr (Or.inr rfl)) (hi : Γ.contains i = true := by rfl)
    (hd : (x == ("__debug__" : Str)) = false := by decide) (hcd : (x == ("__classdict__" : Str)) = false := by decide)
    (hbase : attributeBase (.Name x p) name X.env (eval (.Name x p) X.env) = eval (.Name x p) X.env := by rfl) (hline : (apos.endLine == cpos.line) = true := by rfl) :
    SE X C W Γ (.Call (.Attribute (.Name x p) name apos) [] [] cpos) Γ false (mLstM i step mNil) :=
  ⟨peImp (pe_bm0 PySem.F.plainAttrs_list slot hty hm (pe_var hN hv hd hcd) hbase hline) fun σ H Q p => by
    obtain ⟨v, e, ty, hid, ρ, S, q⟩ := lsm_tE i hs sa_nil hi hi p
    exact ⟨v, e, ty, q [] H [] S (Stp.refl _ _ _) (fun _ z => nomatch z) .nil⟩⟩
def stAppend (ds : List D) : List D → Option (D × List D)
  | [d] => if ds.length < sizeLine then some (.non, ds ++ [d]) else none
  | _ => none
theorem append_ok {gg : Gx} : LsM gg rAppend stAppend := fun H M a us ws ds xs z Q h r rx e q => by
  unfold stAppend at e
  split at e
  · split at e
    · rename_i hl
      cases e
      cases rx with
      | cons r1 rn =>
        cases rn
        exact ⟨a, us, _, rfl, rfl, h, by rw [← r.length]; exact hl, q _ .non (r.app (.cons r1 .nil)) .non⟩
    · cases e
  · cases e
def stPopAt (ds : List D) : List D → Option (D × List D)
  | [.int i] => if -(2 ^ 63) ≤ i ∧ i < 2 ^ 63 then (seqIndex? i ds.length).bind fun k => ds[k]?.map fun d => (d, ds.eraseIdx k) else none
  | _ => none
theorem popAt_ok {gg : Gx} : LsM gg rPopAt stPopAt := fun H M a us ws ds xs z Q h r rx e q => by
  unfold stPopAt at e
  split at e
  · split at e
    · rename_i hl
      simp only [Option.bind_eq_some_iff, Option.map_eq_some_iff] at e
      obtain ⟨k, e1, d, e2, rfl⟩ := e
      cases rx with
      | cons r1 rn =>
        cases rn
        cases r1
        obtain ⟨v, e3, rv⟩ := r.get e2
        exact ⟨a, us, _, k, v, rfl, rfl, h, hl.1, hl.2, by rw [← r.length]; exact e1, e3, q _ v (r.eraseIdx k) rv⟩
    · cases e
  · cases e
/-! ## x[e] = v, x an owned list -/
def mSetIx (i : Nat) (f h : Env → R D) : Env → R Fl := fun ρ => (f ρ).bind fun v ρ1 => (h ρ1).bind fun k ρ2 => match k, lstO (ρ2.getD i none) with
  | .int j, some ds => match ixN ds.length j with
    | some n => .ok .nx (ρ2.set i (some (.lst (ds.set n v))))
    | none => .bad
  | _, _ => .bad
end
end Ip
namespace Ip
open PySem L2 PySem.Spec PyProof.Rows

/-! ## targets -/
def Off (ts : List Nat) (σ σ' : L2.St) : Prop := σ'.length = σ.length ∧ ∀ j, j ∉ ts → σ'[j]? = σ[j]?
theorem Off.refl (ts : List Nat) (σ : L2.St) : Off ts σ σ := ⟨rfl, fun _ _ => rfl⟩
theorem Off.trans {t1 t2 : List Nat} {a b c : L2.St} (h : Off t1 a b) (k : Off t2 b c) : Off (t1 ++ t2) a c :=
  ⟨k.1.trans h.1, fun j hj => (k.2 j fun z => hj (List.mem_append_right _ z)).trans (h.2 j fun z => hj (List.mem_append_left _ z))⟩
def tG (K : PySem.W.Frag) (C : Ac) (Γ : List Nat) (ts : List Nat) (g : D → Env → Option Env) : TG := fun v σ H Q => ∃ hid ρ d ρ', ST K C hid Γ ρ σ H ∧ RV (gx K C) (mask H (Ms σ hid Γ)) d v ∧ g d ρ = some ρ' ∧
  ∀ σ' H', ST K C hid Γ ρ' σ' H' → Stp (Ms σ hid Γ) (Ms σ' hid Γ) hid H H' → Off ts σ σ' → Q σ' H'
def tGs (K : PySem.W.Frag) (C : Ac) (Γ : List Nat) (ts : List Nat) (g : List D → Env → Option Env) : TGs := fun vs σ H Q => ∃ hid ρ ds ρ', ST K C hid Γ ρ σ H ∧ RVs (gx K C) (mask H (Ms σ hid Γ)) ds vs ∧ g ds ρ = some ρ' ∧
  ∀ σ' H', ST K C hid Γ ρ' σ' H' → Stp (Ms σ hid Γ) (Ms σ' hid Γ) hid H H' → Off ts σ σ' → Q σ' H'
structure SG (X : Cx) (C : Ac) (Γ : List Nat) (tg : Expr) (ts : List Nat) (g : D → Env → Option Env) : Prop where
  pg : PG X tg (tG X.K C Γ ts g)
structure SGs (X : Cx) (C : Ac) (Γ : List Nat) (es : List Expr) (ts : List Nat) (g : List D → Env → Option Env) : Prop where
  pg : PGs X es (tGs X.K C Γ ts g)
theorem pgImp {X : Cx} {e : Expr} {t t' : TG} (h : PG X e t) (i : ∀ v σ H Q, t' v σ H Q → t v σ H Q) : PG X e t' := ⟨fun pins s σ H v u Q I r q => h.run pins s σ H v u Q I r (i v σ H Q q)⟩
theorem pgsImp {X : Cx} {e : List Expr} {t t' : TGs} (h : PGs X e t) (i : ∀ v σ H Q, t' v σ H Q → t v σ H Q) : PGs X e t' := ⟨fun pins s σ H v u Q I r q => h.run pins s σ H v u Q I r (i v σ H Q q)⟩
def gNm (i : Nat) (d : D) (ρ : Env) : Option Env := if i < ρ.length then some (ρ.set i (some d)) else none
def gsNil (ds : List D) (ρ : Env) : Option Env := match ds with
  | [] => some ρ
  | _ => none
def gsCons (g : D → Env → Option Env) (gs : List D → Env → Option Env) (ds : List D) (ρ : Env) : Option Env := match ds with
  | d :: r => (g d ρ).bind fun ρ' => gs r ρ'
  | [] => none
def gTp (n : Nat) (gs : List D → Env → Option Env) (d : D) (ρ : Env) : Option Env := match d with
  | .tup ds => if ds.length = n then gs ds ρ else none
  | _ => none
section
variable {X : Cx} {C : Ac} {W : WX} {Γ Γ1 Γ2 Γ3 Γ' Γb : List Nat} {fr fr1 fr2 fr3 : Bool} {e a b c tg iter : Expr} {es : List Expr} {ts ts2 : List Nat} {f h k : Env → R D} {g : D → Env → Option Env} {gs : List D → Env → Option Env} {p pos apos cpos p2 : Pos}
theorem sg_name (i : Nat) {x : Str} (hN : X.N.Nodup) (hi : X.N[i]? = some x := by rfl) (hx : Loc X.env.scope x := by first | exact Or.inl rfl | exact Or.inr rfl) (hn : Γ.contains i = false := by rfl)
    (hf : X.fn x = true ∨ X.env.scope.names.lookup x = some .local := by first | exact .inl rfl | exact .inr rfl | assumption) : SG X C Γ (.Name x pos) [i] (gNm i) := ⟨pgImp (pg_name hN hi hx hf) fun v σ H Q ⟨hid, ρ, d, ρ', S, r, e, q⟩ => by
  unfold gNm at e
  split at e
  · rename_i il
    cases e
    refine q _ H (S.put (notin_of hn) r il) ?_ ⟨List.length_set .., fun j hj => List.getElem?_set_ne fun z => hj (by simp [z])⟩
    rw [Ms_set (notin_of hn)]
    exact Stp.refl _ _ _
  · cases e⟩
theorem sgs_nil : SGs X C Γ [] [] gsNil := ⟨pgsImp pgs_nil fun v σ H Q ⟨hid, ρ, ds, ρ', S, r, e, q⟩ => by
  cases r with
  | nil => cases e; exact ⟨rfl, q σ H S (Stp.refl _ _ _) (.refl _ _)⟩
  | cons _ _ => cases e⟩
theorem sgs_cons (h1 : SG X C Γ e ts g) (h2 : SGs X C Γ es ts2 gs) (hs : (assignEach (e :: es) X.env).map (·.2) = assign e X.env :: (assignEach es X.env).map (·.2) := by rfl) : SGs X C Γ (e :: es) (ts ++ ts2) (gsCons g gs) := ⟨pgsImp (pgs_cons h1.pg h2.pg hs) fun v σ H Q ⟨hid, ρ, ds, ρ', S, r, e, q⟩ => by
  cases r with
  | nil => cases e
  | @cons d v ds vs r t =>
    unfold gsCons at e
    simp only [Option.bind_eq_some_iff] at e
    obtain ⟨ρ1, e1, e2⟩ := e
    refine ⟨v, vs, rfl, hid, ρ, d, ρ1, S, r, e1, fun σ1 H1 S1 k1 o1 => ⟨hid, ρ1, ds, ρ', S1, t.mono k1.le, e2, fun σ2 H2 S2 k2 o2 => q σ2 H2 S2 (k1.trans k2 fun _ z => z) (o1.trans o2)⟩⟩⟩
theorem sg_tup {n m : Nat} (hc : X.calm = true) (h1 : SGs X C Γ es ts gs) (hn : (assignEach es X.env).length = n := by rfl) (hst : (assignEach es X.env).findIdx? (·.1) = none := by rfl) : SG X C Γ (.Tuple es m pos) ts (gTp n gs) := ⟨pgImp (pg_tup hc h1.pg hn hst) fun v σ H Q ⟨hid, ρ, d, ρ', S, r, e, q⟩ => by
  unfold gTp at e
  split at e
  · split at e
    · rename_i hl
      cases r with
      | tup h r => exact ⟨_, _, rfl, .of (mask_some h).2, by rw [← r.length]; exact hl, hid, ρ, _, ρ', S, r, e, q⟩
    · cases e
  · cases e⟩
/-! ### target = value -/
def mAsg (f : Env → R D) (g : D → Env → Option Env) : Env → R Fl := fun ρ => (f ρ).bind fun d ρ1 => match g d ρ1 with
  | some ρ2 => .ok .nx ρ2
  | none => .bad
theorem ss_asg (ha : SE X C W Γ e Γ' false f) (hg : SG X C Γ' tg ts g) (hs : swapsWithSole [tg] e pos.line X.env = pure false := by rfl) (hw : swappedStores [tg] e X.env = pure none := by rfl)
    (h1 : (assignEach [tg] X.env).map (·.2) = [assign tg X.env] := by rfl) : SS X C W Γ (.Assign [tg] e pos) Γ' Γb fr (mAsg f g) := ⟨psImp (ps_asg ha.pe hg.pg hs hw h1) fun Dn σ H ⟨ρ, S, p⟩ => by
  refine ⟨C.hid, ρ, S, ?_⟩
  unfold mAsg at p
  cases q : f ρ with
  | bad => rw [q] at p; exact p
  | exn e ρ' => rw [q] at p; exact fun cls od H' x S' => p cls od σ H' x S'
  | ok d ρ1 =>
    rw [q] at p
    dsimp only [R.bind] at p
    intro v H1 tm S1 k1 va t1
    cases va with
    | fz r _ =>
      cases q2 : g d ρ1 with
      | none => rw [q2] at p; exact (show False from p).elim
      | some ρ2 =>
        rw [q2] at p
        exact ⟨C.hid, ρ1, d, ρ2, S1, r, q2, fun σ' H' S' k' _ => p σ' H' S' (k1.trans k' fun _ z => z)⟩⟩
/-! ### x[e] = v, x an owned list -/
def gIx (i : Nat) (h : Env → R D) (v : D) (ρ : Env) : Option Env := match lstO (ρ.getD i none), h ρ with
  | some _, .ok (.int j) ρ1 => (lstO (ρ1.getD i none)).bind fun ds => (ixN ds.length j).map fun n => ρ1.set i (some (.lst (ds.set n v)))
  | _, _ => none
theorem sg_ix (i : Nat) {x : Str} (hb : SE X C W Γ b Γ fr h) (hN : X.N[i]? = some x := by rfl) (hv : Vis X.env.scope x := by first | exact Or.inl rfl | exact Or.inr (Or.inl rfl) | exact Or.inr (Or.inr rfl)) (hi : Γ.contains i = true := by rfl)
    (hd : (x == ("__debug__" : Str)) = false := by decide) (hcd : (x == ("__classdict__" : Str)) = false := by decide)
    (ha : ∀ v, assign (.Subscript (.Name x p) b pos) X.env v = (do
      let ov ← holding [v] (eval (.Name x p) X.env)
      let iv ← holding [v, ov] (eval b X.env)
      standAt pos
      holding [v, ov, iv] (setItem ov iv v)
      release [v, ov, iv] []) := by intro _; rfl) : SG X C Γ (.Subscript (.Name x p) b pos) [] (gIx i h) := ⟨pgImp (pg_sub (pe_var hN hv hd hcd) hb.pe set_list ha) fun v σ H Q ⟨hid, ρ, d, ρ', S, r, e, q⟩ => by
  obtain ⟨d0, e1, e2, c0⟩ := own_at S hi
  refine ⟨_, e2, hid, ρ, S, ?_⟩
  unfold gIx at e
  split at e
  · rename_i j ρ1 _ q2
    rw [q2]
    simp only [Option.bind_eq_some_iff, Option.map_eq_some_iff] at e
    obtain ⟨ds, e3, n, e4, rfl⟩ := e
    intro y H2 tm S2 k2 va t2
    have := shal_int va.shal0
    subst this
    obtain ⟨d1, f1, f2, c1⟩ := own_at S2 hi
    have e0 := lstO_some e3
    rw [f1] at e0
    cases e0
    have S3 := S2.forget (fun a ha => List.mem_append_right _ ha) S.sub
    have sub : ∀ b ∈ Ms σ hid Γ, b ∈ Ms σ (tm ++ hid) Γ := Ms_subH fun a ha => List.mem_append_right _ ha
    have k3 : Stp (Ms σ hid Γ) (Ms σ hid Γ) hid H H2 := ⟨k2.le.trans (.of_same (mask_sub sub)), k2.fx⟩
    obtain ⟨d1, f1', _, c2⟩ := own_at S3 hi
    rw [f1] at f1'
    cases f1'
    cases c2 with
    | @lst us _ h r1 =>
      refine ⟨_, us, j, n, rfl, rfl, h, by rw [← r1.length]; exact e4, ?_⟩
      exact q σ _ (S3.change (List.contains_iff_mem.mp hi) (.lst upd_same (r1.set (r.mono k3.le) n))) (k3.trans (S3.changeStp (List.contains_iff_mem.mp hi)) fun _ z => z) (.refl _ _)
  · cases e⟩
/-! ## for -/
def forL (step : D → Env → R Fl) : List D → Env → R Fl
  | [], ρ => .ok .nx ρ
  | d :: ds, ρ => match step d ρ with
    | .ok .nx ρ' => forL step ds ρ'
    | .ok .ct ρ' => forL step ds ρ'
    | .ok .bk ρ' => .ok .nx ρ'
    | .ok (.rt z) ρ' => .ok (.rt z) ρ'
    | .exn e ρ' => .exn e ρ'
    | .bad => .bad
def gBody (g : D → Env → Option Env) (body : Env → R Fl) (d : D) (ρ : Env) : R Fl := match g d ρ with
  | some ρ' => body ρ'
  | none => .bad
def mFor (it : Env → R (List D)) (g : D → Env → Option Env) (body : Env → R Fl) : Env → R Fl := fun ρ => (it ρ).bind fun ds ρ' => forL (gBody g body) ds ρ'
variable {fi : Env → R (List D)} {fb : Env → R Fl} {body : List Stmt}
theorem for_ok {Dn : Ends} {σ : L2.St} {H : Hp} (p : tS X.K C W Γ Γ' Γb fr (mFor fi g fb) Dn σ H) :
    tFor (fun σ H Q => ∃ hid ρ, ST X.K C hid Γ ρ σ H ∧ PostI X.K C W Γ Γ' hid σ H Q (fi ρ)) (tG X.K C Γ' ts g) (tS X.K C W Γ' Γ' Γ' fr fb) Dn σ H := by
  obtain ⟨ρ, S, p⟩ := p
  refine ⟨C.hid, ρ, S, ?_⟩
  unfold mFor at p
  cases q : fi ρ with
  | bad => rw [q] at p; exact p
  | exn e ρ' => rw [q] at p; exact fun cls od H' x S' => p cls od σ H' x S'
  | ok ds ρ1 =>
    rw [q] at p
    dsimp only [R.bind] at p
    intro J H1 S1 k1 ⟨Gd, Y, w, hG, hY⟩
    refine for_it w (fun i σ2 H2 => ∃ ρ2, ST X.K C C.hid Γ' ρ2 σ2 H2 ∧ Stp (Ms σ C.hid Γ') (Ms σ2 C.hid Γ') C.hid H1 H2 ∧ PostS X.K C W Γ Γ' Γb fr Dn σ H (forL (gBody g fb) (ds.drop i) ρ2)) ⟨ρ1, S1, Stp.refl _ _ _, by rw [List.drop_zero]; exact p⟩
      (fun i σ2 H2 _ ⟨ρ2, S2, k2, _⟩ => hG _ _ k2.le) (fun i x σ2 H2 H3 hlt ⟨ρ2, S2, k2, p2⟩ y => ?_) fun σ2 H2 ⟨ρ2, S2, k2, p2⟩ => ?_
    · have hd : ds[i]? = some ds[i] := List.getElem?_eq_getElem hlt
      rw [List.drop_eq_getElem_cons hlt] at p2
      obtain ⟨sm, rv⟩ := hY i x H2 H3 _ hd (hG _ _ k2.le) y
      have r := rv (Ms σ2 C.hid Γ') S2.hdM k2.le
      have S3 := S2.same sm
      have k3 : Stp (Ms σ2 C.hid Γ') (Ms σ2 C.hid Γ') C.hid H2 H3 := ⟨.of_same (mask_keep fun b o _ e => sm b o e), fun a ha => by
        cases z : H2 a with
        | none => exact absurd z (S2.trk a ha).1
        | some o => exact sm a o z⟩
      unfold forL gBody at p2
      cases q2 : g ds[i] ρ2 with
      | none => rw [q2] at p2; exact (show False from p2).elim
      | some ρ3 =>
        rw [q2] at p2
        refine ⟨C.hid, ρ2, ds[i], ρ3, S3, r, q2, fun σ4 H4 S4 k4 _ => ⟨ρ3, S4, ?_⟩⟩
        have ka : Stp (Ms σ C.hid Γ') (Ms σ4 C.hid Γ') C.hid H1 H4 := (k2.trans k3 fun _ z => z).trans k4 fun _ z => z
        cases q3 : fb ρ3 with
        | bad => simp only [q3] at p2; exact p2
        | exn e ρ' => simp only [q3] at p2; exact p2
        | ok fl ρ5 =>
          simp only [q3] at p2
          cases fl with
          | nx => exact fun σ5 H5 S5 k5 => ⟨ρ5, S5, ka.trans k5 fun _ z => z, p2⟩
          | ct => exact fun σ5 H5 S5 k5 => ⟨ρ5, S5, ka.trans k5 fun _ z => z, p2⟩
          | bk => exact fun σ5 H5 S5 k5 => p2 σ5 H5 S5 ((k1.trans ka fun _ z => z).trans k5 fun _ z => z)
          | rt z => exact p2
    · rw [List.drop_length] at p2
      exact p2 σ2 H2 S2 (k1.trans k2 fun _ z => z)
theorem ss_for (hp : PassesOwn (model X.prog X.w) X.A X.env X.xe) (hc : X.calm = true) (hi : SI X C W Γ tg iter Γ' fi) (hg : SG X C Γ' tg ts g) (hb : SSs X C W Γ' body Γ' Γ' fr fb) (hs : ∀ x, foldedSetIterable iter X.env x = pure x := by intro _; rfl) :
    SS X C W Γ (.For tg iter body [] pos) Γ' Γb fr (mFor fi g fb) := ⟨psImp (ps_for hp hc hi.pi hg.pg hb.ps hs) fun Dn σ H p => for_ok p⟩
theorem ss_breakW (hk : okG C.io Γ2 Γ = true := by rfl) : SS X C W Γ (.Break pos) Γ' Γ2 fr (fun ρ => .ok .bk ρ) := ⟨psImp ps_break fun Dn σ H ⟨ρ, S, p⟩ => by
  obtain ⟨h1, h2, h3⟩ := okG_of hk
  exact p σ H (S.weak h1 h2 h3) (ST.weakStp (K := X.K) (Stp.refl _ _ _) h1)⟩
theorem ss_continueW (hk : okG C.io Γ2 Γ = true := by rfl) : SS X C W Γ (.Continue pos) Γ' Γ2 fr (fun ρ => .ok .ct ρ) := ⟨psImp ps_continue fun Dn σ H ⟨ρ, S, p⟩ => by
  obtain ⟨h1, h2, h3⟩ := okG_of hk
  exact p σ H (S.weak h1 h2 h3) (ST.weakStp (K := X.K) (Stp.refl _ _ _) h1)⟩
end
end Ip
namespace Ip
open PySem L2 PySem.Spec PyProof.Rows

/-! ## comprehensions -/
def wipeE (ρ : Env) : List Nat → Env
  | [] => ρ
  | v :: vs => (wipeE ρ vs).set v none
def restE (ρ0 ρ : Env) : List Nat → Env
  | [] => ρ
  | v :: vs => (restE ρ0 ρ vs).set v (ρ0.getD v none)
theorem wipeE_length (ρ : Env) : ∀ vs : List Nat, (wipeE ρ vs).length = ρ.length
  | [] => rfl
  | v :: vs => by unfold wipeE; rw [List.length_set, wipeE_length ρ vs]
theorem restE_length (ρ0 ρ : Env) : ∀ vs : List Nat, (restE ρ0 ρ vs).length = ρ.length
  | [] => rfl
  | v :: vs => by unfold restE; rw [List.length_set, restE_length ρ0 ρ vs]
theorem wipeE_out {ρ : Env} {i : Nat} : ∀ {vs : List Nat}, i ∉ vs → (wipeE ρ vs)[i]? = ρ[i]?
  | [], _ => rfl
  | v :: vs, h => by
    unfold wipeE
    rw [List.getElem?_set_ne fun e => h (by simp [e])]
    exact wipeE_out fun z => h (by simp [z])
theorem wipeE_in {ρ : Env} {i : Nat} {d : D} : ∀ {vs : List Nat}, i ∈ vs → (wipeE ρ vs)[i]? ≠ some (some d)
  | v :: vs, h => fun e => by
    unfold wipeE at e
    by_cases z : v = i
    · subst z
      rw [List.getElem?_set] at e
      split at e
      · split at e <;> cases e
      · contradiction
    · rw [List.getElem?_set_ne z] at e
      exact wipeE_in ((List.mem_cons.mp h).resolve_left fun q => z q.symm) e
theorem restE_out {ρ0 ρ : Env} {i : Nat} : ∀ {vs : List Nat}, i ∉ vs → (restE ρ0 ρ vs)[i]? = ρ[i]?
  | [], _ => rfl
  | v :: vs, h => by
    unfold restE
    rw [List.getElem?_set_ne fun e => h (by simp [e])]
    exact restE_out fun z => h (by simp [z])
theorem restE_in {ρ0 ρ : Env} {i : Nat} (hi : i < ρ.length) (h0 : i < ρ0.length) : ∀ {vs : List Nat}, i ∈ vs → (restE ρ0 ρ vs)[i]? = ρ0[i]?
  | v :: vs, h => by
    unfold restE
    by_cases z : v = i
    · subst z
      rw [List.getElem?_set_self (by rw [restE_length]; exact hi), List.getD_eq_getElem?_getD, List.getElem?_eq_getElem h0]
      rfl
    · rw [List.getElem?_set_ne z]
      exact restE_in hi h0 ((List.mem_cons.mp h).resolve_left fun q => z q.symm)
theorem wipe_in {σ : L2.St} {i : Nat} {v : V} : ∀ {vs : List Nat}, i ∈ vs → (wipe σ vs)[i]? ≠ some (some v) := fun {vs} h e => (wipe_some e).2 h
theorem wipe_off {ts vs : List Nat} {σ σ' : L2.St} (o : Off ts σ σ') (h : ∀ i ∈ ts, i ∈ vs) : wipe σ' vs = wipe σ vs := by
  have key : ∀ (ws : List Nat) (a b : L2.St), a.length = b.length → (∀ j, j ∉ ws → a[j]? = b[j]?) → wipe a ws = wipe b ws := by
    intro ws
    induction ws with
    | nil => intro a b hl e; exact List.ext_getElem? fun j => e j (by simp)
    | cons w ws ih =>
      intro a b hl e
      unfold wipe
      refine List.ext_getElem? fun j => ?_
      by_cases z : w = j
      · subst z
        rw [List.getElem?_set, List.getElem?_set]
        simp [wipe_length, hl]
      · rw [List.getElem?_set_ne z, List.getElem?_set_ne z]
        by_cases q : j ∈ ws
        · have ha : ¬ ∃ v, (wipe a ws)[j]? = some (some v) := fun ⟨v, e⟩ => wipe_in q e
          have hb : ¬ ∃ v, (wipe b ws)[j]? = some (some v) := fun ⟨v, e⟩ => wipe_in q e
          by_cases hj : j < a.length
          · have h1 : j < (wipe a ws).length := by rw [wipe_length]; exact hj
            have h2 : j < (wipe b ws).length := by rw [wipe_length, ← hl]; exact hj
            rw [List.getElem?_eq_getElem h1, List.getElem?_eq_getElem h2]
            cases q1 : (wipe a ws)[j] with
            | some v => exact absurd ⟨v, by rw [List.getElem?_eq_getElem h1, q1]⟩ ha
            | none =>
              cases q2 : (wipe b ws)[j] with
              | some v => exact absurd ⟨v, by rw [List.getElem?_eq_getElem h2, q2]⟩ hb
              | none => rfl
          · rw [List.getElem?_eq_none (by rw [wipe_length]; omega), List.getElem?_eq_none (by rw [wipe_length, ← hl]; omega)]
        · rw [wipe_out q, wipe_out q]
          exact e j (by simp [q, Ne.symm z])
  exact key vs σ' σ o.1 fun j hj => o.2 j fun z => hj (h j z)
section
variable {K : PySem.W.Frag} {C : Ac} {hid : List Addr} {Γ : List Nat} {ρ ρ0 : Env} {σ σ0 : L2.St} {H H0 : Hp} {vs : List Nat}
theorem sa_wipe (h : ∀ i ∈ Γ, i ∉ vs) : Γ.map (sa (wipe σ vs)) = Γ.map (sa σ) := List.map_congr_left fun i hi => by unfold sa; rw [wipe_out (h i hi)]
theorem Ms_wipe (h : ∀ i ∈ Γ, i ∉ vs) : Ms (wipe σ vs) hid Γ = Ms σ hid Γ := by unfold Ms; rw [sa_wipe h]
theorem ST.wipe (S : ST K C hid Γ ρ σ H) (h : ∀ i ∈ Γ, i ∉ vs) : ST K C hid Γ (wipeE ρ vs) (L2.wipe σ vs) H := by
  have e : ∀ i ∈ Γ, sa (L2.wipe σ vs) i = sa σ i := fun i hi => by unfold sa; rw [wipe_out (h i hi)]
  refine ⟨by rw [wipeE_length, wipe_length]; exact S.len, S.sub, S.trk, S.tmp, by rw [sa_wipe h]; exact S.nd, fun i hi => by rw [e i hi]; exact S.dis i hi, fun i hi => by rw [e i hi]; exact S.own i hi, S.frm, S.frh, S.gro, S.io, by rw [sa_wipe fun i hi => h i (S.io i hi)]; exact S.pin, fun i d hi q => ?_, fun i hi => ?_⟩
  · by_cases z : i ∈ vs
    · exact absurd q (wipeE_in z)
    · rw [wipeE_out z] at q
      rw [wipe_out z, Ms_wipe h]
      exact S.sl i d hi q
  · rw [Ms_wipe h, wipeE_out (h i hi), wipe_out (h i hi), e i hi]
    exact S.ow i hi
theorem ST.unwipe (S0 : ST K C hid Γ ρ0 σ0 H0) (S : ST K C hid Γ ρ (L2.wipe σ0 vs) H) (h : ∀ i ∈ Γ, i ∉ vs) (le : HLe (mask H0 (Ms σ0 hid Γ)) (mask H (Ms σ0 hid Γ))) : ST K C hid Γ (restE ρ0 ρ vs) σ0 H := by
  have e : ∀ i ∈ Γ, sa (L2.wipe σ0 vs) i = sa σ0 i := fun i hi => by unfold sa; rw [wipe_out (h i hi)]
  have hl : ρ.length = σ0.length := by rw [S.len, wipe_length]
  refine ⟨by rw [restE_length]; exact hl, S.sub, S.trk, S.tmp, S0.nd, S0.dis, S0.own, S.frm, S.frh, S.gro, S.io, S0.pin, fun i d hi q => ?_, fun i hi => ?_⟩
  · by_cases z : i ∈ vs
    · by_cases hi2 : i < ρ.length
      · rw [restE_in hi2 (by rw [S0.len, ← hl]; exact hi2) z] at q
        obtain ⟨v, e1, r⟩ := S0.sl i d hi q
        exact ⟨v, e1, r.mono le⟩
      · rw [List.getElem?_eq_none (by rw [restE_length]; omega)] at q; cases q
    · rw [restE_out z] at q
      obtain ⟨v, e1, r⟩ := S.sl i d hi q
      rw [wipe_out z] at e1
      rw [Ms_wipe h] at r
      exact ⟨v, e1, r⟩
  · obtain ⟨d, e1, e2, c⟩ := S.ow i hi
    rw [wipe_out (h i hi), e i hi] at e2
    rw [Ms_wipe h, e i hi] at c
    exact ⟨d, by rw [restE_out (h i hi)]; exact e1, e2, c⟩
theorem ST.tmpSet {D : Addr} {o : HO} (S : ST K C (D :: hid) Γ ρ σ H) (hD : D ∉ hid) (hs : ∀ a ∈ C.hid, a ∈ hid) (hu : ∀ vs, o ≠ .tup vs := by intro _ z; cases z) : ST K C (D :: hid) Γ ρ σ (upd H D o) := by
  have hM : D ∈ Ms σ (D :: hid) Γ := mem_Ms.mpr (.inl List.mem_cons_self)
  have em := mask_updM (H := H) (o := o) hM
  have nC : D ∉ C.hid := fun z => hD (hs D z)
  have h0 : C.H0 D = none := (S.tmp D List.mem_cons_self).resolve_left nC
  have trk : ∀ a, H a ≠ none → upd H D o a ≠ none := fun a ha => by
    by_cases q : a = D
    · rw [q, upd_same]; simp
    · rw [upd_ne q]; exact ha
  have out : ∀ {A : List Addr} {b : Addr} {u : HO}, mask C.H0 A b = some u → b ≠ D := fun e z => by
    have := (mask_some e).2
    rw [z, h0] at this; cases this
  have up : ∀ {A : List Addr} {b : Addr} {u : HO}, b ≠ D → mask H A b = some u → mask (upd H D o) A b = some u := fun n e => by
    obtain ⟨e1, e2⟩ := mask_some e
    rw [mask_out e1, upd_ne n]; exact e2
  refine ⟨S.len, S.sub, fun a ha => by
    by_cases q : a = D
    · rw [q]; exact ⟨by rw [upd_same]; simp, fun vs => by rw [upd_same]; exact fun z => hu vs (Option.some.inj z)⟩
    · exact (S.trk a ha).of (upd_ne q), S.tmp, S.nd, S.dis, S.own, ⟨fun b u e n => up (out e) (S.frm.o b u e n), fun b kv e => ?_, fun b kv e => ?_⟩, fun a ha => by rw [upd_ne (show a ≠ D from fun z => nC (z ▸ ha))]; exact S.frh a ha, fun a ha => trk a (S.gro a ha), S.io, S.pin, fun i d hi q => by rw [em]; exact S.sl i d hi q, fun i hi => ?_⟩
  · have n : b ≠ D := by rcases e with e | ⟨_, e⟩ <;> exact out e
    exact (S.frm.k b kv e).elim (fun e => .inl (up n e)) fun ⟨u, e⟩ => .inr ⟨u, up n e⟩
  · have n : b ≠ D := by rcases e with e | ⟨_, e⟩ <;> exact out e
    exact (S.frm.t b kv e).elim (fun e => .inl (up n e)) fun ⟨u, e⟩ => .inr ⟨u, up n e⟩
  · obtain ⟨d, e1, e2, c⟩ := S.ow i hi
    rw [em]
    exact ⟨d, e1, e2, c.mono (fun u z => by rw [upd_ne fun e => S.dis i hi (by rw [e]; exact List.mem_cons_self)]; exact z) (.refl _)⟩
theorem Stp.tmpSet {M M' : List Addr} {D : Addr} {o : HO} {H1 : Hp} (k : Stp M M' hid H H1) (hM : D ∈ M') (hD : D ∉ hid) : Stp M M' hid H (upd H1 D o) :=
  ⟨by rw [mask_updM hM]; exact k.le, fun a ha => by rw [upd_ne (show a ≠ D from fun z => hD (z ▸ ha))]; exact k.fx a ha⟩
end
def Wn : WX := fun _ _ _ _ => False
def mYes : Env → R Bool := fun ρ => .ok true ρ
structure SPs (X : Cx) (C : Ac) (W : WX) (Γ : List Nat) (ifs : List Expr) (Γ' : List Nat) (f : Env → R Bool) : Prop where
  pt : PTs X ifs (tT X.K C W Γ Γ' f)
theorem sps_nil {X : Cx} {C : Ac} {W : WX} {Γ : List Nat} : SPs X C W Γ [] Γ mYes := ⟨⟨fun pins s σ H Q I ⟨hid, ρ, S, p⟩ => pts_nil.run pins s σ H Q I (p H S (Stp.refl _ _ _))⟩⟩
theorem sps_one {X : Cx} {C : Ac} {W : WX} {Γ Γ' : List Nat} {c : Expr} {f : Env → R Bool} (h : SP X C W Γ c Γ' f) : SPs X C W Γ [c] Γ' f := ⟨pts_one h.pt⟩
def compL (g : D → Env → Option Env) (tst : Env → R Bool) (f : Env → R D) (vs : List Nat) : List D → Env → List D → R (List D)
  | [], ρ, acc => .ok acc ρ
  | d :: ds, ρ, acc => match g d ρ with
    | none => .bad
    | some ρ1 => match tst ρ1 with
      | .ok true ρ2 => match f ρ2 with
        | .ok y ρ3 => if acc.length < sizeLine then compL g tst f vs ds (wipeE ρ3 vs) (acc ++ [y]) else .bad
        | _ => .bad
      | .ok false ρ2 => compL g tst f vs ds (wipeE ρ2 vs) acc
      | _ => .bad
def mLc (fi : Env → R (List D)) (g : D → Env → Option Env) (tst : Env → R Bool) (f : Env → R D) (vs : List Nat) : Env → R D := fun ρ => (fi ρ).bind fun ds ρ1 => match compL g tst f vs ds (wipeE ρ1 vs) [] with
  | .ok acc ρ2 => .ok (.lst acc) (restE ρ1 ρ2 vs)
  | _ => .bad
section
variable {X : Cx} {C : Ac} {W : WX} {Γ Γ0 Γ1 Γ2 Γ3 Γ' Γb : List Nat} {fr fr1 fr2 fr3 : Bool} {e a b c tg iter elt kx vx : Expr} {es ifs : List Expr} {ts : List Nat} {f h k : Env → R D} {g : D → Env → Option Env} {tst : Env → R Bool} {p pos apos cpos p2 : Pos} {fi : Env → R (List D)} {scope : Scope} {own : List (Str × Nat)}
/-- the new list D stands beside as a temporary while the turns go on -/
theorem lc_ok (hv : ∀ i ∈ Γ, i ∉ own.map (·.2)) (ht : ∀ i ∈ ts, i ∈ own.map (·.2)) {σ : L2.St} {H : Hp} {Q : VK} (p : tE X.K C W Γ0 Γ true (mLc fi g tst f (own.map (·.2))) σ H Q) :
    tLc (fun σ H Q => ∃ hid ρ, ST X.K C hid Γ0 ρ σ H ∧ PostI X.K C W Γ0 Γ hid σ H Q (fi ρ)) (tG X.K C Γ ts g) (tT X.K C Wn Γ Γ tst) (tE X.K C Wn Γ Γ fr f) (own.map (·.2)) σ H Q := by
  obtain ⟨hid, ρ, S, p⟩ := p
  refine ⟨hid, ρ, S, ?_⟩
  unfold mLc at p
  cases q : fi ρ with
  | bad => rw [q] at p; exact p
  | exn e ρ' => rw [q] at p; exact p
  | ok ds ρ1 =>
    rw [q] at p
    dsimp only [R.bind] at p
    intro J H1 S1 k1 ⟨Gd, Y, w, hG, hY⟩ D hD
    generalize hvs : own.map (·.2) = vs at *
    have kh := S1.holdStp (o := HO.lst []) hD
    have S2 := S1.hold (o := HO.lst []) hD
    have hDn : D ∉ hid := fun z => (S1.trk D z).1 hD
    have hDM : D ∈ Ms σ (D :: hid) Γ := mem_Ms.mpr (.inl List.mem_cons_self)
    refine lc_it w (fun i H2 => ∃ ρ2 accD acc, ST X.K C (D :: hid) Γ ρ2 (L2.wipe σ vs) H2 ∧ Stp (Ms σ hid Γ) (Ms σ (D :: hid) Γ) hid H1 H2 ∧ H2 D = some (.lst acc) ∧ RVs (gx X.K C) (mask H2 (Ms σ (D :: hid) Γ)) accD acc ∧
      PostE X.K C W Γ0 Γ true hid σ H Q (match compL g tst f vs (ds.drop i) ρ2 accD with | .ok acc ρ2 => .ok (.lst acc) (restE ρ1 ρ2 vs) | _ => .bad)) ?_ (fun i H2 _ ⟨ρ2, _, _, _, k2, _⟩ => hG _ _ k2.le) (fun i x H2 H3 hlt ⟨ρ2, accD, acc, S2, k2, hl, ra, p2⟩ y => ?_) fun H2 ⟨ρ2, accD, acc, S2, k2, hl, ra, p2⟩ => ?_
    · refine ⟨wipeE ρ1 vs, [], [], S2.wipe hv, kh, upd_same, .nil, ?_⟩
      rw [List.drop_zero]; exact p
    · have hd : ds[i]? = some ds[i] := List.getElem?_eq_getElem hlt
      rw [List.drop_eq_getElem_cons hlt] at p2
      obtain ⟨sm, rv⟩ := hY i x H2 H3 _ hd (hG _ _ k2.le) y
      have eM : Ms (L2.wipe σ vs) (D :: hid) Γ = Ms σ (D :: hid) Γ := Ms_wipe hv
      have r := rv (Ms σ (D :: hid) Γ) (by rw [← eM]; exact S2.hdM) k2.le
      have S3 := S2.same sm
      have keep : ∀ {A B : Hp}, Same A B → (∀ a ∈ hid, A a ≠ none) → Stp (Ms σ (D :: hid) Γ) (Ms σ (D :: hid) Γ) hid A B := fun {A B} sm tr => ⟨.of_same (mask_keep fun b o _ e => sm b o e), fun a ha => by
        cases z : A a with
        | none => exact absurd z (tr a ha)
        | some o => exact sm a o z⟩
      have k3 : Stp (Ms σ hid Γ) (Ms σ (D :: hid) Γ) hid H1 H3 := k2.trans (keep sm fun a ha => (S2.trk a (List.mem_cons_of_mem _ ha)).1) fun _ z => z
      have hl3 : H3 D = some (.lst acc) := sm _ _ hl
      have ra3 : RVs (gx X.K C) (mask H3 (Ms σ (D :: hid) Γ)) accD acc := ra.mono (.of_same (mask_keep fun b o _ e => sm b o e))
      unfold compL at p2
      cases q2 : g ds[i] ρ2 with
      | none => simp only [q2] at p2; exact (show False from p2).elim
      | some ρ3 =>
        simp only [q2] at p2
        refine ⟨D :: hid, ρ2, ds[i], ρ3, S3, by rw [eM]; exact r, q2, fun σ4 H4 S4 k4 o4 => ?_⟩
        have ew : L2.wipe σ4 vs = L2.wipe σ vs := by
          rw [wipe_off o4 ht]
          exact wipe_off (ts := vs) ⟨wipe_length .., fun j hj => wipe_out hj⟩ fun _ z => z
        have eM4 : Ms σ4 (D :: hid) Γ = Ms σ (D :: hid) Γ := by rw [← Ms_wipe (σ := σ4) hv, ew, eM]
        refine ⟨ew, D :: hid, ρ3, S4, ?_⟩
        rw [eM, eM4] at k4
        have k4' : Stp (Ms σ hid Γ) (Ms σ (D :: hid) Γ) hid H1 H4 := k3.trans k4 fun a ha => List.mem_cons_of_mem _ ha
        have hl4 : H4 D = some (.lst acc) := (k4.fx D List.mem_cons_self).trans hl3
        cases q3 : tst ρ3 with
        | bad => simp only [q3] at p2; exact p2
        | exn e ρ' => simp only [q3] at p2; exact (show False from p2).elim
        | ok b ρ4 =>
          simp only [q3] at p2
          intro H5 S5 k5
          rw [eM4] at k5
          have k5' : Stp (Ms σ hid Γ) (Ms σ (D :: hid) Γ) hid H1 H5 := k4'.trans k5 fun a ha => List.mem_cons_of_mem _ ha
          have hl5 : H5 D = some (.lst acc) := (k5.fx D List.mem_cons_self).trans hl4
          have ra5 : RVs (gx X.K C) (mask H5 (Ms σ (D :: hid) Γ)) accD acc := (ra3.mono k4.le).mono k5.le
          cases b with
          | false =>
            rw [if_neg Bool.false_ne_true]
            refine ⟨wipeE ρ4 vs, accD, acc, by rw [← ew]; exact S5.wipe hv, k5', hl5, ra5, p2⟩
          | true =>
            rw [if_pos rfl]
            refine ⟨D :: hid, ρ4, S5, ?_⟩
            cases q4 : f ρ4 with
            | bad => simp only [q4] at p2; exact p2
            | exn e ρ' => simp only [q4] at p2; exact (show False from p2).elim
            | ok y ρ5 =>
              simp only [q4] at p2
              intro v H6 tm S6 k6 va t6
              rw [eM4] at k6
              have sub : ∀ b ∈ Ms σ4 (D :: hid) Γ, b ∈ Ms σ4 (tm ++ (D :: hid)) Γ := Ms_subH fun a ha => List.mem_append_right _ ha
              have S7 := S6.forget (hid' := D :: hid) (fun a ha => List.mem_append_right _ ha) S5.sub
              have k7 : Stp (Ms σ (D :: hid) Γ) (Ms σ (D :: hid) Γ) (D :: hid) H5 H6 := ⟨k6.le.trans (.of_same (mask_sub (by rw [← eM4]; exact sub))), k6.fx⟩
              have rv6 : RV (gx X.K C) (mask H6 (Ms σ (D :: hid) Γ)) y v := by rw [← eM4]; exact va.rv sub t6
              have hl6 : H6 D = some (.lst acc) := (k6.fx D List.mem_cons_self).trans hl5
              have ra6 : RVs (gx X.K C) (mask H6 (Ms σ (D :: hid) Γ)) accD acc := ra5.mono k7.le
              have hal : accD.length < sizeLine := by
                by_cases z : accD.length < sizeLine
                · exact z
                · rw [if_neg z] at p2; exact (show False from p2).elim
              rw [if_pos hal] at p2
              refine ⟨acc, hl6, by rw [← ra6.length]; exact hal, wipeE ρ5 vs, accD ++ [y], acc ++ [v], ?_, ?_, upd_same, ?_, p2⟩
              · have S8 := S7.wipe hv
                rw [ew] at S8
                exact S8.tmpSet hDn S.sub
              · exact (k5'.trans k7 fun a ha => List.mem_cons_of_mem _ ha).tmpSet hDM hDn
              · rw [mask_updM hDM]
                exact ra6.app (.cons rv6 .nil)
    · rw [List.drop_length] at p2
      have S0 := S1.hold (o := HO.lst []) hD
      refine p2 (.ref D) H2 [D] (ST.unwipe S0 S2 hv ?_) (k1.trans k2 fun _ z => z) (.fr (.lst hl ra)) fun b hb => ?_
      · refine HLe.trans (.of_same fun b u e => ?_) k2.le
        obtain ⟨e1, e2⟩ := mask_some e
        have hb : b ≠ D := fun z => e1 (z ▸ hDM)
        rw [upd_ne hb] at e2
        have hm : b ∉ Ms σ hid Γ := fun z => e1 (Ms_subH (hid := D :: hid) (fun a ha => List.mem_cons_of_mem _ ha) b z)
        rw [mask_out hm]
        exact e2
      · rw [List.mem_singleton.mp hb]; exact S1.none_out hD
/-- [elt for target in iter if ..] -/
theorem se_lc {ρs : List Nat} (hc : X.calm = true) (hN : X.N.Nodup) (ok : BlkOk X.N X.env.scope scope own) (hi : SI X C W Γ0 tg iter Γ fi) (hg : ∀ (s : Shared) (H : Hp) (Cc : Addr) (cl : List (Str × Addr)) (fp : List Addr), SG (X.blk s H scope (compEnvC scope cl Cc X.env) fp) C Γ tg ts g)
    (ht : ∀ (s : Shared) (H : Hp) (Cc : Addr) (cl : List (Str × Addr)) (fp : List Addr), SPs (X.blk s H scope (compEnvC scope cl Cc X.env) fp) C Wn Γ ifs Γ tst) (he : ∀ (s : Shared) (H : Hp) (Cc : Addr) (cl : List (Str × Addr)) (fp : List Addr), SE (X.blk s H scope (compEnvC scope cl Cc X.env) fp) C Wn Γ elt Γ fr f)
    (hρ : ρs = own.map (·.2) := by rfl) (hv : (Γ.all fun i => !ρs.contains i) = true := by rfl) (hts : (ts.all fun i => ρs.contains i) = true := by rfl) (hs : ∀ x, foldedSetIterable iter X.env x = pure x := by intro _; rfl) : SE X C W Γ0 (.ListComp elt [⟨tg, iter, ifs, 0⟩] scope pos) Γ true (mLc fi g tst f ρs) := by
  subst hρ
  exact ⟨peImp (pe_lc hc hN hi.pi ok (fun s H Cc cl fp => (hg s H Cc cl fp).pg) (fun s H Cc cl fp => (ht s H Cc cl fp).pt) (fun s H Cc cl fp => (he s H Cc cl fp).pe) hs) fun σ H Q p =>
    lc_ok (fun i hi z => by have := List.all_eq_true.mp hv i hi; rw [List.contains_iff_mem.mpr z] at this; cases this) (fun i hi => List.contains_iff_mem.mp (List.all_eq_true.mp hts i hi)) p⟩
/-- x = [..] on one line -/
theorem ss_setLc (i : Nat) {ρs : List Nat} {x : Str} {pos' spos : Pos} (hc : X.calm = true) (hN : X.N.Nodup) (ok : BlkOk X.N X.env.scope scope own) (hi : SI X C W Γ0 tg iter Γ fi) (hg : ∀ (s : Shared) (H : Hp) (Cc : Addr) (cl : List (Str × Addr)) (fp : List Addr), SG (X.blk s H scope (compEnvC scope cl Cc X.env) fp) C Γ tg ts g)
    (ht : ∀ (s : Shared) (H : Hp) (Cc : Addr) (cl : List (Str × Addr)) (fp : List Addr), SPs (X.blk s H scope (compEnvC scope cl Cc X.env) fp) C Wn Γ ifs Γ tst) (he : ∀ (s : Shared) (H : Hp) (Cc : Addr) (cl : List (Str × Addr)) (fp : List Addr), SE (X.blk s H scope (compEnvC scope cl Cc X.env) fp) C Wn Γ elt Γ fr f)
    (hx : X.N[i]? = some x := by rfl) (hk : okG C.io Γ2 Γ = true := by rfl) (hn : Γ2.contains i = false := by rfl) (hρ : ρs = own.map (·.2) := by rfl) (hv : (Γ.all fun i => !ρs.contains i) = true := by rfl) (hts : (ts.all fun i => ρs.contains i) = true := by rfl) (hs : ∀ x, foldedSetIterable iter X.env x = pure x := by intro _; rfl)
    (hl : X.env.scope.names.lookup x = some .local := by rfl) (hsw : swapsWith (.ListComp elt [⟨tg, iter, ifs, 0⟩] scope pos) (some (.Name x pos')) spos.line X.env = pure true := by rfl) : SS X C W Γ0 (.Assign [.Name x pos'] (.ListComp elt [⟨tg, iter, ifs, 0⟩] scope pos) spos) (i :: Γ2) Γb fr1 (mSetO i (mLc fi g tst f ρs)) := by
  subst hρ
  exact ⟨psImp (ps_setLc hc hN hx hl hsw hi.pi ok (fun s H Cc cl fp => (hg s H Cc cl fp).pg) (fun s H Cc cl fp => (ht s H Cc cl fp).pt) (fun s H Cc cl fp => (he s H Cc cl fp).pe) hs) fun Dn σ H p =>
    lc_ok (fun i hi z => by have := List.all_eq_true.mp hv i hi; rw [List.contains_iff_mem.mpr z] at this; cases this) (fun i hi => List.contains_iff_mem.mp (List.all_eq_true.mp hts i hi)) (take_tE hk hn p)⟩
end
end Ip
namespace Ip
open PySem L2 PySem.Spec PyProof.Rows

/-! ## raise c() -/
theorem pmk_bare {X : Cx} {Cc : Addr} {bmB : List Value} {B newId initId : String} {x : Str} {p pos : Pos} (F : ExcBaseFacts B newId initId bmB) (q : PySem.W.excIn X.K Cc bmB newId = true) (gC : X.mg x = some (.ref Cc)) (kC : PySem.W.keepIn X.K (.ref Cc) = true) (r : Raises X (.ref Cc)) (hg : Gl X x) (hdb : (x == ("__debug__" : Str)) = false) :
    PMk X (.Call (.Name x p) [] [] pos) (fun _ H Q => Q (.ref Cc) none H) := fun pins s σ H Q I h => by
  refine wpAny_Call_Name_kw (ld_glob I hg gC (PySem.W.callWith_K0 (first := []) I.kIn kC ?_) hdb)
  obtain ⟨_, _, _, _, _, _, _, _, _, _, _, _, _, _, _, _, _, hC, hN, hi, T⟩ := exc_obj I.kIn q
  exact wpAny_call_exc_subT F T hC hN hi (fun h' e hm => mk_of I hm r h (I.hok.gone hm.new)) (Nat.zero_le _)
/-- a class of errors with no field -/
structure Er (K : PySem.W.Frag) (mg : Str → Option Value) (ct : Str → Option Addr) (c : Str) : Prop where
  ex : ∃ (Cc : Addr) (B newId initId : String) (bmB : List Value), ct c = some Cc ∧ ExcBaseFacts B newId initId bmB ∧ PySem.W.excIn K Cc bmB newId = true ∧ mg c = some (.ref Cc) ∧ PySem.W.keepIn K (.ref Cc) = true ∧ PySem.W.subIn K (.ref Cc) (.type "BaseException") = some true ∧ PySem.W.typeIn K (.ref Cc) = some (.type "type")
def mRaise (c : Str) : Env → R Fl := fun ρ => .exn ⟨c, none⟩ ρ
section
variable {X : Cx} {C : Ac} {W : WX} {Γ Γ0 Γ1 Γ2 Γ3 Γ' Γb : List Nat} {fr fr1 fr2 fr3 : Bool} {e a b c : Expr} {es : List Expr} {f h k : Env → R D} {p pos pos' apos cpos p2 np : Pos} {body suite : List Stmt} {b₀ : Stmt} {fb : Env → R Fl}
theorem ss_raise {x : Str} (E : Er X.K X.mg C.ct x) (hc : X.calm = true) (tk : Takes X W) (hg : Gl X x := by rfl) (hk : okG C.io C.io Γ = true := by rfl) (hdb : (x == ("__debug__" : Str)) = false := by decide) : SS X C W Γ (.Raise (some (.Call (.Name x p) [] [] pos)) none pos') Γ' Γb fr (mRaise x) := by
  obtain ⟨Cc, B, newId, initId, bmB, e1, F, q, gC, kC, r1, r2⟩ := E.ex
  refine ⟨psImp (ps_raise hc tk (pmk_bare F q gC kC (raises_own r1 r2) hg hdb)) fun Dn σ H ⟨ρ, S, w⟩ => ?_⟩
  obtain ⟨h1, h2, h3⟩ := okG_of hk
  exact w (.ref Cc) none σ H ⟨Cc, e1, rfl, rfl⟩ (S.weak h1 h2 h3)

/-! ## in a suite: the error e stands in slot i; the values that come of isinstance -/
structure SX (X : Cx) (i : Nat) (a : Addr) (e : Expr) (v : V) : Prop where
  pe : PE X e fun σ H Q => σ[i]? = some (some (.ref a)) ∧ ∀ H', Same H H' → Q v H'
theorem sx_bl {i : Nat} {a : Addr} {k : Bool} {j : Nat} : SX X i a (.Constant (.bool k) j pos) (.bl k) := ⟨peImp pe_bl fun σ H Q q => q.2 H (.refl _)⟩
theorem sx_not {i : Nat} {a : Addr} {e : Expr} {k : Bool} (h : SX X i a e (.bl k)) : SX X i a (.UnaryOp .Not e pos) (.bl (!k)) := ⟨peImp (pe_not h.pe) fun σ H Q q => ⟨q.1, fun H' s => ⟨k, rfl, q.2 H' s⟩⟩⟩
theorem sx_one {i : Nat} {a : Addr} {e : Expr} {v : V} {op : BoolOp} (h : SX X i a e v) : SX X i a (.BoolOp op [e] pos) v := ⟨pe_one h.pe⟩
theorem sx_and {i : Nat} {a : Addr} {e e2 : Expr} {rest : List Expr} {k k2 : Bool} (h : SX X i a e (.bl k)) (h2 : SX X i a (.BoolOp .And (e2 :: rest) pos) (.bl k2)) : SX X i a (.BoolOp .And (e :: e2 :: rest) pos) (.bl (k && k2)) := ⟨peImp (pe_and h.pe h2.pe) fun σ H Q q => ⟨q.1, fun H' s => ⟨k, rfl, by
  cases k with
  | true => exact ⟨q.1, fun H'' s' => q.2 H'' (s.trans s')⟩
  | false => exact q.2 H' s⟩⟩⟩
/-- isinstance(e, K): kitOne answers -/
theorem sx_isi {Y : Cx} {i : Nat} {a D Kc : Addr} {oe : Obj} {pn : List (Addr × Obj)} {n x : Str} {k : Bool} (E : ExcC Y.K D) (hz : Zc (.ref D) none oe) (hf : ∃ vs, oe.data = .fields vs) (hk : PySem.W.kitOne Y.K (.ref D) (.ref Kc) = some k) (hN : Y.N[i]? = some n) (hv : Vis Y.env.scope n) (hmi : Y.mg "isinstance" = none) (hm : Y.mg x = some (.ref Kc))
    (hgi : Gl Y "isinstance" := by rfl) (hg : Gl Y x := by rfl) (hd : (n == ("__debug__" : Str)) = false := by decide) (hcd : (n == ("__classdict__" : Str)) = false := by decide) (hdb : (x == ("__debug__" : Str)) = false := by decide)
    (hs : starEach [.Name n np, .Name x p2] Y.env = (false, eval (.Name n np) Y.env) :: starEach [.Name x p2] Y.env := by rfl) (hs2 : starEach [.Name x p2] Y.env = (false, eval (.Name x p2) Y.env) :: starEach [] Y.env := by rfl) (hpl : (backTo pos (starEach [.Name x p2] Y.env)).any (·.1) = false := by rfl) :
    SX (Y.suite a ((a, oe) :: pn)) i a (.Call (.Name "isinstance" p) [.Name n np, .Name x p2] [] pos) (.bl k) :=
  ⟨peImp (pe_callB (X := Y.suite a ((a, oe) :: pn)) (call_isE E hz hf) hgi hmi (by decide +kernel) (pa_cons (pe_var (i := i) hN hv hd hcd) (pa_cons (pe_glob (v := .ref Kc) hg hm rfl hdb) pa_nil hs2) hs) (by decide) (by decide) hs hpl) fun σ H Q q =>
    ⟨_, q.1, .ref Kc, .ref Kc, k, rfl, fun u r => r, hk, q.2 H (.refl _)⟩⟩
/-! ## try: body / except c as n: x = value -/
theorem ST.unslot {K : PySem.W.Frag} {hid : List Addr} {ρ : Env} {σ : L2.St} {H : Hp} (S : ST K C hid Γ ρ σ H) {i : Nat} (hi : i ∉ Γ) (v : Option V) : ST K C hid Γ (ρ.set i none) (σ.set i v) H := by
  have ii : i ∉ C.io := fun z => hi (S.io i z)
  refine ⟨by rw [List.length_set, List.length_set]; exact S.len, S.sub, S.trk, S.tmp, by rw [map_sa_set hi]; exact S.nd, fun j hj => by rw [sa_set (nem hi hj)]; exact S.dis j hj, fun j hj => by rw [sa_set (nem hi hj)]; exact S.own j hj, S.frm, S.frh, S.gro, S.io, by rw [map_sa_set ii]; exact S.pin, fun j e hj ej => ?_, fun j hj => ?_⟩
  · rw [Ms_set hi]
    by_cases q : j = i
    · subst q
      rw [List.getElem?_set] at ej
      split at ej
      · split at ej <;> cases ej
      · contradiction
    · rw [List.getElem?_set_ne (Ne.symm q)] at ej ⊢
      exact S.sl j e hj ej
  · have q : j ≠ i := nem hi hj
    rw [Ms_set hi, sa_set q, List.getElem?_set_ne (Ne.symm q), List.getElem?_set_ne (Ne.symm q)]
    exact S.ow j hj
/-- what an activation begun in the midst tells of the whole -/
theorem ST.inner {K : PySem.W.Frag} {ct : Str → Option Addr} {H0 H H' : Hp} {hid ioA : List Addr} {io : List Nat} {ρ ρ' : Env} {σ σ' : L2.St} (S : ST K ⟨ct, H0, hid, io, ioA⟩ hid io ρ σ H) (S' : ST K ⟨ct, H, hid, io, ioA⟩ hid io ρ' σ' H') :
    ST K ⟨ct, H0, hid, io, ioA⟩ hid io ρ' σ' H' ∧ Stp (Ms σ hid io) (Ms σ' hid io) hid H H' := by
  have e1 : Ms σ hid io = hid ++ ioA := by unfold Ms; rw [show io.map (sa σ) = ioA from S.pin]
  have e2 : Ms σ' hid io = hid ++ ioA := by unfold Ms; rw [show io.map (sa σ') = ioA from S'.pin]
  refine ⟨⟨S'.len, fun _ z => z, S'.trk, fun a ha => .inl ha, S'.nd, S'.dis, fun i hi => .inl ?_, S.frm.trans S'.frm, fun a ha => (S'.frh a ha).trans (S.frh a ha), fun a ha => S'.gro a (S.gro a ha), fun _ z => z, S'.pin, S'.sl, S'.ow⟩, ⟨by rw [e1, e2]; exact S'.frm, fun a ha => S'.frh a ha⟩⟩
  rw [← show io.map (sa σ') = ioA from S'.pin]
  exact List.mem_map_of_mem hi
theorem ST.outer {K : PySem.W.Frag} {ct : Str → Option Addr} {H0 H : Hp} {hid ioA : List Addr} {io : List Nat} {ρ : Env} {σ : L2.St} (S : ST K ⟨ct, H0, hid, io, ioA⟩ hid io ρ σ H) : ST K ⟨ct, H, hid, io, ioA⟩ hid io ρ σ H :=
  ⟨S.len, fun _ z => z, S.trk, fun a ha => .inl ha, S.nd, S.dis, fun i hi => .inl (by rw [← show io.map (sa σ) = ioA from S.pin]; exact List.mem_map_of_mem hi), .refl _, fun _ _ => rfl, fun _ z => z, fun _ z => z, S.pin, S.sl, S.ow⟩
def mTry (cn : Str) (i j : Nat) (d : D) (f : Env → R Fl) : Env → R Fl := fun ρ => match f ρ with
  | .ok .nx ρ' => .ok .nx ρ'
  | .exn e ρ' => if e.cls = cn ∧ e.fld.isNone = true ∧ j < ρ'.length ∧ i < ρ'.length then .ok .nx ((ρ'.set j (some d)).set i none) else .bad
  | _ => .bad
theorem ss_tryAs {ct : Str → Option Addr} {H0 : Hp} {hid ioA : List Addr} {io : List Nat} {n x cn : Str} {Cc Hc : Addr} (i j : Nat) {d : D} {v : V} (hN : X.N.Nodup) (hs : X.stack = X.env :: X.outer) (hf : X.env.frame = some X.env.locals) (hcc : ct cn = some Cc) (hc : Names X x (.ref Hc)) (hm : PySem.W.exmOne X.K (.ref Cc) (.ref Hc) = some true) (hr : ∀ A, RV ⟨X.K, ct⟩ A d v) (tk : Takes X W)
    (hb : ∀ (H1 : Hp) (W1 : WX) (pn : List (Addr × Obj)) (xe : Value → Shared → Prop), Takes (X.tr pn xe) W1 → PassesOwn (model X.prog X.w) X.A X.env xe → SSs (X.tr pn xe) ⟨ct, H1, hid, io, ioA⟩ W1 io body io [] false fb)
    (hsu : ∀ (a : Addr) (oe : Obj) (pn : List (Addr × Obj)), Zc (.ref Cc) none oe → (∃ vs, oe.data = .fields vs) → PSs (X.suite a ((a, oe) :: pn)) (b₀ :: suite) fun Dn σ H => σ[i]? = some (some (.ref a)) ∧ ∀ H', Same H H' → Dn.nx (σ.set j (some v)) H')
    (hi : X.N[i]? = some n := by rfl) (hij : (i == j || io.contains i || io.contains j) = false := by rfl) (hln : X.env.kindOf n = some .local := by rfl) :
    SS X ⟨ct, H0, hid, io, ioA⟩ W io (.Try body [.ExceptHandler (some (.Name x np)) (some n) (b₀ :: suite) pos'] [] [] pos) io Γb fr (mTry cn i j d fb) := by
  have hi' : i ∉ io := fun z => by rw [List.contains_iff_mem.mpr z] at hij; simp at hij
  have hj' : j ∉ io := fun z => by rw [List.contains_iff_mem.mpr z] at hij; simp at hij
  have hne : i ≠ j := fun z => by subst z; simp at hij
  constructor
  constructor
  intro pins s σ H Dn I ⟨ρ, S, p⟩
  refine (ps_try_as (tb := fun W1 => tS X.K ⟨ct, H, hid, io, ioA⟩ W1 io io [] false fb) (Wout := W) (ts := fun a cls od => fun Dn σ H => cls = .ref Cc ∧ od = none ∧ σ[i]? = some (some (.ref a)) ∧ ∀ H', Same H H' → Dn.nx (σ.set j (some v)) H') hs hf hN hi hln hc tk (fun W1 pn xe t1 t2 => (hb H W1 pn xe t1 t2).ps) fun a oe cls od pn hz hd => ⟨fun pins s σ H Dn I q => ?_⟩).run pins s σ H Dn I ?_
  · obtain ⟨rfl, rfl, q1, q2⟩ := q
    exact (hsu a oe pn hz hd).run pins s σ H Dn I ⟨q1, q2⟩
  · refine ⟨ρ, S.outer, ?_⟩
    unfold mTry at p
    cases q : fb ρ with
    | bad => rw [q] at p; exact (show False from p).elim
    | ok fl ρ' =>
      rw [q] at p
      cases fl with
      | nx => exact fun σ' H' S' k' => p σ' H' (S.inner S').1 k'
      | _ => exact (show False from p).elim
    | exn e ρ' =>
      rw [q] at p
      by_cases hc2 : e.cls = cn ∧ e.fld.isNone = true ∧ j < ρ'.length ∧ i < ρ'.length
      · simp only [if_pos hc2] at p
        obtain ⟨z1, z2, z3, z4⟩ := hc2
        intro cls od σ' H' xr S'
        obtain ⟨C1, y1, y2, y3⟩ := xr
        rw [z1] at y1
        have : Cc = C1 := Option.some.inj (hcc.symm.trans y1)
        subst this
        have y4 : od = none := by
          cases ef : e.fld with
          | none => rw [ef] at y3; exact y3
          | some d => rw [ef] at z2; cases z2
        subst y2 y4
        refine ⟨true, hm, fun _ a ha => ⟨rfl, rfl, List.getElem?_set_self ?_, fun H2 sm => ?_⟩, fun z => nomatch z⟩
        · rw [← S'.len]; exact z4
        · obtain ⟨S1, k1⟩ := S.inner S'
          have S2 := S1.same sm
          have S3 := S2.put (v := v) hj' (hr _) z3
          have S4 := S3.unslot hi' none
          have e2 : (((σ'.set i (some (V.ref a))).set j (some v)).set i none) = ((σ'.set j (some v)).set i none) := by
            rw [List.set_comm (l := σ') (some (V.ref a)) (some v) hne, List.set_set]
          show Dn.nx (((σ'.set i (some (V.ref a))).set j (some v)).set i none) H2
          rw [e2]
          refine p _ H2 S4 ?_
          rw [Ms_set hi', Ms_set hj']
          refine ⟨k1.le.trans (.of_same (mask_keep fun b o _ e => sm b o e)), fun a ha => ?_⟩
          have e := k1.fx a ha
          rw [← e]
          cases q : H' a with
          | none => exact absurd q (S1.trk a ha).1
          | some o => exact sm a o q
      · simp only [if_neg hc2] at p; exact (show False from p).elim
end
end Ip
namespace Ip
open PySem L2 PySem.Spec PyProof.Rows

/-! ## enumerate(a text) -/
def ItES (x : Str) : It := ⟨fun i _ => i < x.cps.size, fun i H v H' => ∃ T c, v = .ref T ∧ H T = none ∧ H' = upd H T (.tup [.int (i : Nat), .str ⟨#[c]⟩]) ∧ x.cps[i]? = some c, fun i _ => x.cps.size ≤ i⟩
theorem turn_enumS {P : Program} {w : World} {K : PySem.W.Frag} {elts : List Expr} {kk : Nat} {tpos : Pos} (x : Str) (t : Tok) (e it : Addr) (hne : e ≠ it) :
    Turn P w K (.Tuple elts kk tpos) (ItES x) [e, it] e (fun i h => i ≤ x.cps.size ∧ (∃ old, IsEnum h e it ((0 : Int) + ((i : Nat) : Int)) old) ∧ h.IsStrIter it (strIterType x) x t i) where
  mem := by simp
  obj := fun i h ⟨_, ⟨old, he⟩, ⟨o, ho, hc, hd⟩⟩ b hb => by
    rcases (show b = e ∨ b = it by simpa using hb) with z | z
    · rw [z]; exact ⟨_, he, fun v q => nomatch q⟩
    · rw [z]; exact ⟨o, ho, fun v q => by rw [hd] at q; cases q⟩
  keep := fun i h h' ⟨hl, ⟨old, he⟩, ⟨o, ho, r⟩⟩ k => ⟨hl, ⟨old, k e (by simp) _ he⟩, ⟨o, k it (by simp) o ho, r⟩⟩
  item := by
    intro X hP hw hK hc i pins s σ H E I hf ⟨hl, st1, st2⟩ hg
    subst hP hw hK
    have G := GoesN.enumFrom (prog := X.prog) (w := X.w) (A := X.A) (elts := elts) (x1 := kk) (pos := tpos) 0 (Draws.text (prog := X.prog) (w := X.w) (A := X.A.in1) (I.ok.hd hc) it x t) e hne (by simp [hne]) (by simp)
    refine thn (G.goes i s _ E hg ⟨st1, st2⟩ fun v h' tk ⟨T, t2, y, ev, hT, ⟨c, u, hcx, ey⟩, htp⟩ st' kk _ => ?_) fun r s1 q => q
    subst ev; subst ey
    have I1 := I.turnedNew (t' := tk) (ob := .tup [.int (i : Nat), .str ⟨#[c]⟩]) (ch := [e, it]) kk hf hT ⟨by show 2 ≤ sizeLine; decide, [.int (0 + (i : Int)) t2, .str ⟨#[c]⟩ u], .cons ⟨t2, by rw [Int.zero_add]⟩ (.cons ⟨u, rfl⟩ .nil), htp⟩
    refine ⟨.ref T, _, I1, rfl, ⟨T, c, rfl, I.hok.fresh hT, rfl, hcx⟩, ⟨hg, st'.1, st'.2⟩, fun b hb => ?_⟩
    have hb' : b < s.heap.objs.size := by
      rcases (show b = e ∨ b = it by simpa using hb) with z | z
      · obtain ⟨old, he⟩ := st1
        rw [z]; exact Heap.lt_size he
      · obtain ⟨o, ho, _⟩ := st2
        rw [z]; exact Heap.lt_size ho
    rw [upd_ne (show b ≠ T from Nat.ne_of_lt (Nat.lt_of_lt_of_le hb' hT))]
    exact (hf b hb).1
  done := by
    intro X hP hw hK hc i pins s σ H E I hf ⟨hl, st1, st2⟩ hg
    subst hP hw hK
    have hi : i = x.cps.size := Nat.le_antisymm hl hg
    subst hi
    have G := GoesN.enumFrom (prog := X.prog) (w := X.w) (A := X.A) (elts := elts) (x1 := kk) (pos := tpos) 0 (Draws.text (prog := X.prog) (w := X.w) (A := X.A.in1) (I.ok.hd hc) it x t) e hne (by simp [hne]) (by simp)
    exact G.stops s _ E ⟨st1, st2⟩ fun h' tk k _ => I.turnedL (t' := tk) k hf
  self := fun A i s Q E ⟨_, ⟨_, he⟩, _⟩ h => wpAny_pyIter_enum he h
theorem pi_enumS {X : Cx} {e : Expr} {te : TE} {p pos tpos : Pos} {elts : List Expr} {kk : Nat} (hg : Gl X "enumerate") (hm : X.mg "enumerate" = none) (he : PE X e te) (hs : starEach [e] X.env = (false, eval e X.env) :: starEach [] X.env) :
    PI X (.Tuple elts kk tpos) (.Call (.Name "enumerate" p) [e] [] pos) fun σ H R => te σ H fun v H1 => ∃ x, v = .str x ∧ R (ItES x) H1 := ⟨fun pins s σ H R I h => by
  refine Call_ (ld_blt I hg hm boot_enumerate (PyProof.Rows.callWith_type1 (args_cons (thn (he.run pins s σ H _ I h) fun u s1 ⟨v, H1, I1, r1, x, ev, q⟩ => args_nil ?_) hs) hs rfl))
  subst ev
  obtain ⟨t, rfl⟩ := r1
  refine call_enumerate_str fun h' h1 h2 hsz hk => wpAny_pyIter_enum h1 ?_
  have I2 : Inv X pins σ H1 { s1 with heap := h' } := I1.kept (t' := s1.toks) hk
  refine ⟨s1.heap.objs.size + 1, [s1.heap.objs.size + 1, s1.heap.objs.size], _, _, H1, rfl, I2, turn_enumS x t (s1.heap.objs.size + 1) s1.heap.objs.size (Nat.succ_ne_self _), ⟨Nat.zero_le _, ⟨.none, h1⟩, h2⟩, fun b hb => ?_, q⟩
  have hle : s1.heap.objs.size ≤ b := by
    rcases (show b = s1.heap.objs.size + 1 ∨ b = s1.heap.objs.size by simpa using hb) with z | z
    · rw [z]; exact Nat.le_add_right _ _
    · rw [z]; exact Nat.le_refl _
  exact I1.fpOk hle (I1.hok.fresh hle)⟩
def enumL : Nat → List D → List D
  | _, [] => []
  | n, d :: ds => .tup [.int (n : Nat), d] :: enumL (n + 1) ds
theorem enumL_get : ∀ (ds : List D) (n i : Nat), (enumL n ds)[i]? = ds[i]?.map fun d => .tup [.int ((n + i : Nat) : Int), d]
  | [], _, _ => rfl
  | d :: ds, n, 0 => rfl
  | d :: ds, n, i + 1 => by
    rw [enumL, List.getElem?_cons_succ, List.getElem?_cons_succ, enumL_get ds (n + 1) i]
    congr 1
    funext d
    rw [show n + 1 + i = n + (i + 1) by omega]
theorem enumL_len : ∀ (ds : List D) (n : Nat), (enumL n ds).length = ds.length
  | [], _ => rfl
  | d :: ds, n => by rw [enumL, List.length_cons, List.length_cons, enumL_len]
theorem rv_pair {g : Gx} {H : Hp} {M : List Addr} {T : Addr} {x y : V} {dx dy : D} (hT : H T = none) (tr : ∀ a ∈ M, H a ≠ none) (r1 : RV g (mask H M) dx x) (r2 : RV g (mask H M) dy y) : RV g (mask (upd H T (.tup [x, y])) M) (.tup [dx, dy]) (.ref T) := by
  have hn : T ∉ M := fun z => tr T z hT
  have le : HLe (mask H M) (mask (upd H T (.tup [x, y])) M) := .of_same (mask_keep fun b o _ e => same_upd hT b o e)
  exact .tup (by rw [mask_out hn, upd_same]) (.cons (r1.mono le) (.cons (r2.mono le) .nil))
theorem itok_enumS {g : Gx} {H : Hp} {M : List Addr} {x : Str} : ItOk g (ItES x) (enumL 0 (x.cps.toList.map chD)) H M := by
  refine ⟨fun _ => True, (ItES x).yld, ⟨fun i H hi _ => ?_, fun H _ => ?_, fun i H x H' hi _ y => y⟩, fun _ _ _ => trivial, fun i v H1 H1' d hd _ y => ?_⟩
  · rw [enumL_len, List.length_map, Array.length_toList] at hi; exact hi
  · show x.cps.size ≤ _
    rw [enumL_len, List.length_map, Array.length_toList]; exact Nat.le_refl _
  · obtain ⟨T, c, rfl, hT, rfl, hc⟩ := y
    rw [enumL_get, List.getElem?_map, Array.getElem?_toList, hc] at hd
    cases hd
    refine ⟨same_upd hT, fun M1 tr _ => ?_⟩
    rw [Nat.zero_add]
    exact rv_pair hT (fun a ha => (tr a ha).1) (.int _) (.str _)
section
variable {X : Cx} {C : Ac} {W : WX} {Γ Γ0 Γ1 Γ2 Γ3 Γ' Γb : List Nat} {fr fr1 fr2 fr3 : Bool} {e a b c tg : Expr} {es elts : List Expr} {f h k : Env → R D} {p pos pos' apos cpos p2 np tpos : Pos} {kk : Nat}
def mEnumS (f : Env → R D) : Env → R (List D) := fun ρ => (f ρ).bind fun d ρ' => match d with
  | .str x => .ok (enumL 0 (x.cps.toList.map chD)) ρ'
  | _ => .bad
theorem si_enumS (ha : SE X C W Γ e Γ' fr f) (hm : X.mg "enumerate" = none) (hg : Gl X "enumerate" := by rfl) (hs : starEach [e] X.env = (false, eval e X.env) :: starEach [] X.env := by rfl) : SI X C W Γ (.Tuple elts kk tpos) (.Call (.Name "enumerate" p) [e] [] pos) Γ' (mEnumS f) :=
  ⟨piImp (pi_enumS hg hm ha.pe hs) fun σ H Q ⟨hid, ρ, S, p⟩ => by
  refine ⟨hid, ρ, S, ?_⟩
  unfold mEnumS at p
  cases q : f ρ with
  | bad => rw [q] at p; exact p
  | exn e ρ' => rw [q] at p; exact p
  | ok d ρ' =>
    rw [q] at p
    dsimp only [R.bind] at p
    intro v H1 tm S1 k1 va t1
    cases d with
    | str x =>
      have := shal_str va.shal0
      subst this
      exact ⟨x, rfl, p _ H1 (S1.forget (fun a ha => List.mem_append_right _ ha) S.sub) ⟨k1.le.trans (.of_same (mask_sub (Ms_subH fun a ha => List.mem_append_right _ ha))), k1.fx⟩ itok_enumS⟩
    | _ => exact (show False from p).elim⟩
/-! ## what is never reached -/
theorem ss_bad {st : Stmt} : SS X C W Γ st Γ' Γb fr (fun _ => .bad) := ⟨psImp ps_never fun Dn σ H ⟨ρ, S, p⟩ => p⟩
theorem sss_bad {st : List Stmt} : SSs X C W Γ st Γ' Γb fr (fun _ => .bad) := ⟨pssImp pss_never fun Dn σ H ⟨ρ, S, p⟩ => p⟩
theorem se_bad : SE X C W Γ e Γ' fr (fun _ => .bad) := ⟨⟨fun pins s σ H Q I ⟨hid, ρ, S, p⟩ => (show False from p).elim⟩⟩
theorem sp_bad : SP X C W Γ e Γ' (fun _ => .bad) := ⟨⟨fun pins s σ H Q I ⟨hid, ρ, S, p⟩ => (show False from p).elim⟩⟩
/-! ## while: the number of turns is bounded by the semantics -/
def whileL (c : Env → R Bool) (body : Env → R Fl) : Nat → Env → R Fl
  | 0, _ => .bad
  | n + 1, ρ => match c ρ with
    | .ok false ρ' => .ok .nx ρ'
    | .ok true ρ' => match body ρ' with
      | .ok .nx ρ2 => whileL c body n ρ2
      | .ok .ct ρ2 => whileL c body n ρ2
      | .ok .bk ρ2 => .ok .nx ρ2
      | .ok (.rt z) ρ2 => .ok (.rt z) ρ2
      | .exn e ρ2 => .exn e ρ2
      | .bad => .bad
    | .exn e ρ' => .exn e ρ'
    | .bad => .bad
def mWhile (n : Env → Nat) (c : Env → R Bool) (body : Env → R Fl) : Env → R Fl := fun ρ => whileL c body (n ρ) ρ
theorem ss_while {fc : Env → R Bool} {fb : Env → R Fl} {body : List Stmt} (n : Env → Nat) (hp : PassesOwn (model X.prog X.w) X.A X.env X.xe) (hc : SP X C W Γ c Γ fc) (hb : SSs X C W Γ body Γ Γ fr fb) : SS X C W Γ (.While c body [] pos) Γ Γb fr (mWhile n fc fb) := ⟨psImp (ps_while hp hc.pt hb.ps) fun Dn σ H ⟨ρ, S, p⟩ => by
  refine ⟨fun m σ1 H1 => ∃ ρ1, ST X.K C C.hid Γ ρ1 σ1 H1 ∧ Stp (Ms σ C.hid Γ) (Ms σ1 C.hid Γ) C.hid H H1 ∧ PostS X.K C W Γ Γ Γb fr Dn σ H (whileL fc fb m ρ1), ⟨_, ρ, S, Stp.refl _ _ _, p⟩, ?_⟩
  rintro m σ1 H1 ⟨ρ1, S1, k1, p1⟩
  cases m with
  | zero => exact (show False from p1).elim
  | succ m =>
    refine ⟨C.hid, ρ1, S1, ?_⟩
    unfold whileL at p1
    cases q : fc ρ1 with
    | bad => simp only [q] at p1; exact p1
    | exn e ρ' => simp only [q] at p1; exact fun cls od H' x S' => p1 cls od σ1 H' x S'
    | ok b ρ2 =>
      simp only [q] at p1
      intro H2 S2 k2
      cases b with
      | false => rw [if_neg Bool.false_ne_true]; exact p1 σ1 H2 S2 (k1.trans k2 fun _ z => z)
      | true =>
        rw [if_pos rfl]
        refine ⟨fun σ3 H3 => ∃ ρ3, ST X.K C C.hid Γ ρ3 σ3 H3 ∧ Stp (Ms σ C.hid Γ) (Ms σ3 C.hid Γ) C.hid H H3 ∧ PostS X.K C W Γ Γ Γb fr Dn σ H (whileL fc fb m ρ3), fun σ' H' z => ⟨m, Nat.lt_succ_self m, z⟩, ρ2, S2, ?_⟩
        have k3 := k1.trans k2 fun _ z => z
        cases q2 : fb ρ2 with
        | bad => simp only [q2] at p1; exact p1
        | exn e ρ' => simp only [q2] at p1; exact p1
        | ok fl ρ3 =>
          simp only [q2] at p1
          cases fl with
          | nx => exact fun σ4 H4 S4 k4 => ⟨ρ3, S4, k3.trans k4 fun _ z => z, p1⟩
          | ct => exact fun σ4 H4 S4 k4 => ⟨ρ3, S4, k3.trans k4 fun _ z => z, p1⟩
          | bk => exact fun σ4 H4 S4 k4 => p1 σ4 H4 S4 (k3.trans k4 fun _ z => z)
          | rt z => exact p1⟩
end
end Ip
namespace Ip
open PySem L2 PySem.Spec PyProof.Rows

/-! ## dicts whose keys are ints and texts -/
def keyB : D → D → Bool
  | .int i, .int j => i == j
  | .str x, .str y => x == y
  | _, _ => false
def dFind : List D → List D → D → Option D
  | k' :: ks, d :: ds, k => if keyB k' k then some d else dFind ks ds k
  | _, _, _ => none
def dPut (ks ds : List D) (k v : D) : List D × List D := if ks.any (keyB · k) then (ks, List.zipWith (fun k' d => if keyB k' k then v else d) ks ds) else (ks ++ [k], ds ++ [v])
theorem keyB_kD (k k' : Key) : keyB (kD k) (kD k') = decide (k = k') := by
  cases k with
  | inl i => cases k' with
    | inl j => by_cases h : i = j <;> simp [keyB, kD, h]
    | inr y => simp [keyB, kD]
  | inr x => cases k' with
    | inl j => simp [keyB, kD]
    | inr y => by_cases h : x = y <;> simp [keyB, kD, h]
def toKey : D → Option Key
  | .int i => some (.inl i)
  | .str x => some (.inr x)
  | _ => none
theorem toKey_kD {d : D} {k : Key} (h : toKey d = some k) : d = kD k := by
  cases d <;> first | (cases h; rfl) | cases h
theorem kV_of {g : Gx} {H Hm : Hp} {k : Key} {v : V} (s : Shal g H Hm (kD k) v) : v = kV k := by
  cases k with
  | inl i => cases s; rfl
  | inr x => cases s; rfl
section
variable {g : Gx} {H : Hp}
theorem dFind_none : ∀ (ks : List Key) (vs : List V) (ds : List D) (k : Key), RVs g H ds vs → dFind (ks.map kD) ds (kD k) = none → ks.length = vs.length → valV (ks.zip vs) k = none
  | [], _, _, _, _, _, _ => rfl
  | k' :: ks, [], _, _, _, _, h => by simp at h
  | k' :: ks, v :: vs, _, k, .cons r t, e, h => by
    rw [List.map_cons, dFind, keyB_kD] at e
    by_cases z : k' = k
    · rw [if_pos (decide_eq_true z)] at e; cases e
    · rw [if_neg (by simpa using z)] at e
      rw [List.zip_cons_cons, valV_neg z]
      exact dFind_none ks vs _ k t e (by simpa using h)
theorem dFind_some : ∀ (ks : List Key) (vs : List V) (ds : List D) (k : Key) (d : D), RVs g H ds vs → dFind (ks.map kD) ds (kD k) = some d → ks.length = vs.length → ∃ v, valV (ks.zip vs) k = some v ∧ RV g H d v
  | [], _, _, _, _, _, e, _ => by cases e
  | k' :: ks, [], _, _, _, _, _, h => by simp at h
  | k' :: ks, v :: vs, _, k, d, .cons r t, e, h => by
    rw [List.map_cons, dFind, keyB_kD] at e
    by_cases z : k' = k
    · rw [if_pos (decide_eq_true z)] at e
      cases e
      exact ⟨v, by rw [List.zip_cons_cons, valV_pos z], r⟩
    · rw [if_neg (by simpa using z)] at e
      rw [List.zip_cons_cons, valV_neg z]
      exact dFind_some ks vs _ k d t e (by simpa using h)
theorem putK_zip (k : Key) (v : V) (d : D) (rd : RV g H d v) : ∀ (ks : List Key) (vs : List V) (ds : List D), RVs g H ds vs → ks.length = vs.length → ∃ (ks' : List Key) (vs' : List V), putK (ks.zip vs) k v = ks'.zip vs' ∧ ks'.length = vs'.length ∧ (dPut (ks.map kD) ds (kD k) d).1 = ks'.map kD ∧ RVs g H (dPut (ks.map kD) ds (kD k) d).2 vs' := by
  have hany : ∀ (ks : List Key) (vs : List V), ks.length = vs.length → ((ks.zip vs).any fun kv => decide (kv.1 = k)) = (ks.map kD).any (keyB · (kD k)) := by
    intro ks
    induction ks with
    | nil => intro vs _; rfl
    | cons k' ks ih =>
      intro vs h
      cases vs with
      | nil => simp at h
      | cons u vs => rw [List.zip_cons_cons, List.any_cons, List.map_cons, List.any_cons, keyB_kD, ih vs (by simpa using h)]
  have hmap : ∀ (ks : List Key) (vs : List V) (ds : List D), RVs g H ds vs → ks.length = vs.length → ∃ vs', (ks.zip vs).map (fun kv => if kv.1 = k then (kv.1, v) else kv) = ks.zip vs' ∧ ks.length = vs'.length ∧ RVs g H (List.zipWith (fun k' e => if keyB k' (kD k) then d else e) (ks.map kD) ds) vs' := by
    intro ks
    induction ks with
    | nil => intro vs ds r h; exact ⟨[], rfl, rfl, .nil⟩
    | cons k' ks ih =>
      intro vs ds r h
      cases r with
      | nil => simp at h
      | @cons e u ds vs r t =>
        obtain ⟨vs', h1, h2, h3⟩ := ih vs ds t (by simpa using h)
        by_cases z : k' = k
        · refine ⟨v :: vs', ?_, by simp [h2], ?_⟩
          · rw [List.zip_cons_cons, List.map_cons, h1, if_pos z]; rfl
          · rw [List.map_cons, List.zipWith_cons_cons, keyB_kD, if_pos (decide_eq_true z)]
            exact .cons rd h3
        · refine ⟨u :: vs', ?_, by simp [h2], ?_⟩
          · rw [List.zip_cons_cons, List.map_cons, h1, if_neg z]; rfl
          · rw [List.map_cons, List.zipWith_cons_cons, keyB_kD, if_neg (by simpa using z)]
            exact .cons r h3
  intro ks vs ds r h
  unfold putK dPut
  rw [hany ks vs h]
  by_cases q : (ks.map kD).any (keyB · (kD k)) = true
  · rw [if_pos q, if_pos q]
    obtain ⟨vs', h1, h2, h3⟩ := hmap ks vs ds r h
    exact ⟨ks, vs', h1, h2, rfl, h3⟩
  · rw [if_neg q, if_neg q]
    refine ⟨ks ++ [k], vs ++ [v], ?_, by simp [h], by simp, r.app (.cons rd .nil)⟩
    rw [List.zip_append h]; rfl
end
theorem dic_dK {g : Gx} {H Hm : Hp} {ks ds : List D} {v : V} (s : Shal g H Hm (.dic ks ds) v) (hk : ks.all isKD = true) : ∃ (a : Addr) (kk : List Key) (vs : List V), v = .ref a ∧ ks = kk.map kD ∧ Rd H a (.dK (kk.zip vs)) ∧ kk.length = vs.length ∧ RVs g Hm ds vs := by
  cases s with
  | @dK a kk vs ds h l r => exact ⟨a, kk, vs, rfl, rfl, h, l, r⟩
def dgetD : D → D → Option D
  | .dic ks ds, k => if ks.all isKD then (toKey k).bind fun _ => dFind ks ds k else none
  | _, _ => none
def rGetDK : R2 := fun x y H Q => ∃ a v, x = .ref a ∧ DGet H a y (some v) ∧ Q v H
theorem dget_ok {g : Gx} : OpS g rGetDK dgetD := fun H M x y dx dy d Q tr sx sy ho q => by
  cases dx with
  | dic ks ds =>
    simp only [dgetD] at ho
    split at ho
    · rename_i hk
      simp only [Option.bind_eq_some_iff] at ho
      obtain ⟨k, h1, h2⟩ := ho
      obtain ⟨a, kk, vs, rfl, rfl, hr, hl, rv⟩ := dic_dK sx hk
      have := toKey_kD h1
      subst this
      obtain ⟨v, hv, rd⟩ := dFind_some kk vs ds k d rv h2 hl
      exact ⟨a, v, rfl, .inl ⟨_, k, hr, kV_of sy, hv.symm⟩, q v H (.refl _) rd⟩
    · cases ho
  | _ => cases ho
def inDD : D → D → Option Bool
  | k, .dic ks ds => if ks.all isKD then (toKey k).map fun _ => (dFind ks ds k).isSome else none
  | _, _ => none
theorem inDD_ok {g : Gx} {H : Hp} {M : List Addr} {x y : V} {dx dy : D} {b : Bool} (sx : Shal g H (mask H M) dx x) (sy : Shal g H (mask H M) dy y) (h : inDD dx dy = some b) : ∃ a o, y = .ref a ∧ DGet H a x o ∧ b = o.isSome := by
  cases dy with
  | dic ks ds =>
    simp only [inDD] at h
    split at h
    · rename_i hk
      simp only [Option.map_eq_some_iff] at h
      obtain ⟨k, h1, rfl⟩ := h
      obtain ⟨a, kk, vs, rfl, rfl, hr, hl, rv⟩ := dic_dK sy hk
      have := toKey_kD h1
      subst this
      cases e : dFind (kk.map kD) ds (kD k) with
      | none => exact ⟨a, none, rfl, .inl ⟨_, k, hr, kV_of sx, (dFind_none kk vs ds k rv e hl).symm⟩, rfl⟩
      | some d =>
        obtain ⟨v, hv, _⟩ := dFind_some kk vs ds k d rv e hl
        exact ⟨a, some v, rfl, .inl ⟨_, k, hr, kV_of sx, hv.symm⟩, rfl⟩
    · cases h
  | _ => simp [inDD] at h
def inKD (a b : D) : Option D := (inDD a b).map .bl
def notInKD (a b : D) : Option D := (inDD a b).map fun k => .bl !k
def rInK : R2 := fun y x H Q => ∃ a o, x = .ref a ∧ DGet H a y o ∧ Q (.bl o.isSome) H
def rNotInK : R2 := fun y x H Q => ∃ a o, x = .ref a ∧ DGet H a y o ∧ Q (.bl (!o.isSome)) H
theorem op_inK {X : Cx} (hu : X.A.units + 1 < cLine) : OpR X (compareOp .In) rInK := fun pins s σ H y x iv u Q I ry rx ⟨a, o, ex, g, q⟩ => by
  subst ex; cases rx
  exact d_in hu I g ry fun s3 I3 => ⟨.bl o.isSome, H, I3, rfl, q⟩
theorem op_notInK {X : Cx} (hu : X.A.units + 1 < cLine) : OpR X (compareOp .NotIn) rNotInK := fun pins s σ H y x iv u Q I ry rx ⟨a, o, ex, g, q⟩ => by
  subst ex; cases rx
  exact d_notIn hu I g ry fun s3 I3 => ⟨.bl (!o.isSome), H, I3, rfl, q⟩
theorem inK_ok {g : Gx} : OpS g rInK inKD := fun H M x y dx dy d Q tr sx sy ho q => by
  unfold inKD at ho
  cases e : inDD dx dy with
  | none => rw [e] at ho; cases ho
  | some b =>
    rw [e] at ho; cases ho
    obtain ⟨a, o, h1, h2, rfl⟩ := inDD_ok sx sy e
    exact ⟨a, o, h1, h2, q _ H (.refl _) (.bl _)⟩
theorem notInK_ok {g : Gx} : OpS g rNotInK notInKD := fun H M x y dx dy d Q tr sx sy ho q => by
  unfold notInKD at ho
  cases e : inDD dx dy with
  | none => rw [e] at ho; cases ho
  | some b =>
    rw [e] at ho; cases ho
    obtain ⟨a, o, h1, h2, rfl⟩ := inDD_ok sx sy e
    exact ⟨a, o, h1, h2, q _ H (.refl _) (.bl _)⟩
/-- len(d), list(d) -/
def oLenD : List D → Option D
  | [.dic ks ds] => if ks.all isKD ∧ ks.length = ds.length then some (.int ds.length) else none
  | _ => none
def rLenD : List V → Hp → VK → Prop := fun xs H Q => ∃ a kvs, xs = [.ref a] ∧ Rd H a (.dK kvs) ∧ Q (.int kvs.length) H
theorem call_lenDK {X : Cx} : CallR X (.builtin "len") rLenD := fun pins s σ H xs us Q I r ⟨a, kvs, e, hk, q⟩ => by
  subst e
  obtain ⟨u, rfl, rx⟩ := vals1 r
  cases rx
  exact d_len I hk fun t s' I' => ⟨.int kvs.length, H, I', ⟨t, rfl⟩, q⟩
theorem cal_lenD {g : Gx} : CalS g rLenD oLenD := fun H M vs ds d Q tr ks ho q => by
  unfold oLenD at ho
  split at ho
  · split at ho
    · rename_i h
      cases ho
      obtain ⟨v, rfl, s⟩ := shals1 ks
      obtain ⟨a, kk, ws, rfl, rfl, hr, hl, rv⟩ := dic_dK s h.1
      refine ⟨a, _, rfl, hr, ?_⟩
      rw [List.length_zip, ← hl, Nat.min_self]
      have := rv.length
      rw [hl, ← this]
      exact q _ H (.refl _) (.int _)
    · cases ho
  · cases ho
theorem cal_listDK {g : Gx} : CalO g (fun xs H Q => ∃ (a : Addr) (kvs : List (Key × V)), xs = [.ref a] ∧ Rd H a (.dK kvs) ∧ ∀ p, H p = none → Q (.ref p) (upd H p (.lst (kvs.map fun kv => kV kv.1)))) oListDK := fun H M vs ds d Q tr ks ho q => by
  unfold oListDK at ho
  split at ho
  · split at ho
    · rename_i h
      cases ho
      obtain ⟨v, rfl, s⟩ := shals1 ks
      obtain ⟨a, kk, ws, rfl, rfl, hr, hl, rv⟩ := dic_dK s h
      exact ⟨a, _, rfl, hr, fun p hp => q p _ hp (.lst upd_same (rvs_keys kk ws hl))⟩
    · cases ho
  · cases ho
section
variable {X : Cx} {C : Ac} {W : WX} {Γ Γ0 Γ1 Γ2 Γ3 Γ' Γb : List Nat} {fr fr1 fr2 fr3 : Bool} {e a b c tg : Expr} {es elts : List Expr} {f h k : Env → R D} {p pos pos' apos cpos p2 np tpos : Pos} {f2 : Env → R (D × D)}
theorem se_dget (hu : X.A.units + 1 < cLine) (h2 : S2 X C W Γ a b Γ' f2) (hs : NoSl b := by exact fun _ _ => rfl) : SE X C W Γ (.Subscript a b pos) Γ' false (m2 dgetD f2) := by
  obtain ⟨ta, tb, pa, pb, hx⟩ := h2.ex
  exact ⟨peImp (pe_dget hu pa pb hs) fun _ _ _ p => m2_tE (r := rGetDK) dget_ok hx p⟩
/-- {} -/
theorem se_dnew : SE X C W Γ (.Dict [] [] pos) Γ true (mC (.dic [] [])) := ⟨peImp pe_dnewK fun σ H Q ⟨hid, ρ, S, p⟩ q hq => by
  have kh := S.holdStp (o := HO.dK []) hq
  refine p (.ref q) _ [q] (S.hold hq) kh (.fr (.dK (ks := []) (vs := []) upd_same rfl .nil)) fun b hb => ?_
  rw [List.mem_singleton.mp hb]; exact S.none_out hq⟩
def gDk (i : Nat) (h : Env → R D) (v : D) (ρ : Env) : Option Env := match ρ.getD i none, h ρ with
  | some (.dic _ _), .ok kd ρ1 => match ρ1.getD i none, toKey kd with
    | some (.dic ks ds), some _ => if ks.all isKD ∧ ks.length < sizeLine then some (ρ1.set i (some (.dic (dPut ks ds kd v).1 (dPut ks ds kd v).2))) else none
    | _, _ => none
  | _, _ => none
theorem sg_dk (i : Nat) {x : Str} (hu : X.A.units + 1 < cLine) (hb : SE X C W Γ b Γ fr h) (hN : X.N[i]? = some x := by rfl) (hv : Vis X.env.scope x := by first | exact Or.inl rfl | exact Or.inr (Or.inl rfl) | exact Or.inr (Or.inr rfl)) (hi : Γ.contains i = true := by rfl)
    (hd : (x == ("__debug__" : Str)) = false := by decide) (hcd : (x == ("__classdict__" : Str)) = false := by decide)
    (ha : ∀ v, assign (.Subscript (.Name x p) b pos) X.env v = (do
      let ov ← holding [v] (eval (.Name x p) X.env)
      let iv ← holding [v, ov] (eval b X.env)
      standAt pos
      holding [v, ov, iv] (setItem ov iv v)
      release [v, ov, iv] []) := by intro _; rfl) : SG X C Γ (.Subscript (.Name x p) b pos) [] (gDk i h) := ⟨pgImp (pg_sub (pe_var hN hv hd hcd) hb.pe (set_dict hu) ha) fun v σ H Q ⟨hid, ρ, d, ρ', S, r, e, q⟩ => by
  obtain ⟨d0, e1, e2, c0⟩ := own_at S hi
  refine ⟨_, e2, hid, ρ, S, ?_⟩
  unfold gDk at e
  split at e
  · rename_i kd ρ1 _ q2
    rw [q2]
    intro y H2 tm S2 k2 va t2
    split at e
    · rename_i ks ds kk e3 e4
      split at e
      · rename_i hk
        cases e
        have S3 := S2.forget (fun a ha => List.mem_append_right _ ha) S.sub
        have sub : ∀ b ∈ Ms σ hid Γ, b ∈ Ms σ (tm ++ hid) Γ := Ms_subH fun a ha => List.mem_append_right _ ha
        have k3 : Stp (Ms σ hid Γ) (Ms σ hid Γ) hid H H2 := ⟨k2.le.trans (.of_same (mask_sub sub)), k2.fx⟩
        obtain ⟨d1, f1, _, c2⟩ := own_at S3 hi
        rw [e3] at f1
        cases f1
        have ek := toKey_kD e4
        subst ek
        have ey := kV_of va.shal0
        subst ey
        have hsh := c2.shal
        cases c2 with
        | @dK kl us _ h hl r1 =>
          obtain ⟨kl', us', h1, h2, h3, h4⟩ := putK_zip kk v d (r.mono k3.le) kl us _ r1 hl
          refine ⟨_, _, rfl, .inl ⟨_, kk, h, rfl, ?_, rfl⟩, ?_⟩
          · rw [List.length_zip, ← hl, Nat.min_self]
            have := hk.2
            rwa [List.length_map] at this
          · rw [h1]
            exact q σ _ (S3.change (List.contains_iff_mem.mp hi) (by rw [h3]; exact .dK upd_same h2 h4)) (k3.trans (S3.changeStp (List.contains_iff_mem.mp hi)) fun _ z => z) (.refl _ _)
      · cases e
    · cases e
  · cases e⟩
/-- self.f = e, self an owned object -/
def putD (f : Str) (d : D) : List Str → List D → List Str × List D
  | n :: ns, e :: ds => if n = f then (n :: ns, d :: ds) else (n :: (putD f d ns ds).1, e :: (putD f d ns ds).2)
  | _, _ => ([f], [d])
theorem putF_zip {g : Gx} {Hm : Hp} {fn : Str} {d : D} {v : V} (r : RV g Hm d v) : ∀ (ns : List Str) (ds : List D) (vs : List V), RVs g Hm ds vs → ns.length = vs.length → ∃ vs' : List V, putF fn v (ns.zip vs) = (putD fn d ns ds).1.zip vs' ∧ (putD fn d ns ds).1.length = vs'.length ∧ RVs g Hm (putD fn d ns ds).2 vs'
  | [], _, [], .nil, _ => ⟨[v], rfl, rfl, .cons r .nil⟩
  | [], _, _ :: _, _, h => by simp at h
  | n :: ns, _, [], _, h => by simp at h
  | n :: ns, _, u :: vs, .cons (d := e) (ds := ds) q t, h => by
    rw [List.zip_cons_cons, putF, putD]
    by_cases z : n = fn
    · rw [if_pos z, if_pos z]
      exact ⟨v :: vs, rfl, by simpa using h, .cons r t⟩
    · rw [if_neg z, if_neg z]
      obtain ⟨vs', h1, h2, h3⟩ := putF_zip r ns ds vs t (by simpa using h)
      exact ⟨u :: vs', by rw [h1]; rfl, by simp [h2], .cons q h3⟩
def mFldS (i : Nat) (cn fn : Str) (h : Env → R D) : Env → R Fl := fun ρ => (h ρ).bind fun d ρ1 => match ρ1.getD i none with
  | some (.obj c ns ds) => if c = cn ∧ ns.length < 1000 then .ok .nx (ρ1.set i (some (.obj c (putD fn d ns ds).1 (putD fn d ns ds).2))) else .bad
  | _ => .bad
theorem ss_fld (i : Nat) {x cn fn : Str} (A : At X.K C.ct cn fn) (hv : SE X C W Γ e Γ' false h) (hN : X.N[i]? = some x := by rfl) (hvi : Vis X.env.scope x := by first | exact Or.inl rfl | exact Or.inr (Or.inl rfl) | exact Or.inr (Or.inr rfl)) (hi : Γ'.contains i = true := by rfl)
    (hd : (x == ("__debug__" : Str)) = false := by decide) (hcd : (x == ("__classdict__" : Str)) = false := by decide) (hs : swapsWith e (some (.Attribute (.Name x p) fn pos')) pos.line X.env = pure false := by rfl) : SS X C W Γ (.Assign [.Attribute (.Name x p) fn pos'] e pos) Γ' Γb fr (mFldS i cn fn h) :=
  ⟨psImp (ps_fld (pe_var hN hvi hd hcd) hv.pe hs) fun Dn σ H ⟨ρ, S, p⟩ => by
  obtain ⟨Cc, ec, cl, na⟩ := A.ex
  refine ⟨C.hid, ρ, S, ?_⟩
  unfold mFldS at p
  cases q : h ρ with
  | bad => rw [q] at p; exact p
  | exn e ρ' => rw [q] at p; exact fun cls od H' x S' => p cls od σ H' x S'
  | ok d ρ1 =>
    rw [q] at p
    dsimp only [R.bind] at p
    intro v H1 tm S1 k1 va t1
    cases va with
    | fz r _ =>
      obtain ⟨d1, f1, f2, c1⟩ := own_at S1 hi
      refine ⟨_, f2, ?_⟩
      rw [f1] at p
      cases d1 with
      | obj c ns ds =>
        dsimp only at p
        by_cases hc : c = cn ∧ ns.length < 1000
        · rw [if_pos hc] at p
          obtain ⟨rfl, hl⟩ := hc
          cases c1 with
          | @obj C1 dx _ _ us _ ho hct hln rs =>
            have : Cc = C1 := Option.some.inj (ec.symm.trans hct)
            subst this
            obtain ⟨vs', h1, h2, h3⟩ := putF_zip (fn := fn) r ns ds us rs hln
            refine ⟨_, Cc, dx, _, rfl, ho, cl, na, by rw [List.length_zip, ← hln, Nat.min_self]; exact hl, ?_⟩
            rw [h1]
            exact p σ _ (S1.change (List.contains_iff_mem.mp hi) (.obj upd_same ec h2 h3)) (k1.trans (S1.changeStp (List.contains_iff_mem.mp hi)) fun _ z => z)
        · rw [if_neg hc] at p; exact (show False from p).elim
      | _ => exact (show False from p).elim⟩
end
end Ip
namespace Ip
open PySem L2 PySem.Spec PyProof.Rows

/-! ## {k: v for target in iter if ..} -/
def compD (g : D → Env → Option Env) (tst : Env → R Bool) (fk f : Env → R D) (vs : List Nat) : List D → Env → List D → List D → R (List D × List D)
  | [], ρ, ks, acc => .ok (ks, acc) ρ
  | d :: ds, ρ, ks, acc => match g d ρ with
    | none => .bad
    | some ρ1 => match tst ρ1 with
      | .ok true ρ2 => match fk ρ2 with
        | .ok kd ρ3 => match f ρ3 with
          | .ok y ρ4 => if (toKey kd).isSome = true ∧ acc.length < sizeLine then compD g tst fk f vs ds (wipeE ρ4 vs) (dPut ks acc kd y).1 (dPut ks acc kd y).2 else .bad
          | _ => .bad
        | _ => .bad
      | .ok false ρ2 => compD g tst fk f vs ds (wipeE ρ2 vs) ks acc
      | _ => .bad
def mDc (fi : Env → R (List D)) (g : D → Env → Option Env) (tst : Env → R Bool) (fk f : Env → R D) (vs : List Nat) : Env → R D := fun ρ => (fi ρ).bind fun ds ρ1 => match compD g tst fk f vs ds (wipeE ρ1 vs) [] [] with
  | .ok acc ρ2 => .ok (.dic acc.1 acc.2) (restE ρ1 ρ2 vs)
  | _ => .bad
theorem dc_it {J : It} {n : Nat} {G : Hp → Prop} {Y : Nat → Hp → V → Hp → Prop} (w : Walk J n G Y) {g : TG} {tt : TT} {tk te : TE} {vs : List Nat} {σ : L2.St} {H1 : Hp} {D : Addr} {Qd : Hp → Prop} (Pv : Nat → Hp → Prop) (h0 : Pv 0 (upd H1 D (.dK []))) (hG : ∀ i H, i ≤ n → Pv i H → G H)
    (hs : ∀ i x H H', i < n → Pv i H → Y i H x H' → g x (wipe σ vs) H' fun σ2 H2 => wipe σ2 vs = wipe σ vs ∧ tt σ2 H2 fun b H3 =>
      if b = true then tk σ2 H3 fun y H4 => te σ2 H4 fun z H5 => ∃ kvs k, y = kV k ∧ H5 D = some (.dK kvs) ∧ kvs.length < sizeLine ∧ Pv (i + 1) (upd H5 D (.dK (putK kvs k z))) else Pv (i + 1) H3) (hd : ∀ H, Pv n H → Qd H) :
    ∃ W : Nat → Nat → Hp → Prop, (∃ m, W 0 m (upd H1 D (.dK []))) ∧ ∀ i m H, W i m H →
      (J.stop i H ∧ Qd H) ∨ (J.go i H ∧ ∃ Nx : Hp → Prop, (∀ H', Nx H' → ∃ m', m' < m ∧ W (i + 1) m' H') ∧ ∀ x H', J.yld i H x H' → g x (wipe σ vs) H' fun σ2 H2 => wipe σ2 vs = wipe σ vs ∧ tt σ2 H2 fun b H3 =>
        if b = true then tk σ2 H3 fun y H4 => te σ2 H4 fun z H5 => ∃ kvs k, y = kV k ∧ H5 D = some (.dK kvs) ∧ kvs.length < sizeLine ∧ Nx (upd H5 D (.dK (putK kvs k z))) else Nx H3) := by
  refine ⟨fun i m H => m = n - i ∧ i ≤ n ∧ Pv i H, ⟨n, by simp, Nat.zero_le _, h0⟩, fun i m H ⟨em, hi, p⟩ => ?_⟩
  subst em
  by_cases hlt : i < n
  · exact .inr ⟨w.goes i H hlt (hG i H hi p), Pv (i + 1), fun H' p' => ⟨n - (i + 1), by omega, rfl, hlt, p'⟩, fun x H' y => hs i x H H' hlt p (w.yields i H x H' hlt (hG i H hi p) y)⟩
  · have e : i = n := by omega
    subst e
    exact .inl ⟨w.stops H (hG _ H hi p), hd H p⟩
section
variable {X : Cx} {C : Ac} {W : WX} {Γ Γ0 Γ1 Γ2 Γ3 Γ' Γb : List Nat} {fr fr1 fr2 fr3 : Bool} {e a b c tg iter elt kx vx : Expr} {es ifs : List Expr} {ts : List Nat} {f fk h k : Env → R D} {frk : Bool} {g : D → Env → Option Env} {tst : Env → R Bool} {p pos apos cpos p2 : Pos} {fi : Env → R (List D)} {scope : Scope} {own : List (Str × Nat)}
/-- the new dict D stands beside -/
theorem dc_ok (hv : ∀ i ∈ Γ, i ∉ own.map (·.2)) (ht : ∀ i ∈ ts, i ∈ own.map (·.2)) {σ : L2.St} {H : Hp} {Q : VK} (p : tE X.K C W Γ0 Γ true (mDc fi g tst fk f (own.map (·.2))) σ H Q) :
    tDc (fun σ H Q => ∃ hid ρ, ST X.K C hid Γ0 ρ σ H ∧ PostI X.K C W Γ0 Γ hid σ H Q (fi ρ)) (tG X.K C Γ ts g) (tT X.K C Wn Γ Γ tst) (tE X.K C Wn Γ Γ frk fk) (tE X.K C Wn Γ Γ fr f) (own.map (·.2)) σ H Q := by
  obtain ⟨hid, ρ, S, p⟩ := p
  refine ⟨hid, ρ, S, ?_⟩
  unfold mDc at p
  cases q : fi ρ with
  | bad => rw [q] at p; exact p
  | exn e ρ' => rw [q] at p; exact p
  | ok ds ρ1 =>
    rw [q] at p
    dsimp only [R.bind] at p
    intro J H1 S1 k1 ⟨Gd, Y, w, hG, hY⟩ D hD
    generalize hvs : own.map (·.2) = vs at *
    have kh := S1.holdStp (o := HO.dK []) hD
    have S2 := S1.hold (o := HO.dK []) hD
    have hDn : D ∉ hid := fun z => (S1.trk D z).1 hD
    have hDM : D ∈ Ms σ (D :: hid) Γ := mem_Ms.mpr (.inl List.mem_cons_self)
    refine dc_it w (fun i H2 => ∃ (ρ2 : Env) (accD : List Ip.D) (kl : List Key) (acc : List V), ST X.K C (D :: hid) Γ ρ2 (L2.wipe σ vs) H2 ∧ Stp (Ms σ hid Γ) (Ms σ (D :: hid) Γ) hid H1 H2 ∧ H2 D = some (.dK (kl.zip acc)) ∧ kl.length = acc.length ∧ RVs (gx X.K C) (mask H2 (Ms σ (D :: hid) Γ)) accD acc ∧
      PostE X.K C W Γ0 Γ true hid σ H Q (match compD g tst fk f vs (ds.drop i) ρ2 (kl.map kD) accD with | .ok acc ρ2 => .ok (.dic acc.1 acc.2) (restE ρ1 ρ2 vs) | _ => .bad)) ?_ (fun i H2 _ ⟨ρ2, _, _, _, _, k2, _⟩ => hG _ _ k2.le) (fun i x H2 H3 hlt ⟨ρ2, accD, kl, acc, S2, k2, hl, hkl, ra, p2⟩ y => ?_) fun H2 ⟨ρ2, accD, kl, acc, S2, k2, hl, hkl, ra, p2⟩ => ?_
    · refine ⟨wipeE ρ1 vs, [], [], [], S2.wipe hv, kh, upd_same, rfl, .nil, ?_⟩
      rw [List.drop_zero]; exact p
    · have hd : ds[i]? = some ds[i] := List.getElem?_eq_getElem hlt
      rw [List.drop_eq_getElem_cons hlt] at p2
      obtain ⟨sm, rv⟩ := hY i x H2 H3 _ hd (hG _ _ k2.le) y
      have eM : Ms (L2.wipe σ vs) (D :: hid) Γ = Ms σ (D :: hid) Γ := Ms_wipe hv
      have r := rv (Ms σ (D :: hid) Γ) (by rw [← eM]; exact S2.hdM) k2.le
      have S3 := S2.same sm
      have keep : ∀ {A B : Hp}, Same A B → (∀ a ∈ hid, A a ≠ none) → Stp (Ms σ (D :: hid) Γ) (Ms σ (D :: hid) Γ) hid A B := fun {A B} sm tr => ⟨.of_same (mask_keep fun b o _ e => sm b o e), fun a ha => by
        cases z : A a with
        | none => exact absurd z (tr a ha)
        | some o => exact sm a o z⟩
      have k3 : Stp (Ms σ hid Γ) (Ms σ (D :: hid) Γ) hid H1 H3 := k2.trans (keep sm fun a ha => (S2.trk a (List.mem_cons_of_mem _ ha)).1) fun _ z => z
      have hl3 : H3 D = some (.dK (kl.zip acc)) := sm _ _ hl
      have ra3 : RVs (gx X.K C) (mask H3 (Ms σ (D :: hid) Γ)) accD acc := ra.mono (.of_same (mask_keep fun b o _ e => sm b o e))
      unfold compD at p2
      cases q2 : g ds[i] ρ2 with
      | none => simp only [q2] at p2; exact (show False from p2).elim
      | some ρ3 =>
        simp only [q2] at p2
        refine ⟨D :: hid, ρ2, ds[i], ρ3, S3, by rw [eM]; exact r, q2, fun σ4 H4 S4 k4 o4 => ?_⟩
        have ew : L2.wipe σ4 vs = L2.wipe σ vs := by
          rw [wipe_off o4 ht]
          exact wipe_off (ts := vs) ⟨wipe_length .., fun j hj => wipe_out hj⟩ fun _ z => z
        have eM4 : Ms σ4 (D :: hid) Γ = Ms σ (D :: hid) Γ := by rw [← Ms_wipe (σ := σ4) hv, ew, eM]
        refine ⟨ew, D :: hid, ρ3, S4, ?_⟩
        rw [eM, eM4] at k4
        have k4' : Stp (Ms σ hid Γ) (Ms σ (D :: hid) Γ) hid H1 H4 := k3.trans k4 fun a ha => List.mem_cons_of_mem _ ha
        have hl4 : H4 D = some (.dK (kl.zip acc)) := (k4.fx D List.mem_cons_self).trans hl3
        cases q3 : tst ρ3 with
        | bad => simp only [q3] at p2; exact p2
        | exn e ρ' => simp only [q3] at p2; exact (show False from p2).elim
        | ok b ρ4 =>
          simp only [q3] at p2
          intro H5 S5 k5
          rw [eM4] at k5
          have k5' : Stp (Ms σ hid Γ) (Ms σ (D :: hid) Γ) hid H1 H5 := k4'.trans k5 fun a ha => List.mem_cons_of_mem _ ha
          have hl5 : H5 D = some (.dK (kl.zip acc)) := (k5.fx D List.mem_cons_self).trans hl4
          have ra5 : RVs (gx X.K C) (mask H5 (Ms σ (D :: hid) Γ)) accD acc := (ra3.mono k4.le).mono k5.le
          cases b with
          | false =>
            rw [if_neg Bool.false_ne_true]
            refine ⟨wipeE ρ4 vs, accD, kl, acc, by rw [← ew]; exact S5.wipe hv, k5', hl5, hkl, ra5, p2⟩
          | true =>
            rw [if_pos rfl]
            refine ⟨D :: hid, ρ4, S5, ?_⟩
            cases q4 : fk ρ4 with
            | bad => simp only [q4] at p2; exact p2
            | exn e ρ' => simp only [q4] at p2; exact (show False from p2).elim
            | ok kd ρ5 =>
              simp only [q4] at p2
              intro kv H6 tm S6 k6 va t6
              rw [eM4] at k6
              refine ⟨tm ++ (D :: hid), ρ5, S6, ?_⟩
              cases q5 : f ρ5 with
              | bad => simp only [q5] at p2; exact p2
              | exn e ρ' => simp only [q5] at p2; exact (show False from p2).elim
              | ok y ρ6 =>
                simp only [q5] at p2
                intro v H7 tm7 S7 k7 vb t7
                by_cases z : (toKey kd).isSome = true ∧ accD.length < sizeLine
                · rw [if_pos z] at p2
                  obtain ⟨kk, ek⟩ := Option.isSome_iff_exists.mp z.1
                  have e1 := toKey_kD ek
                  subst e1
                  have ekv := kV_of va.shal0
                  have eMm : Ms σ4 (tm ++ (D :: hid)) Γ = Ms σ (tm ++ (D :: hid)) Γ := by
                    have h1 := Ms_wipe (σ := σ4) (hid := tm ++ (D :: hid)) hv
                    rw [ew] at h1
                    rw [← h1, Ms_wipe hv]
                  have S8 := S7.forget (hid' := D :: hid) (fun a ha => List.mem_append_right _ (List.mem_append_right _ ha)) S5.sub
                  have sub1 : ∀ b ∈ Ms σ4 (D :: hid) Γ, b ∈ Ms σ4 (tm7 ++ (tm ++ (D :: hid))) Γ := Ms_subH fun a ha => List.mem_append_right _ (List.mem_append_right _ ha)
                  have kA : Stp (Ms σ (D :: hid) Γ) (Ms σ (D :: hid) Γ) (D :: hid) H5 H7 := by
                    refine ⟨?_, fun a ha => (k7.fx a (List.mem_append_right _ ha)).trans (k6.fx a ha)⟩
                    have z1 := k6.le.trans k7.le
                    refine z1.trans (.of_same (mask_sub ?_))
                    rw [← eM4]; exact sub1
                  have rv7 : RV (gx X.K C) (mask H7 (Ms σ (D :: hid) Γ)) y v := by
                    have h1 := vb.rv (M' := Ms σ4 (tm ++ (D :: hid)) Γ) (Ms_subH fun a ha => List.mem_append_right _ ha) t7
                    rw [← eM4]
                    exact h1.mono (.of_same (mask_sub (Ms_subH fun a ha => List.mem_append_right _ ha)))
                  have hl7 : H7 D = some (.dK (kl.zip acc)) := (kA.fx D List.mem_cons_self).trans hl5
                  have ra7 : RVs (gx X.K C) (mask H7 (Ms σ (D :: hid) Γ)) accD acc := ra5.mono kA.le
                  obtain ⟨kl', us', h1, h2, h3, h4⟩ := putK_zip kk v y rv7 kl acc _ ra7 hkl
                  refine ⟨_, kk, ekv, hl7, by rw [List.length_zip, hkl, Nat.min_self, ← ra7.length]; exact z.2, wipeE ρ6 vs, _, kl', us', ?_, ?_, by rw [h1]; exact upd_same, h2, ?_, by rw [← h3]; exact p2⟩
                  · have S9 := S8.wipe hv
                    rw [ew] at S9
                    exact S9.tmpSet hDn S.sub
                  · exact (k5'.trans kA fun a ha => List.mem_cons_of_mem _ ha).tmpSet hDM hDn
                  · rw [mask_updM hDM]
                    exact h4
                · rw [if_neg z] at p2; exact (show False from p2).elim
    · rw [List.drop_length] at p2
      have S0 := S1.hold (o := HO.dK []) hD
      refine p2 (.ref D) H2 [D] (ST.unwipe S0 S2 hv ?_) (k1.trans k2 fun _ z => z) (.fr (.dK hl hkl ra)) fun b hb => ?_
      · refine HLe.trans (.of_same fun b u e => ?_) k2.le
        obtain ⟨e1, e2⟩ := mask_some e
        have hb : b ≠ D := fun z => e1 (z ▸ hDM)
        rw [upd_ne hb] at e2
        have hm : b ∉ Ms σ hid Γ := fun z => e1 (Ms_subH (hid := D :: hid) (fun a ha => List.mem_cons_of_mem _ ha) b z)
        rw [mask_out hm]
        exact e2
      · rw [List.mem_singleton.mp hb]; exact S1.none_out hD
theorem se_dc {ρs : List Nat} (hc : X.calm = true) (hN : X.N.Nodup) (ok : BlkOk X.N X.env.scope scope own) (hi : SI X C W Γ0 tg iter Γ fi) (hg : ∀ (s : Shared) (H : Hp) (Cc : Addr) (cl : List (Str × Addr)) (fp : List Addr), SG (X.blk s H scope (compEnvC scope cl Cc X.env) fp) C Γ tg ts g)
    (ht : ∀ (s : Shared) (H : Hp) (Cc : Addr) (cl : List (Str × Addr)) (fp : List Addr), SPs (X.blk s H scope (compEnvC scope cl Cc X.env) fp) C Wn Γ ifs Γ tst) (hk : ∀ (s : Shared) (H : Hp) (Cc : Addr) (cl : List (Str × Addr)) (fp : List Addr), SE (X.blk s H scope (compEnvC scope cl Cc X.env) fp) C Wn Γ kx Γ frk fk)
    (he : ∀ (s : Shared) (H : Hp) (Cc : Addr) (cl : List (Str × Addr)) (fp : List Addr), SE (X.blk s H scope (compEnvC scope cl Cc X.env) fp) C Wn Γ vx Γ fr f)
    (hρ : ρs = own.map (·.2) := by rfl) (hv : (Γ.all fun i => !ρs.contains i) = true := by rfl) (hts : (ts.all fun i => ρs.contains i) = true := by rfl) (hs : ∀ x, foldedSetIterable iter X.env x = pure x := by intro _; rfl) : SE X C W Γ0 (.DictComp kx vx [⟨tg, iter, ifs, 0⟩] scope pos) Γ true (mDc fi g tst fk f ρs) := by
  subst hρ
  exact ⟨peImp (pe_dc hc hN hi.pi ok (fun s H Cc cl fp => (hg s H Cc cl fp).pg) (fun s H Cc cl fp => (ht s H Cc cl fp).pt) (fun s H Cc cl fp => (hk s H Cc cl fp).pe) (fun s H Cc cl fp => (he s H Cc cl fp).pe) hs) fun σ H Q p =>
    dc_ok (fun i hi z => by have := List.all_eq_true.mp hv i hi; rw [List.contains_iff_mem.mpr z] at this; cases this) (fun i hi => List.contains_iff_mem.mp (List.all_eq_true.mp hts i hi)) p⟩
end
end Ip
namespace Ip
open PySem L2 PySem.Spec PyProof.Rows

/-! ## list(reversed(x)) -/
section
variable {prog : Program} {w : World} {A : Around} {E : Value → Shared → Prop} {s : Shared}
theorem list_of_rev {it l : Addr} {items : Array Value} {Q : Value → Shared → Prop} (hh : A.handled = none) (hit : s.heap.IsRevIter it l ((items.size : Int) - 1)) (hl : s.heap.IsList l items) (hne : l ≠ it) (hn : items.size ≤ sizeLine)
    (hQ : ∀ (h' : Heap) (tk : Nat) (acc : Array Value) (c : Nat), (∀ b o, b ≠ it → s.heap.get? b = some o → h'.get? b = some o) → h'.get? s.heap.objs.size = some { cls := .type "list", dict := none, data := .seq acc c, slots := #[] } →
      ItemsOf (fun i v => items[items.size - 1 - i]? = some v) acc items.size → Q (.ref s.heap.objs.size) { s with heap := h', toks := tk }) : wpAny (model prog w) A (call (.type "list") [.ref it]) Q E s := by
  have W := (Walks.listRev (prog := prog) (w := w) (A := A.in1.in1) hh it l hne items).toS
  obtain ⟨oi, hoi, _⟩ := id hit; obtain ⟨ol, hol, _⟩ := id hl
  have hSi : s.heap.objs.size ≠ it := Nat.ne_of_gt (Heap.lt_size hoi)
  have hSl : s.heap.objs.size ≠ l := Nat.ne_of_gt (Heap.lt_size hol)
  have hSf : s.heap.objs.size ∉ [it, l] := by simp [hSi, hSl]
  refine callType_codes (Q₁ := fun ob s1 => ob = .ref s.heap.objs.size ∧ s1 = { s with heap := s.heap.push { cls := .type "list", data := .seq #[] } }) PySem.F.called_list (PySem.F.typeCall_list_1 _) PySem.F.entry_list_init (code_list_new _ ⟨rfl, rfl⟩) fun ob s1 ⟨e1, e2⟩ => ?_
  subst e1; subst e2
  have hS0 : (s.heap.push { cls := .type "list", data := .seq #[] }).get? s.heap.objs.size = some { cls := .type "list", data := .seq #[] } := Heap.get?_push_size _ rfl
  refine ⟨⟨_, hS0, rfl⟩, PySem.F.args_list_init_2 _ _, ?_⟩
  show wpAny _ A.in1.in1 (do let old ← Builtin.List.listItems (.ref s.heap.objs.size); Builtin.List.listUpdate (.ref s.heap.objs.size) (fun _ => #[]); letGo old.toList.reverse; Builtin.List.listExtendWith (.ref s.heap.objs.size) (.ref it) .none) _ _ _
  refine wpAny_bind ?_
  unfold Builtin.List.listItems
  refine wpAny_bind (wpAny_seqItems hS0 rfl (wpAny_pure ?_))
  show wpAny _ A.in1.in1 (updateSeq s.heap.objs.size (fun _ => #[]) >>= fun _ => letGo (#[] : Array Value).toList.reverse >>= fun _ => Builtin.List.listExtendWith (.ref s.heap.objs.size) (.ref it) .none) _ _ _
  refine wpAny_bind (wpAny_updateSeq hS0 rfl (wpAny_bind (wpAny_letGo ?_)))
  have hS2 := Heap.get?_update_self (Obj.mapSeq (fun _ => (#[] : Array Value))) hS0 rfl
  have kp : ∀ b o, b ≠ s.heap.objs.size → s.heap.get? b = some o → ((s.heap.push { cls := .type "list", data := .seq #[] }).update s.heap.objs.size (Obj.mapSeq (fun _ => (#[] : Array Value)))).get? b = some o := fun b o hb e => (Heap.get?_update_other _ _ (Ne.symm hb)).trans (Heap.get?_push_of_some _ e)
  generalize hg : ((s.heap.push { cls := .type "list", data := .seq #[] }).update s.heap.objs.size (Obj.mapSeq (fun _ => (#[] : Array Value)))) = h2 at hS2 kp ⊢
  have hit2 : h2.IsRevIter it l ((items.size : Int) - 1) := hit.at fun o e => kp it o (Ne.symm hSi) e
  have hl2 : h2.IsList l items := by obtain ⟨o, e, r⟩ := hl; exact ⟨o, kp l o (Ne.symm hSl) e, r⟩
  have hT : ({ s with heap := h2 } : Shared).TypeIs (.ref it) "list_reverseiterator" := Heap.IsRevIter.typeIs (s := { s with heap := h2 }) hit2
  have hsm : Builtin.List.listSameRef (.ref s.heap.objs.size) (.ref it) = false := by simp [Builtin.List.listSameRef, hSi]
  unfold Builtin.List.listExtendWith
  refine wpAny_bind (wpAny_typeOf hT ?_); rw [if_neg (by rw [hsm]; decide)]
  refine wpAny_bind (wpAny_pyIter_revIter (s := { s with heap := h2 }) hit2 (wpAny_bind (wpAny_holding ?_)))
  unfold Builtin.List.listLengthHint
  refine wpAny_bind (wpAny_specialOf hT RT.nolen_lri ?_)
  show wpAny _ A.in1.in1 (specialOf (Value.ref it) (Str.ofString "__length_hint__") >>= _) _ _ _
  refine wpAny_bind (wpAny_specialOf hT RT.hint_lri ?_); generalize hid : ("list_reverseiterator.__length_hint__" : String) = id0
  wp_delta
  rw [show splitId id0 = some ("list_reverseiterator", "__length_hint__") from by subst hid; decide +kernel]; subst hid
  refine wpAny_bind (wpAny_isInstance (b := true) hT (by rw [isSubtype_type]; kernel_rfl) (wpAny_pure ?_)); rw [if_neg (by decide)]
  have e0 : ((items.size : Nat) : Int) - 1 - ((0 : Nat) : Int) = (items.size : Int) - 1 := by omega
  refine wpAny_pure ⟨plainId_quiet PySem.F.plain_extend_loop _, codeAny_extend_loopS W hn _ hSf _ items.size 0 _ _ _ rfl (Nat.zero_le _) ⟨Nat.zero_le _, by rw [e0]; exact hit2, hl2⟩ hS2 (ItemsOf.nil _) fun s' acc' c' hm hS' hacc => ?_⟩
  rw [Moved.eq_with hm]
  refine ⟨rfl, hQ s'.heap s'.toks acc' c' (fun b o hb e => hm.heap b o (fun hmem => ?_) (kp b o (Nat.ne_of_lt (Heap.lt_size e)) e)) hS' hacc⟩
  rcases List.mem_cons.mp hmem with z | z
  · exact absurd (Heap.lt_size e) (by rw [z]; exact Nat.lt_irrefl _)
  · exact hb (List.mem_singleton.mp z)
end
theorem vals_back {xs : List V} {its : List Value} {acc : Array Value} (r : Vals xs its) (h : ItemsOf (fun i v => its.toArray[its.toArray.size - 1 - i]? = some v) acc its.toArray.size) : Vals xs.reverse acc.toList := by
  have e : acc.toList = its.reverse := by
    refine List.ext_getElem? fun j => ?_
    have hz : acc.toList.length = its.length := by rw [Array.length_toList, h.1, List.size_toArray]
    by_cases hj : j < its.length
    · have q := h.2 j acc.toList[j] (by rw [← Array.getElem?_toList]; exact List.getElem?_eq_getElem (by omega))
      rw [List.getElem?_eq_getElem (by omega), List.getElem?_reverse hj, ← q]
      simp
    · rw [List.getElem?_eq_none (by omega), List.getElem?_eq_none (by rw [List.length_reverse]; omega)]
  rw [e]
  exact r.reverse
section
variable {X : Cx} {C : Ac} {W : WX} {Γ Γ' : List Nat} {fr : Bool} {e : Expr} {f : Env → R D} {p pos p2 pos2 : Pos}
def revD : D → Option D
  | .lst ds => some (.lst ds.reverse)
  | _ => none
theorem pe_listRev {te : TE} (hc : X.calm = true) (hm : X.mg "list" = none) (hm2 : X.mg "reversed" = none) (he : PE X e te) (hg : Gl X "list") (hg2 : Gl X "reversed") (hs : starEach [e] X.env = (false, eval e X.env) :: starEach [] X.env)
    (hs2 : starEach [.Call (.Name "reversed" p2) [e] [] pos2] X.env = (false, eval (.Call (.Name "reversed" p2) [e] [] pos2) X.env) :: starEach [] X.env) :
    PE X (.Call (.Name "list" p) [.Call (.Name "reversed" p2) [e] [] pos2] [] pos) fun σ H Q => te σ H fun v H1 => ∃ (a : Addr) (xs : List V), v = .ref a ∧ SqL X.K H1 a xs ∧ ∀ q, H1 q = none → Q (.ref q) (upd H1 q (.lst xs.reverse)) := ⟨fun pins s σ H Q I h => by
  refine Call_ (ld_blt I hg hm PyProof.Rows.boot_list (PyProof.Rows.callWith_type1 (args_cons (Call_ (ld_blt I hg2 hm2 PyProof.Rows.boot_reversed (PyProof.Rows.callWith_type1 (args_cons (thn (he.run pins s σ H _ I h) fun u s1 ⟨v, H1, I1, r1, a, xs, ev, hq, q⟩ => args_nil ?_) hs) hs rfl))) hs2) hs2 rfl))
  subst ev; cases r1
  obtain ⟨its, rv, pl, hz⟩ := I1.list hq
  refine call_reversed_list pl.isList (args_nil ?_)
  have k0 : ∀ b o, s1.heap.get? b = some o → (s1.heap.push (revObj a ((its.toArray.size : Int) - 1))).get? b = some o := fun b o e => Heap.get?_push_of_some _ e
  have I2 : Inv X pins σ H1 { s1 with heap := s1.heap.push (revObj a ((its.toArray.size : Int) - 1)) } := I1.kept (t' := s1.toks) k0
  obtain ⟨f0, f1, f2, f3, f4, f5⟩ := I1.fpOk (H' := H1) (b := s1.heap.objs.size) (Nat.le_refl _) (I1.hok.fresh (Nat.le_refl _))
  obtain ⟨ol, hol, _⟩ := pl.isList
  refine list_of_rev (s := { s1 with heap := s1.heap.push (revObj a ((its.toArray.size : Int) - 1)) }) (I1.ok.hd hc) ⟨_, Heap.get?_push_size _ rfl, rfl, rfl⟩ (pl.isList.push _) (Nat.ne_of_lt (Heap.lt_size hol)) (by rw [List.size_toArray, ← rv.length]; exact hz) fun h' tk acc c hk hS hi => ?_
  have I3 : Inv X pins σ H1 { s1 with heap := h', toks := tk } := I2.turned (t' := tk) (fun b o hb e => hk b o hb e) f0 f1 f3 f4 f5
  have hfr : H1 (s1.heap.push (revObj a ((its.toArray.size : Int) - 1))).objs.size = none := I2.hok.fresh (Nat.le_refl _)
  have I4 : Inv X pins σ (upd H1 (s1.heap.push (revObj a ((its.toArray.size : Int) - 1))).objs.size (.lst xs.reverse)) { s1 with heap := h', toks := tk } := by
    refine I2.turnedNew (t' := tk) (ch := [s1.heap.objs.size]) (fun b o hb e => hk b o (by simpa using hb) e) (fun b hb => ?_) (Nat.le_refl _) ⟨by rw [List.length_reverse]; exact hz, acc.toList, c, vals_back rv hi, by rw [Array.toArray_toList]; exact hS⟩
    rw [List.mem_singleton.mp hb]
    exact ⟨f0, f1, f2, f3, f4, f5⟩
  exact ⟨.ref (s1.heap.push (revObj a ((its.toArray.size : Int) - 1))).objs.size, _, I4, rfl, q _ hfr⟩⟩
theorem se_listRev (hc : X.calm = true) (ha : SE X C W Γ e Γ' fr f) (hm : X.mg "list" = none) (hm2 : X.mg "reversed" = none) (hg : Gl X "list" := by rfl) (hg2 : Gl X "reversed" := by rfl) (hs : starEach [e] X.env = (false, eval e X.env) :: starEach [] X.env := by rfl)
    (hs2 : starEach [.Call (.Name "reversed" p2) [e] [] pos2] X.env = (false, eval (.Call (.Name "reversed" p2) [e] [] pos2) X.env) :: starEach [] X.env := by rfl) : SE X C W Γ (.Call (.Name "list" p) [.Call (.Name "reversed" p2) [e] [] pos2] [] pos) Γ' true (mUn revD f) := ⟨peImp (pe_listRev hc hm hm2 ha.pe hg hg2 hs hs2) fun σ H Q ⟨hid, ρ, S, p⟩ => by
  refine ⟨hid, ρ, S, ?_⟩
  unfold mUn at p
  cases q : f ρ with
  | bad => rw [q] at p; exact p
  | exn e ρ' => rw [q] at p; exact p
  | ok d ρ1 =>
    rw [q] at p
    dsimp only [R.bind] at p
    intro v H1 tm S1 k1 va t1
    cases d with
    | lst ds =>
      have sh := va.shal0
      cases sh with
      | lst h r => exact ⟨_, _, rfl, h, fun q hq => fin_fr p S.sub S1 k1 q _ hq (.lst upd_same r.reverse)⟩
    | _ => exact (show False from p).elim⟩
end
/-! ## defs by their data -/
theorem def_okD {P : Program} {w : World} {K : PySem.W.Frag} {mg : Str → Option Value} {base : Heap} {x qual : Str} {pr : Arguments} {bd : List Stmt} {sc : Scope} {f : Addr} {fd : FuncData} {N ps : List Str} {k n : Nat} {io : List Nat} {fr : Bool} {ct : Str → Option Addr} {sem : Env → R Fl}
    (F : FunD K x qual pr bd sc [] [] f fd) (S : FnScope N ps sc) (hn : n = ps.length)
    (hb : ∀ (cdv : Value) (A : Around) (outer : List PySem.Env) (s : Shared) (H : Hp) (E : XK) (hid ioA : List Addr), Room k (A.deeper (envOfC qual sc s.heap.objs.size f cdv)) →
      SSs (cxOf (L2.CX P w) P w K mg base N qual sc f cdv A outer s H E) ⟨ct, H, hid, io, ioA⟩ (fun cls od _ H' => E cls od H') io bd io [] fr sem) :
    FnOk P w K mg base (L2.CX P w) (k + 1) f fd ps (spF K ct n io fr (fnSem N.length io sem)) := by
  refine F.ok S (spF_len hn) fun cdv A outer s H vs Q E hr h => ?_
  refine body_sp (X := cxOf (L2.CX P w) P w K mg base N qual sc f cdv A outer s H E) (W := fun cls od _ H' => E cls od H') rfl (fun _ _ _ _ h => h) (fun hid ioA => hb cdv A outer s H E hid ioA hr) ?_ h
  have := congrArg List.length S.pre
  rw [List.length_take] at this
  omega
theorem cx_takes {P : Program} {w : World} {K : PySem.W.Frag} {mg : Str → Option Value} {base : Heap} {qual : Str} {sc : Scope} {f : Addr} {N : List Str} {cdv : Value} {A : Around} {outer : List PySem.Env} {s : Shared} {H : Hp} {E : XK} : Takes (cxOf (L2.CX P w) P w K mg base N qual sc f cdv A outer s H E) (fun cls od _ H' => E cls od H') := takes_of rfl rfl rfl rfl
theorem cx_own {P : Program} {w : World} {K : PySem.W.Frag} {mg : Str → Option Value} {base : Heap} {qual : Str} {sc : Scope} {f : Addr} {N : List Str} {cdv : Value} {A : Around} {outer : List PySem.Env} {s : Shared} {H : Hp} {E : XK} : PassesOwn (model P w) (A.deeper (envOfC qual sc s.heap.objs.size f cdv)) (cxOf (L2.CX P w) P w K mg base N qual sc f cdv A outer s H E).env (cxOf (L2.CX P w) P w K mg base N qual sc f cdv A outer s H E).xe := passes_of (X := cxOf (L2.CX P w) P w K mg base N qual sc f cdv A outer s H E) rfl
theorem takes_no {X : Cx} (h : X.xe = fun _ _ => False) : Takes X Wn := fun u s' ⟨a, B, sI, pins, σ, H, cls, d, e, I, nb, up, sky, na, os, ag, w⟩ => (show False from w).elim
end Ip
namespace Ip
open PySem L2 PySem.Spec PyProof.Rows

section
variable {X : Cx} {C : Ac} {W : WX} {Γ Γ0 Γ1 Γ2 Γ3 Γ' Γb : List Nat} {fr fr1 fr2 fr3 : Bool} {e a b c tg : Expr} {es elts : List Expr} {f h k : Env → R D} {p pos pos' apos cpos p2 np tpos : Pos} {f2 : Env → R (D × D)} {st : Stmt} {sts : List Stmt} {fs gs : Env → R Fl}
theorem sp_cmp2 {op : CmpOp} {r : R2} {opD : D → D → Option D} (ho : OpR X (compareOp op) r) (hs : OpS ⟨X.K, C.ct⟩ r opD) (h2 : S2 X C W Γ a b Γ' f2) (hm : behindInMarks op b = false := by rfl) : SP X C W Γ (.Compare a [op] [b] pos) Γ' (mTest (m2 opD f2)) := by
  obtain ⟨ta, tb, pa, pb, hx⟩ := h2.ex
  exact ⟨ptImp (pt_cmpR ho pa pb hm) fun _ _ _ p => m2_tE hs hx (tT_tE p)⟩
theorem sp_chain {op op' : CmpOp} {r r' : R2} {opD opD' : D → D → Option D} (ho : OpR X (compareOp op) r) (ho' : OpR X (compareOp op') r') (hs : OpS ⟨X.K, C.ct⟩ r opD) (hs' : OpS ⟨X.K, C.ct⟩ r' opD') (ha : SE X C W Γ a Γ1 fr1 f) (hb : SE X C W Γ1 b Γ2 fr2 h) (hc : SE X C W Γ2 c Γ3 fr3 k)
    (hk : okG C.io Γ3 Γ2 = true := by rfl) (hm : lastMarks [op, op'] [b, c] = false := by with_unfolding_all rfl) : SP X C W Γ (.Compare a [op, op'] [b, c] pos) Γ3 (mTest (mChain opD opD' f h k)) :=
  ⟨ptImp (pt_chain ho ho' ha.pe hb.pe hc.pe hm) fun _ _ _ p => chain_tE hs hs' hk (tT_tE p)⟩
theorem se_neg (ha : SE X C W Γ a Γ' fr f) : SE X C W Γ (.UnaryOp .USub a pos) Γ' false (mUn negD f) := ⟨peImp (pe_un un_neg ha.pe) fun _ _ _ p => un_tE neg_ok p⟩
/-- let some owned slots go behind a statement -/
theorem ss_let (h1 : SS X C W Γ st Γ1 Γb fr fs) (hk : okG C.io Γ2 Γ1 = true := by rfl) : SS X C W Γ st Γ2 Γb fr fs := ⟨psImp h1.ps fun Dn σ H ⟨ρ, S, p⟩ => by
  refine ⟨ρ, S, ?_⟩
  obtain ⟨h1, h2, h3⟩ := okG_of hk
  cases q : fs ρ with
  | bad => rw [q] at p; exact p
  | exn e ρ' => rw [q] at p; exact p
  | ok d ρ' =>
    rw [q] at p
    cases d with
    | nx => exact fun σ' H' S' k' => p σ' H' (S'.weak h1 h2 h3) (ST.weakStp (K := X.K) k' h1)
    | bk => exact p
    | ct => exact p
    | rt d => exact p⟩
end
theorem room1 {k : Nat} {A : Around} (r : Room k A) : A.units + 1 < cLine := by have := r.un; omega
theorem room64 {k : Nat} {A : Around} (r : Room k A) : A.units + 64 < cLine := by have := r.un; omega
theorem room65 {k : Nat} {A : Around} (r : Room k A) : A.units + 65 < cLine := by have := r.un; omega
theorem one_cls {P : Str → Prop} {c0 : Str} (h : P c0) : ∀ c, [c0].contains c = true → P c := fun c hc => by
  have : c = c0 := by simpa using hc
  rw [this]; exact h
end Ip
namespace Ip
open PySem L2 PySem.Spec PyProof.Rows
theorem suite_ps {X : Cx} {i : Nat} {a : Addr} {e : Expr} {v : V} (j : Nat) {x : Str} {p pos : Pos} (hN : X.N.Nodup) (h : SX X i a e v) (hx : X.N[j]? = some x := by rfl) (hl : Loc X.env.scope x := by first | exact Or.inl rfl | exact Or.inr rfl) (hs : swapsWith e (some (.Name x p)) pos.line X.env = pure false := by rfl)
    (hf : X.fn x = true ∨ X.env.scope.names.lookup x = some .local := by first | exact .inl rfl | exact .inr rfl | assumption) : PSs X [.Assign [.Name x p] e pos] fun Dn σ H => σ[i]? = some (some (.ref a)) ∧ ∀ H', Same H H' → Dn.nx (σ.set j (some v)) H' :=
  pss_one (psImp (ps_set hN hx hl h.pe hs hf) fun Dn σ H q => q)
/-! ## tuple(a text) -/
def rTupS : List V → Hp → VK → Prop := fun xs H Q => ∃ x : Str, xs = [.str x] ∧ x.cps.size ≤ sizeLine ∧ ∀ l, H l = none → Q (.ref l) (upd H l (.tup (x.cps.toList.map fun c => V.str ⟨#[c]⟩)))
theorem call_tupS {X : Cx} (hc : X.calm = true) : CallR X (.type "tuple") rTupS := fun pins s σ H xs us Q I r ⟨x, ex, hz, q⟩ => by
  subst ex
  obtain ⟨u, rfl, t, rfl⟩ := vals1 r
  refine call_tuple_str (I.ok.hd hc) x t (fun h' tk acc hk hi => ?_) hz
  have rv := vals_signs x acc.toList 0 (by have := hi.1; simp [Array.length_toList, this]) fun i v hv => by
    rw [Nat.zero_add]; exact hi.2 i v (by rw [← Array.getElem?_toList]; exact hv)
  rw [List.drop_zero] at rv
  have I1 : Inv X pins σ H { s with heap := h', toks := tk } := I.kept (t' := tk) hk
  refine ⟨.ref _, _, I1.laid (t' := tk) (fun b o e => Heap.get?_push_of_some _ e) (Nat.le_refl _) (o := .tup (x.cps.toList.map fun c => V.str ⟨#[c]⟩)) ⟨by rw [List.length_map, Array.length_toList]; exact hz, acc.toList, rv, ?_⟩, rfl, q _ (I1.hok.fresh (Nat.le_refl _))⟩
  rw [Array.toArray_toList]; exact IsTup.new _ _
def oTupS : List D → Option D
  | [.str x] => ifO (x.cps.size ≤ sizeLine) (.tup (x.cps.toList.map chD))
  | _ => none
theorem cal_tupS {g : Gx} : CalS g rTupS oTupS := fun H M vs ds d Q tr ks ho q => by
  unfold oTupS at ho
  split at ho
  · obtain ⟨hz, rfl⟩ := ifO_some ho
    obtain ⟨v, rfl, s⟩ := shals1 ks
    cases s
    refine ⟨_, rfl, hz, fun l hl => ?_⟩
    have hn : l ∉ M := fun z => tr l z hl
    exact q _ _ (same_upd hl) (.tup (by rw [mask_out hn, upd_same]) (rvs_signs _))
  · cases ho
end Ip
namespace Ip
open PySem L2 PySem.Spec PyProof.Rows
/-! ## the head's facts, with more of the errors' classes -/
def excC (K : PySem.W.Frag) (x : Str) : Bool := decide (PySem.W.findIn K (.ref (He.ga K x)) "__getattribute__" = some (some (.builtin "BaseException.__getattribute__"))) && (decide (PySem.W.findIn K (.ref (He.ga K x)) "__getattr__" = some none) && (decide (PySem.W.subIn K (.ref (He.ga K x)) (.type "BaseException") = some true) &&
  (PySem.W.hasDictIn K (He.ga K x) && (decide (PySem.W.findIn K (.ref (He.ga K x)) "__class__" = some (some (.builtin "object.__class__"))) && (decide (PySem.W.specialIn K (.builtin "object.__class__") "__get__" = some (some (.builtin "getset_descriptor.__get__"))) &&
  (decide (PySem.W.takesIn K (.builtin "object.__class__") = some true) && decide (PySem.W.mroIn K (He.ga K x) (.type "object") = some true)))))))
theorem excC_ok {K : PySem.W.Frag} {x : Str} (h : excC K x = true) : ExcC K (He.ga K x) := by
  simp only [excC, Bool.and_eq_true, decide_eq_true_eq] at h
  obtain ⟨h1, h2, h3, h4, h5, h6, h7, h8⟩ := h
  exact ⟨h1, h2, h3, h4, h5, h6, h7, h8⟩
def kitC (K : PySem.W.Frag) (x y : Str) (b : Bool) : Bool := decide (PySem.W.kitOne K (.ref (He.ga K x)) (.ref (He.ga K y)) = some b)
theorem kitC_ok {K : PySem.W.Frag} {x y : Str} {b : Bool} (h : kitC K x y b = true) : PySem.W.kitOne K (.ref (He.ga K x)) (.ref (He.ga K y)) = some b := of_decide_eq_true h
def obsX (fa : List He.Fa) (fn : List He.DefD) (xs : List (PySem.W.Frag → Bool)) (K : PySem.W.Frag) : He.AlD := (((fa.all fun f => f.ok K) && fn.all fun d => d.ok K) && xs.all fun x => x K, fn.map fun d => He.fnW K d.at_)
def SaysX (fa : List He.Fa) (fn : List He.DefD) (xs : List (PySem.W.Frag → Bool)) (K : PySem.W.Frag) : Prop := obsX fa fn xs K = He.valD fn
def obsXG (n : Nat) (fa : List He.Fa) (fn : List He.DefD) (xs : List (PySem.W.Frag → Bool)) (g : Addr → Option Obj) : He.AlD := obsX fa fn xs (He.frG g (He.asD g n))
def hookX (n : Nat) (fa : List He.Fa) (fn : List He.DefD) (xs : List (PySem.W.Frag → Bool)) : PySem.W.Hook where
  α := He.AlD
  obs := fun s => obsXG n fa fn xs s.heap.get?
  val := fun _ => He.valD fn
  says := fun _ h => ∃ K : PySem.W.Frag, K.In h ∧ SaysX fa fn xs K
  of := fun _ _ e => ⟨_, He.frG_in, e⟩
  keeps := fun _ _ _ ⟨K, hK, c⟩ k => ⟨K, PySem.W.Frag.In.keeps hK k, c⟩
theorem obsXG_eq {n : Nat} {fa : List He.Fa} {fn : List He.DefD} {xs : List (PySem.W.Frag → Bool)} {g : Addr → Option Obj} {s : Shared} (h : ∀ a, g a = s.heap.get? a) : obsXG n fa fn xs g = (hookX n fa fn xs).obs s := by
  rw [show g = s.heap.get? from funext h]; rfl
section
variable {fa : List He.Fa} {fn : List He.DefD} {xs : List (PySem.W.Frag → Bool)} {K : PySem.W.Frag}
theorem SaysX.d (c : SaysX fa fn xs K) : He.SaysD fa fn K := by
  have h1 : (((fa.all fun f => f.ok K) && fn.all fun d => d.ok K) && xs.all fun x => x K) = true := congrArg (fun z : He.AlD => z.1) c
  have h2 : fn.map (fun d => He.fnW K d.at_) = fn.map He.DefD.val := congrArg (fun z : He.AlD => z.2) c
  unfold He.SaysD He.obsD He.valD
  rw [h2, (Bool.and_eq_true_iff.mp h1).1]
theorem SaysX.x (c : SaysX fa fn xs K) (i : Nat) {x : PySem.W.Frag → Bool} (h : xs[i]? = some x := by rfl) : x K = true := by
  have h1 : (((fa.all fun f => f.ok K) && fn.all fun d => d.ok K) && xs.all fun x => x K) = true := congrArg (fun z : He.AlD => z.1) c
  exact List.all_eq_true.mp (Bool.and_eq_true_iff.mp h1).2 x (List.mem_of_getElem? h)
end
/-- the law's promise, from its semantics -/
theorem law_sp {K : PySem.W.Frag} {ct : Str → Option Addr} {F : FSem} {H : Hp} {a : Addr} {ns : List Int} (hF : ∃ outs, F [.lst (ns.map D.int)] = .ok (.bl true) outs) (h : SqL K H a (ns.map V.int)) : spF K ct 1 [] false F [.ref a] H (fun v _ => v = .bl true) fun _ _ _ => False := by
  obtain ⟨outs, e⟩ := hF
  have em : mask H ([] : List Addr) = H := by funext b; exact mask_out (by simp)
  refine ⟨[.lst (ns.map D.int)], [], [], rfl, ⟨rfl, rfl, List.nodup_nil, (fun _ z => nomatch z), (fun _ z => nomatch z), fun i d _ hd => ?_, (fun _ z => nomatch z)⟩, ?_⟩
  · match i, hd with
    | 0, hd => cases hd; exact ⟨_, rfl, .lst (by rw [List.append_nil, em]; exact h) (RVs.ints ns)⟩
  · rw [e]
    intro v H' tm _ va
    exact (val_bl va).1
theorem law_cx {P : Program} {w : World} : ∀ (H : Hp) (s : Shared) (e : Value) (s' : Shared), L2.CX P w [] H s (fun _ _ _ => False) e s' → False := fun _ _ _ _ ⟨_, _, _, _, _, _, _, _, _, _, _, _, z⟩ => z
end Ip
set_option maxHeartbeats 2000000
namespace Ip
open PySem L2 PySem.Spec PyProof.Rows
/-- the law's end where the context of the errors names the world -/
theorem law_end {lw : PySem.W.OpenLaw} {nn kk : Nat} {qq : Program} {ll : List Str} {XP : (Str → Option Value) → Heap → Prop} {YP : World → Heap → Prop} {dd : DefRec} {xx : Str} (a1 : lw.most = some nn) (a2 : nn ≤ sizeLine) (a3 : dd.params.defaults = []) (a4 : Room kk callerA)
    (FF : ∀ (w : World) (mg : Str → Option Value) (fa : Addr) (hh : Heap), YP w hh → hh.Ns mainGlobals mg → mg dd.name = some (.ref fa) → ∃ (K : PySem.W.Frag) (fd : FuncData) (sp : Sp), K.In hh ∧ (∀ (sh : Shared) (u : Value), BindsTo sh fd ⟨[u], []⟩ [(xx, u)]) ∧ (∀ (H : Hp) (a : Addr) (ns : List Int), ns.length ≤ nn → Only H → SqL K H a (ns.map V.int) → sp [.ref a] H (fun v _ => v = .bl true) fun _ _ _ => False) ∧ ∀ base : Heap, K.In base → base.Ns mainGlobals mg → FnOk lw.prog w K mg base (L2.CX lw.prog w) kk fa fd [xx] sp) :
    PySem.W.WalkO qq ll XP YP lw.row.toRowW dd [] (fun f vs => PySem.call f vs) := by
  refine Att.attach_call a1 a3 fun w sa sb mg mb fa o pm cd doc a vs ns G Y ho hd hcd h1 h2 h3 h4 h5 => ?_
  obtain ⟨K, fd, sp, KX, b1, b2, b3⟩ := FF w mg fa _ Y G.T.g h1
  refine law_call KX G.T.g G.T.b G.T.builtins G.T.nolimit h5 h2 h3 (Nat.le_trans h4 a2) a4 b3 b1 (fun H o1 o2 => b2 H a ns h4 o1 o2) ?_
  exact fun H e sc => law_cx H sb e sc
end Ip
namespace Ip
open PySem L2 PySem.Spec PyProof.Rows

/-! ## dicts whose keys are tuples of ints and texts -/
def toKs : List D → Option (List Key)
  | [] => some []
  | d :: ds => match toKey d, toKs ds with
    | some k, some ks => some (k :: ks)
    | _, _ => none
def toKT : D → Option (List Key)
  | .tup ds => toKs ds
  | _ => none
theorem toKs_map : ∀ {ds : List D} {ks : List Key}, toKs ds = some ks → ds = ks.map kD
  | [], _, h => by cases h; rfl
  | d :: ds, _, h => by
    unfold toKs at h
    cases e1 : toKey d with
    | none => rw [e1] at h; cases h
    | some k =>
      cases e2 : toKs ds with
      | none => rw [e1, e2] at h; cases h
      | some ks =>
        rw [e1, e2] at h
        cases h
        rw [List.map_cons, ← toKey_kD e1, ← toKs_map e2]
theorem RVs.kVs {g : Gx} {H : Hp} : ∀ {ks : List Key} {vs : List V}, RVs g H (ks.map kD) vs → vs = ks.map kV
  | [], _, .nil => rfl
  | k :: ks, _, .cons r t => by
    rw [RVs.kVs t]
    cases k with
    | inl i => cases r; rfl
    | inr x => cases r; rfl
/-- the object of a key -/
theorem key_at {g : Gx} {H Hm : Hp} {d : D} {v : V} {k : List Key} (s : Shal g H Hm d v) (e : toKT d = some k) : ∃ b, v = .ref b ∧ H b = some (.tup (k.map kV)) := by
  cases d <;> first | (cases e; done) | skip
  rename_i ds
  have := toKs_map (show toKs ds = some k from e)
  subst this
  cases s with
  | tup h r _ => exact ⟨_, rfl, by rw [← RVs.kVs r]; exact h⟩
def tFind (k : List Key) : List (List Key) → List D → Option D
  | k' :: ks, d :: ds => if k' = k then some d else tFind k ks ds
  | _, _ => none
def tPut (ks : List (List Key)) (ds : List D) (k : List Key) (v : D) : List (List Key) × List D := if (ks.any fun k' => decide (k' = k)) = true then (ks, List.zipWith (fun k' d => if k' = k then v else d) ks ds) else (ks ++ [k], ds ++ [v])
section
variable {g : Gx} {H : Hp}
theorem tFind_none : ∀ (ks : List (List Key)) (vs : List V) (ds : List D) (k : List Key), RVs g H ds vs → tFind k ks ds = none → ks.length = vs.length → valV (ks.zip vs) k = none
  | [], _, _, _, _, _, _ => rfl
  | k' :: ks, [], _, _, _, _, h => by simp at h
  | k' :: ks, v :: vs, _, k, .cons r t, e, h => by
    rw [tFind] at e
    by_cases z : k' = k
    · rw [if_pos z] at e; cases e
    · rw [if_neg z] at e
      rw [List.zip_cons_cons, valV_neg z]
      exact tFind_none ks vs _ k t e (by simpa using h)
theorem tFind_some : ∀ (ks : List (List Key)) (vs : List V) (ds : List D) (k : List Key) (d : D), RVs g H ds vs → tFind k ks ds = some d → ks.length = vs.length → ∃ v, valV (ks.zip vs) k = some v ∧ RV g H d v
  | [], _, _, _, _, _, e, _ => by cases e
  | k' :: ks, [], _, _, _, _, _, h => by simp at h
  | k' :: ks, v :: vs, _, k, d, .cons r t, e, h => by
    rw [tFind] at e
    by_cases z : k' = k
    · rw [if_pos z] at e
      cases e
      exact ⟨v, by rw [List.zip_cons_cons, valV_pos z], r⟩
    · rw [if_neg z] at e
      rw [List.zip_cons_cons, valV_neg z]
      exact tFind_some ks vs _ k d t e (by simpa using h)
theorem tPut_zip (k : List Key) (v : V) (d : D) (rd : RV g H d v) : ∀ (ks : List (List Key)) (vs : List V) (ds : List D), RVs g H ds vs → ks.length = vs.length → ∃ (vs' : List V), putK (ks.zip vs) k v = (tPut ks ds k d).1.zip vs' ∧ (tPut ks ds k d).1.length = vs'.length ∧ RVs g H (tPut ks ds k d).2 vs' := by
  have hany : ∀ (ks : List (List Key)) (vs : List V), ks.length = vs.length → ((ks.zip vs).any fun kv => decide (kv.1 = k)) = ks.any fun k' => decide (k' = k) := by
    intro ks
    induction ks with
    | nil => intro vs _; rfl
    | cons k' ks ih =>
      intro vs h
      cases vs with
      | nil => simp at h
      | cons u vs => rw [List.zip_cons_cons, List.any_cons, List.any_cons, ih vs (by simpa using h)]
  have hmap : ∀ (ks : List (List Key)) (vs : List V) (ds : List D), RVs g H ds vs → ks.length = vs.length → ∃ vs', (ks.zip vs).map (fun kv => if kv.1 = k then (kv.1, v) else kv) = ks.zip vs' ∧ ks.length = vs'.length ∧ RVs g H (List.zipWith (fun k' e => if k' = k then d else e) ks ds) vs' := by
    intro ks
    induction ks with
    | nil => intro vs ds r h; exact ⟨[], rfl, rfl, .nil⟩
    | cons k' ks ih =>
      intro vs ds r h
      cases r with
      | nil => simp at h
      | @cons e u ds vs r t =>
        obtain ⟨vs', h1, h2, h3⟩ := ih vs ds t (by simpa using h)
        by_cases z : k' = k
        · refine ⟨v :: vs', ?_, by simp [h2], ?_⟩
          · rw [List.zip_cons_cons, List.map_cons, h1, if_pos z]; rfl
          · rw [List.zipWith_cons_cons, if_pos z]
            exact .cons rd h3
        · refine ⟨u :: vs', ?_, by simp [h2], ?_⟩
          · rw [List.zip_cons_cons, List.map_cons, h1, if_neg z]; rfl
          · rw [List.zipWith_cons_cons, if_neg z]
            exact .cons r h3
  intro ks vs ds r h
  unfold putK tPut
  rw [hany ks vs h]
  by_cases q : (ks.any fun k' => decide (k' = k)) = true
  · rw [if_pos q, if_pos q]
    exact hmap ks vs ds r h
  · rw [if_neg q, if_neg q]
    refine ⟨vs ++ [v], ?_, by simp [h], r.app (.cons rd .nil)⟩
    rw [List.zip_append h]; rfl
end
/-- d[k] -/
def dgetT : D → D → Option D
  | .dit ks ds, k => (toKT k).bind fun kk => tFind kk ks ds
  | _, _ => none
theorem dgetT_ok {g : Gx} : OpS g rGetDK dgetT := fun H M x y dx dy d Q tr sx sy ho q => by
  cases dx with
  | dit ks ds =>
    simp only [dgetT, Option.bind_eq_some_iff] at ho
    obtain ⟨k, h1, h2⟩ := ho
    obtain ⟨b, rfl, hb⟩ := key_at sy h1
    cases sx with
    | dT hr hl rv =>
      obtain ⟨v, hv, rd⟩ := tFind_some _ _ _ k d rv h2 hl
      exact ⟨_, v, rfl, .inr ⟨_, k, b, hr, rfl, hb, hv.symm⟩, q v H (.refl _) rd⟩
  | _ => cases ho
/-- k in d -/
def inDT : D → D → Option Bool
  | k, .dit ks ds => (toKT k).map fun kk => (tFind kk ks ds).isSome
  | _, _ => none
theorem inDT_ok {g : Gx} {H : Hp} {M : List Addr} {x y : V} {dx dy : D} {b : Bool} (sx : Shal g H (mask H M) dx x) (sy : Shal g H (mask H M) dy y) (h : inDT dx dy = some b) : ∃ a o, y = .ref a ∧ DGet H a x o ∧ b = o.isSome := by
  cases dy with
  | dit ks ds =>
    simp only [inDT, Option.map_eq_some_iff] at h
    obtain ⟨k, h1, rfl⟩ := h
    obtain ⟨c, rfl, hb⟩ := key_at sx h1
    cases sy with
    | dT hr hl rv =>
      cases e : tFind k ks ds with
      | none => exact ⟨_, none, rfl, .inr ⟨_, k, c, hr, rfl, hb, (tFind_none _ _ _ k rv e hl).symm⟩, rfl⟩
      | some d =>
        obtain ⟨v, hv, _⟩ := tFind_some _ _ _ k d rv e hl
        exact ⟨_, some v, rfl, .inr ⟨_, k, c, hr, rfl, hb, hv.symm⟩, rfl⟩
  | _ => simp [inDT] at h
def inTD (a b : D) : Option D := (inDT a b).map .bl
def notInTD (a b : D) : Option D := (inDT a b).map fun k => .bl !k
theorem inT_ok {g : Gx} : OpS g rInK inTD := fun H M x y dx dy d Q tr sx sy ho q => by
  unfold inTD at ho
  cases e : inDT dx dy with
  | none => rw [e] at ho; cases ho
  | some b =>
    rw [e] at ho; cases ho
    obtain ⟨a, o, h1, h2, rfl⟩ := inDT_ok sx sy e
    exact ⟨a, o, h1, h2, q _ H (.refl _) (.bl _)⟩
theorem notInT_ok {g : Gx} : OpS g rNotInK notInTD := fun H M x y dx dy d Q tr sx sy ho q => by
  unfold notInTD at ho
  cases e : inDT dx dy with
  | none => rw [e] at ho; cases ho
  | some b =>
    rw [e] at ho; cases ho
    obtain ⟨a, o, h1, h2, rfl⟩ := inDT_ok sx sy e
    exact ⟨a, o, h1, h2, q _ H (.refl _) (.bl _)⟩
section
variable {X : Cx} {C : Ac} {W : WX} {Γ Γ0 Γ1 Γ2 Γ3 Γ' Γb : List Nat} {fr fr1 fr2 fr3 : Bool} {e a b c tg : Expr} {es elts : List Expr} {f h k : Env → R D} {p pos pos' apos cpos p2 np tpos : Pos} {f2 : Env → R (D × D)}
theorem se_dgetT (hu : X.A.units + 1 < cLine) (h2 : S2 X C W Γ a b Γ' f2) (hs : NoSl b := by exact fun _ _ => rfl) : SE X C W Γ (.Subscript a b pos) Γ' false (m2 dgetT f2) := by
  obtain ⟨ta, tb, pa, pb, hx⟩ := h2.ex
  exact ⟨peImp (pe_dget hu pa pb hs) fun _ _ _ p => m2_tE (r := rGetDK) dgetT_ok hx p⟩
/-- {} that will have tuples as keys -/
theorem se_dnewT : SE X C W Γ (.Dict [] [] pos) Γ true (mC (.dit [] [])) := ⟨peImp pe_dnewT fun σ H Q ⟨hid, ρ, S, p⟩ q hq => by
  have kh := S.holdStp (o := HO.dT []) hq
  refine p (.ref q) _ [q] (S.hold hq) kh (.fr (.dT (ks := []) (vs := []) upd_same rfl .nil)) fun b hb => ?_
  rw [List.mem_singleton.mp hb]; exact S.none_out hq⟩
def gDt (i : Nat) (h : Env → R D) (v : D) (ρ : Env) : Option Env := match ρ.getD i none, h ρ with
  | some (.dit _ _), .ok kd ρ1 => match ρ1.getD i none, toKT kd with
    | some (.dit ks ds), some kk => if ks.length < sizeLine then some (ρ1.set i (some (.dit (tPut ks ds kk v).1 (tPut ks ds kk v).2))) else none
    | _, _ => none
  | _, _ => none
theorem sg_dt (i : Nat) {x : Str} (hu : X.A.units + 1 < cLine) (hb : SE X C W Γ b Γ fr h) (hN : X.N[i]? = some x := by rfl) (hv : Vis X.env.scope x := by first | exact Or.inl rfl | exact Or.inr (Or.inl rfl) | exact Or.inr (Or.inr rfl)) (hi : Γ.contains i = true := by rfl)
    (hd : (x == ("__debug__" : Str)) = false := by decide) (hcd : (x == ("__classdict__" : Str)) = false := by decide)
    (ha : ∀ v, assign (.Subscript (.Name x p) b pos) X.env v = (do
      let ov ← holding [v] (eval (.Name x p) X.env)
      let iv ← holding [v, ov] (eval b X.env)
      standAt pos
      holding [v, ov, iv] (setItem ov iv v)
      release [v, ov, iv] []) := by intro _; rfl) : SG X C Γ (.Subscript (.Name x p) b pos) [] (gDt i h) := ⟨pgImp (pg_sub (pe_var hN hv hd hcd) hb.pe (set_dict hu) ha) fun v σ H Q ⟨hid, ρ, d, ρ', S, r, e, q⟩ => by
  obtain ⟨d0, e1, e2, c0⟩ := own_at S hi
  refine ⟨_, e2, hid, ρ, S, ?_⟩
  unfold gDt at e
  split at e
  · rename_i kd ρ1 _ q2
    rw [q2]
    intro y H2 tm S2 k2 va t2
    split at e
    · rename_i ks ds kk e3 e4
      split at e
      · rename_i hk
        cases e
        have S3 := S2.forget (fun a ha => List.mem_append_right _ ha) S.sub
        have sub : ∀ b ∈ Ms σ hid Γ, b ∈ Ms σ (tm ++ hid) Γ := Ms_subH fun a ha => List.mem_append_right _ ha
        have k3 : Stp (Ms σ hid Γ) (Ms σ hid Γ) hid H H2 := ⟨k2.le.trans (.of_same (mask_sub sub)), k2.fx⟩
        obtain ⟨d1, f1, _, c2⟩ := own_at S3 hi
        rw [e3] at f1
        cases f1
        obtain ⟨b0, ey, hb0⟩ := key_at va.shal0 e4
        subst ey
        cases c2 with
        | @dT kl us _ h hl r1 =>
          obtain ⟨us', h1, h2, h4⟩ := tPut_zip kk v d (r.mono k3.le) _ us _ r1 hl
          refine ⟨_, _, rfl, .inr ⟨_, kk, b0, h, rfl, hb0, ?_, rfl⟩, ?_⟩
          · rw [List.length_zip, ← hl, Nat.min_self]
            exact hk
          · rw [h1]
            exact q σ _ (S3.change (List.contains_iff_mem.mp hi) (.dT upd_same h2 h4)) (k3.trans (S3.changeStp (List.contains_iff_mem.mp hi)) fun _ z => z) (.refl _ _)
      · cases e
    · cases e
  · cases e⟩
end
end Ip
namespace Ip
open PySem L2 PySem.Spec PyProof.Rows
section
variable {X : Cx} {C : Ac} {W : WX} {Γ Γ0 Γ1 Γ2 Γ3 Γ' Γb : List Nat} {fr fr1 fr2 fr3 : Bool} {e a b c tg : Expr} {es elts : List Expr} {f h k : Env → R D} {p pos pos' apos cpos p2 np tpos : Pos} {f2 : Env → R (D × D)}
/-- d.get(k, z), d owned, its keys tuples -/
def mGetT (i : Nat) (f h : Env → R D) : Env → R D := fun ρ => match ρ.getD i none with
  | some (.dit _ _) => (f ρ).bind fun kd ρ1 => (h ρ1).bind fun z ρ2 => match ρ2.getD i none with
    | some (.dit ks ds) => ofO ρ2 ((toKT kd).map fun kk => (tFind kk ks ds).getD z)
    | _ => .bad
  | _ => .bad
theorem se_getT (i : Nat) {x : Str} (hu : X.A.units + 1 < cLine) (ha : SE X C W Γ a Γ fr f) (hb : SE X C W Γ b Γ false h) (hN : X.N[i]? = some x := by rfl) (hv : Vis X.env.scope x := by first | exact Or.inl rfl | exact Or.inr (Or.inl rfl) | exact Or.inr (Or.inr rfl)) (hi : Γ.contains i = true := by rfl)
    (hd : (x == ("__debug__" : Str)) = false := by decide) (hcd : (x == ("__classdict__" : Str)) = false := by decide) (m : M2 X (.Name x p) "get" apos a b cpos := by exact ⟨rfl, rfl, rfl, rfl⟩) :
    SE X C W Γ (.Call (.Attribute (.Name x p) "get" apos) [a, b] [] cpos) Γ false (mGetT i f h) := ⟨peImp (pe_dget2 hu (pe_var hN hv hd hcd) ha.pe hb.pe m) fun σ H Q ⟨hid, ρ, S, p⟩ => by
  obtain ⟨d0, e1, e2, c0⟩ := own_at S hi
  refine ⟨_, e2, _, rfl, ?_⟩
  unfold mGetT at p
  rw [e1] at p
  cases d0 with
  | dit ks0 ds0 =>
    cases c0 with
    | dT h0 _ _ =>
      refine ⟨.inr ⟨_, .inl h0⟩, hid, ρ, S, ?_⟩
      dsimp only at p
      cases q : f ρ with
      | bad => rw [q] at p; exact p
      | exn e ρ' => rw [q] at p; exact p
      | ok kd ρ1 =>
        rw [q] at p
        dsimp only [R.bind] at p
        intro y H2 tm S2 k2 va t2
        refine ⟨tm ++ hid, ρ1, S2, ?_⟩
        cases q2 : h ρ1 with
        | bad => rw [q2] at p; exact p
        | exn e ρ' => rw [q2] at p; exact p
        | ok zd ρ2 =>
          rw [q2] at p
          dsimp only at p
          intro z H3 tm3 S3 k3 vb t3
          have e3 : tm3 ++ (tm ++ hid) = (tm3 ++ tm) ++ hid := (List.append_assoc ..).symm
          have sh := va.shal k3
          rw [e3] at S3 k3 sh vb
          obtain ⟨d3, f1, _, c3⟩ := own_at S3 hi
          rw [f1] at p
          cases d3 with
          | dit ks ds =>
            cases c3 with
            | dT h3 hl r3 =>
              cases q3 : toKT kd with
              | none => simp only [q3] at p; exact p.elim
              | some kk =>
                simp only [q3, Option.map_some] at p
                obtain ⟨b0, rfl, hb0⟩ := key_at sh q3
                have fin := fin_fz p S.sub S3 (k2.trans k3 fun a ha => List.mem_append_right _ ha)
                cases q4 : tFind kk ks ds with
                | none =>
                  have hv := tFind_none _ _ _ kk r3 q4 hl
                  refine ⟨none, .inr ⟨_, kk, b0, .inl h3, rfl, hb0, hv.symm⟩, ?_⟩
                  rw [q4] at fin
                  cases vb with
                  | fz r _ => exact fin _ _ (.refl _) r
                | some dv =>
                  obtain ⟨v, hv, rd⟩ := tFind_some _ _ _ kk dv r3 q4 hl
                  refine ⟨some v, .inr ⟨_, kk, b0, .inl h3, rfl, hb0, hv.symm⟩, ?_⟩
                  rw [q4] at fin
                  exact fin _ _ (.refl _) rd
          | _ => exact p.elim
  | _ => exact p.elim⟩
end
/-! ## what reads the keys: hidden objects are no tuples -/
def CalN (g : Gx) (r : List V → Hp → VK → Prop) (o : List D → Option D) : Prop := ∀ (H : Hp) (M : List Addr) (vs : List V) (ds : List D) (d : D) (Q : VK), (∀ a ∈ M, Hd H a) → Shals g H (mask H M) ds vs → o ds = some d →
  (∀ q u, H q = none → Cont g (upd H q u) (mask H M) q d → Q (.ref q) (upd H q u)) → r vs H Q
theorem CalO.n {g : Gx} {r : List V → Hp → VK → Prop} {o : List D → Option D} (h : CalO g r o) : CalN g r o := fun H M vs ds d Q tr => h H M vs ds d Q fun a ha => (tr a ha).1
section
variable {X : Cx} {C : Ac} {W : WX} {Γ Γ0 Γ1 Γ2 Γ3 Γ' Γb : List Nat} {fr fr1 fr2 fr3 : Bool} {e a b c tg : Expr} {es elts : List Expr} {g : Env → R (List D)} {f h k : Env → R D} {p pos pos' apos cpos p2 np tpos : Pos} {f2 : Env → R (D × D)} {T : String} {x : Str} {r : List V → Hp → VK → Prop} {o : List D → Option D}
theorem arg_tN (hs : CalN ⟨X.K, C.ct⟩ r o) {σ : L2.St} {H : Hp} {Q : VK} (p : tE X.K C W Γ Γ' true (mArg o g) σ H Q) : tVs X.K C W Γ Γ' g σ H fun vs H1 => r vs H1 Q := by
  obtain ⟨hid, ρ, S, p⟩ := p
  refine ⟨hid, ρ, S, ?_⟩
  unfold mArg at p
  cases q : g ρ with
  | bad => rw [q] at p; exact p
  | exn e ρ' => rw [q] at p; exact p
  | ok ds ρ2 =>
    rw [q] at p
    dsimp only [R.bind] at p
    intro vs H1 tm S1 k1 t1 ks
    cases q2 : o ds with
    | none => rw [q2] at p; exact p.elim
    | some d => rw [q2] at p; exact hs H1 _ vs ds d Q S1.hdM ks q2 (fin_fr p S.sub S1 k1)
theorem se_calN (hc : CallR X (.type T) r) (hs : CalN ⟨X.K, C.ct⟩ r o) (hm : X.mg x = none) (ha : SV X C W Γ (e :: es) Γ' g) (hg : Gl X x := by rfl) (hv : bootBuiltins x = some (.type T) := by decide +kernel) (hn : x ≠ "__name__" := by decide) (hdb : (x == ("__debug__" : Str)) = false := by decide)
    (he : starEach (e :: es) X.env = (false, eval e X.env) :: starEach es X.env := by rfl) (hpl : (backTo pos (starEach es X.env)).any (·.1) = false := by rfl) : SE X C W Γ (.Call (.Name x p) (e :: es) [] pos) Γ' true (mArg o g) :=
  ⟨peImp (pe_callTy hc hg hm hv ha.pa hn hdb he hpl) fun _ _ _ p => arg_tN hs p⟩
end
theorem rvs_kV {g : Gx} {H : Hp} : ∀ ks : List Key, RVs g H (ks.map kD) (ks.map kV)
  | [] => .nil
  | .inl i :: ks => .cons (.int i) (rvs_kV ks)
  | .inr x :: ks => .cons (.str x) (rvs_kV ks)
theorem rv_kT {g : Gx} {H : Hp} {M : List Addr} (hd : ∀ a ∈ M, Hd H a) {k : List Key} {b : Addr} (hb : H b = some (.tup (k.map kV))) : RV g (mask H M) (kT k) (.ref b) :=
  .tup (by rw [mask_out fun z => (hd b z).2 _ hb]; exact hb) (rvs_kV k)
theorem rvs_keysL {g : Gx} {H : Hp} {M : List Addr} (hd : ∀ a ∈ M, Hd H a) : ∀ (ks : List (List Key)) (vs : List V) (bs : List Addr), IsKeys H (ks.zip vs) bs → ks.length = vs.length → RVs g (mask H M) (ks.map kT) (bs.map V.ref)
  | [], vs, bs, h, _ => by cases h; exact .nil
  | k :: ks, [], bs, h, e => by simp at e
  | k :: ks, v :: vs, bs, h, e => by
    rw [List.zip_cons_cons] at h
    cases h with
    | cons h1 t => exact .cons (rv_kT hd h1) (rvs_keysL hd ks vs _ t (by simpa using e))
/-! ## list(d), keys tuples -/
def oListDT : List D → Option D
  | [.dit ks _] => some (.lst (ks.map kT))
  | _ => none
theorem cal_listDT {g : Gx} : CalN g (fun xs H Q => ∃ (d : Addr) (kvs : List (List Key × V)), xs = [V.ref d] ∧ Rd H d (.dT kvs) ∧ ∀ (p : Addr) (bs : List Addr), H p = none → IsKeys H kvs bs → Q (.ref p) (upd H p (.lst (bs.map V.ref)))) oListDT := fun H M vs ds d Q tr ks ho q => by
  unfold oListDT at ho
  split at ho
  · cases ho
    obtain ⟨v, rfl, s⟩ := shals1 ks
    cases s with
    | dT h l r => exact ⟨_, _, rfl, h, fun p bs hp hk => q p _ hp (.lst upd_same (rvs_keysL tr _ _ _ hk l))⟩
  · cases ho
/-- len(d) -/
def oLenDT : List D → Option D
  | [.dit ks ds] => if ks.length = ds.length then some (.int ds.length) else none
  | _ => none
end Ip
namespace Ip
open PySem L2 PySem.Spec PyProof.Rows
open PySem.W (AllAlike Sortable dataLe EachIs)
/-! ## sorted of data -/
def SortC (ds : List PyData) : Prop := AllAlike ds ∧ Sortable ds ∧ ∀ d ∈ ds, d.depth ≤ 60
theorem each_vals : ∀ {L : List (V × PyData)} {us : List Value}, Vals (L.map (·.1)) us → EachIs (fun v p => RelV p.1 v) us L
  | [], _, .nil => .nil
  | _ :: _, _, .cons r t => .cons r (each_vals t)
theorem vals_each : ∀ {L : List (V × PyData)} {us : List Value}, EachIs (fun v p => RelV p.1 v) us L → Vals (L.map (·.1)) us
  | [], _, .nil => .nil
  | _ :: _, _, .cons r t => .cons r (vals_each t)
theorem each_reads {X : Cx} {pins : List (Addr × Obj)} {σ : L2.St} {H : Hp} {s : Shared} (I : Inv X pins σ H s) : ∀ {L : List (V × PyData)} {us : List Value}, EachIs (fun v p => RelV p.1 v) us L → (∀ p ∈ L, Dp X.K H p.1 p.2) → EachIs (fun v p => ∃ as, Reads s.heap v p.2 as) us L
  | [], _, .nil, _ => .nil
  | _ :: _, _, .cons r t, h => .cons (Dp.reads I _ _ _ (h _ List.mem_cons_self) r) (each_reads I t fun p hp => h p (List.mem_cons_of_mem _ hp))
def rSortD (K : PySem.W.Frag) (b : Bool) : List V → List V → Hp → VK → Prop := fun vs zs H Q => ∃ (a : Addr) (L : List (V × PyData)), vs = [V.ref a] ∧ zs = [.bl b] ∧ SqL K H a (L.map (·.1)) ∧ (∀ p ∈ L, Dp K H p.1 p.2) ∧ SortC (L.map (·.2)) ∧
  ∀ p, H p = none → Q (.ref p) (upd H p (.lst ((L.mergeSort (dataLe b (·.2))).map (·.1))))
theorem cr_sortedD {X : Cx} {b : Bool} (hu : X.A.units + 64 < cLine) : CallRK X (.builtin "sorted") [Str.ofString "reverse"] (rSortD X.K b) := by
  intro pins s σ H vs zs us ws Q I r rz h
  obtain ⟨a, L, rfl, rfl, hs, hd, ⟨c1, c2, c3⟩, q⟩ := h
  obtain ⟨u1, rfl, e0⟩ := vals1 r
  obtain rfl : u1 = Value.ref a := e0
  obtain ⟨w1, rfl, e1⟩ := vals1 rz
  obtain rfl : w1 = Value.bool b := e1
  obtain ⟨its, rv, hl, hz⟩ := I.list hs
  rw [List.length_map] at hz
  have e := each_vals rv
  refine PySem.W.sorted_rev_data (enc := fun p : V × PyData => p.2) (R := fun v (p : V × PyData) => RelV p.1 v) hl.isList e (each_reads I e hd) c1 c2 hz (fun p hp => ?_) fun out h1 h2 => ?_
  · have := c3 p.2 (List.mem_map_of_mem hp)
    omega
  · obtain ⟨ep, he'⟩ := PyProof.Rows.sortedAll_at s.heap its out.toArray
    refine ⟨.ref _, upd H (s.heap.objs.size + 1) (.lst ((L.mergeSort (dataLe b (·.2))).map (·.1))), I.laid (t' := s.toks) (fun _ _ => PyProof.Rows.sortedAll_old) (Nat.le_succ _) ⟨?_, out, ep, vals_each h2, he'⟩, rfl, q _ (I.hok.fresh (Nat.le_succ _))⟩
    rw [List.length_map, List.length_mergeSort]
    exact hz
/-! ### on data by value -/
def isTup1 : PyData → Bool
  | .tuple (_ :: _) => true
  | _ => false
def okSort (bs : List PyData) : Bool := (bs.all fun d => bs.all fun d' => PySem.W.alike d d') && (bs.all isTup1 && bs.all fun d => decide (d.depth ≤ 60))
theorem sortC_of {bs : List PyData} (h : okSort bs = true) : SortC bs := by
  simp only [okSort, Bool.and_eq_true, List.all_eq_true, decide_eq_true_iff] at h
  obtain ⟨h1, h2, h3⟩ := h
  refine ⟨fun d hd d' hd' => h1 d hd d' hd', .inl fun d hd => ?_, h3⟩
  have := h2 d hd
  unfold isTup1 at this
  split at this
  · exact ⟨_, _, rfl⟩
  · cases this
/-- the items sorted by their data; the keys of the items may be told apart -/
def sortL (b : Bool) (L : List (D × PyData)) : List D := (L.mergeSort (dataLe b (·.2))).map (·.1)
def oSortD (b : Bool) : List D → Option D
  | [.lst ds] => match toPys ds with
    | some bs => if okSort bs = true then some (.lst (sortL b (ds.zip bs))) else none
    | none => none
  | _ => none
theorem map_ms {α β : Type} {le : β → β → Bool} (f : α → β) (l : List α) : (l.mergeSort fun x y => le (f x) (f y)).map f = (l.map f).mergeSort le := List.map_mergeSort fun _ _ _ _ => rfl
section
variable {g : Gx} {H Hm : Hp}
theorem rvs_of_all : ∀ (L : List (D × V)), (∀ p ∈ L, RV g Hm p.1 p.2) → RVs g Hm (L.map (·.1)) (L.map (·.2))
  | [], _ => .nil
  | p :: L, h => .cons (h p List.mem_cons_self) (rvs_of_all L fun q hq => h q (List.mem_cons_of_mem _ hq))
theorem all_of_rvs : ∀ {ds : List D} {vs : List V}, RVs g Hm ds vs → ∀ p ∈ ds.zip vs, RV g Hm p.1 p.2
  | _, _, .nil, p, h => by cases h
  | _, _, .cons r t, p, h => by
    rw [List.zip_cons_cons] at h
    rcases List.mem_cons.mp h with rfl | h
    · exact r
    · exact all_of_rvs t p h
/-- both sides of a sorted row -/
theorem rvs_sorted {ds : List D} {vs : List V} {bs : List PyData} (b : Bool) (r : RVs g Hm ds vs) (hl : bs.length = ds.length) : RVs g Hm (sortL b (ds.zip bs)) (((vs.zip bs).mergeSort (dataLe b (·.2))).map (·.1)) := by
  have hv := r.length
  let T : List ((D × V) × PyData) := (ds.zip vs).zip bs
  have e1 : T.map (fun t => (t.1.1, t.2)) = ds.zip bs := by
    refine List.ext_getElem? fun i => ?_
    simp only [T, List.getElem?_map, List.getElem?_zip_eq_some, List.zip, List.getElem?_zipWith]
    rcases h1 : ds[i]? with _ | d <;> rcases h2 : vs[i]? with _ | v <;> rcases h3 : bs[i]? with _ | p <;> simp
    have a1 := (List.getElem?_eq_some_iff.mp h1).1
    have a2 := List.getElem?_eq_none_iff.mp h2
    omega
  have e2 : T.map (fun t => (t.1.2, t.2)) = vs.zip bs := by
    refine List.ext_getElem? fun i => ?_
    simp only [T, List.getElem?_map, List.getElem?_zip_eq_some, List.zip, List.getElem?_zipWith]
    rcases h1 : ds[i]? with _ | d <;> rcases h2 : vs[i]? with _ | v <;> rcases h3 : bs[i]? with _ | p <;> simp
    have a1 := List.getElem?_eq_none_iff.mp h1
    have a2 := (List.getElem?_eq_some_iff.mp h2).1
    omega
  have k1 := map_ms (le := dataLe b (fun p : D × PyData => p.2)) (fun t : (D × V) × PyData => (t.1.1, t.2)) T
  have k2 := map_ms (le := dataLe b (fun p : V × PyData => p.2)) (fun t : (D × V) × PyData => (t.1.2, t.2)) T
  rw [e1] at k1
  rw [e2] at k2
  have le1 : (fun x y : (D × V) × PyData => dataLe b (fun p : D × PyData => p.2) (x.1.1, x.2) (y.1.1, y.2)) = dataLe b (fun t : (D × V) × PyData => t.2) := rfl
  have le2 : (fun x y : (D × V) × PyData => dataLe b (fun p : V × PyData => p.2) (x.1.2, x.2) (y.1.2, y.2)) = dataLe b (fun t : (D × V) × PyData => t.2) := rfl
  unfold sortL
  rw [← k1, ← k2, le1, le2, List.map_map, List.map_map]
  have key : ∀ S : List ((D × V) × PyData), (∀ t ∈ S, RV g Hm t.1.1 t.1.2) → RVs g Hm (S.map (Prod.fst ∘ fun t => (t.1.1, t.2))) (S.map (Prod.fst ∘ fun t => (t.1.2, t.2))) := by
    intro S
    induction S with
    | nil => intro _; exact .nil
    | cons t S ih => intro h; exact .cons (h t List.mem_cons_self) (ih fun q hq => h q (List.mem_cons_of_mem _ hq))
  refine key _ fun t ht => ?_
  have hm : t ∈ T := (List.mergeSort_perm T _).mem_iff.mp ht
  exact all_of_rvs r t.1 (List.of_mem_zip hm).1
theorem toPys_len : ∀ {ds : List D} {bs : List PyData}, toPys ds = some bs → bs.length = ds.length
  | [], _, h => by unfold toPys at h; cases h; rfl
  | d :: ds, bs, h => by
    unfold toPys at h
    cases q1 : toPy d with
    | none => rw [q1] at h; cases h
    | some p =>
      cases q2 : toPys ds with
      | none => rw [q1, q2] at h; cases h
      | some ps =>
        rw [q1, q2] at h; cases h
        simp [toPys_len q2]
theorem dp_zip : ∀ {vs : List V} {bs : List PyData}, DpAll g.K H vs bs → ∀ p ∈ vs.zip bs, Dp g.K H p.1 p.2
  | _, _, .nil, p, h => by cases h
  | _, _, .cons r t, p, h => by
    rw [List.zip_cons_cons] at h
    rcases List.mem_cons.mp h with rfl | h
    · exact r
    · exact dp_zip t p h
end
/-- the rule's answer by value -/
def CalK (g : Gx) (r : List V → List V → Hp → VK → Prop) (zs : List V) (o : List D → Option D) : Prop := ∀ (H : Hp) (M : List Addr) (vs : List V) (ds : List D) (d : D) (Q : VK), (∀ a ∈ M, Hd H a) → Shals g H (mask H M) ds vs → o ds = some d →
  (∀ q u, H q = none → Cont g (upd H q u) (mask H M) q d → Q (.ref q) (upd H q u)) → r vs zs H Q
theorem cal_sortD {g : Gx} {b : Bool} : CalK g (rSortD g.K b) [.bl b] (oSortD b) := fun H M vs ds d Q tr ks ho q => by
  unfold oSortD at ho
  split at ho
  · rename_i ds
    split at ho
    · rename_i bs e
      split at ho
      · rename_i hk
        cases ho
        obtain ⟨v, rfl, s⟩ := shals1 ks
        cases s with
        | @lst a us ds h r =>
          have hl := toPys_len e
          have hv := r.length
          have rf : RVs g H ds us := r.out
          have z1 : (us.zip bs).map (·.1) = us := by rw [List.map_fst_zip (by omega)]
          have z2 : (us.zip bs).map (·.2) = bs := by rw [List.map_snd_zip (by omega)]
          refine ⟨a, us.zip bs, rfl, rfl, by rw [z1]; exact h, dp_zip (RVs.dp ds us bs rf e), by rw [z2]; exact sortC_of hk, fun p hp => ?_⟩
          exact q p _ hp (.lst upd_same (rvs_sorted b r hl))
      · cases ho
    · cases ho
  · cases ho
end Ip
namespace Ip
open PySem L2 PySem.Spec PyProof.Rows
section
variable {X : Cx} {C : Ac} {W : WX} {Γ Γ0 Γ1 Γ2 Γ3 Γ' Γb : List Nat} {fr fr1 fr2 fr3 : Bool} {e a b c tg : Expr} {es elts : List Expr} {g : Env → R (List D)} {f h k : Env → R D} {p pos pos' apos cpos p2 p3 kp np tpos : Pos} {f2 : Env → R (D × D)} {T : String} {x : Str} {o : List D → Option D}
theorem arg_tK {r : List V → List V → Hp → VK → Prop} {zs : List V} (hs : CalK ⟨X.K, C.ct⟩ r zs o) {σ : L2.St} {H : Hp} {Q : VK} (p : tE X.K C W Γ Γ' true (mArg o g) σ H Q) : tVs X.K C W Γ Γ' g σ H fun vs H1 => r vs zs H1 Q := by
  obtain ⟨hid, ρ, S, p⟩ := p
  refine ⟨hid, ρ, S, ?_⟩
  unfold mArg at p
  cases q : g ρ with
  | bad => rw [q] at p; exact p
  | exn e ρ' => rw [q] at p; exact p
  | ok ds ρ2 =>
    rw [q] at p
    dsimp only [R.bind] at p
    intro vs H1 tm S1 k1 t1 ks
    cases q2 : o ds with
    | none => rw [q2] at p; exact p.elim
    | some d => rw [q2] at p; exact hs H1 _ vs ds d Q S1.hdM ks q2 (fin_fr p S.sub S1 k1)
/-- sorted(e, reverse=k) -/
theorem se_sortedR {kb : Bool} {j : Nat} (hu : X.A.units + 64 < cLine) (hm : X.mg "sorted" = none) (ha : SV X C W Γ [e] Γ' g) (hg : Gl X "sorted" := by rfl)
    (he : backTo pos (starEach [e] X.env) = (false, eval e X.env) :: backTo pos (starEach [] X.env) := by rfl) (hpl : (backTo pos (starEach [e] X.env)).any (·.1) = false := by rfl)
    (hall : (backToKw pos (keywordEach [⟨some "reverse", .Constant (.bool kb) j p3, kp⟩] X.env)).all (·.1.isSome) = true := by rfl) (hnone : (backToKw pos (keywordEach [⟨some "reverse", .Constant (.bool kb) j p3, kp⟩] X.env)).any (·.1.isNone) = false := by rfl) (hks : (backToKw pos (keywordEach [⟨some "reverse", .Constant (.bool kb) j p3, kp⟩] X.env)).filterMap (·.1) = [Str.ofString "reverse"] := by rfl) :
    SE X C W Γ (.Call (.Name "sorted" p) [e] [⟨some "reverse", .Constant (.bool kb) j p3, kp⟩] pos) Γ' true (mArg (oSortD kb) g) :=
  ⟨peImp (pe_callBK (cr_sortedD hu) hg hm (by decide +kernel) ha.pa (pk_cons pe_bl pk_nil) (by decide) (by decide) he hpl hall hnone hks) fun σ H Q p => arg_tK (zs := [.bl kb]) cal_sortD p⟩
end
end Ip
set_option maxHeartbeats 2000000
namespace Ip
open PySem L2 PySem.Spec PyProof.Rows
open PySem.W
open PySem.W (AllAlike Sortable dataLe EachIs KeyedOut KeepsBut)
/-! ## sorted by a key of one's own: each call of the key may change all that a call may change -/
section
variable {X : Cx} {pins : List (Addr × Obj)} {σ : L2.St}
theorem fp_new {H H2 : Hp} {b : Addr} (f : FpOk X pins H b) (e : H2 b = none) : FpOk X pins H2 b := ⟨e, f.2⟩
/-- what a call leaves of an object of ours -/
theorem own_kept {H1 H2 : Hp} {s1 : Shared} {h2 : Heap} {b : Addr} {o : Obj} (I : Inv X pins σ H1 s1) (f : FpOk X pins H1 b) (u : Un (frs X.stack) [] H1 H2 s1.heap h2) (e : s1.heap.get? b = some o) : h2.get? b = some o ∧ FpOk X pins H2 b := by
  obtain ⟨n, hl, hf, _⟩ := id f
  refine ⟨u.keep b o e n (fun z => (List.mem_cons.mp (I.stkSub b z)).elim hl hf) (by simp), fp_new f (u.free b o e n (by simp))⟩
/-- what calls leave: all that is not hidden is kept, the hidden is untouched -/
structure Lat (M : List Addr) (H H' : Hp) : Prop where
  le : HLe (mask H M) (mask H' M)
  fx : ∀ a ∈ M, H' a = H a
  gro : ∀ a, H a ≠ none → H' a ≠ none
theorem Lat.refl (M : List Addr) (H : Hp) : Lat M H H := ⟨.refl _, fun _ _ => rfl, fun _ z => z⟩
theorem Lat.trans {M : List Addr} {A B D : Hp} (x : Lat M A B) (y : Lat M B D) : Lat M A D := ⟨x.le.trans y.le, fun a h => (y.fx a h).trans (x.fx a h), fun a h => y.gro a (x.gro a h)⟩
/-- what the call of the key gives: the key, by value -/
def KeyGot (X : Cx) (g : Gx) (M : List Addr) (H1 : Hp) (s1 : Shared) (k : D) (u : Value) (s2 : Shared) : Prop :=
  ∃ x H2, s2.os = s1.os ∧ AllBare s2.gens ∧ Un (frs X.stack) [] H1 H2 s1.heap s2.heap ∧ HOk X.prog X.w H2 s2.heap ∧ RelV x u ∧ RV g (mask H2 M) k x ∧ Lat M H1 H2
def Turns (X : Cx) (pins : List (Addr × Obj)) (σ : L2.St) (g : Gx) (M : List Addr) (A : Around) (f : Value) (H : Hp) (vs : List Value) (kd : List D) : Prop :=
  ∀ (i : Nat) (v : Value) (k : D), vs[i]? = some v → kd[i]? = some k → ∀ (s1 : Shared) (H1 : Hp), Inv X pins σ H1 s1 → Lat M H H1 → wpAny (model X.prog X.w) A (call f [v]) (KeyGot X g M H1 s1 k) (fun _ _ => False) s1
mutual
theorem dp_up {H H' : Hp} (k : HLe H H') : ∀ (d : PyData) (x : V), Dp X.K H x d → Dp X.K H' x d
  | .none, _, h => by cases h; exact .non
  | .bool b, _, h => by cases h; exact .bl b
  | .int i, _, h => by cases h; exact .int i
  | .str s, _, h => by cases h; exact .str s
  | .list ds, _, h => by cases h with | lst hs ha => exact .lst (k.sqL hs) (dps_up k ds _ ha)
  | .tuple ds, _, h => by cases h with | tup hs ha => exact .tup (k.sqT hs) (dps_up k ds _ ha)
  | .dict _, _, h => by cases h
theorem dps_up {H H' : Hp} (k : HLe H H') : ∀ (ds : List PyData) (xs : List V), DpAll X.K H xs ds → DpAll X.K H' xs ds
  | [], _, h => by cases h; exact .nil
  | d :: ds, _, h => by cases h with | cons h1 h2 => exact .cons (dp_up k d _ h1) (dps_up k ds _ h2)
end
theorem dps_len {H : Hp} : ∀ (xs : List V) (ds : List PyData), DpAll X.K H xs ds → xs.length = ds.length
  | [], _, h => by cases h; rfl
  | x :: xs, _, h => by cases h with | cons _ h2 => rw [List.length_cons, List.length_cons, dps_len xs _ h2]
theorem reads_each {h : Heap} : ∀ (us : List Value) (ds : List PyData) (as : List Addr), ReadsAll h us ds as → EachIs (fun v k => ∃ as, Reads h v k as) us ds
  | [], _, _, q => by cases q; exact .nil
  | u :: us, _, _, q => by cases q with | cons q1 q2 => exact .cons ⟨_, q1⟩ (reads_each us _ _ q2)
theorem keyG_rest {s : Shared} {H : Hp} {A : Around} {E : Value → Shared → Prop} {a kS : Addr} {f : Value} {b : Bool} {vs : List Value} {e1 : Nat} {g : Gx} {M : List Addr} {kd : List D} {kz : List PyData} {P : PySem.Fin → Shared → Prop} (hK : g.K = X.K) (hkz : toPys kd = some kz) (I : Inv X pins σ H s) (fa : FpOk X pins H a) (fk : FpOk X pins H kS) (hka : kS ≠ a)
    (nk : s.heap.get? kS = some (seqObj "list" #[] 0)) (na : s.heap.get? a = some (seqObj "list" #[] e1)) (hlen : kz.length = vs.length) (hZ : vs.length ≤ sizeLine) (hal : AllAlike kz) (hsk : Sortable kz) (hu : ∀ d ∈ kz, A.units + d.depth < cLine) (turn : Turns X pins σ g M A f H vs kd)
    (h : ∀ (s' : Shared) (H' : Hp) (out : List Value) (c : Nat), Inv X pins σ H' s' → Lat M H H' → s'.heap.get? a = some (seqObj "list" (List.toArray out) c) → FpOk X pins H' a → KeyedOut b kz vs out → P (.done (.ret .none)) s') :
    wpAny (model X.prog X.w) A (ksk_rest a f b vs.toArray e1 (.ref kS)) P E s := by
  unfold ksk_rest
  refine wpAny_bind (wpAny_rule ?_)
  first
    | rw [List.forIn_toArray]
    | (rw [← Array.forIn_toList]; simp only [List.toList_toArray])
    | rw [← Array.forIn_toList]
  refine wpAny_bind (ksk_fold (fun i s' => ∃ (H' : Hp) (xs : List V) (kA : Array Value) (e : Nat), Inv X pins σ H' s' ∧ Lat M H H' ∧ FpOk X pins H' kS ∧ FpOk X pins H' a ∧ s'.heap.get? kS = some (seqObj "list" kA e) ∧ s'.heap.get? a = some (seqObj "list" #[] e1) ∧ Vals xs kA.toList ∧ RVs g (mask H' M) (kd.take i) xs) vs 0 s
    ⟨H, [], #[], 0, I, .refl _ _, fk, fa, nk, na, .nil, by rw [List.take_zero]; exact .nil⟩ ?step ?done)
  case step =>
    rintro j x s' hx ⟨H', xs, kA, e, I', sm, fk', fa', nk', na', rv, dp⟩
    simp only [Nat.zero_add] at dp ⊢
    have hj : j < vs.length := (List.getElem?_eq_some_iff.mp hx).1
    have hkl := toPys_len hkz
    obtain ⟨k, hkj⟩ : ∃ k, kd[j]? = some k := ⟨_, List.getElem?_eq_getElem (by omega)⟩
    have hz : kA.size ≤ vs.length := by
      have h1 := dp.length
      have h2 := rv.length
      rw [List.length_take] at h1
      have h3 : kA.toList.length = kA.size := Array.length_toList
      omega
    refine wpAny_bind (wpAny_attempt (wpAny_mono (turn j x k hx hkj s' H' I' sm) (fun v s'' got => ?_) fun _ _ hF => hF.elim))
    obtain ⟨y, H2, os, bare, un, hok, ry, dy, sm2⟩ := got
    have I2 : Inv X pins σ H2 s'' := I'.call' os un hok bare (fun b z => absurd z (by simp))
    obtain ⟨nk2, fk2⟩ := own_kept I' fk' un nk'
    obtain ⟨na2, fa2⟩ := own_kept I' fa' un na'
    try dsimp only
    have s1 := Heap.SameBut.update s''.heap kS (Obj.mapSeq (·.push v))
    obtain ⟨c2, hc2⟩ : ∃ c2, (s''.heap.update kS (Obj.mapSeq (·.push v))).get? kS = some (seqObj "list" (kA.push v) c2) := ⟨_, get?_update_seq nk2 (·.push v)⟩
    refine wpAny_bind (listUpdate_at nk2 rfl ?_ (Nat.le_trans hz hZ) (Nat.le_trans (Nat.le_of_eq (Array.size_push ..)) (Nat.succ_le_succ (Nat.le_trans hz hZ))))
    have I3 : Inv X pins σ H2 { s'' with heap := s''.heap.update kS (Obj.mapSeq (·.push v)) } := I2.turnedL (t' := s''.toks) (ch := [kS]) (fun b o hb e => (s1.2 b (fun z => hb (by rw [z]; exact List.mem_cons_self))).trans e) fun b hb => by
      rw [List.mem_singleton.mp hb]; exact fk2
    refine wpAny_pure ⟨rfl, H2, xs ++ [y], kA.push v, c2, I3, sm.trans sm2, fk2, fa2, hc2, (s1.2 a hka.symm).trans na2, ?_, ?_⟩
    · rw [show (kA.push v).toList = kA.toList ++ [v] by simp]
      exact rv.append (.cons ry .nil)
    · rw [show kd.take (j + 1) = kd.take j ++ [k] by rw [List.take_add_one, hkj]; simp]
      exact (dp.mono sm2.le).app (.cons dy .nil)
  case done =>
    rintro s' ⟨H', xs, kA, e, I', sm, fk', fa', nk', na', rv, dp⟩
    have hkl := toPys_len hkz
    rw [show kd.take (0 + vs.length) = kd from List.take_of_length_le (by omega)] at dp
    have dp := RVs.dp kd xs kz dp.out hkz
    rw [hK] at dp
    have hk' : EachIs (fun v k => ∃ as, Reads s'.heap v k as) kA.toList kz := by
      obtain ⟨as, q⟩ := Dp.readsAll I' kz xs kA.toList dp rv
      exact reads_each _ _ _ q
    have hsz : kA.size = vs.length := by
      have h1 := hk'.length
      rw [Array.length_toList] at h1
      omega
    refine wpAny_bind (listItems_at nk' rfl ?_)
    refine PySem.W.keyH_end (κ := PySem.W.dataKind s'.heap kz) (h₁ := PySem.W.hideAll s'.heap [kS]) (fun b o _ q => PySem.W.of_hideAll _ q) (PySem.W.hideAll_none _ List.mem_cons_self) nk' na' hka (PySem.W.SortsAt.data (s := s') hk' hal hsk hu) hsz hZ fun h3 tk3 c k3 n3 => ?_
    have I3 : Inv X pins σ H' { s' with heap := h3, toks := tk3 } := I'.turnedL (t' := tk3) (ch := [kS, a]) (fun b o hb e => k3 b o (fun z => hb (by rw [z]; simp)) (PySem.W.hideAll_get _ e fun z => hb (by rw [List.mem_singleton.mp z]; simp))) fun b hb => by
      rcases List.mem_cons.mp hb with rfl | hb
      · exact fk'
      · rw [List.mem_singleton.mp hb]; exact fa'
    exact h _ H' _ c I3 sm n3 fa' ⟨s'.heap, kA.toList, hal, rfl, hk'⟩
end
end Ip
set_option maxHeartbeats 2000000
namespace Ip
open PySem L2 PySem.Spec PyProof.Rows
open PySem.W
section
variable {X : Cx} {pins : List (Addr × Obj)} {σ : L2.St}
theorem keyG_tree {s : Shared} {H : Hp} {A : Around} {E : Value → Shared → Prop} {a n : Nat} {f : Value} {b : Bool} {vs : List Value} {g : Gx} {M : List Addr} {kd : List D} {kz : List PyData} {P : PySem.Fin → Shared → Prop} (hK : g.K = X.K) (hkz : toPys kd = some kz) (I : Inv X pins σ H s) (fa : FpOk X pins H a)
    (ho : s.heap.get? a = some (seqObj "list" vs.toArray n)) (hlen : kz.length = vs.length) (hZ : vs.length ≤ sizeLine) (hal : AllAlike kz) (hsk : Sortable kz) (hu : ∀ d ∈ kz, A.units + d.depth < cLine) (turn : Turns X pins σ g M A f H vs kd)
    (h : ∀ (s' : Shared) (H' : Hp) (out : List Value) (c : Nat), Inv X pins σ H' s' → Lat M H H' → s'.heap.get? a = some (seqObj "list" (List.toArray out) c) → FpOk X pins H' a → KeyedOut b kz vs out → P (.done (.ret .none)) s') :
    wpAny (model X.prog X.w) A (ksk_tree a f b) P E s := by
  have ha : a < s.heap.objs.size := Heap.lt_size ho
  obtain ⟨e1, ho1⟩ : ∃ e1, (s.heap.update a (Obj.mapSeq fun _ => (#[] : Array Value))).get? a = some (seqObj "list" #[] e1) := ⟨_, get?_update_seq ho fun _ => #[]⟩
  have hkS : ((s.heap.update a (Obj.mapSeq fun _ => (#[] : Array Value))).push (seqObj "tuple" vs.toArray 0)).objs.size = s.heap.objs.size + 1 := by rw [size_push', Heap.size_update]
  unfold ksk_tree
  refine wpAny_bind (listItems_at ho rfl ?_)
  refine wpAny_bind (listUpdate_at ho rfl ?_ (by rw [List.size_toArray]; exact hZ) (Nat.zero_le _))
  refine wpAny_bind (seqEpoch_at ho1 rfl ?_)
  refine wpAny_bind (wpAny_newTuple ?_ (by show vs.length ≤ _; exact hZ))
  refine wpAny_bind (wpAny_newList ?_ (Nat.zero_le _))
  refine wpAny_holding ?_
  have hle : s.heap.objs.size ≤ ((s.heap.update a (Obj.mapSeq fun _ => (#[] : Array Value))).push (seqObj "tuple" vs.toArray 0)).objs.size := by rw [hkS]; exact Nat.le_succ _
  have I2 : Inv X pins σ H { s with heap := ((s.heap.update a (Obj.mapSeq fun _ => (#[] : Array Value))).push (seqObj "tuple" vs.toArray 0)).push (seqObj "list" #[] 0) } :=
    I.turnedL (t' := s.toks) (ch := [a]) (fun b o hb q => sortingHeap_old (vs := vs) (fun z => hb (by rw [z]; exact List.mem_cons_self)) q) fun b hb => by
      rw [List.mem_singleton.mp hb]; exact fa
  exact keyG_rest (kS := ((s.heap.update a (Obj.mapSeq fun _ => (#[] : Array Value))).push (seqObj "tuple" vs.toArray 0)).objs.size) hK hkz I2 fa (I.fpOk hle (I.hok.fresh hle)) (by rw [hkS]; exact Nat.ne_of_gt (Nat.lt_succ_of_lt ha)) (Heap.get?_push_size _ rfl)
    (Heap.get?_push_of_some _ (Heap.get?_push_of_some _ ho1)) hlen hZ hal hsk hu turn h
/-- the keys by the semantics of the key's def -/
def keysOf (F : FSem) : List D → Option (List D)
  | [] => some []
  | d :: ds => match F [d], keysOf F ds with
    | .ok k _, some ks => some (k :: ks)
    | _, _ => none
theorem keysOf_get {F : FSem} : ∀ {ds ks : List D}, keysOf F ds = some ks → ks.length = ds.length ∧ ∀ (i : Nat) (k : D), ks[i]? = some k → ∃ d outs, ds[i]? = some d ∧ F [d] = .ok k outs
  | [], _, h => by cases h; exact ⟨rfl, fun i k e => by simp at e⟩
  | d :: ds, _, h => by
    unfold keysOf at h
    cases q1 : F [d] with
    | bad => rw [q1] at h; cases h
    | exn e o => rw [q1] at h; cases h
    | ok k o =>
      cases q2 : keysOf F ds with
      | none => rw [q1, q2] at h; cases h
      | some ks =>
        rw [q1, q2] at h; cases h
        obtain ⟨h1, h2⟩ := keysOf_get q2
        refine ⟨by rw [List.length_cons, List.length_cons, h1], fun i k' e => ?_⟩
        cases i with
        | zero => cases (show k = k' by simpa using e); exact ⟨d, o, rfl, q1⟩
        | succ i => exact h2 i k' (by simpa using e)
theorem Hd.lat {M : List Addr} {H H' : Hp} (l : Lat M H H') (h : ∀ a ∈ M, Hd H a) : ∀ a ∈ M, Hd H' a := fun a ha => (h a ha).of (l.fx a ha)
theorem key_turns {k : Nat} {ct : Str → Option Addr} {f : Addr} {fd : FuncData} {ps : List Str} {F : FSem} {M : List Addr} {H : Hp} {ds kd : List D} {xs : List V} {vs : List Value}
    (G : FnOk X.prog X.w X.K X.mg X.base (L2.CX X.prog X.w) k f fd ps (spF X.K ct 1 [] false F)) (hb : Binds X.K fd ps []) (hr : Room (k + 2) X.A) (hd : ∀ a ∈ M, Hd H a) (r : RVs ⟨X.K, ct⟩ (mask H M) ds xs) (rv : Vals xs vs) (hk : keysOf F ds = some kd) : Turns X pins σ ⟨X.K, ct⟩ M X.A.in1.in1 (.ref f) H vs kd := by
  intro i v kk hv hkk s1 H1 I1 lat
  obtain ⟨_, hg⟩ := keysOf_get hk
  obtain ⟨d, outs, hd1, hF⟩ := hg i kk hkk
  obtain ⟨x, hx, rx⟩ := r.get hd1
  have rxv : RelV x v := by
    have go : ∀ {xs : List V} {vs : List Value} (i : Nat), Vals xs vs → xs[i]? = some x → vs[i]? = some v → RelV x v := by
      intro xs vs i rv
      induction rv generalizing i with
      | nil => intro h; simp at h
      | cons a t ih =>
        intro h1 h2
        cases i with
        | zero => cases (Option.some.inj h1); cases (Option.some.inj h2); exact a
        | succ i => exact ih i (by simpa using h1) (by simpa using h2)
    exact go i rv hx hv
  have sp : spF X.K ct 1 [] false F [x] H1 (fun y H2 => RV ⟨X.K, ct⟩ (mask H2 M) kk y ∧ Lat M H1 H2) fun _ _ _ => False := by
    refine ⟨[d], M, [], rfl, ⟨rfl, rfl, List.nodup_nil, (fun _ z => nomatch z), Hd.lat lat hd, fun i d' _ hi => ?_, (fun _ z => nomatch z)⟩, ?_⟩
    · cases i with
      | zero =>
        cases (show d = d' from Option.some.inj hi)
        exact ⟨x, rfl, by rw [List.append_nil]; exact rx.mono lat.le⟩
      | succ i => simp at hi
    · rw [hF]
      intro y H2 tm c va
      have h1 := c.le
      have h2 := c.fx
      cases va with
      | fz ry _ =>
        rw [List.append_nil] at h1 ry
        exact ⟨ry, h1, h2, c.gro⟩
  have hl : ([v] ++ ([] : List Value)).length = ps.length := by rw [show ([v] ++ ([] : List Value)).length = [x].length from rfl]; exact G.len _ _ _ _ sp
  refine wpAny_call (codeAny_mono (G.run X.A.in1.in1 X.stack s1 H1 ⟨[v], []⟩ ([v] ++ []) [x] _ _ hr.in1.in1 I1.env0.in1.in1 (hb s1 [v] I1.kIn hl) (.cons rxv .nil) sp) fun rr s' hq => ?_)
  cases rr with
  | error e =>
    obtain ⟨_, _, _, _, _, _, _, _, _, _, _, _, z⟩ := hq
    exact z
  | ok fl =>
    cases fl with
    | ret u =>
      obtain ⟨y, H2, os, bare, un, hok, ry, q1, q2⟩ := hq
      exact ⟨y, H2, os, bare, un, hok, ry, q1, q2⟩
    | next => exact False.elim hq
    | brk => exact False.elim hq
    | cont => exact False.elim hq
end
end Ip
set_option maxHeartbeats 2000000
namespace Ip
open PySem L2 PySem.Spec PyProof.Rows
open PySem.W
/-- an object of ours that stands already is told of from now on -/
theorem Inv.tell {X : Cx} {pins : List (Addr × Obj)} {σ : L2.St} {H : Hp} {s : Shared} {a : Addr} {o : HO} (I : Inv X pins σ H s) (fa : FpOk X pins H a) (new : ObjOk X.prog X.w (upd H a o) s.heap a o) : Inv X pins σ (upd H a o) s := by
  have hn := fa.1
  refine I.call' (ch := [a]) rfl ⟨fun b o e _ _ _ => e, fun b o e _ _ _ => ⟨o.slots, e⟩, fun b o _ n hc => ?_, fun b o e _ => ⟨o, e⟩, fun b xs e => ?_, fun b o u e => ?_, fun b ps e => ⟨#[], ?_⟩⟩ (fun b u e => ?_) I.bare fun b hb => ?_
  · rw [upd_ne (fun z => hc (by rw [z]; exact List.mem_cons_self))]; exact n
  · rw [upd_ne (ne_of_none e hn)]; exact e
  · rw [upd_ne (ne_of_none e hn)]; exact e
  · rw [upd_ne (ne_of_none e hn), e]; simp
  · by_cases hb : b = a
    · subst hb; rw [upd_same] at e; cases e; exact new
    · rw [upd_ne hb] at e
      exact (I.hok b u e).stay (fun c v _ q => q) (fun c q => by rw [upd_ne (ne_of_none q hn)]; exact q) fun c xs q => by rw [upd_ne (ne_of_none q hn)]; exact q
  · rw [List.mem_singleton.mp hb]
    exact ⟨fa.2.2.2.1, fa.2.1, fa.2.2.2.2.1, fa.2.2.2.2.2⟩
def sortV (b : Bool) (xs : List V) (kz : List PyData) : List V := ((xs.zip kz).mergeSort (dataLe b (·.2))).map (·.1)
def rSortK (K : Frag) (ct : Str → Option Addr) (f : Addr) (F : FSem) (b : Bool) : List V → List V → Hp → VK → Prop := fun vs zs H Q => ∃ (a : Addr) (M : List Addr) (ds kd : List D) (kz : List PyData) (xs : List V), vs = [V.ref a] ∧ zs = [.ref f, .bl b] ∧ SqL K H a xs ∧
  (∀ a ∈ M, Hd H a) ∧ RVs ⟨K, ct⟩ (mask H M) ds xs ∧ keysOf F ds = some kd ∧ toPys kd = some kz ∧ SortC kz ∧ ∀ H' p, Lat M H H' → H' p = none → Q (.ref p) (upd H' p (.lst (sortV b xs kz)))
theorem cr_sortedK {X : Cx} {k : Nat} {ct : Str → Option Addr} {f : Addr} {fd : FuncData} {ps : List Str} {F : FSem} {b : Bool} (G : FnOk X.prog X.w X.K X.mg X.base (L2.CX X.prog X.w) k f fd ps (spF X.K ct 1 [] false F)) (hb : Binds X.K fd ps []) (hr : Room (k + 2) X.A) :
    CallRK X (.builtin "sorted") [Str.ofString "key", Str.ofString "reverse"] (rSortK X.K ct f F b) := by
  intro pins s σ H vs zs us ws Q I r rz h
  obtain ⟨a, M, ds, kd, kz, xs, rfl, rfl, hs, hd, rx, hk, hkz, ⟨c1, c2, c3⟩, q⟩ := h
  obtain ⟨u1, rfl, e0⟩ := vals1 r
  obtain rfl : u1 = Value.ref a := e0
  obtain ⟨w1, w2, rfl, e1, e2⟩ := vals2 rz
  obtain rfl : w1 = Value.ref f := e1
  obtain rfl : w2 = Value.bool b := e2
  obtain ⟨its, rv, hl, hz⟩ := I.list hs
  have l1 := rx.length
  have l2 := (keysOf_get hk).1
  have l3 := toPys_len hkz
  have l4 := rv.length
  have hle : s.heap.objs.size ≤ s.heap.objs.size + 1 := Nat.le_succ _
  refine sorted_of_sort hl.isList (by rw [← l4]; exact hz) (ksk_s2 _ _ _) (fun x => ksk_l2 _ _ _) fun E' => ?_
  show wpAny _ _ (ksk_tree (s.heap.objs.size + 1) (.ref f) b) _ _ _
  refine keyG_tree (g := ⟨X.K, ct⟩) (M := M) rfl hkz (I.kept (t' := s.toks) (h' := copyHeap s.heap its) fun b o e => copyHeap_old e) (I.fpOk hle (I.hok.fresh hle)) (copyHeap_at s.heap its) (by omega) (by rw [← l4]; exact hz) c1 c2 (fun d hdk => ?_) (key_turns G hb hr hd rx rv hk) fun s' H' out c I' lat hD fa ko => ⟨rfl, ?_⟩
  · have := c3 d hdk
    have := hr.un
    show X.A.units + 1 + 1 + _ < _
    omega
  · have z1 : (xs.zip kz).map (·.1) = xs := by rw [List.map_fst_zip (by omega)]
    have z2 : (xs.zip kz).map (·.2) = kz := by rw [List.map_snd_zip (by omega)]
    have ev := keyedOut_each (R := fun v (p : V × PyData) => RelV p.1 v) (bs := xs.zip kz) (fun p : V × PyData => p.2) (by rw [z2]; exact ko) (each_vals (by rw [z1]; exact rv))
    have vo := vals_each ev
    have hlen : (sortV b xs kz).length ≤ sizeLine := by
      unfold sortV
      rw [List.length_map, List.length_mergeSort, List.length_zip]
      have : xs.length ≤ sizeLine := hz
      omega
    exact ⟨.ref _, upd H' (s.heap.objs.size + 1) (.lst (sortV b xs kz)), Inv.tell I' fa ⟨hlen, out, c, vo, hD⟩, rfl, q H' _ lat fa.1⟩
/-- on data by value -/
def oSortK (F : FSem) (b : Bool) : List D → Option D
  | [.lst ds] => match keysOf F ds with
    | some kd => match toPys kd with
      | some kz => if okSort kz = true then some (.lst (sortL b (ds.zip kz))) else none
      | none => none
    | none => none
  | _ => none
section
variable {X : Cx} {C : Ac} {W : WX} {Γ Γ0 Γ1 Γ2 Γ3 Γ' Γb : List Nat} {fr fr1 fr2 fr3 : Bool} {e a b c tg : Expr} {es elts : List Expr} {g : Env → R (List D)} {f h k : Env → R D} {p pos pos' apos cpos p2 p3 p4 kp kp2 np tpos : Pos} {f2 : Env → R (D × D)} {T : String} {x y : Str} {o : List D → Option D}
theorem arg_tKey {fa : Addr} {F : FSem} {kb : Bool} {σ : L2.St} {H : Hp} {Q : VK} (p : tE X.K C W Γ Γ' true (mArg (oSortK F kb) g) σ H Q) : tVs X.K C W Γ Γ' g σ H fun vs H1 => rSortK X.K C.ct fa F kb vs [.ref fa, .bl kb] H1 Q := by
  obtain ⟨hid, ρ, S, p⟩ := p
  refine ⟨hid, ρ, S, ?_⟩
  unfold mArg at p
  cases q : g ρ with
  | bad => rw [q] at p; exact p
  | exn e ρ' => rw [q] at p; exact p
  | ok dsA ρ2 =>
    rw [q] at p
    dsimp only [R.bind] at p
    intro vs H1 tm S1 k1 t1 ks
    cases q2 : oSortK F kb dsA with
    | none => rw [q2] at p; exact p.elim
    | some d =>
      rw [q2] at p
      unfold oSortK at q2
      split at q2
      · rename_i ds
        split at q2
        · rename_i kd hkd
          split at q2
          · rename_i kz hkz
            split at q2
            · rename_i hok
              cases q2
              obtain ⟨v, rfl, s⟩ := shals1 ks
              cases s with
              | @lst a us ds h r =>
                have l2 := (keysOf_get hkd).1
                have l3 := toPys_len hkz
                refine ⟨a, Ms σ (tm ++ hid) Γ', ds, kd, kz, us, rfl, rfl, h, S1.hdM, r, hkd, hkz, sortC_of hok, fun H2 l lat hn => ?_⟩
                have S2 := S1.step lat.le (fun b hb => lat.fx b hb) lat.gro
                have k2 : Stp (Ms σ hid Γ) (Ms σ (tm ++ hid) Γ') hid H H2 := ⟨k1.le.trans lat.le, fun b hb => (lat.fx b (mem_Ms.mpr (.inl (List.mem_append_right _ hb)))).trans (k1.fx b hb)⟩
                exact fin_fr p S.sub S2 k2 l _ hn (.lst upd_same (rvs_sorted kb (r.mono lat.le) (by omega)))
            · cases q2
          · cases q2
        · cases q2
      · cases q2
/-- sorted(e, key=f, reverse=k) of a def f -/
theorem se_sortedK {kb : Bool} {j n : Nat} {F : FSem} (G : Fn X.prog X.w X.K X.mg X.base C.ct y n 1 [] false F) (hr : Room (n + 2) X.A) (hm : X.mg "sorted" = none) (ha : SV X C W Γ [e] Γ' g) (hg : Gl X "sorted" := by rfl) (hgy : Gl X y := by rfl) (hdb : (y == ("__debug__" : Str)) = false := by decide)
    (he : backTo pos (starEach [e] X.env) = (false, eval e X.env) :: backTo pos (starEach [] X.env) := by rfl) (hpl : (backTo pos (starEach [e] X.env)).any (·.1) = false := by rfl)
    (hall : (backToKw pos (keywordEach [⟨some "key", .Name y p4, kp2⟩, ⟨some "reverse", .Constant (.bool kb) j p3, kp⟩] X.env)).all (·.1.isSome) = true := by rfl) (hnone : (backToKw pos (keywordEach [⟨some "key", .Name y p4, kp2⟩, ⟨some "reverse", .Constant (.bool kb) j p3, kp⟩] X.env)).any (·.1.isNone) = false := by rfl)
    (hks : (backToKw pos (keywordEach [⟨some "key", .Name y p4, kp2⟩, ⟨some "reverse", .Constant (.bool kb) j p3, kp⟩] X.env)).filterMap (·.1) = [Str.ofString "key", Str.ofString "reverse"] := by rfl) :
    SE X C W Γ (.Call (.Name "sorted" p) [e] [⟨some "key", .Name y p4, kp2⟩, ⟨some "reverse", .Constant (.bool kb) j p3, kp⟩] pos) Γ' true (mArg (oSortK F kb) g) := by
  obtain ⟨fa, fd, ps, G1, hmy, hk, hb⟩ := G.ex
  exact ⟨peImp (pe_callBK (cr_sortedK (b := kb) G1 hb hr) hg hm (by decide +kernel) ha.pa (pk_cons (pe_glob (v := .ref fa) hgy hmy rfl hdb) (pk_cons pe_bl pk_nil)) (by decide) (by decide) he hpl hall hnone hks) fun σ H Q p => arg_tKey (fa := fa) p⟩
end
end Ip
set_option maxHeartbeats 2000000
namespace Ip
open PySem L2 PySem.Spec PyProof.Rows
/-! ## locks: a dict that is walked stands locked -/
def NotF : HO → Prop
  | .dK _ => False
  | .dT _ => False
  | .frz _ (.dK _) => False
  | .frz _ (.dT _) => False
  | _ => True
/-- kept, up to locks -/
structure HLw (A B : Hp) : Prop where
  o : ∀ b o, A b = some o → NotF o → B b = some o
  k : ∀ b kvs, Rd A b (.dK kvs) → Rd B b (.dK kvs)
  t : ∀ b kvs, Rd A b (.dT kvs) → Rd B b (.dT kvs)
theorem HLw.rd {A B : Hp} (s : HLw A B) {a : Addr} {u : HO} (hn : NotF u) (hf : ∀ o, NotF (.frz o u)) (h : Rd A a u) : Rd B a u :=
  h.elim (fun e => .inl (s.o _ _ e hn)) fun ⟨o, e⟩ => .inr ⟨o, s.o _ _ e (hf o)⟩
theorem HLw.sqL {A B : Hp} (s : HLw A B) {K : PySem.W.Frag} {a : Addr} {vs : List V} (h : SqL K A a vs) : SqL K B a vs :=
  h.elim (fun e => .inl (s.rd trivial (fun _ => trivial) e)) .inr
mutual
theorem RV.monoW {g : Gx} {A B : Hp} (s : HLw A B) : ∀ {d : D} {v : V}, RV g A d v → RV g B d v
  | _, _, .non => .non
  | _, _, .bl b => .bl b
  | _, _, .int i => .int i
  | _, _, .str x => .str x
  | _, _, .tup h r => .tup (s.o _ _ h trivial) (RVs.monoW s r)
  | _, _, .lst h r => .lst (s.sqL h) (RVs.monoW s r)
  | _, _, .dK h l r => .dK (s.k _ _ h) l (RVs.monoW s r)
  | _, _, .dT h l r => .dT (s.t _ _ h) l (RVs.monoW s r)
  | _, _, .obj h c l r => .obj (s.o _ _ h trivial) c l (RVs.monoW s r)
theorem RVs.monoW {g : Gx} {A B : Hp} (s : HLw A B) : ∀ {ds : List D} {vs : List V}, RVs g A ds vs → RVs g B ds vs
  | _, _, .nil => .nil
  | _, _, .cons h r => .cons (RV.monoW s h) (RVs.monoW s r)
end
theorem Cont.monoW {g : Gx} {H H' A B : Hp} {a : Addr} {d : D} (e : ∀ o, H a = some o → H' a = some o) (s : HLw A B) (h : Cont g H A a d) : Cont g H' B a d := by
  cases h with
  | lst h r => exact .lst (e _ h) (r.monoW s)
  | dK h l r => exact .dK (e _ h) l (r.monoW s)
  | dT h l r => exact .dT (e _ h) l (r.monoW s)
  | obj h c l r => exact .obj (e _ h) c l (r.monoW s)
theorem mask_upd_out {H : Hp} {M : List Addr} {a b : Addr} {o : HO} (n : b ≠ a) : mask (upd H a o) M b = mask H M b := by
  unfold mask
  split
  · rfl
  · rw [upd_ne n]
theorem mask_upd_at {H : Hp} {M : List Addr} {a : Addr} {o : HO} (n : a ∉ M) : mask (upd H a o) M a = some o := by rw [mask_out n, upd_same]
/-- a lock is laid -/
theorem lock_le {H : Hp} {M : List Addr} {a : Addr} {od : Obj} {kvs : List (List Key × V)} (n : a ∉ M) (h : H a = some (.dT kvs)) : HLe (mask H M) (mask (upd H a (.frz od (.dT kvs))) M) := by
  refine ⟨fun b o e no => ?_, fun b ks e => ?_, fun b ks e => ?_⟩
  · have hb : b ≠ a := fun z => by rw [z, mask_out n, h] at e; cases e; exact no
    rw [mask_upd_out hb]; exact e
  · have hb : b ≠ a := fun z => by
      rw [z] at e
      rcases e with e | ⟨_, e⟩ <;> (rw [mask_out n, h] at e; cases e)
    unfold Rd
    rw [mask_upd_out hb]; exact e
  · by_cases hb : b = a
    · subst hb
      rcases e with e | ⟨_, e⟩ <;> (rw [mask_out n, h] at e; cases e)
      exact .inr ⟨od, mask_upd_at n⟩
    · unfold Rd
      rw [mask_upd_out hb]; exact e
/-- a lock is taken off -/
theorem unlock_le {H : Hp} {M : List Addr} {a : Addr} {od : Obj} {kvs : List (List Key × V)} (n : a ∉ M) (h : H a = some (.frz od (.dT kvs))) : HLw (mask H M) (mask (upd H a (.dT kvs)) M) := by
  refine ⟨fun b o e no => ?_, fun b ks e => ?_, fun b ks e => ?_⟩
  · have hb : b ≠ a := fun z => by rw [z, mask_out n, h] at e; cases e; exact no
    rw [mask_upd_out hb]; exact e
  · have hb : b ≠ a := fun z => by
      rw [z] at e
      rcases e with e | ⟨_, e⟩ <;> (rw [mask_out n, h] at e; cases e)
    unfold Rd
    rw [mask_upd_out hb]; exact e
  · by_cases hb : b = a
    · subst hb
      rcases e with e | ⟨_, e⟩ <;> (rw [mask_out n, h] at e; cases e)
      exact .inl (mask_upd_at n)
    · unfold Rd
      rw [mask_upd_out hb]; exact e
/-- behind a lock and its end: from the heap before -/
theorem locked_le {H H' : Hp} {M M' : List Addr} {a : Addr} {od : Obj} {kvs : List (List Key × V)} (n : a ∉ M) (h : H a = some (.dT kvs)) (le : HLe (mask (upd H a (.frz od (.dT kvs))) M) (mask H' M')) : H' a = some (.frz od (.dT kvs)) ∧ a ∉ M' ∧ HLe (mask H M) (mask (upd H' a (.dT kvs)) M') := by
  obtain ⟨n', e'⟩ := mask_some (le.o a _ (mask_upd_at n) trivial)
  refine ⟨e', n', fun b o e no => ?_, fun b ks e => ?_, fun b ks e => ?_⟩
  · have hb : b ≠ a := fun z => by rw [z, mask_out n, h] at e; cases e; exact no
    rw [mask_upd_out hb]
    exact le.o b o (by rw [mask_upd_out hb]; exact e) no
  · have hb : b ≠ a := fun z => by
      rw [z] at e
      rcases e with e | ⟨_, e⟩ <;> (rw [mask_out n, h] at e; cases e)
    unfold Rd
    rw [mask_upd_out hb]
    exact le.k b ks (by unfold Rd; rw [mask_upd_out hb]; exact e)
  · by_cases hb : b = a
    · subst hb
      rcases e with e | ⟨_, e⟩ <;> (rw [mask_out n, h] at e; cases e)
      exact .inl (mask_upd_at n')
    · unfold Rd
      rw [mask_upd_out hb]
      exact le.t b ks (by unfold Rd; rw [mask_upd_out hb]; exact e)
section
variable {K : PySem.W.Frag} {C : Ac} {hid : List Addr} {Γ : List Nat} {ρ : Env} {σ : L2.St} {H : Hp}
theorem ST.lock (S : ST K C hid Γ ρ σ H) {a : Addr} {od : Obj} {kvs : List (List Key × V)} (n : a ∉ Ms σ hid Γ) (h : H a = some (.dT kvs)) : ST K C hid Γ ρ σ (upd H a (.frz od (.dT kvs))) :=
  S.step (lock_le n h) (fun b hb => upd_ne fun z => n (z ▸ hb)) fun b hb => by
    by_cases z : b = a
    · rw [z, upd_same]; simp
    · rw [upd_ne z]; exact hb
theorem ST.unlock (S : ST K C hid Γ ρ σ H) {a : Addr} {od : Obj} {kvs : List (List Key × V)} (n : a ∉ Ms σ hid Γ) (h : H a = some (.frz od (.dT kvs))) (h0 : C.H0 a ≠ some (.frz od (.dT kvs))) : ST K C hid Γ ρ σ (upd H a (.dT kvs)) := by
  have le := unlock_le n h
  have nh : a ∉ hid := fun z => n (mem_Ms.mpr (.inl z))
  have fx : ∀ b ∈ Ms σ hid Γ, upd H a (.dT kvs) b = H b := fun b hb => upd_ne fun z => n (z ▸ hb)
  have gro : ∀ b, H b ≠ none → upd H a (.dT kvs) b ≠ none := fun b hb => by
    by_cases z : b = a
    · rw [z, upd_same]; simp
    · rw [upd_ne z]; exact hb
  have na : a ∉ C.hid ++ C.ioA := fun z => by
    rcases List.mem_append.mp z with z | z
    · exact nh (S.sub a z)
    · rw [← S.pin] at z
      obtain ⟨i, hi, e⟩ := List.mem_map.mp z
      exact n (mem_Ms.mpr (.inr ⟨i, S.io i hi, e⟩))
  refine ⟨S.len, S.sub, fun b hb => (S.trk b hb).of (fx b (mem_Ms.mpr (.inl hb))), S.tmp, S.nd, S.dis, S.own, ⟨fun b o e no => ?_, fun b ks e => ?_, fun b ks e => ?_⟩, fun b hb => (fx b (mem_Ms.mpr (.inl (S.sub b hb)))).trans (S.frh b hb), fun b hb => gro b (S.gro b hb), S.io, S.pin, fun i d hi e => ?_, fun i hi => ?_⟩
  · have q := S.frm.o b o e no
    by_cases z : b = a
    · subst z
      have q2 := (mask_some q).2
      rw [h] at q2
      cases q2
      exact absurd (mask_some e).2 h0
    · rw [mask_upd_out z]; exact q
  · exact (unlock_le na h).k b ks (S.frm.k b ks e)
  · exact (unlock_le na h).t b ks (S.frm.t b ks e)
  · obtain ⟨v, e1, r⟩ := S.sl i d hi e
    exact ⟨v, e1, r.monoW le⟩
  · obtain ⟨d, e1, e2, c⟩ := S.ow i hi
    exact ⟨d, e1, e2, c.monoW (fun o z => (fx _ (mem_Ms.mpr (.inr ⟨i, hi, rfl⟩))).trans z) le⟩
end
theorem Val.unlock {g : Gx} {H : Hp} {M tm : List Addr} {b : Bool} {d : D} {v : V} {a : Addr} {od : Obj} {kvs : List (List Key × V)} (n : a ∉ M) (ht : a ∉ tm) (h : H a = some (.frz od (.dT kvs))) (va : Val g H M b d v tm) : Val g (upd H a (.dT kvs)) M b d v tm := by
  cases va with
  | fz r z => exact .fz (r.monoW (unlock_le n h)) z
  | fr c => exact .fr (c.monoW (fun o e => (upd_ne fun z => ht (by rw [← z]; simp)).trans e) (unlock_le n h))
/-- the dict in slot i stands locked -/
def Lk (i : Nat) (σ : L2.St) (H : Hp) : Prop := ∃ a od kvs, σ[i]? = some (some (.ref a)) ∧ H a = some (.frz od (.dT kvs))
section
variable {X : Cx} {C : Ac} {W : WX} {Γ Γ0 Γ' : List Nat} {fr : Bool} {e : Expr} {m : Env → R D}
/-- an expression that walks the dict in slot i -/
theorem se_locked {t : TE} (he : PE X e t) (i : Nat) (hi : i ∉ Γ) (ht : ∀ σ H Q, Lk i σ H → tE X.K C W Γ Γ' fr m σ H Q → t σ H Q) (hm : ∀ ρ, (∃ ks ds, ρ[i]? = some (some (.dit ks ds))) ∨ m ρ = .bad) (hx : ∀ ρ e ρ', m ρ ≠ .exn e ρ') : SE X C W Γ e Γ' fr m := by
  refine ⟨⟨fun pins s σ H Q I ⟨hid, ρ, S, p⟩ => ?_⟩⟩
  rcases hm ρ with ⟨ks, ds, er⟩ | hb
  · obtain ⟨v, ev, rv⟩ := S.sl i _ hi er
    cases rv with
    | @dT a ks vs ds h l r =>
      rcases h with h | ⟨od, h⟩
      · obtain ⟨n, h⟩ := mask_some h
        refine (pe_lock he).run pins s σ H Q I ⟨a, .dT (ks.zip vs), h, trivial, fun od => ht _ _ _ ⟨a, od, _, ev, upd_same⟩ ⟨hid, ρ, S.lock n h, ?_⟩⟩
        cases q : m ρ with
        | bad => rw [q] at p; exact p
        | exn e ρ' => exact absurd q (hx ρ e ρ')
        | ok d ρ' =>
          rw [q] at p
          intro v H' tm S' k' va t'
          obtain ⟨e1, n1, le1⟩ := locked_le n h k'.le
          have nt : a ∉ tm := fun z => n1 (mem_Ms.mpr (.inl (List.mem_append_left _ z)))
          have h0 : C.H0 a ≠ some (.frz od (.dT (ks.zip vs))) := fun z => by
            have na : a ∉ C.hid ++ C.ioA := fun y => by
              rcases List.mem_append.mp y with y | y
              · exact n (mem_Ms.mpr (.inl (S.sub a y)))
              · rw [← S.pin] at y
                obtain ⟨j, hj, ej⟩ := List.mem_map.mp y
                exact n (mem_Ms.mpr (.inr ⟨j, S.io j hj, ej⟩))
            have := (mask_some (S.frm.o a (.frz od (.dT (ks.zip vs))) (by rw [mask_out na]; exact z) trivial)).2
            rw [h] at this; cases this
          refine ⟨e1, p v _ tm (S'.unlock n1 e1 h0) ⟨le1, fun b hb => ?_⟩ (va.unlock n1 nt e1) t'⟩
          have hb' : b ≠ a := fun z => n (mem_Ms.mpr (.inl (z ▸ hb)))
          rw [upd_ne hb', k'.fx b hb, upd_ne hb']
      · exact he.run pins s σ H Q I (ht σ H Q ⟨a, od, _, ev, (mask_some h).2⟩ ⟨hid, ρ, S, p⟩)
  · rw [hb] at p; exact p.elim
end
end Ip
set_option maxHeartbeats 1000000
namespace Ip
open PySem L2 PySem.Spec PyProof.Rows
/-! ## sep.join(reversed(xs)) -/
section
variable {prog : Program} {w : World} {A : Around} {E : Value → Shared → Prop} {s : Shared}
open Builtin Builtin.Str in
theorem made_gives {x : Str} {l : List (Str × Tok)} (h : JoinOk x (l.map (·.1)) = true) : Gives (joinTail x (strValues l)) (joinMade x l) ∧ (Txt.join x (l.map (·.1))).length ≤ sizeLine := by
  have no : tooLong ((l.map (·.1)).toArray.foldl (· + ·.length + x.length) 0) = false := by
    cases e : tooLong ((l.map (·.1)).toArray.foldl (· + ·.length + x.length) 0) with
    | false => rfl
    | true => unfold JoinOk at h; rw [e] at h; cases h
  refine ⟨?_, joinFit_length no⟩
  have g := gives_joinTail x l no
  rcases l with _ | ⟨a, _ | ⟨b, r⟩⟩ <;> exact g
theorem join_back {x : Str} {t : Tok} {it a : Addr} {its : Array Value} {ys : List Str} {Q : Value → Shared → Prop} (hh : A.handled = none) (hit : s.heap.IsRevIter it a ((its.size : Int) - 1)) (hl : s.heap.IsList a its) (hne : a ≠ it) (hn : its.size ≤ sizeLine)
    (hP : ∀ acc : Array Value, ItemsOf (fun i v => its[its.size - 1 - i]? = some v) acc its.size → StrsAre acc.toList ys) (hok : (ys.map (·.length)).sum + ys.length * x.length ≤ 16777216)
    (hq : ∀ (h' : Heap) (tk t' : Tok), (∀ b o, b ≠ it → s.heap.get? b = some o → h'.get? b = some o) → Q (.str (Txt.join x ys) t') { s with heap := h', toks := tk }) :
    wpAny (model prog w) A (call (.builtin "str.join") [.str x t, .ref it]) Q E s := by
  have ty : s.TypeIs (.ref it) "list_reverseiterator" := hit.typeIs
  refine wpAny_call (codeAny_call_builtin PySem.F.slot_str_join.plain PySem.F.entry_str_join (PySem.F.slot_str_join.check _ _ _ _ _ _ _ _ (typeIs_str _ _ _) (PySem.F.args_str_join_2 _ _) ?_))
  rw [join_tree_other]
  refine wpAny_bind (wpAny_typeOf ty ?_)
  rw [if_neg (by decide)]
  refine wpAny_bind (wpAny_tryCatch (wpAny_pyIter_revIter hit (wpAny_bind (RT.collect_rev hh hit hl hne hn fun h' tk acc k i => ?_))))
  obtain ⟨l, e1, e2⟩ := strsAre_values (hP acc i)
  rw [e1]
  subst e2
  obtain ⟨g, z⟩ := made_gives (joinOk_of hok)
  exact g prog w A (wants Q E) _ (post_join l ⟨z, fun t' k2 => hq h' k2 t' k⟩)
end
end Ip
namespace Ip
open PySem L2 PySem.Spec PyProof.Rows
theorem strs_back {its : List Value} {ys : List Str} (r : Vals (ys.map V.str) its) {acc : Array Value} (i : ItemsOf (fun i v => its.toArray[its.toArray.size - 1 - i]? = some v) acc its.toArray.size) : StrsAre acc.toList ys.reverse := by
  have z := vals_back r i
  rw [← List.map_reverse] at z
  generalize ys.reverse = zs at z
  generalize acc.toList = us at z
  clear i r
  induction us generalizing zs with
  | nil =>
    cases zs with
    | nil => exact .nil
    | cons a b => cases z
  | cons u us ih =>
    cases zs with
    | nil => cases z
    | cons a b =>
      cases z with
      | cons h t =>
        obtain ⟨k, rfl⟩ := h
        exact .cons a k (ih b t)
section
variable {X : Cx} {C : Ac} {W : WX} {Γ Γ1 Γ2 Γ' : List Nat} {fr fr1 : Bool} {o e : Expr} {f h : Env → R D} {p pos apos pos2 : Pos}
theorem pe_joinRev {to te : TE} (ho : PE X o to) (hc : X.calm = true) (hm : X.mg "reversed" = none) (he : PE X e te) (hg : Gl X "reversed") (hs : starEach [e] X.env = (false, eval e X.env) :: starEach [] X.env)
    (hs1 : starEach [.Call (.Name "reversed" p) [e] [] pos2] X.env = [(false, eval (.Call (.Name "reversed" p) [e] [] pos2) X.env)]) (hbase : attributeBase o "join" X.env (eval o X.env) = eval o X.env) (hline : (apos.endLine == pos.line) = true) :
    PE X (.Call (.Attribute o "join" apos) [.Call (.Name "reversed" p) [e] [] pos2] [] pos) fun σ H Q => to σ H fun x H1 => (∃ a, x = .str a) ∧ te σ H1 fun v H2 => ∃ (a : Str) (b : Addr) (ys : List Str), x = .str a ∧ v = .ref b ∧ SqL X.K H2 b (ys.map V.str) ∧
      (ys.map (·.length)).sum + ys.length * a.length ≤ 16777216 ∧ Q (.str (Txt.join a ys.reverse)) H2 := ⟨fun pins s σ H Q I q => by
  refine PySem.Call_method1 hbase hs1 hline (thn (ho.run pins s σ H _ I q) fun v s1 ⟨x, H1, I1, r1, e1, q1⟩ => ?_)
  obtain ⟨a, rfl⟩ := e1
  obtain ⟨t, rfl⟩ := id r1
  refine ⟨"str", _, PySem.F.plainAttrs_str, PySem.F.slot_str_join, PySem.F.type_str_join, typeIs_str _ _ _, (fun _ e => nomatch e), Calls.callWith_builtin rfl (Calls.evalArgs_plain (Calls.spliced_cons ?_))⟩
  refine Call_ (ld_blt I1 hg hm PyProof.Rows.boot_reversed (PyProof.Rows.callWith_type1 (args_cons (thn (he.run pins s1 σ H1 _ I1 q1) fun u s2 ⟨v, H2, I2, r2, q2⟩ => args_nil ?_) hs) hs rfl))
  obtain ⟨a', b, ys, ea, rfl, hq, hz, q2⟩ := q2
  cases ea; cases r2
  obtain ⟨its, rv, pl, hn⟩ := I2.list hq
  refine call_reversed_list pl.isList (Calls.spliced_nil ?_)
  have k0 : ∀ c o, s2.heap.get? c = some o → (s2.heap.push (revObj b ((its.toArray.size : Int) - 1))).get? c = some o := fun c o e => Heap.get?_push_of_some _ e
  have I3 : Inv X pins σ H2 { s2 with heap := s2.heap.push (revObj b ((its.toArray.size : Int) - 1)) } := I2.kept (t' := s2.toks) k0
  obtain ⟨f0, f1, f2, f3, f4, f5⟩ := I2.fpOk (H' := H2) (b := s2.heap.objs.size) (Nat.le_refl _) (I2.hok.fresh (Nat.le_refl _))
  obtain ⟨ol, hol, _⟩ := pl.isList
  refine join_back (s := { s2 with heap := s2.heap.push (revObj b ((its.toArray.size : Int) - 1)) }) (ys := ys.reverse) (I2.ok.hd hc) ⟨_, Heap.get?_push_size _ rfl, rfl, rfl⟩ (pl.isList.push _) (Nat.ne_of_lt (Heap.lt_size hol)) (by rw [List.size_toArray, ← rv.length]; exact hn) (fun acc i => strs_back rv i) (by rw [List.map_reverse, List.sum_reverse, List.length_reverse]; exact hz) fun h' tk t' k => ?_
  exact ⟨.str _, H2, I3.turned (t' := tk) (fun c o hb e => k c o hb e) f0 f1 f3 f4 f5, ⟨t', rfl⟩, q2⟩⟩
def oJoinRev (a : Str) : D → Option D
  | .lst ds => (dStrs ds).bind fun ys => ifO ((ys.map (·.length)).sum + ys.length * a.length ≤ 16777216) (.str (Txt.join a ys.reverse))
  | _ => none
def mJoinRev (f h : Env → R D) : Env → R D := fun ρ => (f ρ).bind fun d ρ1 => match d with
  | .str s => (h ρ1).bind fun d ρ2 => ofO ρ2 (oJoinRev s d)
  | _ => .bad
theorem se_joinRev (ho : SE X C W Γ o Γ1 fr f) (he : SE X C W Γ1 e Γ2 fr1 h) (hc : X.calm = true) (hm : X.mg "reversed" = none) (hg : Gl X "reversed" := by rfl) (hs : starEach [e] X.env = (false, eval e X.env) :: starEach [] X.env := by rfl)
    (hs1 : starEach [.Call (.Name "reversed" p) [e] [] pos2] X.env = [(false, eval (.Call (.Name "reversed" p) [e] [] pos2) X.env)] := by rfl) (hbase : attributeBase o "join" X.env (eval o X.env) = eval o X.env := by rfl) (hline : (apos.endLine == pos.line) = true := by rfl) :
    SE X C W Γ (.Call (.Attribute o "join" apos) [.Call (.Name "reversed" p) [e] [] pos2] [] pos) Γ2 false (mJoinRev f h) := ⟨peImp (pe_joinRev ho.pe hc hm he.pe hg hs hs1 hbase hline) fun σ H Q ⟨hid, ρ, S, p⟩ => by
  refine ⟨hid, ρ, S, ?_⟩
  unfold mJoinRev at p
  cases q : f ρ with
  | bad => rw [q] at p; exact p
  | exn e ρ' => rw [q] at p; exact p
  | ok d ρ1 =>
    rw [q] at p
    dsimp only [R.bind] at p
    intro v H1 tm S1 k1 va t1
    cases d with
    | str x =>
      have := shal_str va.shal0
      subst this
      refine ⟨⟨_, rfl⟩, tm ++ hid, ρ1, S1, ?_⟩
      cases q2 : h ρ1 with
      | bad => simp only [q2] at p; exact p
      | exn e ρ' => simp only [q2] at p; exact p
      | ok d2 ρ2 =>
        simp only [q2] at p
        intro u H2 tm2 S2 k2 va2 t2
        have e : tm2 ++ (tm ++ hid) = (tm2 ++ tm) ++ hid := (List.append_assoc ..).symm
        rw [e] at S2 k2
        cases q3 : oJoinRev x d2 with
        | none => rw [q3] at p; exact p.elim
        | some z =>
          rw [q3] at p
          cases d2 with
          | lst ds =>
            simp only [oJoinRev, Option.bind_eq_some_iff] at q3
            obtain ⟨ys, h1, h2⟩ := q3
            obtain ⟨h3, rfl⟩ := ifO_some h2
            have := strs_inv h1
            subst this
            have sh := va2.shal0
            cases sh with
            | lst hl r =>
              have := r.of_strs
              subst this
              exact ⟨x, _, ys, rfl, rfl, hl, h3, fin_fz p S.sub S2 (k1.trans k2 fun a ha => List.mem_append_right _ ha) _ H2 (.refl _) (.str _)⟩
          | _ => cases q3
    | _ => exact (show False from p).elim⟩
end
/-! ## divmod, text * int, lists of ints in order, an int in a list -/
section
variable {X : Cx} {g : Gx}
def oDivmod : List D → Option D
  | [.int i, .int j] => ifO (0 < j ∧ j < 1073741824) (.tup [.int (i / j), .int (i % j)])
  | _ => none
theorem cal_divmod : CalS g (fun xs H Q => ∃ i j, xs = [.int i, .int j] ∧ CDiv i j ∧ ∀ p, H p = none → Q (.ref p) (upd H p (.tup [.int (i / j), .int (i % j)]))) oDivmod := fun H M vs ds d Q tr ks ho q => by
  unfold oDivmod at ho
  split at ho
  · obtain ⟨c, rfl⟩ := ifO_some ho
    obtain ⟨v, u, rfl, s, t⟩ := shals2 ks
    cases s; cases t
    refine ⟨_, _, rfl, c, fun l hl => ?_⟩
    have hn : l ∉ M := fun z => tr l z hl
    refine q _ _ (same_upd hl) (.tup ?_ (.cons (.int _) (.cons (.int _) .nil)))
    rw [mask_out hn, upd_same]
  · cases ho
def mulS : D → D → Option D
  | .str x, .int n => ifO (x.length ≤ 4096 ∧ 0 ≤ n ∧ n ≤ 4096) (.str (Txt.mul x n))
  | _, _ => none
def rMulS : R2 := fun x y H Q => ∃ (a : Str) (n : Int), x = .str a ∧ y = .int n ∧ (a.length ≤ 4096 ∧ 0 ≤ n ∧ n ≤ 4096) ∧ Q (.str (Txt.mul a n)) H
theorem mulOk_small {a : Str} {n : Int} (h : a.length ≤ 4096 ∧ 0 ≤ n ∧ n ≤ 4096) : MulOk a n := by
  obtain ⟨h1, h2, h3⟩ := h
  refine ⟨by rw [decide_eq_false (by omega), decide_eq_false (by omega)]; rfl, fun k _ => ?_, fun k _ => ?_⟩
  · have : (2 ^ 63 - 1) / n ≥ 4096 := by
      rw [ge_iff_le, Int.le_ediv_iff_mul_le (by omega)]
      omega
    omega
  · have : a.length * n.toNat ≤ 4096 * 4096 := Nat.mul_le_mul h1 (by omega)
    unfold Builtin.Str.tooLong
    have : (16777216 : Nat) ≤ sizeLine := by decide
    exact decide_eq_false (by omega)
theorem op_mulS : OpR X (binaryOp .Mult) rMulS := fun pins s σ H x y v u Q I rx ry ⟨a, n, ex, ey, c, q⟩ => by
  subst ex ey
  obtain ⟨t, rfl⟩ := rx
  obtain ⟨k, rfl⟩ := ry
  exact SB.mul (mulOk_small c) fun t' k' => ⟨.str _, H, I.tok _, ⟨t', rfl⟩, q⟩
theorem mulS_ok : OpS g rMulS mulS := fun H M x y dx dy d Q tr sx sy ho q => by
  unfold mulS at ho
  split at ho
  · obtain ⟨c, rfl⟩ := ifO_some ho
    cases sx; cases sy
    exact ⟨_, _, rfl, rfl, c, q _ H (.refl _) (.str _)⟩
  · cases ho
def ltLD (a b : D) : Option D := match toPy a, toPy b with
  | some (.list xs), some (.list ys) => ifO (PySem.W.alike (.list xs) (.list ys) = true ∧ (PyData.list xs).depth ≤ 60) (.bl (PySem.W.dataLt (.list xs) (.list ys)))
  | _, _ => none
def rLtL (K : PySem.W.Frag) : R2 := fun x y H Q => ∃ d e, Dp K H x d ∧ Dp K H y e ∧ PySem.W.alike d e = true ∧ d ≠ .none ∧ d.depth ≤ 60 ∧ Q (.bl (PySem.W.dataLt d e)) H
theorem op_ltL (hu : X.A.units + 64 < cLine) : OpR X (compareOp .Lt) (rLtL X.K) := fun pins s σ H x y v u Q I rx ry ⟨d, e, hd, he, al, nn, dp, q⟩ => by
  obtain ⟨as, r1⟩ := Dp.reads I d x v hd rx
  obtain ⟨bs, r2⟩ := Dp.reads I e y u he ry
  exact PySem.W.rcLt_alike d e _ _ _ _ as bs r1 r2 al nn (by omega) X.prog X.w _ _ ⟨.bl _, H, I, rfl, q⟩
theorem ltL_ok : OpS g (rLtL g.K) ltLD := fun H M x y dx dy d Q tr sx sy ho q => by
  unfold ltLD at ho
  split at ho
  · rename_i xs ys h1 h2
    obtain ⟨⟨c1, c2⟩, rfl⟩ := ifO_some ho
    exact ⟨_, _, RV.dp _ _ _ sx.rv h1, RV.dp _ _ _ sy.rv h2, c1, (by intro z; cases z), c2, q _ H (.refl _) (.bl _)⟩
  · cases ho
def inID : D → D → Option D
  | .int i, .lst ds => (dInts ds).map fun ns => .bl (ns.contains i)
  | .int i, .tup ds => (dInts ds).map fun ns => .bl (ns.contains i)
  | _, _ => none
theorem inV_ints (i : Int) : ∀ ns : List Int, inV (.int i) (ns.map V.int) = ns.contains i
  | [] => rfl
  | n :: ns => by
    have := inV_ints i ns
    unfold inV at this ⊢
    rw [List.map_cons, List.any_cons, this, List.contains_cons]
    congr 1
    show (n == i) = (i == n)
    exact Bool.beq_comm
theorem flat_ints (ns : List Int) : (ns.map V.int).all flatV = true := by
  rw [List.all_eq_true]
  intro x hx
  obtain ⟨n, _, rfl⟩ := List.mem_map.mp hx
  rfl
theorem inI_ok : OpS g (rIn g.K false) inID := fun H M x y dx dy d Q tr sx sy ho q => by
  unfold inID at ho
  split at ho
  all_goals first | (cases ho; done) | skip
  all_goals
    simp only [Option.map_eq_some_iff] at ho
    obtain ⟨ns, h1, rfl⟩ := ho
    have := ints_inv h1
    subst this
    cases sx
    have e := inV_ints
    cases sy
    rename_i h r
    have := r.of_ints
    subst this
    refine ⟨_, _, rfl, ?_, rfl, flat_ints ns, ?_⟩
    · first | exact .inl ‹_› | exact .inr (.of ‹_›)
    · rw [if_neg (by decide), e]
      exact q _ H (.refl _) (.bl _)
end
end Ip
set_option maxHeartbeats 1000000
namespace Ip
open PySem L2 PySem.Spec PyProof.Rows
/-! ## several except clauses, each with a name or without one -/
/-- X holds what it caught: the exception at a, of the class cls with the data d -/
structure Caught (X : Cx) (pins : List (Addr × Obj)) (σ : L2.St) (H : Hp) (cls : Value) (d : Option Addr) (a : Addr) (s : Shared) : Prop where
  na : H a = none
  ex : ∃ (B : Heap) (sI : Shared), Inv X pins σ H sI ∧ (∀ b o, sI.heap.get? b = some o → b ∉ frs X.stack → B.get? b = some o) ∧ sI.heap.UpToSlots s.heap ∧ HandSPX.FlyingZ B X.stack a (Zc cls d) s.heap ∧ s.os = sI.os ∧ AllBare s.gens
section
variable {X : Cx} {pins : List (Addr × Obj)} {σ : L2.St} {H : Hp} {cls : Value} {d : Option Addr} {a : Addr} {s : Shared} {D : Ends} {Wout : WX} {E : Value → Shared → Prop}
theorem Caught.inv (c : Caught X pins σ H cls d a s) : Inv X pins σ H s := by
  obtain ⟨B, sI, I, nb, up, fl, os, ag⟩ := c.ex
  exact I.landed nb fl.1 up os ag
theorem Caught.obj (c : Caught X pins σ H cls d a s) (hs : X.stack = X.env :: X.outer) (hf : X.env.frame = some X.env.locals) : ∃ (o : Obj) (vs : Array Value), s.heap.get? a = some o ∧ o.data = .fields vs ∧ Zc cls d o ∧ a ≠ X.env.locals ∧ a ∉ X.fs := by
  obtain ⟨B, sI, _, _, _, fl, _⟩ := c.ex
  obtain ⟨o, vs, e, z, dd⟩ := fl.there
  have no : a ∉ frs X.stack := fun m => by
    obtain ⟨_, o2, e2, nd⟩ := fl.2.2.1.mem m
    exact nd vs (by rw [← dd, Option.some.inj (e2.symm.trans e)])
  rw [hs] at no
  refine ⟨o, vs, e, dd, z, fun q => no (List.mem_filterMap.mpr ⟨_, List.mem_cons_self, by rw [hf, q]⟩), fun q => ?_⟩
  obtain ⟨env, m, fe⟩ := List.mem_filterMap.mp q
  exact no (List.mem_filterMap.mpr ⟨env, List.mem_cons_of_mem _ m, fe⟩)
/-- no clause takes it -/
theorem Caught.pass (c : Caught X pins σ H cls d a s) (hf : X.env.frame = some X.env.locals) (tk : Takes X Wout) (w : Wout cls d σ H) (Q : Flow → Shared → Prop) : wpAny (model X.prog X.w) X.A (handleBy (.ref a) X.env []) Q X.xe s := by
  obtain ⟨B, sI, I, nb, up, fl, os, ag⟩ := c.ex
  have go : wpAny (model X.prog X.w) X.A (setFlight (.ref a) X.env.frame) (fun _ s2 => wpAny (model X.prog X.w) X.A (throw (.ref a) : Sem Flow) Q X.xe s2) X.xe s := by
    rw [hf]
    exact HandSPX.setFlight_upZ fl fun h2 hd up2 => wpAny_throw (tk _ _ ⟨a, B, sI, pins, σ, H, cls, d, rfl, I, nb, up.trans up2, .inr (.inr hd), c.na, os, ag, w⟩)
  obtain ⟨_, _, _, oe, vs, T, _, _, he, _, hd, h1, _⟩ := fl
  refine wpAny_handleBy_nil ?_
  unfold PySem.passOn
  refine wpAny_bind (wpAny_field he hd h1 ?_)
  have nz : (Value.ref T == Value.none) = false := by simp
  rw [nz, if_neg Bool.false_ne_true]
  first
    | exact wpAny_bind (wpAny_pure (wpAny_bind go))
    | exact wpAny_bind go
/-- the name of a class is looked up while the exception is held -/
theorem Caught.look (c : Caught X pins σ H cls d a s) (hs : X.stack = X.env :: X.outer) (hf : X.env.frame = some X.env.locals) {x : Str} {k : Value} {np : Pos} (hc : Names X x k) {Q : Value → Shared → Prop} (q : Q k s) : wpAny (model X.prog X.w) (X.A.mark (some (.ref a))) (eval (.Name x np) X.env) Q E s := by
  obtain ⟨o, vs, e, dd, z, nL, nF⟩ := c.obj hs hf
  have S := c.inv.suite e dd c.na nL nF
  rcases hc with ⟨g, nd, m | ⟨m, v, nn⟩⟩
  · exact ld_glob (X := X.suite a ((a, o) :: (X.pn ++ pins))) S g m q nd
  · exact ld_blt (X := X.suite a ((a, o) :: (X.pn ++ pins))) S g m v q nn nd
/-- it is landed anew for the suite -/
theorem Caught.down (c : Caught X pins σ H cls d a s) {Q : Unit → Shared → Prop} (q : ∀ h', Caught X pins σ H cls d a { s with heap := h' } → Q () { s with heap := h' }) : wpAny (model X.prog X.w) (X.A.mark (some (.ref a))) (setFlight (.ref a) none) Q E s := by
  obtain ⟨B, sI, I, nb, up, fl, os, ag⟩ := c.ex
  exact HandSPX.lands_againZ fl fun h' fl' up' => q h' ⟨c.na, B, sI, I, nb, up.trans up', fl', os, ag⟩
/-- one clause: the class, the name's slot (if any), what its suite does -/
abbrev Cl := Value × Option Nat × (Addr → Value → Option Addr → TS)
def endN (D : Ends) (i : Nat) : Ends := { nx := fun σ' H' => D.nx (σ'.set i none) H', rt := D.rt, bk := fun σ' H' => D.bk (σ'.set i none) H', ct := fun σ' H' => D.ct (σ'.set i none) H' }
def hitC (i : Option Nat) (ts : Addr → Value → Option Addr → TS) (a : Addr) (cls : Value) (d : Option Addr) (D : Ends) (σ : L2.St) (H : Hp) : Prop := match i with
  | none => ts a cls d D σ H
  | some i => ts a cls d (endN D i) (σ.set i (some (.ref a))) H
def wCls (K : PySem.W.Frag) (Wout : WX) (D : Ends) : List Cl → WX
  | [] => Wout
  | (k, i, ts) :: r => fun cls d σ H => ∃ b, PySem.W.exmOne K cls k = some b ∧ (b = false → wCls K Wout D r cls d σ H) ∧
      (b = true → ∀ a, H a = none → hitC i ts a cls d D σ H)
inductive ClsOk (X : Cx) : List ExceptHandler → List Cl → Prop
  | nil : ClsOk X [] []
  | bare {x : Str} {k : Value} {ts : Addr → Value → Option Addr → TS} {b0 : Stmt} {b : List Stmt} {np p : Pos} {hds : List ExceptHandler} {l : List Cl} : Names X x k →
      (∀ (a : Addr) (o : Obj) (cls : Value) (d : Option Addr) (pn : List (Addr × Obj)), Zc cls d o → (∃ vs, o.data = .fields vs) → PSs (X.suite a ((a, o) :: pn)) (b0 :: b) (ts a cls d)) → ClsOk X hds l →
      ClsOk X (.ExceptHandler (some (.Name x np)) none (b0 :: b) p :: hds) ((k, none, ts) :: l)
  | named {x n : Str} {i : Nat} {k : Value} {ts : Addr → Value → Option Addr → TS} {b0 : Stmt} {b : List Stmt} {np p : Pos} {hds : List ExceptHandler} {l : List Cl} : Names X x k → X.N[i]? = some n → X.env.kindOf n = some .local →
      (∀ (a : Addr) (o : Obj) (cls : Value) (d : Option Addr) (pn : List (Addr × Obj)), Zc cls d o → (∃ vs, o.data = .fields vs) → PSs (X.suite a ((a, o) :: pn)) (b0 :: b) (ts a cls d)) → ClsOk X hds l →
      ClsOk X (.ExceptHandler (some (.Name x np)) (some n) (b0 :: b) p :: hds) ((k, some i, ts) :: l)
theorem suite_out {a : Addr} {o : Obj} {Q : Flow → Shared → Prop} {f : Flow} {s : Shared} (ok : X.Ok) (h : L2.SP (X.suite a ((a, o) :: (X.pn ++ pins))) [] D f s) : L2.SP X pins D f s := by
  cases f with
  | ret u =>
    obtain ⟨v, σ1, H1, I1, r, q⟩ := h
    exact ⟨v, σ1, H1, I1.unsuite ok, r, q⟩
  | _ =>
    obtain ⟨σ1, H1, I1, q⟩ := h
    exact ⟨σ1, H1, I1.unsuite ok, q⟩
theorem clauses (hs : X.stack = X.env :: X.outer) (hf : X.env.frame = some X.env.locals) (hN : X.N.Nodup) (tk : Takes X Wout) (c : Caught X pins σ H cls d a s) :
    ∀ {hds : List ExceptHandler} {l : List Cl}, ClsOk X hds l → wCls X.K Wout D l cls d σ H → wpAny (model X.prog X.w) X.A (handleBy (.ref a) X.env hds) (L2.SP X pins D) X.xe s := by
  have ok : X.Ok := c.inv.ok
  intro hds l h
  induction h with
  | nil => exact fun w => c.pass hf tk w _
  | @bare x k ts b0 b np p hds l hc hsu r ih =>
    rintro ⟨t, et, no, yes⟩
    obtain ⟨o, vs, e, dd, z, nL, nF⟩ := c.obj hs hf
    have L : PySem.W.Looks (model X.prog X.w) s.heap (typeOf (.ref a)) cls := fun A Q E s k q => wpAny_typeOf_ref (k _ _ e) (by rw [z.1]; exact q)
    refine wpAny_handleBy_cons (codeAny_handlers_test (c.look hs hf hc ((PySem.W.exm_one (M := model X.prog X.w) c.inv.kIn L et).here ?_))) (by intro q; cases q)
    cases t with
    | false => exact ih (no rfl)
    | true =>
      refine codeAny_handlers_suite (c.down fun h' c' => ?_)
      obtain ⟨o', vs', e', dd', z', nL', nF'⟩ := c'.obj hs hf
      exact wpAny_mono ((hsu a o' cls d (X.pn ++ pins) z' ⟨_, dd'⟩).run [] _ _ H D (c'.inv.suite e' dd' c.na nL' nF') (yes rfl a c.na)) (fun f s6 hsp => suite_out (Q := L2.SP X pins D) ok hsp) fun _ _ z => z.elim
  | @named x n i k ts b0 b np p hds l hc hi hl hsu r ih =>
    rintro ⟨t, et, no, yes⟩
    obtain ⟨o, vs, e, dd, z, nL, nF⟩ := c.obj hs hf
    have L : PySem.W.Looks (model X.prog X.w) s.heap (typeOf (.ref a)) cls := fun A Q E s k q => wpAny_typeOf_ref (k _ _ e) (by rw [z.1]; exact q)
    refine wpAny_handleBy_cons (codeAny_handlers_test (c.look hs hf hc ((PySem.W.exm_one (M := model X.prog X.w) c.inv.kIn L et).here ?_))) (by intro q; cases q)
    cases t with
    | false => exact ih (no rfl)
    | true =>
      refine codeAny_handlers_suite_as (c.down fun h' c' => ?_)
      obtain ⟨o', vs', e', dd', z', nL', nF'⟩ := c'.obj hs hf
      refine store_ok (X := X.suite a ((a, o') :: (X.pn ++ pins))) (v := .ref a) (c'.inv.suite e' dd' c.na nL' nF') hN hi (.inl hl) rfl (fun s5 S5 => ?_) (.inr hl)
      refine wpAny_mono ((hsu a o' cls d (X.pn ++ pins) z' ⟨_, dd'⟩).run [] s5 _ H (endN D i) S5 (yes rfl a c.na)) (fun f s6 hsp => ?_) fun _ _ z => z.elim
      have hsp := suite_out (Q := L2.SP X pins D) ok hsp
      cases f with
      | ret u =>
        obtain ⟨v, σ1, H1, I1, r, q⟩ := hsp
        exact gone_ok I1 hN hi hl fun s7 J => ⟨v, _, H1, J, r, q⟩
      | _ =>
        obtain ⟨σ1, H1, I1, q⟩ := hsp
        exact gone_ok I1 hN hi hl fun s7 J => ⟨_, H1, J, q⟩
theorem ps_tryC {body : List Stmt} {h0 : ExceptHandler} {hds : List ExceptHandler} {l : List Cl} {pos : Pos} {tb : WX → TS} (hs : X.stack = X.env :: X.outer) (hf : X.env.frame = some X.env.locals) (hN : X.N.Nodup) (tk : Takes X Wout)
    (hb : ∀ (W : WX) (pn : List (Addr × Obj)) (xe : Value → Shared → Prop), Takes (X.tr pn xe) W → PassesOwn (model X.prog X.w) X.A X.env xe → PSs (X.tr pn xe) body (tb W)) (hh : ClsOk X (h0 :: hds) l) :
    PS X (.Try body (h0 :: hds) [] [] pos) (fun D σ H => tb (wCls X.K Wout D l) D σ H) := ⟨fun pins s σ H D I h => by
  refine wpAny_Try_except (wpAny_mono ((hb _ (X.pn ++ pins) _ (fun u s' xx => ?_) PassesOwn.looking).run [] s σ H D (I.toTry _) h) (fun f s1 hsp => ?_) fun e s1 he => he)
  · obtain ⟨a, B, sI, ps, σ', H', cls, d, rfl, J, nb, up, sky, na, os, ag, w⟩ := xx
    have sky' : Sky B (X.env :: X.outer) a (Zc cls d) X.env.locals s'.heap := by rw [← hs]; exact sky
    refine Sky.land Zc.steady (by rw [I.ok.frames, hs]) hf sky' fun h3 fl up3 => ?_
    exact clauses (s := { s' with heap := h3 }) hs hf hN tk ⟨na, B, sI, J.ofTry I.ok, nb, up.trans up3, by rw [hs]; exact fl, os, ag⟩ hh w
  · cases f with
    | next =>
      obtain ⟨σ1, H1, I1, q⟩ := hsp
      exact wpAny_execs_nil ⟨σ1, H1, I1.ofTry I.ok, q⟩
    | ret u =>
      obtain ⟨v, σ1, H1, I1, r, q⟩ := hsp
      exact ⟨v, σ1, H1, I1.ofTry I.ok, r, q⟩
    | _ =>
      obtain ⟨σ1, H1, I1, q⟩ := hsp
      exact ⟨σ1, H1, I1.ofTry I.ok, q⟩⟩
end
end Ip
set_option maxHeartbeats 1000000
namespace Ip
open PySem L2 PySem.Spec PyProof.Rows
/-! ## try with clauses that each set one name to a value that is known ahead -/
structure TC where
  cn : Str
  i : Option Nat
  j : Nat
  d : D
  v : V
  Cc : Addr
def clr (i : Option Nat) (ρ : Env) : Env := match i with
  | none => ρ
  | some i => ρ.set i none
def clrS (i : Option Nat) (σ : L2.St) : L2.St := match i with
  | none => σ
  | some i => σ.set i none
def tcT (t : TC) : Addr → Value → Option Addr → TS := fun a cls od Dn σ H => cls = .ref t.Cc ∧ od = none ∧ (∀ i, t.i = some i → σ[i]? = some (some (.ref a))) ∧ ∀ H', Same H H' → Dn.nx (σ.set t.j (some t.v)) H'
def tcCl (t : TC) : Cl := (.ref t.Cc, t.i, tcT t)
def pickC : List (Str × Option Nat × Nat × D) → Ex → Env → R Fl
  | [], _, _ => .bad
  | (cn, i, j, d) :: r, e, ρ => if e.cls = cn then (if e.fld.isNone = true ∧ j < ρ.length ∧ (∀ k ∈ i, k < ρ.length) then .ok .nx (clr i (ρ.set j (some d))) else .bad) else pickC r e ρ
def tcK (t : TC) : Str × Option Nat × Nat × D := (t.cn, t.i, t.j, t.d)
def mTryC (l : List (Str × Option Nat × Nat × D)) (f : Env → R Fl) : Env → R Fl := fun ρ => match f ρ with
  | .ok .nx ρ' => .ok .nx ρ'
  | .exn e ρ' => pickC l e ρ'
  | _ => .bad
/-- the clauses are known: each takes its class, none takes the class of a later one -/
inductive TcOk (K : PySem.W.Frag) (ct : Str → Option Addr) (io : List Nat) : List TC → Prop
  | nil : TcOk K ct io []
  | cons {t : TC} {r : List TC} : ct t.cn = some t.Cc → PySem.W.exmOne K (.ref t.Cc) (.ref t.Cc) = some true → (∀ u ∈ r, PySem.W.exmOne K (.ref u.Cc) (.ref t.Cc) = some false) → (∀ A, RV ⟨K, ct⟩ A t.d t.v) →
      t.j ∉ io → (∀ k ∈ t.i, k ∉ io ∧ k ≠ t.j) → TcOk K ct io r → TcOk K ct io (t :: r)
section
variable {X : Cx} {W : WX} {Γb : List Nat} {fr : Bool} {body : List Stmt} {pos : Pos} {fb : Env → R Fl}
theorem tc_named {x n : Str} {t : TC} {i : Nat} {b0 : Stmt} {b : List Stmt} {np p : Pos} {hds : List ExceptHandler} {l : List Cl} (hi : t.i = some i) (hc : Names X x (.ref t.Cc))
    (hsu : ∀ (a : Addr) (o : Obj) (pn : List (Addr × Obj)), Zc (.ref t.Cc) none o → (∃ vs, o.data = .fields vs) → PSs (X.suite a ((a, o) :: pn)) (b0 :: b) fun Dn σ H => σ[i]? = some (some (.ref a)) ∧ ∀ H', Same H H' → Dn.nx (σ.set t.j (some t.v)) H')
    (r : ClsOk X hds l) (hN : X.N[i]? = some n := by rfl) (hl : X.env.kindOf n = some .local := by rfl) : ClsOk X (.ExceptHandler (some (.Name x np)) (some n) (b0 :: b) p :: hds) (tcCl t :: l) := by
  have e : tcCl t = (.ref t.Cc, some i, tcT t) := by unfold tcCl; rw [hi]
  rw [e]
  exact .named hc hN hl (fun a o cls d pn hz hd => ⟨fun pins s σ H Dn I ⟨q1, q2, q3, q4⟩ => by
    subst q1 q2
    exact (hsu a o pn hz hd).run pins s σ H Dn I ⟨q3 i hi, q4⟩⟩) r
theorem tc_bare {x : Str} {t : TC} {b0 : Stmt} {b : List Stmt} {np p : Pos} {hds : List ExceptHandler} {l : List Cl} (hi : t.i = none) (hc : Names X x (.ref t.Cc))
    (hsu : ∀ (a : Addr) (o : Obj) (pn : List (Addr × Obj)), Zc (.ref t.Cc) none o → (∃ vs, o.data = .fields vs) → PSs (X.suite a ((a, o) :: pn)) (b0 :: b) fun Dn σ H => ∀ H', Same H H' → Dn.nx (σ.set t.j (some t.v)) H')
    (r : ClsOk X hds l) : ClsOk X (.ExceptHandler (some (.Name x np)) none (b0 :: b) p :: hds) (tcCl t :: l) := by
  have e : tcCl t = (.ref t.Cc, none, tcT t) := by unfold tcCl; rw [hi]
  rw [e]
  exact .bare hc (fun a o cls d pn hz hd => ⟨fun pins s σ H Dn I ⟨q1, q2, _, q4⟩ => by
    subst q1 q2
    exact (hsu a o pn hz hd).run pins s σ H Dn I q4⟩) r
theorem pick_mem {e : Ex} {ρ : Env} : ∀ {l : List TC}, pickC (l.map tcK) e ρ ≠ .bad → ∃ t ∈ l, e.cls = t.cn
  | [], h => absurd rfl h
  | t :: r, h => by
    by_cases q : e.cls = t.cn
    · exact ⟨t, List.mem_cons_self, q⟩
    · have h : pickC (r.map tcK) e ρ ≠ .bad := by
        intro z
        refine h ?_
        show (if e.cls = t.cn then _ else pickC (r.map tcK) e ρ) = _
        rw [if_neg q]; exact z
      obtain ⟨u, hu, e2⟩ := pick_mem h
      exact ⟨u, List.mem_cons_of_mem _ hu, e2⟩
theorem TcOk.ct {K : PySem.W.Frag} {ct : Str → Option Addr} {io : List Nat} {l : List TC} (h : TcOk K ct io l) : ∀ t ∈ l, ct t.cn = some t.Cc := by
  induction h with
  | nil => exact fun _ z => nomatch z
  | cons h1 _ _ _ _ _ _ ih =>
    intro u hu
    rcases List.mem_cons.mp hu with rfl | hu
    · exact h1
    · exact ih u hu
/-- what the clauses do with an error of the body -/
theorem tc_take {ct : Str → Option Addr} {H0 H : Hp} {hid ioA : List Addr} {io : List Nat} {ρ0 ρ' : Env} {σ σ' : L2.St} {H' : Hp} {Dn : Ends} {e : Ex} {cls : Value} {od : Option Addr}
    (S : ST X.K ⟨ct, H0, hid, io, ioA⟩ hid io ρ0 σ H) (S' : ST X.K ⟨ct, H, hid, io, ioA⟩ hid io ρ' σ' H') {A : Hp} (xr : ExR ⟨X.K, ct⟩ H' A e cls od) :
    ∀ {l : List TC}, TcOk X.K ct io l → PostS X.K ⟨ct, H0, hid, io, ioA⟩ W io io Γb fr Dn σ H (pickC (l.map tcK) e ρ') → wCls X.K W Dn (l.map tcCl) cls od σ' H' := by
  intro l ok
  induction ok with
  | nil => exact fun p => (show False from p).elim
  | @cons t r hct hy hn hv hj hi ok ih =>
    intro p
    obtain ⟨C1, y1, y2, y3⟩ := xr
    subst y2
    have nb : pickC ((t :: r).map tcK) e ρ' ≠ .bad := fun z => by rw [z] at p; exact p
    obtain ⟨u, hu, eu⟩ := pick_mem nb
    have cu := (TcOk.cons hct hy hn hv hj hi ok).ct u hu
    have eC : C1 = u.Cc := Option.some.inj ((y1.symm.trans (congrArg ct eu)).trans cu)
    have p : PostS X.K ⟨ct, H0, hid, io, ioA⟩ W io io Γb fr Dn σ H (if e.cls = t.cn then (if e.fld.isNone = true ∧ t.j < ρ'.length ∧ (∀ k ∈ t.i, k < ρ'.length) then .ok .nx (clr t.i (ρ'.set t.j (some t.d))) else .bad) else pickC (r.map tcK) e ρ') := p
    by_cases hc : e.cls = t.cn
    · rw [if_pos hc] at p
      have eC : C1 = t.Cc := Option.some.inj ((y1.symm.trans (congrArg ct hc)).trans hct)
      subst eC
      by_cases c2 : e.fld.isNone = true ∧ t.j < ρ'.length ∧ ∀ k ∈ t.i, k < ρ'.length
      · rw [if_pos c2] at p
        obtain ⟨z1, z2, z3⟩ := c2
        have y4 : od = none := by
          cases ef : e.fld with
          | none => rw [ef] at y3; exact y3
          | some d => rw [ef] at z1; cases z1
        subst y4
        refine ⟨true, hy, (fun z => nomatch z), fun _ a ha => ?_⟩
        obtain ⟨S1, k1⟩ := S.inner S'
        have fin : ∀ H2, Same H' H2 → ∀ σ2, ST X.K ⟨ct, H0, hid, io, ioA⟩ hid io (clr t.i (ρ'.set t.j (some t.d))) σ2 H2 → Ms σ2 hid io = Ms σ' hid io → Dn.nx σ2 H2 := fun H2 sm σ2 S4 em => by
          refine p _ H2 S4 ?_
          rw [em]
          refine ⟨k1.le.trans (.of_same (mask_keep fun b o _ e => sm b o e)), fun a ha => ?_⟩
          have e := k1.fx a ha
          rw [← e]
          cases q : H' a with
          | none => exact absurd q (S1.trk a ha).1
          | some o => exact sm a o q
        have base : ∀ H2, Same H' H2 → ST X.K ⟨ct, H0, hid, io, ioA⟩ hid io (ρ'.set t.j (some t.d)) (σ'.set t.j (some t.v)) H2 := fun H2 sm => (S1.same sm).put hj (hv _) z2
        show hitC t.i (tcT t) a (.ref t.Cc) none Dn σ' H'
        unfold hitC
        split
        · rename_i ei
          refine ⟨rfl, rfl, (fun i z => by rw [ei] at z; cases z), fun H2 sm => fin H2 sm _ ?_ (Ms_set hj)⟩
          rw [ei]
          exact base H2 sm
        · rename_i i ei
          obtain ⟨i1, i2⟩ := hi i (by rw [ei]; rfl)
          refine ⟨rfl, rfl, (fun k z => ?_), fun H2 sm => ?_⟩
          · rw [ei] at z
            cases z
            exact List.getElem?_set_self (by rw [← S'.len]; exact z3 i (by rw [ei]; rfl))
          · have e2 : (((σ'.set i (some (V.ref a))).set t.j (some t.v)).set i none) = ((σ'.set t.j (some t.v)).set i none) := by
              rw [List.set_comm (l := σ') (some (V.ref a)) (some t.v) i2, List.set_set]
            show Dn.nx (((σ'.set i (some (V.ref a))).set t.j (some t.v)).set i none) H2
            rw [e2]
            refine fin H2 sm _ ?_ (by rw [Ms_set i1, Ms_set hj])
            rw [ei]
            exact (base H2 sm).unslot i1 none
      · rw [if_neg c2] at p
        exact (show False from p).elim
    · rw [if_neg hc] at p
      have hr : u ∈ r := by
        rcases List.mem_cons.mp hu with rfl | h
        · exact absurd eu hc
        · exact h
      refine ⟨false, by rw [eC]; exact hn u hr, fun _ => ih p, fun z => nomatch z⟩
theorem ss_tryC {ct : Str → Option Addr} {H0 : Hp} {hid ioA : List Addr} {io : List Nat} {h0 : ExceptHandler} {hds : List ExceptHandler} {l : List TC} (hN : X.N.Nodup) (hs : X.stack = X.env :: X.outer) (hf : X.env.frame = some X.env.locals) (tk : Takes X W) (ok : TcOk X.K ct io l)
    (hb : ∀ (H1 : Hp) (W1 : WX) (pn : List (Addr × Obj)) (xe : Value → Shared → Prop), Takes (X.tr pn xe) W1 → PassesOwn (model X.prog X.w) X.A X.env xe → SSs (X.tr pn xe) ⟨ct, H1, hid, io, ioA⟩ W1 io body io [] false fb)
    (hh : ClsOk X (h0 :: hds) (l.map tcCl)) : SS X ⟨ct, H0, hid, io, ioA⟩ W io (.Try body (h0 :: hds) [] [] pos) io Γb fr (mTryC (l.map tcK) fb) := ⟨⟨fun pins s σ H Dn I ⟨ρ, S, p⟩ => by
  refine (ps_tryC (tb := fun W1 => tS X.K ⟨ct, H, hid, io, ioA⟩ W1 io io [] false fb) hs hf hN tk (fun W1 pn xe t1 t2 => (hb H W1 pn xe t1 t2).ps) hh).run pins s σ H Dn I ⟨ρ, S.outer, ?_⟩
  unfold mTryC at p
  cases q : fb ρ with
  | bad => rw [q] at p; exact (show False from p).elim
  | ok fl ρ' =>
    rw [q] at p
    cases fl with
    | nx => exact fun σ' H' S' k' => p σ' H' (S.inner S').1 k'
    | _ => exact (show False from p).elim
  | exn e ρ' =>
    rw [q] at p
    exact fun cls od σ' H' xr S' => tc_take S S' xr ok p⟩⟩
end
end Ip
set_option maxHeartbeats 1000000
namespace Ip
open PySem L2 PySem.Spec PyProof.Rows
section
variable {X : Cx} {i : Nat} {a : Addr} {e : Expr} {k : Bool} {x y : Str} {j j2 kk : Nat} {p p1 p2 tp cp pos : Pos}
/-- in a suite: ('x', 'y')[int(b)] -/
theorem sx_pick (h : SX X i a e (.bl k)) (hm : X.mg "int" = none) (hg : Gl X "int" := by rfl) (he : starEach [e] X.env = (false, eval e X.env) :: starEach [] X.env := by rfl) :
    SX X i a (.Subscript (.Tuple [.Constant (.str x) j p1, .Constant (.str y) j2 p2] kk tp) (.Call (.Name "int" p) [e] [] cp) pos) (.str (if k then y else x)) := ⟨peImp
  (pe_ix ix_seq (pe_tup (pa_cons pe_str (pa_cons pe_str pa_nil))) (pe_callTy call_int1 hg hm (by decide +kernel) (pa_cons h.pe pa_nil he) (by decide) (by decide) he) fun _ _ => rfl) fun σ H Q ⟨q1, q2⟩ => by
    refine ⟨by show 2 ≤ sizeLine; decide, fun q hq => ⟨q1, fun H2 sm => .inr ⟨k, rfl, .inr (.inl ⟨q, [.str x, .str y], _, .str (if k then y else x), rfl, rfl, .of (sm _ _ upd_same), ?_, q2 H2 ((same_upd hq).trans sm)⟩)⟩⟩⟩
    cases k <;> rfl⟩
end
def tcB (io : List Nat) (t : TC) : Bool := !io.contains t.j && (match t.i with
  | none => true
  | some k => !io.contains k && k != t.j)
theorem tcOk_cons {K : PySem.W.Frag} {ct : Str → Option Addr} {io : List Nat} {t : TC} {r : List TC} (h1 : ct t.cn = some t.Cc) (m1 : PySem.W.exmOne K (.ref t.Cc) (.ref t.Cc) = some true) (n1 : ∀ u ∈ r, PySem.W.exmOne K (.ref u.Cc) (.ref t.Cc) = some false)
    (rv : ∀ A, RV ⟨K, ct⟩ A t.d t.v) (h : TcOk K ct io r) (b : tcB io t = true := by rfl) : TcOk K ct io (t :: r) := by
  unfold tcB at b
  simp only [Bool.and_eq_true, Bool.not_eq_true', List.contains_eq_mem, decide_eq_false_iff_not] at b
  refine .cons h1 m1 n1 rv b.1 (fun k hk => ?_) h
  have e : t.i = some k := hk
  have b2 := b.2
  rw [e] at b2
  simp only [Bool.and_eq_true, Bool.not_eq_true', decide_eq_false_iff_not, bne_iff_ne] at b2
  exact b2
theorem no_later {K : PySem.W.Frag} {c : Addr} : ∀ u ∈ ([] : List TC), PySem.W.exmOne K (.ref u.Cc) (.ref c) = some false := fun _ z => nomatch z
theorem one_later {K : PySem.W.Frag} {c : Addr} {t : TC} {r : List TC} (h : PySem.W.exmOne K (.ref t.Cc) (.ref c) = some false) (hr : ∀ u ∈ r, PySem.W.exmOne K (.ref u.Cc) (.ref c) = some false) : ∀ u ∈ t :: r, PySem.W.exmOne K (.ref u.Cc) (.ref c) = some false := fun u hu => by
  rcases List.mem_cons.mp hu with rfl | hu
  · exact h
  · exact hr u hu
def fuelI (i : Nat) (ρ : Env) : Nat := match ρ.getD i none with
  | some (.int n) => n.toNat + 1
  | _ => 0
end Ip
namespace Ip
open PySem L2

/-! ## how the words are reckoned -/
variable {α : Type} {i j n : Nat} {ρ ρ0 ρ1 ρ2 ρ3 : Env} {d x y z : D} {ds es : List D} {f h k : Env → R D} {g : Env → R (List D)} {f2 : Env → R (D × D)} {op op' : D → D → Option D} {c c2 : Env → R Bool} {b : Bool} {fs gs body : Env → R Fl} {r : R Fl} {rd : R D} {gt : D → Env → Option Env} {F : FSem}
theorem ev_c : mC d ρ = .ok d ρ := rfl
theorem ev_var (e : ρ.getD i none = some d) : mVar i ρ = .ok d ρ := by unfold mVar; rw [e]; rfl
theorem ev_pair (e1 : f ρ = .ok x ρ1) (e2 : h ρ1 = .ok y ρ2) : mPair f h ρ = .ok (x, y) ρ2 := by unfold mPair; rw [e1]; dsimp only [R.bind]; rw [e2]
theorem ev_pairO (e1 : h ρ = .ok y ρ2) (e2 : ρ2.getD i none = some x) : mPairO i h ρ = .ok (x, y) ρ2 := by unfold mPairO; rw [e1]; dsimp only [R.bind]; rw [e2]
theorem ev_pairR (e1 : f ρ = .ok x ρ2) (e2 : ρ2.getD i none = some y) : mPairR f i ρ = .ok (x, y) ρ2 := by unfold mPairR; rw [e1]; dsimp only [R.bind]; rw [e2]
theorem ev_m2 (e1 : f2 ρ = .ok (x, y) ρ2) (e2 : op x y = some z) : m2 op f2 ρ = .ok z ρ2 := by unfold m2; rw [e1]; dsimp only [R.bind]; rw [e2]; rfl
theorem ev_un {o : D → Option D} (e1 : f ρ = .ok x ρ2) (e2 : o x = some z) : mUn o f ρ = .ok z ρ2 := by unfold mUn; rw [e1]; dsimp only [R.bind]; rw [e2]; rfl
theorem ev_nil : mNil ρ = .ok [] ρ := rfl
theorem ev_cons (e1 : f ρ = .ok x ρ1) (e2 : g ρ1 = .ok ds ρ2) : mCons f g ρ = .ok (x :: ds) ρ2 := by unfold mCons; rw [e1]; dsimp only [R.bind]; rw [e2]
theorem ev_own (e1 : g ρ = .ok ds ρ2) (e2 : ρ2.getD i none = some x) : mOwn i g ρ = .ok (x :: ds) ρ2 := by unfold mOwn; rw [e1]; dsimp only [R.bind]; rw [e2]
theorem ev_io (e1 : g ρ = .ok ds ρ2) : mIo g ρ = .ok (.non :: ds) ρ2 := by unfold mIo; rw [e1]; rfl
theorem ev_arg {o : List D → Option D} (e1 : g ρ = .ok ds ρ2) (e2 : o ds = some z) : mArg o g ρ = .ok z ρ2 := by unfold mArg; rw [e1]; dsimp only [R.bind]; rw [e2]; rfl
theorem ev_argI {o : List D → Option (List D)} (e1 : g ρ = .ok ds ρ2) (e2 : o ds = some es) : mArgI o g ρ = .ok es ρ2 := by unfold mArgI; rw [e1]; dsimp only [R.bind]; rw [e2]; rfl
theorem ev_seqI (e1 : f ρ = .ok x ρ2) (e2 : asSeq x = some es) : mSeqI f ρ = .ok es ρ2 := by unfold mSeqI; rw [e1]; dsimp only [R.bind]; rw [e2]; rfl
theorem ev_tup (e1 : g ρ = .ok ds ρ2) : mTup g ρ = .ok (.tup ds) ρ2 := by unfold mTup; rw [e1]; rfl
theorem ev_lst (e1 : g ρ = .ok ds ρ2) : mLst g ρ = .ok (.lst ds) ρ2 := by unfold mLst; rw [e1]; rfl
theorem ev_andT (e1 : f ρ = .ok (.bl true) ρ1) (e2 : h ρ1 = rd) : mAndV f h ρ = rd := by unfold mAndV; rw [e1]; exact e2
theorem ev_andF (e1 : f ρ = .ok (.bl false) ρ1) : mAndV f h ρ = .ok (.bl false) ρ1 := by unfold mAndV; rw [e1]; rfl
theorem ev_orT (e1 : f ρ = .ok (.bl true) ρ1) : mOrV f h ρ = .ok (.bl true) ρ1 := by unfold mOrV; rw [e1]; rfl
theorem ev_orF (e1 : f ρ = .ok (.bl false) ρ1) (e2 : h ρ1 = rd) : mOrV f h ρ = rd := by unfold mOrV; rw [e1]; exact e2
theorem ev_notV (e1 : f ρ = .ok (.bl b) ρ1) : mNotV f ρ = .ok (.bl (!b)) ρ1 := by unfold mNotV; rw [e1]; rfl
theorem ev_ite (e1 : c ρ = .ok b ρ1) (e2 : (if b then f ρ1 else h ρ1) = rd) : mIf c f h ρ = rd := by unfold mIf; rw [e1]; exact e2
theorem ev_test (e1 : f ρ = .ok (.bl b) ρ1) : mTest f ρ = .ok b ρ1 := by unfold mTest; rw [e1]; rfl
theorem ev_not (e1 : c ρ = .ok b ρ1) : mNot c ρ = .ok (!b) ρ1 := by unfold mNot; rw [e1]; rfl
theorem ev_tandT (e1 : c ρ = .ok true ρ1) {rb : R Bool} (e2 : c2 ρ1 = rb) : mAnd c c2 ρ = rb := by unfold mAnd; rw [e1]; exact e2
theorem ev_tandF (e1 : c ρ = .ok false ρ1) : mAnd c c2 ρ = .ok false ρ1 := by unfold mAnd; rw [e1]; rfl
theorem ev_torT (e1 : c ρ = .ok true ρ1) : mOr c c2 ρ = .ok true ρ1 := by unfold mOr; rw [e1]; rfl
theorem ev_torF (e1 : c ρ = .ok false ρ1) {rb : R Bool} (e2 : c2 ρ1 = rb) : mOr c c2 ρ = rb := by unfold mOr; rw [e1]; exact e2
theorem ev_chainT (e1 : f ρ = .ok x ρ1) (e2 : h ρ1 = .ok y ρ2) (e3 : op x y = some (.bl true)) (e4 : k ρ2 = .ok z ρ3) (e5 : op' y z = some d) : mChain op op' f h k ρ = .ok d ρ3 := by unfold mChain; rw [e1]; dsimp only [R.bind]; rw [e2]; dsimp only; rw [e3]; dsimp only; rw [e4]; dsimp only; rw [e5]; rfl
theorem ev_chainF (e1 : f ρ = .ok x ρ1) (e2 : h ρ1 = .ok y ρ2) (e3 : op x y = some (.bl false)) : mChain op op' f h k ρ = .ok (.bl false) ρ2 := by unfold mChain; rw [e1]; dsimp only [R.bind]; rw [e2]; dsimp only; rw [e3]
/-! ### statements -/
theorem ev_seq (e1 : fs ρ = .ok .nx ρ1) (e2 : gs ρ1 = r) : mSeq fs gs ρ = r := by unfold mSeq; rw [e1]; exact e2
theorem ev_seqR (e1 : fs ρ = .ok (.rt d) ρ1) : mSeq fs gs ρ = .ok (.rt d) ρ1 := by unfold mSeq; rw [e1]
theorem ev_seqX {e : Ex} (e1 : fs ρ = .exn e ρ1) : mSeq fs gs ρ = .exn e ρ1 := by unfold mSeq; rw [e1]
theorem ev_nx : mNx ρ = .ok .nx ρ := rfl
theorem ev_ifT (e1 : c ρ = .ok true ρ1) (e2 : fs ρ1 = r) : mIfS c fs gs ρ = r := by unfold mIfS; rw [e1]; exact e2
theorem ev_ifF (e1 : c ρ = .ok false ρ1) (e2 : gs ρ1 = r) : mIfS c fs gs ρ = r := by unfold mIfS; rw [e1]; exact e2
theorem ev_if (e1 : c ρ = .ok b ρ1) (e2 : (if b then fs ρ1 else gs ρ1) = r) : mIfS c fs gs ρ = r := by unfold mIfS; rw [e1]; exact e2
theorem ev_ret (e1 : f ρ = .ok d ρ1) : mRet f ρ = .ok (.rt d) ρ1 := by unfold mRet; rw [e1]; rfl
theorem ev_drop (e1 : f ρ = .ok d ρ1) : mDrop f ρ = .ok .nx ρ1 := by unfold mDrop; rw [e1]; rfl
theorem ev_dropX {e : Ex} (e1 : f ρ = .exn e ρ1) : mDrop f ρ = .exn e ρ1 := by unfold mDrop; rw [e1]; rfl
theorem ev_set (e1 : f ρ = .ok d ρ1) (hi : decide (i < ρ1.length) = true) : mSet i f ρ = .ok .nx (ρ1.set i (some d)) := by unfold mSet; rw [e1]; dsimp only [R.bind]; rw [if_pos (of_decide_eq_true hi)]
theorem ev_setO (e1 : f ρ = .ok d ρ1) (hi : decide (i < ρ1.length) = true) (ho : isObj d = true) : mSetO i f ρ = .ok .nx (ρ1.set i (some d)) := by unfold mSetO; rw [e1]; dsimp only [R.bind]; rw [if_pos ⟨of_decide_eq_true hi, ho⟩]
theorem ev_asg (e1 : f ρ = .ok d ρ1) (e2 : gt d ρ1 = some ρ2) : mAsg f gt ρ = .ok .nx ρ2 := by unfold mAsg; rw [e1]; dsimp only [R.bind]; rw [e2]
theorem ev_gIx {ds0 : List D} {q : Int} (e0 : lstO (ρ.getD i none) = some ds0) (e1 : h ρ = .ok (.int q) ρ1) (e2 : lstO (ρ1.getD i none) = some ds) (e3 : ixN ds.length q = some n) : gIx i h d ρ = some (ρ1.set i (some (.lst (ds.set n d)))) := by unfold gIx; rw [e0, e1]; dsimp only; rw [e2]; dsimp only [Option.bind]; rw [e3]; rfl
theorem ev_gDk {ks0 ds0 ks : List D} {kd : D} {kk : Key} (e0 : ρ.getD i none = some (.dic ks0 ds0)) (e1 : h ρ = .ok kd ρ1) (e2 : ρ1.getD i none = some (.dic ks ds)) (e3 : toKey kd = some kk) (e4 : ks.all isKD = true ∧ ks.length < sizeLine) : gDk i h d ρ = some (ρ1.set i (some (.dic (dPut ks ds kd d).1 (dPut ks ds kd d).2))) := by unfold gDk; rw [e0, e1]; dsimp only; rw [e2, e3]; dsimp only; rw [if_pos e4]
theorem ev_call0 {outs : List D} (e1 : g ρ = .ok ds ρ1) (e2 : F ds = .ok d outs) : mCall0 F g ρ = .ok d ρ1 := by unfold mCall0; rw [e1]; dsimp only [R.bind]; rw [e2]; rfl
theorem ev_call0X {e : Ex} {outs : List D} (e1 : g ρ = .ok ds ρ1) (e2 : F ds = .exn e outs) : mCall0 F g ρ = .exn e ρ1 := by unfold mCall0; rw [e1]; dsimp only [R.bind]; rw [e2]; rfl
theorem ev_call1 {p : Nat} {c0 c1 : D} (e1 : g ρ = .ok ds ρ1) (e2 : ρ1.getD i none = some c0) (e3 : F (ds.set p c0) = .ok d [c1]) : mCall1 F p i g ρ = .ok d (ρ1.set i (some c1)) := by unfold mCall1; rw [e1]; dsimp only [R.bind]; rw [e2]; dsimp only; rw [e3]; rfl
theorem ev_lstM {step : List D → List D → Option (D × List D)} {ds0 : List D} {zz : D × List D} (e0 : lstO (ρ.getD i none) = some ds0) (e1 : g ρ = .ok es ρ1) (e2 : lstO (ρ1.getD i none) = some ds) (e3 : step ds es = some zz) : mLstM i step g ρ = .ok zz.1 (ρ1.set i (some (.lst zz.2))) := by unfold mLstM; rw [e0]; dsimp only; rw [e1]; dsimp only [R.bind]; rw [e2]; dsimp only; rw [e3]
theorem ev_strM {o : Str → List D → Option D} {s : Str} (e1 : f ρ = .ok (.str s) ρ1) (e2 : g ρ1 = .ok ds ρ2) (e3 : o s ds = some d) : mStrM o f g ρ = .ok d ρ2 := by unfold mStrM; rw [e1]; dsimp only [R.bind]; rw [e2]; dsimp only; rw [e3]; rfl
theorem ev_rt {io : List Nat} {outs : List D} (e1 : body (env0 n ds) = .ok (.rt d) ρ) (e2 : outsOf io ρ = outs) : fnSem n io body ds = .ok d outs := by subst e2; unfold fnSem; rw [e1]; rfl
theorem ev_fnx {io : List Nat} {outs : List D} (e1 : body (env0 n ds) = .ok .nx ρ) (e2 : outsOf io ρ = outs) : fnSem n io body ds = .ok .non outs := by subst e2; unfold fnSem; rw [e1]; rfl
theorem ev_fnX {io : List Nat} {outs : List D} {e : Ex} (e1 : body (env0 n ds) = .exn e ρ) (e2 : outsOf io ρ = outs) : fnSem n io body ds = .exn e outs := by subst e2; unfold fnSem; rw [e1]; rfl
theorem ev_for {it : Env → R (List D)} (e1 : it ρ = .ok ds ρ1) (e2 : forL (gBody gt body) ds ρ1 = r) : mFor it gt body ρ = r := by unfold mFor; rw [e1]; exact e2
/-- a loop that goes to its end -/
theorem forL_inv {step : D → Env → R Fl} (Inv : Nat → Env → Prop) (hs : ∀ i d ρ, ds[i]? = some d → Inv i ρ → ∃ ρ', (step d ρ = .ok .nx ρ' ∨ step d ρ = .ok .ct ρ') ∧ Inv (i + 1) ρ') (h0 : Inv 0 ρ) : ∃ ρ', forL step ds ρ = .ok .nx ρ' ∧ Inv ds.length ρ' := by
  have key : ∀ (m : Nat) (es : List D) (ρ : Env), es = ds.drop m → m ≤ ds.length → Inv m ρ → ∃ ρ', forL step es ρ = .ok .nx ρ' ∧ Inv ds.length ρ' := by
    intro m es
    induction es generalizing m with
    | nil =>
      intro ρ e hm hi
      have : ds.length ≤ m := by
        have := congrArg List.length e
        rw [List.length_drop] at this
        simp at this; omega
      rw [show ds.length = m by omega]
      exact ⟨ρ, rfl, hi⟩
    | cons d es ih =>
      intro ρ e hm hi
      have hd : ds[m]? = some d := by
        have := congrArg (fun l => l[0]?) e
        simp only [List.getElem?_drop] at this
        simpa using this.symm
      have hes : es = ds.drop (m + 1) := by
        have := congrArg List.tail e
        simpa [List.tail_drop] using this
      obtain ⟨ρ', hq, hi'⟩ := hs m d ρ hd hi
      have hml : m + 1 ≤ ds.length := (List.getElem?_eq_some_iff.mp hd).1
      obtain ⟨ρ2, e2, h2⟩ := ih (m + 1) ρ' hes hml hi'
      refine ⟨ρ2, ?_, h2⟩
      unfold forL
      rcases hq with hq | hq <;> rw [hq] <;> exact e2
  exact key 0 ds ρ (by simp) (Nat.zero_le _) h0
theorem ev_body (e1 : gt d ρ = some ρ1) (e2 : body ρ1 = r) : gBody gt body d ρ = r := by unfold gBody; rw [e1]; exact e2
theorem ev_gNm (hi : decide (i < ρ.length) = true) : gNm i d ρ = some (ρ.set i (some d)) := by unfold gNm; rw [if_pos (of_decide_eq_true hi)]
/-- a comprehension that takes all -/
theorem compL_inv {tst : Env → R Bool} {vs : List Nat} (Inv : Nat → Env → List D → Prop)
    (hs : ∀ i d ρ acc, ds[i]? = some d → Inv i ρ acc → acc.length ≤ i ∧ ∃ ρ1 ρ2 b, gt d ρ = some ρ1 ∧ tst ρ1 = .ok b ρ2 ∧ (b = true → ∃ y ρ3, f ρ2 = .ok y ρ3 ∧ Inv (i + 1) (wipeE ρ3 vs) (acc ++ [y])) ∧ (b = false → Inv (i + 1) (wipeE ρ2 vs) acc)) (hz : ds.length < sizeLine) (h0 : Inv 0 ρ []) :
    ∃ acc ρ', compL gt tst f vs ds ρ [] = .ok acc ρ' ∧ Inv ds.length ρ' acc := by
  have key : ∀ (es : List D) (m : Nat) (ρ : Env) (acc : List D), es = ds.drop m → m ≤ ds.length → Inv m ρ acc → ∃ acc' ρ', compL gt tst f vs es ρ acc = .ok acc' ρ' ∧ Inv ds.length ρ' acc' := by
    intro es
    induction es with
    | nil =>
      intro m ρ acc e hm hi
      have : ds.length ≤ m := by
        have := congrArg List.length e
        rw [List.length_drop] at this
        simp at this; omega
      rw [show ds.length = m by omega]
      exact ⟨acc, ρ, rfl, hi⟩
    | cons d es ih =>
      intro m ρ acc e hm hi
      have hd : ds[m]? = some d := by
        have := congrArg (fun l => l[0]?) e
        simp only [List.getElem?_drop] at this
        simpa using this.symm
      have hes : es = ds.drop (m + 1) := by
        have := congrArg List.tail e
        simpa [List.tail_drop] using this
      have hml : m + 1 ≤ ds.length := (List.getElem?_eq_some_iff.mp hd).1
      obtain ⟨hl, ρ1, ρ2, b, e1, e2, ht, hf⟩ := hs m d ρ acc hd hi
      unfold compL
      rw [e1]; dsimp only; rw [e2]
      cases b with
      | true =>
        obtain ⟨y, ρ3, e3, h3⟩ := ht rfl
        dsimp only; rw [e3]; dsimp only; rw [if_pos (by omega)]
        exact ih (m + 1) _ _ hes hml h3
      | false => exact ih (m + 1) _ _ hes hml (hf rfl)
  exact key ds 0 ρ [] (by simp) (Nat.zero_le _) h0
theorem ev_lc {fi : Env → R (List D)} {tst : Env → R Bool} {vs : List Nat} (e1 : fi ρ = .ok ds ρ1) (e2 : compL gt tst f vs ds (wipeE ρ1 vs) [] = .ok es ρ2) : mLc fi gt tst f vs ρ = .ok (.lst es) (restE ρ1 ρ2 vs) := by unfold mLc; rw [e1]; dsimp only [R.bind]; rw [e2]
theorem ev_yes : mYes ρ = .ok true ρ := rfl
end Ip
namespace Ip
open PySem L2
/-! ## the words' weakest conditions: symbolic execution, one goal at a time -/
def wpx {α : Type} (E : Ex → Env → Prop) (r : R α) (P : α → Env → Prop) : Prop := match r with
  | .ok a ρ => P a ρ
  | .exn e ρ => E e ρ
  | .bad => False
/-- no exception comes -/
abbrev noE : Ex → Env → Prop := fun _ _ => False
abbrev wp {α : Type} (r : R α) (P : α → Env → Prop) : Prop := wpx noE r P
def wo (o : Option D) (ρ : Env) (P : D → Env → Prop) : Prop := match o with
  | some d => P d ρ
  | none => False
/-- a def's answer -/
def wfx (E : Ex → List D → Prop) (r : FR) (P : D → List D → Prop) : Prop := match r with
  | .ok d outs => P d outs
  | .exn e outs => E e outs
  | .bad => False
abbrev noF : Ex → List D → Prop := fun _ _ => False
abbrev wf (r : FR) (P : D → List D → Prop) : Prop := wfx noF r P
theorem wp_of {α : Type} {r : R α} {P : α → Env → Prop} (h : wp r P) : ∃ a ρ, r = .ok a ρ ∧ P a ρ := by
  cases r with
  | ok a ρ => exact ⟨a, ρ, rfl, h⟩
  | exn e ρ => exact h.elim
  | bad => exact h.elim
theorem wf_of {r : FR} {P : D → List D → Prop} (h : wf r P) : ∃ d outs, r = .ok d outs ∧ P d outs := by
  cases r with
  | ok a ρ => exact ⟨a, ρ, rfl, h⟩
  | exn e ρ => exact h.elim
  | bad => exact h.elim
theorem wp_imp {α : Type} {E : Ex → Env → Prop} {r : R α} {P Q : α → Env → Prop} (h : wpx E r P) (i : ∀ a ρ, P a ρ → Q a ρ) : wpx E r Q := by
  cases r with
  | ok a ρ => exact i a ρ h
  | exn e ρ => exact h
  | bad => exact h.elim
theorem wp_impE {α : Type} {E E2 : Ex → Env → Prop} {r : R α} {P Q : α → Env → Prop} (h : wpx E r P) (i : ∀ a ρ, P a ρ → Q a ρ) (ie : ∀ e ρ, E e ρ → E2 e ρ) : wpx E2 r Q := by
  cases r with
  | ok a ρ => exact i a ρ h
  | exn e ρ => exact ie e ρ h
  | bad => exact h.elim
/-- what raises nothing may stand anywhere -/
theorem wp_noE {α : Type} {E : Ex → Env → Prop} {r : R α} {P : α → Env → Prop} (h : wp r P) : wpx E r P := wp_impE h (fun _ _ h => h) fun _ _ h => h.elim
theorem wf_imp {E : Ex → List D → Prop} {r : FR} {P Q : D → List D → Prop} (h : wfx E r P) (i : ∀ a ρ, P a ρ → Q a ρ) : wfx E r Q := by
  cases r with
  | ok a ρ => exact i a ρ h
  | exn e ρ => exact h
  | bad => exact h.elim
theorem wf_impE {E E2 : Ex → List D → Prop} {r : FR} {P Q : D → List D → Prop} (h : wfx E r P) (i : ∀ a ρ, P a ρ → Q a ρ) (ie : ∀ e ρ, E e ρ → E2 e ρ) : wfx E2 r Q := by
  cases r with
  | ok a ρ => exact i a ρ h
  | exn e ρ => exact ie e ρ h
  | bad => exact h.elim
theorem wp_bind {α β : Type} {E : Ex → Env → Prop} {r : R α} {k : α → Env → R β} {P : β → Env → Prop} (h : wpx E r fun a ρ => wpx E (k a ρ) P) : wpx E (r.bind k) P := by
  cases r with
  | ok a ρ => exact h
  | exn e ρ => exact h
  | bad => exact h.elim
section
variable {E : Ex → Env → Prop} {i j n : Nat} {ρ : Env} {d x y z : D} {f h k : Env → R D} {g : Env → R (List D)} {f2 : Env → R (D × D)} {op op' : D → D → Option D} {c c2 : Env → R Bool} {b : Bool} {fs gs body : Env → R Fl} {gt : D → Env → Option Env} {F : FSem} {P : D → Env → Prop} {PL : List D → Env → Prop} {PB : Bool → Env → Prop} {PS : Fl → Env → Prop} {P2 : D × D → Env → Prop}
theorem wo_ofO {o : Option D} (w : wo o ρ P) : wpx E (ofO ρ o) P := by cases o with | none => exact w.elim | some d => exact w
theorem w_c (w : P d ρ) : wpx E (mC d ρ) P := w
theorem w_var (e : ρ.getD i none = some d) (w : P d ρ) : wpx E (mVar i ρ) P := by unfold mVar; rw [e]; exact w
theorem w_pair (w : wpx E (f ρ) fun x ρ1 => wpx E (h ρ1) fun y ρ2 => P2 (x, y) ρ2) : wpx E (mPair f h ρ) P2 := wp_bind (wp_imp w fun x ρ1 w1 => wp_bind w1)
theorem w_pairO (w : wpx E (h ρ) fun y ρ2 => ∃ x, ρ2.getD i none = some x ∧ P2 (x, y) ρ2) : wpx E (mPairO i h ρ) P2 := wp_bind (wp_imp w fun y ρ2 ⟨x, e, w1⟩ => by rw [e]; exact w1)
theorem w_pairR (w : wpx E (f ρ) fun x ρ2 => ∃ y, ρ2.getD i none = some y ∧ P2 (x, y) ρ2) : wpx E (mPairR f i ρ) P2 := wp_bind (wp_imp w fun y ρ2 ⟨x, e, w1⟩ => by rw [e]; exact w1)
theorem w_m2 (w : wpx E (f2 ρ) fun p ρ2 => wo (op p.1 p.2) ρ2 P) : wpx E (m2 op f2 ρ) P := wp_bind (wp_imp w fun p ρ2 w1 => wo_ofO w1)
theorem w_un {o : D → Option D} (w : wpx E (f ρ) fun x ρ2 => wo (o x) ρ2 P) : wpx E (mUn o f ρ) P := wp_bind (wp_imp w fun p ρ2 w1 => wo_ofO w1)
theorem w_nil (w : PL [] ρ) : wpx E (mNil ρ) PL := w
theorem w_cons (w : wpx E (f ρ) fun x ρ1 => wpx E (g ρ1) fun ds ρ2 => PL (x :: ds) ρ2) : wpx E (mCons f g ρ) PL := wp_bind (wp_imp w fun x ρ1 w1 => wp_bind w1)
theorem w_own (w : wpx E (g ρ) fun ds ρ2 => ∃ x, ρ2.getD i none = some x ∧ PL (x :: ds) ρ2) : wpx E (mOwn i g ρ) PL := wp_bind (wp_imp w fun y ρ2 ⟨x, e, w1⟩ => by rw [e]; exact w1)
theorem w_io (w : wpx E (g ρ) fun ds ρ2 => PL (.non :: ds) ρ2) : wpx E (mIo g ρ) PL := wp_bind w
theorem w_arg {o : List D → Option D} (w : wpx E (g ρ) fun ds ρ2 => wo (o ds) ρ2 P) : wpx E (mArg o g ρ) P := wp_bind (wp_imp w fun p ρ2 w1 => wo_ofO w1)
theorem w_argI {o : List D → Option (List D)} (w : wpx E (g ρ) fun ds ρ2 => ∃ es, o ds = some es ∧ PL es ρ2) : wpx E (mArgI o g ρ) PL := wp_bind (wp_imp w fun p ρ2 ⟨es, e, w1⟩ => by rw [e]; exact w1)
theorem w_seqI (w : wpx E (f ρ) fun d ρ2 => ∃ es, asSeq d = some es ∧ PL es ρ2) : wpx E (mSeqI f ρ) PL := wp_bind (wp_imp w fun p ρ2 ⟨es, e, w1⟩ => by rw [e]; exact w1)
theorem w_tup (w : wpx E (g ρ) fun ds ρ2 => P (.tup ds) ρ2) : wpx E (mTup g ρ) P := wp_bind w
theorem w_lst (w : wpx E (g ρ) fun ds ρ2 => P (.lst ds) ρ2) : wpx E (mLst g ρ) P := wp_bind w
theorem w_and (w : wpx E (f ρ) fun d ρ1 => ∃ b, d = .bl b ∧ if b = true then wpx E (h ρ1) P else P (.bl false) ρ1) : wpx E (mAndV f h ρ) P := wp_bind (wp_imp w fun d ρ1 ⟨b, e, w1⟩ => by subst e; cases b with | true => exact w1 | false => exact w1)
theorem w_or (w : wpx E (f ρ) fun d ρ1 => ∃ b, d = .bl b ∧ if b = true then P (.bl true) ρ1 else wpx E (h ρ1) P) : wpx E (mOrV f h ρ) P := wp_bind (wp_imp w fun d ρ1 ⟨b, e, w1⟩ => by subst e; cases b with | true => exact w1 | false => exact w1)
theorem w_notV (w : wpx E (f ρ) fun d ρ1 => ∃ b, d = .bl b ∧ P (.bl (!b)) ρ1) : wpx E (mNotV f ρ) P := wp_bind (wp_imp w fun d ρ1 ⟨b, e, w1⟩ => by subst e; exact w1)
theorem w_ite (w : wpx E (c ρ) fun b ρ1 => if b = true then wpx E (f ρ1) P else wpx E (h ρ1) P) : wpx E (mIf c f h ρ) P := wp_bind (wp_imp w fun b ρ1 w1 => by cases b with | true => exact w1 | false => exact w1)
theorem w_test (w : wpx E (f ρ) fun d ρ1 => ∃ b, d = .bl b ∧ PB b ρ1) : wpx E (mTest f ρ) PB := wp_bind (wp_imp w fun d ρ1 ⟨b, e, w1⟩ => by subst e; exact w1)
theorem w_not (w : wpx E (c ρ) fun b ρ1 => PB (!b) ρ1) : wpx E (mNot c ρ) PB := wp_bind w
theorem w_tand (w : wpx E (c ρ) fun b ρ1 => if b = true then wpx E (c2 ρ1) PB else PB false ρ1) : wpx E (mAnd c c2 ρ) PB := wp_bind (wp_imp w fun b ρ1 w1 => by cases b with | true => exact w1 | false => exact w1)
theorem w_tor (w : wpx E (c ρ) fun b ρ1 => if b = true then PB true ρ1 else wpx E (c2 ρ1) PB) : wpx E (mOr c c2 ρ) PB := wp_bind (wp_imp w fun b ρ1 w1 => by cases b with | true => exact w1 | false => exact w1)
theorem w_chain (w : wpx E (f ρ) fun x ρ1 => wpx E (h ρ1) fun y ρ2 => ∃ b, op x y = some (.bl b) ∧ if b = true then wpx E (k ρ2) fun z ρ3 => wo (op' y z) ρ3 P else P (.bl false) ρ2) : wpx E (mChain op op' f h k ρ) P :=
  wp_bind (wp_imp w fun x ρ1 w1 => wp_bind (wp_imp w1 fun y ρ2 ⟨b, e, w2⟩ => by
    rw [e]
    cases b with
    | true => exact wp_bind (wp_imp w2 fun z ρ3 w3 => wo_ofO w3)
    | false => exact w2))
theorem w_call0 (w : wpx E (g ρ) fun ds ρ1 => wfx (fun e _ => E e ρ1) (F ds) fun d _ => P d ρ1) : wpx E (mCall0 F g ρ) P := wp_bind (wp_imp w fun ds ρ1 w1 => by
  cases q : F ds <;> rw [q] at w1 <;> exact w1)
theorem w_call1 {p : Nat} (w : wpx E (g ρ) fun ds ρ1 => ∃ c0, ρ1.getD i none = some c0 ∧ wfx (fun e outs => ∃ c1, outs = [c1] ∧ E e (ρ1.set i (some c1))) (F (ds.set p c0)) fun d outs => ∃ c1, outs = [c1] ∧ P d (ρ1.set i (some c1))) : wpx E (mCall1 F p i g ρ) P := wp_bind (wp_imp w fun ds ρ1 ⟨c0, e0, w1⟩ => by
  rw [e0]; dsimp only
  cases q : F (ds.set p c0) <;> rw [q] at w1
  · obtain ⟨c1, rfl, w2⟩ := w1; exact w2
  · obtain ⟨c1, rfl, w2⟩ := w1; exact w2
  · exact w1)
theorem w_lstM {step : List D → List D → Option (D × List D)} (w : ∃ ds0, lstO (ρ.getD i none) = some ds0 ∧ wpx E (g ρ) fun es ρ1 => ∃ ds, lstO (ρ1.getD i none) = some ds ∧ ∃ z, step ds es = some z ∧ P z.1 (ρ1.set i (some (.lst z.2)))) : wpx E (mLstM i step g ρ) P := by
  obtain ⟨ds0, e0, w⟩ := w
  unfold mLstM
  rw [e0]
  exact wp_bind (wp_imp w fun es ρ1 ⟨ds, e1, z, e2, w1⟩ => by rw [e1]; dsimp only; rw [e2]; exact w1)
theorem w_strM {o : Str → List D → Option D} (w : wpx E (f ρ) fun d ρ1 => ∃ s, d = .str s ∧ wpx E (g ρ1) fun ds ρ2 => wo (o s ds) ρ2 P) : wpx E (mStrM o f g ρ) P := wp_bind (wp_imp w fun d ρ1 ⟨s, e, w1⟩ => by subst e; exact wp_bind (wp_imp w1 fun ds ρ2 w2 => wo_ofO w2))
theorem w_slice {l u : Env → R (Option Int)} (w : wpx E (f ρ) fun d ρ1 => ∃ s, d = .str s ∧ wpx E (l ρ1) fun lo ρ2 => wpx E (u ρ2) fun hi ρ3 => s.length ≤ sizeLine ∧ P (.str (cutS s lo hi)) ρ3) : wpx E (mSlice f l u ρ) P := wp_bind (wp_imp w fun d ρ1 ⟨s, e, w1⟩ => by
  subst e
  exact wp_bind (wp_imp w1 fun lo ρ2 w2 => wp_bind (wp_imp w2 fun hi ρ3 ⟨h, w3⟩ => wo_ofO (by unfold ifO; rw [if_pos h]; exact w3))))
theorem w_oN {PO : Option Int → Env → Prop} (w : PO none ρ) : wpx E (mONone ρ) PO := w
theorem w_oS {PO : Option Int → Env → Prop} (w : wpx E (f ρ) fun d ρ1 => ∃ q, d = .int q ∧ PO (some q) ρ1) : wpx E (mOSome f ρ) PO := wp_bind (wp_imp w fun d ρ1 ⟨q, e, w1⟩ => by subst e; exact w1)
/-! ### statements: PS tells of the flow -/
def wsq (E : Ex → Env → Prop) (gs : Env → R Fl) (PS : Fl → Env → Prop) : Fl → Env → Prop
  | .nx, ρ => wpx E (gs ρ) PS
  | o, ρ => PS o ρ
theorem q_nx (w : wpx E (gs ρ) PS) : wsq E gs PS .nx ρ := w
theorem q_rt (w : PS (.rt d) ρ) : wsq E gs PS (.rt d) ρ := w
theorem q_bk (w : PS .bk ρ) : wsq E gs PS .bk ρ := w
theorem q_ct (w : PS .ct ρ) : wsq E gs PS .ct ρ := w
def wfe (io : List Nat) (PF : D → List D → Prop) : Fl → Env → Prop
  | .rt d, ρ => PF d (outsOf io ρ)
  | .nx, ρ => PF .non (outsOf io ρ)
  | _, _ => False
theorem e_rt {io : List Nat} {PF : D → List D → Prop} (w : PF d (outsOf io ρ)) : wfe io PF (.rt d) ρ := w
theorem e_nx {io : List Nat} {PF : D → List D → Prop} (w : PF .non (outsOf io ρ)) : wfe io PF .nx ρ := w
theorem i_t {A B : Prop} (w : A) : if true = true then A else B := w
theorem i_f {A B : Prop} (w : B) : if false = true then A else B := w
theorem i_nt {A B : Prop} (w : B) : if (!true) = true then A else B := w
theorem i_nf {A B : Prop} (w : A) : if (!false) = true then A else B := w
theorem w_seq (w : wpx E (fs ρ) (wsq E gs PS)) : wpx E (mSeq fs gs ρ) PS := by
  unfold mSeq
  cases q : fs ρ with
  | ok fl ρ1 => rw [q] at w; cases fl <;> exact w
  | exn e ρ1 => rw [q] at w; exact w
  | bad => rw [q] at w; exact w.elim
theorem w_nx (w : PS .nx ρ) : wpx E (mNx ρ) PS := w
theorem w_if (w : wpx E (c ρ) fun b ρ1 => if b = true then wpx E (fs ρ1) PS else wpx E (gs ρ1) PS) : wpx E (mIfS c fs gs ρ) PS := wp_bind (wp_imp w fun b ρ1 w1 => by cases b with | true => exact w1 | false => exact w1)
theorem w_ret (w : wpx E (f ρ) fun d ρ1 => PS (.rt d) ρ1) : wpx E (mRet f ρ) PS := wp_bind w
theorem w_drop (w : wpx E (f ρ) fun d ρ1 => PS .nx ρ1) : wpx E (mDrop f ρ) PS := wp_bind w
theorem w_set (w : wpx E (f ρ) fun d ρ1 => decide (i < ρ1.length) = true ∧ PS .nx (ρ1.set i (some d))) : wpx E (mSet i f ρ) PS := wp_bind (wp_imp w fun d ρ1 ⟨e, w1⟩ => by rw [if_pos (of_decide_eq_true e)]; exact w1)
theorem w_setO (w : wpx E (f ρ) fun d ρ1 => decide (i < ρ1.length) = true ∧ isObj d = true ∧ PS .nx (ρ1.set i (some d))) : wpx E (mSetO i f ρ) PS := wp_bind (wp_imp w fun d ρ1 ⟨e, e2, w1⟩ => by rw [if_pos ⟨of_decide_eq_true e, e2⟩]; exact w1)
theorem w_asg (w : wpx E (f ρ) fun d ρ1 => ∃ ρ2, gt d ρ1 = some ρ2 ∧ PS .nx ρ2) : wpx E (mAsg f gt ρ) PS := wp_bind (wp_imp w fun d ρ1 ⟨ρ2, e, w1⟩ => by rw [e]; exact w1)
theorem w_gIx {v : D} {Q : Env → Prop} (w : ∃ ds0, lstO (ρ.getD i none) = some ds0 ∧ wp (h ρ) fun kd ρ1 => ∃ q ds n, kd = .int q ∧ lstO (ρ1.getD i none) = some ds ∧ ixN ds.length q = some n ∧ Q (ρ1.set i (some (.lst (ds.set n v))))) : ∃ ρ2, gIx i h v ρ = some ρ2 ∧ Q ρ2 := by
  obtain ⟨ds0, e0, w⟩ := w
  obtain ⟨kd, ρ1, e1, q, ds, n, rfl, e2, e3, w1⟩ := wp_of w
  exact ⟨_, ev_gIx e0 e1 e2 e3, w1⟩
theorem w_fn {EF : Ex → List D → Prop} {io : List Nat} {ds : List D} {PF : D → List D → Prop} (w : wpx (fun e ρ => EF e (outsOf io ρ)) (body (env0 n ds)) (wfe io PF)) : wfx EF (fnSem n io body ds) PF := by
  unfold fnSem
  cases q : body (env0 n ds) with
  | ok fl ρ1 => rw [q] at w; cases fl <;> first | exact w | exact w.elim
  | exn e ρ1 => rw [q] at w; exact w
  | bad => rw [q] at w; exact w.elim
theorem w_for {it : Env → R (List D)} (w : wpx E (it ρ) fun ds ρ1 => wpx E (forL (gBody gt body) ds ρ1) PS) : wpx E (mFor it gt body ρ) PS := wp_bind w
/-- a loop: each turn goes on, or ends it -/
theorem forL_run {step : D → Env → R Fl} {ds : List D} (Inv : Nat → Env → Prop) (hs : ∀ i d ρ, ds[i]? = some d → Inv i ρ → wpx E (step d ρ) fun fl ρ' => ((fl = .nx ∨ fl = .ct) ∧ Inv (i + 1) ρ') ∨ (fl = .bk ∧ PS .nx ρ') ∨ ∃ d, fl = .rt d ∧ PS (.rt d) ρ') (h0 : Inv 0 ρ) (hd : ∀ ρ, Inv ds.length ρ → PS .nx ρ) : wpx E (forL step ds ρ) PS := by
  have key : ∀ (es : List D) (m : Nat) (ρ : Env), es = ds.drop m → m ≤ ds.length → Inv m ρ → wpx E (forL step es ρ) PS := by
    intro es
    induction es with
    | nil =>
      intro m ρ e hm hi
      have : ds.length ≤ m := by
        have := congrArg List.length e
        rw [List.length_drop] at this
        simp at this; omega
      have hm' : m = ds.length := by omega
      exact hd ρ (hm' ▸ hi)
    | cons d es ih =>
      intro m ρ e hm hi
      have hdm : ds[m]? = some d := by
        have := congrArg (fun l => l[0]?) e
        simp only [List.getElem?_drop] at this
        simpa using this.symm
      have hes : es = ds.drop (m + 1) := by
        have := congrArg List.tail e
        simpa [List.tail_drop] using this
      have hml : m + 1 ≤ ds.length := (List.getElem?_eq_some_iff.mp hdm).1
      have w := hs m d ρ hdm hi
      unfold forL
      cases q : step d ρ with
      | bad => rw [q] at w; exact w.elim
      | exn e1 ρ' => rw [q] at w; exact w
      | ok fl ρ' =>
        rw [q] at w
        rcases w with ⟨rfl | rfl, h⟩ | ⟨rfl, h⟩ | ⟨q, rfl, h⟩
        · exact ih (m + 1) ρ' hes hml h
        · exact ih (m + 1) ρ' hes hml h
        · exact h
        · exact h
  exact key ds 0 ρ (by simp) (Nat.zero_le _) h0
theorem w_run {ds : List D} (Inv : Nat → Env → Prop) (h0 : Inv 0 ρ) (hs : ∀ i d ρ, ds[i]? = some d → Inv i ρ → ∃ ρ1, gt d ρ = some ρ1 ∧ wpx E (body ρ1) fun fl ρ2 => ((fl = .nx ∨ fl = .ct) ∧ Inv (i + 1) ρ2) ∨ (fl = .bk ∧ PS .nx ρ2) ∨ ∃ d, fl = .rt d ∧ PS (.rt d) ρ2) (hd : ∀ ρ, Inv ds.length ρ → PS .nx ρ) : wpx E (forL (gBody gt body) ds ρ) PS :=
  forL_run Inv (fun i d ρ hd hi => by
    obtain ⟨ρ1, e1, w⟩ := hs i d ρ hd hi
    unfold gBody
    rw [e1]
    exact w) h0 hd
theorem w_loop {ds : List D} (Inv : Nat → Env → Prop) (h0 : Inv 0 ρ) (hs : ∀ i d ρ, ds[i]? = some d → Inv i ρ → ∃ ρ1, gt d ρ = some ρ1 ∧ wpx E (body ρ1) fun fl ρ2 => (fl = .nx ∨ fl = .ct) ∧ Inv (i + 1) ρ2) (hd : ∀ ρ, Inv ds.length ρ → PS .nx ρ) : wpx E (forL (gBody gt body) ds ρ) PS :=
  w_run Inv h0 (fun i d ρ hd hi => by
    obtain ⟨ρ1, e1, w⟩ := hs i d ρ hd hi
    exact ⟨ρ1, e1, wp_imp w fun _ _ h => .inl h⟩) hd
/-- a loop of checks that all hold: the frame is kept, but for what the loop itself names -/
theorem w_all {ds : List D} {α : Type} (f : α → Env) (a : α) (e : ρ = f a) (hs : ∀ d a, d ∈ ds → ∃ ρ1, gt d (f a) = some ρ1 ∧ wpx E (body ρ1) fun fl ρ2 => (fl = .nx ∨ fl = .ct) ∧ ∃ a, ρ2 = f a) (hd : ∀ a, PS .nx (f a)) : wpx E (forL (gBody gt body) ds ρ) PS :=
  w_loop (fun _ ρ => ∃ a, ρ = f a) ⟨a, e⟩ (fun i d ρ hi ⟨a, ea⟩ => by rw [ea]; exact hs d a (List.mem_of_getElem? hi)) (fun ρ ⟨a, ea⟩ => by rw [ea]; exact hd a)
theorem w_lc {fi : Env → R (List D)} {tst : Env → R Bool} {vs : List Nat} (w : wpx E (fi ρ) fun ds ρ1 => ds.length < sizeLine ∧ ∃ Inv : Nat → Env → List D → Prop, Inv 0 (wipeE ρ1 vs) [] ∧
    (∀ i d ρ acc, ds[i]? = some d → Inv i ρ acc → acc.length ≤ i ∧ ∃ ρa, gt d ρ = some ρa ∧ wp (tst ρa) fun b ρb => if b = true then wp (f ρb) fun y ρc => Inv (i + 1) (wipeE ρc vs) (acc ++ [y]) else Inv (i + 1) (wipeE ρb vs) acc) ∧
    ∀ ρ2 acc, Inv ds.length ρ2 acc → P (.lst acc) (restE ρ1 ρ2 vs)) : wpx E (mLc fi gt tst f vs ρ) P := wp_bind (wp_imp w fun ds ρ1 ⟨hz, Iv, h0, hs, hd⟩ => by
  obtain ⟨acc, ρ2, e, hi⟩ := compL_inv (gt := gt) (tst := tst) (f := f) (vs := vs) Iv (fun i d ρ acc hd' hi => by
    obtain ⟨hl, ρa, e1, w⟩ := hs i d ρ acc hd' hi
    obtain ⟨b, ρb, e2, w2⟩ := wp_of w
    refine ⟨hl, ρa, ρb, b, e1, e2, fun hb => ?_, fun hb => ?_⟩
    · subst hb
      rw [if_pos rfl] at w2
      obtain ⟨y, ρc, e3, w3⟩ := wp_of w2
      exact ⟨y, ρc, e3, w3⟩
    · subst hb
      rw [if_neg Bool.false_ne_true] at w2
      exact w2) hz h0
  rw [e]
  exact hd ρ2 acc hi)
theorem w_yes (w : PB true ρ) : wpx E (mYes ρ) PB := w
/-! ### operators -/
theorem o_some {o : Option D} (e : o = some d) (w : P d ρ) : wo o ρ P := by rw [e]; exact w
theorem o_add {a b : Int} (w : P (.int (a + b)) ρ) : wo (addD (.int a) (.int b)) ρ P := w
theorem o_sub {a b : Int} (w : P (.int (a - b)) ρ) : wo (subD (.int a) (.int b)) ρ P := w
theorem o_cat {a b : Str} (hl : a.length + b.length ≤ sizeLine) (w : P (.str (a ++ b)) ρ) : wo (addD (.str a) (.str b)) ρ P := o_some (show (if _ then _ else none) = _ from if_pos hl) w
theorem o_mulR {a b : Int} (hb : -(2 ^ 64) < b ∧ b < 2 ^ 64) (w : P (.int (a * b)) ρ) : wo (mulD (.int a) (.int b)) ρ P := o_some (show (if _ then _ else none) = _ from if_pos (.inl hb)) w
theorem o_mulL {a b : Int} (hb : -(2 ^ 64) < a ∧ a < 2 ^ 64) (w : P (.int (a * b)) ρ) : wo (mulD (.int a) (.int b)) ρ P := o_some (show (if _ then _ else none) = _ from if_pos (.inr (.inl hb))) w
theorem o_mod {a b : Int} (hb : 0 < b) (w : P (.int (a % b)) ρ) : wo (modD (.int a) (.int b)) ρ P := o_some (show (if _ then _ else none) = _ from if_pos hb) w
theorem o_div {a b : Int} (hb : 0 < b) (hl : b.natAbs.log2 < 9000) (w : P (.int (a / b)) ρ) : wo (fdivD (.int a) (.int b)) ρ P := o_some (show (if _ then _ else none) = _ from if_pos ⟨hb, hl⟩) w
theorem o_pow {a b : Int} (hb : 0 ≤ b ∧ b ≤ 1000000 ∧ a.natAbs < 2 ^ 64) (w : P (.int (a ^ b.toNat)) ρ) : wo (powD (.int a) (.int b)) ρ P := o_some (show (if _ then _ else none) = _ from if_pos hb) w
theorem o_lt {a b : Int} (w : P (.bl (decide (a < b))) ρ) : wo (ltD (.int a) (.int b)) ρ P := w
theorem o_le {a b : Int} (w : P (.bl (decide (a ≤ b))) ρ) : wo (leD (.int a) (.int b)) ρ P := w
theorem o_gt {a b : Int} (w : P (.bl (decide (b < a))) ρ) : wo (gtD (.int a) (.int b)) ρ P := w
theorem o_ge {a b : Int} (w : P (.bl (decide (b ≤ a))) ρ) : wo (geD (.int a) (.int b)) ρ P := w
theorem o_int {a : Int} (w : P (.int a) ρ) : wo (oInt [.int a]) ρ P := w
theorem o_abs {a : Int} (w : P (.int (if a < 0 then -a else a)) ρ) : wo (oAbs [.int a]) ρ P := w
theorem o_lenS {s : Str} (hl : s.length ≤ sizeLine) (w : P (.int s.length) ρ) : wo (oLen [.str s]) ρ P := o_some (show (if _ then _ else none) = _ from if_pos hl) w
theorem o_lenL {ds : List D} (w : P (.int ds.length) ρ) : wo (oLen [.lst ds]) ρ P := w
theorem o_lenT {ds : List D} (w : P (.int ds.length) ρ) : wo (oLen [.tup ds]) ρ P := w
theorem o_ixL {ds : List D} {q : Int} (e : atI ds q = some d) (w : P d ρ) : wo (ixD (.lst ds) (.int q)) ρ P := o_some (show atI ds q = _ from e) w
theorem o_ixT {ds : List D} {q : Int} (e : atI ds q = some d) (w : P d ρ) : wo (ixD (.tup ds) (.int q)) ρ P := o_some (show atI ds q = _ from e) w
theorem r_1 {PL : List D → Env → Prop} {q : Int} (hb : -(2 ^ 62) ≤ q ∧ q < 2 ^ 62) (w : PL ((List.range q.toNat).map fun i => .int (i : Nat)) ρ) : ∃ es, asR1 [.int q] = some es ∧ PL es ρ := ⟨_, if_pos hb, w⟩
theorem r_2 {PL : List D → Env → Prop} {a b : Int} (hb : -(2 ^ 62) ≤ a ∧ a < 2 ^ 62 ∧ -(2 ^ 62) ≤ b ∧ b < 2 ^ 62) (w : PL ((List.range (b - a).toNat).map fun i => .int (a + (i : Nat))) ρ) : ∃ es, asR2 [.int a, .int b] = some es ∧ PL es ρ := ⟨_, if_pos hb, w⟩
theorem o_isi {T : String} {t : String} (e : tyD d = some t) (w : P (.bl (subT t T)) ρ) : wo (isiD T d) ρ P := o_some (show (tyD d).map _ = _ by rw [e]; rfl) w
end
end Ip
namespace Ip
open PySem L2
section
variable {i j n : Nat} {ρ : Env} {d x y z : D}
theorem x_bl {b : Bool} {Q : Bool → Prop} (w : Q b) : ∃ c, D.bl b = .bl c ∧ Q c := ⟨b, rfl, w⟩
theorem x_int {q : Int} {Q : Int → Prop} (w : Q q) : ∃ c, D.int q = .int c ∧ Q c := ⟨q, rfl, w⟩
theorem x_str {s : Str} {Q : Str → Prop} (w : Q s) : ∃ c, D.str s = .str c ∧ Q c := ⟨s, rfl, w⟩
theorem x_sqL {ds : List D} {Q : List D → Prop} (w : Q ds) : ∃ es, asSeq (.lst ds) = some es ∧ Q es := ⟨ds, rfl, w⟩
theorem x_sqT {ds : List D} {Q : List D → Prop} (w : Q ds) : ∃ es, asSeq (.tup ds) = some es ∧ Q es := ⟨ds, rfl, w⟩
theorem x_env {Q : D → Prop} (e : ρ.getD i none = some d) (w : Q d) : ∃ x, ρ.getD i none = some x ∧ Q x := ⟨d, e, w⟩
theorem x_lst {ds : List D} {Q : List D → Prop} (e : ρ.getD i none = some (.lst ds)) (w : Q ds) : ∃ es, lstO (ρ.getD i none) = some es ∧ Q es := ⟨ds, by rw [e]; rfl, w⟩
theorem x_out {Q : D → Prop} (w : Q d) : ∃ c1, [d] = [c1] ∧ Q c1 := ⟨d, rfl, w⟩
theorem x_some {α : Type} {a : α} {Q : α → Prop} (w : Q a) : ∃ c1, some a = some c1 ∧ Q c1 := ⟨a, rfl, w⟩
theorem x_slot {Q : Prop} (e : i < ρ.length) (w : Q) : decide (i < ρ.length) = true ∧ Q := ⟨decide_eq_true e, w⟩
theorem x_objL {ds : List D} {Q : Prop} (w : Q) : isObj (.lst ds) = true ∧ Q := ⟨rfl, w⟩
theorem x_objI {c : Str} {ns : List Str} {ds : List D} {Q : Prop} (w : Q) : isObj (.obj c ns ds) = true ∧ Q := ⟨rfl, w⟩
theorem x_nm {d : D} {Q : Env → Prop} (e : i < ρ.length) (w : Q (ρ.set i (some d))) : ∃ ρ1, gNm i d ρ = some ρ1 ∧ Q ρ1 := ⟨_, if_pos e, w⟩
theorem fl_nx {Q : Prop} (w : Q) : (Fl.nx = .nx ∨ Fl.nx = .ct) ∧ Q := ⟨.inl rfl, w⟩
theorem fl_ct {Q : Prop} (w : Q) : (Fl.ct = .nx ∨ Fl.ct = .ct) ∧ Q := ⟨.inr rfl, w⟩
/-- a call of a def whose answer is known by a lemma -/
theorem f_use {EF : Ex → List D → Prop} {F : FSem} {ds : List D} {P Q : D → List D → Prop} (h : wf (F ds) P) (w : ∀ d outs, P d outs → Q d outs) : wfx EF (F ds) Q := wf_impE h w fun _ _ h => h.elim
theorem x_r1 {Q : List D → Prop} {q : Int} (hb : -(2 ^ 62) ≤ q ∧ q < 2 ^ 62) (w : Q ((List.range q.toNat).map fun i => .int (i : Nat))) : ∃ es, asR1 [.int q] = some es ∧ Q es := ⟨_, if_pos hb, w⟩
theorem x_r2 {Q : List D → Prop} {a b : Int} (hb : -(2 ^ 62) ≤ a ∧ a < 2 ^ 62 ∧ -(2 ^ 62) ≤ b ∧ b < 2 ^ 62) (w : Q ((List.range (b - a).toNat).map fun i => .int (a + (i : Nat)))) : ∃ es, asR2 [.int a, .int b] = some es ∧ Q es := ⟨_, if_pos hb, w⟩
end
end Ip
namespace Ip
open PySem L2
section
variable {X : Cx} {C : Ac} {W : WX} {Γ Γ1 : List Nat} {fr : Bool} {a : Expr} {f : Env → R D} {pos p2 p3 : Pos}
/-- xs[:n] of a list, n written in the text: a new list -/
def mCutL (n : Nat) (f : Env → R D) : Env → R D := fun ρ => (f ρ).bind fun d ρ1 => match d with
  | .lst ds => .ok (.lst (ds.take n)) ρ1
  | _ => .bad
theorem cutV_first (xs : List V) (n : Nat) : cutV xs none (some (n : Int)) = xs.take n := by
  unfold cutV
  rw [HT.sIx_none, HT.sIx_nat, List.drop_zero, Nat.sub_zero]
  rcases Nat.le_total n xs.length with h | h
  · rw [Nat.min_eq_left h]
  · rw [Nat.min_eq_right h, List.take_length, List.take_of_length_le h]
theorem se_cutL {n j : Nat} (ha : SE X C W Γ a Γ1 fr f) : SE X C W Γ (.Subscript a (.Slice none (some (.Constant (.int (n : Int)) j p3)) none p2) pos) Γ1 true (mCutL n f) := ⟨peImp (pe_slice sl_list ha.pe po_none (po_some pe_int)) fun σ H Q ⟨hid, ρ, S, p⟩ => by
  refine ⟨hid, ρ, S, ?_⟩
  unfold mCutL at p
  cases q : f ρ with
  | bad => rw [q] at p; exact p
  | exn e ρ' => rw [q] at p; exact p
  | ok d ρ1 =>
    rw [q] at p
    dsimp only [R.bind] at p
    intro v H1 tm S1 k1 va t1
    cases d with
    | lst ds =>
      have s := va.shal0
      cases s with
      | lst h r =>
        refine ⟨_, rfl, _, _, rfl, h, fun q hq => ?_⟩
        rw [cutV_first]
        exact fin_fr p S.sub S1 k1 q _ hq (.lst upd_same (r.take n))
    | _ => exact (show False from p).elim⟩
end
end Ip
namespace Ip
open PySem L2
section
variable {E : Ex → Env → Prop} {i j n : Nat} {ρ : Env} {d x y z : D} {f h : Env → R D} {g : Env → R (List D)} {gt : D → Env → Option Env} {fs body : Env → R Fl} {PS : Fl → Env → Prop} {P : D → Env → Prop} {PL : List D → Env → Prop} {F : FSem}
/-- a comprehension without a test, its items told one by one -/
theorem w_map {fi : Env → R (List D)} {f : Env → R D} {vs : List Nat} (w : wpx E (fi ρ) fun ds ρ1 => ds.length < sizeLine ∧ ∃ (g : D → D), (∀ d, d ∈ ds → ∃ ρa, gt d (wipeE ρ1 vs) = some ρa ∧ wp (f ρa) fun y ρb => y = g d ∧ wipeE ρb vs = wipeE ρ1 vs) ∧ P (.lst (ds.map g)) (restE ρ1 (wipeE ρ1 vs) vs)) : wpx E (mLc fi gt mYes f vs ρ) P := w_lc (wp_imp w fun ds ρ1 ⟨hz, g, hs, hp⟩ => by
  refine ⟨hz, fun i ρ acc => ρ = wipeE ρ1 vs ∧ acc = (ds.take i).map g, ⟨rfl, rfl⟩, fun i d ρ acc hd hi => ?_, fun ρ2 acc hi => ?_⟩
  · obtain ⟨rfl, rfl⟩ := hi
    obtain ⟨ρa, e1, w⟩ := hs d (List.mem_of_getElem? hd)
    refine ⟨by rw [List.length_map, List.length_take]; omega, ρa, e1, w_yes ?_⟩
    rw [if_pos rfl]
    refine wp_imp w fun y ρb ⟨e2, e3⟩ => ⟨e3, ?_⟩
    rw [List.take_succ, hd, List.map_append, e2]
    rfl
  · obtain ⟨rfl, rfl⟩ := hi
    rw [List.take_length]
    exact hp)
/-! ### words not told before -/
theorem w_cutL {n : Nat} (w : wpx E (f ρ) fun d ρ1 => ∃ ds, d = .lst ds ∧ P (.lst (ds.take n)) ρ1) : wpx E (mCutL n f ρ) P := wp_bind (wp_imp w fun d ρ1 ⟨ds, e, w1⟩ => by subst e; exact w1)
theorem w_enumS (w : wpx E (f ρ) fun d ρ1 => ∃ s : Str, d = .str s ∧ PL (enumL 0 (s.cps.toList.map chD)) ρ1) : wpx E (mEnumS f ρ) PL := wp_bind (wp_imp w fun d ρ1 ⟨s, e, w1⟩ => by subst e; exact w1)
theorem w_fld {cs : List Str} {nm : Str} (w : wpx E (f ρ) fun o ρ1 => ∃ c, clsOf o = some c ∧ cs.contains c = true ∧ wo (fldD nm o) ρ1 P) : wpx E (mFld cs nm f ρ) P := wp_bind (wp_imp w fun d ρ1 ⟨c, e1, e2, w1⟩ => by rw [e1]; dsimp only; rw [if_pos e2]; exact wo_ofO w1)
theorem w_fldS {cn fn : Str} (w : wpx E (h ρ) fun d ρ1 => ∃ c ns ds, ρ1.getD i none = some (.obj c ns ds) ∧ (c = cn ∧ ns.length < 1000) ∧ PS .nx (ρ1.set i (some (.obj c (putD fn d ns ds).1 (putD fn d ns ds).2)))) : wpx E (mFldS i cn fn h ρ) PS := wp_bind (wp_imp w fun d ρ1 ⟨c, ns, ds, e1, e2, w1⟩ => by rw [e1]; dsimp only; rw [if_pos e2]; exact w1)
theorem w_make {c : Str} (w : wpx E (g ρ) fun ds ρ1 => wfx (fun e _ => E e ρ1) (F (.obj c [] [] :: ds)) fun d outs => ∃ o, d = .non ∧ outs = [o] ∧ P o ρ1) : wpx E (mMake c F g ρ) P := wp_bind (wp_imp w fun ds ρ1 w1 => by
  cases q : F (.obj c [] [] :: ds) <;> rw [q] at w1
  · obtain ⟨o, rfl, rfl, w2⟩ := w1; exact w2
  · exact w1
  · exact w1)
theorem w_meth {cs : List Str} {m : Str} (w : wpx E (f ρ) fun o ρ1 => ∃ c, clsOf o = some c ∧ (cs.contains c = true ∧ hasNo m o = true) ∧ wpx E (g ρ1) fun ds ρ2 => wfx (fun e _ => E e ρ2) (F (o :: ds)) fun d _ => P d ρ2) : wpx E (mMeth cs m F f g ρ) P := wp_bind (wp_imp w fun o ρ1 ⟨c, e1, e2, w1⟩ => by
  rw [e1]; dsimp only; rw [if_pos e2]
  exact wp_bind (wp_imp w1 fun ds ρ2 w2 => by
    cases q : F (o :: ds) <;> rw [q] at w2 <;> exact w2))
theorem w_raise {c : Str} (w : E ⟨c, none⟩ ρ) : wpx E (mRaise c ρ) PS := w
theorem w_try {cn : Str} {i j : Nat} {d : D} (w : wpx (fun e ρ1 => (e.cls = cn ∧ e.fld.isNone = true ∧ j < ρ1.length ∧ i < ρ1.length) ∧ PS .nx ((ρ1.set j (some d)).set i none)) (fs ρ) fun fl ρ1 => fl = .nx ∧ PS .nx ρ1) : wpx E (mTry cn i j d fs ρ) PS := by
  unfold mTry
  cases q : fs ρ with
  | ok fl ρ1 =>
    rw [q] at w
    obtain ⟨rfl, w1⟩ := w
    exact w1
  | exn e ρ1 =>
    rw [q] at w
    dsimp only
    rw [if_pos w.1]
    exact w.2
  | bad => rw [q] at w; exact w.elim
/-! ### data -/
theorem x_isL {ds : List D} {Q : List D → Prop} (w : Q ds) : ∃ es, D.lst ds = .lst es ∧ Q es := ⟨ds, rfl, w⟩
theorem x_objD {a b : List D} {Q : Prop} (w : Q) : isObj (.dic a b) = true ∧ Q := ⟨rfl, w⟩
theorem x_app {ds : List D} {d : D} {Q : D × List D → Prop} (h : ds.length < 2 ^ 24) (w : Q (.non, ds ++ [d])) : ∃ z, stAppend ds [d] = some z ∧ Q z := ⟨_, if_pos h, w⟩
theorem wp_env {α : Type} {f : Env → R α} {ρ ρ' : Env} {P : α → Env → Prop} (e : ρ = ρ') (w : wpx E (f ρ') P) : wpx E (f ρ) P := e ▸ w
theorem x_cls {c c' : Str} {ns : List Str} {ds : List D} {Q : Str → Prop} (w : Q c) : ∃ q, clsOf (.obj c ns ds) = some q ∧ Q q := ⟨c, rfl, w⟩
theorem x_tp {n : Nat} {gs : List D → Env → Option Env} {ρ2 : Env} {Q : Env → Prop} (e : gTp n gs d ρ = some ρ2) (w : Q ρ2) : ∃ r, gTp n gs d ρ = some r ∧ Q r := ⟨_, e, w⟩
theorem x_eqb {b : Bool} {o : Option D} {Q : Bool → Prop} (e : o = some (.bl b)) (w : Q b) : ∃ c, o = some (.bl c) ∧ Q c := ⟨b, e, w⟩
theorem i_T {b : Bool} {A B : Prop} (e : b = true) (w : A) : if b = true then A else B := by rw [if_pos e]; exact w
theorem i_F {b : Bool} {A B : Prop} (e : b = false) (w : B) : if b = true then A else B := by rw [e]; exact w
/-! ### texts by their letters -/
def S (l : List Nat) : Str := ⟨l.toArray⟩
theorem S_len (l : List Nat) : (S l).length = l.length := by show l.toArray.size = _; simp
theorem S_app (a b : List Nat) : S a ++ S b = S (a ++ b) := by
  show (⟨a.toArray ++ b.toArray⟩ : Str) = ⟨(a ++ b).toArray⟩
  simp
theorem chD_S (c : Nat) : chD c = .str (S [c]) := rfl
theorem S_list (l : List Nat) : (S l).cps.toList = l := by show l.toArray.toList = l; simp
theorem S_inj {a b : List Nat} (h : S a = S b) : a = b := by rw [← S_list a, h, S_list]
theorem S_of (s : Str) : S s.cps.toList = s := by cases s; simp [S]
theorem x_sqS {l : List Nat} {Q : List D → Prop} (w : Q (l.map chD)) : ∃ es, asSeq (.str (S l)) = some es ∧ Q es := ⟨_, rfl, by rw [S_list]; exact w⟩
theorem popAt_at {ds : List D} {r : Int} (h0 : 0 ≤ r) (hr : r < ds.length) (hz : ds.length < 2 ^ 62) : ∃ d, ds[r.toNat]? = some d ∧ stPopAt ds [.int r] = some (d, ds.eraseIdx r.toNat) := by
  have hl : r.toNat < ds.length := by omega
  refine ⟨ds[r.toNat], List.getElem?_eq_getElem hl, ?_⟩
  show (if _ then _ else none) = _
  rw [if_pos (by omega), show seqIndex? r ds.length = some r.toNat from PySem.seqIndex_of h0 hr]
  show (ds[r.toNat]?.map _) = _
  rw [List.getElem?_eq_getElem hl]
  rfl
theorem eraseIdx_map {α β : Type} (f : α → β) : ∀ (l : List α) (n : Nat), (l.map f).eraseIdx n = (l.eraseIdx n).map f
  | [], _ => rfl
  | _ :: _, 0 => rfl
  | a :: l, n + 1 => by simp [eraseIdx_map f l n]
theorem erase_perm {α : Type} : ∀ (l : List α) (n : Nat) (a : α), l[n]? = some a → l.Perm (a :: l.eraseIdx n)
  | [], _, _, h => by simp at h
  | b :: l, 0, a, h => by simp at h; subst h; exact .refl _
  | b :: l, n + 1, a, h => by
    have := erase_perm l n a (by simpa using h)
    exact (this.cons b).trans (.swap a b _)
theorem at_in {α : Type} {l : List α} {r : Int} (h0 : 0 ≤ r) (hr : r < l.length) : ∃ c, atI l r = some c ∧ l[r.toNat]? = some c := by
  have hl : r.toNat < l.length := by omega
  refine ⟨l[r.toNat], ?_, List.getElem?_eq_getElem hl⟩
  unfold atI
  rw [show ixN l.length r = some r.toNat by unfold ixN; rw [if_pos h0, if_pos hr]]
  exact List.getElem?_eq_getElem hl
theorem at_nat {α : Type} {l : List α} {r : Nat} {c : α} (h : l[r]? = some c) : atI l (r : Int) = some c := by
  have hl : r < l.length := (List.getElem?_eq_some_iff.1 h).1
  obtain ⟨c', h1, h2⟩ := at_in (l := l) (r := (r : Int)) (by omega) (by omega)
  rw [h1, ← h2]; exact h
theorem log_small {j : Int} (h0 : 0 ≤ j) (h : j < 10 ^ 60) : j.natAbs.log2 < 9000 := by
  have : j.natAbs < 2 ^ 9000 := Nat.lt_of_lt_of_le (by omega : j.natAbs < 10 ^ 60) (Nat.le_trans (Nat.le_of_lt (by decide : 10 ^ 60 < 2 ^ 256)) (Nat.pow_le_pow_right (by decide) (by decide)))
  by_cases hz : j.natAbs = 0
  · rw [hz]; decide
  · exact (Nat.log2_lt hz).mpr this
/-! ### operators -/
theorem o_isiB {T : String} {b : Bool} (e : isiD T d = some (.bl b)) (w : P (.bl b) ρ) : wo (isiD T d) ρ P := o_some e w
theorem o_listS {t : Str} {l : List Nat} (e : t.cps.toList = l) (h : t.cps.size ≤ sizeLine) (w : P (.lst (l.map chD)) ρ) : wo (oListS [.str t]) ρ P := o_some (d := .lst (l.map chD)) (by
  show ifO (t.cps.size ≤ sizeLine) (.lst (t.cps.toList.map chD)) = _
  unfold ifO
  rw [if_pos h, e]) w
theorem o_tupS {l : List Nat} (h : l.length ≤ sizeLine) (w : P (.tup (l.map chD)) ρ) : wo (oTupS [.str (S l)]) ρ P := o_some (d := .tup (l.map chD)) (by
  show ifO ((S l).cps.size ≤ sizeLine) (.tup ((S l).cps.toList.map chD)) = _
  unfold ifO
  have hz : (S l).cps.size ≤ sizeLine := by have := S_len l; show (S l).length ≤ _; rw [this]; exact h
  rw [if_pos hz, S_list]) w
theorem o_catL {a b : List D} (h : a.length + b.length ≤ 2 ^ 24) (w : P (.lst (a ++ b)) ρ) : wo (catD (.lst a) (.lst b)) ρ P := o_some (d := .lst (a ++ b)) (show ifO _ _ = _ from if_pos h) w
theorem o_lenS' {l : List Nat} (hl : l.length ≤ 2 ^ 24) (w : P (.int l.length) ρ) : wo (oLen [.str (S l)]) ρ P := o_lenS (by rw [S_len]; exact hl) (by rw [S_len]; exact w)
theorem o_ixS {l : List Nat} {r : Int} (hl : l.length ≤ 2 ^ 24) (h0 : 0 ≤ r) (hr : r < l.length) (w : ∀ c, l[r.toNat]? = some c → P (.str (S [c])) ρ) : wo (ixD (.str (S l)) (.int r)) ρ P := by
  obtain ⟨c, h1, h2⟩ := at_in h0 hr
  refine o_some (d := chD c) ?_ (w c h2)
  show (if _ then _ else none) = _
  rw [if_pos (by rw [S_len]; exact hl), S_list, h1]
  rfl
theorem o_catS {a b : List Nat} (h : a.length + b.length ≤ 2 ^ 24) (w : P (.str (S (a ++ b))) ρ) : wo (addD (.str (S a)) (.str (S b))) ρ P := o_cat (by rw [S_len, S_len]; exact h) (by rw [S_app]; exact w)
theorem o_inS {c : Nat} {l : List Nat} (w : P (.bl (decide (c ∈ l))) ρ) : wo (inD (chD c) (.str (S l))) ρ P := o_some (d := .bl (decide (c ∈ l))) (by
  show some (D.bl (decide (c ∈ (S l).cps.toList))) = _
  simp only [S_list]) w
theorem o_notInS {c : Nat} {l : List Nat} (w : P (.bl (!decide (c ∈ l))) ρ) : wo (notInD (chD c) (.str (S l))) ρ P := o_some (d := .bl (!decide (c ∈ l))) (by
  show some (D.bl (!decide (c ∈ (S l).cps.toList))) = _
  simp only [S_list]) w
theorem o_sumI {ns : List Int} (w : P (.int ns.sum) ρ) : wo (oSum [.lst (ns.map D.int)]) ρ P := o_some (d := .int ns.sum) (by
  have h : ∀ ns : List Int, dInts (ns.map D.int) = some ns := by
    intro ns
    induction ns with
    | nil => rfl
    | cons a l ih => show (dInts (D.int a :: l.map D.int)) = _; simp [dInts, ih]
  show (dInts _).map _ = _
  rw [h]; rfl) w
theorem o_listL {ds : List D} (w : P (.lst ds) ρ) : wo (oList [.lst ds]) ρ P := w
theorem o_listT {ds : List D} (w : P (.lst ds) ρ) : wo (oList [.tup ds]) ρ P := w
theorem o_tupL {ds : List D} (w : P (.tup ds) ρ) : wo (oTup [.lst ds]) ρ P := w
theorem o_tupT {ds : List D} (w : P (.tup ds) ρ) : wo (oTup [.tup ds]) ρ P := w
theorem o_eqI {a b : Int} (w : P (.bl (decide (a = b))) ρ) : wo (eqD (.int a) (.int b)) ρ P := o_some (d := .bl (decide (a = b))) (by
  show ifO _ (.bl (a == b)) = _
  unfold ifO
  rw [if_pos ⟨rfl, rfl⟩]
  by_cases h : a = b <;> simp [h]) w
theorem o_neI {a b : Int} (w : P (.bl (!decide (a = b))) ρ) : wo (neD (.int a) (.int b)) ρ P := o_some (d := .bl (!decide (a = b))) (by
  show ifO _ (.bl (!(a == b))) = _
  unfold ifO
  rw [if_pos ⟨rfl, rfl⟩]
  by_cases h : a = b <;> simp [h]) w
theorem o_isN (w : P (.bl (isN d)) ρ) : wo (isNoneD d .non) ρ P := w
theorem o_notN (w : P (.bl (!isN d)) ρ) : wo (isNotNoneD d .non) ρ P := w
/-! ### dicts with letters as keys -/
theorem keyB_ch (a b : Nat) : keyB (chD a) (chD b) = decide (a = b) := by
  have h : keyB (kD (.inr (S [a]))) (kD (.inr (S [b]))) = decide ((Sum.inr (S [a]) : Key) = .inr (S [b])) := keyB_kD _ _
  refine h.trans ?_
  by_cases e : a = b
  · subst e; simp
  · have : ¬ (Sum.inr (S [a]) : Key) = .inr (S [b]) := by
      intro h
      have h1 : S [a] = S [b] := Sum.inr.inj h
      exact e (List.cons.inj (S_inj h1)).1
    simp [e, this]
theorem dFind_map (g : Nat → D) (c : Nat) : ∀ ls : List Nat, c ∈ ls → dFind (ls.map chD) (ls.map g) (chD c) = some (g c)
  | [], h => by simp at h
  | a :: ls, h => by
    show (if keyB (chD a) (chD c) then _ else _) = _
    rw [keyB_ch]
    by_cases e : a = c
    · subst e; simp
    · rw [if_neg (by simpa using e)]
      exact dFind_map g c ls (by simpa [Ne.symm e] using h)
theorem dFind_no (g : Nat → D) (c : Nat) : ∀ ls : List Nat, c ∉ ls → dFind (ls.map chD) (ls.map g) (chD c) = none
  | [], h => rfl
  | a :: ls, h => by
    show (if keyB (chD a) (chD c) then _ else _) = _
    rw [keyB_ch]
    have e : ¬ a = c := fun e => h (by simp [e])
    rw [if_neg (by simpa using e)]
    exact dFind_no g c ls (fun q => h (by simp [q]))
theorem any_ch (c : Nat) (ls : List Nat) (h : c ∉ ls) : (ls.map chD).any (keyB · (chD c)) = false := by
  rw [List.any_map, List.any_eq_false]
  intro a ha
  show ¬ keyB (chD a) (chD c) = true
  rw [keyB_ch]
  intro e
  exact h ((of_decide_eq_true e) ▸ ha)
theorem dPut_map (g : Nat → D) (c : Nat) (v : D) (ls : List Nat) (h : c ∉ ls) : dPut (ls.map chD) (ls.map g) (chD c) v = ((ls ++ [c]).map chD, (ls ++ [c]).map fun x => if x = c then v else g x) := by
  unfold dPut
  rw [if_neg (by rw [any_ch c ls h]; simp), List.map_append, List.map_append]
  refine Prod.ext rfl ?_
  show _ ++ [v] = _ ++ [if c = c then v else g c]
  rw [if_pos rfl]
  congr 1
  refine List.map_congr_left fun a ha => ?_
  have hn : a ≠ c := fun e => h (by rw [← e]; exact ha)
  rw [if_neg hn]
theorem keys_all (ls : List Nat) : (ls.map chD).all isKD = true := by
  rw [List.all_map, List.all_eq_true]
  intro a _
  rfl
/-- a dict over letters, its values by a function -/
abbrev chDic (ls : List Nat) (g : Nat → D) : D := .dic (ls.map chD) (ls.map g)
theorem o_getCh {ls : List Nat} {g : Nat → D} {c : Nat} (h : c ∈ ls) (w : P (g c) ρ) : wo (dgetD (chDic ls g) (chD c)) ρ P := o_some (d := g c) (by
  show (if (ls.map chD).all isKD then _ else _) = _
  rw [if_pos (keys_all ls)]
  show dFind _ _ _ = _
  exact dFind_map _ c ls h) w
theorem o_lenCh {ls : List Nat} {g : Nat → D} (w : P (.int ls.length) ρ) : wo (oLenD [chDic ls g]) ρ P := o_some (d := .int ls.length) (by
  show (if _ ∧ _ then _ else none) = _
  rw [if_pos ⟨keys_all ls, by simp⟩]
  simp) w
theorem o_notInCh {ls : List Nat} {g : Nat → D} {c : Nat} (w : P (.bl (!decide (c ∈ ls))) ρ) : wo (notInKD (chD c) (chDic ls g)) ρ P := o_some (d := .bl (!decide (c ∈ ls))) (by
  have e : inDD (chD c) (chDic ls g) = some (dFind (ls.map chD) (ls.map g) (chD c)).isSome := by
    show (if (ls.map chD).all isKD then _ else _) = _
    rw [if_pos (keys_all ls)]; rfl
  unfold notInKD
  rw [e]
  by_cases h : c ∈ ls
  · rw [dFind_map g c ls h]; simp [h]
  · rw [dFind_no g c ls h]; simp [h]) w
theorem o_listCh {ls : List Nat} {g : Nat → D} (w : P (.lst (ls.map chD)) ρ) : wo (oListDK [chDic ls g]) ρ P := o_some (d := .lst (ls.map chD)) (by
  show (if _ then _ else none) = _
  rw [if_pos (keys_all ls)]) w
/-- a dict comprehension over unlike letters -/
theorem w_dcCh {fi : Env → R (List D)} {fk f : Env → R D} {vs : List Nat} {ls : List Nat} {v : Nat → D} (hn : ls.Nodup) (hl : ls.length < 2 ^ 24) (w : wpx E (fi ρ) fun ds ρ1 => ds = ls.map chD ∧
    (∀ c, c ∈ ls → ∃ ρa, gt (chD c) (wipeE ρ1 vs) = some ρa ∧ wp (fk ρa) fun k ρb => k = chD c ∧ wp (f ρb) fun y ρc => y = v c ∧ wipeE ρc vs = wipeE ρ1 vs) ∧ P (chDic ls v) (restE ρ1 (wipeE ρ1 vs) vs)) : wpx E (mDc fi gt mYes fk f vs ρ) P := by
  unfold mDc
  refine wp_bind (wp_imp w fun ds ρ1 w1 => ?_)
  obtain ⟨rfl, hs, hp⟩ := w1
  have key : ∀ (r l : List Nat), l ++ r = ls → compD gt mYes fk f vs (r.map chD) (wipeE ρ1 vs) (l.map chD) (l.map v) = .ok (ls.map chD, ls.map v) (wipeE ρ1 vs) := by
    intro r
    induction r with
    | nil => intro l e; rw [List.append_nil] at e; subst e; rfl
    | cons c r ih =>
      intro l e
      have hc : c ∈ ls := by rw [← e]; simp
      have hcl : c ∉ l := by
        rw [← e] at hn
        intro q
        exact (List.nodup_append.1 hn).2.2 c q c (by simp) rfl
      obtain ⟨ρa, e1, w1⟩ := hs c hc
      obtain ⟨k, ρb, e2, rfl, w2⟩ := wp_of w1
      obtain ⟨y, ρc, e3, rfl, e4⟩ := wp_of w2
      rw [List.map_cons]
      unfold compD
      rw [e1]
      dsimp only [mYes]
      rw [e2]; dsimp only; rw [e3]; dsimp only
      have hll : l.length ≤ ls.length := by rw [← e]; simp
      rw [if_pos ⟨rfl, by rw [List.length_map]; show _ < 2 ^ 24; omega⟩, e4, dPut_map v c _ l hcl]
      dsimp only
      have e5 : ((l ++ [c]).map fun x => if x = c then v c else v x) = (l ++ [c]).map v := List.map_congr_left fun x _ => by
        by_cases h : x = c
        · rw [if_pos h, h]
        · rw [if_neg h]
      rw [e5]
      exact ih (l ++ [c]) (by simpa using e)
  have := key ls [] rfl
  rw [show compD gt mYes fk f vs (ls.map chD) (wipeE ρ1 vs) [] [] = _ from this]
  exact hp
/-- storing under a new letter -/
theorem x_dkCh {i : Nat} {hk : Env → R D} {ρ : Env} {ls : List Nat} {g : Nat → D} {c : Nat} {v : D} {Q : Env → Prop} (e : ρ.getD i none = some (chDic ls g)) (ek : hk ρ = .ok (chD c) ρ) (hc : c ∉ ls) (hl : ls.length < 2 ^ 24) (w : Q (ρ.set i (some (chDic (ls ++ [c]) fun x => if x = c then v else g x)))) : ∃ ρ2, gDk i hk v ρ = some ρ2 ∧ Q ρ2 := by
  refine ⟨_, ?_, w⟩
  unfold gDk
  rw [e, ek]
  dsimp only [chDic, ofO]
  rw [e]
  show (if _ then _ else none) = _
  rw [if_pos ⟨keys_all ls, by rw [List.length_map]; exact hl⟩, dPut_map _ c v ls hc]
theorem chDic_congr {ls : List Nat} {g g' : Nat → D} (h : ∀ c ∈ ls, g c = g' c) : chDic ls g = chDic ls g' := by
  unfold chDic
  rw [List.map_congr_left h]
/-! ### slices -/
theorem cut_to {l : List Nat} {k : Nat} (h : k ≤ l.length) : cutS (S l) none (some (k : Int)) = S (l.take k) := by
  rw [← S_of (cutS _ _ _)]
  congr 1
  unfold cutS
  simp [HT.sIx_none, HT.sIx_nat, S_list, S_len]
/-! ### more rules -/
theorem f_eq {EF : Ex → List D → Prop} {F : FSem} {ds : List D} {v : D} {Q : D → List D → Prop} (h : wf (F ds) fun d outs => d = v ∧ outs = []) (w : Q v []) : wfx EF (F ds) Q := wf_impE h (fun d outs e => by obtain ⟨rfl, rfl⟩ := e; exact w) fun _ _ h => h.elim
theorem x_leI {a b : Int} {Q : Bool → Prop} (w : Q (decide (a ≤ b))) : ∃ c, leD (.int a) (.int b) = some (.bl c) ∧ Q c := ⟨_, rfl, w⟩
theorem x_ltI {a b : Int} {Q : Bool → Prop} (w : Q (decide (a < b))) : ∃ c, ltD (.int a) (.int b) = some (.bl c) ∧ Q c := ⟨_, rfl, w⟩
theorem one_lt {a b : Nat} : ([a] < [b]) ↔ a < b := by
  rw [List.cons_lt_cons_iff]
  constructor
  · rintro (h | ⟨_, h⟩)
    · exact h
    · exact absurd h (List.lt_irrefl _)
  · exact fun h => .inl h
theorem not_dec {p q : Prop} [Decidable p] [Decidable q] (h : q ↔ ¬ p) : (!decide p) = decide q := by
  by_cases hp : p
  · rw [decide_eq_true hp, decide_eq_false (fun hq => h.1 hq hp)]; rfl
  · rw [decide_eq_false hp, decide_eq_true (h.2 hp)]; rfl
theorem le_chL {s : Str} {a c : Nat} (e : s.cps.toList = [a]) : leD (.str s) (chD c) = some (.bl (decide (a ≤ c))) := by
  show some (D.bl (!decide (([c] : List Nat) < s.cps.toList))) = _
  congr 2
  refine not_dec ?_
  rw [e, one_lt]; omega
theorem le_chR {s : Str} {a c : Nat} (e : s.cps.toList = [a]) : leD (chD c) (.str s) = some (.bl (decide (c ≤ a))) := by
  show some (D.bl (!decide (s.cps.toList < ([c] : List Nat)))) = _
  congr 2
  refine not_dec ?_
  rw [e, one_lt]; omega
theorem x_leCh {s : Str} {a c : Nat} {Q : Bool → Prop} (e : s.cps.toList = [a]) (w : Q (decide (a ≤ c))) : ∃ b, leD (.str s) (chD c) = some (.bl b) ∧ Q b := ⟨_, le_chL e, w⟩
theorem o_leCh {s : Str} {a c : Nat} (e : s.cps.toList = [a]) (w : P (.bl (decide (c ≤ a))) ρ) : wo (leD (chD c) (.str s)) ρ P := o_some (le_chR e) w
theorem nodup_take {α : Type} {l : List α} {i : Nat} {c : α} (hn : l.Nodup) (h : l[i]? = some c) : c ∉ l.take i := by
  have e : l.take (i + 1) = l.take i ++ [c] := by rw [List.take_succ, h]; rfl
  have h1 : (l.take i ++ [c]).Nodup := e ▸ hn.sublist (List.take_sublist (i + 1) l)
  intro h2
  exact (List.nodup_append.1 h1).2.2 c h2 c (by simp) rfl
theorem take_at {α : Type} {l : List α} {i : Nat} {c : α} (h : l[i]? = some c) : l.take (i + 1) = l.take i ++ [c] := by rw [List.take_succ, h]; rfl
theorem map_at {α β : Type} {f : α → β} {l : List α} {i : Nat} {d : β} (h : (l.map f)[i]? = some d) : ∃ c, l[i]? = some c ∧ d = f c := by
  rw [List.getElem?_map, Option.map_eq_some_iff] at h
  obtain ⟨c, h1, h2⟩ := h
  exact ⟨c, h1, h2.symm⟩
theorem enum_at {l : List Nat} {i : Nat} {d : D} (h : (enumL 0 (l.map chD))[i]? = some d) : ∃ c, l[i]? = some c ∧ d = .tup [.int (i : Nat), chD c] := by
  rw [enumL_get, List.getElem?_map, Option.map_map, Option.map_eq_some_iff] at h
  obtain ⟨c, h1, h2⟩ := h
  refine ⟨c, h1, ?_⟩
  rw [← h2]
  show D.tup [.int ((0 + i : Nat) : Int), chD c] = _
  rw [Nat.zero_add]
theorem x_enS {l : List Nat} {Q : List D → Prop} (w : Q (enumL 0 (l.map chD))) : ∃ s : Str, D.str (S l) = .str s ∧ Q (enumL 0 (s.cps.toList.map chD)) := ⟨S l, rfl, by rw [S_list]; exact w⟩
theorem x_cutTo {l : List Nat} {k : Nat} {Q : Str → Prop} (hl : l.length ≤ 2 ^ 24) (h : k ≤ l.length) (w : Q (S (l.take k))) : (S l).length ≤ sizeLine ∧ Q (cutS (S l) none (some (k : Int))) := ⟨by rw [S_len]; exact hl, by rw [cut_to h]; exact w⟩
theorem x_fldS {i : Nat} {ρ : Env} {cn c : Str} {ns : List Str} {ds : List D} {Q : Str → List Str → List D → Prop} (e : ρ.getD i none = some (.obj c ns ds)) (e2 : c = cn ∧ ns.length < 1000) (w : Q c ns ds) : ∃ c ns ds, ρ.getD i none = some (.obj c ns ds) ∧ (c = cn ∧ ns.length < 1000) ∧ Q c ns ds := ⟨c, ns, ds, e, e2, w⟩
theorem x_mk {o : D} {Q : D → Prop} (w : Q o) : ∃ q, D.non = .non ∧ [o] = [q] ∧ Q q := ⟨o, rfl, rfl, w⟩
/-! ### joining without a text between -/
theorem joinS : ∀ ls : List (List Nat), Str.join (S []) (ls.map S) = S ls.flatten
  | [] => rfl
  | [l] => by
    show S l = S (l ++ [])
    rw [List.append_nil]
  | l :: m :: r => by
    show S l ++ S [] ++ Str.join (S []) ((m :: r).map S) = S (l ++ (m :: r).flatten)
    rw [joinS (m :: r), S_app, S_app, List.append_nil]
theorem joinE (ls : List (List Nat)) : Txt.join (S []) (ls.map S) = S ls.flatten := (TL.join_eq (S []) (ls.map S)).trans (joinS ls)
theorem dStrs_map : ∀ ls : List (List Nat), dStrs (ls.map fun l => D.str (S l)) = some (ls.map S)
  | [] => rfl
  | l :: ls => by
    show (dStrs (ls.map fun l => D.str (S l))).map (S l :: ·) = _
    rw [dStrs_map ls]; rfl
theorem sum_len : ∀ ls : List (List Nat), ((ls.map S).map (·.length)).sum = ls.flatten.length
  | [] => rfl
  | l :: ls => by
    show (S l).length + ((ls.map S).map (·.length)).sum = _
    rw [sum_len ls, S_len, List.flatten_cons, List.length_append]
theorem o_joinE {ls : List (List Nat)} (h : ls.flatten.length ≤ 2 ^ 24) (w : P (.str (S ls.flatten)) ρ) : wo (oJoin (S []) [.lst (ls.map fun l => D.str (S l))]) ρ P := o_some (d := .str (S ls.flatten)) (by
  show (dStrs _).bind _ = _
  rw [dStrs_map]
  show ifO _ _ = _
  unfold ifO
  rw [sum_len, if_pos (by show _ + _ * 0 ≤ _; omega), joinE]) w
end
end Ip
namespace Ip
open PySem L2
section
variable {E : Ex → Env → Prop} {i j n : Nat} {ρ : Env} {d x y z : D} {f h : Env → R D} {g : Env → R (List D)} {P : D → Env → Prop} {F : FSem}
theorem w_fld1 {c nm : Str} (w : wpx E (f ρ) fun o ρ1 => ∃ d, (clsOf o = some c ∧ fldD nm o = some d) ∧ P d ρ1) : wpx E (mFld [c] nm f ρ) P := w_fld (wp_imp w fun o ρ1 ⟨d, ⟨e1, e2⟩, w1⟩ => ⟨c, e1, by simp, o_some e2 w1⟩)
theorem x_fld {c nm : Str} {o : D} {Q : D → Prop} (e1 : clsOf o = some c) (e2 : fldD nm o = some d) (w : Q d) : ∃ d, (clsOf o = some c ∧ fldD nm o = some d) ∧ Q d := ⟨d, ⟨e1, e2⟩, w⟩
theorem x_meth {cs : List Str} {c m : Str} {o : D} {Q : Prop} (e1 : clsOf o = some c) (e2 : cs.contains c = true ∧ hasNo m o = true) (w : Q) : ∃ c, clsOf o = some c ∧ (cs.contains c = true ∧ hasNo m o = true) ∧ Q := ⟨c, e1, e2, w⟩
theorem o_ixN {ds : List D} {k : Nat} (e : ds[k]? = some d) (w : P d ρ) : wo (ixD (.lst ds) (.int k)) ρ P := o_ixL (at_nat e) w
theorem o_ixNT {ds : List D} {k : Nat} (e : ds[k]? = some d) (w : P d ρ) : wo (ixD (.tup ds) (.int k)) ρ P := o_ixT (at_nat e) w
theorem eqv_str (a b : Str) : PyData.eqv (.str a) (.str b) = (a == b) := rfl
def Sg (a : List Nat) : Prop := ∀ c ∈ a, c < 0x110000
theorem shaped_S {a : List Nat} (h : Sg a) : SeqAt.shaped (.str (S a)) = true := by
  show ((S a).cps.all (· < 0x110000) && decide _) = true
  rw [Bool.and_eq_true]
  refine ⟨?_, rfl⟩
  rw [← Array.all_toList, S_list, List.all_eq_true]
  intro c hc
  exact decide_eq_true (h c hc)
theorem o_eqS {a b : List Nat} (ha : Sg a) (hb : Sg b) (w : P (.bl (decide (a = b))) ρ) : wo (eqD (.str (S a)) (.str (S b))) ρ P := o_some (d := .bl (decide (a = b))) (by
  show ifO _ (.bl (S a == S b)) = _
  unfold ifO
  rw [if_pos ⟨shaped_S ha, shaped_S hb⟩]
  congr 2
  by_cases h : a = b
  · subst h; simp
  · have : ¬ S a = S b := fun e => h (S_inj e)
    simp [h, this]) w
theorem o_neS {a b : List Nat} (ha : Sg a) (hb : Sg b) (w : P (.bl (!decide (a = b))) ρ) : wo (neD (.str (S a)) (.str (S b))) ρ P := o_some (d := .bl (!decide (a = b))) (by
  show ifO _ (.bl (!(S a == S b))) = _
  unfold ifO
  rw [if_pos ⟨shaped_S ha, shaped_S hb⟩]
  congr 3
  by_cases h : a = b
  · subst h; simp
  · have : ¬ S a = S b := fun e => h (S_inj e)
    simp [h, this]) w
theorem o_eqB {a b : Bool} (w : P (.bl (a == b)) ρ) : wo (eqD (.bl a) (.bl b)) ρ P := o_some (d := .bl (a == b)) (by
  show ifO _ (.bl _) = _
  unfold ifO
  rw [if_pos ⟨rfl, rfl⟩]
  cases a <;> cases b <;> rfl) w
theorem o_rev {ds : List D} (w : P (.lst ds.reverse) ρ) : wo (revD (.lst ds)) ρ P := w
/-- what a loop over letters leaves: an early end -/
theorem cut_from {l : List Nat} {k : Nat} (h : k ≤ l.length) : cutS (S l) (some (k : Int)) none = S (l.drop k) := by
  rw [← S_of (cutS _ _ _)]
  congr 1
  unfold cutS
  simp [HT.sIx_none, HT.sIx_nat, S_list, S_len, Nat.min_eq_left h]
  rw [List.take_of_length_le (by rw [List.length_drop]; omega)]
/-- a comprehension over known things -/
theorem w_mapT {α : Type} {gt : D → Env → Option Env} {fi : Env → R (List D)} {vs : List Nat} {l : List α} (A B : α → D) (w : wpx E (fi ρ) fun ds ρ1 => ds = l.map A ∧ l.length < sizeLine ∧ (∀ a, a ∈ l → ∃ ρa, gt (A a) (wipeE ρ1 vs) = some ρa ∧ wp (f ρa) fun y ρb => y = B a ∧ wipeE ρb vs = wipeE ρ1 vs) ∧ P (.lst (l.map B)) (restE ρ1 (wipeE ρ1 vs) vs)) : wpx E (mLc fi gt mYes f vs ρ) P := w_lc (wp_imp w fun ds ρ1 ⟨e, hz, hs, hp⟩ => by
  subst e
  refine ⟨by rw [List.length_map]; exact hz, fun i ρ acc => ρ = wipeE ρ1 vs ∧ acc = (l.take i).map B, ⟨rfl, rfl⟩, fun i d ρ acc hd hi => ?_, fun ρ2 acc hi => ?_⟩
  · obtain ⟨rfl, rfl⟩ := hi
    obtain ⟨a, ha, rfl⟩ := map_at hd
    obtain ⟨ρa, e1, w⟩ := hs a (List.mem_of_getElem? ha)
    refine ⟨by rw [List.length_map, List.length_take]; omega, ρa, e1, w_yes ?_⟩
    rw [if_pos rfl]
    refine wp_imp w fun y ρb ⟨e2, e3⟩ => ⟨e3, ?_⟩
    rw [take_at ha, List.map_append, e2]
    rfl
  · obtain ⟨rfl, rfl⟩ := hi
    rw [List.length_map, List.take_length]
    exact hp)
end
end Ip
namespace Ip
open PySem L2
section
variable {E : Ex → Env → Prop} {i j n : Nat} {ρ : Env} {d x y z : D} {f h : Env → R D} {g : Env → R (List D)} {P : D → Env → Prop} {F : FSem}
/-- a comprehension with a test -/
theorem w_filT {α : Type} {gt : D → Env → Option Env} {fi : Env → R (List D)} {tst : Env → R Bool} {vs : List Nat} {l : List α} (A B : α → D) (p : α → Bool) (w : wpx E (fi ρ) fun ds ρ1 => ds = l.map A ∧ l.length < sizeLine ∧ (∀ a, a ∈ l → ∃ ρa, gt (A a) (wipeE ρ1 vs) = some ρa ∧ wp (tst ρa) fun b ρb => b = p a ∧ if p a = true then wp (f ρb) (fun y ρc => y = B a ∧ wipeE ρc vs = wipeE ρ1 vs) else wipeE ρb vs = wipeE ρ1 vs) ∧ P (.lst ((l.filter p).map B)) (restE ρ1 (wipeE ρ1 vs) vs)) : wpx E (mLc fi gt tst f vs ρ) P := w_lc (wp_imp w fun ds ρ1 ⟨e, hz, hs, hp⟩ => by
  subst e
  refine ⟨by rw [List.length_map]; exact hz, fun i ρ acc => ρ = wipeE ρ1 vs ∧ acc = ((l.take i).filter p).map B, ⟨rfl, rfl⟩, fun i d ρ acc hd hi => ?_, fun ρ2 acc hi => ?_⟩
  · obtain ⟨rfl, rfl⟩ := hi
    obtain ⟨a, ha, rfl⟩ := map_at hd
    obtain ⟨ρa, e1, w⟩ := hs a (List.mem_of_getElem? ha)
    refine ⟨by
      rw [List.length_map]
      have h1 := List.length_filter_le p (l.take i)
      have h2 : (l.take i).length ≤ i := by rw [List.length_take]; omega
      omega, ρa, e1, wp_imp w fun b ρb w1 => ?_⟩
    obtain ⟨e2, w2⟩ := w1
    subst e2
    cases q : p a with
    | true =>
      rw [q, if_pos rfl] at w2
      rw [if_pos rfl]
      refine wp_imp w2 fun y ρc ⟨e3, e4⟩ => ⟨e4, ?_⟩
      rw [take_at ha, List.filter_append, List.map_append, e3]
      simp [q]
    | false =>
      rw [q, if_neg Bool.false_ne_true] at w2
      rw [if_neg Bool.false_ne_true]
      refine ⟨w2, ?_⟩
      rw [take_at ha, List.filter_append]
      simp [q]
  · obtain ⟨rfl, rfl⟩ := hi
    rw [List.length_map, List.take_length]
    exact hp)
theorem o_max {a b : Int} (w : P (.int (if b > a then b else a)) ρ) : wo (oMax [.int a, .int b]) ρ P := w
theorem o_min {a b : Int} (w : P (.int (if b < a then b else a)) ρ) : wo (oMin [.int a, .int b]) ρ P := w
end
end Ip
set_option maxHeartbeats 1000000
namespace Ip
open PySem L2
section
variable {E : Ex → Env → Prop} {ρ : Env} {f h : Env → R D} {c : Env → R Bool} {body fs : Env → R Fl} {P : D → Env → Prop} {PS : Fl → Env → Prop}
/-! ## rules for while, divmod, several clauses and others -/
theorem w_while {n : Env → Nat} (w : wpx E (whileL c body (n ρ) ρ) PS) : wpx E (mWhile n c body ρ) PS := w
/-- what follows a turn -/
def wtn (E : Ex → Env → Prop) (c : Env → R Bool) (body : Env → R Fl) (k : Nat) (PS : Fl → Env → Prop) : Fl → Env → Prop
  | .nx, ρ => wpx E (whileL c body k ρ) PS
  | .ct, ρ => wpx E (whileL c body k ρ) PS
  | .bk, ρ => PS .nx ρ
  | .rt d, ρ => PS (.rt d) ρ
theorem t_nx {k : Nat} (w : wpx E (whileL c body k ρ) PS) : wtn E c body k PS .nx ρ := w
theorem t_ct {k : Nat} (w : wpx E (whileL c body k ρ) PS) : wtn E c body k PS .ct ρ := w
theorem t_bk {k : Nat} (w : PS .nx ρ) : wtn E c body k PS .bk ρ := w
theorem t_rt {k : Nat} {d : D} (w : PS (.rt d) ρ) : wtn E c body k PS (.rt d) ρ := w
theorem w_turn {k : Nat} (w : wpx E (c ρ) fun b ρ1 => if b = true then wpx E (body ρ1) (wtn E c body k PS) else PS .nx ρ1) : wpx E (whileL c body (k + 1) ρ) PS := by
  unfold whileL
  cases q : c ρ with
  | bad => rw [q] at w; exact w
  | exn e ρ1 => rw [q] at w; exact w
  | ok b ρ1 =>
    rw [q] at w
    cases b with
    | false => exact w
    | true =>
      have w : wpx E (body ρ1) _ := w
      dsimp only
      cases q2 : body ρ1 with
      | bad => rw [q2] at w; exact w
      | exn e ρ2 => rw [q2] at w; exact w
      | ok fl ρ2 =>
        rw [q2] at w
        cases fl with
        | nx => exact w
        | ct => exact w
        | bk => exact w
        | rt d => exact w
theorem w_tryC {l : List (Str × Option Nat × Nat × D)} (w : wpx (fun e ρ1 => wpx E (pickC l e ρ1) PS) (fs ρ) fun fl ρ1 => fl = .nx ∧ PS .nx ρ1) : wpx E (mTryC l fs ρ) PS := by
  unfold mTryC
  cases q : fs ρ with
  | bad => rw [q] at w; exact w
  | exn e ρ1 => rw [q] at w; exact w
  | ok fl ρ1 =>
    rw [q] at w
    obtain ⟨rfl, w⟩ := w
    exact w
theorem w_pick {cn : Str} {i : Option Nat} {j : Nat} {d : D} {r : List (Str × Option Nat × Nat × D)} {e : Ex} (h1 : e.cls = cn) (h2 : e.fld.isNone = true ∧ j < ρ.length ∧ ∀ k ∈ i, k < ρ.length) (w : PS .nx (clr i (ρ.set j (some d)))) : wpx E (pickC ((cn, i, j, d) :: r) e ρ) PS := by
  unfold pickC
  rw [if_pos h1, if_pos h2]
  exact w
theorem w_skip {cn : Str} {i : Option Nat} {j : Nat} {d : D} {r : List (Str × Option Nat × Nat × D)} {e : Ex} (h1 : e.cls ≠ cn) (w : wpx E (pickC r e ρ) PS) : wpx E (pickC ((cn, i, j, d) :: r) e ρ) PS := by
  show wpx E (if e.cls = cn then _ else pickC r e ρ) PS
  rw [if_neg h1]
  exact w
theorem w_joinRev (w : wpx E (f ρ) fun d ρ1 => ∃ s, d = .str s ∧ wpx E (h ρ1) fun x ρ2 => wo (oJoinRev s x) ρ2 P) : wpx E (mJoinRev f h ρ) P := wp_bind (wp_imp w fun d ρ1 ⟨s, e, w1⟩ => by subst e; exact wp_bind (wp_imp w1 fun ds ρ2 w2 => wo_ofO w2))
theorem o_divmod {i j : Int} (h : 0 < j ∧ j < 1073741824) (w : P (.tup [.int (i / j), .int (i % j)]) ρ) : wo (oDivmod [.int i, .int j]) ρ P := o_some (show ifO _ _ = _ from if_pos h) w
theorem o_joinRev {ls : List (List Nat)} (h : ls.flatten.length ≤ 2 ^ 24) (w : P (.str (S ls.reverse.flatten)) ρ) : wo (oJoinRev (S []) (.lst (ls.map fun l => D.str (S l)))) ρ P := o_some (d := .str (S ls.reverse.flatten)) (by
  unfold oJoinRev
  dsimp only
  rw [dStrs_map]
  have e : ((ls.map S).map (·.length)).sum + (ls.map S).length * (S []).length ≤ 16777216 := by
    rw [sum_len, S_len]
    simpa using h
  show ifO _ _ = _
  unfold ifO
  rw [if_pos e, ← List.map_reverse, joinE]) w
theorem o_inI {i : Int} {ns : List Int} (w : P (.bl (ns.contains i)) ρ) : wo (inID (.int i) (.lst (ns.map D.int))) ρ P := o_some (d := .bl (ns.contains i)) (by
  show (dInts (ns.map D.int)).map _ = _
  rw [ints_map]; rfl) w
/-! ### find of one sign -/
theorem sub_one {l : List Nat} {c i : Nat} (h : Builtin.Str.subAt (S l) (S [c]) i = true) : l[i]? = some c := by
  unfold Builtin.Str.subAt S at h
  have h := eq_of_beq h
  have h2 := congrArg (fun a : Array Nat => a[0]?) h
  simp only at h2
  rw [Array.getElem?_extract] at h2
  simp at h2
  exact h2.2
theorem find_at {l : List Nat} {c : Nat} (h : c ∈ l) : ∃ i : Nat, Txt.find (S l) (S [c]) = i ∧ l[i]? = some c := by
  have f := PySem.StrLaws.found_one (S l) c
  rw [S_list, decide_eq_true h] at f
  unfold Txt.find
  have e : (⟨#[c]⟩ : Str) = S [c] := rfl
  rw [e] at f
  cases q : Builtin.Str.occurrences (S l) (S [c]) 0 (S l).length 1 with
  | nil => rw [q] at f; cases f
  | cons i r =>
    refine ⟨i, rfl, ?_⟩
    obtain ⟨_, z⟩ := PySem.StrLaws.occ_spec (S l) (S [c]) 0 (S l).length 1 i (by rw [q]; exact List.mem_cons_self)
    exact sub_one z
theorem at_once {l : List Nat} (hn : l.Nodup) {i j c : Nat} (h1 : l[i]? = some c) (h2 : l[j]? = some c) : i = j := by
  have no : ∀ {i j : Nat}, l[i]? = some c → l[j]? = some c → ¬ i < j := fun {i j} h1 h2 lt => nodup_take hn h2 (List.mem_of_getElem? (i := i) (by rw [List.getElem?_take_of_lt lt]; exact h1))
  have := no h1 h2
  have := no h2 h1
  omega
theorem at_idx {l : List Nat} {c : Nat} (h : c ∈ l) : l[l.idxOf c]? = some c := by
  rw [List.getElem?_eq_getElem (List.idxOf_lt_length_of_mem h)]
  simp
theorem find_idx {l : List Nat} (hn : l.Nodup) {c : Nat} (h : c ∈ l) : Txt.find (S l) (S [c]) = (l.idxOf c : Nat) := by
  obtain ⟨i, e, h1⟩ := find_at h
  rw [e, at_once hn h1 (at_idx h)]
theorem o_find {l : List Nat} (hn : l.Nodup) {c : Nat} (h : c ∈ l) (w : P (.int (l.idxOf c : Nat)) ρ) : wo (oFind (S l) [.str (S [c])]) ρ P := o_some (show some (D.int (Txt.find (S l) (S [c]))) = _ by rw [find_idx hn h]) w
/-! ### text * int -/
theorem mul_list (l : List Nat) (n : Nat) : Txt.mul (S l) n = S (List.replicate n l).flatten := by
  have key : ∀ (n : Nat) (a : Array Nat), (List.replicate n l.toArray).foldl (· ++ ·) a = a ++ (List.replicate n l).flatten.toArray := by
    intro n
    induction n with
    | zero => intro a; simp
    | succ n ih =>
      intro a
      rw [List.replicate_succ, List.foldl_cons, ih, List.replicate_succ, List.flatten_cons]
      apply Array.ext'
      simp
  unfold Txt.mul
  by_cases h : (n : Int) < 1
  · rw [if_pos h]
    have : n = 0 := by omega
    subst this
    rfl
  · rw [if_neg h]
    unfold S
    congr 1
    rw [show ((n : Int)).toNat = n from rfl, key]
    simp
    intro q
    rcases q with q | q
    · have : n = 1 := by omega
      subst this
      simp
    · have q : l.toArray.size = 0 := q
      have : l = [] := by simpa using q
      subst this
      simp
theorem o_mulS {l : List Nat} {n : Nat} (h1 : l.length ≤ 4096) (h2 : n ≤ 4096) (w : P (.str (S (List.replicate n l).flatten)) ρ) : wo (mulS (.str (S l)) (.int n)) ρ P := o_some (d := .str (S (List.replicate n l).flatten)) (by
  show ifO _ _ = _
  unfold ifO
  rw [if_pos ⟨by rw [S_len]; exact h1, by omega, by omega⟩, mul_list]) w
end
/-! ### lists of ints in order -/
/-- the first difference is upwards -/
def upLt : List Int → List Int → Bool
  | x :: xs, y :: ys => decide (x < y) || (decide (x = y) && upLt xs ys)
  | _, _ => false
open PySem.W PySem.SeqAt PyProof.Rows in
theorem data_lt : ∀ (xs ys : List Int), upLt xs ys = true → xs.length = ys.length → PyProof.Rows.lexLt itemOrd (keyToksAll (xs.map PyData.int)) (keyToksAll (ys.map PyData.int)) = true
  | [], _, h, _ => by cases h
  | _ :: _, [], h, _ => by cases h
  | x :: xs, y :: ys, h, hl => by
    rw [List.map_cons, List.map_cons, toks_all_cons, toks_all_cons, lex_self (O := itemOrd)]
    simp only [keyToks, List.cons_append, List.nil_append]
    unfold upLt at h
    by_cases q : x < y
    · have ne : (Sum.inl x : Int ⊕ List Nat) ≠ Sum.inl y := fun z => by cases z; omega
      rw [lex_diff (O := itemOrd) ne]
      show decide (x < y) = true
      exact decide_eq_true q
    · rw [decide_eq_false q, Bool.false_or, Bool.and_eq_true, decide_eq_true_eq] at h
      obtain ⟨rfl, h⟩ := h
      rw [lex_self (O := itemOrd)]
      exact data_lt xs ys h (by simpa using hl)
theorem toPys_ints : ∀ xs : List Int, toPys (xs.map D.int) = some (xs.map PyData.int)
  | [] => rfl
  | x :: xs => by
    rw [List.map_cons, List.map_cons]
    unfold toPys
    rw [toPys_ints xs]
    rfl
theorem alike_ints : ∀ xs ys : List Int, PySem.W.alikeAll (xs.map PyData.int) (ys.map PyData.int) = true
  | [], _ => by unfold PySem.W.alikeAll; rfl
  | _ :: _, [] => by unfold PySem.W.alikeAll; rfl
  | x :: xs, y :: ys => by
    rw [List.map_cons, List.map_cons]
    unfold PySem.W.alikeAll
    rw [alike_ints xs ys]
    simp [PySem.W.alike]
theorem depth_ints : ∀ xs : List Int, PyData.depthAll (xs.map PyData.int) ≤ 1
  | [] => by decide
  | x :: xs => by
    rw [List.map_cons]
    unfold PyData.depthAll
    have := depth_ints xs
    have e : (PyData.int x).depth ≤ 1 := by unfold PyData.depth; omega
    omega
theorem o_ltL {P : D → Env → Prop} {ρ : Env} {xs ys : List Int} (h : upLt xs ys = true) (hl : xs.length = ys.length) (w : P (.bl true) ρ) : wo (ltLD (.lst (xs.map D.int)) (.lst (ys.map D.int))) ρ P := o_some (d := .bl true) (by
  unfold ltLD
  have e : ∀ zs : List Int, toPy (.lst (zs.map D.int)) = some (.list (zs.map PyData.int)) := by
    intro zs
    unfold toPy
    rw [toPys_ints]
    rfl
  rw [e, e]
  dsimp only
  have d1 : (PyData.list (xs.map PyData.int)).depth ≤ 60 := by
    unfold PyData.depth
    have := depth_ints xs
    omega
  have a1 : PySem.W.alike (.list (xs.map PyData.int)) (.list (ys.map PyData.int)) = true := by
    unfold PySem.W.alike
    exact alike_ints xs ys
  unfold ifO
  rw [if_pos ⟨a1, d1⟩, PySem.W.dataLt_list, data_lt xs ys h hl]) w
end Ip
set_option maxHeartbeats 2000000
namespace Ip
open PySem L2 PySem.Spec PyProof.Rows
/-! ## dicts with tuple keys, walked by their keys and by their items (locked) -/
/-- the i-th entry of a locked dict: its key's own tuple and its value -/
theorem entryT {X : Cx} {pins : List (Addr × Obj)} {σ : L2.St} {H : Hp} {s : Shared} {d : Addr} {o : Obj} {kvs : List (List Key × V)} (I : Inv X pins σ H s) (h : H d = some (.frz o (.dT kvs))) :
    (d == sysModules) = false ∧ s.heap.get? d = some o ∧ o.ExactDict ∧ ∃ (es : Array DictEntry) (ep : Nat), o.data = .dict es ep ∧ es.size = kvs.length ∧
      ∀ (i : Nat) (k : List Key) (v : V), kvs[i]? = some (k, v) → ∃ (en : DictEntry) (q : Addr), es[i]? = some en ∧ en.key = .ref q ∧ H q = some (.tup (k.map kV)) ∧ RelV v en.val := by
  obtain ⟨hd, _, hs, xs, pr, o', es, ep, ho, hx, hdt, he, _⟩ := I.hok d _ h
  rw [hd] at ho
  cases ho
  have l1 : es.size = xs.length := size_of_entries he
  have l2 : kvs.length = xs.length := Paired.length pr
  refine ⟨hs, hd, hx, es, ep, hdt, by omega, fun i k v e => ?_⟩
  obtain ⟨b, hb, e1, e2, e3⟩ := paired_get pr e
  have q := entry_at he i
  rw [hb] at q
  exact ⟨_, b.2.1, q, rfl, e2, e3⟩
/-- the pairs, each a new tuple of the key's own tuple and the value -/
def ItPT (d : Addr) (o : Obj) (kvs : List (List Key × V)) : It :=
  ⟨fun i H => H d = some (.frz o (.dT kvs)) ∧ i < kvs.length, fun i H x H' => ∃ T q k v, kvs[i]? = some (k, v) ∧ H q = some (.tup (k.map kV)) ∧ x = .ref T ∧ H T = none ∧ H' = upd H T (.tup [.ref q, v]), fun i H => H d = some (.frz o (.dT kvs)) ∧ kvs.length ≤ i⟩
theorem turn_PT {P : Program} {w : World} {K : PySem.W.Frag} {d : Addr} {o : Obj} {es : Array DictEntry} {ep : Nat} {kvs : List (List Key × V)} {elts : List Expr} {kk : Nat} {tpos : Pos} (it : Addr) (hod : o.data = .dict es ep) :
    Turn P w K (.Tuple elts kk tpos) (ItPT d o kvs) [it] it (fun i h => ∃ ok ov, IsItemIter h it d i kvs.length ep ok ov) where
  mem := by simp
  obj := fun i h ⟨_, _, e⟩ b hb => by
    rw [List.mem_singleton.mp hb]
    exact ⟨_, e, fun v z => nomatch z⟩
  keep := fun i h h' ⟨ok, ov, e⟩ k => ⟨ok, ov, k it (by simp) _ e⟩
  item := by
    rintro X rfl rfl rfl hc i pins s σ H E I hf ⟨ok, ov, he⟩ ⟨hd, hi⟩
    obtain ⟨_, hgd, hx, es', ep', hdt, hsz, ent⟩ := entryT I hd
    obtain ⟨rfl, rfl⟩ := dict_ep hod hdt
    obtain ⟨en, q, e1, e2, e3, e4⟩ := ent i _ _ (List.getElem?_eq_getElem hi)
    have hlt : it < s.heap.objs.size := Heap.lt_size he
    have hie : i < es'.size := by omega
    have een : es'[i] = en := by
      have := Array.getElem?_eq_getElem hie
      rw [e1] at this
      exact (Option.some.inj this).symm
    rw [← hsz] at he
    refine DT.nextI he ⟨o, hgd, hx, hod⟩ hie fun h' ho hT hz hk => ?_
    rw [een, e2] at ho hT
    refine ⟨_, rfl, wpAny_letOwnedTupleGo_items (s := { s with heap := h' }) ho fun h'' he' sb => ?_⟩
    have hT2 : h''.get? s.heap.objs.size = some { cls := .type "tuple", data := .seq #[.ref q, en.val] } := (sb.2 _ (Nat.ne_of_gt hlt)).trans hT
    have I1 : Inv X pins σ (upd H s.heap.objs.size (.tup [.ref q, (kvs[i]).2])) { s with heap := h'' } :=
      I.turnedNew (t' := s.toks) (ch := [it]) (fun b ob hb e => (sb.2 b (by simpa using hb)).trans (hk b ob (by simpa using hb) e)) hf (Nat.le_refl _)
        ⟨by show 2 ≤ sizeLine; decide, [.ref q, en.val], .cons rfl (.cons e4 .nil), ⟨_, hT2, rfl, _, rfl⟩⟩
    refine ⟨.ref s.heap.objs.size, _, I1, rfl, ⟨_, q, (kvs[i]).1, (kvs[i]).2, List.getElem?_eq_getElem hi, e3, rfl, I.hok.fresh (Nat.le_refl _), rfl⟩, ⟨.ref q, en.val, ?_⟩, fun b hb => ?_⟩
    · rw [← hsz]; exact he'
    · rw [List.mem_singleton.mp hb, upd_ne (Nat.ne_of_lt hlt)]
      exact (hf it (by simp)).1
  done := by
    rintro X rfl rfl rfl hc i pins s σ H E I hf ⟨ok, ov, he⟩ ⟨hd, hi⟩
    obtain ⟨f0, f1, f2, f3, f4, f5⟩ := hf it (by simp)
    obtain ⟨_, hgd, hx, es', ep', hdt, hsz, _⟩ := entryT I hd
    obtain ⟨rfl, rfl⟩ := dict_ep hod hdt
    rw [← hsz] at he
    exact DT.endI (I.ok.hd hc) he ⟨o, hgd, hx, hod⟩ (by omega) fun h' eb => ⟨rfl, I.turned (t' := s.toks) (fun b ob hb e => eb b ob hb e) f0 f1 f3 f4 f5⟩
  self := fun A i s Q E ⟨_, _, e⟩ h => PySem.W.kcp_self e h
theorem pi_itemsT {X : Cx} {e : Expr} {td : TE} {apos cpos tpos : Pos} {elts : List Expr} {kk : Nat} (he : PE X e td) (hbase : attributeBase e "items" X.env (eval e X.env) = eval e X.env := by rfl) (hline : (apos.endLine == cpos.line) = true := by rfl) :
    PI X (.Tuple elts kk tpos) (.Call (.Attribute e "items" apos) [] [] cpos) fun σ H R => td σ H fun x H1 => ∃ d o kvs, x = .ref d ∧ H1 d = some (.frz o (.dT kvs)) ∧ R (ItPT d o kvs) H1 := ⟨fun pins s σ H R I h => by
  refine wpAny_Call_method (T := "dict") (id := "dict.items") hbase rfl hline PySem.F.plainAttrs_dict PySem.F.slot_dict_items PySem.F.type_dict_items (thn (he.run pins s σ H _ I h) fun u s1 ⟨x, H1, I1, rx, d, o, kvs, ex, hd, q⟩ => ?_)
  subst ex
  obtain rfl : u = Value.ref d := rx
  obtain ⟨hs, hgd, hx, es, ep, hdt, hsz, _⟩ := entryT I1 hd
  have raw : DT.Raw s1.heap d es ep := ⟨o, hgd, hx, hdt⟩
  refine ⟨raw.typeIs, ?_, ?_⟩
  · rintro a ea
    cases ea
    exact ⟨o, hgd, hx.2.1⟩
  · have I2 : Inv X pins σ H1 { s1 with heap := s1.heap.push { cls := .type "dict_items", data := .fields #[.ref d] } } := I1.kept (t' := s1.toks) fun b ob q => Heap.get?_push_of_some _ q
    refine method_meetsIn PySem.F.slot_dict_items PySem.F.entry_dict_items rfl (PySem.evalArgs_none ⟨rfl, raw.typeIs, PySem.F.args_dict_items_1 _, _, DT.meetsItems (es := es) (ep := ep) hs, raw, ?_⟩)
    refine DT.iterI (s := { s1 with heap := s1.heap.push { cls := .type "dict_items", data := .fields #[.ref d] } }) (es := es) (ep := ep) ⟨_, Heap.get?_push_size _ rfl, rfl, rfl⟩ (raw.push _) (pi_one (tk := s1.toks) I2 _ (turn_PT _ hdt) ⟨.none, .none, ?_⟩ q)
    rw [← hsz]
    exact Heap.get?_push_size _ rfl⟩
end Ip
set_option maxHeartbeats 2000000
namespace Ip
open PySem L2 PySem.Spec PyProof.Rows
/-! ## for .. in d / d.items(), [.. for .. in d]: the dict in slot i is locked meanwhile -/
def pairsT (ks : List (List Key)) (ds : List D) : List D := (ks.zip ds).map fun p => .tup [kT p.1, p.2]
theorem zip_at {α β : Type} {xs : List α} {ys : List β} {i : Nat} {a : α} {b : β} (h : (xs.zip ys)[i]? = some (a, b)) : xs[i]? = some a ∧ ys[i]? = some b := by
  rw [List.getElem?_zip_eq_some] at h
  exact h
section
variable {g : Gx} {H : Hp} {M : List Addr} {a : Addr} {o : Obj} {ks : List (List Key)} {vs : List V} {ds : List D}
theorem itok_keysT (n : a ∉ M) (h : H a = some (.frz o (.dT (ks.zip vs)))) (hl : ks.length = vs.length) : ItOk g (Itkt a o (ks.zip vs)) (ks.map kT) H M := by
  have el : (ks.zip vs).length = (ks.map kT).length := by rw [List.length_zip, List.length_map]; omega
  refine ⟨_, _, el ▸ walk_keysT, fun H1 M1 le => (mask_some (le.o a (.frz o (.dT (ks.zip vs))) (by rw [mask_out n]; exact h) trivial)).2, ?_⟩
  rintro i x H1 H1' d hd _ ⟨rfl, k, v, q, hk, rfl, hq⟩
  refine ⟨.refl _, fun M1 hM _ => ?_⟩
  rw [List.getElem?_map, (zip_at hk).1] at hd
  cases hd
  exact rv_kT hM hq
theorem walk_PT {kvs : List (List Key × V)} : Walk (ItPT a o kvs) kvs.length (fun H => H a = some (.frz o (.dT kvs))) (ItPT a o kvs).yld :=
  ⟨fun _ _ hi q => ⟨q, hi⟩, fun _ q => ⟨q, Nat.le_refl _⟩, fun _ _ _ _ _ _ y => y⟩
theorem itok_itemsT (n : a ∉ M) (h : H a = some (.frz o (.dT (ks.zip vs)))) (hl : ks.length = vs.length) (r : RVs g (mask H M) ds vs) : ItOk g (ItPT a o (ks.zip vs)) (pairsT ks ds) H M := by
  have rl := r.length
  have el : (ks.zip vs).length = (pairsT ks ds).length := by unfold pairsT; rw [List.length_zip, List.length_map, List.length_zip]; omega
  refine ⟨_, _, el ▸ walk_PT, fun H1 M1 le => (mask_some (le.o a (.frz o (.dT (ks.zip vs))) (by rw [mask_out n]; exact h) trivial)).2, ?_⟩
  rintro i x H1 H1' d hd _ ⟨T, q, k, v, hk, hq, rfl, hT, rfl⟩
  obtain ⟨k1, k2⟩ := zip_at hk
  have hd2 : ∃ e, ds[i]? = some e ∧ d = .tup [kT k, e] := by
    unfold pairsT at hd
    rw [List.getElem?_map, Option.map_eq_some_iff] at hd
    obtain ⟨⟨k', e⟩, h1, h2⟩ := hd
    obtain ⟨z1, z2⟩ := zip_at h1
    rw [k1] at z1
    cases z1
    exact ⟨e, z2, h2.symm⟩
  obtain ⟨e, he, rfl⟩ := hd2
  obtain ⟨u, hu, ru⟩ := r.get he
  rw [k2] at hu
  cases hu
  refine ⟨same_upd hT, fun M1 hM le => ?_⟩
  exact rv_pair hT (fun b hb => (hM b hb).1) (rv_kT hM hq) (ru.mono le)
end
def mKeysT (i : Nat) : Env → R (List D) := fun ρ => match ρ[i]? with
  | some (some (.dit ks _)) => .ok (ks.map kT) ρ
  | _ => .bad
def mItemsT (i : Nat) : Env → R (List D) := fun ρ => match ρ[i]? with
  | some (some (.dit ks ds)) => .ok (pairsT ks ds) ρ
  | _ => .bad
section
variable {X : Cx} {C : Ac} {W : WX} {Γ Γ0 Γ1 Γ' Γb : List Nat} {fr fr1 : Bool} {e tg elt : Expr} {es elts : List Expr} {ts : List Nat} {f : Env → R D} {g : D → Env → Option Env} {tst : Env → R Bool} {p pos apos cpos tpos : Pos} {kk : Nat} {scope : Scope} {own : List (Str × Nat)} {x : Str} {body : List Stmt} {fb : Env → R Fl}
/-- what the walk of a locked dict is -/
structure SIK (X : Cx) (C : Ac) (W : WX) (Γ : List Nat) (i : Nat) (tg iter : Expr) (f : Env → R (List D)) : Prop where
  pi : PI X tg iter fun σ H Q => Lk i σ H ∧ ∃ hid ρ, ST X.K C hid Γ ρ σ H ∧ PostI X.K C W Γ Γ hid σ H Q (f ρ)
theorem lk_at {K : PySem.W.Frag} {hid : List Addr} {ρ : Env} {σ : L2.St} {H : Hp} (S : ST K C hid Γ ρ σ H) {i : Nat} (hi : i ∉ Γ) {ks : List (List Key)} {ds : List D} (e : ρ[i]? = some (some (.dit ks ds))) (l : Lk i σ H) :
    ∃ a o vs, σ[i]? = some (some (.ref a)) ∧ a ∉ Ms σ hid Γ ∧ H a = some (.frz o (.dT (ks.zip vs))) ∧ ks.length = vs.length ∧ RVs (gx K C) (mask H (Ms σ hid Γ)) ds vs := by
  obtain ⟨v, ev, rv⟩ := S.sl i _ hi e
  obtain ⟨a, o, kvs, e1, e2⟩ := l
  rw [e1] at ev
  cases ev
  cases rv with
  | @dT _ _ vs _ h hl r =>
    rcases h with h | ⟨o', h⟩
    · obtain ⟨n, h⟩ := mask_some h
      rw [e2] at h; cases h
    · obtain ⟨n, h⟩ := mask_some h
      exact ⟨a, o', vs, e1, n, h, hl, r⟩
theorem sik_keys (i : Nat) (hi : (Γ.contains i) = false := by rfl) (hN : X.N[i]? = some x := by rfl) (hv : Vis X.env.scope x := by first | exact Or.inl rfl | exact Or.inr (Or.inl rfl) | exact Or.inr (Or.inr rfl)) (hd : (x == ("__debug__" : Str)) = false := by decide) (hcd : (x == ("__classdict__" : Str)) = false := by decide) :
    SIK X C W Γ i tg (.Name x p) (mKeysT i) := ⟨piImp (pi_keys (pe_var hN hv hd hcd)) fun σ H Q ⟨l, hid, ρ, S, p⟩ => by
  have hi' : i ∉ Γ := fun z => by rw [List.contains_iff_mem.mpr z] at hi; cases hi
  unfold mKeysT at p
  split at p
  · rename_i ks ds e
    obtain ⟨a, o, vs, e1, n, h, hl, r⟩ := lk_at S hi' e l
    exact ⟨_, e1, a, o, rfl, .inr ⟨_, h, p _ H S (Stp.refl _ _ _) (itok_keysT n h hl)⟩⟩
  · exact p.elim⟩
theorem sik_items (i : Nat) (hi : (Γ.contains i) = false := by rfl) (hN : X.N[i]? = some x := by rfl) (hv : Vis X.env.scope x := by first | exact Or.inl rfl | exact Or.inr (Or.inl rfl) | exact Or.inr (Or.inr rfl)) (hd : (x == ("__debug__" : Str)) = false := by decide) (hcd : (x == ("__classdict__" : Str)) = false := by decide)
    (hbase : attributeBase (.Name x p) "items" X.env (eval (.Name x p) X.env) = eval (.Name x p) X.env := by rfl) (hline : (apos.endLine == cpos.line) = true := by rfl) :
    SIK X C W Γ i (.Tuple elts kk tpos) (.Call (.Attribute (.Name x p) "items" apos) [] [] cpos) (mItemsT i) := ⟨piImp (pi_itemsT (pe_var hN hv hd hcd) hbase hline) fun σ H Q ⟨l, hid, ρ, S, p⟩ => by
  have hi' : i ∉ Γ := fun z => by rw [List.contains_iff_mem.mpr z] at hi; cases hi
  unfold mItemsT at p
  split at p
  · rename_i ks ds e
    obtain ⟨a, o, vs, e1, n, h, hl, r⟩ := lk_at S hi' e l
    exact ⟨_, e1, a, o, _, rfl, h, p _ H S (Stp.refl _ _ _) (itok_itemsT n h hl r)⟩
  · exact p.elim⟩
/-! ### an expression, a statement that walks -/
def mLockE (i : Nat) (m : Env → R D) : Env → R D := fun ρ => match ρ[i]? with
  | some (some (.dit _ _)) => (match m ρ with
    | .ok d ρ' => .ok d ρ'
    | _ => .bad)
  | _ => .bad
theorem lockE_ok {i : Nat} {m : Env → R D} {σ : L2.St} {H : Hp} {Q : VK} (p : tE X.K C W Γ Γ' fr (mLockE i m) σ H Q) : tE X.K C W Γ Γ' fr m σ H Q := by
  obtain ⟨hid, ρ, S, p⟩ := p
  refine ⟨hid, ρ, S, ?_⟩
  unfold mLockE at p
  split at p
  · cases q : m ρ with
    | ok d ρ' => rw [q] at p; exact p
    | exn e ρ' => rw [q] at p; exact p.elim
    | bad => rw [q] at p; exact p.elim
  · exact p.elim
/-- [elt for key in d if ..] -/
theorem se_lcK (i : Nat) {iter : Expr} {fi : Env → R (List D)} {ifs : List Expr} {ρs : List Nat} (hc : X.calm = true) (hN : X.N.Nodup) (ok : BlkOk X.N X.env.scope scope own) (hi : SIK X C W Γ i tg iter fi) (hg : ∀ (s : Shared) (H : Hp) (Cc : Addr) (cl : List (Str × Addr)) (fp : List Addr), SG (X.blk s H scope (compEnvC scope cl Cc X.env) fp) C Γ tg ts g)
    (ht : ∀ (s : Shared) (H : Hp) (Cc : Addr) (cl : List (Str × Addr)) (fp : List Addr), SPs (X.blk s H scope (compEnvC scope cl Cc X.env) fp) C Wn Γ ifs Γ tst) (he : ∀ (s : Shared) (H : Hp) (Cc : Addr) (cl : List (Str × Addr)) (fp : List Addr), SE (X.blk s H scope (compEnvC scope cl Cc X.env) fp) C Wn Γ elt Γ fr f)
    (hiΓ : (Γ.contains i) = false := by rfl) (hρ : ρs = own.map (·.2) := by rfl) (hv : (Γ.all fun i => !ρs.contains i) = true := by rfl) (hts : (ts.all fun i => ρs.contains i) = true := by rfl) (hs : ∀ x, foldedSetIterable iter X.env x = pure x := by intro _; rfl) :
    SE X C W Γ (.ListComp elt [⟨tg, iter, ifs, 0⟩] scope pos) Γ true (mLockE i (mLc fi g tst f ρs)) := by
  subst hρ
  refine se_locked (pe_lc hc hN hi.pi ok (fun s H Cc cl fp => (hg s H Cc cl fp).pg) (fun s H Cc cl fp => (ht s H Cc cl fp).pt) (fun s H Cc cl fp => (he s H Cc cl fp).pe) hs) i (fun z => by rw [List.contains_iff_mem.mpr z] at hiΓ; cases hiΓ)
    (fun σ H Q l p => ⟨l, lc_ok (fun i hi z => by have := List.all_eq_true.mp hv i hi; rw [List.contains_iff_mem.mpr z] at this; cases this) (fun i hi => List.contains_iff_mem.mp (List.all_eq_true.mp hts i hi)) (lockE_ok p)⟩) (fun ρ => ?_) fun ρ e ρ' => ?_
  · unfold mLockE
    split
    · rename_i ks ds e
      exact .inl ⟨_, _, e⟩
    · exact .inr rfl
  · unfold mLockE
    split
    · split
      · intro z; cases z
      · intro z; cases z
    · intro z; cases z
def mLockS (i : Nat) (m : Env → R Fl) : Env → R Fl := fun ρ => match ρ[i]? with
  | some (some (.dit _ _)) => (match m ρ with
    | .ok .nx ρ' => .ok .nx ρ'
    | _ => .bad)
  | _ => .bad
theorem ss_locked {t : TS} {st : Stmt} {m : Env → R Fl} (he : PS X st t) (i : Nat) (hi : i ∉ Γ) (ht : ∀ Dn σ H, Lk i σ H → tS X.K C W Γ Γ' Γb fr (mLockS i m) Dn σ H → t Dn σ H) : SS X C W Γ st Γ' Γb fr (mLockS i m) := by
  refine ⟨⟨fun pins s σ H Dn I ⟨ρ, S, p⟩ => ?_⟩⟩
  have p0 := p
  unfold mLockS at p
  split at p
  · rename_i ks ds er
    obtain ⟨v, ev, rv⟩ := S.sl i _ hi er
    cases rv with
    | @dT a ks vs ds h l r =>
      rcases h with h | ⟨od, h⟩
      · obtain ⟨n, h⟩ := mask_some h
        refine (ps_lock he).run pins s σ H Dn I ⟨a, .dT (ks.zip vs), h, trivial, fun od => ht _ _ _ ⟨a, od, _, ev, upd_same⟩ ⟨ρ, S.lock n h, ?_⟩⟩
        have em : mLockS i m ρ = (match m ρ with
          | .ok .nx ρ' => .ok .nx ρ'
          | _ => .bad) := by unfold mLockS; rw [er]
        rw [em]
        cases q : m ρ with
        | bad => rw [q] at p; exact p
        | exn e ρ' => rw [q] at p; exact p
        | ok fl ρ' =>
          rw [q] at p
          cases fl with
          | nx =>
            intro σ' H' S' k'
            obtain ⟨e1, n1, le1⟩ := locked_le n h k'.le
            have h0 : C.H0 a ≠ some (.frz od (.dT (ks.zip vs))) := fun z => by
              have na : a ∉ C.hid ++ C.ioA := fun y => by
                rcases List.mem_append.mp y with y | y
                · exact n (mem_Ms.mpr (.inl (S.sub a y)))
                · rw [← S.pin] at y
                  obtain ⟨j, hj, ej⟩ := List.mem_map.mp y
                  exact n (mem_Ms.mpr (.inr ⟨j, S.io j hj, ej⟩))
              have := (mask_some (S.frm.o a (.frz od (.dT (ks.zip vs))) (by rw [mask_out na]; exact z) trivial)).2
              rw [h] at this; cases this
            refine ⟨e1, p σ' _ (S'.unlock n1 e1 h0) ⟨le1, fun b hb => ?_⟩⟩
            have hb' : b ≠ a := fun z => n (mem_Ms.mpr (.inl (z ▸ hb)))
            rw [upd_ne hb', k'.fx b hb, upd_ne hb']
          | _ => exact p.elim
      · exact he.run pins s σ H Dn I (ht _ σ H ⟨a, od, _, ev, (mask_some h).2⟩ ⟨ρ, S, p0⟩)
  · exact p.elim
theorem lockS_ok {i : Nat} {m : Env → R Fl} {Dn : Ends} {σ : L2.St} {H : Hp} (p : tS X.K C W Γ Γ' Γb fr (mLockS i m) Dn σ H) : tS X.K C W Γ Γ' Γb fr m Dn σ H := by
  obtain ⟨ρ, S, p⟩ := p
  refine ⟨ρ, S, ?_⟩
  unfold mLockS at p
  split at p
  · cases q : m ρ with
    | ok fl ρ' =>
      rw [q] at p
      cases fl with
      | nx => exact p
      | _ => exact p.elim
    | exn e ρ' => rw [q] at p; exact p.elim
    | bad => rw [q] at p; exact p.elim
  · exact p.elim
/-- for .. in the dict of slot i -/
theorem ss_forK (i : Nat) {iter : Expr} {fi : Env → R (List D)} (hp : PassesOwn (model X.prog X.w) X.A X.env X.xe) (hc : X.calm = true) (hi : SIK X C W Γ i tg iter fi) (hg : SG X C Γ tg ts g) (hb : SSs X C W Γ body Γ Γ fr fb) (hiΓ : (Γ.contains i) = false := by rfl) (hs : ∀ x, foldedSetIterable iter X.env x = pure x := by intro _; rfl) :
    SS X C W Γ (.For tg iter body [] pos) Γ Γb fr (mLockS i (mFor fi g fb)) :=
  ss_locked (ps_for hp hc hi.pi hg.pg hb.ps hs) i (fun z => by rw [List.contains_iff_mem.mpr z] at hiΓ; cases hiΓ) fun Dn σ H l p => ⟨l, for_ok (lockS_ok p)⟩
end
end Ip
set_option maxHeartbeats 2000000
namespace Ip
open PySem L2 PySem.Spec PyProof.Rows
/-! ## a comprehension's turn, whatever its block adds; comprehensions that make a dict with tuple keys -/
theorem t_dictSet {X : Cx} {pins : List (Addr × Obj)} {σ : L2.St} {H : Hp} {s : Shared} {E : Value → Shared → Prop} {A : Around} {D q : Addr} {kvs : List (List Key × V)} {k : List Key} {v : V} {r : Value} {Q : Unit → Shared → Prop} (hu : A.units < cLine) (I : Inv X pins σ H s) (hD : H D = some (.dT kvs)) (hz : kvs.length < sizeLine)
    (hq : H q = some (.tup (k.map kV))) (rv : RelV v r) (h : ∀ s', Inv X pins σ (upd H D (.dT (putK kvs k v))) s' → Q () s') : wpAny (model X.prog X.w) A (dictSet D (.ref q) r) Q E s := by
  obtain ⟨z, hd, xs, rel, dd⟩ := dt_of I.hok hD
  have l1 := Paired.length rel
  have l2 := length_putK kvs k v
  refine wpAny_dictSet_heap (hsz := by omega) hu (key_of I.hok hq) dd fun h' dd' hs => h _ ?_
  obtain ⟨o, es, ep, ho, h2, h3, h4, _, h5⟩ := dd'
  refine d_write I (by rw [hD]; exact True.intro) hs ⟨o, ho⟩ ⟨by omega, hd, _, (rel.put k hq rv).keeps fun c ys ec => ?_, o, es, ep, ho, h2, h3, h4, h5⟩
  rw [upd_ne (ne_of ec hD (fun z => nomatch z))]
  exact ec
section
variable {X : Cx} {scope : Scope} {ce : PySem.Env} {fp : List Addr} {s3 : Shared} {H3 : Hp} {tg : Expr} {ifs : List Expr} {J : It} {it : Addr} {tn : Nat → Heap → Prop} {vs : List Nat} {σ : L2.St} {W : Nat → Nat → Hp → Prop}
/-- how the block stands before its i-th turn, m being the measure -/
def Bk (X : Cx) (s3 : Shared) (H3 : Hp) (scope : Scope) (ce : PySem.Env) (fp : List Addr) (tn : Nat → Heap → Prop) (σw : L2.St) (W : Nat → Nat → Hp → Prop) (m : Nat) (s : Shared) : Prop :=
  ∃ i H, Inv (X.blk s3 H3 scope ce fp) [] σw H s ∧ tn i s.heap ∧ (∀ b ∈ fp, H b = none) ∧ W i m H
theorem blk_fp {σ' : L2.St} {H : Hp} {s : Shared} (I : Inv (X.blk s3 H3 scope ce fp) [] σ' H s) (n : ∀ b ∈ fp, H b = none) : ∀ b ∈ fp, FpOk (X.blk s3 H3 scope ce fp) [] H b := fun b hb => by
  obtain ⟨e1, e2⟩ := I.ok.exf b hb
  exact ⟨n b hb, e1, I.ok.exfs b hb, .inl hb, fun x c e => e2 x c e, fun p hp => nomatch (show p ∈ ([] : List (Addr × Obj)) from hp)⟩
/-- what a turn's adding is: K is wished behind it -/
abbrev Add := (Shared → Prop) → Shared → Prop
theorem blk_turn {g : TG} {tt : TT} {ad : L2.St → Hp → (Hp → Prop) → Prop} {R : Result → Shared → Prop} {Add : Add} {m : Nat} {s : Shared} (hc : X.calm = true) (T : Turn X.prog X.w X.K tg J fp it tn) (pg : PG (X.blk s3 H3 scope ce fp) tg g) (pt : PTs (X.blk s3 H3 scope ce fp) ifs tt)
    (ha : ∀ (pins : List (Addr × Obj)) (s : Shared) (σ : L2.St) (H : Hp) (Nx : Hp → Prop) (K : Shared → Prop), Inv (X.blk s3 H3 scope ce fp) pins σ H s → ad σ H Nx → (∀ s' H', Inv (X.blk s3 H3 scope ce fp) pins σ H' s' → Nx H' → K s') → Add K s)
    (turn : ∀ i m H, W i m H → (J.stop i H ∧ (∀ s', Inv (X.blk s3 H3 scope ce fp) [] (wipe σ vs) H s' → R (.ok .next) s')) ∨ (J.go i H ∧ ∃ Nx : Hp → Prop, (∀ H', Nx H' → ∃ m', m' < m ∧ W (i + 1) m' H') ∧
      ∀ x H', J.yld i H x H' → g x (wipe σ vs) H' fun σ2 H2 => wipe σ2 vs = wipe σ vs ∧ tt σ2 H2 fun b H3 => if b = true then ad σ2 H3 Nx else Nx H3))
    (b : Bk X s3 H3 scope ce fp tn (wipe σ vs) W m s) {E : Value → Shared → Prop} :
    wpAny (model X.prog X.w) X.A (pyNext (.ref it)) (fun r s1 => match r with
      | none => R (.ok .next) s1
      | some v => wpAny (model X.prog X.w) X.A (letOwnedTupleGo tg (.ref it) v) (fun _ s2 => wpAny (model X.prog X.w) X.A (assign tg ce v) (fun _ s4 =>
          wpAny (model X.prog X.w) X.A (forIn ifs true fun c r => if r = true then do let ok ← isTrue c ce (eval c ce); pure (ForInStep.yield ok) else pure (ForInStep.yield r)) (fun ok s5 =>
            if ok = true then Add (fun s' => ∃ m', m' < m ∧ Bk X s3 H3 scope ce fp tn (wipe σ vs) W m' s') s5 else ∃ m', m' < m ∧ Bk X s3 H3 scope ce fp tn (wipe σ vs) W m' s5) E s4) E s2) E s1) E s := by
  obtain ⟨i, H, I, st, n, w⟩ := b
  rcases turn i m H w with ⟨stop, fin⟩ | ⟨go, Nx, next, step⟩
  · refine thnF (T.done (X.blk s3 H3 scope ce fp) rfl rfl rfl hc i [] s _ H (fun _ _ => False) I (blk_fp I n) st stop) fun r s1 ⟨e, I1⟩ => ?_
    subst e
    exact fin s1 I1
  · refine thnF (T.item (X.blk s3 H3 scope ce fp) rfl rfl rfl hc i [] s _ H (fun _ _ => False) I (blk_fp I n) st go) fun r s1 ⟨u, e, q⟩ => ?_
    subst e
    refine thnF q fun _ s2 ⟨x, H2, I2, r2, y2, st2, n2⟩ => ?_
    have Ip := I2.pinned (blk_fp I2 n2) (T.obj _ _ st2)
    refine thnF (pg.run _ s2 _ H2 x u _ Ip r2 (step x H2 y2)) fun _ s4 ⟨σ4, H4, I4, e4, q4⟩ => ?_
    -- a turn's end leads to the next one's beginning
    have on : ∀ s' H', Inv (X.blk s3 H3 scope ce fp) ([] ++ pinsAt fp s2.heap) σ4 H' s' → Nx H' → ∃ m', m' < m ∧ Bk X s3 H3 scope ce fp tn (wipe σ vs) W m' s' := fun s' H' I' nx => by
      obtain ⟨m', lt, w'⟩ := next H' nx
      have kept : ∀ b ∈ fp, ∀ o, s2.heap.get? b = some o → s'.heap.get? b = some o ∧ H' b = none := fun b hb o e => by
        obtain ⟨z1, z2, _⟩ := I'.pin (b, o) (List.mem_append_right _ (List.mem_append_right _ (mem_pinsAt hb e)))
        exact ⟨z1, z2⟩
      refine ⟨m', lt, i + 1, H', I'.unpinned.weak (by rw [← e4, wipe_length]) fun j v e => (wipe_some (by rw [← e4] at e; exact e)).1, T.keep _ _ _ st2 fun b hb o e => (kept b hb o e).1, fun b hb => ?_, w'⟩
      obtain ⟨o, e, _⟩ := T.obj _ _ st2 b hb
      exact (kept b hb o e).2
    refine thnF (pt.run _ s4 σ4 H4 _ I4 q4) fun ok s5 ⟨H5, I5, q5⟩ => ?_
    cases ok with
    | false => exact on s5 H5 I5 q5
    | true => exact ha _ s5 σ4 H5 Nx _ I5 q5 on
end
end Ip
set_option maxHeartbeats 2000000
namespace Ip
open PySem L2 PySem.Spec PyProof.Rows
/-- {k: v for target in iter if ..}, the keys tuples: D the new dict -/
def tDcT (wi : TI) (g : TG) (tt : TT) (tk tv : TE) (vs : List Nat) : TE := fun σ H Q => wi σ H fun J H1 => ∀ D, H1 D = none → ∃ W : Nat → Nat → Hp → Prop, (∃ m, W 0 m (upd H1 D (.dT []))) ∧ ∀ i m H, W i m H →
  (J.stop i H ∧ Q (.ref D) H) ∨ (J.go i H ∧ ∃ Nx : Hp → Prop, (∀ H', Nx H' → ∃ m', m' < m ∧ W (i + 1) m' H') ∧ ∀ x H', J.yld i H x H' → g x (wipe σ vs) H' fun σ2 H2 => wipe σ2 vs = wipe σ vs ∧ tt σ2 H2 fun b H3 =>
    if b = true then tk σ2 H3 (fun y H4 => tv σ2 H4 fun z H5 => ∃ q kvs k, y = .ref q ∧ H5 q = some (.tup (k.map kV)) ∧ H5 D = some (.dT kvs) ∧ kvs.length < sizeLine ∧ Nx (upd H5 D (.dT (putK kvs k z)))) else Nx H3)
section
variable {X : Cx} {kx vx tg iter : Expr} {ifs : List Expr} {scope : Scope} {own : List (Str × Nat)} {pos : Pos} {wi : TI} {g : TG} {tt : TT} {tk tv : TE}
theorem pe_dcT (hu : X.A.units < cLine) (hc : X.calm = true) (hN : X.N.Nodup) (hi : PI X tg iter wi) (ok : BlkOk X.N X.env.scope scope own)
    (hg : ∀ (s : Shared) (H : Hp) (C : Addr) (cl : List (Str × Addr)) (fp : List Addr), PG (X.blk s H scope (compEnvC scope cl C X.env) fp) tg g) (ht : ∀ (s : Shared) (H : Hp) (C : Addr) (cl : List (Str × Addr)) (fp : List Addr), PTs (X.blk s H scope (compEnvC scope cl C X.env) fp) ifs tt)
    (hk : ∀ (s : Shared) (H : Hp) (C : Addr) (cl : List (Str × Addr)) (fp : List Addr), PE (X.blk s H scope (compEnvC scope cl C X.env) fp) kx tk) (he : ∀ (s : Shared) (H : Hp) (C : Addr) (cl : List (Str × Addr)) (fp : List Addr), PE (X.blk s H scope (compEnvC scope cl C X.env) fp) vx tv)
    (hs : ∀ x, foldedSetIterable iter X.env x = pure x := by intro _; rfl) : PE X (.DictComp kx vx [⟨tg, iter, ifs, 0⟩] scope pos) (tDcT wi g tt tk tv (own.map (·.2))) := ⟨fun pins s σ H Q I h => by
  rw [arm_eval_DictComp]
  have cl : ∀ y ∈ scope.names, y.2 = .free → ∃ c, X.env.cells.lookup y.1 = some c := fun y hy e => I.ok.has _ (ok.free y hy e)
  refine wpAny_comprehension_free rfl hs (closure_ok cl) ok.kind (fun y hy e => by rw [ok.uniq y hy, e]) (thn (hi.run pins s σ H _ I h) fun xv s1 hx => thn hx fun itv s2 h2 => ?_)
  obtain ⟨it, fp, tn, J, H2, rfl, I2, T, st2, f2, q⟩ := h2
  refine wpAny_newObj_type (newEnv_comp ?_)
  obtain ⟨W, ⟨m0, w0⟩, turn⟩ := q s2.heap.objs.size (I2.hok.fresh (Nat.le_refl _))
  -- the new dict is told of
  obtain ⟨s3, hs3⟩ : ∃ s3 : Shared, s3 = { s2 with heap := s2.heap.push { cls := .type "dict", data := .dict #[] } } := ⟨_, rfl⟩
  have I3 : Inv X pins σ (upd H2 s2.heap.objs.size (.dT [])) s3 := by
    rw [hs3]
    exact I2.laid (t' := s2.toks) (fun b o e => Heap.get?_push_of_some _ e) (Nat.le_refl _) (dt_empty s2.heap I2.big)
  have old : ∀ b o, s2.heap.get? b = some o → s3.heap.get? b = some o := fun b o e => by rw [hs3]; exact Heap.get?_push_of_some _ e
  have lt2 : ∀ b ∈ fp, b < s2.heap.objs.size := fun b hb => by
    obtain ⟨o, e, _⟩ := T.obj _ _ st2 b hb
    exact Heap.lt_size e
  have f3 : ∀ b ∈ fp, FpOk X pins (upd H2 s2.heap.objs.size (.dT [])) b ∧ b < s3.heap.objs.size := fun b hb => by
    have l := lt2 b hb
    refine ⟨⟨by rw [upd_ne (Nat.ne_of_lt l)]; exact (f2 b hb).1, (f2 b hb).2⟩, ?_⟩
    obtain ⟨o, e, _⟩ := T.obj _ _ st2 b hb
    exact Heap.lt_size (old b o e)
  have I4 := block_start I3 ok hN f3
  have st4 : tn 0 (pushCells (s3.heap.push { cls := .type "dict", data := .dict #[] }) scope.names) := T.keep _ _ _ st2 fun b _ o e => pushCells_keeps _ _ _ _ (Heap.get?_push_of_some _ (old b o e))
  have n3 : ∀ b ∈ fp, (upd H2 s2.heap.objs.size (.dT [])) b = none := fun b hb => (f3 b hb).1.1
  generalize eD : s2.heap.objs.size = D at *
  have e3 : s2.heap.push { cls := .type "dict", data := .dict #[] } = s3.heap := by rw [hs3]
  show codeAny _ _ (.compStart (.DictComp kx vx [⟨tg, iter, ifs, 0⟩] scope pos) 0 (.ref it) (.ref D) (compEnvC scope (cellsFrom ((s2.heap.push { cls := .type "dict", data := .dict #[] }).objs.size + 1) scope.names (cloFrom X.env.cells scope.names [])) (s2.heap.push { cls := .type "dict", data := .dict #[] }).objs.size X.env)) (compPost (model X.prog X.w) X.A X.xe none _ (.ref D) (s2.heap.push { cls := .type "dict", data := .dict #[] }).objs.size) { s2 with heap := pushCells ((s2.heap.push { cls := .type "dict", data := .dict #[] }).push { cls := .type "dict", data := .dict #[] }) scope.names }
  rw [show ({ s2 with heap := pushCells ((s2.heap.push { cls := .type "dict", data := .dict #[] }).push { cls := .type "dict", data := .dict #[] }) scope.names } : Shared) = { s3 with heap := pushCells (s3.heap.push { cls := .type "dict", data := .dict #[] }) scope.names } by rw [hs3], e3]
  have pg := hg s3 (upd H2 D (.dT [])) s3.heap.objs.size (cellsFrom (s3.heap.objs.size + 1) scope.names (cloFrom X.env.cells scope.names [])) fp
  have pt := ht s3 (upd H2 D (.dT [])) s3.heap.objs.size (cellsFrom (s3.heap.objs.size + 1) scope.names (cloFrom X.env.cells scope.names [])) fp
  have pk := hk s3 (upd H2 D (.dT [])) s3.heap.objs.size (cellsFrom (s3.heap.objs.size + 1) scope.names (cloFrom X.env.cells scope.names [])) fp
  have pv := he s3 (upd H2 D (.dT [])) s3.heap.objs.size (cellsFrom (s3.heap.objs.size + 1) scope.names (cloFrom X.env.cells scope.names [])) fp
  have cL : (compEnvC scope (cellsFrom (s3.heap.objs.size + 1) scope.names (cloFrom X.env.cells scope.names [])) s3.heap.objs.size X.env).locals = s3.heap.objs.size := rfl
  generalize compEnvC scope (cellsFrom (s3.heap.objs.size + 1) scope.names (cloFrom X.env.cells scope.names [])) s3.heap.objs.size X.env = ce at I4 pg pt pk pv cL ⊢
  have loop : codeAny (model X.prog X.w) X.A (.compLoop (.DictComp kx vx [⟨tg, iter, ifs, 0⟩] scope pos) 0 (.ref it) (.ref D) ce) (compPost (model X.prog X.w) X.A X.xe none (EP X pins σ Q) (.ref D) s3.heap.objs.size) { s3 with heap := pushCells (s3.heap.push { cls := .type "dict", data := .dict #[] }) scope.names } := by
    refine compLoop_anyD (Bk X s3 (upd H2 D (.dT [])) scope ce fp tn (wipe σ (own.map (·.2))) W) (fun m s5 b => ?_) m0 ⟨0, _, I4, st4, n3, w0⟩
    let ER : Value → Shared → Prop := notedBy (model X.prog X.w) X.A ce fun e s' => compPost (model X.prog X.w) X.A X.xe none (EP X pins σ Q) (.ref D) s3.heap.objs.size (.error e) s'
    refine blk_turn (R := compPost (model X.prog X.w) X.A X.xe none (EP X pins σ Q) (.ref D) s3.heap.objs.size) (E := ER)
      (Add := fun K s => wpAny (model X.prog X.w) X.A (eval kx ce) (fun kv s => wpAny (model X.prog X.w) X.A (eval vx ce) (fun vv s => wpAny (model X.prog X.w) X.A (dictSet D kv vv) (fun _ s => K s) ER s) ER s) ER s) (ad := fun σ2 H3 Nx => tk σ2 H3 (fun y H4 => tv σ2 H4 fun z H5 => ∃ q kvs k, y = .ref q ∧ H5 q = some (.tup (k.map kV)) ∧ H5 D = some (.dT kvs) ∧ kvs.length < sizeLine ∧ Nx (upd H5 D (.dT (putK kvs k z))))) hc T pg pt (fun ps s6 σ6 H6 Nx K I6 a6 nx => ?_) (fun i m H w => ?_) b
    · refine thnF (pk.run ps s6 σ6 H6 _ I6 a6) fun u s7 ⟨y, H7, I7, r7, a7⟩ => ?_
      refine thnF (pv.run ps s7 σ6 H7 _ I7 a7) fun u2 s8 ⟨z, H8, I8, r8, q, kvs, k, ey, hq, hD, hz, n8⟩ => ?_
      subst ey
      cases (show u = Value.ref q from r7)
      exact t_dictSet (X := X.blk s3 (upd H2 D (.dT [])) scope ce fp) hu I8 hD hz hq r8 fun s9 I9 => nx s9 _ I9 n8
    · rcases turn i m H w with ⟨stop, fin⟩ | ⟨go, Nx, next, step⟩
      · refine .inl ⟨stop, fun s6 I6 => ?_⟩
        have I7 : Inv X pins σ H s6 := I3.call' (ch := fp) I6.os I6.base I6.hok I6.bare fun b hb => ⟨(f3 b hb).1.2.2.2.1, (f3 b hb).1.2.1, (f3 b hb).1.2.2.2.2.1, (f3 b hb).1.2.2.2.2.2⟩
        obtain ⟨m, hn, _⟩ := I6.loc
        have hn : s6.heap.Ns ce.locals m := hn
        have nC : H ce.locals = none := I6.free
        rw [cL] at hn nC
        obtain ⟨g0, g1, g2, g3, g4, g5⟩ := I3.fpOk (Nat.le_refl _) nC
        exact ⟨m, hn, fun h7 sb => ⟨.ref D, H, I7.turned (t' := s6.toks) (fun b o hb e => (sb.2 b hb).trans e) g0 g1 g3 g4 g5, rfl, fin⟩⟩
      · exact .inr ⟨go, Nx, next, step⟩
  exact codeAny_compStart_dict loop (T.self X.A 0 _ _ _ st4 loop)⟩
end
end Ip
set_option maxHeartbeats 2000000
namespace Ip
open PySem L2 PySem.Spec PyProof.Rows

/-! ## {k: v for target in iter if ..}, the keys tuples -/
def compT (g : D → Env → Option Env) (tst : Env → R Bool) (fk f : Env → R D) (vs : List Nat) : List D → Env → List (List Key) → List D → R (List (List Key) × List D)
  | [], ρ, ks, acc => .ok (ks, acc) ρ
  | d :: ds, ρ, ks, acc => match g d ρ with
    | none => .bad
    | some ρ1 => match tst ρ1 with
      | .ok true ρ2 => match fk ρ2 with
        | .ok kd ρ3 => match f ρ3 with
          | .ok y ρ4 => match toKT kd with
            | some k => if acc.length < sizeLine then compT g tst fk f vs ds (wipeE ρ4 vs) (tPut ks acc k y).1 (tPut ks acc k y).2 else .bad
            | none => .bad
          | _ => .bad
        | _ => .bad
      | .ok false ρ2 => compT g tst fk f vs ds (wipeE ρ2 vs) ks acc
      | _ => .bad
def mDcT (fi : Env → R (List D)) (g : D → Env → Option Env) (tst : Env → R Bool) (fk f : Env → R D) (vs : List Nat) : Env → R D := fun ρ => (fi ρ).bind fun ds ρ1 => match compT g tst fk f vs ds (wipeE ρ1 vs) [] [] with
  | .ok acc ρ2 => .ok (.dit acc.1 acc.2) (restE ρ1 ρ2 vs)
  | _ => .bad
theorem dcT_it {J : It} {n : Nat} {G : Hp → Prop} {Y : Nat → Hp → V → Hp → Prop} (w : Walk J n G Y) {g : TG} {tt : TT} {tk te : TE} {vs : List Nat} {σ : L2.St} {H1 : Hp} {D : Addr} {Qd : Hp → Prop} (Pv : Nat → Hp → Prop) (h0 : Pv 0 (upd H1 D (.dT []))) (hG : ∀ i H, i ≤ n → Pv i H → G H)
    (hs : ∀ i x H H', i < n → Pv i H → Y i H x H' → g x (wipe σ vs) H' fun σ2 H2 => wipe σ2 vs = wipe σ vs ∧ tt σ2 H2 fun b H3 =>
      if b = true then tk σ2 H3 fun y H4 => te σ2 H4 fun z H5 => ∃ q kvs k, y = .ref q ∧ H5 q = some (.tup (k.map kV)) ∧ H5 D = some (.dT kvs) ∧ kvs.length < sizeLine ∧ Pv (i + 1) (upd H5 D (.dT (putK kvs k z))) else Pv (i + 1) H3) (hd : ∀ H, Pv n H → Qd H) :
    ∃ W : Nat → Nat → Hp → Prop, (∃ m, W 0 m (upd H1 D (.dT []))) ∧ ∀ i m H, W i m H →
      (J.stop i H ∧ Qd H) ∨ (J.go i H ∧ ∃ Nx : Hp → Prop, (∀ H', Nx H' → ∃ m', m' < m ∧ W (i + 1) m' H') ∧ ∀ x H', J.yld i H x H' → g x (wipe σ vs) H' fun σ2 H2 => wipe σ2 vs = wipe σ vs ∧ tt σ2 H2 fun b H3 =>
        if b = true then tk σ2 H3 fun y H4 => te σ2 H4 fun z H5 => ∃ q kvs k, y = .ref q ∧ H5 q = some (.tup (k.map kV)) ∧ H5 D = some (.dT kvs) ∧ kvs.length < sizeLine ∧ Nx (upd H5 D (.dT (putK kvs k z))) else Nx H3) := by
  refine ⟨fun i m H => m = n - i ∧ i ≤ n ∧ Pv i H, ⟨n, by simp, Nat.zero_le _, h0⟩, fun i m H ⟨em, hi, p⟩ => ?_⟩
  subst em
  by_cases hlt : i < n
  · exact .inr ⟨w.goes i H hlt (hG i H hi p), Pv (i + 1), fun H' p' => ⟨n - (i + 1), by omega, rfl, hlt, p'⟩, fun x H' y => hs i x H H' hlt p (w.yields i H x H' hlt (hG i H hi p) y)⟩
  · have e : i = n := by omega
    subst e
    exact .inl ⟨w.stops H (hG _ H hi p), hd H p⟩
section
variable {X : Cx} {C : Ac} {W : WX} {Γ Γ0 Γ1 Γ2 Γ3 Γ' Γb : List Nat} {fr fr1 fr2 fr3 : Bool} {e a b c tg iter elt kx vx : Expr} {es ifs : List Expr} {ts : List Nat} {f fk h k : Env → R D} {frk : Bool} {g : D → Env → Option Env} {tst : Env → R Bool} {p pos apos cpos p2 : Pos} {fi : Env → R (List D)} {scope : Scope} {own : List (Str × Nat)}
/-- the new dict D stands beside -/
theorem dcT_ok (hv : ∀ i ∈ Γ, i ∉ own.map (·.2)) (ht : ∀ i ∈ ts, i ∈ own.map (·.2)) {σ : L2.St} {H : Hp} {Q : VK} (p : tE X.K C W Γ0 Γ true (mDcT fi g tst fk f (own.map (·.2))) σ H Q) :
    tDcT (fun σ H Q => ∃ hid ρ, ST X.K C hid Γ0 ρ σ H ∧ PostI X.K C W Γ0 Γ hid σ H Q (fi ρ)) (tG X.K C Γ ts g) (tT X.K C Wn Γ Γ tst) (tE X.K C Wn Γ Γ frk fk) (tE X.K C Wn Γ Γ fr f) (own.map (·.2)) σ H Q := by
  obtain ⟨hid, ρ, S, p⟩ := p
  refine ⟨hid, ρ, S, ?_⟩
  unfold mDcT at p
  cases q : fi ρ with
  | bad => rw [q] at p; exact p
  | exn e ρ' => rw [q] at p; exact p
  | ok ds ρ1 =>
    rw [q] at p
    dsimp only [R.bind] at p
    intro J H1 S1 k1 ⟨Gd, Y, w, hG, hY⟩ D hD
    generalize hvs : own.map (·.2) = vs at *
    have kh := S1.holdStp (o := HO.dT []) hD
    have S2 := S1.hold (o := HO.dT []) hD
    have hDn : D ∉ hid := fun z => (S1.trk D z).1 hD
    have hDM : D ∈ Ms σ (D :: hid) Γ := mem_Ms.mpr (.inl List.mem_cons_self)
    refine dcT_it w (fun i H2 => ∃ (ρ2 : Env) (accD : List Ip.D) (kl : List (List Key)) (acc : List V), ST X.K C (D :: hid) Γ ρ2 (L2.wipe σ vs) H2 ∧ Stp (Ms σ hid Γ) (Ms σ (D :: hid) Γ) hid H1 H2 ∧ H2 D = some (.dT (kl.zip acc)) ∧ kl.length = acc.length ∧ RVs (gx X.K C) (mask H2 (Ms σ (D :: hid) Γ)) accD acc ∧
      PostE X.K C W Γ0 Γ true hid σ H Q (match compT g tst fk f vs (ds.drop i) ρ2 kl accD with | .ok acc ρ2 => .ok (.dit acc.1 acc.2) (restE ρ1 ρ2 vs) | _ => .bad)) ?_ (fun i H2 _ ⟨ρ2, _, _, _, _, k2, _⟩ => hG _ _ k2.le) (fun i x H2 H3 hlt ⟨ρ2, accD, kl, acc, S2, k2, hl, hkl, ra, p2⟩ y => ?_) fun H2 ⟨ρ2, accD, kl, acc, S2, k2, hl, hkl, ra, p2⟩ => ?_
    · refine ⟨wipeE ρ1 vs, [], [], [], S2.wipe hv, kh, upd_same, rfl, .nil, ?_⟩
      rw [List.drop_zero]; exact p
    · have hd : ds[i]? = some ds[i] := List.getElem?_eq_getElem hlt
      rw [List.drop_eq_getElem_cons hlt] at p2
      obtain ⟨sm, rv⟩ := hY i x H2 H3 _ hd (hG _ _ k2.le) y
      have eM : Ms (L2.wipe σ vs) (D :: hid) Γ = Ms σ (D :: hid) Γ := Ms_wipe hv
      have r := rv (Ms σ (D :: hid) Γ) (by rw [← eM]; exact S2.hdM) k2.le
      have S3 := S2.same sm
      have keep : ∀ {A B : Hp}, Same A B → (∀ a ∈ hid, A a ≠ none) → Stp (Ms σ (D :: hid) Γ) (Ms σ (D :: hid) Γ) hid A B := fun {A B} sm tr => ⟨.of_same (mask_keep fun b o _ e => sm b o e), fun a ha => by
        cases z : A a with
        | none => exact absurd z (tr a ha)
        | some o => exact sm a o z⟩
      have k3 : Stp (Ms σ hid Γ) (Ms σ (D :: hid) Γ) hid H1 H3 := k2.trans (keep sm fun a ha => (S2.trk a (List.mem_cons_of_mem _ ha)).1) fun _ z => z
      have hl3 : H3 D = some (.dT (kl.zip acc)) := sm _ _ hl
      have ra3 : RVs (gx X.K C) (mask H3 (Ms σ (D :: hid) Γ)) accD acc := ra.mono (.of_same (mask_keep fun b o _ e => sm b o e))
      unfold compT at p2
      cases q2 : g ds[i] ρ2 with
      | none => simp only [q2] at p2; exact (show False from p2).elim
      | some ρ3 =>
        simp only [q2] at p2
        refine ⟨D :: hid, ρ2, ds[i], ρ3, S3, by rw [eM]; exact r, q2, fun σ4 H4 S4 k4 o4 => ?_⟩
        have ew : L2.wipe σ4 vs = L2.wipe σ vs := by
          rw [wipe_off o4 ht]
          exact wipe_off (ts := vs) ⟨wipe_length .., fun j hj => wipe_out hj⟩ fun _ z => z
        have eM4 : Ms σ4 (D :: hid) Γ = Ms σ (D :: hid) Γ := by rw [← Ms_wipe (σ := σ4) hv, ew, eM]
        refine ⟨ew, D :: hid, ρ3, S4, ?_⟩
        rw [eM, eM4] at k4
        have k4' : Stp (Ms σ hid Γ) (Ms σ (D :: hid) Γ) hid H1 H4 := k3.trans k4 fun a ha => List.mem_cons_of_mem _ ha
        have hl4 : H4 D = some (.dT (kl.zip acc)) := (k4.fx D List.mem_cons_self).trans hl3
        cases q3 : tst ρ3 with
        | bad => simp only [q3] at p2; exact p2
        | exn e ρ' => simp only [q3] at p2; exact (show False from p2).elim
        | ok b ρ4 =>
          simp only [q3] at p2
          intro H5 S5 k5
          rw [eM4] at k5
          have k5' : Stp (Ms σ hid Γ) (Ms σ (D :: hid) Γ) hid H1 H5 := k4'.trans k5 fun a ha => List.mem_cons_of_mem _ ha
          have hl5 : H5 D = some (.dT (kl.zip acc)) := (k5.fx D List.mem_cons_self).trans hl4
          have ra5 : RVs (gx X.K C) (mask H5 (Ms σ (D :: hid) Γ)) accD acc := (ra3.mono k4.le).mono k5.le
          cases b with
          | false =>
            rw [if_neg Bool.false_ne_true]
            refine ⟨wipeE ρ4 vs, accD, kl, acc, by rw [← ew]; exact S5.wipe hv, k5', hl5, hkl, ra5, p2⟩
          | true =>
            rw [if_pos rfl]
            refine ⟨D :: hid, ρ4, S5, ?_⟩
            cases q4 : fk ρ4 with
            | bad => simp only [q4] at p2; exact p2
            | exn e ρ' => simp only [q4] at p2; exact (show False from p2).elim
            | ok kd ρ5 =>
              simp only [q4] at p2
              intro kv H6 tm S6 k6 va t6
              rw [eM4] at k6
              refine ⟨tm ++ (D :: hid), ρ5, S6, ?_⟩
              cases q5 : f ρ5 with
              | bad => simp only [q5] at p2; exact p2
              | exn e ρ' => simp only [q5] at p2; exact (show False from p2).elim
              | ok y ρ6 =>
                simp only [q5] at p2
                intro v H7 tm7 S7 k7 vb t7
                cases ek : toKT kd with
                | none => simp only [ek] at p2; exact (show False from p2).elim
                | some kk =>
                  simp only [ek] at p2
                  by_cases z : accD.length < sizeLine
                  · rw [if_pos z] at p2
                    have s7 : Shal (gx X.K C) H7 (mask H7 (Ms σ4 (tm7 ++ (tm ++ (D :: hid))) Γ)) kd kv := ((Kept.of va).stp (tm' := tm7 ++ tm) k7 fun a ha => List.mem_append_right _ ha).shal
                    obtain ⟨q0, ekv, hq0⟩ := key_at s7 ek
                    have S8 := S7.forget (hid' := D :: hid) (fun a ha => List.mem_append_right _ (List.mem_append_right _ ha)) S5.sub
                    have sub1 : ∀ b ∈ Ms σ4 (D :: hid) Γ, b ∈ Ms σ4 (tm7 ++ (tm ++ (D :: hid))) Γ := Ms_subH fun a ha => List.mem_append_right _ (List.mem_append_right _ ha)
                    have kA : Stp (Ms σ (D :: hid) Γ) (Ms σ (D :: hid) Γ) (D :: hid) H5 H7 := by
                      refine ⟨?_, fun a ha => (k7.fx a (List.mem_append_right _ ha)).trans (k6.fx a ha)⟩
                      have z1 := k6.le.trans k7.le
                      refine z1.trans (.of_same (mask_sub ?_))
                      rw [← eM4]; exact sub1
                    have rv7 : RV (gx X.K C) (mask H7 (Ms σ (D :: hid) Γ)) y v := by
                      have h1 := vb.rv (M' := Ms σ4 (tm ++ (D :: hid)) Γ) (Ms_subH fun a ha => List.mem_append_right _ ha) t7
                      rw [← eM4]
                      exact h1.mono (.of_same (mask_sub (Ms_subH fun a ha => List.mem_append_right _ ha)))
                    have hl7 : H7 D = some (.dT (kl.zip acc)) := (kA.fx D List.mem_cons_self).trans hl5
                    have ra7 : RVs (gx X.K C) (mask H7 (Ms σ (D :: hid) Γ)) accD acc := ra5.mono kA.le
                    obtain ⟨us', h1, h2, h4⟩ := tPut_zip kk v y rv7 kl acc _ ra7 hkl
                    refine ⟨q0, _, kk, ekv, hq0, hl7, by rw [List.length_zip, hkl, Nat.min_self, ← ra7.length]; exact z, wipeE ρ6 vs, _, _, us', ?_, ?_, by rw [h1]; exact upd_same, h2, ?_, p2⟩
                    · have S9 := S8.wipe hv
                      rw [ew] at S9
                      exact S9.tmpSet hDn S.sub
                    · exact (k5'.trans kA fun a ha => List.mem_cons_of_mem _ ha).tmpSet hDM hDn
                    · rw [mask_updM hDM]
                      exact h4
                  · rw [if_neg z] at p2; exact (show False from p2).elim
    · rw [List.drop_length] at p2
      have S0 := S1.hold (o := HO.dT []) hD
      refine p2 (.ref D) H2 [D] (ST.unwipe S0 S2 hv ?_) (k1.trans k2 fun _ z => z) (.fr (.dT hl hkl ra)) fun b hb => ?_
      · refine HLe.trans (.of_same fun b u e => ?_) k2.le
        obtain ⟨e1, e2⟩ := mask_some e
        have hb : b ≠ D := fun z => e1 (z ▸ hDM)
        rw [upd_ne hb] at e2
        have hm : b ∉ Ms σ hid Γ := fun z => e1 (Ms_subH (hid := D :: hid) (fun a ha => List.mem_cons_of_mem _ ha) b z)
        rw [mask_out hm]
        exact e2
      · rw [List.mem_singleton.mp hb]; exact S1.none_out hD
theorem se_dcT {ρs : List Nat} (hu : X.A.units < cLine) (hc : X.calm = true) (hN : X.N.Nodup) (ok : BlkOk X.N X.env.scope scope own) (hi : SI X C W Γ0 tg iter Γ fi) (hg : ∀ (s : Shared) (H : Hp) (Cc : Addr) (cl : List (Str × Addr)) (fp : List Addr), SG (X.blk s H scope (compEnvC scope cl Cc X.env) fp) C Γ tg ts g)
    (ht : ∀ (s : Shared) (H : Hp) (Cc : Addr) (cl : List (Str × Addr)) (fp : List Addr), SPs (X.blk s H scope (compEnvC scope cl Cc X.env) fp) C Wn Γ ifs Γ tst) (hk : ∀ (s : Shared) (H : Hp) (Cc : Addr) (cl : List (Str × Addr)) (fp : List Addr), SE (X.blk s H scope (compEnvC scope cl Cc X.env) fp) C Wn Γ kx Γ frk fk)
    (he : ∀ (s : Shared) (H : Hp) (Cc : Addr) (cl : List (Str × Addr)) (fp : List Addr), SE (X.blk s H scope (compEnvC scope cl Cc X.env) fp) C Wn Γ vx Γ fr f)
    (hρ : ρs = own.map (·.2) := by rfl) (hv : (Γ.all fun i => !ρs.contains i) = true := by rfl) (hts : (ts.all fun i => ρs.contains i) = true := by rfl) (hs : ∀ x, foldedSetIterable iter X.env x = pure x := by intro _; rfl) : SE X C W Γ0 (.DictComp kx vx [⟨tg, iter, ifs, 0⟩] scope pos) Γ true (mDcT fi g tst fk f ρs) := by
  subst hρ
  exact ⟨peImp (pe_dcT hu hc hN hi.pi ok (fun s H Cc cl fp => (hg s H Cc cl fp).pg) (fun s H Cc cl fp => (ht s H Cc cl fp).pt) (fun s H Cc cl fp => (hk s H Cc cl fp).pe) (fun s H Cc cl fp => (he s H Cc cl fp).pe) hs) fun σ H Q p =>
    dcT_ok (fun i hi z => by have := List.all_eq_true.mp hv i hi; rw [List.contains_iff_mem.mpr z] at this; cases this) (fun i hi => List.contains_iff_mem.mp (List.all_eq_true.mp hts i hi)) p⟩
/-- .. over the dict in slot i -/
theorem se_dcK (i : Nat) {ρs : List Nat} (hu : X.A.units < cLine) (hc : X.calm = true) (hN : X.N.Nodup) (ok : BlkOk X.N X.env.scope scope own) (hi : SIK X C W Γ i tg iter fi) (hg : ∀ (s : Shared) (H : Hp) (Cc : Addr) (cl : List (Str × Addr)) (fp : List Addr), SG (X.blk s H scope (compEnvC scope cl Cc X.env) fp) C Γ tg ts g)
    (ht : ∀ (s : Shared) (H : Hp) (Cc : Addr) (cl : List (Str × Addr)) (fp : List Addr), SPs (X.blk s H scope (compEnvC scope cl Cc X.env) fp) C Wn Γ ifs Γ tst) (hk : ∀ (s : Shared) (H : Hp) (Cc : Addr) (cl : List (Str × Addr)) (fp : List Addr), SE (X.blk s H scope (compEnvC scope cl Cc X.env) fp) C Wn Γ kx Γ frk fk)
    (he : ∀ (s : Shared) (H : Hp) (Cc : Addr) (cl : List (Str × Addr)) (fp : List Addr), SE (X.blk s H scope (compEnvC scope cl Cc X.env) fp) C Wn Γ vx Γ fr f)
    (hiΓ : (Γ.contains i) = false := by rfl) (hρ : ρs = own.map (·.2) := by rfl) (hv : (Γ.all fun i => !ρs.contains i) = true := by rfl) (hts : (ts.all fun i => ρs.contains i) = true := by rfl) (hs : ∀ x, foldedSetIterable iter X.env x = pure x := by intro _; rfl) :
    SE X C W Γ (.DictComp kx vx [⟨tg, iter, ifs, 0⟩] scope pos) Γ true (mLockE i (mDcT fi g tst fk f ρs)) := by
  subst hρ
  refine se_locked (pe_dcT hu hc hN hi.pi ok (fun s H Cc cl fp => (hg s H Cc cl fp).pg) (fun s H Cc cl fp => (ht s H Cc cl fp).pt) (fun s H Cc cl fp => (hk s H Cc cl fp).pe) (fun s H Cc cl fp => (he s H Cc cl fp).pe) hs) i (fun z => by rw [List.contains_iff_mem.mpr z] at hiΓ; cases hiΓ)
    (fun σ H Q l p => ⟨l, dcT_ok (fun i hi z => by have := List.all_eq_true.mp hv i hi; rw [List.contains_iff_mem.mpr z] at this; cases this) (fun i hi => List.contains_iff_mem.mp (List.all_eq_true.mp hts i hi)) (lockE_ok p)⟩) (fun ρ => ?_) fun ρ e ρ' => ?_
  · unfold mLockE
    split
    · rename_i ks ds e
      exact .inl ⟨_, _, e⟩
    · exact .inr rfl
  · unfold mLockE
    split
    · split
      · intro z; cases z
      · intro z; cases z
    · intro z; cases z
end
end Ip
set_option maxHeartbeats 2000000
namespace Ip
open PySem L2 PySem.Spec PyProof.Rows
/-! ## & and >> on ints, < on tuples, lists and tuples -/
section
variable {X : Cx} {g : Gx}
def andD : D → D → Option D
  | .int i, .int j => some (.int (Builtin.bitAnd i j))
  | _, _ => none
theorem and_ok : OpS g (rI0 fun i j => .int (Builtin.bitAnd i j)) andD := fun H M x y dx dy d Q tr sx sy ho q => by
  unfold andD at ho
  split at ho
  · cases ho; cases sx; cases sy
    exact ⟨_, _, rfl, rfl, q _ H (.refl _) (.int _)⟩
  · cases ho
def shrD : D → D → Option D
  | .int i, .int j => ifO (0 ≤ j) (.int (i / 2 ^ j.toNat))
  | _, _ => none
theorem shr_ok : OpS g (rI (fun _ j => 0 ≤ j) fun i j => .int (i / 2 ^ j.toNat)) shrD := fun H M x y dx dy d Q tr sx sy ho q => by
  unfold shrD at ho
  split at ho
  · obtain ⟨c, rfl⟩ := ifO_some ho
    cases sx; cases sy
    exact ⟨_, _, rfl, rfl, c, q _ H (.refl _) (.int _)⟩
  · cases ho
/-- < of alike data, not too deep -/
def ltXD (a b : D) : Option D := match toPy a, toPy b with
  | some .none, _ => none
  | some p, some q => ifO (PySem.W.alike p q = true ∧ p.depth ≤ 60) (.bl (PySem.W.dataLt p q))
  | _, _ => none
theorem ltX_ok : OpS g (rLtL g.K) ltXD := fun H M x y dx dy d Q tr sx sy ho q => by
  unfold ltXD at ho
  split at ho
  · cases ho
  · rename_i p q' nn h1 h2
    obtain ⟨⟨c1, c2⟩, rfl⟩ := ifO_some ho
    exact ⟨_, _, RV.dp _ _ _ sx.rv h1, RV.dp _ _ _ sy.rv h2, c1, (fun z => nn z), c2, q _ H (.refl _) (.bl _)⟩
  · cases ho
/-- int in a list or a tuple of ints -/
theorem inI_facts {H : Hp} {M : List Addr} {x y : V} {dx dy : D} {k : Bool} (sx : Shal g H (mask H M) dx x) (sy : Shal g H (mask H M) dy y) (e : inID dx dy = some (.bl k)) : ∃ p xs, y = .ref p ∧ (SqL g.K H p xs ∨ SqT g.K H p xs) ∧ flatV x = true ∧ xs.all flatV = true ∧ inV x xs = k := by
  unfold inID at e
  split at e
  all_goals first | (cases e; done) | skip
  all_goals
    simp only [Option.map_eq_some_iff] at e
    obtain ⟨ns, h1, h2⟩ := e
    cases h2
    have := ints_inv h1
    subst this
    cases sx
    cases sy
    rename_i h r
    have := r.of_ints
    subst this
    refine ⟨_, _, rfl, ?_, rfl, flat_ints ns, inV_ints _ _⟩
    first | exact .inl ‹_› | exact .inr (.of ‹_›)
def notInID (a b : D) : Option D := match inID a b with
  | some (.bl k) => some (.bl !k)
  | _ => none
theorem notInI_ok : OpS g (rIn g.K true) notInID := fun H M x y dx dy d Q tr sx sy ho q => by
  unfold notInID at ho
  split at ho
  · rename_i k e
    cases ho
    obtain ⟨p, xs, e1, e2, e3, e4, e5⟩ := inI_facts sx sy e
    exact ⟨p, xs, e1, e2, e3, e4, by rw [if_pos rfl, e5]; exact q _ H (.refl _) (.bl _)⟩
  · cases ho
end
end Ip
set_option maxHeartbeats 2000000
namespace Ip
open PySem L2 PySem.Spec PyProof.Rows PySem.W
/-! ## zip(a list, a tuple) -/
def ItZM (K : PySem.W.Frag) (a b : Addr) (xs ys : List V) : It :=
  ⟨fun i H => SqL K H a xs ∧ SqT K H b ys ∧ i < xs.length ∧ i < ys.length, fun i H v H' => ∃ T x y, v = .ref T ∧ H T = none ∧ H' = upd H T (.tup [x, y]) ∧ xs[i]? = some x ∧ ys[i]? = some y, fun i H => SqL K H a xs ∧ SqT K H b ys ∧ (xs.length ≤ i ∨ ys.length ≤ i)⟩
theorem sep_of {z TI TO i1 i2 a b : Addr} (D : ZipApart z TI TO i1 i2 a b) : ZipSep2 z TI TO i1 i2 [i1, a] [i2, b] := by
  have n2 : ∀ {c d e : Addr}, c ≠ d → c ≠ e → c ∉ [d, e] := fun h1 h2 z => by
    rcases List.mem_cons.mp z with z | z
    · exact h1 z
    · exact h2 (List.mem_singleton.mp z)
  exact ⟨D.TIz, D.TOz, D.TITO, D.TIi1, by simp, n2 D.i1z.symm D.l1z.symm, n2 D.TOi1 D.l1TO.symm, D.TIi2, by simp, n2 D.i2z.symm D.l2z.symm, n2 D.TOi2 D.l2TO.symm, n2 D.i12 D.l2i1.symm, n2 D.i12.symm D.l1i2.symm⟩
theorem turn_ZM {P : Program} {w : World} {K : PySem.W.Frag} {elts : List Expr} {kk : Nat} {tpos : Pos} {a b z TI TO i1 i2 : Addr} {xs ys : List V} (D : ZipApart z TI TO i1 i2 a b) :
    Turn P w K (.Tuple elts kk tpos) (ItZM K a b xs ys) [z, TI, TO, i1, i2] z (fun i h => i ≤ min xs.length ys.length ∧ IsZip h z TI TO .none ∧ IsTupOf2 h TI (.ref i1) (.ref i2) ∧ (∃ x y, IsTupOf2 h TO x y) ∧ h.IsListIter i1 a i ∧ h.IsTupleIter i2 b i) where
  mem := by simp
  obj := fun i h ⟨_, hz, hTI, ⟨x, y, hTO⟩, ⟨o1, e1, _, d1⟩, ⟨o2, e2, _, d2⟩⟩ c hc => by
    have e' : c = z ∨ c = TI ∨ c = TO ∨ c = i1 ∨ c = i2 := by simpa using hc
    rcases e' with rfl | rfl | rfl | rfl | rfl
    · exact ⟨_, hz, fun v q => nomatch q⟩
    · exact ⟨_, hTI, fun v q => nomatch q⟩
    · exact ⟨_, hTO, fun v q => nomatch q⟩
    · exact ⟨o1, e1, fun v q => by rw [d1] at q; cases q⟩
    · exact ⟨o2, e2, fun v q => by rw [d2] at q; cases q⟩
  keep := fun i h h' ⟨l, hz, hTI, ⟨x, y, hTO⟩, h1, h2⟩ k => ⟨l, k z (by simp) _ hz, k TI (by simp) _ hTI, ⟨x, y, k TO (by simp) _ hTO⟩, h1.at fun o q => k i1 (by simp) o q, h2.at fun o q => k i2 (by simp) o q⟩
  item := by
    rintro X rfl rfl rfl hc i pins s σ H E I hf ⟨l, hz, hTI, hTO, h1, h2⟩ ⟨qa, qb, la, lb⟩
    obtain ⟨its, rv, p, _⟩ := I.list qa
    obtain ⟨its2, rv2, p2, _⟩ := I.tuple qb
    have l1 := rv.length
    have l2 := rv2.length
    have G := GoesN.zip2 (prog := X.prog) (w := X.w) (A := X.A) (elts := elts) (x1 := kk) (pos := tpos) (sep_of D) (Draws.list (A := X.A.in1) (I.ok.hd hc) i1 a D.l1i1 its.toArray) (Draws.tuple (A := X.A.in1) (I.ok.hd hc) i2 b D.l2i2 its2.toArray)
    refine thn (G.goes i s _ E (by rw [List.size_toArray, List.size_toArray]; omega) ⟨hz, hTI, hTO, ⟨h1, p.isList⟩, ⟨h2, p2⟩⟩ fun v h' tk ⟨T, x, y, ev, hT, hx, hy, htp⟩ st' kp _ => ?_) fun r s1 q => q
    subst ev
    have ix : i < xs.length := by omega
    have iy : i < ys.length := by omega
    obtain ⟨u, hu, ru⟩ := rv.get (List.getElem?_eq_getElem ix)
    obtain ⟨u2, hu2, ru2⟩ := rv2.get (List.getElem?_eq_getElem iy)
    have e1 : x = u := Option.some.inj (hx.symm.trans (by rw [List.getElem?_toArray]; exact hu))
    have e2 : y = u2 := Option.some.inj (hy.symm.trans (by rw [List.getElem?_toArray]; exact hu2))
    subst e1 e2
    have I1 := I.turnedNew (t' := tk) (ob := .tup [xs[i], ys[i]]) (ch := [z, TO, i1, i2]) kp (fun b hb => hf b (by simp at hb ⊢; rcases hb with h | h | h | h <;> simp [h])) hT ⟨by show 2 ≤ sizeLine; decide, [x, y], .cons ru (.cons ru2 .nil), htp⟩
    refine ⟨.ref T, _, I1, rfl, ⟨T, _, _, rfl, I.hok.fresh hT, rfl, List.getElem?_eq_getElem ix, List.getElem?_eq_getElem iy⟩, ⟨by omega, st'.1, st'.2.1, st'.2.2.1, st'.2.2.2.1.1, st'.2.2.2.2.1⟩, fun c hcm => ?_⟩
    have hlt : c < s.heap.objs.size := by
      have e' : c = z ∨ c = TI ∨ c = TO ∨ c = i1 ∨ c = i2 := by simpa using hcm
      obtain ⟨_, _, hTO⟩ := hTO
      rcases e' with rfl | rfl | rfl | rfl | rfl
      · exact Heap.lt_size hz
      · exact Heap.lt_size hTI
      · exact Heap.lt_size hTO
      · obtain ⟨_, e1, _⟩ := h1; exact Heap.lt_size e1
      · obtain ⟨_, e2, _⟩ := h2; exact Heap.lt_size e2
    rw [upd_ne (Nat.ne_of_lt (Nat.lt_of_lt_of_le hlt hT))]
    exact (hf c hcm).1
  done := by
    rintro X rfl rfl rfl hc i pins s σ H E I hf ⟨l, hz, hTI, hTO, h1, h2⟩ ⟨qa, qb, he⟩
    obtain ⟨its, rv, p, _⟩ := I.list qa
    obtain ⟨its2, rv2, p2, _⟩ := I.tuple qb
    have l1 := rv.length
    have l2 := rv2.length
    have G := GoesN.zip2 (prog := X.prog) (w := X.w) (A := X.A) (elts := elts) (x1 := kk) (pos := tpos) (sep_of D) (Draws.list (A := X.A.in1) (I.ok.hd hc) i1 a D.l1i1 its.toArray) (Draws.tuple (A := X.A.in1) (I.ok.hd hc) i2 b D.l2i2 its2.toArray)
    have ei : i = min its.toArray.size its2.toArray.size := by rw [List.size_toArray, List.size_toArray]; omega
    subst ei
    exact G.stops s _ E ⟨hz, hTI, hTO, ⟨h1, p.isList⟩, ⟨h2, p2⟩⟩ fun h' tk kp _ => I.turnedL (t' := tk) kp fun b hb => hf b (by simp at hb ⊢; rcases hb with h | h | h | h <;> simp [h])
  self := fun A i s Q E ⟨_, hz, _⟩ h => wpAny_pyIter_zip hz h
theorem pi_zipM {X : Cx} {e e2 : Expr} {ta : TA} {p pos tpos : Pos} {elts : List Expr} {kk : Nat} (hg : Gl X "zip") (hm : X.mg "zip" = none) (ha : PA X [e, e2] ta)
    (hs : starEach [e, e2] X.env = (false, eval e X.env) :: starEach [e2] X.env := by rfl) (hpl : (backTo pos (starEach [e2] X.env)).any (·.1) = false := by rfl) :
    PI X (.Tuple elts kk tpos) (.Call (.Name "zip" p) [e, e2] [] pos) fun σ H R => ta σ H fun vs H1 => ∃ a b xs ys, vs = [.ref a, .ref b] ∧ SqL X.K H1 a xs ∧ SqT X.K H1 b ys ∧ R (ItZM X.K a b xs ys) H1 := ⟨fun pins s σ H R I h => by
  refine Call_ (ld_blt I hg hm PyProof.Rows.boot_zip (PyProof.Rows.callWith_type1 (thn (ha.run pos pins s σ H _ I h) fun us s1 ⟨vs, H1, I1, r1, a, b, xs, ys, ex, qa, qb, q⟩ => ?_) hs hpl))
  subst ex
  obtain ⟨u1, u2, rfl, e1, e2⟩ := vals2 r1
  obtain rfl : u1 = Value.ref a := e1
  obtain rfl : u2 = Value.ref b := e2
  obtain ⟨its, rv, pl, _⟩ := I1.list qa
  obtain ⟨its2, rv2, p2, _⟩ := I1.tuple qb
  obtain ⟨o2, ho2, _⟩ := id p2
  refine zip_begins2 (begins_list a its.toArray) (begins_tuple b its2.toArray) pl.isList p2 fun h' hz hTI hTO h1 h2 hsz hk => wpAny_pyIter_zip hz ?_
  have I2 : Inv X pins σ H1 { s1 with heap := h' } := I1.kept (t' := s1.toks) hk
  refine ⟨s1.heap.objs.size + 4, [s1.heap.objs.size + 4, s1.heap.objs.size + 2, s1.heap.objs.size + 3, s1.heap.objs.size, s1.heap.objs.size + 1], _, _, H1, rfl, I2, turn_ZM (xs := xs) (ys := ys) (PySem.W.ktu_apart s1.heap.objs.size a b pl.lt (Heap.lt_size ho2)), ⟨Nat.zero_le _, hz, hTI, ⟨_, _, hTO⟩, ⟨_, h1, rfl, rfl⟩, ⟨_, h2, rfl, rfl⟩⟩, fun c hcm => ?_, q⟩
  have hle : s1.heap.objs.size ≤ c := by
    have e' : c = s1.heap.objs.size + 4 ∨ c = s1.heap.objs.size + 2 ∨ c = s1.heap.objs.size + 3 ∨ c = s1.heap.objs.size ∨ c = s1.heap.objs.size + 1 := by simpa using hcm
    rcases e' with rfl | rfl | rfl | rfl | rfl
    · exact Nat.le_add_right _ _
    · exact Nat.le_add_right _ _
    · exact Nat.le_add_right _ _
    · exact Nat.le_refl _
    · exact Nat.le_add_right _ _
  exact I1.fpOk hle (I1.hok.fresh hle)⟩
def zipD : List D → List D → List D
  | x :: xs, y :: ys => .tup [x, y] :: zipD xs ys
  | _, _ => []
theorem zipD_get : ∀ (xs ys : List D) (i : Nat) (d : D), (zipD xs ys)[i]? = some d → ∃ x y, xs[i]? = some x ∧ ys[i]? = some y ∧ d = .tup [x, y]
  | [], _, i, d, h => by unfold zipD at h; simp at h
  | _ :: _, [], i, d, h => by unfold zipD at h; simp at h
  | x :: xs, y :: ys, 0, d, h => by unfold zipD at h; cases h; exact ⟨x, y, rfl, rfl, rfl⟩
  | x :: xs, y :: ys, i + 1, d, h => by
    unfold zipD at h
    obtain ⟨a, b, h1, h2, h3⟩ := zipD_get xs ys i d (by simpa using h)
    exact ⟨a, b, by simpa using h1, by simpa using h2, h3⟩
theorem zipD_len : ∀ xs ys : List D, (zipD xs ys).length = min xs.length ys.length
  | [], ys => by unfold zipD; simp
  | _ :: _, [] => by unfold zipD; simp
  | x :: xs, y :: ys => by unfold zipD; rw [List.length_cons, zipD_len xs ys, List.length_cons, List.length_cons]; omega
end Ip
set_option maxHeartbeats 2000000
namespace Ip
open PySem L2 PySem.Spec PyProof.Rows
/-! ## for x, y in zip(a, b) -/
section
variable {g : Gx} {H : Hp} {M : List Addr} {a b : Addr} {xs ys : List V} {dx dy : List D}
theorem walk_ZM {K : PySem.W.Frag} : Walk (ItZM K a b xs ys) (min xs.length ys.length) (fun H => SqL K H a xs ∧ SqT K H b ys) (ItZM K a b xs ys).yld :=
  ⟨fun i _ hi q => ⟨q.1, q.2, by omega, by omega⟩, fun _ q => ⟨q.1, q.2, by omega⟩, fun _ _ _ _ _ _ y => y⟩
theorem zip_pair {H1 : Hp} {i : Nat} {d : D} {x y : V} {T : Addr} (rx : RVs g (mask H M) dx xs) (ry : RVs g (mask H M) dy ys) (hd : (zipD dx dy)[i]? = some d) (hx : xs[i]? = some x) (hy : ys[i]? = some y) (hT : H1 T = none) :
    Same H1 (upd H1 T (.tup [x, y])) ∧ ∀ M1, (∀ a ∈ M1, Hd H1 a) → HLe (mask H M) (mask H1 M1) → RV g (mask (upd H1 T (.tup [x, y])) M1) d (.ref T) := by
  obtain ⟨p, q, h1, h2, rfl⟩ := zipD_get dx dy i d hd
  obtain ⟨u, hu, ru⟩ := rx.get h1
  obtain ⟨w, hw, rw'⟩ := ry.get h2
  rw [hx] at hu; rw [hy] at hw
  cases hu; cases hw
  exact ⟨same_upd hT, fun M1 hM le => rv_pair hT (fun b hb => (hM b hb).1) (ru.mono le) (rw'.mono le)⟩
theorem itok_ZM (ha : SqL g.K H a xs) (hb : SqT g.K H b ys) (keep : ∀ H1 M1, HLe (mask H M) (mask H1 M1) → SqL g.K H1 a xs ∧ SqT g.K H1 b ys) (rx : RVs g (mask H M) dx xs) (ry : RVs g (mask H M) dy ys) : ItOk g (ItZM g.K a b xs ys) (zipD dx dy) H M := by
  have el : min xs.length ys.length = (zipD dx dy).length := by rw [zipD_len, rx.length, ry.length]
  refine ⟨_, _, el ▸ walk_ZM, keep, ?_⟩
  rintro i x H1 H1' d hd _ ⟨T, u, w, rfl, hT, rfl, h1, h2⟩
  exact zip_pair rx ry hd h1 h2 hT
theorem itok_ZT (keep : ∀ H1 M1, HLe (mask H M) (mask H1 M1) → SqT g.K H1 a xs ∧ SqT g.K H1 b ys) (rx : RVs g (mask H M) dx xs) (ry : RVs g (mask H M) dy ys) : ItOk g (RZ.ItzT g.K a b) (zipD dx dy) H M := by
  have el : min xs.length ys.length = (zipD dx dy).length := by rw [zipD_len, rx.length, ry.length]
  refine ⟨fun H1 => SqT g.K H1 a xs ∧ SqT g.K H1 b ys, fun i H1 v H' => ∃ T x y, v = .ref T ∧ H1 T = none ∧ H' = upd H1 T (.tup [x, y]) ∧ xs[i]? = some x ∧ ys[i]? = some y, ?_, keep, ?_⟩
  · rw [← el]
    refine ⟨fun i H1 hi q => ?_, fun H1 q => ⟨xs, ys, q.1, q.2, by omega⟩, fun i H1 v H' hi q ⟨T, x, y, e1, e2, e3, e4, e5⟩ => ⟨T, x, y, e1, e2, e3, e4 xs q.1, e5 ys q.2⟩⟩
    exact ⟨xs, ys, xs[i]'(by omega), ys[i]'(by omega), q.1, q.2, List.getElem?_eq_getElem _, List.getElem?_eq_getElem _⟩
  · rintro i x H1 H1' d hd _ ⟨T, u, w, rfl, hT, rfl, h1, h2⟩
    exact zip_pair rx ry hd h1 h2 hT
end
def mZip (h : Env → R (List D)) : Env → R (List D) := fun ρ => (h ρ).bind fun ds ρ1 => match ds with
  | [.lst xs, .tup ys] => .ok (zipD xs ys) ρ1
  | _ => .bad
def mZipT (h : Env → R (List D)) : Env → R (List D) := fun ρ => (h ρ).bind fun ds ρ1 => match ds with
  | [.tup xs, .tup ys] => .ok (zipD xs ys) ρ1
  | _ => .bad
section
variable {X : Cx} {C : Ac} {W : WX} {Γ Γ' : List Nat} {e e2 : Expr} {elts : List Expr} {kk : Nat} {p pos tpos : Pos} {h : Env → R (List D)}
theorem si_zipM (ha : SA X C W Γ [e, e2] Γ' h) (hm : X.mg "zip" = none) (hg : Gl X "zip" := by rfl) (hs : starEach [e, e2] X.env = (false, eval e X.env) :: starEach [e2] X.env := by rfl) (hpl : (backTo pos (starEach [e2] X.env)).any (·.1) = false := by rfl) :
    SI X C W Γ (.Tuple elts kk tpos) (.Call (.Name "zip" p) [e, e2] [] pos) Γ' (mZip h) := ⟨piImp (pi_zipM hg hm ha.pa hs hpl) fun σ H Q ⟨hid, ρ, S, p⟩ => by
  refine ⟨hid, ρ, S, ?_⟩
  unfold mZip at p
  cases q : h ρ with
  | bad => rw [q] at p; exact p
  | exn e ρ' => rw [q] at p; exact p
  | ok ds ρ1 =>
    rw [q] at p
    dsimp only [R.bind] at p
    intro vs H1 tm S1 k1 t1 ks
    split at p
    · have sub : ∀ b ∈ Ms σ hid Γ', b ∈ Ms σ (tm ++ hid) Γ' := Ms_subH fun a ha => List.mem_append_right _ ha
      have S2 := S1.forget (fun a ha => List.mem_append_right _ ha) S.sub
      have k2 : Stp (Ms σ hid Γ) (Ms σ hid Γ') hid H H1 := ⟨k1.le.trans (.of_same (mask_sub sub)), k1.fx⟩
      cases ks with
      | cons ka kr =>
        cases kr with
        | cons kb kn =>
          cases kn
          have ra := ka.rv sub t1
          have rb := kb.rv sub t1
          cases ra with
          | lst ha rxs =>
            cases rb with
            | tup hb rys =>
              exact ⟨_, _, _, _, rfl, (HLe.of_same mask_same).sqL ha, SqT.of (mask_some hb).2, p _ H1 S2 k2 (itok_ZM ((HLe.of_same mask_same).sqL ha) (SqT.of (mask_some hb).2) (fun H2 M2 le => ⟨(HLe.of_same mask_same).sqL (le.sqL ha), SqT.of (mask_some (le.o _ _ hb trivial)).2⟩) rxs rys)⟩
    · exact p.elim⟩
theorem si_zipT (ha : SA X C W Γ [e, e2] Γ' h) (hm : X.mg "zip" = none) (hg : Gl X "zip" := by rfl) (hs : starEach [e, e2] X.env = (false, eval e X.env) :: starEach [e2] X.env := by rfl) (hpl : (backTo pos (starEach [e2] X.env)).any (·.1) = false := by rfl) :
    SI X C W Γ (.Tuple elts kk tpos) (.Call (.Name "zip" p) [e, e2] [] pos) Γ' (mZipT h) := ⟨piImp (RZ.pi_zipA hg hm ha.pa hs hpl) fun σ H Q ⟨hid, ρ, S, p⟩ => by
  refine ⟨hid, ρ, S, ?_⟩
  unfold mZipT at p
  cases q : h ρ with
  | bad => rw [q] at p; exact p
  | exn e ρ' => rw [q] at p; exact p
  | ok ds ρ1 =>
    rw [q] at p
    dsimp only [R.bind] at p
    intro vs H1 tm S1 k1 t1 ks
    split at p
    · have sub : ∀ b ∈ Ms σ hid Γ', b ∈ Ms σ (tm ++ hid) Γ' := Ms_subH fun a ha => List.mem_append_right _ ha
      have S2 := S1.forget (fun a ha => List.mem_append_right _ ha) S.sub
      have k2 : Stp (Ms σ hid Γ) (Ms σ hid Γ') hid H H1 := ⟨k1.le.trans (.of_same (mask_sub sub)), k1.fx⟩
      cases ks with
      | cons ka kr =>
        cases kr with
        | cons kb kn =>
          cases kn
          have ra := ka.rv sub t1
          have rb := kb.rv sub t1
          cases ra with
          | tup ha rxs =>
            cases rb with
            | tup hb rys =>
              exact ⟨_, _, _, _, rfl, .inr ⟨SqT.of (mask_some ha).2, SqT.of (mask_some hb).2, p _ H1 S2 k2 (itok_ZT (fun H2 M2 le => ⟨SqT.of (mask_some (le.o _ _ ha trivial)).2, SqT.of (mask_some (le.o _ _ hb trivial)).2⟩) rxs rys)⟩⟩
    · exact p.elim⟩
end
end Ip
set_option maxHeartbeats 2000000
namespace Ip
open PySem L2 PySem.Spec PyProof.Rows
/-! ## sum of a tuple of ints -/
theorem presum_take (f : Nat → Int) : ∀ (ns : List Int), (∀ (i : Nat) (n : Int), ns[i]? = some n → f i = n) → ∀ k ≤ ns.length, preSum f k = (ns.take k).sum
  | ns, h, 0, _ => by simp [preSum]
  | ns, h, k + 1, hk => by
    have e := List.getElem?_eq_getElem (show k < ns.length by omega)
    rw [preSum, presum_take f ns h k (by omega), take_at e, List.sum_append, h k _ e]
    simp
def rSumT (K : PySem.W.Frag) : List V → Hp → VK → Prop := fun vs H Q => ∃ (a : Addr) (ns : List Int), vs = [V.ref a] ∧ SqT K H a (ns.map V.int) ∧ Q (.int ns.sum) H
theorem cr_sumT {X : Cx} (hc : X.calm = true) : CallR X (.builtin "sum") (rSumT X.K) := by
  intro pins s σ H xs us Q I r ⟨a, ns, ex, hq, q⟩
  subst ex
  obtain ⟨u, rfl, e0⟩ := vals1 r
  obtain rfl : u = Value.ref a := e0
  obtain ⟨its, rv, p, _⟩ := I.tuple hq
  obtain ⟨o, ho, _⟩ := id p
  have l1 := rv.length
  rw [List.length_map] at l1
  have val : ∀ (i : Nat) (v : Value), its.toArray[i]? = some v → ∃ t, v = .int (ns.getD i 0) t := fun i v hv => by
    have hv : its[i]? = some v := by rw [List.getElem?_toArray] at hv; exact hv
    have hi : i < ns.length := by have := (List.getElem?_eq_some_iff.mp hv).1; omega
    obtain ⟨u, hu, ru⟩ := rv.get (show (ns.map V.int)[i]? = some (.int ns[i]) by rw [List.getElem?_map, List.getElem?_eq_getElem hi]; rfl)
    rw [hv] at hu
    cases hu
    obtain ⟨t, rfl⟩ := ru
    exact ⟨t, by rw [List.getD_eq_getElem?_getD, List.getElem?_eq_getElem hi]; rfl⟩
  refine call_sum_walkG (wpAny_pyIter_tuple p ?_)
  have lt : a < s.heap.objs.size := Heap.lt_size ho
  have ne : a ≠ s.heap.objs.size := Nat.ne_of_lt lt
  refine ⟨_, _, _, _, _, _, fun i => ns.getD i 0, rfl, Walks.tuple (A := X.A.in1) (I.ok.hd hc) s.heap.objs.size a ne its.toArray, ⟨⟨_, Heap.get?_push_size _ rfl, rfl, rfl⟩, ?_⟩, fun b hb => ?_, val, fun h' tk t' hk => ?_⟩
  · obtain ⟨o, ho, h2⟩ := p
    exact ⟨o, Heap.get?_push_of_some _ ho, h2⟩
  · show b < (s.heap.push _).objs.size
    rw [Heap.size_push]
    rcases List.mem_cons.mp hb with rfl | hb
    · exact Nat.lt_succ_self _
    · rw [List.mem_singleton.mp hb]; exact Nat.lt_succ_of_lt lt
  · have es : preSum (fun i => ns.getD i 0) its.toArray.size = ns.sum := by
      rw [presum_take _ ns (fun i n e => by rw [List.getD_eq_getElem?_getD, e]; rfl) _ (by rw [List.size_toArray]; omega), List.take_of_length_le (by rw [List.size_toArray]; omega)]
    rw [es]
    exact ⟨.int _, H, I.kept (t' := tk) fun b o e => hk b o (fun z => Nat.ne_of_lt (Heap.lt_size e) (List.mem_singleton.mp z)) (Heap.get?_push_of_some _ e), ⟨t', rfl⟩, q⟩
def oSumT : List D → Option D
  | [.tup ds] => (dInts ds).map fun ns => .int ns.sum
  | _ => none
theorem cal_sumT {g : Gx} : CalS g (rSumT g.K) oSumT := fun H M vs ds d Q tr ks ho q => by
  unfold oSumT at ho
  split at ho
  · simp only [Option.map_eq_some_iff] at ho
    obtain ⟨ns, h1, rfl⟩ := ho
    have := ints_inv h1
    subst this
    obtain ⟨v, rfl, s⟩ := shals1 ks
    cases s with
    | tup h r _ =>
      have := r.of_ints
      subst this
      exact ⟨_, ns, rfl, .of h, q _ H (.refl _) (.int _)⟩
  · cases ho
end Ip
set_option maxHeartbeats 4000000
namespace Ip
open PySem L2 PySem.Spec PyProof.Rows PySem.W NdefX
/-! ## errors with a field: __init__(self, v): super().__init__("..."); self.fn = v -/
abbrev supB (t fn v : Str) (j : Nat) (p0 p1 p2 p3 p4 p5 p6 p7 p8 p9 : Pos) : List Stmt :=
  [.Expr (.Call (.Attribute (.Call (.Name "super" p0) [] [] p1) "__init__" p2) [.Constant (.str t) j p3] [] p4) p5,
   .Assign [.Attribute (.Name "self" p6) fn p7] (.Name v p8) p9]
/-- what the written part says of the class -/
structure SupC (K : Frag) (C : Addr) (fn : Str) : Prop where
  T : OexC K C
  no : findIn K (.ref C) fn = some none
  su : ks_superIn K C C "__init__" = some (some (.builtin "ValueError.__init__"))
  ve : subIn K (.ref C) (.type "ValueError") = some true
  me : mroIn K C (.ref C) = some true
  op : nsIn K cStatics "thirdparty.any" = some none
  sg : nsIn K mainGlobals "super" = some none
/-- .. of its __init__ -/
structure SupF (fl : Str) (K : Frag) (C fI : Addr) (fn v : Str) (fd : FuncData) : Prop where
  ini : findIn K (.ref C) "__init__" = some (some (.ref fI))
  ty : typeIn K (.ref fI) = some (.type "function")
  ex : ∃ (oc : Value) (od : Option Addr) (osl : Array (Option Value)) (name qual : Str) (params : Arguments) (scope : Scope) (t : Str) (j : Nat) (p0 p1 p2 p3 p4 p5 p6 p7 p8 p9 : Pos) (dV kV doc pm : Value) (an : Option Addr) (cda cc : Addr) (ct : Value),
    fd = fnX name qual params (supB t fn v j p0 p1 p2 p3 p4 p5 p6 p7 p8 p9) scope [("__class__", cc)] dV kV doc pm an (.ref cda) ct ∧ K.lookup fI = some ⟨oc, od, .func fd, osl⟩ ∧ codeIn K (.ref cda) qual = true ∧
    NScope ["self", v, "__class__"] ["self", v] ["__class__"] scope ∧ scope.names.lookup ("super" : Str) = some .globalImplicit ∧ (∃ ar, (params.posonlyargs ++ params.args).head? = some ar ∧ ar.arg = "self") ∧
    (∃ cl cld csl, K.lookup cc = some ⟨cl, cld, .cell (some (.ref C)), csl⟩) ∧ (∃ ccl cdd vs ccs tf, K.lookup cda = some ⟨ccl, cdd, .fields vs, ccs⟩ ∧ vs[2]? = some (.str fl tf)) ∧ (p2.endLine == p4.line) = true ∧ (v == ("__debug__" : Str)) = false ∧ (v == ("__classdict__" : Str)) = false
def spSup (K : Frag) (C : Addr) (fn : Str) : Sp := fun vs H Q _ => ∃ (a : Addr) (y : V), vs = [V.ref a, y] ∧ H a = some (exo a C none) ∧ ∀ dx, H dx = none → dx ≠ a → Q .non (upd (upd H dx (exd dx [(fn, y)])) a (exo a C (some dx)))
theorem sup_eval {o : Expr} {env : PySem.Env} {t : Str} {j : Nat} {p2 p3 p4 : Pos} (hl : (p2.endLine == p4.line) = true) : eval (.Call (.Attribute o "__init__" p2) [.Constant (.str t) j p3] [] p4) env = (do
    let ov ← attributeBase o "__init__" env (eval o env)
    standAt p2.atName
    let (f, first) ← holding [ov] (getMethod ov "__init__" (do return (← importBound o env).getD true))
    callWith p4 f first (backTo p4 (starEach [.Constant (.str t) j p3] env)) []) := by
  rw [arm_eval_Call]
  have pos : methodCallPos true o env p2 p4 = pure p4 := by unfold methodCallPos; simp [hl]
  unfold methodCall
  rw [show methodCallForm ([Expr.Constant (.str t) j p3].length + ([] : List Keyword).length) (backTo p4 (starEach [.Constant (.str t) j p3] env)) (backToKw p4 (keywordEach [] env)) = true from rfl, pos]
  rfl
/-- the bound ValueError.__init__ called: the exception's arguments are laid anew, no more -/
theorem mw_call {prog : Program} {w : World} {A : Around} {E : Value → Shared → Prop} {hp : Heap} {gg : Array GenState} {dw : Drawn} {tk : Nat} {oss : OsState} {nm qn : Str} {C Na x u t0 : Addr} {bs bm : List Value} {hd : Bool} {sn : List Str} {sub : List Value} {ab : Bool} {col : Option Bool} {dd : Option Addr} {k0 k1 k2 k3 k5 : Option Value} {more : List Value} {Q : Value → Shared → Prop}
    (cl : hp.get? C = some (excClassObj nm qn C Na bs bm hd sn sub ab col dd k0 k1 k2 k3 k5 "ValueError.__new__")) (ox : hp.get? x = some ({ cls := .ref C, dict := none, data := .fields #[.ref t0, .none, .none, .none, .bool false, .none] } : Obj)) (ou : hp.get? u = some (kxs_mw "ValueError.__init__" x)) (few : more.length ≤ sizeLine)
    (fin : ∀ h' t1, (∀ b o, b ≠ x → hp.get? b = some o → h'.get? b = some o) → h'.get? x = some ({ cls := .ref C, dict := none, data := .fields #[.ref t1, .none, .none, .none, .bool false, .none] } : Obj) → Q .none ⟨h', gg, dw, tk, oss⟩) :
    wpAny (model prog w) A (call (.ref u) more) Q E ⟨hp, gg, dw, tk, oss⟩ := by
  refine wpAny_call (codeAny_of_tree ?_)
  show wpAny _ A.in1 (callAny (.ref u) ⟨more, []⟩) _ _ _
  simp only [callAny]
  refine wpAny_bind (wpAny_load ou ?_)
  rw [show (kxs_mw "ValueError.__init__" x).cls = Value.type "method-wrapper" from rfl]
  have isM : (Value.type "method-wrapper" == Value.type "method" || Value.type "method-wrapper" == Value.type "builtin_function_or_method" || Value.type "method-wrapper" == Value.type "method-wrapper") = true := by decide
  refine KFB.if_so isM ?_
  refine wpAny_bind (check_bound_init F.excBase_ValueError.toExcCallFacts cl ox rfl ?_)
  refine wpAny_bind (wpAny_pure (wpAny_pure ⟨plainId_quiet F.excBase_ValueError.init.plain _, codeAny_builtin F.excBase_ValueError.initEntry ?_⟩))
  exact exc_init_tree (cls := .ref C) (t0 := t0) (dv := none) (c2 := .none) (c3 := .none) (b4 := .bool false) ox few fun h' k e' _ => fin h' _ k e'
section
variable {P : Program} {w : World} {K : Frag} {mg : Str → Option Value} {base : Heap} {CX : CXT} {k : Nat} {C fI : Addr} {fn v : Str} {fd : FuncData}
theorem fn_sup (T : SupC K C fn) (F : SupF P.main.file K C fI fn v fd) (htop : (P.main.scope.names.lookup ("super" : Str)).isSome = false) : FnOk P w K mg base CX (k + 1) fI fd ["self", v] (spSup K C fn) := by
  obtain ⟨oc, od, osl, name, qual, params, scope, t, j, p0, p1, p2, p3, p4, p5, p6, p7, p8, p9, dV, kV, doc, pm, an, cda, cc, ct, rfl, lk, hcd, S, hsu, ⟨ar, har, ears⟩, ⟨cl, cld, csl, hcell⟩, ⟨ccl, cdd, vv, ccs, tf, hcode, hvs⟩, hline, hv1, hv2⟩ := F.ex
  refine ⟨fun vs H Q E h => by obtain ⟨a, y, rfl, _⟩ := h; rfl, fun A outer s H args us vs Q E hr e0 hb r hsp => ?_⟩
  obtain ⟨a, y, rfl, ea, q⟩ := hsp
  obtain ⟨u1, u2, rfl, e1, e2⟩ := vals2 r
  obtain rfl : u1 = Value.ref a := e1
  obtain ⟨hp, g, dr, tk, os⟩ := s
  have KX : K.In hp := e0.mod.kin.keeps fun b o e => (e0.bs b o e).1
  have lim : hp.NoLimit := e0.mod.nolimit.keeps fun b o e => (e0.bs b o e).1
  have cb : base.get? cc = some ⟨cl, cld, .cell (some (.ref C)), csl⟩ := e0.mod.kin _ _ hcell
  have CA : CellsAt [("__class__", cc)] ["__class__"] [some (.ref C)] hp H := by
    refine ⟨rfl, fun y c e => ?_, fun x y c e1 e2 => ?_, fun i y e => ?_⟩
    · have z := PySem.mem_of_lookup e
      rw [List.mem_singleton] at z
      cases z
      exact ⟨(e0.bs _ _ cb).2, _, _, (e0.bs _ _ cb).1, rfl⟩
    · have z1 := PySem.mem_of_lookup e1
      have z2 := PySem.mem_of_lookup e2
      rw [List.mem_singleton] at z1 z2
      cases z1; cases z2; rfl
    · match i, e with
      | 0, e =>
        cases e
        exact ⟨cc, rfl, fun v e => by cases e; exact ⟨.ref C, rfl, _, (e0.bs _ _ cb).1, rfl⟩⟩
  refine ks_codeAny_call_defAt (fd := fnX name qual params (supB t fn v j p0 p1 p2 p3 p4 p5 p6 p7 p8 p9) scope [("__class__", cc)] dV kV doc pm an (.ref cda) ct) hr.depth (KX _ _ lk) rfl lim (codeRec_of KX hcd) rfl hb S.nocell (fun ⟨n, _⟩ hy => S.par n (List.of_mem_zip hy).1) (fun h₁ hns kp => ?_) S.co S.gen S.kind
  have I := inv_startN (F := ⟨name, qual, params, supB t fn v j p0 p1 p2 p3 p4 p5 p6 p7 p8 p9, scope, [("__class__", cc)], cda⟩) (f := fI) (CX := CX) (E := E) (tk := tk + ([("self" : Str), v].zip [Value.ref a, u2]).length) S hr.hd e0 (vs := [V.ref a, y]) (ps := [("self" : Str), v]) (us := [Value.ref a, u2]) rfl r CA hns kp
  have KX1 : K.In h₁ := KX.keeps kp
  obtain ⟨t1, hoe⟩ := exo_at I.hok ea
  obtain ⟨nm, qn, Na, bs, bm, sn, sub, ab, col, dd, k0, k1, k2, k3, k5, hC, hbm⟩ := T.T.cls
  have hcl : clsIn K C = some { name := nm, bases := bs, mro := .ref C :: bm, ns := Na, qualname := qn, hasDict := true, slotNames := sn, subclasses := sub, abstract := ab, collection := col, hasDel := false } := by unfold clsIn; rw [hC] <;> rfl
  have IA : InstAt h₁ a { cls := .ref C, dict := none, data := .fields #[.ref t1, .none, .none, .none, .bool false, .none] } C none := ⟨hoe, rfl, rfl, trivial⟩
  obtain ⟨mb, hb1, hb2⟩ := e0.mod.blt
  have bk : ∀ b o, base.get? b = some o → h₁.get? b = some o := fun b o e => kp b o (e0.bs b o e).1
  have hself : (fun y => ([("self" : Str), v].zip [Value.ref a, u2]).reverse.lookup y) ar.arg = some (Value.ref a) := by
    rw [ears]
    exact zip_look (ps := [("self" : Str), v]) (us := [Value.ref a, u2]) (i := 0) (by have z := S.nd; exact (List.nodup_append (l₁ := [("self" : Str), v]) (l₂ := ["__class__"])).mp z |>.1) rfl rfl
  refine ks_wpAt_execs_cons (ks_wpAt_Expr_any (ks_wpAt_MethodCall (ks_wpAt_super_base (fd := fnX name qual params (supB t fn v j p0 p1 p2 p3 p4 p5 p6 p7 p8 p9) scope [("__class__", cc)] dV kV doc pm an (.ref cda) ct) hsu (S.frk _ (by simp)) (by decide) rfl (KX1 _ _ lk) rfl har rfl (KX1 _ _ hcode) rfl hvs (by simp) htop ?_) (sup_eval hline)) (by have z := S.kind; unfold interactive; simp_all [callEnv, newEnv]))
  refine ks_loadName_global S.kind hsu (Calls.loadGlobal_builtin (e0.mod.glob.keeps bk) (mg_none_of KX1 (e0.mod.glob.keeps bk) T.sg) (hb1.keeps bk) ((hb2 _ (by decide)).trans (by decide +kernel)) ⟨rfl, ?_⟩)
  refine wpAny_loadName_free S.kind (S.frk _ (by simp)) rfl ⟨_, KX1 _ _ hcell, rfl⟩ ?_
  refine wpAny_loadName_local S.kind (by rw [show ar.arg = "self" from ears]; exact S.par _ (by simp)) hns hself ?_
  have hCl : h₁.get? C = some (excClassObj nm qn C Na bs bm true sn sub ab col dd k0 k1 k2 k3 k5 "ValueError.__new__") := KX1 _ _ hC
  refine ks_wpAny_isType_cls hCl rfl ⟨rfl, ?_⟩
  refine ks_wpAny_call_super hCl rfl hoe rfl (fun c z => by cases z) (looks_mroIn KX1 T.me) (fun h2 hso kp2 => ?_)
  have KX2 : K.In h2 := KX1.keeps kp2
  have hsu2 := T.su
  unfold ks_superIn at hsu2
  rw [hcl] at hsu2
  refine kxs_getMethod kxs_ValueError hso (looks_opaque KX2 T.op) (l₀ := .ref C :: bm) (fun A Q E s k q => wpAny_bind ((looks_clsIn KX2 hcl) A _ E s k (wpAny_pure q))) rfl KX2 hsu2 ((show InstAt h2 a _ C none from ⟨kp2 _ _ hoe, rfl, rfl, trivial⟩).type.andThen (looks_subIn KX2 T.ve)) (ks_ne KX1 IA hcl) (by decide) ?_
  have lt12 : h₁.objs.size ≤ h2.objs.size := Nat.le_of_lt (Heap.lt_size hso)
  have kp3 : ∀ b o, h₁.get? b = some o → (h2.push (kxs_mw "ValueError.__init__" a)).get? b = some o := fun b o e => Heap.get?_push_of_some _ (kp2 b o e)
  have qn : H h2.objs.size = none := I.hok.fresh lt12
  have fq : FpOk (ncx CX P w K mg base [("self" : Str), v, "__class__"] ⟨name, qual, params, supB t fn v j p0 p1 p2 p3 p4 p5 p6 p7 p8 p9, scope, [("__class__", cc)], cda⟩ fI A outer ⟨hp, g, dr, tk, os⟩ H E) [] H h2.objs.size := I.fpOk lt12 qn
  have I2 := I.kept (h' := h2.push (kxs_mw "ValueError.__init__" a)) (t' := tk + ([("self" : Str), v].zip [Value.ref a, u2]).length + 1) kp3
  have hmw : (h2.push (kxs_mw "ValueError.__init__" a)).get? h2.objs.size = some (kxs_mw "ValueError.__init__" a) := Heap.get?_push_size _ rfl
  have I3 := I2.pinned (fp := [h2.objs.size]) (fun b hb => by rw [List.mem_singleton.mp hb]; exact fq) (fun b hb => by rw [List.mem_singleton.mp hb]; exact ⟨_, hmw, fun z e => by cases e⟩)
  have pin := mem_pinsAt (fp := [h2.objs.size]) (List.mem_singleton.mpr rfl) hmw
  refine kxs_callWith (i := "ValueError.__init__") (x := a) rfl (Calls.evalArgs_plain (x := eval (.Constant (.str t) j p3) _) (rest := []) (thn ((pa_cons (pe_str (x := t) (j := j) (pos := p3)) pa_nil).run p4 _ _ _ H (fun vs H1 => vs = [.str t] ∧ H1 = H) I3 ⟨rfl, rfl⟩) fun us s4 ⟨vs, H4, I4, r4, e4, e5⟩ => ?_))
  subst e4 e5
  obtain ⟨hm4, _⟩ := I4.pin _ (List.mem_append_right _ (List.mem_append_right _ pin))
  obtain ⟨t4, ho4⟩ := exo_at I4.hok ea
  have u4 : us.length ≤ sizeLine := by rw [← Paired.length r4]; show 1 ≤ sizeLine; decide
  obtain ⟨h4, g4, d4, tk4, os4⟩ := s4
  refine ⟨hm4, mw_call (I4.kIn _ _ hC) ho4 hm4 u4 fun h5 t5 kp5 ho5 => ?_⟩
  have J := I4.write (t' := tk4) (x := a) (e := a) (o := exo a C none) (by rw [ea]; exact True.intro) (.inl rfl) kp5 ⟨_, ho5⟩ (exo_ok ho5)
  have eH : upd H4 a (exo a C none) = H4 := by
    funext b
    by_cases hb : b = a
    · rw [hb, upd_same, ea]
    · rw [upd_ne hb]
  rw [eH] at J
  refine wpAt_of_wpAny ?_
  have body := (pss_one (ps_ost (pos := p9) (p' := p7) (f := fn) (pe_var (i := 0) (x := "self") (pos := p6) (X := ncx CX P w K mg base [("self" : Str), v, "__class__"] ⟨name, qual, params, supB t fn v j p0 p1 p2 p3 p4 p5 p6 p7 p8 p9, scope, [("__class__", cc)], cda⟩ fI A outer ⟨hp, g, dr, tk, os⟩ H4 E) rfl (.inl (S.par _ (by simp)))) (pe_var (i := 1) (x := v) (pos := p8) rfl (.inl (S.par _ (by simp))) hv1 hv2))).run _ _ _ _ { nx := fun _ H' => Q .non H', rt := Q } J ⟨y, rfl, _, rfl, a, C, rfl, T.T, T.no, .inl ⟨ea, fun dx n ne => q dx n ne⟩⟩
  refine wpAny_mono body (fun fl s' hs => ?_) fun e s' hs => hs
  cases fl with
  | next =>
    obtain ⟨σ', H', J', q'⟩ := hs
    exact ⟨V.non, H', J'.os, J'.bare, J'.base, J'.hok, rfl, q'⟩
  | ret u =>
    obtain ⟨v', σ', H', J', rv, q'⟩ := hs
    exact ⟨v', H', J'.os, J'.bare, J'.base, J'.hok, rv, q'⟩
  | brk =>
    obtain ⟨_, _, _, q'⟩ := hs
    exact False.elim q'
  | cont =>
    obtain ⟨_, _, _, q'⟩ := hs
    exact False.elim q'
end
end Ip
set_option maxHeartbeats 4000000
namespace Ip
open PySem L2 PySem.Spec PyProof.Rows PySem.W
/-! ## raise c(e): an error with a field -/
structure ErF (P : Program) (w : World) (K : Frag) (mg : Str → Option Value) (base : Heap) (ct : Str → Option Addr) (c fn : Str) : Prop where
  ex : ∃ (Cc fI : Addr) (fd : FuncData) (v : Str), ct c = some Cc ∧ mg c = some (.ref Cc) ∧ SupC K Cc fn ∧ findIn K (.ref Cc) "__init__" = some (some (.ref fI)) ∧ typeIn K (.ref fI) = some (.type "function") ∧ Binds K fd ["self", v] [] ∧
    FnOk P w K mg base (fun _ _ _ _ _ _ => False) 1 fI fd ["self", v] (spSup K Cc fn)
def mRaise1 (c fn : Str) (f : Env → R D) : Env → R Fl := fun ρ => (f ρ).bind fun d ρ' => .exn ⟨c, some (fn, d)⟩ ρ'
section
variable {X : Cx} {C : Ac} {W : WX} {Γ Γ0 Γ1 Γ2 Γ3 Γ' Γb : List Nat} {fr fr1 fr2 fr3 : Bool} {e a b c : Expr} {es : List Expr} {f h k : Env → R D} {p pos pos' apos cpos p2 np : Pos} {body suite : List Stmt} {b₀ : Stmt} {fb : Env → R Fl}
theorem upd_del_eq {H : Hp} {a d : Addr} {o1 o2 o3 o4 : HO} (ha : H a = none) (hd : d ≠ a) : upd (del (upd (upd (upd H a o1) d o2) a o3) a) d o4 = upd H d o4 := by
  funext z
  by_cases h1 : z = d
  · rw [h1, upd_same, upd_same]
  · rw [upd_ne h1, upd_ne h1]
    by_cases h2 : z = a
    · rw [h2, del_same, ha]
    · rw [del_ne h2, upd_ne h2, upd_ne h1, upd_ne h2]
theorem ss_raiseF {x fn : Str} (E : ErF X.prog X.w X.K X.mg X.base C.ct x fn) (hc : X.calm = true) (tk : Takes X W) (hr : Room 2 X.A) (ha : SE X C W Γ e Γ1 fr1 f) (hg : Gl X x := by rfl) (hk : okG C.io C.io Γ1 = true := by rfl) (hdb : (x == ("__debug__" : Str)) = false := by decide)
    (he : starEach [e] X.env = (false, eval e X.env) :: starEach [] X.env := by rfl) (hpl : (backTo pos (starEach [] X.env)).any (·.1) = false := by rfl) : SS X C W Γ (.Raise (some (.Call (.Name x p) [e] [] pos)) none pos') Γ' Γb fr (mRaise1 x fn f) := by
  obtain ⟨Cc, fI, fd, v, e1, gC, T, hi, ht, hb, F1⟩ := E.ex
  obtain ⟨h1, h2, h3⟩ := okG_of hk
  refine ⟨psImp (ps_raise hc tk (pmk_oex (ds := []) (dvs := []) T.T hi ht F1 (hr.mono (by decide)) hb .nil (fun _ _ _ _ _ _ _ z => z.elim) hg gC (pa_cons ha.pe pa_nil he) hdb he hpl)) fun Dn σ H ⟨ρ, S, q⟩ => ?_⟩
  unfold mRaise1 at q
  refine ⟨C.hid, ρ, S, ?_⟩
  cases qf : f ρ with
  | bad => rw [qf] at q; exact q
  | exn e ρ' => rw [qf] at q; exact fun cls od H' xr S' => q cls od σ H' xr S'
  | ok d ρ1 =>
    rw [qf] at q
    intro y H1 tm S1 k1 va t1
    refine ⟨by show 1 ≤ 1000; decide, fun a ha => ⟨a, y, rfl, upd_same, fun dx n ne => ⟨rfl, dx, [(fn, y)], upd_same, ?_, ?_, ?_⟩⟩⟩
    · rw [upd_ne ne, upd_same]
    · rw [upd_ne ne] at n; exact n
    · rw [upd_ne ne] at n
      rw [upd_del_eq ha ne]
      have sub : ∀ b ∈ Ms σ C.hid C.io, b ∈ Ms σ (tm ++ C.hid) Γ1 := fun b hb => by
        rcases mem_Ms.mp hb with z | ⟨j, hj, z⟩
        · exact mem_Ms.mpr (.inl (List.mem_append_right _ z))
        · exact mem_Ms.mpr (.inr ⟨j, h1 j hj, z⟩)
      have out : ∀ b ∈ tm, b ∉ Ms σ C.hid C.io := fun b hb z => t1 b hb (Ms_sub h1 b z)
      have S2 := ((S1.forget (hid' := C.hid) (fun a ha => List.mem_append_right _ ha) fun _ z => z).weak h1 h2 h3).same (same_upd (o := .xd [(fn, y)]) n)
      exact q (.ref Cc) (some dx) σ _ ⟨Cc, e1, rfl, dx, y, rfl, upd_same, (va.rv sub out).mono (.of_same (mask_keep fun b o _ z => same_upd n b o z))⟩ S2
end
/-! ## except clauses that set names, one by one, to values known ahead or to the error's field -/
inductive Sd where
  | c (d : D) | f (fn : Str)
def clE : List (Nat × Sd) → Ex → Env → Option Env
  | [], _, ρ => some ρ
  | (j, .c d) :: r, e, ρ => if j < ρ.length then clE r e (ρ.set j (some d)) else none
  | (j, .f fn) :: r, e, ρ => match e.fld with
    | some (g, d) => if g = fn ∧ j < ρ.length then clE r e (ρ.set j (some d)) else none
    | none => none
abbrev ClF := Str × Option Nat × List (Nat × Sd)
def pickF : List ClF → Ex → Env → R Fl
  | [], _, _ => .bad
  | (cn, i, l) :: r, e, ρ => if e.cls = cn then (match clE l e (clr i ρ) with
    | some ρ' => if ∀ k ∈ i, k < ρ.length then .ok .nx (clr i ρ') else .bad
    | none => .bad) else pickF r e ρ
def mTryF (l : List ClF) (f : Env → R Fl) : Env → R Fl := fun ρ => match f ρ with
  | .ok .nx ρ' => .ok .nx ρ'
  | .exn e ρ' => pickF l e ρ'
  | _ => .bad
/-- what the suite's statements do -/
def setsT (g : Gx) : List (Nat × Sd) → Option Addr → L2.St → Hp → (L2.St → Hp → Prop) → Prop
  | [], _, σ, H, N => N σ H
  | (j, .c d) :: r, od, σ, H, N => ∀ v, (∀ A, RV g A d v) → ∀ H', Same H H' → setsT g r od (σ.set j (some v)) H' N
  | (j, .f fn) :: r, od, σ, H, N => ∃ dd fs v, od = some dd ∧ H dd = some (.xd fs) ∧ fs.lookup fn = some v ∧ setsT g r od (σ.set j (some v)) H N
/-- a suite's statements, for the class Cc, the error in slot i -/
structure SCl (Y : Cx) (g : Gx) (Cc : Addr) (i : Option Nat) (b : List Stmt) (l : List (Nat × Sd)) : Prop where
  pss : ∀ (a : Addr) (o : Obj) (od : Option Addr) (pn : List (Addr × Obj)), Zc (.ref Cc) od o → (∃ vs, o.data = .fields vs) → PSs (Y.suite a ((a, o) :: pn)) b fun Dn σ H => (∀ k, i = some k → σ[k]? = some (some (.ref a))) ∧ setsT g l od σ H Dn.nx
section
variable {Y : Cx} {g : Gx} {Cc : Addr} {i : Option Nat} {l : List (Nat × Sd)} {b : List Stmt} {e : Expr} {p p2 pos pos2 : Pos} {x n fn : Str}
theorem scl_nil : SCl Y g Cc i [] [] := ⟨fun a o od pn hz hf => pssImp pss_nil fun Dn σ H ⟨_, q⟩ => q⟩
/-- x = a constant -/
theorem scl_c {d : D} {v : V} (j : Nat) (hN : Y.N.Nodup) (hp : ∀ Z : Cx, PE Z e (tC v)) (hv : ∀ A, RV g A d v) (hr : SCl Y g Cc i b l) (hij : ∀ k ∈ i, k ≠ j) (hx : Y.N[j]? = some x := by rfl) (hl : Loc Y.env.scope x := by first | exact Or.inl rfl | exact Or.inr rfl) (hs : swapsWith e (some (.Name x p)) pos.line Y.env = pure false := by rfl)
    (hf : Y.fn x = true ∨ Y.env.scope.names.lookup x = some .local := by first | exact .inl rfl | exact .inr rfl | assumption) : SCl Y g Cc i (.Assign [.Name x p] e pos :: b) ((j, .c d) :: l) :=
  ⟨fun a o od pn hz hd => pssImp (pss_cons (ps_set (X := Y.suite a ((a, o) :: pn)) hN hx hl (hp _) hs hf) (hr.pss a o od pn hz hd)) fun Dn σ H ⟨q1, q2⟩ =>
    ⟨fun k hk => by rw [List.getElem?_set_ne (Ne.symm (hij k hk))]; exact q1 k hk, q2 v hv H (.refl _)⟩⟩
/-- x = e.f -/
theorem scl_f {k : Nat} (j : Nat) (hN : Y.N.Nodup) (hi : i = some k) (T : XfC Y.K Cc) (hno : findIn Y.K (.ref Cc) fn = some none) (hr : SCl Y g Cc i b l) (hij : ∀ k ∈ i, k ≠ j) (hn : Y.N[k]? = some n := by rfl) (hvi : Vis Y.env.scope n := by first | exact Or.inl rfl | exact Or.inr (Or.inl rfl) | exact Or.inr (Or.inr rfl)) (hx : Y.N[j]? = some x := by rfl) (hl : Loc Y.env.scope x := by first | exact Or.inl rfl | exact Or.inr rfl) (hs : swapsWith (.Attribute (.Name n p2) fn pos2) (some (.Name x p)) pos.line Y.env = pure false := by rfl)
    (hf : Y.fn x = true ∨ Y.env.scope.names.lookup x = some .local := by first | exact .inl rfl | exact .inr rfl | assumption) (hd : (n == ("__debug__" : Str)) = false := by decide) (hcd : (n == ("__classdict__" : Str)) = false := by decide) (hb : attributeBase (.Name n p2) fn Y.env (eval (.Name n p2) Y.env) = eval (.Name n p2) Y.env := by rfl) :
    SCl Y g Cc i (.Assign [.Name x p] (.Attribute (.Name n p2) fn pos2) pos :: b) ((j, .f fn) :: l) :=
  ⟨fun a o od pn hz hd' => pssImp (pss_cons (ps_set (X := Y.suite a ((a, o) :: pn)) hN hx hl (pe_xf (X := Y) T hno hz hd' (pe_var (X := Y.suite a ((a, o) :: pn)) hn hvi hd hcd) hb) hs hf) (hr.pss a o od pn hz hd')) fun Dn σ H ⟨q1, q2⟩ => by
    obtain ⟨dd, fs, v, z1, z2, z3, z4⟩ := q2
    exact ⟨_, q1 k hi, rfl, rfl, dd, fs, v, z1, z2, z3, fun k' hk => by rw [List.getElem?_set_ne (Ne.symm (hij k' hk))]; exact q1 k' hk, z4⟩⟩
end
structure TF where
  cn : Str
  i : Option Nat
  l : List (Nat × Sd)
  Cc : Addr
def tfT (g : Gx) (t : TF) : Addr → Value → Option Addr → TS := fun a cls od Dn σ H => cls = .ref t.Cc ∧ (∀ k, t.i = some k → σ[k]? = some (some (.ref a))) ∧ setsT g t.l od σ H Dn.nx
def tfCl (g : Gx) (t : TF) : Cl := (.ref t.Cc, t.i, tfT g t)
def tfK (t : TF) : ClF := (t.cn, t.i, t.l)
inductive TfOk (K : Frag) (ct : Str → Option Addr) (io : List Nat) : List TF → Prop
  | nil : TfOk K ct io []
  | cons {t : TF} {r : List TF} : ct t.cn = some t.Cc → exmOne K (.ref t.Cc) (.ref t.Cc) = some true → (∀ u ∈ r, exmOne K (.ref u.Cc) (.ref t.Cc) = some false) →
      (∀ q ∈ t.l, q.1 ∉ io) → (∀ k ∈ t.i, k ∉ io) → TfOk K ct io r → TfOk K ct io (t :: r)
theorem TfOk.ct {K : Frag} {ct : Str → Option Addr} {io : List Nat} {l : List TF} (h : TfOk K ct io l) : ∀ t ∈ l, ct t.cn = some t.Cc := by
  induction h with
  | nil => exact fun _ z => nomatch z
  | cons h1 _ _ _ _ _ ih =>
    intro u hu
    rcases List.mem_cons.mp hu with rfl | hu
    · exact h1
    · exact ih u hu
section
variable {X : Cx} {W : WX} {Γb : List Nat} {fr : Bool} {body : List Stmt} {pos : Pos} {fb : Env → R Fl} {g : Gx}
theorem tf_named {x n : Str} {t : TF} {i : Nat} {b0 : Stmt} {b : List Stmt} {np p : Pos} {hds : List ExceptHandler} {l : List Cl} (hi : t.i = some i) (hc : Names X x (.ref t.Cc)) (hsu : SCl X g t.Cc t.i (b0 :: b) t.l)
    (r : ClsOk X hds l) (hN : X.N[i]? = some n := by rfl) (hl : X.env.kindOf n = some .local := by rfl) : ClsOk X (.ExceptHandler (some (.Name x np)) (some n) (b0 :: b) p :: hds) (tfCl g t :: l) := by
  have e : tfCl g t = (.ref t.Cc, some i, tfT g t) := by unfold tfCl; rw [hi]
  rw [e]
  exact .named hc hN hl (fun a o cls d pn hz hd => ⟨fun pins s σ H Dn I ⟨q1, q2⟩ => by
    subst q1
    exact (hsu.pss a o d pn hz hd).run pins s σ H Dn I q2⟩) r
theorem tf_bare {x : Str} {t : TF} {b0 : Stmt} {b : List Stmt} {np p : Pos} {hds : List ExceptHandler} {l : List Cl} (hi : t.i = none) (hc : Names X x (.ref t.Cc)) (hsu : SCl X g t.Cc t.i (b0 :: b) t.l)
    (r : ClsOk X hds l) : ClsOk X (.ExceptHandler (some (.Name x np)) none (b0 :: b) p :: hds) (tfCl g t :: l) := by
  have e : tfCl g t = (.ref t.Cc, none, tfT g t) := by unfold tfCl; rw [hi]
  rw [e]
  exact .bare hc (fun a o cls d pn hz hd => ⟨fun pins s σ H Dn I ⟨q1, q2⟩ => by
    subst q1
    exact (hsu.pss a o d pn hz hd).run pins s σ H Dn I q2⟩) r
theorem pickF_mem {e : Ex} {ρ : Env} : ∀ {l : List TF}, pickF (l.map tfK) e ρ ≠ .bad → ∃ t ∈ l, e.cls = t.cn
  | [], h => absurd rfl h
  | t :: r, h => by
    by_cases q : e.cls = t.cn
    · exact ⟨t, List.mem_cons_self, q⟩
    · have h : pickF (r.map tfK) e ρ ≠ .bad := by
        intro z
        refine h ?_
        show (if e.cls = t.cn then _ else pickF (r.map tfK) e ρ) = _
        rw [if_neg q]; exact z
      obtain ⟨u, hu, e2⟩ := pickF_mem h
      exact ⟨u, List.mem_cons_of_mem _ hu, e2⟩
theorem sets_of {K : Frag} {C : Ac} {hid : List Addr} {io : List Nat} {e : Ex} {od : Option Addr} {N : L2.St → Hp → Prop} : ∀ (l : List (Nat × Sd)) (ρ ρ2 : Env) (σ : L2.St) (H : Hp), clE l e ρ = some ρ2 → (∀ q ∈ l, q.1 ∉ io) → ST K C hid io ρ σ H →
    (∀ fn d, e.fld = some (fn, d) → ∃ dd v, od = some dd ∧ H dd = some (.xd [(fn, v)]) ∧ RV (gx K C) (mask H (Ms σ hid io)) d v) →
    (∀ σ2 H2, ST K C hid io ρ2 σ2 H2 → Same H H2 → Ms σ2 hid io = Ms σ hid io → N σ2 H2) → setsT (gx K C) l od σ H N
  | [], ρ, ρ2, σ, H, h, _, S, _, f => by cases h; exact f σ H S (.refl _) rfl
  | (j, .c d) :: r, ρ, ρ2, σ, H, h, hj, S, xr, f => by
    unfold clE at h
    split at h
    · rename_i hl
      intro v hv H' sm
      have j0 := hj _ List.mem_cons_self
      refine sets_of r _ _ _ _ h (fun q hq => hj q (List.mem_cons_of_mem _ hq)) ((S.same sm).put j0 (hv _) hl) (fun fn d hf => ?_) fun σ2 H2 S2 sm2 em => f σ2 H2 S2 (sm.trans sm2) (em.trans (Ms_set j0))
      obtain ⟨dd, v, z1, z2, z3⟩ := xr fn d hf
      exact ⟨dd, v, z1, sm _ _ z2, by rw [Ms_set j0]; exact z3.mono (.of_same (mask_keep fun b o _ e => sm b o e))⟩
    · cases h
  | (j, .f fn) :: r, ρ, ρ2, σ, H, h, hj, S, xr, f => by
    unfold clE at h
    split at h
    · rename_i g d ef
      split at h
      · rename_i hl
        obtain ⟨rfl, hl⟩ := hl
        obtain ⟨dd, v, z1, z2, z3⟩ := xr g d ef
        have j0 := hj _ List.mem_cons_self
        refine ⟨dd, _, v, z1, z2, by simp [List.lookup], ?_⟩
        refine sets_of r _ _ _ _ h (fun q hq => hj q (List.mem_cons_of_mem _ hq)) (S.put j0 z3 hl) (fun fn d hf => ?_) fun σ2 H2 S2 sm2 em => f σ2 H2 S2 sm2 (em.trans (Ms_set j0))
        obtain ⟨dd, v, z1, z2, z3⟩ := xr fn d hf
        exact ⟨dd, v, z1, z2, by rw [Ms_set j0]; exact z3⟩
      · cases h
    · cases h
theorem tf_take {ct : Str → Option Addr} {H0 H : Hp} {hid ioA : List Addr} {io : List Nat} {ρ0 ρ' : Env} {σ σ' : L2.St} {H' : Hp} {Dn : Ends} {e : Ex} {cls : Value} {od : Option Addr}
    (S : ST X.K ⟨ct, H0, hid, io, ioA⟩ hid io ρ0 σ H) (S' : ST X.K ⟨ct, H, hid, io, ioA⟩ hid io ρ' σ' H') (xr : ExR ⟨X.K, ct⟩ H' (mask H' (Ms σ' hid io)) e cls od) :
    ∀ {l : List TF}, TfOk X.K ct io l → PostS X.K ⟨ct, H0, hid, io, ioA⟩ W io io Γb fr Dn σ H (pickF (l.map tfK) e ρ') → wCls X.K W Dn (l.map (tfCl ⟨X.K, ct⟩)) cls od σ' H' := by
  intro l ok
  induction ok with
  | nil => exact fun p => (show False from p).elim
  | @cons t r hct hy hn hj hi ok ih =>
    intro p
    obtain ⟨C1, y1, y2, y3⟩ := xr
    subst y2
    have nb : pickF ((t :: r).map tfK) e ρ' ≠ .bad := fun z => by rw [z] at p; exact p
    obtain ⟨u, hu, eu⟩ := pickF_mem nb
    have cu := (TfOk.cons hct hy hn hj hi ok).ct u hu
    have eC : C1 = u.Cc := Option.some.inj ((y1.symm.trans (congrArg ct eu)).trans cu)
    have p : PostS X.K ⟨ct, H0, hid, io, ioA⟩ W io io Γb fr Dn σ H (if e.cls = t.cn then (match clE t.l e (clr t.i ρ') with
      | some ρ2 => if ∀ k ∈ t.i, k < ρ'.length then .ok .nx (clr t.i ρ2) else .bad
      | none => .bad) else pickF (r.map tfK) e ρ') := p
    by_cases hc : e.cls = t.cn
    · rw [if_pos hc] at p
      have eC : C1 = t.Cc := Option.some.inj ((y1.symm.trans (congrArg ct hc)).trans hct)
      subst eC
      cases ec : clE t.l e (clr t.i ρ') with
      | none => rw [ec] at p; exact (show False from p).elim
      | some ρ2 =>
        rw [ec] at p
        by_cases c2 : ∀ k ∈ t.i, k < ρ'.length
        · simp only [if_pos c2] at p
          refine ⟨true, hy, (fun z => nomatch z), fun _ a ha => ?_⟩
          obtain ⟨S1, k1⟩ := S.inner S'
          have fld : ∀ σ2, Ms σ2 hid io = Ms σ' hid io → ∀ fn d, e.fld = some (fn, d) → ∃ dd v, od = some dd ∧ H' dd = some (.xd [(fn, v)]) ∧ RV ⟨X.K, ct⟩ (mask H' (Ms σ2 hid io)) d v := fun σ2 em fn d ef => by
            rw [ef] at y3
            obtain ⟨dd, v, z1, z2, z3⟩ := y3
            exact ⟨dd, v, z1, z2, by rw [em]; exact z3⟩
          have fin : ∀ H2, Same H' H2 → ∀ σ2, ST X.K ⟨ct, H0, hid, io, ioA⟩ hid io (clr t.i ρ2) σ2 H2 → Ms σ2 hid io = Ms σ' hid io → Dn.nx σ2 H2 := fun H2 sm σ2 S4 em => by
            refine p _ H2 S4 ?_
            rw [em]
            refine ⟨k1.le.trans (.of_same (mask_keep fun b o _ e => sm b o e)), fun a ha => ?_⟩
            have e := k1.fx a ha
            rw [← e]
            cases q : H' a with
            | none => exact absurd q (S1.trk a ha).1
            | some o => exact sm a o q
          show hitC t.i (tfT ⟨X.K, ct⟩ t) a (.ref t.Cc) od Dn σ' H'
          unfold hitC
          split
          · rename_i ei
            rw [ei] at ec
            refine ⟨rfl, (fun i z => by rw [ei] at z; cases z), sets_of (K := X.K) (C := ⟨ct, H0, hid, io, ioA⟩) t.l ρ' ρ2 σ' H' ec hj S1 (fld _ rfl) fun σ2 H2 S2 sm em => fin H2 sm σ2 ?_ em⟩
            rw [ei]; exact S2
          · rename_i i ei
            have i1 := hi i (by rw [ei]; rfl)
            have il : i < ρ'.length := c2 i (by rw [ei]; rfl)
            rw [ei] at ec
            have ems : Ms (σ'.set i (some (V.ref a))) hid io = Ms σ' hid io := Ms_set i1
            refine ⟨rfl, (fun k z => ?_), sets_of (K := X.K) (C := ⟨ct, H0, hid, io, ioA⟩) t.l _ ρ2 (σ'.set i (some (V.ref a))) H' ec hj (S1.unslot i1 _) (fld _ ems) fun σ2 H2 S2 sm em => fin H2 sm (σ2.set i none) ?_ ((Ms_set i1).trans (em.trans ems))⟩
            · rw [ei] at z
              cases z
              exact List.getElem?_set_self (by rw [← S'.len]; exact il)
            · rw [ei]; exact S2.unslot i1 none
        · simp only [if_neg c2] at p
          exact (show False from p).elim
    · rw [if_neg hc] at p
      have hr : u ∈ r := by
        rcases List.mem_cons.mp hu with rfl | h
        · exact absurd eu hc
        · exact h
      refine ⟨false, by rw [eC]; exact hn u hr, fun _ => ih p, fun z => nomatch z⟩
theorem ss_tryF {ct : Str → Option Addr} {H0 : Hp} {hid ioA : List Addr} {io : List Nat} {h0 : ExceptHandler} {hds : List ExceptHandler} {l : List TF} (hN : X.N.Nodup) (hs : X.stack = X.env :: X.outer) (hf : X.env.frame = some X.env.locals) (tk : Takes X W) (ok : TfOk X.K ct io l)
    (hb : ∀ (H1 : Hp) (W1 : WX) (pn : List (Addr × Obj)) (xe : Value → Shared → Prop), Takes (X.tr pn xe) W1 → PassesOwn (model X.prog X.w) X.A X.env xe → SSs (X.tr pn xe) ⟨ct, H1, hid, io, ioA⟩ W1 io body io [] false fb)
    (hh : ClsOk X (h0 :: hds) (l.map (tfCl ⟨X.K, ct⟩))) : SS X ⟨ct, H0, hid, io, ioA⟩ W io (.Try body (h0 :: hds) [] [] pos) io Γb fr (mTryF (l.map tfK) fb) := ⟨⟨fun pins s σ H Dn I ⟨ρ, S, p⟩ => by
  refine (ps_tryC (tb := fun W1 => tS X.K ⟨ct, H, hid, io, ioA⟩ W1 io io [] false fb) hs hf hN tk (fun W1 pn xe t1 t2 => (hb H W1 pn xe t1 t2).ps) hh).run pins s σ H Dn I ⟨ρ, S.outer, ?_⟩
  unfold mTryF at p
  cases q : fb ρ with
  | bad => rw [q] at p; exact (show False from p).elim
  | ok fl ρ' =>
    rw [q] at p
    cases fl with
    | nx => exact fun σ' H' S' k' => p σ' H' (S.inner S').1 k'
    | _ => exact (show False from p).elim
  | exn e ρ' =>
    rw [q] at p
    exact fun cls od σ' H' xr S' => tf_take S S' xr ok p⟩⟩
end
end Ip
set_option maxHeartbeats 4000000
namespace Ip
open PySem L2 PySem.Spec PyProof.Rows PySem.W NdefX
/-! ## the head's facts of an error with a field -/
def supBodyB (fn v : Str) : FuncBody → Bool
  | .stmts [.Expr (.Call (.Attribute (.Call (.Name s1 _) [] [] _) m1 p2) [.Constant (.str _) _ _] [] p4) _, .Assign [.Attribute (.Name s2 _) f2 _] (.Name v2 _) _] =>
    decide (s1 = "super") && (decide (m1 = "__init__") && (decide (s2 = "self") && (decide (f2 = fn) && (decide (v2 = v) && (p2.endLine == p4.line)))))
  | _ => false
theorem supBody_ok {fn v : Str} {b : FuncBody} (h : supBodyB fn v b = true) : ∃ (t : Str) (j : Nat) (p0 p1 p2 p3 p4 p5 p6 p7 p8 p9 : Pos), b = .stmts (supB t fn v j p0 p1 p2 p3 p4 p5 p6 p7 p8 p9) ∧ (p2.endLine == p4.line) = true := by
  unfold supBodyB at h
  split at h
  · simp only [Bool.and_eq_true, decide_eq_true_eq] at h
    obtain ⟨rfl, rfl, rfl, rfl, rfl, h⟩ := h
    exact ⟨_, _, _, _, _, _, _, _, _, _, _, _, rfl, h⟩
  · cases h
def supParB (v : Str) : Arguments → Bool
  | ⟨[], [⟨a1, _, _⟩, ⟨a2, _, _⟩], none, [], [], none, []⟩ => decide (a1 = "self") && decide (a2 = v)
  | _ => false
theorem supPar_ok {v : Str} {b : Arguments} (h : supParB v b = true) : ∃ (n1 n2 : Option Expr) (p1 p2 : Pos), b = ⟨[], [⟨"self", n1, p1⟩, ⟨v, n2, p2⟩], none, [], [], none, []⟩ := by
  unfold supParB at h
  split at h
  · simp only [Bool.and_eq_true, decide_eq_true_eq] at h
    obtain ⟨rfl, rfl⟩ := h
    exact ⟨_, _, _, _, rfl⟩
  · cases h
def supCloB (K : Frag) (C : Addr) : List (Str × Addr) → Bool
  | [(c1, cc)] => decide (c1 = "__class__") && (match K.lookup cc with
    | some ⟨_, _, .cell (some (.ref D)), _⟩ => decide (D = C)
    | _ => false)
  | _ => false
theorem supClo_ok {K : Frag} {C : Addr} {l : List (Str × Addr)} (h : supCloB K C l = true) : ∃ cc : Addr, l = [(("__class__" : Str), cc)] ∧ ∃ cl cld csl, K.lookup cc = some ⟨cl, cld, .cell (some (.ref C)), csl⟩ := by
  unfold supCloB at h
  split at h
  · rename_i c1 cc
    simp only [Bool.and_eq_true, decide_eq_true_eq] at h
    obtain ⟨rfl, h⟩ := h
    split at h
    · rename_i e
      cases of_decide_eq_true h
      exact ⟨cc, rfl, _, _, _, e⟩
    · cases h
  · cases h
def supCodeB (K : Frag) (fl q : Str) : Value → Bool
  | .ref cda => codeIn K (.ref cda) q && (match K.lookup cda with
    | some ⟨_, _, .fields vs, _⟩ => (match (vs[2]? : Option Value) with
      | some (.str f _) => decide (f = fl)
      | _ => false)
    | _ => false)
  | _ => false
theorem supCode_ok {K : Frag} {fl q : Str} {v : Value} (h : supCodeB K fl q v = true) : ∃ cda, v = .ref cda ∧ codeIn K (.ref cda) q = true ∧ ∃ ccl cdd vs ccs tf, K.lookup cda = some ⟨ccl, cdd, .fields vs, ccs⟩ ∧ vs[2]? = some (.str fl tf) := by
  unfold supCodeB at h
  split at h
  · rename_i cda
    simp only [Bool.and_eq_true] at h
    obtain ⟨h1, h⟩ := h
    split at h
    · rename_i e
      split at h
      · rename_i e2
        cases of_decide_eq_true h
        exact ⟨cda, rfl, h1, _, _, _, _, _, e, e2⟩
      · cases h
    · cases h
  · cases h
def supClsB (K : Frag) (C : Addr) : Bool := match K.lookup C with
  | some ⟨.type "type", _, .cls cd, sl⟩ => (match cd.mro, sl.toList with
    | .ref C' :: bm, [_, _, _, _, some (.builtin n), _] => decide (C' = C) && (decide (n = "ValueError.__new__") && (!cd.hasDel && (cd.hasDict && PySem.HandSPX.refsVE bm)))
    | _, _ => false)
  | _ => false
theorem supCls_ok {K : Frag} {C : Addr} (h : supClsB K C = true) : ∃ nm q N bs bm sn sub ab col dd k0 k1 k2 k3 k5, K.lookup C = some (excClassObj nm q C N bs bm true sn sub ab col dd k0 k1 k2 k3 k5 "ValueError.__new__") ∧ PySem.HandSPX.refsVE bm = true := by
  unfold supClsB at h
  split at h
  · rename_i od cd sl e
    split at h
    · rename_i C' bm k0 k1 k2 k3 n k5 e1 e2
      simp only [Bool.and_eq_true, decide_eq_true_eq, Bool.not_eq_true'] at h
      obtain ⟨rfl, rfl, h3, h4, h5⟩ := h
      obtain ⟨nm, bs, mro, ns, qn, hd, sn, sub, ab, col, del⟩ := cd
      dsimp only at e1 h3 h4
      subst e1 h3 h4
      have es : sl = #[k0, k1, k2, k3, some (.builtin "ValueError.__new__"), k5] := by
        have := congrArg List.toArray e2
        simpa using this
      subst es
      exact ⟨_, _, _, _, _, _, _, _, _, _, _, _, _, _, _, e, h5⟩
    · cases h
  · cases h
def supK (fl : Str) (x fn v : Str) (K : Frag) : Bool :=
  supClsB K (He.ga K x) && (decide (findIn K (.ref (He.ga K x)) "__setattr__" = some (some (.builtin "object.__setattr__"))) && (decide (subIn K (.ref (He.ga K x)) (.type "BaseException") = some true) && (decide (typeIn K (.ref (He.ga K x)) = some (.type "type")) && (keepIn K (.ref (He.ga K x)) &&
  (decide (findIn K (.ref (He.ga K x)) fn = some none) && (decide (ks_superIn K (He.ga K x) (He.ga K x) "__init__" = some (some (.builtin "ValueError.__init__"))) && (decide (subIn K (.ref (He.ga K x)) (.type "ValueError") = some true) && (decide (mroIn K (He.ga K x) (.ref (He.ga K x)) = some true) &&
  (decide (nsIn K cStatics "thirdparty.any" = some none) && (decide (nsIn K mainGlobals "super" = some none) && (decide (findIn K (.ref (He.ga K x)) "__init__" = some (some (.ref (He.ma K (He.ga K x) "__init__")))) && (decide (typeIn K (.ref (He.ma K (He.ga K x) "__init__")) = some (.type "function")) &&
  (match K.lookup (He.ma K (He.ga K x) "__init__") with
    | some ⟨_, _, .func fd, _⟩ => supBodyB fn v fd.body && (supParB v fd.params && (supCloB K (He.ga K x) fd.closure && (supCodeB K fl fd.qualname fd.code && (decide (fd.globals = mainGlobals) && (decide (fd.builtins = builtinsNs) && (decide (fd.defaults = .none) && (decide (fd.kwdefaults = .none) && (nscB [("self" : Str), v, "__class__"] [("self" : Str), v] ["__class__"] fd.scope && decide (fd.scope.names.lookup ("super" : Str) = some .globalImplicit)))))))))
    | _ => false)))))))))))))
abbrev BindV (v : Str) : Prop := ∀ (name qual : Str) (body : List Stmt) (scope : Scope) (clo : List (Str × Addr)) (doc pm : Value) (an : Option Addr) (cdv ct : Value) (n1 n2 : Option Expr) (q1 q2 : Pos) (a b : Value),
  bindArgs (fnX name qual ⟨[], [⟨"self", n1, q1⟩, ⟨v, n2, q2⟩], none, [], [], none, []⟩ body scope clo .none .none doc pm an cdv ct) ⟨[a, b], []⟩ = pure [(("self" : Str), a), (v, b)]
theorem supK_ok {K : Frag} {fl x fn v : Str} (h : supK fl x fn v K = true) (hv1 : (v == ("__debug__" : Str)) = false := by decide) (hv2 : (v == ("__classdict__" : Str)) = false := by decide) (hbv : BindV v := by unfold BindV; intros; rfl) :
    SupC K (He.ga K x) fn ∧ ∃ fd, SupF fl K (He.ga K x) (He.ma K (He.ga K x) "__init__") fn v fd ∧ Binds K fd [("self" : Str), v] [] := by
  unfold supK at h
  simp only [Bool.and_eq_true, decide_eq_true_eq] at h
  obtain ⟨h1, h2, h3, h4, h5, h6, h7, h8, h9, h10, h11, h12, h13, h14⟩ := h
  refine ⟨⟨⟨supCls_ok h1, h2, h3, h4, h5⟩, h6, h7, h8, h9, h10, h11⟩, ?_⟩
  split at h14
  · rename_i oc od fd osl lk
    simp only [Bool.and_eq_true, decide_eq_true_eq] at h14
    obtain ⟨g1, g2, g3, g4, g5, g6, gd, gk, g7, g8⟩ := h14
    obtain ⟨name, qual, params, body, scope, gl, clo, dV, kV, doc, pm, an, code, ct, bl⟩ := fd
    dsimp only at g1 g2 g3 g4 g5 g6 gd gk g7 g8
    obtain ⟨t, j, p0, p1, p2, p3, p4, p5, p6, p7, p8, p9, rfl, hl⟩ := supBody_ok g1
    obtain ⟨n1, n2, q1, q2, rfl⟩ := supPar_ok g2
    obtain ⟨cc, rfl, hc⟩ := supClo_ok g3
    obtain ⟨cda, rfl, hcd, hvs⟩ := supCode_ok g4
    subst g5 g6 gd gk
    refine ⟨_, ⟨h12, h13, oc, od, osl, name, qual, _, scope, t, j, p0, p1, p2, p3, p4, p5, p6, p7, p8, p9, .none, .none, doc, pm, an, cda, cc, ct, rfl, lk, hcd, nscope_by g7, g8, ⟨_, rfl, rfl⟩, hc, hvs, hl, hv1, hv2⟩, Binds.all fun us hl => ?_⟩
    match us, hl with
    | [u1, u2], _ => exact hbv _ _ _ _ _ _ _ _ _ _ _ _ _ _ u1 u2
  · cases h14
theorem erF_of {P : Program} {w : World} {K : Frag} {mg : Str → Option Value} {base : Heap} {x fn v : Str} (h : supK P.main.file x fn v K = true) (htop : (P.main.scope.names.lookup ("super" : Str)).isSome = false) (hg : mg x = some (.ref (He.ga K x)))
    (hv1 : (v == ("__debug__" : Str)) = false := by decide) (hv2 : (v == ("__classdict__" : Str)) = false := by decide) (hbv : BindV v := by unfold BindV; intros; rfl) : ErF P w K mg base (fun c => some (He.ga K c)) x fn := by
  obtain ⟨T, fd, F, hb⟩ := supK_ok h hv1 hv2 hbv
  exact ⟨_, _, fd, v, rfl, hg, T, F.ini, F.ty, hb, fn_sup (k := 0) T F htop⟩
/-! ## the hook, with the place of the marks -/
def obsYG (n : Nat) (fa : List He.Fa) (fn : List He.DefD) (xs : List (Frag → Bool)) (g : Addr → Option Obj) : He.AlD := obsX fa fn xs (He.frG g (cStatics :: He.asD g n))
def hookY (n : Nat) (fa : List He.Fa) (fn : List He.DefD) (xs : List (Frag → Bool)) : PySem.W.Hook where
  α := He.AlD
  obs := fun s => obsYG n fa fn xs s.heap.get?
  val := fun _ => He.valD fn
  says := fun _ h => ∃ K : Frag, K.In h ∧ SaysX fa fn xs K
  of := fun _ _ e => ⟨_, He.frG_in, e⟩
  keeps := fun _ _ _ ⟨K, hK, c⟩ k => ⟨K, Frag.In.keeps hK k, c⟩
theorem obsYG_eq {n : Nat} {fa : List He.Fa} {fn : List He.DefD} {xs : List (Frag → Bool)} {g : Addr → Option Obj} {s : Shared} (h : ∀ a, g a = s.heap.get? a) : obsYG n fa fn xs g = (hookY n fa fn xs).obs s := by
  rw [show g = s.heap.get? from funext h]; rfl
/-- the class's error is read in a suite -/
theorem xfC_of {K : Frag} {x : Str} (h : excC K x = true) : XfC K (He.ga K x) := by
  have c := excC_ok h
  simp only [excC, Bool.and_eq_true, decide_eq_true_eq] at h
  obtain ⟨h1, h2, h3, h4, _⟩ := h
  exact ⟨h1, h2, h3, h4⟩
end Ip
set_option maxHeartbeats 2000000
namespace Ip
open PySem L2 PySem.Spec PyProof.Rows PySem.W
section
variable {X : Cx} {C : Ac} {W : WX} {Γ Γ0 Γ1 Γ2 Γ3 Γ' Γb : List Nat} {fr fr1 fr2 fr3 : Bool} {e a b c : Expr} {es : List Expr} {f h k : Env → R D} {p pos pos' apos cpos p2 np : Pos} {lo hi : Option Expr} {l u : Env → R (Option Int)} {fs : Env → R Fl} {st : Stmt} {sts : List Stmt}
/-- a module's number -/
theorem se_gint {x : Str} {i : Int} (hm : ∃ t, X.mg x = some (.int i t)) (hg : Gl X x := by rfl) (hd : (x == ("__debug__" : Str)) = false := by decide) : SE X C W Γ (.Name x pos) Γ fr (mC (.int i)) := by
  obtain ⟨t, hm⟩ := hm
  exact se_imm (pe_glob (v := .int i) hg hm ⟨t, rfl⟩ hd) (fun _ => .int i) (fun _ z => nomatch z)
/-- slots are let go ahead -/
theorem se_pre (hx : SE X C W Γ2 e Γ' fr f) (hk : okG C.io Γ2 Γ = true := by rfl) : SE X C W Γ e Γ' fr f := ⟨peImp hx.pe fun σ H Q ⟨hid, ρ, S, q⟩ => by
  obtain ⟨h1, h2, h3⟩ := okG_of hk
  exact ⟨hid, ρ, S.weak h1 h2 h3, PostE.pre (ST.weakStp (K := X.K) (Stp.refl _ _ _) h1) q⟩⟩
theorem ss_pre (hx : SS X C W Γ2 st Γ' Γb fr fs) (hk : okG C.io Γ2 Γ = true := by rfl) : SS X C W Γ st Γ' Γb fr fs := ⟨psImp hx.ps fun Dn σ H ⟨ρ, S, q⟩ => by
  obtain ⟨h1, h2, h3⟩ := okG_of hk
  exact ⟨ρ, S.weak h1 h2 h3, PostS.pre (ST.weakStp (K := X.K) (Stp.refl _ _ _) h1) q⟩⟩
/-- xs[l:u] of a list -/
def cutD (ds : List D) (lo hi : Option Int) : List D := (ds.drop (HT.sIx ds.length 0 lo)).take (HT.sIx ds.length ds.length hi - HT.sIx ds.length 0 lo)
theorem rvs_cut {g : Gx} {H : Hp} {ds : List D} {vs : List V} {lo hi : Option Int} (r : RVs g H ds vs) : RVs g H (cutD ds lo hi) (cutV vs lo hi) := by
  unfold cutD cutV
  rw [r.length]
  exact (r.drop _).take _
def mSliceL (f : Env → R D) (l u : Env → R (Option Int)) : Env → R D := fun ρ => (f ρ).bind fun d ρ1 => match d with
  | .lst ds => (l ρ1).bind fun lo ρ2 => (u ρ2).bind fun hi ρ3 => .ok (.lst (cutD ds lo hi)) ρ3
  | _ => .bad
theorem se_sliceL (ha : SE X C W Γ a Γ1 fr f) (hl : SO X C W Γ1 lo Γ2 l) (hu : SO X C W Γ2 hi Γ3 u) : SE X C W Γ (.Subscript a (.Slice lo hi none p2) pos) Γ3 true (mSliceL f l u) := ⟨peImp (pe_slice sl_list ha.pe hl.po hu.po) fun σ H Q ⟨hid, ρ, S, q⟩ => by
  refine ⟨hid, ρ, S, ?_⟩
  unfold mSliceL at q
  cases q1 : f ρ with
  | bad => rw [q1] at q; exact q
  | exn e ρ' => rw [q1] at q; exact q
  | ok d ρ1 =>
    rw [q1] at q
    dsimp only [R.bind] at q
    intro v H1 tm S1 k1 va t1
    cases d with
    | lst ds =>
      refine ⟨tm ++ hid, ρ1, S1, ?_⟩
      cases q2 : l ρ1 with
      | bad => simp only [q2] at q; exact q
      | exn e ρ' => simp only [q2] at q; exact q
      | ok o1 ρ2 =>
        simp only [q2] at q
        intro H2 S2 k2
        refine ⟨tm ++ hid, ρ2, S2, ?_⟩
        cases q3 : u ρ2 with
        | bad => simp only [q3] at q; exact q
        | exn e ρ' => simp only [q3] at q; exact q
        | ok o2 ρ3 =>
          simp only [q3] at q
          intro H3 S3 k3
          have k23 := k2.trans k3 fun a ha => ha
          have kk := ((Kept.of va).stp (tm' := tm) k23 fun a ha => ha).shal
          have k13 : Stp (Ms σ hid Γ) (Ms σ (tm ++ hid) Γ3) hid H H3 := k1.trans k23 fun a ha => List.mem_append_right _ ha
          cases kk with
          | lst hs r => exact ⟨_, _, rfl, hs, fun z hz => fin_fr q S.sub S3 k13 z _ hz (.lst upd_same (rvs_cut r))⟩
    | _ => exact (show False from q).elim⟩
end
section
variable {E : Ex → Env → Prop} {i j n : Nat} {ρ : Env} {d x y z : D} {f h k : Env → R D} {g : Env → R (List D)} {P : D → Env → Prop} {PS : Fl → Env → Prop}
theorem w_sliceL {l u : Env → R (Option Int)} (w : wpx E (f ρ) fun d ρ1 => ∃ ds, d = .lst ds ∧ wpx E (l ρ1) fun lo ρ2 => wpx E (u ρ2) fun hi ρ3 => P (.lst (cutD ds lo hi)) ρ3) : wpx E (mSliceL f l u ρ) P := wp_bind (wp_imp w fun d ρ1 ⟨s, e, w1⟩ => by
  subst e
  exact wp_bind (wp_imp w1 fun lo ρ2 w2 => wp_bind w2))
theorem w_raise1 {c fn : Str} (w : wpx E (f ρ) fun d ρ1 => E ⟨c, some (fn, d)⟩ ρ1) : wpx E (mRaise1 c fn f ρ) PS := wp_bind w
theorem w_tryF {l : List ClF} {fs : Env → R Fl} (w : wpx (fun e ρ1 => wpx E (pickF l e ρ1) PS) (fs ρ) fun fl ρ1 => fl = .nx ∧ PS .nx ρ1) : wpx E (mTryF l fs ρ) PS := by
  unfold mTryF
  cases q : fs ρ with
  | bad => rw [q] at w; exact w
  | exn e ρ1 => rw [q] at w; exact w
  | ok fl ρ1 =>
    rw [q] at w
    obtain ⟨rfl, w⟩ := w
    exact w
end
end Ip
namespace Ip
open PySem L2
theorem room0 {k : Nat} {A : Around} (r : Room k A) : A.units < cLine := by have := r.un; omega
theorem no_laterF {K : PySem.W.Frag} {c : Addr} : ∀ u ∈ ([] : List TF), PySem.W.exmOne K (.ref u.Cc) (.ref c) = some false := fun _ z => nomatch z
theorem one_laterF {K : PySem.W.Frag} {c : Addr} {t : TF} {r : List TF} (h : PySem.W.exmOne K (.ref t.Cc) (.ref c) = some false) (hr : ∀ u ∈ r, PySem.W.exmOne K (.ref u.Cc) (.ref c) = some false) : ∀ u ∈ t :: r, PySem.W.exmOne K (.ref u.Cc) (.ref c) = some false := fun u hu => by
  rcases List.mem_cons.mp hu with rfl | hu
  · exact h
  · exact hr u hu
end Ip
set_option maxHeartbeats 4000000
namespace Wk05
open PySem L2 PySem.Spec PyProof.Rows Ip
/-! ## the text -/
def top (i : Nat) : Stmt := PySem.Challenge.pw_madeanew_k05_worth.main.body.getD i (.Pass ⟨0, 0, 0, 0⟩)
structure Blt (mg : Str → Option Value) : Prop where
  n_abs : mg "abs" = none
  n_bool : mg "bool" = none
  n_int : mg "int" = none
  n_isinstance : mg "isinstance" = none
  n_len : mg "len" = none
  n_list : mg "list" = none
  n_range : mg "range" = none
  n_sorted : mg "sorted" = none
  n_sum : mg "sum" = none
  n_tuple : mg "tuple" = none
  n_zip : mg "zip" = none
/-! ### _law_hand -/
abbrev s_law_hand : Stmt := top 25
abbrev N_law_hand : List Str := ["_law_script", "_law_cells", "_law_cell"]
abbrev P_law_hand : List Str := ["_law_script"]
def m_law_hand : Ip.Env → R Fl := (mSeq (mSetO 1 (mLc (mSeqI (mCutL 63 (mVar 0))) (gNm 2) mYes (mArg oInt (mCons (mVar 2) mNil)) [2])) (mRet (mLst (mCons (mVar 1) (mCons (mC (.int 0)) (mCons (mC (.int 0)) (mCons (mC (.int 0)) (mCons (m2 modD (mPair (mArg oSum (mCons (mSliceL (mVar 1) mONone (mOSome (mC (.int 1)))) mNil)) (mC (.int 1000003)))) (mCons (mC (.int 0)) mNil)))))))))
def F_law_hand : FSem := fnSem 3 [] m_law_hand
/-! ### _law_mixed -/
abbrev s_law_mixed : Stmt := top 26
abbrev N_law_mixed : List Str := ["_law_number_here", "_law_count", "_law_one"]
abbrev P_law_mixed : List Str := ["_law_number_here", "_law_count"]
def m_law_mixed : Ip.Env → R Fl := (mSeq (mSet 2 (m2 modD (mPair (mArg oInt (mCons (m2 powD (mPair (m2 addD (mPair (m2 addD (mPair (m2 modD (mPair (mArg oInt (mCons (mVar 0) mNil)) (mC (.int 2147483647)))) (m2 mulD (mPair (mC (.int 7919)) (mVar 1))))) (mC (.int 1)))) (mC (.int 5)))) mNil)) (mC (.int 2147483647))))) (mRet (m2 modD (mPair (mArg oInt (mCons (m2 addD (mPair (m2 mulD (mPair (mVar 2) (m2 addD (mPair (m2 fdivD (mPair (mVar 2) (mC (.int 1009)))) (mC (.int 69621)))))) (m2 mulD (mPair (mC (.int 40692)) (mVar 1))))) mNil)) (mC (.int 2147483629))))))
def F_law_mixed : FSem := fnSem 3 [] m_law_mixed
/-! ### _law_draw -/
abbrev s_law_draw : Stmt := top 27
abbrev N_law_draw : List Str := ["_law_hand_here", "_law_many", "_law_cell", "_law_digit"]
abbrev P_law_draw : List Str := ["_law_hand_here", "_law_many"]
def m_law_draw : Ip.Env → R Fl := (mSeq (mAsg (m2 addD (mPair (m2 ixD (mPairO 0 (mC (.int 3)))) (mC (.int 1)))) (gIx 0 (mC (.int 3)))) (mSeq (mIfS (mTest (m2 geD (mPair (m2 ixD (mPairO 0 (mC (.int 1)))) (mArg oLen (mCons (m2 ixD (mPairO 0 (mC (.int 0)))) mNil))))) (mRet (m2 modD (mPair (mCall0 F_law_mixed (mCons (m2 ixD (mPairO 0 (mC (.int 4)))) (mCons (m2 ixD (mPairO 0 (mC (.int 3)))) mNil))) (mVar 1)))) mNx) (mSeq (mSet 2 (m2 ixD (mPair (m2 ixD (mPairO 0 (mC (.int 0)))) (m2 ixD (mPairO 0 (mC (.int 1))))))) (mSeq (mIfS (mTest (m2 ltD (mPair (mArg oAbs (mCons (mVar 2) mNil)) (m2 powD (mPair (mC (.int 10)) (mC (.int 18))))))) (mSeq (mAsg (m2 addD (mPair (m2 ixD (mPairO 0 (mC (.int 2)))) (mC (.int 1)))) (gIx 0 (mC (.int 2)))) (mSeq (mIfS (mTest (m2 geD (mPair (m2 ixD (mPairO 0 (mC (.int 2)))) (mC (.int 5))))) (mSeq (mAsg (m2 addD (mPair (m2 ixD (mPairO 0 (mC (.int 1)))) (mC (.int 1)))) (gIx 0 (mC (.int 1)))) (mAsg (mC (.int 0)) (gIx 0 (mC (.int 2))))) mNx) (mRet (m2 modD (mPair (mCall0 F_law_mixed (mCons (mVar 2) (mCons (m2 ixD (mPairO 0 (mC (.int 3)))) mNil))) (mVar 1)))))) mNx) (mSeq (mIfS (mTest (m2 eqD (mPair (m2 ixD (mPairO 0 (mC (.int 2)))) (mC (.int 0))))) (mSeq (mAsg (mC (.int 1)) (gIx 0 (mC (.int 2)))) (mAsg (mArg oAbs (mCons (mVar 2) mNil)) (gIx 0 (mC (.int 5))))) mNx) (mSeq (mSet 3 (m2 modD (mPair (mArg oInt (mCons (m2 ixD (mPairO 0 (mC (.int 5)))) mNil)) (mVar 1)))) (mSeq (mAsg (m2 fdivD (mPair (m2 ixD (mPairO 0 (mC (.int 5)))) (mVar 1))) (gIx 0 (mC (.int 5)))) (mSeq (mIfS (mTest (m2 eqD (mPair (m2 ixD (mPairO 0 (mC (.int 5)))) (mC (.int 0))))) (mSeq (mAsg (m2 addD (mPair (m2 ixD (mPairO 0 (mC (.int 1)))) (mC (.int 1)))) (gIx 0 (mC (.int 1)))) (mAsg (mC (.int 0)) (gIx 0 (mC (.int 2))))) mNx) (mRet (mVar 3))))))))))
def F_law_draw : FSem := fnSem 4 [0] m_law_draw
/-! ### _law_number -/
abbrev s_law_number : Stmt := top 28
abbrev N_law_number : List Str := ["_law_hand_here", "_law_kind", "_law_number_here"]
abbrev P_law_number : List Str := ["_law_hand_here"]
def m_law_number : Ip.Env → R Fl := (mSeq (mSet 1 (mCall1 F_law_draw 0 0 (mIo (mCons (mC (.int 4)) mNil)))) (mSeq (mIfS (mTest (m2 ltD (mPair (mVar 1) (mC (.int 2))))) (mRet (m2 subD (mPair (mCall1 F_law_draw 0 0 (mIo (mCons (mC (.int 7)) mNil))) (mC (.int 3))))) mNx) (mSeq (mIfS (mTest (m2 eqD (mPair (mVar 1) (mC (.int 2))))) (mRet (m2 subD (mPair (mCall1 F_law_draw 0 0 (mIo (mCons (mC (.int 2001)) mNil))) (mC (.int 1000))))) mNx) (mSeq (mSet 2 (m2 addD (mPair (m2 mulD (mPair (mCall1 F_law_draw 0 0 (mIo (mCons (m2 powD (mPair (mC (.int 10)) (mC (.int 20)))) mNil))) (m2 powD (mPair (mC (.int 10)) (mC (.int 20)))))) (mCall1 F_law_draw 0 0 (mIo (mCons (m2 powD (mPair (mC (.int 10)) (mC (.int 20)))) mNil)))))) (mRet (m2 subD (mPair (mVar 2) (m2 mulD (mPair (m2 mulD (mPair (mC (.int 2)) (mVar 2))) (mCall1 F_law_draw 0 0 (mIo (mCons (mC (.int 2)) mNil))))))))))))
def F_law_number : FSem := fnSem 3 [0] m_law_number
/-! ### _law_tidy -/
abbrev s_law_tidy : Stmt := top 29
abbrev N_law_tidy : List Str := ["_law_terms", "_law_order", "_law_exponents", "_law_pair"]
abbrev P_law_tidy : List Str := ["_law_terms"]
def m_law_tidy : Ip.Env → R Fl := (mSeq (mSet 1 (mArg (oSortD true) (mCons (mLockE 0 (mLc (mKeysT 0) (gNm 2) (mTest (m2 neD (mPair (m2 dgetT (mPair (mVar 0) (mVar 2))) (mC (.int 0))))) (mTup (mCons (mArg oSumT (mCons (mVar 2) mNil)) (mCons (mVar 2) mNil))) [2])) mNil))) (mRet (mArg oTup (mCons (mLc (mSeqI (mVar 1)) (gNm 3) mYes (mTup (mCons (m2 dgetT (mPair (mVar 0) (m2 ixD (mPair (mVar 3) (mC (.int 1)))))) (mCons (m2 ixD (mPair (mVar 3) (mC (.int 1)))) mNil))) [3]) mNil))))
def F_law_tidy : FSem := fnSem 4 [] m_law_tidy
/-! ### _law_poly -/
abbrev s_law_poly : Stmt := top 30
abbrev N_law_poly : List Str := ["_law_hand_here", "_law_n", "_law_most", "_law_high", "_law_terms", "_law_k", "_law_exponents", "_law_place"]
abbrev P_law_poly : List Str := ["_law_hand_here", "_law_n", "_law_most", "_law_high"]
def m_law_poly : Ip.Env → R Fl := (mSeq (mSetO 4 (mC (.dit [] []))) (mSeq (mFor (mArgI asR1 (mCons (mCall1 F_law_draw 0 0 (mIo (mCons (m2 addD (mPair (mVar 2) (mC (.int 1)))) mNil))) mNil)) (gNm 5) (mSeq (mSet 6 (mArg oTup (mCons (mLc (mArgI asR1 (mCons (mVar 1) mNil)) (gNm 7) mYes (mCall1 F_law_draw 0 0 (mIo (mCons (m2 addD (mPair (mVar 3) (mC (.int 1)))) mNil))) [7]) mNil))) (mAsg (mCall1 F_law_number 0 0 (mIo mNil)) (gDt 4 (mVar 6))))) (mRet (mCall0 F_law_tidy (mCons (mVar 4) mNil)))))
def F_law_poly : FSem := fnSem 8 [0] m_law_poly
/-! ### is_integer -/
abbrev s_is_integer : Stmt := top 5
abbrev N_is_integer : List Str := ["thing"]
abbrev P_is_integer : List Str := ["thing"]
def m_is_integer : Ip.Env → R Fl := (mRet (mAndV (mUn (isiD "int") (mVar 0)) (mNotV (mUn (isiD "bool") (mVar 0)))))
def F_is_integer : FSem := fnSem 1 [] m_is_integer
/-! ### term_size -/
abbrev s_term_size : Stmt := top 9
abbrev N_term_size : List Str := ["thing", "coefficient", "exponents", "exponent"]
abbrev P_term_size : List Str := ["thing"]
def m_term_size : Ip.Env → R Fl := (mSeq (mIfS (mOr (mNot (mTest (mUn (isiD "tuple") (mVar 0)))) (mTest (m2 neD (mPair (mArg oLen (mCons (mVar 0) mNil)) (mC (.int 2)))))) (mRet (mUn negD (mC (.int 1)))) mNx) (mSeq (mAsg (mVar 0) (gTp 2 (gsCons (gNm 1) (gsCons (gNm 2) gsNil)))) (mSeq (mIfS (mOr (mNot (mTest (mCall0 F_is_integer (mCons (mVar 1) mNil)))) (mTest (m2 eqD (mPair (mVar 1) (mC (.int 0)))))) (mRet (mUn negD (mC (.int 1)))) mNx) (mSeq (mIfS (mOr (mNot (mTest (mUn (isiD "tuple") (mVar 2)))) (mNot (mTest (mChain leD leD (mC (.int 1)) (mArg oLen (mCons (mVar 2) mNil)) (mC (.int 40)))))) (mRet (mUn negD (mC (.int 1)))) mNx) (mSeq (mFor (mSeqI (mVar 2)) (gNm 3) (mIfS (mOr (mNot (mTest (mCall0 F_is_integer (mCons (mVar 3) mNil)))) (mTest (m2 ltD (mPair (mVar 3) (mC (.int 0)))))) (mRet (mUn negD (mC (.int 1)))) mNx)) (mRet (mArg oLen (mCons (mVar 2) mNil))))))))
def F_term_size : FSem := fnSem 4 [] m_term_size
/-! ### degree_key -/
abbrev s_degree_key : Stmt := top 8
abbrev N_degree_key : List Str := ["exponents"]
abbrev P_degree_key : List Str := ["exponents"]
def m_degree_key : Ip.Env → R Fl := (mRet (mTup (mCons (mArg oSumT (mCons (mVar 0) mNil)) (mCons (mVar 0) mNil))))
def F_degree_key : FSem := fnSem 1 [] m_degree_key
/-! ### poly_size -/
abbrev s_poly_size : Stmt := top 10
abbrev N_poly_size : List Str := ["thing", "size", "ahead", "term", "many", "key"]
abbrev P_poly_size : List Str := ["thing"]
def m_poly_size : Ip.Env → R Fl := (mSeq (mIfS (mNot (mTest (mUn (isiD "tuple") (mVar 0)))) (mRet (mUn negD (mC (.int 1)))) mNx) (mSeq (mSet 1 (mC (.int 0))) (mSeq (mSet 2 (mC .non)) (mSeq (mFor (mSeqI (mVar 0)) (gNm 3) (mSeq (mSet 4 (mCall0 F_term_size (mCons (mVar 3) mNil))) (mSeq (mIfS (mOr (mTest (m2 ltD (mPair (mVar 4) (mC (.int 0))))) (mTest (m2 notInID (mPair (mVar 1) (mTup (mCons (mC (.int 0)) (mCons (mVar 4) mNil))))))) (mRet (mUn negD (mC (.int 1)))) mNx) (mSeq (mSet 5 (mCall0 F_degree_key (mCons (m2 ixD (mPair (mVar 3) (mC (.int 1)))) mNil))) (mSeq (mIfS (mAnd (mTest (m2 isNotNoneD (mPair (mVar 2) (mC .non)))) (mNot (mTest (m2 ltXD (mPair (mVar 5) (mVar 2)))))) (mRet (mUn negD (mC (.int 1)))) mNx) (mSeq (mSet 1 (mVar 4)) (mSet 2 (mVar 5)))))))) (mRet (mVar 1))))))
def F_poly_size : FSem := fnSem 6 [] m_poly_size
/-! ### check_poly -/
abbrev s_check_poly : Stmt := top 18
abbrev N_check_poly : List Str := ["p", "index", "many"]
abbrev P_check_poly : List Str := ["p", "index"]
def m_check_poly : Ip.Env → R Fl := (mSeq (mSet 2 (mCall0 F_poly_size (mCons (mVar 0) mNil))) (mSeq (mIfS (mTest (m2 ltD (mPair (mVar 2) (mC (.int 0))))) (mRaise1 "NoPolynomial" "index" (mVar 1)) mNx) (mRet (mVar 2))))
def F_check_poly : FSem := fnSem 3 [] m_check_poly
/-! ### fits_many -/
abbrev s_fits_many : Stmt := top 22
abbrev N_fits_many : List Str := ["count", "many"]
abbrev P_fits_many : List Str := ["count", "many"]
def m_fits_many : Ip.Env → R Fl := (mSeq (mIfS (mTest (m2 eqD (mPair (mVar 1) (mC (.int 0))))) (mRet (mChain leD leD (mC (.int 1)) (mVar 0) (mC (.int 40)))) mNx) (mRet (m2 eqD (mPair (mVar 0) (mVar 1)))))
def F_fits_many : FSem := fnSem 2 [] m_fits_many
/-! ### power -/
abbrev s_power : Stmt := top 16
abbrev N_power : List Str := ["number", "exponent", "result", "square"]
abbrev P_power : List Str := ["number", "exponent"]
def m_power : Ip.Env → R Fl := (mSeq (mSet 2 (mC (.int 1))) (mSeq (mSet 3 (mVar 0)) (mSeq (mWhile (fuelI 1) (mTest (m2 gtD (mPair (mVar 1) (mC (.int 0))))) (mSeq (mIfS (mTest (m2 eqD (mPair (m2 andD (mPair (mVar 1) (mC (.int 1)))) (mC (.int 1))))) (mSet 2 (m2 mulD (mPair (mVar 2) (mVar 3)))) mNx) (mSeq (mSet 1 (m2 shrD (mPair (mVar 1) (mC (.int 1))))) (mIfS (mTest (m2 gtD (mPair (mVar 1) (mC (.int 0))))) (mSet 3 (m2 mulD (mPair (mVar 3) (mVar 3)))) mNx)))) (mRet (mVar 2)))))
def F_power : FSem := fnSem 4 [] m_power
/-! ### value -/
abbrev s_value : Stmt := top 17
abbrev N_value : List Str := ["p", "values", "total", "coefficient", "exponents", "part", "number", "exponent"]
abbrev P_value : List Str := ["p", "values"]
def m_value : Ip.Env → R Fl := (mSeq (mSet 2 (mC (.int 0))) (mSeq (mFor (mSeqI (mVar 0)) (gTp 2 (gsCons (gNm 3) (gsCons (gNm 4) gsNil))) (mSeq (mSet 5 (mVar 3)) (mSeq (mFor (mZip (mCons (mVar 1) (mCons (mVar 4) mNil))) (gTp 2 (gsCons (gNm 6) (gsCons (gNm 7) gsNil))) (mIfS (mTest (m2 gtD (mPair (mVar 7) (mC (.int 0))))) (mSet 5 (m2 mulD (mPair (mVar 5) (mCall0 F_power (mCons (mVar 6) (mCons (mVar 7) mNil)))))) mNx)) (mSet 2 (m2 addD (mPair (mVar 2) (mVar 5))))))) (mRet (mVar 2))))
def F_value : FSem := fnSem 8 [] m_value
/-! ### worth -/
abbrev s_worth : Stmt := top 23
abbrev N_worth : List Str := ["p", "values", "many", "number"]
abbrev P_worth : List Str := ["p", "values"]
def m_worth : Ip.Env → R Fl := (mSeq (mSet 2 (mCall0 F_check_poly (mCons (mVar 0) (mCons (mC (.int 0)) mNil)))) (mSeq (mIfS (mOr (mNot (mTest (mUn (isiD "list") (mVar 1)))) (mNot (mTest (mCall0 F_fits_many (mCons (mArg oLen (mCons (mVar 1) mNil)) (mCons (mVar 2) mNil)))))) (mRaise "NoValues") mNx) (mSeq (mFor (mSeqI (mVar 1)) (gNm 3) (mIfS (mNot (mTest (mCall0 F_is_integer (mCons (mVar 3) mNil)))) (mRaise "NoValues") mNx)) (mRet (mCall0 F_value (mCons (mVar 0) (mCons (mVar 1) mNil)))))))
def F_worth : FSem := fnSem 4 [] m_worth
/-! ### _law_whole -/
abbrev s_law_whole : Stmt := top 31
abbrev N_law_whole : List Str := ["_law_thing"]
abbrev P_law_whole : List Str := ["_law_thing"]
def m_law_whole : Ip.Env → R Fl := (mRet (mAndV (mUn (isiD "int") (mVar 0)) (mNotV (mUn (isiD "bool") (mVar 0)))))
def F_law_whole : FSem := fnSem 1 [] m_law_whole
/-! ### _law_worth -/
abbrev s_law_worth : Stmt := top 32
abbrev N_law_worth : List Str := ["_law_p", "_law_values", "_law_total", "_law_term", "_law_part", "_law_k", "_law_step"]
abbrev P_law_worth : List Str := ["_law_p", "_law_values"]
def m_law_worth : Ip.Env → R Fl := (mSeq (mSet 2 (mC (.int 0))) (mSeq (mFor (mSeqI (mVar 0)) (gNm 3) (mSeq (mSet 4 (m2 ixD (mPair (mVar 3) (mC (.int 0))))) (mSeq (mFor (mArgI asR1 (mCons (mArg oLen (mCons (m2 ixD (mPair (mVar 3) (mC (.int 1)))) mNil)) mNil)) (gNm 5) (mFor (mArgI asR1 (mCons (m2 ixD (mPair (m2 ixD (mPair (mVar 3) (mC (.int 1)))) (mVar 5))) mNil)) (gNm 6) (mSet 4 (m2 mulD (mPair (mVar 4) (m2 ixD (mPair (mVar 1) (mVar 5)))))))) (mSet 2 (m2 addD (mPair (mVar 2) (mVar 4))))))) (mRet (mVar 2))))
def F_law_worth : FSem := fnSem 7 [] m_law_worth
/-! ### check_two -/
abbrev s_check_two : Stmt := top 19
abbrev N_check_two : List Str := ["p", "q", "many", "more"]
abbrev P_check_two : List Str := ["p", "q"]
def m_check_two : Ip.Env → R Fl := (mSeq (mSet 2 (mCall0 F_check_poly (mCons (mVar 0) (mCons (mC (.int 0)) mNil)))) (mSeq (mSet 3 (mCall0 F_check_poly (mCons (mVar 1) (mCons (mC (.int 1)) mNil)))) (mIfS (mAnd (mTest (m2 neD (mPair (mVar 2) (mC (.int 0))))) (mAnd (mTest (m2 neD (mPair (mVar 3) (mC (.int 0))))) (mTest (m2 neD (mPair (mVar 2) (mVar 3)))))) (mRaise1 "NoPolynomial" "index" (mC (.int 1))) mNx)))
def F_check_two : FSem := fnSem 4 [] m_check_two
/-! ### as_dict -/
abbrev s_as_dict : Stmt := top 11
abbrev N_as_dict : List Str := ["p", "coefficient", "exponents"]
abbrev P_as_dict : List Str := ["p"]
def m_as_dict : Ip.Env → R Fl := (mRet (mDcT (mSeqI (mVar 0)) (gTp 2 (gsCons (gNm 1) (gsCons (gNm 2) gsNil))) mYes (mVar 2) (mVar 1) [1, 2]))
def F_as_dict : FSem := fnSem 3 [] m_as_dict
/-! ### as_poly -/
abbrev s_as_poly : Stmt := top 12
abbrev N_as_poly : List Str := ["terms", "order", "exponents"]
abbrev P_as_poly : List Str := ["terms"]
def m_as_poly : Ip.Env → R Fl := (mSeq (mSet 1 (mArg (oSortK F_degree_key true) (mCons (mArg oListDT (mCons (mVar 0) mNil)) mNil))) (mRet (mArg oTup (mCons (mLc (mSeqI (mVar 1)) (gNm 2) (mTest (m2 neD (mPair (m2 dgetT (mPair (mVar 0) (mVar 2))) (mC (.int 0))))) (mTup (mCons (m2 dgetT (mPair (mVar 0) (mVar 2))) (mCons (mVar 2) mNil))) [2]) mNil))))
def F_as_poly : FSem := fnSem 3 [] m_as_poly
/-! ### added_polys -/
abbrev s_added_polys : Stmt := top 13
abbrev N_added_polys : List Str := ["p", "q", "terms", "coefficient", "exponents"]
abbrev P_added_polys : List Str := ["p", "q"]
def m_added_polys : Ip.Env → R Fl := (mSeq (mSetO 2 (mCall0 F_as_dict (mCons (mVar 0) mNil))) (mSeq (mFor (mSeqI (mVar 1)) (gTp 2 (gsCons (gNm 3) (gsCons (gNm 4) gsNil))) (mAsg (m2 addD (mPair (mGetT 2 (mVar 4) (mC (.int 0))) (mVar 3))) (gDt 2 (mVar 4)))) (mRet (mCall0 F_as_poly (mCons (mVar 2) mNil)))))
def F_added_polys : FSem := fnSem 5 [] m_added_polys
/-! ### plus -/
abbrev s_plus : Stmt := top 20
abbrev N_plus : List Str := ["p", "q"]
abbrev P_plus : List Str := ["p", "q"]
def m_plus : Ip.Env → R Fl := (mSeq (mDrop (mCall0 F_check_two (mCons (mVar 0) (mCons (mVar 1) mNil)))) (mRet (mCall0 F_added_polys (mCons (mVar 0) (mCons (mVar 1) mNil)))))
def F_plus : FSem := fnSem 2 [] m_plus
/-! ### dict_product -/
abbrev s_dict_product : Stmt := top 14
abbrev N_dict_product : List Str := ["one", "other", "terms", "left", "first", "right", "second", "exponents", "x", "y"]
abbrev P_dict_product : List Str := ["one", "other"]
def m_dict_product : Ip.Env → R Fl := (mSeq (mSetO 2 (mC (.dit [] []))) (mSeq (mLockS 0 (mFor (mItemsT 0) (gTp 2 (gsCons (gNm 3) (gsCons (gNm 4) gsNil))) (mLockS 1 (mFor (mItemsT 1) (gTp 2 (gsCons (gNm 5) (gsCons (gNm 6) gsNil))) (mSeq (mSet 7 (mArg oTup (mCons (mLc (mZipT (mCons (mVar 3) (mCons (mVar 5) mNil))) (gTp 2 (gsCons (gNm 8) (gsCons (gNm 9) gsNil))) mYes (m2 addD (mPair (mVar 8) (mVar 9))) [8, 9]) mNil))) (mAsg (m2 addD (mPair (mGetT 2 (mVar 7) (mC (.int 0))) (m2 mulD (mPair (mVar 4) (mVar 6))))) (gDt 2 (mVar 7)))))))) (mRet (mLockE 2 (mDcT (mKeysT 2) (gNm 7) (mTest (m2 neD (mPair (m2 dgetT (mPair (mVar 2) (mVar 7))) (mC (.int 0))))) (mVar 7) (m2 dgetT (mPair (mVar 2) (mVar 7))) [7])))))
def F_dict_product : FSem := fnSem 10 [] m_dict_product
/-! ### product -/
abbrev s_product : Stmt := top 15
abbrev N_product : List Str := ["p", "q"]
abbrev P_product : List Str := ["p", "q"]
def m_product : Ip.Env → R Fl := (mRet (mCall0 F_as_poly (mCons (mCall0 F_dict_product (mCons (mCall0 F_as_dict (mCons (mVar 0) mNil)) (mCons (mCall0 F_as_dict (mCons (mVar 1) mNil)) mNil))) mNil)))
def F_product : FSem := fnSem 2 [] m_product
/-! ### times -/
abbrev s_times : Stmt := top 21
abbrev N_times : List Str := ["p", "q"]
abbrev P_times : List Str := ["p", "q"]
def m_times : Ip.Env → R Fl := (mSeq (mDrop (mCall0 F_check_two (mCons (mVar 0) (mCons (mVar 1) mNil)))) (mRet (mCall0 F_product (mCons (mVar 0) (mCons (mVar 1) mNil)))))
def F_times : FSem := fnSem 2 [] m_times
/-! ### _law_bad -/
abbrev s_law_bad : Stmt := top 34
abbrev N_law_bad : List Str := ["_law_hand_here", "_law_values", "_law_kind", "_law_spoiled", "_law_number_here"]
abbrev P_law_bad : List Str := ["_law_hand_here", "_law_values"]
def m_law_bad : Ip.Env → R Fl := (mSeq (mSet 2 (mCall1 F_law_draw 0 0 (mIo (mCons (mC (.int 7)) mNil)))) (mSeq (mIfS (mTest (m2 eqD (mPair (mVar 2) (mC (.int 0))))) (mRet (m2 catD (mPair (mVar 1) (mLst (mCons (mC (.int 1)) mNil))))) mNx) (mSeq (mIfS (mTest (m2 eqD (mPair (mVar 2) (mC (.int 1))))) (mRet (mSliceL (mVar 1) (mOSome (mC (.int 1))) mONone)) mNx) (mSeq (mIfS (mTest (m2 eqD (mPair (mVar 2) (mC (.int 2))))) (mRet (mArg oTup (mCons (mVar 1) mNil))) mNx) (mSeq (mIfS (mTest (m2 eqD (mPair (mVar 2) (mC (.int 3))))) (mRet (mC .non)) mNx) (mSeq (mSetO 3 (mLc (mSeqI (mVar 1)) (gNm 4) mYes (mVar 4) [4])) (mSeq (mAsg (m2 ixD (mPair (mLst (mCons (mC (.bl true)) (mCons (mC .non) (mCons (mC (.str "1")) mNil)))) (m2 subD (mPair (mVar 2) (mC (.int 4)))))) (gIx 3 (mCall1 F_law_draw 0 0 (mIo (mCons (mArg oLen (mCons (mVar 1) mNil)) mNil))))) (mRet (mVar 3)))))))))
def F_law_bad : FSem := fnSem 5 [0] m_law_bad
/-! ### _law_asked -/
abbrev s_law_asked : Stmt := top 33
abbrev N_law_asked : List Str := ["_law_p", "_law_values", "_law_index", "_law_told", "_law_word", "e"]
abbrev P_law_asked : List Str := ["_law_p", "_law_values"]
def m_law_asked : Ip.Env → R Fl := (mSeq (mSet 2 (mC .non)) (mSeq (mSet 3 (mC .non)) (mSeq (mSet 4 (mC (.str "told"))) (mSeq (mTryF [("NoValues", none, [(4, .c (.str "values"))]), ("NoPolynomial", some 5, [(4, .c (.str "polynomial")), (2, .f "index")])] (mSet 3 (mCall0 F_worth (mCons (mVar 0) (mCons (mVar 1) mNil))))) (mRet (mTup (mCons (mVar 4) (mCons (mVar 3) (mCons (mVar 2) mNil)))))))))
def F_law_asked : FSem := fnSem 6 [] m_law_asked
/-! ### law -/
abbrev s_law : Stmt := top 35
abbrev N_law : List Str := ["_law_script", "_law_hand_here", "_law_n", "_law_high", "_law_most", "_law_p", "_law_q", "_law_values", "_law_kept", "_law_one", "_law_other", "_law_bad_here", "_law_count", "_law_due", "_law_k", "_law_number_here"]
abbrev P_law : List Str := ["_law_script"]
def m_law : Ip.Env → R Fl := (mSeq (mSetO 1 (mCall0 F_law_hand (mCons (mVar 0) mNil))) (mSeq (mSet 2 (m2 addD (mPair (mC (.int 1)) (mCall1 F_law_draw 0 1 (mIo (mCons (mC (.int 3)) mNil)))))) (mSeq (mSet 3 (mC (.int 3))) (mSeq (mIfS (mTest (m2 eqD (mPair (mCall1 F_law_draw 0 1 (mIo (mCons (mC (.int 8)) mNil))) (mC (.int 5))))) (mSet 3 (mC (.int 60))) mNx) (mSeq (mSet 4 (mC (.int 5))) (mSeq (mIfS (mTest (m2 eqD (mPair (mCall1 F_law_draw 0 1 (mIo (mCons (mC (.int 16)) mNil))) (mC (.int 7))))) (mSeq (mSet 2 (m2 subD (mPair (mC (.int 40)) (mCall1 F_law_draw 0 1 (mIo (mCons (mC (.int 28)) mNil)))))) (mSeq (mSet 4 (mC (.int 2))) (mSet 3 (mC (.int 1))))) mNx) (mSeq (mSet 5 (mCall1 F_law_poly 0 1 (mIo (mCons (mVar 2) (mCons (mVar 4) (mCons (mVar 3) mNil)))))) (mSeq (mSet 6 (mCall1 F_law_poly 0 1 (mIo (mCons (mVar 2) (mCons (mVar 4) (mCons (mVar 3) mNil)))))) (mSeq (mIfS (mTest (m2 eqD (mPair (mVar 5) (mTup mNil)))) (mSet 5 (mTup (mCons (mTup (mCons (mC (.int 3)) (mCons (mArg oTup (mCons (mLc (mArgI asR1 (mCons (mVar 2) mNil)) (gNm 14) mYes (mC (.int 1)) [14]) mNil)) mNil))) mNil))) mNx) (mSeq (mSetO 7 (mLc (mArgI asR1 (mCons (mVar 2) mNil)) (gNm 14) mYes (mCall1 F_law_number 0 1 (mIo mNil)) [14])) (mSeq (mSetO 8 (mLc (mSeqI (mVar 7)) (gNm 15) mYes (mVar 15) [15])) (mSeq (mSet 9 (mCall0 F_worth (mCons (mVar 5) (mCons (mVar 7) mNil)))) (mSeq (mSet 10 (mCall0 F_worth (mCons (mVar 6) (mCons (mVar 7) mNil)))) (mSeq (mIfS (mOr (mNot (mTest (mCall0 F_law_whole (mCons (mVar 9) mNil)))) (mOr (mNot (mTest (mCall0 F_law_whole (mCons (mVar 10) mNil)))) (mTest (m2 neD (mPair (mVar 7) (mVar 8)))))) (mRet (mC (.bl false))) mNx) (mSeq (mIfS (mOr (mTest (m2 neD (mPair (mVar 9) (mCall0 F_law_worth (mCons (mVar 5) (mCons (mVar 8) mNil)))))) (mTest (m2 neD (mPair (mVar 10) (mCall0 F_law_worth (mCons (mVar 6) (mCons (mVar 8) mNil))))))) (mRet (mC (.bl false))) mNx) (mSeq (mIfS (mOr (mTest (m2 neD (mPair (mCall0 F_worth (mCons (mCall0 F_plus (mCons (mVar 5) (mCons (mVar 6) mNil))) (mCons (mVar 7) mNil))) (m2 addD (mPair (mVar 9) (mVar 10)))))) (mTest (m2 neD (mPair (mCall0 F_worth (mCons (mCall0 F_times (mCons (mVar 5) (mCons (mVar 6) mNil))) (mCons (mVar 7) mNil))) (m2 mulD (mPair (mVar 9) (mVar 10))))))) (mRet (mC (.bl false))) mNx) (mSeq (mSet 11 (mCall1 F_law_bad 0 1 (mIo (mCons (mVar 8) mNil)))) (mSeq (mIfS (mOr (mTest (m2 neD (mPair (mCall0 F_law_asked (mCons (mVar 5) (mCons (mVar 11) mNil))) (mTup (mCons (mC (.str "values")) (mCons (mC .non) (mCons (mC .non) mNil))))))) (mTest (m2 neD (mPair (mCall0 F_law_asked (mCons (mLst (mCons (mVar 5) mNil)) (mCons (mVar 11) mNil))) (mTup (mCons (mC (.str "polynomial")) (mCons (mC .non) (mCons (mC (.int 0)) mNil)))))))) (mRet (mC (.bl false))) mNx) (mSeq (mIfS (mOr (mTest (m2 neD (mPair (mCall0 F_law_asked (mCons (mVar 5) (mCons (mVar 7) mNil))) (mTup (mCons (mC (.str "told")) (mCons (mVar 9) (mCons (mC .non) mNil))))))) (mTest (m2 neD (mPair (mVar 7) (mVar 8))))) (mRet (mC (.bl false))) mNx) (mSeq (mSet 12 (mCall1 F_law_draw 0 1 (mIo (mCons (mC (.int 43)) mNil)))) (mSeq (mSet 13 (mTup (mCons (mC (.str "values")) (mCons (mC .non) (mCons (mC .non) mNil))))) (mSeq (mIfS (mTest (mChain leD leD (mC (.int 1)) (mVar 12) (mC (.int 40)))) (mSet 13 (mTup (mCons (mC (.str "told")) (mCons (mC (.int 0)) (mCons (mC .non) mNil))))) mNx) (mRet (m2 eqD (mPair (mCall0 F_law_asked (mCons (mTup mNil) (mCons (mLc (mArgI asR1 (mCons (mVar 12) mNil)) (gNm 14) mYes (mCall1 F_law_draw 0 1 (mIo (mCons (mC (.int 5)) mNil))) [14]) mNil))) (mVar 13))))))))))))))))))))))))))
def F_law : FSem := fnSem 16 [] m_law
end Wk05
set_option maxHeartbeats 0
namespace Wk05
open PySem L2 PySem.Spec PyProof.Rows Ip
abbrev FILE : Str := "/claim/cut.py"
/-! ## the head -/
def d_law_hand : He.DefD := ⟨("_law_hand", none), "_law_hand", "_law_hand", defArgs s_law_hand, defBody s_law_hand, defScope s_law_hand, [], []⟩
def d_law_mixed : He.DefD := ⟨("_law_mixed", none), "_law_mixed", "_law_mixed", defArgs s_law_mixed, defBody s_law_mixed, defScope s_law_mixed, [], []⟩
def d_law_draw : He.DefD := ⟨("_law_draw", none), "_law_draw", "_law_draw", defArgs s_law_draw, defBody s_law_draw, defScope s_law_draw, [], []⟩
def d_law_number : He.DefD := ⟨("_law_number", none), "_law_number", "_law_number", defArgs s_law_number, defBody s_law_number, defScope s_law_number, [], []⟩
def d_law_tidy : He.DefD := ⟨("_law_tidy", none), "_law_tidy", "_law_tidy", defArgs s_law_tidy, defBody s_law_tidy, defScope s_law_tidy, [], []⟩
def d_law_poly : He.DefD := ⟨("_law_poly", none), "_law_poly", "_law_poly", defArgs s_law_poly, defBody s_law_poly, defScope s_law_poly, [], []⟩
def d_is_integer : He.DefD := ⟨("is_integer", none), "is_integer", "is_integer", defArgs s_is_integer, defBody s_is_integer, defScope s_is_integer, [], []⟩
def d_term_size : He.DefD := ⟨("term_size", none), "term_size", "term_size", defArgs s_term_size, defBody s_term_size, defScope s_term_size, [], []⟩
def d_degree_key : He.DefD := ⟨("degree_key", none), "degree_key", "degree_key", defArgs s_degree_key, defBody s_degree_key, defScope s_degree_key, [], []⟩
def d_poly_size : He.DefD := ⟨("poly_size", none), "poly_size", "poly_size", defArgs s_poly_size, defBody s_poly_size, defScope s_poly_size, [], []⟩
def d_check_poly : He.DefD := ⟨("check_poly", none), "check_poly", "check_poly", defArgs s_check_poly, defBody s_check_poly, defScope s_check_poly, [], []⟩
def d_fits_many : He.DefD := ⟨("fits_many", none), "fits_many", "fits_many", defArgs s_fits_many, defBody s_fits_many, defScope s_fits_many, [], []⟩
def d_power : He.DefD := ⟨("power", none), "power", "power", defArgs s_power, defBody s_power, defScope s_power, [], []⟩
def d_value : He.DefD := ⟨("value", none), "value", "value", defArgs s_value, defBody s_value, defScope s_value, [], []⟩
def d_worth : He.DefD := ⟨("worth", none), "worth", "worth", defArgs s_worth, defBody s_worth, defScope s_worth, [], []⟩
def d_law_whole : He.DefD := ⟨("_law_whole", none), "_law_whole", "_law_whole", defArgs s_law_whole, defBody s_law_whole, defScope s_law_whole, [], []⟩
def d_law_worth : He.DefD := ⟨("_law_worth", none), "_law_worth", "_law_worth", defArgs s_law_worth, defBody s_law_worth, defScope s_law_worth, [], []⟩
def d_check_two : He.DefD := ⟨("check_two", none), "check_two", "check_two", defArgs s_check_two, defBody s_check_two, defScope s_check_two, [], []⟩
def d_as_dict : He.DefD := ⟨("as_dict", none), "as_dict", "as_dict", defArgs s_as_dict, defBody s_as_dict, defScope s_as_dict, [], []⟩
def d_as_poly : He.DefD := ⟨("as_poly", none), "as_poly", "as_poly", defArgs s_as_poly, defBody s_as_poly, defScope s_as_poly, [], []⟩
def d_added_polys : He.DefD := ⟨("added_polys", none), "added_polys", "added_polys", defArgs s_added_polys, defBody s_added_polys, defScope s_added_polys, [], []⟩
def d_plus : He.DefD := ⟨("plus", none), "plus", "plus", defArgs s_plus, defBody s_plus, defScope s_plus, [], []⟩
def d_dict_product : He.DefD := ⟨("dict_product", none), "dict_product", "dict_product", defArgs s_dict_product, defBody s_dict_product, defScope s_dict_product, [], []⟩
def d_product : He.DefD := ⟨("product", none), "product", "product", defArgs s_product, defBody s_product, defScope s_product, [], []⟩
def d_times : He.DefD := ⟨("times", none), "times", "times", defArgs s_times, defBody s_times, defScope s_times, [], []⟩
def d_law_bad : He.DefD := ⟨("_law_bad", none), "_law_bad", "_law_bad", defArgs s_law_bad, defBody s_law_bad, defScope s_law_bad, [], []⟩
def d_law_asked : He.DefD := ⟨("_law_asked", none), "_law_asked", "_law_asked", defArgs s_law_asked, defBody s_law_asked, defScope s_law_asked, [], []⟩
def d_law : He.DefD := ⟨("law", none), "law", "law", defArgs s_law, defBody s_law, defScope s_law, [], []⟩
def fns : List He.DefD := ([d_law_hand, d_law_mixed, d_law_draw, d_law_number, d_law_tidy, d_law_poly, d_is_integer, d_term_size, d_degree_key, d_poly_size, d_check_poly, d_fits_many, d_power, d_value, d_worth, d_law_whole, d_law_worth, d_check_two, d_as_dict, d_as_poly, d_added_polys, d_plus, d_dict_product, d_product, d_times, d_law_bad, d_law_asked, d_law] : List He.DefD)
def fas : List He.Fa := ([.glo "_law_hand", .glo "_law_mixed", .glo "_law_draw", .glo "_law_number", .glo "_law_tidy", .glo "_law_poly", .glo "is_integer", .glo "term_size", .glo "degree_key", .glo "poly_size", .glo "check_poly", .glo "fits_many", .glo "power", .glo "value", .glo "worth", .glo "_law_whole", .glo "_law_worth", .glo "check_two", .glo "as_dict", .glo "as_poly", .glo "added_polys", .glo "plus", .glo "dict_product", .glo "product", .glo "times", .glo "_law_bad", .glo "_law_asked", .glo "law", .glo "NoPolynomial", .glo "NoValues"] : List He.Fa) ++ ([.free "abs", .free "bool", .free "int", .free "isinstance", .free "len", .free "list", .free "range", .free "sorted", .free "sum", .free "tuple", .free "zip", .exc "NoValues", .exm "NoValues" "NoValues" true, .int "MOST_VARIABLES" 40, .exm "NoPolynomial" "NoPolynomial" true, .noat "NoPolynomial" "index", .exm "NoPolynomial" "NoValues" false] : List He.Fa)
def xss : List (PySem.W.Frag → Bool) := ([supK FILE "NoPolynomial" "index" "index", fun K => excC K "NoPolynomial"] : List (PySem.W.Frag → Bool))
def loose : List Str := (["MadeError", "NoValues", "NoPolynomial", "is_integer", "degree_key", "term_size", "poly_size", "as_dict", "as_poly", "added_polys", "dict_product", "product", "power", "value", "check_poly", "check_two", "plus", "times", "fits_many", "worth", "_law_hand", "_law_mixed", "_law_draw", "_law_number", "_law_tidy", "_law_poly", "_law_whole", "_law_worth", "_law_asked", "_law_bad"] : List Str) ++ (["MOST_VARIABLES"] : List Str)
abbrev R : PySem.W.OpenRow := PySem.W.OpenLaw.row PySem.Challenge.rw_madeanew_k05_worth
abbrev hk : PySem.W.Hook := hookY 6 fas fns xss
def ob (s : PySem.W.SharedT) : He.AlD := obsYG 6 fas fns xss (HandSHeadRun.getT s)
theorem ob_eq (s : PySem.W.SharedT) : ob s = hk.obs s.abs := obsYG_eq (HandSHeadRun.getT_eq s)
theorem run (w : World) : HandSHeadRun.RunEq R (PySem.W.view R.prog [35]) hk ob 4000 loose w := by
  intro os
  kernel_rfl
end Wk05
set_option maxHeartbeats 4000000
namespace Wk05
open PySem L2 PySem.Spec PyProof.Rows Ip
section
variable {P : Program} {w : World} {K : PySem.W.Frag} {mg : Str → Option Value} {base : Heap} {ct : Str → Option Addr}
theorem sc_law_hand : FnScope N_law_hand P_law_hand (defScope s_law_hand) := ⟨rfl, rfl, rfl, by decide +kernel, rfl, by decide +kernel, by decide +kernel⟩
theorem ok_law_hand {f : Addr} {fd : FuncData} (B : Blt mg)  (F : FunD K "_law_hand" "_law_hand" (defArgs s_law_hand) (defBody s_law_hand) (defScope s_law_hand) [] [] f fd) : FnOk P w K mg base (L2.CX P w) 1 f fd P_law_hand (spF K ct 1 [] true F_law_hand) := def_okD (k := 0) F sc_law_hand rfl fun cdv A outer s H E hid ioA hr =>
  (ss_cons (ss_let (Γ2 := []) (ss_setLc 1 (Γ2 := []) rfl sc_law_hand.nd (blkOk_by (own := [("_law_cell", 2)]) (by show blkC N_law_hand (defScope s_law_hand) _ _ = true; decide +kernel)) (si_seq (se_cutL (se_var 0))) (fun _ _ _ _ _ => (sg_name 2 sc_law_hand.nd)) (fun _ _ _ _ _ => sps_nil) (fun _ _ _ _ _ => (se_calT call_int1 cal_int B.n_int (sv_cons (se_var 2) sv_nil))))) (ss_one (ss_ret (se_lst (sa_cons (se_var 1) (sa_cons (se_int (fr := false)) (sa_cons (se_int (fr := false)) (sa_cons (se_int (fr := false)) (sa_cons (se_bin2 op_mod mod_ok (s2_ee (se_calB (cr_sum rfl) cal_sum B.n_sum (sv_cons (se_sliceL (se_var 1) so_none (so_some (se_int (fr := false)))) sv_nil)) (se_int (fr := false)))) (sa_cons (se_int (fr := false)) sa_nil))))))))))
theorem bi_law_hand {f : Addr} {fd : FuncData} (F : FunD K "_law_hand" "_law_hand" (defArgs s_law_hand) (defBody s_law_hand) (defScope s_law_hand) [] [] f fd) : Binds K fd P_law_hand [] := F.bindsN fun _ _ _ _ _ _ us hl => match us, hl with | [_], _ => rfl
theorem sc_degree_key : FnScope N_degree_key P_degree_key (defScope s_degree_key) := ⟨rfl, rfl, rfl, by decide +kernel, rfl, by decide +kernel, by decide +kernel⟩
theorem ok_degree_key {f : Addr} {fd : FuncData} (B : Blt mg)  (F : FunD K "degree_key" "degree_key" (defArgs s_degree_key) (defBody s_degree_key) (defScope s_degree_key) [] [] f fd) : FnOk P w K mg base (L2.CX P w) 1 f fd P_degree_key (spF K ct 1 [] false F_degree_key) := def_okD (k := 0) F sc_degree_key rfl fun cdv A outer s H E hid ioA hr =>
  (ss_one (ss_ret (se_tup (sa_cons (se_calB (cr_sumT rfl) cal_sumT B.n_sum (sv_cons (se_var 0) sv_nil)) (sa_cons (se_var 0) sa_nil)))))
theorem bi_degree_key {f : Addr} {fd : FuncData} (F : FunD K "degree_key" "degree_key" (defArgs s_degree_key) (defBody s_degree_key) (defScope s_degree_key) [] [] f fd) : Binds K fd P_degree_key [] := F.bindsN fun _ _ _ _ _ _ us hl => match us, hl with | [_], _ => rfl
theorem sc_law_worth : FnScope N_law_worth P_law_worth (defScope s_law_worth) := ⟨rfl, rfl, rfl, by decide +kernel, rfl, by decide +kernel, by decide +kernel⟩
theorem ok_law_worth {f : Addr} {fd : FuncData} (B : Blt mg)  (F : FunD K "_law_worth" "_law_worth" (defArgs s_law_worth) (defBody s_law_worth) (defScope s_law_worth) [] [] f fd) : FnOk P w K mg base (L2.CX P w) 1 f fd P_law_worth (spF K ct 2 [] false F_law_worth) := def_okD (k := 0) F sc_law_worth rfl fun cdv A outer s H E hid ioA hr =>
  (ss_cons (ss_set 2 (Γ2 := []) sc_law_worth.nd (se_int (fr := false))) (ss_cons (ss_for cx_own rfl (si_seq (se_var 0)) (sg_name 3 sc_law_worth.nd) (ss_cons (ss_set 4 (Γ2 := []) sc_law_worth.nd (se_ix2 ix_seq ix_ok (s2_ee (se_var 3) (se_int (fr := false))))) (ss_cons (ss_for cx_own rfl (si_range1 (sa_cons (se_calB call_len cal_len B.n_len (sv_cons (se_ix2 ix_seq ix_ok (s2_ee (se_var 3) (se_int (fr := false)))) sv_nil)) sa_nil) B.n_range) (sg_name 5 sc_law_worth.nd) (ss_one (ss_for cx_own rfl (si_range1 (sa_cons (se_ix2 ix_seq ix_ok (s2_ee (se_ix2 ix_seq ix_ok (s2_ee (se_var 3) (se_int (fr := false)))) (se_var 5))) sa_nil) B.n_range) (sg_name 6 sc_law_worth.nd) (ss_one (ss_set 4 (Γ2 := []) sc_law_worth.nd (se_bin2 (or_or op_mul op_mulW) mul_ok (s2_ee (se_var 4) (se_ix2 ix_seq ix_ok (s2_ee (se_var 1) (se_var 5)))))))))) (ss_one (ss_set 2 (Γ2 := []) sc_law_worth.nd (se_bin2 (or_or op_add op_add_str) add_ok (s2_ee (se_var 2) (se_var 4)))))))) (ss_one (ss_ret (se_var 2)))))
theorem bi_law_worth {f : Addr} {fd : FuncData} (F : FunD K "_law_worth" "_law_worth" (defArgs s_law_worth) (defBody s_law_worth) (defScope s_law_worth) [] [] f fd) : Binds K fd P_law_worth [] := F.bindsN fun _ _ _ _ _ _ us hl => match us, hl with | [_, _], _ => rfl
theorem sc_times : FnScope N_times P_times (defScope s_times) := ⟨rfl, rfl, rfl, by decide +kernel, rfl, by decide +kernel, by decide +kernel⟩
theorem ok_times {f : Addr} {fd : FuncData} (B : Blt mg) (h_check_two : Fn P w K mg base ct "check_two" 5 2 [] false F_check_two) (h_product : Fn P w K mg base ct "product" 5 2 [] false F_product) (F : FunD K "times" "times" (defArgs s_times) (defBody s_times) (defScope s_times) [] [] f fd) : FnOk P w K mg base (L2.CX P w) 6 f fd P_times (spF K ct 2 [] false F_times) := def_okD (k := 5) F sc_times rfl fun cdv A outer s H E hid ioA hr =>
  (ss_cons (ss_expr (se_call0 h_check_two cx_takes (hr.mono (by decide)) (sa_cons (se_var 0) (sa_cons (se_var 1) sa_nil)))) (ss_one (ss_ret (se_call0 h_product cx_takes (hr.mono (by decide)) (sa_cons (se_var 0) (sa_cons (se_var 1) sa_nil))))))
theorem bi_times {f : Addr} {fd : FuncData} (F : FunD K "times" "times" (defArgs s_times) (defBody s_times) (defScope s_times) [] [] f fd) : Binds K fd P_times [] := F.bindsN fun _ _ _ _ _ _ us hl => match us, hl with | [_, _], _ => rfl
end
end Wk05
set_option maxHeartbeats 4000000
namespace Wk05
open PySem L2 PySem.Spec PyProof.Rows Ip
section
variable {P : Program} {w : World} {K : PySem.W.Frag} {mg : Str → Option Value} {base : Heap} {ct : Str → Option Addr}
theorem sc_law_mixed : FnScope N_law_mixed P_law_mixed (defScope s_law_mixed) := ⟨rfl, rfl, rfl, by decide +kernel, rfl, by decide +kernel, by decide +kernel⟩
theorem ok_law_mixed {f : Addr} {fd : FuncData} (B : Blt mg)  (F : FunD K "_law_mixed" "_law_mixed" (defArgs s_law_mixed) (defBody s_law_mixed) (defScope s_law_mixed) [] [] f fd) : FnOk P w K mg base (L2.CX P w) 1 f fd P_law_mixed (spF K ct 2 [] false F_law_mixed) := def_okD (k := 0) F sc_law_mixed rfl fun cdv A outer s H E hid ioA hr =>
  (ss_cons (ss_set 2 (Γ2 := []) sc_law_mixed.nd (se_bin2 op_mod mod_ok (s2_ee (se_calT call_int1 cal_int B.n_int (sv_cons (se_bin2 op_pow pow_ok (s2_ee (se_bin2 (or_or op_add op_add_str) add_ok (s2_ee (se_bin2 (or_or op_add op_add_str) add_ok (s2_ee (se_bin2 op_mod mod_ok (s2_ee (se_calT call_int1 cal_int B.n_int (sv_cons (se_var 0) sv_nil)) (se_int (fr := false)))) (se_bin2 (or_or op_mul op_mulW) mul_ok (s2_ee (se_int (fr := false)) (se_var 1))))) (se_int (fr := false)))) (se_int (fr := false)))) sv_nil)) (se_int (fr := false))))) (ss_one (ss_ret (se_bin2 op_mod mod_ok (s2_ee (se_calT call_int1 cal_int B.n_int (sv_cons (se_bin2 (or_or op_add op_add_str) add_ok (s2_ee (se_bin2 (or_or op_mul op_mulW) mul_ok (s2_ee (se_var 2) (se_bin2 (or_or op_add op_add_str) add_ok (s2_ee (se_bin2 op_fdivW fdiv_ok (s2_ee (se_var 2) (se_int (fr := false)))) (se_int (fr := false)))))) (se_bin2 (or_or op_mul op_mulW) mul_ok (s2_ee (se_int (fr := false)) (se_var 1))))) sv_nil)) (se_int (fr := false)))))))
theorem bi_law_mixed {f : Addr} {fd : FuncData} (F : FunD K "_law_mixed" "_law_mixed" (defArgs s_law_mixed) (defBody s_law_mixed) (defScope s_law_mixed) [] [] f fd) : Binds K fd P_law_mixed [] := F.bindsN fun _ _ _ _ _ _ us hl => match us, hl with | [_, _], _ => rfl
theorem sc_poly_size : FnScope N_poly_size P_poly_size (defScope s_poly_size) := ⟨rfl, rfl, rfl, by decide +kernel, rfl, by decide +kernel, by decide +kernel⟩
theorem ok_poly_size {f : Addr} {fd : FuncData} (B : Blt mg) (h_term_size : Fn P w K mg base ct "term_size" 2 1 [] false F_term_size) (h_degree_key : Fn P w K mg base ct "degree_key" 1 1 [] false F_degree_key) (F : FunD K "poly_size" "poly_size" (defArgs s_poly_size) (defBody s_poly_size) (defScope s_poly_size) [] [] f fd) : FnOk P w K mg base (L2.CX P w) 3 f fd P_poly_size (spF K ct 1 [] false F_poly_size) := def_okD (k := 2) F sc_poly_size rfl fun cdv A outer s H E hid ioA hr =>
  (ss_cons (ss_if (sp_not (sp_val (se_isi (se_var 0) kb_tuple B.n_isinstance B.n_tuple))) (ss_one (ss_ret (se_neg (se_int (fr := false))))) ss_nil) (ss_cons (ss_set 1 (Γ2 := []) sc_poly_size.nd (se_int (fr := false))) (ss_cons (ss_set 2 (Γ2 := []) sc_poly_size.nd (se_non (fr := false))) (ss_cons (ss_for cx_own rfl (si_seq (se_var 0)) (sg_name 3 sc_poly_size.nd) (ss_cons (ss_set 4 (Γ2 := []) sc_poly_size.nd (se_call0 h_term_size cx_takes (hr.mono (by decide)) (sa_cons (se_var 3) sa_nil))) (ss_cons (ss_if (SW.pt (sw_or (sp_cmp2 (or_or op_lt op_lt_str) lt_ok (s2_ee (se_var 4) (se_int (fr := false)))) (sw_or1 (sp_cmp2 op_notIn_seq notInI_ok (s2_ee (se_var 1) (se_tup (sa_cons (se_int (fr := false)) (sa_cons (se_var 4) sa_nil)))))))) (ss_one (ss_ret (se_neg (se_int (fr := false))))) ss_nil) (ss_cons (ss_set 5 (Γ2 := []) sc_poly_size.nd (se_call0 h_degree_key cx_takes (hr.mono (by decide)) (sa_cons (se_ix2 ix_seq ix_ok (s2_ee (se_var 3) (se_int (fr := false)))) sa_nil))) (ss_cons (ss_if (SW.pt (sw_and (sp_cmp2 op_notN notN_ok (s2_ee (se_var 2) (se_non (fr := false)))) (sw_and1 (sp_not (sp_cmp2 (op_ltL (room64 hr)) ltX_ok (s2_ee (se_var 5) (se_var 2))))))) (ss_one (ss_ret (se_neg (se_int (fr := false))))) ss_nil) (ss_cons (ss_set 1 (Γ2 := []) sc_poly_size.nd (se_var 4)) (ss_one (ss_set 2 (Γ2 := []) sc_poly_size.nd (se_var 5))))))))) (ss_one (ss_ret (se_var 1)))))))
theorem bi_poly_size {f : Addr} {fd : FuncData} (F : FunD K "poly_size" "poly_size" (defArgs s_poly_size) (defBody s_poly_size) (defScope s_poly_size) [] [] f fd) : Binds K fd P_poly_size [] := F.bindsN fun _ _ _ _ _ _ us hl => match us, hl with | [_], _ => rfl
theorem sc_check_two : FnScope N_check_two P_check_two (defScope s_check_two) := ⟨rfl, rfl, rfl, by decide +kernel, rfl, by decide +kernel, by decide +kernel⟩
theorem ok_check_two {f : Addr} {fd : FuncData} (B : Blt mg) (h_check_poly : Fn P w K mg base ct "check_poly" 4 2 [] false F_check_poly) (h_erf_NoPolynomial : ErF P w K mg base ct "NoPolynomial" "index") (F : FunD K "check_two" "check_two" (defArgs s_check_two) (defBody s_check_two) (defScope s_check_two) [] [] f fd) : FnOk P w K mg base (L2.CX P w) 5 f fd P_check_two (spF K ct 2 [] false F_check_two) := def_okD (k := 4) F sc_check_two rfl fun cdv A outer s H E hid ioA hr =>
  (ss_cons (ss_set 2 (Γ2 := []) sc_check_two.nd (se_call0 h_check_poly cx_takes (hr.mono (by decide)) (sa_cons (se_var 0) (sa_cons (se_int (fr := false)) sa_nil)))) (ss_cons (ss_set 3 (Γ2 := []) sc_check_two.nd (se_call0 h_check_poly cx_takes (hr.mono (by decide)) (sa_cons (se_var 1) (sa_cons (se_int (fr := false)) sa_nil)))) (ss_one (ss_if (SW.pt (sw_and (sp_cmp2 (op_neD (room64 hr)) ne_ok (s2_ee (se_var 2) (se_int (fr := false)))) (sw_and (sp_cmp2 (op_neD (room64 hr)) ne_ok (s2_ee (se_var 3) (se_int (fr := false)))) (sw_and1 (sp_cmp2 (op_neD (room64 hr)) ne_ok (s2_ee (se_var 2) (se_var 3))))))) (ss_one (ss_raiseF h_erf_NoPolynomial rfl cx_takes (hr.mono (by decide)) (se_int (fr := false)))) ss_nil))))
theorem bi_check_two {f : Addr} {fd : FuncData} (F : FunD K "check_two" "check_two" (defArgs s_check_two) (defBody s_check_two) (defScope s_check_two) [] [] f fd) : Binds K fd P_check_two [] := F.bindsN fun _ _ _ _ _ _ us hl => match us, hl with | [_, _], _ => rfl
theorem sc_law_bad : FnScope N_law_bad P_law_bad (defScope s_law_bad) := ⟨rfl, rfl, rfl, by decide +kernel, rfl, by decide +kernel, by decide +kernel⟩
theorem ok_law_bad {f : Addr} {fd : FuncData} (B : Blt mg) (h_law_draw : Fn P w K mg base ct "_law_draw" 2 2 [0] false F_law_draw) (F : FunD K "_law_bad" "_law_bad" (defArgs s_law_bad) (defBody s_law_bad) (defScope s_law_bad) [] [] f fd) : FnOk P w K mg base (L2.CX P w) 3 f fd P_law_bad (spF K ct 2 [0] false F_law_bad) := def_okD (k := 2) F sc_law_bad rfl fun cdv A outer s H E hid ioA hr =>
  (ss_cons (ss_set 2 (Γ2 := [0]) sc_law_bad.nd (se_call1 h_law_draw cx_takes (hr.mono (by decide)) (sa_io 0 (sa_cons (se_int (fr := false)) sa_nil)))) (ss_cons (ss_if (sp_cmp2 (op_eqD (room64 hr)) eq_ok (s2_ee (se_var 2) (se_int (fr := false)))) (ss_one (ss_ret (se_fz (se_binO op_catQ cat_ok (s2_ee (se_var 1) (se_lst (sa_cons (se_int (fr := false)) sa_nil))))))) ss_nil) (ss_cons (ss_if (sp_cmp2 (op_eqD (room64 hr)) eq_ok (s2_ee (se_var 2) (se_int (fr := false)))) (ss_one (ss_ret (se_fz (se_sliceL (se_var 1) (so_some (se_int (fr := false))) so_none)))) ss_nil) (ss_cons (ss_if (sp_cmp2 (op_eqD (room64 hr)) eq_ok (s2_ee (se_var 2) (se_int (fr := false)))) (ss_one (ss_ret (se_calT call_tuple_of cal_tup B.n_tuple (sv_cons (se_var 1) sv_nil)))) ss_nil) (ss_cons (ss_if (sp_cmp2 (op_eqD (room64 hr)) eq_ok (s2_ee (se_var 2) (se_int (fr := false)))) (ss_one (ss_ret (se_non (fr := false)))) ss_nil) (ss_cons (ss_setLc 3 (Γ2 := [0]) rfl sc_law_bad.nd (blkOk_by (own := [("_law_number_here", 4)]) (by show blkC N_law_bad (defScope s_law_bad) _ _ = true; decide +kernel)) (si_seq (se_var 1)) (fun _ _ _ _ _ => (sg_name 4 sc_law_bad.nd)) (fun _ _ _ _ _ => sps_nil) (fun _ _ _ _ _ => (se_var 4))) (ss_cons (ss_asg (se_ix2 ix_seq ix_ok (s2_ee (se_lst (sa_cons (se_bl (fr := false)) (sa_cons (se_non (fr := false)) (sa_cons (se_str (fr := false)) sa_nil)))) (se_bin2 op_sub sub_ok (s2_ee (se_var 2) (se_int (fr := false)))))) (sg_ix 3 (se_call1 h_law_draw cx_takes (hr.mono (by decide)) (sa_io 0 (sa_cons (se_calB call_len cal_len B.n_len (sv_cons (se_var 1) sv_nil)) sa_nil))))) (ss_one (ss_ret (se_varF 3 [0]))))))))))
theorem bi_law_bad {f : Addr} {fd : FuncData} (F : FunD K "_law_bad" "_law_bad" (defArgs s_law_bad) (defBody s_law_bad) (defScope s_law_bad) [] [] f fd) : Binds K fd P_law_bad [] := F.bindsN fun _ _ _ _ _ _ us hl => match us, hl with | [_, _], _ => rfl
end
end Wk05
set_option maxHeartbeats 4000000
namespace Wk05
open PySem L2 PySem.Spec PyProof.Rows Ip
section
variable {P : Program} {w : World} {K : PySem.W.Frag} {mg : Str → Option Value} {base : Heap} {ct : Str → Option Addr}
theorem sc_law_draw : FnScope N_law_draw P_law_draw (defScope s_law_draw) := ⟨rfl, rfl, rfl, by decide +kernel, rfl, by decide +kernel, by decide +kernel⟩
theorem ok_law_draw {f : Addr} {fd : FuncData} (B : Blt mg) (h_law_mixed : Fn P w K mg base ct "_law_mixed" 1 2 [] false F_law_mixed) (F : FunD K "_law_draw" "_law_draw" (defArgs s_law_draw) (defBody s_law_draw) (defScope s_law_draw) [] [] f fd) : FnOk P w K mg base (L2.CX P w) 2 f fd P_law_draw (spF K ct 2 [0] false F_law_draw) := def_okD (k := 1) F sc_law_draw rfl fun cdv A outer s H E hid ioA hr =>
  (ss_cons (ss_asg (se_bin2 (or_or op_add op_add_str) add_ok (s2_ee (se_ix2 ix_seq ix_ok (s2_oe 0 (se_int (fr := false)))) (se_int (fr := false)))) (sg_ix (W := Wn) 0 (se_int (fr := false)))) (ss_cons (ss_if (sp_cmp2 (or_or op_ge op_ge_str) ge_ok (s2_ee (se_ix2 ix_seq ix_ok (s2_oe 0 (se_int (fr := false)))) (se_calB call_len cal_len B.n_len (sv_cons (se_ix2 ix_seq ix_ok (s2_oe 0 (se_int (fr := false)))) sv_nil)))) (ss_one (ss_ret (se_bin2 op_mod mod_ok (s2_ee (se_call0 h_law_mixed cx_takes (hr.mono (by decide)) (sa_cons (se_ix2 ix_seq ix_ok (s2_oe 0 (se_int (fr := false)))) (sa_cons (se_ix2 ix_seq ix_ok (s2_oe 0 (se_int (fr := false)))) sa_nil))) (se_var 1))))) ss_nil) (ss_cons (ss_set 2 (Γ2 := [0]) sc_law_draw.nd (se_ix2 ix_seq ix_ok (s2_ee (se_ix2 ix_seq ix_ok (s2_oe 0 (se_int (fr := false)))) (se_ix2 ix_seq ix_ok (s2_oe 0 (se_int (fr := false))))))) (ss_cons (ss_if (sp_cmp2 (or_or op_lt op_lt_str) lt_ok (s2_ee (se_calB call_abs cal_abs B.n_abs (sv_cons (se_var 2) sv_nil)) (se_bin2 op_pow pow_ok (s2_ee (se_int (fr := false)) (se_int (fr := false)))))) (ss_cons (ss_asg (se_bin2 (or_or op_add op_add_str) add_ok (s2_ee (se_ix2 ix_seq ix_ok (s2_oe 0 (se_int (fr := false)))) (se_int (fr := false)))) (sg_ix (W := Wn) 0 (se_int (fr := false)))) (ss_cons (ss_if (sp_cmp2 (or_or op_ge op_ge_str) ge_ok (s2_ee (se_ix2 ix_seq ix_ok (s2_oe 0 (se_int (fr := false)))) (se_int (fr := false)))) (ss_cons (ss_asg (se_bin2 (or_or op_add op_add_str) add_ok (s2_ee (se_ix2 ix_seq ix_ok (s2_oe 0 (se_int (fr := false)))) (se_int (fr := false)))) (sg_ix (W := Wn) 0 (se_int (fr := false)))) (ss_one (ss_asg (se_int (fr := false)) (sg_ix (W := Wn) 0 (se_int (fr := false)))))) ss_nil) (ss_one (ss_ret (se_bin2 op_mod mod_ok (s2_ee (se_call0 h_law_mixed cx_takes (hr.mono (by decide)) (sa_cons (se_var 2) (sa_cons (se_ix2 ix_seq ix_ok (s2_oe 0 (se_int (fr := false)))) sa_nil))) (se_var 1))))))) ss_nil) (ss_cons (ss_if (sp_cmp2 (op_eqD (room64 hr)) eq_ok (s2_ee (se_ix2 ix_seq ix_ok (s2_oe 0 (se_int (fr := false)))) (se_int (fr := false)))) (ss_cons (ss_asg (se_int (fr := false)) (sg_ix (W := Wn) 0 (se_int (fr := false)))) (ss_one (ss_asg (se_calB call_abs cal_abs B.n_abs (sv_cons (se_var 2) sv_nil)) (sg_ix (W := Wn) 0 (se_int (fr := false)))))) ss_nil) (ss_cons (ss_set 3 (Γ2 := [0]) sc_law_draw.nd (se_bin2 op_mod mod_ok (s2_ee (se_calT call_int1 cal_int B.n_int (sv_cons (se_ix2 ix_seq ix_ok (s2_oe 0 (se_int (fr := false)))) sv_nil)) (se_var 1)))) (ss_cons (ss_asg (se_bin2 op_fdivW fdiv_ok (s2_ee (se_ix2 ix_seq ix_ok (s2_oe 0 (se_int (fr := false)))) (se_var 1))) (sg_ix (W := Wn) 0 (se_int (fr := false)))) (ss_cons (ss_if (sp_cmp2 (op_eqD (room64 hr)) eq_ok (s2_ee (se_ix2 ix_seq ix_ok (s2_oe 0 (se_int (fr := false)))) (se_int (fr := false)))) (ss_cons (ss_asg (se_bin2 (or_or op_add op_add_str) add_ok (s2_ee (se_ix2 ix_seq ix_ok (s2_oe 0 (se_int (fr := false)))) (se_int (fr := false)))) (sg_ix (W := Wn) 0 (se_int (fr := false)))) (ss_one (ss_asg (se_int (fr := false)) (sg_ix (W := Wn) 0 (se_int (fr := false)))))) ss_nil) (ss_one (ss_ret (se_var 3)))))))))))
theorem bi_law_draw {f : Addr} {fd : FuncData} (F : FunD K "_law_draw" "_law_draw" (defArgs s_law_draw) (defBody s_law_draw) (defScope s_law_draw) [] [] f fd) : Binds K fd P_law_draw [] := F.bindsN fun _ _ _ _ _ _ us hl => match us, hl with | [_, _], _ => rfl
theorem sc_check_poly : FnScope N_check_poly P_check_poly (defScope s_check_poly) := ⟨rfl, rfl, rfl, by decide +kernel, rfl, by decide +kernel, by decide +kernel⟩
theorem ok_check_poly {f : Addr} {fd : FuncData} (B : Blt mg) (h_poly_size : Fn P w K mg base ct "poly_size" 3 1 [] false F_poly_size) (h_erf_NoPolynomial : ErF P w K mg base ct "NoPolynomial" "index") (F : FunD K "check_poly" "check_poly" (defArgs s_check_poly) (defBody s_check_poly) (defScope s_check_poly) [] [] f fd) : FnOk P w K mg base (L2.CX P w) 4 f fd P_check_poly (spF K ct 2 [] false F_check_poly) := def_okD (k := 3) F sc_check_poly rfl fun cdv A outer s H E hid ioA hr =>
  (ss_cons (ss_set 2 (Γ2 := []) sc_check_poly.nd (se_call0 h_poly_size cx_takes (hr.mono (by decide)) (sa_cons (se_var 0) sa_nil))) (ss_cons (ss_if (sp_cmp2 (or_or op_lt op_lt_str) lt_ok (s2_ee (se_var 2) (se_int (fr := false)))) (ss_one (ss_raiseF h_erf_NoPolynomial rfl cx_takes (hr.mono (by decide)) (se_var 1))) ss_nil) (ss_one (ss_ret (se_var 2)))))
theorem bi_check_poly {f : Addr} {fd : FuncData} (F : FunD K "check_poly" "check_poly" (defArgs s_check_poly) (defBody s_check_poly) (defScope s_check_poly) [] [] f fd) : Binds K fd P_check_poly [] := F.bindsN fun _ _ _ _ _ _ us hl => match us, hl with | [_, _], _ => rfl
theorem sc_as_dict : FnScope N_as_dict P_as_dict (defScope s_as_dict) := ⟨rfl, rfl, rfl, by decide +kernel, rfl, by decide +kernel, by decide +kernel⟩
theorem ok_as_dict {f : Addr} {fd : FuncData} (B : Blt mg)  (F : FunD K "as_dict" "as_dict" (defArgs s_as_dict) (defBody s_as_dict) (defScope s_as_dict) [] [] f fd) : FnOk P w K mg base (L2.CX P w) 1 f fd P_as_dict (spF K ct 1 [] true F_as_dict) := def_okD (k := 0) F sc_as_dict rfl fun cdv A outer s H E hid ioA hr =>
  (ss_one (ss_ret (se_dcT (room0 hr) rfl sc_as_dict.nd (blkOk_by (own := [("coefficient", 1), ("exponents", 2)]) (by show blkC N_as_dict (defScope s_as_dict) _ _ = true; decide +kernel)) (si_seq (se_var 0)) (fun _ _ _ _ _ => (sg_tup rfl (sgs_cons (sg_name 1 sc_as_dict.nd) (sgs_cons (sg_name 2 sc_as_dict.nd) sgs_nil)))) (fun _ _ _ _ _ => sps_nil) (fun _ _ _ _ _ => (se_var 2)) (fun _ _ _ _ _ => (se_var 1)))))
theorem bi_as_dict {f : Addr} {fd : FuncData} (F : FunD K "as_dict" "as_dict" (defArgs s_as_dict) (defBody s_as_dict) (defScope s_as_dict) [] [] f fd) : Binds K fd P_as_dict [] := F.bindsN fun _ _ _ _ _ _ us hl => match us, hl with | [_], _ => rfl
theorem sc_law_asked : FnScope N_law_asked P_law_asked (defScope s_law_asked) := ⟨rfl, rfl, rfl, by decide +kernel, rfl, by decide +kernel, by decide +kernel⟩
theorem ok_law_asked {f : Addr} {fd : FuncData} (B : Blt mg) (h_worth : Fn P w K mg base ct "worth" 5 2 [] false F_worth) {a_NoPolynomial : Addr} (hct_NoPolynomial : ct "NoPolynomial" = some a_NoPolynomial) (hexm_NoPolynomial : PySem.W.exmOne K (.ref a_NoPolynomial) (.ref a_NoPolynomial) = some true) (hmg_NoPolynomial : mg "NoPolynomial" = some (.ref a_NoPolynomial)) (h_xfc_NoPolynomial : XfC K a_NoPolynomial) (h_xno_NoPolynomial : PySem.W.findIn K (.ref a_NoPolynomial) "index" = some none) {a_NoValues : Addr} (hct_NoValues : ct "NoValues" = some a_NoValues) (hexm_NoValues : PySem.W.exmOne K (.ref a_NoValues) (.ref a_NoValues) = some true) (hmg_NoValues : mg "NoValues" = some (.ref a_NoValues)) (hexn_NoPolynomial_NoValues : PySem.W.exmOne K (.ref a_NoPolynomial) (.ref a_NoValues) = some false) (F : FunD K "_law_asked" "_law_asked" (defArgs s_law_asked) (defBody s_law_asked) (defScope s_law_asked) [] [] f fd) : FnOk P w K mg base (L2.CX P w) 6 f fd P_law_asked (spF K ct 2 [] false F_law_asked) := def_okD (k := 5) F sc_law_asked rfl fun cdv A outer s H E hid ioA hr =>
  (ss_cons (ss_set 2 (Γ2 := []) sc_law_asked.nd (se_non (fr := false))) (ss_cons (ss_set 3 (Γ2 := []) sc_law_asked.nd (se_non (fr := false))) (ss_cons (ss_set 4 (Γ2 := []) sc_law_asked.nd (se_str (fr := false))) (ss_cons (ss_tryF (l := [⟨"NoValues", none, [(4, .c (.str "values"))], a_NoValues⟩, ⟨"NoPolynomial", some 5, [(4, .c (.str "polynomial")), (2, .f "index")], a_NoPolynomial⟩]) sc_law_asked.nd rfl rfl cx_takes (TfOk.cons hct_NoValues hexm_NoValues (one_laterF hexn_NoPolynomial_NoValues no_laterF) (fun _ _ z => nomatch z) (fun _ _ z => nomatch z) (TfOk.cons hct_NoPolynomial hexm_NoPolynomial no_laterF (fun _ _ z => nomatch z) (fun _ _ z => nomatch z) .nil)) (fun _ W1 pn xe t1 t2 => (ss_one (ss_set 3 (Γ2 := []) sc_law_asked.nd (se_call0 h_worth t1 (hr.mono (by decide)) (sa_cons (se_var 0) (sa_cons (se_var 1) sa_nil)))))) (tf_bare rfl ⟨rfl, by decide, .inl hmg_NoValues⟩ (scl_c 4 sc_law_asked.nd (fun _ => pe_str) (fun _ => .str _) scl_nil (fun _ z => nomatch z)) (tf_named rfl ⟨rfl, by decide, .inl hmg_NoPolynomial⟩ (scl_c 4 sc_law_asked.nd (fun _ => pe_str) (fun _ => .str _) (scl_f 2 sc_law_asked.nd rfl h_xfc_NoPolynomial h_xno_NoPolynomial scl_nil (fun _ z => by cases z; decide)) (fun _ z => by cases z; decide)) .nil))) (ss_one (ss_ret (se_tup (sa_cons (se_var 4) (sa_cons (se_var 3) (sa_cons (se_var 2) sa_nil))))))))))
theorem bi_law_asked {f : Addr} {fd : FuncData} (F : FunD K "_law_asked" "_law_asked" (defArgs s_law_asked) (defBody s_law_asked) (defScope s_law_asked) [] [] f fd) : Binds K fd P_law_asked [] := F.bindsN fun _ _ _ _ _ _ us hl => match us, hl with | [_, _], _ => rfl
end
end Wk05
set_option maxHeartbeats 4000000
namespace Wk05
open PySem L2 PySem.Spec PyProof.Rows Ip
section
variable {P : Program} {w : World} {K : PySem.W.Frag} {mg : Str → Option Value} {base : Heap} {ct : Str → Option Addr}
theorem sc_law_number : FnScope N_law_number P_law_number (defScope s_law_number) := ⟨rfl, rfl, rfl, by decide +kernel, rfl, by decide +kernel, by decide +kernel⟩
theorem ok_law_number {f : Addr} {fd : FuncData} (B : Blt mg) (h_law_draw : Fn P w K mg base ct "_law_draw" 2 2 [0] false F_law_draw) (F : FunD K "_law_number" "_law_number" (defArgs s_law_number) (defBody s_law_number) (defScope s_law_number) [] [] f fd) : FnOk P w K mg base (L2.CX P w) 3 f fd P_law_number (spF K ct 1 [0] false F_law_number) := def_okD (k := 2) F sc_law_number rfl fun cdv A outer s H E hid ioA hr =>
  (ss_cons (ss_set 1 (Γ2 := [0]) sc_law_number.nd (se_call1 h_law_draw cx_takes (hr.mono (by decide)) (sa_io 0 (sa_cons (se_int (fr := false)) sa_nil)))) (ss_cons (ss_if (sp_cmp2 (or_or op_lt op_lt_str) lt_ok (s2_ee (se_var 1) (se_int (fr := false)))) (ss_one (ss_ret (se_bin2 op_sub sub_ok (s2_ee (se_call1 h_law_draw cx_takes (hr.mono (by decide)) (sa_io 0 (sa_cons (se_int (fr := false)) sa_nil))) (se_int (fr := false)))))) ss_nil) (ss_cons (ss_if (sp_cmp2 (op_eqD (room64 hr)) eq_ok (s2_ee (se_var 1) (se_int (fr := false)))) (ss_one (ss_ret (se_bin2 op_sub sub_ok (s2_ee (se_call1 h_law_draw cx_takes (hr.mono (by decide)) (sa_io 0 (sa_cons (se_int (fr := false)) sa_nil))) (se_int (fr := false)))))) ss_nil) (ss_cons (ss_set 2 (Γ2 := [0]) sc_law_number.nd (se_bin2 (or_or op_add op_add_str) add_ok (s2_ee (se_bin2 (or_or op_mul op_mulW) mul_ok (s2_ee (se_call1 h_law_draw cx_takes (hr.mono (by decide)) (sa_io 0 (sa_cons (se_bin2 op_pow pow_ok (s2_ee (se_int (fr := false)) (se_int (fr := false)))) sa_nil))) (se_bin2 op_pow pow_ok (s2_ee (se_int (fr := false)) (se_int (fr := false)))))) (se_call1 h_law_draw cx_takes (hr.mono (by decide)) (sa_io 0 (sa_cons (se_bin2 op_pow pow_ok (s2_ee (se_int (fr := false)) (se_int (fr := false)))) sa_nil)))))) (ss_one (ss_ret (se_bin2 op_sub sub_ok (s2_ee (se_var 2) (se_bin2 (or_or op_mul op_mulW) mul_ok (s2_ee (se_bin2 (or_or op_mul op_mulW) mul_ok (s2_ee (se_int (fr := false)) (se_var 2))) (se_call1 h_law_draw cx_takes (hr.mono (by decide)) (sa_io 0 (sa_cons (se_int (fr := false)) sa_nil)))))))))))))
theorem bi_law_number {f : Addr} {fd : FuncData} (F : FunD K "_law_number" "_law_number" (defArgs s_law_number) (defBody s_law_number) (defScope s_law_number) [] [] f fd) : Binds K fd P_law_number [] := F.bindsN fun _ _ _ _ _ _ us hl => match us, hl with | [_], _ => rfl
theorem sc_fits_many : FnScope N_fits_many P_fits_many (defScope s_fits_many) := ⟨rfl, rfl, rfl, by decide +kernel, rfl, by decide +kernel, by decide +kernel⟩
theorem ok_fits_many {f : Addr} {fd : FuncData} (B : Blt mg) (h_con_MOST_VARIABLES : ∃ t, mg "MOST_VARIABLES" = some (.int 40 t)) (F : FunD K "fits_many" "fits_many" (defArgs s_fits_many) (defBody s_fits_many) (defScope s_fits_many) [] [] f fd) : FnOk P w K mg base (L2.CX P w) 1 f fd P_fits_many (spF K ct 2 [] false F_fits_many) := def_okD (k := 0) F sc_fits_many rfl fun cdv A outer s H E hid ioA hr =>
  (ss_cons (ss_if (sp_cmp2 (op_eqD (room64 hr)) eq_ok (s2_ee (se_var 1) (se_int (fr := false)))) (ss_one (ss_ret (se_chain (or_or op_le op_le_str) (or_or op_le op_le_str) le_ok le_ok (se_int (fr := false)) (se_var 0) (se_gint (fr := false) h_con_MOST_VARIABLES)))) ss_nil) (ss_one (ss_ret (se_cmp2 (op_eqD (room64 hr)) eq_ok (s2_ee (se_var 0) (se_var 1))))))
theorem bi_fits_many {f : Addr} {fd : FuncData} (F : FunD K "fits_many" "fits_many" (defArgs s_fits_many) (defBody s_fits_many) (defScope s_fits_many) [] [] f fd) : Binds K fd P_fits_many [] := F.bindsN fun _ _ _ _ _ _ us hl => match us, hl with | [_, _], _ => rfl
theorem sc_as_poly : FnScope N_as_poly P_as_poly (defScope s_as_poly) := ⟨rfl, rfl, rfl, by decide +kernel, rfl, by decide +kernel, by decide +kernel⟩
theorem ok_as_poly {f : Addr} {fd : FuncData} (B : Blt mg) (h_degree_key : Fn P w K mg base ct "degree_key" 1 1 [] false F_degree_key) (F : FunD K "as_poly" "as_poly" (defArgs s_as_poly) (defBody s_as_poly) (defScope s_as_poly) [] [] f fd) : FnOk P w K mg base (L2.CX P w) 4 f fd P_as_poly (spF K ct 1 [] false F_as_poly) := def_okD (k := 3) F sc_as_poly rfl fun cdv A outer s H E hid ioA hr =>
  (ss_cons (ss_set 1 (Γ2 := []) sc_as_poly.nd (se_fz (se_sortedK h_degree_key (hr.mono (by decide)) B.n_sorted (sv_cons (se_calN (call_list_dT rfl) cal_listDT B.n_list (sv_cons (se_var 0) sv_nil)) sv_nil)))) (ss_one (ss_ret (se_calT call_tuple_of cal_tup B.n_tuple (sv_cons (se_lc rfl sc_as_poly.nd (blkOk_by (own := [("exponents", 2)]) (by show blkC N_as_poly (defScope s_as_poly) _ _ = true; decide +kernel)) (si_seq (se_var 1)) (fun _ _ _ _ _ => (sg_name 2 sc_as_poly.nd)) (fun _ _ _ _ _ => (sps_one (sp_cmp2 (op_neD (room64 hr)) ne_ok (s2_ee (se_dgetT (room1 hr) (s2_ee (se_var 0) (se_var 2))) (se_int (fr := false)))))) (fun _ _ _ _ _ => (se_tup (sa_cons (se_dgetT (room1 hr) (s2_ee (se_var 0) (se_var 2))) (sa_cons (se_var 2) sa_nil))))) sv_nil)))))
theorem bi_as_poly {f : Addr} {fd : FuncData} (F : FunD K "as_poly" "as_poly" (defArgs s_as_poly) (defBody s_as_poly) (defScope s_as_poly) [] [] f fd) : Binds K fd P_as_poly [] := F.bindsN fun _ _ _ _ _ _ us hl => match us, hl with | [_], _ => rfl
theorem sc_law : FnScope N_law P_law (defScope s_law) := ⟨rfl, rfl, rfl, by decide +kernel, rfl, by decide +kernel, by decide +kernel⟩
theorem ok_law {f : Addr} {fd : FuncData} (B : Blt mg) (h_law_hand : Fn P w K mg base ct "_law_hand" 1 1 [] true F_law_hand) (h_law_draw : Fn P w K mg base ct "_law_draw" 2 2 [0] false F_law_draw) (h_law_poly : Fn P w K mg base ct "_law_poly" 4 4 [0] false F_law_poly) (h_law_number : Fn P w K mg base ct "_law_number" 3 1 [0] false F_law_number) (h_worth : Fn P w K mg base ct "worth" 5 2 [] false F_worth) (h_law_whole : Fn P w K mg base ct "_law_whole" 1 1 [] false F_law_whole) (h_law_worth : Fn P w K mg base ct "_law_worth" 1 2 [] false F_law_worth) (h_plus : Fn P w K mg base ct "plus" 6 2 [] false F_plus) (h_times : Fn P w K mg base ct "times" 6 2 [] false F_times) (h_law_bad : Fn P w K mg base ct "_law_bad" 3 2 [0] false F_law_bad) (h_law_asked : Fn P w K mg base ct "_law_asked" 6 2 [] false F_law_asked) (F : FunD K "law" "law" (defArgs s_law) (defBody s_law) (defScope s_law) [] [] f fd) : FnOk P w K mg base (L2.CX P w) 7 f fd P_law (spF K ct 1 [] false F_law) := def_okD (k := 6) F sc_law rfl fun cdv A outer s H E hid ioA hr =>
  (ss_cons (ss_setO 1 (Γ2 := []) sc_law.nd (se_call0 h_law_hand cx_takes (hr.mono (by decide)) (sa_cons (se_var 0) sa_nil))) (ss_cons (ss_set 2 (Γ2 := [1]) sc_law.nd (se_bin2 (or_or op_add op_add_str) add_ok (s2_ee (se_int (fr := false)) (se_call1 h_law_draw cx_takes (hr.mono (by decide)) (sa_io 1 (sa_cons (se_int (fr := false)) sa_nil)))))) (ss_cons (ss_set 3 (Γ2 := [1]) sc_law.nd (se_int (fr := false))) (ss_cons (ss_if (sp_cmp2 (op_eqD (room64 hr)) eq_ok (s2_ee (se_call1 h_law_draw cx_takes (hr.mono (by decide)) (sa_io 1 (sa_cons (se_int (fr := false)) sa_nil))) (se_int (fr := false)))) (ss_one (ss_set 3 (Γ2 := [1]) sc_law.nd (se_int (fr := false)))) ss_nil) (ss_cons (ss_set 4 (Γ2 := [1]) sc_law.nd (se_int (fr := false))) (ss_cons (ss_if (sp_cmp2 (op_eqD (room64 hr)) eq_ok (s2_ee (se_call1 h_law_draw cx_takes (hr.mono (by decide)) (sa_io 1 (sa_cons (se_int (fr := false)) sa_nil))) (se_int (fr := false)))) (ss_cons (ss_set 2 (Γ2 := [1]) sc_law.nd (se_bin2 op_sub sub_ok (s2_ee (se_int (fr := false)) (se_call1 h_law_draw cx_takes (hr.mono (by decide)) (sa_io 1 (sa_cons (se_int (fr := false)) sa_nil)))))) (ss_cons (ss_set 4 (Γ2 := [1]) sc_law.nd (se_int (fr := false))) (ss_one (ss_set 3 (Γ2 := [1]) sc_law.nd (se_int (fr := false)))))) ss_nil) (ss_cons (ss_set 5 (Γ2 := [1]) sc_law.nd (se_call1 h_law_poly cx_takes (hr.mono (by decide)) (sa_io 1 (sa_cons (se_var 2) (sa_cons (se_var 4) (sa_cons (se_var 3) sa_nil)))))) (ss_cons (ss_set 6 (Γ2 := [1]) sc_law.nd (se_call1 h_law_poly cx_takes (hr.mono (by decide)) (sa_io 1 (sa_cons (se_var 2) (sa_cons (se_var 4) (sa_cons (se_var 3) sa_nil)))))) (ss_cons (ss_if (sp_cmp2 (op_eqD (room64 hr)) eq_ok (s2_ee (se_var 5) (se_tup sa_nil))) (ss_one (ss_set 5 (Γ2 := [1]) sc_law.nd (se_tup (sa_cons (se_tup (sa_cons (se_int (fr := false)) (sa_cons (se_calT call_tuple_of cal_tup B.n_tuple (sv_cons (se_lc rfl sc_law.nd (blkOk_by (own := [("_law_k", 14)]) (by show blkC N_law (defScope s_law) _ _ = true; decide +kernel)) (si_range1 (sa_cons (se_var 2) sa_nil) B.n_range) (fun _ _ _ _ _ => (sg_name 14 sc_law.nd)) (fun _ _ _ _ _ => sps_nil) (fun _ _ _ _ _ => (se_int (fr := false)))) sv_nil)) sa_nil))) sa_nil)))) ss_nil) (ss_cons (ss_let (Γ2 := [1]) (ss_setLc 7 (Γ2 := [1]) rfl sc_law.nd (blkOk_by (own := [("_law_k", 14)]) (by show blkC N_law (defScope s_law) _ _ = true; decide +kernel)) (si_range1 (sa_cons (se_var 2) sa_nil) B.n_range) (fun _ _ _ _ _ => (sg_name 14 sc_law.nd)) (fun _ _ _ _ _ => sps_nil) (fun _ _ _ _ _ => (se_call1 h_law_number (takes_no rfl) (hr.mono (by decide)) (sa_io 1 sa_nil))))) (ss_cons (ss_let (Γ2 := [1]) (ss_setLc 8 (Γ2 := [1]) rfl sc_law.nd (blkOk_by (own := [("_law_number_here", 15)]) (by show blkC N_law (defScope s_law) _ _ = true; decide +kernel)) (si_seq (se_var 7)) (fun _ _ _ _ _ => (sg_name 15 sc_law.nd)) (fun _ _ _ _ _ => sps_nil) (fun _ _ _ _ _ => (se_var 15)))) (ss_cons (ss_set 9 (Γ2 := [1]) sc_law.nd (se_call0 h_worth cx_takes (hr.mono (by decide)) (sa_cons (se_var 5) (sa_cons (se_var 7) sa_nil)))) (ss_cons (ss_set 10 (Γ2 := [1]) sc_law.nd (se_call0 h_worth cx_takes (hr.mono (by decide)) (sa_cons (se_var 6) (sa_cons (se_var 7) sa_nil)))) (ss_cons (ss_if (SW.pt (sw_or (sp_not (sp_val (se_call0 h_law_whole cx_takes (hr.mono (by decide)) (sa_cons (se_var 9) sa_nil)))) (sw_or (sp_not (sp_val (se_call0 h_law_whole cx_takes (hr.mono (by decide)) (sa_cons (se_var 10) sa_nil)))) (sw_or1 (sp_cmp2 (op_neD (room64 hr)) ne_ok (s2_ee (se_var 7) (se_var 8))))))) (ss_one (ss_ret (se_bl (fr := false)))) ss_nil) (ss_cons (ss_if (SW.pt (sw_or (sp_cmp2 (op_neD (room64 hr)) ne_ok (s2_ee (se_var 9) (se_call0 h_law_worth cx_takes (hr.mono (by decide)) (sa_cons (se_var 5) (sa_cons (se_var 8) sa_nil))))) (sw_or1 (sp_cmp2 (op_neD (room64 hr)) ne_ok (s2_ee (se_var 10) (se_call0 h_law_worth cx_takes (hr.mono (by decide)) (sa_cons (se_var 6) (sa_cons (se_var 8) sa_nil)))))))) (ss_one (ss_ret (se_bl (fr := false)))) ss_nil) (ss_cons (ss_if (SW.pt (sw_or (sp_cmp2 (op_neD (room64 hr)) ne_ok (s2_ee (se_call0 h_worth cx_takes (hr.mono (by decide)) (sa_cons (se_call0 h_plus cx_takes (hr.mono (by decide)) (sa_cons (se_var 5) (sa_cons (se_var 6) sa_nil))) (sa_cons (se_var 7) sa_nil))) (se_bin2 (or_or op_add op_add_str) add_ok (s2_ee (se_var 9) (se_var 10))))) (sw_or1 (sp_cmp2 (op_neD (room64 hr)) ne_ok (s2_ee (se_call0 h_worth cx_takes (hr.mono (by decide)) (sa_cons (se_call0 h_times cx_takes (hr.mono (by decide)) (sa_cons (se_var 5) (sa_cons (se_var 6) sa_nil))) (sa_cons (se_var 7) sa_nil))) (se_bin2 (or_or op_mul op_mulW) mul_ok (s2_ee (se_var 9) (se_var 10)))))))) (ss_one (ss_ret (se_bl (fr := false)))) ss_nil) (ss_cons (ss_set 11 (Γ2 := [1]) sc_law.nd (se_call1 h_law_bad cx_takes (hr.mono (by decide)) (sa_io 1 (sa_cons (se_var 8) sa_nil)))) (ss_cons (ss_if (SW.pt (sw_or (sp_cmp2 (op_neD (room64 hr)) ne_ok (s2_ee (se_call0 h_law_asked cx_takes (hr.mono (by decide)) (sa_cons (se_var 5) (sa_cons (se_var 11) sa_nil))) (se_tup (sa_cons (se_str (fr := false)) (sa_cons (se_non (fr := false)) (sa_cons (se_non (fr := false)) sa_nil)))))) (sw_or1 (sp_cmp2 (op_neD (room64 hr)) ne_ok (s2_ee (se_call0 h_law_asked cx_takes (hr.mono (by decide)) (sa_cons (se_lst (sa_cons (se_var 5) sa_nil)) (sa_cons (se_var 11) sa_nil))) (se_tup (sa_cons (se_str (fr := false)) (sa_cons (se_non (fr := false)) (sa_cons (se_int (fr := false)) sa_nil))))))))) (ss_one (ss_ret (se_bl (fr := false)))) ss_nil) (ss_cons (ss_if (SW.pt (sw_or (sp_cmp2 (op_neD (room64 hr)) ne_ok (s2_ee (se_call0 h_law_asked cx_takes (hr.mono (by decide)) (sa_cons (se_var 5) (sa_cons (se_var 7) sa_nil))) (se_tup (sa_cons (se_str (fr := false)) (sa_cons (se_var 9) (sa_cons (se_non (fr := false)) sa_nil)))))) (sw_or1 (sp_cmp2 (op_neD (room64 hr)) ne_ok (s2_ee (se_var 7) (se_var 8)))))) (ss_one (ss_ret (se_bl (fr := false)))) ss_nil) (ss_cons (ss_set 12 (Γ2 := [1]) sc_law.nd (se_call1 h_law_draw cx_takes (hr.mono (by decide)) (sa_io 1 (sa_cons (se_int (fr := false)) sa_nil)))) (ss_cons (ss_set 13 (Γ2 := [1]) sc_law.nd (se_tup (sa_cons (se_str (fr := false)) (sa_cons (se_non (fr := false)) (sa_cons (se_non (fr := false)) sa_nil))))) (ss_cons (ss_if (sp_chain (or_or op_le op_le_str) (or_or op_le op_le_str) le_ok le_ok (se_int (fr := false)) (se_var 12) (se_int (fr := false))) (ss_one (ss_set 13 (Γ2 := [1]) sc_law.nd (se_tup (sa_cons (se_str (fr := false)) (sa_cons (se_int (fr := false)) (sa_cons (se_non (fr := false)) sa_nil)))))) ss_nil) (ss_one (ss_ret (se_cmp2 (op_eqD (room64 hr)) eq_ok (s2_ee (se_call0 h_law_asked cx_takes (hr.mono (by decide)) (sa_cons (se_tup sa_nil) (sa_cons (se_lc rfl sc_law.nd (blkOk_by (own := [("_law_k", 14)]) (by show blkC N_law (defScope s_law) _ _ = true; decide +kernel)) (si_range1 (sa_cons (se_var 12) sa_nil) B.n_range) (fun _ _ _ _ _ => (sg_name 14 sc_law.nd)) (fun _ _ _ _ _ => sps_nil) (fun _ _ _ _ _ => (se_call1 h_law_draw (takes_no rfl) (hr.mono (by decide)) (sa_io 1 (sa_cons (se_int (fr := false)) sa_nil))))) sa_nil))) (se_var 13)))))))))))))))))))))))))))
theorem bi_law {f : Addr} {fd : FuncData} (F : FunD K "law" "law" (defArgs s_law) (defBody s_law) (defScope s_law) [] [] f fd) : Binds K fd P_law [] := F.bindsN fun _ _ _ _ _ _ us hl => match us, hl with | [_], _ => rfl
end
end Wk05
set_option maxHeartbeats 4000000
namespace Wk05
open PySem L2 PySem.Spec PyProof.Rows Ip
section
variable {P : Program} {w : World} {K : PySem.W.Frag} {mg : Str → Option Value} {base : Heap} {ct : Str → Option Addr}
theorem sc_law_tidy : FnScope N_law_tidy P_law_tidy (defScope s_law_tidy) := ⟨rfl, rfl, rfl, by decide +kernel, rfl, by decide +kernel, by decide +kernel⟩
theorem ok_law_tidy {f : Addr} {fd : FuncData} (B : Blt mg)  (F : FunD K "_law_tidy" "_law_tidy" (defArgs s_law_tidy) (defBody s_law_tidy) (defScope s_law_tidy) [] [] f fd) : FnOk P w K mg base (L2.CX P w) 1 f fd P_law_tidy (spF K ct 1 [] false F_law_tidy) := def_okD (k := 0) F sc_law_tidy rfl fun cdv A outer s H E hid ioA hr =>
  (ss_cons (ss_set 1 (Γ2 := []) sc_law_tidy.nd (se_fz (se_sortedR (room64 hr) B.n_sorted (sv_cons (se_lcK 0 rfl sc_law_tidy.nd (blkOk_by (own := [("_law_exponents", 2)]) (by show blkC N_law_tidy (defScope s_law_tidy) _ _ = true; decide +kernel)) (sik_keys 0) (fun _ _ _ _ _ => (sg_name 2 sc_law_tidy.nd)) (fun _ _ _ _ _ => (sps_one (sp_cmp2 (op_neD (room64 hr)) ne_ok (s2_ee (se_dgetT (room1 hr) (s2_ee (se_var 0) (se_var 2))) (se_int (fr := false)))))) (fun _ _ _ _ _ => (se_tup (sa_cons (se_calB (cr_sumT rfl) cal_sumT B.n_sum (sv_cons (se_var 2) sv_nil)) (sa_cons (se_var 2) sa_nil))))) sv_nil)))) (ss_one (ss_ret (se_calT call_tuple_of cal_tup B.n_tuple (sv_cons (se_lc rfl sc_law_tidy.nd (blkOk_by (own := [("_law_pair", 3)]) (by show blkC N_law_tidy (defScope s_law_tidy) _ _ = true; decide +kernel)) (si_seq (se_var 1)) (fun _ _ _ _ _ => (sg_name 3 sc_law_tidy.nd)) (fun _ _ _ _ _ => sps_nil) (fun _ _ _ _ _ => (se_tup (sa_cons (se_dgetT (room1 hr) (s2_ee (se_var 0) (se_ix2 ix_seq ix_ok (s2_ee (se_var 3) (se_int (fr := false)))))) (sa_cons (se_ix2 ix_seq ix_ok (s2_ee (se_var 3) (se_int (fr := false)))) sa_nil))))) sv_nil)))))
theorem bi_law_tidy {f : Addr} {fd : FuncData} (F : FunD K "_law_tidy" "_law_tidy" (defArgs s_law_tidy) (defBody s_law_tidy) (defScope s_law_tidy) [] [] f fd) : Binds K fd P_law_tidy [] := F.bindsN fun _ _ _ _ _ _ us hl => match us, hl with | [_], _ => rfl
theorem sc_power : FnScope N_power P_power (defScope s_power) := ⟨rfl, rfl, rfl, by decide +kernel, rfl, by decide +kernel, by decide +kernel⟩
theorem ok_power {f : Addr} {fd : FuncData} (B : Blt mg)  (F : FunD K "power" "power" (defArgs s_power) (defBody s_power) (defScope s_power) [] [] f fd) : FnOk P w K mg base (L2.CX P w) 1 f fd P_power (spF K ct 2 [] false F_power) := def_okD (k := 0) F sc_power rfl fun cdv A outer s H E hid ioA hr =>
  (ss_cons (ss_set 2 (Γ2 := []) sc_power.nd (se_int (fr := false))) (ss_cons (ss_set 3 (Γ2 := []) sc_power.nd (se_var 0)) (ss_cons (ss_while (fuelI 1) cx_own (sp_cmp2 (or_or op_gt op_gt_str) gt_ok (s2_ee (se_var 1) (se_int (fr := false)))) (ss_cons (ss_if (sp_cmp2 (op_eqD (room64 hr)) eq_ok (s2_ee (se_bin2 op_and and_ok (s2_ee (se_var 1) (se_int (fr := false)))) (se_int (fr := false)))) (ss_one (ss_set 2 (Γ2 := []) sc_power.nd (se_bin2 (or_or op_mul op_mulW) mul_ok (s2_ee (se_var 2) (se_var 3))))) ss_nil) (ss_cons (ss_set 1 (Γ2 := []) sc_power.nd (se_bin2 op_shr shr_ok (s2_ee (se_var 1) (se_int (fr := false))))) (ss_one (ss_if (sp_cmp2 (or_or op_gt op_gt_str) gt_ok (s2_ee (se_var 1) (se_int (fr := false)))) (ss_one (ss_set 3 (Γ2 := []) sc_power.nd (se_bin2 (or_or op_mul op_mulW) mul_ok (s2_ee (se_var 3) (se_var 3))))) ss_nil))))) (ss_one (ss_ret (se_var 2))))))
theorem bi_power {f : Addr} {fd : FuncData} (F : FunD K "power" "power" (defArgs s_power) (defBody s_power) (defScope s_power) [] [] f fd) : Binds K fd P_power [] := F.bindsN fun _ _ _ _ _ _ us hl => match us, hl with | [_, _], _ => rfl
theorem sc_added_polys : FnScope N_added_polys P_added_polys (defScope s_added_polys) := ⟨rfl, rfl, rfl, by decide +kernel, rfl, by decide +kernel, by decide +kernel⟩
theorem ok_added_polys {f : Addr} {fd : FuncData} (B : Blt mg) (h_as_dict : Fn P w K mg base ct "as_dict" 1 1 [] true F_as_dict) (h_as_poly : Fn P w K mg base ct "as_poly" 4 1 [] false F_as_poly) (F : FunD K "added_polys" "added_polys" (defArgs s_added_polys) (defBody s_added_polys) (defScope s_added_polys) [] [] f fd) : FnOk P w K mg base (L2.CX P w) 5 f fd P_added_polys (spF K ct 2 [] false F_added_polys) := def_okD (k := 4) F sc_added_polys rfl fun cdv A outer s H E hid ioA hr =>
  (ss_cons (ss_setO 2 (Γ2 := []) sc_added_polys.nd (se_call0 h_as_dict cx_takes (hr.mono (by decide)) (sa_cons (se_var 0) sa_nil))) (ss_cons (ss_for cx_own rfl (si_seq (se_var 1)) (sg_tup rfl (sgs_cons (sg_name 3 sc_added_polys.nd) (sgs_cons (sg_name 4 sc_added_polys.nd) sgs_nil))) (ss_one (ss_asg (se_bin2 (or_or op_add op_add_str) add_ok (s2_ee (se_getT 2 (room1 hr) (se_var 4) (se_int (fr := false))) (se_var 3))) (sg_dt (W := Wn) 2 (room1 hr) (se_var 4))))) (ss_one (ss_ret (se_call0 h_as_poly cx_takes (hr.mono (by decide)) (sa_cons (se_varF 2 []) sa_nil))))))
theorem bi_added_polys {f : Addr} {fd : FuncData} (F : FunD K "added_polys" "added_polys" (defArgs s_added_polys) (defBody s_added_polys) (defScope s_added_polys) [] [] f fd) : Binds K fd P_added_polys [] := F.bindsN fun _ _ _ _ _ _ us hl => match us, hl with | [_, _], _ => rfl
end
end Wk05
set_option maxHeartbeats 4000000
namespace Wk05
open PySem L2 PySem.Spec PyProof.Rows Ip
section
variable {P : Program} {w : World} {K : PySem.W.Frag} {mg : Str → Option Value} {base : Heap} {ct : Str → Option Addr}
theorem sc_law_poly : FnScope N_law_poly P_law_poly (defScope s_law_poly) := ⟨rfl, rfl, rfl, by decide +kernel, rfl, by decide +kernel, by decide +kernel⟩
theorem ok_law_poly {f : Addr} {fd : FuncData} (B : Blt mg) (h_law_draw : Fn P w K mg base ct "_law_draw" 2 2 [0] false F_law_draw) (h_law_number : Fn P w K mg base ct "_law_number" 3 1 [0] false F_law_number) (h_law_tidy : Fn P w K mg base ct "_law_tidy" 1 1 [] false F_law_tidy) (F : FunD K "_law_poly" "_law_poly" (defArgs s_law_poly) (defBody s_law_poly) (defScope s_law_poly) [] [] f fd) : FnOk P w K mg base (L2.CX P w) 4 f fd P_law_poly (spF K ct 4 [0] false F_law_poly) := def_okD (k := 3) F sc_law_poly rfl fun cdv A outer s H E hid ioA hr =>
  (ss_cons (ss_setO 4 (Γ2 := [0]) sc_law_poly.nd se_dnewT) (ss_cons (ss_for cx_own rfl (si_range1 (sa_cons (se_call1 h_law_draw cx_takes (hr.mono (by decide)) (sa_io 0 (sa_cons (se_bin2 (or_or op_add op_add_str) add_ok (s2_ee (se_var 2) (se_int (fr := false)))) sa_nil))) sa_nil) B.n_range) (sg_name 5 sc_law_poly.nd) (ss_cons (ss_set 6 (Γ2 := [4, 0]) sc_law_poly.nd (se_calT call_tuple_of cal_tup B.n_tuple (sv_cons (se_lc rfl sc_law_poly.nd (blkOk_by (own := [("_law_place", 7)]) (by show blkC N_law_poly (defScope s_law_poly) _ _ = true; decide +kernel)) (si_range1 (sa_cons (se_var 1) sa_nil) B.n_range) (fun _ _ _ _ _ => (sg_name 7 sc_law_poly.nd)) (fun _ _ _ _ _ => sps_nil) (fun _ _ _ _ _ => (se_call1 h_law_draw (takes_no rfl) (hr.mono (by decide)) (sa_io 0 (sa_cons (se_bin2 (or_or op_add op_add_str) add_ok (s2_ee (se_var 3) (se_int (fr := false)))) sa_nil))))) sv_nil))) (ss_one (ss_asg (se_call1 h_law_number cx_takes (hr.mono (by decide)) (sa_io 0 sa_nil)) (sg_dt (W := Wn) 4 (room1 hr) (se_var 6)))))) (ss_one (ss_ret (se_call0 h_law_tidy cx_takes (hr.mono (by decide)) (sa_cons (se_varF 4 [0]) sa_nil))))))
theorem bi_law_poly {f : Addr} {fd : FuncData} (F : FunD K "_law_poly" "_law_poly" (defArgs s_law_poly) (defBody s_law_poly) (defScope s_law_poly) [] [] f fd) : Binds K fd P_law_poly [] := F.bindsN fun _ _ _ _ _ _ us hl => match us, hl with | [_, _, _, _], _ => rfl
theorem sc_value : FnScope N_value P_value (defScope s_value) := ⟨rfl, rfl, rfl, by decide +kernel, rfl, by decide +kernel, by decide +kernel⟩
theorem ok_value {f : Addr} {fd : FuncData} (B : Blt mg) (h_power : Fn P w K mg base ct "power" 1 2 [] false F_power) (F : FunD K "value" "value" (defArgs s_value) (defBody s_value) (defScope s_value) [] [] f fd) : FnOk P w K mg base (L2.CX P w) 2 f fd P_value (spF K ct 2 [] false F_value) := def_okD (k := 1) F sc_value rfl fun cdv A outer s H E hid ioA hr =>
  (ss_cons (ss_set 2 (Γ2 := []) sc_value.nd (se_int (fr := false))) (ss_cons (ss_for cx_own rfl (si_seq (se_var 0)) (sg_tup rfl (sgs_cons (sg_name 3 sc_value.nd) (sgs_cons (sg_name 4 sc_value.nd) sgs_nil))) (ss_cons (ss_set 5 (Γ2 := []) sc_value.nd (se_var 3)) (ss_cons (ss_for cx_own rfl (si_zipM (sa_cons (se_var 1) (sa_cons (se_var 4) sa_nil)) B.n_zip) (sg_tup rfl (sgs_cons (sg_name 6 sc_value.nd) (sgs_cons (sg_name 7 sc_value.nd) sgs_nil))) (ss_one (ss_if (sp_cmp2 (or_or op_gt op_gt_str) gt_ok (s2_ee (se_var 7) (se_int (fr := false)))) (ss_one (ss_set 5 (Γ2 := []) sc_value.nd (se_bin2 (or_or op_mul op_mulW) mul_ok (s2_ee (se_var 5) (se_call0 h_power cx_takes (hr.mono (by decide)) (sa_cons (se_var 6) (sa_cons (se_var 7) sa_nil))))))) ss_nil))) (ss_one (ss_set 2 (Γ2 := []) sc_value.nd (se_bin2 (or_or op_add op_add_str) add_ok (s2_ee (se_var 2) (se_var 5)))))))) (ss_one (ss_ret (se_var 2)))))
theorem bi_value {f : Addr} {fd : FuncData} (F : FunD K "value" "value" (defArgs s_value) (defBody s_value) (defScope s_value) [] [] f fd) : Binds K fd P_value [] := F.bindsN fun _ _ _ _ _ _ us hl => match us, hl with | [_, _], _ => rfl
theorem sc_plus : FnScope N_plus P_plus (defScope s_plus) := ⟨rfl, rfl, rfl, by decide +kernel, rfl, by decide +kernel, by decide +kernel⟩
theorem ok_plus {f : Addr} {fd : FuncData} (B : Blt mg) (h_check_two : Fn P w K mg base ct "check_two" 5 2 [] false F_check_two) (h_added_polys : Fn P w K mg base ct "added_polys" 5 2 [] false F_added_polys) (F : FunD K "plus" "plus" (defArgs s_plus) (defBody s_plus) (defScope s_plus) [] [] f fd) : FnOk P w K mg base (L2.CX P w) 6 f fd P_plus (spF K ct 2 [] false F_plus) := def_okD (k := 5) F sc_plus rfl fun cdv A outer s H E hid ioA hr =>
  (ss_cons (ss_expr (se_call0 h_check_two cx_takes (hr.mono (by decide)) (sa_cons (se_var 0) (sa_cons (se_var 1) sa_nil)))) (ss_one (ss_ret (se_call0 h_added_polys cx_takes (hr.mono (by decide)) (sa_cons (se_var 0) (sa_cons (se_var 1) sa_nil))))))
theorem bi_plus {f : Addr} {fd : FuncData} (F : FunD K "plus" "plus" (defArgs s_plus) (defBody s_plus) (defScope s_plus) [] [] f fd) : Binds K fd P_plus [] := F.bindsN fun _ _ _ _ _ _ us hl => match us, hl with | [_, _], _ => rfl
end
end Wk05
set_option maxHeartbeats 4000000
namespace Wk05
open PySem L2 PySem.Spec PyProof.Rows Ip
section
variable {P : Program} {w : World} {K : PySem.W.Frag} {mg : Str → Option Value} {base : Heap} {ct : Str → Option Addr}
theorem sc_is_integer : FnScope N_is_integer P_is_integer (defScope s_is_integer) := ⟨rfl, rfl, rfl, by decide +kernel, rfl, by decide +kernel, by decide +kernel⟩
theorem ok_is_integer {f : Addr} {fd : FuncData} (B : Blt mg)  (F : FunD K "is_integer" "is_integer" (defArgs s_is_integer) (defBody s_is_integer) (defScope s_is_integer) [] [] f fd) : FnOk P w K mg base (L2.CX P w) 1 f fd P_is_integer (spF K ct 1 [] false F_is_integer) := def_okD (k := 0) F sc_is_integer rfl fun cdv A outer s H E hid ioA hr =>
  (ss_one (ss_ret (se_and (se_isi (se_var 0) kb_int B.n_isinstance B.n_int) (se_one (se_not (fr := false) (se_isi (se_var 0) kb_bool B.n_isinstance B.n_bool))))))
theorem bi_is_integer {f : Addr} {fd : FuncData} (F : FunD K "is_integer" "is_integer" (defArgs s_is_integer) (defBody s_is_integer) (defScope s_is_integer) [] [] f fd) : Binds K fd P_is_integer [] := F.bindsN fun _ _ _ _ _ _ us hl => match us, hl with | [_], _ => rfl
theorem sc_worth : FnScope N_worth P_worth (defScope s_worth) := ⟨rfl, rfl, rfl, by decide +kernel, rfl, by decide +kernel, by decide +kernel⟩
theorem ok_worth {f : Addr} {fd : FuncData} (B : Blt mg) (h_check_poly : Fn P w K mg base ct "check_poly" 4 2 [] false F_check_poly) (h_fits_many : Fn P w K mg base ct "fits_many" 1 2 [] false F_fits_many) (h_is_integer : Fn P w K mg base ct "is_integer" 1 1 [] false F_is_integer) (h_value : Fn P w K mg base ct "value" 2 2 [] false F_value) (h_er_NoValues : Er K mg ct "NoValues") (F : FunD K "worth" "worth" (defArgs s_worth) (defBody s_worth) (defScope s_worth) [] [] f fd) : FnOk P w K mg base (L2.CX P w) 5 f fd P_worth (spF K ct 2 [] false F_worth) := def_okD (k := 4) F sc_worth rfl fun cdv A outer s H E hid ioA hr =>
  (ss_cons (ss_set 2 (Γ2 := []) sc_worth.nd (se_call0 h_check_poly cx_takes (hr.mono (by decide)) (sa_cons (se_var 0) (sa_cons (se_int (fr := false)) sa_nil)))) (ss_cons (ss_if (SW.pt (sw_or (sp_not (sp_val (se_isi (se_var 1) kb_list B.n_isinstance B.n_list))) (sw_or1 (sp_not (sp_val (se_call0 h_fits_many cx_takes (hr.mono (by decide)) (sa_cons (se_calB call_len cal_len B.n_len (sv_cons (se_var 1) sv_nil)) (sa_cons (se_var 2) sa_nil)))))))) (ss_one (ss_raise h_er_NoValues rfl cx_takes)) ss_nil) (ss_cons (ss_for cx_own rfl (si_seq (se_var 1)) (sg_name 3 sc_worth.nd) (ss_one (ss_if (sp_not (sp_val (se_call0 h_is_integer cx_takes (hr.mono (by decide)) (sa_cons (se_var 3) sa_nil)))) (ss_one (ss_raise h_er_NoValues rfl cx_takes)) ss_nil))) (ss_one (ss_ret (se_call0 h_value cx_takes (hr.mono (by decide)) (sa_cons (se_var 0) (sa_cons (se_var 1) sa_nil))))))))
theorem bi_worth {f : Addr} {fd : FuncData} (F : FunD K "worth" "worth" (defArgs s_worth) (defBody s_worth) (defScope s_worth) [] [] f fd) : Binds K fd P_worth [] := F.bindsN fun _ _ _ _ _ _ us hl => match us, hl with | [_, _], _ => rfl
theorem sc_dict_product : FnScope N_dict_product P_dict_product (defScope s_dict_product) := ⟨rfl, rfl, rfl, by decide +kernel, rfl, by decide +kernel, by decide +kernel⟩
theorem ok_dict_product {f : Addr} {fd : FuncData} (B : Blt mg)  (F : FunD K "dict_product" "dict_product" (defArgs s_dict_product) (defBody s_dict_product) (defScope s_dict_product) [] [] f fd) : FnOk P w K mg base (L2.CX P w) 1 f fd P_dict_product (spF K ct 2 [] false F_dict_product) := def_okD (k := 0) F sc_dict_product rfl fun cdv A outer s H E hid ioA hr =>
  (ss_cons (ss_setO 2 (Γ2 := []) sc_dict_product.nd se_dnewT) (ss_cons (ss_forK 0 cx_own rfl (sik_items 0) (sg_tup rfl (sgs_cons (sg_name 3 sc_dict_product.nd) (sgs_cons (sg_name 4 sc_dict_product.nd) sgs_nil))) (ss_one (ss_forK 1 cx_own rfl (sik_items 1) (sg_tup rfl (sgs_cons (sg_name 5 sc_dict_product.nd) (sgs_cons (sg_name 6 sc_dict_product.nd) sgs_nil))) (ss_cons (ss_set 7 (Γ2 := [2]) sc_dict_product.nd (se_calT call_tuple_of cal_tup B.n_tuple (sv_cons (se_lc rfl sc_dict_product.nd (blkOk_by (own := [("x", 8), ("y", 9)]) (by show blkC N_dict_product (defScope s_dict_product) _ _ = true; decide +kernel)) (si_zipT (sa_cons (se_var 3) (sa_cons (se_var 5) sa_nil)) B.n_zip) (fun _ _ _ _ _ => (sg_tup rfl (sgs_cons (sg_name 8 sc_dict_product.nd) (sgs_cons (sg_name 9 sc_dict_product.nd) sgs_nil)))) (fun _ _ _ _ _ => sps_nil) (fun _ _ _ _ _ => (se_bin2 (or_or op_add op_add_str) add_ok (s2_ee (se_var 8) (se_var 9))))) sv_nil))) (ss_one (ss_asg (se_bin2 (or_or op_add op_add_str) add_ok (s2_ee (se_getT 2 (room1 hr) (se_var 7) (se_int (fr := false))) (se_bin2 (or_or op_mul op_mulW) mul_ok (s2_ee (se_var 4) (se_var 6))))) (sg_dt (W := Wn) 2 (room1 hr) (se_var 7)))))))) (ss_one (ss_ret (se_fz (se_pre (Γ2 := []) (se_dcK 2 (room0 hr) rfl sc_dict_product.nd (blkOk_by (own := [("exponents", 7)]) (by show blkC N_dict_product (defScope s_dict_product) _ _ = true; decide +kernel)) (sik_keys 2) (fun _ _ _ _ _ => (sg_name 7 sc_dict_product.nd)) (fun _ _ _ _ _ => (sps_one (sp_cmp2 (op_neD (room64 hr)) ne_ok (s2_ee (se_dgetT (room1 hr) (s2_ee (se_var 2) (se_var 7))) (se_int (fr := false)))))) (fun _ _ _ _ _ => (se_var 7)) (fun _ _ _ _ _ => (se_dgetT (room1 hr) (s2_ee (se_var 2) (se_var 7)))))))))))
theorem bi_dict_product {f : Addr} {fd : FuncData} (F : FunD K "dict_product" "dict_product" (defArgs s_dict_product) (defBody s_dict_product) (defScope s_dict_product) [] [] f fd) : Binds K fd P_dict_product [] := F.bindsN fun _ _ _ _ _ _ us hl => match us, hl with | [_, _], _ => rfl
end
end Wk05
set_option maxHeartbeats 4000000
namespace Wk05
open PySem L2 PySem.Spec PyProof.Rows Ip
section
variable {P : Program} {w : World} {K : PySem.W.Frag} {mg : Str → Option Value} {base : Heap} {ct : Str → Option Addr}
theorem sc_term_size : FnScope N_term_size P_term_size (defScope s_term_size) := ⟨rfl, rfl, rfl, by decide +kernel, rfl, by decide +kernel, by decide +kernel⟩
theorem ok_term_size {f : Addr} {fd : FuncData} (B : Blt mg) (h_is_integer : Fn P w K mg base ct "is_integer" 1 1 [] false F_is_integer) (h_con_MOST_VARIABLES : ∃ t, mg "MOST_VARIABLES" = some (.int 40 t)) (F : FunD K "term_size" "term_size" (defArgs s_term_size) (defBody s_term_size) (defScope s_term_size) [] [] f fd) : FnOk P w K mg base (L2.CX P w) 2 f fd P_term_size (spF K ct 1 [] false F_term_size) := def_okD (k := 1) F sc_term_size rfl fun cdv A outer s H E hid ioA hr =>
  (ss_cons (ss_if (SW.pt (sw_or (sp_not (sp_val (se_isi (se_var 0) kb_tuple B.n_isinstance B.n_tuple))) (sw_or1 (sp_cmp2 (op_neD (room64 hr)) ne_ok (s2_ee (se_calB call_len cal_len B.n_len (sv_cons (se_var 0) sv_nil)) (se_int (fr := false))))))) (ss_one (ss_ret (se_neg (se_int (fr := false))))) ss_nil) (ss_cons (ss_asg (se_var 0) (sg_tup rfl (sgs_cons (sg_name 1 sc_term_size.nd) (sgs_cons (sg_name 2 sc_term_size.nd) sgs_nil)))) (ss_cons (ss_if (SW.pt (sw_or (sp_not (sp_val (se_call0 h_is_integer cx_takes (hr.mono (by decide)) (sa_cons (se_var 1) sa_nil)))) (sw_or1 (sp_cmp2 (op_eqD (room64 hr)) eq_ok (s2_ee (se_var 1) (se_int (fr := false))))))) (ss_one (ss_ret (se_neg (se_int (fr := false))))) ss_nil) (ss_cons (ss_if (SW.pt (sw_or (sp_not (sp_val (se_isi (se_var 2) kb_tuple B.n_isinstance B.n_tuple))) (sw_or1 (sp_not (sp_chain (or_or op_le op_le_str) (or_or op_le op_le_str) le_ok le_ok (se_int (fr := false)) (se_calB call_len cal_len B.n_len (sv_cons (se_var 2) sv_nil)) (se_gint (fr := false) h_con_MOST_VARIABLES)))))) (ss_one (ss_ret (se_neg (se_int (fr := false))))) ss_nil) (ss_cons (ss_for cx_own rfl (si_seq (se_var 2)) (sg_name 3 sc_term_size.nd) (ss_one (ss_if (SW.pt (sw_or (sp_not (sp_val (se_call0 h_is_integer cx_takes (hr.mono (by decide)) (sa_cons (se_var 3) sa_nil)))) (sw_or1 (sp_cmp2 (or_or op_lt op_lt_str) lt_ok (s2_ee (se_var 3) (se_int (fr := false))))))) (ss_one (ss_ret (se_neg (se_int (fr := false))))) ss_nil))) (ss_one (ss_ret (se_calB call_len cal_len B.n_len (sv_cons (se_var 2) sv_nil)))))))))
theorem bi_term_size {f : Addr} {fd : FuncData} (F : FunD K "term_size" "term_size" (defArgs s_term_size) (defBody s_term_size) (defScope s_term_size) [] [] f fd) : Binds K fd P_term_size [] := F.bindsN fun _ _ _ _ _ _ us hl => match us, hl with | [_], _ => rfl
theorem sc_law_whole : FnScope N_law_whole P_law_whole (defScope s_law_whole) := ⟨rfl, rfl, rfl, by decide +kernel, rfl, by decide +kernel, by decide +kernel⟩
theorem ok_law_whole {f : Addr} {fd : FuncData} (B : Blt mg)  (F : FunD K "_law_whole" "_law_whole" (defArgs s_law_whole) (defBody s_law_whole) (defScope s_law_whole) [] [] f fd) : FnOk P w K mg base (L2.CX P w) 1 f fd P_law_whole (spF K ct 1 [] false F_law_whole) := def_okD (k := 0) F sc_law_whole rfl fun cdv A outer s H E hid ioA hr =>
  (ss_one (ss_ret (se_and (se_isi (se_var 0) kb_int B.n_isinstance B.n_int) (se_one (se_not (fr := false) (se_isi (se_var 0) kb_bool B.n_isinstance B.n_bool))))))
theorem bi_law_whole {f : Addr} {fd : FuncData} (F : FunD K "_law_whole" "_law_whole" (defArgs s_law_whole) (defBody s_law_whole) (defScope s_law_whole) [] [] f fd) : Binds K fd P_law_whole [] := F.bindsN fun _ _ _ _ _ _ us hl => match us, hl with | [_], _ => rfl
theorem sc_product : FnScope N_product P_product (defScope s_product) := ⟨rfl, rfl, rfl, by decide +kernel, rfl, by decide +kernel, by decide +kernel⟩
theorem ok_product {f : Addr} {fd : FuncData} (B : Blt mg) (h_as_poly : Fn P w K mg base ct "as_poly" 4 1 [] false F_as_poly) (h_dict_product : Fn P w K mg base ct "dict_product" 1 2 [] false F_dict_product) (h_as_dict : Fn P w K mg base ct "as_dict" 1 1 [] true F_as_dict) (F : FunD K "product" "product" (defArgs s_product) (defBody s_product) (defScope s_product) [] [] f fd) : FnOk P w K mg base (L2.CX P w) 5 f fd P_product (spF K ct 2 [] false F_product) := def_okD (k := 4) F sc_product rfl fun cdv A outer s H E hid ioA hr =>
  (ss_one (ss_ret (se_call0 h_as_poly cx_takes (hr.mono (by decide)) (sa_cons (se_call0 h_dict_product cx_takes (hr.mono (by decide)) (sa_cons (se_call0 h_as_dict cx_takes (hr.mono (by decide)) (sa_cons (se_var 0) sa_nil)) (sa_cons (se_call0 h_as_dict cx_takes (hr.mono (by decide)) (sa_cons (se_var 1) sa_nil)) sa_nil))) sa_nil))))
theorem bi_product {f : Addr} {fd : FuncData} (F : FunD K "product" "product" (defArgs s_product) (defBody s_product) (defScope s_product) [] [] f fd) : Binds K fd P_product [] := F.bindsN fun _ _ _ _ _ _ us hl => match us, hl with | [_, _], _ => rfl
end
end Wk05
set_option maxHeartbeats 0
namespace Wk05
open PySem L2 PySem.Spec PyProof.Rows Ip
abbrev ctK (K : PySem.W.Frag) : Str → Option Addr := fun c => some (He.ga K c)
theorem facts {P : Program} {w : World} {K : PySem.W.Frag} {h : Heap} {mg : Str → Option Value} {f : Addr} (X : K.In h) (G : h.Ns mainGlobals mg) (hfa : mg ("law" : Str) = some (.ref f)) (c : SaysX fas fns xss K) (hfile : P.main.file = FILE) (htop : (P.main.scope.names.lookup ("super" : Str)).isSome = false) :
    ∃ fd : FuncData, (∀ (s : Shared) (v : Value), BindsTo s fd ⟨[v], []⟩ [("_law_script", v)]) ∧ ∀ base : Heap, FnOk P w K mg base (L2.CX P w) 7 f fd P_law (spF K (ctK K) 1 [] false F_law) := by
  have cd := c.d
  have B : Blt mg := ⟨He.free_ok X G (cd.fact 30 (f := .free "abs") rfl), He.free_ok X G (cd.fact 31 (f := .free "bool") rfl), He.free_ok X G (cd.fact 32 (f := .free "int") rfl), He.free_ok X G (cd.fact 33 (f := .free "isinstance") rfl), He.free_ok X G (cd.fact 34 (f := .free "len") rfl), He.free_ok X G (cd.fact 35 (f := .free "list") rfl), He.free_ok X G (cd.fact 36 (f := .free "range") rfl), He.free_ok X G (cd.fact 37 (f := .free "sorted") rfl), He.free_ok X G (cd.fact 38 (f := .free "sum") rfl), He.free_ok X G (cd.fact 39 (f := .free "tuple") rfl), He.free_ok X G (cd.fact 40 (f := .free "zip") rfl)⟩
  have g_law_hand := He.glo_ok X G (cd.fact 0 (f := .glo "_law_hand") rfl)
  have g_law_mixed := He.glo_ok X G (cd.fact 1 (f := .glo "_law_mixed") rfl)
  have g_law_draw := He.glo_ok X G (cd.fact 2 (f := .glo "_law_draw") rfl)
  have g_law_number := He.glo_ok X G (cd.fact 3 (f := .glo "_law_number") rfl)
  have g_law_tidy := He.glo_ok X G (cd.fact 4 (f := .glo "_law_tidy") rfl)
  have g_law_poly := He.glo_ok X G (cd.fact 5 (f := .glo "_law_poly") rfl)
  have g_is_integer := He.glo_ok X G (cd.fact 6 (f := .glo "is_integer") rfl)
  have g_term_size := He.glo_ok X G (cd.fact 7 (f := .glo "term_size") rfl)
  have g_degree_key := He.glo_ok X G (cd.fact 8 (f := .glo "degree_key") rfl)
  have g_poly_size := He.glo_ok X G (cd.fact 9 (f := .glo "poly_size") rfl)
  have g_check_poly := He.glo_ok X G (cd.fact 10 (f := .glo "check_poly") rfl)
  have g_fits_many := He.glo_ok X G (cd.fact 11 (f := .glo "fits_many") rfl)
  have g_power := He.glo_ok X G (cd.fact 12 (f := .glo "power") rfl)
  have g_value := He.glo_ok X G (cd.fact 13 (f := .glo "value") rfl)
  have g_worth := He.glo_ok X G (cd.fact 14 (f := .glo "worth") rfl)
  have g_law_whole := He.glo_ok X G (cd.fact 15 (f := .glo "_law_whole") rfl)
  have g_law_worth := He.glo_ok X G (cd.fact 16 (f := .glo "_law_worth") rfl)
  have g_check_two := He.glo_ok X G (cd.fact 17 (f := .glo "check_two") rfl)
  have g_as_dict := He.glo_ok X G (cd.fact 18 (f := .glo "as_dict") rfl)
  have g_as_poly := He.glo_ok X G (cd.fact 19 (f := .glo "as_poly") rfl)
  have g_added_polys := He.glo_ok X G (cd.fact 20 (f := .glo "added_polys") rfl)
  have g_plus := He.glo_ok X G (cd.fact 21 (f := .glo "plus") rfl)
  have g_dict_product := He.glo_ok X G (cd.fact 22 (f := .glo "dict_product") rfl)
  have g_product := He.glo_ok X G (cd.fact 23 (f := .glo "product") rfl)
  have g_times := He.glo_ok X G (cd.fact 24 (f := .glo "times") rfl)
  have g_law_bad := He.glo_ok X G (cd.fact 25 (f := .glo "_law_bad") rfl)
  have g_law_asked := He.glo_ok X G (cd.fact 26 (f := .glo "_law_asked") rfl)
  have g_law := He.glo_ok X G (cd.fact 27 (f := .glo "law") rfl)
  have g_NoPolynomial := He.glo_ok X G (cd.fact 28 (f := .glo "NoPolynomial") rfl)
  have g_NoValues := He.glo_ok X G (cd.fact 29 (f := .glo "NoValues") rfl)
  obtain ⟨fd_law_hand, t_law_hand⟩ := cd.def_ 0 (d := d_law_hand) rfl
  obtain ⟨fd_law_mixed, t_law_mixed⟩ := cd.def_ 1 (d := d_law_mixed) rfl
  obtain ⟨fd_law_draw, t_law_draw⟩ := cd.def_ 2 (d := d_law_draw) rfl
  obtain ⟨fd_law_number, t_law_number⟩ := cd.def_ 3 (d := d_law_number) rfl
  obtain ⟨fd_law_tidy, t_law_tidy⟩ := cd.def_ 4 (d := d_law_tidy) rfl
  obtain ⟨fd_law_poly, t_law_poly⟩ := cd.def_ 5 (d := d_law_poly) rfl
  obtain ⟨fd_is_integer, t_is_integer⟩ := cd.def_ 6 (d := d_is_integer) rfl
  obtain ⟨fd_term_size, t_term_size⟩ := cd.def_ 7 (d := d_term_size) rfl
  obtain ⟨fd_degree_key, t_degree_key⟩ := cd.def_ 8 (d := d_degree_key) rfl
  obtain ⟨fd_poly_size, t_poly_size⟩ := cd.def_ 9 (d := d_poly_size) rfl
  obtain ⟨fd_check_poly, t_check_poly⟩ := cd.def_ 10 (d := d_check_poly) rfl
  obtain ⟨fd_fits_many, t_fits_many⟩ := cd.def_ 11 (d := d_fits_many) rfl
  obtain ⟨fd_power, t_power⟩ := cd.def_ 12 (d := d_power) rfl
  obtain ⟨fd_value, t_value⟩ := cd.def_ 13 (d := d_value) rfl
  obtain ⟨fd_worth, t_worth⟩ := cd.def_ 14 (d := d_worth) rfl
  obtain ⟨fd_law_whole, t_law_whole⟩ := cd.def_ 15 (d := d_law_whole) rfl
  obtain ⟨fd_law_worth, t_law_worth⟩ := cd.def_ 16 (d := d_law_worth) rfl
  obtain ⟨fd_check_two, t_check_two⟩ := cd.def_ 17 (d := d_check_two) rfl
  obtain ⟨fd_as_dict, t_as_dict⟩ := cd.def_ 18 (d := d_as_dict) rfl
  obtain ⟨fd_as_poly, t_as_poly⟩ := cd.def_ 19 (d := d_as_poly) rfl
  obtain ⟨fd_added_polys, t_added_polys⟩ := cd.def_ 20 (d := d_added_polys) rfl
  obtain ⟨fd_plus, t_plus⟩ := cd.def_ 21 (d := d_plus) rfl
  obtain ⟨fd_dict_product, t_dict_product⟩ := cd.def_ 22 (d := d_dict_product) rfl
  obtain ⟨fd_product, t_product⟩ := cd.def_ 23 (d := d_product) rfl
  obtain ⟨fd_times, t_times⟩ := cd.def_ 24 (d := d_times) rfl
  obtain ⟨fd_law_bad, t_law_bad⟩ := cd.def_ 25 (d := d_law_bad) rfl
  obtain ⟨fd_law_asked, t_law_asked⟩ := cd.def_ 26 (d := d_law_asked) rfl
  obtain ⟨fd_law, t_law⟩ := cd.def_ 27 (d := d_law) rfl
  have ec_NoValues := He.exc_ok (cd.fact 41 (f := .exc "NoValues") rfl)
  have h_er_NoValues : Er K mg (ctK K) "NoValues" := ⟨_, "ValueError", "ValueError.__new__", _, He.veBase, rfl, PySem.F.excBase_ValueError, ec_NoValues.1, g_NoValues, ec_NoValues.2.1, ec_NoValues.2.2.1, ec_NoValues.2.2.2⟩
  have e := hfa.symm.trans g_law
  cases e
  refine ⟨fd_law, fun s v => FunD.bindsA (ps := P_law) t_law (fun _ _ _ _ _ _ us hl => match us, hl with | [_], _ => rfl) s [v] rfl, fun base => ?_⟩
  have h_con_MOST_VARIABLES := He.int_ok X G (cd.fact 43 (f := .int "MOST_VARIABLES" 40) rfl)
  have h_erf_NoPolynomial : ∀ base : Heap, ErF P w K mg base (ctK K) "NoPolynomial" "index" := fun base => erF_of (v := "index") (by rw [hfile]; exact c.x 0 (x := supK FILE "NoPolynomial" "index" "index") rfl) htop g_NoPolynomial
  have h_law_hand : Fn P w K mg base (ctK K) "_law_hand" 1 1 [] true F_law_hand := ⟨_, _, _, ok_law_hand (w := w) (base := base) (ct := ctK K) B  t_law_hand, g_law_hand, t_law_hand.kp, bi_law_hand t_law_hand⟩
  have h_law_mixed : Fn P w K mg base (ctK K) "_law_mixed" 1 2 [] false F_law_mixed := ⟨_, _, _, ok_law_mixed (w := w) (base := base) (ct := ctK K) B  t_law_mixed, g_law_mixed, t_law_mixed.kp, bi_law_mixed t_law_mixed⟩
  have h_law_draw : Fn P w K mg base (ctK K) "_law_draw" 2 2 [0] false F_law_draw := ⟨_, _, _, ok_law_draw (w := w) (base := base) (ct := ctK K) B h_law_mixed t_law_draw, g_law_draw, t_law_draw.kp, bi_law_draw t_law_draw⟩
  have h_law_number : Fn P w K mg base (ctK K) "_law_number" 3 1 [0] false F_law_number := ⟨_, _, _, ok_law_number (w := w) (base := base) (ct := ctK K) B h_law_draw t_law_number, g_law_number, t_law_number.kp, bi_law_number t_law_number⟩
  have h_law_tidy : Fn P w K mg base (ctK K) "_law_tidy" 1 1 [] false F_law_tidy := ⟨_, _, _, ok_law_tidy (w := w) (base := base) (ct := ctK K) B  t_law_tidy, g_law_tidy, t_law_tidy.kp, bi_law_tidy t_law_tidy⟩
  have h_law_poly : Fn P w K mg base (ctK K) "_law_poly" 4 4 [0] false F_law_poly := ⟨_, _, _, ok_law_poly (w := w) (base := base) (ct := ctK K) B h_law_draw h_law_number h_law_tidy t_law_poly, g_law_poly, t_law_poly.kp, bi_law_poly t_law_poly⟩
  have h_is_integer : Fn P w K mg base (ctK K) "is_integer" 1 1 [] false F_is_integer := ⟨_, _, _, ok_is_integer (w := w) (base := base) (ct := ctK K) B  t_is_integer, g_is_integer, t_is_integer.kp, bi_is_integer t_is_integer⟩
  have h_term_size : Fn P w K mg base (ctK K) "term_size" 2 1 [] false F_term_size := ⟨_, _, _, ok_term_size (w := w) (base := base) (ct := ctK K) B h_is_integer h_con_MOST_VARIABLES t_term_size, g_term_size, t_term_size.kp, bi_term_size t_term_size⟩
  have h_degree_key : Fn P w K mg base (ctK K) "degree_key" 1 1 [] false F_degree_key := ⟨_, _, _, ok_degree_key (w := w) (base := base) (ct := ctK K) B  t_degree_key, g_degree_key, t_degree_key.kp, bi_degree_key t_degree_key⟩
  have h_poly_size : Fn P w K mg base (ctK K) "poly_size" 3 1 [] false F_poly_size := ⟨_, _, _, ok_poly_size (w := w) (base := base) (ct := ctK K) B h_term_size h_degree_key t_poly_size, g_poly_size, t_poly_size.kp, bi_poly_size t_poly_size⟩
  have h_check_poly : Fn P w K mg base (ctK K) "check_poly" 4 2 [] false F_check_poly := ⟨_, _, _, ok_check_poly (w := w) (base := base) (ct := ctK K) B h_poly_size (h_erf_NoPolynomial base) t_check_poly, g_check_poly, t_check_poly.kp, bi_check_poly t_check_poly⟩
  have h_fits_many : Fn P w K mg base (ctK K) "fits_many" 1 2 [] false F_fits_many := ⟨_, _, _, ok_fits_many (w := w) (base := base) (ct := ctK K) B h_con_MOST_VARIABLES t_fits_many, g_fits_many, t_fits_many.kp, bi_fits_many t_fits_many⟩
  have h_power : Fn P w K mg base (ctK K) "power" 1 2 [] false F_power := ⟨_, _, _, ok_power (w := w) (base := base) (ct := ctK K) B  t_power, g_power, t_power.kp, bi_power t_power⟩
  have h_value : Fn P w K mg base (ctK K) "value" 2 2 [] false F_value := ⟨_, _, _, ok_value (w := w) (base := base) (ct := ctK K) B h_power t_value, g_value, t_value.kp, bi_value t_value⟩
  have h_worth : Fn P w K mg base (ctK K) "worth" 5 2 [] false F_worth := ⟨_, _, _, ok_worth (w := w) (base := base) (ct := ctK K) B h_check_poly h_fits_many h_is_integer h_value h_er_NoValues t_worth, g_worth, t_worth.kp, bi_worth t_worth⟩
  have h_law_whole : Fn P w K mg base (ctK K) "_law_whole" 1 1 [] false F_law_whole := ⟨_, _, _, ok_law_whole (w := w) (base := base) (ct := ctK K) B  t_law_whole, g_law_whole, t_law_whole.kp, bi_law_whole t_law_whole⟩
  have h_law_worth : Fn P w K mg base (ctK K) "_law_worth" 1 2 [] false F_law_worth := ⟨_, _, _, ok_law_worth (w := w) (base := base) (ct := ctK K) B  t_law_worth, g_law_worth, t_law_worth.kp, bi_law_worth t_law_worth⟩
  have h_check_two : Fn P w K mg base (ctK K) "check_two" 5 2 [] false F_check_two := ⟨_, _, _, ok_check_two (w := w) (base := base) (ct := ctK K) B h_check_poly (h_erf_NoPolynomial base) t_check_two, g_check_two, t_check_two.kp, bi_check_two t_check_two⟩
  have h_as_dict : Fn P w K mg base (ctK K) "as_dict" 1 1 [] true F_as_dict := ⟨_, _, _, ok_as_dict (w := w) (base := base) (ct := ctK K) B  t_as_dict, g_as_dict, t_as_dict.kp, bi_as_dict t_as_dict⟩
  have h_as_poly : Fn P w K mg base (ctK K) "as_poly" 4 1 [] false F_as_poly := ⟨_, _, _, ok_as_poly (w := w) (base := base) (ct := ctK K) B h_degree_key t_as_poly, g_as_poly, t_as_poly.kp, bi_as_poly t_as_poly⟩
  have h_added_polys : Fn P w K mg base (ctK K) "added_polys" 5 2 [] false F_added_polys := ⟨_, _, _, ok_added_polys (w := w) (base := base) (ct := ctK K) B h_as_dict h_as_poly t_added_polys, g_added_polys, t_added_polys.kp, bi_added_polys t_added_polys⟩
  have h_plus : Fn P w K mg base (ctK K) "plus" 6 2 [] false F_plus := ⟨_, _, _, ok_plus (w := w) (base := base) (ct := ctK K) B h_check_two h_added_polys t_plus, g_plus, t_plus.kp, bi_plus t_plus⟩
  have h_dict_product : Fn P w K mg base (ctK K) "dict_product" 1 2 [] false F_dict_product := ⟨_, _, _, ok_dict_product (w := w) (base := base) (ct := ctK K) B  t_dict_product, g_dict_product, t_dict_product.kp, bi_dict_product t_dict_product⟩
  have h_product : Fn P w K mg base (ctK K) "product" 5 2 [] false F_product := ⟨_, _, _, ok_product (w := w) (base := base) (ct := ctK K) B h_as_poly h_dict_product h_as_dict t_product, g_product, t_product.kp, bi_product t_product⟩
  have h_times : Fn P w K mg base (ctK K) "times" 6 2 [] false F_times := ⟨_, _, _, ok_times (w := w) (base := base) (ct := ctK K) B h_check_two h_product t_times, g_times, t_times.kp, bi_times t_times⟩
  have h_law_bad : Fn P w K mg base (ctK K) "_law_bad" 3 2 [0] false F_law_bad := ⟨_, _, _, ok_law_bad (w := w) (base := base) (ct := ctK K) B h_law_draw t_law_bad, g_law_bad, t_law_bad.kp, bi_law_bad t_law_bad⟩
  have h_law_asked : Fn P w K mg base (ctK K) "_law_asked" 6 2 [] false F_law_asked := ⟨_, _, _, ok_law_asked (w := w) (base := base) (ct := ctK K) B h_worth rfl (He.exm_ok (cd.fact 44 (f := .exm "NoPolynomial" "NoPolynomial" true) rfl)) g_NoPolynomial (xfC_of (c.x 1 (x := fun K => excC K "NoPolynomial") rfl)) (He.noat_ok (cd.fact 45 (f := .noat "NoPolynomial" "index") rfl)) rfl (He.exm_ok (cd.fact 42 (f := .exm "NoValues" "NoValues" true) rfl)) g_NoValues (He.exm_ok (cd.fact 46 (f := .exm "NoPolynomial" "NoValues" false) rfl)) t_law_asked, g_law_asked, t_law_asked.kp, bi_law_asked t_law_asked⟩
  exact ok_law (w := w) (base := base) (ct := ctK K) B h_law_hand h_law_draw h_law_poly h_law_number h_worth h_law_whole h_law_worth h_plus h_times h_law_bad h_law_asked t_law
end Wk05
set_option maxHeartbeats 2000000
/-! polynomials as lists of terms: plain Lean -/
namespace Np
open PySem L2 Ip
open PySem.W (dataLe dataLt keyToks keyToksAll)

abbrev Tm := Int × List Nat
def zI (e : List Nat) : List Int := e.map fun (n : Nat) => (n : Int)
def eD (e : List Nat) : D := .tup ((zI e).map D.int)
def tD (t : Tm) : D := .tup [.int t.1, eD t.2]
def pD (p : List Tm) : D := .tup (p.map tD)
def sm (e : List Nat) : Int := ((e.sum : Nat) : Int)
/-- the key of a term: its degree, then its exponents -/
def kyD (e : List Nat) : D := .tup [.int (sm e), eD e]
def kP (e : List Nat) : PyData := .tuple [.int (sm e), .tuple ((zI e).map PyData.int)]
theorem toPys_ints : ∀ e : List Int, toPys (e.map D.int) = some (e.map PyData.int)
  | [] => rfl
  | n :: e => by rw [List.map_cons, toPys, toPys_ints e]; rfl
theorem toPy_eD (e : List Nat) : toPy (eD e) = some (.tuple ((zI e).map PyData.int)) := by unfold eD; rw [toPy, toPys_ints]; rfl
theorem toPy_kyD (e : List Nat) : toPy (kyD e) = some (kP e) := by
  unfold kyD kP
  rw [toPy, toPys, toPys, toPy_eD]
  rfl
theorem toPys_kyD : ∀ es : List (List Nat), toPys (es.map kyD) = some (es.map kP)
  | [] => rfl
  | e :: es => by rw [List.map_cons, toPys, toPy_kyD, toPys_kyD es]; rfl
/-! ### the order -/
def klt (a b : List Nat) : Bool := dataLt (kP a) (kP b)
theorem klt_irr (a : List Nat) : klt a a = false := PyProof.Rows.lex_irrefl (O := PyProof.Rows.itemOrd) _
theorem klt_tr {a b c : List Nat} (h : klt a b = true) (k : klt b c = true) : klt a c = true := PyProof.Rows.lex_trans (O := PyProof.Rows.itemOrd) _ _ _ h k
theorem toks_ints : ∀ (a b : List Int) (r s : List (Int ⊕ List Nat)), keyToksAll (a.map PyData.int) ++ r = keyToksAll (b.map PyData.int) ++ s → a = b
  | [], [], _, _, _ => rfl
  | [], y :: b, r, s, h => by
    rw [List.map_nil, List.map_cons, keyToksAll, keyToksAll] at h
    simp at h
  | x :: a, [], r, s, h => by
    rw [List.map_nil, List.map_cons, keyToksAll, keyToksAll] at h
    simp at h
  | x :: a, y :: b, r, s, h => by
    rw [List.map_cons, List.map_cons, keyToksAll, keyToksAll, keyToks, keyToks] at h
    simp only [List.cons_append, List.nil_append, List.cons.injEq, true_and] at h
    obtain ⟨h1, h2⟩ := h
    cases h1
    rw [toks_ints a b r s h2]
theorem zI_inj {a b : List Nat} (h : zI a = zI b) : a = b := by
  induction a generalizing b with
  | nil => cases b with | nil => rfl | cons y b => cases h
  | cons x a ih =>
    cases b with
    | nil => cases h
    | cons y b =>
      unfold zI at h
      rw [List.map_cons, List.map_cons] at h
      injection h with h1 h2
      rw [Int.ofNat.inj h1, ih h2]
theorem kP_inj {a b : List Nat} (h : keyToks (kP a) = keyToks (kP b)) : a = b := by
  unfold kP at h
  simp only [keyToks, keyToksAll, List.cons_append, List.nil_append, List.cons.injEq, true_and] at h
  exact zI_inj (toks_ints _ _ _ _ h.2)
theorem klt_tot {a b : List Nat} (h : klt a b = false) (k : klt b a = false) : a = b := kP_inj (PyProof.Rows.lex_total (O := PyProof.Rows.itemOrd) _ _ h k)
theorem klt_asym {a b : List Nat} (h : klt a b = true) : klt b a = false := by
  cases k : klt b a with
  | false => rfl
  | true => have := klt_tr h k; rw [klt_irr] at this; cases this
theorem alike_ints : ∀ a b : List Int, PySem.W.alikeAll (a.map PyData.int) (b.map PyData.int) = true
  | [], b => by rw [List.map_nil, PySem.W.alikeAll]
  | x :: a, [] => by rw [List.map_nil, List.map_cons, PySem.W.alikeAll]
  | x :: a, y :: b => by rw [List.map_cons, List.map_cons, PySem.W.alikeAll, PySem.W.alike, alike_ints a b]; rfl
theorem alike_kP (a b : List Nat) : PySem.W.alike (kP a) (kP b) = true := by
  unfold kP
  rw [PySem.W.alike, PySem.W.alikeAll, PySem.W.alikeAll, PySem.W.alikeAll, PySem.W.alike, PySem.W.alike, alike_ints]
  rfl
theorem depth_ints : ∀ a : List Int, PyData.depthAll (a.map PyData.int) = PyData.depthAll [] ∨ PyData.depthAll (a.map PyData.int) = PyData.depthAll [.int 0]
  | [] => .inl rfl
  | x :: a => by
    right
    rcases depth_ints a with h | h <;> simp only [List.map_cons, PyData.depthAll, PyData.depth] at h ⊢ <;> omega
theorem depth_kP (a : List Nat) : (kP a).depth ≤ 60 := by
  unfold kP
  rcases depth_ints (zI a) with h | h <;> simp only [PyData.depthAll, PyData.depth] at h ⊢ <;> omega
theorem okSort_kP (es : List (List Nat)) : okSort (es.map kP) = true := by
  unfold okSort
  simp only [Bool.and_eq_true, List.all_eq_true, decide_eq_true_eq]
  refine ⟨fun d hd d' hd' => ?_, fun d hd => ?_, fun d hd => ?_⟩
  · obtain ⟨a, _, rfl⟩ := List.mem_map.1 hd
    obtain ⟨b, _, rfl⟩ := List.mem_map.1 hd'
    exact alike_kP a b
  · obtain ⟨a, _, rfl⟩ := List.mem_map.1 hd
    rfl
  · obtain ⟨a, _, rfl⟩ := List.mem_map.1 hd
    exact depth_kP a
/-! ### sorted downwards -/
def srt (es : List (List Nat)) : List (List Nat) := es.mergeSort fun a b => !klt a b
theorem sortL_kP (f : List Nat → D) (es : List (List Nat)) : sortL true ((es.map f).zip (es.map kP)) = (srt es).map f := by
  have e1 : (es.map f).zip (es.map kP) = es.map fun e => (f e, kP e) := by
    induction es with
    | nil => rfl
    | cons e es ih => rw [List.map_cons, List.map_cons, List.map_cons, List.zip_cons_cons, ih]
  rw [e1]
  unfold sortL srt
  have k := map_ms (le := dataLe true (fun p : D × PyData => p.2)) (fun e : List Nat => (f e, kP e)) es
  rw [← k, List.map_map]
  rfl
theorem srt_perm (es : List (List Nat)) : (srt es).Perm es := List.mergeSort_perm _ _
theorem srt_pw {es : List (List Nat)} (h : es.Nodup) : (srt es).Pairwise fun a b => klt b a = true := by
  have s : (srt es).Pairwise fun a b => (!klt a b) = true := List.pairwise_mergeSort (fun a b c h1 h2 => by
    rw [Bool.not_eq_true'] at h1 h2 ⊢
    cases k : klt a c with
    | false => rfl
    | true =>
      rcases PyProof.Rows.lex_negTrans (O := PyProof.Rows.itemOrd) (keyToks (kP a)) (keyToks (kP b)) (keyToks (kP c)) k with z | z
      · exact absurd (show klt a b = true from z) (by rw [h1]; exact Bool.false_ne_true)
      · exact absurd (show klt b c = true from z) (by rw [h2]; exact Bool.false_ne_true)) (fun a b => by
    cases k : klt a b with
    | false => simp
    | true => simp [klt_asym k]) es
  have n : (srt es).Nodup := (srt_perm es).nodup_iff.2 h
  have both := List.Pairwise.and s n
  refine both.imp fun {a b} ⟨h1, h2⟩ => ?_
  rw [Bool.not_eq_true'] at h1
  cases k : klt b a with
  | true => rfl
  | false => exact absurd (klt_tot h1 k) h2
end Np
set_option maxHeartbeats 2000000
namespace Np
open PySem L2 Ip
/-! ### sums over terms -/
def lin (φ : List Nat → Int) : List Tm → Int
  | [] => 0
  | t :: p => t.1 * φ t.2 + lin φ p
def nrm : List Tm → Nat
  | [] => 0
  | t :: p => t.1.natAbs + nrm p
theorem lin_app (φ : List Nat → Int) : ∀ p q : List Tm, lin φ (p ++ q) = lin φ p + lin φ q
  | [], q => by simp [lin]
  | t :: p, q => by rw [List.cons_append, lin, lin, lin_app φ p q, Int.add_assoc]
theorem lin_perm (φ : List Nat → Int) {p q : List Tm} (h : p.Perm q) : lin φ p = lin φ q := by
  induction h with
  | nil => rfl
  | cons t _ ih => rw [lin, lin, ih]
  | swap a b l => simp only [lin]; omega
  | trans _ _ h1 h2 => exact h1.trans h2
theorem nrm_perm {p q : List Tm} (h : p.Perm q) : nrm p = nrm q := by
  induction h with
  | nil => rfl
  | cons t _ ih => rw [nrm, nrm, ih]
  | swap a b l => simp only [nrm]; omega
  | trans _ _ h1 h2 => exact h1.trans h2
def nz (t : Tm) : Bool := !decide (t.1 = 0)
theorem lin_nz (φ : List Nat → Int) : ∀ p : List Tm, lin φ (p.filter nz) = lin φ p
  | [] => rfl
  | t :: p => by
    rw [List.filter_cons]
    by_cases h : t.1 = 0
    · rw [if_neg (by simp [nz, h]), lin_nz φ p, lin, h]; simp
    · rw [if_pos (by simp [nz, h]), lin, lin_nz φ p, lin]
theorem nrm_nz : ∀ p : List Tm, nrm (p.filter nz) = nrm p
  | [] => rfl
  | t :: p => by
    rw [List.filter_cons]
    by_cases h : t.1 = 0
    · rw [if_neg (by simp [nz, h]), nrm_nz p, nrm, h]; simp
    · rw [if_pos (by simp [nz, h]), nrm, nrm_nz p, nrm]
theorem nrm_mem {t : Tm} : ∀ {p : List Tm}, t ∈ p → t.1.natAbs ≤ nrm p
  | u :: p, h => by
    rw [nrm]
    rcases List.mem_cons.1 h with rfl | h
    · omega
    · have := nrm_mem h; omega
theorem lin_congr {φ ψ : List Nat → Int} : ∀ {p : List Tm}, (∀ t ∈ p, φ t.2 = ψ t.2) → lin φ p = lin ψ p
  | [], _ => rfl
  | t :: p, h => by rw [lin, lin, h t List.mem_cons_self, lin_congr fun u hu => h u (List.mem_cons_of_mem _ hu)]
/-! ### a dict from exponents to numbers, as a list of terms -/
def kE (e : List Nat) : List Key := (zI e).map Sum.inl
def dD (m : List Tm) : D := .dit (m.map fun t => kE t.2) (m.map fun t => .int t.1)
theorem kE_inj {a b : List Nat} (h : kE a = kE b) : a = b := by
  unfold kE at h
  have : ∀ x y : List Int, x.map (Sum.inl : Int → Key) = y.map Sum.inl → x = y := by
    intro x
    induction x with
    | nil => intro y h; cases y with | nil => rfl | cons _ _ => cases h
    | cons a x ih =>
      intro y h
      cases y with
      | nil => cases h
      | cons b y =>
        rw [List.map_cons, List.map_cons] at h
        injection h with h1 h2
        cases h1
        rw [ih y h2]
  exact zI_inj (this _ _ h)
theorem toKs_ints : ∀ l : List Int, toKs (l.map D.int) = some (l.map Sum.inl)
  | [] => rfl
  | x :: l => by rw [List.map_cons, toKs, toKs_ints l]; rfl
theorem toKT_eD (e : List Nat) : toKT (eD e) = some (kE e) := by unfold eD; rw [toKT, toKs_ints]; rfl
theorem kT_kE (e : List Nat) : kT (kE e) = eD e := by
  unfold kT kE eD
  rw [List.map_map]
  rfl
def look : List Tm → List Nat → Option Int
  | [], _ => none
  | t :: m, e => if t.2 = e then some t.1 else look m e
def get (m : List Tm) (e : List Nat) : Int := (look m e).getD 0
def has (m : List Tm) (e : List Nat) : Bool := m.any fun t => decide (t.2 = e)
def put (m : List Tm) (e : List Nat) (c : Int) : List Tm := if has m e = true then m.map fun t => if t.2 = e then (c, t.2) else t else m ++ [(c, e)]
theorem tFind_look (e : List Nat) : ∀ m : List Tm, tFind (kE e) (m.map fun t => kE t.2) (m.map fun t => .int t.1) = (look m e).map D.int
  | [] => rfl
  | t :: m => by
    rw [List.map_cons, List.map_cons, tFind, look]
    by_cases h : t.2 = e
    · rw [if_pos (by rw [h]), if_pos h]; rfl
    · rw [if_neg (fun z => h (kE_inj z)), if_neg h, tFind_look e m]
theorem tPut_put (m : List Tm) (e : List Nat) (c : Int) : tPut (m.map fun t => kE t.2) (m.map fun t => .int t.1) (kE e) (.int c) = ((put m e c).map fun t => kE t.2, (put m e c).map fun t => .int t.1) := by
  unfold tPut put has
  have e1 : ((m.map fun t => kE t.2).any fun k' => decide (k' = kE e)) = m.any fun t => decide (t.2 = e) := by
    rw [List.any_map]
    congr 1
    funext t
    exact decide_eq_decide.2 ⟨fun h => kE_inj h, fun h => show kE t.2 = kE e by rw [h]⟩
  rw [e1]
  by_cases h : (m.any fun t => decide (t.2 = e)) = true
  · rw [if_pos h, if_pos h]
    refine Prod.ext ?_ ?_
    · dsimp only
      rw [List.map_map]
      refine List.map_congr_left fun t _ => ?_
      dsimp only [Function.comp]
      split <;> rfl
    · dsimp only
      rw [List.map_map, List.zipWith_map]
      clear h e1
      induction m with
      | nil => rfl
      | cons t m ih =>
        rw [List.zipWith_cons_cons, List.map_cons, ih]
        congr 1
        dsimp only [Function.comp]
        by_cases h : t.2 = e
        · rw [if_pos (show kE t.2 = kE e by rw [h]), if_pos h]
        · rw [if_neg (show ¬ kE t.2 = kE e from fun z => h (kE_inj z)), if_neg h]
  · rw [if_neg h, if_neg h]
    simp
/-- keys that differ -/
abbrev Ks (m : List Tm) : Prop := (m.map (·.2)).Nodup
theorem has_mem {m : List Tm} {e : List Nat} : has m e = true ↔ e ∈ m.map (·.2) := by
  unfold has
  rw [List.any_eq_true]
  constructor
  · rintro ⟨t, ht, h⟩
    rw [← of_decide_eq_true h]
    exact List.mem_map_of_mem ht
  · intro h
    obtain ⟨t, ht, rfl⟩ := List.mem_map.1 h
    exact ⟨t, ht, decide_eq_true rfl⟩
theorem put_keys (m : List Tm) (e : List Nat) (c : Int) : (put m e c).map (·.2) = if has m e = true then m.map (·.2) else m.map (·.2) ++ [e] := by
  unfold put
  split
  · rw [List.map_map]
    refine List.map_congr_left fun t _ => ?_
    dsimp only [Function.comp]
    split <;> rfl
  · simp
theorem put_Ks {m : List Tm} {e : List Nat} {c : Int} (h : Ks m) : Ks (put m e c) := by
  unfold Ks
  rw [put_keys]
  split
  · exact h
  · rename_i n
    rw [List.nodup_append]
    refine ⟨h, by simp, fun a ha b hb => ?_⟩
    rw [List.mem_singleton.1 hb]
    intro z
    exact n (has_mem.2 (z ▸ ha))
theorem put_len (m : List Tm) (e : List Nat) (c : Int) : (put m e c).length ≤ m.length + 1 := by
  unfold put
  split
  · rw [List.length_map]; omega
  · simp
theorem put_mem {m : List Tm} {e : List Nat} {c : Int} {t : Tm} (h : t ∈ put m e c) : t.2 = e ∨ t.2 ∈ m.map (·.2) := by
  have := List.mem_map_of_mem (f := (·.2)) h
  rw [put_keys] at this
  split at this
  · exact .inr this
  · rcases List.mem_append.1 this with z | z
    · exact .inr z
    · exact .inl (List.mem_singleton.1 z)
theorem look_none {m : List Tm} {e : List Nat} (h : e ∉ m.map (·.2)) : look m e = none := by
  induction m with
  | nil => rfl
  | cons t m ih =>
    rw [List.map_cons, List.mem_cons, not_or] at h
    rw [look, if_neg (fun z => h.1 z.symm), ih h.2]
theorem lin_put (φ : List Nat → Int) {m : List Tm} {e : List Nat} {c : Int} (h : Ks m) : lin φ (put m e (get m e + c)) = lin φ m + c * φ e := by
  unfold put
  by_cases q : has m e = true
  · rw [if_pos q]
    induction m with
    | nil => cases q
    | cons t m ih =>
      have hn := List.nodup_cons.1 (show (t.2 :: m.map (·.2)).Nodup from h)
      rw [List.map_cons, lin, lin]
      by_cases z : t.2 = e
      · have e2 : m.map (fun u => if u.2 = e then (get (t :: m) e + c, u.2) else u) = m := by
          refine (List.map_congr_left fun u hu => ?_).trans (List.map_id m)
          have : u.2 ≠ e := fun y => hn.1 (by rw [z, ← y]; exact List.mem_map_of_mem hu)
          rw [if_neg this]; rfl
        rw [e2, if_pos z]
        unfold get
        rw [look, if_pos z, ← z]
        dsimp only [Option.getD]
        rw [Int.add_mul]; omega
      · have q2 : has m e = true := by
          rw [has_mem, List.map_cons] at q
          rcases List.mem_cons.1 q with y | y
          · exact absurd y.symm z
          · exact has_mem.2 y
        have eg : get (t :: m) e = get m e := by unfold get; rw [look, if_neg z]
        rw [if_neg z, eg, ih hn.2 q2]; omega
  · rw [if_neg q, lin_app, lin, lin]
    have : get m e = 0 := by unfold get; rw [look_none fun z => q (has_mem.2 z)]; rfl
    rw [this]; simp
theorem nrm_app : ∀ p q : List Tm, nrm (p ++ q) = nrm p + nrm q
  | [], q => by simp [nrm]
  | t :: p, q => by rw [List.cons_append, nrm, nrm, nrm_app p q, Nat.add_assoc]
theorem nrm_put {m : List Tm} {e : List Nat} {c : Int} (h : Ks m) : nrm (put m e (get m e + c)) ≤ nrm m + c.natAbs := by
  unfold put
  by_cases q : has m e = true
  · rw [if_pos q]
    induction m with
    | nil => cases q
    | cons t m ih =>
      have hn := List.nodup_cons.1 (show (t.2 :: m.map (·.2)).Nodup from h)
      rw [List.map_cons, nrm, nrm]
      by_cases z : t.2 = e
      · have e2 : m.map (fun u => if u.2 = e then (get (t :: m) e + c, u.2) else u) = m := by
          refine (List.map_congr_left fun u hu => ?_).trans (List.map_id m)
          have : u.2 ≠ e := fun y => hn.1 (by rw [z, ← y]; exact List.mem_map_of_mem hu)
          rw [if_neg this]; rfl
        rw [e2, if_pos z]
        unfold get
        rw [look, if_pos z]
        dsimp only [Option.getD]
        have := Int.natAbs_add_le t.1 c
        omega
      · have q2 : has m e = true := by
          rw [has_mem, List.map_cons] at q
          rcases List.mem_cons.1 q with y | y
          · exact absurd y.symm z
          · exact has_mem.2 y
        have eg : get (t :: m) e = get m e := by unfold get; rw [look, if_neg z]
        rw [if_neg z, eg]
        have := ih hn.2 q2
        omega
  · rw [if_neg q, nrm_app, nrm, nrm]
    have : get m e = 0 := by unfold get; rw [look_none fun z => q (has_mem.2 z)]; rfl
    rw [this]; simp
/-! ### the polynomial of a dict -/
structure Good (n : Nat) (p : List Tm) : Prop where
  nz : ∀ t ∈ p, t.1 ≠ 0
  len : ∀ t ∈ p, t.2.length = n
  srt : p.Pairwise fun a b => klt b.2 a.2 = true
theorem Good.Ks {n : Nat} {p : List Tm} (h : Good n p) : Ks p := by
  unfold Np.Ks List.Nodup
  rw [List.pairwise_map]
  exact h.srt.imp fun {a b} z y => by rw [y, klt_irr] at z; cases z
def ordM (m : List Tm) : List Tm := (srt (m.map (·.2))).map fun e => (get m e, e)
def norm (m : List Tm) : List Tm := (ordM m).filter Np.nz
theorem get_mem {m : List Tm} (h : Ks m) {t : Tm} (ht : t ∈ m) : look m t.2 = some t.1 := by
  induction m with
  | nil => cases ht
  | cons u m ih =>
    have hn := List.nodup_cons.1 (show (u.2 :: m.map (·.2)).Nodup from h)
    rw [look]
    rcases List.mem_cons.1 ht with rfl | ht
    · rw [if_pos rfl]
    · rw [if_neg (fun z : u.2 = t.2 => hn.1 (by rw [z]; exact List.mem_map_of_mem ht)), ih hn.2 ht]
theorem map_get {m : List Tm} (h : Ks m) : (m.map (·.2)).map (fun e => (get m e, e)) = m := by
  rw [List.map_map]
  refine (List.map_congr_left fun t ht => ?_).trans (List.map_id m)
  dsimp only [Function.comp]
  unfold get
  rw [get_mem h ht]; rfl
theorem ordM_perm {m : List Tm} (h : Ks m) : (ordM m).Perm m := by
  unfold ordM
  have := (srt_perm (m.map (·.2))).map fun e => (get m e, e)
  rwa [map_get h] at this
theorem norm_lin (φ : List Nat → Int) {m : List Tm} (h : Ks m) : lin φ (norm m) = lin φ m := by
  unfold norm
  rw [lin_nz, lin_perm φ (ordM_perm h)]
theorem norm_nrm {m : List Tm} (h : Ks m) : nrm (norm m) = nrm m := by
  unfold norm
  rw [nrm_nz, nrm_perm (ordM_perm h)]
theorem norm_len {m : List Tm} (h : Ks m) : (norm m).length ≤ m.length := by
  unfold norm
  exact Nat.le_trans (List.length_filter_le _ _) (Nat.le_of_eq (ordM_perm h).length_eq)
theorem norm_mem {m : List Tm} (h : Ks m) {t : Tm} (ht : t ∈ norm m) : t ∈ m := (ordM_perm h).mem_iff.1 (List.mem_filter.1 ht).1
theorem norm_good {n : Nat} {m : List Tm} (h : Ks m) (hl : ∀ t ∈ m, t.2.length = n) : Good n (norm m) := by
  refine ⟨fun t ht => ?_, fun t ht => hl t (norm_mem h ht), ?_⟩
  · have := (List.mem_filter.1 ht).2
    simpa [Np.nz] using this
  · unfold norm ordM
    refine List.Pairwise.filter _ ?_
    rw [List.pairwise_map]
    exact srt_pw h
end Np
set_option maxHeartbeats 2000000
namespace Ip
open PySem L2
/-! ## weakest conditions of the words on dicts with tuple keys, zip, sorted, shifts -/
section
variable {E : Ex → Env → Prop} {i j n : Nat} {ρ : Env} {d x y z : D} {f h k fk : Env → R D} {g : Env → R (List D)} {P : D → Env → Prop} {PL : List D → Env → Prop} {PS : Fl → Env → Prop} {gt : D → Env → Option Env} {tst : Env → R Bool} {vs : List Nat}
theorem x_gDt {v : D} {Q : Env → Prop} (w : (∃ ks ds, ρ.getD i none = some (.dit ks ds)) ∧ wp (h ρ) fun kd ρ1 => ∃ ks ds kk, ρ1.getD i none = some (.dit ks ds) ∧ toKT kd = some kk ∧ ks.length < sizeLine ∧ Q (ρ1.set i (some (.dit (tPut ks ds kk v).1 (tPut ks ds kk v).2)))) : ∃ ρ2, gDt i h v ρ = some ρ2 ∧ Q ρ2 := by
  obtain ⟨⟨ks0, ds0, e0⟩, w⟩ := w
  obtain ⟨kd, ρ1, e1, ks, ds, kk, e2, e3, e4, w1⟩ := wp_of w
  refine ⟨_, ?_, w1⟩
  unfold gDt
  rw [e0, e1]
  dsimp only
  rw [e2, e3]
  dsimp only
  rw [if_pos e4]
theorem w_getT (w : (∃ ks ds, ρ.getD i none = some (.dit ks ds)) ∧ wpx E (f ρ) fun kd ρ1 => wpx E (h ρ1) fun z ρ2 => ∃ ks ds kk, ρ2.getD i none = some (.dit ks ds) ∧ toKT kd = some kk ∧ P ((tFind kk ks ds).getD z) ρ2) : wpx E (mGetT i f h ρ) P := by
  obtain ⟨⟨ks0, ds0, e0⟩, w⟩ := w
  unfold mGetT
  rw [e0]
  refine wp_bind (wp_imp w fun kd ρ1 w1 => wp_bind (wp_imp w1 fun z ρ2 ⟨ks, ds, kk, e2, e3, w2⟩ => ?_))
  rw [e2]
  dsimp only
  rw [e3]
  exact w2
theorem w_lockE {m : Env → R D} (e : ∃ ks ds, ρ[i]? = some (some (.dit ks ds))) (w : wp (m ρ) P) : wpx E (mLockE i m ρ) P := by
  obtain ⟨ks, ds, e⟩ := e
  obtain ⟨d, ρ1, e1, w1⟩ := wp_of w
  unfold mLockE
  rw [e, e1]
  exact w1
theorem w_lockS {m : Env → R Fl} (e : ∃ ks ds, ρ[i]? = some (some (.dit ks ds))) (w : wp (m ρ) fun fl ρ1 => fl = .nx ∧ PS .nx ρ1) : wpx E (mLockS i m ρ) PS := by
  obtain ⟨ks, ds, e⟩ := e
  obtain ⟨d, ρ1, e1, rfl, w1⟩ := wp_of w
  unfold mLockS
  rw [e, e1]
  exact w1
theorem w_keysT {ks : List (List Key)} {ds : List D} (e : ρ[i]? = some (some (.dit ks ds))) (w : PL (ks.map kT) ρ) : wpx E (mKeysT i ρ) PL := by unfold mKeysT; rw [e]; exact w
theorem w_itemsT {ks : List (List Key)} {ds : List D} (e : ρ[i]? = some (some (.dit ks ds))) (w : PL (pairsT ks ds) ρ) : wpx E (mItemsT i ρ) PL := by unfold mItemsT; rw [e]; exact w
theorem w_zip {l : Env → R (List D)} (w : wpx E (l ρ) fun ds ρ1 => ∃ xs ys, ds = [.lst xs, .tup ys] ∧ PL (zipD xs ys) ρ1) : wpx E (mZip l ρ) PL := wp_bind (wp_imp w fun ds ρ1 ⟨xs, ys, e, w1⟩ => by subst e; exact w1)
theorem w_zipT {l : Env → R (List D)} (w : wpx E (l ρ) fun ds ρ1 => ∃ xs ys, ds = [.tup xs, .tup ys] ∧ PL (zipD xs ys) ρ1) : wpx E (mZipT l ρ) PL := wp_bind (wp_imp w fun ds ρ1 ⟨xs, ys, e, w1⟩ => by subst e; exact w1)
theorem o_and {a b : Int} (w : P (.int (Builtin.bitAnd a b)) ρ) : wo (andD (.int a) (.int b)) ρ P := w
theorem o_shr {a : Int} (w : P (.int (a / 2)) ρ) : wo (shrD (.int a) (.int 1)) ρ P := o_some (d := .int (a / 2)) (show ifO _ _ = _ from by unfold ifO; rw [if_pos (by decide)]; rfl) w
theorem o_mulW {a b : Int} (h : a.natAbs.log2 + b.natAbs.log2 < 1000000) (w : P (.int (a * b)) ρ) : wo (mulD (.int a) (.int b)) ρ P := o_some (show (if _ then _ else none) = _ from if_pos (.inr (.inr h))) w
theorem o_sumT {ns : List Int} (w : P (.int ns.sum) ρ) : wo (oSumT [.tup (ns.map D.int)]) ρ P := o_some (d := .int ns.sum) (by show (dInts (ns.map D.int)).map _ = _; rw [ints_map]; rfl) w
theorem o_negI {a : Int} (w : P (.int (-a)) ρ) : wo (negD (.int a)) ρ P := w
theorem o_listDT {ks : List (List Key)} {ds : List D} (w : P (.lst (ks.map kT)) ρ) : wo (oListDT [.dit ks ds]) ρ P := w
/-- a dict comprehension: each turn puts one entry -/
theorem w_dcT {fi : Env → R (List D)} (w : wpx E (fi ρ) fun ds ρ1 => ∃ Inv : Nat → Env → List (List Key) → List D → Prop, Inv 0 (wipeE ρ1 vs) [] [] ∧
    (∀ i d ρ ks acc, ds[i]? = some d → Inv i ρ ks acc → acc.length < sizeLine ∧ ∃ ρa, gt d ρ = some ρa ∧ wp (tst ρa) fun b ρb => if b = true then wp (fk ρb) fun kd ρc => wp (f ρc) fun y ρd => ∃ kk, toKT kd = some kk ∧ Inv (i + 1) (wipeE ρd vs) (tPut ks acc kk y).1 (tPut ks acc kk y).2 else Inv (i + 1) (wipeE ρb vs) ks acc) ∧
    ∀ ρ2 ks acc, Inv ds.length ρ2 ks acc → P (.dit ks acc) (restE ρ1 ρ2 vs)) : wpx E (mDcT fi gt tst fk f vs ρ) P := wp_bind (wp_imp w fun ds ρ1 ⟨Iv, h0, hs, hd⟩ => by
  have key : ∀ (es : List D) (m : Nat) (ρ : Env) (ks : List (List Key)) (acc : List D), es = ds.drop m → m ≤ ds.length → Iv m ρ ks acc → ∃ ks' acc' ρ', compT gt tst fk f vs es ρ ks acc = .ok (ks', acc') ρ' ∧ Iv ds.length ρ' ks' acc' := by
    intro es
    induction es with
    | nil =>
      intro m ρ ks acc e hm hi
      have : ds.length ≤ m := by
        have := congrArg List.length e
        rw [List.length_drop] at this
        simp at this; omega
      rw [show ds.length = m by omega]
      exact ⟨ks, acc, ρ, rfl, hi⟩
    | cons d es ih =>
      intro m ρ ks acc e hm hi
      have hdm : ds[m]? = some d := by
        have := congrArg (fun l => l[0]?) e
        simp only [List.getElem?_drop] at this
        simpa using this.symm
      have hes : es = ds.drop (m + 1) := by
        have := congrArg List.tail e
        simpa [List.tail_drop] using this
      have hml : m + 1 ≤ ds.length := (List.getElem?_eq_some_iff.mp hdm).1
      obtain ⟨hz, ρa, e1, w⟩ := hs m d ρ ks acc hdm hi
      obtain ⟨b, ρb, e2, w2⟩ := wp_of w
      unfold compT
      rw [e1]
      dsimp only
      rw [e2]
      cases b with
      | false => exact ih (m + 1) _ _ _ hes hml w2
      | true =>
        rw [if_pos rfl] at w2
        obtain ⟨kd, ρc, e3, w3⟩ := wp_of w2
        obtain ⟨y, ρd, e4, kk, e5, w4⟩ := wp_of w3
        dsimp only
        rw [e3]
        dsimp only
        rw [e4]
        dsimp only
        rw [e5]
        dsimp only
        rw [if_pos hz]
        exact ih (m + 1) _ _ _ hes hml w4
  obtain ⟨ks', acc', ρ', e, hi⟩ := key ds 0 (wipeE ρ1 vs) [] [] (by simp) (Nat.zero_le _) h0
  rw [e]
  exact hd ρ' ks' acc' hi)
/-! ### errors with fields -/
theorem w_pickF {cn : Str} {i : Option Nat} {l : List (Nat × Sd)} {r : List ClF} {e : Ex} {ρ' : Env} (h1 : e.cls = cn) (h2 : clE l e (clr i ρ) = some ρ') (h3 : ∀ k ∈ i, k < ρ.length) (w : PS .nx (clr i ρ')) : wpx E (pickF ((cn, i, l) :: r) e ρ) PS := by
  unfold pickF
  rw [if_pos h1, h2]
  dsimp only
  rw [if_pos h3]
  exact w
theorem w_skipF {cn : Str} {i : Option Nat} {l : List (Nat × Sd)} {r : List ClF} {e : Ex} (h1 : e.cls ≠ cn) (w : wpx E (pickF r e ρ) PS) : wpx E (pickF ((cn, i, l) :: r) e ρ) PS := by
  unfold pickF
  rw [if_neg h1]
  exact w
end
/-! ### equal data -/
section
variable {ρ : Env} {a b : D} {P : D → Env → Prop}
theorem o_eqX {p q : PyData} {k : Bool} (h1 : toPy a = some p) (h2 : toPy b = some q) (s1 : SeqAt.shaped p = true) (s2 : SeqAt.shaped q = true) (e : PyData.eqv p q = k) (w : P (.bl k) ρ) : wo (eqD a b) ρ P := o_some (d := .bl k) (by
  unfold eqD; rw [h1, h2]; dsimp only; unfold ifO; rw [if_pos ⟨s1, s2⟩, e]) w
theorem o_neX {p q : PyData} {k : Bool} (h1 : toPy a = some p) (h2 : toPy b = some q) (s1 : SeqAt.shaped p = true) (s2 : SeqAt.shaped q = true) (e : PyData.eqv p q = k) (w : P (.bl (!k)) ρ) : wo (neD a b) ρ P := o_some (d := .bl (!k)) (by
  unfold neD; rw [h1, h2]; dsimp only; unfold ifO; rw [if_pos ⟨s1, s2⟩, e]) w
end
end Ip
set_option maxHeartbeats 2000000
namespace Np
open PySem L2 Ip
/-! ### products -/
def addE (a b : List Nat) : List Nat := List.zipWith (· + ·) a b
theorem addE_len {a b : List Nat} {n : Nat} (ha : a.length = n) (hb : b.length = n) : (addE a b).length = n := by unfold addE; rw [List.length_zipWith]; omega
theorem addE_comm (a b : List Nat) : addE a b = addE b a := by unfold addE; rw [List.zipWith_comm]; congr 1; funext x y; exact Nat.add_comm _ _
theorem addE_assoc : ∀ a b c : List Nat, addE (addE a b) c = addE a (addE b c)
  | [], b, c => by unfold addE; simp
  | x :: a, [], c => by unfold addE; simp
  | x :: a, y :: b, [] => by unfold addE; simp
  | x :: a, y :: b, z :: c => by
    have := addE_assoc a b c
    unfold addE at this ⊢
    simp only [List.zipWith_cons_cons]
    rw [this, Nat.add_assoc]
/-- the product's sum -/
def lin2 (φ : List Nat → Int) (p q : List Tm) : Int := lin (fun e => lin (fun f => φ (addE e f)) q) p
theorem lin_smul (φ : List Nat → Int) (c : Int) : ∀ q : List Tm, lin (fun f => c * φ f) q = c * lin φ q
  | [] => by simp [lin]
  | t :: q => by
    rw [lin, lin, lin_smul φ c q, Int.mul_add, ← Int.mul_assoc, Int.mul_comm t.1 c, Int.mul_assoc]
theorem lin_addφ (φ ψ : List Nat → Int) : ∀ q : List Tm, lin (fun f => φ f + ψ f) q = lin φ q + lin ψ q
  | [] => by simp [lin]
  | t :: q => by rw [lin, lin, lin, lin_addφ φ ψ q, Int.mul_add]; omega
theorem lin2_comm (φ : List Nat → Int) (p q : List Tm) : lin2 φ p q = lin2 φ q p := by
  unfold lin2
  induction p with
  | nil =>
    rw [lin]
    induction q with
    | nil => rfl
    | cons t q ih => rw [lin, ← ih]; simp [lin]
  | cons t p ih =>
    rw [lin, ih]
    have e : (fun e => lin (fun f => φ (addE e f)) (t :: p)) = fun e => t.1 * φ (addE e t.2) + lin (fun f => φ (addE e f)) p := by funext e; rw [lin]
    rw [e, lin_addφ, lin_smul]
    have e2 : (fun f => φ (addE t.2 f)) = fun f => φ (addE f t.2) := by funext f; rw [addE_comm]
    rw [e2]
/-! ### worths -/
def mono : List Int → List Nat → Int
  | v :: vs, k :: e => v ^ k * mono vs e
  | _, _ => 1
theorem mono_add : ∀ (vs : List Int) (a b : List Nat), a.length = b.length → mono vs (addE a b) = mono vs a * mono vs b
  | [], a, b, _ => by
    have e : ∀ c : List Nat, mono [] c = 1 := fun c => by cases c <;> rfl
    rw [e, e, e]; rfl
  | v :: vs, [], [], _ => rfl
  | v :: vs, [], y :: b, h => by cases h
  | v :: vs, x :: a, [], h => by cases h
  | v :: vs, x :: a, y :: b, h => by
    have ih := mono_add vs a b (by simpa using h)
    unfold addE at ih ⊢
    rw [List.zipWith_cons_cons, mono, mono, mono, ih, Int.pow_add]
    rw [Int.mul_assoc, Int.mul_assoc, Int.mul_left_comm (v ^ y)]
def val (vs : List Int) (p : List Tm) : Int := lin (mono vs) p
theorem val_mul {vs : List Int} {n : Nat} {p q : List Tm} (hp : ∀ t ∈ p, t.2.length = n) (hq : ∀ t ∈ q, t.2.length = n) : lin2 (mono vs) p q = val vs p * val vs q := by
  unfold lin2 val
  have : ∀ t ∈ p, lin (fun f => mono vs (addE t.2 f)) q = lin (mono vs) q * mono vs t.2 := fun t ht => by
    rw [lin_congr (ψ := fun f => mono vs t.2 * mono vs f) fun u hu => mono_add vs t.2 u.2 ((hp t ht).trans (hq u hu).symm), lin_smul, Int.mul_comm]
  rw [lin_congr (φ := fun e => lin (fun f => mono vs (addE e f)) q) (ψ := fun e => lin (mono vs) q * mono vs e) this, lin_smul, Int.mul_comm]
/-! ### sizes -/
def Bt (b : Nat) (x : Int) : Prop := x.natAbs < 2 ^ b
theorem Bt.log {b : Nat} {x : Int} (h : Bt b x) : x.natAbs.log2 ≤ b := by
  by_cases z : x.natAbs = 0
  · rw [z]; simp
  · exact Nat.le_of_lt ((Nat.log2_lt z).2 h)
theorem Bt.mono {a b : Nat} {x : Int} (h : Bt a x) (l : a ≤ b) : Bt b x := Nat.lt_of_lt_of_le h (Nat.pow_le_pow_right (by decide) l)
theorem Bt.mul {a b : Nat} {x y : Int} (h : Bt a x) (k : Bt b y) : Bt (a + b) (x * y) := by
  unfold Bt at *
  rw [Int.natAbs_mul, Nat.pow_add]
  exact Nat.mul_lt_mul'' h k
theorem Bt.one : Bt 1 1 := by unfold Bt; decide
theorem Bt.pow {b : Nat} {x : Int} (h : Bt b x) : ∀ k : Nat, x.natAbs ^ k ≤ 2 ^ (b * k)
  | 0 => by simp
  | k + 1 => by
    rw [Nat.pow_succ, Nat.mul_succ, Nat.pow_add]
    exact Nat.mul_le_mul (Bt.pow h k) (Nat.le_of_lt h)
theorem natAbs_pow (x : Int) : ∀ k : Nat, (x ^ k).natAbs = x.natAbs ^ k
  | 0 => by simp
  | k + 1 => by rw [Int.pow_succ, Int.natAbs_mul, natAbs_pow x k, Nat.pow_succ]
theorem Bt.powB {b : Nat} {x : Int} (h : Bt b x) (k : Nat) : Bt (b * k + 1) (x ^ k) := by
  unfold Bt
  rw [natAbs_pow, Nat.pow_succ]
  have := Bt.pow h k
  have p : 0 < 2 ^ (b * k) := Nat.pow_pos (by decide)
  omega
theorem nrm_bt {b : Nat} : ∀ {p : List Tm}, (∀ t ∈ p, Bt b t.1) → nrm p ≤ p.length * 2 ^ b
  | [], _ => by simp [nrm]
  | t :: p, h => by
    rw [nrm, List.length_cons, Nat.succ_mul]
    have h1 := h t List.mem_cons_self
    have := nrm_bt (p := p) fun u hu => h u (List.mem_cons_of_mem _ hu)
    unfold Bt at h1
    omega
/-! ### equal as data -/
def pT (t : Tm) : PyData := .tuple [.int t.1, .tuple ((zI t.2).map PyData.int)]
def pP (p : List Tm) : PyData := .tuple (p.map pT)
theorem toPy_tD (t : Tm) : toPy (tD t) = some (pT t) := by
  unfold tD pT
  rw [toPy, toPys, toPys, toPy_eD]
  rfl
theorem toPys_tD : ∀ p : List Tm, toPys (p.map tD) = some (p.map pT)
  | [] => rfl
  | t :: p => by rw [List.map_cons, toPys, toPy_tD, toPys_tD p]; rfl
theorem toPy_pD (p : List Tm) : toPy (pD p) = some (pP p) := by unfold pD pP; rw [toPy, toPys_tD]; rfl
theorem eqv_ints : ∀ a b : List Int, PyData.eqvAll (a.map PyData.int) (b.map PyData.int) = decide (a = b)
  | [], [] => rfl
  | [], y :: b => by simp [PyData.eqvAll]
  | x :: a, [] => by simp [PyData.eqvAll]
  | x :: a, y :: b => by
    rw [List.map_cons, List.map_cons, PyData.eqvAll, PyData.eqv, eqv_ints a b]
    by_cases h : x = y <;> by_cases k : a = b <;> simp [h, k]
theorem eqv_pT (t u : Tm) : PyData.eqv (pT t) (pT u) = decide (t = u) := by
  unfold pT
  rw [PyData.eqv, PyData.eqvAll, PyData.eqvAll, PyData.eqvAll, PyData.eqv, PyData.eqv, eqv_ints]
  obtain ⟨c, e⟩ := t
  obtain ⟨d, f⟩ := u
  have : (zI e = zI f) = (e = f) := propext ⟨zI_inj, fun h => by rw [h]⟩
  by_cases h : c = d <;> by_cases k : e = f <;> simp [h, k, this]
theorem eqv_pP (p q : List Tm) : PyData.eqv (pP p) (pP q) = decide (p = q) := by
  unfold pP
  rw [PyData.eqv]
  induction p generalizing q with
  | nil => cases q <;> simp [PyData.eqvAll]
  | cons t p ih =>
    cases q with
    | nil => simp [PyData.eqvAll]
    | cons u q =>
      rw [List.map_cons, List.map_cons, PyData.eqvAll, eqv_pT, ih q]
      by_cases h : t = u <;> by_cases k : p = q <;> simp [h, k]
theorem lay_ints : ∀ a : List Int, PyData.canLayAll0 (a.map PyData.int) = true
  | [] => rfl
  | x :: a => by rw [List.map_cons, PyData.canLayAll0, lay_ints a]; rfl
theorem lay_pT (t : Tm) : (pT t).canLay0 = true := by
  unfold pT
  rw [PyData.canLay0, PyData.canLayAll0, PyData.canLayAll0, PyData.canLayAll0, PyData.canLay0, PyData.canLay0, lay_ints]; rfl
theorem lay_pP (p : List Tm) : (pP p).canLay0 = true := by
  unfold pP
  rw [PyData.canLay0]
  induction p with
  | nil => rfl
  | cons t p ih => rw [List.map_cons, PyData.canLayAll0, lay_pT, ih]; rfl
theorem dep_ints (a : List Int) : PyData.depthAll (a.map PyData.int) ≤ 10 := by
  rcases depth_ints a with h | h <;> simp only [PyData.depthAll, PyData.depth] at h ⊢ <;> omega
theorem dep_pT (t : Tm) : (pT t).depth ≤ 20 := by
  have := dep_ints (zI t.2)
  unfold pT
  simp only [PyData.depthAll, PyData.depth]
  omega
theorem dep_pP (p : List Tm) : (pP p).depth ≤ 40 := by
  unfold pP
  have : PyData.depthAll (p.map pT) ≤ 30 := by
    induction p with
    | nil => simp [PyData.depthAll]
    | cons t p ih =>
      have := dep_pT t
      rw [List.map_cons]
      simp only [PyData.depthAll]
      omega
  simp only [PyData.depth]
  omega
theorem shaped_pP (p : List Tm) : SeqAt.shaped (pP p) = true := by
  unfold SeqAt.shaped
  rw [lay_pP, Bool.true_and]
  exact decide_eq_true (Nat.le_trans (dep_pP p) (by decide))
theorem shaped_ints (a : List Int) : SeqAt.shaped (.list (a.map PyData.int)) = true := by
  unfold SeqAt.shaped
  rw [PyData.canLay0, lay_ints, Bool.true_and]
  have := dep_ints a
  refine decide_eq_true ?_
  simp only [PyData.depth]
  omega
theorem o_eqP {p q : List Tm} {ρ : Ip.Env} {P : D → Ip.Env → Prop} (w : P (.bl (decide (p = q))) ρ) : wo (eqD (pD p) (pD q)) ρ P := o_eqX (toPy_pD p) (toPy_pD q) (shaped_pP p) (shaped_pP q) (eqv_pP p q) w
theorem o_neP {p q : List Tm} {ρ : Ip.Env} {P : D → Ip.Env → Prop} (w : P (.bl (!decide (p = q))) ρ) : wo (neD (pD p) (pD q)) ρ P := o_neX (toPy_pD p) (toPy_pD q) (shaped_pP p) (shaped_pP q) (eqv_pP p q) w
theorem o_neInts {a b : List Int} {ρ : Ip.Env} {P : D → Ip.Env → Prop} (w : P (.bl (!decide (a = b))) ρ) : wo (neD (.lst (a.map D.int)) (.lst (b.map D.int))) ρ P :=
  o_neX (p := .list (a.map PyData.int)) (q := .list (b.map PyData.int)) (by rw [toPy, toPys_ints]; rfl) (by rw [toPy, toPys_ints]; rfl) (shaped_ints a) (shaped_ints b) (by rw [PyData.eqv]; exact eqv_ints a b) w
end Np
set_option maxHeartbeats 2000000
namespace Ip
open PySem L2
theorem cutD_first (ds : List D) (n : Nat) : cutD ds none (some (n : Int)) = ds.take n := by
  unfold cutD
  rw [HT.sIx_none, HT.sIx_nat, List.drop_zero, Nat.sub_zero]
  rcases Nat.le_total n ds.length with h | h
  · rw [Nat.min_eq_left h]
  · rw [Nat.min_eq_right h, List.take_length, List.take_of_length_le h]
theorem cutD_from (ds : List D) (n : Nat) : cutD ds (some (n : Int)) none = ds.drop n := by
  unfold cutD
  rw [HT.sIx_none, HT.sIx_nat]
  rcases Nat.le_total n ds.length with h | h
  · rw [Nat.min_eq_left h, List.take_of_length_le (by rw [List.length_drop]; omega)]
  · rw [Nat.min_eq_right h, Nat.sub_self, List.take_zero, List.drop_eq_nil_of_le h]
theorem inI2 (a b c : Int) : inID (.int a) (.tup [.int b, .int c]) = some (.bl (a == b || a == c)) := by
  have e : dInts [D.int b, D.int c] = some [b, c] := ints_map [b, c]
  unfold inID
  simp only [e, Option.map_some, List.contains_cons, List.contains_nil, Bool.or_false]
theorem o_notIn2 {a b c : Int} {k : Bool} {P : D → Env → Prop} {ρ : Env} (h : (!(a == b || a == c)) = k) (w : P (.bl k) ρ) : wo (notInID (.int a) (.tup [.int b, .int c])) ρ P := o_some (d := .bl k) (by
  subst h
  unfold notInID
  rw [inI2]) w
theorem o_in2 {a b c : Int} {k : Bool} {P : D → Env → Prop} {ρ : Env} (h : (a == b || a == c) = k) (w : P (.bl k) ρ) : wo (inID (.int a) (.tup [.int b, .int c])) ρ P := o_some (d := .bl k) (by
  subst h
  rw [inI2]) w
end Ip
namespace Np
open PySem L2 Ip
section
variable {ρ : Ip.Env} {P : D → Ip.Env → Prop} {e : List Nat} {p : List Tm} {t : Tm}
theorem zI_sum : ∀ e : List Nat, (zI e).sum = sm e
  | [] => rfl
  | n :: e => by
    have := zI_sum e
    unfold zI sm at *
    rw [List.map_cons, List.sum_cons, List.sum_cons, this]
    push_cast; rfl
theorem o_sumE (w : P (.int (sm e)) ρ) : wo (oSumT [eD e]) ρ P := o_sumT (ns := zI e) (by rw [zI_sum]; exact w)
theorem zI_len (e : List Nat) : (zI e).length = e.length := by unfold zI; rw [List.length_map]
theorem o_lenE (w : P (.int (e.length : Nat)) ρ) : wo (oLen [eD e]) ρ P := by
  have : ((zI e).map D.int).length = e.length := by rw [List.length_map, zI_len]
  exact o_lenT (by rw [this]; exact w)
theorem o_lenT2 (w : P (.int 2) ρ) : wo (oLen [tD t]) ρ P := w
theorem x_sqP {Q : List D → Prop} (w : Q (p.map tD)) : ∃ es, asSeq (pD p) = some es ∧ Q es := ⟨_, rfl, w⟩
theorem x_sqE {Q : List D → Prop} (w : Q ((zI e).map D.int)) : ∃ es, asSeq (eD e) = some es ∧ Q es := ⟨_, rfl, w⟩
theorem o_ix0 (w : P (.int t.1) ρ) : wo (ixD (tD t) (.int 0)) ρ P := w
theorem o_ix1 (w : P (eD t.2) ρ) : wo (ixD (tD t) (.int 1)) ρ P := w
theorem o_ixKy (w : P (eD e) ρ) : wo (ixD (kyD e) (.int 1)) ρ P := w
theorem o_eqI' {a b : Int} {k : Bool} (h : decide (a = b) = k) (w : P (.bl k) ρ) : wo (eqD (.int a) (.int b)) ρ P := o_eqI (by rw [h]; exact w)
theorem o_mulD {a b : Nat} {x y : Int} (h : Bt a x) (k : Bt b y) (l : a + b < 1000000) (w : P (.int (x * y)) ρ) : wo (mulD (.int x) (.int y)) ρ P := o_mulW (by have := h.log; have := k.log; omega) w
/-- a dict's entry -/
theorem o_getM {m : List Tm} {c : Int} (h : look m e = some c) (w : P (.int c) ρ) : wo (dgetT (dD m) (eD e)) ρ P := o_some (d := .int c) (by
  show ((toKT (eD e)).bind fun kk => tFind kk _ _) = _
  rw [toKT_eD]
  show tFind (kE e) _ _ = _
  rw [tFind_look, h]; rfl) w
theorem o_sortM {es : List (List Nat)} (w : P (.lst ((srt es).map kyD)) ρ) : wo (oSortD true [.lst (es.map kyD)]) ρ P := o_some (d := .lst ((srt es).map kyD)) (by
  unfold oSortD
  dsimp only
  rw [toPys_kyD]
  dsimp only
  rw [if_pos (okSort_kP es), sortL_kP]) w
theorem o_sortKM {es : List (List Nat)} {F : FSem} (h : ∀ e ∈ es, ∃ o, F [eD e] = .ok (kyD e) o) (w : P (.lst ((srt es).map eD)) ρ) : wo (oSortK F true [.lst (es.map eD)]) ρ P := o_some (d := .lst ((srt es).map eD)) (by
  have ek : keysOf F (es.map eD) = some (es.map kyD) := by
    clear w
    induction es with
    | nil => rfl
    | cons e es ih =>
      obtain ⟨o, he⟩ := h e List.mem_cons_self
      rw [List.map_cons, keysOf, he, ih fun f hf => h f (List.mem_cons_of_mem _ hf)]; rfl
  unfold oSortK
  dsimp only
  rw [ek]
  dsimp only
  rw [toPys_kyD]
  dsimp only
  rw [if_pos (okSort_kP es), sortL_kP]) w
theorem o_ltKy {a b : List Nat} (w : P (.bl (klt a b)) ρ) : wo (ltXD (kyD a) (kyD b)) ρ P := o_some (d := .bl (klt a b)) (by
  unfold ltXD
  rw [toPy_kyD, toPy_kyD]
  show ifO _ _ = _
  unfold ifO
  rw [if_pos ⟨alike_kP a b, depth_kP a⟩]; rfl) w
theorem keys_map (m : List Tm) : (m.map fun t => kE t.2).map kT = m.map fun t => eD t.2 := by
  rw [List.map_map]
  exact List.map_congr_left fun t _ => kT_kE t.2
theorem items_map (m : List Tm) : pairsT (m.map fun t => kE t.2) (m.map fun t => .int t.1) = m.map fun t => .tup [eD t.2, .int t.1] := by
  unfold pairsT
  induction m with
  | nil => rfl
  | cons t m ih => rw [List.map_cons, List.map_cons, List.zip_cons_cons, List.map_cons, ih, List.map_cons, kT_kE]
end
section
variable {E : Ex → Ip.Env → Prop} {ρ : Ip.Env} {i : Nat} {Q : Ip.Env → Prop} {PL : List D → Ip.Env → Prop} {P : D → Ip.Env → Prop}
theorem x_gDM {h : Ip.Env → R D} {m : List Tm} {e : List Nat} {c : Int} (e0 : ρ.getD i none = some (dD m)) (w : wp (h ρ) fun kd ρ1 => (kd = eD e ∧ ρ1.getD i none = some (dD m)) ∧ m.length < 2 ^ 24 ∧ Q (ρ1.set i (some (dD (put m e c))))) : ∃ ρ2, gDt i h (.int c) ρ = some ρ2 ∧ Q ρ2 := by
  refine x_gDt ⟨⟨_, _, e0⟩, wp_imp w fun kd ρ1 ⟨⟨h1, h2⟩, h3, h4⟩ => ?_⟩
  subst h1
  refine ⟨_, _, kE e, h2, toKT_eD e, by rw [List.length_map]; exact h3, ?_⟩
  rw [tPut_put]
  exact h4
theorem w_getM {m : List Tm} {e : List Nat} {f h : Ip.Env → R D} (e0 : ρ.getD i none = some (dD m)) (w : wpx E (f ρ) fun kd ρ1 => wpx E (h ρ1) fun z ρ2 => (kd = eD e ∧ z = .int 0 ∧ ρ2.getD i none = some (dD m)) ∧ P (.int (get m e)) ρ2) : wpx E (mGetT i f h ρ) P := by
  refine w_getT ⟨⟨_, _, e0⟩, wp_imp w fun kd ρ1 w1 => wp_imp w1 fun z ρ2 ⟨⟨h1, h2, h3⟩, h4⟩ => ?_⟩
  subst h1 h2
  refine ⟨_, _, kE e, h3, toKT_eD e, ?_⟩
  rw [tFind_look]
  unfold get at h4
  cases q : look m e with
  | none => rw [q] at h4; exact h4
  | some c => rw [q] at h4; exact h4
theorem w_keysM {m : List Tm} (e : ρ[i]? = some (some (dD m))) (w : PL (m.map fun t => eD t.2) ρ) : wpx E (mKeysT i ρ) PL := w_keysT e (by rw [keys_map]; exact w)
theorem w_itemsM {m : List Tm} (e : ρ[i]? = some (some (dD m))) (w : PL (m.map fun t => .tup [eD t.2, .int t.1]) ρ) : wpx E (mItemsT i ρ) PL := w_itemsT e (by rw [items_map]; exact w)
end
end Np
set_option maxHeartbeats 4000000
namespace Wk05
open PySem L2 Ip
local macro_rules | `(tactic| and_intros) => `(tactic| repeat (first | (with_reducible first | refine w_c ?_ | refine w_nil ?_ | refine w_nx ?_ | refine w_yes ?_ | refine w_pair ?_ | refine w_pairO ?_ | refine w_pairR ?_ | refine w_m2 ?_ | refine w_un ?_ | refine w_cons ?_ | refine w_own ?_ | refine w_io ?_ | refine w_arg ?_ | refine w_argI ?_ | refine w_seqI ?_ | refine w_tup ?_ | refine w_lst ?_ | refine w_and ?_ | refine w_or ?_ | refine w_notV ?_ | refine w_ite ?_ | refine w_test ?_ | refine w_not ?_ | refine w_tand ?_ | refine w_tor ?_ | refine w_chain ?_ | refine w_call0 ?_ | refine w_call1 ?_ | refine w_lstM ?_ | refine w_strM ?_ | refine w_slice ?_ | refine w_oN ?_ | refine w_oS ?_ | refine w_seq ?_ | refine w_if ?_ | refine w_ret ?_ | refine w_drop ?_ | refine w_set ?_ | refine w_setO ?_ | refine w_asg ?_ | refine w_gIx ?_ | refine w_for ?_ | refine w_fn ?_ | refine w_cutL ?_ | refine w_enumS ?_ | refine w_fld1 ?_ | refine w_fldS ?_ | refine w_make ?_ | refine w_meth ?_ | refine w_raise ?_ | refine w_try ?_ | refine w_tryC ?_ | refine w_joinRev ?_ | refine w_while ?_ | refine t_nx ?_ | refine t_ct ?_ | refine t_bk ?_ | refine t_rt ?_ | refine q_nx ?_ | refine q_rt ?_ | refine q_bk ?_ | refine q_ct ?_ | refine e_rt ?_ | refine e_nx ?_ | refine i_t ?_ | refine i_f ?_ | refine i_nt ?_ | refine i_nf ?_ | refine o_add ?_ | refine o_sub ?_ | refine o_lt ?_ | refine o_le ?_ | refine o_gt ?_ | refine o_ge ?_ | refine o_int ?_ | refine o_abs ?_ | refine o_lenL ?_ | refine o_lenT ?_ | refine o_inS ?_ | refine o_notInS ?_ | refine o_listL ?_ | refine o_listT ?_ | refine o_tupL ?_ | refine o_tupT ?_ | refine o_eqI ?_ | refine o_neI ?_ | refine o_isN ?_ | refine o_notN ?_ | refine o_rev ?_ | refine o_max ?_ | refine o_min ?_ | refine o_lenCh ?_ | refine o_notInCh ?_ | refine o_listCh ?_ | refine o_inI ?_ | refine x_bl ?_ | refine x_int ?_ | refine x_str ?_ | refine x_sqL ?_ | refine x_sqT ?_ | refine x_sqS ?_ | refine x_isL ?_ | refine x_out ?_ | refine x_some ?_ | refine x_objL ?_ | refine x_objI ?_ | refine x_objD ?_ | refine x_cls ?_ | refine fl_nx ?_ | refine fl_ct ?_ | refine w_zip ?_ | refine w_zipT ?_ | refine w_sliceL ?_ | refine w_raise1 ?_ | refine w_tryF ?_ | refine o_and ?_ | refine o_shr ?_ | refine o_negI ?_ | refine o_listDT ?_ | refine Np.o_sumE ?_ | refine Np.o_lenE ?_ | refine Np.x_sqP ?_ | refine Np.x_sqE ?_ | refine Np.o_ix0 ?_ | refine Np.o_ix1 ?_ | refine Np.o_ixKy ?_ | refine Np.o_ltKy ?_ | refine Np.o_sortM ?_ | refine ⟨_, _, rfl, ?_⟩ | refine x_r1 (by with_unfolding_all omega) ?_ | refine x_r2 (by with_unfolding_all omega) ?_ | refine w_var (by with_unfolding_all exact rfl) ?_ | refine x_env (by with_unfolding_all exact rfl) ?_ | refine x_lst (by with_unfolding_all exact rfl) ?_ | refine x_slot (by with_unfolding_all exact of_decide_eq_true rfl) ?_ | refine x_nm (by with_unfolding_all exact of_decide_eq_true rfl) ?_ | refine o_ixL (by with_unfolding_all exact rfl) ?_ | refine o_ixT (by with_unfolding_all exact rfl) ?_ | refine o_isiB (b := true) (by with_unfolding_all exact rfl) ?_ | refine o_isiB (b := false) (by with_unfolding_all exact rfl) ?_ | refine o_lenS' (by first | with_unfolding_all omega | assumption) ?_ | refine x_tp (by with_unfolding_all exact rfl) ?_ | refine x_fld (by with_unfolding_all exact rfl) (by with_unfolding_all exact rfl) ?_ | refine x_meth (by with_unfolding_all exact rfl) ⟨(by with_unfolding_all exact rfl), (by with_unfolding_all exact rfl)⟩ ?_ | refine o_pow (by with_unfolding_all decide) ?_ | refine o_mulR (by with_unfolding_all decide) ?_ | refine o_mulL (by with_unfolding_all decide) ?_ | refine o_mulL (by with_unfolding_all omega) ?_ | refine o_mod (by first | assumption | with_unfolding_all decide) ?_ | refine o_div (by first | assumption | with_unfolding_all decide) (by first | assumption | with_unfolding_all decide) ?_)))
open Np (eD tD pD kyD dD)
/-! ## the hand -/
def hd (cs : List Int) (i d c s r : Int) : D := .lst [.lst (cs.map D.int), .int i, .int d, .int c, .int s, .int r]
def HOk (c : Nat) (h : D) : Prop := ∃ (cs : List Int) (i d k s r : Int), h = hd cs i d k s r ∧ 0 ≤ i ∧ 0 ≤ k ∧ k ≤ c ∧ cs.length ≤ 63
theorem mixed_ok (n c : Int) (h0 : 0 ≤ c) (h1 : c < 2 ^ 45) : wf (F_law_mixed [.int n, .int c]) fun d outs => (∃ m, d = .int m) ∧ outs = [] := by
  unfold F_law_mixed
  with_reducible refine w_fn ?_
  unfold m_law_mixed
  and_intros
  refine o_pow ⟨by decide, by decide, ?_⟩ ?_
  · have h2 := Int.emod_nonneg n (show (2147483647 : Int) ≠ 0 by decide)
    have h3 := Int.emod_lt_of_pos n (show (0 : Int) < 2147483647 by decide)
    omega
  and_intros
  have h4 := Int.emod_nonneg ((n % 2147483647 + 7919 * c + 1) ^ Int.toNat 5) (show (2147483647 : Int) ≠ 0 by decide)
  have h5 := Int.emod_lt_of_pos ((n % 2147483647 + 7919 * c + 1) ^ Int.toNat 5) (show (0 : Int) < 2147483647 by decide)
  generalize (n % 2147483647 + 7919 * c + 1) ^ Int.toNat 5 % 2147483647 = y at *
  and_intros
  exact ⟨⟨_, rfl⟩, rfl⟩
theorem len63 {α : Type} {l : List α} (h : l.length ≤ 63) : l.length < 2 ^ 24 := by omega
theorem draw_ok {c : Nat} {h : D} {many : Int} (H : HOk c h) (hc : c < 2 ^ 40) (h1 : 1 ≤ many) (h2 : many < 10 ^ 60) : wf (F_law_draw [h, .int many]) fun d outs => ∃ r h', d = .int r ∧ outs = [h'] ∧ 0 ≤ r ∧ r < many ∧ HOk (c + 1) h' := by
  obtain ⟨cs, i, d, k, s, r, rfl, hi, hk0, hk, hl⟩ := H
  have hlog := log_small (j := many) (by omega) h2
  have hm : (0 : Int) < many := by omega
  unfold F_law_draw hd
  with_reducible refine w_fn ?_
  unfold m_law_draw
  repeat (first | (with_reducible first | refine w_c ?_ | refine w_nil ?_ | refine w_nx ?_ | refine w_yes ?_ | refine w_pair ?_ | refine w_pairO ?_ | refine w_pairR ?_ | refine w_m2 ?_ | refine w_un ?_ | refine w_cons ?_ | refine w_own ?_ | refine w_io ?_ | refine w_arg ?_ | refine w_argI ?_ | refine w_seqI ?_ | refine w_tup ?_ | refine w_lst ?_ | refine w_and ?_ | refine w_or ?_ | refine w_notV ?_ | refine w_ite ?_ | refine w_test ?_ | refine w_not ?_ | refine w_tand ?_ | refine w_tor ?_ | refine w_chain ?_ | refine w_call0 ?_ | refine w_call1 ?_ | refine w_lstM ?_ | refine w_strM ?_ | refine w_slice ?_ | refine w_oN ?_ | refine w_oS ?_ | refine w_seq ?_ | refine w_if ?_ | refine w_ret ?_ | refine w_drop ?_ | refine w_set ?_ | refine w_setO ?_ | refine w_asg ?_ | refine w_gIx ?_ | refine w_for ?_ | refine w_fn ?_ | refine w_cutL ?_ | refine w_enumS ?_ | refine w_fld1 ?_ | refine w_fldS ?_ | refine w_make ?_ | refine w_meth ?_ | refine w_raise ?_ | refine w_try ?_ | refine w_tryC ?_ | refine w_joinRev ?_ | refine w_while ?_ | refine t_nx ?_ | refine t_ct ?_ | refine t_bk ?_ | refine t_rt ?_ | refine q_nx ?_ | refine q_rt ?_ | refine q_bk ?_ | refine q_ct ?_ | refine e_rt ?_ | refine e_nx ?_ | refine i_t ?_ | refine i_f ?_ | refine i_nt ?_ | refine i_nf ?_ | refine o_add ?_ | refine o_sub ?_ | refine o_lt ?_ | refine o_le ?_ | refine o_gt ?_ | refine o_ge ?_ | refine o_int ?_ | refine o_abs ?_ | refine o_lenL ?_ | refine o_lenT ?_ | refine o_inS ?_ | refine o_notInS ?_ | refine o_listL ?_ | refine o_listT ?_ | refine o_tupL ?_ | refine o_tupT ?_ | refine o_eqI ?_ | refine o_neI ?_ | refine o_isN ?_ | refine o_notN ?_ | refine o_rev ?_ | refine o_max ?_ | refine o_min ?_ | refine o_lenCh ?_ | refine o_notInCh ?_ | refine o_listCh ?_ | refine o_inI ?_ | refine x_bl ?_ | refine x_int ?_ | refine x_str ?_ | refine x_sqL ?_ | refine x_sqT ?_ | refine x_sqS ?_ | refine x_isL ?_ | refine x_out ?_ | refine x_some ?_ | refine x_objL ?_ | refine x_objI ?_ | refine x_objD ?_ | refine x_cls ?_ | refine fl_nx ?_ | refine fl_ct ?_ | refine w_zip ?_ | refine w_zipT ?_ | refine w_sliceL ?_ | refine w_raise1 ?_ | refine w_tryF ?_ | refine o_and ?_ | refine o_shr ?_ | refine o_negI ?_ | refine o_listDT ?_ | refine Np.o_sumE ?_ | refine Np.o_lenE ?_ | refine Np.x_sqP ?_ | refine Np.x_sqE ?_ | refine Np.o_ix0 ?_ | refine Np.o_ix1 ?_ | refine Np.o_ixKy ?_ | refine Np.o_ltKy ?_ | refine Np.o_sortM ?_ | refine ⟨_, _, rfl, ?_⟩ | refine x_r1 (by with_unfolding_all omega) ?_ | refine x_r2 (by with_unfolding_all omega) ?_ | refine w_var (by with_unfolding_all exact rfl) ?_ | refine x_env (by with_unfolding_all exact rfl) ?_ | refine x_lst (by with_unfolding_all exact rfl) ?_ | refine x_slot (by with_unfolding_all exact of_decide_eq_true rfl) ?_ | refine x_nm (by with_unfolding_all exact of_decide_eq_true rfl) ?_ | refine o_ixL (by with_unfolding_all exact rfl) ?_ | refine o_ixT (by with_unfolding_all exact rfl) ?_ | refine o_isiB (b := true) (by with_unfolding_all exact rfl) ?_ | refine o_isiB (b := false) (by with_unfolding_all exact rfl) ?_ | refine o_lenS' (by first | with_unfolding_all omega | assumption) ?_ | refine x_tp (by with_unfolding_all exact rfl) ?_ | refine x_fld (by with_unfolding_all exact rfl) (by with_unfolding_all exact rfl) ?_ | refine x_meth (by with_unfolding_all exact rfl) ⟨(by with_unfolding_all exact rfl), (by with_unfolding_all exact rfl)⟩ ?_ | refine o_pow (by with_unfolding_all decide) ?_ | refine o_mulR (by with_unfolding_all decide) ?_ | refine o_mulL (by with_unfolding_all decide) ?_ | refine o_mulL (by with_unfolding_all omega) ?_ | refine o_mod (by first | assumption | with_unfolding_all decide) ?_ | refine o_div (by first | assumption | with_unfolding_all decide) (by first | assumption | with_unfolding_all decide) ?_ | refine ⟨(by with_unfolding_all rfl), ?_⟩ | refine ⟨_, (by with_unfolding_all rfl), ?_⟩ | refine ⟨_, _, _, (by with_unfolding_all rfl), (by with_unfolding_all rfl), (by with_unfolding_all rfl), ?_⟩))
  rw [List.length_map]
  by_cases hp : ((cs.length : Nat) : Int) ≤ i
  · rw [decide_eq_true hp]
    repeat (first | (with_reducible first | refine w_c ?_ | refine w_nil ?_ | refine w_nx ?_ | refine w_yes ?_ | refine w_pair ?_ | refine w_pairO ?_ | refine w_pairR ?_ | refine w_m2 ?_ | refine w_un ?_ | refine w_cons ?_ | refine w_own ?_ | refine w_io ?_ | refine w_arg ?_ | refine w_argI ?_ | refine w_seqI ?_ | refine w_tup ?_ | refine w_lst ?_ | refine w_and ?_ | refine w_or ?_ | refine w_notV ?_ | refine w_ite ?_ | refine w_test ?_ | refine w_not ?_ | refine w_tand ?_ | refine w_tor ?_ | refine w_chain ?_ | refine w_call0 ?_ | refine w_call1 ?_ | refine w_lstM ?_ | refine w_strM ?_ | refine w_slice ?_ | refine w_oN ?_ | refine w_oS ?_ | refine w_seq ?_ | refine w_if ?_ | refine w_ret ?_ | refine w_drop ?_ | refine w_set ?_ | refine w_setO ?_ | refine w_asg ?_ | refine w_gIx ?_ | refine w_for ?_ | refine w_fn ?_ | refine w_cutL ?_ | refine w_enumS ?_ | refine w_fld1 ?_ | refine w_fldS ?_ | refine w_make ?_ | refine w_meth ?_ | refine w_raise ?_ | refine w_try ?_ | refine w_tryC ?_ | refine w_joinRev ?_ | refine w_while ?_ | refine t_nx ?_ | refine t_ct ?_ | refine t_bk ?_ | refine t_rt ?_ | refine q_nx ?_ | refine q_rt ?_ | refine q_bk ?_ | refine q_ct ?_ | refine e_rt ?_ | refine e_nx ?_ | refine i_t ?_ | refine i_f ?_ | refine i_nt ?_ | refine i_nf ?_ | refine o_add ?_ | refine o_sub ?_ | refine o_lt ?_ | refine o_le ?_ | refine o_gt ?_ | refine o_ge ?_ | refine o_int ?_ | refine o_abs ?_ | refine o_lenL ?_ | refine o_lenT ?_ | refine o_inS ?_ | refine o_notInS ?_ | refine o_listL ?_ | refine o_listT ?_ | refine o_tupL ?_ | refine o_tupT ?_ | refine o_eqI ?_ | refine o_neI ?_ | refine o_isN ?_ | refine o_notN ?_ | refine o_rev ?_ | refine o_max ?_ | refine o_min ?_ | refine o_lenCh ?_ | refine o_notInCh ?_ | refine o_listCh ?_ | refine o_inI ?_ | refine x_bl ?_ | refine x_int ?_ | refine x_str ?_ | refine x_sqL ?_ | refine x_sqT ?_ | refine x_sqS ?_ | refine x_isL ?_ | refine x_out ?_ | refine x_some ?_ | refine x_objL ?_ | refine x_objI ?_ | refine x_objD ?_ | refine x_cls ?_ | refine fl_nx ?_ | refine fl_ct ?_ | refine w_zip ?_ | refine w_zipT ?_ | refine w_sliceL ?_ | refine w_raise1 ?_ | refine w_tryF ?_ | refine o_and ?_ | refine o_shr ?_ | refine o_negI ?_ | refine o_listDT ?_ | refine Np.o_sumE ?_ | refine Np.o_lenE ?_ | refine Np.x_sqP ?_ | refine Np.x_sqE ?_ | refine Np.o_ix0 ?_ | refine Np.o_ix1 ?_ | refine Np.o_ixKy ?_ | refine Np.o_ltKy ?_ | refine Np.o_sortM ?_ | refine ⟨_, _, rfl, ?_⟩ | refine x_r1 (by with_unfolding_all omega) ?_ | refine x_r2 (by with_unfolding_all omega) ?_ | refine w_var (by with_unfolding_all exact rfl) ?_ | refine x_env (by with_unfolding_all exact rfl) ?_ | refine x_lst (by with_unfolding_all exact rfl) ?_ | refine x_slot (by with_unfolding_all exact of_decide_eq_true rfl) ?_ | refine x_nm (by with_unfolding_all exact of_decide_eq_true rfl) ?_ | refine o_ixL (by with_unfolding_all exact rfl) ?_ | refine o_ixT (by with_unfolding_all exact rfl) ?_ | refine o_isiB (b := true) (by with_unfolding_all exact rfl) ?_ | refine o_isiB (b := false) (by with_unfolding_all exact rfl) ?_ | refine o_lenS' (by first | with_unfolding_all omega | assumption) ?_ | refine x_tp (by with_unfolding_all exact rfl) ?_ | refine x_fld (by with_unfolding_all exact rfl) (by with_unfolding_all exact rfl) ?_ | refine x_meth (by with_unfolding_all exact rfl) ⟨(by with_unfolding_all exact rfl), (by with_unfolding_all exact rfl)⟩ ?_ | refine o_pow (by with_unfolding_all decide) ?_ | refine o_mulR (by with_unfolding_all decide) ?_ | refine o_mulL (by with_unfolding_all decide) ?_ | refine o_mulL (by with_unfolding_all omega) ?_ | refine o_mod (by first | assumption | with_unfolding_all decide) ?_ | refine o_div (by first | assumption | with_unfolding_all decide) (by first | assumption | with_unfolding_all decide) ?_ | refine ⟨(by with_unfolding_all rfl), ?_⟩ | refine ⟨_, (by with_unfolding_all rfl), ?_⟩ | refine ⟨_, _, _, (by with_unfolding_all rfl), (by with_unfolding_all rfl), (by with_unfolding_all rfl), ?_⟩))
    refine wf_imp (mixed_ok s (k + 1) (by omega) (by omega)) ?_
    rintro d1 outs ⟨⟨m, rfl⟩, rfl⟩
    repeat (first | (with_reducible first | refine w_c ?_ | refine w_nil ?_ | refine w_nx ?_ | refine w_yes ?_ | refine w_pair ?_ | refine w_pairO ?_ | refine w_pairR ?_ | refine w_m2 ?_ | refine w_un ?_ | refine w_cons ?_ | refine w_own ?_ | refine w_io ?_ | refine w_arg ?_ | refine w_argI ?_ | refine w_seqI ?_ | refine w_tup ?_ | refine w_lst ?_ | refine w_and ?_ | refine w_or ?_ | refine w_notV ?_ | refine w_ite ?_ | refine w_test ?_ | refine w_not ?_ | refine w_tand ?_ | refine w_tor ?_ | refine w_chain ?_ | refine w_call0 ?_ | refine w_call1 ?_ | refine w_lstM ?_ | refine w_strM ?_ | refine w_slice ?_ | refine w_oN ?_ | refine w_oS ?_ | refine w_seq ?_ | refine w_if ?_ | refine w_ret ?_ | refine w_drop ?_ | refine w_set ?_ | refine w_setO ?_ | refine w_asg ?_ | refine w_gIx ?_ | refine w_for ?_ | refine w_fn ?_ | refine w_cutL ?_ | refine w_enumS ?_ | refine w_fld1 ?_ | refine w_fldS ?_ | refine w_make ?_ | refine w_meth ?_ | refine w_raise ?_ | refine w_try ?_ | refine w_tryC ?_ | refine w_joinRev ?_ | refine w_while ?_ | refine t_nx ?_ | refine t_ct ?_ | refine t_bk ?_ | refine t_rt ?_ | refine q_nx ?_ | refine q_rt ?_ | refine q_bk ?_ | refine q_ct ?_ | refine e_rt ?_ | refine e_nx ?_ | refine i_t ?_ | refine i_f ?_ | refine i_nt ?_ | refine i_nf ?_ | refine o_add ?_ | refine o_sub ?_ | refine o_lt ?_ | refine o_le ?_ | refine o_gt ?_ | refine o_ge ?_ | refine o_int ?_ | refine o_abs ?_ | refine o_lenL ?_ | refine o_lenT ?_ | refine o_inS ?_ | refine o_notInS ?_ | refine o_listL ?_ | refine o_listT ?_ | refine o_tupL ?_ | refine o_tupT ?_ | refine o_eqI ?_ | refine o_neI ?_ | refine o_isN ?_ | refine o_notN ?_ | refine o_rev ?_ | refine o_max ?_ | refine o_min ?_ | refine o_lenCh ?_ | refine o_notInCh ?_ | refine o_listCh ?_ | refine o_inI ?_ | refine x_bl ?_ | refine x_int ?_ | refine x_str ?_ | refine x_sqL ?_ | refine x_sqT ?_ | refine x_sqS ?_ | refine x_isL ?_ | refine x_out ?_ | refine x_some ?_ | refine x_objL ?_ | refine x_objI ?_ | refine x_objD ?_ | refine x_cls ?_ | refine fl_nx ?_ | refine fl_ct ?_ | refine w_zip ?_ | refine w_zipT ?_ | refine w_sliceL ?_ | refine w_raise1 ?_ | refine w_tryF ?_ | refine o_and ?_ | refine o_shr ?_ | refine o_negI ?_ | refine o_listDT ?_ | refine Np.o_sumE ?_ | refine Np.o_lenE ?_ | refine Np.x_sqP ?_ | refine Np.x_sqE ?_ | refine Np.o_ix0 ?_ | refine Np.o_ix1 ?_ | refine Np.o_ixKy ?_ | refine Np.o_ltKy ?_ | refine Np.o_sortM ?_ | refine ⟨_, _, rfl, ?_⟩ | refine x_r1 (by with_unfolding_all omega) ?_ | refine x_r2 (by with_unfolding_all omega) ?_ | refine w_var (by with_unfolding_all exact rfl) ?_ | refine x_env (by with_unfolding_all exact rfl) ?_ | refine x_lst (by with_unfolding_all exact rfl) ?_ | refine x_slot (by with_unfolding_all exact of_decide_eq_true rfl) ?_ | refine x_nm (by with_unfolding_all exact of_decide_eq_true rfl) ?_ | refine o_ixL (by with_unfolding_all exact rfl) ?_ | refine o_ixT (by with_unfolding_all exact rfl) ?_ | refine o_isiB (b := true) (by with_unfolding_all exact rfl) ?_ | refine o_isiB (b := false) (by with_unfolding_all exact rfl) ?_ | refine o_lenS' (by first | with_unfolding_all omega | assumption) ?_ | refine x_tp (by with_unfolding_all exact rfl) ?_ | refine x_fld (by with_unfolding_all exact rfl) (by with_unfolding_all exact rfl) ?_ | refine x_meth (by with_unfolding_all exact rfl) ⟨(by with_unfolding_all exact rfl), (by with_unfolding_all exact rfl)⟩ ?_ | refine o_pow (by with_unfolding_all decide) ?_ | refine o_mulR (by with_unfolding_all decide) ?_ | refine o_mulL (by with_unfolding_all decide) ?_ | refine o_mulL (by with_unfolding_all omega) ?_ | refine o_mod (by first | assumption | with_unfolding_all decide) ?_ | refine o_div (by first | assumption | with_unfolding_all decide) (by first | assumption | with_unfolding_all decide) ?_ | refine ⟨(by with_unfolding_all rfl), ?_⟩ | refine ⟨_, (by with_unfolding_all rfl), ?_⟩ | refine ⟨_, _, _, (by with_unfolding_all rfl), (by with_unfolding_all rfl), (by with_unfolding_all rfl), ?_⟩))
    exact ⟨_, _, rfl, rfl, Int.emod_nonneg _ (by omega), Int.emod_lt_of_pos _ hm, cs, i, d, k + 1, s, r, rfl, hi, by omega, by omega, hl⟩
  · rw [decide_eq_false hp]
    repeat (first | (with_reducible first | refine w_c ?_ | refine w_nil ?_ | refine w_nx ?_ | refine w_yes ?_ | refine w_pair ?_ | refine w_pairO ?_ | refine w_pairR ?_ | refine w_m2 ?_ | refine w_un ?_ | refine w_cons ?_ | refine w_own ?_ | refine w_io ?_ | refine w_arg ?_ | refine w_argI ?_ | refine w_seqI ?_ | refine w_tup ?_ | refine w_lst ?_ | refine w_and ?_ | refine w_or ?_ | refine w_notV ?_ | refine w_ite ?_ | refine w_test ?_ | refine w_not ?_ | refine w_tand ?_ | refine w_tor ?_ | refine w_chain ?_ | refine w_call0 ?_ | refine w_call1 ?_ | refine w_lstM ?_ | refine w_strM ?_ | refine w_slice ?_ | refine w_oN ?_ | refine w_oS ?_ | refine w_seq ?_ | refine w_if ?_ | refine w_ret ?_ | refine w_drop ?_ | refine w_set ?_ | refine w_setO ?_ | refine w_asg ?_ | refine w_gIx ?_ | refine w_for ?_ | refine w_fn ?_ | refine w_cutL ?_ | refine w_enumS ?_ | refine w_fld1 ?_ | refine w_fldS ?_ | refine w_make ?_ | refine w_meth ?_ | refine w_raise ?_ | refine w_try ?_ | refine w_tryC ?_ | refine w_joinRev ?_ | refine w_while ?_ | refine t_nx ?_ | refine t_ct ?_ | refine t_bk ?_ | refine t_rt ?_ | refine q_nx ?_ | refine q_rt ?_ | refine q_bk ?_ | refine q_ct ?_ | refine e_rt ?_ | refine e_nx ?_ | refine i_t ?_ | refine i_f ?_ | refine i_nt ?_ | refine i_nf ?_ | refine o_add ?_ | refine o_sub ?_ | refine o_lt ?_ | refine o_le ?_ | refine o_gt ?_ | refine o_ge ?_ | refine o_int ?_ | refine o_abs ?_ | refine o_lenL ?_ | refine o_lenT ?_ | refine o_inS ?_ | refine o_notInS ?_ | refine o_listL ?_ | refine o_listT ?_ | refine o_tupL ?_ | refine o_tupT ?_ | refine o_eqI ?_ | refine o_neI ?_ | refine o_isN ?_ | refine o_notN ?_ | refine o_rev ?_ | refine o_max ?_ | refine o_min ?_ | refine o_lenCh ?_ | refine o_notInCh ?_ | refine o_listCh ?_ | refine o_inI ?_ | refine x_bl ?_ | refine x_int ?_ | refine x_str ?_ | refine x_sqL ?_ | refine x_sqT ?_ | refine x_sqS ?_ | refine x_isL ?_ | refine x_out ?_ | refine x_some ?_ | refine x_objL ?_ | refine x_objI ?_ | refine x_objD ?_ | refine x_cls ?_ | refine fl_nx ?_ | refine fl_ct ?_ | refine w_zip ?_ | refine w_zipT ?_ | refine w_sliceL ?_ | refine w_raise1 ?_ | refine w_tryF ?_ | refine o_and ?_ | refine o_shr ?_ | refine o_negI ?_ | refine o_listDT ?_ | refine Np.o_sumE ?_ | refine Np.o_lenE ?_ | refine Np.x_sqP ?_ | refine Np.x_sqE ?_ | refine Np.o_ix0 ?_ | refine Np.o_ix1 ?_ | refine Np.o_ixKy ?_ | refine Np.o_ltKy ?_ | refine Np.o_sortM ?_ | refine ⟨_, _, rfl, ?_⟩ | refine x_r1 (by with_unfolding_all omega) ?_ | refine x_r2 (by with_unfolding_all omega) ?_ | refine w_var (by with_unfolding_all exact rfl) ?_ | refine x_env (by with_unfolding_all exact rfl) ?_ | refine x_lst (by with_unfolding_all exact rfl) ?_ | refine x_slot (by with_unfolding_all exact of_decide_eq_true rfl) ?_ | refine x_nm (by with_unfolding_all exact of_decide_eq_true rfl) ?_ | refine o_ixL (by with_unfolding_all exact rfl) ?_ | refine o_ixT (by with_unfolding_all exact rfl) ?_ | refine o_isiB (b := true) (by with_unfolding_all exact rfl) ?_ | refine o_isiB (b := false) (by with_unfolding_all exact rfl) ?_ | refine o_lenS' (by first | with_unfolding_all omega | assumption) ?_ | refine x_tp (by with_unfolding_all exact rfl) ?_ | refine x_fld (by with_unfolding_all exact rfl) (by with_unfolding_all exact rfl) ?_ | refine x_meth (by with_unfolding_all exact rfl) ⟨(by with_unfolding_all exact rfl), (by with_unfolding_all exact rfl)⟩ ?_ | refine o_pow (by with_unfolding_all decide) ?_ | refine o_mulR (by with_unfolding_all decide) ?_ | refine o_mulL (by with_unfolding_all decide) ?_ | refine o_mulL (by with_unfolding_all omega) ?_ | refine o_mod (by first | assumption | with_unfolding_all decide) ?_ | refine o_div (by first | assumption | with_unfolding_all decide) (by first | assumption | with_unfolding_all decide) ?_ | refine ⟨(by with_unfolding_all rfl), ?_⟩ | refine ⟨_, (by with_unfolding_all rfl), ?_⟩ | refine ⟨_, _, _, (by with_unfolding_all rfl), (by with_unfolding_all rfl), (by with_unfolding_all rfl), ?_⟩))
    obtain ⟨w, e1, e2⟩ := at_in (l := cs.map D.int) hi (by rw [List.length_map]; omega)
    rw [List.getElem?_map, Option.map_eq_some_iff] at e2
    obtain ⟨y, hy, rfl⟩ := e2
    refine o_ixL e1 ?_
    repeat (first | (with_reducible first | refine w_c ?_ | refine w_nil ?_ | refine w_nx ?_ | refine w_yes ?_ | refine w_pair ?_ | refine w_pairO ?_ | refine w_pairR ?_ | refine w_m2 ?_ | refine w_un ?_ | refine w_cons ?_ | refine w_own ?_ | refine w_io ?_ | refine w_arg ?_ | refine w_argI ?_ | refine w_seqI ?_ | refine w_tup ?_ | refine w_lst ?_ | refine w_and ?_ | refine w_or ?_ | refine w_notV ?_ | refine w_ite ?_ | refine w_test ?_ | refine w_not ?_ | refine w_tand ?_ | refine w_tor ?_ | refine w_chain ?_ | refine w_call0 ?_ | refine w_call1 ?_ | refine w_lstM ?_ | refine w_strM ?_ | refine w_slice ?_ | refine w_oN ?_ | refine w_oS ?_ | refine w_seq ?_ | refine w_if ?_ | refine w_ret ?_ | refine w_drop ?_ | refine w_set ?_ | refine w_setO ?_ | refine w_asg ?_ | refine w_gIx ?_ | refine w_for ?_ | refine w_fn ?_ | refine w_cutL ?_ | refine w_enumS ?_ | refine w_fld1 ?_ | refine w_fldS ?_ | refine w_make ?_ | refine w_meth ?_ | refine w_raise ?_ | refine w_try ?_ | refine w_tryC ?_ | refine w_joinRev ?_ | refine w_while ?_ | refine t_nx ?_ | refine t_ct ?_ | refine t_bk ?_ | refine t_rt ?_ | refine q_nx ?_ | refine q_rt ?_ | refine q_bk ?_ | refine q_ct ?_ | refine e_rt ?_ | refine e_nx ?_ | refine i_t ?_ | refine i_f ?_ | refine i_nt ?_ | refine i_nf ?_ | refine o_add ?_ | refine o_sub ?_ | refine o_lt ?_ | refine o_le ?_ | refine o_gt ?_ | refine o_ge ?_ | refine o_int ?_ | refine o_abs ?_ | refine o_lenL ?_ | refine o_lenT ?_ | refine o_inS ?_ | refine o_notInS ?_ | refine o_listL ?_ | refine o_listT ?_ | refine o_tupL ?_ | refine o_tupT ?_ | refine o_eqI ?_ | refine o_neI ?_ | refine o_isN ?_ | refine o_notN ?_ | refine o_rev ?_ | refine o_max ?_ | refine o_min ?_ | refine o_lenCh ?_ | refine o_notInCh ?_ | refine o_listCh ?_ | refine o_inI ?_ | refine x_bl ?_ | refine x_int ?_ | refine x_str ?_ | refine x_sqL ?_ | refine x_sqT ?_ | refine x_sqS ?_ | refine x_isL ?_ | refine x_out ?_ | refine x_some ?_ | refine x_objL ?_ | refine x_objI ?_ | refine x_objD ?_ | refine x_cls ?_ | refine fl_nx ?_ | refine fl_ct ?_ | refine w_zip ?_ | refine w_zipT ?_ | refine w_sliceL ?_ | refine w_raise1 ?_ | refine w_tryF ?_ | refine o_and ?_ | refine o_shr ?_ | refine o_negI ?_ | refine o_listDT ?_ | refine Np.o_sumE ?_ | refine Np.o_lenE ?_ | refine Np.x_sqP ?_ | refine Np.x_sqE ?_ | refine Np.o_ix0 ?_ | refine Np.o_ix1 ?_ | refine Np.o_ixKy ?_ | refine Np.o_ltKy ?_ | refine Np.o_sortM ?_ | refine ⟨_, _, rfl, ?_⟩ | refine x_r1 (by with_unfolding_all omega) ?_ | refine x_r2 (by with_unfolding_all omega) ?_ | refine w_var (by with_unfolding_all exact rfl) ?_ | refine x_env (by with_unfolding_all exact rfl) ?_ | refine x_lst (by with_unfolding_all exact rfl) ?_ | refine x_slot (by with_unfolding_all exact of_decide_eq_true rfl) ?_ | refine x_nm (by with_unfolding_all exact of_decide_eq_true rfl) ?_ | refine o_ixL (by with_unfolding_all exact rfl) ?_ | refine o_ixT (by with_unfolding_all exact rfl) ?_ | refine o_isiB (b := true) (by with_unfolding_all exact rfl) ?_ | refine o_isiB (b := false) (by with_unfolding_all exact rfl) ?_ | refine o_lenS' (by first | with_unfolding_all omega | assumption) ?_ | refine x_tp (by with_unfolding_all exact rfl) ?_ | refine x_fld (by with_unfolding_all exact rfl) (by with_unfolding_all exact rfl) ?_ | refine x_meth (by with_unfolding_all exact rfl) ⟨(by with_unfolding_all exact rfl), (by with_unfolding_all exact rfl)⟩ ?_ | refine o_pow (by with_unfolding_all decide) ?_ | refine o_mulR (by with_unfolding_all decide) ?_ | refine o_mulL (by with_unfolding_all decide) ?_ | refine o_mulL (by with_unfolding_all omega) ?_ | refine o_mod (by first | assumption | with_unfolding_all decide) ?_ | refine o_div (by first | assumption | with_unfolding_all decide) (by first | assumption | with_unfolding_all decide) ?_ | refine ⟨(by with_unfolding_all rfl), ?_⟩ | refine ⟨_, (by with_unfolding_all rfl), ?_⟩ | refine ⟨_, _, _, (by with_unfolding_all rfl), (by with_unfolding_all rfl), (by with_unfolding_all rfl), ?_⟩))
    by_cases ha : (if y < 0 then -y else y) < (10 : Int) ^ Int.toNat 18
    · rw [decide_eq_true ha]
      repeat (first | (with_reducible first | refine w_c ?_ | refine w_nil ?_ | refine w_nx ?_ | refine w_yes ?_ | refine w_pair ?_ | refine w_pairO ?_ | refine w_pairR ?_ | refine w_m2 ?_ | refine w_un ?_ | refine w_cons ?_ | refine w_own ?_ | refine w_io ?_ | refine w_arg ?_ | refine w_argI ?_ | refine w_seqI ?_ | refine w_tup ?_ | refine w_lst ?_ | refine w_and ?_ | refine w_or ?_ | refine w_notV ?_ | refine w_ite ?_ | refine w_test ?_ | refine w_not ?_ | refine w_tand ?_ | refine w_tor ?_ | refine w_chain ?_ | refine w_call0 ?_ | refine w_call1 ?_ | refine w_lstM ?_ | refine w_strM ?_ | refine w_slice ?_ | refine w_oN ?_ | refine w_oS ?_ | refine w_seq ?_ | refine w_if ?_ | refine w_ret ?_ | refine w_drop ?_ | refine w_set ?_ | refine w_setO ?_ | refine w_asg ?_ | refine w_gIx ?_ | refine w_for ?_ | refine w_fn ?_ | refine w_cutL ?_ | refine w_enumS ?_ | refine w_fld1 ?_ | refine w_fldS ?_ | refine w_make ?_ | refine w_meth ?_ | refine w_raise ?_ | refine w_try ?_ | refine w_tryC ?_ | refine w_joinRev ?_ | refine w_while ?_ | refine t_nx ?_ | refine t_ct ?_ | refine t_bk ?_ | refine t_rt ?_ | refine q_nx ?_ | refine q_rt ?_ | refine q_bk ?_ | refine q_ct ?_ | refine e_rt ?_ | refine e_nx ?_ | refine i_t ?_ | refine i_f ?_ | refine i_nt ?_ | refine i_nf ?_ | refine o_add ?_ | refine o_sub ?_ | refine o_lt ?_ | refine o_le ?_ | refine o_gt ?_ | refine o_ge ?_ | refine o_int ?_ | refine o_abs ?_ | refine o_lenL ?_ | refine o_lenT ?_ | refine o_inS ?_ | refine o_notInS ?_ | refine o_listL ?_ | refine o_listT ?_ | refine o_tupL ?_ | refine o_tupT ?_ | refine o_eqI ?_ | refine o_neI ?_ | refine o_isN ?_ | refine o_notN ?_ | refine o_rev ?_ | refine o_max ?_ | refine o_min ?_ | refine o_lenCh ?_ | refine o_notInCh ?_ | refine o_listCh ?_ | refine o_inI ?_ | refine x_bl ?_ | refine x_int ?_ | refine x_str ?_ | refine x_sqL ?_ | refine x_sqT ?_ | refine x_sqS ?_ | refine x_isL ?_ | refine x_out ?_ | refine x_some ?_ | refine x_objL ?_ | refine x_objI ?_ | refine x_objD ?_ | refine x_cls ?_ | refine fl_nx ?_ | refine fl_ct ?_ | refine w_zip ?_ | refine w_zipT ?_ | refine w_sliceL ?_ | refine w_raise1 ?_ | refine w_tryF ?_ | refine o_and ?_ | refine o_shr ?_ | refine o_negI ?_ | refine o_listDT ?_ | refine Np.o_sumE ?_ | refine Np.o_lenE ?_ | refine Np.x_sqP ?_ | refine Np.x_sqE ?_ | refine Np.o_ix0 ?_ | refine Np.o_ix1 ?_ | refine Np.o_ixKy ?_ | refine Np.o_ltKy ?_ | refine Np.o_sortM ?_ | refine ⟨_, _, rfl, ?_⟩ | refine x_r1 (by with_unfolding_all omega) ?_ | refine x_r2 (by with_unfolding_all omega) ?_ | refine w_var (by with_unfolding_all exact rfl) ?_ | refine x_env (by with_unfolding_all exact rfl) ?_ | refine x_lst (by with_unfolding_all exact rfl) ?_ | refine x_slot (by with_unfolding_all exact of_decide_eq_true rfl) ?_ | refine x_nm (by with_unfolding_all exact of_decide_eq_true rfl) ?_ | refine o_ixL (by with_unfolding_all exact rfl) ?_ | refine o_ixT (by with_unfolding_all exact rfl) ?_ | refine o_isiB (b := true) (by with_unfolding_all exact rfl) ?_ | refine o_isiB (b := false) (by with_unfolding_all exact rfl) ?_ | refine o_lenS' (by first | with_unfolding_all omega | assumption) ?_ | refine x_tp (by with_unfolding_all exact rfl) ?_ | refine x_fld (by with_unfolding_all exact rfl) (by with_unfolding_all exact rfl) ?_ | refine x_meth (by with_unfolding_all exact rfl) ⟨(by with_unfolding_all exact rfl), (by with_unfolding_all exact rfl)⟩ ?_ | refine o_pow (by with_unfolding_all decide) ?_ | refine o_mulR (by with_unfolding_all decide) ?_ | refine o_mulL (by with_unfolding_all decide) ?_ | refine o_mulL (by with_unfolding_all omega) ?_ | refine o_mod (by first | assumption | with_unfolding_all decide) ?_ | refine o_div (by first | assumption | with_unfolding_all decide) (by first | assumption | with_unfolding_all decide) ?_ | refine ⟨(by with_unfolding_all rfl), ?_⟩ | refine ⟨_, (by with_unfolding_all rfl), ?_⟩ | refine ⟨_, _, _, (by with_unfolding_all rfl), (by with_unfolding_all rfl), (by with_unfolding_all rfl), ?_⟩))
      by_cases h5 : (5 : Int) ≤ d + 1
      · rw [decide_eq_true h5]
        repeat (first | (with_reducible first | refine w_c ?_ | refine w_nil ?_ | refine w_nx ?_ | refine w_yes ?_ | refine w_pair ?_ | refine w_pairO ?_ | refine w_pairR ?_ | refine w_m2 ?_ | refine w_un ?_ | refine w_cons ?_ | refine w_own ?_ | refine w_io ?_ | refine w_arg ?_ | refine w_argI ?_ | refine w_seqI ?_ | refine w_tup ?_ | refine w_lst ?_ | refine w_and ?_ | refine w_or ?_ | refine w_notV ?_ | refine w_ite ?_ | refine w_test ?_ | refine w_not ?_ | refine w_tand ?_ | refine w_tor ?_ | refine w_chain ?_ | refine w_call0 ?_ | refine w_call1 ?_ | refine w_lstM ?_ | refine w_strM ?_ | refine w_slice ?_ | refine w_oN ?_ | refine w_oS ?_ | refine w_seq ?_ | refine w_if ?_ | refine w_ret ?_ | refine w_drop ?_ | refine w_set ?_ | refine w_setO ?_ | refine w_asg ?_ | refine w_gIx ?_ | refine w_for ?_ | refine w_fn ?_ | refine w_cutL ?_ | refine w_enumS ?_ | refine w_fld1 ?_ | refine w_fldS ?_ | refine w_make ?_ | refine w_meth ?_ | refine w_raise ?_ | refine w_try ?_ | refine w_tryC ?_ | refine w_joinRev ?_ | refine w_while ?_ | refine t_nx ?_ | refine t_ct ?_ | refine t_bk ?_ | refine t_rt ?_ | refine q_nx ?_ | refine q_rt ?_ | refine q_bk ?_ | refine q_ct ?_ | refine e_rt ?_ | refine e_nx ?_ | refine i_t ?_ | refine i_f ?_ | refine i_nt ?_ | refine i_nf ?_ | refine o_add ?_ | refine o_sub ?_ | refine o_lt ?_ | refine o_le ?_ | refine o_gt ?_ | refine o_ge ?_ | refine o_int ?_ | refine o_abs ?_ | refine o_lenL ?_ | refine o_lenT ?_ | refine o_inS ?_ | refine o_notInS ?_ | refine o_listL ?_ | refine o_listT ?_ | refine o_tupL ?_ | refine o_tupT ?_ | refine o_eqI ?_ | refine o_neI ?_ | refine o_isN ?_ | refine o_notN ?_ | refine o_rev ?_ | refine o_max ?_ | refine o_min ?_ | refine o_lenCh ?_ | refine o_notInCh ?_ | refine o_listCh ?_ | refine o_inI ?_ | refine x_bl ?_ | refine x_int ?_ | refine x_str ?_ | refine x_sqL ?_ | refine x_sqT ?_ | refine x_sqS ?_ | refine x_isL ?_ | refine x_out ?_ | refine x_some ?_ | refine x_objL ?_ | refine x_objI ?_ | refine x_objD ?_ | refine x_cls ?_ | refine fl_nx ?_ | refine fl_ct ?_ | refine w_zip ?_ | refine w_zipT ?_ | refine w_sliceL ?_ | refine w_raise1 ?_ | refine w_tryF ?_ | refine o_and ?_ | refine o_shr ?_ | refine o_negI ?_ | refine o_listDT ?_ | refine Np.o_sumE ?_ | refine Np.o_lenE ?_ | refine Np.x_sqP ?_ | refine Np.x_sqE ?_ | refine Np.o_ix0 ?_ | refine Np.o_ix1 ?_ | refine Np.o_ixKy ?_ | refine Np.o_ltKy ?_ | refine Np.o_sortM ?_ | refine ⟨_, _, rfl, ?_⟩ | refine x_r1 (by with_unfolding_all omega) ?_ | refine x_r2 (by with_unfolding_all omega) ?_ | refine w_var (by with_unfolding_all exact rfl) ?_ | refine x_env (by with_unfolding_all exact rfl) ?_ | refine x_lst (by with_unfolding_all exact rfl) ?_ | refine x_slot (by with_unfolding_all exact of_decide_eq_true rfl) ?_ | refine x_nm (by with_unfolding_all exact of_decide_eq_true rfl) ?_ | refine o_ixL (by with_unfolding_all exact rfl) ?_ | refine o_ixT (by with_unfolding_all exact rfl) ?_ | refine o_isiB (b := true) (by with_unfolding_all exact rfl) ?_ | refine o_isiB (b := false) (by with_unfolding_all exact rfl) ?_ | refine o_lenS' (by first | with_unfolding_all omega | assumption) ?_ | refine x_tp (by with_unfolding_all exact rfl) ?_ | refine x_fld (by with_unfolding_all exact rfl) (by with_unfolding_all exact rfl) ?_ | refine x_meth (by with_unfolding_all exact rfl) ⟨(by with_unfolding_all exact rfl), (by with_unfolding_all exact rfl)⟩ ?_ | refine o_pow (by with_unfolding_all decide) ?_ | refine o_mulR (by with_unfolding_all decide) ?_ | refine o_mulL (by with_unfolding_all decide) ?_ | refine o_mulL (by with_unfolding_all omega) ?_ | refine o_mod (by first | assumption | with_unfolding_all decide) ?_ | refine o_div (by first | assumption | with_unfolding_all decide) (by first | assumption | with_unfolding_all decide) ?_ | refine ⟨(by with_unfolding_all rfl), ?_⟩ | refine ⟨_, (by with_unfolding_all rfl), ?_⟩ | refine ⟨_, _, _, (by with_unfolding_all rfl), (by with_unfolding_all rfl), (by with_unfolding_all rfl), ?_⟩))
        refine wf_imp (mixed_ok y (k + 1) (by omega) (by omega)) ?_
        rintro d1 outs ⟨⟨m, rfl⟩, rfl⟩
        repeat (first | (with_reducible first | refine w_c ?_ | refine w_nil ?_ | refine w_nx ?_ | refine w_yes ?_ | refine w_pair ?_ | refine w_pairO ?_ | refine w_pairR ?_ | refine w_m2 ?_ | refine w_un ?_ | refine w_cons ?_ | refine w_own ?_ | refine w_io ?_ | refine w_arg ?_ | refine w_argI ?_ | refine w_seqI ?_ | refine w_tup ?_ | refine w_lst ?_ | refine w_and ?_ | refine w_or ?_ | refine w_notV ?_ | refine w_ite ?_ | refine w_test ?_ | refine w_not ?_ | refine w_tand ?_ | refine w_tor ?_ | refine w_chain ?_ | refine w_call0 ?_ | refine w_call1 ?_ | refine w_lstM ?_ | refine w_strM ?_ | refine w_slice ?_ | refine w_oN ?_ | refine w_oS ?_ | refine w_seq ?_ | refine w_if ?_ | refine w_ret ?_ | refine w_drop ?_ | refine w_set ?_ | refine w_setO ?_ | refine w_asg ?_ | refine w_gIx ?_ | refine w_for ?_ | refine w_fn ?_ | refine w_cutL ?_ | refine w_enumS ?_ | refine w_fld1 ?_ | refine w_fldS ?_ | refine w_make ?_ | refine w_meth ?_ | refine w_raise ?_ | refine w_try ?_ | refine w_tryC ?_ | refine w_joinRev ?_ | refine w_while ?_ | refine t_nx ?_ | refine t_ct ?_ | refine t_bk ?_ | refine t_rt ?_ | refine q_nx ?_ | refine q_rt ?_ | refine q_bk ?_ | refine q_ct ?_ | refine e_rt ?_ | refine e_nx ?_ | refine i_t ?_ | refine i_f ?_ | refine i_nt ?_ | refine i_nf ?_ | refine o_add ?_ | refine o_sub ?_ | refine o_lt ?_ | refine o_le ?_ | refine o_gt ?_ | refine o_ge ?_ | refine o_int ?_ | refine o_abs ?_ | refine o_lenL ?_ | refine o_lenT ?_ | refine o_inS ?_ | refine o_notInS ?_ | refine o_listL ?_ | refine o_listT ?_ | refine o_tupL ?_ | refine o_tupT ?_ | refine o_eqI ?_ | refine o_neI ?_ | refine o_isN ?_ | refine o_notN ?_ | refine o_rev ?_ | refine o_max ?_ | refine o_min ?_ | refine o_lenCh ?_ | refine o_notInCh ?_ | refine o_listCh ?_ | refine o_inI ?_ | refine x_bl ?_ | refine x_int ?_ | refine x_str ?_ | refine x_sqL ?_ | refine x_sqT ?_ | refine x_sqS ?_ | refine x_isL ?_ | refine x_out ?_ | refine x_some ?_ | refine x_objL ?_ | refine x_objI ?_ | refine x_objD ?_ | refine x_cls ?_ | refine fl_nx ?_ | refine fl_ct ?_ | refine w_zip ?_ | refine w_zipT ?_ | refine w_sliceL ?_ | refine w_raise1 ?_ | refine w_tryF ?_ | refine o_and ?_ | refine o_shr ?_ | refine o_negI ?_ | refine o_listDT ?_ | refine Np.o_sumE ?_ | refine Np.o_lenE ?_ | refine Np.x_sqP ?_ | refine Np.x_sqE ?_ | refine Np.o_ix0 ?_ | refine Np.o_ix1 ?_ | refine Np.o_ixKy ?_ | refine Np.o_ltKy ?_ | refine Np.o_sortM ?_ | refine ⟨_, _, rfl, ?_⟩ | refine x_r1 (by with_unfolding_all omega) ?_ | refine x_r2 (by with_unfolding_all omega) ?_ | refine w_var (by with_unfolding_all exact rfl) ?_ | refine x_env (by with_unfolding_all exact rfl) ?_ | refine x_lst (by with_unfolding_all exact rfl) ?_ | refine x_slot (by with_unfolding_all exact of_decide_eq_true rfl) ?_ | refine x_nm (by with_unfolding_all exact of_decide_eq_true rfl) ?_ | refine o_ixL (by with_unfolding_all exact rfl) ?_ | refine o_ixT (by with_unfolding_all exact rfl) ?_ | refine o_isiB (b := true) (by with_unfolding_all exact rfl) ?_ | refine o_isiB (b := false) (by with_unfolding_all exact rfl) ?_ | refine o_lenS' (by first | with_unfolding_all omega | assumption) ?_ | refine x_tp (by with_unfolding_all exact rfl) ?_ | refine x_fld (by with_unfolding_all exact rfl) (by with_unfolding_all exact rfl) ?_ | refine x_meth (by with_unfolding_all exact rfl) ⟨(by with_unfolding_all exact rfl), (by with_unfolding_all exact rfl)⟩ ?_ | refine o_pow (by with_unfolding_all decide) ?_ | refine o_mulR (by with_unfolding_all decide) ?_ | refine o_mulL (by with_unfolding_all decide) ?_ | refine o_mulL (by with_unfolding_all omega) ?_ | refine o_mod (by first | assumption | with_unfolding_all decide) ?_ | refine o_div (by first | assumption | with_unfolding_all decide) (by first | assumption | with_unfolding_all decide) ?_ | refine ⟨(by with_unfolding_all rfl), ?_⟩ | refine ⟨_, (by with_unfolding_all rfl), ?_⟩ | refine ⟨_, _, _, (by with_unfolding_all rfl), (by with_unfolding_all rfl), (by with_unfolding_all rfl), ?_⟩))
        exact ⟨_, _, rfl, rfl, Int.emod_nonneg _ (by omega), Int.emod_lt_of_pos _ hm, cs, i + 1, 0, k + 1, s, r, rfl, by omega, by omega, by omega, hl⟩
      · rw [decide_eq_false h5]
        repeat (first | (with_reducible first | refine w_c ?_ | refine w_nil ?_ | refine w_nx ?_ | refine w_yes ?_ | refine w_pair ?_ | refine w_pairO ?_ | refine w_pairR ?_ | refine w_m2 ?_ | refine w_un ?_ | refine w_cons ?_ | refine w_own ?_ | refine w_io ?_ | refine w_arg ?_ | refine w_argI ?_ | refine w_seqI ?_ | refine w_tup ?_ | refine w_lst ?_ | refine w_and ?_ | refine w_or ?_ | refine w_notV ?_ | refine w_ite ?_ | refine w_test ?_ | refine w_not ?_ | refine w_tand ?_ | refine w_tor ?_ | refine w_chain ?_ | refine w_call0 ?_ | refine w_call1 ?_ | refine w_lstM ?_ | refine w_strM ?_ | refine w_slice ?_ | refine w_oN ?_ | refine w_oS ?_ | refine w_seq ?_ | refine w_if ?_ | refine w_ret ?_ | refine w_drop ?_ | refine w_set ?_ | refine w_setO ?_ | refine w_asg ?_ | refine w_gIx ?_ | refine w_for ?_ | refine w_fn ?_ | refine w_cutL ?_ | refine w_enumS ?_ | refine w_fld1 ?_ | refine w_fldS ?_ | refine w_make ?_ | refine w_meth ?_ | refine w_raise ?_ | refine w_try ?_ | refine w_tryC ?_ | refine w_joinRev ?_ | refine w_while ?_ | refine t_nx ?_ | refine t_ct ?_ | refine t_bk ?_ | refine t_rt ?_ | refine q_nx ?_ | refine q_rt ?_ | refine q_bk ?_ | refine q_ct ?_ | refine e_rt ?_ | refine e_nx ?_ | refine i_t ?_ | refine i_f ?_ | refine i_nt ?_ | refine i_nf ?_ | refine o_add ?_ | refine o_sub ?_ | refine o_lt ?_ | refine o_le ?_ | refine o_gt ?_ | refine o_ge ?_ | refine o_int ?_ | refine o_abs ?_ | refine o_lenL ?_ | refine o_lenT ?_ | refine o_inS ?_ | refine o_notInS ?_ | refine o_listL ?_ | refine o_listT ?_ | refine o_tupL ?_ | refine o_tupT ?_ | refine o_eqI ?_ | refine o_neI ?_ | refine o_isN ?_ | refine o_notN ?_ | refine o_rev ?_ | refine o_max ?_ | refine o_min ?_ | refine o_lenCh ?_ | refine o_notInCh ?_ | refine o_listCh ?_ | refine o_inI ?_ | refine x_bl ?_ | refine x_int ?_ | refine x_str ?_ | refine x_sqL ?_ | refine x_sqT ?_ | refine x_sqS ?_ | refine x_isL ?_ | refine x_out ?_ | refine x_some ?_ | refine x_objL ?_ | refine x_objI ?_ | refine x_objD ?_ | refine x_cls ?_ | refine fl_nx ?_ | refine fl_ct ?_ | refine w_zip ?_ | refine w_zipT ?_ | refine w_sliceL ?_ | refine w_raise1 ?_ | refine w_tryF ?_ | refine o_and ?_ | refine o_shr ?_ | refine o_negI ?_ | refine o_listDT ?_ | refine Np.o_sumE ?_ | refine Np.o_lenE ?_ | refine Np.x_sqP ?_ | refine Np.x_sqE ?_ | refine Np.o_ix0 ?_ | refine Np.o_ix1 ?_ | refine Np.o_ixKy ?_ | refine Np.o_ltKy ?_ | refine Np.o_sortM ?_ | refine ⟨_, _, rfl, ?_⟩ | refine x_r1 (by with_unfolding_all omega) ?_ | refine x_r2 (by with_unfolding_all omega) ?_ | refine w_var (by with_unfolding_all exact rfl) ?_ | refine x_env (by with_unfolding_all exact rfl) ?_ | refine x_lst (by with_unfolding_all exact rfl) ?_ | refine x_slot (by with_unfolding_all exact of_decide_eq_true rfl) ?_ | refine x_nm (by with_unfolding_all exact of_decide_eq_true rfl) ?_ | refine o_ixL (by with_unfolding_all exact rfl) ?_ | refine o_ixT (by with_unfolding_all exact rfl) ?_ | refine o_isiB (b := true) (by with_unfolding_all exact rfl) ?_ | refine o_isiB (b := false) (by with_unfolding_all exact rfl) ?_ | refine o_lenS' (by first | with_unfolding_all omega | assumption) ?_ | refine x_tp (by with_unfolding_all exact rfl) ?_ | refine x_fld (by with_unfolding_all exact rfl) (by with_unfolding_all exact rfl) ?_ | refine x_meth (by with_unfolding_all exact rfl) ⟨(by with_unfolding_all exact rfl), (by with_unfolding_all exact rfl)⟩ ?_ | refine o_pow (by with_unfolding_all decide) ?_ | refine o_mulR (by with_unfolding_all decide) ?_ | refine o_mulL (by with_unfolding_all decide) ?_ | refine o_mulL (by with_unfolding_all omega) ?_ | refine o_mod (by first | assumption | with_unfolding_all decide) ?_ | refine o_div (by first | assumption | with_unfolding_all decide) (by first | assumption | with_unfolding_all decide) ?_ | refine ⟨(by with_unfolding_all rfl), ?_⟩ | refine ⟨_, (by with_unfolding_all rfl), ?_⟩ | refine ⟨_, _, _, (by with_unfolding_all rfl), (by with_unfolding_all rfl), (by with_unfolding_all rfl), ?_⟩))
        refine wf_imp (mixed_ok y (k + 1) (by omega) (by omega)) ?_
        rintro d1 outs ⟨⟨m, rfl⟩, rfl⟩
        repeat (first | (with_reducible first | refine w_c ?_ | refine w_nil ?_ | refine w_nx ?_ | refine w_yes ?_ | refine w_pair ?_ | refine w_pairO ?_ | refine w_pairR ?_ | refine w_m2 ?_ | refine w_un ?_ | refine w_cons ?_ | refine w_own ?_ | refine w_io ?_ | refine w_arg ?_ | refine w_argI ?_ | refine w_seqI ?_ | refine w_tup ?_ | refine w_lst ?_ | refine w_and ?_ | refine w_or ?_ | refine w_notV ?_ | refine w_ite ?_ | refine w_test ?_ | refine w_not ?_ | refine w_tand ?_ | refine w_tor ?_ | refine w_chain ?_ | refine w_call0 ?_ | refine w_call1 ?_ | refine w_lstM ?_ | refine w_strM ?_ | refine w_slice ?_ | refine w_oN ?_ | refine w_oS ?_ | refine w_seq ?_ | refine w_if ?_ | refine w_ret ?_ | refine w_drop ?_ | refine w_set ?_ | refine w_setO ?_ | refine w_asg ?_ | refine w_gIx ?_ | refine w_for ?_ | refine w_fn ?_ | refine w_cutL ?_ | refine w_enumS ?_ | refine w_fld1 ?_ | refine w_fldS ?_ | refine w_make ?_ | refine w_meth ?_ | refine w_raise ?_ | refine w_try ?_ | refine w_tryC ?_ | refine w_joinRev ?_ | refine w_while ?_ | refine t_nx ?_ | refine t_ct ?_ | refine t_bk ?_ | refine t_rt ?_ | refine q_nx ?_ | refine q_rt ?_ | refine q_bk ?_ | refine q_ct ?_ | refine e_rt ?_ | refine e_nx ?_ | refine i_t ?_ | refine i_f ?_ | refine i_nt ?_ | refine i_nf ?_ | refine o_add ?_ | refine o_sub ?_ | refine o_lt ?_ | refine o_le ?_ | refine o_gt ?_ | refine o_ge ?_ | refine o_int ?_ | refine o_abs ?_ | refine o_lenL ?_ | refine o_lenT ?_ | refine o_inS ?_ | refine o_notInS ?_ | refine o_listL ?_ | refine o_listT ?_ | refine o_tupL ?_ | refine o_tupT ?_ | refine o_eqI ?_ | refine o_neI ?_ | refine o_isN ?_ | refine o_notN ?_ | refine o_rev ?_ | refine o_max ?_ | refine o_min ?_ | refine o_lenCh ?_ | refine o_notInCh ?_ | refine o_listCh ?_ | refine o_inI ?_ | refine x_bl ?_ | refine x_int ?_ | refine x_str ?_ | refine x_sqL ?_ | refine x_sqT ?_ | refine x_sqS ?_ | refine x_isL ?_ | refine x_out ?_ | refine x_some ?_ | refine x_objL ?_ | refine x_objI ?_ | refine x_objD ?_ | refine x_cls ?_ | refine fl_nx ?_ | refine fl_ct ?_ | refine w_zip ?_ | refine w_zipT ?_ | refine w_sliceL ?_ | refine w_raise1 ?_ | refine w_tryF ?_ | refine o_and ?_ | refine o_shr ?_ | refine o_negI ?_ | refine o_listDT ?_ | refine Np.o_sumE ?_ | refine Np.o_lenE ?_ | refine Np.x_sqP ?_ | refine Np.x_sqE ?_ | refine Np.o_ix0 ?_ | refine Np.o_ix1 ?_ | refine Np.o_ixKy ?_ | refine Np.o_ltKy ?_ | refine Np.o_sortM ?_ | refine ⟨_, _, rfl, ?_⟩ | refine x_r1 (by with_unfolding_all omega) ?_ | refine x_r2 (by with_unfolding_all omega) ?_ | refine w_var (by with_unfolding_all exact rfl) ?_ | refine x_env (by with_unfolding_all exact rfl) ?_ | refine x_lst (by with_unfolding_all exact rfl) ?_ | refine x_slot (by with_unfolding_all exact of_decide_eq_true rfl) ?_ | refine x_nm (by with_unfolding_all exact of_decide_eq_true rfl) ?_ | refine o_ixL (by with_unfolding_all exact rfl) ?_ | refine o_ixT (by with_unfolding_all exact rfl) ?_ | refine o_isiB (b := true) (by with_unfolding_all exact rfl) ?_ | refine o_isiB (b := false) (by with_unfolding_all exact rfl) ?_ | refine o_lenS' (by first | with_unfolding_all omega | assumption) ?_ | refine x_tp (by with_unfolding_all exact rfl) ?_ | refine x_fld (by with_unfolding_all exact rfl) (by with_unfolding_all exact rfl) ?_ | refine x_meth (by with_unfolding_all exact rfl) ⟨(by with_unfolding_all exact rfl), (by with_unfolding_all exact rfl)⟩ ?_ | refine o_pow (by with_unfolding_all decide) ?_ | refine o_mulR (by with_unfolding_all decide) ?_ | refine o_mulL (by with_unfolding_all decide) ?_ | refine o_mulL (by with_unfolding_all omega) ?_ | refine o_mod (by first | assumption | with_unfolding_all decide) ?_ | refine o_div (by first | assumption | with_unfolding_all decide) (by first | assumption | with_unfolding_all decide) ?_ | refine ⟨(by with_unfolding_all rfl), ?_⟩ | refine ⟨_, (by with_unfolding_all rfl), ?_⟩ | refine ⟨_, _, _, (by with_unfolding_all rfl), (by with_unfolding_all rfl), (by with_unfolding_all rfl), ?_⟩))
        exact ⟨_, _, rfl, rfl, Int.emod_nonneg _ (by omega), Int.emod_lt_of_pos _ hm, cs, i, d + 1, k + 1, s, r, rfl, by omega, by omega, by omega, hl⟩
    · rw [decide_eq_false ha]
      repeat (first | (with_reducible first | refine w_c ?_ | refine w_nil ?_ | refine w_nx ?_ | refine w_yes ?_ | refine w_pair ?_ | refine w_pairO ?_ | refine w_pairR ?_ | refine w_m2 ?_ | refine w_un ?_ | refine w_cons ?_ | refine w_own ?_ | refine w_io ?_ | refine w_arg ?_ | refine w_argI ?_ | refine w_seqI ?_ | refine w_tup ?_ | refine w_lst ?_ | refine w_and ?_ | refine w_or ?_ | refine w_notV ?_ | refine w_ite ?_ | refine w_test ?_ | refine w_not ?_ | refine w_tand ?_ | refine w_tor ?_ | refine w_chain ?_ | refine w_call0 ?_ | refine w_call1 ?_ | refine w_lstM ?_ | refine w_strM ?_ | refine w_slice ?_ | refine w_oN ?_ | refine w_oS ?_ | refine w_seq ?_ | refine w_if ?_ | refine w_ret ?_ | refine w_drop ?_ | refine w_set ?_ | refine w_setO ?_ | refine w_asg ?_ | refine w_gIx ?_ | refine w_for ?_ | refine w_fn ?_ | refine w_cutL ?_ | refine w_enumS ?_ | refine w_fld1 ?_ | refine w_fldS ?_ | refine w_make ?_ | refine w_meth ?_ | refine w_raise ?_ | refine w_try ?_ | refine w_tryC ?_ | refine w_joinRev ?_ | refine w_while ?_ | refine t_nx ?_ | refine t_ct ?_ | refine t_bk ?_ | refine t_rt ?_ | refine q_nx ?_ | refine q_rt ?_ | refine q_bk ?_ | refine q_ct ?_ | refine e_rt ?_ | refine e_nx ?_ | refine i_t ?_ | refine i_f ?_ | refine i_nt ?_ | refine i_nf ?_ | refine o_add ?_ | refine o_sub ?_ | refine o_lt ?_ | refine o_le ?_ | refine o_gt ?_ | refine o_ge ?_ | refine o_int ?_ | refine o_abs ?_ | refine o_lenL ?_ | refine o_lenT ?_ | refine o_inS ?_ | refine o_notInS ?_ | refine o_listL ?_ | refine o_listT ?_ | refine o_tupL ?_ | refine o_tupT ?_ | refine o_eqI ?_ | refine o_neI ?_ | refine o_isN ?_ | refine o_notN ?_ | refine o_rev ?_ | refine o_max ?_ | refine o_min ?_ | refine o_lenCh ?_ | refine o_notInCh ?_ | refine o_listCh ?_ | refine o_inI ?_ | refine x_bl ?_ | refine x_int ?_ | refine x_str ?_ | refine x_sqL ?_ | refine x_sqT ?_ | refine x_sqS ?_ | refine x_isL ?_ | refine x_out ?_ | refine x_some ?_ | refine x_objL ?_ | refine x_objI ?_ | refine x_objD ?_ | refine x_cls ?_ | refine fl_nx ?_ | refine fl_ct ?_ | refine w_zip ?_ | refine w_zipT ?_ | refine w_sliceL ?_ | refine w_raise1 ?_ | refine w_tryF ?_ | refine o_and ?_ | refine o_shr ?_ | refine o_negI ?_ | refine o_listDT ?_ | refine Np.o_sumE ?_ | refine Np.o_lenE ?_ | refine Np.x_sqP ?_ | refine Np.x_sqE ?_ | refine Np.o_ix0 ?_ | refine Np.o_ix1 ?_ | refine Np.o_ixKy ?_ | refine Np.o_ltKy ?_ | refine Np.o_sortM ?_ | refine ⟨_, _, rfl, ?_⟩ | refine x_r1 (by with_unfolding_all omega) ?_ | refine x_r2 (by with_unfolding_all omega) ?_ | refine w_var (by with_unfolding_all exact rfl) ?_ | refine x_env (by with_unfolding_all exact rfl) ?_ | refine x_lst (by with_unfolding_all exact rfl) ?_ | refine x_slot (by with_unfolding_all exact of_decide_eq_true rfl) ?_ | refine x_nm (by with_unfolding_all exact of_decide_eq_true rfl) ?_ | refine o_ixL (by with_unfolding_all exact rfl) ?_ | refine o_ixT (by with_unfolding_all exact rfl) ?_ | refine o_isiB (b := true) (by with_unfolding_all exact rfl) ?_ | refine o_isiB (b := false) (by with_unfolding_all exact rfl) ?_ | refine o_lenS' (by first | with_unfolding_all omega | assumption) ?_ | refine x_tp (by with_unfolding_all exact rfl) ?_ | refine x_fld (by with_unfolding_all exact rfl) (by with_unfolding_all exact rfl) ?_ | refine x_meth (by with_unfolding_all exact rfl) ⟨(by with_unfolding_all exact rfl), (by with_unfolding_all exact rfl)⟩ ?_ | refine o_pow (by with_unfolding_all decide) ?_ | refine o_mulR (by with_unfolding_all decide) ?_ | refine o_mulL (by with_unfolding_all decide) ?_ | refine o_mulL (by with_unfolding_all omega) ?_ | refine o_mod (by first | assumption | with_unfolding_all decide) ?_ | refine o_div (by first | assumption | with_unfolding_all decide) (by first | assumption | with_unfolding_all decide) ?_ | refine ⟨(by with_unfolding_all rfl), ?_⟩ | refine ⟨_, (by with_unfolding_all rfl), ?_⟩ | refine ⟨_, _, _, (by with_unfolding_all rfl), (by with_unfolding_all rfl), (by with_unfolding_all rfl), ?_⟩))
      by_cases hd0 : d = 0
      · rw [decide_eq_true hd0]
        repeat (first | (with_reducible first | refine w_c ?_ | refine w_nil ?_ | refine w_nx ?_ | refine w_yes ?_ | refine w_pair ?_ | refine w_pairO ?_ | refine w_pairR ?_ | refine w_m2 ?_ | refine w_un ?_ | refine w_cons ?_ | refine w_own ?_ | refine w_io ?_ | refine w_arg ?_ | refine w_argI ?_ | refine w_seqI ?_ | refine w_tup ?_ | refine w_lst ?_ | refine w_and ?_ | refine w_or ?_ | refine w_notV ?_ | refine w_ite ?_ | refine w_test ?_ | refine w_not ?_ | refine w_tand ?_ | refine w_tor ?_ | refine w_chain ?_ | refine w_call0 ?_ | refine w_call1 ?_ | refine w_lstM ?_ | refine w_strM ?_ | refine w_slice ?_ | refine w_oN ?_ | refine w_oS ?_ | refine w_seq ?_ | refine w_if ?_ | refine w_ret ?_ | refine w_drop ?_ | refine w_set ?_ | refine w_setO ?_ | refine w_asg ?_ | refine w_gIx ?_ | refine w_for ?_ | refine w_fn ?_ | refine w_cutL ?_ | refine w_enumS ?_ | refine w_fld1 ?_ | refine w_fldS ?_ | refine w_make ?_ | refine w_meth ?_ | refine w_raise ?_ | refine w_try ?_ | refine w_tryC ?_ | refine w_joinRev ?_ | refine w_while ?_ | refine t_nx ?_ | refine t_ct ?_ | refine t_bk ?_ | refine t_rt ?_ | refine q_nx ?_ | refine q_rt ?_ | refine q_bk ?_ | refine q_ct ?_ | refine e_rt ?_ | refine e_nx ?_ | refine i_t ?_ | refine i_f ?_ | refine i_nt ?_ | refine i_nf ?_ | refine o_add ?_ | refine o_sub ?_ | refine o_lt ?_ | refine o_le ?_ | refine o_gt ?_ | refine o_ge ?_ | refine o_int ?_ | refine o_abs ?_ | refine o_lenL ?_ | refine o_lenT ?_ | refine o_inS ?_ | refine o_notInS ?_ | refine o_listL ?_ | refine o_listT ?_ | refine o_tupL ?_ | refine o_tupT ?_ | refine o_eqI ?_ | refine o_neI ?_ | refine o_isN ?_ | refine o_notN ?_ | refine o_rev ?_ | refine o_max ?_ | refine o_min ?_ | refine o_lenCh ?_ | refine o_notInCh ?_ | refine o_listCh ?_ | refine o_inI ?_ | refine x_bl ?_ | refine x_int ?_ | refine x_str ?_ | refine x_sqL ?_ | refine x_sqT ?_ | refine x_sqS ?_ | refine x_isL ?_ | refine x_out ?_ | refine x_some ?_ | refine x_objL ?_ | refine x_objI ?_ | refine x_objD ?_ | refine x_cls ?_ | refine fl_nx ?_ | refine fl_ct ?_ | refine w_zip ?_ | refine w_zipT ?_ | refine w_sliceL ?_ | refine w_raise1 ?_ | refine w_tryF ?_ | refine o_and ?_ | refine o_shr ?_ | refine o_negI ?_ | refine o_listDT ?_ | refine Np.o_sumE ?_ | refine Np.o_lenE ?_ | refine Np.x_sqP ?_ | refine Np.x_sqE ?_ | refine Np.o_ix0 ?_ | refine Np.o_ix1 ?_ | refine Np.o_ixKy ?_ | refine Np.o_ltKy ?_ | refine Np.o_sortM ?_ | refine ⟨_, _, rfl, ?_⟩ | refine x_r1 (by with_unfolding_all omega) ?_ | refine x_r2 (by with_unfolding_all omega) ?_ | refine w_var (by with_unfolding_all exact rfl) ?_ | refine x_env (by with_unfolding_all exact rfl) ?_ | refine x_lst (by with_unfolding_all exact rfl) ?_ | refine x_slot (by with_unfolding_all exact of_decide_eq_true rfl) ?_ | refine x_nm (by with_unfolding_all exact of_decide_eq_true rfl) ?_ | refine o_ixL (by with_unfolding_all exact rfl) ?_ | refine o_ixT (by with_unfolding_all exact rfl) ?_ | refine o_isiB (b := true) (by with_unfolding_all exact rfl) ?_ | refine o_isiB (b := false) (by with_unfolding_all exact rfl) ?_ | refine o_lenS' (by first | with_unfolding_all omega | assumption) ?_ | refine x_tp (by with_unfolding_all exact rfl) ?_ | refine x_fld (by with_unfolding_all exact rfl) (by with_unfolding_all exact rfl) ?_ | refine x_meth (by with_unfolding_all exact rfl) ⟨(by with_unfolding_all exact rfl), (by with_unfolding_all exact rfl)⟩ ?_ | refine o_pow (by with_unfolding_all decide) ?_ | refine o_mulR (by with_unfolding_all decide) ?_ | refine o_mulL (by with_unfolding_all decide) ?_ | refine o_mulL (by with_unfolding_all omega) ?_ | refine o_mod (by first | assumption | with_unfolding_all decide) ?_ | refine o_div (by first | assumption | with_unfolding_all decide) (by first | assumption | with_unfolding_all decide) ?_ | refine ⟨(by with_unfolding_all rfl), ?_⟩ | refine ⟨_, (by with_unfolding_all rfl), ?_⟩ | refine ⟨_, _, _, (by with_unfolding_all rfl), (by with_unfolding_all rfl), (by with_unfolding_all rfl), ?_⟩))
        by_cases hq : (if y < 0 then -y else y) / many = 0
        · rw [decide_eq_true hq]
          repeat (first | (with_reducible first | refine w_c ?_ | refine w_nil ?_ | refine w_nx ?_ | refine w_yes ?_ | refine w_pair ?_ | refine w_pairO ?_ | refine w_pairR ?_ | refine w_m2 ?_ | refine w_un ?_ | refine w_cons ?_ | refine w_own ?_ | refine w_io ?_ | refine w_arg ?_ | refine w_argI ?_ | refine w_seqI ?_ | refine w_tup ?_ | refine w_lst ?_ | refine w_and ?_ | refine w_or ?_ | refine w_notV ?_ | refine w_ite ?_ | refine w_test ?_ | refine w_not ?_ | refine w_tand ?_ | refine w_tor ?_ | refine w_chain ?_ | refine w_call0 ?_ | refine w_call1 ?_ | refine w_lstM ?_ | refine w_strM ?_ | refine w_slice ?_ | refine w_oN ?_ | refine w_oS ?_ | refine w_seq ?_ | refine w_if ?_ | refine w_ret ?_ | refine w_drop ?_ | refine w_set ?_ | refine w_setO ?_ | refine w_asg ?_ | refine w_gIx ?_ | refine w_for ?_ | refine w_fn ?_ | refine w_cutL ?_ | refine w_enumS ?_ | refine w_fld1 ?_ | refine w_fldS ?_ | refine w_make ?_ | refine w_meth ?_ | refine w_raise ?_ | refine w_try ?_ | refine w_tryC ?_ | refine w_joinRev ?_ | refine w_while ?_ | refine t_nx ?_ | refine t_ct ?_ | refine t_bk ?_ | refine t_rt ?_ | refine q_nx ?_ | refine q_rt ?_ | refine q_bk ?_ | refine q_ct ?_ | refine e_rt ?_ | refine e_nx ?_ | refine i_t ?_ | refine i_f ?_ | refine i_nt ?_ | refine i_nf ?_ | refine o_add ?_ | refine o_sub ?_ | refine o_lt ?_ | refine o_le ?_ | refine o_gt ?_ | refine o_ge ?_ | refine o_int ?_ | refine o_abs ?_ | refine o_lenL ?_ | refine o_lenT ?_ | refine o_inS ?_ | refine o_notInS ?_ | refine o_listL ?_ | refine o_listT ?_ | refine o_tupL ?_ | refine o_tupT ?_ | refine o_eqI ?_ | refine o_neI ?_ | refine o_isN ?_ | refine o_notN ?_ | refine o_rev ?_ | refine o_max ?_ | refine o_min ?_ | refine o_lenCh ?_ | refine o_notInCh ?_ | refine o_listCh ?_ | refine o_inI ?_ | refine x_bl ?_ | refine x_int ?_ | refine x_str ?_ | refine x_sqL ?_ | refine x_sqT ?_ | refine x_sqS ?_ | refine x_isL ?_ | refine x_out ?_ | refine x_some ?_ | refine x_objL ?_ | refine x_objI ?_ | refine x_objD ?_ | refine x_cls ?_ | refine fl_nx ?_ | refine fl_ct ?_ | refine w_zip ?_ | refine w_zipT ?_ | refine w_sliceL ?_ | refine w_raise1 ?_ | refine w_tryF ?_ | refine o_and ?_ | refine o_shr ?_ | refine o_negI ?_ | refine o_listDT ?_ | refine Np.o_sumE ?_ | refine Np.o_lenE ?_ | refine Np.x_sqP ?_ | refine Np.x_sqE ?_ | refine Np.o_ix0 ?_ | refine Np.o_ix1 ?_ | refine Np.o_ixKy ?_ | refine Np.o_ltKy ?_ | refine Np.o_sortM ?_ | refine ⟨_, _, rfl, ?_⟩ | refine x_r1 (by with_unfolding_all omega) ?_ | refine x_r2 (by with_unfolding_all omega) ?_ | refine w_var (by with_unfolding_all exact rfl) ?_ | refine x_env (by with_unfolding_all exact rfl) ?_ | refine x_lst (by with_unfolding_all exact rfl) ?_ | refine x_slot (by with_unfolding_all exact of_decide_eq_true rfl) ?_ | refine x_nm (by with_unfolding_all exact of_decide_eq_true rfl) ?_ | refine o_ixL (by with_unfolding_all exact rfl) ?_ | refine o_ixT (by with_unfolding_all exact rfl) ?_ | refine o_isiB (b := true) (by with_unfolding_all exact rfl) ?_ | refine o_isiB (b := false) (by with_unfolding_all exact rfl) ?_ | refine o_lenS' (by first | with_unfolding_all omega | assumption) ?_ | refine x_tp (by with_unfolding_all exact rfl) ?_ | refine x_fld (by with_unfolding_all exact rfl) (by with_unfolding_all exact rfl) ?_ | refine x_meth (by with_unfolding_all exact rfl) ⟨(by with_unfolding_all exact rfl), (by with_unfolding_all exact rfl)⟩ ?_ | refine o_pow (by with_unfolding_all decide) ?_ | refine o_mulR (by with_unfolding_all decide) ?_ | refine o_mulL (by with_unfolding_all decide) ?_ | refine o_mulL (by with_unfolding_all omega) ?_ | refine o_mod (by first | assumption | with_unfolding_all decide) ?_ | refine o_div (by first | assumption | with_unfolding_all decide) (by first | assumption | with_unfolding_all decide) ?_ | refine ⟨(by with_unfolding_all rfl), ?_⟩ | refine ⟨_, (by with_unfolding_all rfl), ?_⟩ | refine ⟨_, _, _, (by with_unfolding_all rfl), (by with_unfolding_all rfl), (by with_unfolding_all rfl), ?_⟩))
          exact ⟨_, _, rfl, rfl, Int.emod_nonneg _ (by omega), Int.emod_lt_of_pos _ hm, cs, i + 1, 0, k + 1, s, (if y < 0 then -y else y) / many, rfl, by omega, by omega, by omega, hl⟩
        · rw [decide_eq_false hq]
          repeat (first | (with_reducible first | refine w_c ?_ | refine w_nil ?_ | refine w_nx ?_ | refine w_yes ?_ | refine w_pair ?_ | refine w_pairO ?_ | refine w_pairR ?_ | refine w_m2 ?_ | refine w_un ?_ | refine w_cons ?_ | refine w_own ?_ | refine w_io ?_ | refine w_arg ?_ | refine w_argI ?_ | refine w_seqI ?_ | refine w_tup ?_ | refine w_lst ?_ | refine w_and ?_ | refine w_or ?_ | refine w_notV ?_ | refine w_ite ?_ | refine w_test ?_ | refine w_not ?_ | refine w_tand ?_ | refine w_tor ?_ | refine w_chain ?_ | refine w_call0 ?_ | refine w_call1 ?_ | refine w_lstM ?_ | refine w_strM ?_ | refine w_slice ?_ | refine w_oN ?_ | refine w_oS ?_ | refine w_seq ?_ | refine w_if ?_ | refine w_ret ?_ | refine w_drop ?_ | refine w_set ?_ | refine w_setO ?_ | refine w_asg ?_ | refine w_gIx ?_ | refine w_for ?_ | refine w_fn ?_ | refine w_cutL ?_ | refine w_enumS ?_ | refine w_fld1 ?_ | refine w_fldS ?_ | refine w_make ?_ | refine w_meth ?_ | refine w_raise ?_ | refine w_try ?_ | refine w_tryC ?_ | refine w_joinRev ?_ | refine w_while ?_ | refine t_nx ?_ | refine t_ct ?_ | refine t_bk ?_ | refine t_rt ?_ | refine q_nx ?_ | refine q_rt ?_ | refine q_bk ?_ | refine q_ct ?_ | refine e_rt ?_ | refine e_nx ?_ | refine i_t ?_ | refine i_f ?_ | refine i_nt ?_ | refine i_nf ?_ | refine o_add ?_ | refine o_sub ?_ | refine o_lt ?_ | refine o_le ?_ | refine o_gt ?_ | refine o_ge ?_ | refine o_int ?_ | refine o_abs ?_ | refine o_lenL ?_ | refine o_lenT ?_ | refine o_inS ?_ | refine o_notInS ?_ | refine o_listL ?_ | refine o_listT ?_ | refine o_tupL ?_ | refine o_tupT ?_ | refine o_eqI ?_ | refine o_neI ?_ | refine o_isN ?_ | refine o_notN ?_ | refine o_rev ?_ | refine o_max ?_ | refine o_min ?_ | refine o_lenCh ?_ | refine o_notInCh ?_ | refine o_listCh ?_ | refine o_inI ?_ | refine x_bl ?_ | refine x_int ?_ | refine x_str ?_ | refine x_sqL ?_ | refine x_sqT ?_ | refine x_sqS ?_ | refine x_isL ?_ | refine x_out ?_ | refine x_some ?_ | refine x_objL ?_ | refine x_objI ?_ | refine x_objD ?_ | refine x_cls ?_ | refine fl_nx ?_ | refine fl_ct ?_ | refine w_zip ?_ | refine w_zipT ?_ | refine w_sliceL ?_ | refine w_raise1 ?_ | refine w_tryF ?_ | refine o_and ?_ | refine o_shr ?_ | refine o_negI ?_ | refine o_listDT ?_ | refine Np.o_sumE ?_ | refine Np.o_lenE ?_ | refine Np.x_sqP ?_ | refine Np.x_sqE ?_ | refine Np.o_ix0 ?_ | refine Np.o_ix1 ?_ | refine Np.o_ixKy ?_ | refine Np.o_ltKy ?_ | refine Np.o_sortM ?_ | refine ⟨_, _, rfl, ?_⟩ | refine x_r1 (by with_unfolding_all omega) ?_ | refine x_r2 (by with_unfolding_all omega) ?_ | refine w_var (by with_unfolding_all exact rfl) ?_ | refine x_env (by with_unfolding_all exact rfl) ?_ | refine x_lst (by with_unfolding_all exact rfl) ?_ | refine x_slot (by with_unfolding_all exact of_decide_eq_true rfl) ?_ | refine x_nm (by with_unfolding_all exact of_decide_eq_true rfl) ?_ | refine o_ixL (by with_unfolding_all exact rfl) ?_ | refine o_ixT (by with_unfolding_all exact rfl) ?_ | refine o_isiB (b := true) (by with_unfolding_all exact rfl) ?_ | refine o_isiB (b := false) (by with_unfolding_all exact rfl) ?_ | refine o_lenS' (by first | with_unfolding_all omega | assumption) ?_ | refine x_tp (by with_unfolding_all exact rfl) ?_ | refine x_fld (by with_unfolding_all exact rfl) (by with_unfolding_all exact rfl) ?_ | refine x_meth (by with_unfolding_all exact rfl) ⟨(by with_unfolding_all exact rfl), (by with_unfolding_all exact rfl)⟩ ?_ | refine o_pow (by with_unfolding_all decide) ?_ | refine o_mulR (by with_unfolding_all decide) ?_ | refine o_mulL (by with_unfolding_all decide) ?_ | refine o_mulL (by with_unfolding_all omega) ?_ | refine o_mod (by first | assumption | with_unfolding_all decide) ?_ | refine o_div (by first | assumption | with_unfolding_all decide) (by first | assumption | with_unfolding_all decide) ?_ | refine ⟨(by with_unfolding_all rfl), ?_⟩ | refine ⟨_, (by with_unfolding_all rfl), ?_⟩ | refine ⟨_, _, _, (by with_unfolding_all rfl), (by with_unfolding_all rfl), (by with_unfolding_all rfl), ?_⟩))
          exact ⟨_, _, rfl, rfl, Int.emod_nonneg _ (by omega), Int.emod_lt_of_pos _ hm, cs, i, 1, k + 1, s, (if y < 0 then -y else y) / many, rfl, by omega, by omega, by omega, hl⟩
      · rw [decide_eq_false hd0]
        repeat (first | (with_reducible first | refine w_c ?_ | refine w_nil ?_ | refine w_nx ?_ | refine w_yes ?_ | refine w_pair ?_ | refine w_pairO ?_ | refine w_pairR ?_ | refine w_m2 ?_ | refine w_un ?_ | refine w_cons ?_ | refine w_own ?_ | refine w_io ?_ | refine w_arg ?_ | refine w_argI ?_ | refine w_seqI ?_ | refine w_tup ?_ | refine w_lst ?_ | refine w_and ?_ | refine w_or ?_ | refine w_notV ?_ | refine w_ite ?_ | refine w_test ?_ | refine w_not ?_ | refine w_tand ?_ | refine w_tor ?_ | refine w_chain ?_ | refine w_call0 ?_ | refine w_call1 ?_ | refine w_lstM ?_ | refine w_strM ?_ | refine w_slice ?_ | refine w_oN ?_ | refine w_oS ?_ | refine w_seq ?_ | refine w_if ?_ | refine w_ret ?_ | refine w_drop ?_ | refine w_set ?_ | refine w_setO ?_ | refine w_asg ?_ | refine w_gIx ?_ | refine w_for ?_ | refine w_fn ?_ | refine w_cutL ?_ | refine w_enumS ?_ | refine w_fld1 ?_ | refine w_fldS ?_ | refine w_make ?_ | refine w_meth ?_ | refine w_raise ?_ | refine w_try ?_ | refine w_tryC ?_ | refine w_joinRev ?_ | refine w_while ?_ | refine t_nx ?_ | refine t_ct ?_ | refine t_bk ?_ | refine t_rt ?_ | refine q_nx ?_ | refine q_rt ?_ | refine q_bk ?_ | refine q_ct ?_ | refine e_rt ?_ | refine e_nx ?_ | refine i_t ?_ | refine i_f ?_ | refine i_nt ?_ | refine i_nf ?_ | refine o_add ?_ | refine o_sub ?_ | refine o_lt ?_ | refine o_le ?_ | refine o_gt ?_ | refine o_ge ?_ | refine o_int ?_ | refine o_abs ?_ | refine o_lenL ?_ | refine o_lenT ?_ | refine o_inS ?_ | refine o_notInS ?_ | refine o_listL ?_ | refine o_listT ?_ | refine o_tupL ?_ | refine o_tupT ?_ | refine o_eqI ?_ | refine o_neI ?_ | refine o_isN ?_ | refine o_notN ?_ | refine o_rev ?_ | refine o_max ?_ | refine o_min ?_ | refine o_lenCh ?_ | refine o_notInCh ?_ | refine o_listCh ?_ | refine o_inI ?_ | refine x_bl ?_ | refine x_int ?_ | refine x_str ?_ | refine x_sqL ?_ | refine x_sqT ?_ | refine x_sqS ?_ | refine x_isL ?_ | refine x_out ?_ | refine x_some ?_ | refine x_objL ?_ | refine x_objI ?_ | refine x_objD ?_ | refine x_cls ?_ | refine fl_nx ?_ | refine fl_ct ?_ | refine w_zip ?_ | refine w_zipT ?_ | refine w_sliceL ?_ | refine w_raise1 ?_ | refine w_tryF ?_ | refine o_and ?_ | refine o_shr ?_ | refine o_negI ?_ | refine o_listDT ?_ | refine Np.o_sumE ?_ | refine Np.o_lenE ?_ | refine Np.x_sqP ?_ | refine Np.x_sqE ?_ | refine Np.o_ix0 ?_ | refine Np.o_ix1 ?_ | refine Np.o_ixKy ?_ | refine Np.o_ltKy ?_ | refine Np.o_sortM ?_ | refine ⟨_, _, rfl, ?_⟩ | refine x_r1 (by with_unfolding_all omega) ?_ | refine x_r2 (by with_unfolding_all omega) ?_ | refine w_var (by with_unfolding_all exact rfl) ?_ | refine x_env (by with_unfolding_all exact rfl) ?_ | refine x_lst (by with_unfolding_all exact rfl) ?_ | refine x_slot (by with_unfolding_all exact of_decide_eq_true rfl) ?_ | refine x_nm (by with_unfolding_all exact of_decide_eq_true rfl) ?_ | refine o_ixL (by with_unfolding_all exact rfl) ?_ | refine o_ixT (by with_unfolding_all exact rfl) ?_ | refine o_isiB (b := true) (by with_unfolding_all exact rfl) ?_ | refine o_isiB (b := false) (by with_unfolding_all exact rfl) ?_ | refine o_lenS' (by first | with_unfolding_all omega | assumption) ?_ | refine x_tp (by with_unfolding_all exact rfl) ?_ | refine x_fld (by with_unfolding_all exact rfl) (by with_unfolding_all exact rfl) ?_ | refine x_meth (by with_unfolding_all exact rfl) ⟨(by with_unfolding_all exact rfl), (by with_unfolding_all exact rfl)⟩ ?_ | refine o_pow (by with_unfolding_all decide) ?_ | refine o_mulR (by with_unfolding_all decide) ?_ | refine o_mulL (by with_unfolding_all decide) ?_ | refine o_mulL (by with_unfolding_all omega) ?_ | refine o_mod (by first | assumption | with_unfolding_all decide) ?_ | refine o_div (by first | assumption | with_unfolding_all decide) (by first | assumption | with_unfolding_all decide) ?_ | refine ⟨(by with_unfolding_all rfl), ?_⟩ | refine ⟨_, (by with_unfolding_all rfl), ?_⟩ | refine ⟨_, _, _, (by with_unfolding_all rfl), (by with_unfolding_all rfl), (by with_unfolding_all rfl), ?_⟩))
        by_cases hq : r / many = 0
        · rw [decide_eq_true hq]
          repeat (first | (with_reducible first | refine w_c ?_ | refine w_nil ?_ | refine w_nx ?_ | refine w_yes ?_ | refine w_pair ?_ | refine w_pairO ?_ | refine w_pairR ?_ | refine w_m2 ?_ | refine w_un ?_ | refine w_cons ?_ | refine w_own ?_ | refine w_io ?_ | refine w_arg ?_ | refine w_argI ?_ | refine w_seqI ?_ | refine w_tup ?_ | refine w_lst ?_ | refine w_and ?_ | refine w_or ?_ | refine w_notV ?_ | refine w_ite ?_ | refine w_test ?_ | refine w_not ?_ | refine w_tand ?_ | refine w_tor ?_ | refine w_chain ?_ | refine w_call0 ?_ | refine w_call1 ?_ | refine w_lstM ?_ | refine w_strM ?_ | refine w_slice ?_ | refine w_oN ?_ | refine w_oS ?_ | refine w_seq ?_ | refine w_if ?_ | refine w_ret ?_ | refine w_drop ?_ | refine w_set ?_ | refine w_setO ?_ | refine w_asg ?_ | refine w_gIx ?_ | refine w_for ?_ | refine w_fn ?_ | refine w_cutL ?_ | refine w_enumS ?_ | refine w_fld1 ?_ | refine w_fldS ?_ | refine w_make ?_ | refine w_meth ?_ | refine w_raise ?_ | refine w_try ?_ | refine w_tryC ?_ | refine w_joinRev ?_ | refine w_while ?_ | refine t_nx ?_ | refine t_ct ?_ | refine t_bk ?_ | refine t_rt ?_ | refine q_nx ?_ | refine q_rt ?_ | refine q_bk ?_ | refine q_ct ?_ | refine e_rt ?_ | refine e_nx ?_ | refine i_t ?_ | refine i_f ?_ | refine i_nt ?_ | refine i_nf ?_ | refine o_add ?_ | refine o_sub ?_ | refine o_lt ?_ | refine o_le ?_ | refine o_gt ?_ | refine o_ge ?_ | refine o_int ?_ | refine o_abs ?_ | refine o_lenL ?_ | refine o_lenT ?_ | refine o_inS ?_ | refine o_notInS ?_ | refine o_listL ?_ | refine o_listT ?_ | refine o_tupL ?_ | refine o_tupT ?_ | refine o_eqI ?_ | refine o_neI ?_ | refine o_isN ?_ | refine o_notN ?_ | refine o_rev ?_ | refine o_max ?_ | refine o_min ?_ | refine o_lenCh ?_ | refine o_notInCh ?_ | refine o_listCh ?_ | refine o_inI ?_ | refine x_bl ?_ | refine x_int ?_ | refine x_str ?_ | refine x_sqL ?_ | refine x_sqT ?_ | refine x_sqS ?_ | refine x_isL ?_ | refine x_out ?_ | refine x_some ?_ | refine x_objL ?_ | refine x_objI ?_ | refine x_objD ?_ | refine x_cls ?_ | refine fl_nx ?_ | refine fl_ct ?_ | refine w_zip ?_ | refine w_zipT ?_ | refine w_sliceL ?_ | refine w_raise1 ?_ | refine w_tryF ?_ | refine o_and ?_ | refine o_shr ?_ | refine o_negI ?_ | refine o_listDT ?_ | refine Np.o_sumE ?_ | refine Np.o_lenE ?_ | refine Np.x_sqP ?_ | refine Np.x_sqE ?_ | refine Np.o_ix0 ?_ | refine Np.o_ix1 ?_ | refine Np.o_ixKy ?_ | refine Np.o_ltKy ?_ | refine Np.o_sortM ?_ | refine ⟨_, _, rfl, ?_⟩ | refine x_r1 (by with_unfolding_all omega) ?_ | refine x_r2 (by with_unfolding_all omega) ?_ | refine w_var (by with_unfolding_all exact rfl) ?_ | refine x_env (by with_unfolding_all exact rfl) ?_ | refine x_lst (by with_unfolding_all exact rfl) ?_ | refine x_slot (by with_unfolding_all exact of_decide_eq_true rfl) ?_ | refine x_nm (by with_unfolding_all exact of_decide_eq_true rfl) ?_ | refine o_ixL (by with_unfolding_all exact rfl) ?_ | refine o_ixT (by with_unfolding_all exact rfl) ?_ | refine o_isiB (b := true) (by with_unfolding_all exact rfl) ?_ | refine o_isiB (b := false) (by with_unfolding_all exact rfl) ?_ | refine o_lenS' (by first | with_unfolding_all omega | assumption) ?_ | refine x_tp (by with_unfolding_all exact rfl) ?_ | refine x_fld (by with_unfolding_all exact rfl) (by with_unfolding_all exact rfl) ?_ | refine x_meth (by with_unfolding_all exact rfl) ⟨(by with_unfolding_all exact rfl), (by with_unfolding_all exact rfl)⟩ ?_ | refine o_pow (by with_unfolding_all decide) ?_ | refine o_mulR (by with_unfolding_all decide) ?_ | refine o_mulL (by with_unfolding_all decide) ?_ | refine o_mulL (by with_unfolding_all omega) ?_ | refine o_mod (by first | assumption | with_unfolding_all decide) ?_ | refine o_div (by first | assumption | with_unfolding_all decide) (by first | assumption | with_unfolding_all decide) ?_ | refine ⟨(by with_unfolding_all rfl), ?_⟩ | refine ⟨_, (by with_unfolding_all rfl), ?_⟩ | refine ⟨_, _, _, (by with_unfolding_all rfl), (by with_unfolding_all rfl), (by with_unfolding_all rfl), ?_⟩))
          exact ⟨_, _, rfl, rfl, Int.emod_nonneg _ (by omega), Int.emod_lt_of_pos _ hm, cs, i + 1, 0, k + 1, s, r / many, rfl, by omega, by omega, by omega, hl⟩
        · rw [decide_eq_false hq]
          repeat (first | (with_reducible first | refine w_c ?_ | refine w_nil ?_ | refine w_nx ?_ | refine w_yes ?_ | refine w_pair ?_ | refine w_pairO ?_ | refine w_pairR ?_ | refine w_m2 ?_ | refine w_un ?_ | refine w_cons ?_ | refine w_own ?_ | refine w_io ?_ | refine w_arg ?_ | refine w_argI ?_ | refine w_seqI ?_ | refine w_tup ?_ | refine w_lst ?_ | refine w_and ?_ | refine w_or ?_ | refine w_notV ?_ | refine w_ite ?_ | refine w_test ?_ | refine w_not ?_ | refine w_tand ?_ | refine w_tor ?_ | refine w_chain ?_ | refine w_call0 ?_ | refine w_call1 ?_ | refine w_lstM ?_ | refine w_strM ?_ | refine w_slice ?_ | refine w_oN ?_ | refine w_oS ?_ | refine w_seq ?_ | refine w_if ?_ | refine w_ret ?_ | refine w_drop ?_ | refine w_set ?_ | refine w_setO ?_ | refine w_asg ?_ | refine w_gIx ?_ | refine w_for ?_ | refine w_fn ?_ | refine w_cutL ?_ | refine w_enumS ?_ | refine w_fld1 ?_ | refine w_fldS ?_ | refine w_make ?_ | refine w_meth ?_ | refine w_raise ?_ | refine w_try ?_ | refine w_tryC ?_ | refine w_joinRev ?_ | refine w_while ?_ | refine t_nx ?_ | refine t_ct ?_ | refine t_bk ?_ | refine t_rt ?_ | refine q_nx ?_ | refine q_rt ?_ | refine q_bk ?_ | refine q_ct ?_ | refine e_rt ?_ | refine e_nx ?_ | refine i_t ?_ | refine i_f ?_ | refine i_nt ?_ | refine i_nf ?_ | refine o_add ?_ | refine o_sub ?_ | refine o_lt ?_ | refine o_le ?_ | refine o_gt ?_ | refine o_ge ?_ | refine o_int ?_ | refine o_abs ?_ | refine o_lenL ?_ | refine o_lenT ?_ | refine o_inS ?_ | refine o_notInS ?_ | refine o_listL ?_ | refine o_listT ?_ | refine o_tupL ?_ | refine o_tupT ?_ | refine o_eqI ?_ | refine o_neI ?_ | refine o_isN ?_ | refine o_notN ?_ | refine o_rev ?_ | refine o_max ?_ | refine o_min ?_ | refine o_lenCh ?_ | refine o_notInCh ?_ | refine o_listCh ?_ | refine o_inI ?_ | refine x_bl ?_ | refine x_int ?_ | refine x_str ?_ | refine x_sqL ?_ | refine x_sqT ?_ | refine x_sqS ?_ | refine x_isL ?_ | refine x_out ?_ | refine x_some ?_ | refine x_objL ?_ | refine x_objI ?_ | refine x_objD ?_ | refine x_cls ?_ | refine fl_nx ?_ | refine fl_ct ?_ | refine w_zip ?_ | refine w_zipT ?_ | refine w_sliceL ?_ | refine w_raise1 ?_ | refine w_tryF ?_ | refine o_and ?_ | refine o_shr ?_ | refine o_negI ?_ | refine o_listDT ?_ | refine Np.o_sumE ?_ | refine Np.o_lenE ?_ | refine Np.x_sqP ?_ | refine Np.x_sqE ?_ | refine Np.o_ix0 ?_ | refine Np.o_ix1 ?_ | refine Np.o_ixKy ?_ | refine Np.o_ltKy ?_ | refine Np.o_sortM ?_ | refine ⟨_, _, rfl, ?_⟩ | refine x_r1 (by with_unfolding_all omega) ?_ | refine x_r2 (by with_unfolding_all omega) ?_ | refine w_var (by with_unfolding_all exact rfl) ?_ | refine x_env (by with_unfolding_all exact rfl) ?_ | refine x_lst (by with_unfolding_all exact rfl) ?_ | refine x_slot (by with_unfolding_all exact of_decide_eq_true rfl) ?_ | refine x_nm (by with_unfolding_all exact of_decide_eq_true rfl) ?_ | refine o_ixL (by with_unfolding_all exact rfl) ?_ | refine o_ixT (by with_unfolding_all exact rfl) ?_ | refine o_isiB (b := true) (by with_unfolding_all exact rfl) ?_ | refine o_isiB (b := false) (by with_unfolding_all exact rfl) ?_ | refine o_lenS' (by first | with_unfolding_all omega | assumption) ?_ | refine x_tp (by with_unfolding_all exact rfl) ?_ | refine x_fld (by with_unfolding_all exact rfl) (by with_unfolding_all exact rfl) ?_ | refine x_meth (by with_unfolding_all exact rfl) ⟨(by with_unfolding_all exact rfl), (by with_unfolding_all exact rfl)⟩ ?_ | refine o_pow (by with_unfolding_all decide) ?_ | refine o_mulR (by with_unfolding_all decide) ?_ | refine o_mulL (by with_unfolding_all decide) ?_ | refine o_mulL (by with_unfolding_all omega) ?_ | refine o_mod (by first | assumption | with_unfolding_all decide) ?_ | refine o_div (by first | assumption | with_unfolding_all decide) (by first | assumption | with_unfolding_all decide) ?_ | refine ⟨(by with_unfolding_all rfl), ?_⟩ | refine ⟨_, (by with_unfolding_all rfl), ?_⟩ | refine ⟨_, _, _, (by with_unfolding_all rfl), (by with_unfolding_all rfl), (by with_unfolding_all rfl), ?_⟩))
          exact ⟨_, _, rfl, rfl, Int.emod_nonneg _ (by omega), Int.emod_lt_of_pos _ hm, cs, i, d, k + 1, s, r / many, rfl, by omega, by omega, by omega, hl⟩
theorem u_draw {EF : Ex → List D → Prop} {c : Nat} {h : D} {many : Int} {Q : D → List D → Prop} (H : HOk c h) (hc : c < 2 ^ 40) (h1 : 1 ≤ many) (h2 : many < 10 ^ 60) (w : ∀ r h', 0 ≤ r → r < many → HOk (c + 1) h' → Q (.int r) [h']) : wfx EF (F_law_draw ([.non, .int many].set 0 h)) Q := by
  show wfx EF (F_law_draw [h, .int many]) Q
  refine f_use (draw_ok H hc h1 h2) ?_
  rintro d outs ⟨r, h', rfl, rfl, h3, h4, h5⟩
  exact w r h' h3 h4 h5
/-- the script's hand -/
theorem hand_ok {ns : List Int} (hl : ns.length ≤ 63) : wf (F_law_hand [.lst (ns.map D.int)]) fun d outs => HOk 0 d ∧ outs = [] := by
  unfold F_law_hand
  with_reducible refine w_fn ?_
  unfold m_law_hand
  and_intros
  refine w_mapT (l := ns.take 63) D.int D.int ?_
  and_intros
  refine ⟨by rw [List.map_take], by rw [List.length_take]; show _ < 2 ^ 24; omega, ?_, ?_⟩
  · intro a _
    refine ⟨_, rfl, ?_⟩
    and_intros
    exact ⟨rfl, rfl⟩
  and_intros
  rw [show (1 : Int) = ((1 : Nat) : Int) from rfl, cutD_first, ← List.map_take]
  refine o_sumI ?_
  and_intros
  exact ⟨⟨ns.take 63, 0, 0, 0, _, 0, rfl, by decide, by decide, by decide, by rw [List.length_take]; omega⟩, rfl⟩
/-- a drawn number -/
theorem number_ok {c : Nat} {h : D} (H : HOk c h) (hc : c < 2 ^ 39) : wf (F_law_number [h]) fun d outs => ∃ n h', d = .int n ∧ outs = [h'] ∧ Np.Bt 134 n ∧ HOk (c + 4) h' := by
  have mono : ∀ {a b : Nat} {h : D}, HOk a h → a ≤ b → HOk b h := fun ⟨cs, i, d, k, s, r, e, h1, h2, h3, h4⟩ l => ⟨cs, i, d, k, s, r, e, h1, h2, by omega, h4⟩
  unfold F_law_number
  with_reducible refine w_fn ?_
  unfold m_law_number
  and_intros
  refine u_draw H (by omega) (by omega) (by omega) ?_
  intro r h1 r0 r1 H1
  and_intros
  by_cases q : r < 2
  · rw [decide_eq_true q]
    and_intros
    refine u_draw H1 (by omega) (by omega) (by omega) ?_
    intro r h2 r0 r1 H2
    and_intros
    exact ⟨_, _, rfl, rfl, by unfold Np.Bt; omega, mono H2 (by omega)⟩
  · rw [decide_eq_false q]
    and_intros
    by_cases q2 : r = 2
    · rw [decide_eq_true q2]
      and_intros
      refine u_draw H1 (by omega) (by omega) (by omega) ?_
      intro r h2 r0 r1 H2
      and_intros
      exact ⟨_, _, rfl, rfl, by unfold Np.Bt; omega, mono H2 (by omega)⟩
    · rw [decide_eq_false q2]
      and_intros
      refine u_draw H1 (by omega) (by decide) (by decide) ?_
      intro x h2 x0 x1 H2
      and_intros
      refine Np.o_mulD (a := 67) (b := 67) ?_ ?_ (by decide) ?_
      · have : x < 10 ^ 20 := x1
        unfold Np.Bt; omega
      · show ((10 : Int) ^ 20).natAbs < _; decide
      and_intros
      refine u_draw H2 (by omega) (by decide) (by decide) ?_
      intro y h3 y0 y1 H3
      and_intros
      have hx : x < 10 ^ 20 := x1
      have hy : y < 10 ^ 20 := y1
      have hz : (10 : Int) ^ Int.toNat 20 = 10 ^ 20 := rfl
      rw [hz]
      have b1 : Np.Bt 133 (x * 10 ^ 20 + y) := by unfold Np.Bt; omega
      have b2 : 0 ≤ x * 10 ^ 20 + y := by omega
      have b3 : x * 10 ^ 20 + y < 10 ^ 40 := by omega
      generalize x * 10 ^ 20 + y = z at *
      and_intros
      refine u_draw H3 (by omega) (by decide) (by decide) ?_
      intro u h4 u0 u1 H4
      and_intros
      refine Np.o_mulD (a := 135) (b := 2) ?_ ?_ (by decide) ?_
      · unfold Np.Bt; omega
      · unfold Np.Bt; omega
      and_intros
      refine ⟨_, _, rfl, rfl, ?_, H4⟩
      unfold Np.Bt
      have : u = 0 ∨ u = 1 := by omega
      rcases this with rfl | rfl <;> omega
theorem u_number {EF : Ex → List D → Prop} {c : Nat} {h : D} {Q : D → List D → Prop} (H : HOk c h) (hc : c < 2 ^ 39) (w : ∀ n h', Np.Bt 134 n → HOk (c + 4) h' → Q (.int n) [h']) : wfx EF (F_law_number ([.non].set 0 h)) Q := by
  show wfx EF (F_law_number [h]) Q
  refine f_use (number_ok H hc) ?_
  rintro d outs ⟨n, h', rfl, rfl, h1, h2⟩
  exact w n h' h1 h2
end Wk05
set_option maxHeartbeats 2000000
namespace Np
open PySem L2 Ip
/-! ### the same, the zeros taken out ahead -/
def tidy (m : List Tm) : List Tm := (srt ((m.filter nz).map (·.2))).map fun e => (get m e, e)
theorem filter_Ks {m : List Tm} (h : Ks m) : Ks (m.filter nz) := List.Nodup.sublist ((List.filter_sublist).map _) h
theorem tidy_eq {m : List Tm} (h : Ks m) : tidy m = ordM (m.filter nz) := by
  unfold tidy ordM
  refine List.map_congr_left fun e he => ?_
  have he := (srt_perm _).mem_iff.1 he
  obtain ⟨t, ht, rfl⟩ := List.mem_map.1 he
  unfold get
  rw [get_mem (filter_Ks h) ht, get_mem h (List.mem_filter.1 ht).1]
theorem tidy_perm {m : List Tm} (h : Ks m) : (tidy m).Perm (m.filter nz) := by rw [tidy_eq h]; exact ordM_perm (filter_Ks h)
theorem tidy_lin (φ : List Nat → Int) {m : List Tm} (h : Ks m) : lin φ (tidy m) = lin φ m := by rw [lin_perm φ (tidy_perm h), lin_nz]
theorem tidy_nrm {m : List Tm} (h : Ks m) : nrm (tidy m) = nrm m := by rw [nrm_perm (tidy_perm h), nrm_nz]
theorem tidy_mem {m : List Tm} (h : Ks m) {t : Tm} (ht : t ∈ tidy m) : t ∈ m := (List.mem_filter.1 ((tidy_perm h).mem_iff.1 ht)).1
theorem tidy_len {m : List Tm} (h : Ks m) : (tidy m).length ≤ m.length := by rw [(tidy_perm h).length_eq]; exact List.length_filter_le _ _
theorem tidy_good {n : Nat} {m : List Tm} (h : Ks m) (hl : ∀ t ∈ m, t.2.length = n) : Good n (tidy m) := by
  refine ⟨fun t ht => ?_, fun t ht => hl t (tidy_mem h ht), ?_⟩
  · have := (List.mem_filter.1 ((tidy_perm h).mem_iff.1 ht)).2
    simpa [Np.nz] using this
  · unfold tidy
    rw [List.pairwise_map]
    exact srt_pw (filter_Ks h)
theorem put_mem2 {m : List Tm} {e : List Nat} {c : Int} {t : Tm} (h : t ∈ put m e c) : t = (c, e) ∨ t ∈ m := by
  unfold put at h
  split at h
  · obtain ⟨u, hu, rfl⟩ := List.mem_map.1 h
    split
    · rename_i q; left; rw [q]
    · exact .inr hu
  · rcases List.mem_append.1 h with z | z
    · exact .inr z
    · exact .inl (List.mem_singleton.1 z)
/-- a drawn polynomial: its terms' sizes -/
structure Drawn (n most high b : Nat) (p : List Tm) : Prop where
  good : Good n p
  len : p.length ≤ most
  ex : ∀ t ∈ p, ∀ k ∈ t.2, k ≤ high
  co : ∀ t ∈ p, Bt b t.1
end Np
set_option maxHeartbeats 4000000
namespace Wk05
open PySem L2 Ip
local macro_rules | `(tactic| and_intros) => `(tactic| repeat (first | (with_reducible first | refine w_c ?_ | refine w_nil ?_ | refine w_nx ?_ | refine w_yes ?_ | refine w_pair ?_ | refine w_pairO ?_ | refine w_pairR ?_ | refine w_m2 ?_ | refine w_un ?_ | refine w_cons ?_ | refine w_own ?_ | refine w_io ?_ | refine w_arg ?_ | refine w_argI ?_ | refine w_seqI ?_ | refine w_tup ?_ | refine w_lst ?_ | refine w_and ?_ | refine w_or ?_ | refine w_notV ?_ | refine w_ite ?_ | refine w_test ?_ | refine w_not ?_ | refine w_tand ?_ | refine w_tor ?_ | refine w_chain ?_ | refine w_call0 ?_ | refine w_call1 ?_ | refine w_lstM ?_ | refine w_strM ?_ | refine w_slice ?_ | refine w_oN ?_ | refine w_oS ?_ | refine w_seq ?_ | refine w_if ?_ | refine w_ret ?_ | refine w_drop ?_ | refine w_set ?_ | refine w_setO ?_ | refine w_asg ?_ | refine w_gIx ?_ | refine w_for ?_ | refine w_fn ?_ | refine w_cutL ?_ | refine w_enumS ?_ | refine w_fld1 ?_ | refine w_fldS ?_ | refine w_make ?_ | refine w_meth ?_ | refine w_raise ?_ | refine w_try ?_ | refine w_tryC ?_ | refine w_joinRev ?_ | refine w_while ?_ | refine t_nx ?_ | refine t_ct ?_ | refine t_bk ?_ | refine t_rt ?_ | refine q_nx ?_ | refine q_rt ?_ | refine q_bk ?_ | refine q_ct ?_ | refine e_rt ?_ | refine e_nx ?_ | refine i_t ?_ | refine i_f ?_ | refine i_nt ?_ | refine i_nf ?_ | refine o_add ?_ | refine o_sub ?_ | refine o_lt ?_ | refine o_le ?_ | refine o_gt ?_ | refine o_ge ?_ | refine o_int ?_ | refine o_abs ?_ | refine o_lenL ?_ | refine o_lenT ?_ | refine o_inS ?_ | refine o_notInS ?_ | refine o_listL ?_ | refine o_listT ?_ | refine o_tupL ?_ | refine o_tupT ?_ | refine o_eqI ?_ | refine o_neI ?_ | refine o_isN ?_ | refine o_notN ?_ | refine o_rev ?_ | refine o_max ?_ | refine o_min ?_ | refine o_lenCh ?_ | refine o_notInCh ?_ | refine o_listCh ?_ | refine o_inI ?_ | refine x_bl ?_ | refine x_int ?_ | refine x_str ?_ | refine x_sqL ?_ | refine x_sqT ?_ | refine x_sqS ?_ | refine x_isL ?_ | refine x_out ?_ | refine x_some ?_ | refine x_objL ?_ | refine x_objI ?_ | refine x_objD ?_ | refine x_cls ?_ | refine fl_nx ?_ | refine fl_ct ?_ | refine w_zip ?_ | refine w_zipT ?_ | refine w_sliceL ?_ | refine w_raise1 ?_ | refine w_tryF ?_ | refine o_and ?_ | refine o_shr ?_ | refine o_negI ?_ | refine o_listDT ?_ | refine Np.o_sumE ?_ | refine Np.o_lenE ?_ | refine Np.x_sqP ?_ | refine Np.x_sqE ?_ | refine Np.o_ix0 ?_ | refine Np.o_ix1 ?_ | refine Np.o_ixKy ?_ | refine Np.o_ltKy ?_ | refine Np.o_sortM ?_ | refine ⟨_, _, rfl, ?_⟩ | refine x_r1 (by with_unfolding_all omega) ?_ | refine x_r2 (by with_unfolding_all omega) ?_ | refine w_var (by with_unfolding_all exact rfl) ?_ | refine x_env (by with_unfolding_all exact rfl) ?_ | refine x_lst (by with_unfolding_all exact rfl) ?_ | refine x_slot (by with_unfolding_all exact of_decide_eq_true rfl) ?_ | refine x_nm (by with_unfolding_all exact of_decide_eq_true rfl) ?_ | refine o_ixL (by with_unfolding_all exact rfl) ?_ | refine o_ixT (by with_unfolding_all exact rfl) ?_ | refine o_isiB (b := true) (by with_unfolding_all exact rfl) ?_ | refine o_isiB (b := false) (by with_unfolding_all exact rfl) ?_ | refine o_lenS' (by first | with_unfolding_all omega | assumption) ?_ | refine x_tp (by with_unfolding_all exact rfl) ?_ | refine x_fld (by with_unfolding_all exact rfl) (by with_unfolding_all exact rfl) ?_ | refine x_meth (by with_unfolding_all exact rfl) ⟨(by with_unfolding_all exact rfl), (by with_unfolding_all exact rfl)⟩ ?_ | refine o_pow (by with_unfolding_all decide) ?_ | refine o_mulR (by with_unfolding_all decide) ?_ | refine o_mulL (by with_unfolding_all decide) ?_ | refine o_mulL (by with_unfolding_all omega) ?_ | refine o_mod (by first | assumption | with_unfolding_all decide) ?_ | refine o_div (by first | assumption | with_unfolding_all decide) (by first | assumption | with_unfolding_all decide) ?_)))
open Np (eD tD pD kyD dD)
theorem HOk.mono {a b : Nat} {h : D} (H : HOk a h) (l : a ≤ b) : HOk b h := by
  obtain ⟨cs, i, d, k, s, r, e, h1, h2, h3, h4⟩ := H
  exact ⟨cs, i, d, k, s, r, e, h1, h2, by omega, h4⟩
theorem tidy_ok {m : List Np.Tm} (hm : Np.Ks m) (hl : m.length < 2 ^ 20) : wf (F_law_tidy [dD m]) fun d outs => d = pD (Np.tidy m) ∧ outs = [] := by
  unfold F_law_tidy
  with_reducible refine w_fn ?_
  unfold m_law_tidy
  and_intros
  refine w_lockE ⟨_, _, rfl⟩ ?_
  refine w_filT (l := m) (fun t => eD t.2) (fun t => kyD t.2) Np.nz ?_
  refine Np.w_keysM rfl ?_
  refine ⟨rfl, by show _ < 2 ^ 24; omega, ?_, ?_⟩
  · intro t ht
    refine ⟨_, rfl, ?_⟩
    and_intros
    refine Np.o_getM (Np.get_mem hm ht) ?_
    and_intros
    refine ⟨rfl, ?_⟩
    by_cases z : t.1 = 0
    · rw [if_neg (by simp [Np.nz, z])]; rfl
    · rw [if_pos (by simp [Np.nz, z])]
      and_intros
      exact ⟨rfl, rfl⟩
  and_intros
  rw [show (m.filter Np.nz).map (fun t => kyD t.2) = ((m.filter Np.nz).map (·.2)).map kyD from by rw [List.map_map]; rfl]
  refine Np.o_sortM ?_
  and_intros
  refine w_mapT (l := Np.srt ((m.filter Np.nz).map (·.2))) kyD (fun e => tD (Np.get m e, e)) ?_
  and_intros
  have hsl : (Np.srt ((m.filter Np.nz).map (·.2))).length ≤ m.length := by
    rw [(Np.srt_perm _).length_eq, List.length_map]
    exact List.length_filter_le _ _
  refine ⟨rfl, by show _ < 2 ^ 24; omega, ?_, ?_⟩
  · intro e he
    have he := (Np.srt_perm _).mem_iff.1 he
    obtain ⟨t, ht, rfl⟩ := List.mem_map.1 he
    have ht := (List.mem_filter.1 ht).1
    refine ⟨_, rfl, ?_⟩
    and_intros
    refine Np.o_getM (Np.get_mem hm ht) ?_
    and_intros
    refine ⟨?_, rfl⟩
    unfold Np.get
    rw [Np.get_mem hm ht]; rfl
  and_intros
  refine ⟨?_, rfl⟩
  unfold Np.tidy pD
  rw [List.map_map]
  rfl
theorem poly_ok {c : Nat} {h : D} {n most high : Nat} (H : HOk c h) (hc : c < 2 ^ 38) (hn : n ≤ 40) (hm : most ≤ 40) (hh : high ≤ 1000) : wf (F_law_poly [h, .int n, .int most, .int high]) fun d outs => ∃ p h', d = pD p ∧ outs = [h'] ∧ Np.Drawn n most high 134 p ∧ HOk (c + 2000) h' := by
  unfold F_law_poly
  with_reducible refine w_fn ?_
  unfold m_law_poly
  and_intros
  refine ⟨rfl, ?_⟩
  and_intros
  refine u_draw H (by omega) (by omega) (by omega) ?_
  intro r h1 r0 r1 H1
  and_intros
  refine w_loop (fun i ρ => ∃ (h2 : D) (m : List Np.Tm) (x y : Option D), ρ = [some h2, some (.int n), some (.int most), some (.int high), some (dD m), x, y, none] ∧ HOk (c + 1 + i * 48) h2 ∧ Np.Ks m ∧ m.length ≤ i ∧ ∀ t ∈ m, t.2.length = n ∧ (∀ k ∈ t.2, k ≤ high) ∧ Np.Bt 134 t.1) ?_ ?_ ?_
  · exact ⟨h1, [], none, none, rfl, by simpa using H1, List.nodup_nil, by simp, fun t ht => by cases ht⟩
  · rintro i d ρ hd ⟨h2, m, x, y, rfl, H2, km, lm, am⟩
    have hi : i < 41 := by
      have := (List.getElem?_eq_some_iff.1 hd).1
      simp at this
      omega
    refine ⟨_, rfl, ?_⟩
    and_intros
    with_reducible refine w_lc ?_
    and_intros
    refine ⟨by rw [List.length_map, List.length_range]; show _ < 2 ^ 24; omega, fun j ρ acc => ∃ (h3 : D) (e : List Nat), ρ = [some h3, some (.int n), some (.int most), some (.int high), some (dD m), some d, y, none] ∧ HOk (c + 1 + i * 48 + j) h3 ∧ acc = (Np.zI e).map D.int ∧ e.length = j ∧ ∀ k ∈ e, k ≤ high, ?_, ?_, ?_⟩
    · exact ⟨h2, [], rfl, by simpa using H2, rfl, rfl, fun k hk => by cases hk⟩
    · rintro j d' ρ acc hd' ⟨h3, e, rfl, H3, rfl, le, ae⟩
      have hj : j < n := by
        have := (List.getElem?_eq_some_iff.1 hd').1
        simpa using this
      refine ⟨by rw [List.length_map, Np.zI_len, le]; exact Nat.le_refl _, _, rfl, ?_⟩
      and_intros
      refine u_draw H3 (by omega) (by omega) (by omega) ?_
      intro u h4 u0 u1 H4
      and_intros
      refine ⟨h4, e ++ [u.toNat], rfl, H4, ?_, by simp [le], fun k hk => ?_⟩
      · unfold Np.zI
        rw [List.map_append, List.map_append, show u = ((u.toNat : Nat) : Int) by omega]
        rfl
      · rcases List.mem_append.1 hk with hk | hk
        · exact ae k hk
        · rw [List.mem_singleton.1 hk]; omega
    · rintro ρ2 acc ⟨h3, e, rfl, H3, rfl, le, ae⟩
      have le : e.length = n := by simpa using le
      and_intros
      rw [List.length_map, List.length_range] at H3
      refine u_number H3 (by omega) ?_
      intro z h4 bz H4
      and_intros
      refine Np.x_gDM (m := m) (e := e) rfl ?_
      and_intros
      refine ⟨⟨rfl, rfl⟩, by omega, ?_⟩
      and_intros
      refine ⟨h4, Np.put m e z, some d, some (eD e), rfl, H4.mono (by omega), Np.put_Ks km, Nat.le_trans (Np.put_len m e z) (by omega), fun t ht => ?_⟩
      rcases Np.put_mem2 ht with rfl | ht
      · exact ⟨le, ae, bz⟩
      · exact am t ht
  · rintro ρ ⟨h2, m, x, y, e, H2, km, lm, am⟩
    have lm : m.length ≤ r.toNat := by simpa using lm
    have H2 : HOk (c + 1 + r.toNat * 48) h2 := by simpa using H2
    with_reducible subst e
    with_reducible refine q_nx ?_
    and_intros
    refine f_eq (tidy_ok km (by omega)) ?_
    and_intros
    refine ⟨Np.tidy m, h2, rfl, rfl, ⟨Np.tidy_good km fun t ht => (am t ht).1, Nat.le_trans (Np.tidy_len km) (by omega), fun t ht => (am t (Np.tidy_mem km ht)).2.1, fun t ht => (am t (Np.tidy_mem km ht)).2.2⟩, H2.mono (by omega)⟩
end Wk05
set_option maxHeartbeats 4000000
namespace Wk05
open PySem L2 Ip
local macro_rules | `(tactic| and_intros) => `(tactic| repeat (first | (with_reducible first | refine w_c ?_ | refine w_nil ?_ | refine w_nx ?_ | refine w_yes ?_ | refine w_pair ?_ | refine w_pairO ?_ | refine w_pairR ?_ | refine w_m2 ?_ | refine w_un ?_ | refine w_cons ?_ | refine w_own ?_ | refine w_io ?_ | refine w_arg ?_ | refine w_argI ?_ | refine w_seqI ?_ | refine w_tup ?_ | refine w_lst ?_ | refine w_and ?_ | refine w_or ?_ | refine w_notV ?_ | refine w_ite ?_ | refine w_test ?_ | refine w_not ?_ | refine w_tand ?_ | refine w_tor ?_ | refine w_chain ?_ | refine w_call0 ?_ | refine w_call1 ?_ | refine w_lstM ?_ | refine w_strM ?_ | refine w_slice ?_ | refine w_oN ?_ | refine w_oS ?_ | refine w_seq ?_ | refine w_if ?_ | refine w_ret ?_ | refine w_drop ?_ | refine w_set ?_ | refine w_setO ?_ | refine w_asg ?_ | refine w_gIx ?_ | refine w_for ?_ | refine w_fn ?_ | refine w_cutL ?_ | refine w_enumS ?_ | refine w_fld1 ?_ | refine w_fldS ?_ | refine w_make ?_ | refine w_meth ?_ | refine w_raise ?_ | refine w_try ?_ | refine w_tryC ?_ | refine w_joinRev ?_ | refine w_while ?_ | refine t_nx ?_ | refine t_ct ?_ | refine t_bk ?_ | refine t_rt ?_ | refine q_nx ?_ | refine q_rt ?_ | refine q_bk ?_ | refine q_ct ?_ | refine e_rt ?_ | refine e_nx ?_ | refine i_t ?_ | refine i_f ?_ | refine i_nt ?_ | refine i_nf ?_ | refine o_add ?_ | refine o_sub ?_ | refine o_lt ?_ | refine o_le ?_ | refine o_gt ?_ | refine o_ge ?_ | refine o_int ?_ | refine o_abs ?_ | refine o_lenL ?_ | refine o_lenT ?_ | refine o_inS ?_ | refine o_notInS ?_ | refine o_listL ?_ | refine o_listT ?_ | refine o_tupL ?_ | refine o_tupT ?_ | refine o_eqI ?_ | refine o_neI ?_ | refine o_isN ?_ | refine o_notN ?_ | refine o_rev ?_ | refine o_max ?_ | refine o_min ?_ | refine o_lenCh ?_ | refine o_notInCh ?_ | refine o_listCh ?_ | refine o_inI ?_ | refine x_bl ?_ | refine x_int ?_ | refine x_str ?_ | refine x_sqL ?_ | refine x_sqT ?_ | refine x_sqS ?_ | refine x_isL ?_ | refine x_out ?_ | refine x_some ?_ | refine x_objL ?_ | refine x_objI ?_ | refine x_objD ?_ | refine x_cls ?_ | refine fl_nx ?_ | refine fl_ct ?_ | refine w_zip ?_ | refine w_zipT ?_ | refine w_sliceL ?_ | refine w_raise1 ?_ | refine w_tryF ?_ | refine o_and ?_ | refine o_shr ?_ | refine o_negI ?_ | refine o_listDT ?_ | refine Np.o_sumE ?_ | refine Np.o_lenE ?_ | refine Np.x_sqP ?_ | refine Np.x_sqE ?_ | refine Np.o_ix0 ?_ | refine Np.o_ix1 ?_ | refine Np.o_ixKy ?_ | refine Np.o_ltKy ?_ | refine Np.o_sortM ?_ | refine ⟨_, _, rfl, ?_⟩ | refine x_r1 (by with_unfolding_all omega) ?_ | refine x_r2 (by with_unfolding_all omega) ?_ | refine w_var (by with_unfolding_all exact rfl) ?_ | refine x_env (by with_unfolding_all exact rfl) ?_ | refine x_lst (by with_unfolding_all exact rfl) ?_ | refine x_slot (by with_unfolding_all exact of_decide_eq_true rfl) ?_ | refine x_nm (by with_unfolding_all exact of_decide_eq_true rfl) ?_ | refine o_ixL (by with_unfolding_all exact rfl) ?_ | refine o_ixT (by with_unfolding_all exact rfl) ?_ | refine o_isiB (b := true) (by with_unfolding_all exact rfl) ?_ | refine o_isiB (b := false) (by with_unfolding_all exact rfl) ?_ | refine o_lenS' (by first | with_unfolding_all omega | assumption) ?_ | refine x_tp (by with_unfolding_all exact rfl) ?_ | refine x_fld (by with_unfolding_all exact rfl) (by with_unfolding_all exact rfl) ?_ | refine x_meth (by with_unfolding_all exact rfl) ⟨(by with_unfolding_all exact rfl), (by with_unfolding_all exact rfl)⟩ ?_ | refine o_pow (by with_unfolding_all decide) ?_ | refine o_mulR (by with_unfolding_all decide) ?_ | refine o_mulL (by with_unfolding_all decide) ?_ | refine o_mulL (by with_unfolding_all omega) ?_ | refine o_mod (by first | assumption | with_unfolding_all decide) ?_ | refine o_div (by first | assumption | with_unfolding_all decide) (by first | assumption | with_unfolding_all decide) ?_)))
open Np (eD tD pD kyD dD)
theorem is_integer_int {n : Int} : wf (F_is_integer [.int n]) fun d outs => d = .bl true ∧ outs = [] := by
  unfold F_is_integer
  with_reducible refine w_fn ?_
  unfold m_is_integer
  and_intros
  exact ⟨rfl, rfl⟩
theorem is_integer_bl {b : Bool} : wf (F_is_integer [.bl b]) fun d outs => d = .bl false ∧ outs = [] := by
  unfold F_is_integer
  with_reducible refine w_fn ?_
  unfold m_is_integer
  and_intros
  exact ⟨rfl, rfl⟩
theorem is_integer_non : wf (F_is_integer [.non]) fun d outs => d = .bl false ∧ outs = [] := by
  unfold F_is_integer
  with_reducible refine w_fn ?_
  unfold m_is_integer
  and_intros
  exact ⟨rfl, rfl⟩
theorem is_integer_str {s : Str} : wf (F_is_integer [.str s]) fun d outs => d = .bl false ∧ outs = [] := by
  unfold F_is_integer
  with_reducible refine w_fn ?_
  unfold m_is_integer
  and_intros
  exact ⟨rfl, rfl⟩
theorem degree_key_ok (e : List Nat) : wf (F_degree_key [eD e]) fun d outs => d = kyD e ∧ outs = [] := by
  unfold F_degree_key
  with_reducible refine w_fn ?_
  unfold m_degree_key
  and_intros
  exact ⟨rfl, rfl⟩
theorem degree_key_run (e : List Nat) : ∃ o, F_degree_key [eD e] = .ok (kyD e) o := by
  obtain ⟨d, o, h, rfl, _⟩ := wf_of (degree_key_ok e)
  exact ⟨o, h⟩
theorem term_size_ok {t : Np.Tm} {n : Nat} (h0 : t.1 ≠ 0) (hl : t.2.length = n) (h1 : 1 ≤ n) (h2 : n ≤ 40) : wf (F_term_size [tD t]) fun d outs => d = .int n ∧ outs = [] := by
  unfold F_term_size
  with_reducible refine w_fn ?_
  unfold m_term_size
  and_intros
  refine Np.o_lenT2 ?_
  and_intros
  rw [decide_eq_true (show (2 : Int) = 2 from rfl)]
  and_intros
  refine f_eq is_integer_int ?_
  and_intros
  rw [decide_eq_false h0]
  and_intros
  refine x_leI ?_
  rw [decide_eq_true (by omega)]
  and_intros
  rw [decide_eq_true (by omega)]
  and_intros
  refine w_all (fun x => [some (tD t), some (.int t.1), some (eD t.2), x]) none rfl ?_ ?_
  · intro d x hd
    obtain ⟨z, hz, rfl⟩ := List.mem_map.1 hd
    obtain ⟨k, hk, rfl⟩ := List.mem_map.1 hz
    refine ⟨_, rfl, ?_⟩
    and_intros
    refine f_eq is_integer_int ?_
    and_intros
    rw [decide_eq_false (by omega)]
    and_intros
    exact ⟨_, rfl⟩
  · intro x
    and_intros
    refine ⟨?_, rfl⟩
    rw [hl]
def prv (p : List Np.Tm) : Nat → D
  | 0 => .non
  | i + 1 => match p[i]? with
    | some t => kyD t.2
    | none => .non
theorem prv_s {p : List Np.Tm} {i : Nat} {t : Np.Tm} (h : p[i]? = some t) : prv p (i + 1) = kyD t.2 := by
  show (match p[i]? with | some t => kyD t.2 | none => .non) = _
  rw [h]
theorem poly_size_ok {p : List Np.Tm} {n : Nat} (hp : Np.Good n p) (h1 : 1 ≤ n) (h2 : n ≤ 40) : wf (F_poly_size [pD p]) fun d outs => d = .int (if p = [] then (0 : Nat) else n : Nat) ∧ outs = [] := by
  unfold F_poly_size
  with_reducible refine w_fn ?_
  unfold m_poly_size
  and_intros
  refine w_run (fun i ρ => ∃ x y z, ρ = [some (pD p), some (.int (if i = 0 then (0 : Nat) else n : Nat)), some (prv p i), x, y, z]) ⟨none, none, none, rfl⟩ ?_ ?_
  · rintro i d ρ hd ⟨x, y, z, rfl⟩
    obtain ⟨t, ht, rfl⟩ := map_at hd
    have htm := List.mem_of_getElem? ht
    refine ⟨_, rfl, ?_⟩
    and_intros
    refine f_eq (term_size_ok (hp.nz t htm) (hp.len t htm) h1 h2) ?_
    and_intros
    rw [decide_eq_false (by omega)]
    and_intros
    refine o_notIn2 (k := false) ?_ ?_
    · by_cases q : i = 0
      · rw [if_pos q]; rfl
      · rw [if_neg q]; simp
    and_intros
    refine f_eq (degree_key_ok t.2) ?_
    and_intros
    have fin : ∀ x y z, ∃ x' y' z', ([some (pD p), some (D.int (n : Nat)), some (kyD t.2), x, y, z] : Ip.Env) = [some (pD p), some (.int (if i + 1 = 0 then (0 : Nat) else n : Nat)), some (prv p (i + 1)), x', y', z'] := fun x y z => ⟨x, y, z, by rw [prv_s ht]; rfl⟩
    cases i with
    | zero =>
      and_intros
      exact .inl ⟨.inl rfl, fin _ _ _⟩
    | succ j =>
      have hj : j < p.length := by have := (List.getElem?_eq_some_iff.1 ht).1; omega
      have ej : prv p (j + 1) = kyD (p[j]).2 := prv_s (List.getElem?_eq_getElem hj)
      rw [ej]
      and_intros
      refine i_T rfl ?_
      and_intros
      have lt : Np.klt t.2 (p[j]).2 = true := by
        have := List.pairwise_iff_getElem.1 hp.srt j (j + 1) hj (List.getElem?_eq_some_iff.1 ht).1 (by omega)
        rwa [(List.getElem?_eq_some_iff.1 ht).2] at this
      rw [lt]
      and_intros
      exact .inl ⟨.inl rfl, fin _ _ _⟩
  · rintro ρ ⟨x, y, z, e⟩
    with_reducible subst e
    with_reducible refine q_nx ?_
    and_intros
    refine ⟨?_, rfl⟩
    rw [List.length_map]
    cases p with
    | nil => rfl
    | cons t p => rfl
theorem poly_size_lst {ds : List D} : wf (F_poly_size [.lst ds]) fun d outs => d = .int (-1) ∧ outs = [] := by
  unfold F_poly_size
  with_reducible refine w_fn ?_
  unfold m_poly_size
  and_intros
  exact ⟨rfl, rfl⟩
def szD (n : Nat) (p : List Np.Tm) : Int := if p = [] then (0 : Nat) else (n : Nat)
theorem check_poly_ok {p : List Np.Tm} {n : Nat} {k : Int} (hp : Np.Good n p) (h1 : 1 ≤ n) (h2 : n ≤ 40) : wf (F_check_poly [pD p, .int k]) fun d outs => d = .int (szD n p) ∧ outs = [] := by
  unfold F_check_poly
  with_reducible refine w_fn ?_
  unfold m_check_poly
  and_intros
  refine f_eq (poly_size_ok hp h1 h2) ?_
  and_intros
  rw [decide_eq_false (by omega)]
  and_intros
  refine ⟨?_, rfl⟩
  unfold szD
  split <;> rfl
theorem check_poly_lst {ds : List D} {k : Int} : wfx (fun e outs => e = ⟨"NoPolynomial", some ("index", .int k)⟩ ∧ outs = []) (F_check_poly [.lst ds, .int k]) fun _ _ => False := by
  unfold F_check_poly
  with_reducible refine w_fn ?_
  unfold m_check_poly
  and_intros
  refine f_eq poly_size_lst ?_
  and_intros
  rw [decide_eq_true (by decide)]
  and_intros
  exact ⟨rfl, rfl⟩
theorem check_two_ok {p q : List Np.Tm} {n : Nat} (hp : Np.Good n p) (hq : Np.Good n q) (h1 : 1 ≤ n) (h2 : n ≤ 40) : wf (F_check_two [pD p, pD q]) fun d outs => d = .non ∧ outs = [] := by
  unfold F_check_two
  with_reducible refine w_fn ?_
  unfold m_check_two
  and_intros
  refine f_eq (check_poly_ok hp h1 h2) ?_
  and_intros
  refine f_eq (check_poly_ok hq h1 h2) ?_
  and_intros
  by_cases a : szD n p = 0
  · rw [decide_eq_true a]
    and_intros
    exact ⟨rfl, rfl⟩
  · rw [decide_eq_false a]
    and_intros
    by_cases b : szD n q = 0
    · rw [decide_eq_true b]
      and_intros
      exact ⟨rfl, rfl⟩
    · rw [decide_eq_false b]
      and_intros
      have e : szD n p = szD n q := by
        unfold szD at *
        split at a
        · exact absurd rfl a
        · split at b
          · exact absurd rfl b
          · rename_i x y; rw [if_neg x, if_neg y]
      rw [decide_eq_true e]
      and_intros
      exact ⟨rfl, rfl⟩
end Wk05
set_option maxHeartbeats 2000000
namespace Np
open PySem L2 Ip
/-! ### what is known of a dict of terms, of a polynomial -/
structure DM (n : Nat) (P : List Nat → Prop) (L : (List Nat → Int) → Int) (N l : Nat) (m : List Tm) : Prop where
  ks : Ks m
  ln : ∀ t ∈ m, t.2.length = n
  pk : ∀ t ∈ m, P t.2
  li : ∀ φ, lin φ m = L φ
  nr : nrm m ≤ N
  le : m.length ≤ l
structure PR (n : Nat) (P : List Nat → Prop) (L : (List Nat → Int) → Int) (N l : Nat) (r : List Tm) : Prop where
  good : Good n r
  pk : ∀ t ∈ r, P t.2
  li : ∀ φ, lin φ r = L φ
  nr : nrm r ≤ N
  le : r.length ≤ l
variable {n : Nat} {P Q : List Nat → Prop} {L M : (List Nat → Int) → Int} {N N' l l' : Nat} {m r : List Tm}
theorem DM.nil : DM n P (fun _ => 0) 0 0 [] := ⟨List.nodup_nil, (fun _ h => nomatch h), (fun _ h => nomatch h), fun _ => rfl, Nat.le_refl _, Nat.le_refl _⟩
theorem DM.put (h : DM n P L N l m) {e : List Nat} {c : Int} (hl : e.length = n) (hp : P e) : DM n P (fun φ => L φ + c * φ e) (N + c.natAbs) (l + 1) (put m e (get m e + c)) := by
  refine ⟨put_Ks h.ks, fun t ht => ?_, fun t ht => ?_, fun φ => by rw [lin_put φ h.ks, h.li], Nat.le_trans (nrm_put h.ks) (Nat.add_le_add_right h.nr _), Nat.le_trans (put_len _ _ _) (Nat.add_le_add_right h.le _)⟩
  · rcases put_mem2 ht with rfl | ht
    · exact hl
    · exact h.ln t ht
  · rcases put_mem2 ht with rfl | ht
    · exact hp
    · exact h.pk t ht
theorem DM.to (h : DM n P L N l m) (hL : ∀ φ, L φ = M φ) (hN : N ≤ N') (hl : l ≤ l') (hP : ∀ e, P e → Q e) : DM n Q M N' l' m :=
  ⟨h.ks, h.ln, fun t ht => hP _ (h.pk t ht), fun φ => (h.li φ).trans (hL φ), Nat.le_trans h.nr hN, Nat.le_trans h.le hl⟩
theorem PR.to (h : PR n P L N l r) (hL : ∀ φ, L φ = M φ) (hN : N ≤ N') (hl : l ≤ l') (hP : ∀ e, P e → Q e) : PR n Q M N' l' r :=
  ⟨h.good, fun t ht => hP _ (h.pk t ht), fun φ => (h.li φ).trans (hL φ), Nat.le_trans h.nr hN, Nat.le_trans h.le hl⟩
theorem DM.norm (h : DM n P L N l m) : PR n P L N l (norm m) :=
  ⟨norm_good h.ks h.ln, fun t ht => h.pk t (norm_mem h.ks ht), fun φ => (norm_lin φ h.ks).trans (h.li φ), by rw [norm_nrm h.ks]; exact h.nr, Nat.le_trans (norm_len h.ks) h.le⟩
theorem DM.tidy (h : DM n P L N l m) : PR n P L N l (tidy m) :=
  ⟨tidy_good h.ks h.ln, fun t ht => h.pk t (tidy_mem h.ks ht), fun φ => (tidy_lin φ h.ks).trans (h.li φ), by rw [tidy_nrm h.ks]; exact h.nr, Nat.le_trans (tidy_len h.ks) h.le⟩
theorem DM.filter (h : DM n P L N l m) : DM n P L N l (m.filter nz) :=
  ⟨filter_Ks h.ks, fun t ht => h.ln t (List.mem_filter.1 ht).1, fun t ht => h.pk t (List.mem_filter.1 ht).1, fun φ => (lin_nz φ m).trans (h.li φ), by rw [nrm_nz]; exact h.nr, Nat.le_trans (List.length_filter_le _ _) h.le⟩
theorem DM.of (h : PR n P L N l r) : DM n P L N l r := ⟨h.good.Ks, h.good.len, h.pk, h.li, h.nr, h.le⟩
theorem PR.of (h : Good n r) : PR n (fun e => e ∈ r.map (·.2)) (fun φ => lin φ r) (nrm r) r.length r := ⟨h, fun t ht => List.mem_map_of_mem ht, fun _ => rfl, Nat.le_refl _, Nat.le_refl _⟩
theorem lin_take (φ : List Nat → Int) {p : List Tm} {i : Nat} {t : Tm} (h : p[i]? = some t) : lin φ (p.take (i + 1)) = lin φ (p.take i) + t.1 * φ t.2 := by
  rw [take_at h, lin_app, lin, lin, Int.add_zero]
theorem nrm_take {p : List Tm} {i : Nat} {t : Tm} (h : p[i]? = some t) : nrm (p.take (i + 1)) = nrm (p.take i) + t.1.natAbs := by
  rw [take_at h, nrm_app, nrm, nrm, Nat.add_zero]
theorem put_new {m : List Tm} {e : List Nat} {c : Int} (h : e ∉ m.map (·.2)) : put m e c = m ++ [(c, e)] := by
  unfold Np.put
  rw [if_neg fun z => h (has_mem.1 z)]
theorem take_new {p : List Tm} (h : Ks p) {i : Nat} {t : Tm} (ht : p[i]? = some t) : t.2 ∉ (p.take i).map (·.2) := by
  have hn : (p.map (·.2))[i]? = some t.2 := by rw [List.getElem?_map, ht]; rfl
  have := nodup_take h hn
  rwa [← List.map_take] at this
theorem put_take {p : List Tm} (h : Ks p) {i : Nat} {t : Tm} (ht : p[i]? = some t) : put (p.take i) t.2 t.1 = p.take (i + 1) := by
  rw [put_new (take_new h ht), take_at ht]
theorem take_at' {α : Type} {l : List α} {i : Nat} {c : α} (h : l[i]? = some c) : l.take (i + 1) = l.take i ++ [c] := take_at h
theorem bit_one (n : Nat) : Builtin.bitAnd (n : Int) 1 = ((n % 2 : Nat) : Int) := by
  rw [PyProof.Rows.bitAnd_m1]
  omega
end Np
set_option maxHeartbeats 4000000
namespace Wk05
open PySem L2 Ip
local macro_rules | `(tactic| and_intros) => `(tactic| repeat (first | (with_reducible first | refine w_c ?_ | refine w_nil ?_ | refine w_nx ?_ | refine w_yes ?_ | refine w_pair ?_ | refine w_pairO ?_ | refine w_pairR ?_ | refine w_m2 ?_ | refine w_un ?_ | refine w_cons ?_ | refine w_own ?_ | refine w_io ?_ | refine w_arg ?_ | refine w_argI ?_ | refine w_seqI ?_ | refine w_tup ?_ | refine w_lst ?_ | refine w_and ?_ | refine w_or ?_ | refine w_notV ?_ | refine w_ite ?_ | refine w_test ?_ | refine w_not ?_ | refine w_tand ?_ | refine w_tor ?_ | refine w_chain ?_ | refine w_call0 ?_ | refine w_call1 ?_ | refine w_lstM ?_ | refine w_strM ?_ | refine w_slice ?_ | refine w_oN ?_ | refine w_oS ?_ | refine w_seq ?_ | refine w_if ?_ | refine w_ret ?_ | refine w_drop ?_ | refine w_set ?_ | refine w_setO ?_ | refine w_asg ?_ | refine w_gIx ?_ | refine w_for ?_ | refine w_fn ?_ | refine w_cutL ?_ | refine w_enumS ?_ | refine w_fld1 ?_ | refine w_fldS ?_ | refine w_make ?_ | refine w_meth ?_ | refine w_raise ?_ | refine w_try ?_ | refine w_tryC ?_ | refine w_joinRev ?_ | refine w_while ?_ | refine t_nx ?_ | refine t_ct ?_ | refine t_bk ?_ | refine t_rt ?_ | refine q_nx ?_ | refine q_rt ?_ | refine q_bk ?_ | refine q_ct ?_ | refine e_rt ?_ | refine e_nx ?_ | refine i_t ?_ | refine i_f ?_ | refine i_nt ?_ | refine i_nf ?_ | refine o_add ?_ | refine o_sub ?_ | refine o_lt ?_ | refine o_le ?_ | refine o_gt ?_ | refine o_ge ?_ | refine o_int ?_ | refine o_abs ?_ | refine o_lenL ?_ | refine o_lenT ?_ | refine o_inS ?_ | refine o_notInS ?_ | refine o_listL ?_ | refine o_listT ?_ | refine o_tupL ?_ | refine o_tupT ?_ | refine o_eqI ?_ | refine o_neI ?_ | refine o_isN ?_ | refine o_notN ?_ | refine o_rev ?_ | refine o_max ?_ | refine o_min ?_ | refine o_lenCh ?_ | refine o_notInCh ?_ | refine o_listCh ?_ | refine o_inI ?_ | refine x_bl ?_ | refine x_int ?_ | refine x_str ?_ | refine x_sqL ?_ | refine x_sqT ?_ | refine x_sqS ?_ | refine x_isL ?_ | refine x_out ?_ | refine x_some ?_ | refine x_objL ?_ | refine x_objI ?_ | refine x_objD ?_ | refine x_cls ?_ | refine fl_nx ?_ | refine fl_ct ?_ | refine w_zip ?_ | refine w_zipT ?_ | refine w_sliceL ?_ | refine w_raise1 ?_ | refine w_tryF ?_ | refine o_and ?_ | refine o_shr ?_ | refine o_negI ?_ | refine o_listDT ?_ | refine Np.o_sumE ?_ | refine Np.o_lenE ?_ | refine Np.x_sqP ?_ | refine Np.x_sqE ?_ | refine Np.o_ix0 ?_ | refine Np.o_ix1 ?_ | refine Np.o_ixKy ?_ | refine Np.o_ltKy ?_ | refine Np.o_sortM ?_ | refine ⟨_, _, rfl, ?_⟩ | refine x_r1 (by with_unfolding_all omega) ?_ | refine x_r2 (by with_unfolding_all omega) ?_ | refine w_var (by with_unfolding_all exact rfl) ?_ | refine x_env (by with_unfolding_all exact rfl) ?_ | refine x_lst (by with_unfolding_all exact rfl) ?_ | refine x_slot (by with_unfolding_all exact of_decide_eq_true rfl) ?_ | refine x_nm (by with_unfolding_all exact of_decide_eq_true rfl) ?_ | refine o_ixL (by with_unfolding_all exact rfl) ?_ | refine o_ixT (by with_unfolding_all exact rfl) ?_ | refine o_isiB (b := true) (by with_unfolding_all exact rfl) ?_ | refine o_isiB (b := false) (by with_unfolding_all exact rfl) ?_ | refine o_lenS' (by first | with_unfolding_all omega | assumption) ?_ | refine x_tp (by with_unfolding_all exact rfl) ?_ | refine x_fld (by with_unfolding_all exact rfl) (by with_unfolding_all exact rfl) ?_ | refine x_meth (by with_unfolding_all exact rfl) ⟨(by with_unfolding_all exact rfl), (by with_unfolding_all exact rfl)⟩ ?_ | refine o_pow (by with_unfolding_all decide) ?_ | refine o_mulR (by with_unfolding_all decide) ?_ | refine o_mulL (by with_unfolding_all decide) ?_ | refine o_mulL (by with_unfolding_all omega) ?_ | refine o_mod (by first | assumption | with_unfolding_all decide) ?_ | refine o_div (by first | assumption | with_unfolding_all decide) (by first | assumption | with_unfolding_all decide) ?_)))
open Np (eD tD pD kyD dD)
theorem as_dict_ok {p : List Np.Tm} (hk : Np.Ks p) (hl : p.length < 2 ^ 20) : wf (F_as_dict [pD p]) fun d outs => d = dD p ∧ outs = [] := by
  unfold F_as_dict
  with_reducible refine w_fn ?_
  unfold m_as_dict
  and_intros
  with_reducible refine w_dcT ?_
  and_intros
  refine ⟨fun i ρ ks acc => ρ = [some (pD p), none, none] ∧ ks = (p.take i).map (fun t => Np.kE t.2) ∧ acc = (p.take i).map (fun t => .int t.1), ⟨rfl, by rw [List.take_zero]; rfl, by rw [List.take_zero]; rfl⟩, ?_, ?_⟩
  · rintro i d ρ ks acc hd ⟨rfl, rfl, rfl⟩
    obtain ⟨t, ht, rfl⟩ := map_at hd
    refine ⟨by rw [List.length_map, List.length_take]; show _ < 2 ^ 24; omega, _, rfl, ?_⟩
    and_intros
    refine ⟨Np.kE t.2, Np.toKT_eD t.2, rfl, ?_, ?_⟩
    · rw [Np.tPut_put, Np.put_take hk ht]
    · rw [Np.tPut_put, Np.put_take hk ht]
  · rintro ρ2 ks acc ⟨rfl, rfl, rfl⟩
    and_intros
    rw [List.length_map, List.take_length]
    exact ⟨rfl, rfl⟩
theorem as_poly_ok {m : List Np.Tm} (hk : Np.Ks m) (hl : m.length < 2 ^ 20) : wf (F_as_poly [dD m]) fun d outs => d = pD (Np.norm m) ∧ outs = [] := by
  unfold F_as_poly
  with_reducible refine w_fn ?_
  unfold m_as_poly
  and_intros
  refine o_listDT (ks := m.map fun t => Np.kE t.2) (ds := m.map fun t => .int t.1) ?_
  rw [Np.keys_map, show m.map (fun t => eD t.2) = (m.map (·.2)).map eD from by rw [List.map_map]; rfl]
  and_intros
  refine Np.o_sortKM (fun e _ => degree_key_run e) ?_
  and_intros
  refine w_filT (l := Np.srt (m.map (·.2))) eD (fun e => tD (Np.get m e, e)) (fun e => Np.nz (Np.get m e, e)) ?_
  and_intros
  have hsl : (Np.srt (m.map (·.2))).length = m.length := by rw [(Np.srt_perm _).length_eq, List.length_map]
  refine ⟨rfl, by show _ < 2 ^ 24; omega, ?_, ?_⟩
  · intro e he
    have he := (Np.srt_perm _).mem_iff.1 he
    obtain ⟨t, ht, rfl⟩ := List.mem_map.1 he
    have eg : Np.get m t.2 = t.1 := by unfold Np.get; rw [Np.get_mem hk ht]; rfl
    refine ⟨_, rfl, ?_⟩
    and_intros
    refine Np.o_getM (Np.get_mem hk ht) ?_
    and_intros
    rw [eg]
    refine ⟨rfl, ?_⟩
    by_cases z : t.1 = 0
    · rw [if_neg (by simp [Np.nz, z])]; rfl
    · rw [if_pos (by simp [Np.nz, z])]
      and_intros
      refine Np.o_getM (Np.get_mem hk ht) ?_
      and_intros
      exact ⟨rfl, rfl⟩
  and_intros
  refine ⟨?_, rfl⟩
  unfold Np.norm Np.ordM pD
  rw [List.filter_map, List.map_map]
  rfl
theorem added_ok {p q : List Np.Tm} {n : Nat} (hp : Np.Good n p) (hq : Np.Good n q) (lp : p.length ≤ 2 ^ 12) (lq : q.length ≤ 2 ^ 12) :
    wf (F_added_polys [pD p, pD q]) fun d outs => ∃ r, d = pD r ∧ outs = [] ∧ Np.PR n (fun e => e ∈ p.map (·.2) ∨ e ∈ q.map (·.2)) (fun φ => Np.lin φ p + Np.lin φ q) (Np.nrm p + Np.nrm q) (p.length + q.length) r := by
  unfold F_added_polys
  with_reducible refine w_fn ?_
  unfold m_added_polys
  and_intros
  refine f_eq (as_dict_ok hp.Ks (by omega)) ?_
  and_intros
  refine ⟨rfl, ?_⟩
  and_intros
  refine w_loop (fun i ρ => ∃ m x y, ρ = [some (pD p), some (pD q), some (dD m), x, y] ∧ Np.DM n (fun e => e ∈ p.map (·.2) ∨ e ∈ q.map (·.2)) (fun φ => Np.lin φ p + Np.lin φ (q.take i)) (Np.nrm p + Np.nrm (q.take i)) (p.length + i) m) ?_ ?_ ?_
  · exact ⟨p, none, none, rfl, (Np.DM.of (Np.PR.of hp)).to (fun φ => by simp [Np.lin]) (by omega) (by omega) fun e h => .inl h⟩
  · rintro i d ρ hd ⟨m, x, y, rfl, dm⟩
    obtain ⟨t, ht, rfl⟩ := map_at hd
    have hi := (List.getElem?_eq_some_iff.1 ht).1
    have htm := List.mem_of_getElem? ht
    have hml := dm.le
    refine ⟨_, rfl, ?_⟩
    and_intros
    with_reducible refine Np.w_getM (m := m) (e := t.2) (by with_unfolding_all rfl) ?_
    and_intros
    refine ⟨⟨rfl, rfl, rfl⟩, ?_⟩
    and_intros
    refine Np.x_gDM (m := m) (e := t.2) rfl ?_
    and_intros
    refine ⟨⟨rfl, rfl⟩, by omega, ?_⟩
    and_intros
    refine ⟨_, _, _, rfl, (dm.put (c := t.1) (hq.len t htm) (.inr (List.mem_map_of_mem htm))).to (fun φ => by rw [Np.lin_take φ ht]; omega) (by rw [Np.nrm_take ht]; omega) (by omega) fun e h => h⟩
  · rintro ρ ⟨m, x, y, e, dm⟩
    rw [List.length_map, List.take_length] at dm
    have hml := dm.le
    with_reducible subst e
    with_reducible refine q_nx ?_
    and_intros
    refine f_eq (as_poly_ok dm.ks (by omega)) ?_
    and_intros
    exact ⟨_, rfl, rfl, dm.norm⟩
theorem plus_ok {p q : List Np.Tm} {n : Nat} (hp : Np.Good n p) (hq : Np.Good n q) (h1 : 1 ≤ n) (h2 : n ≤ 40) (lp : p.length ≤ 2 ^ 12) (lq : q.length ≤ 2 ^ 12) :
    wf (F_plus [pD p, pD q]) fun d outs => ∃ r, d = pD r ∧ outs = [] ∧ Np.PR n (fun e => e ∈ p.map (·.2) ∨ e ∈ q.map (·.2)) (fun φ => Np.lin φ p + Np.lin φ q) (Np.nrm p + Np.nrm q) (p.length + q.length) r := by
  unfold F_plus
  with_reducible refine w_fn ?_
  unfold m_plus
  and_intros
  refine f_eq (check_two_ok hp hq h1 h2) ?_
  and_intros
  refine f_use (added_ok hp hq lp lq) ?_
  rintro d outs ⟨r, rfl, rfl, h⟩
  and_intros
  exact ⟨r, rfl, rfl, h⟩
end Wk05
set_option maxHeartbeats 4000000
namespace Wk05
open PySem L2 Ip
local macro_rules | `(tactic| and_intros) => `(tactic| repeat (first | (with_reducible first | refine w_c ?_ | refine w_nil ?_ | refine w_nx ?_ | refine w_yes ?_ | refine w_pair ?_ | refine w_pairO ?_ | refine w_pairR ?_ | refine w_m2 ?_ | refine w_un ?_ | refine w_cons ?_ | refine w_own ?_ | refine w_io ?_ | refine w_arg ?_ | refine w_argI ?_ | refine w_seqI ?_ | refine w_tup ?_ | refine w_lst ?_ | refine w_and ?_ | refine w_or ?_ | refine w_notV ?_ | refine w_ite ?_ | refine w_test ?_ | refine w_not ?_ | refine w_tand ?_ | refine w_tor ?_ | refine w_chain ?_ | refine w_call0 ?_ | refine w_call1 ?_ | refine w_lstM ?_ | refine w_strM ?_ | refine w_slice ?_ | refine w_oN ?_ | refine w_oS ?_ | refine w_seq ?_ | refine w_if ?_ | refine w_ret ?_ | refine w_drop ?_ | refine w_set ?_ | refine w_setO ?_ | refine w_asg ?_ | refine w_gIx ?_ | refine w_for ?_ | refine w_fn ?_ | refine w_cutL ?_ | refine w_enumS ?_ | refine w_fld1 ?_ | refine w_fldS ?_ | refine w_make ?_ | refine w_meth ?_ | refine w_raise ?_ | refine w_try ?_ | refine w_tryC ?_ | refine w_joinRev ?_ | refine w_while ?_ | refine t_nx ?_ | refine t_ct ?_ | refine t_bk ?_ | refine t_rt ?_ | refine q_nx ?_ | refine q_rt ?_ | refine q_bk ?_ | refine q_ct ?_ | refine e_rt ?_ | refine e_nx ?_ | refine i_t ?_ | refine i_f ?_ | refine i_nt ?_ | refine i_nf ?_ | refine o_add ?_ | refine o_sub ?_ | refine o_lt ?_ | refine o_le ?_ | refine o_gt ?_ | refine o_ge ?_ | refine o_int ?_ | refine o_abs ?_ | refine o_lenL ?_ | refine o_lenT ?_ | refine o_inS ?_ | refine o_notInS ?_ | refine o_listL ?_ | refine o_listT ?_ | refine o_tupL ?_ | refine o_tupT ?_ | refine o_eqI ?_ | refine o_neI ?_ | refine o_isN ?_ | refine o_notN ?_ | refine o_rev ?_ | refine o_max ?_ | refine o_min ?_ | refine o_lenCh ?_ | refine o_notInCh ?_ | refine o_listCh ?_ | refine o_inI ?_ | refine x_bl ?_ | refine x_int ?_ | refine x_str ?_ | refine x_sqL ?_ | refine x_sqT ?_ | refine x_sqS ?_ | refine x_isL ?_ | refine x_out ?_ | refine x_some ?_ | refine x_objL ?_ | refine x_objI ?_ | refine x_objD ?_ | refine x_cls ?_ | refine fl_nx ?_ | refine fl_ct ?_ | refine w_zip ?_ | refine w_zipT ?_ | refine w_sliceL ?_ | refine w_raise1 ?_ | refine w_tryF ?_ | refine o_and ?_ | refine o_shr ?_ | refine o_negI ?_ | refine o_listDT ?_ | refine Np.o_sumE ?_ | refine Np.o_lenE ?_ | refine Np.x_sqP ?_ | refine Np.x_sqE ?_ | refine Np.o_ix0 ?_ | refine Np.o_ix1 ?_ | refine Np.o_ixKy ?_ | refine Np.o_ltKy ?_ | refine Np.o_sortM ?_ | refine ⟨_, _, rfl, ?_⟩ | refine x_r1 (by with_unfolding_all omega) ?_ | refine x_r2 (by with_unfolding_all omega) ?_ | refine w_var (by with_unfolding_all exact rfl) ?_ | refine x_env (by with_unfolding_all exact rfl) ?_ | refine x_lst (by with_unfolding_all exact rfl) ?_ | refine x_slot (by with_unfolding_all exact of_decide_eq_true rfl) ?_ | refine x_nm (by with_unfolding_all exact of_decide_eq_true rfl) ?_ | refine o_ixL (by with_unfolding_all exact rfl) ?_ | refine o_ixT (by with_unfolding_all exact rfl) ?_ | refine o_isiB (b := true) (by with_unfolding_all exact rfl) ?_ | refine o_isiB (b := false) (by with_unfolding_all exact rfl) ?_ | refine o_lenS' (by first | with_unfolding_all omega | assumption) ?_ | refine x_tp (by with_unfolding_all exact rfl) ?_ | refine x_fld (by with_unfolding_all exact rfl) (by with_unfolding_all exact rfl) ?_ | refine x_meth (by with_unfolding_all exact rfl) ⟨(by with_unfolding_all exact rfl), (by with_unfolding_all exact rfl)⟩ ?_ | refine o_pow (by with_unfolding_all decide) ?_ | refine o_mulR (by with_unfolding_all decide) ?_ | refine o_mulL (by with_unfolding_all decide) ?_ | refine o_mulL (by with_unfolding_all omega) ?_ | refine o_mod (by first | assumption | with_unfolding_all decide) ?_ | refine o_div (by first | assumption | with_unfolding_all decide) (by first | assumption | with_unfolding_all decide) ?_)))
open Np (eD tD pD kyD dD)
theorem zip_ints : ∀ a b : List Nat, zipD ((Np.zI a).map D.int) ((Np.zI b).map D.int) = (List.zip a b).map fun x => .tup [.int (x.1 : Nat), .int (x.2 : Nat)]
  | [], b => by cases b <;> rfl
  | x :: a, [] => rfl
  | x :: a, y :: b => by
    have := zip_ints a b
    unfold Np.zI at this ⊢
    rw [List.map_cons, List.map_cons, List.map_cons, List.map_cons, zipD, this, List.zip_cons_cons, List.map_cons]
theorem zip_add (a b : List Nat) : (List.zip a b).map (fun x => D.int ((x.1 : Nat) + (x.2 : Nat) : Int)) = (Np.zI (Np.addE a b)).map D.int := by
  unfold Np.zI Np.addE
  rw [List.map_map, List.zip, List.map_zipWith, List.map_zipWith]
  congr 1
theorem dict_product_ok {a b : List Np.Tm} {n B : Nat} (ha : Np.Ks a) (hb : Np.Ks b) (na : ∀ t ∈ a, t.2.length = n) (nb : ∀ t ∈ b, t.2.length = n) (ca : ∀ t ∈ a, Np.Bt B t.1) (cb : ∀ t ∈ b, Np.Bt B t.1) (hB : B ≤ 400000) (la : a.length ≤ 2 ^ 6) (lb : b.length ≤ 2 ^ 6) (hn : n ≤ 40) :
    wf (F_dict_product [dD a, dD b]) fun d outs => ∃ m, d = dD m ∧ outs = [] ∧ Np.DM n (fun e => ∃ t ∈ a, ∃ u ∈ b, e = Np.addE t.2 u.2) (fun φ => Np.lin2 φ a b) (Np.nrm a * Np.nrm b) (a.length * b.length) m := by
  unfold F_dict_product
  with_reducible refine w_fn ?_
  unfold m_dict_product
  and_intros
  refine ⟨rfl, ?_⟩
  and_intros
  refine w_lockS ⟨_, _, rfl⟩ ?_
  and_intros
  refine Np.w_itemsM (m := a) rfl ?_
  refine w_loop (fun i ρ => ∃ m x3 x4 x5 x6 x7, ρ = [some (dD a), some (dD b), some (dD m), x3, x4, x5, x6, x7, none, none] ∧ Np.DM n (fun e => ∃ t ∈ a, ∃ u ∈ b, e = Np.addE t.2 u.2) (fun φ => Np.lin2 φ (a.take i) b) (Np.nrm (a.take i) * Np.nrm b) (i * b.length) m) ?_ ?_ ?_
  · refine ⟨[], none, none, none, none, none, rfl, Np.DM.nil.to (fun φ => by rw [List.take_zero]; rfl) (by omega) (by omega) fun e h => h⟩
  · rintro i d ρ hd ⟨m, x3, x4, x5, x6, x7, rfl, dm⟩
    obtain ⟨t, ht, rfl⟩ := map_at hd
    have hi := (List.getElem?_eq_some_iff.1 ht).1
    have htm := List.mem_of_getElem? ht
    refine ⟨_, rfl, ?_⟩
    and_intros
    refine w_lockS ⟨_, _, rfl⟩ ?_
    and_intros
    refine Np.w_itemsM (m := b) rfl ?_
    refine w_loop (fun j ρ => ∃ m x5 x6 x7, ρ = [some (dD a), some (dD b), some (dD m), some (eD t.2), some (.int t.1), x5, x6, x7, none, none] ∧ Np.DM n (fun e => ∃ t ∈ a, ∃ u ∈ b, e = Np.addE t.2 u.2) (fun φ => Np.lin2 φ (a.take i) b + t.1 * Np.lin (fun f => φ (Np.addE t.2 f)) (b.take j)) (Np.nrm (a.take i) * Np.nrm b + t.1.natAbs * Np.nrm (b.take j)) (i * b.length + j) m) ?_ ?_ ?_
    · exact ⟨m, x5, x6, x7, rfl, dm.to (fun φ => by rw [List.take_zero, Np.lin]; omega) (by omega) (by omega) fun e h => h⟩
    · rintro j d ρ hd ⟨m, x5, x6, x7, rfl, dm⟩
      obtain ⟨u, hu, rfl⟩ := map_at hd
      have hj := (List.getElem?_eq_some_iff.1 hu).1
      have hum := List.mem_of_getElem? hu
      have hml : m.length < 2 ^ 14 := by
        have := dm.le
        have : i * b.length ≤ 2 ^ 6 * 2 ^ 6 := Nat.mul_le_mul (by omega) lb
        omega
      refine ⟨_, rfl, ?_⟩
      and_intros
      refine w_mapT (l := List.zip t.2 u.2) (fun x => D.tup [.int (x.1 : Nat), .int (x.2 : Nat)]) (fun x => D.int ((x.1 : Nat) + (x.2 : Nat) : Int)) ?_
      and_intros
      refine ⟨zip_ints _ _, by rw [List.length_zip, na t htm, nb u hum]; show _ < 2 ^ 24; omega, ?_, ?_⟩
      · intro x hx
        refine ⟨_, rfl, ?_⟩
        and_intros
        exact ⟨rfl, rfl⟩
      rw [zip_add]
      and_intros
      with_reducible refine Np.w_getM (m := m) (e := Np.addE t.2 u.2) (by with_unfolding_all rfl) ?_
      and_intros
      refine ⟨⟨rfl, rfl, rfl⟩, ?_⟩
      and_intros
      refine Np.o_mulD (ca t htm) (cb u hum) (by omega) ?_
      and_intros
      refine Np.x_gDM (m := m) (e := Np.addE t.2 u.2) rfl ?_
      and_intros
      refine ⟨⟨rfl, rfl⟩, by omega, ?_⟩
      and_intros
      refine ⟨_, _, _, _, rfl, (dm.put (c := t.1 * u.1) (Np.addE_len (na t htm) (nb u hum)) ⟨t, htm, u, hum, rfl⟩).to (fun φ => ?_) ?_ (by omega) fun e h => h⟩
      · rw [Np.lin_take _ hu, Int.mul_add, ← Int.mul_assoc]; omega
      · rw [Np.nrm_take hu, Nat.mul_add, Int.natAbs_mul]; omega
    · rintro ρ ⟨m, x5, x6, x7, e, dm⟩
      rw [List.length_map, List.take_length] at dm
      with_reducible subst e
      refine ⟨rfl, .inl rfl, m, _, _, x5, x6, x7, rfl, dm.to (fun φ => ?_) ?_ (by rw [Nat.succ_mul]; omega) fun e h => h⟩
      · unfold Np.lin2
        rw [Np.lin_take _ ht]
      · rw [Np.nrm_take ht, Nat.add_mul]; exact Nat.le_refl _
  · rintro ρ ⟨m, x3, x4, x5, x6, x7, e, dm⟩
    rw [List.length_map, List.take_length] at dm
    have hml : m.length < 2 ^ 14 := by
      have := dm.le
      have : a.length * b.length ≤ 2 ^ 6 * 2 ^ 6 := Nat.mul_le_mul la lb
      omega
    with_reducible subst e
    refine ⟨rfl, ?_⟩
    with_reducible refine q_nx ?_
    and_intros
    refine w_lockE ⟨_, _, rfl⟩ ?_
    with_reducible refine w_dcT ?_
    refine Np.w_keysM (m := m) rfl ?_
    refine ⟨fun i ρ ks acc => ρ = [some (dD a), some (dD b), some (dD m), x3, x4, x5, x6, none, none, none] ∧ ks = ((m.take i).filter Np.nz).map (fun t => Np.kE t.2) ∧ acc = ((m.take i).filter Np.nz).map (fun t => .int t.1), ⟨rfl, by rw [List.take_zero]; rfl, by rw [List.take_zero]; rfl⟩, ?_, ?_⟩
    · rintro i d ρ ks acc hd ⟨rfl, rfl, rfl⟩
      obtain ⟨t, ht, rfl⟩ := map_at hd
      have htm := List.mem_of_getElem? ht
      have hfl : ((m.take i).filter Np.nz).length ≤ m.length := Nat.le_trans (List.length_filter_le _ _) (by rw [List.length_take]; omega)
      refine ⟨by rw [List.length_map]; show _ < 2 ^ 24; omega, _, rfl, ?_⟩
      and_intros
      refine Np.o_getM (Np.get_mem dm.ks htm) ?_
      and_intros
      by_cases z : t.1 = 0
      · rw [decide_eq_true z]
        and_intros
        have e : [t].filter Np.nz = [] := by simp [Np.nz, z]
        show _ = _ ∧ _ = _ ∧ _ = _
        rw [Np.take_at' ht, List.filter_append, e, List.append_nil]
        exact ⟨rfl, rfl, rfl⟩
      · rw [decide_eq_false z]
        and_intros
        refine Np.o_getM (Np.get_mem dm.ks htm) ?_
        and_intros
        have e : [t].filter Np.nz = [t] := by simp [Np.nz, z]
        have en : Np.put ((m.take i).filter Np.nz) t.2 t.1 = (m.take i).filter Np.nz ++ [t] := Np.put_new fun q => Np.take_new dm.ks ht (by
          obtain ⟨u, hu, e⟩ := List.mem_map.1 q
          rw [← e]
          exact List.mem_map_of_mem (List.mem_filter.1 hu).1)
        refine ⟨Np.kE t.2, Np.toKT_eD t.2, rfl, ?_, ?_⟩
        · rw [Np.tPut_put, en, Np.take_at' ht, List.filter_append, e]
        · rw [Np.tPut_put, en, Np.take_at' ht, List.filter_append, e]
    · rintro ρ2 ks acc ⟨rfl, rfl, rfl⟩
      and_intros
      rw [List.length_map, List.take_length]
      exact ⟨m.filter Np.nz, rfl, rfl, dm.filter⟩
theorem times_ok {p q : List Np.Tm} {n B : Nat} (hp : Np.Good n p) (hq : Np.Good n q) (h1 : 1 ≤ n) (h2 : n ≤ 40) (cp : ∀ t ∈ p, Np.Bt B t.1) (cq : ∀ t ∈ q, Np.Bt B t.1) (hB : B ≤ 400000) (lp : p.length ≤ 2 ^ 6) (lq : q.length ≤ 2 ^ 6) :
    wf (F_times [pD p, pD q]) fun d outs => ∃ r, d = pD r ∧ outs = [] ∧ Np.PR n (fun e => ∃ t ∈ p, ∃ u ∈ q, e = Np.addE t.2 u.2) (fun φ => Np.lin2 φ p q) (Np.nrm p * Np.nrm q) (p.length * q.length) r := by
  unfold F_times
  with_reducible refine w_fn ?_
  unfold m_times
  and_intros
  refine f_eq (check_two_ok hp hq h1 h2) ?_
  and_intros
  unfold F_product
  with_reducible refine w_fn ?_
  unfold m_product
  and_intros
  refine f_eq (as_dict_ok hp.Ks (by omega)) ?_
  and_intros
  refine f_eq (as_dict_ok hq.Ks (by omega)) ?_
  and_intros
  refine f_use (dict_product_ok hp.Ks hq.Ks hp.len hq.len cp cq hB lp lq h2) ?_
  rintro d outs ⟨m, rfl, rfl, dm⟩
  have hml : m.length < 2 ^ 20 := by
    have := dm.le
    have : p.length * q.length ≤ 2 ^ 6 * 2 ^ 6 := Nat.mul_le_mul lp lq
    omega
  and_intros
  refine f_eq (as_poly_ok dm.ks hml) ?_
  and_intros
  exact ⟨_, rfl, rfl, dm.norm⟩
end Wk05
set_option maxHeartbeats 4000000
namespace Wk05
open PySem L2 Ip
local macro_rules | `(tactic| and_intros) => `(tactic| repeat (first | (with_reducible first | refine w_c ?_ | refine w_nil ?_ | refine w_nx ?_ | refine w_yes ?_ | refine w_pair ?_ | refine w_pairO ?_ | refine w_pairR ?_ | refine w_m2 ?_ | refine w_un ?_ | refine w_cons ?_ | refine w_own ?_ | refine w_io ?_ | refine w_arg ?_ | refine w_argI ?_ | refine w_seqI ?_ | refine w_tup ?_ | refine w_lst ?_ | refine w_and ?_ | refine w_or ?_ | refine w_notV ?_ | refine w_ite ?_ | refine w_test ?_ | refine w_not ?_ | refine w_tand ?_ | refine w_tor ?_ | refine w_chain ?_ | refine w_call0 ?_ | refine w_call1 ?_ | refine w_lstM ?_ | refine w_strM ?_ | refine w_slice ?_ | refine w_oN ?_ | refine w_oS ?_ | refine w_seq ?_ | refine w_if ?_ | refine w_ret ?_ | refine w_drop ?_ | refine w_set ?_ | refine w_setO ?_ | refine w_asg ?_ | refine w_gIx ?_ | refine w_for ?_ | refine w_fn ?_ | refine w_cutL ?_ | refine w_enumS ?_ | refine w_fld1 ?_ | refine w_fldS ?_ | refine w_make ?_ | refine w_meth ?_ | refine w_raise ?_ | refine w_try ?_ | refine w_tryC ?_ | refine w_joinRev ?_ | refine w_while ?_ | refine t_nx ?_ | refine t_ct ?_ | refine t_bk ?_ | refine t_rt ?_ | refine q_nx ?_ | refine q_rt ?_ | refine q_bk ?_ | refine q_ct ?_ | refine e_rt ?_ | refine e_nx ?_ | refine i_t ?_ | refine i_f ?_ | refine i_nt ?_ | refine i_nf ?_ | refine o_add ?_ | refine o_sub ?_ | refine o_lt ?_ | refine o_le ?_ | refine o_gt ?_ | refine o_ge ?_ | refine o_int ?_ | refine o_abs ?_ | refine o_lenL ?_ | refine o_lenT ?_ | refine o_inS ?_ | refine o_notInS ?_ | refine o_listL ?_ | refine o_listT ?_ | refine o_tupL ?_ | refine o_tupT ?_ | refine o_eqI ?_ | refine o_neI ?_ | refine o_isN ?_ | refine o_notN ?_ | refine o_rev ?_ | refine o_max ?_ | refine o_min ?_ | refine o_lenCh ?_ | refine o_notInCh ?_ | refine o_listCh ?_ | refine o_inI ?_ | refine x_bl ?_ | refine x_int ?_ | refine x_str ?_ | refine x_sqL ?_ | refine x_sqT ?_ | refine x_sqS ?_ | refine x_isL ?_ | refine x_out ?_ | refine x_some ?_ | refine x_objL ?_ | refine x_objI ?_ | refine x_objD ?_ | refine x_cls ?_ | refine fl_nx ?_ | refine fl_ct ?_ | refine w_zip ?_ | refine w_zipT ?_ | refine w_sliceL ?_ | refine w_raise1 ?_ | refine w_tryF ?_ | refine o_and ?_ | refine o_shr ?_ | refine o_negI ?_ | refine o_listDT ?_ | refine Np.o_sumE ?_ | refine Np.o_lenE ?_ | refine Np.x_sqP ?_ | refine Np.x_sqE ?_ | refine Np.o_ix0 ?_ | refine Np.o_ix1 ?_ | refine Np.o_ixKy ?_ | refine Np.o_ltKy ?_ | refine Np.o_sortM ?_ | refine ⟨_, _, rfl, ?_⟩ | refine x_r1 (by with_unfolding_all omega) ?_ | refine x_r2 (by with_unfolding_all omega) ?_ | refine w_var (by with_unfolding_all exact rfl) ?_ | refine x_env (by with_unfolding_all exact rfl) ?_ | refine x_lst (by with_unfolding_all exact rfl) ?_ | refine x_slot (by with_unfolding_all exact of_decide_eq_true rfl) ?_ | refine x_nm (by with_unfolding_all exact of_decide_eq_true rfl) ?_ | refine o_ixL (by with_unfolding_all exact rfl) ?_ | refine o_ixT (by with_unfolding_all exact rfl) ?_ | refine o_isiB (b := true) (by with_unfolding_all exact rfl) ?_ | refine o_isiB (b := false) (by with_unfolding_all exact rfl) ?_ | refine o_lenS' (by first | with_unfolding_all omega | assumption) ?_ | refine x_tp (by with_unfolding_all exact rfl) ?_ | refine x_fld (by with_unfolding_all exact rfl) (by with_unfolding_all exact rfl) ?_ | refine x_meth (by with_unfolding_all exact rfl) ⟨(by with_unfolding_all exact rfl), (by with_unfolding_all exact rfl)⟩ ?_ | refine o_pow (by with_unfolding_all decide) ?_ | refine o_mulR (by with_unfolding_all decide) ?_ | refine o_mulL (by with_unfolding_all decide) ?_ | refine o_mulL (by with_unfolding_all omega) ?_ | refine o_mod (by first | assumption | with_unfolding_all decide) ?_ | refine o_div (by first | assumption | with_unfolding_all decide) (by first | assumption | with_unfolding_all decide) ?_)))
open Np (eD tD pD kyD dD)
theorem pw_log {v : Int} {b e r : Nat} (hv : Np.Bt b v) (h : r ≤ e) : (v ^ r).natAbs.log2 ≤ b * r + 1 := (hv.powB r).log
theorem power_ok {v : Int} {e b : Nat} (hv : Np.Bt b v) (hb : b * e + 10 < 900000) : wf (F_power [.int v, .int e]) fun d outs => d = .int (v ^ e) ∧ outs = [] := by
  unfold F_power
  with_reducible refine w_fn ?_
  unfold m_power
  and_intros
  have key : ∀ (f k r s : Nat) (PS : Fl → Ip.Env → Prop), k ≤ f → r + s * k ≤ e → (0 < k → 1 ≤ s) → (∀ x y, PS .nx [some (.int v), x, some (.int (v ^ (r + s * k))), y]) →
      wpx (fun e ρ => noF e (outsOf [] ρ)) (whileL (mTest (m2 gtD (mPair (mVar 1) (mC (.int 0))))) (mSeq (mIfS (mTest (m2 eqD (mPair (m2 andD (mPair (mVar 1) (mC (.int 1)))) (mC (.int 1))))) (mSet 2 (m2 mulD (mPair (mVar 2) (mVar 3)))) mNx) (mSeq (mSet 1 (m2 shrD (mPair (mVar 1) (mC (.int 1))))) (mIfS (mTest (m2 gtD (mPair (mVar 1) (mC (.int 0))))) (mSet 3 (m2 mulD (mPair (mVar 3) (mVar 3)))) mNx))) (f + 1) [some (.int v), some (.int k), some (.int (v ^ r)), some (.int (v ^ s))]) PS := by
    intro f
    induction f with
    | zero =>
      intro k r s PS hk hr hs hP
      refine w_turn ?_
      and_intros
      rw [decide_eq_false (by omega)]
      and_intros
      have : k = 0 := by omega
      subst this
      exact hP _ _
    | succ f ih =>
      intro k r s PS hk hr hs hP
      refine w_turn ?_
      and_intros
      by_cases k0 : k = 0
      · subst k0
        rw [decide_eq_false (by omega)]
        and_intros
        exact hP _ _
      rw [decide_eq_true (by omega)]
      and_intros
      rw [Np.bit_one]
      have s1 := hs (by omega)
      have hsk : s ≤ s * k := Nat.le_mul_of_pos_right s (by omega)
      have ek : (k : Int) / 2 = ((k / 2 : Nat) : Int) := by omega
      have er : b * r ≤ b * e := Nat.mul_le_mul_left b (by omega)
      have es : b * s ≤ b * e := Nat.mul_le_mul_left b (by omega)
      have ers : b * r + b * s ≤ b * e := by rw [← Nat.mul_add]; exact Nat.mul_le_mul_left b (by omega)
      have lr := (hv.powB r).log
      have ls := (hv.powB s).log
      -- the square, if it is wanted
      have sq : ∀ r' : Nat, (k / 2 = 0 → r' = r + s * k) → (0 < k / 2 → r' + (s + s) * (k / 2) = r + s * k) → if decide ((0 : Int) < ((k / 2 : Nat) : Int)) = true then wpx (fun e ρ => noF e (outsOf [] ρ)) (mSet 3 (m2 mulD (mPair (mVar 3) (mVar 3))) [some (.int v), some (.int (k / 2 : Nat)), some (.int (v ^ r')), some (.int (v ^ s))]) (wtn (fun e ρ => noF e (outsOf [] ρ)) (mTest (m2 gtD (mPair (mVar 1) (mC (.int 0))))) (mSeq (mIfS (mTest (m2 eqD (mPair (m2 andD (mPair (mVar 1) (mC (.int 1)))) (mC (.int 1))))) (mSet 2 (m2 mulD (mPair (mVar 2) (mVar 3)))) mNx) (mSeq (mSet 1 (m2 shrD (mPair (mVar 1) (mC (.int 1))))) (mIfS (mTest (m2 gtD (mPair (mVar 1) (mC (.int 0))))) (mSet 3 (m2 mulD (mPair (mVar 3) (mVar 3)))) mNx))) (f + 1) PS) else wpx (fun e ρ => noF e (outsOf [] ρ)) (mNx [some (.int v), some (.int (k / 2 : Nat)), some (.int (v ^ r')), some (.int (v ^ s))]) (wtn (fun e ρ => noF e (outsOf [] ρ)) (mTest (m2 gtD (mPair (mVar 1) (mC (.int 0))))) (mSeq (mIfS (mTest (m2 eqD (mPair (m2 andD (mPair (mVar 1) (mC (.int 1)))) (mC (.int 1))))) (mSet 2 (m2 mulD (mPair (mVar 2) (mVar 3)))) mNx) (mSeq (mSet 1 (m2 shrD (mPair (mVar 1) (mC (.int 1))))) (mIfS (mTest (m2 gtD (mPair (mVar 1) (mC (.int 0))))) (mSet 3 (m2 mulD (mPair (mVar 3) (mVar 3)))) mNx))) (f + 1) PS) := by
        intro r' h1 h2
        by_cases q : k / 2 = 0
        · rw [decide_eq_false (by omega)]
          and_intros
          refine ih (k / 2) r' s PS (by omega) ?_ (by omega) ?_
          · rw [q, h1 q]; omega
          · intro x y
            rw [q, h1 q]
            exact hP x y
        · rw [decide_eq_true (by omega)]
          have hss : b * s + b * s ≤ b * e := by
            rw [← Nat.mul_add]
            refine Nat.mul_le_mul_left b ?_
            have : (s + s) * 1 ≤ (s + s) * (k / 2) := Nat.mul_le_mul_left _ (by omega)
            have := h2 (by omega)
            omega
          and_intros
          refine o_mulW (by omega) ?_
          rw [← Int.pow_add]
          and_intros
          refine ih (k / 2) r' (s + s) PS (by omega) ?_ (by omega) ?_
          · rw [h2 (by omega)]; exact hr
          · intro x y
            rw [h2 (by omega)]
            exact hP x y
      have k2 : k = 2 * (k / 2) + k % 2 := by omega
      by_cases kb : k % 2 = 1
      · rw [decide_eq_true (by omega)]
        and_intros
        refine o_mulW (by omega) ?_
        rw [← Int.pow_add]
        and_intros
        rw [ek]
        refine sq (r + s) (fun q => ?_) fun q => ?_
        · have : k = 1 := by omega
          rw [this]; omega
        · have e1 : s * k = s * (2 * (k / 2) + k % 2) := by rw [← k2]
          rw [e1, kb, Nat.mul_add, ← Nat.mul_assoc, Nat.add_mul, Nat.mul_comm s 2, Nat.mul_assoc, Nat.mul_one]
          omega
      · rw [decide_eq_false (by omega)]
        and_intros
        rw [ek]
        refine sq r (fun q => by omega) fun q => ?_
        have e1 : s * k = s * (2 * (k / 2) + k % 2) := by rw [← k2]
        rw [e1, show k % 2 = 0 by omega, Nat.add_zero, ← Nat.mul_assoc, Nat.add_mul, Nat.mul_comm s 2, Nat.mul_assoc]
        omega
  have eE : (0 : Nat) + 1 * e = e := by omega
  have e0 : ([some (D.int v), some (D.int (e : Nat)), some (D.int 1), some (D.int v)] : Ip.Env) = [some (.int v), some (.int (e : Nat)), some (.int (v ^ 0)), some (.int (v ^ 1))] := by rw [Int.pow_zero, Int.pow_succ, Int.pow_zero, Int.one_mul]
  show wpx _ (whileL _ _ (e + 1) [some (D.int v), some (D.int (e : Nat)), some (D.int 1), some (D.int v)]) _
  rw [e0]
  refine key e e 0 1 _ (Nat.le_refl _) (by omega) (by omega) ?_
  intro x y
  rw [eE]
  and_intros
  exact ⟨rfl, rfl⟩
end Wk05
set_option maxHeartbeats 2000000
namespace Np
open PySem L2 Ip
theorem drop_at {α : Type} {l : List α} {i : Nat} {c : α} (h : l[i]? = some c) : l.drop i = c :: l.drop (i + 1) := by
  obtain ⟨hi, e⟩ := List.getElem?_eq_some_iff.1 h
  rw [List.drop_eq_getElem_cons hi, e]
theorem sum_take {e : List Nat} {j k : Nat} (h : e[j]? = some k) : (e.take (j + 1)).sum = (e.take j).sum + k := by
  rw [take_at' h, List.sum_append]; simp
theorem sum_take_le (e : List Nat) (j : Nat) : (e.take j).sum ≤ e.sum := by
  have := congrArg List.sum (List.take_append_drop j e)
  rw [List.sum_append] at this
  omega
theorem mono_drop {vs : List Int} {e : List Nat} {j k : Nat} {v : Int} (hv : vs[j]? = some v) (hk : e[j]? = some k) : mono (vs.drop j) (e.drop j) = v ^ k * mono (vs.drop (j + 1)) (e.drop (j + 1)) := by
  rw [drop_at hv, drop_at hk, mono]
theorem mono_end {vs : List Int} {e : List Nat} (h : e.length = vs.length) : mono (vs.drop e.length) (e.drop e.length) = 1 := by
  rw [List.drop_length]
  cases vs.drop e.length <;> rfl
theorem val_take {vs : List Int} {p : List Tm} {i : Nat} {t : Tm} (h : p[i]? = some t) : val vs (p.take (i + 1)) = val vs (p.take i) + t.1 * mono vs t.2 := lin_take _ h
theorem zip_vals (vs : List Int) (e : List Nat) : zipD (vs.map D.int) ((zI e).map D.int) = (List.zip vs e).map fun x => .tup [.int x.1, .int (x.2 : Nat)] := by
  induction vs generalizing e with
  | nil => cases e <;> rfl
  | cons v vs ih =>
    cases e with
    | nil => rfl
    | cons k e =>
      have := ih e
      unfold zI at this ⊢
      rw [List.map_cons, List.map_cons, List.map_cons, zipD, this, List.zip_cons_cons, List.map_cons]
theorem at_E {e : List Nat} {j k : Nat} (h : e[j]? = some k) : atI ((zI e).map D.int) (j : Int) = some (.int (k : Nat)) := at_nat (by unfold zI; rw [List.map_map, List.getElem?_map, h]; rfl)
theorem at_V {vs : List Int} {j : Nat} {v : Int} (h : vs[j]? = some v) : atI (vs.map D.int) (j : Int) = some (.int v) := at_nat (by rw [List.getElem?_map, h]; rfl)
theorem Bt.pow0 {b : Nat} {x : Int} (h : Bt b x) {a : Nat} {y : Int} (k : Bt a y) : ∀ s : Nat, Bt (a + b * s) (y * x ^ s)
  | 0 => by simpa using k
  | s + 1 => by
    have := (Bt.pow0 h k s).mul h
    rw [Int.pow_succ, ← Int.mul_assoc, Nat.mul_succ, ← Nat.add_assoc]
    exact this
/-- sizes that values and terms keep -/
structure Fit (b B : Nat) (vs : List Int) (p : List Tm) : Prop where
  vb : ∀ v ∈ vs, Bt b v
  cb : ∀ t ∈ p, Bt B t.1
  sz : ∀ t ∈ p, B + b * t.2.sum + t.2.length + b < 800000
end Np
set_option maxHeartbeats 4000000
namespace Wk05
open PySem L2 Ip
local macro_rules | `(tactic| and_intros) => `(tactic| repeat (first | (with_reducible first | refine w_c ?_ | refine w_nil ?_ | refine w_nx ?_ | refine w_yes ?_ | refine w_pair ?_ | refine w_pairO ?_ | refine w_pairR ?_ | refine w_m2 ?_ | refine w_un ?_ | refine w_cons ?_ | refine w_own ?_ | refine w_io ?_ | refine w_arg ?_ | refine w_argI ?_ | refine w_seqI ?_ | refine w_tup ?_ | refine w_lst ?_ | refine w_and ?_ | refine w_or ?_ | refine w_notV ?_ | refine w_ite ?_ | refine w_test ?_ | refine w_not ?_ | refine w_tand ?_ | refine w_tor ?_ | refine w_chain ?_ | refine w_call0 ?_ | refine w_call1 ?_ | refine w_lstM ?_ | refine w_strM ?_ | refine w_slice ?_ | refine w_oN ?_ | refine w_oS ?_ | refine w_seq ?_ | refine w_if ?_ | refine w_ret ?_ | refine w_drop ?_ | refine w_set ?_ | refine w_setO ?_ | refine w_asg ?_ | refine w_gIx ?_ | refine w_for ?_ | refine w_fn ?_ | refine w_cutL ?_ | refine w_enumS ?_ | refine w_fld1 ?_ | refine w_fldS ?_ | refine w_make ?_ | refine w_meth ?_ | refine w_raise ?_ | refine w_try ?_ | refine w_tryC ?_ | refine w_joinRev ?_ | refine w_while ?_ | refine t_nx ?_ | refine t_ct ?_ | refine t_bk ?_ | refine t_rt ?_ | refine q_nx ?_ | refine q_rt ?_ | refine q_bk ?_ | refine q_ct ?_ | refine e_rt ?_ | refine e_nx ?_ | refine i_t ?_ | refine i_f ?_ | refine i_nt ?_ | refine i_nf ?_ | refine o_add ?_ | refine o_sub ?_ | refine o_lt ?_ | refine o_le ?_ | refine o_gt ?_ | refine o_ge ?_ | refine o_int ?_ | refine o_abs ?_ | refine o_lenL ?_ | refine o_lenT ?_ | refine o_inS ?_ | refine o_notInS ?_ | refine o_listL ?_ | refine o_listT ?_ | refine o_tupL ?_ | refine o_tupT ?_ | refine o_eqI ?_ | refine o_neI ?_ | refine o_isN ?_ | refine o_notN ?_ | refine o_rev ?_ | refine o_max ?_ | refine o_min ?_ | refine o_lenCh ?_ | refine o_notInCh ?_ | refine o_listCh ?_ | refine o_inI ?_ | refine x_bl ?_ | refine x_int ?_ | refine x_str ?_ | refine x_sqL ?_ | refine x_sqT ?_ | refine x_sqS ?_ | refine x_isL ?_ | refine x_out ?_ | refine x_some ?_ | refine x_objL ?_ | refine x_objI ?_ | refine x_objD ?_ | refine x_cls ?_ | refine fl_nx ?_ | refine fl_ct ?_ | refine w_zip ?_ | refine w_zipT ?_ | refine w_sliceL ?_ | refine w_raise1 ?_ | refine w_tryF ?_ | refine o_and ?_ | refine o_shr ?_ | refine o_negI ?_ | refine o_listDT ?_ | refine Np.o_sumE ?_ | refine Np.o_lenE ?_ | refine Np.x_sqP ?_ | refine Np.x_sqE ?_ | refine Np.o_ix0 ?_ | refine Np.o_ix1 ?_ | refine Np.o_ixKy ?_ | refine Np.o_ltKy ?_ | refine Np.o_sortM ?_ | refine ⟨_, _, rfl, ?_⟩ | refine x_r1 (by with_unfolding_all omega) ?_ | refine x_r2 (by with_unfolding_all omega) ?_ | refine w_var (by with_unfolding_all exact rfl) ?_ | refine x_env (by with_unfolding_all exact rfl) ?_ | refine x_lst (by with_unfolding_all exact rfl) ?_ | refine x_slot (by with_unfolding_all exact of_decide_eq_true rfl) ?_ | refine x_nm (by with_unfolding_all exact of_decide_eq_true rfl) ?_ | refine o_ixL (by with_unfolding_all exact rfl) ?_ | refine o_ixT (by with_unfolding_all exact rfl) ?_ | refine o_isiB (b := true) (by with_unfolding_all exact rfl) ?_ | refine o_isiB (b := false) (by with_unfolding_all exact rfl) ?_ | refine o_lenS' (by first | with_unfolding_all omega | assumption) ?_ | refine x_tp (by with_unfolding_all exact rfl) ?_ | refine x_fld (by with_unfolding_all exact rfl) (by with_unfolding_all exact rfl) ?_ | refine x_meth (by with_unfolding_all exact rfl) ⟨(by with_unfolding_all exact rfl), (by with_unfolding_all exact rfl)⟩ ?_ | refine o_pow (by with_unfolding_all decide) ?_ | refine o_mulR (by with_unfolding_all decide) ?_ | refine o_mulL (by with_unfolding_all decide) ?_ | refine o_mulL (by with_unfolding_all omega) ?_ | refine o_mod (by first | assumption | with_unfolding_all decide) ?_ | refine o_div (by first | assumption | with_unfolding_all decide) (by first | assumption | with_unfolding_all decide) ?_)))
open Np (eD tD pD kyD dD)
def vD (vs : List Int) : D := .lst (vs.map D.int)
theorem value_ok {p : List Np.Tm} {vs : List Int} {b B : Nat} (hl : ∀ t ∈ p, t.2.length = vs.length) (F : Np.Fit b B vs p) : wf (F_value [pD p, vD vs]) fun d outs => d = .int (Np.val vs p) ∧ outs = [] := by
  unfold F_value vD
  with_reducible refine w_fn ?_
  unfold m_value
  and_intros
  refine w_loop (fun i ρ => ∃ x3 x4 x5 x6 x7, ρ = [some (pD p), some (.lst (vs.map D.int)), some (.int (Np.val vs (p.take i))), x3, x4, x5, x6, x7]) ⟨none, none, none, none, none, by rw [List.take_zero]; rfl⟩ ?_ ?_
  · rintro i d ρ hd ⟨x3, x4, x5, x6, x7, rfl⟩
    obtain ⟨t, ht, rfl⟩ := map_at hd
    have htm := List.mem_of_getElem? ht
    have lt := hl t htm
    have sz := F.sz t htm
    refine ⟨_, rfl, ?_⟩
    and_intros
    rw [Np.zip_vals]
    refine w_loop (fun j ρ => ∃ x6 x7 c, ρ = [some (pD p), some (.lst (vs.map D.int)), some (.int (Np.val vs (p.take i))), some (.int t.1), some (eD t.2), some (.int c), x6, x7] ∧ c * Np.mono (vs.drop j) (t.2.drop j) = t.1 * Np.mono vs t.2 ∧ Np.Bt (B + b * (t.2.take j).sum + j) c) ?_ ?_ ?_
    · exact ⟨_, _, t.1, rfl, by rw [List.drop_zero, List.drop_zero], (F.cb t htm).mono (by omega)⟩
    · rintro j d ρ hd ⟨x6, x7, c, rfl, hc, bc⟩
      obtain ⟨⟨v, k⟩, hz, rfl⟩ := map_at hd
      obtain ⟨hv, hk⟩ := zip_at hz
      have sk := Np.sum_take hk
      have sl := Np.sum_take_le t.2 (j + 1)
      have hj := (List.getElem?_eq_some_iff.1 hk).1
      have vb := F.vb v (List.mem_of_getElem? hv)
      have m1 : b * (t.2.take (j + 1)).sum ≤ b * t.2.sum := Nat.mul_le_mul_left b sl
      have m2 : b * (t.2.take (j + 1)).sum = b * (t.2.take j).sum + b * k := by rw [sk, Nat.mul_add]
      have md := Np.mono_drop hv hk
      refine ⟨_, rfl, ?_⟩
      and_intros
      by_cases k0 : k = 0
      · subst k0
        rw [decide_eq_false (by show ¬ (0 : Int) < 0; decide)]
        and_intros
        refine ⟨_, _, c, rfl, ?_, bc.mono (by omega)⟩
        rw [← hc, md, Int.pow_zero, Int.one_mul]
      · rw [decide_eq_true (by omega)]
        and_intros
        refine f_eq (power_ok (e := k) vb (by omega)) ?_
        and_intros
        refine Np.o_mulD bc (vb.powB k) (by omega) ?_
        and_intros
        refine ⟨_, _, c * v ^ k, rfl, ?_, (bc.mul (vb.powB k)).mono (by omega)⟩
        rw [← hc, md, Int.mul_assoc]
    · rintro ρ ⟨x6, x7, c, e, hc, bc⟩
      have el : ((List.zip vs t.2).map fun x : Int × Nat => D.tup [.int x.1, .int (x.2 : Nat)]).length = t.2.length := by rw [List.length_map, List.length_zip, lt]; omega
      rw [el, Np.mono_end lt, Int.mul_one] at hc
      with_reducible subst e
      with_reducible refine q_nx ?_
      and_intros
      rw [Np.val_take ht, ← hc]
      exact ⟨_, _, _, _, _, rfl⟩
  · rintro ρ ⟨x3, x4, x5, x6, x7, e⟩
    rw [List.length_map, List.take_length] at e
    with_reducible subst e
    with_reducible refine q_nx ?_
    and_intros
    exact ⟨rfl, rfl⟩
theorem law_worth_ok {p : List Np.Tm} {vs : List Int} {b B : Nat} (hl : ∀ t ∈ p, t.2.length = vs.length) (hn : vs.length ≤ 1000) (hx : ∀ t ∈ p, ∀ k ∈ t.2, k < 2 ^ 40) (F : Np.Fit b B vs p) : wf (F_law_worth [pD p, vD vs]) fun d outs => d = .int (Np.val vs p) ∧ outs = [] := by
  unfold F_law_worth vD
  with_reducible refine w_fn ?_
  unfold m_law_worth
  and_intros
  refine w_loop (fun i ρ => ∃ x3 x4 x5 x6, ρ = [some (pD p), some (.lst (vs.map D.int)), some (.int (Np.val vs (p.take i))), x3, x4, x5, x6]) ⟨none, none, none, none, by rw [List.take_zero]; rfl⟩ ?_ ?_
  · rintro i d ρ hd ⟨x3, x4, x5, x6, rfl⟩
    obtain ⟨t, ht, rfl⟩ := map_at hd
    have htm := List.mem_of_getElem? ht
    have lt := hl t htm
    have sz := F.sz t htm
    refine ⟨_, rfl, ?_⟩
    and_intros
    refine w_loop (fun j ρ => ∃ x5 x6 c, ρ = [some (pD p), some (.lst (vs.map D.int)), some (.int (Np.val vs (p.take i))), some (tD t), some (.int c), x5, x6] ∧ c * Np.mono (vs.drop j) (t.2.drop j) = t.1 * Np.mono vs t.2 ∧ Np.Bt (B + b * (t.2.take j).sum) c) ?_ ?_ ?_
    · exact ⟨_, _, t.1, rfl, by rw [List.drop_zero, List.drop_zero], (F.cb t htm).mono (by omega)⟩
    · rintro j d ρ hd ⟨x5, x6, c, rfl, hc, bc⟩
      have hj : j < t.2.length := by
        have := (List.getElem?_eq_some_iff.1 hd).1
        simpa using this
      rw [List.getElem?_map, List.getElem?_range (by simpa using hj)] at hd
      cases hd
      have hk := List.getElem?_eq_getElem hj
      have hv := List.getElem?_eq_getElem (show j < vs.length by omega)
      generalize t.2[j] = k at hk
      generalize vs[j] = v at hv
      have kx := hx t htm k (List.mem_of_getElem? hk)
      have sk := Np.sum_take hk
      have sl := Np.sum_take_le t.2 (j + 1)
      have vb := F.vb v (List.mem_of_getElem? hv)
      have m1 : b * (t.2.take (j + 1)).sum ≤ b * t.2.sum := Nat.mul_le_mul_left b sl
      have m2 : b * (t.2.take (j + 1)).sum = b * (t.2.take j).sum + b * k := by rw [sk, Nat.mul_add]
      have md := Np.mono_drop hv hk
      refine ⟨_, rfl, ?_⟩
      and_intros
      refine o_ixT (Np.at_E hk) ?_
      and_intros
      refine w_loop (fun s ρ => ∃ x6, ρ = [some (pD p), some (.lst (vs.map D.int)), some (.int (Np.val vs (p.take i))), some (tD t), some (.int (c * v ^ s)), some (.int (j : Nat)), x6]) ?_ ?_ ?_
      · exact ⟨_, by rw [Int.pow_zero, Int.mul_one]; rfl⟩
      · rintro s d ρ hd ⟨x6, rfl⟩
        have hs : s < k := by
          have := (List.getElem?_eq_some_iff.1 hd).1
          simpa using this
        have bs := vb.pow0 bc s
        have m3 : b * s ≤ b * k := Nat.mul_le_mul_left b (by omega)
        refine ⟨_, rfl, ?_⟩
        and_intros
        refine o_ixL (Np.at_V hv) ?_
        and_intros
        refine Np.o_mulD bs vb (by omega) ?_
        and_intros
        exact ⟨_, by rw [Int.pow_succ, ← Int.mul_assoc]; rfl⟩
      · rintro ρ ⟨x6, e⟩
        have ek : ((List.range (((k : Nat) : Int)).toNat).map fun i => D.int (i : Nat)).length = k := by simp
        rw [ek] at e
        with_reducible subst e
        refine ⟨.inl rfl, _, _, c * v ^ k, rfl, ?_, ?_⟩
        · rw [← hc, md, Int.mul_assoc]
        · have := vb.pow0 bc k
          rw [m2, ← Nat.add_assoc]
          exact this
    · rintro ρ ⟨x5, x6, c, e, hc, bc⟩
      have el : ((List.range (((t.2.length : Nat) : Int)).toNat).map fun i => D.int (i : Nat)).length = t.2.length := by simp
      rw [el, Np.mono_end lt, Int.mul_one] at hc
      with_reducible subst e
      with_reducible refine q_nx ?_
      and_intros
      rw [Np.val_take ht, ← hc]
      exact ⟨_, _, _, _, rfl⟩
  · rintro ρ ⟨x3, x4, x5, x6, e⟩
    rw [List.length_map, List.take_length] at e
    with_reducible subst e
    with_reducible refine q_nx ?_
    and_intros
    exact ⟨rfl, rfl⟩
end Wk05
set_option maxHeartbeats 4000000
namespace Wk05
open PySem L2 Ip
local macro_rules | `(tactic| and_intros) => `(tactic| repeat (first | (with_reducible first | refine w_c ?_ | refine w_nil ?_ | refine w_nx ?_ | refine w_yes ?_ | refine w_pair ?_ | refine w_pairO ?_ | refine w_pairR ?_ | refine w_m2 ?_ | refine w_un ?_ | refine w_cons ?_ | refine w_own ?_ | refine w_io ?_ | refine w_arg ?_ | refine w_argI ?_ | refine w_seqI ?_ | refine w_tup ?_ | refine w_lst ?_ | refine w_and ?_ | refine w_or ?_ | refine w_notV ?_ | refine w_ite ?_ | refine w_test ?_ | refine w_not ?_ | refine w_tand ?_ | refine w_tor ?_ | refine w_chain ?_ | refine w_call0 ?_ | refine w_call1 ?_ | refine w_lstM ?_ | refine w_strM ?_ | refine w_slice ?_ | refine w_oN ?_ | refine w_oS ?_ | refine w_seq ?_ | refine w_if ?_ | refine w_ret ?_ | refine w_drop ?_ | refine w_set ?_ | refine w_setO ?_ | refine w_asg ?_ | refine w_gIx ?_ | refine w_for ?_ | refine w_fn ?_ | refine w_cutL ?_ | refine w_enumS ?_ | refine w_fld1 ?_ | refine w_fldS ?_ | refine w_make ?_ | refine w_meth ?_ | refine w_raise ?_ | refine w_try ?_ | refine w_tryC ?_ | refine w_joinRev ?_ | refine w_while ?_ | refine t_nx ?_ | refine t_ct ?_ | refine t_bk ?_ | refine t_rt ?_ | refine q_nx ?_ | refine q_rt ?_ | refine q_bk ?_ | refine q_ct ?_ | refine e_rt ?_ | refine e_nx ?_ | refine i_t ?_ | refine i_f ?_ | refine i_nt ?_ | refine i_nf ?_ | refine o_add ?_ | refine o_sub ?_ | refine o_lt ?_ | refine o_le ?_ | refine o_gt ?_ | refine o_ge ?_ | refine o_int ?_ | refine o_abs ?_ | refine o_lenL ?_ | refine o_lenT ?_ | refine o_inS ?_ | refine o_notInS ?_ | refine o_listL ?_ | refine o_listT ?_ | refine o_tupL ?_ | refine o_tupT ?_ | refine o_eqI ?_ | refine o_neI ?_ | refine o_isN ?_ | refine o_notN ?_ | refine o_rev ?_ | refine o_max ?_ | refine o_min ?_ | refine o_lenCh ?_ | refine o_notInCh ?_ | refine o_listCh ?_ | refine o_inI ?_ | refine x_bl ?_ | refine x_int ?_ | refine x_str ?_ | refine x_sqL ?_ | refine x_sqT ?_ | refine x_sqS ?_ | refine x_isL ?_ | refine x_out ?_ | refine x_some ?_ | refine x_objL ?_ | refine x_objI ?_ | refine x_objD ?_ | refine x_cls ?_ | refine fl_nx ?_ | refine fl_ct ?_ | refine w_zip ?_ | refine w_zipT ?_ | refine w_sliceL ?_ | refine w_raise1 ?_ | refine w_tryF ?_ | refine o_and ?_ | refine o_shr ?_ | refine o_negI ?_ | refine o_listDT ?_ | refine Np.o_sumE ?_ | refine Np.o_lenE ?_ | refine Np.x_sqP ?_ | refine Np.x_sqE ?_ | refine Np.o_ix0 ?_ | refine Np.o_ix1 ?_ | refine Np.o_ixKy ?_ | refine Np.o_ltKy ?_ | refine Np.o_sortM ?_ | refine ⟨_, _, rfl, ?_⟩ | refine x_r1 (by with_unfolding_all omega) ?_ | refine x_r2 (by with_unfolding_all omega) ?_ | refine w_var (by with_unfolding_all exact rfl) ?_ | refine x_env (by with_unfolding_all exact rfl) ?_ | refine x_lst (by with_unfolding_all exact rfl) ?_ | refine x_slot (by with_unfolding_all exact of_decide_eq_true rfl) ?_ | refine x_nm (by with_unfolding_all exact of_decide_eq_true rfl) ?_ | refine o_ixL (by with_unfolding_all exact rfl) ?_ | refine o_ixT (by with_unfolding_all exact rfl) ?_ | refine o_isiB (b := true) (by with_unfolding_all exact rfl) ?_ | refine o_isiB (b := false) (by with_unfolding_all exact rfl) ?_ | refine o_lenS' (by first | with_unfolding_all omega | assumption) ?_ | refine x_tp (by with_unfolding_all exact rfl) ?_ | refine x_fld (by with_unfolding_all exact rfl) (by with_unfolding_all exact rfl) ?_ | refine x_meth (by with_unfolding_all exact rfl) ⟨(by with_unfolding_all exact rfl), (by with_unfolding_all exact rfl)⟩ ?_ | refine o_pow (by with_unfolding_all decide) ?_ | refine o_mulR (by with_unfolding_all decide) ?_ | refine o_mulL (by with_unfolding_all decide) ?_ | refine o_mulL (by with_unfolding_all omega) ?_ | refine o_mod (by first | assumption | with_unfolding_all decide) ?_ | refine o_div (by first | assumption | with_unfolding_all decide) (by first | assumption | with_unfolding_all decide) ?_)))
open Np (eD tD pD kyD dD)
theorem fits_ok {c n : Int} : wf (F_fits_many [.int c, .int n]) fun d outs => d = .bl (if n = 0 then decide (1 ≤ c) && decide (c ≤ 40) else decide (c = n)) ∧ outs = [] := by
  unfold F_fits_many
  with_reducible refine w_fn ?_
  unfold m_fits_many
  and_intros
  by_cases h : n = 0
  · rw [decide_eq_true h, if_pos h]
    and_intros
    refine x_leI ?_
    by_cases h1 : 1 ≤ c
    · rw [decide_eq_true h1]
      and_intros
      exact ⟨rfl, rfl⟩
    · rw [decide_eq_false h1]
      and_intros
      exact ⟨rfl, rfl⟩
  · rw [decide_eq_false h, if_neg h]
    and_intros
    exact ⟨rfl, rfl⟩
def fit (n : Nat) (p : List Np.Tm) (c : Nat) : Bool := if szD n p = 0 then decide ((1 : Int) ≤ c) && decide ((c : Int) ≤ 40) else decide ((c : Int) = szD n p)
theorem worth_ok {p : List Np.Tm} {n : Nat} {vs : List Int} {b B : Nat} (hp : Np.Good n p) (h1 : 1 ≤ n) (h2 : n ≤ 40) (hl : vs.length = n) (F : Np.Fit b B vs p) : wf (F_worth [pD p, vD vs]) fun d outs => d = .int (Np.val vs p) ∧ outs = [] := by
  unfold F_worth
  with_reducible refine w_fn ?_
  unfold m_worth
  and_intros
  refine f_eq (check_poly_ok hp h1 h2) ?_
  and_intros
  unfold vD
  and_intros
  refine f_eq fits_ok ?_
  and_intros
  have hf : (if szD n p = 0 then decide ((1 : Int) ≤ ((vs.map D.int).length : Nat)) && decide ((((vs.map D.int).length : Nat) : Int) ≤ 40) else decide ((((vs.map D.int).length : Nat) : Int) = szD n p)) = true := by
    rw [List.length_map, hl]
    unfold szD
    by_cases q : p = []
    · rw [if_pos q, if_pos (show ((0 : Nat) : Int) = 0 from rfl), decide_eq_true (by omega), decide_eq_true (by omega)]; rfl
    · rw [if_neg q, if_neg (by omega), decide_eq_true rfl]
  rw [hf]
  and_intros
  refine w_all (fun x => [some (pD p), some (.lst (vs.map D.int)), some (.int (szD n p)), x]) none rfl ?_ ?_
  · intro d x hd
    obtain ⟨k, hk, rfl⟩ := List.mem_map.1 hd
    refine ⟨_, rfl, ?_⟩
    and_intros
    refine f_eq is_integer_int ?_
    and_intros
    exact ⟨_, rfl⟩
  · intro x
    and_intros
    refine f_eq (value_ok (fun t ht => (hp.len t ht).trans hl.symm) F) ?_
    and_intros
    exact ⟨rfl, rfl⟩
abbrev noV : Ex → List D → Prop := fun e outs => e = ⟨"NoValues", none⟩ ∧ outs = []
theorem worth_len {p : List Np.Tm} {n : Nat} {ds : List D} (hp : Np.Good n p) (h1 : 1 ≤ n) (h2 : n ≤ 40) (hl : fit n p ds.length = false) : wfx noV (F_worth [pD p, .lst ds]) fun _ _ => False := by
  unfold F_worth
  with_reducible refine w_fn ?_
  unfold m_worth
  and_intros
  refine f_eq (check_poly_ok hp h1 h2) ?_
  and_intros
  refine f_eq fits_ok ?_
  and_intros
  unfold fit at hl
  rw [hl]
  and_intros
  exact ⟨rfl, rfl⟩
theorem worth_non {p : List Np.Tm} {n : Nat} {d : D} (hp : Np.Good n p) (h1 : 1 ≤ n) (h2 : n ≤ 40) (hd : isiD "list" d = some (.bl false)) : wfx noV (F_worth [pD p, d]) fun _ _ => False := by
  unfold F_worth
  with_reducible refine w_fn ?_
  unfold m_worth
  and_intros
  refine f_eq (check_poly_ok hp h1 h2) ?_
  and_intros
  refine o_isiB (b := false) hd ?_
  and_intros
  exact ⟨rfl, rfl⟩
theorem worth_spoil {p : List Np.Tm} {n k : Nat} {vs : List Int} {x : D} (hp : Np.Good n p) (h1 : 1 ≤ n) (h2 : n ≤ 40) (hl : fit n p vs.length = true) (hk : k < vs.length) (hx : wf (F_is_integer [x]) fun d outs => d = .bl false ∧ outs = []) : wfx noV (F_worth [pD p, .lst ((vs.map D.int).set k x)]) fun _ _ => False := by
  unfold F_worth
  with_reducible refine w_fn ?_
  unfold m_worth
  and_intros
  refine f_eq (check_poly_ok hp h1 h2) ?_
  and_intros
  refine f_eq fits_ok ?_
  and_intros
  unfold fit at hl
  rw [List.length_set, List.length_map, hl]
  and_intros
  refine w_loop (fun i ρ => i ≤ k ∧ ∃ y, ρ = [some (pD p), some (.lst ((vs.map D.int).set k x)), some (.int (szD n p)), y]) ⟨Nat.zero_le _, none, rfl⟩ ?_ ?_
  · rintro i d ρ hd ⟨hi, y, rfl⟩
    refine ⟨_, rfl, ?_⟩
    and_intros
    by_cases q : i = k
    · subst q
      rw [List.getElem?_set_self (by rw [List.length_map]; exact hk)] at hd
      cases hd
      refine f_eq hx ?_
      and_intros
      exact ⟨rfl, rfl⟩
    · rw [List.getElem?_set_ne (Ne.symm q)] at hd
      obtain ⟨z, hz, rfl⟩ := map_at hd
      refine f_eq is_integer_int ?_
      and_intros
      exact ⟨by omega, _, rfl⟩
  · rintro ρ ⟨hi, y, e⟩
    rw [List.length_set, List.length_map] at hi
    omega
theorem worth_lst {ds : List D} {d : D} : wfx (fun e outs => e = ⟨"NoPolynomial", some ("index", .int 0)⟩ ∧ outs = []) (F_worth [.lst ds, d]) fun _ _ => False := by
  unfold F_worth
  with_reducible refine w_fn ?_
  unfold m_worth
  and_intros
  refine wf_impE check_poly_lst (fun _ _ h => h.elim) ?_
  rintro e outs ⟨rfl, rfl⟩
  exact ⟨rfl, rfl⟩
/-! ### asked -/
theorem asked_told {a v : D} {z : Int} (h : wf (F_worth [a, v]) fun d outs => d = .int z ∧ outs = []) : wf (F_law_asked [a, v]) fun d outs => d = .tup [.str "told", .int z, .non] ∧ outs = [] := by
  unfold F_law_asked
  with_reducible refine w_fn ?_
  unfold m_law_asked
  and_intros
  refine f_eq h ?_
  and_intros
  refine ⟨rfl, ?_⟩
  and_intros
  exact ⟨rfl, rfl⟩
theorem asked_values {a v : D} (h : wfx noV (F_worth [a, v]) fun _ _ => False) : wf (F_law_asked [a, v]) fun d outs => d = .tup [.str "values", .non, .non] ∧ outs = [] := by
  unfold F_law_asked
  with_reducible refine w_fn ?_
  unfold m_law_asked
  and_intros
  refine wf_impE h (fun _ _ h => h.elim) ?_
  rintro e outs ⟨rfl, rfl⟩
  refine w_pickF rfl (by with_unfolding_all rfl) (fun _ h => nomatch h) ?_
  and_intros
  exact ⟨rfl, rfl⟩
theorem asked_poly {a v : D} (h : wfx (fun e outs => e = ⟨"NoPolynomial", some ("index", .int 0)⟩ ∧ outs = []) (F_worth [a, v]) fun _ _ => False) : wf (F_law_asked [a, v]) fun d outs => d = .tup [.str "polynomial", .non, .int 0] ∧ outs = [] := by
  unfold F_law_asked
  with_reducible refine w_fn ?_
  unfold m_law_asked
  and_intros
  refine wf_impE h (fun _ _ h => h.elim) ?_
  rintro e outs ⟨rfl, rfl⟩
  refine w_skipF (by decide) ?_
  refine w_pickF rfl (by with_unfolding_all rfl) (fun k h => by cases h; show 5 < 6; decide) ?_
  and_intros
  exact ⟨rfl, rfl⟩
/-! ### spoiled values -/
inductive BadV (vs : List Int) : D → Prop
  | len {ds : List D} : ds.length ≠ vs.length → BadV vs (.lst ds)
  | tup {ds : List D} : BadV vs (.tup ds)
  | non : BadV vs .non
  | spo {k : Nat} {x : D} : k < vs.length → (wf (F_is_integer [x]) fun d outs => d = .bl false ∧ outs = []) → BadV vs (.lst ((vs.map D.int).set k x))
theorem bad_ok {c : Nat} {h : D} {vs : List Int} (H : HOk c h) (hc : c < 2 ^ 38) (h1 : 1 ≤ vs.length) (h2 : vs.length ≤ 40) : wf (F_law_bad [h, vD vs]) fun d outs => BadV vs d ∧ ∃ h', outs = [h'] ∧ HOk (c + 2) h' := by
  unfold F_law_bad vD
  with_reducible refine w_fn ?_
  unfold m_law_bad
  and_intros
  refine u_draw H (by omega) (by decide) (by decide) ?_
  intro r h1' r0 r1 H1
  and_intros
  by_cases q0 : r = 0
  · rw [decide_eq_true q0]
    and_intros
    refine o_catL (by rw [List.length_map]; show _ + 1 ≤ _; omega) ?_
    and_intros
    exact ⟨.len (by rw [List.length_append, List.length_map]; show _ + 1 ≠ _; omega), _, rfl, H1.mono (by omega)⟩
  rw [decide_eq_false q0]
  and_intros
  by_cases q1 : r = 1
  · rw [decide_eq_true q1]
    and_intros
    rw [show (1 : Int) = ((1 : Nat) : Int) from rfl, cutD_from]
    exact ⟨.len (by rw [List.length_drop, List.length_map]; omega), _, rfl, H1.mono (by omega)⟩
  rw [decide_eq_false q1]
  and_intros
  by_cases q2 : r = 2
  · rw [decide_eq_true q2]
    and_intros
    exact ⟨.tup, _, rfl, H1.mono (by omega)⟩
  rw [decide_eq_false q2]
  and_intros
  by_cases q3 : r = 3
  · rw [decide_eq_true q3]
    and_intros
    exact ⟨.non, _, rfl, H1.mono (by omega)⟩
  rw [decide_eq_false q3]
  and_intros
  refine w_mapT (l := vs) D.int D.int ?_
  and_intros
  refine ⟨rfl, by show _ < 2 ^ 24; omega, ?_, ?_⟩
  · intro a _
    refine ⟨_, rfl, ?_⟩
    and_intros
    exact ⟨rfl, rfl⟩
  and_intros
  have fin : ∀ (x : D), (wf (F_is_integer [x]) fun d outs => d = .bl false ∧ outs = []) → ∀ (k : Nat) (h' : D), k < vs.length → HOk (c + 1 + 1) h' → BadV vs (.lst ((vs.map D.int).set k x)) ∧ ∃ h'', [h'] = [h''] ∧ HOk (c + 2) h'' := fun x hx k h' hk H' => ⟨.spo hk hx, h', rfl, H'⟩
  have pick : ∃ x, atI [D.bl true, D.non, D.str "1"] (r - 4) = some x ∧ wf (F_is_integer [x]) fun d outs => d = .bl false ∧ outs = [] := by
    have : r = 4 ∨ r = 5 ∨ r = 6 := by omega
    rcases this with rfl | rfl | rfl
    · exact ⟨_, rfl, is_integer_bl⟩
    · exact ⟨_, rfl, is_integer_non⟩
    · exact ⟨_, rfl, is_integer_str⟩
  obtain ⟨x, ex, hx⟩ := pick
  refine o_ixL ex ?_
  and_intros
  refine u_draw H1 (by omega) (by rw [List.length_map]; omega) (by rw [List.length_map]; omega) ?_
  intro u h2' u0 u1 H2
  rw [List.length_map] at u1
  and_intros
  refine ⟨u, vs.map D.int, u.toNat, rfl, rfl, ?_, ?_⟩
  · rw [List.length_map]; unfold ixN; rw [if_pos u0, if_pos u1]
  and_intros
  exact fin x hx u.toNat h2' (by omega) H2
end Wk05
set_option maxHeartbeats 2000000
namespace Np
open PySem L2 Ip
theorem sum_le {h : Nat} : ∀ {e : List Nat}, (∀ k ∈ e, k ≤ h) → e.sum ≤ e.length * h
  | [], _ => by simp
  | k :: e, a => by
    have := sum_le (e := e) fun x hx => a x (List.mem_cons_of_mem _ hx)
    have := a k List.mem_cons_self
    rw [List.sum_cons, List.length_cons, Nat.succ_mul]
    omega
theorem lin_bt {x : Nat} {φ : List Nat → Int} : ∀ {p : List Tm}, (∀ t ∈ p, Bt x (t.1 * φ t.2)) → (lin φ p).natAbs ≤ p.length * 2 ^ x
  | [], _ => by simp [lin]
  | t :: p, h => by
    rw [lin, List.length_cons, Nat.succ_mul]
    have h1 := h t List.mem_cons_self
    have := lin_bt (p := p) fun u hu => h u (List.mem_cons_of_mem _ hu)
    have := Int.natAbs_add_le (t.1 * φ t.2) (lin φ p)
    unfold Bt at h1
    omega
theorem bt_of {n k x : Nat} {z : Int} (h : z.natAbs ≤ n * 2 ^ x) (hn : n < 2 ^ k) : Bt (k + x) z := by
  unfold Bt
  rw [Nat.pow_add]
  exact Nat.lt_of_le_of_lt h (Nat.mul_lt_mul_of_pos_right hn (Nat.pow_pos (by decide)))
theorem mono_bt {b : Nat} : ∀ {vs : List Int} {e : List Nat}, (∀ v ∈ vs, Bt b v) → Bt (b * e.sum + e.length + 1) (mono vs e)
  | [], e, _ => Bt.one.mono (by omega)
  | v :: vs, [], _ => Bt.one.mono (by omega)
  | v :: vs, k :: e, h => by
    rw [mono, List.sum_cons, List.length_cons, Nat.mul_add]
    have h1 := (h v List.mem_cons_self).powB k
    have h2 := mono_bt (vs := vs) (e := e) fun u hu => h u (List.mem_cons_of_mem _ hu)
    exact (h1.mul h2).mono (by omega)
/-- a polynomial of the laws' sizes -/
structure Pol (n : Nat) (p : List Tm) : Prop where
  good : Good n p
  len : p.length ≤ 6
  co : ∀ t ∈ p, Bt 134 t.1
  sm : ∀ t ∈ p, t.2.sum ≤ 300
  ex : ∀ t ∈ p, ∀ k ∈ t.2, k ≤ 100
theorem Drawn.pol {n most high : Nat} {p : List Tm} (h : Drawn n most high 134 p) (hm : most ≤ 6) (hh : high ≤ 100) (hs : n * high ≤ 300) : Pol n p := by
  refine ⟨h.good, Nat.le_trans h.len hm, h.co, fun t ht => ?_, fun t ht k hk => Nat.le_trans (h.ex t ht k hk) hh⟩
  have := sum_le (h.ex t ht)
  rw [h.good.len t ht] at this
  omega
theorem nrm_pol {n : Nat} {p : List Tm} (h : Pol n p) : nrm p < 2 ^ 137 := by
  have h1 := nrm_bt h.co
  have h2 : p.length * 2 ^ 134 ≤ 6 * 2 ^ 134 := Nat.mul_le_mul_right _ h.len
  omega
theorem bt_nrm {p : List Tm} {b : Nat} (h : nrm p < 2 ^ b) : ∀ t ∈ p, Bt b t.1 := fun t ht => Nat.lt_of_le_of_lt (nrm_mem ht) h
theorem Pol.fit {n : Nat} {p : List Tm} {vs : List Int} (h : Pol n p) (hn : n ≤ 40) (hv : ∀ v ∈ vs, Bt 134 v) : Fit 134 134 vs p := by
  refine ⟨hv, h.co, fun t ht => ?_⟩
  have := h.sm t ht
  have := h.good.len t ht
  omega
theorem Pol.val {n : Nat} {p : List Tm} {vs : List Int} (h : Pol n p) (hn : n ≤ 40) (hv : ∀ v ∈ vs, Bt 134 v) : Bt 100000 (val vs p) := by
  have h1 : ∀ t ∈ p, Bt 50000 (t.1 * mono vs t.2) := fun t ht => by
    have := h.sm t ht
    have := h.good.len t ht
    exact ((h.co t ht).mul (mono_bt hv)).mono (by omega)
  exact (bt_of (lin_bt h1) (show p.length < 2 ^ 3 by have := h.len; omega)).mono (by omega)
/-- sums and products fit, too -/
theorem plus_fit {n : Nat} {p q r : List Tm} {vs : List Int} (hp : Pol n p) (hq : Pol n q) (hn : n ≤ 40) (hv : ∀ v ∈ vs, Bt 134 v) (h : PR n (fun e => e ∈ p.map (·.2) ∨ e ∈ q.map (·.2)) (fun φ => lin φ p + lin φ q) (nrm p + nrm q) (p.length + q.length) r) : Fit 134 300 vs r := by
  have h1 := nrm_pol hp
  have h2 := nrm_pol hq
  have h3 := h.nr
  refine ⟨hv, bt_nrm (b := 300) (by omega), fun t ht => ?_⟩
  have hl := h.good.len t ht
  have : t.2.sum ≤ 300 := by
    rcases h.pk t ht with z | z
    · obtain ⟨u, hu, e⟩ := List.mem_map.1 z
      rw [← e]; exact hp.sm u hu
    · obtain ⟨u, hu, e⟩ := List.mem_map.1 z
      rw [← e]; exact hq.sm u hu
  omega
theorem sum_add : ∀ a b : List Nat, (addE a b).sum ≤ a.sum + b.sum
  | [], b => by unfold addE; simp
  | x :: a, [] => by unfold addE; simp
  | x :: a, y :: b => by
    have := sum_add a b
    unfold addE at this ⊢
    rw [List.zipWith_cons_cons, List.sum_cons, List.sum_cons, List.sum_cons]
    omega
theorem times_fit {n : Nat} {p q r : List Tm} {vs : List Int} (hp : Pol n p) (hq : Pol n q) (hn : n ≤ 40) (hv : ∀ v ∈ vs, Bt 134 v) (h : PR n (fun e => ∃ t ∈ p, ∃ u ∈ q, e = addE t.2 u.2) (fun φ => lin2 φ p q) (nrm p * nrm q) (p.length * q.length) r) : Fit 134 300 vs r := by
  have h1 := nrm_pol hp
  have h2 := nrm_pol hq
  have h3 := h.nr
  have h4 : nrm p * nrm q < 2 ^ 137 * 2 ^ 137 := Nat.mul_lt_mul'' h1 h2
  refine ⟨hv, bt_nrm (b := 300) (by omega), fun t ht => ?_⟩
  have hl := h.good.len t ht
  have : t.2.sum ≤ 600 := by
    obtain ⟨u, hu, w, hw, e⟩ := h.pk t ht
    rw [e]
    have := sum_add u.2 w.2
    have := hp.sm u hu
    have := hq.sm w hw
    omega
  omega
/-- the same data -/
theorem o_neSame {d : D} {p : PyData} {ρ : Ip.Env} {P : D → Ip.Env → Prop} (h : toPy d = some p) (s : SeqAt.shaped p = true) (w : P (.bl false) ρ) : wo (neD d d) ρ P :=
  o_neX (k := true) h h s s (PySem.SeqAt.eqv_refl p (SeqAt.canLay_of_shaped s)) w
theorem o_eqSame {d : D} {p : PyData} {ρ : Ip.Env} {P : D → Ip.Env → Prop} (h : toPy d = some p) (s : SeqAt.shaped p = true) (w : P (.bl true) ρ) : wo (eqD d d) ρ P :=
  o_eqX (k := true) h h s s (PySem.SeqAt.eqv_refl p (SeqAt.canLay_of_shaped s)) w
end Np
set_option maxHeartbeats 8000000
namespace Wk05
open PySem L2 Ip
local macro_rules | `(tactic| and_intros) => `(tactic| repeat (first | (with_reducible first | refine w_c ?_ | refine w_nil ?_ | refine w_nx ?_ | refine w_yes ?_ | refine w_pair ?_ | refine w_pairO ?_ | refine w_pairR ?_ | refine w_m2 ?_ | refine w_un ?_ | refine w_cons ?_ | refine w_own ?_ | refine w_io ?_ | refine w_arg ?_ | refine w_argI ?_ | refine w_seqI ?_ | refine w_tup ?_ | refine w_lst ?_ | refine w_and ?_ | refine w_or ?_ | refine w_notV ?_ | refine w_ite ?_ | refine w_test ?_ | refine w_not ?_ | refine w_tand ?_ | refine w_tor ?_ | refine w_chain ?_ | refine w_call0 ?_ | refine w_call1 ?_ | refine w_lstM ?_ | refine w_strM ?_ | refine w_slice ?_ | refine w_oN ?_ | refine w_oS ?_ | refine w_seq ?_ | refine w_if ?_ | refine w_ret ?_ | refine w_drop ?_ | refine w_set ?_ | refine w_setO ?_ | refine w_asg ?_ | refine w_gIx ?_ | refine w_for ?_ | refine w_fn ?_ | refine w_cutL ?_ | refine w_enumS ?_ | refine w_fld1 ?_ | refine w_fldS ?_ | refine w_make ?_ | refine w_meth ?_ | refine w_raise ?_ | refine w_try ?_ | refine w_tryC ?_ | refine w_joinRev ?_ | refine w_while ?_ | refine t_nx ?_ | refine t_ct ?_ | refine t_bk ?_ | refine t_rt ?_ | refine q_nx ?_ | refine q_rt ?_ | refine q_bk ?_ | refine q_ct ?_ | refine e_rt ?_ | refine e_nx ?_ | refine i_t ?_ | refine i_f ?_ | refine i_nt ?_ | refine i_nf ?_ | refine o_add ?_ | refine o_sub ?_ | refine o_lt ?_ | refine o_le ?_ | refine o_gt ?_ | refine o_ge ?_ | refine o_int ?_ | refine o_abs ?_ | refine o_lenL ?_ | refine o_lenT ?_ | refine o_inS ?_ | refine o_notInS ?_ | refine o_listL ?_ | refine o_listT ?_ | refine o_tupL ?_ | refine o_tupT ?_ | refine o_eqI ?_ | refine o_neI ?_ | refine o_isN ?_ | refine o_notN ?_ | refine o_rev ?_ | refine o_max ?_ | refine o_min ?_ | refine o_lenCh ?_ | refine o_notInCh ?_ | refine o_listCh ?_ | refine o_inI ?_ | refine x_bl ?_ | refine x_int ?_ | refine x_str ?_ | refine x_sqL ?_ | refine x_sqT ?_ | refine x_sqS ?_ | refine x_isL ?_ | refine x_out ?_ | refine x_some ?_ | refine x_objL ?_ | refine x_objI ?_ | refine x_objD ?_ | refine x_cls ?_ | refine fl_nx ?_ | refine fl_ct ?_ | refine w_zip ?_ | refine w_zipT ?_ | refine w_sliceL ?_ | refine w_raise1 ?_ | refine w_tryF ?_ | refine o_and ?_ | refine o_shr ?_ | refine o_negI ?_ | refine o_listDT ?_ | refine Np.o_sumE ?_ | refine Np.o_lenE ?_ | refine Np.x_sqP ?_ | refine Np.x_sqE ?_ | refine Np.o_ix0 ?_ | refine Np.o_ix1 ?_ | refine Np.o_ixKy ?_ | refine Np.o_ltKy ?_ | refine Np.o_sortM ?_ | refine ⟨_, _, rfl, ?_⟩ | refine x_r1 (by with_unfolding_all omega) ?_ | refine x_r2 (by with_unfolding_all omega) ?_ | refine w_var (by with_unfolding_all exact rfl) ?_ | refine x_env (by with_unfolding_all exact rfl) ?_ | refine x_lst (by with_unfolding_all exact rfl) ?_ | refine x_slot (by with_unfolding_all exact of_decide_eq_true rfl) ?_ | refine x_nm (by with_unfolding_all exact of_decide_eq_true rfl) ?_ | refine o_ixL (by with_unfolding_all exact rfl) ?_ | refine o_ixT (by with_unfolding_all exact rfl) ?_ | refine o_isiB (b := true) (by with_unfolding_all exact rfl) ?_ | refine o_isiB (b := false) (by with_unfolding_all exact rfl) ?_ | refine o_lenS' (by first | with_unfolding_all omega | assumption) ?_ | refine x_tp (by with_unfolding_all exact rfl) ?_ | refine x_fld (by with_unfolding_all exact rfl) (by with_unfolding_all exact rfl) ?_ | refine x_meth (by with_unfolding_all exact rfl) ⟨(by with_unfolding_all exact rfl), (by with_unfolding_all exact rfl)⟩ ?_ | refine o_pow (by with_unfolding_all decide) ?_ | refine o_mulR (by with_unfolding_all decide) ?_ | refine o_mulL (by with_unfolding_all decide) ?_ | refine o_mulL (by with_unfolding_all omega) ?_ | refine o_mod (by first | assumption | with_unfolding_all decide) ?_ | refine o_div (by first | assumption | with_unfolding_all decide) (by first | assumption | with_unfolding_all decide) ?_)))
open Np (eD tD pD kyD dD)
theorem law_whole_ok {n : Int} : wf (F_law_whole [.int n]) fun d outs => d = .bl true ∧ outs = [] := by
  unfold F_law_whole
  with_reducible refine w_fn ?_
  unfold m_law_whole
  and_intros
  exact ⟨rfl, rfl⟩
theorem u_poly {EF : Ex → List D → Prop} {c : Nat} {h : D} {n most high : Nat} {Q : D → List D → Prop} (H : HOk c h) (hc : c < 2 ^ 38) (hn : n ≤ 40) (hm : most ≤ 40) (hh : high ≤ 1000) (w : ∀ p h', Np.Drawn n most high 134 p → HOk (c + 2000) h' → Q (pD p) [h']) : wfx EF (F_law_poly ([.non, .int n, .int most, .int high].set 0 h)) Q := by
  show wfx EF (F_law_poly [h, .int n, .int most, .int high]) Q
  refine f_use (poly_ok H hc hn hm hh) ?_
  rintro d outs ⟨p, h', rfl, rfl, h1, h2⟩
  exact w p h' h1 h2
theorem u_bad {EF : Ex → List D → Prop} {c : Nat} {h : D} {vs : List Int} {Q : D → List D → Prop} (H : HOk c h) (hc : c < 2 ^ 38) (h1 : 1 ≤ vs.length) (h2 : vs.length ≤ 40) (w : ∀ d h', BadV vs d → HOk (c + 2) h' → Q d [h']) : wfx EF (F_law_bad ([.non, .lst (vs.map D.int)].set 0 h)) Q := by
  show wfx EF (F_law_bad [h, vD vs]) Q
  refine f_use (bad_ok H hc h1 h2) ?_
  rintro d outs ⟨hb, h', rfl, h3⟩
  exact w d h' hb h3
theorem bad_worth {p : List Np.Tm} {n : Nat} {vs : List Int} {d : D} (hp : Np.Good n p) (h0 : p ≠ []) (h1 : 1 ≤ n) (h2 : n ≤ 40) (hl : vs.length = n) (hb : BadV vs d) : wfx noV (F_worth [pD p, d]) fun _ _ => False := by
  have ez : szD n p = (n : Nat) := by unfold szD; rw [if_neg h0]
  have ft : fit n p vs.length = true := by
    unfold fit
    rw [ez, if_neg (by omega), hl, decide_eq_true rfl]
  cases hb with
  | len h =>
    refine worth_len hp h1 h2 ?_
    unfold fit
    rw [ez, if_neg (by omega), decide_eq_false (by omega)]
  | tup => exact worth_non hp h1 h2 rfl
  | non => exact worth_non hp h1 h2 rfl
  | spo hk hx => exact worth_spoil hp h1 h2 ft hk hx
theorem shaped_told (s : Str) (v : Int) (h : SeqAt.shaped (.str s) = true) : SeqAt.shaped (.tuple [.str s, .int v, .none]) = true := by
  unfold SeqAt.shaped at h ⊢
  simp only [Bool.and_eq_true, decide_eq_true_eq] at h ⊢
  obtain ⟨h1, h2⟩ := h
  refine ⟨?_, ?_⟩
  · simp only [PyData.canLay0, PyData.canLayAll0, Bool.and_true] at h1 ⊢
    exact h1
  · simp only [PyData.depth, PyData.depthAll] at h2 ⊢
    omega
theorem sh_values : SeqAt.shaped (.tuple [.str "values", .none, .none]) = true := by decide +kernel
theorem sh_poly : SeqAt.shaped (.tuple [.str "polynomial", .none, .int 0]) = true := by decide +kernel
theorem good_nil (n : Nat) : Np.Good n [] := ⟨fun _ h => (nomatch h), fun _ h => (nomatch h), List.Pairwise.nil⟩
def due (r : Int) : D := if 1 ≤ r ∧ r ≤ 40 then .tup [.str "told", .int 0, .non] else .tup [.str "values", .non, .non]
theorem rest4_ok {h : D} {c : Nat} {r : Int} (H : HOk c h) (hc : c < 2 ^ 32) (r0 : 0 ≤ r) (r1 : r < 43) {o0 o2 o3 o4 o5 o6 o7 o8 o9 o10 o11 o14 o15 : Option D} :
    wpx (fun e ρ => noF e (outsOf [] ρ)) ((mRet (m2 eqD (mPair (mCall0 F_law_asked (mCons (mTup mNil) (mCons (mLc (mArgI asR1 (mCons (mVar 12) mNil)) (gNm 14) mYes (mCall1 F_law_draw 0 1 (mIo (mCons (mC (.int 5)) mNil))) [14]) mNil))) (mVar 13)))) [o0, some h, o2, o3, o4, o5, o6, o7, o8, o9, o10, o11, some (.int r), some (due r), o14, o15]) (wfe [] fun d outs => d = .bl true ∧ outs = []) := by
  and_intros
  with_reducible refine w_lc ?_
  and_intros
  refine ⟨by rw [List.length_map, List.length_range]; show _ < 2 ^ 24; omega, fun j ρ acc => ∃ (h3 : D) (vs : List Int), ρ = [o0, some h3, o2, o3, o4, o5, o6, o7, o8, o9, o10, o11, some (.int r), some (due r), none, o15] ∧ HOk (c + j) h3 ∧ acc = vs.map D.int ∧ vs.length = j ∧ ∀ v ∈ vs, Np.Bt 134 v, ?_, ?_, ?_⟩
  · exact ⟨h, [], rfl, by simpa using H, rfl, rfl, fun k hk => by cases hk⟩
  · rintro j d' ρ acc hd' ⟨h3, vs, rfl, H3, rfl, le, ae⟩
    have hj : j < r.toNat := by
      have := (List.getElem?_eq_some_iff.1 hd').1
      simpa using this
    refine ⟨by rw [List.length_map, le]; exact Nat.le_refl _, _, rfl, ?_⟩
    and_intros
    refine u_draw H3 (by omega) (by decide) (by decide) ?_
    intro u h4 u0 u1 H4
    and_intros
    refine ⟨h4, vs ++ [u], rfl, H4, by rw [List.map_append]; rfl, by simp [le], fun v hv => ?_⟩
    rcases List.mem_append.1 hv with hv | hv
    · exact ae v hv
    · rw [List.mem_singleton.1 hv]; unfold Np.Bt; omega
  rintro ρ2 acc ⟨h3, vs, rfl, H3, rfl, le, ae⟩
  have le : vs.length = r.toNat := by simpa using le
  and_intros
  show wfx _ (F_law_asked [pD [], .lst (vs.map D.int)]) _
  by_cases q : 1 ≤ r ∧ r ≤ 40
  · refine f_eq (asked_told (worth_ok (n := r.toNat) (b := 134) (B := 0) (good_nil _) (by omega) (by omega) le ⟨ae, (fun _ h => nomatch h), fun _ h => nomatch h⟩)) ?_
    and_intros
    unfold due
    rw [if_pos q]
    refine Np.o_eqSame (p := .tuple [.str "told", .int 0, .none]) rfl (by decide +kernel) ?_
    and_intros
    exact ⟨rfl, rfl⟩
  · refine f_eq (asked_values (worth_len (n := 1) (good_nil _) (by decide) (by decide) ?_)) ?_
    · unfold fit
      rw [show szD 1 [] = 0 from rfl, if_pos rfl, List.length_map, le]
      by_cases a : 1 ≤ r
      · rw [decide_eq_false (show ¬ ((r.toNat : Nat) : Int) ≤ 40 by omega), Bool.and_false]
      · rw [decide_eq_false (show ¬ (1 : Int) ≤ ((r.toNat : Nat) : Int) by omega), Bool.false_and]
    and_intros
    unfold due
    rw [if_neg q]
    refine Np.o_eqSame (p := .tuple [.str "values", .none, .none]) rfl sh_values ?_
    and_intros
    exact ⟨rfl, rfl⟩
theorem rest3_ok {sc h d2 d3 d4 : D} {c n : Nat} {p q : List Np.Tm} {vs : List Int} (H : HOk c h) (hc : c < 2 ^ 31) (h1 : 1 ≤ n) (h2 : n ≤ 40) (hp : Np.Pol n p) (hq : Np.Pol n q) (p0 : p ≠ []) (hl : vs.length = n) (hv : ∀ v ∈ vs, Np.Bt 134 v) {o o2 : Option D} :
    wpx (fun e ρ => noF e (outsOf [] ρ)) ((mSeq (mSet 9 (mCall0 F_worth (mCons (mVar 5) (mCons (mVar 7) mNil)))) (mSeq (mSet 10 (mCall0 F_worth (mCons (mVar 6) (mCons (mVar 7) mNil)))) (mSeq (mIfS (mOr (mNot (mTest (mCall0 F_law_whole (mCons (mVar 9) mNil)))) (mOr (mNot (mTest (mCall0 F_law_whole (mCons (mVar 10) mNil)))) (mTest (m2 neD (mPair (mVar 7) (mVar 8)))))) (mRet (mC (.bl false))) mNx) (mSeq (mIfS (mOr (mTest (m2 neD (mPair (mVar 9) (mCall0 F_law_worth (mCons (mVar 5) (mCons (mVar 8) mNil)))))) (mTest (m2 neD (mPair (mVar 10) (mCall0 F_law_worth (mCons (mVar 6) (mCons (mVar 8) mNil))))))) (mRet (mC (.bl false))) mNx) (mSeq (mIfS (mOr (mTest (m2 neD (mPair (mCall0 F_worth (mCons (mCall0 F_plus (mCons (mVar 5) (mCons (mVar 6) mNil))) (mCons (mVar 7) mNil))) (m2 addD (mPair (mVar 9) (mVar 10)))))) (mTest (m2 neD (mPair (mCall0 F_worth (mCons (mCall0 F_times (mCons (mVar 5) (mCons (mVar 6) mNil))) (mCons (mVar 7) mNil))) (m2 mulD (mPair (mVar 9) (mVar 10))))))) (mRet (mC (.bl false))) mNx) (mSeq (mSet 11 (mCall1 F_law_bad 0 1 (mIo (mCons (mVar 8) mNil)))) (mSeq (mIfS (mOr (mTest (m2 neD (mPair (mCall0 F_law_asked (mCons (mVar 5) (mCons (mVar 11) mNil))) (mTup (mCons (mC (.str "values")) (mCons (mC .non) (mCons (mC .non) mNil))))))) (mTest (m2 neD (mPair (mCall0 F_law_asked (mCons (mLst (mCons (mVar 5) mNil)) (mCons (mVar 11) mNil))) (mTup (mCons (mC (.str "polynomial")) (mCons (mC .non) (mCons (mC (.int 0)) mNil)))))))) (mRet (mC (.bl false))) mNx) (mSeq (mIfS (mOr (mTest (m2 neD (mPair (mCall0 F_law_asked (mCons (mVar 5) (mCons (mVar 7) mNil))) (mTup (mCons (mC (.str "told")) (mCons (mVar 9) (mCons (mC .non) mNil))))))) (mTest (m2 neD (mPair (mVar 7) (mVar 8))))) (mRet (mC (.bl false))) mNx) (mSeq (mSet 12 (mCall1 F_law_draw 0 1 (mIo (mCons (mC (.int 43)) mNil)))) (mSeq (mSet 13 (mTup (mCons (mC (.str "values")) (mCons (mC .non) (mCons (mC .non) mNil))))) (mSeq (mIfS (mTest (mChain leD leD (mC (.int 1)) (mVar 12) (mC (.int 40)))) (mSet 13 (mTup (mCons (mC (.str "told")) (mCons (mC (.int 0)) (mCons (mC .non) mNil))))) mNx) (mRet (m2 eqD (mPair (mCall0 F_law_asked (mCons (mTup mNil) (mCons (mLc (mArgI asR1 (mCons (mVar 12) mNil)) (gNm 14) mYes (mCall1 F_law_draw 0 1 (mIo (mCons (mC (.int 5)) mNil))) [14]) mNil))) (mVar 13))))))))))))))) [some sc, some h, some d2, some d3, some d4, some (pD p), some (pD q), some (.lst (vs.map D.int)), some (.lst (vs.map D.int)), none, none, none, none, none, o, o2]) (wfe [] fun d outs => d = .bl true ∧ outs = []) := by
  have lp : ∀ t ∈ p, t.2.length = vs.length := fun t ht => (hp.good.len t ht).trans hl.symm
  have lq : ∀ t ∈ q, t.2.length = vs.length := fun t ht => (hq.good.len t ht).trans hl.symm
  have xp : ∀ t ∈ p, ∀ k ∈ t.2, k < 2 ^ 40 := fun t ht k hk => by have := hp.ex t ht k hk; omega
  have xq : ∀ t ∈ q, ∀ k ∈ t.2, k < 2 ^ 40 := fun t ht k hk => by have := hq.ex t ht k hk; omega
  have wp' := worth_ok (vs := vs) hp.good h1 h2 hl (hp.fit h2 hv)
  have wq' := worth_ok (vs := vs) hq.good h1 h2 hl (hq.fit h2 hv)
  and_intros
  refine f_eq wp' ?_
  and_intros
  refine f_eq wq' ?_
  and_intros
  refine f_eq law_whole_ok ?_
  and_intros
  refine f_eq law_whole_ok ?_
  and_intros
  refine Np.o_neInts ?_
  rw [decide_eq_true rfl]
  and_intros
  refine f_eq (law_worth_ok lp (by omega) xp (hp.fit h2 hv)) ?_
  and_intros
  rw [decide_eq_true rfl]
  and_intros
  refine f_eq (law_worth_ok lq (by omega) xq (hq.fit h2 hv)) ?_
  and_intros
  rw [decide_eq_true rfl]
  and_intros
  refine f_use (plus_ok hp.good hq.good h1 h2 (by have := hp.len; omega) (by have := hq.len; omega)) ?_
  rintro d outs ⟨r, rfl, rfl, pr⟩
  and_intros
  refine f_eq (worth_ok (vs := vs) pr.good h1 h2 hl (Np.plus_fit hp hq h2 hv pr)) ?_
  and_intros
  rw [decide_eq_true (show Np.val vs r = Np.val vs p + Np.val vs q from pr.li _)]
  and_intros
  refine f_use (times_ok hp.good hq.good h1 h2 hp.co hq.co (by omega) (by have := hp.len; omega) (by have := hq.len; omega)) ?_
  rintro d outs ⟨r2, rfl, rfl, pr2⟩
  and_intros
  refine f_eq (worth_ok (vs := vs) pr2.good h1 h2 hl (Np.times_fit hp hq h2 hv pr2)) ?_
  and_intros
  refine Np.o_mulD (hp.val h2 hv) (hq.val h2 hv) (by omega) ?_
  and_intros
  rw [decide_eq_true (show Np.val vs r2 = Np.val vs p * Np.val vs q from (pr2.li _).trans (Np.val_mul hp.good.len hq.good.len))]
  and_intros
  refine u_bad H (by omega) (by omega) (by omega) ?_
  intro bd h4 hb H4
  and_intros
  refine f_eq (asked_values (bad_worth hp.good p0 h1 h2 hl hb)) ?_
  and_intros
  refine Np.o_neSame (p := .tuple [.str "values", .none, .none]) rfl sh_values ?_
  and_intros
  refine f_eq (asked_poly worth_lst) ?_
  and_intros
  refine Np.o_neSame (p := .tuple [.str "polynomial", .none, .int 0]) rfl sh_poly ?_
  and_intros
  refine f_eq (asked_told wp') ?_
  and_intros
  refine Np.o_neSame (p := .tuple [.str "told", .int (Np.val vs p), .none]) rfl (shaped_told _ _ (by decide +kernel)) ?_
  and_intros
  refine Np.o_neInts ?_
  rw [decide_eq_true rfl]
  and_intros
  refine u_draw H4 (by omega) (by decide) (by decide) ?_
  intro r h5 r0 r1 H5
  and_intros
  refine x_leI ?_
  by_cases a1 : 1 ≤ r
  · rw [decide_eq_true a1]
    and_intros
    by_cases a2 : r ≤ 40
    · rw [decide_eq_true a2]
      refine i_t (w_set (w_tup (w_cons (w_c (w_cons (w_c (w_cons (w_c (w_nil (x_slot (by with_unfolding_all exact of_decide_eq_true rfl) (q_nx ?_)))))))))))
      have ed : D.tup [.str "told", .int 0, .non] = due r := by unfold due; rw [if_pos ⟨a1, a2⟩]
      rw [ed]
      exact rest4_ok H5 (by omega) r0 r1
    · rw [decide_eq_false a2]
      refine i_f (w_nx (q_nx ?_))
      have ed : D.tup [.str "values", .non, .non] = due r := by unfold due; rw [if_neg fun z => a2 z.2]
      rw [ed]
      exact rest4_ok H5 (by omega) r0 r1
  · rw [decide_eq_false a1]
    refine i_f (x_bl (i_f (w_nx (q_nx ?_))))
    have ed : D.tup [.str "values", .non, .non] = due r := by unfold due; rw [if_neg fun z => a1 z.1]
    rw [ed]
    exact rest4_ok H5 (by omega) r0 r1
theorem rest2_ok {sc h : D} {c n most high : Nat} {p q : List Np.Tm} (H : HOk c h) (hc : c < 2 ^ 30) (h1 : 1 ≤ n) (h2 : n ≤ 40) (hp : Np.Pol n p) (hq : Np.Pol n q) (p0 : p ≠ []) {o : Option D} :
    wpx (fun e ρ => noF e (outsOf [] ρ)) ((mSeq (mSetO 7 (mLc (mArgI asR1 (mCons (mVar 2) mNil)) (gNm 14) mYes (mCall1 F_law_number 0 1 (mIo mNil)) [14])) (mSeq (mSetO 8 (mLc (mSeqI (mVar 7)) (gNm 15) mYes (mVar 15) [15])) (mSeq (mSet 9 (mCall0 F_worth (mCons (mVar 5) (mCons (mVar 7) mNil)))) (mSeq (mSet 10 (mCall0 F_worth (mCons (mVar 6) (mCons (mVar 7) mNil)))) (mSeq (mIfS (mOr (mNot (mTest (mCall0 F_law_whole (mCons (mVar 9) mNil)))) (mOr (mNot (mTest (mCall0 F_law_whole (mCons (mVar 10) mNil)))) (mTest (m2 neD (mPair (mVar 7) (mVar 8)))))) (mRet (mC (.bl false))) mNx) (mSeq (mIfS (mOr (mTest (m2 neD (mPair (mVar 9) (mCall0 F_law_worth (mCons (mVar 5) (mCons (mVar 8) mNil)))))) (mTest (m2 neD (mPair (mVar 10) (mCall0 F_law_worth (mCons (mVar 6) (mCons (mVar 8) mNil))))))) (mRet (mC (.bl false))) mNx) (mSeq (mIfS (mOr (mTest (m2 neD (mPair (mCall0 F_worth (mCons (mCall0 F_plus (mCons (mVar 5) (mCons (mVar 6) mNil))) (mCons (mVar 7) mNil))) (m2 addD (mPair (mVar 9) (mVar 10)))))) (mTest (m2 neD (mPair (mCall0 F_worth (mCons (mCall0 F_times (mCons (mVar 5) (mCons (mVar 6) mNil))) (mCons (mVar 7) mNil))) (m2 mulD (mPair (mVar 9) (mVar 10))))))) (mRet (mC (.bl false))) mNx) (mSeq (mSet 11 (mCall1 F_law_bad 0 1 (mIo (mCons (mVar 8) mNil)))) (mSeq (mIfS (mOr (mTest (m2 neD (mPair (mCall0 F_law_asked (mCons (mVar 5) (mCons (mVar 11) mNil))) (mTup (mCons (mC (.str "values")) (mCons (mC .non) (mCons (mC .non) mNil))))))) (mTest (m2 neD (mPair (mCall0 F_law_asked (mCons (mLst (mCons (mVar 5) mNil)) (mCons (mVar 11) mNil))) (mTup (mCons (mC (.str "polynomial")) (mCons (mC .non) (mCons (mC (.int 0)) mNil)))))))) (mRet (mC (.bl false))) mNx) (mSeq (mIfS (mOr (mTest (m2 neD (mPair (mCall0 F_law_asked (mCons (mVar 5) (mCons (mVar 7) mNil))) (mTup (mCons (mC (.str "told")) (mCons (mVar 9) (mCons (mC .non) mNil))))))) (mTest (m2 neD (mPair (mVar 7) (mVar 8))))) (mRet (mC (.bl false))) mNx) (mSeq (mSet 12 (mCall1 F_law_draw 0 1 (mIo (mCons (mC (.int 43)) mNil)))) (mSeq (mSet 13 (mTup (mCons (mC (.str "values")) (mCons (mC .non) (mCons (mC .non) mNil))))) (mSeq (mIfS (mTest (mChain leD leD (mC (.int 1)) (mVar 12) (mC (.int 40)))) (mSet 13 (mTup (mCons (mC (.str "told")) (mCons (mC (.int 0)) (mCons (mC .non) mNil))))) mNx) (mRet (m2 eqD (mPair (mCall0 F_law_asked (mCons (mTup mNil) (mCons (mLc (mArgI asR1 (mCons (mVar 12) mNil)) (gNm 14) mYes (mCall1 F_law_draw 0 1 (mIo (mCons (mC (.int 5)) mNil))) [14]) mNil))) (mVar 13))))))))))))))))) [some sc, some h, some (.int n), some (.int high), some (.int most), some (pD p), some (pD q), none, none, none, none, none, none, none, o, none]) (wfe [] fun d outs => d = .bl true ∧ outs = []) := by
  and_intros
  with_reducible refine w_lc ?_
  and_intros
  refine ⟨by rw [List.length_map, List.length_range]; show _ < 2 ^ 24; omega, fun j ρ acc => ∃ (h3 : D) (vs : List Int), ρ = [some sc, some h3, some (.int n), some (.int high), some (.int most), some (pD p), some (pD q), none, none, none, none, none, none, none, none, none] ∧ HOk (c + j * 4) h3 ∧ acc = vs.map D.int ∧ vs.length = j ∧ ∀ v ∈ vs, Np.Bt 134 v, ?_, ?_, ?_⟩
  · exact ⟨h, [], rfl, by simpa using H, rfl, rfl, fun k hk => by cases hk⟩
  · rintro j d' ρ acc hd' ⟨h3, vs, rfl, H3, rfl, le, ae⟩
    have hj : j < n := by
      have := (List.getElem?_eq_some_iff.1 hd').1
      simpa using this
    refine ⟨by rw [List.length_map, le]; exact Nat.le_refl _, _, rfl, ?_⟩
    and_intros
    refine u_number H3 (by omega) ?_
    intro u h4 bu H4
    and_intros
    refine ⟨h4, vs ++ [u], rfl, H4.mono (by omega), by rw [List.map_append]; rfl, by simp [le], fun v hv => ?_⟩
    rcases List.mem_append.1 hv with hv | hv
    · exact ae v hv
    · rw [List.mem_singleton.1 hv]; exact bu
  rintro ρ2 acc ⟨h3, vs, rfl, H3, rfl, le, ae⟩
  have le : vs.length = n := by simpa using le
  rw [List.length_map, List.length_range] at H3
  have H3 : HOk (c + n * 4) h3 := by simpa using H3
  and_intros
  refine w_mapT (l := vs) D.int D.int ?_
  and_intros
  refine ⟨rfl, by show _ < 2 ^ 24; omega, ?_, ?_⟩
  · intro a _
    refine ⟨_, rfl, ?_⟩
    and_intros
    exact ⟨rfl, rfl⟩
  refine x_slot (by with_unfolding_all exact of_decide_eq_true rfl) (x_objL (q_nx ?_))
  exact rest3_ok H3 (by omega) h1 h2 hp hq p0 le ae
theorem HOk.obj {c : Nat} {h : D} : HOk c h → isObj h = true := fun ⟨_, _, _, _, _, _, e, _⟩ => by subst e; rfl
theorem ones_pol {n : Nat} (h2 : n ≤ 40) : Np.Pol n [((3 : Int), List.replicate n 1)] := by
  have m1 : ∀ k ∈ List.replicate n 1, k = 1 := fun k hk => (List.mem_replicate.1 hk).2
  have key : ∀ t : Np.Tm, t ∈ [((3 : Int), List.replicate n 1)] → t = ((3 : Int), List.replicate n 1) := fun t ht => List.mem_singleton.1 ht
  refine ⟨⟨?_, ?_, ?_⟩, ?_, ?_, ?_, ?_⟩
  · intro t ht
    rw [key t ht]
    show (3 : Int) ≠ 0
    decide
  · intro t ht
    rw [key t ht]
    exact List.length_replicate
  · exact List.pairwise_singleton _ _
  · show 1 ≤ 6
    decide
  · intro t ht
    rw [key t ht]
    show (3 : Int).natAbs < 2 ^ 134
    decide
  · intro t ht
    rw [key t ht]
    show (List.replicate n 1).sum ≤ 300
    have := Np.sum_le (h := 1) (e := List.replicate n 1) (fun k hk => by rw [m1 k hk]; exact Nat.le_refl _)
    rw [List.length_replicate] at this
    omega
  · intro t ht k hk
    rw [key t ht] at hk
    rw [m1 k hk]
    decide
theorem ones_D (n : Nat) : D.tup [.tup [.int 3, .tup ((List.range n).map fun _ => D.int 1)]] = pD [((3 : Int), List.replicate n 1)] := by
  have e : ((List.range n).map fun _ => D.int 1) = (Np.zI (List.replicate n 1)).map D.int := by
    unfold Np.zI
    rw [List.map_replicate, List.map_replicate]
    exact List.eq_replicate_iff.2 ⟨by simp, fun d hd => by obtain ⟨_, _, rfl⟩ := List.mem_map.1 hd; rfl⟩
  rw [e]
  rfl
theorem rest1_ok {sc h : D} {c n most high : Nat} (H : HOk c h) (hc : c < 2 ^ 29) (h1 : 1 ≤ n) (h2 : n ≤ 40) (hm : most ≤ 6) (hh : high ≤ 100) (hs : n * high ≤ 300) :
    wpx (fun e ρ => noF e (outsOf [] ρ)) ((mSeq (mSet 5 (mCall1 F_law_poly 0 1 (mIo (mCons (mVar 2) (mCons (mVar 4) (mCons (mVar 3) mNil)))))) (mSeq (mSet 6 (mCall1 F_law_poly 0 1 (mIo (mCons (mVar 2) (mCons (mVar 4) (mCons (mVar 3) mNil)))))) (mSeq (mIfS (mTest (m2 eqD (mPair (mVar 5) (mTup mNil)))) (mSet 5 (mTup (mCons (mTup (mCons (mC (.int 3)) (mCons (mArg oTup (mCons (mLc (mArgI asR1 (mCons (mVar 2) mNil)) (gNm 14) mYes (mC (.int 1)) [14]) mNil)) mNil))) mNil))) mNx) (mSeq (mSetO 7 (mLc (mArgI asR1 (mCons (mVar 2) mNil)) (gNm 14) mYes (mCall1 F_law_number 0 1 (mIo mNil)) [14])) (mSeq (mSetO 8 (mLc (mSeqI (mVar 7)) (gNm 15) mYes (mVar 15) [15])) (mSeq (mSet 9 (mCall0 F_worth (mCons (mVar 5) (mCons (mVar 7) mNil)))) (mSeq (mSet 10 (mCall0 F_worth (mCons (mVar 6) (mCons (mVar 7) mNil)))) (mSeq (mIfS (mOr (mNot (mTest (mCall0 F_law_whole (mCons (mVar 9) mNil)))) (mOr (mNot (mTest (mCall0 F_law_whole (mCons (mVar 10) mNil)))) (mTest (m2 neD (mPair (mVar 7) (mVar 8)))))) (mRet (mC (.bl false))) mNx) (mSeq (mIfS (mOr (mTest (m2 neD (mPair (mVar 9) (mCall0 F_law_worth (mCons (mVar 5) (mCons (mVar 8) mNil)))))) (mTest (m2 neD (mPair (mVar 10) (mCall0 F_law_worth (mCons (mVar 6) (mCons (mVar 8) mNil))))))) (mRet (mC (.bl false))) mNx) (mSeq (mIfS (mOr (mTest (m2 neD (mPair (mCall0 F_worth (mCons (mCall0 F_plus (mCons (mVar 5) (mCons (mVar 6) mNil))) (mCons (mVar 7) mNil))) (m2 addD (mPair (mVar 9) (mVar 10)))))) (mTest (m2 neD (mPair (mCall0 F_worth (mCons (mCall0 F_times (mCons (mVar 5) (mCons (mVar 6) mNil))) (mCons (mVar 7) mNil))) (m2 mulD (mPair (mVar 9) (mVar 10))))))) (mRet (mC (.bl false))) mNx) (mSeq (mSet 11 (mCall1 F_law_bad 0 1 (mIo (mCons (mVar 8) mNil)))) (mSeq (mIfS (mOr (mTest (m2 neD (mPair (mCall0 F_law_asked (mCons (mVar 5) (mCons (mVar 11) mNil))) (mTup (mCons (mC (.str "values")) (mCons (mC .non) (mCons (mC .non) mNil))))))) (mTest (m2 neD (mPair (mCall0 F_law_asked (mCons (mLst (mCons (mVar 5) mNil)) (mCons (mVar 11) mNil))) (mTup (mCons (mC (.str "polynomial")) (mCons (mC .non) (mCons (mC (.int 0)) mNil)))))))) (mRet (mC (.bl false))) mNx) (mSeq (mIfS (mOr (mTest (m2 neD (mPair (mCall0 F_law_asked (mCons (mVar 5) (mCons (mVar 7) mNil))) (mTup (mCons (mC (.str "told")) (mCons (mVar 9) (mCons (mC .non) mNil))))))) (mTest (m2 neD (mPair (mVar 7) (mVar 8))))) (mRet (mC (.bl false))) mNx) (mSeq (mSet 12 (mCall1 F_law_draw 0 1 (mIo (mCons (mC (.int 43)) mNil)))) (mSeq (mSet 13 (mTup (mCons (mC (.str "values")) (mCons (mC .non) (mCons (mC .non) mNil))))) (mSeq (mIfS (mTest (mChain leD leD (mC (.int 1)) (mVar 12) (mC (.int 40)))) (mSet 13 (mTup (mCons (mC (.str "told")) (mCons (mC (.int 0)) (mCons (mC .non) mNil))))) mNx) (mRet (m2 eqD (mPair (mCall0 F_law_asked (mCons (mTup mNil) (mCons (mLc (mArgI asR1 (mCons (mVar 12) mNil)) (gNm 14) mYes (mCall1 F_law_draw 0 1 (mIo (mCons (mC (.int 5)) mNil))) [14]) mNil))) (mVar 13)))))))))))))))))))) [some sc, some h, some (.int n), some (.int high), some (.int most), none, none, none, none, none, none, none, none, none, none, none]) (wfe [] fun d outs => d = .bl true ∧ outs = []) := by
  generalize hR : (mSeq (mSetO 7 (mLc (mArgI asR1 (mCons (mVar 2) mNil)) (gNm 14) mYes (mCall1 F_law_number 0 1 (mIo mNil)) [14])) (mSeq (mSetO 8 (mLc (mSeqI (mVar 7)) (gNm 15) mYes (mVar 15) [15])) (mSeq (mSet 9 (mCall0 F_worth (mCons (mVar 5) (mCons (mVar 7) mNil)))) (mSeq (mSet 10 (mCall0 F_worth (mCons (mVar 6) (mCons (mVar 7) mNil)))) (mSeq (mIfS (mOr (mNot (mTest (mCall0 F_law_whole (mCons (mVar 9) mNil)))) (mOr (mNot (mTest (mCall0 F_law_whole (mCons (mVar 10) mNil)))) (mTest (m2 neD (mPair (mVar 7) (mVar 8)))))) (mRet (mC (.bl false))) mNx) (mSeq (mIfS (mOr (mTest (m2 neD (mPair (mVar 9) (mCall0 F_law_worth (mCons (mVar 5) (mCons (mVar 8) mNil)))))) (mTest (m2 neD (mPair (mVar 10) (mCall0 F_law_worth (mCons (mVar 6) (mCons (mVar 8) mNil))))))) (mRet (mC (.bl false))) mNx) (mSeq (mIfS (mOr (mTest (m2 neD (mPair (mCall0 F_worth (mCons (mCall0 F_plus (mCons (mVar 5) (mCons (mVar 6) mNil))) (mCons (mVar 7) mNil))) (m2 addD (mPair (mVar 9) (mVar 10)))))) (mTest (m2 neD (mPair (mCall0 F_worth (mCons (mCall0 F_times (mCons (mVar 5) (mCons (mVar 6) mNil))) (mCons (mVar 7) mNil))) (m2 mulD (mPair (mVar 9) (mVar 10))))))) (mRet (mC (.bl false))) mNx) (mSeq (mSet 11 (mCall1 F_law_bad 0 1 (mIo (mCons (mVar 8) mNil)))) (mSeq (mIfS (mOr (mTest (m2 neD (mPair (mCall0 F_law_asked (mCons (mVar 5) (mCons (mVar 11) mNil))) (mTup (mCons (mC (.str "values")) (mCons (mC .non) (mCons (mC .non) mNil))))))) (mTest (m2 neD (mPair (mCall0 F_law_asked (mCons (mLst (mCons (mVar 5) mNil)) (mCons (mVar 11) mNil))) (mTup (mCons (mC (.str "polynomial")) (mCons (mC .non) (mCons (mC (.int 0)) mNil)))))))) (mRet (mC (.bl false))) mNx) (mSeq (mIfS (mOr (mTest (m2 neD (mPair (mCall0 F_law_asked (mCons (mVar 5) (mCons (mVar 7) mNil))) (mTup (mCons (mC (.str "told")) (mCons (mVar 9) (mCons (mC .non) mNil))))))) (mTest (m2 neD (mPair (mVar 7) (mVar 8))))) (mRet (mC (.bl false))) mNx) (mSeq (mSet 12 (mCall1 F_law_draw 0 1 (mIo (mCons (mC (.int 43)) mNil)))) (mSeq (mSet 13 (mTup (mCons (mC (.str "values")) (mCons (mC .non) (mCons (mC .non) mNil))))) (mSeq (mIfS (mTest (mChain leD leD (mC (.int 1)) (mVar 12) (mC (.int 40)))) (mSet 13 (mTup (mCons (mC (.str "told")) (mCons (mC (.int 0)) (mCons (mC .non) mNil))))) mNx) (mRet (m2 eqD (mPair (mCall0 F_law_asked (mCons (mTup mNil) (mCons (mLc (mArgI asR1 (mCons (mVar 12) mNil)) (gNm 14) mYes (mCall1 F_law_draw 0 1 (mIo (mCons (mC (.int 5)) mNil))) [14]) mNil))) (mVar 13))))))))))))))))) = RL
  and_intros
  refine u_poly (n := n) (most := most) (high := high) H (by omega) h2 (by omega) (by omega) ?_
  intro p h3 D3 H3
  and_intros
  refine u_poly (n := n) (most := most) (high := high) H3 (by omega) h2 (by omega) (by omega) ?_
  intro q h4 D4 H4
  and_intros
  show wo (eqD (pD p) (pD [])) _ _
  refine Np.o_eqP ?_
  have pp := D3.pol hm hh hs
  have pq := D4.pol hm hh hs
  by_cases e : p = []
  · rw [decide_eq_true e]
    and_intros
    with_reducible refine w_mapT (l := List.range n) (fun k : Nat => D.int (k : Int)) (fun _ => D.int 1) ?_
    and_intros
    refine ⟨rfl, by rw [List.length_range]; show _ < 2 ^ 24; omega, ?_, ?_⟩
    · intro a _
      refine ⟨_, rfl, ?_⟩
      and_intros
      exact ⟨rfl, rfl⟩
    and_intros
    rw [ones_D]
    show wpx _ (RL [some sc, some h4, some (.int n), some (.int high), some (.int most), some (pD [((3 : Int), List.replicate n 1)]), some (pD q), none, none, none, none, none, none, none, none, none]) _
    rw [← hR]
    with_reducible refine rest2_ok H4 ?_ h1 h2 (ones_pol h2) pq (List.cons_ne_nil _ _)
    omega
  · rw [decide_eq_false e]
    and_intros
    show wpx _ (RL [some sc, some h4, some (.int n), some (.int high), some (.int most), some (pD p), some (pD q), none, none, none, none, none, none, none, none, none]) _
    rw [← hR]
    with_reducible refine rest2_ok H4 ?_ h1 h2 pp pq e
    omega
theorem law_ok (ns : List Int) (hn : ns.length ≤ 63) : wf (F_law [.lst (ns.map D.int)]) fun d outs => d = .bl true ∧ outs = [] := by
  unfold F_law
  with_reducible refine w_fn ?_
  unfold m_law
  generalize hR : (mSeq (mSet 5 (mCall1 F_law_poly 0 1 (mIo (mCons (mVar 2) (mCons (mVar 4) (mCons (mVar 3) mNil)))))) (mSeq (mSet 6 (mCall1 F_law_poly 0 1 (mIo (mCons (mVar 2) (mCons (mVar 4) (mCons (mVar 3) mNil)))))) (mSeq (mIfS (mTest (m2 eqD (mPair (mVar 5) (mTup mNil)))) (mSet 5 (mTup (mCons (mTup (mCons (mC (.int 3)) (mCons (mArg oTup (mCons (mLc (mArgI asR1 (mCons (mVar 2) mNil)) (gNm 14) mYes (mC (.int 1)) [14]) mNil)) mNil))) mNil))) mNx) (mSeq (mSetO 7 (mLc (mArgI asR1 (mCons (mVar 2) mNil)) (gNm 14) mYes (mCall1 F_law_number 0 1 (mIo mNil)) [14])) (mSeq (mSetO 8 (mLc (mSeqI (mVar 7)) (gNm 15) mYes (mVar 15) [15])) (mSeq (mSet 9 (mCall0 F_worth (mCons (mVar 5) (mCons (mVar 7) mNil)))) (mSeq (mSet 10 (mCall0 F_worth (mCons (mVar 6) (mCons (mVar 7) mNil)))) (mSeq (mIfS (mOr (mNot (mTest (mCall0 F_law_whole (mCons (mVar 9) mNil)))) (mOr (mNot (mTest (mCall0 F_law_whole (mCons (mVar 10) mNil)))) (mTest (m2 neD (mPair (mVar 7) (mVar 8)))))) (mRet (mC (.bl false))) mNx) (mSeq (mIfS (mOr (mTest (m2 neD (mPair (mVar 9) (mCall0 F_law_worth (mCons (mVar 5) (mCons (mVar 8) mNil)))))) (mTest (m2 neD (mPair (mVar 10) (mCall0 F_law_worth (mCons (mVar 6) (mCons (mVar 8) mNil))))))) (mRet (mC (.bl false))) mNx) (mSeq (mIfS (mOr (mTest (m2 neD (mPair (mCall0 F_worth (mCons (mCall0 F_plus (mCons (mVar 5) (mCons (mVar 6) mNil))) (mCons (mVar 7) mNil))) (m2 addD (mPair (mVar 9) (mVar 10)))))) (mTest (m2 neD (mPair (mCall0 F_worth (mCons (mCall0 F_times (mCons (mVar 5) (mCons (mVar 6) mNil))) (mCons (mVar 7) mNil))) (m2 mulD (mPair (mVar 9) (mVar 10))))))) (mRet (mC (.bl false))) mNx) (mSeq (mSet 11 (mCall1 F_law_bad 0 1 (mIo (mCons (mVar 8) mNil)))) (mSeq (mIfS (mOr (mTest (m2 neD (mPair (mCall0 F_law_asked (mCons (mVar 5) (mCons (mVar 11) mNil))) (mTup (mCons (mC (.str "values")) (mCons (mC .non) (mCons (mC .non) mNil))))))) (mTest (m2 neD (mPair (mCall0 F_law_asked (mCons (mLst (mCons (mVar 5) mNil)) (mCons (mVar 11) mNil))) (mTup (mCons (mC (.str "polynomial")) (mCons (mC .non) (mCons (mC (.int 0)) mNil)))))))) (mRet (mC (.bl false))) mNx) (mSeq (mIfS (mOr (mTest (m2 neD (mPair (mCall0 F_law_asked (mCons (mVar 5) (mCons (mVar 7) mNil))) (mTup (mCons (mC (.str "told")) (mCons (mVar 9) (mCons (mC .non) mNil))))))) (mTest (m2 neD (mPair (mVar 7) (mVar 8))))) (mRet (mC (.bl false))) mNx) (mSeq (mSet 12 (mCall1 F_law_draw 0 1 (mIo (mCons (mC (.int 43)) mNil)))) (mSeq (mSet 13 (mTup (mCons (mC (.str "values")) (mCons (mC .non) (mCons (mC .non) mNil))))) (mSeq (mIfS (mTest (mChain leD leD (mC (.int 1)) (mVar 12) (mC (.int 40)))) (mSet 13 (mTup (mCons (mC (.str "told")) (mCons (mC (.int 0)) (mCons (mC .non) mNil))))) mNx) (mRet (m2 eqD (mPair (mCall0 F_law_asked (mCons (mTup mNil) (mCons (mLc (mArgI asR1 (mCons (mVar 12) mNil)) (gNm 14) mYes (mCall1 F_law_draw 0 1 (mIo (mCons (mC (.int 5)) mNil))) [14]) mNil))) (mVar 13)))))))))))))))))))) = RL
  and_intros
  refine f_use (hand_ok hn) ?_
  rintro h outs ⟨H, rfl⟩
  and_intros
  refine ⟨H.obj, ?_⟩
  and_intros
  refine u_draw H (by decide) (by decide) (by decide) ?_
  intro r h1 a0 a1 H1
  obtain ⟨n, hnn⟩ := Int.eq_ofNat_of_zero_le a0
  subst hnn
  and_intros
  refine u_draw H1 (by decide) (by decide) (by decide) ?_
  intro r2 h2 b0 b1 H2
  and_intros
  have en : (1 : Int) + (n : Nat) = ((1 + n : Nat) : Int) := by omega
  by_cases q5 : r2 = 5
  · rw [decide_eq_true q5]
    and_intros
    refine u_draw H2 (by decide) (by decide) (by decide) ?_
    intro r3 h3 c0 c1 H3
    and_intros
    by_cases q7 : r3 = 7
    · rw [decide_eq_true q7]
      and_intros
      refine u_draw H3 (by decide) (by decide) (by decide) ?_
      intro r4 h4 e0 e1 H4
      obtain ⟨m, hm⟩ := Int.eq_ofNat_of_zero_le e0
      subst hm
      and_intros
      have em : (40 : Int) - (m : Nat) = ((40 - m : Nat) : Int) := by omega
      rw [em, ← hR]
      exact rest1_ok (n := 40 - m) (most := 2) (high := 1) H4 (by decide) (by omega) (by omega) (by decide) (by decide) (by omega)
    · rw [decide_eq_false q7]
      and_intros
      rw [en, ← hR]
      exact rest1_ok (n := 1 + n) (most := 5) (high := 60) H3 (by decide) (by omega) (by omega) (by decide) (by decide) (by omega)
  · rw [decide_eq_false q5]
    and_intros
    refine u_draw H2 (by decide) (by decide) (by decide) ?_
    intro r3 h3 c0 c1 H3
    and_intros
    by_cases q7 : r3 = 7
    · rw [decide_eq_true q7]
      and_intros
      refine u_draw H3 (by decide) (by decide) (by decide) ?_
      intro r4 h4 e0 e1 H4
      obtain ⟨m, hm⟩ := Int.eq_ofNat_of_zero_le e0
      subst hm
      and_intros
      have em : (40 : Int) - (m : Nat) = ((40 - m : Nat) : Int) := by omega
      rw [em, ← hR]
      exact rest1_ok (n := 40 - m) (most := 2) (high := 1) H4 (by decide) (by omega) (by omega) (by decide) (by decide) (by omega)
    · rw [decide_eq_false q7]
      and_intros
      rw [en, ← hR]
      exact rest1_ok (n := 1 + n) (most := 5) (high := 3) H3 (by decide) (by omega) (by omega) (by decide) (by decide) (by omega)
theorem law_holds (ns : List Int) (hn : ns.length ≤ 63) : ∃ outs, F_law [.lst (ns.map D.int)] = .ok (.bl true) outs := by
  obtain ⟨d, outs, e, h, _⟩ := wf_of (law_ok ns hn)
  subst h
  exact ⟨outs, e⟩
end Wk05
open PySem PySem.W PySem.Calls PyProof.Rows
set_option maxHeartbeats 0 in
theorem PySem.Challenge.cw_madeanew_k05_worth_holds : PySem.Challenge.rw_madeanew_k05_worth.Holds := by
  w_on; o_law
  refine HandSHeadRun.head_any (r := OpenLaw.row PySem.Challenge.rw_madeanew_k05_worth) (q := view (OpenLaw.row PySem.Challenge.rw_madeanew_k05_worth).prog [35]) (H := @Wk05.hk) (ob := @Wk05.ob) (M := 4000) (loose := @Wk05.loose) (d := HandSHeadRun.topDef (OpenLaw.row PySem.Challenge.rw_madeanew_k05_worth).prog 35) (kwd := []) @Wk05.ob_eq
    (by kernel_rfl) (fun s => by kernel_rfl) @Wk05.run (by kernel_rfl) (by kernel_rfl) (by kernel_rfl) (by rfl) (by first | assumption | decide +kernel) (by decide +kernel) ⟨rfl, rfl, rfl, rfl, rfl, by decide +kernel⟩ ?hw ?hc
  case hw => w_witness2
  case hc =>
    refine Ip.law_end (lw := PySem.Challenge.rw_madeanew_k05_worth) (nn := 63) (kk := 7) (xx := "_law_script") rfl (by decide) (by kernel_rfl) ⟨rfl, by decide, by decide⟩ ?F
    intro w mg fa h Y G hmg0
    obtain ⟨K, KX, c⟩ := Y
    have hmg : mg ("law" : PySem.Str) = some (.ref fa) := by
      have e : (HandSHeadRun.topDef (OpenLaw.row PySem.Challenge.rw_madeanew_k05_worth).prog 35).name = ("law" : PySem.Str) := by kernel_rfl
      rw [← e]
      exact hmg0
    obtain ⟨fd, hb, hF⟩ := Wk05.facts (P := PySem.Challenge.rw_madeanew_k05_worth.prog) (w := w) KX G hmg c (by kernel_rfl) (by kernel_rfl)
    exact ⟨K, fd, _, KX, hb, fun H a ns hl _ hS => Ip.law_sp (Wk05.law_holds ns hl) hS, fun base _ _ => hF base⟩
