import PyProof.Rows.All
import Wide.All
import OpenK.AllK
import Wide.FinOn
import HandS.ForMost
import HandS.ForExc
import HandS.Small
import HandS.Walk
import HandS.Wide
import HandS.Text
import HandS.IsInst
import HandS.Codes
import HandS.Deep
import PyProof.ListStr
import PyProof.Rows.SeqMore
import HandS.More
import HandS.Dict
import HandS.Comp
import HandS.DictComp
import HandS.ExcIs
import HandS.ExcOwn
import KE.GoesNew
import KE.GoesMore
import HandS.Iter
import HandS.RevTup
import HandS.Conv
import HandS.Defaults
import HandS.Head2
import HandS.HeadHook2
import HandS.HeadEnd
import PyProof.TupleOfStr
import KE.KStateDown
import HandS.Ends
import PySem.Challenge.RW_madeanew_k29_text_writer_runs
set_option Elab.async false
set_option linter.all false
set_option maxRecDepth 100000
namespace Ip
open PySem L2

/-! ## data by value -/
inductive D where
  | non | bl (b : Bool) | int (i : Int) | str (s : Str)
  | tup (ds : List D) | lst (ds : List D)
  | dic (ks ds : List D)
  | obj (c : Str) (ns : List Str) (ds : List D)
  deriving Inhabited

def kD : Key → D
  | .inl i => .int i
  | .inr x => .str x
def kT (k : List Key) : D := .tup (k.map kD)

/-- facts of the text: the written part, the classes' addresses -/
structure Gx where
  K : PySem.W.Frag
  ct : Str → Option Addr

mutual
/-- v stands for d in the heap H -/
inductive RV (g : Gx) (H : Hp) : D → V → Prop where
  | non : RV g H .non .non
  | bl (b : Bool) : RV g H (.bl b) (.bl b)
  | int (i : Int) : RV g H (.int i) (.int i)
  | str (x : Str) : RV g H (.str x) (.str x)
  | tup {a : Addr} {vs : List V} {ds : List D} : H a = some (.tup vs) → RVs g H ds vs → RV g H (.tup ds) (.ref a)
  | lst {a : Addr} {vs : List V} {ds : List D} : SqL g.K H a vs → RVs g H ds vs → RV g H (.lst ds) (.ref a)
  | dK {a : Addr} {ks : List Key} {vs : List V} {ds : List D} : Rd H a (.dK (ks.zip vs)) → ks.length = vs.length → RVs g H ds vs → RV g H (.dic (ks.map kD) ds) (.ref a)
  | dT {a : Addr} {ks : List (List Key)} {vs : List V} {ds : List D} : Rd H a (.dT (ks.zip vs)) → ks.length = vs.length → RVs g H ds vs → ks ≠ [] → RV g H (.dic (ks.map kT) ds) (.ref a)
  | obj {a C dx : Addr} {c : Str} {ns : List Str} {vs : List V} {ds : List D} : H a = some (.ins C dx (ns.zip vs)) → g.ct c = some C → ns.length = vs.length → RVs g H ds vs → RV g H (.obj c ns ds) (.ref a)
inductive RVs (g : Gx) (H : Hp) : List D → List V → Prop where
  | nil : RVs g H [] []
  | cons {d : D} {v : V} {ds : List D} {vs : List V} : RV g H d v → RVs g H ds vs → RVs g H (d :: ds) (v :: vs)
end

/-! ## heaps: a smaller one is kept (dicts up to their locks) -/
def NotD : HO → Prop
  | .dK _ => False
  | .dT _ => False
  | .frz _ (.dK _) => False
  | .frz _ (.dT _) => False
  | _ => True
structure HLe (A B : Hp) : Prop where
  o : ∀ b o, A b = some o → NotD o → B b = some o
  k : ∀ b kvs, Rd A b (.dK kvs) → Rd B b (.dK kvs)
  t : ∀ b kvs, Rd A b (.dT kvs) → Rd B b (.dT kvs)
theorem HLe.refl (A : Hp) : HLe A A := ⟨fun _ _ h _ => h, fun _ _ h => h, fun _ _ h => h⟩
theorem HLe.trans {A B C : Hp} (x : HLe A B) (y : HLe B C) : HLe A C :=
  ⟨fun b o h n => y.o b o (x.o b o h n) n, fun b k h => y.k b k (x.k b k h), fun b k h => y.t b k (x.t b k h)⟩
theorem HLe.of_same {A B : Hp} (s : Same A B) : HLe A B :=
  ⟨fun b o h _ => s b o h, fun b k h => h.elim (fun e => .inl (s _ _ e)) fun ⟨o, e⟩ => .inr ⟨o, s _ _ e⟩, fun b k h => h.elim (fun e => .inl (s _ _ e)) fun ⟨o, e⟩ => .inr ⟨o, s _ _ e⟩⟩
theorem HLe.rd {A B : Hp} (s : HLe A B) {a : Addr} {u : HO} (hn : NotD u) (hf : ∀ o, NotD (.frz o u)) (h : Rd A a u) : Rd B a u :=
  h.elim (fun e => .inl (s.o _ _ e hn)) fun ⟨o, e⟩ => .inr ⟨o, s.o _ _ e (hf o)⟩
theorem HLe.sqT {A B : Hp} (s : HLe A B) {K : PySem.W.Frag} {a : Addr} {vs : List V} (h : SqT K A a vs) : SqT K B a vs :=
  h.elim (fun e => .inl (s.rd trivial (fun _ => trivial) e)) .inr
theorem HLe.sqL {A B : Hp} (s : HLe A B) {K : PySem.W.Frag} {a : Addr} {vs : List V} (h : SqL K A a vs) : SqL K B a vs :=
  h.elim (fun e => .inl (s.rd trivial (fun _ => trivial) e)) .inr
mutual
theorem RV.mono {g : Gx} {A B : Hp} (s : HLe A B) : ∀ {d : D} {v : V}, RV g A d v → RV g B d v
  | _, _, .non => .non
  | _, _, .bl b => .bl b
  | _, _, .int i => .int i
  | _, _, .str x => .str x
  | _, _, .tup h r => .tup (s.o _ _ h trivial) (RVs.mono s r)
  | _, _, .lst h r => .lst (s.sqL h) (RVs.mono s r)
  | _, _, .dK h l r => .dK (s.k _ _ h) l (RVs.mono s r)
  | _, _, .dT h l r n => .dT (s.t _ _ h) l (RVs.mono s r) n
  | _, _, .obj h c l r => .obj (s.o _ _ h trivial) c l (RVs.mono s r)
theorem RVs.mono {g : Gx} {A B : Hp} (s : HLe A B) : ∀ {ds : List D} {vs : List V}, RVs g A ds vs → RVs g B ds vs
  | _, _, .nil => .nil
  | _, _, .cons h r => .cons (RV.mono s h) (RVs.mono s r)
end
theorem RVs.length {g : Gx} {A : Hp} : ∀ {ds : List D} {vs : List V}, RVs g A ds vs → ds.length = vs.length
  | _, _, .nil => rfl
  | _, _, .cons _ r => by simp [RVs.length r]
theorem RVs.get {g : Gx} {A : Hp} : ∀ {ds : List D} {vs : List V} {i : Nat} {d : D}, RVs g A ds vs → ds[i]? = some d → ∃ v, vs[i]? = some v ∧ RV g A d v
  | _, _, _, _, .nil, e => by simp at e
  | _, _, 0, _, .cons r _, e => by simp at e; subst e; exact ⟨_, rfl, r⟩
  | _, _, i + 1, d, .cons _ t, e => by
    obtain ⟨u, h1, h2⟩ := RVs.get (i := i) (d := d) t (by simpa using e)
    exact ⟨u, by simpa using h1, h2⟩
theorem RVs.getV {g : Gx} {A : Hp} : ∀ {ds : List D} {vs : List V} {i : Nat} {v : V}, RVs g A ds vs → vs[i]? = some v → ∃ d, ds[i]? = some d ∧ RV g A d v
  | _, _, _, _, .nil, e => by simp at e
  | _, _, 0, _, .cons r _, e => by simp at e; subst e; exact ⟨_, rfl, r⟩
  | _, _, i + 1, d, .cons _ t, e => by
    obtain ⟨u, h1, h2⟩ := RVs.getV (i := i) (v := d) t (by simpa using e)
    exact ⟨u, by simpa using h1, h2⟩
theorem RVs.app {g : Gx} {A : Hp} : ∀ {ds es : List D} {vs ws : List V}, RVs g A ds vs → RVs g A es ws → RVs g A (ds ++ es) (vs ++ ws)
  | _, _, _, _, .nil, s => s
  | _, _, _, _, .cons r t, s => .cons r (RVs.app t s)
theorem RVs.set {g : Gx} {A : Hp} {d : D} {v : V} (r : RV g A d v) : ∀ {ds : List D} {vs : List V} (i : Nat), RVs g A ds vs → RVs g A (ds.set i d) (vs.set i v)
  | _, _, _, .nil => .nil
  | _, _, 0, .cons _ t => .cons r t
  | _, _, i + 1, .cons q t => .cons q (RVs.set r i t)
theorem RVs.take {g : Gx} {A : Hp} : ∀ {ds : List D} {vs : List V} (n : Nat), RVs g A ds vs → RVs g A (ds.take n) (vs.take n)
  | _, _, 0, _ => .nil
  | _, _, _ + 1, .nil => .nil
  | _, _, n + 1, .cons r t => .cons r (RVs.take n t)
theorem RVs.drop {g : Gx} {A : Hp} : ∀ {ds : List D} {vs : List V} (n : Nat), RVs g A ds vs → RVs g A (ds.drop n) (vs.drop n)
  | _, _, 0, r => r
  | _, _, _ + 1, .nil => .nil
  | _, _, n + 1, .cons _ t => RVs.drop n t
theorem RVs.eraseIdx {g : Gx} {A : Hp} : ∀ {ds : List D} {vs : List V} (n : Nat), RVs g A ds vs → RVs g A (ds.eraseIdx n) (vs.eraseIdx n)
  | _, _, _, .nil => .nil
  | _, _, 0, .cons _ t => t
  | _, _, n + 1, .cons r t => .cons r (RVs.eraseIdx n t)
theorem RVs.reverse {g : Gx} {A : Hp} {ds : List D} {vs : List V} (h : RVs g A ds vs) : RVs g A ds.reverse vs.reverse := by
  induction ds generalizing vs with
  | nil => cases h; exact .nil
  | cons d ds ih =>
    cases h with
    | cons r t =>
      rw [List.reverse_cons, List.reverse_cons]
      exact RVs.app (ih t) (.cons r .nil)
theorem RVs.ints {g : Gx} {A : Hp} : ∀ (ns : List Int), RVs g A (ns.map D.int) (ns.map V.int)
  | [] => .nil
  | n :: ns => .cons (.int n) (RVs.ints ns)
theorem RVs.of_ints {g : Gx} {A : Hp} : ∀ {ns : List Int} {vs : List V}, RVs g A (ns.map D.int) vs → vs = ns.map V.int
  | [], _, .nil => rfl
  | n :: ns, _, .cons (.int _) t => by rw [RVs.of_ints t]; rfl
theorem RVs.of_strs {g : Gx} {A : Hp} : ∀ {ns : List Str} {vs : List V}, RVs g A (ns.map D.str) vs → vs = ns.map V.str
  | [], _, .nil => rfl
  | n :: ns, _, .cons (.str _) t => by rw [RVs.of_strs t]; rfl

/-! ## masks -/
def mask (H : Hp) (M : List Addr) : Hp := fun a => if a ∈ M then none else H a
theorem mask_in {H : Hp} {M : List Addr} {a : Addr} (h : a ∈ M) : mask H M a = none := by unfold mask; rw [if_pos h]
theorem mask_out {H : Hp} {M : List Addr} {a : Addr} (h : a ∉ M) : mask H M a = H a := by unfold mask; rw [if_neg h]
theorem mask_some {H : Hp} {M : List Addr} {a : Addr} {o : HO} (h : mask H M a = some o) : a ∉ M ∧ H a = some o := by
  unfold mask at h
  by_cases q : a ∈ M
  · rw [if_pos q] at h; cases h
  · rw [if_neg q] at h; exact ⟨q, h⟩
theorem mask_same {H : Hp} {M : List Addr} : Same (mask H M) H := fun _ _ h => (mask_some h).2
theorem mask_sub {H : Hp} {M M' : List Addr} (h : ∀ a ∈ M', a ∈ M) : Same (mask H M) (mask H M') := fun b o e => by
  obtain ⟨h1, h2⟩ := mask_some e
  rw [mask_out (fun q => h1 (h b q))]; exact h2
theorem mask_congr {H : Hp} {M M' : List Addr} (h : ∀ a, a ∈ M ↔ a ∈ M') : mask H M = mask H M' := by
  funext a
  unfold mask
  by_cases q : a ∈ M
  · rw [if_pos q, if_pos ((h a).mp q)]
  · rw [if_neg q, if_neg fun z => q ((h a).mpr z)]
/-- all that is not masked is kept -/
theorem mask_keep {H H' : Hp} {M : List Addr} (s : ∀ b o, b ∉ M → H b = some o → H' b = some o) : Same (mask H M) (mask H' M) := fun b o e => by
  obtain ⟨h1, h2⟩ := mask_some e
  rw [mask_out h1]; exact s b o h1 h2
theorem RV.out {g : Gx} {H : Hp} {M : List Addr} {d : D} {v : V} (h : RV g (mask H M) d v) : RV g H d v := h.mono (.of_same mask_same)
theorem RVs.out {g : Gx} {H : Hp} {M : List Addr} {d : List D} {v : List V} (h : RVs g (mask H M) d v) : RVs g H d v := h.mono (.of_same mask_same)

/-! ## an object that is owned: what stands at a, its items within Hm -/
inductive Cont (g : Gx) (H Hm : Hp) (a : Addr) : D → Prop where
  | lst {vs : List V} {ds : List D} : H a = some (.lst vs) → RVs g Hm ds vs → Cont g H Hm a (.lst ds)
  | dK {ks : List Key} {vs : List V} {ds : List D} : H a = some (.dK (ks.zip vs)) → ks.length = vs.length → RVs g Hm ds vs → Cont g H Hm a (.dic (ks.map kD) ds)
  | dT {ks : List (List Key)} {vs : List V} {ds : List D} : H a = some (.dT (ks.zip vs)) → ks.length = vs.length → RVs g Hm ds vs → ks ≠ [] → Cont g H Hm a (.dic (ks.map kT) ds)
  | obj {C dx : Addr} {c : Str} {ns : List Str} {vs : List V} {ds : List D} : H a = some (.ins C dx (ns.zip vs)) → g.ct c = some C → ns.length = vs.length → RVs g Hm ds vs → Cont g H Hm a (.obj c ns ds)
theorem Cont.mono {g : Gx} {H H' A B : Hp} {a : Addr} {d : D} (e : ∀ o, H a = some o → H' a = some o) (s : HLe A B) (h : Cont g H A a d) : Cont g H' B a d := by
  cases h with
  | lst h r => exact .lst (e _ h) (r.mono s)
  | dK h l r => exact .dK (e _ h) l (r.mono s)
  | dT h l r n => exact .dT (e _ h) l (r.mono s) n
  | obj h c l r => exact .obj (e _ h) c l (r.mono s)
theorem Cont.trk {g : Gx} {H Hm : Hp} {a : Addr} {d : D} (h : Cont g H Hm a d) : H a ≠ none := by
  cases h with
  | lst h _ => rw [h]; simp
  | dK h _ _ => rw [h]; simp
  | dT h _ _ _ => rw [h]; simp
  | obj h _ _ _ => rw [h]; simp
/-- it is let go: from now on it is read alone -/
theorem Cont.rv {g : Gx} {H Hm : Hp} {a : Addr} {d : D} (h : Cont g H Hm a d) {Hn : Hp} (e : Hn a = H a) (s : HLe Hm Hn) : RV g Hn d (.ref a) := by
  cases h with
  | lst h r => exact .lst (.of (e.trans h)) (r.mono s)
  | dK h l r => exact .dK (.inl (e.trans h)) l (r.mono s)
  | dT h l r n => exact .dT (.inl (e.trans h)) l (r.mono s) n
  | obj h c l r => exact .obj (e.trans h) c l (r.mono s)
end Ip
namespace Ip
open PySem L2

abbrev Env := List (Option D)
structure Ex where
  cls : Str
  fld : Option D
inductive R (α : Type) where
  | ok (a : α) (ρ : Env) | exn (e : Ex) (ρ : Env) | bad
inductive Fl where
  | nx | rt (d : D) | bk | ct

/-- a def's activation: the classes, the heap at its entry, what its callers own, the parameters that it may change -/
structure Ac where
  ct : Str → Option Addr
  H0 : Hp
  hid : List Addr
  io : List Nat
  ioA : List Addr

def sa (σ : L2.St) (i : Nat) : Addr := match σ[i]? with
  | some (some (.ref a)) => a
  | _ => 0
theorem nem {Γ : List Nat} {i j : Nat} (h : i ∉ Γ) (hj : j ∈ Γ) : j ≠ i := fun e => h (e ▸ hj)
theorem sa_eq {σ : L2.St} {i : Nat} {a : Addr} (h : σ[i]? = some (some (.ref a))) : sa σ i = a := by unfold sa; rw [h]
theorem sa_set {σ : L2.St} {i j : Nat} {v : Option V} (h : j ≠ i) : sa (σ.set i v) j = sa σ j := by
  unfold sa; rw [List.getElem?_set_ne (Ne.symm h)]
def Ms (σ : L2.St) (hid : List Addr) (Γ : List Nat) : List Addr := hid ++ Γ.map (sa σ)
theorem mem_Ms {σ : L2.St} {hid : List Addr} {Γ : List Nat} {a : Addr} : a ∈ Ms σ hid Γ ↔ a ∈ hid ∨ ∃ i, i ∈ Γ ∧ sa σ i = a := by
  unfold Ms; rw [List.mem_append, List.mem_map]

section
variable (K : PySem.W.Frag) (C : Ac)
abbrev gx : Gx := ⟨K, C.ct⟩
structure ST (hid : List Addr) (Γ : List Nat) (ρ : Env) (σ : L2.St) (H : Hp) : Prop where
  len : ρ.length = σ.length
  sub : ∀ a ∈ C.hid, a ∈ hid
  trk : ∀ a ∈ hid, H a ≠ none
  tmp : ∀ a ∈ hid, a ∈ C.hid ∨ C.H0 a = none
  nd : (Γ.map (sa σ)).Nodup
  dis : ∀ i ∈ Γ, sa σ i ∉ hid
  own : ∀ i ∈ Γ, sa σ i ∈ C.ioA ∨ C.H0 (sa σ i) = none
  frm : HLe (mask C.H0 (C.hid ++ C.ioA)) (mask H (C.hid ++ C.ioA))
  frh : ∀ a ∈ C.hid, H a = C.H0 a
  gro : ∀ a, C.H0 a ≠ none → H a ≠ none
  io : ∀ i ∈ C.io, i ∈ Γ
  pin : C.io.map (sa σ) = C.ioA
  sl : ∀ i d, i ∉ Γ → ρ[i]? = some (some d) → ∃ v, σ[i]? = some (some v) ∧ RV (gx K C) (mask H (Ms σ hid Γ)) d v
  ow : ∀ i, i ∈ Γ → ∃ d, ρ[i]? = some (some d) ∧ σ[i]? = some (some (.ref (sa σ i))) ∧ Cont (gx K C) H (mask H (Ms σ hid Γ)) (sa σ i) d
end
/-- what a step keeps -/
structure Stp (M M' hid : List Addr) (H H' : Hp) : Prop where
  le : HLe (mask H M) (mask H' M')
  fx : ∀ a ∈ hid, H' a = H a
theorem Stp.refl (M hid : List Addr) (H : Hp) : Stp M M hid H H := ⟨.refl _, fun _ _ => rfl⟩
theorem Stp.trans {M1 M2 M3 h1 h2 : List Addr} {A B Cc : Hp} (x : Stp M1 M2 h1 A B) (y : Stp M2 M3 h2 B Cc) (s : ∀ a ∈ h1, a ∈ h2) : Stp M1 M3 h1 A Cc :=
  ⟨x.le.trans y.le, fun a h => (y.fx a (s a h)).trans (x.fx a h)⟩

/-- a value that has come: fz: read alone; else it is owned (fresh), or of no object; tm: its address -/
inductive Val (g : Gx) (H : Hp) (M : List Addr) : Bool → D → V → List Addr → Prop where
  | fz {d : D} {v : V} {b : Bool} : RV g (mask H M) d v → (b = true → ∀ a, v ≠ .ref a) → Val g H M b d v []
  | fr {d : D} {a : Addr} : Cont g H (mask H M) a d → Val g H M true d (.ref a) [a]

section
variable {K : PySem.W.Frag} {C : Ac} {hid : List Addr} {Γ : List Nat} {ρ : Env} {σ : L2.St} {H : Hp}
theorem ST.inj (S : ST K C hid Γ ρ σ H) {i j : Nat} (hi : i ∈ Γ) (hj : j ∈ Γ) (e : sa σ i = sa σ j) : i = j := by
  have nd := S.nd
  clear S
  induction Γ with
  | nil => cases hi
  | cons k r ih =>
    rw [List.map_cons, List.nodup_cons] at nd
    rcases List.mem_cons.mp hi with rfl | hi'
    · rcases List.mem_cons.mp hj with rfl | hj'
      · rfl
      · exact absurd (e ▸ List.mem_map_of_mem hj') nd.1
    · rcases List.mem_cons.mp hj with rfl | hj'
      · exact absurd (e ▸ List.mem_map_of_mem hi') nd.1
      · exact ih hi' hj' nd.2
theorem ST.trkM (S : ST K C hid Γ ρ σ H) : ∀ a ∈ Ms σ hid Γ, H a ≠ none := fun a ha => by
  rcases mem_Ms.mp ha with h | ⟨i, hi, rfl⟩
  · exact S.trk a h
  · obtain ⟨d, _, _, c⟩ := S.ow i hi
    exact c.trk
theorem nodup_of_map {α β : Type} {f : α → β} : ∀ {l : List α}, (l.map f).Nodup → l.Nodup
  | [], _ => List.nodup_nil
  | a :: l, h => by
    rw [List.map_cons, List.nodup_cons] at h
    exact List.nodup_cons.mpr ⟨fun q => h.1 (List.mem_map_of_mem q), nodup_of_map h.2⟩
theorem nodup_map_on {α β : Type} {f : α → β} : ∀ {l : List α}, l.Nodup → (∀ a ∈ l, ∀ b ∈ l, f a = f b → a = b) → (l.map f).Nodup
  | [], _, _ => List.nodup_nil
  | a :: l, h, hf => by
    rw [List.nodup_cons] at h
    rw [List.map_cons, List.nodup_cons]
    refine ⟨fun q => ?_, nodup_map_on h.2 fun x hx y hy => hf x (List.mem_cons_of_mem _ hx) y (List.mem_cons_of_mem _ hy)⟩
    obtain ⟨b, hb, e⟩ := List.mem_map.mp q
    have := hf b (List.mem_cons_of_mem _ hb) a List.mem_cons_self e
    exact h.1 (this ▸ hb)
/-- some owned slots are let go -/
theorem ST.weak (S : ST K C hid Γ ρ σ H) {Γ' : List Nat} (h : ∀ i ∈ Γ', i ∈ Γ) (nd : Γ'.Nodup) (io : ∀ i ∈ C.io, i ∈ Γ') : ST K C hid Γ' ρ σ H := by
  have hM : ∀ a, a ∈ Ms σ hid Γ' → a ∈ Ms σ hid Γ := fun a ha => by
    rcases mem_Ms.mp ha with q | ⟨i, hi, e⟩
    · exact mem_Ms.mpr (.inl q)
    · exact mem_Ms.mpr (.inr ⟨i, h i hi, e⟩)
  have le : HLe (mask H (Ms σ hid Γ)) (mask H (Ms σ hid Γ')) := .of_same (mask_sub hM)
  refine ⟨S.len, S.sub, S.trk, S.tmp, nodup_map_on nd fun a ha b hb e => S.inj (h a ha) (h b hb) e, fun i hi => S.dis i (h i hi), fun i hi => S.own i (h i hi), S.frm, S.frh, S.gro, io, S.pin, fun i d hi e => ?_, fun i hi => ?_⟩
  · by_cases q : i ∈ Γ
    · obtain ⟨d', e1, e2, c⟩ := S.ow i q
      rw [e] at e1; cases e1
      refine ⟨_, e2, c.rv ?_ le⟩
      rw [mask_out]
      intro z
      rcases mem_Ms.mp z with z | ⟨j, hj, ej⟩
      · exact S.dis i q z
      · exact hi (S.inj (h j hj) q ej ▸ hj)
    · obtain ⟨v, e1, r⟩ := S.sl i d q e
      exact ⟨v, e1, r.mono le⟩
  · obtain ⟨d, e1, e2, c⟩ := S.ow i (h i hi)
    exact ⟨d, e1, e2, c.mono (fun _ z => z) le⟩
theorem Ms_sub {σ : L2.St} {hid : List Addr} {Γ Γ' : List Nat} (h : ∀ i ∈ Γ', i ∈ Γ) : ∀ a, a ∈ Ms σ hid Γ' → a ∈ Ms σ hid Γ := fun a ha => by
  rcases mem_Ms.mp ha with q | ⟨i, hi, e⟩
  · exact mem_Ms.mpr (.inl q)
  · exact mem_Ms.mpr (.inr ⟨i, h i hi, e⟩)
theorem Ms_subH {σ : L2.St} {hid hid' : List Addr} {Γ : List Nat} (h : ∀ i ∈ hid', i ∈ hid) : ∀ a, a ∈ Ms σ hid' Γ → a ∈ Ms σ hid Γ := fun a ha => by
  rcases mem_Ms.mp ha with q | z
  · exact mem_Ms.mpr (.inl (h _ q))
  · exact mem_Ms.mpr (.inr z)
/-- temporaries are let go -/
theorem ST.forget (S : ST K C hid Γ ρ σ H) {hid' : List Addr} (h : ∀ a ∈ hid', a ∈ hid) (hs : ∀ a ∈ C.hid, a ∈ hid') : ST K C hid' Γ ρ σ H := by
  have le : HLe (mask H (Ms σ hid Γ)) (mask H (Ms σ hid' Γ)) := .of_same (mask_sub (Ms_subH h))
  refine ⟨S.len, hs, fun a ha => S.trk a (h a ha), fun a ha => S.tmp a (h a ha), S.nd, fun i hi q => S.dis i hi (h _ q), S.own, S.frm, S.frh, S.gro, S.io, S.pin, fun i d hi e => ?_, fun i hi => ?_⟩
  · obtain ⟨v, e1, r⟩ := S.sl i d hi e
    exact ⟨v, e1, r.mono le⟩
  · obtain ⟨d, e1, e2, c⟩ := S.ow i hi
    exact ⟨d, e1, e2, c.mono (fun _ z => z) le⟩
/-- the heap goes on, all that is not owned is kept, what is owned stands as it stood -/
theorem ST.step (S : ST K C hid Γ ρ σ H) {H' : Hp} (k : HLe (mask H (Ms σ hid Γ)) (mask H' (Ms σ hid Γ))) (f : ∀ a ∈ Ms σ hid Γ, H' a = H a) (gro : ∀ a, H a ≠ none → H' a ≠ none) : ST K C hid Γ ρ σ H' := by
  have fx : ∀ a ∈ hid, H' a = H a := fun a h => f a (mem_Ms.mpr (.inl h))
  -- the frame
  have frm : HLe (mask C.H0 (C.hid ++ C.ioA)) (mask H' (C.hid ++ C.ioA)) := by
    -- what C.H0 tracks outside is not owned, or it is a local's (then C.H0 does not track it)
    have out : ∀ b, b ∉ C.hid ++ C.ioA → C.H0 b ≠ none → b ∉ Ms σ hid Γ := fun b hb hn hM => by
      rcases mem_Ms.mp hM with q | ⟨i, hi, rfl⟩
      · rcases S.tmp b q with z | z
        · exact hb (List.mem_append_left _ z)
        · exact hn z
      · rcases S.own i hi with z | z
        · exact hb (List.mem_append_right _ z)
        · exact hn z
    refine ⟨fun b o e n => ?_, fun b kv e => ?_, fun b kv e => ?_⟩
    · obtain ⟨h1, h2⟩ := mask_some e
      have e2 := (mask_some (S.frm.o b o e n)).2
      have hM := out b h1 (by rw [h2]; simp)
      have := k.o b o (by rw [mask_out hM]; exact e2) n
      rw [mask_out hM] at this
      rw [mask_out h1]; exact this
    · have hb : b ∉ C.hid ++ C.ioA ∧ C.H0 b ≠ none := by
        rcases e with e | ⟨o, e⟩ <;> exact ⟨(mask_some e).1, by rw [(mask_some e).2]; simp⟩
      have hM := out b hb.1 hb.2
      have r1 := S.frm.k b kv e
      have r2 : Rd (mask H (Ms σ hid Γ)) b (.dK kv) := by
        rcases r1 with r | ⟨o, r⟩
        · exact .inl (by rw [mask_out hM]; exact (mask_some r).2)
        · exact .inr ⟨o, by rw [mask_out hM]; exact (mask_some r).2⟩
      rcases k.k b kv r2 with r | ⟨o, r⟩
      · exact .inl (by rw [mask_out hb.1]; exact (mask_some r).2)
      · exact .inr ⟨o, by rw [mask_out hb.1]; exact (mask_some r).2⟩
    · have hb : b ∉ C.hid ++ C.ioA ∧ C.H0 b ≠ none := by
        rcases e with e | ⟨o, e⟩ <;> exact ⟨(mask_some e).1, by rw [(mask_some e).2]; simp⟩
      have hM := out b hb.1 hb.2
      have r1 := S.frm.t b kv e
      have r2 : Rd (mask H (Ms σ hid Γ)) b (.dT kv) := by
        rcases r1 with r | ⟨o, r⟩
        · exact .inl (by rw [mask_out hM]; exact (mask_some r).2)
        · exact .inr ⟨o, by rw [mask_out hM]; exact (mask_some r).2⟩
      rcases k.t b kv r2 with r | ⟨o, r⟩
      · exact .inl (by rw [mask_out hb.1]; exact (mask_some r).2)
      · exact .inr ⟨o, by rw [mask_out hb.1]; exact (mask_some r).2⟩
  refine ⟨S.len, S.sub, fun a ha => gro a (S.trk a ha), S.tmp, S.nd, S.dis, S.own, frm, fun a ha => (fx a (S.sub a ha)).trans (S.frh a ha), fun a ha => gro a (S.gro a ha), S.io, S.pin, fun i d hi e => ?_, fun i hi => ?_⟩
  · obtain ⟨v, e1, r⟩ := S.sl i d hi e
    exact ⟨v, e1, r.mono k⟩
  · obtain ⟨d, e1, e2, c⟩ := S.ow i hi
    exact ⟨d, e1, e2, c.mono (fun o z => (f _ (mem_Ms.mpr (.inr ⟨i, hi, rfl⟩))).trans z) k⟩
/-- objects are new, none is changed -/
theorem ST.same (S : ST K C hid Γ ρ σ H) {H' : Hp} (k : Same H H') : ST K C hid Γ ρ σ H' := by
  refine S.step (.of_same (mask_keep fun b o _ e => k b o e)) (fun a ha => ?_) fun a ha => ?_
  · have := S.trkM a ha
    cases q : H a with
    | none => exact absurd q this
    | some o => exact k a o q
  · cases q : H a with
    | none => exact absurd q ha
    | some o => rw [k a o q]; simp
theorem ST.sameStp (S : ST K C hid Γ ρ σ H) {H' : Hp} (k : Same H H') : Stp (Ms σ hid Γ) (Ms σ hid Γ) hid H H' :=
  ⟨.of_same (mask_keep fun b o _ e => k b o e), fun a ha => by
    have := S.trk a ha
    cases q : H a with
    | none => exact absurd q this
    | some o => exact k a o q⟩
theorem same_upd {H : Hp} {p : Addr} {o : HO} (h : H p = none) : Same H (upd H p o) := fun b u e => by
  rw [upd_ne (ne_of_none e h)]; exact e
theorem ST.none_out (S : ST K C hid Γ ρ σ H) {p : Addr} (h : H p = none) : p ∉ Ms σ hid Γ := fun q => S.trkM p q h
/-- a temporary is held -/
theorem ST.hold (S : ST K C hid Γ ρ σ H) {p : Addr} {o : HO} (h : H p = none) : ST K C (p :: hid) Γ ρ σ (upd H p o) := by
  have hp := S.none_out h
  have h0 : C.H0 p = none := by
    cases q : C.H0 p with
    | none => rfl
    | some u => exact absurd h (S.gro p (by rw [q]; simp))
  have S1 := S.same (same_upd (o := o) h)
  have le : HLe (mask H (Ms σ hid Γ)) (mask (upd H p o) (Ms σ (p :: hid) Γ)) := .of_same fun b u e => by
    obtain ⟨e1, e2⟩ := mask_some e
    have hb : b ≠ p := ne_of_none e2 h
    rw [mask_out, upd_ne hb]; exact e2
    intro z
    rcases mem_Ms.mp z with z | z
    · rcases List.mem_cons.mp z with z | z
      · exact hb z
      · exact e1 (mem_Ms.mpr (.inl z))
    · exact e1 (mem_Ms.mpr (.inr z))
  refine ⟨S.len, fun a ha => List.mem_cons_of_mem _ (S.sub a ha), fun a ha => ?_, fun a ha => ?_, S.nd, fun i hi q => ?_, S.own, S1.frm, S1.frh, S1.gro, S.io, S.pin, fun i d hi e => ?_, fun i hi => ?_⟩
  · rcases List.mem_cons.mp ha with rfl | ha
    · rw [upd_same]; simp
    · exact S1.trk a ha
  · rcases List.mem_cons.mp ha with rfl | ha
    · exact .inr h0
    · exact S.tmp a ha
  · rcases List.mem_cons.mp q with q | q
    · exact hp (mem_Ms.mpr (.inr ⟨i, hi, q⟩))
    · exact S.dis i hi q
  · obtain ⟨v, e1, r⟩ := S.sl i d hi e
    exact ⟨v, e1, r.mono le⟩
  · obtain ⟨d, e1, e2, c⟩ := S.ow i hi
    exact ⟨d, e1, e2, c.mono (fun u z => same_upd h _ _ z) le⟩
theorem ST.holdStp (S : ST K C hid Γ ρ σ H) {p : Addr} {o : HO} (h : H p = none) : Stp (Ms σ hid Γ) (Ms σ (p :: hid) Γ) hid H (upd H p o) := by
  refine ⟨.of_same fun b u e => ?_, fun a ha => upd_ne fun z => S.trk a ha (z ▸ h)⟩
  obtain ⟨e1, e2⟩ := mask_some e
  have hb : b ≠ p := ne_of_none e2 h
  rw [mask_out, upd_ne hb]; exact e2
  intro z
  rcases mem_Ms.mp z with z | z
  · rcases List.mem_cons.mp z with z | z
    · exact hb z
    · exact e1 (mem_Ms.mpr (.inl z))
  · exact e1 (mem_Ms.mpr (.inr z))
theorem mask_updM {H : Hp} {M : List Addr} {a : Addr} {o : HO} (h : a ∈ M) : mask (upd H a o) M = mask H M := by
  funext b
  by_cases q : b ∈ M
  · rw [mask_in q, mask_in q]
  · rw [mask_out q, mask_out q, upd_ne (show b ≠ a from fun e => q (e ▸ h))]
/-- the object of an owned slot is changed -/
theorem ST.change (S : ST K C hid Γ ρ σ H) {i : Nat} (hi : i ∈ Γ) {o : HO} {d : D} (c : Cont (gx K C) (upd H (sa σ i) o) (mask H (Ms σ hid Γ)) (sa σ i) d) : ST K C hid Γ (ρ.set i (some d)) σ (upd H (sa σ i) o) := by
  have hM : sa σ i ∈ Ms σ hid Γ := mem_Ms.mpr (.inr ⟨i, hi, rfl⟩)
  have em := mask_updM (H := H) (o := o) hM
  have ne : ∀ b, b ∈ hid → b ≠ sa σ i := fun b hb e => S.dis i hi (e ▸ hb)
  have trk : ∀ a, H a ≠ none → upd H (sa σ i) o a ≠ none := fun a ha => by
    by_cases q : a = sa σ i
    · rw [q, upd_same]; simp
    · rw [upd_ne q]; exact ha
  have frm : HLe (mask C.H0 (C.hid ++ C.ioA)) (mask (upd H (sa σ i) o) (C.hid ++ C.ioA)) := by
    by_cases q : sa σ i ∈ C.hid ++ C.ioA
    · rw [mask_updM q]; exact S.frm
    · have h0 : C.H0 (sa σ i) = none := by
        rcases S.own i hi with z | z
        · exact absurd (List.mem_append_right _ z) q
        · exact z
      refine ⟨fun b u e n => ?_, fun b kv e => ?_, fun b kv e => ?_⟩
      · have hb : b ≠ sa σ i := ne_of_none (mask_some e).2 h0
        have := S.frm.o b u e n
        rw [mask_out (mask_some e).1] at this ⊢
        rw [upd_ne hb]; exact this
      · have hb : b ≠ sa σ i ∧ b ∉ C.hid ++ C.ioA := by
          rcases e with e | ⟨o, e⟩ <;> exact ⟨ne_of_none (mask_some e).2 h0, (mask_some e).1⟩
        rcases S.frm.k b kv e with r | ⟨u, r⟩
        · exact .inl (by rw [mask_out hb.2, upd_ne hb.1]; exact (mask_some r).2)
        · exact .inr ⟨u, by rw [mask_out hb.2, upd_ne hb.1]; exact (mask_some r).2⟩
      · have hb : b ≠ sa σ i ∧ b ∉ C.hid ++ C.ioA := by
          rcases e with e | ⟨o, e⟩ <;> exact ⟨ne_of_none (mask_some e).2 h0, (mask_some e).1⟩
        rcases S.frm.t b kv e with r | ⟨u, r⟩
        · exact .inl (by rw [mask_out hb.2, upd_ne hb.1]; exact (mask_some r).2)
        · exact .inr ⟨u, by rw [mask_out hb.2, upd_ne hb.1]; exact (mask_some r).2⟩
  have il : i < ρ.length := by
    obtain ⟨d0, e1, _, _⟩ := S.ow i hi
    exact (List.getElem?_eq_some_iff.mp e1).1
  refine ⟨by rw [List.length_set]; exact S.len, S.sub, fun a ha => trk a (S.trk a ha), S.tmp, S.nd, S.dis, S.own, frm, fun a ha => by rw [upd_ne (ne a (S.sub a ha))]; exact S.frh a ha, fun a ha => trk a (S.gro a ha), S.io, S.pin, fun j e hj ej => ?_, fun j hj => ?_⟩
  · have hji : j ≠ i := fun z => hj (z ▸ hi)
    rw [List.getElem?_set_ne (Ne.symm hji)] at ej
    rw [em]
    exact S.sl j e hj ej
  · rw [em]
    by_cases q : j = i
    · subst q
      obtain ⟨d0, _, e2, _⟩ := S.ow j hj
      exact ⟨d, List.getElem?_set_self il, e2, c⟩
    · obtain ⟨d0, e1, e2, c0⟩ := S.ow j hj
      refine ⟨d0, by rw [List.getElem?_set_ne (Ne.symm q)]; exact e1, e2, c0.mono (fun u z => ?_) (.refl _)⟩
      rw [upd_ne fun e => q (S.inj hj hi e)]; exact z
theorem ST.changeStp (S : ST K C hid Γ ρ σ H) {i : Nat} (hi : i ∈ Γ) {o : HO} : Stp (Ms σ hid Γ) (Ms σ hid Γ) hid H (upd H (sa σ i) o) :=
  ⟨by rw [mask_updM (mem_Ms.mpr (.inr ⟨i, hi, rfl⟩))]; exact .refl _, fun a ha => upd_ne fun e => S.dis i hi (e ▸ ha)⟩
theorem Ms_set {σ : L2.St} {hid : List Addr} {Γ : List Nat} {i : Nat} {v : Option V} (h : i ∉ Γ) : Ms (σ.set i v) hid Γ = Ms σ hid Γ := by
  unfold Ms
  rw [List.map_congr_left fun j hj => sa_set (nem h hj)]
theorem map_sa_set {σ : L2.St} {Γ : List Nat} {i : Nat} {v : Option V} (h : i ∉ Γ) : Γ.map (sa (σ.set i v)) = Γ.map (sa σ) :=
  List.map_congr_left fun j hj => sa_set (nem h hj)
/-- a slot that is not owned takes a value that is read alone -/
theorem ST.put (S : ST K C hid Γ ρ σ H) {i : Nat} (hi : i ∉ Γ) {d : D} {v : V} (r : RV (gx K C) (mask H (Ms σ hid Γ)) d v) (il : i < ρ.length) : ST K C hid Γ (ρ.set i (some d)) (σ.set i (some v)) H := by
  have ii : i ∉ C.io := fun z => hi (S.io i z)
  refine ⟨by rw [List.length_set, List.length_set]; exact S.len, S.sub, S.trk, S.tmp, by rw [map_sa_set hi]; exact S.nd, fun j hj => by rw [sa_set (nem hi hj)]; exact S.dis j hj, fun j hj => by rw [sa_set (nem hi hj)]; exact S.own j hj,
    S.frm, S.frh, S.gro, S.io, by rw [map_sa_set ii]; exact S.pin, fun j e hj ej => ?_, fun j hj => ?_⟩
  · rw [Ms_set hi]
    by_cases q : j = i
    · subst q
      rw [List.getElem?_set_self il] at ej
      cases ej
      exact ⟨v, List.getElem?_set_self (by rw [← S.len]; exact il), r⟩
    · rw [List.getElem?_set_ne (Ne.symm q)] at ej ⊢
      exact S.sl j e hj ej
  · have q : j ≠ i := nem hi hj
    rw [Ms_set hi, sa_set q, List.getElem?_set_ne (Ne.symm q), List.getElem?_set_ne (Ne.symm q)]
    exact S.ow j hj
/-- a slot takes a value that is owned -/
theorem ST.take {a : Addr} (S : ST K C (a :: hid) Γ ρ σ H) {i : Nat} (hi : i ∉ Γ) {d : D} (c : Cont (gx K C) H (mask H (Ms σ (a :: hid) Γ)) a d) (il : i < ρ.length) (ha : a ∉ hid) (hs : ∀ b ∈ C.hid, b ∈ hid) :
    ST K C hid (i :: Γ) (ρ.set i (some d)) (σ.set i (some (.ref a))) H := by
  have ii : i ∉ C.io := fun z => hi (S.io i z)
  have il' : i < σ.length := by rw [← S.len]; exact il
  have si : sa (σ.set i (some (.ref a))) i = a := sa_eq (List.getElem?_set_self il')
  have eM : ∀ b, b ∈ Ms (σ.set i (some (.ref a))) hid (i :: Γ) ↔ b ∈ Ms σ (a :: hid) Γ := fun b => by
    unfold Ms
    rw [List.map_cons, si, map_sa_set hi]
    simp only [List.mem_append, List.mem_cons]
    constructor
    · rintro (h | h | h)
      · exact .inl (.inr h)
      · exact .inl (.inl h)
      · exact .inr h
    · rintro ((h | h) | h)
      · exact .inr (.inl h)
      · exact .inl h
      · exact .inr (.inr h)
  have em : mask H (Ms (σ.set i (some (.ref a))) hid (i :: Γ)) = mask H (Ms σ (a :: hid) Γ) := mask_congr eM
  refine ⟨by rw [List.length_set, List.length_set]; exact S.len, hs, fun b hb => S.trk b (List.mem_cons_of_mem _ hb), fun b hb => S.tmp b (List.mem_cons_of_mem _ hb), ?_, fun j hj => ?_, fun j hj => ?_,
    S.frm, S.frh, S.gro, fun j hj => List.mem_cons_of_mem _ (S.io j hj), by rw [map_sa_set ii]; exact S.pin, fun j e hj ej => ?_, fun j hj => ?_⟩
  · rw [List.map_cons, si, map_sa_set hi, List.nodup_cons]
    refine ⟨fun z => ?_, S.nd⟩
    obtain ⟨k, hk, e⟩ := List.mem_map.mp z
    exact S.dis k hk (e ▸ List.mem_cons_self)
  · rcases List.mem_cons.mp hj with rfl | hj
    · rw [si]; exact ha
    · rw [sa_set (nem hi hj)]; exact fun z => S.dis j hj (List.mem_cons_of_mem _ z)
  · rcases List.mem_cons.mp hj with rfl | hj
    · rw [si]
      rcases S.tmp a List.mem_cons_self with z | z
      · exact absurd (hs a z) ha
      · exact .inr z
    · rw [sa_set (nem hi hj)]; exact S.own j hj
  · have q : j ≠ i := fun e => hj (e ▸ List.mem_cons_self)
    rw [List.getElem?_set_ne (Ne.symm q)] at ej ⊢
    rw [em]
    exact S.sl j e (fun z => hj (List.mem_cons_of_mem _ z)) ej
  · rw [em]
    rcases List.mem_cons.mp hj with rfl | hj
    · rw [si]
      exact ⟨d, List.getElem?_set_self il, List.getElem?_set_self il', c⟩
    · have q : j ≠ i := nem hi hj
      rw [sa_set q, List.getElem?_set_ne (Ne.symm q), List.getElem?_set_ne (Ne.symm q)]
      exact S.ow j hj
end
end Ip

namespace Ip
open PySem L2
/-! ## what is read of a value: its object in H, its items in Hm -/
inductive Shal (g : Gx) (H Hm : Hp) : D → V → Prop where
  | non : Shal g H Hm .non .non
  | bl (b : Bool) : Shal g H Hm (.bl b) (.bl b)
  | int (i : Int) : Shal g H Hm (.int i) (.int i)
  | str (x : Str) : Shal g H Hm (.str x) (.str x)
  | tup {a : Addr} {vs : List V} {ds : List D} : H a = some (.tup vs) → RVs g Hm ds vs → Hm a = some (.tup vs) → Shal g H Hm (.tup ds) (.ref a)
  | lst {a : Addr} {vs : List V} {ds : List D} : SqL g.K H a vs → RVs g Hm ds vs → Shal g H Hm (.lst ds) (.ref a)
  | dK {a : Addr} {ks : List Key} {vs : List V} {ds : List D} : Rd H a (.dK (ks.zip vs)) → ks.length = vs.length → RVs g Hm ds vs → Shal g H Hm (.dic (ks.map kD) ds) (.ref a)
  | dT {a : Addr} {ks : List (List Key)} {vs : List V} {ds : List D} : Rd H a (.dT (ks.zip vs)) → ks.length = vs.length → RVs g Hm ds vs → ks ≠ [] → Shal g H Hm (.dic (ks.map kT) ds) (.ref a)
  | obj {a Cc dx : Addr} {c : Str} {ns : List Str} {vs : List V} {ds : List D} : H a = some (.ins Cc dx (ns.zip vs)) → g.ct c = some Cc → ns.length = vs.length → RVs g Hm ds vs → Shal g H Hm (.obj c ns ds) (.ref a)
theorem RV.shal {g : Gx} {H : Hp} {M : List Addr} {d : D} {v : V} (h : RV g (mask H M) d v) : Shal g H (mask H M) d v := by
  have s : HLe (mask H M) H := .of_same mask_same
  cases h with
  | non => exact .non
  | bl b => exact .bl b
  | int i => exact .int i
  | str x => exact .str x
  | tup h r => exact .tup (s.o _ _ h trivial) r h
  | lst h r => exact .lst (s.sqL h) r
  | dK h l r => exact .dK (s.k _ _ h) l r
  | dT h l r n => exact .dT (s.t _ _ h) l r n
  | obj h c l r => exact .obj (s.o _ _ h trivial) c l r
theorem Cont.shal {g : Gx} {H Hm : Hp} {a : Addr} {d : D} (h : Cont g H Hm a d) : Shal g H Hm d (.ref a) := by
  cases h with
  | lst h r => exact .lst (.of h) r
  | dK h l r => exact .dK (.inl h) l r
  | dT h l r n => exact .dT (.inl h) l r n
  | obj h c l r => exact .obj h c l r
theorem Shal.rv {g : Gx} {H : Hp} {M : List Addr} {d : D} {v : V} (h : Shal g H (mask H M) d v) : RV g H d v := by
  have s : HLe (mask H M) H := .of_same mask_same
  cases h with
  | non => exact .non
  | bl b => exact .bl b
  | int i => exact .int i
  | str x => exact .str x
  | tup h r => exact .tup h (r.mono s)
  | lst h r => exact .lst h (r.mono s)
  | dK h l r => exact .dK h l (r.mono s)
  | dT h l r n => exact .dT h l (r.mono s) n
  | obj h c l r => exact .obj h c l (r.mono s)
theorem Val.shal {g : Gx} {H H' : Hp} {M M' tm hid : List Addr} {b : Bool} {d : D} {v : V} (h : Val g H M b d v tm) (s : Stp M M' (tm ++ hid) H H') : Shal g H' (mask H' M') d v := by
  cases h with
  | fz r _ => exact (r.mono s.le).shal
  | fr c => exact (c.mono (fun o e => (s.fx _ (by simp)).trans e) s.le).shal
theorem Val.shal0 {g : Gx} {H : Hp} {M tm : List Addr} {b : Bool} {d : D} {v : V} (h : Val g H M b d v tm) : Shal g H (mask H M) d v := h.shal (hid := []) (Stp.refl _ _ _)
/-- a value is let go: it is read alone from now on -/
theorem Val.rv {g : Gx} {H : Hp} {M M' tm : List Addr} {b : Bool} {d : D} {v : V} (h : Val g H M b d v tm) (s : ∀ a ∈ M', a ∈ M) (ht : ∀ a ∈ tm, a ∉ M') : RV g (mask H M') d v := by
  cases h with
  | fz r _ => exact r.mono (.of_same (mask_sub s))
  | fr c => exact c.rv (mask_out (ht _ (by simp))) (.of_same (mask_sub s))

/-! ## exceptions -/
def ExR (g : Gx) (H Hm : Hp) (e : Ex) (cls : Value) (od : Option Addr) : Prop :=
  ∃ Cc, g.ct e.cls = some Cc ∧ cls = .ref Cc ∧ match e.fld with
    | none => od = none
    | some d => ∃ dd f v, od = some dd ∧ H dd = some (.xd [(f, v)]) ∧ RV g Hm d v

/-! ## judgements -/
section
variable (K : PySem.W.Frag) (C : Ac) (W : WX)
def PostE (Γ Γ' : List Nat) (fr : Bool) (hid : List Addr) (σ : L2.St) (H : Hp) (Q : VK) : R D → Prop
  | .ok d ρ' => ∀ v H' tm, ST K C (tm ++ hid) Γ' ρ' σ H' → Stp (Ms σ hid Γ) (Ms σ (tm ++ hid) Γ') hid H H' → Val (gx K C) H' (Ms σ (tm ++ hid) Γ') fr d v tm → (∀ a ∈ tm, a ∉ Ms σ hid Γ') → Q v H'
  | .exn e ρ' => ∀ cls od H', ExR (gx K C) H' (mask H' (Ms σ C.hid C.io)) e cls od → ST K C C.hid C.io ρ' σ H' → W cls od σ H'
  | .bad => False
def tE (Γ Γ' : List Nat) (fr : Bool) (f : Env → R D) : TE := fun σ H Q => ∃ hid ρ, ST K C hid Γ ρ σ H ∧ PostE K C W Γ Γ' fr hid σ H Q (f ρ)
def PostT (Γ Γ' : List Nat) (hid : List Addr) (σ : L2.St) (H : Hp) (Q : Bool → Hp → Prop) : R Bool → Prop
  | .ok b ρ' => ∀ H', ST K C hid Γ' ρ' σ H' → Stp (Ms σ hid Γ) (Ms σ hid Γ') hid H H' → Q b H'
  | .exn e ρ' => ∀ cls od H', ExR (gx K C) H' (mask H' (Ms σ C.hid C.io)) e cls od → ST K C C.hid C.io ρ' σ H' → W cls od σ H'
  | .bad => False
def tT (Γ Γ' : List Nat) (f : Env → R Bool) : TT := fun σ H Q => ∃ hid ρ, ST K C hid Γ ρ σ H ∧ PostT K C W Γ Γ' hid σ H Q (f ρ)
def PostS (Γ Γ' Γb : List Nat) (fr : Bool) (Dn : Ends) (σ : L2.St) (H : Hp) : R Fl → Prop
  | .ok .nx ρ' => ∀ σ' H', ST K C C.hid Γ' ρ' σ' H' → Stp (Ms σ C.hid Γ) (Ms σ' C.hid Γ') C.hid H H' → Dn.nx σ' H'
  | .ok .bk ρ' => ∀ σ' H', ST K C C.hid Γb ρ' σ' H' → Stp (Ms σ C.hid Γ) (Ms σ' C.hid Γb) C.hid H H' → Dn.bk σ' H'
  | .ok .ct ρ' => ∀ σ' H', ST K C C.hid Γb ρ' σ' H' → Stp (Ms σ C.hid Γ) (Ms σ' C.hid Γb) C.hid H H' → Dn.ct σ' H'
  | .ok (.rt d) ρ' => ∀ v σ' H' tm, ST K C (tm ++ C.hid) C.io ρ' σ' H' → Val (gx K C) H' (Ms σ' (tm ++ C.hid) C.io) fr d v tm → (∀ a ∈ tm, a ∉ Ms σ' C.hid C.io) → Dn.rt v H'
  | .exn e ρ' => ∀ cls od σ' H', ExR (gx K C) H' (mask H' (Ms σ' C.hid C.io)) e cls od → ST K C C.hid C.io ρ' σ' H' → W cls od σ' H'
  | .bad => False
def tS (Γ Γ' Γb : List Nat) (fr : Bool) (f : Env → R Fl) : TS := fun Dn σ H => ∃ ρ, ST K C C.hid Γ ρ σ H ∧ PostS K C W Γ Γ' Γb fr Dn σ H (f ρ)
end
end Ip
namespace Ip
open PySem L2

structure SE (X : Cx) (C : Ac) (W : WX) (Γ : List Nat) (e : Expr) (Γ' : List Nat) (fr : Bool) (f : Env → R D) : Prop where
  pe : PE X e (tE X.K C W Γ Γ' fr f)
structure SP (X : Cx) (C : Ac) (W : WX) (Γ : List Nat) (e : Expr) (Γ' : List Nat) (f : Env → R Bool) : Prop where
  pt : PT X e (tT X.K C W Γ Γ' f)
structure SW (X : Cx) (C : Ac) (W : WX) (Γ : List Nat) (e : Expr) (Γ' : List Nat) (f : Env → R Bool) : Prop where
  pw : PW X e (tT X.K C W Γ Γ' f)
structure SS (X : Cx) (C : Ac) (W : WX) (Γ : List Nat) (st : Stmt) (Γ' Γb : List Nat) (fr : Bool) (f : Env → R Fl) : Prop where
  ps : PS X st (tS X.K C W Γ Γ' Γb fr f)
structure SSs (X : Cx) (C : Ac) (W : WX) (Γ : List Nat) (st : List Stmt) (Γ' Γb : List Nat) (fr : Bool) (f : Env → R Fl) : Prop where
  ps : PSs X st (tS X.K C W Γ Γ' Γb fr f)

theorem peImp {X : Cx} {e : Expr} {t t' : TE} (h : PE X e t) (i : ∀ σ H Q, t' σ H Q → t σ H Q) : PE X e t' := ⟨fun pins s σ H Q I q => h.run pins s σ H Q I (i σ H Q q)⟩
theorem ptImp {X : Cx} {e : Expr} {t t' : TT} (h : PT X e t) (i : ∀ σ H Q, t' σ H Q → t σ H Q) : PT X e t' := ⟨fun pins s σ H Q I q => h.run pins s σ H Q I (i σ H Q q)⟩
theorem pwImp {X : Cx} {e : Expr} {t t' : TT} (h : PW X e t) (i : ∀ σ H Q, t' σ H Q → t σ H Q) : PW X e t' := ⟨fun wh pins s σ H Q I q => h.run wh pins s σ H Q I (i σ H Q q)⟩
theorem paImp {X : Cx} {e : List Expr} {t t' : TA} (h : PA X e t) (i : ∀ σ H Q, t' σ H Q → t σ H Q) : PA X e t' := ⟨fun pos pins s σ H Q I q => h.run pos pins s σ H Q I (i σ H Q q)⟩
theorem psImp {X : Cx} {e : Stmt} {t t' : TS} (h : PS X e t) (i : ∀ Dn σ H, t' Dn σ H → t Dn σ H) : PS X e t' := ⟨fun pins s σ H Q I q => h.run pins s σ H Q I (i Q σ H q)⟩
theorem pssImp {X : Cx} {e : List Stmt} {t t' : TS} (h : PSs X e t) (i : ∀ Dn σ H, t' Dn σ H → t Dn σ H) : PSs X e t' := ⟨fun pins s σ H Q I q => h.run pins s σ H Q I (i Q σ H q)⟩

/-! ## the semantics: small words -/
def R.bind {α β : Type} : R α → (α → Env → R β) → R β
  | .ok a ρ, k => k a ρ
  | .exn e ρ, _ => .exn e ρ
  | .bad, _ => .bad
def ofO {α : Type} (ρ : Env) : Option α → R α
  | some a => .ok a ρ
  | none => .bad
def mVar (i : Nat) : Env → R D := fun ρ => ofO ρ (ρ.getD i none)
def mC (d : D) : Env → R D := fun ρ => .ok d ρ
def mBin (op : D → D → Option D) (f h : Env → R D) : Env → R D := fun ρ => (f ρ).bind fun a ρ1 => (h ρ1).bind fun b ρ2 => ofO ρ2 (op a b)
def mUn (op : D → Option D) (f : Env → R D) : Env → R D := fun ρ => (f ρ).bind fun a ρ1 => ofO ρ1 (op a)

theorem getD_some {ρ : Env} {i : Nat} {d : D} (h : ρ.getD i none = some d) : ρ[i]? = some (some d) := by
  rw [List.getD_eq_getElem?_getD] at h
  cases q : ρ[i]? with
  | none => rw [q] at h; cases h
  | some o => rw [q] at h; exact congrArg some h

/-- which slots stay owned -/
def okG (io Γ' Γ : List Nat) : Bool := Γ'.all (fun i => Γ.contains i) && decide Γ'.Nodup && io.all fun i => Γ'.contains i
theorem okG_of {io Γ' Γ : List Nat} (h : okG io Γ' Γ = true) : (∀ i ∈ Γ', i ∈ Γ) ∧ Γ'.Nodup ∧ ∀ i ∈ io, i ∈ Γ' := by
  simp only [okG, Bool.and_eq_true, List.all_eq_true, List.contains_iff_mem, decide_eq_true_eq] at h
  exact ⟨h.1.1, h.1.2, h.2⟩

section
variable {X : Cx} {C : Ac} {W : WX} {Γ Γ1 Γ2 Γ' : List Nat} {fr fr1 fr2 : Bool} {f h : Env → R D} {e a b : Expr} {pos : Pos}

theorem valImm {g : Gx} {H : Hp} {M : List Addr} {d : D} {v : V} (r : RV g (mask H M) d v) (hv : ∀ a, v ≠ .ref a) : Val g H M fr d v [] := .fz r fun _ => hv
/-- a frozen value, no object's -/
theorem se_imm {d : D} {v : V} (hp : PE X e (tC v)) (hr : ∀ A, RV ⟨X.K, C.ct⟩ A d v) (hv : ∀ a, v ≠ .ref a) : SE X C W Γ e Γ fr (mC d) := ⟨peImp hp fun σ H Q ⟨hid, ρ, S, p⟩ =>
  p v H [] S (Stp.refl _ _ _) (.fz (hr _) fun _ => hv) fun _ z => nomatch z⟩
theorem se_int {i : Int} {j : Nat} : SE X C W Γ (.Constant (.int i) j pos) Γ fr (mC (.int i)) := se_imm pe_int (fun _ => .int i) (fun _ z => nomatch z)
theorem se_bl {i : Bool} {j : Nat} : SE X C W Γ (.Constant (.bool i) j pos) Γ fr (mC (.bl i)) := se_imm pe_bl (fun _ => .bl i) (fun _ z => nomatch z)
theorem se_str {i : Str} {j : Nat} : SE X C W Γ (.Constant (.str i) j pos) Γ fr (mC (.str i)) := se_imm pe_str (fun _ => .str i) (fun _ z => nomatch z)
theorem se_non {j : Nat} : SE X C W Γ (.Constant .none j pos) Γ fr (mC .non) := se_imm pe_non (fun _ => .non) (fun _ z => nomatch z)

/-- a name that is read alone -/
theorem se_var (i : Nat) {x : Str} (hN : X.N[i]? = some x := by rfl) (hv : Vis X.env.scope x := by first | exact Or.inl rfl | exact Or.inr (Or.inl rfl) | exact Or.inr (Or.inr rfl)) (hΓ : Γ.contains i = false := by rfl)
    (hd : (x == ("__debug__" : Str)) = false := by decide) (hcd : (x == ("__classdict__" : Str)) = false := by decide) : SE X C W Γ (.Name x pos) Γ false (mVar i) := ⟨peImp (pe_var hN hv hd hcd) fun σ H Q ⟨hid, ρ, S, p⟩ => by
  unfold mVar at p
  cases q : ρ.getD i none with
  | none => rw [q] at p; exact p.elim
  | some d =>
    rw [q] at p
    have hi : i ∉ Γ := fun z => by rw [List.contains_iff_mem.mpr z] at hΓ; cases hΓ
    obtain ⟨v, e, r⟩ := S.sl i d hi (getD_some q)
    exact ⟨v, e, p v H [] S (Stp.refl _ _ _) (.fz r fun z => nomatch z) fun _ z => nomatch z⟩⟩
/-- an owned name, let go -/
theorem se_varF (i : Nat) (Γ' : List Nat) {x : Str} (hN : X.N[i]? = some x := by rfl) (hv : Vis X.env.scope x := by first | exact Or.inl rfl | exact Or.inr (Or.inl rfl) | exact Or.inr (Or.inr rfl)) (hΓ : okG C.io Γ' Γ = true := by rfl) (hi' : Γ'.contains i = false := by rfl)
    (hd : (x == ("__debug__" : Str)) = false := by decide) (hcd : (x == ("__classdict__" : Str)) = false := by decide) : SE X C W Γ (.Name x pos) Γ' false (mVar i) := ⟨peImp (pe_var hN hv hd hcd) fun σ H Q ⟨hid, ρ, S, p⟩ => by
  unfold mVar at p
  cases q : ρ.getD i none with
  | none => rw [q] at p; exact p.elim
  | some d =>
    rw [q] at p
    obtain ⟨h1, h2, h3⟩ := okG_of hΓ
    have hi : i ∉ Γ' := fun z => by rw [List.contains_iff_mem.mpr z] at hi'; cases hi'
    have S' := S.weak h1 h2 h3
    obtain ⟨v, e, r⟩ := S'.sl i d hi (getD_some q)
    exact ⟨v, e, p v H [] S' ⟨.of_same (mask_sub (Ms_sub h1)), fun _ _ => rfl⟩ (.fz r fun z => nomatch z) fun _ z => nomatch z⟩⟩
/-- a fresh value, let go -/
theorem se_fz (h : SE X C W Γ e Γ' fr f) : SE X C W Γ e Γ' false f := ⟨peImp h.pe fun σ H Q ⟨hid, ρ, S, p⟩ => by
  refine ⟨hid, ρ, S, ?_⟩
  cases q : f ρ with
  | bad => rw [q] at p; exact p
  | exn e ρ' => rw [q] at p; exact p
  | ok d ρ' =>
    rw [q] at p
    intro v H' tm S' k va ht
    have sub : ∀ a ∈ Ms σ hid Γ', a ∈ Ms σ (tm ++ hid) Γ' := Ms_subH fun a ha => List.mem_append_right _ ha
    exact p v H' [] (S'.forget (fun a ha => List.mem_append_right _ ha) S.sub) ⟨k.le.trans (.of_same (mask_sub sub)), k.fx⟩ (.fz (va.rv sub ht) fun z => nomatch z) fun _ z => nomatch z⟩

/-! ## what is kept while others are reckoned -/
/-- d stands at v: read alone, or a temporary's -/
def Kept (g : Gx) (H : Hp) (M tm : List Addr) (d : D) (v : V) : Prop := RV g (mask H M) d v ∨ ∃ a ∈ tm, v = .ref a ∧ Cont g H (mask H M) a d
theorem Kept.of {g : Gx} {H : Hp} {M tm : List Addr} {d : D} {v : V} {b : Bool} (h : Val g H M b d v tm) : Kept g H M tm d v := by
  cases h with
  | fz r _ => exact .inl r
  | fr c => exact .inr ⟨_, by simp, rfl, c⟩
theorem Kept.stp {g : Gx} {H H' : Hp} {M M' tm tm' hid : List Addr} {d : D} {v : V} (h : Kept g H M tm d v) (s : Stp M M' (tm ++ hid) H H') (hs : ∀ a ∈ tm, a ∈ tm') : Kept g H' M' tm' d v := by
  rcases h with r | ⟨a, ha, rfl, c⟩
  · exact .inl (r.mono s.le)
  · exact .inr ⟨a, hs a ha, rfl, c.mono (fun o e => (s.fx a (List.mem_append_left _ ha)).trans e) s.le⟩
theorem Kept.shal {g : Gx} {H : Hp} {M tm : List Addr} {d : D} {v : V} (h : Kept g H M tm d v) : Shal g H (mask H M) d v := by
  rcases h with r | ⟨a, _, rfl, c⟩
  · exact r.shal
  · exact c.shal
theorem Kept.rv {g : Gx} {H : Hp} {M M' tm : List Addr} {d : D} {v : V} (h : Kept g H M tm d v) (s : ∀ a ∈ M', a ∈ M) (ht : ∀ a ∈ tm, a ∉ M') : RV g (mask H M') d v := by
  rcases h with r | ⟨a, ha, rfl, c⟩
  · exact r.mono (.of_same (mask_sub s))
  · exact c.rv (mask_out (ht a ha)) (.of_same (mask_sub s))

/-- two in a row -/
theorem two {σ : L2.St} {H : Hp} {hid : List Addr} {ρ : Env} {Rr : V → V → Hp → Prop} (S : ST X.K C hid Γ ρ σ H)
    (ok : ∀ d1 ρ1 d2 ρ2, f ρ = .ok d1 ρ1 → h ρ1 = .ok d2 ρ2 → ∀ x y H2 tm, ST X.K C (tm ++ hid) Γ2 ρ2 σ H2 → Stp (Ms σ hid Γ) (Ms σ (tm ++ hid) Γ2) hid H H2 → (∀ a ∈ tm, a ∉ Ms σ hid Γ2) →
      Kept (gx X.K C) H2 (Ms σ (tm ++ hid) Γ2) tm d1 x → Kept (gx X.K C) H2 (Ms σ (tm ++ hid) Γ2) tm d2 y → Rr x y H2)
    (b1 : f ρ ≠ .bad) (b2 : ∀ d1 ρ1, f ρ = .ok d1 ρ1 → h ρ1 ≠ .bad)
    (x1 : ∀ e ρ', f ρ = .exn e ρ' → ∀ cls od H', ExR (gx X.K C) H' (mask H' (Ms σ C.hid C.io)) e cls od → ST X.K C C.hid C.io ρ' σ H' → W cls od σ H')
    (x2 : ∀ d1 ρ1 e ρ', f ρ = .ok d1 ρ1 → h ρ1 = .exn e ρ' → ∀ cls od H', ExR (gx X.K C) H' (mask H' (Ms σ C.hid C.io)) e cls od → ST X.K C C.hid C.io ρ' σ H' → W cls od σ H') :
    tE X.K C W Γ Γ1 fr1 f σ H fun x H1 => tE X.K C W Γ1 Γ2 fr2 h σ H1 fun y H2 => Rr x y H2 := by
  refine ⟨hid, ρ, S, ?_⟩
  cases q : f ρ with
  | bad => exact absurd q b1
  | exn e ρ' => exact x1 e ρ' q
  | ok d1 ρ1 =>
    intro x H1 tm1 S1 k1 v1 t1
    refine ⟨tm1 ++ hid, ρ1, S1, ?_⟩
    cases q2 : h ρ1 with
    | bad => exact absurd q2 (b2 _ _ q)
    | exn e ρ' => exact x2 _ _ e ρ' q q2
    | ok d2 ρ2 =>
      intro y H2 tm2 S2 k2 v2 t2
      have e : tm2 ++ (tm1 ++ hid) = (tm2 ++ tm1) ++ hid := (List.append_assoc ..).symm
      rw [e] at S2 k2 v2
      refine ok d1 ρ1 d2 ρ2 q q2 x y H2 (tm2 ++ tm1) S2 (k1.trans k2 fun a ha => List.mem_append_right _ ha) (fun a ha z => ?_) ((Kept.of v1).stp k2 fun a ha => List.mem_append_right _ ha) ?_
      · rcases List.mem_append.mp ha with ha | ha
        · exact t2 a ha (Ms_subH (fun b hb => List.mem_append_right _ hb) a z)
        · rcases mem_Ms.mp z with z | ⟨i, hi, rfl⟩
          · exact t1 a ha (mem_Ms.mpr (.inl z))
          · exact S2.dis i hi (List.mem_append_left _ (List.mem_append_right _ ha))
      · rcases Kept.of v2 with r | ⟨a, ha, r⟩
        · exact .inl r
        · exact .inr ⟨a, List.mem_append_left _ ha, r⟩

/-- temporaries are let go, new objects have come -/
theorem ST.fin {K : PySem.W.Frag} {hid tm : List Addr} {ρ : Env} {σ : L2.St} {H : Hp} (S : ST K C (tm ++ hid) Γ ρ σ H) (hs : ∀ a ∈ C.hid, a ∈ hid) {H' : Hp} (s : Same H H') : ST K C hid Γ ρ σ H' :=
  (S.same s).forget (fun a ha => List.mem_append_right _ ha) hs
theorem Stp.fin {hid tm M : List Addr} {σ : L2.St} {H0 H H' : Hp} (k : Stp M (Ms σ (tm ++ hid) Γ) hid H0 H) (s : Same H H') (trk : ∀ a ∈ hid, H a ≠ none) : Stp M (Ms σ hid Γ) hid H0 H' :=
  ⟨k.le.trans ((HLe.of_same (mask_sub (Ms_subH fun a ha => List.mem_append_right _ ha))).trans (.of_same (mask_keep fun b o _ e => s b o e))), fun a ha => by
    have := k.fx a ha
    rw [← this]
    cases q : H a with
    | none => exact absurd q (trk a ha)
    | some o => exact s a o q⟩

/-- an operation on two values: what its reading asks, from data -/
def OpS (g : Gx) (r : R2) (op : D → D → Option D) : Prop := ∀ (H : Hp) (M : List Addr) (x y : V) (dx dy d : D) (Q : VK), (∀ a ∈ M, H a ≠ none) → Shal g H (mask H M) dx x → Shal g H (mask H M) dy y → op dx dy = some d →
  (∀ v H', Same H H' → RV g (mask H' M) d v → Q v H') → r x y H Q
theorem ofO_ok {α : Type} {ρ ρ' : Env} {o : Option α} {a : α} (h : ofO ρ o = .ok a ρ') : o = some a ∧ ρ = ρ' := by
  cases o with
  | none => exact nomatch h
  | some b => cases h; exact ⟨rfl, rfl⟩
/-- the frame of all rules of two expressions -/
theorem mBin_tE {op : D → D → Option D} {r : R2} (ho : OpS ⟨X.K, C.ct⟩ r op) {σ : L2.St} {H : Hp} {Q : VK} (p : tE X.K C W Γ Γ2 false (mBin op f h) σ H Q) :
    tE X.K C W Γ Γ1 fr1 f σ H fun x H1 => tE X.K C W Γ1 Γ2 fr2 h σ H1 fun y H2 => r x y H2 Q := by
  obtain ⟨hid, ρ, S, p⟩ := p
  unfold mBin at p
  refine two (fr1 := fr1) (fr2 := fr2) S (fun d1 ρ1 d2 ρ2 q1 q2 x y H2 tm S2 k2 t2 v1 v2 => ?_) (fun q => ?_) (fun d1 ρ1 q1 q2 => ?_) (fun e ρ' q => ?_) fun d1 ρ1 e ρ' q1 q2 => ?_
  · rw [q1] at p
    dsimp only [R.bind] at p
    rw [q2] at p
    dsimp only [R.bind] at p
    cases q3 : op d1 d2 with
    | none => rw [q3] at p; exact p.elim
    | some d =>
      rw [q3] at p
      refine ho H2 (Ms σ (tm ++ hid) Γ2) x y d1 d2 d Q S2.trkM v1.shal v2.shal q3 fun v H' s rv => ?_
      exact p v H' [] (S2.fin S.sub s) (k2.fin s fun a ha => S2.trk a (List.mem_append_right _ ha)) (.fz (rv.mono (.of_same (mask_sub (Ms_subH fun a ha => List.mem_append_right _ ha)))) fun z => nomatch z) fun _ z => nomatch z
  · rw [q] at p; exact p
  · rw [q1] at p
    dsimp only [R.bind] at p
    rw [q2] at p; exact p
  · rw [q] at p; exact p
  · rw [q1] at p
    dsimp only [R.bind] at p
    rw [q2] at p; exact p
theorem se_bin {op : Operator} {r : R2} {opD : D → D → Option D} (ho : OpR X (binaryOp op) r) (hs : OpS ⟨X.K, C.ct⟩ r opD) (ha : SE X C W Γ a Γ1 fr1 f) (hb : SE X C W Γ1 b Γ2 fr2 h) : SE X C W Γ (.BinOp a op b pos) Γ2 false (mBin opD f h) :=
  ⟨peImp (pe_op ho ha.pe hb.pe) fun _ _ _ p => mBin_tE hs p⟩
theorem se_cmp {op : CmpOp} {r : R2} {opD : D → D → Option D} (ho : OpR X (compareOp op) r) (hs : OpS ⟨X.K, C.ct⟩ r opD) (ha : SE X C W Γ a Γ1 fr1 f) (hb : SE X C W Γ1 b Γ2 fr2 h) (hm : behindInMarks op b = false) : SE X C W Γ (.Compare a [op] [b] pos) Γ2 false (mBin opD f h) :=
  ⟨peImp (pe_cmpR ho ha.pe hb.pe hm) fun _ _ _ p => mBin_tE hs p⟩
theorem se_ix {r : R2} {opD : D → D → Option D} (ho : IxR X r) (hs : OpS ⟨X.K, C.ct⟩ r opD) (ha : SE X C W Γ a Γ1 fr1 f) (hb : SE X C W Γ1 b Γ2 fr2 h) (hm : PlainIx b) : SE X C W Γ (.Subscript a b pos) Γ2 false (mBin opD f h) :=
  ⟨peImp (pe_ix ho ha.pe hb.pe hm) fun _ _ _ p => mBin_tE hs p⟩
end
end Ip
namespace Ip
open PySem L2

/-! ## tests -/
def asB : D → Option Bool
  | .bl b => some b
  | _ => none
def mTest (f : Env → R D) : Env → R Bool := fun ρ => (f ρ).bind fun d ρ' => ofO ρ' (asB d)
def mNot (f : Env → R Bool) : Env → R Bool := fun ρ => (f ρ).bind fun b ρ' => .ok (!b) ρ'
def mAnd (f g : Env → R Bool) : Env → R Bool := fun ρ => (f ρ).bind fun b ρ' => if b then g ρ' else .ok false ρ'
def mOr (f g : Env → R Bool) : Env → R Bool := fun ρ => (f ρ).bind fun b ρ' => if b then .ok true ρ' else g ρ'
def mAndV (f g : Env → R D) : Env → R D := fun ρ => (f ρ).bind fun d ρ' => match d with
  | .bl true => g ρ'
  | .bl false => .ok (.bl false) ρ'
  | _ => .bad
def mOrV (f g : Env → R D) : Env → R D := fun ρ => (f ρ).bind fun d ρ' => match d with
  | .bl true => .ok (.bl true) ρ'
  | .bl false => g ρ'
  | _ => .bad
def mNotV (f : Env → R D) : Env → R D := fun ρ => (f ρ).bind fun d ρ' => match d with
  | .bl b => .ok (.bl (!b)) ρ'
  | _ => .bad
def mIf (c : Env → R Bool) (f g : Env → R D) : Env → R D := fun ρ => (c ρ).bind fun b ρ' => if b then f ρ' else g ρ'

theorem val_bl {g : Gx} {H : Hp} {M tm : List Addr} {fr b : Bool} {v : V} (h : Val g H M fr (.bl b) v tm) : v = .bl b ∧ tm = [] := by
  cases h with
  | fz r _ => cases r; exact ⟨rfl, rfl⟩
  | fr c => cases c
section
variable {X : Cx} {C : Ac} {W : WX} {Γ Γ1 Γ2 Γ' : List Nat} {fr fr1 fr2 : Bool} {f h : Env → R D} {fb hb' : Env → R Bool} {e a b c : Expr} {pos : Pos} {rest : List Expr}

theorem tT_tE {σ : L2.St} {H : Hp} {Q : Bool → Hp → Prop} (p : tT X.K C W Γ Γ' (mTest f) σ H Q) : tE X.K C W Γ Γ' fr f σ H fun x H' => ∃ k, x = .bl k ∧ Q k H' := by
  obtain ⟨hid, ρ, S, p⟩ := p
  refine ⟨hid, ρ, S, ?_⟩
  unfold mTest at p
  cases q : f ρ with
  | bad => rw [q] at p; exact p
  | exn e ρ' => rw [q] at p; exact p
  | ok d ρ' =>
    rw [q] at p
    intro v H' tm S' k va ht
    dsimp only [R.bind] at p
    cases d with
    | bl b =>
      obtain ⟨rfl, rfl⟩ := val_bl va
      exact ⟨b, rfl, p H' S' k⟩
    | _ => exact (show False from p).elim
theorem sp_val (ha : SE X C W Γ e Γ' fr f) (he : ∀ whole, isTrue e X.env whole = (do let v ← whole; standAt e.pos; holding [v] (truthy v)) := by intro _; rfl) : SP X C W Γ e Γ' (mTest f) :=
  ⟨ptImp (pt_val ha.pe he) fun _ _ _ p => tT_tE p⟩
theorem sp_cmp {op : CmpOp} {r : R2} {opD : D → D → Option D} (ho : OpR X (compareOp op) r) (hs : OpS ⟨X.K, C.ct⟩ r opD) (ha : SE X C W Γ a Γ1 fr1 f) (hb : SE X C W Γ1 b Γ2 fr2 h) (hm : behindInMarks op b = false) : SP X C W Γ (.Compare a [op] [b] pos) Γ2 (mTest (mBin opD f h)) :=
  ⟨ptImp (pt_cmpR ho ha.pe hb.pe hm) fun _ _ _ p => mBin_tE hs (tT_tE p)⟩
theorem sp_not (ha : SP X C W Γ a Γ' fb) : SP X C W Γ (.UnaryOp .Not a pos) Γ' (mNot fb) := ⟨ptImp (pt_not ha.pt) fun σ H Q ⟨hid, ρ, S, p⟩ => by
  refine ⟨hid, ρ, S, ?_⟩
  unfold mNot at p
  cases q : fb ρ with
  | bad => rw [q] at p; exact p
  | exn e ρ' => rw [q] at p; exact p
  | ok b ρ' => rw [q] at p; exact p⟩
theorem SW.pt (h : SW X C W Γ e Γ' fb) : SP X C W Γ e Γ' fb := ⟨h.pw.pt⟩
theorem sw_and1 (ha : SP X C W Γ a Γ' fb) : SW X C W Γ (.BoolOp .And [a] pos) Γ' fb := ⟨pw_and1 ha.pt⟩
theorem sw_or1 (ha : SP X C W Γ a Γ' fb) : SW X C W Γ (.BoolOp .Or [a] pos) Γ' fb := ⟨pw_or1 ha.pt⟩
theorem ST.weakStp {K : PySem.W.Frag} {hid : List Addr} {σ : L2.St} {H H' : Hp} {M : List Addr} (k : Stp M (Ms σ hid Γ) hid H H') (h : ∀ i ∈ Γ', i ∈ Γ) : Stp M (Ms σ hid Γ') hid H H' := ⟨k.le.trans (.of_same (mask_sub (Ms_sub h))), k.fx⟩
theorem sw_and (ha : SP X C W Γ a Γ1 fb) (hb : SW X C W Γ1 (.BoolOp .And (b :: rest) pos) Γ2 hb') (hk : okG C.io Γ2 Γ1 = true := by rfl) : SW X C W Γ (.BoolOp .And (a :: b :: rest) pos) Γ2 (mAnd fb hb') :=
  ⟨pwImp (pw_and ha.pt hb.pw) fun σ H Q ⟨hid, ρ, S, p⟩ => by
  refine ⟨hid, ρ, S, ?_⟩
  unfold mAnd at p
  cases q : fb ρ with
  | bad => rw [q] at p; exact p
  | exn e ρ' => rw [q] at p; exact p
  | ok b ρ' =>
    rw [q] at p
    intro H1 S1 k1
    dsimp only [R.bind] at p
    cases b with
    | false =>
      obtain ⟨h1, h2, h3⟩ := okG_of hk
      rw [if_neg Bool.false_ne_true] at p ⊢
      exact p H1 (S1.weak h1 h2 h3) (ST.weakStp (K := X.K) k1 h1)
    | true =>
      rw [if_pos rfl] at p ⊢
      refine ⟨hid, ρ', S1, ?_⟩
      cases q2 : hb' ρ' with
      | bad => rw [q2] at p; exact p
      | exn e ρ' => rw [q2] at p; exact p
      | ok b ρ2 =>
        rw [q2] at p
        exact fun H2 S2 k2 => p H2 S2 (k1.trans k2 fun _ z => z)⟩
theorem sw_or (ha : SP X C W Γ a Γ1 fb) (hb : SW X C W Γ1 (.BoolOp .Or (b :: rest) pos) Γ2 hb') (hk : okG C.io Γ2 Γ1 = true := by rfl) : SW X C W Γ (.BoolOp .Or (a :: b :: rest) pos) Γ2 (mOr fb hb') :=
  ⟨pwImp (pw_or ha.pt hb.pw) fun σ H Q ⟨hid, ρ, S, p⟩ => by
  refine ⟨hid, ρ, S, ?_⟩
  unfold mOr at p
  cases q : fb ρ with
  | bad => rw [q] at p; exact p
  | exn e ρ' => rw [q] at p; exact p
  | ok b ρ' =>
    rw [q] at p
    intro H1 S1 k1
    dsimp only [R.bind] at p
    cases b with
    | true =>
      obtain ⟨h1, h2, h3⟩ := okG_of hk
      rw [if_pos rfl] at p ⊢
      exact p H1 (S1.weak h1 h2 h3) (ST.weakStp (K := X.K) k1 h1)
    | false =>
      rw [if_neg Bool.false_ne_true] at p ⊢
      refine ⟨hid, ρ', S1, ?_⟩
      cases q2 : hb' ρ' with
      | bad => rw [q2] at p; exact p
      | exn e ρ' => rw [q2] at p; exact p
      | ok b ρ2 =>
        rw [q2] at p
        exact fun H2 S2 k2 => p H2 S2 (k1.trans k2 fun _ z => z)⟩
/-- a second expression behind a value that has no object -/
theorem PostE.pre {hid : List Addr} {σ : L2.St} {H H1 : Hp} {Q : VK} {r : R D} (k : Stp (Ms σ hid Γ) (Ms σ hid Γ1) hid H H1) (p : PostE X.K C W Γ Γ2 fr hid σ H Q r) : PostE X.K C W Γ1 Γ2 fr hid σ H1 Q r := by
  cases r with
  | bad => exact p
  | exn e ρ => exact p
  | ok d ρ => exact fun v H' tm S' k' va ht => p v H' tm S' (k.trans k' fun _ z => z) va ht
theorem se_and (ha : SE X C W Γ a Γ1 fr1 f) (hb : SE X C W Γ1 (.BoolOp .And (b :: rest) pos) Γ2 fr h) (hk : okG C.io Γ2 Γ1 = true := by rfl) : SE X C W Γ (.BoolOp .And (a :: b :: rest) pos) Γ2 fr (mAndV f h) :=
  ⟨peImp (pe_and ha.pe hb.pe) fun σ H Q ⟨hid, ρ, S, p⟩ => by
  refine ⟨hid, ρ, S, ?_⟩
  unfold mAndV at p
  cases q : f ρ with
  | bad => rw [q] at p; exact p
  | exn e ρ' => rw [q] at p; exact p
  | ok d ρ' =>
    rw [q] at p
    intro v H1 tm S1 k1 va ht
    dsimp only [R.bind] at p
    cases d with
    | bl b =>
      obtain ⟨rfl, rfl⟩ := val_bl va
      refine ⟨b, rfl, ?_⟩
      cases b with
      | false =>
        obtain ⟨h1, h2, h3⟩ := okG_of hk
        rw [if_neg Bool.false_ne_true]
        exact p _ H1 [] (S1.weak h1 h2 h3) (ST.weakStp (K := X.K) k1 h1) (.fz (.bl false) fun _ _ z => nomatch z) fun _ z => nomatch z
      | true =>
        rw [if_pos rfl]
        exact ⟨hid, ρ', S1, PostE.pre k1 p⟩
    | _ => exact (show False from p).elim⟩
theorem se_or (ha : SE X C W Γ a Γ1 fr1 f) (hb : SE X C W Γ1 (.BoolOp .Or (b :: rest) pos) Γ2 fr h) (hk : okG C.io Γ2 Γ1 = true := by rfl) : SE X C W Γ (.BoolOp .Or (a :: b :: rest) pos) Γ2 fr (mOrV f h) :=
  ⟨peImp (pe_or ha.pe hb.pe) fun σ H Q ⟨hid, ρ, S, p⟩ => by
  refine ⟨hid, ρ, S, ?_⟩
  unfold mOrV at p
  cases q : f ρ with
  | bad => rw [q] at p; exact p
  | exn e ρ' => rw [q] at p; exact p
  | ok d ρ' =>
    rw [q] at p
    intro v H1 tm S1 k1 va ht
    dsimp only [R.bind] at p
    cases d with
    | bl b =>
      obtain ⟨rfl, rfl⟩ := val_bl va
      refine ⟨b, rfl, ?_⟩
      cases b with
      | true =>
        obtain ⟨h1, h2, h3⟩ := okG_of hk
        rw [if_pos rfl]
        exact p _ H1 [] (S1.weak h1 h2 h3) (ST.weakStp (K := X.K) k1 h1) (.fz (.bl true) fun _ _ z => nomatch z) fun _ z => nomatch z
      | false =>
        rw [if_neg Bool.false_ne_true]
        exact ⟨hid, ρ', S1, PostE.pre k1 p⟩
    | _ => exact (show False from p).elim⟩
theorem se_one {op : BoolOp} (ha : SE X C W Γ a Γ' fr f) : SE X C W Γ (.BoolOp op [a] pos) Γ' fr f := ⟨pe_one ha.pe⟩
theorem se_not (ha : SE X C W Γ a Γ' fr1 f) : SE X C W Γ (.UnaryOp .Not a pos) Γ' fr (mNotV f) := ⟨peImp (pe_not ha.pe) fun σ H Q ⟨hid, ρ, S, p⟩ => by
  refine ⟨hid, ρ, S, ?_⟩
  unfold mNotV at p
  cases q : f ρ with
  | bad => rw [q] at p; exact p
  | exn e ρ' => rw [q] at p; exact p
  | ok d ρ' =>
    rw [q] at p
    intro v H1 tm S1 k1 va ht
    dsimp only [R.bind] at p
    cases d with
    | bl b =>
      obtain ⟨rfl, rfl⟩ := val_bl va
      exact ⟨b, rfl, p _ H1 [] S1 k1 (.fz (.bl _) fun _ _ z => nomatch z) fun _ z => nomatch z⟩
    | _ => exact (show False from p).elim⟩
theorem se_ifExp (hc : SP X C W Γ c Γ1 fb) (ha : SE X C W Γ1 a Γ2 fr f) (hb : SE X C W Γ1 b Γ2 fr h) : SE X C W Γ (.IfExp c a b pos) Γ2 fr (mIf fb f h) := ⟨peImp (pe_ifExp hc.pt ha.pe hb.pe) fun σ H Q ⟨hid, ρ, S, p⟩ => by
  refine ⟨hid, ρ, S, ?_⟩
  unfold mIf at p
  cases q : fb ρ with
  | bad => rw [q] at p; exact p
  | exn e ρ' => rw [q] at p; exact p
  | ok d ρ' =>
    rw [q] at p
    intro H1 S1 k1
    dsimp only [R.bind] at p
    cases d with
    | true => rw [if_pos rfl] at p ⊢; exact ⟨hid, ρ', S1, PostE.pre k1 p⟩
    | false => rw [if_neg Bool.false_ne_true] at p ⊢; exact ⟨hid, ρ', S1, PostE.pre k1 p⟩⟩

/-! ## several expressions -/
inductive Kepts (g : Gx) (H : Hp) (M tm : List Addr) : List D → List V → Prop where
  | nil : Kepts g H M tm [] []
  | cons {d : D} {v : V} {ds : List D} {vs : List V} : Kept g H M tm d v → Kepts g H M tm ds vs → Kepts g H M tm (d :: ds) (v :: vs)
theorem Kepts.length {g : Gx} {H : Hp} {M tm : List Addr} : ∀ {ds : List D} {vs : List V}, Kepts g H M tm ds vs → ds.length = vs.length
  | _, _, .nil => rfl
  | _, _, .cons _ t => by rw [List.length_cons, List.length_cons, t.length]
theorem Kepts.rv {g : Gx} {H : Hp} {M M' tm : List Addr} (s : ∀ a ∈ M', a ∈ M) (ht : ∀ a ∈ tm, a ∉ M') : ∀ {ds : List D} {vs : List V}, Kepts g H M tm ds vs → RVs g (mask H M') ds vs
  | _, _, .nil => .nil
  | _, _, .cons k t => .cons (k.rv s ht) (t.rv s ht)
inductive Shals (g : Gx) (H Hm : Hp) : List D → List V → Prop where
  | nil : Shals g H Hm [] []
  | cons {d : D} {v : V} {ds : List D} {vs : List V} : Shal g H Hm d v → Shals g H Hm ds vs → Shals g H Hm (d :: ds) (v :: vs)
theorem Kepts.shals {g : Gx} {H : Hp} {M tm : List Addr} : ∀ {ds : List D} {vs : List V}, Kepts g H M tm ds vs → Shals g H (mask H M) ds vs
  | _, _, .nil => .nil
  | _, _, .cons k t => .cons k.shal t.shals
section
variable (K : PySem.W.Frag) (C : Ac) (W : WX)
def PostA (Γ Γ' : List Nat) (hid : List Addr) (σ : L2.St) (H : Hp) (Q : List V → Hp → Prop) : R (List D) → Prop
  | .ok ds ρ' => ∀ vs H' tm, ST K C (tm ++ hid) Γ' ρ' σ H' → Stp (Ms σ hid Γ) (Ms σ (tm ++ hid) Γ') hid H H' → (∀ a ∈ tm, a ∉ Ms σ hid Γ') → Kepts (gx K C) H' (Ms σ (tm ++ hid) Γ') tm ds vs → Q vs H'
  | .exn e ρ' => ∀ cls od H', ExR (gx K C) H' (mask H' (Ms σ C.hid C.io)) e cls od → ST K C C.hid C.io ρ' σ H' → W cls od σ H'
  | .bad => False
def tAs (Γ Γ' : List Nat) (f : Env → R (List D)) : TA := fun σ H Q => ∃ hid ρ, ST K C hid Γ ρ σ H ∧ PostA K C W Γ Γ' hid σ H Q (f ρ)
end
structure SA (X : Cx) (C : Ac) (W : WX) (Γ : List Nat) (es : List Expr) (Γ' : List Nat) (f : Env → R (List D)) : Prop where
  pa : PA X es (tAs X.K C W Γ Γ' f)
  len : ∀ ρ ds ρ', f ρ = .ok ds ρ' → ds.length = es.length
def mNil : Env → R (List D) := fun ρ => .ok [] ρ
def mCons (f : Env → R D) (g : Env → R (List D)) : Env → R (List D) := fun ρ => (f ρ).bind fun d ρ1 => (g ρ1).bind fun ds ρ2 => .ok (d :: ds) ρ2
theorem sa_nil : SA X C W Γ [] Γ mNil := ⟨paImp pa_nil fun σ H Q ⟨hid, ρ, S, p⟩ => p [] H [] S (Stp.refl _ _ _) (fun _ z => nomatch z) .nil, fun ρ ds ρ' e => by cases e; rfl⟩
theorem sa_cons {es : List Expr} {g : Env → R (List D)} (ha : SE X C W Γ a Γ1 fr1 f) (hr : SA X C W Γ1 es Γ2 g) (hs : starEach (a :: es) X.env = (false, eval a X.env) :: starEach es X.env := by rfl) : SA X C W Γ (a :: es) Γ2 (mCons f g) := by
  refine ⟨paImp (pa_cons ha.pe hr.pa hs) fun σ H Q ⟨hid, ρ, S, p⟩ => ⟨hid, ρ, S, ?_⟩, fun ρ ds ρ' e => ?_⟩
  · unfold mCons at p
    cases q : f ρ with
    | bad => rw [q] at p; exact p
    | exn e ρ' => rw [q] at p; exact p
    | ok d ρ1 =>
      rw [q] at p
      dsimp only [R.bind] at p
      intro v H1 tm1 S1 k1 va t1
      refine ⟨tm1 ++ hid, ρ1, S1, ?_⟩
      cases q2 : g ρ1 with
      | bad => rw [q2] at p; exact p
      | exn e ρ' => rw [q2] at p; exact p
      | ok ds ρ2 =>
        rw [q2] at p
        dsimp only at p
        intro vs H2 tm2 S2 k2 t2 ks
        have e : tm2 ++ (tm1 ++ hid) = (tm2 ++ tm1) ++ hid := (List.append_assoc ..).symm
        rw [e] at S2 k2 ks
        have up : ∀ {ds : List D} {vs : List V}, Kepts (gx X.K C) H2 (Ms σ ((tm2 ++ tm1) ++ hid) Γ2) tm2 ds vs → Kepts (gx X.K C) H2 (Ms σ ((tm2 ++ tm1) ++ hid) Γ2) (tm2 ++ tm1) ds vs := by
          intro ds vs h
          induction h with
          | nil => exact .nil
          | cons k _ ih =>
            refine .cons ?_ ih
            rcases k with r | ⟨a, ha, r⟩
            · exact .inl r
            · exact .inr ⟨a, List.mem_append_left _ ha, r⟩
        refine p (v :: vs) H2 (tm2 ++ tm1) S2 (k1.trans k2 fun a ha => List.mem_append_right _ ha) (fun a ha z => ?_) (.cons ((Kept.of va).stp k2 fun a ha => List.mem_append_right _ ha) (up ks))
        rcases List.mem_append.mp ha with ha | ha
        · exact t2 a ha (Ms_subH (fun b hb => List.mem_append_right _ hb) a z)
        · rcases mem_Ms.mp z with z | ⟨i, hi, rfl⟩
          · exact t1 a ha (mem_Ms.mpr (.inl z))
          · exact S2.dis i hi (List.mem_append_left _ (List.mem_append_right _ ha))
  · unfold mCons at e
    cases q : f ρ with
    | bad => rw [q] at e; exact nomatch e
    | exn x ρ' => rw [q] at e; exact nomatch e
    | ok d ρ1 =>
      rw [q] at e
      dsimp only [R.bind] at e
      cases q2 : g ρ1 with
      | bad => rw [q2] at e; exact nomatch e
      | exn x ρ' => rw [q2] at e; exact nomatch e
      | ok ds2 ρ2 =>
        rw [q2] at e
        cases e
        rw [List.length_cons, List.length_cons, hr.len _ _ _ q2]

/-! ## displays -/
def mTup (g : Env → R (List D)) : Env → R D := fun ρ => (g ρ).bind fun ds ρ' => .ok (.tup ds) ρ'
def mLst (g : Env → R (List D)) : Env → R D := fun ρ => (g ρ).bind fun ds ρ' => .ok (.lst ds) ρ'
theorem line_le {n : Nat} (h : n ≤ 1000) : n ≤ sizeLine := Nat.le_trans h (by decide)
theorem se_tup {es : List Expr} {x1} {g : Env → R (List D)} (ha : SA X C W Γ es Γ' g) (hl : es.length ≤ 1000 := by decide) : SE X C W Γ (.Tuple es x1 pos) Γ' false (mTup g) := ⟨peImp (pe_tup ha.pa) fun σ H Q ⟨hid, ρ, S, p⟩ => by
  refine ⟨hid, ρ, S, ?_⟩
  unfold mTup at p
  cases q : g ρ with
  | bad => rw [q] at p; exact p
  | exn e ρ' => rw [q] at p; exact p
  | ok ds ρ' =>
    rw [q] at p
    dsimp only [R.bind] at p
    intro vs H1 tm S1 k1 t1 ks
    refine ⟨by rw [← ks.length, ha.len _ _ _ q]; exact line_le hl, fun a hp => ?_⟩
    have s := same_upd (o := HO.tup vs) hp
    refine p (.ref a) _ [] (S1.fin S.sub s) (k1.fin s fun a ha => S1.trk a (List.mem_append_right _ ha)) (.fz ?_ fun z => nomatch z) fun _ z => nomatch z
    have sub : ∀ b ∈ Ms σ hid Γ', b ∈ Ms σ (tm ++ hid) Γ' := Ms_subH fun a ha => List.mem_append_right _ ha
    have hn : a ∉ Ms σ hid Γ' := fun z => S1.none_out hp (sub a z)
    refine .tup (by show mask (upd H1 a (HO.tup vs)) (Ms σ hid Γ') a = _; rw [mask_out hn, upd_same]) ((ks.rv sub t1).mono (.of_same (mask_keep fun b o _ e => s b o e)))⟩
theorem se_lst {es : List Expr} {g : Env → R (List D)} (ha : SA X C W Γ es Γ' g) (hl : es.length ≤ 1000 := by decide) : SE X C W Γ (.List es pos) Γ' true (mLst g) := ⟨peImp (pe_lst ha.pa) fun σ H Q ⟨hid, ρ, S, p⟩ => by
  refine ⟨hid, ρ, S, ?_⟩
  unfold mLst at p
  cases q : g ρ with
  | bad => rw [q] at p; exact p
  | exn e ρ' => rw [q] at p; exact p
  | ok ds ρ' =>
    rw [q] at p
    dsimp only [R.bind] at p
    intro vs H1 tm S1 k1 t1 ks
    refine ⟨by rw [← ks.length, ha.len _ _ _ q]; exact line_le hl, fun a hp => ?_⟩
    have S2 := S1.forget (fun a ha => List.mem_append_right _ ha) S.sub
    have sub : ∀ b ∈ Ms σ hid Γ', b ∈ Ms σ (tm ++ hid) Γ' := Ms_subH fun a ha => List.mem_append_right _ ha
    have k2 : Stp (Ms σ hid Γ) (Ms σ hid Γ') hid H H1 := ⟨k1.le.trans (.of_same (mask_sub sub)), k1.fx⟩
    have kh := S2.holdStp (o := HO.lst vs) hp
    exact p (.ref a) _ [a] (S2.hold hp) (k2.trans kh fun _ z => z) (.fr (.lst upd_same ((ks.rv sub t1).mono kh.le))) fun b hb => by
      rw [List.mem_singleton.mp hb]; exact S2.none_out hp⟩

/-! ## statements -/
def mSeq (f g : Env → R Fl) : Env → R Fl := fun ρ => match f ρ with
  | .ok .nx ρ' => g ρ'
  | r => r
def mNx : Env → R Fl := fun ρ => .ok .nx ρ
def mRet (f : Env → R D) : Env → R Fl := fun ρ => (f ρ).bind fun d ρ' => .ok (.rt d) ρ'
def mIfS (c : Env → R Bool) (f g : Env → R Fl) : Env → R Fl := fun ρ => (c ρ).bind fun b ρ' => if b then f ρ' else g ρ'
def mDrop (f : Env → R D) : Env → R Fl := fun ρ => (f ρ).bind fun d ρ' => .ok .nx ρ'
def mSet (i : Nat) (f : Env → R D) : Env → R Fl := fun ρ => (f ρ).bind fun d ρ' => if i < ρ'.length then .ok .nx (ρ'.set i (some d)) else .bad
def isObj : D → Bool
  | .lst _ => true
  | .dic _ _ => true
  | .obj _ _ _ => true
  | _ => false
def mSetO (i : Nat) (f : Env → R D) : Env → R Fl := fun ρ => (f ρ).bind fun d ρ' => if i < ρ'.length ∧ isObj d = true then .ok .nx (ρ'.set i (some d)) else .bad
variable {Γb : List Nat} {st : Stmt} {sts : List Stmt} {fs gs : Env → R Fl}
theorem PostS.pre {Dn : Ends} {σ σ1 : L2.St} {H H1 : Hp} {r : R Fl} (k : Stp (Ms σ C.hid Γ) (Ms σ1 C.hid Γ1) C.hid H H1) (p : PostS X.K C W Γ Γ2 Γb fr Dn σ H r) : PostS X.K C W Γ1 Γ2 Γb fr Dn σ1 H1 r := by
  cases r with
  | bad => exact p
  | exn e ρ => exact p
  | ok d ρ =>
    cases d with
    | nx => exact fun σ' H' S' k' => p σ' H' S' (k.trans k' fun _ z => z)
    | bk => exact fun σ' H' S' k' => p σ' H' S' (k.trans k' fun _ z => z)
    | ct => exact fun σ' H' S' k' => p σ' H' S' (k.trans k' fun _ z => z)
    | rt d => exact p
theorem ss_nil : SSs X C W Γ [] Γ Γb fr mNx := ⟨pssImp pss_nil fun Dn σ H ⟨ρ, S, p⟩ => p σ H S (Stp.refl _ _ _)⟩
theorem ss_pass : SS X C W Γ (.Pass pos) Γ Γb fr mNx := ⟨psImp ps_pass fun Dn σ H ⟨ρ, S, p⟩ => p σ H S (Stp.refl _ _ _)⟩
theorem ss_break : SS X C W Γ (.Break pos) Γ' Γ fr (fun ρ => .ok .bk ρ) := ⟨psImp ps_break fun Dn σ H ⟨ρ, S, p⟩ => p σ H S (Stp.refl _ _ _)⟩
theorem ss_continue : SS X C W Γ (.Continue pos) Γ' Γ fr (fun ρ => .ok .ct ρ) := ⟨psImp ps_continue fun Dn σ H ⟨ρ, S, p⟩ => p σ H S (Stp.refl _ _ _)⟩
theorem ss_one (h : SS X C W Γ st Γ' Γb fr fs) : SSs X C W Γ [st] Γ' Γb fr fs := ⟨pss_one h.ps⟩
theorem ss_cons (h1 : SS X C W Γ st Γ1 Γb fr fs) (h2 : SSs X C W Γ1 sts Γ2 Γb fr gs) : SSs X C W Γ (st :: sts) Γ2 Γb fr (mSeq fs gs) := ⟨pssImp (pss_cons h1.ps h2.ps) fun Dn σ H ⟨ρ, S, p⟩ => by
  refine ⟨ρ, S, ?_⟩
  unfold mSeq at p
  cases q : fs ρ with
  | bad => rw [q] at p; exact p
  | exn e ρ' => rw [q] at p; exact p
  | ok d ρ' =>
    rw [q] at p
    cases d with
    | nx => exact fun σ' H' S' k' => ⟨ρ', S', PostS.pre k' p⟩
    | bk => exact p
    | ct => exact p
    | rt d => exact p⟩
theorem ss_weak (h : SSs X C W Γ sts Γ1 Γb fr fs) (hk : okG C.io Γ2 Γ1 = true := by rfl) : SSs X C W Γ sts Γ2 Γb fr fs := ⟨pssImp h.ps fun Dn σ H ⟨ρ, S, p⟩ => by
  refine ⟨ρ, S, ?_⟩
  obtain ⟨h1, h2, h3⟩ := okG_of hk
  cases q : fs ρ with
  | bad => rw [q] at p; exact p
  | exn e ρ' => rw [q] at p; exact p
  | ok d ρ' =>
    rw [q] at p
    cases d with
    | nx => exact fun σ' H' S' k' => p σ' H' (S'.weak h1 h2 h3) (ST.weakStp (K := X.K) k' h1)
    | bk => exact p
    | ct => exact p
    | rt d => exact p⟩
theorem ss_weakb (h : SSs X C W Γ sts Γ' Γ1 fr fs) (hk : okG C.io Γb Γ1 = true := by rfl) : SSs X C W Γ sts Γ' Γb fr fs := ⟨pssImp h.ps fun Dn σ H ⟨ρ, S, p⟩ => by
  refine ⟨ρ, S, ?_⟩
  obtain ⟨h1, h2, h3⟩ := okG_of hk
  cases q : fs ρ with
  | bad => rw [q] at p; exact p
  | exn e ρ' => rw [q] at p; exact p
  | ok d ρ' =>
    rw [q] at p
    cases d with
    | nx => exact p
    | bk => exact fun σ' H' S' k' => p σ' H' (S'.weak h1 h2 h3) (ST.weakStp (K := X.K) k' h1)
    | ct => exact fun σ' H' S' k' => p σ' H' (S'.weak h1 h2 h3) (ST.weakStp (K := X.K) k' h1)
    | rt d => exact p⟩
theorem ss_ret (ha : SE X C W Γ e Γ1 fr f) (hk : okG C.io C.io Γ1 = true := by rfl) : SS X C W Γ (.Return (some e) pos) Γ' Γb fr (mRet f) := ⟨psImp (ps_ret ha.pe) fun Dn σ H ⟨ρ, S, p⟩ => by
  refine ⟨C.hid, ρ, S, ?_⟩
  unfold mRet at p
  cases q : f ρ with
  | bad => rw [q] at p; exact p
  | exn e ρ' => rw [q] at p; exact fun cls od H' x S' => p cls od σ H' x S'
  | ok d ρ' =>
    rw [q] at p
    dsimp only [R.bind] at p
    intro v H1 tm S1 k1 va t1
    obtain ⟨h1, h2, h3⟩ := okG_of hk
    have sub : ∀ a ∈ Ms σ (tm ++ C.hid) C.io, a ∈ Ms σ (tm ++ C.hid) Γ1 := Ms_sub h1
    refine p v σ H1 tm (S1.weak h1 h2 h3) ?_ fun a ha z => t1 a ha (Ms_sub h1 a z)
    cases va with
    | fz r hv => exact .fz (r.mono (.of_same (mask_sub sub))) hv
    | fr c => exact .fr (c.mono (fun _ z => z) (.of_same (mask_sub sub)))⟩
theorem ss_retN (hk : okG C.io C.io Γ = true := by rfl) : SS X C W Γ (.Return none pos) Γ' Γb fr (mRet (mC .non)) := ⟨psImp ps_retN fun Dn σ H ⟨ρ, S, p⟩ => by
  obtain ⟨h1, h2, h3⟩ := okG_of hk
  exact p .non σ H [] (S.weak h1 h2 h3) (.fz .non fun _ _ z => nomatch z) fun _ z => nomatch z⟩
theorem ss_if {A B : List Stmt} (hc : SP X C W Γ c Γ1 fb) (ha : SSs X C W Γ1 A Γ2 Γb fr fs) (hb : SSs X C W Γ1 B Γ2 Γb fr gs) : SS X C W Γ (.If c A B pos) Γ2 Γb fr (mIfS fb fs gs) := ⟨psImp (ps_if hc.pt ha.ps hb.ps) fun Dn σ H ⟨ρ, S, p⟩ => by
  refine ⟨C.hid, ρ, S, ?_⟩
  unfold mIfS at p
  cases q : fb ρ with
  | bad => rw [q] at p; exact p
  | exn e ρ' => rw [q] at p; exact fun cls od H' x S' => p cls od σ H' x S'
  | ok b ρ' =>
    rw [q] at p
    dsimp only [R.bind] at p
    intro H1 S1 k1
    cases b with
    | true => rw [if_pos rfl] at p ⊢; exact ⟨ρ', S1, PostS.pre k1 p⟩
    | false => rw [if_neg Bool.false_ne_true] at p ⊢; exact ⟨ρ', S1, PostS.pre k1 p⟩⟩
theorem ss_expr (ha : SE X C W Γ e Γ' fr1 f) (hs : swapsWith e none pos.line X.env = pure false := by rfl) : SS X C W Γ (.Expr e pos) Γ' Γb fr (mDrop f) := ⟨psImp (ps_expr ha.pe hs) fun Dn σ H ⟨ρ, S, p⟩ => by
  refine ⟨C.hid, ρ, S, ?_⟩
  unfold mDrop at p
  cases q : f ρ with
  | bad => rw [q] at p; exact p
  | exn e ρ' => rw [q] at p; exact fun cls od H' x S' => p cls od σ H' x S'
  | ok d ρ' =>
    rw [q] at p
    dsimp only [R.bind] at p
    intro v H1 tm S1 k1 va t1
    exact p σ H1 (S1.forget (fun a ha => List.mem_append_right _ ha) fun _ z => z) ⟨k1.le.trans (.of_same (mask_sub (Ms_subH fun a ha => List.mem_append_right _ ha))), k1.fx⟩⟩
theorem notin_of {Γ : List Nat} {i : Nat} (h : Γ.contains i = false) : i ∉ Γ := fun z => by rw [List.contains_iff_mem.mpr z] at h; cases h
/-- what a store of a value that is read alone asks -/
theorem put_tE {i : Nat} {Dn : Ends} {σ : L2.St} {H : Hp} (hk : okG C.io Γ2 Γ1 = true) (hi : Γ2.contains i = false) (p : tS X.K C W Γ Γ2 Γb fr (mSet i f) Dn σ H) : tE X.K C W Γ Γ1 false f σ H fun x H1 => Dn.nx (σ.set i (some x)) H1 := by
  obtain ⟨ρ, S, p⟩ := p
  refine ⟨C.hid, ρ, S, ?_⟩
  unfold mSet at p
  cases q : f ρ with
  | bad => rw [q] at p; exact p
  | exn e ρ' => rw [q] at p; exact fun cls od H' x S' => p cls od σ H' x S'
  | ok d ρ' =>
    rw [q] at p
    dsimp only [R.bind] at p
    intro v H1 tm S1 k1 va t1
    cases va with
    | fz r hv =>
      obtain ⟨h1, h2, h3⟩ := okG_of hk
      have S2 : ST X.K C C.hid Γ2 ρ' σ H1 := S1.weak h1 h2 h3
      have r2 := r.mono (.of_same (mask_sub (Ms_sub h1)))
      by_cases il : i < ρ'.length
      · rw [if_pos il] at p
        refine p _ H1 (S2.put (notin_of hi) r2 il) ?_
        rw [Ms_set (notin_of hi)]
        exact ST.weakStp (K := X.K) k1 h1
      · rw [if_neg il] at p; exact p.elim
/-- x = e, read alone from now on -/
theorem ss_set (i : Nat) {x : Str} {pos' : Pos} (hN : X.N.Nodup) (ha : SE X C W Γ e Γ1 false f) (hi : X.N[i]? = some x := by rfl) (hx : Loc X.env.scope x := by first | exact Or.inl rfl | exact Or.inr rfl) (hk : okG C.io Γ2 Γ1 = true := by rfl) (hn : Γ2.contains i = false := by rfl)
    (hs : swapsWith e (some (.Name x pos')) pos.line X.env = pure false := by rfl) (hf : X.fn x = true ∨ X.env.scope.names.lookup x = some .local := by first | exact .inl rfl | exact .inr rfl | assumption) : SS X C W Γ (.Assign [.Name x pos'] e pos) Γ2 Γb fr (mSet i f) :=
  ⟨psImp (ps_set hN hi hx ha.pe hs hf) fun Dn σ H p => put_tE hk hn p⟩
theorem obj_val {g : Gx} {H : Hp} {M tm : List Addr} {b : Bool} {d : D} {v : V} (h : Val g H M b d v tm) (ho : isObj d = true) (hb : b = true) : ∃ a, v = .ref a ∧ tm = [a] ∧ Cont g H (mask H M) a d := by
  cases h with
  | fz r hv =>
    cases r with
    | lst _ _ => exact absurd rfl (hv hb _)
    | dK _ _ _ => exact absurd rfl (hv hb _)
    | dT _ _ _ _ => exact absurd rfl (hv hb _)
    | obj _ _ _ _ => exact absurd rfl (hv hb _)
    | _ => exact absurd ho Bool.false_ne_true
  | fr c => exact ⟨_, rfl, rfl, c⟩
theorem take_tE {i : Nat} {Dn : Ends} {σ : L2.St} {H : Hp} (hk : okG C.io Γ2 Γ1 = true) (hi : Γ2.contains i = false) (p : tS X.K C W Γ (i :: Γ2) Γb fr (mSetO i f) Dn σ H) : tE X.K C W Γ Γ1 true f σ H fun x H1 => Dn.nx (σ.set i (some x)) H1 := by
  obtain ⟨ρ, S, p⟩ := p
  refine ⟨C.hid, ρ, S, ?_⟩
  unfold mSetO at p
  cases q : f ρ with
  | bad => rw [q] at p; exact p
  | exn e ρ' => rw [q] at p; exact fun cls od H' x S' => p cls od σ H' x S'
  | ok d ρ' =>
    rw [q] at p
    dsimp only [R.bind] at p
    intro v H1 tm S1 k1 va t1
    obtain ⟨h1, h2, h3⟩ := okG_of hk
    by_cases il : i < ρ'.length ∧ isObj d = true
    · rw [if_pos il] at p
      obtain ⟨a, rfl, rfl, c⟩ := obj_val va il.2 rfl
      have S2 : ST X.K C (a :: C.hid) Γ2 ρ' σ H1 := S1.weak h1 h2 h3
      have hi' := notin_of hi
      have c2 : Cont (gx X.K C) H1 (mask H1 (Ms σ (a :: C.hid) Γ2)) a d := c.mono (fun _ z => z) (.of_same (mask_sub (Ms_sub h1)))
      have ha : a ∉ C.hid := fun z => t1 a (by simp) (mem_Ms.mpr (.inl z))
      refine p _ H1 (S2.take hi' c2 il.1 ha fun _ z => z) ⟨?_, k1.fx⟩
      have il' : i < σ.length := by rw [← S2.len]; exact il.1
      have si : sa (σ.set i (some (.ref a))) i = a := sa_eq (List.getElem?_set_self il')
      refine k1.le.trans (.of_same (mask_sub fun b hb => ?_))
      unfold Ms at hb ⊢
      rw [List.map_cons, si, map_sa_set hi'] at hb
      rcases List.mem_append.mp hb with hb | hb
      · exact List.mem_append_left _ (List.mem_cons_of_mem _ hb)
      · rcases List.mem_cons.mp hb with rfl | hb
        · exact List.mem_append_left _ List.mem_cons_self
        · obtain ⟨j, hj, rfl⟩ := List.mem_map.mp hb
          exact List.mem_append_right _ (List.mem_map.mpr ⟨j, h1 j hj, rfl⟩)
    · rw [if_neg il] at p; exact p.elim
/-- x = e, owned from now on -/
theorem ss_setO (i : Nat) {x : Str} {pos' : Pos} (hN : X.N.Nodup) (ha : SE X C W Γ e Γ1 true f) (hi : X.N[i]? = some x := by rfl) (hx : Loc X.env.scope x := by first | exact Or.inl rfl | exact Or.inr rfl) (hk : okG C.io Γ2 Γ1 = true := by rfl) (hn : Γ2.contains i = false := by rfl)
    (hs : swapsWith e (some (.Name x pos')) pos.line X.env = pure false := by rfl) (hf : X.fn x = true ∨ X.env.scope.names.lookup x = some .local := by first | exact .inl rfl | exact .inr rfl | assumption) : SS X C W Γ (.Assign [.Name x pos'] e pos) (i :: Γ2) Γb fr (mSetO i f) :=
  ⟨psImp (ps_set hN hi hx ha.pe hs hf) fun Dn σ H p => take_tE hk hn p⟩
end
end Ip
namespace Ip
open PySem L2 PySem.Spec PyProof.Rows

/-! ## a def's semantics -/
inductive FR where
  | ok (d : D) (outs : List D) | exn (e : Ex) (outs : List D) | bad
abbrev FSem := List D → FR
def outsOf (io : List Nat) (ρ : Env) : List D := io.filterMap fun i => ρ.getD i none
def fnEnd (io : List Nat) : R Fl → FR
  | .ok (.rt d) ρ => .ok d (outsOf io ρ)
  | .ok .nx ρ => .ok .non (outsOf io ρ)
  | .exn e ρ => .exn e (outsOf io ρ)
  | _ => .bad
def env0 (n : Nat) (ds : List D) : Env := ds.map some ++ List.replicate (n - ds.length) none
def fnSem (n : Nat) (io : List Nat) (body : Env → R Fl) : FSem := fun ds => fnEnd io (body (env0 n ds))

structure CArgs (g : Gx) (io : List Nat) (ds : List D) (vs : List V) (H : Hp) (hid ioA : List Addr) : Prop where
  len : ds.length = vs.length
  ioa : io.map (fun i => vs[i]?) = ioA.map fun a => some (V.ref a)
  nd : ioA.Nodup
  dis : ∀ a ∈ ioA, a ∉ hid
  trk : ∀ a ∈ hid, H a ≠ none
  fz : ∀ i d, i ∉ io → ds[i]? = some d → ∃ v, vs[i]? = some v ∧ RV g (mask H (hid ++ ioA)) d v
  own : ∀ i, i ∈ io → ∃ d a, ds[i]? = some d ∧ vs[i]? = some (.ref a) ∧ Cont g H (mask H (hid ++ ioA)) a d
structure CEnd (g : Gx) (io : List Nat) (vs : List V) (H : Hp) (hid ioA : List Addr) (outs : List D) (tm : List Addr) (H' : Hp) : Prop where
  le : HLe (mask H (hid ++ ioA)) (mask H' (hid ++ ioA))
  fx : ∀ a ∈ hid, H' a = H a
  gro : ∀ a, H a ≠ none → H' a ≠ none
  olen : outs.length = io.length
  own : ∀ (k i : Nat) (d : D), io[k]? = some i → outs[k]? = some d → ∃ a, vs[i]? = some (.ref a) ∧ Cont g H' (mask H' (tm ++ (hid ++ ioA))) a d
  tn : ∀ a ∈ tm, H a = none
def PostF (g : Gx) (io : List Nat) (fr : Bool) (vs : List V) (H : Hp) (hid ioA : List Addr) (Q : VK) (E : XK) : FR → Prop
  | .ok d outs => ∀ v H' tm, CEnd g io vs H hid ioA outs tm H' → Val g H' (tm ++ (hid ++ ioA)) fr d v tm → Q v H'
  | .exn e outs => ∀ cls od H', CEnd g io vs H hid ioA outs [] H' → ExR g H' (mask H' (hid ++ ioA)) e cls od → E cls od H'
  | .bad => False
/-- the promise of a def whose semantics is F: n parameters, those in io may be changed -/
def spF (K : PySem.W.Frag) (ct : Str → Option Addr) (n : Nat) (io : List Nat) (fr : Bool) (F : FSem) : Sp := fun vs H Q E => ∃ (ds : List D) (hid ioA : List Addr),
  vs.length = n ∧ CArgs ⟨K, ct⟩ io ds vs H hid ioA ∧ PostF ⟨K, ct⟩ io fr vs H hid ioA Q E (F ds)

theorem outs_get {K : PySem.W.Frag} {C : Ac} {hid : List Addr} {Γ : List Nat} {ρ : Env} {σ : L2.St} {H : Hp} (S : ST K C hid Γ ρ σ H) : ∀ (io : List Nat), (∀ i ∈ io, i ∈ Γ) → (outsOf io ρ).length = io.length ∧
    ∀ (k i : Nat) (d : D), io[k]? = some i → (outsOf io ρ)[k]? = some d → ρ[i]? = some (some d)
  | [], _ => ⟨rfl, fun k i d h => by simp at h⟩
  | j :: r, hs => by
    obtain ⟨h1, h2⟩ := outs_get S r fun i hi => hs i (List.mem_cons_of_mem _ hi)
    obtain ⟨dj, ej, _, _⟩ := S.ow j (hs j List.mem_cons_self)
    have e : outsOf (j :: r) ρ = dj :: outsOf r ρ := by
      unfold outsOf
      rw [List.filterMap_cons, List.getD_eq_getElem?_getD, ej]
      rfl
    rw [e]
    refine ⟨by rw [List.length_cons, List.length_cons, h1], fun k i d hk ho => ?_⟩
    cases k with
    | zero =>
      have : j = i := Option.some.inj hk
      subst this
      have : dj = d := Option.some.inj ho
      subst this
      exact ej
    | succ k => exact h2 k i d (by simpa using hk) (by simpa using ho)
theorem map_some_inj {α β : Type} {f : α → Option β} {g' : α → β} : ∀ {l : List α} {m : List β}, (∀ a ∈ l, f a = some (g' a)) → l.map f = m.map some → l.map g' = m
  | [], [], _, _ => rfl
  | [], _ :: _, _, h => by simp at h
  | _ :: _, [], _, h => by simp at h
  | a :: l, b :: m, hf, h => by
    rw [List.map_cons, List.map_cons, hf a List.mem_cons_self] at h
    injection h with h1 h2
    rw [List.map_cons, Option.some.inj h1, map_some_inj (fun a ha => hf a (List.mem_cons_of_mem _ ha)) h2]
theorem start_get {N : List Str} {vs : List V} {i : Nat} {v : V} (h : vs[i]? = some v) : (L2.start N vs)[i]? = some (some v) := by
  unfold L2.start
  have hi := (List.getElem?_eq_some_iff.mp h).1
  rw [List.getElem?_append_left (by simpa using hi), List.getElem?_map, h]
  rfl
theorem env0_get {n : Nat} {ds : List D} {i : Nat} {d : D} (h : ds[i]? = some d) : (env0 n ds)[i]? = some (some d) := by
  unfold env0
  have hi := (List.getElem?_eq_some_iff.mp h).1
  rw [List.getElem?_append_left (by simpa using hi), List.getElem?_map, h]
  rfl
theorem env0_some {n : Nat} {ds : List D} {i : Nat} {d : D} (h : (env0 n ds)[i]? = some (some d)) : ds[i]? = some d := by
  unfold env0 at h
  by_cases hi : i < ds.length
  · rw [List.getElem?_append_left (by simpa using hi), List.getElem?_map] at h
    cases e : ds[i]? with
    | none => rw [e] at h; cases h
    | some a => rw [e] at h; cases h; rfl
  · rw [List.getElem?_append_right (by simpa using hi), List.getElem?_replicate] at h
    split at h <;> cases h

theorem ST.begin {K : PySem.W.Frag} {ct : Str → Option Addr} {N : List Str} {io : List Nat} {ds : List D} {vs : List V} {H : Hp} {hid ioA : List Addr} (A : CArgs ⟨K, ct⟩ io ds vs H hid ioA) (hl : vs.length ≤ N.length) :
    ST K ⟨ct, H, hid, io, ioA⟩ hid io (env0 N.length ds) (L2.start N vs) H ∧ io.map (sa (L2.start N vs)) = ioA := by
  have pin : io.map (sa (L2.start N vs)) = ioA := by
    refine map_some_inj (f := fun i => match vs[i]? with | some (V.ref a) => some a | _ => none) (fun i hi => ?_) ?_
    · obtain ⟨d, a, _, e2, _⟩ := A.own i hi
      rw [e2]
      exact congrArg some (sa_eq (start_get e2)).symm
    · have h := congrArg (List.map fun (o : Option V) => match o with | some (V.ref a) => some a | _ => none) A.ioa
      rw [List.map_map, List.map_map] at h
      exact h
  have hM : Ms (L2.start N vs) hid io = hid ++ ioA := by unfold Ms; rw [pin]
  refine ⟨⟨?_, fun _ z => z, A.trk, fun a ha => .inl ha, by rw [pin]; exact A.nd, fun i hi => ?_, fun i hi => ?_, .refl _, fun _ _ => rfl, fun _ z => z, fun _ z => z, pin, fun i d hi e => ?_, fun i hi => ?_⟩, pin⟩
  · unfold env0 L2.start
    rw [List.length_append, List.length_append, List.length_map, List.length_map, List.length_replicate, List.length_replicate, A.len]
  · exact A.dis _ (by rw [← pin]; exact List.mem_map_of_mem hi)
  · exact .inl (by rw [← pin]; exact List.mem_map_of_mem hi)
  · obtain ⟨v, e1, r⟩ := A.fz i d hi (env0_some e)
    exact ⟨v, start_get e1, by rw [hM]; exact r⟩
  · obtain ⟨d, a, e1, e2, c⟩ := A.own i hi
    have es := sa_eq (start_get (N := N) e2)
    exact ⟨d, env0_get e1, by rw [es]; exact start_get e2, by rw [hM, es]; exact c⟩
theorem ST.cend {K : PySem.W.Frag} {ct : Str → Option Addr} {io : List Nat} {ds : List D} {vs : List V} {H : Hp} {hid ioA : List Addr} (A : CArgs ⟨K, ct⟩ io ds vs H hid ioA) {tm : List Addr} {ρ : Env} {σ : L2.St} {H' : Hp}
    (S : ST K ⟨ct, H, hid, io, ioA⟩ (tm ++ hid) io ρ σ H') (ht : ∀ a ∈ tm, a ∉ Ms σ hid io) : CEnd ⟨K, ct⟩ io vs H hid ioA (outsOf io ρ) tm H' ∧ Ms σ (tm ++ hid) io = tm ++ (hid ++ ioA) ∧ Ms σ hid io = hid ++ ioA := by
  have pin : io.map (sa σ) = ioA := S.pin
  have hM : Ms σ (tm ++ hid) io = tm ++ (hid ++ ioA) := by unfold Ms; rw [pin, List.append_assoc]
  obtain ⟨o1, o2⟩ := outs_get S io fun _ z => z
  refine ⟨⟨S.frm, S.frh, S.gro, o1, fun k i d hk ho => ?_, fun a ha => ?_⟩, hM, by unfold Ms; rw [pin]⟩
  · have e1 := o2 k i d hk ho
    have hi := List.mem_of_getElem? hk
    obtain ⟨d', e2, e3, c⟩ := S.ow i hi
    rw [e1] at e2; cases e2
    refine ⟨sa σ i, ?_, by rw [← hM]; exact c⟩
    have h := congrArg (fun l => l[k]?) A.ioa
    simp only [List.getElem?_map, hk, Option.map_some] at h
    rw [← pin] at h
    simp only [List.getElem?_map, hk, Option.map_some] at h
    exact Option.some.inj h
  · rcases S.tmp a (List.mem_append_left _ ha) with z | z
    · exact absurd (mem_Ms.mpr (.inl z)) (ht a ha)
    · exact z

/-- the body of a def as its semantics tells -/
theorem body_sp {X : Cx} {K : PySem.W.Frag} {ct : Str → Option Addr} {N : List Str} {io : List Nat} {n : Nat} {fr : Bool} {f : Env → R Fl} {bd : List Stmt} {vs : List V} {H : Hp} {Q : VK} {E : XK} {W : WX} (hX : X.K = K) (hW : ∀ cls od σ H', E cls od H' → W cls od σ H')
    (hb : ∀ (hid ioA : List Addr), SSs X ⟨ct, H, hid, io, ioA⟩ W io bd io [] fr f) (hl : n ≤ N.length) (h : spF K ct n io fr (fnSem N.length io f) vs H Q E) :
    ∃ t, PSs X bd t ∧ t { nx := fun _ H' => Q .non H', rt := Q } (L2.start N vs) H := by
  subst hX
  obtain ⟨ds, hid, ioA, hn, A, p⟩ := h
  refine ⟨_, (hb hid ioA).ps, ?_⟩
  obtain ⟨S, pin⟩ := ST.begin (N := N) A (by rw [hn]; exact hl)
  refine ⟨_, S, ?_⟩
  unfold fnSem at p
  cases q : f (env0 N.length ds) with
  | bad => rw [q] at p; exact p
  | exn e ρ' =>
    rw [q] at p
    intro cls od σ' H' x S'
    obtain ⟨c, _, hM⟩ := ST.cend (tm := []) A S' fun _ z => nomatch z
    exact hW _ _ _ _ (p cls od H' c (by rw [← hM]; exact x))
  | ok fl ρ' =>
    rw [q] at p
    cases fl with
    | bk => exact (show False from p).elim
    | ct => exact (show False from p).elim
    | nx =>
      intro σ' H' S' _
      obtain ⟨c, _, hM⟩ := ST.cend (tm := []) A S' fun _ z => nomatch z
      exact p .non H' [] c (.fz .non fun _ _ z => nomatch z)
    | rt d =>
      intro v σ' H' tm S' va ht
      obtain ⟨c, hM, _⟩ := ST.cend A S' ht
      exact p v H' tm c (by rw [← hM]; exact va)

theorem spF_len {K : PySem.W.Frag} {ct : Str → Option Addr} {n : Nat} {io : List Nat} {fr : Bool} {F : FSem} {ps : List Str} (h : n = ps.length) : ∀ vs H Q E, spF K ct n io fr F vs H Q E → vs.length = ps.length := fun vs H Q E ⟨_, _, _, e, _⟩ => e.trans h
/-- THE RULE of a def -/
theorem def_ok {P : Program} {w : World} {K : PySem.W.Frag} {mg : Str → Option Value} {base : Heap} {x qual : Str} {st : Stmt} {f : Addr} {fd : FuncData} {N ps : List Str} {k n : Nat} {io : List Nat} {fr : Bool} {ct : Str → Option Addr} {sem : Env → R Fl}
    (F : Fun K x qual st f fd) (S : FnScope N ps (defScope st)) (hn : n = ps.length)
    (hb : ∀ (cdv : Value) (A : Around) (outer : List PySem.Env) (s : Shared) (H : Hp) (E : XK) (hid ioA : List Addr), Room k (A.deeper (envOfC qual (defScope st) s.heap.objs.size f cdv)) →
      SSs (cxOf (L2.CX P w) P w K mg base N qual (defScope st) f cdv A outer s H E) ⟨ct, H, hid, io, ioA⟩ (fun cls od _ H' => E cls od H') io (defBody st) io [] fr sem) :
    FnOk P w K mg base (L2.CX P w) (k + 1) f fd ps (spF K ct n io fr (fnSem N.length io sem)) := by
  refine F.okX S (spF_len hn) fun cdv A outer s H vs Q E hr h => ?_
  refine body_sp (X := cxOf (L2.CX P w) P w K mg base N qual (defScope st) f cdv A outer s H E) (W := fun cls od _ H' => E cls od H') rfl (fun _ _ _ _ h => h) (fun hid ioA => hb cdv A outer s H E hid ioA hr) ?_ h
  have := congrArg List.length S.pre
  rw [List.length_take] at this
  omega
end Ip
namespace Ip
open PySem L2 PySem.Spec PyProof.Rows

theorem HLe.hold {H H' : Hp} {M tm : List Addr} (le : HLe (mask H M) (mask H' M)) (tn : ∀ a ∈ tm, H a = none) : HLe (mask H M) (mask H' (tm ++ M)) := by
  have out : ∀ b o, mask H M b = some o → b ∉ tm := fun b o e z => by
    have := (mask_some e).2
    rw [tn b z] at this; cases this
  have go : ∀ b u, b ∉ tm → mask H' M b = some u → mask H' (tm ++ M) b = some u := fun b u n e => by
    obtain ⟨h1, h2⟩ := mask_some e
    rw [mask_out (fun z => (List.mem_append.mp z).elim n h1)]; exact h2
  refine ⟨fun b o e n => go b o (out b o e) (le.o b o e n), fun b kv e => ?_, fun b kv e => ?_⟩
  · have nb : b ∉ tm := e.elim (fun e => out b _ e) fun ⟨o, e⟩ => out b _ e
    exact (le.k b kv e).elim (fun e => .inl (go b _ nb e)) fun ⟨o, e⟩ => .inr ⟨o, go b _ nb e⟩
  · have nb : b ∉ tm := e.elim (fun e => out b _ e) fun ⟨o, e⟩ => out b _ e
    exact (le.t b kv e).elim (fun e => .inl (go b _ nb e)) fun ⟨o, e⟩ => .inr ⟨o, go b _ nb e⟩

section
variable {K : PySem.W.Frag} {C : Ac} {hid tm : List Addr} {Γ : List Nat} {ρ ρ' : Env} {σ : L2.St} {H H' : Hp}
/-- the heap goes on, owned objects may change, temporaries come -/
theorem ST.goes (S : ST K C hid Γ ρ σ H) (le : HLe (mask H (Ms σ hid Γ)) (mask H' (Ms σ hid Γ))) (fx : ∀ a ∈ hid, H' a = H a) (gro : ∀ a, H a ≠ none → H' a ≠ none) (tn : ∀ a ∈ tm, H a = none) (tt : ∀ a ∈ tm, H' a ≠ none)
    (hl : ρ'.length = ρ.length) (hs : ∀ j, j ∉ Γ → ρ'[j]? = ρ[j]?) (ho : ∀ j, j ∈ Γ → (ρ'[j]? = ρ[j]? ∧ H' (sa σ j) = H (sa σ j)) ∨ ∃ d, ρ'[j]? = some (some d) ∧ Cont (gx K C) H' (mask H' (tm ++ Ms σ hid Γ)) (sa σ j) d) :
    ST K C (tm ++ hid) Γ ρ' σ H' ∧ Stp (Ms σ hid Γ) (Ms σ (tm ++ hid) Γ) hid H H' := by
  have eM : Ms σ (tm ++ hid) Γ = tm ++ Ms σ hid Γ := by unfold Ms; rw [List.append_assoc]
  have leh := le.hold tn
  have h0 : ∀ a ∈ tm, C.H0 a = none := fun a ha => by
    cases q : C.H0 a with
    | none => rfl
    | some u => exact absurd (tn a ha) (S.gro a (by rw [q]; simp))
  -- the frame
  have out : ∀ b, b ∉ C.hid ++ C.ioA → C.H0 b ≠ none → b ∉ Ms σ hid Γ := fun b hb hn hM => by
    rcases mem_Ms.mp hM with q | ⟨i, hi, rfl⟩
    · rcases S.tmp b q with z | z
      · exact hb (List.mem_append_left _ z)
      · exact hn z
    · rcases S.own i hi with z | z
      · exact hb (List.mem_append_right _ z)
      · exact hn z
  have frm : HLe (mask C.H0 (C.hid ++ C.ioA)) (mask H' (C.hid ++ C.ioA)) := by
    refine ⟨fun b o e n => ?_, fun b kv e => ?_, fun b kv e => ?_⟩
    · obtain ⟨h1, h2⟩ := mask_some e
      have e2 := (mask_some (S.frm.o b o e n)).2
      have hM := out b h1 (by rw [h2]; simp)
      have := le.o b o (by rw [mask_out hM]; exact e2) n
      rw [mask_out hM] at this
      rw [mask_out h1]; exact this
    · have hb : b ∉ C.hid ++ C.ioA ∧ C.H0 b ≠ none := by
        rcases e with e | ⟨o, e⟩ <;> exact ⟨(mask_some e).1, by rw [(mask_some e).2]; simp⟩
      have hM := out b hb.1 hb.2
      have r2 : Rd (mask H (Ms σ hid Γ)) b (.dK kv) := by
        rcases S.frm.k b kv e with r | ⟨o, r⟩
        · exact .inl (by rw [mask_out hM]; exact (mask_some r).2)
        · exact .inr ⟨o, by rw [mask_out hM]; exact (mask_some r).2⟩
      rcases le.k b kv r2 with r | ⟨o, r⟩
      · exact .inl (by rw [mask_out hb.1]; exact (mask_some r).2)
      · exact .inr ⟨o, by rw [mask_out hb.1]; exact (mask_some r).2⟩
    · have hb : b ∉ C.hid ++ C.ioA ∧ C.H0 b ≠ none := by
        rcases e with e | ⟨o, e⟩ <;> exact ⟨(mask_some e).1, by rw [(mask_some e).2]; simp⟩
      have hM := out b hb.1 hb.2
      have r2 : Rd (mask H (Ms σ hid Γ)) b (.dT kv) := by
        rcases S.frm.t b kv e with r | ⟨o, r⟩
        · exact .inl (by rw [mask_out hM]; exact (mask_some r).2)
        · exact .inr ⟨o, by rw [mask_out hM]; exact (mask_some r).2⟩
      rcases le.t b kv r2 with r | ⟨o, r⟩
      · exact .inl (by rw [mask_out hb.1]; exact (mask_some r).2)
      · exact .inr ⟨o, by rw [mask_out hb.1]; exact (mask_some r).2⟩
  refine ⟨⟨hl.trans S.len, fun a ha => List.mem_append_right _ (S.sub a ha), fun a ha => ?_, fun a ha => ?_, S.nd, fun i hi q => ?_, S.own, frm, fun a ha => (fx a (S.sub a ha)).trans (S.frh a ha), fun a ha => gro a (S.gro a ha), S.io, S.pin, fun j d hj e => ?_, fun j hj => ?_⟩,
    by rw [eM]; exact leh, fx⟩
  · rcases List.mem_append.mp ha with ha | ha
    · exact tt a ha
    · exact gro a (S.trk a ha)
  · rcases List.mem_append.mp ha with ha | ha
    · exact .inr (h0 a ha)
    · exact S.tmp a ha
  · rcases List.mem_append.mp q with q | q
    · obtain ⟨d, _, _, c⟩ := S.ow i hi
      exact c.trk (tn _ q)
    · exact S.dis i hi q
  · rw [hs j hj] at e
    obtain ⟨v, e1, r⟩ := S.sl j d hj e
    exact ⟨v, e1, by rw [eM]; exact r.mono leh⟩
  · obtain ⟨d, e1, e2, c⟩ := S.ow j hj
    rw [eM]
    rcases ho j hj with ⟨z1, z2⟩ | ⟨d', z1, z2⟩
    · exact ⟨d, z1.trans e1, e2, c.mono (fun o e => z2.trans e) leh⟩
    · exact ⟨d', z1, e2, z2⟩
end

/-! ## calls of defs -/
structure Fn (P : Program) (w : World) (K : PySem.W.Frag) (mg : Str → Option Value) (base : Heap) (ct : Str → Option Addr) (x : Str) (k n : Nat) (io : List Nat) (fr : Bool) (F : FSem) : Prop where
  ex : ∃ (f : Addr) (fd : FuncData) (ps : List Str), FnOk P w K mg base (L2.CX P w) k f fd ps (spF K ct n io fr F) ∧ mg x = some (.ref f) ∧ PySem.W.keepIn K (.ref f) = true ∧ Binds K fd ps []
def frR (ρ : Env) : FR → R D
  | .ok d _ => .ok d ρ
  | .exn e _ => .exn e ρ
  | .bad => .bad
def frR1 (i : Nat) (ρ : Env) : FR → R D
  | .ok d [c] => .ok d (ρ.set i (some c))
  | .exn e [c] => .exn e (ρ.set i (some c))
  | _ => .bad
def mCall0 (F : FSem) (g : Env → R (List D)) : Env → R D := fun ρ => (g ρ).bind fun ds ρ1 => frR ρ1 (F ds)
def mCall1 (F : FSem) (p i : Nat) (g : Env → R (List D)) : Env → R D := fun ρ => (g ρ).bind fun ds ρ1 => match ρ1.getD i none with
  | some c => frR1 i ρ1 (F (ds.set p c))
  | none => .bad
theorem RVs.at {g : Gx} {H : Hp} {ds : List D} {vs : List V} (r : RVs g H ds vs) : ∀ (i : Nat) (d : D), ds[i]? = some d → ∃ v, vs[i]? = some v ∧ RV g H d v := fun i d e => r.get e
theorem val_trk {g : Gx} {H : Hp} {M tm : List Addr} {b : Bool} {d : D} {v : V} (h : Val g H M b d v tm) : ∀ a ∈ tm, H a ≠ none := by
  cases h with
  | fz _ _ => exact fun _ z => nomatch z
  | fr c => intro a ha; rw [List.mem_singleton.mp ha]; exact c.trk

section
variable {X : Cx} {C : Ac} {W : WX} {Γ Γ1 Γ' : List Nat} {fr : Bool} {e : Expr} {es : List Expr} {g : Env → R (List D)} {x : Str} {p pos : Pos} {k n : Nat} {F : FSem}
/-- what the callee's promise asks, from the caller's state (no parameter is changed) -/
theorem sp_call0 {hid tm : List Addr} {ρ1 : Env} {σ : L2.St} {H H1 : Hp} {Q : VK} {ds : List D} {vs : List V} (hn : n = ds.length)
    (S1 : ST X.K C (tm ++ hid) Γ' ρ1 σ H1) (hs : ∀ a ∈ C.hid, a ∈ hid) (k1 : Stp (Ms σ hid Γ) (Ms σ (tm ++ hid) Γ') hid H H1) (t1 : ∀ a ∈ tm, a ∉ Ms σ hid Γ') (ks : Kepts (gx X.K C) H1 (Ms σ (tm ++ hid) Γ') tm ds vs)
    (hio : okG C.io C.io Γ' = true) (q : PostE X.K C W Γ Γ' fr hid σ H Q (frR ρ1 (F ds))) : spF X.K C.ct n [] fr F vs H1 Q (WE W σ) := by
  have sub : ∀ b ∈ Ms σ hid Γ', b ∈ Ms σ (tm ++ hid) Γ' := Ms_subH fun a ha => List.mem_append_right _ ha
  have S2 := S1.forget (fun a ha => List.mem_append_right _ ha) hs
  have rv : RVs (gx X.K C) (mask H1 (Ms σ hid Γ')) ds vs := ks.rv sub t1
  have k2 : Stp (Ms σ hid Γ) (Ms σ hid Γ') hid H H1 := ⟨k1.le.trans (.of_same (mask_sub sub)), k1.fx⟩
  refine ⟨ds, Ms σ hid Γ', [], ks.length ▸ hn.symm, ⟨ks.length, rfl, List.nodup_nil, (fun _ z => nomatch z), S2.trkM, fun i d _ e => ?_, (fun i z => nomatch z)⟩, ?_⟩
  · rw [List.append_nil]; exact rv.at i d e
  · -- behind the call
    have go : ∀ {outs : List D} {tm' : List Addr} {H' : Hp}, CEnd (gx X.K C) [] vs H1 (Ms σ hid Γ') [] outs tm' H' → (∀ a ∈ tm', H' a ≠ none) → ST X.K C (tm' ++ hid) Γ' ρ1 σ H' ∧ Stp (Ms σ hid Γ') (Ms σ (tm' ++ hid) Γ') hid H1 H' := by
      intro outs tm' H' c tt
      have le := c.le
      rw [List.append_nil] at le
      exact S2.goes le (fun a ha => c.fx a (mem_Ms.mpr (.inl ha))) c.gro c.tn tt rfl (fun _ _ => rfl) fun j hj => .inl ⟨rfl, c.fx _ (mem_Ms.mpr (.inr ⟨j, hj, rfl⟩))⟩
    cases qq : F ds with
    | bad => rw [qq] at q; exact q
    | exn e outs =>
      rw [qq] at q
      intro cls od H' c xr
      obtain ⟨S3, _⟩ := go c fun _ z => nomatch z
      obtain ⟨h1, h2, h3⟩ := okG_of hio
      have S4 : ST X.K C C.hid C.io ρ1 σ H' := (ST.forget S3 (hid' := C.hid) (fun a ha => hs a ha) fun _ z => z).weak h1 h2 h3
      refine q cls od H' ?_ S4
      rw [List.append_nil] at xr
      obtain ⟨Cc, x1, x2, x3⟩ := xr
      refine ⟨Cc, x1, x2, ?_⟩
      cases qf : e.fld with
      | none => rw [qf] at x3; exact x3
      | some d =>
        rw [qf] at x3
        obtain ⟨dd, f, v, y1, y2, y3⟩ := x3
        exact ⟨dd, f, v, y1, y2, y3.mono (.of_same (mask_sub fun a ha => by
          rcases mem_Ms.mp ha with z | ⟨j, hj, z⟩
          · exact mem_Ms.mpr (.inl (hs a z))
          · exact mem_Ms.mpr (.inr ⟨j, h1 j hj, z⟩)))⟩
    | ok d outs =>
      rw [qq] at q
      intro v H' tm' c va
      obtain ⟨S3, k3⟩ := go c (val_trk va)
      refine q v H' tm' S3 (k2.trans k3 fun _ z => z) ?_ fun a ha z => S2.none_out (c.tn a ha) z
      rw [List.append_nil] at va
      have eM : Ms σ (tm' ++ hid) Γ' = tm' ++ Ms σ hid Γ' := by unfold Ms; rw [List.append_assoc]
      rw [eM]; exact va
theorem call0_tE {t : TE} {σ : L2.St} {H : Hp} {Q : VK} (ha : SA X C W Γ es Γ' g) (hn : n = es.length) (hio : okG C.io C.io Γ' = true) (p : tE X.K C W Γ Γ' fr (mCall0 F g) σ H Q) :
    tAs X.K C W Γ Γ' g σ H fun vs H1 => spF X.K C.ct n [] fr F vs H1 Q (WE W σ) := by
  obtain ⟨hid, ρ, S, p⟩ := p
  refine ⟨hid, ρ, S, ?_⟩
  unfold mCall0 at p
  cases q : g ρ with
  | bad => rw [q] at p; exact p
  | exn e ρ' => rw [q] at p; exact p
  | ok ds ρ1 =>
    rw [q] at p
    exact fun vs H1 tm S1 k1 t1 ks => sp_call0 (by rw [ha.len _ _ _ q]; exact hn) S1 S.sub k1 t1 ks hio p
/-- f(e, ..) of a def that changes no argument -/
theorem se_call0 (G : Fn X.prog X.w X.K X.mg X.base C.ct x k n [] fr F) (tk : Takes X W) (hr : Room k X.A) (ha : SA X C W Γ (e :: es) Γ' g) (hn : n = (e :: es).length := by rfl) (hg : Gl X x := by rfl) (hio : okG C.io C.io Γ' = true := by rfl) (hdb : (x == ("__debug__" : Str)) = false := by decide)
    (he : starEach (e :: es) X.env = (false, eval e X.env) :: starEach es X.env := by rfl) (hpl : (backTo pos (starEach es X.env)).any (·.1) = false := by rfl) : SE X C W Γ (.Call (.Name x p) (e :: es) [] pos) Γ' fr (mCall0 F g) := by
  obtain ⟨f, fd, ps, G, hm, hk, hb⟩ := G.ex
  exact ⟨peImp (pe_callS G hr hg hm hk hb (passAt tk) ha.pa hdb he hpl) fun σ H Q p => call0_tE (t := fun _ _ _ => True) ha hn hio p⟩

/-! ### an argument that is changed -/
inductive K1 (g : Gx) (H : Hp) (M tm : List Addr) (a : Addr) : Nat → List D → List V → Prop where
  | here {d : D} {ds : List D} {vs : List V} : Kepts g H M tm ds vs → K1 g H M tm a 0 (d :: ds) (.ref a :: vs)
  | cons {p : Nat} {d : D} {v : V} {ds : List D} {vs : List V} : Kept g H M tm d v → K1 g H M tm a p ds vs → K1 g H M tm a (p + 1) (d :: ds) (v :: vs)
def PostA1 (K : PySem.W.Frag) (C : Ac) (W : WX) (p i : Nat) (Γ Γ' : List Nat) (hid : List Addr) (σ : L2.St) (H : Hp) (Q : List V → Hp → Prop) : R (List D) → Prop
  | .ok ds ρ' => ∀ vs H' tm, ST K C (tm ++ hid) Γ' ρ' σ H' → Stp (Ms σ hid Γ) (Ms σ (tm ++ hid) Γ') hid H H' → (∀ a ∈ tm, a ∉ Ms σ hid Γ') → K1 (gx K C) H' (Ms σ (tm ++ hid) Γ') tm (sa σ i) p ds vs → Q vs H'
  | .exn e ρ' => ∀ cls od H', ExR (gx K C) H' (mask H' (Ms σ C.hid C.io)) e cls od → ST K C C.hid C.io ρ' σ H' → W cls od σ H'
  | .bad => False
structure SA1 (X : Cx) (C : Ac) (W : WX) (p i : Nat) (Γ : List Nat) (es : List Expr) (Γ' : List Nat) (f : Env → R (List D)) : Prop where
  pa : PA X es fun σ H Q => ∃ hid ρ, ST X.K C hid Γ ρ σ H ∧ PostA1 X.K C W p i Γ Γ' hid σ H Q (f ρ)
  len : ∀ ρ ds ρ', f ρ = .ok ds ρ' → ds.length = es.length
def mIo (g : Env → R (List D)) : Env → R (List D) := fun ρ => (g ρ).bind fun ds ρ' => .ok (.non :: ds) ρ'
theorem sa_io (i : Nat) {y : Str} {yp : Pos} (hr : SA X C W Γ es Γ' g) (hN : X.N[i]? = some y := by rfl) (hv : Vis X.env.scope y := by first | exact Or.inl rfl | exact Or.inr (Or.inl rfl) | exact Or.inr (Or.inr rfl)) (hi : Γ.contains i = true := by rfl)
    (hd : (y == ("__debug__" : Str)) = false := by decide) (hcd : (y == ("__classdict__" : Str)) = false := by decide) (hs : starEach (.Name y yp :: es) X.env = (false, eval (.Name y yp) X.env) :: starEach es X.env := by rfl) : SA1 X C W 0 i Γ (.Name y yp :: es) Γ' (mIo g) := by
  refine ⟨paImp (pa_cons (pe_var hN hv hd hcd) hr.pa hs) fun σ H Q ⟨hid, ρ, S, p⟩ => ?_, fun ρ ds ρ' e => ?_⟩
  · obtain ⟨d, e1, e2, c⟩ := S.ow i (List.contains_iff_mem.mp hi)
    refine ⟨_, e2, hid, ρ, S, ?_⟩
    unfold mIo at p
    cases q : g ρ with
    | bad => rw [q] at p; exact p
    | exn e ρ' => rw [q] at p; exact p
    | ok ds ρ1 =>
      rw [q] at p
      exact fun vs H1 tm S1 k1 t1 ks => p _ H1 tm S1 k1 t1 (.here ks)
  · unfold mIo at e
    cases q : g ρ with
    | bad => rw [q] at e; exact nomatch e
    | exn x ρ' => rw [q] at e; exact nomatch e
    | ok ds2 ρ2 =>
      rw [q] at e
      cases e
      rw [List.length_cons, List.length_cons, hr.len _ _ _ q]
theorem sa1_cons {a : Expr} {fr1 : Bool} {f : Env → R D} {p i : Nat} (ha : SE X C W Γ a Γ1 fr1 f) (hr : SA1 X C W p i Γ1 es Γ' g) (hs : starEach (a :: es) X.env = (false, eval a X.env) :: starEach es X.env := by rfl) : SA1 X C W (p + 1) i Γ (a :: es) Γ' (mCons f g) := by
  refine ⟨paImp (pa_cons ha.pe hr.pa hs) fun σ H Q ⟨hid, ρ, S, p⟩ => ⟨hid, ρ, S, ?_⟩, fun ρ ds ρ' e => ?_⟩
  · unfold mCons at p
    cases q : f ρ with
    | bad => rw [q] at p; exact p
    | exn e ρ' => rw [q] at p; exact p
    | ok d ρ1 =>
      rw [q] at p
      dsimp only [R.bind] at p
      intro v H1 tm1 S1 k1 va t1
      refine ⟨tm1 ++ hid, ρ1, S1, ?_⟩
      cases q2 : g ρ1 with
      | bad => rw [q2] at p; exact p
      | exn e ρ' => rw [q2] at p; exact p
      | ok ds ρ2 =>
        rw [q2] at p
        dsimp only at p
        intro vs H2 tm2 S2 k2 t2 ks
        have e : tm2 ++ (tm1 ++ hid) = (tm2 ++ tm1) ++ hid := (List.append_assoc ..).symm
        rw [e] at S2 k2 ks
        have upk : ∀ {d : D} {v : V}, Kept (gx X.K C) H2 (Ms σ ((tm2 ++ tm1) ++ hid) Γ') tm2 d v → Kept (gx X.K C) H2 (Ms σ ((tm2 ++ tm1) ++ hid) Γ') (tm2 ++ tm1) d v := by
          intro d v k
          rcases k with r | ⟨a, ha, r⟩
          · exact .inl r
          · exact .inr ⟨a, List.mem_append_left _ ha, r⟩
        have ups : ∀ {ds : List D} {vs : List V}, Kepts (gx X.K C) H2 (Ms σ ((tm2 ++ tm1) ++ hid) Γ') tm2 ds vs → Kepts (gx X.K C) H2 (Ms σ ((tm2 ++ tm1) ++ hid) Γ') (tm2 ++ tm1) ds vs := by
          intro ds vs h
          induction h with
          | nil => exact .nil
          | cons k _ ih => exact .cons (upk k) ih
        have up1 : ∀ {p : Nat} {ds : List D} {vs : List V}, K1 (gx X.K C) H2 (Ms σ ((tm2 ++ tm1) ++ hid) Γ') tm2 (sa σ i) p ds vs → K1 (gx X.K C) H2 (Ms σ ((tm2 ++ tm1) ++ hid) Γ') (tm2 ++ tm1) (sa σ i) p ds vs := by
          intro p ds vs h
          induction h with
          | here k => exact .here (ups k)
          | cons k _ ih => exact .cons (upk k) ih
        refine p (v :: vs) H2 (tm2 ++ tm1) S2 (k1.trans k2 fun a ha => List.mem_append_right _ ha) (fun a ha z => ?_) (.cons ((Kept.of va).stp k2 fun a ha => List.mem_append_right _ ha) (up1 ks))
        rcases List.mem_append.mp ha with ha | ha
        · exact t2 a ha (Ms_subH (fun b hb => List.mem_append_right _ hb) a z)
        · rcases mem_Ms.mp z with z | ⟨i, hi, rfl⟩
          · exact t1 a ha (mem_Ms.mpr (.inl z))
          · exact S2.dis i hi (List.mem_append_left _ (List.mem_append_right _ ha))
  · unfold mCons at e
    cases q : f ρ with
    | bad => rw [q] at e; exact nomatch e
    | exn x ρ' => rw [q] at e; exact nomatch e
    | ok d ρ1 =>
      rw [q] at e
      dsimp only [R.bind] at e
      cases q2 : g ρ1 with
      | bad => rw [q2] at e; exact nomatch e
      | exn x ρ' => rw [q2] at e; exact nomatch e
      | ok ds2 ρ2 =>
        rw [q2] at e
        cases e
        rw [List.length_cons, List.length_cons, hr.len _ _ _ q2]
theorem K1.len {g : Gx} {H : Hp} {M tm : List Addr} {a : Addr} {p : Nat} {ds : List D} {vs : List V} (h : K1 g H M tm a p ds vs) : ds.length = vs.length := by
  induction h with
  | here k => rw [List.length_cons, List.length_cons, k.length]
  | cons _ _ ih => rw [List.length_cons, List.length_cons, ih]
theorem K1.at {g : Gx} {H : Hp} {M tm : List Addr} {a : Addr} {p : Nat} {ds : List D} {vs : List V} (h : K1 g H M tm a p ds vs) : vs[p]? = some (.ref a) := by
  induction h with
  | here k => rfl
  | cons _ _ ih => simpa using ih
theorem K1.lt {g : Gx} {H : Hp} {M tm : List Addr} {a : Addr} {p : Nat} {ds : List D} {vs : List V} (h : K1 g H M tm a p ds vs) : p < ds.length := by
  induction h with
  | here k => simp
  | cons _ _ ih => simpa using ih
theorem K1.rv {g : Gx} {H : Hp} {M M' tm : List Addr} {a : Addr} {p : Nat} {ds : List D} {vs : List V} (s : ∀ a ∈ M', a ∈ M) (ht : ∀ a ∈ tm, a ∉ M') (h : K1 g H M tm a p ds vs) : ∀ (j : Nat) (d : D), j ≠ p → ds[j]? = some d → ∃ v, vs[j]? = some v ∧ RV g (mask H M') d v := by
  induction h with
  | here k =>
    intro j d hj e
    cases j with
    | zero => exact absurd rfl hj
    | succ j =>
      obtain ⟨v, h1, h2⟩ := (k.rv s ht).get (i := j) (d := d) (by simpa using e)
      exact ⟨v, by simpa using h1, h2⟩
  | cons k _ ih =>
    intro j d hj e
    cases j with
    | zero =>
      have : _ = d := Option.some.inj e
      subst this
      exact ⟨_, rfl, k.rv s ht⟩
    | succ j =>
      obtain ⟨v, h1, h2⟩ := ih j d (fun z => hj (by rw [z])) (by simpa using e)
      exact ⟨v, by simpa using h1, h2⟩
theorem sp_call1 {p i : Nat} {hid tm : List Addr} {ρ1 : Env} {σ : L2.St} {H H1 : Hp} {Q : VK} {ds : List D} {vs : List V} {c0 : D} (hn : n = ds.length) (hi : i ∈ Γ') (hc : ρ1.getD i none = some c0)
    (S1 : ST X.K C (tm ++ hid) Γ' ρ1 σ H1) (hs : ∀ a ∈ C.hid, a ∈ hid) (k1 : Stp (Ms σ hid Γ) (Ms σ (tm ++ hid) Γ') hid H H1) (t1 : ∀ a ∈ tm, a ∉ Ms σ hid Γ') (ks : K1 (gx X.K C) H1 (Ms σ (tm ++ hid) Γ') tm (sa σ i) p ds vs)
    (hio : okG C.io C.io Γ' = true) (q : PostE X.K C W Γ Γ' fr hid σ H Q (frR1 i ρ1 (F (ds.set p c0)))) : spF X.K C.ct n [p] fr F vs H1 Q (WE W σ) := by
  have sub : ∀ b ∈ Ms σ hid Γ', b ∈ Ms σ (tm ++ hid) Γ' := Ms_subH fun a ha => List.mem_append_right _ ha
  have S2 := S1.forget (fun a ha => List.mem_append_right _ ha) hs
  have k2 : Stp (Ms σ hid Γ) (Ms σ hid Γ') hid H H1 := ⟨k1.le.trans (.of_same (mask_sub sub)), k1.fx⟩
  have hM : sa σ i ∈ Ms σ hid Γ' := mem_Ms.mpr (.inr ⟨i, hi, rfl⟩)
  have eq : ∀ a, a ∈ ((Ms σ hid Γ').filter fun b => decide (b ≠ sa σ i)) ++ [sa σ i] ↔ a ∈ Ms σ hid Γ' := fun a => by
    simp only [List.mem_append, List.mem_filter, List.mem_singleton, decide_eq_true_eq]
    constructor
    · rintro (h | h)
      · exact h.1
      · rw [h]; exact hM
    · intro h
      by_cases z : a = sa σ i
      · exact .inr z
      · exact .inl ⟨h, z⟩
  have em : ∀ A : Hp, mask A (((Ms σ hid Γ').filter fun b => decide (b ≠ sa σ i)) ++ [sa σ i]) = mask A (Ms σ hid Γ') := fun A => mask_congr eq
  obtain ⟨d0, e1, e2, cc⟩ := S2.ow i hi
  have e1' := getD_some hc
  rw [e1] at e1'; cases e1'
  have pl : p < ds.length := ks.lt
  refine ⟨ds.set p c0, (Ms σ hid Γ').filter fun b => decide (b ≠ sa σ i), [sa σ i], ks.len ▸ hn.symm, ⟨by rw [List.length_set]; exact ks.len, by rw [List.map_singleton, List.map_singleton, ks.at], by simp, fun a ha z => ?_, fun a ha => S2.trkM a (List.mem_filter.mp ha).1, fun j d hj e => ?_, fun j hj => ?_⟩, ?_⟩
  · rw [List.mem_singleton.mp ha] at z
    have := (List.mem_filter.mp z).2
    simp at this
  · have hjp : j ≠ p := fun z => hj (by simp [z])
    rw [List.getElem?_set_ne (Ne.symm hjp)] at e
    rw [em]
    exact ks.rv sub t1 j d hjp e
  · rw [List.mem_singleton.mp hj]
    exact ⟨c0, sa σ i, List.getElem?_set_self pl, ks.at, by rw [em]; exact cc⟩
  · have il : i < ρ1.length := (List.getElem?_eq_some_iff.mp e1).1
    have go : ∀ {outs : List D} {tm' : List Addr} {H' : Hp}, CEnd (gx X.K C) [p] vs H1 ((Ms σ hid Γ').filter fun b => decide (b ≠ sa σ i)) [sa σ i] outs tm' H' → (∀ a ∈ tm', H' a ≠ none) →
        ∃ c, outs = [c] ∧ ST X.K C (tm' ++ hid) Γ' (ρ1.set i (some c)) σ H' ∧ Stp (Ms σ hid Γ') (Ms σ (tm' ++ hid) Γ') hid H1 H' := by
      intro outs tm' H' c tt
      have le := c.le
      rw [em, em] at le
      obtain ⟨c1, rfl⟩ : ∃ c1, outs = [c1] := by
        have := c.olen
        match outs, this with
        | [c1], _ => exact ⟨c1, rfl⟩
      have fx : ∀ a ∈ Ms σ hid Γ', a ≠ sa σ i → H' a = H1 a := fun a ha hne => c.fx a (List.mem_filter.mpr ⟨ha, by simpa using hne⟩)
      refine ⟨c1, rfl, S2.goes le (fun a ha => fx a (mem_Ms.mpr (.inl ha)) fun z => S2.dis i hi (z ▸ ha)) c.gro c.tn tt (List.length_set ..) (fun j hj => List.getElem?_set_ne (nem hj hi)) fun j hj => ?_⟩
      by_cases z : j = i
      · subst z
        obtain ⟨a, ea, ca⟩ := c.own 0 p c1 rfl rfl
        rw [ks.at] at ea
        have ea' : sa σ j = a := by
          have := Option.some.inj ea
          injection this
        subst ea'
        refine .inr ⟨c1, List.getElem?_set_self il, ca.mono (fun _ z => z) (.of_same (mask_sub fun b hb => ?_))⟩
        rcases List.mem_append.mp hb with hb | hb
        · exact List.mem_append_left _ hb
        · exact List.mem_append_right _ ((eq b).mpr hb)
      · exact .inl ⟨List.getElem?_set_ne (Ne.symm z), fx _ (mem_Ms.mpr (.inr ⟨j, hj, rfl⟩)) fun e => z (S2.inj hj hi e)⟩
    cases qq : F (ds.set p c0) with
    | bad => rw [qq] at q; exact q
    | exn e outs =>
      rw [qq] at q
      intro cls od H' c xr
      obtain ⟨c1, rfl, S3, _⟩ := go c fun _ z => nomatch z
      obtain ⟨h1, h2, h3⟩ := okG_of hio
      have S4 : ST X.K C C.hid C.io (ρ1.set i (some c1)) σ H' := (ST.forget S3 (hid' := C.hid) (fun a ha => hs a ha) fun _ z => z).weak h1 h2 h3
      refine q cls od H' ?_ S4
      rw [em] at xr
      obtain ⟨Cc, x1, x2, x3⟩ := xr
      refine ⟨Cc, x1, x2, ?_⟩
      cases qf : e.fld with
      | none => rw [qf] at x3; exact x3
      | some d =>
        rw [qf] at x3
        obtain ⟨dd, f, v, y1, y2, y3⟩ := x3
        exact ⟨dd, f, v, y1, y2, y3.mono (.of_same (mask_sub fun a ha => by
          rcases mem_Ms.mp ha with z | ⟨j, hj, z⟩
          · exact mem_Ms.mpr (.inl (hs a z))
          · exact mem_Ms.mpr (.inr ⟨j, h1 j hj, z⟩)))⟩
    | ok d outs =>
      rw [qq] at q
      intro v H' tm' c va
      obtain ⟨c1, rfl, S3, k3⟩ := go c (val_trk va)
      refine q v H' tm' S3 (k2.trans k3 fun _ z => z) ?_ fun a ha z => S2.none_out (c.tn a ha) z
      have eM : Ms σ (tm' ++ hid) Γ' = tm' ++ Ms σ hid Γ' := by unfold Ms; rw [List.append_assoc]
      have em2 : mask H' (tm' ++ (((Ms σ hid Γ').filter fun b => decide (b ≠ sa σ i)) ++ [sa σ i])) = mask H' (tm' ++ Ms σ hid Γ') := mask_congr fun a => by
        rw [List.mem_append, eq, List.mem_append]
      rw [eM]
      cases va with
      | fz r hv => exact .fz (by rw [← em2]; exact r) hv
      | fr cx => exact .fr (cx.mono (fun _ z => z) (by rw [← em2]; exact .refl _))
/-- f(.., x, ..) of a def that changes its argument number p, the owned name i -/
theorem se_call1 {q i : Nat} (G : Fn X.prog X.w X.K X.mg X.base C.ct x k n [q] fr F) (tk : Takes X W) (hr : Room k X.A) (ha : SA1 X C W q i Γ (e :: es) Γ' g) (hn : n = (e :: es).length := by rfl) (hi : Γ'.contains i = true := by rfl) (hg : Gl X x := by rfl) (hio : okG C.io C.io Γ' = true := by rfl) (hdb : (x == ("__debug__" : Str)) = false := by decide)
    (he : starEach (e :: es) X.env = (false, eval e X.env) :: starEach es X.env := by rfl) (hpl : (backTo pos (starEach es X.env)).any (·.1) = false := by rfl) : SE X C W Γ (.Call (.Name x p) (e :: es) [] pos) Γ' fr (mCall1 F q i g) := by
  obtain ⟨f, fd, ps, G, hm, hk, hb⟩ := G.ex
  refine ⟨peImp (pe_callS G hr hg hm hk hb (passAt tk) ha.pa hdb he hpl) fun σ H Q ⟨hid, ρ, S, p⟩ => ⟨hid, ρ, S, ?_⟩⟩
  unfold mCall1 at p
  cases q : g ρ with
  | bad => rw [q] at p; exact p
  | exn e ρ' => rw [q] at p; exact p
  | ok ds ρ1 =>
    rw [q] at p
    dsimp only [R.bind] at p
    intro vs H1 tm S1 k1 t1 ks
    cases qc : ρ1.getD i none with
    | none => rw [qc] at p; exact p.elim
    | some c0 =>
      rw [qc] at p
      exact sp_call1 (by rw [ha.len _ _ _ q]; exact hn) (List.contains_iff_mem.mp hi) qc S1 S.sub k1 t1 ks hio p
end
end Ip
namespace Ip
open PySem L2 PySem.Spec PyProof.Rows

/-! ## methods, constructors, attributes -/
section
variable {X : Cx} {CX : CXT} {k : Nat} {f Cc : Addr} {fd : FuncData} {ps : List Str} {sp : Sp} {E : L2.St → XK} {x m : Str} {p pos apos : Pos} {e o : Expr} {es : List Expr} {ta : TE} {t : TA}
/-- o.m(e, ..): the class is told by the object -/
theorem pe_methD {pl : Sem Bool} (he : PE X o ta) (ha : PA X (e :: es) t)
    (hst : starEach (e :: es) X.env = (false, eval e X.env) :: starEach es X.env := by rfl) (hpl : (backTo pos (starEach es X.env)).any (·.1) = false := by rfl)
    (ht : eval (.Call (.Attribute o m apos) (e :: es) [] pos) X.env = (do
      let ov ← eval o X.env
      standAt apos.atName
      let (f, first) ← holding [ov] (getMethod ov m pl)
      callWith pos f first (backTo pos (starEach (e :: es) X.env)) (backToKw pos (keywordEach [] X.env))) := by rfl) :
    PE X (.Call (.Attribute o m apos) (e :: es) [] pos) (fun σ H Q => ta σ H fun x H1 => ∃ (a dx Cc f : Addr) (fs : List (Str × V)) (k : Nat) (fd : FuncData) (ps : List Str) (sp : Sp) (E : XK), x = .ref a ∧ H1 a = some (.ins Cc dx fs) ∧ fs.lookup m = none ∧ Cls X.K Cc ∧ Meth X.K Cc m f ∧
      FnOk X.prog X.w X.K X.mg X.base (L2.CX X.prog X.w) k f fd ps sp ∧ Room k X.A ∧ Binds X.K fd ps [] ∧ PassesAt (L2.CX X.prog X.w) X σ E ∧ t σ H1 fun vs H2 => sp (x :: vs) H2 Q E) := by
  refine ⟨fun pins s σ H Q I h => ?_⟩
  refine PySem.W.methodCall_KW (pl := pl) (thn (he.run pins s σ H _ I h) fun u s1 ⟨x, H1, I1, rx, a, dx, Cc, f, fs, k, fd, ps, sp, E, ex, ea, l, c, hm, F, hr, hb, hx, q⟩ => ?_) ht
  subst ex
  obtain rfl : u = Value.ref a := rx
  refine getmeth_ok I1 ea c hm l ?_
  refine PySem.W.callWith_K (first := [.ref a]) (h₀ := X.base) I.ok.mod.kin hm.kp (thn (ha.run pos pins s1 σ H1 _ I1 q) fun us s2 ⟨vs, H2, I2, r, q2⟩ => ⟨I2.kIn, ?_⟩) hst hpl
  exact run_fnS (E := fun _ => E) (us := .ref a :: us) (vs := .ref a :: vs) F hr hb hx I2 (.cons rfl r) q2
theorem pe_methD0 {pl : Sem Bool} (he : PE X o ta)
    (ht : eval (.Call (.Attribute o m apos) [] [] pos) X.env = (do
      let ov ← eval o X.env
      standAt apos.atName
      let (f, first) ← holding [ov] (getMethod ov m pl)
      callWith pos f first (backTo pos (starEach [] X.env)) (backToKw pos (keywordEach [] X.env))) := by rfl) :
    PE X (.Call (.Attribute o m apos) [] [] pos) (fun σ H Q => ta σ H fun x H1 => ∃ (a dx Cc f : Addr) (fs : List (Str × V)) (k : Nat) (fd : FuncData) (ps : List Str) (sp : Sp) (E : XK), x = .ref a ∧ H1 a = some (.ins Cc dx fs) ∧ fs.lookup m = none ∧ Cls X.K Cc ∧ Meth X.K Cc m f ∧
      FnOk X.prog X.w X.K X.mg X.base (L2.CX X.prog X.w) k f fd ps sp ∧ Room k X.A ∧ Binds X.K fd ps [] ∧ PassesAt (L2.CX X.prog X.w) X σ E ∧ sp [x] H1 Q E) := by
  refine ⟨fun pins s σ H Q I h => ?_⟩
  refine PySem.W.methodCall_KW (pl := pl) (thn (he.run pins s σ H _ I h) fun u s1 ⟨x, H1, I1, rx, a, dx, Cc, f, fs, k, fd, ps, sp, E, ex, ea, l, c, hm, F, hr, hb, hx, q⟩ => ?_) ht
  subst ex
  obtain rfl : u = Value.ref a := rx
  refine getmeth_ok I1 ea c hm l ?_
  exact PySem.W.callWith_K0 (first := [.ref a]) I1.kIn hm.kp (run_fnS (E := fun _ => E) (us := [.ref a]) (vs := [.ref a]) F hr hb hx I1 (.cons rfl .nil) q)
theorem run_makeS {pins : List (Addr × Obj)} {σ : L2.St} {H : Hp} {s : Shared} {Q : VK} {us : List Value} {vs : List V} (M : Mk X.K Cc f) (F : FnOk X.prog X.w X.K X.mg X.base (L2.CX X.prog X.w) k f fd ps sp) (hr : Room (k + 1) X.A) (hb : Binds X.K fd ps [])
    (hx : PassesAt (L2.CX X.prog X.w) X σ (E σ)) (I : Inv X pins σ H s) (r : Vals vs us)
    (h : ∀ x dx, H x = none → H dx = none → dx ≠ x → sp (.ref x :: vs) (upd (upd H dx (.own x)) x (.ins Cc dx [])) (fun v H2 => v = .non ∧ Q (.ref x) H2) (E σ)) :
    wpAny (model X.prog X.w) X.A (call (.ref Cc) us) (EP X pins σ Q) X.xe s := by
  have hq := h (s.heap.objs.size + 1) s.heap.objs.size (I.hok.fresh (Nat.le_succ _)) (I.hok.fresh (Nat.le_refl _)) (Nat.ne_of_lt (Nat.lt_succ_self _))
  have I2 := Inv.made (C := Cc) I
  have r2 : Vals (V.ref (s.heap.objs.size + 1) :: vs) (Value.ref (s.heap.objs.size + 1) :: us) := .cons rfl r
  have hl : (Value.ref (s.heap.objs.size + 1) :: us ++ []).length = ps.length := by
    rw [List.append_nil, ← r2.length]
    exact F.len _ _ _ _ hq
  have hbb := hb _ (Value.ref (s.heap.objs.size + 1) :: us) I2.kIn hl
  rw [List.append_nil] at hbb
  refine wpAny_call (make_map (f := f) I.kIn M.makes M.init (beq_iff_eq.mp M.fn) (codeAny_mono (F.run _ X.stack _ _ ⟨Value.ref (s.heap.objs.size + 1) :: us, []⟩ (Value.ref (s.heap.objs.size + 1) :: us) _ _ (E σ) (hr.make Cc us [])
    (I2.env0.make Cc us []) hbb r2 hq) fun r s' hq' => ?_))
  cases r with
  | error e => exact hx pins _ _ e s' I2 hq'
  | ok fl =>
    cases fl with
    | ret u =>
      obtain ⟨v, H', I3, rv, ev, q3⟩ := I2.after hq'
      subst ev
      exact ⟨rv, ⟨V.ref (s.heap.objs.size + 1), H', I3, rfl, q3⟩⟩
    | next => exact False.elim hq'
    | brk => exact False.elim hq'
    | cont => exact False.elim hq'
theorem pe_makeE (M : Mk X.K Cc f) (F : FnOk X.prog X.w X.K X.mg X.base (L2.CX X.prog X.w) k f fd ps sp) (hr : Room (k + 1) X.A) (hg : Gl X x) (hm : X.mg x = some (.ref Cc)) (hb : Binds X.K fd ps []) (hx : ∀ σ, PassesAt (L2.CX X.prog X.w) X σ (E σ))
    (ha : PA X (e :: es) t) (hdb : (x == ("__debug__" : Str)) = false := by decide) (he : starEach (e :: es) X.env = (false, eval e X.env) :: starEach es X.env := by rfl) (hpl : (backTo pos (starEach es X.env)).any (·.1) = false := by rfl) :
    PE X (.Call (.Name x p) (e :: es) [] pos) (fun σ H Q => t σ H fun vs H1 => ∀ x dx, H1 x = none → H1 dx = none → dx ≠ x → sp (.ref x :: vs) (upd (upd H1 dx (.own x)) x (.ins Cc dx [])) (fun v H2 => v = .non ∧ Q (.ref x) H2) (E σ)) := by
  refine ⟨fun pins s σ H Q I h => ?_⟩
  refine wpAny_Call_Name_kw (ld_glob I hg hm ?_ hdb)
  refine PySem.W.callWith_K (h₀ := X.base) I.ok.mod.kin M.kp (thn (ha.run pos pins s σ H _ I h) fun us s1 ⟨vs, H1, I1, r, q⟩ => ⟨I1.kIn, ?_⟩) he hpl
  exact run_makeS M F hr hb (hx σ) I1 r q
end

/-- a method, found at each of the classes cs -/
structure Mt (P : Program) (w : World) (K : PySem.W.Frag) (mg : Str → Option Value) (base : Heap) (ct : Str → Option Addr) (c m : Str) (k n : Nat) (fr : Bool) (F : FSem) : Prop where
  ex : ∃ (Cc f : Addr) (fd : FuncData) (ps : List Str), ct c = some Cc ∧ Cls K Cc ∧ Meth K Cc m f ∧ FnOk P w K mg base (L2.CX P w) k f fd ps (spF K ct n [] fr F) ∧ Binds K fd ps []
structure Mkr (P : Program) (w : World) (K : PySem.W.Frag) (mg : Str → Option Value) (base : Heap) (ct : Str → Option Addr) (c : Str) (k n : Nat) (F : FSem) : Prop where
  ex : ∃ (Cc f : Addr) (fd : FuncData) (ps : List Str), ct c = some Cc ∧ mg c = some (.ref Cc) ∧ Mk K Cc f ∧ FnOk P w K mg base (L2.CX P w) k f fd ps (spF K ct n [0] false F) ∧ Binds K fd ps []
structure At (K : PySem.W.Frag) (ct : Str → Option Addr) (c f : Str) : Prop where
  ex : ∃ Cc : Addr, ct c = some Cc ∧ Cls K Cc ∧ NoAttr K Cc f
def clsOf : D → Option Str
  | .obj c _ _ => some c
  | _ => none
def hasNo (m : Str) : D → Bool
  | .obj _ ns _ => !ns.contains m
  | _ => false
def mMeth (cs : List Str) (m : Str) (F : FSem) (f : Env → R D) (g : Env → R (List D)) : Env → R D := fun ρ => (f ρ).bind fun o ρ1 => match clsOf o with
  | some c => if cs.contains c = true ∧ hasNo m o = true then (g ρ1).bind fun ds ρ2 => frR ρ2 (F (o :: ds)) else .bad
  | none => .bad
def fldD (f : Str) : D → Option D
  | .obj _ ns ds => (ns.zip ds).lookup f
  | _ => none
def mFld (cs : List Str) (n : Str) (f : Env → R D) : Env → R D := fun ρ => (f ρ).bind fun o ρ1 => match clsOf o with
  | some c => if cs.contains c = true then ofO ρ1 (fldD n o) else .bad
  | none => .bad
def frMk (ρ : Env) : FR → R D
  | .ok .non [o] => .ok o ρ
  | .exn e _ => .exn e ρ
  | _ => .bad
def mMake (c : Str) (F : FSem) (g : Env → R (List D)) : Env → R D := fun ρ => (g ρ).bind fun ds ρ1 => frMk ρ1 (F (.obj c [] [] :: ds))

theorem lookup_zip_none {α : Type} {m : Str} : ∀ {ns : List Str} {vs : List α}, ns.contains m = false → (ns.zip vs).lookup m = none
  | [], _, _ => rfl
  | n :: ns, [], _ => rfl
  | n :: ns, v :: vs, h => by
    rw [List.contains_cons, Bool.or_eq_false_iff] at h
    rw [List.zip_cons_cons, List.lookup_cons, h.1]
    exact lookup_zip_none h.2
theorem lookup_zip_rv {g : Gx} {H : Hp} {f : Str} {d : D} : ∀ {ns : List Str} {ds : List D} {vs : List V}, RVs g H ds vs → (ns.zip ds).lookup f = some d → ∃ v, (ns.zip vs).lookup f = some v ∧ RV g H d v
  | [], _, _, _, h => by simp at h
  | n :: ns, [], _, _, h => by simp at h
  | n :: ns, e :: ds, _, .cons (v := v) (vs := vs) r t, h => by
    rw [List.zip_cons_cons, List.lookup_cons] at h
    rw [List.zip_cons_cons, List.lookup_cons]
    cases q : f == n with
    | true => rw [q] at h; cases h; exact ⟨v, rfl, r⟩
    | false => rw [q] at h; exact lookup_zip_rv t h

section
variable {X : Cx} {C : Ac} {W : WX} {Γ Γ1 Γ' Γb : List Nat} {fr fr1 : Bool} {e o : Expr} {es : List Expr} {f : Env → R D} {g : Env → R (List D)} {x m c : Str} {cs : List Str} {p pos apos : Pos} {k n : Nat} {F : FSem}
theorem shal_obj {g : Gx} {H Hm : Hp} {o : D} {v : V} {c : Str} (h : Shal g H Hm o v) (hc : clsOf o = some c) : ∃ a Cc dx ns vs ds, o = .obj c ns ds ∧ v = .ref a ∧ H a = some (.ins Cc dx (ns.zip vs)) ∧ g.ct c = some Cc ∧ ns.length = vs.length ∧ RVs g Hm ds vs := by
  cases h with
  | obj h1 h2 h3 h4 =>
    cases hc
    exact ⟨_, _, _, _, _, _, rfl, rfl, h1, h2, h3, h4⟩
  | _ => cases hc
theorem meth_core {hid : List Addr} {ρ : Env} {σ : L2.St} {H : Hp} {Q : VK} {R0 : V → Hp → Prop}
    (p : tE X.K C W Γ Γ' fr (mMeth cs m F f g) σ H Q)
    (go : ∀ (c : Str) (o : D) (v : V) (H1 : Hp) (tm1 : List Addr) (hid : List Addr) (ρ1 : Env), cs.contains c = true → clsOf o = some c → hasNo m o = true → ST X.K C (tm1 ++ hid) Γ1 ρ1 σ H1 → (∀ a ∈ C.hid, a ∈ hid) → Stp (Ms σ hid Γ) (Ms σ (tm1 ++ hid) Γ1) hid H H1 →
      Val (gx X.K C) H1 (Ms σ (tm1 ++ hid) Γ1) fr1 o v tm1 → (∀ a ∈ tm1, a ∉ Ms σ hid Γ1) → PostE X.K C W Γ Γ' fr hid σ H Q ((g ρ1).bind fun ds ρ2 => frR ρ2 (F (o :: ds))) → R0 v H1) : tE X.K C W Γ Γ1 fr1 f σ H R0 := by
  obtain ⟨hid, ρ, S, p⟩ := p
  refine ⟨hid, ρ, S, ?_⟩
  unfold mMeth at p
  cases q : f ρ with
  | bad => rw [q] at p; exact p
  | exn e ρ' => rw [q] at p; exact p
  | ok o ρ1 =>
    rw [q] at p
    dsimp only [R.bind] at p
    intro v H1 tm1 S1 k1 va t1
    cases qc : clsOf o with
    | none => rw [qc] at p; exact p.elim
    | some c =>
      rw [qc] at p
      dsimp only at p
      by_cases hh : cs.contains c = true ∧ hasNo m o = true
      · rw [if_pos hh] at p
        exact go c o v H1 tm1 hid ρ1 hh.1 qc hh.2 S1 S.sub k1 va t1 p
      · rw [if_neg hh] at p; exact p.elim
/-- o.m(e, ..) -/
theorem se_meth {pl : Sem Bool} (G : ∀ c, cs.contains c = true → Mt X.prog X.w X.K X.mg X.base C.ct c m k n fr F) (tk : Takes X W) (hr : Room k X.A) (ho : SE X C W Γ o Γ1 fr1 f) (ha : SA X C W Γ1 (e :: es) Γ' g) (hn : n = (o :: e :: es).length := by rfl) (hio : okG C.io C.io Γ' = true := by rfl)
    (hst : starEach (e :: es) X.env = (false, eval e X.env) :: starEach es X.env := by rfl) (hpl : (backTo pos (starEach es X.env)).any (·.1) = false := by rfl)
    (ht : eval (.Call (.Attribute o m apos) (e :: es) [] pos) X.env = (do
      let ov ← eval o X.env
      standAt apos.atName
      let (f, first) ← holding [ov] (getMethod ov m pl)
      callWith pos f first (backTo pos (starEach (e :: es) X.env)) (backToKw pos (keywordEach [] X.env))) := by rfl) : SE X C W Γ (.Call (.Attribute o m apos) (e :: es) [] pos) Γ' fr (mMeth cs m F f g) := by
  refine ⟨peImp (pe_methD (pl := pl) ho.pe ha.pa hst hpl ht) fun σ H Q p => meth_core (hid := []) (ρ := []) p fun c od v H1 tm1 hid ρ1 hc qc hh S1 hs k1 va t1 p => ?_⟩
  obtain ⟨Cc, fa, fd, ps, e1, cl, mt, fn, bi⟩ := (G c hc).ex
  obtain ⟨a, Cc', dx, ns, vs, ds, rfl, rfl, h1, h2, h3, h4⟩ := shal_obj va.shal0 qc
  have e2 : Cc' = Cc := Option.some.inj (h2.symm.trans e1)
  subst e2
  have hno : (ns.zip vs).lookup m = none := lookup_zip_none (by simpa [hasNo] using hh)
  refine ⟨a, dx, Cc', fa, _, k, fd, ps, _, WE W σ, rfl, h1, hno, cl, mt, fn, hr, bi, passAt tk σ, tm1 ++ hid, ρ1, S1, ?_⟩
  cases q2 : g ρ1 with
  | bad => rw [q2] at p; exact p
  | exn e ρ' => rw [q2] at p; exact p
  | ok es2 ρ2 =>
    rw [q2] at p
    dsimp only [R.bind] at p
    intro us H2 tm2 S2 k2 t2 ks
    have e : tm2 ++ (tm1 ++ hid) = (tm2 ++ tm1) ++ hid := (List.append_assoc ..).symm
    rw [e] at S2 k2 ks
    have upk : ∀ {d : D} {v : V}, Kept (gx X.K C) H2 (Ms σ ((tm2 ++ tm1) ++ hid) Γ') tm2 d v → Kept (gx X.K C) H2 (Ms σ ((tm2 ++ tm1) ++ hid) Γ') (tm2 ++ tm1) d v := by
      intro d v k
      rcases k with r | ⟨a, ha, r⟩
      · exact .inl r
      · exact .inr ⟨a, List.mem_append_left _ ha, r⟩
    have ups : ∀ {ds : List D} {vs : List V}, Kepts (gx X.K C) H2 (Ms σ ((tm2 ++ tm1) ++ hid) Γ') tm2 ds vs → Kepts (gx X.K C) H2 (Ms σ ((tm2 ++ tm1) ++ hid) Γ') (tm2 ++ tm1) ds vs := by
      intro ds vs h
      induction h with
      | nil => exact .nil
      | cons k _ ih => exact .cons (upk k) ih
    refine sp_call0 (ds := .obj c ns ds :: es2) (by have := ha.len _ _ _ q2; simp only [List.length_cons] at this hn ⊢; omega) S2 hs (k1.trans k2 fun a ha => List.mem_append_right _ ha) (fun a ha z => ?_) (.cons ((Kept.of va).stp k2 fun a ha => List.mem_append_right _ ha) (ups ks)) hio p
    rcases List.mem_append.mp ha with ha | ha
    · exact t2 a ha (Ms_subH (fun b hb => List.mem_append_right _ hb) a z)
    · rcases mem_Ms.mp z with z | ⟨i, hi, rfl⟩
      · exact t1 a ha (mem_Ms.mpr (.inl z))
      · exact S2.dis i hi (List.mem_append_left _ (List.mem_append_right _ ha))
/-- o.m() -/
theorem se_meth0 {pl : Sem Bool} (G : ∀ c, cs.contains c = true → Mt X.prog X.w X.K X.mg X.base C.ct c m k n fr F) (tk : Takes X W) (hr : Room k X.A) (ho : SE X C W Γ o Γ1 fr1 f) (hn : n = 1 := by rfl) (hio : okG C.io C.io Γ1 = true := by rfl)
    (ht : eval (.Call (.Attribute o m apos) [] [] pos) X.env = (do
      let ov ← eval o X.env
      standAt apos.atName
      let (f, first) ← holding [ov] (getMethod ov m pl)
      callWith pos f first (backTo pos (starEach [] X.env)) (backToKw pos (keywordEach [] X.env))) := by rfl) : SE X C W Γ (.Call (.Attribute o m apos) [] [] pos) Γ1 fr (mMeth cs m F f mNil) := by
  refine ⟨peImp (pe_methD0 (pl := pl) ho.pe ht) fun σ H Q p => meth_core (hid := []) (ρ := []) p fun c od v H1 tm1 hid ρ1 hc qc hh S1 hs k1 va t1 p => ?_⟩
  obtain ⟨Cc, fa, fd, ps, e1, cl, mt, fn, bi⟩ := (G c hc).ex
  have ks : Kepts (gx X.K C) H1 (Ms σ (tm1 ++ hid) Γ1) tm1 [od] [v] := .cons (Kept.of va) .nil
  obtain ⟨a, Cc', dx, ns, vs, ds, rfl, rfl, h1, h2, h3, h4⟩ := shal_obj va.shal0 qc
  have e2 : Cc' = Cc := Option.some.inj (h2.symm.trans e1)
  subst e2
  have hno : (ns.zip vs).lookup m = none := lookup_zip_none (by simpa [hasNo] using hh)
  exact ⟨a, dx, Cc', fa, _, k, fd, ps, _, WE W σ, rfl, h1, hno, cl, mt, fn, hr, bi, passAt tk σ, sp_call0 (ds := [.obj c ns ds]) hn S1 hs k1 t1 ks hio p⟩
/-- o.f -/
theorem se_fld (G : ∀ c, cs.contains c = true → At X.K C.ct c m) (ho : SE X C W Γ o Γ1 fr1 f) (hb : attributeBase o m X.env (eval o X.env) = eval o X.env := by rfl) : SE X C W Γ (.Attribute o m pos) Γ1 false (mFld cs m f) := ⟨peImp (pe_fld ho.pe hb) fun σ H Q ⟨hid, ρ, S, p⟩ => by
  refine ⟨hid, ρ, S, ?_⟩
  unfold mFld at p
  cases q : f ρ with
  | bad => rw [q] at p; exact p
  | exn e ρ' => rw [q] at p; exact p
  | ok od ρ1 =>
    rw [q] at p
    dsimp only [R.bind] at p
    intro v H1 tm1 S1 k1 va t1
    cases qc : clsOf od with
    | none => rw [qc] at p; exact p.elim
    | some c =>
      rw [qc] at p
      dsimp only at p
      by_cases hh : cs.contains c = true
      · rw [if_pos hh] at p
        obtain ⟨Cc, e1, cl, na⟩ := (G c hh).ex
        obtain ⟨a, Cc', dx, ns, vs, ds, rfl, rfl, h1, h2, h3, h4⟩ := shal_obj va.shal0 qc
        have e2 : Cc' = Cc := Option.some.inj (h2.symm.trans e1)
        subst e2
        cases ql : fldD m (.obj c ns ds) with
        | none => rw [ql] at p; exact p.elim
        | some d =>
          rw [ql] at p
          obtain ⟨w, hw, rw'⟩ := lookup_zip_rv h4 ql
          have sub : ∀ b ∈ Ms σ hid Γ1, b ∈ Ms σ (tm1 ++ hid) Γ1 := Ms_subH fun a ha => List.mem_append_right _ ha
          refine ⟨a, Cc', dx, _, w, rfl, h1, cl, na, hw, ?_⟩
          exact p w H1 [] (S1.forget (fun a ha => List.mem_append_right _ ha) S.sub) ⟨k1.le.trans (.of_same (mask_sub sub)), k1.fx⟩ (.fz (rw'.mono (.of_same (mask_sub sub))) fun z => nomatch z) fun _ z => nomatch z
      · rw [if_neg hh] at p; exact p.elim⟩
/-- C(e, ..) -/
theorem se_make (G : Mkr X.prog X.w X.K X.mg X.base C.ct x k n F) (tk : Takes X W) (hr : Room (k + 1) X.A) (ha : SA X C W Γ (e :: es) Γ' g) (hn : n = (e :: e :: es).length := by rfl) (hg : Gl X x := by rfl) (hio : okG C.io C.io Γ' = true := by rfl) (hdb : (x == ("__debug__" : Str)) = false := by decide)
    (he : starEach (e :: es) X.env = (false, eval e X.env) :: starEach es X.env := by rfl) (hpl : (backTo pos (starEach es X.env)).any (·.1) = false := by rfl) : SE X C W Γ (.Call (.Name x p) (e :: es) [] pos) Γ' true (mMake x F g) := by
  obtain ⟨Cc, f, fd, ps, ec, hm, M, fn, bi⟩ := G.ex
  refine ⟨peImp (pe_makeE (E := WE W) M fn hr hg hm bi (passAt tk) ha.pa hdb he hpl) fun σ H Q ⟨hid, ρ, S, p⟩ => ⟨hid, ρ, S, ?_⟩⟩
  unfold mMake at p
  cases q : g ρ with
  | bad => rw [q] at p; exact p
  | exn e ρ' => rw [q] at p; exact p
  | ok ds ρ1 =>
    rw [q] at p
    dsimp only [R.bind] at p
    intro vs H1 tm S1 k1 t1 ks a dx na nd hne
    have sub : ∀ b ∈ Ms σ hid Γ', b ∈ Ms σ (tm ++ hid) Γ' := Ms_subH fun a ha => List.mem_append_right _ ha
    have S2 := S1.forget (fun a ha => List.mem_append_right _ ha) S.sub
    have k2 : Stp (Ms σ hid Γ) (Ms σ hid Γ') hid H H1 := ⟨k1.le.trans (.of_same (mask_sub sub)), k1.fx⟩
    have rv : RVs (gx X.K C) (mask H1 (Ms σ hid Γ')) ds vs := ks.rv sub t1
    have aM := S2.none_out na
    obtain ⟨Hx, eHx⟩ : ∃ Hx, Hx = upd (upd H1 dx (.own a)) a (.ins Cc dx []) := ⟨_, rfl⟩
    rw [← eHx]
    have sx : Same H1 Hx := by
      rw [eHx]
      intro b u hb
      rw [upd_ne (ne_of_none hb na), upd_ne (ne_of_none hb nd)]; exact hb
    have ea : Hx a = some (.ins Cc dx []) := by rw [eHx]; exact upd_same
    -- the masks
    have l1 : HLe (mask H1 (Ms σ hid Γ')) (mask Hx (Ms σ hid Γ' ++ [a])) := .of_same fun b u hb => by
      obtain ⟨b1, b2⟩ := mask_some hb
      rw [mask_out, sx _ _ b2]
      intro z
      rcases List.mem_append.mp z with z | z
      · exact b1 z
      · rw [List.mem_singleton.mp z, na] at b2; cases b2
    refine ⟨.obj x [] [] :: ds, Ms σ hid Γ', [a], ?_, ⟨?_, rfl, by simp, fun b hb => by rw [List.mem_singleton.mp hb]; exact aM, fun b hb z => ?_, fun i d hi hd => ?_, fun i hi => ?_⟩, ?_⟩
    · rw [List.length_cons, ← ks.length, ha.len _ _ _ q, hn]; rfl
    · rw [List.length_cons, List.length_cons, ks.length]
    · have := S2.trkM b hb
      cases qq : H1 b with
      | none => exact this qq
      | some u => rw [sx b u qq] at z; cases z
    · cases i with
      | zero => exact absurd List.mem_cons_self hi
      | succ i =>
        obtain ⟨v, h1, h2⟩ := rv.get (i := i) (d := d) (by simpa using hd)
        exact ⟨v, by simpa using h1, h2.mono l1⟩
    · rw [List.mem_singleton.mp hi]
      exact ⟨_, a, rfl, rfl, .obj (ns := []) (vs := []) ea ec rfl .nil⟩
    · have go : ∀ {outs : List D} {tm' : List Addr} {H' : Hp}, CEnd (gx X.K C) [0] (.ref a :: vs) Hx (Ms σ hid Γ') [a] outs tm' H' → tm' = [] →
          ∃ o, outs = [o] ∧ ST X.K C ([a] ++ hid) Γ' ρ1 σ H' ∧ Stp (Ms σ hid Γ') (Ms σ ([a] ++ hid) Γ') hid H1 H' ∧ Cont (gx X.K C) H' (mask H' (Ms σ ([a] ++ hid) Γ')) a o := by
        intro outs tm' H' c ht
        subst ht
        obtain ⟨o, rfl⟩ : ∃ o, outs = [o] := by
          have := c.olen
          match outs, this with
          | [o], _ => exact ⟨o, rfl⟩
        have gro : ∀ b, H1 b ≠ none → H' b ≠ none := fun b hb => c.gro b (by
          cases qq : H1 b with
          | none => exact absurd qq hb
          | some u => rw [sx b u qq]; simp)
        have fx : ∀ b ∈ Ms σ hid Γ', H' b = H1 b := fun b hb => (c.fx b hb).trans (by
          cases qq : H1 b with
          | none => exact absurd qq (S2.trkM b hb)
          | some u => exact sx b u qq)
        have le : HLe (mask H1 (Ms σ hid Γ')) (mask H' (Ms σ hid Γ')) := (l1.trans c.le).trans (.of_same (mask_sub fun b hb => List.mem_append_left _ hb))
        obtain ⟨b, eb, cb⟩ := c.own 0 0 o rfl rfl
        have eb' : a = b := by
          have := Option.some.inj eb
          injection this
        subst eb'
        obtain ⟨S3, k3⟩ := S2.goes (tm := [a]) le (fun b hb => fx b (mem_Ms.mpr (.inl hb))) gro (fun b hb => by rw [List.mem_singleton.mp hb]; exact na) (fun b hb => by rw [List.mem_singleton.mp hb]; exact cb.trk) rfl (fun _ _ => rfl) fun j hj => .inl ⟨rfl, fx _ (mem_Ms.mpr (.inr ⟨j, hj, rfl⟩))⟩
        refine ⟨o, rfl, S3, k3, cb.mono (fun _ z => z) (.of_same (mask_sub fun b hb => ?_))⟩
        unfold Ms at hb
        rw [List.append_assoc] at hb
        rcases List.mem_append.mp hb with hb | hb
        · exact List.mem_append_right _ (List.mem_append_right _ hb)
        · exact List.mem_append_right _ (List.mem_append_left _ hb)
      cases qq : F (.obj x [] [] :: ds) with
      | bad => rw [qq] at p; exact p
      | exn e outs =>
        rw [qq] at p
        intro cls od H' c xr
        obtain ⟨o, rfl, S3, k3, _⟩ := go c rfl
        obtain ⟨h1, h2, h3⟩ := okG_of hio
        have S4 : ST X.K C C.hid C.io ρ1 σ H' := (ST.forget S3 (hid' := C.hid) (fun b hb => List.mem_append_right _ (S.sub b hb)) fun _ z => z).weak h1 h2 h3
        refine p cls od H' ?_ S4
        obtain ⟨Cc, x1, x2, x3⟩ := xr
        refine ⟨Cc, x1, x2, ?_⟩
        cases qf : e.fld with
        | none => rw [qf] at x3; exact x3
        | some d =>
          rw [qf] at x3
          obtain ⟨dd, f, v, y1, y2, y3⟩ := x3
          exact ⟨dd, f, v, y1, y2, y3.mono (.of_same (mask_sub fun b hb => by
            rcases mem_Ms.mp hb with z | ⟨j, hj, z⟩
            · exact List.mem_append_left _ (mem_Ms.mpr (.inl (S.sub b z)))
            · exact List.mem_append_left _ (mem_Ms.mpr (.inr ⟨j, h1 j hj, z⟩))))⟩
      | ok d outs =>
        rw [qq] at p
        intro v H' tm' c va
        cases va with
        | fz r hv =>
          obtain ⟨o, rfl, S3, k3, cb⟩ := go c rfl
          cases d with
          | non =>
            cases r
            exact ⟨rfl, p (.ref a) H' [a] S3 (k2.trans k3 fun _ z => z) (.fr cb) fun b hb => by rw [List.mem_singleton.mp hb]; exact aM⟩
          | _ => exact (show False from p).elim
end
end Ip
namespace Ip
open PySem L2 PySem.Spec PyProof.Rows

/-! ## what is walked -/
/-- J gives the items one after the other, as long as what is read alone at (H, M) is kept -/
def ItOk (g : Gx) (J : It) (items : List D) (H : Hp) (M : List Addr) : Prop :=
  ∃ (Gd : Hp → Prop) (Y : Nat → Hp → V → Hp → Prop), Walk J items.length Gd Y ∧ (∀ H1 M1, HLe (mask H M) (mask H1 M1) → Gd H1) ∧
    ∀ i x H1 H1' d, items[i]? = some d → Gd H1 → Y i H1 x H1' → Same H1 H1' ∧ ∀ M1, (∀ a ∈ M1, H1 a ≠ none) → HLe (mask H M) (mask H1 M1) → RV g (mask H1' M1) d x
def PostI (K : PySem.W.Frag) (C : Ac) (W : WX) (Γ Γ' : List Nat) (hid : List Addr) (σ : L2.St) (H : Hp) (Q : It → Hp → Prop) : R (List D) → Prop
  | .ok ds ρ' => ∀ J H', ST K C hid Γ' ρ' σ H' → Stp (Ms σ hid Γ) (Ms σ hid Γ') hid H H' → ItOk (gx K C) J ds H' (Ms σ hid Γ') → Q J H'
  | .exn e ρ' => ∀ cls od H', ExR (gx K C) H' (mask H' (Ms σ C.hid C.io)) e cls od → ST K C C.hid C.io ρ' σ H' → W cls od σ H'
  | .bad => False
structure SI (X : Cx) (C : Ac) (W : WX) (Γ : List Nat) (tg iter : Expr) (Γ' : List Nat) (f : Env → R (List D)) : Prop where
  pi : PI X tg iter fun σ H Q => ∃ hid ρ, ST X.K C hid Γ ρ σ H ∧ PostI X.K C W Γ Γ' hid σ H Q (f ρ)
theorem piImp {X : Cx} {tg e : Expr} {t t' : TI} (h : PI X tg e t) (i : ∀ σ H Q, t' σ H Q → t σ H Q) : PI X tg e t' := ⟨fun pins s σ H Q I q => h.run pins s σ H Q I (i σ H Q q)⟩

/-- a value that is walked, by its kind -/
def IvR (X : Cx) (tg : Expr) (r : V → Hp → (It → Hp → Prop) → Prop) : Prop :=
  ∀ (pins : List (Addr × Obj)) (s : Shared) (σ : L2.St) (H : Hp) (x : V) (v : Value) (Q : It → Hp → Prop), Inv X pins σ H s → RelV x v → r x H Q → wpAny (model X.prog X.w) X.A (pyIter v) (PIE X pins σ tg Q) X.xe s
theorem pi_iv {X : Cx} {tg e : Expr} {t : TE} {r : V → Hp → (It → Hp → Prop) → Prop} (h : IvR X tg r) (he : PE X e t) : PI X tg e fun σ H Q => t σ H fun x H1 => r x H1 Q :=
  ⟨fun pins s σ H Q I q => thn (he.run pins s σ H _ I q) fun v s1 ⟨x, H1, I1, r1, q1⟩ => h pins s1 σ H1 x v Q I1 r1 q1⟩
theorem IvR.or {X : Cx} {tg : Expr} {r r' : V → Hp → (It → Hp → Prop) → Prop} (h : IvR X tg r) (h' : IvR X tg r') : IvR X tg fun x H Q => r x H Q ∨ r' x H Q := fun pins s σ H x v Q I rx q => q.elim (h pins s σ H x v Q I rx) (h' pins s σ H x v Q I rx)
theorem iv_list {X : Cx} {tg : Expr} : IvR X tg fun x H Q => ∃ a, x = .ref a ∧ (∃ xs, SqL X.K H a xs) ∧ Q (Itl X.K a) H := by
  intro pins s σ H x v Q I rx ⟨a, ex, ⟨xs, hq⟩, q⟩
  subst ex; cases rx
  obtain ⟨its, rv, pl, _⟩ := I.list hq
  exact wpAny_pyIter_list pl.isList (pi_one (tk := s.toks) I _ (turn_list a _) ⟨_, Heap.get?_push_size _ rfl, rfl, rfl⟩ q)
theorem iv_tup {X : Cx} {tg : Expr} : IvR X tg fun x H Q => ∃ a, x = .ref a ∧ (∃ xs, SqT X.K H a xs) ∧ Q (Itt X.K a) H := by
  intro pins s σ H x v Q I rx ⟨a, ex, ⟨xs, hq⟩, q⟩
  subst ex; cases rx
  obtain ⟨its, rv, pl, _⟩ := I.tuple hq
  exact wpAny_pyIter_tuple (show s.heap.IsTuple a its.toArray from pl) (pi_one (tk := s.toks) I _ (turn_tuple a _) ⟨_, Heap.get?_push_size _ rfl, rfl, rfl⟩ q)
theorem iv_str {X : Cx} {tg : Expr} : IvR X tg fun y H Q => ∃ x, y = .str x ∧ Q (Its x) H := by
  intro pins s σ H y v Q I ry ⟨x, ex, q⟩
  subst ex
  obtain ⟨t, rfl⟩ := ry
  cases ha : x.cps.all (· < 128)
  · exact wpAny_pyIter_wide ha (pi_one (tk := s.toks) I _ (turn_str _ x t "str_iterator" (.inr rfl)) ⟨_, Heap.get?_push_size _ rfl, rfl, rfl⟩ q)
  · exact wpAny_pyIter_ascii ha (pi_one (tk := s.toks) I _ (turn_str _ x t "str_ascii_iterator" (.inl rfl)) ⟨_, Heap.get?_push_size _ rfl, rfl, rfl⟩ q)
def chD (c : Nat) : D := .str ⟨#[c]⟩
/-- the items of a list, a tuple, a text -/
def asSeq : D → Option (List D)
  | .lst ds => some ds
  | .tup ds => some ds
  | .str x => some (x.cps.toList.map chD)
  | _ => none
def mSeqI (f : Env → R D) : Env → R (List D) := fun ρ => (f ρ).bind fun d ρ' => ofO ρ' (asSeq d)
theorem itok_list {g : Gx} {H : Hp} {M : List Addr} {a : Addr} {vs : List V} {ds : List D} (h : SqL g.K (mask H M) a vs) (r : RVs g (mask H M) ds vs) : ItOk g (Itl g.K a) ds H M := by
  refine ⟨fun H1 => SqL g.K H1 a vs, YAt vs, by rw [r.length]; exact walk_list, fun H1 M1 le => (HLe.of_same mask_same).sqL (le.sqL h), fun i x H1 H1' d hd _ y => ?_⟩
  obtain ⟨rfl, hx⟩ := y
  refine ⟨Same.refl _, fun M1 _ le => ?_⟩
  obtain ⟨v, e, rv⟩ := r.get hd
  rw [hx] at e; cases e
  exact rv.mono le
theorem itok_tup {g : Gx} {H : Hp} {M : List Addr} {a : Addr} {vs : List V} {ds : List D} (h : mask H M a = some (.tup vs)) (r : RVs g (mask H M) ds vs) : ItOk g (Itt g.K a) ds H M := by
  refine ⟨fun H1 => SqT g.K H1 a vs, YAt vs, by rw [r.length]; exact walk_tup, fun H1 M1 le => SqT.of (mask_some (le.o _ _ h trivial)).2, fun i x H1 H1' d hd _ y => ?_⟩
  obtain ⟨rfl, hx⟩ := y
  refine ⟨Same.refl _, fun M1 _ le => ?_⟩
  obtain ⟨v, e, rv⟩ := r.get hd
  rw [hx] at e; cases e
  exact rv.mono le
theorem itok_str {g : Gx} {H : Hp} {M : List Addr} {x : Str} : ItOk g (Its x) (x.cps.toList.map chD) H M := by
  refine ⟨fun _ => True, _, by rw [List.length_map, Array.length_toList]; exact walk_str, fun _ _ _ => trivial, fun i v H1 H1' d hd _ y => ?_⟩
  obtain ⟨rfl, c, hc, rfl⟩ := y
  refine ⟨Same.refl _, fun M1 _ _ => ?_⟩
  rw [List.getElem?_map, Array.getElem?_toList, hc] at hd
  cases hd
  exact .str _
theorem itok_range {g : Gx} {H : Hp} {M : List Addr} {lo : Int} {n : Nat} : ItOk g (Itr lo n) ((List.range n).map fun i => D.int (lo + (i : Nat))) H M := by
  refine ⟨fun _ => True, _, by rw [List.length_map, List.length_range]; exact walk_range, fun _ _ _ => trivial, fun i v H1 H1' d hd _ y => ?_⟩
  obtain ⟨rfl, rfl⟩ := y
  refine ⟨Same.refl _, fun M1 _ _ => ?_⟩
  rw [List.getElem?_map] at hd
  by_cases hi : i < n
  · rw [List.getElem?_range hi] at hd
    cases hd
    exact .int _
  · rw [List.getElem?_eq_none (by simpa using hi)] at hd
    cases hd

section
variable {X : Cx} {C : Ac} {W : WX} {Γ Γ1 Γ2 Γ' Γb : List Nat} {fr fr1 : Bool} {e e2 tg iter : Expr} {es : List Expr} {f : Env → R D} {g : Env → R (List D)} {p pos : Pos}
theorem si_seq (ha : SE X C W Γ e Γ' fr f) : SI X C W Γ tg e Γ' (mSeqI f) := ⟨piImp (pi_iv (iv_list.or (iv_tup.or iv_str)) ha.pe) fun σ H Q ⟨hid, ρ, S, p⟩ => by
  refine ⟨hid, ρ, S, ?_⟩
  unfold mSeqI at p
  cases q : f ρ with
  | bad => rw [q] at p; exact p
  | exn e ρ' => rw [q] at p; exact p
  | ok d ρ' =>
    rw [q] at p
    dsimp only [R.bind] at p
    intro v H1 tm S1 k1 va t1
    have sub : ∀ b ∈ Ms σ hid Γ', b ∈ Ms σ (tm ++ hid) Γ' := Ms_subH fun a ha => List.mem_append_right _ ha
    have S2 := S1.forget (fun a ha => List.mem_append_right _ ha) S.sub
    have k2 : Stp (Ms σ hid Γ) (Ms σ hid Γ') hid H H1 := ⟨k1.le.trans (.of_same (mask_sub sub)), k1.fx⟩
    have rv : RV (gx X.K C) (mask H1 (Ms σ hid Γ')) d v := va.rv sub t1
    cases rv with
    | lst h r => exact .inl ⟨_, rfl, ⟨_, (HLe.of_same mask_same).sqL h⟩, p _ H1 S2 k2 (itok_list h r)⟩
    | tup h r => exact .inr (.inl ⟨_, rfl, ⟨_, SqT.of (mask_some h).2⟩, p _ H1 S2 k2 (itok_tup h r)⟩)
    | str x => exact .inr (.inr ⟨_, rfl, p _ H1 S2 k2 itok_str⟩)
    | _ => exact (show False from p).elim⟩
def asR1 : List D → Option (List D)
  | [.int n] => if -(2 ^ 62) ≤ n ∧ n < 2 ^ 62 then some ((List.range n.toNat).map fun i => .int (i : Nat)) else none
  | _ => none
def asR2 : List D → Option (List D)
  | [.int a, .int b] => if -(2 ^ 62) ≤ a ∧ a < 2 ^ 62 ∧ -(2 ^ 62) ≤ b ∧ b < 2 ^ 62 then some ((List.range (b - a).toNat).map fun i => .int (a + (i : Nat))) else none
  | _ => none
def mArgI (o : List D → Option (List D)) (g : Env → R (List D)) : Env → R (List D) := fun ρ => (g ρ).bind fun ds ρ' => ofO ρ' (o ds)
theorem kept_int {gg : Gx} {H : Hp} {M tm : List Addr} {i : Int} {v : V} (h : Kept gg H M tm (.int i) v) : v = .int i := by
  rcases h with r | ⟨a, _, _, c⟩
  · cases r; rfl
  · cases c
theorem asR1_inv {ds its : List D} (h : asR1 ds = some its) : ∃ n : Int, ds = [.int n] ∧ -(2 ^ 62) ≤ n ∧ n < 2 ^ 62 ∧ its = (List.range n.toNat).map fun i => .int (i : Nat) := by
  unfold asR1 at h
  split at h
  · split at h
    · cases h; exact ⟨_, rfl, by omega, by omega, rfl⟩
    · cases h
  · cases h
theorem asR2_inv {ds its : List D} (h : asR2 ds = some its) : ∃ a b : Int, ds = [.int a, .int b] ∧ -(2 ^ 62) ≤ a ∧ a < 2 ^ 62 ∧ -(2 ^ 62) ≤ b ∧ b < 2 ^ 62 ∧ its = (List.range (b - a).toNat).map fun i => .int (a + (i : Nat)) := by
  unfold asR2 at h
  split at h
  · split at h
    · cases h; exact ⟨_, _, rfl, by omega, by omega, by omega, by omega, rfl⟩
    · cases h
  · cases h
theorem PostI.ofO {K : PySem.W.Frag} {C : Ac} {W : WX} {Γ Γ' : List Nat} {hid : List Addr} {σ : L2.St} {H : Hp} {Q : It → Hp → Prop} {ρ' : Env} {o : Option (List D)} (p : PostI K C W Γ Γ' hid σ H Q (ofO ρ' o)) : ∃ its, o = some its ∧ ∀ J H', ST K C hid Γ' ρ' σ H' → Stp (Ms σ hid Γ) (Ms σ hid Γ') hid H H' → ItOk (gx K C) J its H' (Ms σ hid Γ') → Q J H' := by
  cases o with
  | none => exact (show False from p).elim
  | some its => exact ⟨its, rfl, p⟩
theorem si_range1 (ha : SA X C W Γ [e] Γ' g) (hm : X.mg "range" = none) (hg : Gl X "range" := by rfl) (hs : starEach [e] X.env = [(false, eval e X.env)] := by rfl) : SI X C W Γ tg (.Call (.Name "range" p) [e] [] pos) Γ' (mArgI asR1 g) :=
  ⟨piImp (pi_range1 hg hm ha.pa hs) fun σ H Q ⟨hid, ρ, S, p⟩ => by
  refine ⟨hid, ρ, S, ?_⟩
  unfold mArgI at p
  cases q : g ρ with
  | bad => rw [q] at p; exact p
  | exn e ρ' => rw [q] at p; exact p
  | ok ds ρ' =>
    rw [q] at p
    dsimp only [R.bind] at p
    intro vs H1 tm S1 k1 t1 ks
    have sub : ∀ b ∈ Ms σ hid Γ', b ∈ Ms σ (tm ++ hid) Γ' := Ms_subH fun a ha => List.mem_append_right _ ha
    have S2 := S1.forget (fun a ha => List.mem_append_right _ ha) S.sub
    have k2 : Stp (Ms σ hid Γ) (Ms σ hid Γ') hid H H1 := ⟨k1.le.trans (.of_same (mask_sub sub)), k1.fx⟩
    obtain ⟨its, ho, p⟩ := PostI.ofO p
    obtain ⟨n, rfl, h1, h2, rfl⟩ := asR1_inv ho
    cases ks with
    | cons k ks =>
    cases ks
    have := kept_int k
    subst this
    refine ⟨n, rfl, h1, h2, p _ H1 S2 k2 ?_⟩
    have z := itok_range (g := gx X.K C) (H := H1) (M := Ms σ hid Γ') (lo := 0) (n := n.toNat)
    simpa only [Int.zero_add] using z⟩
theorem si_range2 (ha : SA X C W Γ [e, e2] Γ' g) (hm : X.mg "range" = none) (hg : Gl X "range" := by rfl) (hs : starEach [e, e2] X.env = [(false, eval e X.env), (false, eval e2 X.env)] := by rfl) (hs2 : starEach [e2] X.env = [(false, eval e2 X.env)] := by rfl) : SI X C W Γ tg (.Call (.Name "range" p) [e, e2] [] pos) Γ' (mArgI asR2 g) :=
  ⟨piImp (pi_range2 hg hm ha.pa hs hs2) fun σ H Q ⟨hid, ρ, S, p⟩ => by
  refine ⟨hid, ρ, S, ?_⟩
  unfold mArgI at p
  cases q : g ρ with
  | bad => rw [q] at p; exact p
  | exn e ρ' => rw [q] at p; exact p
  | ok ds ρ' =>
    rw [q] at p
    dsimp only [R.bind] at p
    intro vs H1 tm S1 k1 t1 ks
    have sub : ∀ b ∈ Ms σ hid Γ', b ∈ Ms σ (tm ++ hid) Γ' := Ms_subH fun a ha => List.mem_append_right _ ha
    have S2 := S1.forget (fun a ha => List.mem_append_right _ ha) S.sub
    have k2 : Stp (Ms σ hid Γ) (Ms σ hid Γ') hid H H1 := ⟨k1.le.trans (.of_same (mask_sub sub)), k1.fx⟩
    obtain ⟨its, ho, p⟩ := PostI.ofO p
    obtain ⟨a, b, rfl, h1, h2, h3, h4, rfl⟩ := asR2_inv ho
    cases ks with
    | cons k ks =>
    cases ks with
    | cons k' ks =>
    cases ks
    have := kept_int k
    subst this
    have := kept_int k'
    subst this
    exact ⟨a, b, rfl, ⟨h1, h2, h3, h4⟩, p _ H1 S2 k2 itok_range⟩⟩
end
end Ip
namespace Ip
open PySem L2 PySem.Spec PyProof.Rows

section
variable {X : Cx} {C : Ac} {W : WX} {Γ Γ1 Γ2 Γ3 Γ' Γb : List Nat} {fr fr1 fr2 fr3 : Bool} {e a b c : Expr} {es : List Expr} {f h k : Env → R D} {g : Env → R (List D)} {p pos apos : Pos}
/-! ## how an expression ends -/
theorem fin_fz {hid tm : List Addr} {ρ' : Env} {σ : L2.St} {H H1 : Hp} {Q : VK} {d : D} (p : PostE X.K C W Γ Γ' false hid σ H Q (.ok d ρ')) (hs : ∀ a ∈ C.hid, a ∈ hid) (S1 : ST X.K C (tm ++ hid) Γ' ρ' σ H1) (k1 : Stp (Ms σ hid Γ) (Ms σ (tm ++ hid) Γ') hid H H1) :
    ∀ v H', Same H1 H' → RV (gx X.K C) (mask H' (Ms σ (tm ++ hid) Γ')) d v → Q v H' := fun v H' s rv =>
  p v H' [] (S1.fin hs s) (k1.fin s fun a ha => S1.trk a (List.mem_append_right _ ha)) (.fz (rv.mono (.of_same (mask_sub (Ms_subH fun a ha => List.mem_append_right _ ha)))) fun z => nomatch z) fun _ z => nomatch z
theorem fin_fr {hid tm : List Addr} {ρ' : Env} {σ : L2.St} {H H1 : Hp} {Q : VK} {d : D} (p : PostE X.K C W Γ Γ' true hid σ H Q (.ok d ρ')) (hs : ∀ a ∈ C.hid, a ∈ hid) (S1 : ST X.K C (tm ++ hid) Γ' ρ' σ H1) (k1 : Stp (Ms σ hid Γ) (Ms σ (tm ++ hid) Γ') hid H H1) :
    ∀ q u, H1 q = none → Cont (gx X.K C) (upd H1 q u) (mask H1 (Ms σ (tm ++ hid) Γ')) q d → Q (.ref q) (upd H1 q u) := fun q u hq c => by
  have sub : ∀ b ∈ Ms σ hid Γ', b ∈ Ms σ (tm ++ hid) Γ' := Ms_subH fun a ha => List.mem_append_right _ ha
  have S2 := S1.forget (fun a ha => List.mem_append_right _ ha) hs
  have k2 : Stp (Ms σ hid Γ) (Ms σ hid Γ') hid H H1 := ⟨k1.le.trans (.of_same (mask_sub sub)), k1.fx⟩
  have kh := S2.holdStp (o := u) hq
  refine p (.ref q) _ [q] (S2.hold hq) (k2.trans kh fun _ z => z) (.fr (c.mono (fun _ z => z) ((HLe.of_same (mask_sub sub)).trans kh.le))) fun b hb => ?_
  rw [List.mem_singleton.mp hb]; exact S2.none_out hq

/-! ## arguments that are seen alone -/
def PostV (K : PySem.W.Frag) (C : Ac) (W : WX) (Γ Γ' : List Nat) (hid : List Addr) (σ : L2.St) (H : Hp) (Q : List V → Hp → Prop) : R (List D) → Prop
  | .ok ds ρ' => ∀ vs H' tm, ST K C (tm ++ hid) Γ' ρ' σ H' → Stp (Ms σ hid Γ) (Ms σ (tm ++ hid) Γ') hid H H' → (∀ a ∈ tm, a ∉ Ms σ hid Γ') → Shals (gx K C) H' (mask H' (Ms σ (tm ++ hid) Γ')) ds vs → Q vs H'
  | .exn e ρ' => ∀ cls od H', ExR (gx K C) H' (mask H' (Ms σ C.hid C.io)) e cls od → ST K C C.hid C.io ρ' σ H' → W cls od σ H'
  | .bad => False
def tVs (K : PySem.W.Frag) (C : Ac) (W : WX) (Γ Γ' : List Nat) (f : Env → R (List D)) : TA := fun σ H Q => ∃ hid ρ, ST K C hid Γ ρ σ H ∧ PostV K C W Γ Γ' hid σ H Q (f ρ)
structure SV (X : Cx) (C : Ac) (W : WX) (Γ : List Nat) (es : List Expr) (Γ' : List Nat) (f : Env → R (List D)) : Prop where
  pa : PA X es (tVs X.K C W Γ Γ' f)
theorem sv_nil : SV X C W Γ [] Γ mNil := ⟨paImp pa_nil fun σ H Q ⟨hid, ρ, S, p⟩ => p [] H [] S (Stp.refl _ _ _) (fun _ z => nomatch z) .nil⟩
theorem sv_cons (ha : SE X C W Γ a Γ1 fr1 f) (hr : SV X C W Γ1 es Γ2 g) (hs : starEach (a :: es) X.env = (false, eval a X.env) :: starEach es X.env := by rfl) : SV X C W Γ (a :: es) Γ2 (mCons f g) := by
  refine ⟨paImp (pa_cons ha.pe hr.pa hs) fun σ H Q ⟨hid, ρ, S, p⟩ => ⟨hid, ρ, S, ?_⟩⟩
  unfold mCons at p
  cases q : f ρ with
  | bad => rw [q] at p; exact p
  | exn e ρ' => rw [q] at p; exact p
  | ok d ρ1 =>
    rw [q] at p
    dsimp only [R.bind] at p
    intro v H1 tm1 S1 k1 va t1
    refine ⟨tm1 ++ hid, ρ1, S1, ?_⟩
    cases q2 : g ρ1 with
    | bad => rw [q2] at p; exact p
    | exn e ρ' => rw [q2] at p; exact p
    | ok ds ρ2 =>
      rw [q2] at p
      dsimp only at p
      intro vs H2 tm2 S2 k2 t2 ks
      have e : tm2 ++ (tm1 ++ hid) = (tm2 ++ tm1) ++ hid := (List.append_assoc ..).symm
      rw [e] at S2 k2 ks
      refine p (v :: vs) H2 (tm2 ++ tm1) S2 (k1.trans k2 fun a ha => List.mem_append_right _ ha) (fun a ha z => ?_) (.cons ((Kept.of va).stp (tm' := tm2 ++ tm1) k2 fun a ha => List.mem_append_right _ ha).shal ks)
      rcases List.mem_append.mp ha with ha | ha
      · exact t2 a ha (Ms_subH (fun b hb => List.mem_append_right _ hb) a z)
      · rcases mem_Ms.mp z with z | ⟨i, hi, rfl⟩
        · exact t1 a ha (mem_Ms.mpr (.inl z))
        · exact S2.dis i hi (List.mem_append_left _ (List.mem_append_right _ ha))
def mOwn (i : Nat) (g : Env → R (List D)) : Env → R (List D) := fun ρ => (g ρ).bind fun ds ρ2 => match ρ2.getD i none with
  | some d => .ok (d :: ds) ρ2
  | none => .bad
theorem own_at {K : PySem.W.Frag} {hid : List Addr} {ρ : Env} {σ : L2.St} {H : Hp} (S : ST K C hid Γ ρ σ H) {i : Nat} (hi : Γ.contains i = true) : ∃ d, ρ.getD i none = some d ∧ σ[i]? = some (some (.ref (sa σ i))) ∧ Cont (gx K C) H (mask H (Ms σ hid Γ)) (sa σ i) d := by
  obtain ⟨d, e1, e2, c⟩ := S.ow i (List.contains_iff_mem.mp hi)
  exact ⟨d, by rw [List.getD_eq_getElem?_getD, e1]; rfl, e2, c⟩
/-- an owned name as an argument, not let go -/
theorem sv_own (i : Nat) {x : Str} (hr : SV X C W Γ es Γ2 g) (hN : X.N[i]? = some x := by rfl) (hv : Vis X.env.scope x := by first | exact Or.inl rfl | exact Or.inr (Or.inl rfl) | exact Or.inr (Or.inr rfl)) (hi : Γ.contains i = true := by rfl) (hi2 : Γ2.contains i = true := by rfl)
    (hs : starEach (.Name x p :: es) X.env = (false, eval (.Name x p) X.env) :: starEach es X.env := by rfl) (hd : (x == ("__debug__" : Str)) = false := by decide) (hcd : (x == ("__classdict__" : Str)) = false := by decide) : SV X C W Γ (.Name x p :: es) Γ2 (mOwn i g) := by
  refine ⟨paImp (pa_cons (pe_var hN hv hd hcd) hr.pa hs) fun σ H Q ⟨hid, ρ, S, p⟩ => ?_⟩
  obtain ⟨d0, _, e2, _⟩ := own_at S hi
  refine ⟨_, e2, hid, ρ, S, ?_⟩
  unfold mOwn at p
  cases q : g ρ with
  | bad => rw [q] at p; exact p
  | exn e ρ' => rw [q] at p; exact p
  | ok ds ρ2 =>
    rw [q] at p
    dsimp only [R.bind] at p
    intro vs H2 tm2 S2 k2 t2 ks
    obtain ⟨d, e1, _, c⟩ := own_at S2 hi2
    rw [e1] at p
    exact p _ H2 tm2 S2 k2 t2 (.cons c.shal ks)

/-! ## calls of builtins -/
def CalS (g : Gx) (r : List V → Hp → VK → Prop) (o : List D → Option D) : Prop := ∀ (H : Hp) (M : List Addr) (vs : List V) (ds : List D) (d : D) (Q : VK), (∀ a ∈ M, H a ≠ none) → Shals g H (mask H M) ds vs → o ds = some d →
  (∀ v H', Same H H' → RV g (mask H' M) d v → Q v H') → r vs H Q
def CalO (g : Gx) (r : List V → Hp → VK → Prop) (o : List D → Option D) : Prop := ∀ (H : Hp) (M : List Addr) (vs : List V) (ds : List D) (d : D) (Q : VK), (∀ a ∈ M, H a ≠ none) → Shals g H (mask H M) ds vs → o ds = some d →
  (∀ q u, H q = none → Cont g (upd H q u) (mask H M) q d → Q (.ref q) (upd H q u)) → r vs H Q
def mArg (o : List D → Option D) (g : Env → R (List D)) : Env → R D := fun ρ => (g ρ).bind fun ds ρ' => ofO ρ' (o ds)
theorem arg_tE {r : List V → Hp → VK → Prop} {o : List D → Option D} (hs : CalS ⟨X.K, C.ct⟩ r o) {σ : L2.St} {H : Hp} {Q : VK} (p : tE X.K C W Γ Γ' false (mArg o g) σ H Q) : tVs X.K C W Γ Γ' g σ H fun vs H1 => r vs H1 Q := by
  obtain ⟨hid, ρ, S, p⟩ := p
  refine ⟨hid, ρ, S, ?_⟩
  unfold mArg at p
  cases q : g ρ with
  | bad => rw [q] at p; exact p
  | exn e ρ' => rw [q] at p; exact p
  | ok ds ρ2 =>
    rw [q] at p
    dsimp only [R.bind] at p
    intro vs H1 tm S1 k1 t1 ks
    cases q2 : o ds with
    | none => rw [q2] at p; exact p.elim
    | some d => rw [q2] at p; exact hs H1 _ vs ds d Q S1.trkM ks q2 (fin_fz p S.sub S1 k1)
theorem arg_tO {r : List V → Hp → VK → Prop} {o : List D → Option D} (hs : CalO ⟨X.K, C.ct⟩ r o) {σ : L2.St} {H : Hp} {Q : VK} (p : tE X.K C W Γ Γ' true (mArg o g) σ H Q) : tVs X.K C W Γ Γ' g σ H fun vs H1 => r vs H1 Q := by
  obtain ⟨hid, ρ, S, p⟩ := p
  refine ⟨hid, ρ, S, ?_⟩
  unfold mArg at p
  cases q : g ρ with
  | bad => rw [q] at p; exact p
  | exn e ρ' => rw [q] at p; exact p
  | ok ds ρ2 =>
    rw [q] at p
    dsimp only [R.bind] at p
    intro vs H1 tm S1 k1 t1 ks
    cases q2 : o ds with
    | none => rw [q2] at p; exact p.elim
    | some d => rw [q2] at p; exact hs H1 _ vs ds d Q S1.trkM ks q2 (fin_fr p S.sub S1 k1)
variable {id T : String} {x : Str} {r : List V → Hp → VK → Prop} {o : List D → Option D}
theorem se_calB (hc : CallR X (.builtin id) r) (hs : CalS ⟨X.K, C.ct⟩ r o) (hm : X.mg x = none) (ha : SV X C W Γ (e :: es) Γ' g) (hg : Gl X x := by rfl) (hv : bootBuiltins x = some (.builtin id) := by decide +kernel) (hn : x ≠ "__name__" := by decide) (hdb : (x == ("__debug__" : Str)) = false := by decide)
    (he : starEach (e :: es) X.env = (false, eval e X.env) :: starEach es X.env := by rfl) (hpl : (backTo pos (starEach es X.env)).any (·.1) = false := by rfl) : SE X C W Γ (.Call (.Name x p) (e :: es) [] pos) Γ' false (mArg o g) :=
  ⟨peImp (pe_callB hc hg hm hv ha.pa hn hdb he hpl) fun _ _ _ p => arg_tE hs p⟩
theorem se_calT (hc : CallR X (.type T) r) (hs : CalS ⟨X.K, C.ct⟩ r o) (hm : X.mg x = none) (ha : SV X C W Γ (e :: es) Γ' g) (hg : Gl X x := by rfl) (hv : bootBuiltins x = some (.type T) := by decide +kernel) (hn : x ≠ "__name__" := by decide) (hdb : (x == ("__debug__" : Str)) = false := by decide)
    (he : starEach (e :: es) X.env = (false, eval e X.env) :: starEach es X.env := by rfl) (hpl : (backTo pos (starEach es X.env)).any (·.1) = false := by rfl) : SE X C W Γ (.Call (.Name x p) (e :: es) [] pos) Γ' false (mArg o g) :=
  ⟨peImp (pe_callTy hc hg hm hv ha.pa hn hdb he hpl) fun _ _ _ p => arg_tE hs p⟩
theorem se_calO (hc : CallR X (.type T) r) (hs : CalO ⟨X.K, C.ct⟩ r o) (hm : X.mg x = none) (ha : SV X C W Γ (e :: es) Γ' g) (hg : Gl X x := by rfl) (hv : bootBuiltins x = some (.type T) := by decide +kernel) (hn : x ≠ "__name__" := by decide) (hdb : (x == ("__debug__" : Str)) = false := by decide)
    (he : starEach (e :: es) X.env = (false, eval e X.env) :: starEach es X.env := by rfl) (hpl : (backTo pos (starEach es X.env)).any (·.1) = false := by rfl) : SE X C W Γ (.Call (.Name x p) (e :: es) [] pos) Γ' true (mArg o g) :=
  ⟨peImp (pe_callTy hc hg hm hv ha.pa hn hdb he hpl) fun _ _ _ p => arg_tO hs p⟩

/-! ### the builtins -/
def oLen : List D → Option D
  | [.str y] => if y.length ≤ sizeLine then some (.int y.length) else none
  | [.lst ds] => some (.int ds.length)
  | [.tup ds] => some (.int ds.length)
  | _ => none
theorem cal_len {gg : Gx} : CalS gg (fun xs H Q => ∃ x n, xs = [x] ∧ LenV gg.K x H n ∧ Q (.int n) H) oLen := fun H M vs ds d Q tr ks ho q => by
  cases ks with
  | nil => cases ho
  | cons s t =>
    cases t with
    | cons _ _ => cases s <;> cases ho
    | nil =>
      cases s with
      | str y =>
        simp only [oLen, Option.ite_none_right_eq_some, Option.some.injEq] at ho
        obtain ⟨hz, rfl⟩ := ho
        exact ⟨_, _, rfl, ⟨hz, rfl⟩, q _ H (.refl _) (.int _)⟩
      | lst e r => cases ho; rw [r.length] at q; exact ⟨_, _, rfl, .inl ⟨_, e, rfl⟩, q _ H (.refl _) (.int _)⟩
      | tup e r => cases ho; rw [r.length] at q; exact ⟨_, _, rfl, .inr ⟨_, SqT.of e, rfl⟩, q _ H (.refl _) (.int _)⟩
      | _ => cases ho
end
end Ip
namespace Ip
open PySem L2 PySem.Spec PyProof.Rows

/-! ## isinstance(e, T), T a type of the language -/
def tyD : D → Option String
  | .non => some "NoneType"
  | .bl _ => some "bool"
  | .int _ => some "int"
  | .str _ => some "str"
  | .tup _ => some "tuple"
  | .lst _ => some "list"
  | .dic _ _ => some "dict"
  | _ => none
def subT (a b : String) : Bool := a == b || (a == "bool" && b == "int")
def tys : List String := ["NoneType", "bool", "int", "str", "tuple", "list", "dict"]
def KbOk (T : String) : Prop := ∀ t ∈ tys, kitB t T = some (subT t T)
theorem kb_of {T : String} (h : (tys.all fun t => decide (kitB t T = some (subT t T))) = true) : KbOk T := fun t ht => of_decide_eq_true (List.all_eq_true.mp h t ht)
theorem kb_int : KbOk "int" := kb_of (by decide +kernel)
theorem kb_bool : KbOk "bool" := kb_of (by decide +kernel)
theorem kb_str : KbOk "str" := kb_of (by decide +kernel)
theorem kb_list : KbOk "list" := kb_of (by decide +kernel)
theorem kb_tuple : KbOk "tuple" := kb_of (by decide +kernel)
theorem kb_dict : KbOk "dict" := kb_of (by decide +kernel)
theorem kit_shal {X : Cx} {pins : List (Addr × Obj)} {σ : L2.St} {H Hm : Hp} {s : Shared} {g : Gx} {d : D} {x : V} {u : Value} {t : String} (I : Inv X pins σ H s) (hg : g.K = X.K) (sh : Shal g H Hm d x) (rx : RelV x u) (ht : tyD d = some t) :
    ∃ P : Heap → Prop, PySem.W.KitX X.K u (.type t) P ∧ P s.heap ∧ u ≠ .builtin "__main__.__loader__#opaque" := by
  have ext : ∀ {y : Value}, TyX X.K H x y → y = .type t → ∃ P : Heap → Prop, PySem.W.KitX X.K u (.type t) P ∧ P s.heap ∧ u ≠ .builtin "__main__.__loader__#opaque" := fun ty e => by
    rw [← e]; exact kit_of I rx ty
  cases sh with
  | non => cases ht; exact ext (.base .non) rfl
  | bl b => cases ht; exact ext (.base (.bl b)) rfl
  | int i => cases ht; exact ext (.base (.int i)) rfl
  | str y => cases ht; exact ext (.base (.str y)) rfl
  | tup h _ => cases ht; exact ext (.base (.tup h)) rfl
  | lst h _ =>
    cases ht
    rw [hg] at h
    rcases h with (h | ⟨o, h⟩) | ⟨o, _, _, h, c, _⟩
    · exact ext (.base (.lst h)) rfl
    · exact ext (.base (.frz h)) rfl
    · exact ext (.kList h c) rfl
  | dK h _ _ =>
    cases ht
    rcases h with h | ⟨o, h⟩
    · exact ext (.base (.dK h)) rfl
    · exact ext (.fDict h) rfl
  | @dT a ks vs ds h _ _ _ =>
    cases ht
    rcases h with h | ⟨ob, h⟩
    · exact ext (.base (.dT h)) rfl
    · cases (show u = Value.ref a from rx)
      obtain ⟨_, _, _, xs, _, o, es, ep, h1, h2, _⟩ := (show ObjOk X.prog X.w H s.heap a (.frz ob (.dT (ks.zip vs))) from I.hok a _ h)
      exact ⟨_, PySem.W.kitx_dict, ⟨o, h1, h2.1⟩, fun z => nomatch z⟩
  | obj _ _ _ _ => cases ht
def rIsS (g : Gx) (T : String) : List V → Hp → VK → Prop := fun xs H Q => ∃ (x : V) (d : D) (Hm : Hp) (t : String), xs = [x, .ty T] ∧ Shal g H Hm d x ∧ tyD d = some t ∧ Q (.bl (subT t T)) H
theorem call_isS {X : Cx} {g : Gx} (hg : g.K = X.K) {T : String} (hT : KbOk T) : CallR X (.builtin "isinstance") (rIsS g T) := by
  intro pins s σ H xs us Q I r h
  obtain ⟨x, d, Hm, t, rfl, sh, ht, q⟩ := h
  obtain ⟨u1, u2, rfl, r1, r2⟩ := vals2 r
  cases (show u2 = Value.type T from r2)
  obtain ⟨P, Z, p, hx⟩ := kit_shal I hg sh r1 ht
  have hm : t ∈ tys := by
    cases d <;> first | (cases ht; decide) | cases ht
  exact PySem.W.kia_one Z I.kIn p (kit_ty (hT t hm)) hx fun tk => ⟨.bl _, H, I.tok tk, rfl, q⟩
def isiD (T : String) (d : D) : Option D := (tyD d).map fun t => .bl (subT t T)
section
variable {X : Cx} {C : Ac} {W : WX} {Γ Γ1 Γ2 Γ3 Γ' Γb : List Nat} {fr fr1 fr2 fr3 : Bool} {e a b c : Expr} {es : List Expr} {f h k : Env → R D} {g : Env → R (List D)} {p pos apos p2 : Pos}
theorem un_tE {op : D → Option D} {r : V → Hp → VK → Prop} (ho : ∀ (H : Hp) (M : List Addr) (x : V) (dx d : D) (Q : VK), (∀ a ∈ M, H a ≠ none) → Shal ⟨X.K, C.ct⟩ H (mask H M) dx x → op dx = some d → (∀ v H', Same H H' → RV ⟨X.K, C.ct⟩ (mask H' M) d v → Q v H') → r x H Q)
    {σ : L2.St} {H : Hp} {Q : VK} (p : tE X.K C W Γ Γ' false (mUn op f) σ H Q) : tE X.K C W Γ Γ' fr f σ H fun x H1 => r x H1 Q := by
  obtain ⟨hid, ρ, S, p⟩ := p
  refine ⟨hid, ρ, S, ?_⟩
  unfold mUn at p
  cases q : f ρ with
  | bad => rw [q] at p; exact p
  | exn e ρ' => rw [q] at p; exact p
  | ok d ρ1 =>
    rw [q] at p
    dsimp only [R.bind] at p
    intro v H1 tm S1 k1 va t1
    cases q2 : op d with
    | none => rw [q2] at p; exact p.elim
    | some z => rw [q2] at p; exact ho H1 _ v d z Q S1.trkM va.shal0 q2 (fin_fz p S.sub S1 k1)
theorem se_isi {T : String} {x : Str} (he : SE X C W Γ e Γ' fr f) (hT : KbOk T) (hi : X.mg "isinstance" = none) (hm : X.mg x = none) (hgi : Gl X "isinstance" := by rfl) (hg : Gl X x := by rfl) (hvi : bootBuiltins "isinstance" = some (.builtin "isinstance") := by decide +kernel)
    (hv : bootBuiltins x = some (.type T) := by decide +kernel) (hn : x ≠ "__name__" := by decide) (hdb : (x == ("__debug__" : Str)) = false := by decide)
    (hs : starEach [e, .Name x p2] X.env = (false, eval e X.env) :: starEach [.Name x p2] X.env := by rfl) (hs2 : starEach [.Name x p2] X.env = (false, eval (.Name x p2) X.env) :: starEach [] X.env := by rfl)
    (hpl : (backTo pos (starEach [.Name x p2] X.env)).any (·.1) = false := by rfl) : SE X C W Γ (.Call (.Name "isinstance" p) [e, .Name x p2] [] pos) Γ' false (mUn (isiD T) f) :=
  ⟨peImp (pe_callB (call_isS (g := ⟨X.K, C.ct⟩) rfl hT) hgi hi hvi (pa_cons he.pe (pa_cons (pe_bltn hg hm hv (show RelV (.ty T) (Value.type T) from rfl) hn hdb) pa_nil hs2) hs) (by decide) (by decide) hs hpl) fun σ H Q q => by
    refine un_tE (r := fun x H1 Q => rIsS ⟨X.K, C.ct⟩ T [x, .ty T] H1 Q) (fun H M x dx d Q tr sh ho q => ?_) q
    unfold isiD at ho
    cases ht : tyD dx with
    | none => rw [ht] at ho; cases ho
    | some t =>
      rw [ht] at ho
      cases ho
      exact ⟨x, dx, _, t, rfl, sh, ht, q _ H (.refl _) (.bl _)⟩⟩
/-! ## two operands, each read alone or seen -/
def Post2 (K : PySem.W.Frag) (C : Ac) (W : WX) (Γ Γ' : List Nat) (hid : List Addr) (σ : L2.St) (H : Hp) (Q : V → V → Hp → Prop) : R (D × D) → Prop
  | .ok d ρ' => ∀ x y H' tm, ST K C (tm ++ hid) Γ' ρ' σ H' → Stp (Ms σ hid Γ) (Ms σ (tm ++ hid) Γ') hid H H' → (∀ a ∈ tm, a ∉ Ms σ hid Γ') → Shal (gx K C) H' (mask H' (Ms σ (tm ++ hid) Γ')) d.1 x → Shal (gx K C) H' (mask H' (Ms σ (tm ++ hid) Γ')) d.2 y → Q x y H'
  | .exn e ρ' => ∀ cls od H', ExR (gx K C) H' (mask H' (Ms σ C.hid C.io)) e cls od → ST K C C.hid C.io ρ' σ H' → W cls od σ H'
  | .bad => False
structure S2 (X : Cx) (C : Ac) (W : WX) (Γ : List Nat) (a b : Expr) (Γ' : List Nat) (f : Env → R (D × D)) : Prop where
  ex : ∃ ta tb, PE X a ta ∧ PE X b tb ∧ ∀ σ H Rr, (∃ hid ρ, ST X.K C hid Γ ρ σ H ∧ Post2 X.K C W Γ Γ' hid σ H Rr (f ρ)) → ta σ H fun x H1 => tb σ H1 fun y H2 => Rr x y H2
def mPair (f h : Env → R D) : Env → R (D × D) := fun ρ => (f ρ).bind fun x ρ1 => (h ρ1).bind fun y ρ2 => .ok (x, y) ρ2
def mPairO (i : Nat) (h : Env → R D) : Env → R (D × D) := fun ρ => (h ρ).bind fun y ρ2 => match ρ2.getD i none with
  | some x => .ok (x, y) ρ2
  | none => .bad
def mPairR (f : Env → R D) (i : Nat) : Env → R (D × D) := fun ρ => (f ρ).bind fun x ρ2 => match ρ2.getD i none with
  | some y => .ok (x, y) ρ2
  | none => .bad
theorem s2_ee (ha : SE X C W Γ a Γ1 fr1 f) (hb : SE X C W Γ1 b Γ2 fr2 h) : S2 X C W Γ a b Γ2 (mPair f h) := ⟨_, _, ha.pe, hb.pe, fun σ H Rr ⟨hid, ρ, S, p⟩ => by
  unfold mPair at p
  refine two (fr1 := fr1) (fr2 := fr2) S (fun d1 ρ1 d2 ρ2 q1 q2 x y H2 tm S2 k2 t2 v1 v2 => ?_) (fun q => ?_) (fun d1 ρ1 q1 q2 => ?_) (fun e ρ' q => ?_) fun d1 ρ1 e ρ' q1 q2 => ?_
  · rw [q1] at p
    dsimp only [R.bind] at p
    rw [q2] at p
    exact p x y H2 tm S2 k2 t2 v1.shal v2.shal
  · rw [q] at p; exact p
  · rw [q1] at p
    dsimp only [R.bind] at p
    rw [q2] at p; exact p
  · rw [q] at p; exact p
  · rw [q1] at p
    dsimp only [R.bind] at p
    rw [q2] at p; exact p⟩
theorem s2_oe (i : Nat) {x : Str} (hb : SE X C W Γ b Γ2 fr2 h) (hN : X.N[i]? = some x := by rfl) (hv : Vis X.env.scope x := by first | exact Or.inl rfl | exact Or.inr (Or.inl rfl) | exact Or.inr (Or.inr rfl)) (hi : Γ.contains i = true := by rfl) (hi2 : Γ2.contains i = true := by rfl)
    (hd : (x == ("__debug__" : Str)) = false := by decide) (hcd : (x == ("__classdict__" : Str)) = false := by decide) : S2 X C W Γ (.Name x p) b Γ2 (mPairO i h) := ⟨_, _, pe_var hN hv hd hcd, hb.pe, fun σ H Rr ⟨hid, ρ, S, p⟩ => by
  obtain ⟨d0, _, e2, _⟩ := own_at S hi
  refine ⟨_, e2, hid, ρ, S, ?_⟩
  unfold mPairO at p
  cases q : h ρ with
  | bad => rw [q] at p; exact p
  | exn e ρ' => rw [q] at p; exact p
  | ok d2 ρ2 =>
    rw [q] at p
    dsimp only [R.bind] at p
    intro y H2 tm S2 k2 va t2
    obtain ⟨d, e1, _, c⟩ := own_at S2 hi2
    rw [e1] at p
    exact p _ y H2 tm S2 k2 t2 c.shal va.shal0⟩
theorem s2_eo (i : Nat) {x : Str} (ha : SE X C W Γ a Γ2 fr2 f) (hN : X.N[i]? = some x := by rfl) (hv : Vis X.env.scope x := by first | exact Or.inl rfl | exact Or.inr (Or.inl rfl) | exact Or.inr (Or.inr rfl)) (hi2 : Γ2.contains i = true := by rfl)
    (hd : (x == ("__debug__" : Str)) = false := by decide) (hcd : (x == ("__classdict__" : Str)) = false := by decide) : S2 X C W Γ a (.Name x p) Γ2 (mPairR f i) := ⟨_, _, ha.pe, pe_var hN hv hd hcd, fun σ H Rr ⟨hid, ρ, S, p⟩ => by
  refine ⟨hid, ρ, S, ?_⟩
  unfold mPairR at p
  cases q : f ρ with
  | bad => rw [q] at p; exact p
  | exn e ρ' => rw [q] at p; exact p
  | ok d2 ρ2 =>
    rw [q] at p
    dsimp only [R.bind] at p
    intro y H2 tm S2 k2 va t2
    obtain ⟨d, e1, e2, c⟩ := own_at S2 hi2
    rw [e1] at p
    exact ⟨_, e2, p y _ H2 tm S2 k2 t2 va.shal0 c.shal⟩⟩
def OpO (g : Gx) (r : R2) (op : D → D → Option D) : Prop := ∀ (H : Hp) (M : List Addr) (x y : V) (dx dy d : D) (Q : VK), (∀ a ∈ M, H a ≠ none) → Shal g H (mask H M) dx x → Shal g H (mask H M) dy y → op dx dy = some d →
  (∀ q u, H q = none → Cont g (upd H q u) (mask H M) q d → Q (.ref q) (upd H q u)) → r x y H Q
def m2 (op : D → D → Option D) (f : Env → R (D × D)) : Env → R D := fun ρ => (f ρ).bind fun d ρ2 => ofO ρ2 (op d.1 d.2)
variable {f2 : Env → R (D × D)}
theorem m2_tE {ta tb : TE} {op : D → D → Option D} {r : R2} (ho : OpS ⟨X.K, C.ct⟩ r op) (hx : ∀ σ H Rr, (∃ hid ρ, ST X.K C hid Γ ρ σ H ∧ Post2 X.K C W Γ Γ' hid σ H Rr (f2 ρ)) → ta σ H fun x H1 => tb σ H1 fun y H2 => Rr x y H2)
    {σ : L2.St} {H : Hp} {Q : VK} (p : tE X.K C W Γ Γ' false (m2 op f2) σ H Q) : tOp r ta tb σ H Q := by
  obtain ⟨hid, ρ, S, p⟩ := p
  refine hx σ H (fun x y H2 => r x y H2 Q) ⟨hid, ρ, S, ?_⟩
  unfold m2 at p
  cases q : f2 ρ with
  | bad => rw [q] at p; exact p
  | exn e ρ' => rw [q] at p; exact p
  | ok d ρ2 =>
    rw [q] at p
    dsimp only [R.bind] at p
    intro x y H1 tm S1 k1 t1 s1 s2
    cases q2 : op d.1 d.2 with
    | none => rw [q2] at p; exact p.elim
    | some z => rw [q2] at p; exact ho H1 _ x y _ _ z Q S1.trkM s1 s2 q2 (fin_fz p S.sub S1 k1)
theorem m2_tO {ta tb : TE} {op : D → D → Option D} {r : R2} (ho : OpO ⟨X.K, C.ct⟩ r op) (hx : ∀ σ H Rr, (∃ hid ρ, ST X.K C hid Γ ρ σ H ∧ Post2 X.K C W Γ Γ' hid σ H Rr (f2 ρ)) → ta σ H fun x H1 => tb σ H1 fun y H2 => Rr x y H2)
    {σ : L2.St} {H : Hp} {Q : VK} (p : tE X.K C W Γ Γ' true (m2 op f2) σ H Q) : tOp r ta tb σ H Q := by
  obtain ⟨hid, ρ, S, p⟩ := p
  refine hx σ H (fun x y H2 => r x y H2 Q) ⟨hid, ρ, S, ?_⟩
  unfold m2 at p
  cases q : f2 ρ with
  | bad => rw [q] at p; exact p
  | exn e ρ' => rw [q] at p; exact p
  | ok d ρ2 =>
    rw [q] at p
    dsimp only [R.bind] at p
    intro x y H1 tm S1 k1 t1 s1 s2
    cases q2 : op d.1 d.2 with
    | none => rw [q2] at p; exact p.elim
    | some z => rw [q2] at p; exact ho H1 _ x y _ _ z Q S1.trkM s1 s2 q2 (fin_fr p S.sub S1 k1)
theorem se_bin2 {op : Operator} {r : R2} {opD : D → D → Option D} (ho : OpR X (binaryOp op) r) (hs : OpS ⟨X.K, C.ct⟩ r opD) (h2 : S2 X C W Γ a b Γ' f2) : SE X C W Γ (.BinOp a op b pos) Γ' false (m2 opD f2) := by
  obtain ⟨ta, tb, pa, pb, hx⟩ := h2.ex
  exact ⟨peImp (pe_op ho pa pb) fun _ _ _ p => m2_tE hs hx p⟩
theorem se_binO {op : Operator} {r : R2} {opD : D → D → Option D} (ho : OpR X (binaryOp op) r) (hs : OpO ⟨X.K, C.ct⟩ r opD) (h2 : S2 X C W Γ a b Γ' f2) : SE X C W Γ (.BinOp a op b pos) Γ' true (m2 opD f2) := by
  obtain ⟨ta, tb, pa, pb, hx⟩ := h2.ex
  exact ⟨peImp (pe_op ho pa pb) fun _ _ _ p => m2_tO hs hx p⟩
theorem se_cmp2 {op : CmpOp} {r : R2} {opD : D → D → Option D} (ho : OpR X (compareOp op) r) (hs : OpS ⟨X.K, C.ct⟩ r opD) (h2 : S2 X C W Γ a b Γ' f2) (hm : behindInMarks op b = false := by rfl) : SE X C W Γ (.Compare a [op] [b] pos) Γ' false (m2 opD f2) := by
  obtain ⟨ta, tb, pa, pb, hx⟩ := h2.ex
  exact ⟨peImp (pe_cmpR ho pa pb hm) fun _ _ _ p => m2_tE hs hx p⟩
theorem se_ix2 {r : R2} {opD : D → D → Option D} (ho : IxR X r) (hs : OpS ⟨X.K, C.ct⟩ r opD) (h2 : S2 X C W Γ a b Γ' f2) (hm : PlainIx b := by exact fun _ _ => rfl) : SE X C W Γ (.Subscript a b pos) Γ' false (m2 opD f2) := by
  obtain ⟨ta, tb, pa, pb, hx⟩ := h2.ex
  exact ⟨peImp (pe_ix ho pa pb hm) fun _ _ _ p => m2_tE hs hx p⟩
/-! ### a op b op' c -/
def mChain (op op' : D → D → Option D) (f h k : Env → R D) : Env → R D := fun ρ => (f ρ).bind fun x ρ1 => (h ρ1).bind fun y ρ2 => match op x y with
  | some (.bl true) => (k ρ2).bind fun z ρ3 => ofO ρ3 (op' y z)
  | some (.bl false) => .ok (.bl false) ρ2
  | _ => .bad
theorem chain_tE {r r' : R2} {opD opD' : D → D → Option D} (hs : OpS ⟨X.K, C.ct⟩ r opD) (hs' : OpS ⟨X.K, C.ct⟩ r' opD') (hk : okG C.io Γ3 Γ2 = true) {σ : L2.St} {H : Hp} {Q : VK} (pp : tE X.K C W Γ Γ3 false (mChain opD opD' f h k) σ H Q) :
    tChain r r' (tE X.K C W Γ Γ1 fr1 f) (tE X.K C W Γ1 Γ2 fr2 h) (tE X.K C W Γ2 Γ3 fr3 k) σ H Q := by
  obtain ⟨hid, ρ, S, p⟩ := pp
  unfold mChain at p
  refine two (fr1 := fr1) (fr2 := fr2) S (fun d1 ρ1 d2 ρ2 q1 q2 x y H2 tm S2 k2 t2 v1 v2 => ?_) (fun q => ?_) (fun d1 ρ1 q1 q2 => ?_) (fun e ρ' q => ?_) fun d1 ρ1 e ρ' q1 q2 => ?_
  · rw [q1] at p
    dsimp only [R.bind] at p
    rw [q2] at p
    dsimp only [R.bind] at p
    cases q3 : opD d1 d2 with
    | none => rw [q3] at p; exact p.elim
    | some z =>
      rw [q3] at p
      cases z with
      | bl w =>
        refine hs H2 (Ms σ (tm ++ hid) Γ2) x y d1 d2 _ _ S2.trkM v1.shal v2.shal q3 fun v H3 s rv => ?_
        cases rv
        refine ⟨w, rfl, ?_⟩
        have S3 := S2.same s
        have k3 : Stp (Ms σ hid Γ) (Ms σ (tm ++ hid) Γ2) hid H H3 := ⟨k2.le.trans (.of_same (mask_keep fun b o _ e => s b o e)), fun a ha => by
          have e := k2.fx a ha
          rw [← e]
          cases q : H2 a with
          | none => exact absurd q (S2.trk a (List.mem_append_right _ ha))
          | some o => exact s a o q⟩
        cases w with
        | false =>
          rw [if_neg Bool.false_ne_true]
          obtain ⟨h1, h2, h3⟩ := okG_of hk
          have S4 := S3.weak h1 h2 h3
          exact fin_fz (tm := tm) p S.sub S4 ⟨k3.le.trans (.of_same (mask_sub (Ms_sub h1))), k3.fx⟩ _ H3 (.refl _) (.bl _)
        | true =>
          rw [if_pos rfl]
          refine ⟨tm ++ hid, ρ2, S3, ?_⟩
          cases q4 : k ρ2 with
          | bad => rw [q4] at p; exact p
          | exn e ρ' => rw [q4] at p; exact p
          | ok d3 ρ3 =>
            rw [q4] at p
            dsimp only [R.bind] at p
            intro z H4 tm4 S4 k4 v4 t4
            cases q5 : opD' d2 d3 with
            | none => rw [q5] at p; exact p.elim
            | some d =>
              rw [q5] at p
              have v2' : Kept (gx X.K C) H4 (Ms σ (tm4 ++ (tm ++ hid)) Γ3) (tm4 ++ tm) d2 y := by
                refine Kept.stp (M := Ms σ (tm ++ hid) Γ2) (H := H3) (hid := hid) ?_ k4 fun a ha => List.mem_append_right _ ha
                rcases v2 with r | ⟨a, ha, rfl, c⟩
                · exact .inl (r.mono (.of_same (mask_keep fun b o _ e => s b o e)))
                · exact .inr ⟨a, ha, rfl, c.mono (fun o e => s _ _ e) (.of_same (mask_keep fun b o _ e => s b o e))⟩
              have e : tm4 ++ (tm ++ hid) = (tm4 ++ tm) ++ hid := (List.append_assoc ..).symm
              rw [e] at S4 k4 v4 v2'
              exact hs' H4 _ y z d2 d3 d Q S4.trkM v2'.shal v4.shal0 q5 (fin_fz p S.sub S4 (k3.trans k4 fun a ha => List.mem_append_right _ ha))
      | _ => exact (show False from p).elim
  · rw [q] at p; exact p
  · rw [q1] at p
    dsimp only [R.bind] at p
    rw [q2] at p; exact p
  · rw [q] at p; exact p
  · rw [q1] at p
    dsimp only [R.bind] at p
    rw [q2] at p; exact p
theorem se_chain {op op' : CmpOp} {r r' : R2} {opD opD' : D → D → Option D} (ho : OpR X (compareOp op) r) (ho' : OpR X (compareOp op') r') (hs : OpS ⟨X.K, C.ct⟩ r opD) (hs' : OpS ⟨X.K, C.ct⟩ r' opD') (ha : SE X C W Γ a Γ1 fr1 f) (hb : SE X C W Γ1 b Γ2 fr2 h) (hc : SE X C W Γ2 c Γ3 fr3 k)
    (hk : okG C.io Γ3 Γ2 = true := by rfl) (hm : lastMarks [op, op'] [b, c] = false := by with_unfolding_all rfl) : SE X C W Γ (.Compare a [op, op'] [b, c] pos) Γ3 false (mChain opD opD' f h k) :=
  ⟨peImp (pe_chain ho ho' ha.pe hb.pe hc.pe hm) fun σ H Q p => chain_tE hs hs' hk p⟩
end
end Ip
namespace Ip
open PySem L2 PySem.Spec PyProof.Rows

/-! ## the operators on data -/
theorem shal_int {g : Gx} {H Hm : Hp} {i : Int} {v : V} (h : Shal g H Hm (.int i) v) : v = .int i := by cases h; rfl
theorem shal_str {g : Gx} {H Hm : Hp} {i : Str} {v : V} (h : Shal g H Hm (.str i) v) : v = .str i := by cases h; rfl
def ifO (b : Prop) [Decidable b] (d : D) : Option D := if b then some d else none
theorem ifO_some {b : Prop} [Decidable b] {d e : D} (h : ifO b d = some e) : b ∧ d = e := by
  unfold ifO at h
  split at h
  · cases h; exact ⟨by assumption, rfl⟩
  · cases h
def addD : D → D → Option D
  | .int i, .int j => some (.int (i + j))
  | .str i, .str j => ifO (i.length + j.length ≤ sizeLine) (.str (i ++ j))
  | _, _ => none
def subD : D → D → Option D
  | .int i, .int j => some (.int (i - j))
  | _, _ => none
def mulD : D → D → Option D
  | .int i, .int j => ifO ((-(2 ^ 64) < j ∧ j < 2 ^ 64) ∨ (-(2 ^ 64) < i ∧ i < 2 ^ 64) ∨ i.natAbs.log2 + j.natAbs.log2 < 1000000) (.int (i * j))
  | _, _ => none
def fdivD : D → D → Option D
  | .int i, .int j => ifO (0 < j ∧ j.natAbs.log2 < 9000) (.int (i / j))
  | _, _ => none
def modD : D → D → Option D
  | .int i, .int j => ifO (0 < j) (.int (i % j))
  | _, _ => none
def powD : D → D → Option D
  | .int i, .int j => ifO (0 ≤ j ∧ j ≤ 1000000 ∧ i.natAbs < 2 ^ 64) (.int (i ^ j.toNat))
  | _, _ => none
def ltD : D → D → Option D
  | .int i, .int j => some (.bl (decide (i < j)))
  | .str i, .str j => some (.bl (decide (i.cps.toList < j.cps.toList)))
  | _, _ => none
def leD : D → D → Option D
  | .int i, .int j => some (.bl (decide (i ≤ j)))
  | .str i, .str j => some (.bl (!decide (j.cps.toList < i.cps.toList)))
  | _, _ => none
def gtD : D → D → Option D
  | .int i, .int j => some (.bl (decide (j < i)))
  | .str i, .str j => some (.bl (decide (j.cps.toList < i.cps.toList)))
  | _, _ => none
def geD : D → D → Option D
  | .int i, .int j => some (.bl (decide (j ≤ i)))
  | .str i, .str j => some (.bl (!decide (i.cps.toList < j.cps.toList)))
  | _, _ => none
theorem or_or {X : Cx} {op : Value → Value → Sem Value} {r r' : R2} (h : OpR X op r) (h' : OpR X op r') : OpR X op (fun x y H Q => r x y H Q ∨ r' x y H Q) := fun pins s σ H x y v u Q I rx ry q => q.elim (h pins s σ H x y v u Q I rx ry) (h' pins s σ H x y v u Q I rx ry)
section
variable {g : Gx}
/-- both ints, or both texts -/
theorem ops_two {rI rS : R2} {op : D → D → Option D} (hn : ∀ a b d, op a b = some d → (∃ i j, a = .int i ∧ b = .int j) ∨ ∃ i j, a = .str i ∧ b = .str j)
    (hI : ∀ i j d H M Q, op (.int i) (.int j) = some d → (∀ v H', Same H H' → RV g (mask H' M) d v → Q v H') → rI (.int i) (.int j) H Q)
    (hS : ∀ i j d H M Q, op (.str i) (.str j) = some d → (∀ v H', Same H H' → RV g (mask H' M) d v → Q v H') → rS (.str i) (.str j) H Q) : OpS g (fun x y H Q => rI x y H Q ∨ rS x y H Q) op := fun H M x y dx dy d Q tr sx sy ho q => by
  rcases hn _ _ _ ho with ⟨i, j, rfl, rfl⟩ | ⟨i, j, rfl, rfl⟩
  · rw [shal_int sx, shal_int sy]; exact .inl (hI i j d H M Q ho q)
  · rw [shal_str sx, shal_str sy]; exact .inr (hS i j d H M Q ho q)
theorem ops_int {r : R2} {op : D → D → Option D} (hn : ∀ a b d, op a b = some d → ∃ i j, a = .int i ∧ b = .int j)
    (hI : ∀ i j d H M Q, op (.int i) (.int j) = some d → (∀ v H', Same H H' → RV g (mask H' M) d v → Q v H') → r (.int i) (.int j) H Q) : OpS g r op := fun H M x y dx dy d Q tr sx sy ho q => by
  obtain ⟨i, j, rfl, rfl⟩ := hn _ _ _ ho
  rw [shal_int sx, shal_int sy]; exact hI i j d H M Q ho q
theorem inv_int {op : D → D → Option D} (h : ∀ a b, op a b ≠ none → ∃ i j, a = .int i ∧ b = .int j) : ∀ a b d, op a b = some d → ∃ i j, a = .int i ∧ b = .int j := fun a b d e => h a b (by rw [e]; simp)
end
section
variable {g : Gx} {X : Cx}
theorem add_ok : OpS g (fun x y H Q => (rI0 fun i j => .int (i + j)) x y H Q ∨ (fun x y H Q => ∃ i j, x = .str i ∧ y = .str j ∧ i.length + j.length ≤ sizeLine ∧ Q (.str (i ++ j)) H) x y H Q) addD :=
  ops_two (fun a b d h => by cases a <;> cases b <;> first | exact .inl ⟨_, _, rfl, rfl⟩ | exact .inr ⟨_, _, rfl, rfl⟩ | cases h)
    (fun i j d H M Q h q => by cases h; exact ⟨i, j, rfl, rfl, q _ H (.refl _) (.int _)⟩)
    fun i j d H M Q h q => by obtain ⟨h1, rfl⟩ := ifO_some h; exact ⟨i, j, rfl, rfl, h1, q _ H (.refl _) (.str _)⟩
theorem sub_ok : OpS g (rI0 fun i j => .int (i - j)) subD :=
  ops_int (fun a b d h => by cases a <;> cases b <;> first | exact ⟨_, _, rfl, rfl⟩ | cases h) fun i j d H M Q h q => by cases h; exact ⟨i, j, rfl, rfl, q _ H (.refl _) (.int _)⟩
theorem mul_ok : OpS g (fun x y H Q => (rI CMul fun i j => .int (i * j)) x y H Q ∨ (rI CMulW fun i j => .int (i * j)) x y H Q) mulD :=
  ops_int (fun a b d h => by cases a <;> cases b <;> first | exact ⟨_, _, rfl, rfl⟩ | cases h) fun i j d H M Q h q => by
    obtain ⟨h1, rfl⟩ := ifO_some h
    rcases h1 with h1 | h1 | h1
    · exact .inl ⟨i, j, rfl, rfl, .inr h1, q _ H (.refl _) (.int _)⟩
    · exact .inl ⟨i, j, rfl, rfl, .inl h1, q _ H (.refl _) (.int _)⟩
    · exact .inr ⟨i, j, rfl, rfl, h1, q _ H (.refl _) (.int _)⟩
theorem fdiv_ok : OpS g (rI CDivW fun i j => .int (i / j)) fdivD :=
  ops_int (fun a b d h => by cases a <;> cases b <;> first | exact ⟨_, _, rfl, rfl⟩ | cases h) fun i j d H M Q h q => by obtain ⟨h1, rfl⟩ := ifO_some h; exact ⟨i, j, rfl, rfl, h1, q _ H (.refl _) (.int _)⟩
theorem mod_ok : OpS g (rI (fun _ j => 0 < j) fun i j => .int (i % j)) modD :=
  ops_int (fun a b d h => by cases a <;> cases b <;> first | exact ⟨_, _, rfl, rfl⟩ | cases h) fun i j d H M Q h q => by obtain ⟨h1, rfl⟩ := ifO_some h; exact ⟨i, j, rfl, rfl, h1, q _ H (.refl _) (.int _)⟩
theorem pow_ok : OpS g (rI CPow fun i j => .int (i ^ j.toNat)) powD :=
  ops_int (fun a b d h => by cases a <;> cases b <;> first | exact ⟨_, _, rfl, rfl⟩ | cases h) fun i j d H M Q h q => by obtain ⟨h1, rfl⟩ := ifO_some h; exact ⟨i, j, rfl, rfl, h1, q _ H (.refl _) (.int _)⟩
theorem lt_ok : OpS g (fun x y H Q => (rI0 fun i j => .bl (decide (i < j))) x y H Q ∨ (fun x y H Q => ∃ i j, x = .str i ∧ y = .str j ∧ Q (.bl (decide (i.cps.toList < j.cps.toList))) H) x y H Q) ltD :=
  ops_two (fun a b d h => by cases a <;> cases b <;> first | exact .inl ⟨_, _, rfl, rfl⟩ | exact .inr ⟨_, _, rfl, rfl⟩ | cases h)
    (fun i j d H M Q h q => by cases h; exact ⟨i, j, rfl, rfl, q _ H (.refl _) (.bl _)⟩) fun i j d H M Q h q => by cases h; exact ⟨i, j, rfl, rfl, q _ H (.refl _) (.bl _)⟩
theorem le_ok : OpS g (fun x y H Q => (rI0 fun i j => .bl (decide (i ≤ j))) x y H Q ∨ (fun x y H Q => ∃ i j, x = .str i ∧ y = .str j ∧ Q (.bl (!decide (j.cps.toList < i.cps.toList))) H) x y H Q) leD :=
  ops_two (fun a b d h => by cases a <;> cases b <;> first | exact .inl ⟨_, _, rfl, rfl⟩ | exact .inr ⟨_, _, rfl, rfl⟩ | cases h)
    (fun i j d H M Q h q => by cases h; exact ⟨i, j, rfl, rfl, q _ H (.refl _) (.bl _)⟩) fun i j d H M Q h q => by cases h; exact ⟨i, j, rfl, rfl, q _ H (.refl _) (.bl _)⟩
theorem gt_ok : OpS g (fun x y H Q => (rI0 fun i j => .bl (decide (j < i))) x y H Q ∨ (fun x y H Q => ∃ i j, x = .str i ∧ y = .str j ∧ Q (.bl (decide (j.cps.toList < i.cps.toList))) H) x y H Q) gtD :=
  ops_two (fun a b d h => by cases a <;> cases b <;> first | exact .inl ⟨_, _, rfl, rfl⟩ | exact .inr ⟨_, _, rfl, rfl⟩ | cases h)
    (fun i j d H M Q h q => by cases h; exact ⟨i, j, rfl, rfl, q _ H (.refl _) (.bl _)⟩) fun i j d H M Q h q => by cases h; exact ⟨i, j, rfl, rfl, q _ H (.refl _) (.bl _)⟩
theorem ge_ok : OpS g (fun x y H Q => (rI0 fun i j => .bl (decide (j ≤ i))) x y H Q ∨ (fun x y H Q => ∃ i j, x = .str i ∧ y = .str j ∧ Q (.bl (!decide (i.cps.toList < j.cps.toList))) H) x y H Q) geD :=
  ops_two (fun a b d h => by cases a <;> cases b <;> first | exact .inl ⟨_, _, rfl, rfl⟩ | exact .inr ⟨_, _, rfl, rfl⟩ | cases h)
    (fun i j d H M Q h q => by cases h; exact ⟨i, j, rfl, rfl, q _ H (.refl _) (.bl _)⟩) fun i j d H M Q h q => by cases h; exact ⟨i, j, rfl, rfl, q _ H (.refl _) (.bl _)⟩
def isN : D → Bool
  | .non => true
  | _ => false
theorem shal_isN {H Hm : Hp} {d : D} {v : V} (h : Shal g H Hm d v) : decide (v = .non) = isN d := by
  cases h <;> rfl
def isNoneD (a b : D) : Option D := if isN b then some (.bl (isN a)) else none
def isNotNoneD (a b : D) : Option D := if isN b then some (.bl (!isN a)) else none
theorem isN_ok : OpS g (fun x y H Q => y = .non ∧ Q (.bl (decide (x = .non))) H) isNoneD := fun H M x y dx dy d Q tr sx sy ho q => by
  cases dy <;> first | (cases ho; cases sy; exact ⟨rfl, q _ H (.refl _) (by rw [shal_isN sx]; exact .bl _)⟩) | cases ho
theorem notN_ok : OpS g (fun x y H Q => y = .non ∧ Q (.bl (!decide (x = .non))) H) isNotNoneD := fun H M x y dx dy d Q tr sx sy ho q => by
  cases dy <;> first | (cases ho; cases sy; exact ⟨rfl, q _ H (.refl _) (by rw [shal_isN sx]; exact .bl _)⟩) | cases ho

/-! ### == -/
mutual
def toPy : D → Option PyData
  | .non => some .none
  | .bl b => some (.bool b)
  | .int i => some (.int i)
  | .str x => some (.str x)
  | .lst ds => (toPys ds).map .list
  | .tup ds => (toPys ds).map .tuple
  | _ => none
def toPys : List D → Option (List PyData)
  | [] => some []
  | d :: ds => match toPy d, toPys ds with
    | some p, some ps => some (p :: ps)
    | _, _ => none
end
mutual
theorem RV.dp {H : Hp} : ∀ (d : D) (v : V) (p : PyData), RV g H d v → toPy d = some p → Dp g.K H v p
  | .non, _, _, r, e => by cases r; cases e; exact .non
  | .bl b, _, _, r, e => by cases r; cases e; exact .bl b
  | .int i, _, _, r, e => by cases r; cases e; exact .int i
  | .str x, _, _, r, e => by cases r; cases e; exact .str x
  | .lst ds, _, p, r, e => by
    cases r with
    | lst h r =>
      unfold toPy at e
      cases q : toPys ds with
      | none => rw [q] at e; cases e
      | some ps => rw [q] at e; cases e; exact .lst h (RVs.dp ds _ ps r q)
  | .tup ds, _, p, r, e => by
    cases r with
    | tup h r =>
      unfold toPy at e
      cases q : toPys ds with
      | none => rw [q] at e; cases e
      | some ps => rw [q] at e; cases e; exact .tup (.of h) (RVs.dp ds _ ps r q)
  | .dic _ _, _, _, _, e => by unfold toPy at e; cases e
  | .obj _ _ _, _, _, _, e => by unfold toPy at e; cases e
theorem RVs.dp {H : Hp} : ∀ (ds : List D) (vs : List V) (ps : List PyData), RVs g H ds vs → toPys ds = some ps → DpAll g.K H vs ps
  | [], _, _, r, e => by cases r; unfold toPys at e; cases e; exact .nil
  | d :: ds, _, ps, r, e => by
    cases r with
    | cons r t =>
      unfold toPys at e
      cases q1 : toPy d with
      | none => rw [q1] at e; cases e
      | some p =>
        rw [q1] at e
        cases q2 : toPys ds with
        | none => rw [q2] at e; cases e
        | some qs => rw [q2] at e; cases e; exact .cons (RV.dp d _ p r q1) (RVs.dp ds _ qs t q2)
end
def eqD (a b : D) : Option D := match toPy a, toPy b with
  | some p, some q => ifO (SeqAt.shaped p = true ∧ SeqAt.shaped q = true) (.bl (PyData.eqv p q))
  | _, _ => none
def neD (a b : D) : Option D := match toPy a, toPy b with
  | some p, some q => ifO (SeqAt.shaped p = true ∧ SeqAt.shaped q = true) (.bl (!PyData.eqv p q))
  | _, _ => none
theorem eq_ok : OpS g (rEqD g.K) eqD := fun H M x y dx dy d Q tr sx sy ho q => by
  unfold eqD at ho
  cases q1 : toPy dx with
  | none => rw [q1] at ho; cases ho
  | some p =>
    cases q2 : toPy dy with
    | none => rw [q1, q2] at ho; cases ho
    | some p' =>
      rw [q1, q2] at ho
      obtain ⟨⟨h1, h2⟩, rfl⟩ := ifO_some ho
      exact ⟨p, p', RV.dp _ _ _ sx.rv q1, RV.dp _ _ _ sy.rv q2, h1, h2, q _ H (.refl _) (.bl _)⟩
theorem ne_ok : OpS g (rNeD g.K) neD := fun H M x y dx dy d Q tr sx sy ho q => by
  unfold neD at ho
  cases q1 : toPy dx with
  | none => rw [q1] at ho; cases ho
  | some p =>
    cases q2 : toPy dy with
    | none => rw [q1, q2] at ho; cases ho
    | some p' =>
      rw [q1, q2] at ho
      obtain ⟨⟨h1, h2⟩, rfl⟩ := ifO_some ho
      exact ⟨p, p', RV.dp _ _ _ sx.rv q1, RV.dp _ _ _ sy.rv q2, h1, h2, q _ H (.refl _) (.bl _)⟩

/-! ### in -/
def inSD (a b : D) : Option Bool := match a, b with
  | .str x, .str z => match x.cps.toList with
    | [c] => some (decide (c ∈ z.cps.toList))
    | _ => none
  | _, _ => none
def inD (a b : D) : Option D := (inSD a b).map .bl
def notInD (a b : D) : Option D := (inSD a b).map fun k => .bl !k
theorem inSD_inv {a b : D} {k : Bool} (h : inSD a b = some k) : ∃ c z, a = .str ⟨#[c]⟩ ∧ b = .str z ∧ k = decide (c ∈ z.cps.toList) := by
  unfold inSD at h
  cases a <;> cases b <;> first | cases h | skip
  rename_i x z
  dsimp only at h
  split at h
  · rename_i c e
    cases h
    refine ⟨c, z, ?_, rfl, rfl⟩
    cases x
    exact congrArg (fun a => D.str ⟨a⟩) (Array.toList_inj.mp e)
  · cases h
theorem inS_ok : OpS g (fun x y H Q => ∃ (c : Nat) (z : Str), x = .str ⟨#[c]⟩ ∧ y = .str z ∧ Q (.bl (decide (c ∈ z.cps.toList))) H) inD := fun H M x y dx dy d Q tr sx sy ho q => by
  unfold inD at ho
  cases e : inSD dx dy with
  | none => rw [e] at ho; cases ho
  | some k =>
    rw [e] at ho
    cases ho
    obtain ⟨c, z, rfl, rfl, rfl⟩ := inSD_inv e
    rw [shal_str sx, shal_str sy]
    exact ⟨c, z, rfl, rfl, q _ H (.refl _) (.bl _)⟩
theorem notInS_ok : OpS g (fun x y H Q => ∃ (c : Nat) (z : Str), x = .str ⟨#[c]⟩ ∧ y = .str z ∧ Q (.bl (!decide (c ∈ z.cps.toList))) H) notInD := fun H M x y dx dy d Q tr sx sy ho q => by
  unfold notInD at ho
  cases e : inSD dx dy with
  | none => rw [e] at ho; cases ho
  | some k =>
    rw [e] at ho
    cases ho
    obtain ⟨c, z, rfl, rfl, rfl⟩ := inSD_inv e
    rw [shal_str sx, shal_str sy]
    exact ⟨c, z, rfl, rfl, q _ H (.refl _) (.bl _)⟩
/-! ### x[i] -/
def ixD (a b : D) : Option D := match a, b with
  | .lst ds, .int i => atI ds i
  | .tup ds, .int i => atI ds i
  | .str z, .int i => if z.length ≤ sizeLine then (atI z.cps.toList i).map chD else none
  | _, _ => none
theorem atI_len {α β : Type} {xs : List α} {ys : List β} {i : Int} (h : xs.length = ys.length) : ∀ {x : α}, atI xs i = some x → ∃ j : Nat, xs[j]? = some x ∧ ∀ y, ys[j]? = some y → atI ys i = some y := fun {x} e => by
  unfold atI at e ⊢
  rw [← h]
  cases q : ixN xs.length i with
  | none => rw [q] at e; cases e
  | some j => rw [q] at e; exact ⟨j, e, fun y hy => hy⟩
theorem ix_ok : OpS g (rIx g.K) ixD := fun H M x y dx dy d Q tr sx sy ho q => by
  cases dx <;> cases dy <;> first | (cases ho; done) | skip
  · rename_i z i
    cases sx; cases sy
    unfold ixD at ho
    dsimp only at ho
    split at ho
    · rename_i hz
      cases e : atI z.cps.toList i with
      | none => rw [e] at ho; cases ho
      | some c => rw [e] at ho; cases ho; exact .inr (.inr ⟨z, i, c, rfl, rfl, hz, e, q _ H (.refl _) (.str _)⟩)
    · cases ho
  · rename_i ds i
    cases sy
    cases sx with
    | tup h r =>
      obtain ⟨j, h1, h2⟩ := atI_len r.length (show atI ds i = some d from ho)
      obtain ⟨v, e, rv⟩ := r.get h1
      exact .inr (.inl ⟨_, _, i, v, rfl, rfl, .of h, h2 v e, q v H (.refl _) rv⟩)
  · rename_i ds i
    cases sy
    cases sx with
    | lst h r =>
      obtain ⟨j, h1, h2⟩ := atI_len r.length (show atI ds i = some d from ho)
      obtain ⟨v, e, rv⟩ := r.get h1
      exact .inl ⟨_, _, i, v, rfl, rfl, h, h2 v e, q v H (.refl _) rv⟩
/-! ### list + list, text * int -/
def catD : D → D → Option D
  | .lst a, .lst b => ifO (a.length + b.length ≤ sizeLine) (.lst (a ++ b))
  | _, _ => none
def negD : D → Option D
  | .int i => some (.int (-i))
  | _ => none
theorem neg_ok : ∀ (H : Hp) (M : List Addr) (x : V) (dx d : D) (Q : VK), (∀ a ∈ M, H a ≠ none) → Shal g H (mask H M) dx x → negD dx = some d → (∀ v H', Same H H' → RV g (mask H' M) d v → Q v H') → (rU fun i => .int (-i)) x H Q := fun H M x dx d Q tr sx ho q => by
  cases dx <;> first | (cases ho; done) | skip
  cases ho
  cases sx
  exact ⟨_, rfl, q _ H (.refl _) (.int _)⟩
end
end Ip
namespace Ip
open PySem L2 PySem.Spec PyProof.Rows

/-! ## more builtins -/
section
variable {g : Gx} {X : Cx}
theorem shals1 {H Hm : Hp} {d : D} {vs : List V} (h : Shals g H Hm [d] vs) : ∃ v, vs = [v] ∧ Shal g H Hm d v := by
  cases h with
  | cons s t => cases t; exact ⟨_, rfl, s⟩
theorem shals2 {H Hm : Hp} {d e : D} {vs : List V} (h : Shals g H Hm [d, e] vs) : ∃ v u, vs = [v, u] ∧ Shal g H Hm d v ∧ Shal g H Hm e u := by
  cases h with
  | cons s t =>
    obtain ⟨u, rfl, r⟩ := shals1 t
    exact ⟨_, u, rfl, s, r⟩
def oAbs : List D → Option D
  | [.int i] => some (.int (if i < 0 then -i else i))
  | _ => none
theorem cal_abs : CalS g (fun xs H Q => ∃ i, xs = [.int i] ∧ Q (.int (if i < 0 then -i else i)) H) oAbs := fun H M vs ds d Q tr ks ho q => by
  unfold oAbs at ho
  split at ho
  · cases ho
    obtain ⟨v, rfl, s⟩ := shals1 ks
    cases s
    exact ⟨_, rfl, q _ H (.refl _) (.int _)⟩
  · cases ho
def oInt : List D → Option D
  | [.int i] => some (.int i)
  | [.bl k] => some (.int (if k then 1 else 0))
  | _ => none
theorem cal_int : CalS g (fun xs H Q => (∃ i, xs = [.int i] ∧ Q (.int i) H) ∨ ∃ k, xs = [.bl k] ∧ Q (.int (if k then 1 else 0)) H) oInt := fun H M vs ds d Q tr ks ho q => by
  unfold oInt at ho
  split at ho
  · cases ho
    obtain ⟨v, rfl, s⟩ := shals1 ks
    cases s
    exact .inl ⟨_, rfl, q _ H (.refl _) (.int _)⟩
  · cases ho
    obtain ⟨v, rfl, s⟩ := shals1 ks
    cases s
    exact .inr ⟨_, rfl, q _ H (.refl _) (.int _)⟩
  · cases ho
def oMax : List D → Option D
  | [.int i, .int j] => some (.int (if j > i then j else i))
  | _ => none
def oMin : List D → Option D
  | [.int i, .int j] => some (.int (if j < i then j else i))
  | _ => none
theorem cal_max : CalS g (fun xs H Q => ∃ i j, xs = [.int i, .int j] ∧ Q (.int (if j > i then j else i)) H) oMax := fun H M vs ds d Q tr ks ho q => by
  unfold oMax at ho
  split at ho
  · cases ho
    obtain ⟨v, u, rfl, s, t⟩ := shals2 ks
    cases s; cases t
    exact ⟨_, _, rfl, q _ H (.refl _) (.int _)⟩
  · cases ho
theorem cal_min : CalS g (fun xs H Q => ∃ i j, xs = [.int i, .int j] ∧ Q (.int (if j < i then j else i)) H) oMin := fun H M vs ds d Q tr ks ho q => by
  unfold oMin at ho
  split at ho
  · cases ho
    obtain ⟨v, u, rfl, s, t⟩ := shals2 ks
    cases s; cases t
    exact ⟨_, _, rfl, q _ H (.refl _) (.int _)⟩
  · cases ho
def dInts : List D → Option (List Int)
  | [] => some []
  | .int i :: ds => (dInts ds).map (i :: ·)
  | _ :: _ => none
theorem ints_inv : ∀ {ds : List D} {ns : List Int}, dInts ds = some ns → ds = ns.map D.int
  | [], _, h => by cases h; rfl
  | d :: ds, ns, h => by
    cases d with
    | int i =>
      simp only [dInts, Option.map_eq_some_iff] at h
      obtain ⟨ms, h1, rfl⟩ := h
      rw [ints_inv h1]; rfl
    | _ => cases h
def dStrs : List D → Option (List Str)
  | [] => some []
  | .str i :: ds => (dStrs ds).map (i :: ·)
  | _ :: _ => none
theorem strs_inv : ∀ {ds : List D} {ns : List Str}, dStrs ds = some ns → ds = ns.map D.str
  | [], _, h => by cases h; rfl
  | d :: ds, ns, h => by
    cases d with
    | str i =>
      simp only [dStrs, Option.map_eq_some_iff] at h
      obtain ⟨ms, h1, rfl⟩ := h
      rw [strs_inv h1]; rfl
    | _ => cases h
theorem ints_map : ∀ ns : List Int, dInts (ns.map D.int) = some ns
  | [] => rfl
  | n :: ns => by rw [List.map_cons, dInts, ints_map ns]; rfl
theorem strs_map : ∀ ns : List Str, dStrs (ns.map D.str) = some ns
  | [] => rfl
  | n :: ns => by rw [List.map_cons, dStrs, strs_map ns]; rfl
def oSum : List D → Option D
  | [.lst ds] => (dInts ds).map fun ns => .int ns.sum
  | _ => none
theorem cal_sum : CalS g (rSum g.K) oSum := fun H M vs ds d Q tr ks ho q => by
  unfold oSum at ho
  split at ho
  · rename_i ds
    simp only [Option.map_eq_some_iff] at ho
    obtain ⟨ns, h1, rfl⟩ := ho
    have := ints_inv h1
    subst this
    obtain ⟨v, rfl, s⟩ := shals1 ks
    cases s with
    | lst h r =>
      have := r.of_ints
      subst this
      exact ⟨_, ns, rfl, h, q _ H (.refl _) (.int _)⟩
  · cases ho
/-- list(x) of a list or a tuple -/
def oList : List D → Option D
  | [.lst ds] => some (.lst ds)
  | [.tup ds] => some (.lst ds)
  | _ => none
theorem cal_list : CalO g (fun xs H Q => ∃ p ys, xs = [.ref p] ∧ (SqL g.K H p ys ∨ SqT g.K H p ys) ∧ ∀ l, H l = none → Q (.ref l) (upd H l (.lst ys))) oList := fun H M vs ds d Q tr ks ho q => by
  unfold oList at ho
  split at ho
  · cases ho
    obtain ⟨v, rfl, s⟩ := shals1 ks
    cases s with
    | lst h r => exact ⟨_, _, rfl, .inl h, fun l hl => q l _ hl (.lst upd_same r)⟩
  · cases ho
    obtain ⟨v, rfl, s⟩ := shals1 ks
    cases s with
    | tup h r => exact ⟨_, _, rfl, .inr (.of h), fun l hl => q l _ hl (.lst upd_same r)⟩
  · cases ho
/-- list(x) of a text -/
def rListS (_ : PySem.W.Frag) : List V → Hp → VK → Prop := fun xs H Q => ∃ x : Str, xs = [.str x] ∧ x.cps.size ≤ sizeLine ∧ ∀ l, H l = none → Q (.ref l) (upd H l (.lst (x.cps.toList.map fun c => V.str ⟨#[c]⟩)))
theorem vals_signs (x : Str) : ∀ (us : List Value) (n : Nat), us.length + n = x.cps.size → (∀ (i : Nat) (v : Value), us[i]? = some v → SignAt x (n + i) v) → Vals ((x.cps.toList.drop n).map fun c => V.str ⟨#[c]⟩) us
  | [], n, hn, _ => by rw [List.drop_eq_nil_of_le (by simp at hn ⊢; omega)]; exact .nil
  | u :: us, n, hn, h => by
    obtain ⟨c, t, hc, rfl⟩ := h 0 u rfl
    have e : x.cps.toList.drop n = c :: x.cps.toList.drop (n + 1) := by
      have hl : n < x.cps.toList.length := by simp at hn ⊢; omega
      rw [List.drop_eq_getElem_cons hl]
      congr 1
      have h2 : x.cps[n]? = some c := by simpa using hc
      rw [← Array.getElem?_toList, List.getElem?_eq_getElem hl] at h2
      exact Option.some.inj h2
    rw [e]
    refine .cons ⟨t, rfl⟩ (vals_signs x us (n + 1) (by simp at hn ⊢; omega) fun i v hv => ?_)
    have := h (i + 1) v (by simpa using hv)
    rwa [show n + (i + 1) = n + 1 + i by omega] at this
theorem call_listS (hc : X.calm = true) : CallR X (.type "list") (rListS X.K) := by
  intro pins s σ H xs us Q I r h
  obtain ⟨x, rfl, hz, q⟩ := h
  obtain ⟨u, rfl, rx⟩ := vals1 r
  obtain ⟨t, rfl⟩ := rx
  refine call_list_str (I.ok.hd hc) x t (hn := hz) fun h' tk acc' c' hk hS' hacc => ?_
  have rv := vals_signs x acc'.toList 0 (by have := hacc.1; simp [Array.length_toList, this]) fun i v hv => by
    have := hacc.2 i v (by rw [← Array.getElem?_toList]; exact hv)
    rwa [Nat.zero_add]
  rw [List.drop_zero] at rv
  exact ⟨.ref _, _, I.laid (t' := tk) hk (Nat.le_refl _) (o := .lst (x.cps.toList.map fun c => V.str ⟨#[c]⟩)) ⟨by rw [List.length_map, Array.length_toList]; exact hz, acc'.toList, c', rv, by rw [Array.toArray_toList]; exact hS'⟩, rfl, q _ (I.hok.fresh (Nat.le_refl _))⟩
def oListS : List D → Option D
  | [.str x] => ifO (x.cps.size ≤ sizeLine) (.lst (x.cps.toList.map chD))
  | _ => none
theorem rvs_signs {H : Hp} : ∀ l : List Nat, RVs g H (l.map chD) (l.map fun c => V.str ⟨#[c]⟩)
  | [] => .nil
  | c :: l => .cons (.str _) (rvs_signs l)
theorem cal_listS : CalO g (rListS g.K) oListS := fun H M vs ds d Q tr ks ho q => by
  unfold oListS at ho
  split at ho
  · obtain ⟨hz, rfl⟩ := ifO_some ho
    obtain ⟨v, rfl, s⟩ := shals1 ks
    cases s
    exact ⟨_, rfl, hz, fun l hl => q l _ hl (.lst upd_same (rvs_signs _))⟩
  · cases ho
/-- list(d) of a dict whose keys are dInts and texts -/
def oListD : List D → Option D
  | [.dic ks _] => some (.lst ks)
  | _ => none
def isKD : D → Bool
  | .int _ => true
  | .str _ => true
  | _ => false
def oListDK : List D → Option D
  | [.dic ks _] => if ks.all isKD then some (.lst ks) else none
  | _ => none
theorem kT_notK (k : List Key) : isKD (kT k) = false := rfl
theorem rvs_keys {H : Hp} : ∀ (ks : List Key) (vs : List V), ks.length = vs.length → RVs g H (ks.map kD) ((ks.zip vs).map fun kv => kV kv.1)
  | [], _, _ => .nil
  | k :: ks, [], h => by simp at h
  | k :: ks, v :: vs, h => by
    refine .cons ?_ (rvs_keys ks vs (by simpa using h))
    cases k with
    | inl i => exact .int i
    | inr x => exact .str x
theorem rvs_keysT {H : Hp} (vs : List V) (ks : List (List Key)) (h : (ks.map kT).all isKD = true) : ks = [] := by
  cases ks with
  | nil => rfl
  | cons k ks => simp [kT_notK] at h
/-- tuple(x) -/
def oTup : List D → Option D
  | [.lst ds] => some (.tup ds)
  | [.tup ds] => some (.tup ds)
  | _ => none
theorem cal_tup : CalS g (fun xs H Q => ∃ p ys, xs = [.ref p] ∧ ((SqL g.K H p ys ∧ ∀ l, H l = none → Q (.ref l) (upd H l (.tup ys))) ∨ (SqT g.K H p ys ∧ Q (.ref p) H))) oTup := fun H M vs ds d Q tr ks ho q => by
  unfold oTup at ho
  split at ho
  · cases ho
    obtain ⟨v, rfl, s⟩ := shals1 ks
    cases s with
    | @lst _ ws _ h r =>
      refine ⟨_, _, rfl, .inl ⟨h, fun l hl => ?_⟩⟩
      have hn : l ∉ M := fun z => tr l z hl
      have sm := same_upd (o := HO.tup ws) hl
      refine q _ _ sm (.tup ?_ (r.mono (.of_same (mask_keep fun b o _ e => sm b o e))))
      rw [mask_out hn, upd_same]
  · cases ho
    obtain ⟨v, rfl, s⟩ := shals1 ks
    cases s with
    | tup h r hm => exact ⟨_, _, rfl, .inr ⟨.of h, q _ H (.refl _) (.tup hm r)⟩⟩
  · cases ho
end
end Ip
namespace Ip
open PySem L2 PySem.Spec PyProof.Rows

/-! ## list + list -/
def rCatQ (K : PySem.W.Frag) : R2 := fun x y H Q => ∃ a b xs ys, x = .ref a ∧ y = .ref b ∧ SqL K H a xs ∧ SqL K H b ys ∧ xs.length + ys.length ≤ sizeLine ∧ ∀ p, H p = none → Q (.ref p) (upd H p (.lst (xs ++ ys)))
theorem op_catQ {X : Cx} : OpR X (binaryOp .Add) (rCatQ X.K) := by
  intro pins s σ H x y v u Q I rx ry ⟨a, b, xs, ys, ex, ey, ha, hb, hz, q⟩
  subst ex; subst ey
  cases rx; cases ry
  obtain ⟨is1, r1, p1, _⟩ := I.list ha
  obtain ⟨is2, r2, p2, _⟩ := I.list hb
  obtain ⟨⟨c1, dd1, da1, sl1⟩, o1, k1, n1, e1⟩ := p1.isList
  obtain ⟨⟨c2, dd2, da2, sl2⟩, o2, k2, n2, e2⟩ := p2.isList
  simp only at k1 e1 k2 e2
  subst k1; subst e1; subst k2; subst e2
  have hs : is1.toArray.size + is2.toArray.size ≤ sizeLine := by rw [List.size_toArray, List.size_toArray, ← r1.length, ← r2.length]; exact hz
  refine concat_meets ⟨_, o1, rfl⟩ ⟨_, o2, rfl⟩ noFill_list_add seq_list_add PySem.F.slot_list_add PySem.F.entry_list_add (PySem.F.args_list_add_2 _ _) (list_addW a b is1.toArray is2.toArray n1 n2 dd1 dd2 sl1 sl2 hs) ⟨o1, o2, ?_⟩
  rw [show is1.toArray ++ is2.toArray = (is1 ++ is2).toArray by simp]
  exact ⟨.ref _, _, I.lnew (t' := s.toks) (r1.append r2) (by rw [List.length_append]; exact hz), rfl, q _ I.fresh⟩
theorem cat_ok {g : Gx} : OpO g (rCatQ g.K) catD := fun H M x y dx dy d Q tr sx sy ho q => by
  cases dx <;> cases dy <;> first | (cases ho; done) | skip
  obtain ⟨hz, rfl⟩ := ifO_some ho
  cases sx with
  | lst h r =>
    cases sy with
    | lst h' r' => exact ⟨_, _, _, _, rfl, rfl, h, h', by rw [← r.length, ← r'.length]; exact hz, fun l hl => q l _ hl (.lst upd_same (r.app r'))⟩

section
variable {X : Cx} {C : Ac} {W : WX} {Γ Γ1 Γ2 Γ3 Γ' Γb : List Nat} {fr fr1 fr2 fr3 : Bool} {e a b c : Expr} {es : List Expr} {f h k : Env → R D} {g : Env → R (List D)} {p pos apos cpos p2 : Pos}
/-! ## methods of a text -/
def MtV (gg : Gx) (r : V → List V → Hp → VK → Prop) (o : Str → List D → Option D) : Prop := ∀ (H : Hp) (M : List Addr) (x : Str) (vs : List V) (ds : List D) (d : D) (Q : VK), (∀ a ∈ M, H a ≠ none) → Shals gg H (mask H M) ds vs → o x ds = some d →
  (∀ v H', Same H H' → RV gg (mask H' M) d v → Q v H') → r (.str x) vs H Q
def mStrM (o : Str → List D → Option D) (f : Env → R D) (g : Env → R (List D)) : Env → R D := fun ρ => (f ρ).bind fun d ρ1 => match d with
  | .str s => (g ρ1).bind fun ds ρ2 => ofO ρ2 (o s ds)
  | _ => .bad
theorem se_strM {id : String} {name : Str} {r : V → List V → Hp → VK → Prop} {o : Str → List D → Option D} (slot : Slot "str" name id) (hty : typeOf (.builtin id) = pure (.type "method_descriptor")) (hm : MtR X id r) (hs : MtV ⟨X.K, C.ct⟩ r o) (ha : SE X C W Γ a Γ1 fr f) (hv : SV X C W Γ1 (e :: es) Γ2 g)
    (hbase : attributeBase a name X.env (eval a X.env) = eval a X.env := by rfl)
    (hfew : ((backTo cpos (starEach (e :: es) X.env)).all (fun x => !x.1) && (backToKw cpos (keywordEach [] X.env)).all (fun x => x.1.isSome) && decide ((e :: es).length + ([] : List Keyword).length + (if ([] : List Keyword).isEmpty then 0 else 1) < 30)) = true := by rfl)
    (hline : (apos.endLine == cpos.line) = true := by rfl) (hst : starEach (e :: es) X.env = (false, eval e X.env) :: starEach es X.env := by rfl) (hplain : (backTo cpos (starEach es X.env)).any (·.1) = false := by rfl) :
    SE X C W Γ (.Call (.Attribute a name apos) (e :: es) [] cpos) Γ2 false (mStrM o f g) := ⟨peImp (pe_bm PySem.F.plainAttrs_str slot hty hm ha.pe hv.pa hbase hfew hline hst hplain) fun σ H Q ⟨hid, ρ, S, p⟩ => by
  refine ⟨hid, ρ, S, ?_⟩
  unfold mStrM at p
  cases q : f ρ with
  | bad => rw [q] at p; exact p
  | exn e ρ' => rw [q] at p; exact p
  | ok d ρ1 =>
    rw [q] at p
    dsimp only [R.bind] at p
    intro v H1 tm S1 k1 va t1
    cases d with
    | str x =>
      have := shal_str va.shal0
      subst this
      refine ⟨rfl, tm ++ hid, ρ1, S1, ?_⟩
      cases q2 : g ρ1 with
      | bad => simp only [q2] at p; exact p
      | exn e ρ' => simp only [q2] at p; exact p
      | ok ds ρ2 =>
        simp only [q2] at p
        intro vs H2 tm2 S2 k2 t2 ks
        have e : tm2 ++ (tm ++ hid) = (tm2 ++ tm) ++ hid := (List.append_assoc ..).symm
        rw [e] at S2 k2 ks
        cases q3 : o x ds with
        | none => rw [q3] at p; exact p.elim
        | some z => rw [q3] at p; exact hs H2 _ x vs ds z Q S2.trkM ks q3 (fin_fz p S.sub S2 (k1.trans k2 fun a ha => List.mem_append_right _ ha))
    | _ => exact (show False from p).elim⟩
def oJoin (s : Str) : List D → Option D
  | [.lst ds] => (dStrs ds).bind fun ys => ifO ((ys.map (·.length)).sum + ys.length * s.length ≤ 16777216) (.str (Txt.join s ys))
  | [.tup ds] => (dStrs ds).bind fun ys => ifO ((ys.map (·.length)).sum + ys.length * s.length ≤ 16777216) (.str (Txt.join s ys))
  | _ => none
theorem join_ok {gg : Gx} : MtV gg (fun x xs H Q => ∃ a p, ∃ ys : List Str, x = .str a ∧ xs = [.ref p] ∧ (SqL gg.K H p (ys.map V.str) ∨ SqT gg.K H p (ys.map V.str)) ∧ (ys.map (·.length)).sum + ys.length * a.length ≤ 16777216 ∧ Q (.str (Txt.join a ys)) H) oJoin := fun H M x vs ds d Q tr ks ho q => by
  unfold oJoin at ho
  split at ho
  · simp only [Option.bind_eq_some_iff] at ho
    obtain ⟨ys, h1, h2⟩ := ho
    obtain ⟨h3, rfl⟩ := ifO_some h2
    have := strs_inv h1
    subst this
    obtain ⟨v, rfl, s⟩ := shals1 ks
    cases s with
    | lst h r =>
      have := r.of_strs
      subst this
      exact ⟨x, _, ys, rfl, rfl, .inl h, h3, q _ H (.refl _) (.str _)⟩
  · simp only [Option.bind_eq_some_iff] at ho
    obtain ⟨ys, h1, h2⟩ := ho
    obtain ⟨h3, rfl⟩ := ifO_some h2
    have := strs_inv h1
    subst this
    obtain ⟨v, rfl, s⟩ := shals1 ks
    cases s with
    | tup h r =>
      have := r.of_strs
      subst this
      exact ⟨x, _, ys, rfl, rfl, .inr (.of h), h3, q _ H (.refl _) (.str _)⟩
  · cases ho
def oFind (s : Str) : List D → Option D
  | [.str b] => some (.int (Txt.find s b))
  | _ => none
theorem find_ok {gg : Gx} : MtV gg (fun x xs H Q => ∃ a b, x = .str a ∧ xs = [.str b] ∧ Q (.int (Txt.find a b)) H) oFind := fun H M x vs ds d Q tr ks ho q => by
  unfold oFind at ho
  split at ho
  · cases ho
    obtain ⟨v, rfl, s⟩ := shals1 ks
    cases s
    exact ⟨x, _, rfl, rfl, q _ H (.refl _) (.int _)⟩
  · cases ho
/-! ## slices of a text -/
def PostO (K : PySem.W.Frag) (C : Ac) (W : WX) (Γ Γ' : List Nat) (hid : List Addr) (σ : L2.St) (H : Hp) (Q : Option Int → Hp → Prop) : R (Option Int) → Prop
  | .ok o ρ' => ∀ H', ST K C hid Γ' ρ' σ H' → Stp (Ms σ hid Γ) (Ms σ hid Γ') hid H H' → Q o H'
  | .exn e ρ' => ∀ cls od H', ExR (gx K C) H' (mask H' (Ms σ C.hid C.io)) e cls od → ST K C C.hid C.io ρ' σ H' → W cls od σ H'
  | .bad => False
structure SO (X : Cx) (C : Ac) (W : WX) (Γ : List Nat) (e : Option Expr) (Γ' : List Nat) (f : Env → R (Option Int)) : Prop where
  po : PO X e fun σ H Q => ∃ hid ρ, ST X.K C hid Γ ρ σ H ∧ PostO X.K C W Γ Γ' hid σ H Q (f ρ)
theorem poImp {e : Option Expr} {t t' : TO} (h : PO X e t) (i : ∀ σ H Q, t' σ H Q → t σ H Q) : PO X e t' := ⟨fun pins s σ H Q I q => h.run pins s σ H Q I (i σ H Q q)⟩
def mONone : Env → R (Option Int) := fun ρ => .ok none ρ
def mOSome (f : Env → R D) : Env → R (Option Int) := fun ρ => (f ρ).bind fun d ρ1 => match d with
  | .int i => .ok (some i) ρ1
  | _ => .bad
theorem so_none : SO X C W Γ none Γ mONone := ⟨poImp po_none fun σ H Q ⟨hid, ρ, S, p⟩ => p H S (Stp.refl _ _ _)⟩
theorem so_some (ha : SE X C W Γ a Γ' fr f) : SO X C W Γ (some a) Γ' (mOSome f) := ⟨poImp (po_some ha.pe) fun σ H Q ⟨hid, ρ, S, p⟩ => by
  refine ⟨hid, ρ, S, ?_⟩
  unfold mOSome at p
  cases q : f ρ with
  | bad => rw [q] at p; exact p
  | exn e ρ' => rw [q] at p; exact p
  | ok d ρ1 =>
    rw [q] at p
    dsimp only [R.bind] at p
    intro v H1 tm S1 k1 va t1
    cases d with
    | int i =>
      have := shal_int va.shal0
      subst this
      exact ⟨i, rfl, p H1 (S1.forget (fun a ha => List.mem_append_right _ ha) S.sub) ⟨k1.le.trans (.of_same (mask_sub (Ms_subH fun a ha => List.mem_append_right _ ha))), k1.fx⟩⟩
    | _ => exact (show False from p).elim⟩
def mSlice (f : Env → R D) (l u : Env → R (Option Int)) : Env → R D := fun ρ => (f ρ).bind fun d ρ1 => match d with
  | .str z => (l ρ1).bind fun lo ρ2 => (u ρ2).bind fun hi ρ3 => ofO ρ3 (ifO (z.length ≤ sizeLine) (.str (cutS z lo hi)))
  | _ => .bad
variable {lo hi : Option Expr} {l u : Env → R (Option Int)}
theorem se_slice (ha : SE X C W Γ a Γ1 fr f) (hl : SO X C W Γ1 lo Γ2 l) (hu : SO X C W Γ2 hi Γ3 u) : SE X C W Γ (.Subscript a (.Slice lo hi none p2) pos) Γ3 false (mSlice f l u) := ⟨peImp (pe_slice sl_str ha.pe hl.po hu.po) fun σ H Q ⟨hid, ρ, S, p⟩ => by
  refine ⟨hid, ρ, S, ?_⟩
  unfold mSlice at p
  cases q : f ρ with
  | bad => rw [q] at p; exact p
  | exn e ρ' => rw [q] at p; exact p
  | ok d ρ1 =>
    rw [q] at p
    dsimp only [R.bind] at p
    intro v H1 tm S1 k1 va t1
    cases d with
    | str x =>
      have := shal_str va.shal0
      subst this
      have S1' := S1.forget (fun a ha => List.mem_append_right _ ha) S.sub
      have k1' : Stp (Ms σ hid Γ) (Ms σ hid Γ1) hid H H1 := ⟨k1.le.trans (.of_same (mask_sub (Ms_subH fun a ha => List.mem_append_right _ ha))), k1.fx⟩
      refine ⟨hid, ρ1, S1', ?_⟩
      cases q2 : l ρ1 with
      | bad => simp only [q2] at p; exact p
      | exn e ρ' => simp only [q2] at p; exact p
      | ok o1 ρ2 =>
        simp only [q2] at p
        intro H2 S2 k2
        refine ⟨hid, ρ2, S2, ?_⟩
        cases q3 : u ρ2 with
        | bad => simp only [q3] at p; exact p
        | exn e ρ' => simp only [q3] at p; exact p
        | ok o2 ρ3 =>
          simp only [q3] at p
          intro H3 S3 k3
          unfold ifO at p
          by_cases hz : x.length ≤ sizeLine
          · rw [if_pos hz] at p
            exact ⟨x, rfl, hz, fin_fz (tm := []) p S.sub S3 ((k1'.trans k2 fun _ z => z).trans k3 fun _ z => z) _ H3 (.refl _) (.str _)⟩
          · rw [if_neg hz] at p; exact p.elim
    | _ => exact (show False from p).elim⟩
/-! ## methods of an owned list -/
def lstO : Option D → Option (List D)
  | some (.lst ds) => some ds
  | _ => none
theorem lstO_some {o : Option D} {ds : List D} (h : lstO o = some ds) : o = some (.lst ds) := by
  unfold lstO at h
  split at h
  · cases h; rfl
  · cases h
def mLstM (i : Nat) (step : List D → List D → Option (D × List D)) (g : Env → R (List D)) : Env → R D := fun ρ => match lstO (ρ.getD i none) with
  | none => .bad
  | some _ => (g ρ).bind fun xs ρ1 => match lstO (ρ1.getD i none) with
    | none => .bad
    | some ds => match step ds xs with
      | none => .bad
      | some z => .ok z.1 (ρ1.set i (some (.lst z.2)))
def LsM (gg : Gx) (r : V → List V → Hp → VK → Prop) (step : List D → List D → Option (D × List D)) : Prop := ∀ (H : Hp) (M : List Addr) (a : Addr) (us ws : List V) (ds xs : List D) (z : D × List D) (Q : VK), H a = some (.lst us) → RVs gg (mask H M) ds us → RVs gg (mask H M) xs ws → step ds xs = some z →
  (∀ us' v, RVs gg (mask H M) z.2 us' → RV gg (mask H M) z.1 v → Q v (upd H a (.lst us'))) → r (.ref a) ws H Q
theorem lsm_tE (i : Nat) {r : V → List V → Hp → VK → Prop} {step : List D → List D → Option (D × List D)} (hs : LsM ⟨X.K, C.ct⟩ r step) (ha : SA X C W Γ es Γ' g) (hi : Γ.contains i = true) (hi2 : Γ'.contains i = true) {σ : L2.St} {H : Hp} {Q : VK} (p : tE X.K C W Γ Γ' false (mLstM i step g) σ H Q) :
    tBM X.K "list" r (tVar i) (tAs X.K C W Γ Γ' g) σ H Q := by
  obtain ⟨hid, ρ, S, p⟩ := p
  obtain ⟨d0, e1, e2, c0⟩ := own_at S hi
  refine ⟨_, e2, ?_⟩
  unfold mLstM at p
  cases q0 : lstO (ρ.getD i none) with
  | none => rw [q0] at p; exact (show False from p).elim
  | some ds0 =>
    simp only [q0] at p
    have e0 := lstO_some q0
    rw [e1] at e0
    cases e0
    refine ⟨?_, hid, ρ, S, ?_⟩
    · cases c0 with
      | lst h _ => exact .inl ⟨rfl, _, .of h⟩
    · cases q : g ρ with
      | bad => rw [q] at p; exact p
      | exn e ρ' => rw [q] at p; exact p
      | ok xs ρ1 =>
        rw [q] at p
        dsimp only [R.bind] at p
        intro vs H1 tm S1 k1 t1 ks
        have sub : ∀ b ∈ Ms σ hid Γ', b ∈ Ms σ (tm ++ hid) Γ' := Ms_subH fun a ha => List.mem_append_right _ ha
        have S2 := S1.forget (fun a ha => List.mem_append_right _ ha) S.sub
        have k2 : Stp (Ms σ hid Γ) (Ms σ hid Γ') hid H H1 := ⟨k1.le.trans (.of_same (mask_sub sub)), k1.fx⟩
        have rv : RVs (gx X.K C) (mask H1 (Ms σ hid Γ')) xs vs := ks.rv sub t1
        obtain ⟨d1, f1, f2, c1⟩ := own_at S2 hi2
        cases q1 : lstO (ρ1.getD i none) with
        | none => rw [q1] at p; exact (show False from p).elim
        | some ds =>
          simp only [q1] at p
          have e0 := lstO_some q1
          rw [f1] at e0
          cases e0
          cases q3 : step ds xs with
          | none => rw [q3] at p; exact (show False from p).elim
          | some z =>
            simp only [q3] at p
            cases c1 with
            | @lst us _ h r1 =>
              have hm : sa σ i ∈ Ms σ hid Γ' := mem_Ms.mpr (.inr ⟨i, List.contains_iff_mem.mp hi2, rfl⟩)
              refine hs H1 (Ms σ hid Γ') _ us vs ds xs z Q h r1 rv q3 fun us' v r2 r3 => ?_
              refine p v _ [] (S2.change (List.contains_iff_mem.mp hi2) (.lst upd_same r2)) (k2.trans (S2.changeStp (List.contains_iff_mem.mp hi2)) fun _ z => z) (.fz ?_ fun z => nomatch z) fun _ z => nomatch z
              show RV (gx X.K C) (mask (upd H1 (sa σ i) (.lst us')) (Ms σ hid Γ')) z.1 v
              rw [mask_updM hm]
              exact r3
theorem se_lstM (i : Nat) {x name : Str} {id : String} {r : V → List V → Hp → VK → Prop} {step : List D → List D → Option (D × List D)} (slot : Slot "list" name id) (hty : typeOf (.builtin id) = pure (.type "method_descriptor")) (hm : MtM X id r) (hs : LsM ⟨X.K, C.ct⟩ r step) (ha : SA X C W Γ (e :: es) Γ' g)
    (hN : X.N[i]? = some x := by rfl) (hv : Vis X.env.scope x := by first | exact Or.inl rfl | exact Or.inr (Or.inl rfl) | exact Or.inr (Or.inr rfl)) (hi : Γ.contains i = true := by rfl) (hi2 : Γ'.contains i = true := by rfl)
    (hd : (x == ("__debug__" : Str)) = false := by decide) (hcd : (x == ("__classdict__" : Str)) = false := by decide)
    (hbase : attributeBase (.Name x p) name X.env (eval (.Name x p) X.env) = eval (.Name x p) X.env := by rfl)
    (hfew : ((backTo cpos (starEach (e :: es) X.env)).all (fun x => !x.1) && (backToKw cpos (keywordEach [] X.env)).all (fun x => x.1.isSome) && decide ((e :: es).length + ([] : List Keyword).length + (if ([] : List Keyword).isEmpty then 0 else 1) < 30)) = true := by rfl)
    (hline : (apos.endLine == cpos.line) = true := by rfl) (hst : starEach (e :: es) X.env = (false, eval e X.env) :: starEach es X.env := by rfl) (hplain : (backTo cpos (starEach es X.env)).any (·.1) = false := by rfl) :
    SE X C W Γ (.Call (.Attribute (.Name x p) name apos) (e :: es) [] cpos) Γ' false (mLstM i step g) :=
  ⟨peImp (pe_bm PySem.F.plainAttrs_list slot hty hm (pe_var hN hv hd hcd) ha.pa hbase hfew hline hst hplain) fun σ H Q p => lsm_tE i hs ha hi hi2 p⟩
theorem se_lstM0 (i : Nat) {x name : Str} {id : String} {r : V → List V → Hp → VK → Prop} {step : List D → List D → Option (D × List D)} (slot : Slot "list" name id) (hty : typeOf (.builtin id) = pure (.type "method_descriptor")) (hm : MtM X id r) (hs : LsM ⟨X.K, C.ct⟩ r step)
    (hN : X.N[i]? = some x := by rfl) (hv : Vis X.env.scope x := by first | exact Or.inl rfl | exact Or.inr (Or.inl rfl) | exact Or.inr (Or.inr rfl)) (hi : Γ.contains i = true := by rfl)
    (hd : (x == ("__debug__" : Str)) = false := by decide) (hcd : (x == ("__classdict__" : Str)) = false := by decide)
    (hbase : attributeBase (.Name x p) name X.env (eval (.Name x p) X.env) = eval (.Name x p) X.env := by rfl) (hline : (apos.endLine == cpos.line) = true := by rfl) :
    SE X C W Γ (.Call (.Attribute (.Name x p) name apos) [] [] cpos) Γ false (mLstM i step mNil) :=
  ⟨peImp (pe_bm0 PySem.F.plainAttrs_list slot hty hm (pe_var hN hv hd hcd) hbase hline) fun σ H Q p => by
    obtain ⟨v, e, ty, hid, ρ, S, q⟩ := lsm_tE i hs sa_nil hi hi p
    exact ⟨v, e, ty, q [] H [] S (Stp.refl _ _ _) (fun _ z => nomatch z) .nil⟩⟩
def stAppend (ds : List D) : List D → Option (D × List D)
  | [d] => if ds.length < sizeLine then some (.non, ds ++ [d]) else none
  | _ => none
theorem append_ok {gg : Gx} : LsM gg rAppend stAppend := fun H M a us ws ds xs z Q h r rx e q => by
  unfold stAppend at e
  split at e
  · split at e
    · rename_i hl
      cases e
      cases rx with
      | cons r1 rn =>
        cases rn
        exact ⟨a, us, _, rfl, rfl, h, by rw [← r.length]; exact hl, q _ .non (r.app (.cons r1 .nil)) .non⟩
    · cases e
  · cases e
def stPopAt (ds : List D) : List D → Option (D × List D)
  | [.int i] => if -(2 ^ 63) ≤ i ∧ i < 2 ^ 63 then (seqIndex? i ds.length).bind fun k => ds[k]?.map fun d => (d, ds.eraseIdx k) else none
  | _ => none
theorem popAt_ok {gg : Gx} : LsM gg rPopAt stPopAt := fun H M a us ws ds xs z Q h r rx e q => by
  unfold stPopAt at e
  split at e
  · split at e
    · rename_i hl
      simp only [Option.bind_eq_some_iff, Option.map_eq_some_iff] at e
      obtain ⟨k, e1, d, e2, rfl⟩ := e
      cases rx with
      | cons r1 rn =>
        cases rn
        cases r1
        obtain ⟨v, e3, rv⟩ := r.get e2
        exact ⟨a, us, _, k, v, rfl, rfl, h, hl.1, hl.2, by rw [← r.length]; exact e1, e3, q _ v (r.eraseIdx k) rv⟩
    · cases e
  · cases e
/-! ## x[e] = v, x an owned list -/
def mSetIx (i : Nat) (f h : Env → R D) : Env → R Fl := fun ρ => (f ρ).bind fun v ρ1 => (h ρ1).bind fun k ρ2 => match k, lstO (ρ2.getD i none) with
  | .int j, some ds => match ixN ds.length j with
    | some n => .ok .nx (ρ2.set i (some (.lst (ds.set n v))))
    | none => .bad
  | _, _ => .bad
end
end Ip
namespace Ip
open PySem L2 PySem.Spec PyProof.Rows

/-! ## targets -/
def Off (ts : List Nat) (σ σ' : L2.St) : Prop := σ'.length = σ.length ∧ ∀ j, j ∉ ts → σ'[j]? = σ[j]?
theorem Off.refl (ts : List Nat) (σ : L2.St) : Off ts σ σ := ⟨rfl, fun _ _ => rfl⟩
theorem Off.trans {t1 t2 : List Nat} {a b c : L2.St} (h : Off t1 a b) (k : Off t2 b c) : Off (t1 ++ t2) a c :=
  ⟨k.1.trans h.1, fun j hj => (k.2 j fun z => hj (List.mem_append_right _ z)).trans (h.2 j fun z => hj (List.mem_append_left _ z))⟩
def tG (K : PySem.W.Frag) (C : Ac) (Γ : List Nat) (ts : List Nat) (g : D → Env → Option Env) : TG := fun v σ H Q => ∃ hid ρ d ρ', ST K C hid Γ ρ σ H ∧ RV (gx K C) (mask H (Ms σ hid Γ)) d v ∧ g d ρ = some ρ' ∧
  ∀ σ' H', ST K C hid Γ ρ' σ' H' → Stp (Ms σ hid Γ) (Ms σ' hid Γ) hid H H' → Off ts σ σ' → Q σ' H'
def tGs (K : PySem.W.Frag) (C : Ac) (Γ : List Nat) (ts : List Nat) (g : List D → Env → Option Env) : TGs := fun vs σ H Q => ∃ hid ρ ds ρ', ST K C hid Γ ρ σ H ∧ RVs (gx K C) (mask H (Ms σ hid Γ)) ds vs ∧ g ds ρ = some ρ' ∧
  ∀ σ' H', ST K C hid Γ ρ' σ' H' → Stp (Ms σ hid Γ) (Ms σ' hid Γ) hid H H' → Off ts σ σ' → Q σ' H'
structure SG (X : Cx) (C : Ac) (Γ : List Nat) (tg : Expr) (ts : List Nat) (g : D → Env → Option Env) : Prop where
  pg : PG X tg (tG X.K C Γ ts g)
structure SGs (X : Cx) (C : Ac) (Γ : List Nat) (es : List Expr) (ts : List Nat) (g : List D → Env → Option Env) : Prop where
  pg : PGs X es (tGs X.K C Γ ts g)
theorem pgImp {X : Cx} {e : Expr} {t t' : TG} (h : PG X e t) (i : ∀ v σ H Q, t' v σ H Q → t v σ H Q) : PG X e t' := ⟨fun pins s σ H v u Q I r q => h.run pins s σ H v u Q I r (i v σ H Q q)⟩
theorem pgsImp {X : Cx} {e : List Expr} {t t' : TGs} (h : PGs X e t) (i : ∀ v σ H Q, t' v σ H Q → t v σ H Q) : PGs X e t' := ⟨fun pins s σ H v u Q I r q => h.run pins s σ H v u Q I r (i v σ H Q q)⟩
def gNm (i : Nat) (d : D) (ρ : Env) : Option Env := if i < ρ.length then some (ρ.set i (some d)) else none
def gsNil (ds : List D) (ρ : Env) : Option Env := match ds with
  | [] => some ρ
  | _ => none
def gsCons (g : D → Env → Option Env) (gs : List D → Env → Option Env) (ds : List D) (ρ : Env) : Option Env := match ds with
  | d :: r => (g d ρ).bind fun ρ' => gs r ρ'
  | [] => none
def gTp (n : Nat) (gs : List D → Env → Option Env) (d : D) (ρ : Env) : Option Env := match d with
  | .tup ds => if ds.length = n then gs ds ρ else none
  | _ => none
section
variable {X : Cx} {C : Ac} {W : WX} {Γ Γ1 Γ2 Γ3 Γ' Γb : List Nat} {fr fr1 fr2 fr3 : Bool} {e a b c tg iter : Expr} {es : List Expr} {ts ts2 : List Nat} {f h k : Env → R D} {g : D → Env → Option Env} {gs : List D → Env → Option Env} {p pos apos cpos p2 : Pos}
theorem sg_name (i : Nat) {x : Str} (hN : X.N.Nodup) (hi : X.N[i]? = some x := by rfl) (hx : Loc X.env.scope x := by first | exact Or.inl rfl | exact Or.inr rfl) (hn : Γ.contains i = false := by rfl)
    (hf : X.fn x = true ∨ X.env.scope.names.lookup x = some .local := by first | exact .inl rfl | exact .inr rfl | assumption) : SG X C Γ (.Name x pos) [i] (gNm i) := ⟨pgImp (pg_name hN hi hx hf) fun v σ H Q ⟨hid, ρ, d, ρ', S, r, e, q⟩ => by
  unfold gNm at e
  split at e
  · rename_i il
    cases e
    refine q _ H (S.put (notin_of hn) r il) ?_ ⟨List.length_set .., fun j hj => List.getElem?_set_ne fun z => hj (by simp [z])⟩
    rw [Ms_set (notin_of hn)]
    exact Stp.refl _ _ _
  · cases e⟩
theorem sgs_nil : SGs X C Γ [] [] gsNil := ⟨pgsImp pgs_nil fun v σ H Q ⟨hid, ρ, ds, ρ', S, r, e, q⟩ => by
  cases r with
  | nil => cases e; exact ⟨rfl, q σ H S (Stp.refl _ _ _) (.refl _ _)⟩
  | cons _ _ => cases e⟩
theorem sgs_cons (h1 : SG X C Γ e ts g) (h2 : SGs X C Γ es ts2 gs) (hs : (assignEach (e :: es) X.env).map (·.2) = assign e X.env :: (assignEach es X.env).map (·.2) := by rfl) : SGs X C Γ (e :: es) (ts ++ ts2) (gsCons g gs) := ⟨pgsImp (pgs_cons h1.pg h2.pg hs) fun v σ H Q ⟨hid, ρ, ds, ρ', S, r, e, q⟩ => by
  cases r with
  | nil => cases e
  | @cons d v ds vs r t =>
    unfold gsCons at e
    simp only [Option.bind_eq_some_iff] at e
    obtain ⟨ρ1, e1, e2⟩ := e
    refine ⟨v, vs, rfl, hid, ρ, d, ρ1, S, r, e1, fun σ1 H1 S1 k1 o1 => ⟨hid, ρ1, ds, ρ', S1, t.mono k1.le, e2, fun σ2 H2 S2 k2 o2 => q σ2 H2 S2 (k1.trans k2 fun _ z => z) (o1.trans o2)⟩⟩⟩
theorem sg_tup {n m : Nat} (hc : X.calm = true) (h1 : SGs X C Γ es ts gs) (hn : (assignEach es X.env).length = n := by rfl) (hst : (assignEach es X.env).findIdx? (·.1) = none := by rfl) : SG X C Γ (.Tuple es m pos) ts (gTp n gs) := ⟨pgImp (pg_tup hc h1.pg hn hst) fun v σ H Q ⟨hid, ρ, d, ρ', S, r, e, q⟩ => by
  unfold gTp at e
  split at e
  · split at e
    · rename_i hl
      cases r with
      | tup h r => exact ⟨_, _, rfl, .of (mask_some h).2, by rw [← r.length]; exact hl, hid, ρ, _, ρ', S, r, e, q⟩
    · cases e
  · cases e⟩
/-! ### target = value -/
def mAsg (f : Env → R D) (g : D → Env → Option Env) : Env → R Fl := fun ρ => (f ρ).bind fun d ρ1 => match g d ρ1 with
  | some ρ2 => .ok .nx ρ2
  | none => .bad
theorem ss_asg (ha : SE X C W Γ e Γ' false f) (hg : SG X C Γ' tg ts g) (hs : swapsWithSole [tg] e pos.line X.env = pure false := by rfl) (hw : swappedStores [tg] e X.env = pure none := by rfl)
    (h1 : (assignEach [tg] X.env).map (·.2) = [assign tg X.env] := by rfl) : SS X C W Γ (.Assign [tg] e pos) Γ' Γb fr (mAsg f g) := ⟨psImp (ps_asg ha.pe hg.pg hs hw h1) fun Dn σ H ⟨ρ, S, p⟩ => by
  refine ⟨C.hid, ρ, S, ?_⟩
  unfold mAsg at p
  cases q : f ρ with
  | bad => rw [q] at p; exact p
  | exn e ρ' => rw [q] at p; exact fun cls od H' x S' => p cls od σ H' x S'
  | ok d ρ1 =>
    rw [q] at p
    dsimp only [R.bind] at p
    intro v H1 tm S1 k1 va t1
    cases va with
    | fz r _ =>
      cases q2 : g d ρ1 with
      | none => rw [q2] at p; exact (show False from p).elim
      | some ρ2 =>
        rw [q2] at p
        exact ⟨C.hid, ρ1, d, ρ2, S1, r, q2, fun σ' H' S' k' _ => p σ' H' S' (k1.trans k' fun _ z => z)⟩⟩
/-! ### x[e] = v, x an owned list -/
def gIx (i : Nat) (h : Env → R D) (v : D) (ρ : Env) : Option Env := match lstO (ρ.getD i none), h ρ with
  | some _, .ok (.int j) ρ1 => (lstO (ρ1.getD i none)).bind fun ds => (ixN ds.length j).map fun n => ρ1.set i (some (.lst (ds.set n v)))
  | _, _ => none
theorem sg_ix (i : Nat) {x : Str} (hb : SE X C W Γ b Γ fr h) (hN : X.N[i]? = some x := by rfl) (hv : Vis X.env.scope x := by first | exact Or.inl rfl | exact Or.inr (Or.inl rfl) | exact Or.inr (Or.inr rfl)) (hi : Γ.contains i = true := by rfl)
    (hd : (x == ("__debug__" : Str)) = false := by decide) (hcd : (x == ("__classdict__" : Str)) = false := by decide)
    (ha : ∀ v, assign (.Subscript (.Name x p) b pos) X.env v = (do
      let ov ← holding [v] (eval (.Name x p) X.env)
      let iv ← holding [v, ov] (eval b X.env)
      standAt pos
      holding [v, ov, iv] (setItem ov iv v)
      release [v, ov, iv] []) := by intro _; rfl) : SG X C Γ (.Subscript (.Name x p) b pos) [] (gIx i h) := ⟨pgImp (pg_sub (pe_var hN hv hd hcd) hb.pe set_list ha) fun v σ H Q ⟨hid, ρ, d, ρ', S, r, e, q⟩ => by
  obtain ⟨d0, e1, e2, c0⟩ := own_at S hi
  refine ⟨_, e2, hid, ρ, S, ?_⟩
  unfold gIx at e
  split at e
  · rename_i j ρ1 _ q2
    rw [q2]
    simp only [Option.bind_eq_some_iff, Option.map_eq_some_iff] at e
    obtain ⟨ds, e3, n, e4, rfl⟩ := e
    intro y H2 tm S2 k2 va t2
    have := shal_int va.shal0
    subst this
    obtain ⟨d1, f1, f2, c1⟩ := own_at S2 hi
    have e0 := lstO_some e3
    rw [f1] at e0
    cases e0
    have S3 := S2.forget (fun a ha => List.mem_append_right _ ha) S.sub
    have sub : ∀ b ∈ Ms σ hid Γ, b ∈ Ms σ (tm ++ hid) Γ := Ms_subH fun a ha => List.mem_append_right _ ha
    have k3 : Stp (Ms σ hid Γ) (Ms σ hid Γ) hid H H2 := ⟨k2.le.trans (.of_same (mask_sub sub)), k2.fx⟩
    obtain ⟨d1, f1', _, c2⟩ := own_at S3 hi
    rw [f1] at f1'
    cases f1'
    cases c2 with
    | @lst us _ h r1 =>
      refine ⟨_, us, j, n, rfl, rfl, h, by rw [← r1.length]; exact e4, ?_⟩
      exact q σ _ (S3.change (List.contains_iff_mem.mp hi) (.lst upd_same (r1.set (r.mono k3.le) n))) (k3.trans (S3.changeStp (List.contains_iff_mem.mp hi)) fun _ z => z) (.refl _ _)
  · cases e⟩
/-! ## for -/
def forL (step : D → Env → R Fl) : List D → Env → R Fl
  | [], ρ => .ok .nx ρ
  | d :: ds, ρ => match step d ρ with
    | .ok .nx ρ' => forL step ds ρ'
    | .ok .ct ρ' => forL step ds ρ'
    | .ok .bk ρ' => .ok .nx ρ'
    | .ok (.rt z) ρ' => .ok (.rt z) ρ'
    | .exn e ρ' => .exn e ρ'
    | .bad => .bad
def gBody (g : D → Env → Option Env) (body : Env → R Fl) (d : D) (ρ : Env) : R Fl := match g d ρ with
  | some ρ' => body ρ'
  | none => .bad
def mFor (it : Env → R (List D)) (g : D → Env → Option Env) (body : Env → R Fl) : Env → R Fl := fun ρ => (it ρ).bind fun ds ρ' => forL (gBody g body) ds ρ'
variable {fi : Env → R (List D)} {fb : Env → R Fl} {body : List Stmt}
theorem ss_for (hp : PassesOwn (model X.prog X.w) X.A X.env X.xe) (hc : X.calm = true) (hi : SI X C W Γ tg iter Γ' fi) (hg : SG X C Γ' tg ts g) (hb : SSs X C W Γ' body Γ' Γ' fr fb) (hs : ∀ x, foldedSetIterable iter X.env x = pure x := by intro _; rfl) :
    SS X C W Γ (.For tg iter body [] pos) Γ' Γb fr (mFor fi g fb) := ⟨psImp (ps_for hp hc hi.pi hg.pg hb.ps hs) fun Dn σ H ⟨ρ, S, p⟩ => by
  refine ⟨C.hid, ρ, S, ?_⟩
  unfold mFor at p
  cases q : fi ρ with
  | bad => rw [q] at p; exact p
  | exn e ρ' => rw [q] at p; exact fun cls od H' x S' => p cls od σ H' x S'
  | ok ds ρ1 =>
    rw [q] at p
    dsimp only [R.bind] at p
    intro J H1 S1 k1 ⟨Gd, Y, w, hG, hY⟩
    refine for_it w (fun i σ2 H2 => ∃ ρ2, ST X.K C C.hid Γ' ρ2 σ2 H2 ∧ Stp (Ms σ C.hid Γ') (Ms σ2 C.hid Γ') C.hid H1 H2 ∧ PostS X.K C W Γ Γ' Γb fr Dn σ H (forL (gBody g fb) (ds.drop i) ρ2)) ⟨ρ1, S1, Stp.refl _ _ _, by rw [List.drop_zero]; exact p⟩
      (fun i σ2 H2 _ ⟨ρ2, S2, k2, _⟩ => hG _ _ k2.le) (fun i x σ2 H2 H3 hlt ⟨ρ2, S2, k2, p2⟩ y => ?_) fun σ2 H2 ⟨ρ2, S2, k2, p2⟩ => ?_
    · have hd : ds[i]? = some ds[i] := List.getElem?_eq_getElem hlt
      rw [List.drop_eq_getElem_cons hlt] at p2
      obtain ⟨sm, rv⟩ := hY i x H2 H3 _ hd (hG _ _ k2.le) y
      have r := rv (Ms σ2 C.hid Γ') S2.trkM k2.le
      have S3 := S2.same sm
      have k3 : Stp (Ms σ2 C.hid Γ') (Ms σ2 C.hid Γ') C.hid H2 H3 := ⟨.of_same (mask_keep fun b o _ e => sm b o e), fun a ha => by
        cases z : H2 a with
        | none => exact absurd z (S2.trk a ha)
        | some o => exact sm a o z⟩
      unfold forL gBody at p2
      cases q2 : g ds[i] ρ2 with
      | none => rw [q2] at p2; exact (show False from p2).elim
      | some ρ3 =>
        rw [q2] at p2
        refine ⟨C.hid, ρ2, ds[i], ρ3, S3, r, q2, fun σ4 H4 S4 k4 _ => ⟨ρ3, S4, ?_⟩⟩
        have ka : Stp (Ms σ C.hid Γ') (Ms σ4 C.hid Γ') C.hid H1 H4 := (k2.trans k3 fun _ z => z).trans k4 fun _ z => z
        cases q3 : fb ρ3 with
        | bad => simp only [q3] at p2; exact p2
        | exn e ρ' => simp only [q3] at p2; exact p2
        | ok fl ρ5 =>
          simp only [q3] at p2
          cases fl with
          | nx => exact fun σ5 H5 S5 k5 => ⟨ρ5, S5, ka.trans k5 fun _ z => z, p2⟩
          | ct => exact fun σ5 H5 S5 k5 => ⟨ρ5, S5, ka.trans k5 fun _ z => z, p2⟩
          | bk => exact fun σ5 H5 S5 k5 => p2 σ5 H5 S5 ((k1.trans ka fun _ z => z).trans k5 fun _ z => z)
          | rt z => exact p2
    · rw [List.drop_length] at p2
      exact p2 σ2 H2 S2 (k1.trans k2 fun _ z => z)⟩
theorem ss_breakW (hk : okG C.io Γ2 Γ = true := by rfl) : SS X C W Γ (.Break pos) Γ' Γ2 fr (fun ρ => .ok .bk ρ) := ⟨psImp ps_break fun Dn σ H ⟨ρ, S, p⟩ => by
  obtain ⟨h1, h2, h3⟩ := okG_of hk
  exact p σ H (S.weak h1 h2 h3) (ST.weakStp (K := X.K) (Stp.refl _ _ _) h1)⟩
theorem ss_continueW (hk : okG C.io Γ2 Γ = true := by rfl) : SS X C W Γ (.Continue pos) Γ' Γ2 fr (fun ρ => .ok .ct ρ) := ⟨psImp ps_continue fun Dn σ H ⟨ρ, S, p⟩ => by
  obtain ⟨h1, h2, h3⟩ := okG_of hk
  exact p σ H (S.weak h1 h2 h3) (ST.weakStp (K := X.K) (Stp.refl _ _ _) h1)⟩
end
end Ip
namespace Ip
open PySem L2 PySem.Spec PyProof.Rows

/-! ## comprehensions -/
def wipeE (ρ : Env) : List Nat → Env
  | [] => ρ
  | v :: vs => (wipeE ρ vs).set v none
def restE (ρ0 ρ : Env) : List Nat → Env
  | [] => ρ
  | v :: vs => (restE ρ0 ρ vs).set v (ρ0.getD v none)
theorem wipeE_length (ρ : Env) : ∀ vs : List Nat, (wipeE ρ vs).length = ρ.length
  | [] => rfl
  | v :: vs => by unfold wipeE; rw [List.length_set, wipeE_length ρ vs]
theorem restE_length (ρ0 ρ : Env) : ∀ vs : List Nat, (restE ρ0 ρ vs).length = ρ.length
  | [] => rfl
  | v :: vs => by unfold restE; rw [List.length_set, restE_length ρ0 ρ vs]
theorem wipeE_out {ρ : Env} {i : Nat} : ∀ {vs : List Nat}, i ∉ vs → (wipeE ρ vs)[i]? = ρ[i]?
  | [], _ => rfl
  | v :: vs, h => by
    unfold wipeE
    rw [List.getElem?_set_ne fun e => h (by simp [e])]
    exact wipeE_out fun z => h (by simp [z])
theorem wipeE_in {ρ : Env} {i : Nat} {d : D} : ∀ {vs : List Nat}, i ∈ vs → (wipeE ρ vs)[i]? ≠ some (some d)
  | v :: vs, h => fun e => by
    unfold wipeE at e
    by_cases z : v = i
    · subst z
      rw [List.getElem?_set] at e
      split at e
      · split at e <;> cases e
      · contradiction
    · rw [List.getElem?_set_ne z] at e
      exact wipeE_in ((List.mem_cons.mp h).resolve_left fun q => z q.symm) e
theorem restE_out {ρ0 ρ : Env} {i : Nat} : ∀ {vs : List Nat}, i ∉ vs → (restE ρ0 ρ vs)[i]? = ρ[i]?
  | [], _ => rfl
  | v :: vs, h => by
    unfold restE
    rw [List.getElem?_set_ne fun e => h (by simp [e])]
    exact restE_out fun z => h (by simp [z])
theorem restE_in {ρ0 ρ : Env} {i : Nat} (hi : i < ρ.length) (h0 : i < ρ0.length) : ∀ {vs : List Nat}, i ∈ vs → (restE ρ0 ρ vs)[i]? = ρ0[i]?
  | v :: vs, h => by
    unfold restE
    by_cases z : v = i
    · subst z
      rw [List.getElem?_set_self (by rw [restE_length]; exact hi), List.getD_eq_getElem?_getD, List.getElem?_eq_getElem h0]
      rfl
    · rw [List.getElem?_set_ne z]
      exact restE_in hi h0 ((List.mem_cons.mp h).resolve_left fun q => z q.symm)
theorem wipe_in {σ : L2.St} {i : Nat} {v : V} : ∀ {vs : List Nat}, i ∈ vs → (wipe σ vs)[i]? ≠ some (some v) := fun {vs} h e => (wipe_some e).2 h
theorem wipe_off {ts vs : List Nat} {σ σ' : L2.St} (o : Off ts σ σ') (h : ∀ i ∈ ts, i ∈ vs) : wipe σ' vs = wipe σ vs := by
  have key : ∀ (ws : List Nat) (a b : L2.St), a.length = b.length → (∀ j, j ∉ ws → a[j]? = b[j]?) → wipe a ws = wipe b ws := by
    intro ws
    induction ws with
    | nil => intro a b hl e; exact List.ext_getElem? fun j => e j (by simp)
    | cons w ws ih =>
      intro a b hl e
      unfold wipe
      refine List.ext_getElem? fun j => ?_
      by_cases z : w = j
      · subst z
        rw [List.getElem?_set, List.getElem?_set]
        simp [wipe_length, hl]
      · rw [List.getElem?_set_ne z, List.getElem?_set_ne z]
        by_cases q : j ∈ ws
        · have ha : ¬ ∃ v, (wipe a ws)[j]? = some (some v) := fun ⟨v, e⟩ => wipe_in q e
          have hb : ¬ ∃ v, (wipe b ws)[j]? = some (some v) := fun ⟨v, e⟩ => wipe_in q e
          by_cases hj : j < a.length
          · have h1 : j < (wipe a ws).length := by rw [wipe_length]; exact hj
            have h2 : j < (wipe b ws).length := by rw [wipe_length, ← hl]; exact hj
            rw [List.getElem?_eq_getElem h1, List.getElem?_eq_getElem h2]
            cases q1 : (wipe a ws)[j] with
            | some v => exact absurd ⟨v, by rw [List.getElem?_eq_getElem h1, q1]⟩ ha
            | none =>
              cases q2 : (wipe b ws)[j] with
              | some v => exact absurd ⟨v, by rw [List.getElem?_eq_getElem h2, q2]⟩ hb
              | none => rfl
          · rw [List.getElem?_eq_none (by rw [wipe_length]; omega), List.getElem?_eq_none (by rw [wipe_length, ← hl]; omega)]
        · rw [wipe_out q, wipe_out q]
          exact e j (by simp [q, Ne.symm z])
  exact key vs σ' σ o.1 fun j hj => o.2 j fun z => hj (h j z)
section
variable {K : PySem.W.Frag} {C : Ac} {hid : List Addr} {Γ : List Nat} {ρ ρ0 : Env} {σ σ0 : L2.St} {H H0 : Hp} {vs : List Nat}
theorem sa_wipe (h : ∀ i ∈ Γ, i ∉ vs) : Γ.map (sa (wipe σ vs)) = Γ.map (sa σ) := List.map_congr_left fun i hi => by unfold sa; rw [wipe_out (h i hi)]
theorem Ms_wipe (h : ∀ i ∈ Γ, i ∉ vs) : Ms (wipe σ vs) hid Γ = Ms σ hid Γ := by unfold Ms; rw [sa_wipe h]
theorem ST.wipe (S : ST K C hid Γ ρ σ H) (h : ∀ i ∈ Γ, i ∉ vs) : ST K C hid Γ (wipeE ρ vs) (L2.wipe σ vs) H := by
  have e : ∀ i ∈ Γ, sa (L2.wipe σ vs) i = sa σ i := fun i hi => by unfold sa; rw [wipe_out (h i hi)]
  refine ⟨by rw [wipeE_length, wipe_length]; exact S.len, S.sub, S.trk, S.tmp, by rw [sa_wipe h]; exact S.nd, fun i hi => by rw [e i hi]; exact S.dis i hi, fun i hi => by rw [e i hi]; exact S.own i hi, S.frm, S.frh, S.gro, S.io, by rw [sa_wipe fun i hi => h i (S.io i hi)]; exact S.pin, fun i d hi q => ?_, fun i hi => ?_⟩
  · by_cases z : i ∈ vs
    · exact absurd q (wipeE_in z)
    · rw [wipeE_out z] at q
      rw [wipe_out z, Ms_wipe h]
      exact S.sl i d hi q
  · rw [Ms_wipe h, wipeE_out (h i hi), wipe_out (h i hi), e i hi]
    exact S.ow i hi
theorem ST.unwipe (S0 : ST K C hid Γ ρ0 σ0 H0) (S : ST K C hid Γ ρ (L2.wipe σ0 vs) H) (h : ∀ i ∈ Γ, i ∉ vs) (le : HLe (mask H0 (Ms σ0 hid Γ)) (mask H (Ms σ0 hid Γ))) : ST K C hid Γ (restE ρ0 ρ vs) σ0 H := by
  have e : ∀ i ∈ Γ, sa (L2.wipe σ0 vs) i = sa σ0 i := fun i hi => by unfold sa; rw [wipe_out (h i hi)]
  have hl : ρ.length = σ0.length := by rw [S.len, wipe_length]
  refine ⟨by rw [restE_length]; exact hl, S.sub, S.trk, S.tmp, S0.nd, S0.dis, S0.own, S.frm, S.frh, S.gro, S.io, S0.pin, fun i d hi q => ?_, fun i hi => ?_⟩
  · by_cases z : i ∈ vs
    · by_cases hi2 : i < ρ.length
      · rw [restE_in hi2 (by rw [S0.len, ← hl]; exact hi2) z] at q
        obtain ⟨v, e1, r⟩ := S0.sl i d hi q
        exact ⟨v, e1, r.mono le⟩
      · rw [List.getElem?_eq_none (by rw [restE_length]; omega)] at q; cases q
    · rw [restE_out z] at q
      obtain ⟨v, e1, r⟩ := S.sl i d hi q
      rw [wipe_out z] at e1
      rw [Ms_wipe h] at r
      exact ⟨v, e1, r⟩
  · obtain ⟨d, e1, e2, c⟩ := S.ow i hi
    rw [wipe_out (h i hi), e i hi] at e2
    rw [Ms_wipe h, e i hi] at c
    exact ⟨d, by rw [restE_out (h i hi)]; exact e1, e2, c⟩
theorem ST.tmpSet {D : Addr} {o : HO} (S : ST K C (D :: hid) Γ ρ σ H) (hD : D ∉ hid) (hs : ∀ a ∈ C.hid, a ∈ hid) : ST K C (D :: hid) Γ ρ σ (upd H D o) := by
  have hM : D ∈ Ms σ (D :: hid) Γ := mem_Ms.mpr (.inl List.mem_cons_self)
  have em := mask_updM (H := H) (o := o) hM
  have nC : D ∉ C.hid := fun z => hD (hs D z)
  have h0 : C.H0 D = none := (S.tmp D List.mem_cons_self).resolve_left nC
  have trk : ∀ a, H a ≠ none → upd H D o a ≠ none := fun a ha => by
    by_cases q : a = D
    · rw [q, upd_same]; simp
    · rw [upd_ne q]; exact ha
  have out : ∀ {A : List Addr} {b : Addr} {u : HO}, mask C.H0 A b = some u → b ≠ D := fun e z => by
    have := (mask_some e).2
    rw [z, h0] at this; cases this
  have up : ∀ {A : List Addr} {b : Addr} {u : HO}, b ≠ D → mask H A b = some u → mask (upd H D o) A b = some u := fun n e => by
    obtain ⟨e1, e2⟩ := mask_some e
    rw [mask_out e1, upd_ne n]; exact e2
  refine ⟨S.len, S.sub, fun a ha => trk a (S.trk a ha), S.tmp, S.nd, S.dis, S.own, ⟨fun b u e n => up (out e) (S.frm.o b u e n), fun b kv e => ?_, fun b kv e => ?_⟩, fun a ha => by rw [upd_ne (show a ≠ D from fun z => nC (z ▸ ha))]; exact S.frh a ha, fun a ha => trk a (S.gro a ha), S.io, S.pin, fun i d hi q => by rw [em]; exact S.sl i d hi q, fun i hi => ?_⟩
  · have n : b ≠ D := by rcases e with e | ⟨_, e⟩ <;> exact out e
    exact (S.frm.k b kv e).elim (fun e => .inl (up n e)) fun ⟨u, e⟩ => .inr ⟨u, up n e⟩
  · have n : b ≠ D := by rcases e with e | ⟨_, e⟩ <;> exact out e
    exact (S.frm.t b kv e).elim (fun e => .inl (up n e)) fun ⟨u, e⟩ => .inr ⟨u, up n e⟩
  · obtain ⟨d, e1, e2, c⟩ := S.ow i hi
    rw [em]
    exact ⟨d, e1, e2, c.mono (fun u z => by rw [upd_ne fun e => S.dis i hi (by rw [e]; exact List.mem_cons_self)]; exact z) (.refl _)⟩
theorem Stp.tmpSet {M M' : List Addr} {D : Addr} {o : HO} {H1 : Hp} (k : Stp M M' hid H H1) (hM : D ∈ M') (hD : D ∉ hid) : Stp M M' hid H (upd H1 D o) :=
  ⟨by rw [mask_updM hM]; exact k.le, fun a ha => by rw [upd_ne (show a ≠ D from fun z => hD (z ▸ ha))]; exact k.fx a ha⟩
end
def Wn : WX := fun _ _ _ _ => False
def mYes : Env → R Bool := fun ρ => .ok true ρ
structure SPs (X : Cx) (C : Ac) (W : WX) (Γ : List Nat) (ifs : List Expr) (Γ' : List Nat) (f : Env → R Bool) : Prop where
  pt : PTs X ifs (tT X.K C W Γ Γ' f)
theorem sps_nil {X : Cx} {C : Ac} {W : WX} {Γ : List Nat} : SPs X C W Γ [] Γ mYes := ⟨⟨fun pins s σ H Q I ⟨hid, ρ, S, p⟩ => pts_nil.run pins s σ H Q I (p H S (Stp.refl _ _ _))⟩⟩
theorem sps_one {X : Cx} {C : Ac} {W : WX} {Γ Γ' : List Nat} {c : Expr} {f : Env → R Bool} (h : SP X C W Γ c Γ' f) : SPs X C W Γ [c] Γ' f := ⟨pts_one h.pt⟩
def compL (g : D → Env → Option Env) (tst : Env → R Bool) (f : Env → R D) (vs : List Nat) : List D → Env → List D → R (List D)
  | [], ρ, acc => .ok acc ρ
  | d :: ds, ρ, acc => match g d ρ with
    | none => .bad
    | some ρ1 => match tst ρ1 with
      | .ok true ρ2 => match f ρ2 with
        | .ok y ρ3 => if acc.length < sizeLine then compL g tst f vs ds (wipeE ρ3 vs) (acc ++ [y]) else .bad
        | _ => .bad
      | .ok false ρ2 => compL g tst f vs ds (wipeE ρ2 vs) acc
      | _ => .bad
def mLc (fi : Env → R (List D)) (g : D → Env → Option Env) (tst : Env → R Bool) (f : Env → R D) (vs : List Nat) : Env → R D := fun ρ => (fi ρ).bind fun ds ρ1 => match compL g tst f vs ds (wipeE ρ1 vs) [] with
  | .ok acc ρ2 => .ok (.lst acc) (restE ρ1 ρ2 vs)
  | _ => .bad
section
variable {X : Cx} {C : Ac} {W : WX} {Γ Γ0 Γ1 Γ2 Γ3 Γ' Γb : List Nat} {fr fr1 fr2 fr3 : Bool} {e a b c tg iter elt kx vx : Expr} {es ifs : List Expr} {ts : List Nat} {f h k : Env → R D} {g : D → Env → Option Env} {tst : Env → R Bool} {p pos apos cpos p2 : Pos} {fi : Env → R (List D)} {scope : Scope} {own : List (Str × Nat)}
/-- the new list D stands beside as a temporary while the turns go on -/
theorem lc_ok (hv : ∀ i ∈ Γ, i ∉ own.map (·.2)) (ht : ∀ i ∈ ts, i ∈ own.map (·.2)) {σ : L2.St} {H : Hp} {Q : VK} (p : tE X.K C W Γ0 Γ true (mLc fi g tst f (own.map (·.2))) σ H Q) :
    tLc (fun σ H Q => ∃ hid ρ, ST X.K C hid Γ0 ρ σ H ∧ PostI X.K C W Γ0 Γ hid σ H Q (fi ρ)) (tG X.K C Γ ts g) (tT X.K C Wn Γ Γ tst) (tE X.K C Wn Γ Γ fr f) (own.map (·.2)) σ H Q := by
  obtain ⟨hid, ρ, S, p⟩ := p
  refine ⟨hid, ρ, S, ?_⟩
  unfold mLc at p
  cases q : fi ρ with
  | bad => rw [q] at p; exact p
  | exn e ρ' => rw [q] at p; exact p
  | ok ds ρ1 =>
    rw [q] at p
    dsimp only [R.bind] at p
    intro J H1 S1 k1 ⟨Gd, Y, w, hG, hY⟩ D hD
    generalize hvs : own.map (·.2) = vs at *
    have kh := S1.holdStp (o := HO.lst []) hD
    have S2 := S1.hold (o := HO.lst []) hD
    have hDn : D ∉ hid := fun z => S1.trk D z hD
    have hDM : D ∈ Ms σ (D :: hid) Γ := mem_Ms.mpr (.inl List.mem_cons_self)
    refine lc_it w (fun i H2 => ∃ ρ2 accD acc, ST X.K C (D :: hid) Γ ρ2 (L2.wipe σ vs) H2 ∧ Stp (Ms σ hid Γ) (Ms σ (D :: hid) Γ) hid H1 H2 ∧ H2 D = some (.lst acc) ∧ RVs (gx X.K C) (mask H2 (Ms σ (D :: hid) Γ)) accD acc ∧
      PostE X.K C W Γ0 Γ true hid σ H Q (match compL g tst f vs (ds.drop i) ρ2 accD with | .ok acc ρ2 => .ok (.lst acc) (restE ρ1 ρ2 vs) | _ => .bad)) ?_ (fun i H2 _ ⟨ρ2, _, _, _, k2, _⟩ => hG _ _ k2.le) (fun i x H2 H3 hlt ⟨ρ2, accD, acc, S2, k2, hl, ra, p2⟩ y => ?_) fun H2 ⟨ρ2, accD, acc, S2, k2, hl, ra, p2⟩ => ?_
    · refine ⟨wipeE ρ1 vs, [], [], S2.wipe hv, kh, upd_same, .nil, ?_⟩
      rw [List.drop_zero]; exact p
    · have hd : ds[i]? = some ds[i] := List.getElem?_eq_getElem hlt
      rw [List.drop_eq_getElem_cons hlt] at p2
      obtain ⟨sm, rv⟩ := hY i x H2 H3 _ hd (hG _ _ k2.le) y
      have eM : Ms (L2.wipe σ vs) (D :: hid) Γ = Ms σ (D :: hid) Γ := Ms_wipe hv
      have r := rv (Ms σ (D :: hid) Γ) (by rw [← eM]; exact S2.trkM) k2.le
      have S3 := S2.same sm
      have keep : ∀ {A B : Hp}, Same A B → (∀ a ∈ hid, A a ≠ none) → Stp (Ms σ (D :: hid) Γ) (Ms σ (D :: hid) Γ) hid A B := fun {A B} sm tr => ⟨.of_same (mask_keep fun b o _ e => sm b o e), fun a ha => by
        cases z : A a with
        | none => exact absurd z (tr a ha)
        | some o => exact sm a o z⟩
      have k3 : Stp (Ms σ hid Γ) (Ms σ (D :: hid) Γ) hid H1 H3 := k2.trans (keep sm fun a ha => S2.trk a (List.mem_cons_of_mem _ ha)) fun _ z => z
      have hl3 : H3 D = some (.lst acc) := sm _ _ hl
      have ra3 : RVs (gx X.K C) (mask H3 (Ms σ (D :: hid) Γ)) accD acc := ra.mono (.of_same (mask_keep fun b o _ e => sm b o e))
      unfold compL at p2
      cases q2 : g ds[i] ρ2 with
      | none => simp only [q2] at p2; exact (show False from p2).elim
      | some ρ3 =>
        simp only [q2] at p2
        refine ⟨D :: hid, ρ2, ds[i], ρ3, S3, by rw [eM]; exact r, q2, fun σ4 H4 S4 k4 o4 => ?_⟩
        have ew : L2.wipe σ4 vs = L2.wipe σ vs := by
          rw [wipe_off o4 ht]
          exact wipe_off (ts := vs) ⟨wipe_length .., fun j hj => wipe_out hj⟩ fun _ z => z
        have eM4 : Ms σ4 (D :: hid) Γ = Ms σ (D :: hid) Γ := by rw [← Ms_wipe (σ := σ4) hv, ew, eM]
        refine ⟨ew, D :: hid, ρ3, S4, ?_⟩
        rw [eM, eM4] at k4
        have k4' : Stp (Ms σ hid Γ) (Ms σ (D :: hid) Γ) hid H1 H4 := k3.trans k4 fun a ha => List.mem_cons_of_mem _ ha
        have hl4 : H4 D = some (.lst acc) := (k4.fx D List.mem_cons_self).trans hl3
        cases q3 : tst ρ3 with
        | bad => simp only [q3] at p2; exact p2
        | exn e ρ' => simp only [q3] at p2; exact (show False from p2).elim
        | ok b ρ4 =>
          simp only [q3] at p2
          intro H5 S5 k5
          rw [eM4] at k5
          have k5' : Stp (Ms σ hid Γ) (Ms σ (D :: hid) Γ) hid H1 H5 := k4'.trans k5 fun a ha => List.mem_cons_of_mem _ ha
          have hl5 : H5 D = some (.lst acc) := (k5.fx D List.mem_cons_self).trans hl4
          have ra5 : RVs (gx X.K C) (mask H5 (Ms σ (D :: hid) Γ)) accD acc := (ra3.mono k4.le).mono k5.le
          cases b with
          | false =>
            rw [if_neg Bool.false_ne_true]
            refine ⟨wipeE ρ4 vs, accD, acc, by rw [← ew]; exact S5.wipe hv, k5', hl5, ra5, p2⟩
          | true =>
            rw [if_pos rfl]
            refine ⟨D :: hid, ρ4, S5, ?_⟩
            cases q4 : f ρ4 with
            | bad => simp only [q4] at p2; exact p2
            | exn e ρ' => simp only [q4] at p2; exact (show False from p2).elim
            | ok y ρ5 =>
              simp only [q4] at p2
              intro v H6 tm S6 k6 va t6
              rw [eM4] at k6
              have sub : ∀ b ∈ Ms σ4 (D :: hid) Γ, b ∈ Ms σ4 (tm ++ (D :: hid)) Γ := Ms_subH fun a ha => List.mem_append_right _ ha
              have S7 := S6.forget (hid' := D :: hid) (fun a ha => List.mem_append_right _ ha) S5.sub
              have k7 : Stp (Ms σ (D :: hid) Γ) (Ms σ (D :: hid) Γ) (D :: hid) H5 H6 := ⟨k6.le.trans (.of_same (mask_sub (by rw [← eM4]; exact sub))), k6.fx⟩
              have rv6 : RV (gx X.K C) (mask H6 (Ms σ (D :: hid) Γ)) y v := by rw [← eM4]; exact va.rv sub t6
              have hl6 : H6 D = some (.lst acc) := (k6.fx D List.mem_cons_self).trans hl5
              have ra6 : RVs (gx X.K C) (mask H6 (Ms σ (D :: hid) Γ)) accD acc := ra5.mono k7.le
              have hal : accD.length < sizeLine := by
                by_cases z : accD.length < sizeLine
                · exact z
                · rw [if_neg z] at p2; exact (show False from p2).elim
              rw [if_pos hal] at p2
              refine ⟨acc, hl6, by rw [← ra6.length]; exact hal, wipeE ρ5 vs, accD ++ [y], acc ++ [v], ?_, ?_, upd_same, ?_, p2⟩
              · have S8 := S7.wipe hv
                rw [ew] at S8
                exact S8.tmpSet hDn S.sub
              · exact (k5'.trans k7 fun a ha => List.mem_cons_of_mem _ ha).tmpSet hDM hDn
              · rw [mask_updM hDM]
                exact ra6.app (.cons rv6 .nil)
    · rw [List.drop_length] at p2
      have S0 := S1.hold (o := HO.lst []) hD
      refine p2 (.ref D) H2 [D] (ST.unwipe S0 S2 hv ?_) (k1.trans k2 fun _ z => z) (.fr (.lst hl ra)) fun b hb => ?_
      · refine HLe.trans (.of_same fun b u e => ?_) k2.le
        obtain ⟨e1, e2⟩ := mask_some e
        have hb : b ≠ D := fun z => e1 (z ▸ hDM)
        rw [upd_ne hb] at e2
        have hm : b ∉ Ms σ hid Γ := fun z => e1 (Ms_subH (hid := D :: hid) (fun a ha => List.mem_cons_of_mem _ ha) b z)
        rw [mask_out hm]
        exact e2
      · rw [List.mem_singleton.mp hb]; exact S1.none_out hD
/-- [elt for target in iter if ..] -/
theorem se_lc {ρs : List Nat} (hc : X.calm = true) (hN : X.N.Nodup) (ok : BlkOk X.N X.env.scope scope own) (hi : SI X C W Γ0 tg iter Γ fi) (hg : ∀ (s : Shared) (H : Hp) (Cc : Addr) (cl : List (Str × Addr)) (fp : List Addr), SG (X.blk s H scope (compEnvC scope cl Cc X.env) fp) C Γ tg ts g)
    (ht : ∀ (s : Shared) (H : Hp) (Cc : Addr) (cl : List (Str × Addr)) (fp : List Addr), SPs (X.blk s H scope (compEnvC scope cl Cc X.env) fp) C Wn Γ ifs Γ tst) (he : ∀ (s : Shared) (H : Hp) (Cc : Addr) (cl : List (Str × Addr)) (fp : List Addr), SE (X.blk s H scope (compEnvC scope cl Cc X.env) fp) C Wn Γ elt Γ fr f)
    (hρ : ρs = own.map (·.2) := by rfl) (hv : (Γ.all fun i => !ρs.contains i) = true := by rfl) (hts : (ts.all fun i => ρs.contains i) = true := by rfl) (hs : ∀ x, foldedSetIterable iter X.env x = pure x := by intro _; rfl) : SE X C W Γ0 (.ListComp elt [⟨tg, iter, ifs, 0⟩] scope pos) Γ true (mLc fi g tst f ρs) := by
  subst hρ
  exact ⟨peImp (pe_lc hc hN hi.pi ok (fun s H Cc cl fp => (hg s H Cc cl fp).pg) (fun s H Cc cl fp => (ht s H Cc cl fp).pt) (fun s H Cc cl fp => (he s H Cc cl fp).pe) hs) fun σ H Q p =>
    lc_ok (fun i hi z => by have := List.all_eq_true.mp hv i hi; rw [List.contains_iff_mem.mpr z] at this; cases this) (fun i hi => List.contains_iff_mem.mp (List.all_eq_true.mp hts i hi)) p⟩
/-- x = [..] on one line -/
theorem ss_setLc (i : Nat) {ρs : List Nat} {x : Str} {pos' spos : Pos} (hc : X.calm = true) (hN : X.N.Nodup) (ok : BlkOk X.N X.env.scope scope own) (hi : SI X C W Γ0 tg iter Γ fi) (hg : ∀ (s : Shared) (H : Hp) (Cc : Addr) (cl : List (Str × Addr)) (fp : List Addr), SG (X.blk s H scope (compEnvC scope cl Cc X.env) fp) C Γ tg ts g)
    (ht : ∀ (s : Shared) (H : Hp) (Cc : Addr) (cl : List (Str × Addr)) (fp : List Addr), SPs (X.blk s H scope (compEnvC scope cl Cc X.env) fp) C Wn Γ ifs Γ tst) (he : ∀ (s : Shared) (H : Hp) (Cc : Addr) (cl : List (Str × Addr)) (fp : List Addr), SE (X.blk s H scope (compEnvC scope cl Cc X.env) fp) C Wn Γ elt Γ fr f)
    (hx : X.N[i]? = some x := by rfl) (hk : okG C.io Γ2 Γ = true := by rfl) (hn : Γ2.contains i = false := by rfl) (hρ : ρs = own.map (·.2) := by rfl) (hv : (Γ.all fun i => !ρs.contains i) = true := by rfl) (hts : (ts.all fun i => ρs.contains i) = true := by rfl) (hs : ∀ x, foldedSetIterable iter X.env x = pure x := by intro _; rfl)
    (hl : X.env.scope.names.lookup x = some .local := by rfl) (hsw : swapsWith (.ListComp elt [⟨tg, iter, ifs, 0⟩] scope pos) (some (.Name x pos')) spos.line X.env = pure true := by rfl) : SS X C W Γ0 (.Assign [.Name x pos'] (.ListComp elt [⟨tg, iter, ifs, 0⟩] scope pos) spos) (i :: Γ2) Γb fr1 (mSetO i (mLc fi g tst f ρs)) := by
  subst hρ
  exact ⟨psImp (ps_setLc hc hN hx hl hsw hi.pi ok (fun s H Cc cl fp => (hg s H Cc cl fp).pg) (fun s H Cc cl fp => (ht s H Cc cl fp).pt) (fun s H Cc cl fp => (he s H Cc cl fp).pe) hs) fun Dn σ H p =>
    lc_ok (fun i hi z => by have := List.all_eq_true.mp hv i hi; rw [List.contains_iff_mem.mpr z] at this; cases this) (fun i hi => List.contains_iff_mem.mp (List.all_eq_true.mp hts i hi)) (take_tE hk hn p)⟩
end
end Ip
namespace Ip
open PySem L2 PySem.Spec PyProof.Rows

/-! ## raise c() -/
theorem pmk_bare {X : Cx} {Cc : Addr} {bmB : List Value} {B newId initId : String} {x : Str} {p pos : Pos} (F : ExcBaseFacts B newId initId bmB) (q : PySem.W.excIn X.K Cc bmB newId = true) (gC : X.mg x = some (.ref Cc)) (kC : PySem.W.keepIn X.K (.ref Cc) = true) (r : Raises X (.ref Cc)) (hg : Gl X x) (hdb : (x == ("__debug__" : Str)) = false) :
    PMk X (.Call (.Name x p) [] [] pos) (fun _ H Q => Q (.ref Cc) none H) := fun pins s σ H Q I h => by
  refine wpAny_Call_Name_kw (ld_glob I hg gC (PySem.W.callWith_K0 (first := []) I.kIn kC ?_) hdb)
  obtain ⟨_, _, _, _, _, _, _, _, _, _, _, _, _, _, _, _, _, hC, hN, hi, T⟩ := exc_obj I.kIn q
  exact wpAny_call_exc_subT F T hC hN hi (fun h' e hm => mk_of I hm r h (I.hok.gone hm.new)) (Nat.zero_le _)
/-- a class of errors with no field -/
structure Er (K : PySem.W.Frag) (mg : Str → Option Value) (ct : Str → Option Addr) (c : Str) : Prop where
  ex : ∃ (Cc : Addr) (B newId initId : String) (bmB : List Value), ct c = some Cc ∧ ExcBaseFacts B newId initId bmB ∧ PySem.W.excIn K Cc bmB newId = true ∧ mg c = some (.ref Cc) ∧ PySem.W.keepIn K (.ref Cc) = true ∧ PySem.W.subIn K (.ref Cc) (.type "BaseException") = some true ∧ PySem.W.typeIn K (.ref Cc) = some (.type "type")
def mRaise (c : Str) : Env → R Fl := fun ρ => .exn ⟨c, none⟩ ρ
section
variable {X : Cx} {C : Ac} {W : WX} {Γ Γ0 Γ1 Γ2 Γ3 Γ' Γb : List Nat} {fr fr1 fr2 fr3 : Bool} {e a b c : Expr} {es : List Expr} {f h k : Env → R D} {p pos pos' apos cpos p2 np : Pos} {body suite : List Stmt} {b₀ : Stmt} {fb : Env → R Fl}
theorem ss_raise {x : Str} (E : Er X.K X.mg C.ct x) (hc : X.calm = true) (tk : Takes X W) (hg : Gl X x := by rfl) (hk : okG C.io C.io Γ = true := by rfl) (hdb : (x == ("__debug__" : Str)) = false := by decide) : SS X C W Γ (.Raise (some (.Call (.Name x p) [] [] pos)) none pos') Γ' Γb fr (mRaise x) := by
  obtain ⟨Cc, B, newId, initId, bmB, e1, F, q, gC, kC, r1, r2⟩ := E.ex
  refine ⟨psImp (ps_raise hc tk (pmk_bare F q gC kC (raises_own r1 r2) hg hdb)) fun Dn σ H ⟨ρ, S, w⟩ => ?_⟩
  obtain ⟨h1, h2, h3⟩ := okG_of hk
  exact w (.ref Cc) none σ H ⟨Cc, e1, rfl, rfl⟩ (S.weak h1 h2 h3)

/-! ## in a suite: the error e stands in slot i; the values that come of isinstance -/
structure SX (X : Cx) (i : Nat) (a : Addr) (e : Expr) (v : V) : Prop where
  pe : PE X e fun σ H Q => σ[i]? = some (some (.ref a)) ∧ ∀ H', Same H H' → Q v H'
theorem sx_bl {i : Nat} {a : Addr} {k : Bool} {j : Nat} : SX X i a (.Constant (.bool k) j pos) (.bl k) := ⟨peImp pe_bl fun σ H Q q => q.2 H (.refl _)⟩
theorem sx_not {i : Nat} {a : Addr} {e : Expr} {k : Bool} (h : SX X i a e (.bl k)) : SX X i a (.UnaryOp .Not e pos) (.bl (!k)) := ⟨peImp (pe_not h.pe) fun σ H Q q => ⟨q.1, fun H' s => ⟨k, rfl, q.2 H' s⟩⟩⟩
theorem sx_one {i : Nat} {a : Addr} {e : Expr} {v : V} {op : BoolOp} (h : SX X i a e v) : SX X i a (.BoolOp op [e] pos) v := ⟨pe_one h.pe⟩
theorem sx_and {i : Nat} {a : Addr} {e e2 : Expr} {rest : List Expr} {k k2 : Bool} (h : SX X i a e (.bl k)) (h2 : SX X i a (.BoolOp .And (e2 :: rest) pos) (.bl k2)) : SX X i a (.BoolOp .And (e :: e2 :: rest) pos) (.bl (k && k2)) := ⟨peImp (pe_and h.pe h2.pe) fun σ H Q q => ⟨q.1, fun H' s => ⟨k, rfl, by
  cases k with
  | true => exact ⟨q.1, fun H'' s' => q.2 H'' (s.trans s')⟩
  | false => exact q.2 H' s⟩⟩⟩
/-- isinstance(e, K): kitOne answers -/
theorem sx_isi {Y : Cx} {i : Nat} {a D Kc : Addr} {oe : Obj} {pn : List (Addr × Obj)} {n x : Str} {k : Bool} (E : ExcC Y.K D) (hz : Zc (.ref D) none oe) (hf : ∃ vs, oe.data = .fields vs) (hk : PySem.W.kitOne Y.K (.ref D) (.ref Kc) = some k) (hN : Y.N[i]? = some n) (hv : Vis Y.env.scope n) (hmi : Y.mg "isinstance" = none) (hm : Y.mg x = some (.ref Kc))
    (hgi : Gl Y "isinstance" := by rfl) (hg : Gl Y x := by rfl) (hd : (n == ("__debug__" : Str)) = false := by decide) (hcd : (n == ("__classdict__" : Str)) = false := by decide) (hdb : (x == ("__debug__" : Str)) = false := by decide)
    (hs : starEach [.Name n np, .Name x p2] Y.env = (false, eval (.Name n np) Y.env) :: starEach [.Name x p2] Y.env := by rfl) (hs2 : starEach [.Name x p2] Y.env = (false, eval (.Name x p2) Y.env) :: starEach [] Y.env := by rfl) (hpl : (backTo pos (starEach [.Name x p2] Y.env)).any (·.1) = false := by rfl) :
    SX (Y.suite a ((a, oe) :: pn)) i a (.Call (.Name "isinstance" p) [.Name n np, .Name x p2] [] pos) (.bl k) :=
  ⟨peImp (pe_callB (X := Y.suite a ((a, oe) :: pn)) (call_isE E hz hf) hgi hmi (by decide +kernel) (pa_cons (pe_var (i := i) hN hv hd hcd) (pa_cons (pe_glob (v := .ref Kc) hg hm rfl hdb) pa_nil hs2) hs) (by decide) (by decide) hs hpl) fun σ H Q q =>
    ⟨_, q.1, .ref Kc, .ref Kc, k, rfl, fun u r => r, hk, q.2 H (.refl _)⟩⟩
/-! ## try: body / except c as n: x = value -/
theorem ST.unslot {K : PySem.W.Frag} {hid : List Addr} {ρ : Env} {σ : L2.St} {H : Hp} (S : ST K C hid Γ ρ σ H) {i : Nat} (hi : i ∉ Γ) (v : Option V) : ST K C hid Γ (ρ.set i none) (σ.set i v) H := by
  have ii : i ∉ C.io := fun z => hi (S.io i z)
  refine ⟨by rw [List.length_set, List.length_set]; exact S.len, S.sub, S.trk, S.tmp, by rw [map_sa_set hi]; exact S.nd, fun j hj => by rw [sa_set (nem hi hj)]; exact S.dis j hj, fun j hj => by rw [sa_set (nem hi hj)]; exact S.own j hj, S.frm, S.frh, S.gro, S.io, by rw [map_sa_set ii]; exact S.pin, fun j e hj ej => ?_, fun j hj => ?_⟩
  · rw [Ms_set hi]
    by_cases q : j = i
    · subst q
      rw [List.getElem?_set] at ej
      split at ej
      · split at ej <;> cases ej
      · contradiction
    · rw [List.getElem?_set_ne (Ne.symm q)] at ej ⊢
      exact S.sl j e hj ej
  · have q : j ≠ i := nem hi hj
    rw [Ms_set hi, sa_set q, List.getElem?_set_ne (Ne.symm q), List.getElem?_set_ne (Ne.symm q)]
    exact S.ow j hj
/-- what an activation begun in the midst tells of the whole -/
theorem ST.inner {K : PySem.W.Frag} {ct : Str → Option Addr} {H0 H H' : Hp} {hid ioA : List Addr} {io : List Nat} {ρ ρ' : Env} {σ σ' : L2.St} (S : ST K ⟨ct, H0, hid, io, ioA⟩ hid io ρ σ H) (S' : ST K ⟨ct, H, hid, io, ioA⟩ hid io ρ' σ' H') :
    ST K ⟨ct, H0, hid, io, ioA⟩ hid io ρ' σ' H' ∧ Stp (Ms σ hid io) (Ms σ' hid io) hid H H' := by
  have e1 : Ms σ hid io = hid ++ ioA := by unfold Ms; rw [show io.map (sa σ) = ioA from S.pin]
  have e2 : Ms σ' hid io = hid ++ ioA := by unfold Ms; rw [show io.map (sa σ') = ioA from S'.pin]
  refine ⟨⟨S'.len, fun _ z => z, S'.trk, fun a ha => .inl ha, S'.nd, S'.dis, fun i hi => .inl ?_, S.frm.trans S'.frm, fun a ha => (S'.frh a ha).trans (S.frh a ha), fun a ha => S'.gro a (S.gro a ha), fun _ z => z, S'.pin, S'.sl, S'.ow⟩, ⟨by rw [e1, e2]; exact S'.frm, fun a ha => S'.frh a ha⟩⟩
  rw [← show io.map (sa σ') = ioA from S'.pin]
  exact List.mem_map_of_mem hi
theorem ST.outer {K : PySem.W.Frag} {ct : Str → Option Addr} {H0 H : Hp} {hid ioA : List Addr} {io : List Nat} {ρ : Env} {σ : L2.St} (S : ST K ⟨ct, H0, hid, io, ioA⟩ hid io ρ σ H) : ST K ⟨ct, H, hid, io, ioA⟩ hid io ρ σ H :=
  ⟨S.len, fun _ z => z, S.trk, fun a ha => .inl ha, S.nd, S.dis, fun i hi => .inl (by rw [← show io.map (sa σ) = ioA from S.pin]; exact List.mem_map_of_mem hi), .refl _, fun _ _ => rfl, fun _ z => z, fun _ z => z, S.pin, S.sl, S.ow⟩
def mTry (cn : Str) (i j : Nat) (d : D) (f : Env → R Fl) : Env → R Fl := fun ρ => match f ρ with
  | .ok .nx ρ' => .ok .nx ρ'
  | .exn e ρ' => if e.cls = cn ∧ e.fld.isNone = true ∧ j < ρ'.length ∧ i < ρ'.length then .ok .nx ((ρ'.set j (some d)).set i none) else .bad
  | _ => .bad
theorem ss_tryAs {ct : Str → Option Addr} {H0 : Hp} {hid ioA : List Addr} {io : List Nat} {n x cn : Str} {Cc Hc : Addr} (i j : Nat) {d : D} {v : V} (hN : X.N.Nodup) (hs : X.stack = X.env :: X.outer) (hf : X.env.frame = some X.env.locals) (hcc : ct cn = some Cc) (hc : Names X x (.ref Hc)) (hm : PySem.W.exmOne X.K (.ref Cc) (.ref Hc) = some true) (hr : ∀ A, RV ⟨X.K, ct⟩ A d v) (tk : Takes X W)
    (hb : ∀ (H1 : Hp) (W1 : WX) (pn : List (Addr × Obj)) (xe : Value → Shared → Prop), Takes (X.tr pn xe) W1 → PassesOwn (model X.prog X.w) X.A X.env xe → SSs (X.tr pn xe) ⟨ct, H1, hid, io, ioA⟩ W1 io body io [] false fb)
    (hsu : ∀ (a : Addr) (oe : Obj) (pn : List (Addr × Obj)), Zc (.ref Cc) none oe → (∃ vs, oe.data = .fields vs) → PSs (X.suite a ((a, oe) :: pn)) (b₀ :: suite) fun Dn σ H => σ[i]? = some (some (.ref a)) ∧ ∀ H', Same H H' → Dn.nx (σ.set j (some v)) H')
    (hi : X.N[i]? = some n := by rfl) (hij : (i == j || io.contains i || io.contains j) = false := by rfl) (hln : X.env.kindOf n = some .local := by rfl) :
    SS X ⟨ct, H0, hid, io, ioA⟩ W io (.Try body [.ExceptHandler (some (.Name x np)) (some n) (b₀ :: suite) pos'] [] [] pos) io Γb fr (mTry cn i j d fb) := by
  have hi' : i ∉ io := fun z => by rw [List.contains_iff_mem.mpr z] at hij; simp at hij
  have hj' : j ∉ io := fun z => by rw [List.contains_iff_mem.mpr z] at hij; simp at hij
  have hne : i ≠ j := fun z => by subst z; simp at hij
  constructor
  constructor
  intro pins s σ H Dn I ⟨ρ, S, p⟩
  refine (ps_try_as (tb := fun W1 => tS X.K ⟨ct, H, hid, io, ioA⟩ W1 io io [] false fb) (Wout := W) (ts := fun a cls od => fun Dn σ H => cls = .ref Cc ∧ od = none ∧ σ[i]? = some (some (.ref a)) ∧ ∀ H', Same H H' → Dn.nx (σ.set j (some v)) H') hs hf hN hi hln hc tk (fun W1 pn xe t1 t2 => (hb H W1 pn xe t1 t2).ps) fun a oe cls od pn hz hd => ⟨fun pins s σ H Dn I q => ?_⟩).run pins s σ H Dn I ?_
  · obtain ⟨rfl, rfl, q1, q2⟩ := q
    exact (hsu a oe pn hz hd).run pins s σ H Dn I ⟨q1, q2⟩
  · refine ⟨ρ, S.outer, ?_⟩
    unfold mTry at p
    cases q : fb ρ with
    | bad => rw [q] at p; exact (show False from p).elim
    | ok fl ρ' =>
      rw [q] at p
      cases fl with
      | nx => exact fun σ' H' S' k' => p σ' H' (S.inner S').1 k'
      | _ => exact (show False from p).elim
    | exn e ρ' =>
      rw [q] at p
      by_cases hc2 : e.cls = cn ∧ e.fld.isNone = true ∧ j < ρ'.length ∧ i < ρ'.length
      · simp only [if_pos hc2] at p
        obtain ⟨z1, z2, z3, z4⟩ := hc2
        intro cls od σ' H' xr S'
        obtain ⟨C1, y1, y2, y3⟩ := xr
        rw [z1] at y1
        have : Cc = C1 := Option.some.inj (hcc.symm.trans y1)
        subst this
        have y4 : od = none := by
          cases ef : e.fld with
          | none => rw [ef] at y3; exact y3
          | some d => rw [ef] at z2; cases z2
        subst y2 y4
        refine ⟨true, hm, fun _ a ha => ⟨rfl, rfl, List.getElem?_set_self ?_, fun H2 sm => ?_⟩, fun z => nomatch z⟩
        · rw [← S'.len]; exact z4
        · obtain ⟨S1, k1⟩ := S.inner S'
          have S2 := S1.same sm
          have S3 := S2.put (v := v) hj' (hr _) z3
          have S4 := S3.unslot hi' none
          have e2 : (((σ'.set i (some (V.ref a))).set j (some v)).set i none) = ((σ'.set j (some v)).set i none) := by
            rw [List.set_comm (l := σ') (some (V.ref a)) (some v) hne, List.set_set]
          show Dn.nx (((σ'.set i (some (V.ref a))).set j (some v)).set i none) H2
          rw [e2]
          refine p _ H2 S4 ?_
          rw [Ms_set hi', Ms_set hj']
          refine ⟨k1.le.trans (.of_same (mask_keep fun b o _ e => sm b o e)), fun a ha => ?_⟩
          have e := k1.fx a ha
          rw [← e]
          cases q : H' a with
          | none => exact absurd q (S1.trk a ha)
          | some o => exact sm a o q
      · simp only [if_neg hc2] at p; exact (show False from p).elim
end
end Ip
namespace Ip
open PySem L2 PySem.Spec PyProof.Rows

/-! ## enumerate(a text) -/
def ItES (x : Str) : It := ⟨fun i _ => i < x.cps.size, fun i H v H' => ∃ T c, v = .ref T ∧ H T = none ∧ H' = upd H T (.tup [.int (i : Nat), .str ⟨#[c]⟩]) ∧ x.cps[i]? = some c, fun i _ => x.cps.size ≤ i⟩
theorem turn_enumS {P : Program} {w : World} {K : PySem.W.Frag} {elts : List Expr} {kk : Nat} {tpos : Pos} (x : Str) (t : Tok) (e it : Addr) (hne : e ≠ it) :
    Turn P w K (.Tuple elts kk tpos) (ItES x) [e, it] e (fun i h => i ≤ x.cps.size ∧ (∃ old, IsEnum h e it ((0 : Int) + ((i : Nat) : Int)) old) ∧ h.IsStrIter it (strIterType x) x t i) where
  mem := by simp
  obj := fun i h ⟨_, ⟨old, he⟩, ⟨o, ho, hc, hd⟩⟩ b hb => by
    rcases (show b = e ∨ b = it by simpa using hb) with z | z
    · rw [z]; exact ⟨_, he, fun v q => nomatch q⟩
    · rw [z]; exact ⟨o, ho, fun v q => by rw [hd] at q; cases q⟩
  keep := fun i h h' ⟨hl, ⟨old, he⟩, ⟨o, ho, r⟩⟩ k => ⟨hl, ⟨old, k e (by simp) _ he⟩, ⟨o, k it (by simp) o ho, r⟩⟩
  item := by
    intro X hP hw hK hc i pins s σ H E I hf ⟨hl, st1, st2⟩ hg
    subst hP hw hK
    have G := GoesN.enumFrom (prog := X.prog) (w := X.w) (A := X.A) (elts := elts) (x1 := kk) (pos := tpos) 0 (Draws.text (prog := X.prog) (w := X.w) (A := X.A.in1) (I.ok.hd hc) it x t) e hne (by simp [hne]) (by simp)
    refine thn (G.goes i s _ E hg ⟨st1, st2⟩ fun v h' tk ⟨T, t2, y, ev, hT, ⟨c, u, hcx, ey⟩, htp⟩ st' kk _ => ?_) fun r s1 q => q
    subst ev; subst ey
    have I1 := I.turnedNew (t' := tk) (ob := .tup [.int (i : Nat), .str ⟨#[c]⟩]) (ch := [e, it]) kk hf hT ⟨by show 2 ≤ sizeLine; decide, [.int (0 + (i : Int)) t2, .str ⟨#[c]⟩ u], .cons ⟨t2, by rw [Int.zero_add]⟩ (.cons ⟨u, rfl⟩ .nil), htp⟩
    refine ⟨.ref T, _, I1, rfl, ⟨T, c, rfl, I.hok.fresh hT, rfl, hcx⟩, ⟨hg, st'.1, st'.2⟩, fun b hb => ?_⟩
    have hb' : b < s.heap.objs.size := by
      rcases (show b = e ∨ b = it by simpa using hb) with z | z
      · obtain ⟨old, he⟩ := st1
        rw [z]; exact Heap.lt_size he
      · obtain ⟨o, ho, _⟩ := st2
        rw [z]; exact Heap.lt_size ho
    rw [upd_ne (show b ≠ T from Nat.ne_of_lt (Nat.lt_of_lt_of_le hb' hT))]
    exact (hf b hb).1
  done := by
    intro X hP hw hK hc i pins s σ H E I hf ⟨hl, st1, st2⟩ hg
    subst hP hw hK
    have hi : i = x.cps.size := Nat.le_antisymm hl hg
    subst hi
    have G := GoesN.enumFrom (prog := X.prog) (w := X.w) (A := X.A) (elts := elts) (x1 := kk) (pos := tpos) 0 (Draws.text (prog := X.prog) (w := X.w) (A := X.A.in1) (I.ok.hd hc) it x t) e hne (by simp [hne]) (by simp)
    exact G.stops s _ E ⟨st1, st2⟩ fun h' tk k _ => I.turnedL (t' := tk) k hf
  self := fun A i s Q E ⟨_, ⟨_, he⟩, _⟩ h => wpAny_pyIter_enum he h
theorem pi_enumS {X : Cx} {e : Expr} {te : TE} {p pos tpos : Pos} {elts : List Expr} {kk : Nat} (hg : Gl X "enumerate") (hm : X.mg "enumerate" = none) (he : PE X e te) (hs : starEach [e] X.env = (false, eval e X.env) :: starEach [] X.env) :
    PI X (.Tuple elts kk tpos) (.Call (.Name "enumerate" p) [e] [] pos) fun σ H R => te σ H fun v H1 => ∃ x, v = .str x ∧ R (ItES x) H1 := ⟨fun pins s σ H R I h => by
  refine Call_ (ld_blt I hg hm boot_enumerate (PyProof.Rows.callWith_type1 (args_cons (thn (he.run pins s σ H _ I h) fun u s1 ⟨v, H1, I1, r1, x, ev, q⟩ => args_nil ?_) hs) hs rfl))
  subst ev
  obtain ⟨t, rfl⟩ := r1
  refine call_enumerate_str fun h' h1 h2 hsz hk => wpAny_pyIter_enum h1 ?_
  have I2 : Inv X pins σ H1 { s1 with heap := h' } := I1.kept (t' := s1.toks) hk
  refine ⟨s1.heap.objs.size + 1, [s1.heap.objs.size + 1, s1.heap.objs.size], _, _, H1, rfl, I2, turn_enumS x t (s1.heap.objs.size + 1) s1.heap.objs.size (Nat.succ_ne_self _), ⟨Nat.zero_le _, ⟨.none, h1⟩, h2⟩, fun b hb => ?_, q⟩
  have hle : s1.heap.objs.size ≤ b := by
    rcases (show b = s1.heap.objs.size + 1 ∨ b = s1.heap.objs.size by simpa using hb) with z | z
    · rw [z]; exact Nat.le_add_right _ _
    · rw [z]; exact Nat.le_refl _
  exact I1.fpOk hle (I1.hok.fresh hle)⟩
def enumL : Nat → List D → List D
  | _, [] => []
  | n, d :: ds => .tup [.int (n : Nat), d] :: enumL (n + 1) ds
theorem enumL_get : ∀ (ds : List D) (n i : Nat), (enumL n ds)[i]? = ds[i]?.map fun d => .tup [.int ((n + i : Nat) : Int), d]
  | [], _, _ => rfl
  | d :: ds, n, 0 => rfl
  | d :: ds, n, i + 1 => by
    rw [enumL, List.getElem?_cons_succ, List.getElem?_cons_succ, enumL_get ds (n + 1) i]
    congr 1
    funext d
    rw [show n + 1 + i = n + (i + 1) by omega]
theorem enumL_len : ∀ (ds : List D) (n : Nat), (enumL n ds).length = ds.length
  | [], _ => rfl
  | d :: ds, n => by rw [enumL, List.length_cons, List.length_cons, enumL_len]
theorem rv_pair {g : Gx} {H : Hp} {M : List Addr} {T : Addr} {x y : V} {dx dy : D} (hT : H T = none) (tr : ∀ a ∈ M, H a ≠ none) (r1 : RV g (mask H M) dx x) (r2 : RV g (mask H M) dy y) : RV g (mask (upd H T (.tup [x, y])) M) (.tup [dx, dy]) (.ref T) := by
  have hn : T ∉ M := fun z => tr T z hT
  have le : HLe (mask H M) (mask (upd H T (.tup [x, y])) M) := .of_same (mask_keep fun b o _ e => same_upd hT b o e)
  exact .tup (by rw [mask_out hn, upd_same]) (.cons (r1.mono le) (.cons (r2.mono le) .nil))
theorem itok_enumS {g : Gx} {H : Hp} {M : List Addr} {x : Str} : ItOk g (ItES x) (enumL 0 (x.cps.toList.map chD)) H M := by
  refine ⟨fun _ => True, (ItES x).yld, ⟨fun i H hi _ => ?_, fun H _ => ?_, fun i H x H' hi _ y => y⟩, fun _ _ _ => trivial, fun i v H1 H1' d hd _ y => ?_⟩
  · rw [enumL_len, List.length_map, Array.length_toList] at hi; exact hi
  · show x.cps.size ≤ _
    rw [enumL_len, List.length_map, Array.length_toList]; exact Nat.le_refl _
  · obtain ⟨T, c, rfl, hT, rfl, hc⟩ := y
    rw [enumL_get, List.getElem?_map, Array.getElem?_toList, hc] at hd
    cases hd
    refine ⟨same_upd hT, fun M1 tr _ => ?_⟩
    rw [Nat.zero_add]
    exact rv_pair hT tr (.int _) (.str _)
section
variable {X : Cx} {C : Ac} {W : WX} {Γ Γ0 Γ1 Γ2 Γ3 Γ' Γb : List Nat} {fr fr1 fr2 fr3 : Bool} {e a b c tg : Expr} {es elts : List Expr} {f h k : Env → R D} {p pos pos' apos cpos p2 np tpos : Pos} {kk : Nat}
def mEnumS (f : Env → R D) : Env → R (List D) := fun ρ => (f ρ).bind fun d ρ' => match d with
  | .str x => .ok (enumL 0 (x.cps.toList.map chD)) ρ'
  | _ => .bad
theorem si_enumS (ha : SE X C W Γ e Γ' fr f) (hm : X.mg "enumerate" = none) (hg : Gl X "enumerate" := by rfl) (hs : starEach [e] X.env = (false, eval e X.env) :: starEach [] X.env := by rfl) : SI X C W Γ (.Tuple elts kk tpos) (.Call (.Name "enumerate" p) [e] [] pos) Γ' (mEnumS f) :=
  ⟨piImp (pi_enumS hg hm ha.pe hs) fun σ H Q ⟨hid, ρ, S, p⟩ => by
  refine ⟨hid, ρ, S, ?_⟩
  unfold mEnumS at p
  cases q : f ρ with
  | bad => rw [q] at p; exact p
  | exn e ρ' => rw [q] at p; exact p
  | ok d ρ' =>
    rw [q] at p
    dsimp only [R.bind] at p
    intro v H1 tm S1 k1 va t1
    cases d with
    | str x =>
      have := shal_str va.shal0
      subst this
      exact ⟨x, rfl, p _ H1 (S1.forget (fun a ha => List.mem_append_right _ ha) S.sub) ⟨k1.le.trans (.of_same (mask_sub (Ms_subH fun a ha => List.mem_append_right _ ha))), k1.fx⟩ itok_enumS⟩
    | _ => exact (show False from p).elim⟩
/-! ## what is never reached -/
theorem ss_bad {st : Stmt} : SS X C W Γ st Γ' Γb fr (fun _ => .bad) := ⟨psImp ps_never fun Dn σ H ⟨ρ, S, p⟩ => p⟩
theorem sss_bad {st : List Stmt} : SSs X C W Γ st Γ' Γb fr (fun _ => .bad) := ⟨pssImp pss_never fun Dn σ H ⟨ρ, S, p⟩ => p⟩
theorem se_bad : SE X C W Γ e Γ' fr (fun _ => .bad) := ⟨⟨fun pins s σ H Q I ⟨hid, ρ, S, p⟩ => (show False from p).elim⟩⟩
theorem sp_bad : SP X C W Γ e Γ' (fun _ => .bad) := ⟨⟨fun pins s σ H Q I ⟨hid, ρ, S, p⟩ => (show False from p).elim⟩⟩
/-! ## while: the number of turns is bounded by the semantics -/
def whileL (c : Env → R Bool) (body : Env → R Fl) : Nat → Env → R Fl
  | 0, _ => .bad
  | n + 1, ρ => match c ρ with
    | .ok false ρ' => .ok .nx ρ'
    | .ok true ρ' => match body ρ' with
      | .ok .nx ρ2 => whileL c body n ρ2
      | .ok .ct ρ2 => whileL c body n ρ2
      | .ok .bk ρ2 => .ok .nx ρ2
      | .ok (.rt z) ρ2 => .ok (.rt z) ρ2
      | .exn e ρ2 => .exn e ρ2
      | .bad => .bad
    | .exn e ρ' => .exn e ρ'
    | .bad => .bad
def mWhile (n : Env → Nat) (c : Env → R Bool) (body : Env → R Fl) : Env → R Fl := fun ρ => whileL c body (n ρ) ρ
theorem ss_while {fc : Env → R Bool} {fb : Env → R Fl} {body : List Stmt} (n : Env → Nat) (hp : PassesOwn (model X.prog X.w) X.A X.env X.xe) (hc : SP X C W Γ c Γ fc) (hb : SSs X C W Γ body Γ Γ fr fb) : SS X C W Γ (.While c body [] pos) Γ Γb fr (mWhile n fc fb) := ⟨psImp (ps_while hp hc.pt hb.ps) fun Dn σ H ⟨ρ, S, p⟩ => by
  refine ⟨fun m σ1 H1 => ∃ ρ1, ST X.K C C.hid Γ ρ1 σ1 H1 ∧ Stp (Ms σ C.hid Γ) (Ms σ1 C.hid Γ) C.hid H H1 ∧ PostS X.K C W Γ Γ Γb fr Dn σ H (whileL fc fb m ρ1), ⟨_, ρ, S, Stp.refl _ _ _, p⟩, ?_⟩
  rintro m σ1 H1 ⟨ρ1, S1, k1, p1⟩
  cases m with
  | zero => exact (show False from p1).elim
  | succ m =>
    refine ⟨C.hid, ρ1, S1, ?_⟩
    unfold whileL at p1
    cases q : fc ρ1 with
    | bad => simp only [q] at p1; exact p1
    | exn e ρ' => simp only [q] at p1; exact fun cls od H' x S' => p1 cls od σ1 H' x S'
    | ok b ρ2 =>
      simp only [q] at p1
      intro H2 S2 k2
      cases b with
      | false => rw [if_neg Bool.false_ne_true]; exact p1 σ1 H2 S2 (k1.trans k2 fun _ z => z)
      | true =>
        rw [if_pos rfl]
        refine ⟨fun σ3 H3 => ∃ ρ3, ST X.K C C.hid Γ ρ3 σ3 H3 ∧ Stp (Ms σ C.hid Γ) (Ms σ3 C.hid Γ) C.hid H H3 ∧ PostS X.K C W Γ Γ Γb fr Dn σ H (whileL fc fb m ρ3), fun σ' H' z => ⟨m, Nat.lt_succ_self m, z⟩, ρ2, S2, ?_⟩
        have k3 := k1.trans k2 fun _ z => z
        cases q2 : fb ρ2 with
        | bad => simp only [q2] at p1; exact p1
        | exn e ρ' => simp only [q2] at p1; exact p1
        | ok fl ρ3 =>
          simp only [q2] at p1
          cases fl with
          | nx => exact fun σ4 H4 S4 k4 => ⟨ρ3, S4, k3.trans k4 fun _ z => z, p1⟩
          | ct => exact fun σ4 H4 S4 k4 => ⟨ρ3, S4, k3.trans k4 fun _ z => z, p1⟩
          | bk => exact fun σ4 H4 S4 k4 => p1 σ4 H4 S4 (k3.trans k4 fun _ z => z)
          | rt z => exact p1⟩
end
end Ip
namespace Ip
open PySem L2 PySem.Spec PyProof.Rows

/-! ## dicts whose keys are ints and texts -/
def keyB : D → D → Bool
  | .int i, .int j => i == j
  | .str x, .str y => x == y
  | _, _ => false
def dFind : List D → List D → D → Option D
  | k' :: ks, d :: ds, k => if keyB k' k then some d else dFind ks ds k
  | _, _, _ => none
def dPut (ks ds : List D) (k v : D) : List D × List D := if ks.any (keyB · k) then (ks, List.zipWith (fun k' d => if keyB k' k then v else d) ks ds) else (ks ++ [k], ds ++ [v])
theorem keyB_kD (k k' : Key) : keyB (kD k) (kD k') = decide (k = k') := by
  cases k with
  | inl i => cases k' with
    | inl j => by_cases h : i = j <;> simp [keyB, kD, h]
    | inr y => simp [keyB, kD]
  | inr x => cases k' with
    | inl j => simp [keyB, kD]
    | inr y => by_cases h : x = y <;> simp [keyB, kD, h]
def toKey : D → Option Key
  | .int i => some (.inl i)
  | .str x => some (.inr x)
  | _ => none
theorem toKey_kD {d : D} {k : Key} (h : toKey d = some k) : d = kD k := by
  cases d <;> first | (cases h; rfl) | cases h
theorem kV_of {g : Gx} {H Hm : Hp} {k : Key} {v : V} (s : Shal g H Hm (kD k) v) : v = kV k := by
  cases k with
  | inl i => cases s; rfl
  | inr x => cases s; rfl
section
variable {g : Gx} {H : Hp}
theorem dFind_none : ∀ (ks : List Key) (vs : List V) (ds : List D) (k : Key), RVs g H ds vs → dFind (ks.map kD) ds (kD k) = none → ks.length = vs.length → valV (ks.zip vs) k = none
  | [], _, _, _, _, _, _ => rfl
  | k' :: ks, [], _, _, _, _, h => by simp at h
  | k' :: ks, v :: vs, _, k, .cons r t, e, h => by
    rw [List.map_cons, dFind, keyB_kD] at e
    by_cases z : k' = k
    · rw [if_pos (decide_eq_true z)] at e; cases e
    · rw [if_neg (by simpa using z)] at e
      rw [List.zip_cons_cons, valV_neg z]
      exact dFind_none ks vs _ k t e (by simpa using h)
theorem dFind_some : ∀ (ks : List Key) (vs : List V) (ds : List D) (k : Key) (d : D), RVs g H ds vs → dFind (ks.map kD) ds (kD k) = some d → ks.length = vs.length → ∃ v, valV (ks.zip vs) k = some v ∧ RV g H d v
  | [], _, _, _, _, _, e, _ => by cases e
  | k' :: ks, [], _, _, _, _, _, h => by simp at h
  | k' :: ks, v :: vs, _, k, d, .cons r t, e, h => by
    rw [List.map_cons, dFind, keyB_kD] at e
    by_cases z : k' = k
    · rw [if_pos (decide_eq_true z)] at e
      cases e
      exact ⟨v, by rw [List.zip_cons_cons, valV_pos z], r⟩
    · rw [if_neg (by simpa using z)] at e
      rw [List.zip_cons_cons, valV_neg z]
      exact dFind_some ks vs _ k d t e (by simpa using h)
theorem putK_zip (k : Key) (v : V) (d : D) (rd : RV g H d v) : ∀ (ks : List Key) (vs : List V) (ds : List D), RVs g H ds vs → ks.length = vs.length → ∃ (ks' : List Key) (vs' : List V), putK (ks.zip vs) k v = ks'.zip vs' ∧ ks'.length = vs'.length ∧ (dPut (ks.map kD) ds (kD k) d).1 = ks'.map kD ∧ RVs g H (dPut (ks.map kD) ds (kD k) d).2 vs' := by
  have hany : ∀ (ks : List Key) (vs : List V), ks.length = vs.length → ((ks.zip vs).any fun kv => decide (kv.1 = k)) = (ks.map kD).any (keyB · (kD k)) := by
    intro ks
    induction ks with
    | nil => intro vs _; rfl
    | cons k' ks ih =>
      intro vs h
      cases vs with
      | nil => simp at h
      | cons u vs => rw [List.zip_cons_cons, List.any_cons, List.map_cons, List.any_cons, keyB_kD, ih vs (by simpa using h)]
  have hmap : ∀ (ks : List Key) (vs : List V) (ds : List D), RVs g H ds vs → ks.length = vs.length → ∃ vs', (ks.zip vs).map (fun kv => if kv.1 = k then (kv.1, v) else kv) = ks.zip vs' ∧ ks.length = vs'.length ∧ RVs g H (List.zipWith (fun k' e => if keyB k' (kD k) then d else e) (ks.map kD) ds) vs' := by
    intro ks
    induction ks with
    | nil => intro vs ds r h; exact ⟨[], rfl, rfl, .nil⟩
    | cons k' ks ih =>
      intro vs ds r h
      cases r with
      | nil => simp at h
      | @cons e u ds vs r t =>
        obtain ⟨vs', h1, h2, h3⟩ := ih vs ds t (by simpa using h)
        by_cases z : k' = k
        · refine ⟨v :: vs', ?_, by simp [h2], ?_⟩
          · rw [List.zip_cons_cons, List.map_cons, h1, if_pos z]; rfl
          · rw [List.map_cons, List.zipWith_cons_cons, keyB_kD, if_pos (decide_eq_true z)]
            exact .cons rd h3
        · refine ⟨u :: vs', ?_, by simp [h2], ?_⟩
          · rw [List.zip_cons_cons, List.map_cons, h1, if_neg z]; rfl
          · rw [List.map_cons, List.zipWith_cons_cons, keyB_kD, if_neg (by simpa using z)]
            exact .cons r h3
  intro ks vs ds r h
  unfold putK dPut
  rw [hany ks vs h]
  by_cases q : (ks.map kD).any (keyB · (kD k)) = true
  · rw [if_pos q, if_pos q]
    obtain ⟨vs', h1, h2, h3⟩ := hmap ks vs ds r h
    exact ⟨ks, vs', h1, h2, rfl, h3⟩
  · rw [if_neg q, if_neg q]
    refine ⟨ks ++ [k], vs ++ [v], ?_, by simp [h], by simp, r.app (.cons rd .nil)⟩
    rw [List.zip_append h]; rfl
end
theorem dic_dK {g : Gx} {H Hm : Hp} {ks ds : List D} {v : V} (s : Shal g H Hm (.dic ks ds) v) (hk : ks.all isKD = true) : ∃ (a : Addr) (kk : List Key) (vs : List V), v = .ref a ∧ ks = kk.map kD ∧ Rd H a (.dK (kk.zip vs)) ∧ kk.length = vs.length ∧ RVs g Hm ds vs := by
  cases s with
  | @dK a kk vs ds h l r => exact ⟨a, kk, vs, rfl, rfl, h, l, r⟩
  | @dT a kk vs ds h l r n => exact absurd (rvs_keysT (H := Hm) vs kk hk) n
def dgetD : D → D → Option D
  | .dic ks ds, k => if ks.all isKD then (toKey k).bind fun _ => dFind ks ds k else none
  | _, _ => none
def rGetDK : R2 := fun x y H Q => ∃ a v, x = .ref a ∧ DGet H a y (some v) ∧ Q v H
theorem dget_ok {g : Gx} : OpS g rGetDK dgetD := fun H M x y dx dy d Q tr sx sy ho q => by
  cases dx with
  | dic ks ds =>
    simp only [dgetD] at ho
    split at ho
    · rename_i hk
      simp only [Option.bind_eq_some_iff] at ho
      obtain ⟨k, h1, h2⟩ := ho
      obtain ⟨a, kk, vs, rfl, rfl, hr, hl, rv⟩ := dic_dK sx hk
      have := toKey_kD h1
      subst this
      obtain ⟨v, hv, rd⟩ := dFind_some kk vs ds k d rv h2 hl
      exact ⟨a, v, rfl, .inl ⟨_, k, hr, kV_of sy, hv.symm⟩, q v H (.refl _) rd⟩
    · cases ho
  | _ => cases ho
def inDD : D → D → Option Bool
  | k, .dic ks ds => if ks.all isKD then (toKey k).map fun _ => (dFind ks ds k).isSome else none
  | _, _ => none
theorem inDD_ok {g : Gx} {H : Hp} {M : List Addr} {x y : V} {dx dy : D} {b : Bool} (sx : Shal g H (mask H M) dx x) (sy : Shal g H (mask H M) dy y) (h : inDD dx dy = some b) : ∃ a o, y = .ref a ∧ DGet H a x o ∧ b = o.isSome := by
  cases dy with
  | dic ks ds =>
    simp only [inDD] at h
    split at h
    · rename_i hk
      simp only [Option.map_eq_some_iff] at h
      obtain ⟨k, h1, rfl⟩ := h
      obtain ⟨a, kk, vs, rfl, rfl, hr, hl, rv⟩ := dic_dK sy hk
      have := toKey_kD h1
      subst this
      cases e : dFind (kk.map kD) ds (kD k) with
      | none => exact ⟨a, none, rfl, .inl ⟨_, k, hr, kV_of sx, (dFind_none kk vs ds k rv e hl).symm⟩, rfl⟩
      | some d =>
        obtain ⟨v, hv, _⟩ := dFind_some kk vs ds k d rv e hl
        exact ⟨a, some v, rfl, .inl ⟨_, k, hr, kV_of sx, hv.symm⟩, rfl⟩
    · cases h
  | _ => simp [inDD] at h
def inKD (a b : D) : Option D := (inDD a b).map .bl
def notInKD (a b : D) : Option D := (inDD a b).map fun k => .bl !k
def rInK : R2 := fun y x H Q => ∃ a o, x = .ref a ∧ DGet H a y o ∧ Q (.bl o.isSome) H
def rNotInK : R2 := fun y x H Q => ∃ a o, x = .ref a ∧ DGet H a y o ∧ Q (.bl (!o.isSome)) H
theorem op_inK {X : Cx} (hu : X.A.units + 1 < cLine) : OpR X (compareOp .In) rInK := fun pins s σ H y x iv u Q I ry rx ⟨a, o, ex, g, q⟩ => by
  subst ex; cases rx
  exact d_in hu I g ry fun s3 I3 => ⟨.bl o.isSome, H, I3, rfl, q⟩
theorem op_notInK {X : Cx} (hu : X.A.units + 1 < cLine) : OpR X (compareOp .NotIn) rNotInK := fun pins s σ H y x iv u Q I ry rx ⟨a, o, ex, g, q⟩ => by
  subst ex; cases rx
  exact d_notIn hu I g ry fun s3 I3 => ⟨.bl (!o.isSome), H, I3, rfl, q⟩
theorem inK_ok {g : Gx} : OpS g rInK inKD := fun H M x y dx dy d Q tr sx sy ho q => by
  unfold inKD at ho
  cases e : inDD dx dy with
  | none => rw [e] at ho; cases ho
  | some b =>
    rw [e] at ho; cases ho
    obtain ⟨a, o, h1, h2, rfl⟩ := inDD_ok sx sy e
    exact ⟨a, o, h1, h2, q _ H (.refl _) (.bl _)⟩
theorem notInK_ok {g : Gx} : OpS g rNotInK notInKD := fun H M x y dx dy d Q tr sx sy ho q => by
  unfold notInKD at ho
  cases e : inDD dx dy with
  | none => rw [e] at ho; cases ho
  | some b =>
    rw [e] at ho; cases ho
    obtain ⟨a, o, h1, h2, rfl⟩ := inDD_ok sx sy e
    exact ⟨a, o, h1, h2, q _ H (.refl _) (.bl _)⟩
/-- len(d), list(d) -/
def oLenD : List D → Option D
  | [.dic ks ds] => if ks.all isKD ∧ ks.length = ds.length then some (.int ds.length) else none
  | _ => none
def rLenD : List V → Hp → VK → Prop := fun xs H Q => ∃ a kvs, xs = [.ref a] ∧ Rd H a (.dK kvs) ∧ Q (.int kvs.length) H
theorem call_lenDK {X : Cx} : CallR X (.builtin "len") rLenD := fun pins s σ H xs us Q I r ⟨a, kvs, e, hk, q⟩ => by
  subst e
  obtain ⟨u, rfl, rx⟩ := vals1 r
  cases rx
  exact d_len I hk fun t s' I' => ⟨.int kvs.length, H, I', ⟨t, rfl⟩, q⟩
theorem cal_lenD {g : Gx} : CalS g rLenD oLenD := fun H M vs ds d Q tr ks ho q => by
  unfold oLenD at ho
  split at ho
  · split at ho
    · rename_i h
      cases ho
      obtain ⟨v, rfl, s⟩ := shals1 ks
      obtain ⟨a, kk, ws, rfl, rfl, hr, hl, rv⟩ := dic_dK s h.1
      refine ⟨a, _, rfl, hr, ?_⟩
      rw [List.length_zip, ← hl, Nat.min_self]
      have := rv.length
      rw [hl, ← this]
      exact q _ H (.refl _) (.int _)
    · cases ho
  · cases ho
theorem cal_listDK {g : Gx} : CalO g (fun xs H Q => ∃ (a : Addr) (kvs : List (Key × V)), xs = [.ref a] ∧ Rd H a (.dK kvs) ∧ ∀ p, H p = none → Q (.ref p) (upd H p (.lst (kvs.map fun kv => kV kv.1)))) oListDK := fun H M vs ds d Q tr ks ho q => by
  unfold oListDK at ho
  split at ho
  · split at ho
    · rename_i h
      cases ho
      obtain ⟨v, rfl, s⟩ := shals1 ks
      obtain ⟨a, kk, ws, rfl, rfl, hr, hl, rv⟩ := dic_dK s h
      exact ⟨a, _, rfl, hr, fun p hp => q p _ hp (.lst upd_same (rvs_keys kk ws hl))⟩
    · cases ho
  · cases ho
section
variable {X : Cx} {C : Ac} {W : WX} {Γ Γ0 Γ1 Γ2 Γ3 Γ' Γb : List Nat} {fr fr1 fr2 fr3 : Bool} {e a b c tg : Expr} {es elts : List Expr} {f h k : Env → R D} {p pos pos' apos cpos p2 np tpos : Pos} {f2 : Env → R (D × D)}
theorem se_dget (hu : X.A.units + 1 < cLine) (h2 : S2 X C W Γ a b Γ' f2) (hs : NoSl b := by exact fun _ _ => rfl) : SE X C W Γ (.Subscript a b pos) Γ' false (m2 dgetD f2) := by
  obtain ⟨ta, tb, pa, pb, hx⟩ := h2.ex
  exact ⟨peImp (pe_dget hu pa pb hs) fun _ _ _ p => m2_tE (r := rGetDK) dget_ok hx p⟩
/-- {} -/
theorem se_dnew : SE X C W Γ (.Dict [] [] pos) Γ true (mC (.dic [] [])) := ⟨peImp pe_dnewK fun σ H Q ⟨hid, ρ, S, p⟩ q hq => by
  have kh := S.holdStp (o := HO.dK []) hq
  refine p (.ref q) _ [q] (S.hold hq) kh (.fr (.dK (ks := []) (vs := []) upd_same rfl .nil)) fun b hb => ?_
  rw [List.mem_singleton.mp hb]; exact S.none_out hq⟩
def gDk (i : Nat) (h : Env → R D) (v : D) (ρ : Env) : Option Env := match ρ.getD i none, h ρ with
  | some (.dic _ _), .ok kd ρ1 => match ρ1.getD i none, toKey kd with
    | some (.dic ks ds), some _ => if ks.all isKD ∧ ks.length < sizeLine then some (ρ1.set i (some (.dic (dPut ks ds kd v).1 (dPut ks ds kd v).2))) else none
    | _, _ => none
  | _, _ => none
theorem sg_dk (i : Nat) {x : Str} (hu : X.A.units + 1 < cLine) (hb : SE X C W Γ b Γ fr h) (hN : X.N[i]? = some x := by rfl) (hv : Vis X.env.scope x := by first | exact Or.inl rfl | exact Or.inr (Or.inl rfl) | exact Or.inr (Or.inr rfl)) (hi : Γ.contains i = true := by rfl)
    (hd : (x == ("__debug__" : Str)) = false := by decide) (hcd : (x == ("__classdict__" : Str)) = false := by decide)
    (ha : ∀ v, assign (.Subscript (.Name x p) b pos) X.env v = (do
      let ov ← holding [v] (eval (.Name x p) X.env)
      let iv ← holding [v, ov] (eval b X.env)
      standAt pos
      holding [v, ov, iv] (setItem ov iv v)
      release [v, ov, iv] []) := by intro _; rfl) : SG X C Γ (.Subscript (.Name x p) b pos) [] (gDk i h) := ⟨pgImp (pg_sub (pe_var hN hv hd hcd) hb.pe (set_dict hu) ha) fun v σ H Q ⟨hid, ρ, d, ρ', S, r, e, q⟩ => by
  obtain ⟨d0, e1, e2, c0⟩ := own_at S hi
  refine ⟨_, e2, hid, ρ, S, ?_⟩
  unfold gDk at e
  split at e
  · rename_i kd ρ1 _ q2
    rw [q2]
    intro y H2 tm S2 k2 va t2
    split at e
    · rename_i ks ds kk e3 e4
      split at e
      · rename_i hk
        cases e
        have S3 := S2.forget (fun a ha => List.mem_append_right _ ha) S.sub
        have sub : ∀ b ∈ Ms σ hid Γ, b ∈ Ms σ (tm ++ hid) Γ := Ms_subH fun a ha => List.mem_append_right _ ha
        have k3 : Stp (Ms σ hid Γ) (Ms σ hid Γ) hid H H2 := ⟨k2.le.trans (.of_same (mask_sub sub)), k2.fx⟩
        obtain ⟨d1, f1, _, c2⟩ := own_at S3 hi
        rw [e3] at f1
        cases f1
        have ek := toKey_kD e4
        subst ek
        have ey := kV_of va.shal0
        subst ey
        have hsh := c2.shal
        cases c2 with
        | @dK kl us _ h hl r1 =>
          obtain ⟨kl', us', h1, h2, h3, h4⟩ := putK_zip kk v d (r.mono k3.le) kl us _ r1 hl
          refine ⟨_, _, rfl, .inl ⟨_, kk, h, rfl, ?_, rfl⟩, ?_⟩
          · rw [List.length_zip, ← hl, Nat.min_self]
            have := hk.2
            rwa [List.length_map] at this
          · rw [h1]
            exact q σ _ (S3.change (List.contains_iff_mem.mp hi) (by rw [h3]; exact .dK upd_same h2 h4)) (k3.trans (S3.changeStp (List.contains_iff_mem.mp hi)) fun _ z => z) (.refl _ _)
        | @dT kl us _ h hl r1 n => exact absurd (rvs_keysT (H := H2) us kl hk.1) n
      · cases e
    · cases e
  · cases e⟩
/-- self.f = e, self an owned object -/
def putD (f : Str) (d : D) : List Str → List D → List Str × List D
  | n :: ns, e :: ds => if n = f then (n :: ns, d :: ds) else (n :: (putD f d ns ds).1, e :: (putD f d ns ds).2)
  | _, _ => ([f], [d])
theorem putF_zip {g : Gx} {Hm : Hp} {fn : Str} {d : D} {v : V} (r : RV g Hm d v) : ∀ (ns : List Str) (ds : List D) (vs : List V), RVs g Hm ds vs → ns.length = vs.length → ∃ vs' : List V, putF fn v (ns.zip vs) = (putD fn d ns ds).1.zip vs' ∧ (putD fn d ns ds).1.length = vs'.length ∧ RVs g Hm (putD fn d ns ds).2 vs'
  | [], _, [], .nil, _ => ⟨[v], rfl, rfl, .cons r .nil⟩
  | [], _, _ :: _, _, h => by simp at h
  | n :: ns, _, [], _, h => by simp at h
  | n :: ns, _, u :: vs, .cons (d := e) (ds := ds) q t, h => by
    rw [List.zip_cons_cons, putF, putD]
    by_cases z : n = fn
    · rw [if_pos z, if_pos z]
      exact ⟨v :: vs, rfl, by simpa using h, .cons r t⟩
    · rw [if_neg z, if_neg z]
      obtain ⟨vs', h1, h2, h3⟩ := putF_zip r ns ds vs t (by simpa using h)
      exact ⟨u :: vs', by rw [h1]; rfl, by simp [h2], .cons q h3⟩
def mFldS (i : Nat) (cn fn : Str) (h : Env → R D) : Env → R Fl := fun ρ => (h ρ).bind fun d ρ1 => match ρ1.getD i none with
  | some (.obj c ns ds) => if c = cn ∧ ns.length < 1000 then .ok .nx (ρ1.set i (some (.obj c (putD fn d ns ds).1 (putD fn d ns ds).2))) else .bad
  | _ => .bad
theorem ss_fld (i : Nat) {x cn fn : Str} (A : At X.K C.ct cn fn) (hv : SE X C W Γ e Γ' false h) (hN : X.N[i]? = some x := by rfl) (hvi : Vis X.env.scope x := by first | exact Or.inl rfl | exact Or.inr (Or.inl rfl) | exact Or.inr (Or.inr rfl)) (hi : Γ'.contains i = true := by rfl)
    (hd : (x == ("__debug__" : Str)) = false := by decide) (hcd : (x == ("__classdict__" : Str)) = false := by decide) (hs : swapsWith e (some (.Attribute (.Name x p) fn pos')) pos.line X.env = pure false := by rfl) : SS X C W Γ (.Assign [.Attribute (.Name x p) fn pos'] e pos) Γ' Γb fr (mFldS i cn fn h) :=
  ⟨psImp (ps_fld (pe_var hN hvi hd hcd) hv.pe hs) fun Dn σ H ⟨ρ, S, p⟩ => by
  obtain ⟨Cc, ec, cl, na⟩ := A.ex
  refine ⟨C.hid, ρ, S, ?_⟩
  unfold mFldS at p
  cases q : h ρ with
  | bad => rw [q] at p; exact p
  | exn e ρ' => rw [q] at p; exact fun cls od H' x S' => p cls od σ H' x S'
  | ok d ρ1 =>
    rw [q] at p
    dsimp only [R.bind] at p
    intro v H1 tm S1 k1 va t1
    cases va with
    | fz r _ =>
      obtain ⟨d1, f1, f2, c1⟩ := own_at S1 hi
      refine ⟨_, f2, ?_⟩
      rw [f1] at p
      cases d1 with
      | obj c ns ds =>
        dsimp only at p
        by_cases hc : c = cn ∧ ns.length < 1000
        · rw [if_pos hc] at p
          obtain ⟨rfl, hl⟩ := hc
          cases c1 with
          | @obj C1 dx _ _ us _ ho hct hln rs =>
            have : Cc = C1 := Option.some.inj (ec.symm.trans hct)
            subst this
            obtain ⟨vs', h1, h2, h3⟩ := putF_zip (fn := fn) r ns ds us rs hln
            refine ⟨_, Cc, dx, _, rfl, ho, cl, na, by rw [List.length_zip, ← hln, Nat.min_self]; exact hl, ?_⟩
            rw [h1]
            exact p σ _ (S1.change (List.contains_iff_mem.mp hi) (.obj upd_same ec h2 h3)) (k1.trans (S1.changeStp (List.contains_iff_mem.mp hi)) fun _ z => z)
        · rw [if_neg hc] at p; exact (show False from p).elim
      | _ => exact (show False from p).elim⟩
end
end Ip
namespace Ip
open PySem L2 PySem.Spec PyProof.Rows

/-! ## {k: v for target in iter if ..} -/
def compD (g : D → Env → Option Env) (tst : Env → R Bool) (fk f : Env → R D) (vs : List Nat) : List D → Env → List D → List D → R (List D × List D)
  | [], ρ, ks, acc => .ok (ks, acc) ρ
  | d :: ds, ρ, ks, acc => match g d ρ with
    | none => .bad
    | some ρ1 => match tst ρ1 with
      | .ok true ρ2 => match fk ρ2 with
        | .ok kd ρ3 => match f ρ3 with
          | .ok y ρ4 => if (toKey kd).isSome = true ∧ acc.length < sizeLine then compD g tst fk f vs ds (wipeE ρ4 vs) (dPut ks acc kd y).1 (dPut ks acc kd y).2 else .bad
          | _ => .bad
        | _ => .bad
      | .ok false ρ2 => compD g tst fk f vs ds (wipeE ρ2 vs) ks acc
      | _ => .bad
def mDc (fi : Env → R (List D)) (g : D → Env → Option Env) (tst : Env → R Bool) (fk f : Env → R D) (vs : List Nat) : Env → R D := fun ρ => (fi ρ).bind fun ds ρ1 => match compD g tst fk f vs ds (wipeE ρ1 vs) [] [] with
  | .ok acc ρ2 => .ok (.dic acc.1 acc.2) (restE ρ1 ρ2 vs)
  | _ => .bad
theorem dc_it {J : It} {n : Nat} {G : Hp → Prop} {Y : Nat → Hp → V → Hp → Prop} (w : Walk J n G Y) {g : TG} {tt : TT} {tk te : TE} {vs : List Nat} {σ : L2.St} {H1 : Hp} {D : Addr} {Qd : Hp → Prop} (Pv : Nat → Hp → Prop) (h0 : Pv 0 (upd H1 D (.dK []))) (hG : ∀ i H, i ≤ n → Pv i H → G H)
    (hs : ∀ i x H H', i < n → Pv i H → Y i H x H' → g x (wipe σ vs) H' fun σ2 H2 => wipe σ2 vs = wipe σ vs ∧ tt σ2 H2 fun b H3 =>
      if b = true then tk σ2 H3 fun y H4 => te σ2 H4 fun z H5 => ∃ kvs k, y = kV k ∧ H5 D = some (.dK kvs) ∧ kvs.length < sizeLine ∧ Pv (i + 1) (upd H5 D (.dK (putK kvs k z))) else Pv (i + 1) H3) (hd : ∀ H, Pv n H → Qd H) :
    ∃ W : Nat → Nat → Hp → Prop, (∃ m, W 0 m (upd H1 D (.dK []))) ∧ ∀ i m H, W i m H →
      (J.stop i H ∧ Qd H) ∨ (J.go i H ∧ ∃ Nx : Hp → Prop, (∀ H', Nx H' → ∃ m', m' < m ∧ W (i + 1) m' H') ∧ ∀ x H', J.yld i H x H' → g x (wipe σ vs) H' fun σ2 H2 => wipe σ2 vs = wipe σ vs ∧ tt σ2 H2 fun b H3 =>
        if b = true then tk σ2 H3 fun y H4 => te σ2 H4 fun z H5 => ∃ kvs k, y = kV k ∧ H5 D = some (.dK kvs) ∧ kvs.length < sizeLine ∧ Nx (upd H5 D (.dK (putK kvs k z))) else Nx H3) := by
  refine ⟨fun i m H => m = n - i ∧ i ≤ n ∧ Pv i H, ⟨n, by simp, Nat.zero_le _, h0⟩, fun i m H ⟨em, hi, p⟩ => ?_⟩
  subst em
  by_cases hlt : i < n
  · exact .inr ⟨w.goes i H hlt (hG i H hi p), Pv (i + 1), fun H' p' => ⟨n - (i + 1), by omega, rfl, hlt, p'⟩, fun x H' y => hs i x H H' hlt p (w.yields i H x H' hlt (hG i H hi p) y)⟩
  · have e : i = n := by omega
    subst e
    exact .inl ⟨w.stops H (hG _ H hi p), hd H p⟩
section
variable {X : Cx} {C : Ac} {W : WX} {Γ Γ0 Γ1 Γ2 Γ3 Γ' Γb : List Nat} {fr fr1 fr2 fr3 : Bool} {e a b c tg iter elt kx vx : Expr} {es ifs : List Expr} {ts : List Nat} {f fk h k : Env → R D} {frk : Bool} {g : D → Env → Option Env} {tst : Env → R Bool} {p pos apos cpos p2 : Pos} {fi : Env → R (List D)} {scope : Scope} {own : List (Str × Nat)}
/-- the new dict D stands beside -/
theorem dc_ok (hv : ∀ i ∈ Γ, i ∉ own.map (·.2)) (ht : ∀ i ∈ ts, i ∈ own.map (·.2)) {σ : L2.St} {H : Hp} {Q : VK} (p : tE X.K C W Γ0 Γ true (mDc fi g tst fk f (own.map (·.2))) σ H Q) :
    tDc (fun σ H Q => ∃ hid ρ, ST X.K C hid Γ0 ρ σ H ∧ PostI X.K C W Γ0 Γ hid σ H Q (fi ρ)) (tG X.K C Γ ts g) (tT X.K C Wn Γ Γ tst) (tE X.K C Wn Γ Γ frk fk) (tE X.K C Wn Γ Γ fr f) (own.map (·.2)) σ H Q := by
  obtain ⟨hid, ρ, S, p⟩ := p
  refine ⟨hid, ρ, S, ?_⟩
  unfold mDc at p
  cases q : fi ρ with
  | bad => rw [q] at p; exact p
  | exn e ρ' => rw [q] at p; exact p
  | ok ds ρ1 =>
    rw [q] at p
    dsimp only [R.bind] at p
    intro J H1 S1 k1 ⟨Gd, Y, w, hG, hY⟩ D hD
    generalize hvs : own.map (·.2) = vs at *
    have kh := S1.holdStp (o := HO.dK []) hD
    have S2 := S1.hold (o := HO.dK []) hD
    have hDn : D ∉ hid := fun z => S1.trk D z hD
    have hDM : D ∈ Ms σ (D :: hid) Γ := mem_Ms.mpr (.inl List.mem_cons_self)
    refine dc_it w (fun i H2 => ∃ (ρ2 : Env) (accD : List Ip.D) (kl : List Key) (acc : List V), ST X.K C (D :: hid) Γ ρ2 (L2.wipe σ vs) H2 ∧ Stp (Ms σ hid Γ) (Ms σ (D :: hid) Γ) hid H1 H2 ∧ H2 D = some (.dK (kl.zip acc)) ∧ kl.length = acc.length ∧ RVs (gx X.K C) (mask H2 (Ms σ (D :: hid) Γ)) accD acc ∧
      PostE X.K C W Γ0 Γ true hid σ H Q (match compD g tst fk f vs (ds.drop i) ρ2 (kl.map kD) accD with | .ok acc ρ2 => .ok (.dic acc.1 acc.2) (restE ρ1 ρ2 vs) | _ => .bad)) ?_ (fun i H2 _ ⟨ρ2, _, _, _, _, k2, _⟩ => hG _ _ k2.le) (fun i x H2 H3 hlt ⟨ρ2, accD, kl, acc, S2, k2, hl, hkl, ra, p2⟩ y => ?_) fun H2 ⟨ρ2, accD, kl, acc, S2, k2, hl, hkl, ra, p2⟩ => ?_
    · refine ⟨wipeE ρ1 vs, [], [], [], S2.wipe hv, kh, upd_same, rfl, .nil, ?_⟩
      rw [List.drop_zero]; exact p
    · have hd : ds[i]? = some ds[i] := List.getElem?_eq_getElem hlt
      rw [List.drop_eq_getElem_cons hlt] at p2
      obtain ⟨sm, rv⟩ := hY i x H2 H3 _ hd (hG _ _ k2.le) y
      have eM : Ms (L2.wipe σ vs) (D :: hid) Γ = Ms σ (D :: hid) Γ := Ms_wipe hv
      have r := rv (Ms σ (D :: hid) Γ) (by rw [← eM]; exact S2.trkM) k2.le
      have S3 := S2.same sm
      have keep : ∀ {A B : Hp}, Same A B → (∀ a ∈ hid, A a ≠ none) → Stp (Ms σ (D :: hid) Γ) (Ms σ (D :: hid) Γ) hid A B := fun {A B} sm tr => ⟨.of_same (mask_keep fun b o _ e => sm b o e), fun a ha => by
        cases z : A a with
        | none => exact absurd z (tr a ha)
        | some o => exact sm a o z⟩
      have k3 : Stp (Ms σ hid Γ) (Ms σ (D :: hid) Γ) hid H1 H3 := k2.trans (keep sm fun a ha => S2.trk a (List.mem_cons_of_mem _ ha)) fun _ z => z
      have hl3 : H3 D = some (.dK (kl.zip acc)) := sm _ _ hl
      have ra3 : RVs (gx X.K C) (mask H3 (Ms σ (D :: hid) Γ)) accD acc := ra.mono (.of_same (mask_keep fun b o _ e => sm b o e))
      unfold compD at p2
      cases q2 : g ds[i] ρ2 with
      | none => simp only [q2] at p2; exact (show False from p2).elim
      | some ρ3 =>
        simp only [q2] at p2
        refine ⟨D :: hid, ρ2, ds[i], ρ3, S3, by rw [eM]; exact r, q2, fun σ4 H4 S4 k4 o4 => ?_⟩
        have ew : L2.wipe σ4 vs = L2.wipe σ vs := by
          rw [wipe_off o4 ht]
          exact wipe_off (ts := vs) ⟨wipe_length .., fun j hj => wipe_out hj⟩ fun _ z => z
        have eM4 : Ms σ4 (D :: hid) Γ = Ms σ (D :: hid) Γ := by rw [← Ms_wipe (σ := σ4) hv, ew, eM]
        refine ⟨ew, D :: hid, ρ3, S4, ?_⟩
        rw [eM, eM4] at k4
        have k4' : Stp (Ms σ hid Γ) (Ms σ (D :: hid) Γ) hid H1 H4 := k3.trans k4 fun a ha => List.mem_cons_of_mem _ ha
        have hl4 : H4 D = some (.dK (kl.zip acc)) := (k4.fx D List.mem_cons_self).trans hl3
        cases q3 : tst ρ3 with
        | bad => simp only [q3] at p2; exact p2
        | exn e ρ' => simp only [q3] at p2; exact (show False from p2).elim
        | ok b ρ4 =>
          simp only [q3] at p2
          intro H5 S5 k5
          rw [eM4] at k5
          have k5' : Stp (Ms σ hid Γ) (Ms σ (D :: hid) Γ) hid H1 H5 := k4'.trans k5 fun a ha => List.mem_cons_of_mem _ ha
          have hl5 : H5 D = some (.dK (kl.zip acc)) := (k5.fx D List.mem_cons_self).trans hl4
          have ra5 : RVs (gx X.K C) (mask H5 (Ms σ (D :: hid) Γ)) accD acc := (ra3.mono k4.le).mono k5.le
          cases b with
          | false =>
            rw [if_neg Bool.false_ne_true]
            refine ⟨wipeE ρ4 vs, accD, kl, acc, by rw [← ew]; exact S5.wipe hv, k5', hl5, hkl, ra5, p2⟩
          | true =>
            rw [if_pos rfl]
            refine ⟨D :: hid, ρ4, S5, ?_⟩
            cases q4 : fk ρ4 with
            | bad => simp only [q4] at p2; exact p2
            | exn e ρ' => simp only [q4] at p2; exact (show False from p2).elim
            | ok kd ρ5 =>
              simp only [q4] at p2
              intro kv H6 tm S6 k6 va t6
              rw [eM4] at k6
              refine ⟨tm ++ (D :: hid), ρ5, S6, ?_⟩
              cases q5 : f ρ5 with
              | bad => simp only [q5] at p2; exact p2
              | exn e ρ' => simp only [q5] at p2; exact (show False from p2).elim
              | ok y ρ6 =>
                simp only [q5] at p2
                intro v H7 tm7 S7 k7 vb t7
                by_cases z : (toKey kd).isSome = true ∧ accD.length < sizeLine
                · rw [if_pos z] at p2
                  obtain ⟨kk, ek⟩ := Option.isSome_iff_exists.mp z.1
                  have e1 := toKey_kD ek
                  subst e1
                  have ekv := kV_of va.shal0
                  have eMm : Ms σ4 (tm ++ (D :: hid)) Γ = Ms σ (tm ++ (D :: hid)) Γ := by
                    have h1 := Ms_wipe (σ := σ4) (hid := tm ++ (D :: hid)) hv
                    rw [ew] at h1
                    rw [← h1, Ms_wipe hv]
                  have S8 := S7.forget (hid' := D :: hid) (fun a ha => List.mem_append_right _ (List.mem_append_right _ ha)) S5.sub
                  have sub1 : ∀ b ∈ Ms σ4 (D :: hid) Γ, b ∈ Ms σ4 (tm7 ++ (tm ++ (D :: hid))) Γ := Ms_subH fun a ha => List.mem_append_right _ (List.mem_append_right _ ha)
                  have kA : Stp (Ms σ (D :: hid) Γ) (Ms σ (D :: hid) Γ) (D :: hid) H5 H7 := by
                    refine ⟨?_, fun a ha => (k7.fx a (List.mem_append_right _ ha)).trans (k6.fx a ha)⟩
                    have z1 := k6.le.trans k7.le
                    refine z1.trans (.of_same (mask_sub ?_))
                    rw [← eM4]; exact sub1
                  have rv7 : RV (gx X.K C) (mask H7 (Ms σ (D :: hid) Γ)) y v := by
                    have h1 := vb.rv (M' := Ms σ4 (tm ++ (D :: hid)) Γ) (Ms_subH fun a ha => List.mem_append_right _ ha) t7
                    rw [← eM4]
                    exact h1.mono (.of_same (mask_sub (Ms_subH fun a ha => List.mem_append_right _ ha)))
                  have hl7 : H7 D = some (.dK (kl.zip acc)) := (kA.fx D List.mem_cons_self).trans hl5
                  have ra7 : RVs (gx X.K C) (mask H7 (Ms σ (D :: hid) Γ)) accD acc := ra5.mono kA.le
                  obtain ⟨kl', us', h1, h2, h3, h4⟩ := putK_zip kk v y rv7 kl acc _ ra7 hkl
                  refine ⟨_, kk, ekv, hl7, by rw [List.length_zip, hkl, Nat.min_self, ← ra7.length]; exact z.2, wipeE ρ6 vs, _, kl', us', ?_, ?_, by rw [h1]; exact upd_same, h2, ?_, by rw [← h3]; exact p2⟩
                  · have S9 := S8.wipe hv
                    rw [ew] at S9
                    exact S9.tmpSet hDn S.sub
                  · exact (k5'.trans kA fun a ha => List.mem_cons_of_mem _ ha).tmpSet hDM hDn
                  · rw [mask_updM hDM]
                    exact h4
                · rw [if_neg z] at p2; exact (show False from p2).elim
    · rw [List.drop_length] at p2
      have S0 := S1.hold (o := HO.dK []) hD
      refine p2 (.ref D) H2 [D] (ST.unwipe S0 S2 hv ?_) (k1.trans k2 fun _ z => z) (.fr (.dK hl hkl ra)) fun b hb => ?_
      · refine HLe.trans (.of_same fun b u e => ?_) k2.le
        obtain ⟨e1, e2⟩ := mask_some e
        have hb : b ≠ D := fun z => e1 (z ▸ hDM)
        rw [upd_ne hb] at e2
        have hm : b ∉ Ms σ hid Γ := fun z => e1 (Ms_subH (hid := D :: hid) (fun a ha => List.mem_cons_of_mem _ ha) b z)
        rw [mask_out hm]
        exact e2
      · rw [List.mem_singleton.mp hb]; exact S1.none_out hD
theorem se_dc {ρs : List Nat} (hc : X.calm = true) (hN : X.N.Nodup) (ok : BlkOk X.N X.env.scope scope own) (hi : SI X C W Γ0 tg iter Γ fi) (hg : ∀ (s : Shared) (H : Hp) (Cc : Addr) (cl : List (Str × Addr)) (fp : List Addr), SG (X.blk s H scope (compEnvC scope cl Cc X.env) fp) C Γ tg ts g)
    (ht : ∀ (s : Shared) (H : Hp) (Cc : Addr) (cl : List (Str × Addr)) (fp : List Addr), SPs (X.blk s H scope (compEnvC scope cl Cc X.env) fp) C Wn Γ ifs Γ tst) (hk : ∀ (s : Shared) (H : Hp) (Cc : Addr) (cl : List (Str × Addr)) (fp : List Addr), SE (X.blk s H scope (compEnvC scope cl Cc X.env) fp) C Wn Γ kx Γ frk fk)
    (he : ∀ (s : Shared) (H : Hp) (Cc : Addr) (cl : List (Str × Addr)) (fp : List Addr), SE (X.blk s H scope (compEnvC scope cl Cc X.env) fp) C Wn Γ vx Γ fr f)
    (hρ : ρs = own.map (·.2) := by rfl) (hv : (Γ.all fun i => !ρs.contains i) = true := by rfl) (hts : (ts.all fun i => ρs.contains i) = true := by rfl) (hs : ∀ x, foldedSetIterable iter X.env x = pure x := by intro _; rfl) : SE X C W Γ0 (.DictComp kx vx [⟨tg, iter, ifs, 0⟩] scope pos) Γ true (mDc fi g tst fk f ρs) := by
  subst hρ
  exact ⟨peImp (pe_dc hc hN hi.pi ok (fun s H Cc cl fp => (hg s H Cc cl fp).pg) (fun s H Cc cl fp => (ht s H Cc cl fp).pt) (fun s H Cc cl fp => (hk s H Cc cl fp).pe) (fun s H Cc cl fp => (he s H Cc cl fp).pe) hs) fun σ H Q p =>
    dc_ok (fun i hi z => by have := List.all_eq_true.mp hv i hi; rw [List.contains_iff_mem.mpr z] at this; cases this) (fun i hi => List.contains_iff_mem.mp (List.all_eq_true.mp hts i hi)) p⟩
end
end Ip
namespace Ip
open PySem L2 PySem.Spec PyProof.Rows

/-! ## list(reversed(x)) -/
section
variable {prog : Program} {w : World} {A : Around} {E : Value → Shared → Prop} {s : Shared}
theorem list_of_rev {it l : Addr} {items : Array Value} {Q : Value → Shared → Prop} (hh : A.handled = none) (hit : s.heap.IsRevIter it l ((items.size : Int) - 1)) (hl : s.heap.IsList l items) (hne : l ≠ it) (hn : items.size ≤ sizeLine)
    (hQ : ∀ (h' : Heap) (tk : Nat) (acc : Array Value) (c : Nat), (∀ b o, b ≠ it → s.heap.get? b = some o → h'.get? b = some o) → h'.get? s.heap.objs.size = some { cls := .type "list", dict := none, data := .seq acc c, slots := #[] } →
      ItemsOf (fun i v => items[items.size - 1 - i]? = some v) acc items.size → Q (.ref s.heap.objs.size) { s with heap := h', toks := tk }) : wpAny (model prog w) A (call (.type "list") [.ref it]) Q E s := by
  have W := (Walks.listRev (prog := prog) (w := w) (A := A.in1.in1) hh it l hne items).toS
  obtain ⟨oi, hoi, _⟩ := id hit; obtain ⟨ol, hol, _⟩ := id hl
  have hSi : s.heap.objs.size ≠ it := Nat.ne_of_gt (Heap.lt_size hoi)
  have hSl : s.heap.objs.size ≠ l := Nat.ne_of_gt (Heap.lt_size hol)
  have hSf : s.heap.objs.size ∉ [it, l] := by simp [hSi, hSl]
  refine callType_codes (Q₁ := fun ob s1 => ob = .ref s.heap.objs.size ∧ s1 = { s with heap := s.heap.push { cls := .type "list", data := .seq #[] } }) PySem.F.called_list (PySem.F.typeCall_list_1 _) PySem.F.entry_list_init (code_list_new _ ⟨rfl, rfl⟩) fun ob s1 ⟨e1, e2⟩ => ?_
  subst e1; subst e2
  have hS0 : (s.heap.push { cls := .type "list", data := .seq #[] }).get? s.heap.objs.size = some { cls := .type "list", data := .seq #[] } := Heap.get?_push_size _ rfl
  refine ⟨⟨_, hS0, rfl⟩, PySem.F.args_list_init_2 _ _, ?_⟩
  show wpAny _ A.in1.in1 (do let old ← Builtin.List.listItems (.ref s.heap.objs.size); Builtin.List.listUpdate (.ref s.heap.objs.size) (fun _ => #[]); letGo old.toList.reverse; Builtin.List.listExtendWith (.ref s.heap.objs.size) (.ref it) .none) _ _ _
  refine wpAny_bind ?_
  unfold Builtin.List.listItems
  refine wpAny_bind (wpAny_seqItems hS0 rfl (wpAny_pure ?_))
  show wpAny _ A.in1.in1 (updateSeq s.heap.objs.size (fun _ => #[]) >>= fun _ => letGo (#[] : Array Value).toList.reverse >>= fun _ => Builtin.List.listExtendWith (.ref s.heap.objs.size) (.ref it) .none) _ _ _
  refine wpAny_bind (wpAny_updateSeq hS0 rfl (wpAny_bind (wpAny_letGo ?_)))
  have hS2 := Heap.get?_update_self (Obj.mapSeq (fun _ => (#[] : Array Value))) hS0 rfl
  have kp : ∀ b o, b ≠ s.heap.objs.size → s.heap.get? b = some o → ((s.heap.push { cls := .type "list", data := .seq #[] }).update s.heap.objs.size (Obj.mapSeq (fun _ => (#[] : Array Value)))).get? b = some o := fun b o hb e => (Heap.get?_update_other _ _ (Ne.symm hb)).trans (Heap.get?_push_of_some _ e)
  generalize hg : ((s.heap.push { cls := .type "list", data := .seq #[] }).update s.heap.objs.size (Obj.mapSeq (fun _ => (#[] : Array Value)))) = h2 at hS2 kp ⊢
  have hit2 : h2.IsRevIter it l ((items.size : Int) - 1) := hit.at fun o e => kp it o (Ne.symm hSi) e
  have hl2 : h2.IsList l items := by obtain ⟨o, e, r⟩ := hl; exact ⟨o, kp l o (Ne.symm hSl) e, r⟩
  have hT : ({ s with heap := h2 } : Shared).TypeIs (.ref it) "list_reverseiterator" := Heap.IsRevIter.typeIs (s := { s with heap := h2 }) hit2
  have hsm : Builtin.List.listSameRef (.ref s.heap.objs.size) (.ref it) = false := by simp [Builtin.List.listSameRef, hSi]
  unfold Builtin.List.listExtendWith
  refine wpAny_bind (wpAny_typeOf hT ?_); rw [if_neg (by rw [hsm]; decide)]
  refine wpAny_bind (wpAny_pyIter_revIter (s := { s with heap := h2 }) hit2 (wpAny_bind (wpAny_holding ?_)))
  unfold Builtin.List.listLengthHint
  refine wpAny_bind (wpAny_specialOf hT RT.nolen_lri ?_)
  show wpAny _ A.in1.in1 (specialOf (Value.ref it) (Str.ofString "__length_hint__") >>= _) _ _ _
  refine wpAny_bind (wpAny_specialOf hT RT.hint_lri ?_); generalize hid : ("list_reverseiterator.__length_hint__" : String) = id0
  wp_delta
  rw [show splitId id0 = some ("list_reverseiterator", "__length_hint__") from by subst hid; decide +kernel]; subst hid
  refine wpAny_bind (wpAny_isInstance (b := true) hT (by rw [isSubtype_type]; kernel_rfl) (wpAny_pure ?_)); rw [if_neg (by decide)]
  have e0 : ((items.size : Nat) : Int) - 1 - ((0 : Nat) : Int) = (items.size : Int) - 1 := by omega
  refine wpAny_pure ⟨plainId_quiet PySem.F.plain_extend_loop _, codeAny_extend_loopS W hn _ hSf _ items.size 0 _ _ _ rfl (Nat.zero_le _) ⟨Nat.zero_le _, by rw [e0]; exact hit2, hl2⟩ hS2 (ItemsOf.nil _) fun s' acc' c' hm hS' hacc => ?_⟩
  rw [Moved.eq_with hm]
  refine ⟨rfl, hQ s'.heap s'.toks acc' c' (fun b o hb e => hm.heap b o (fun hmem => ?_) (kp b o (Nat.ne_of_lt (Heap.lt_size e)) e)) hS' hacc⟩
  rcases List.mem_cons.mp hmem with z | z
  · exact absurd (Heap.lt_size e) (by rw [z]; exact Nat.lt_irrefl _)
  · exact hb (List.mem_singleton.mp z)
end
theorem vals_back {xs : List V} {its : List Value} {acc : Array Value} (r : Vals xs its) (h : ItemsOf (fun i v => its.toArray[its.toArray.size - 1 - i]? = some v) acc its.toArray.size) : Vals xs.reverse acc.toList := by
  have e : acc.toList = its.reverse := by
    refine List.ext_getElem? fun j => ?_
    have hz : acc.toList.length = its.length := by rw [Array.length_toList, h.1, List.size_toArray]
    by_cases hj : j < its.length
    · have q := h.2 j acc.toList[j] (by rw [← Array.getElem?_toList]; exact List.getElem?_eq_getElem (by omega))
      rw [List.getElem?_eq_getElem (by omega), List.getElem?_reverse hj, ← q]
      simp
    · rw [List.getElem?_eq_none (by omega), List.getElem?_eq_none (by rw [List.length_reverse]; omega)]
  rw [e]
  exact r.reverse
section
variable {X : Cx} {C : Ac} {W : WX} {Γ Γ' : List Nat} {fr : Bool} {e : Expr} {f : Env → R D} {p pos p2 pos2 : Pos}
def revD : D → Option D
  | .lst ds => some (.lst ds.reverse)
  | _ => none
theorem pe_listRev {te : TE} (hc : X.calm = true) (hm : X.mg "list" = none) (hm2 : X.mg "reversed" = none) (he : PE X e te) (hg : Gl X "list") (hg2 : Gl X "reversed") (hs : starEach [e] X.env = (false, eval e X.env) :: starEach [] X.env)
    (hs2 : starEach [.Call (.Name "reversed" p2) [e] [] pos2] X.env = (false, eval (.Call (.Name "reversed" p2) [e] [] pos2) X.env) :: starEach [] X.env) :
    PE X (.Call (.Name "list" p) [.Call (.Name "reversed" p2) [e] [] pos2] [] pos) fun σ H Q => te σ H fun v H1 => ∃ (a : Addr) (xs : List V), v = .ref a ∧ SqL X.K H1 a xs ∧ ∀ q, H1 q = none → Q (.ref q) (upd H1 q (.lst xs.reverse)) := ⟨fun pins s σ H Q I h => by
  refine Call_ (ld_blt I hg hm PyProof.Rows.boot_list (PyProof.Rows.callWith_type1 (args_cons (Call_ (ld_blt I hg2 hm2 PyProof.Rows.boot_reversed (PyProof.Rows.callWith_type1 (args_cons (thn (he.run pins s σ H _ I h) fun u s1 ⟨v, H1, I1, r1, a, xs, ev, hq, q⟩ => args_nil ?_) hs) hs rfl))) hs2) hs2 rfl))
  subst ev; cases r1
  obtain ⟨its, rv, pl, hz⟩ := I1.list hq
  refine call_reversed_list pl.isList (args_nil ?_)
  have k0 : ∀ b o, s1.heap.get? b = some o → (s1.heap.push (revObj a ((its.toArray.size : Int) - 1))).get? b = some o := fun b o e => Heap.get?_push_of_some _ e
  have I2 : Inv X pins σ H1 { s1 with heap := s1.heap.push (revObj a ((its.toArray.size : Int) - 1)) } := I1.kept (t' := s1.toks) k0
  obtain ⟨f0, f1, f2, f3, f4, f5⟩ := I1.fpOk (H' := H1) (b := s1.heap.objs.size) (Nat.le_refl _) (I1.hok.fresh (Nat.le_refl _))
  obtain ⟨ol, hol, _⟩ := pl.isList
  refine list_of_rev (s := { s1 with heap := s1.heap.push (revObj a ((its.toArray.size : Int) - 1)) }) (I1.ok.hd hc) ⟨_, Heap.get?_push_size _ rfl, rfl, rfl⟩ (pl.isList.push _) (Nat.ne_of_lt (Heap.lt_size hol)) (by rw [List.size_toArray, ← rv.length]; exact hz) fun h' tk acc c hk hS hi => ?_
  have I3 : Inv X pins σ H1 { s1 with heap := h', toks := tk } := I2.turned (t' := tk) (fun b o hb e => hk b o hb e) f0 f1 f3 f4 f5
  have hfr : H1 (s1.heap.push (revObj a ((its.toArray.size : Int) - 1))).objs.size = none := I2.hok.fresh (Nat.le_refl _)
  have I4 : Inv X pins σ (upd H1 (s1.heap.push (revObj a ((its.toArray.size : Int) - 1))).objs.size (.lst xs.reverse)) { s1 with heap := h', toks := tk } := by
    refine I2.turnedNew (t' := tk) (ch := [s1.heap.objs.size]) (fun b o hb e => hk b o (by simpa using hb) e) (fun b hb => ?_) (Nat.le_refl _) ⟨by rw [List.length_reverse]; exact hz, acc.toList, c, vals_back rv hi, by rw [Array.toArray_toList]; exact hS⟩
    rw [List.mem_singleton.mp hb]
    exact ⟨f0, f1, f2, f3, f4, f5⟩
  exact ⟨.ref (s1.heap.push (revObj a ((its.toArray.size : Int) - 1))).objs.size, _, I4, rfl, q _ hfr⟩⟩
theorem se_listRev (hc : X.calm = true) (ha : SE X C W Γ e Γ' fr f) (hm : X.mg "list" = none) (hm2 : X.mg "reversed" = none) (hg : Gl X "list" := by rfl) (hg2 : Gl X "reversed" := by rfl) (hs : starEach [e] X.env = (false, eval e X.env) :: starEach [] X.env := by rfl)
    (hs2 : starEach [.Call (.Name "reversed" p2) [e] [] pos2] X.env = (false, eval (.Call (.Name "reversed" p2) [e] [] pos2) X.env) :: starEach [] X.env := by rfl) : SE X C W Γ (.Call (.Name "list" p) [.Call (.Name "reversed" p2) [e] [] pos2] [] pos) Γ' true (mUn revD f) := ⟨peImp (pe_listRev hc hm hm2 ha.pe hg hg2 hs hs2) fun σ H Q ⟨hid, ρ, S, p⟩ => by
  refine ⟨hid, ρ, S, ?_⟩
  unfold mUn at p
  cases q : f ρ with
  | bad => rw [q] at p; exact p
  | exn e ρ' => rw [q] at p; exact p
  | ok d ρ1 =>
    rw [q] at p
    dsimp only [R.bind] at p
    intro v H1 tm S1 k1 va t1
    cases d with
    | lst ds =>
      have sh := va.shal0
      cases sh with
      | lst h r => exact ⟨_, _, rfl, h, fun q hq => fin_fr p S.sub S1 k1 q _ hq (.lst upd_same r.reverse)⟩
    | _ => exact (show False from p).elim⟩
end
/-! ## defs by their data -/
theorem def_okD {P : Program} {w : World} {K : PySem.W.Frag} {mg : Str → Option Value} {base : Heap} {x qual : Str} {pr : Arguments} {bd : List Stmt} {sc : Scope} {f : Addr} {fd : FuncData} {N ps : List Str} {k n : Nat} {io : List Nat} {fr : Bool} {ct : Str → Option Addr} {sem : Env → R Fl}
    (F : FunD K x qual pr bd sc [] [] f fd) (S : FnScope N ps sc) (hn : n = ps.length)
    (hb : ∀ (cdv : Value) (A : Around) (outer : List PySem.Env) (s : Shared) (H : Hp) (E : XK) (hid ioA : List Addr), Room k (A.deeper (envOfC qual sc s.heap.objs.size f cdv)) →
      SSs (cxOf (L2.CX P w) P w K mg base N qual sc f cdv A outer s H E) ⟨ct, H, hid, io, ioA⟩ (fun cls od _ H' => E cls od H') io bd io [] fr sem) :
    FnOk P w K mg base (L2.CX P w) (k + 1) f fd ps (spF K ct n io fr (fnSem N.length io sem)) := by
  refine F.ok S (spF_len hn) fun cdv A outer s H vs Q E hr h => ?_
  refine body_sp (X := cxOf (L2.CX P w) P w K mg base N qual sc f cdv A outer s H E) (W := fun cls od _ H' => E cls od H') rfl (fun _ _ _ _ h => h) (fun hid ioA => hb cdv A outer s H E hid ioA hr) ?_ h
  have := congrArg List.length S.pre
  rw [List.length_take] at this
  omega
theorem cx_takes {P : Program} {w : World} {K : PySem.W.Frag} {mg : Str → Option Value} {base : Heap} {qual : Str} {sc : Scope} {f : Addr} {N : List Str} {cdv : Value} {A : Around} {outer : List PySem.Env} {s : Shared} {H : Hp} {E : XK} : Takes (cxOf (L2.CX P w) P w K mg base N qual sc f cdv A outer s H E) (fun cls od _ H' => E cls od H') := takes_of rfl rfl rfl rfl
theorem cx_own {P : Program} {w : World} {K : PySem.W.Frag} {mg : Str → Option Value} {base : Heap} {qual : Str} {sc : Scope} {f : Addr} {N : List Str} {cdv : Value} {A : Around} {outer : List PySem.Env} {s : Shared} {H : Hp} {E : XK} : PassesOwn (model P w) (A.deeper (envOfC qual sc s.heap.objs.size f cdv)) (cxOf (L2.CX P w) P w K mg base N qual sc f cdv A outer s H E).env (cxOf (L2.CX P w) P w K mg base N qual sc f cdv A outer s H E).xe := passes_of (X := cxOf (L2.CX P w) P w K mg base N qual sc f cdv A outer s H E) rfl
theorem takes_no {X : Cx} (h : X.xe = fun _ _ => False) : Takes X Wn := fun u s' ⟨a, B, sI, pins, σ, H, cls, d, e, I, nb, up, sky, na, os, ag, w⟩ => (show False from w).elim
end Ip
namespace Ip
open PySem L2 PySem.Spec PyProof.Rows

section
variable {X : Cx} {C : Ac} {W : WX} {Γ Γ0 Γ1 Γ2 Γ3 Γ' Γb : List Nat} {fr fr1 fr2 fr3 : Bool} {e a b c tg : Expr} {es elts : List Expr} {f h k : Env → R D} {p pos pos' apos cpos p2 np tpos : Pos} {f2 : Env → R (D × D)} {st : Stmt} {sts : List Stmt} {fs gs : Env → R Fl}
theorem sp_cmp2 {op : CmpOp} {r : R2} {opD : D → D → Option D} (ho : OpR X (compareOp op) r) (hs : OpS ⟨X.K, C.ct⟩ r opD) (h2 : S2 X C W Γ a b Γ' f2) (hm : behindInMarks op b = false := by rfl) : SP X C W Γ (.Compare a [op] [b] pos) Γ' (mTest (m2 opD f2)) := by
  obtain ⟨ta, tb, pa, pb, hx⟩ := h2.ex
  exact ⟨ptImp (pt_cmpR ho pa pb hm) fun _ _ _ p => m2_tE hs hx (tT_tE p)⟩
theorem sp_chain {op op' : CmpOp} {r r' : R2} {opD opD' : D → D → Option D} (ho : OpR X (compareOp op) r) (ho' : OpR X (compareOp op') r') (hs : OpS ⟨X.K, C.ct⟩ r opD) (hs' : OpS ⟨X.K, C.ct⟩ r' opD') (ha : SE X C W Γ a Γ1 fr1 f) (hb : SE X C W Γ1 b Γ2 fr2 h) (hc : SE X C W Γ2 c Γ3 fr3 k)
    (hk : okG C.io Γ3 Γ2 = true := by rfl) (hm : lastMarks [op, op'] [b, c] = false := by with_unfolding_all rfl) : SP X C W Γ (.Compare a [op, op'] [b, c] pos) Γ3 (mTest (mChain opD opD' f h k)) :=
  ⟨ptImp (pt_chain ho ho' ha.pe hb.pe hc.pe hm) fun _ _ _ p => chain_tE hs hs' hk (tT_tE p)⟩
theorem se_neg (ha : SE X C W Γ a Γ' fr f) : SE X C W Γ (.UnaryOp .USub a pos) Γ' false (mUn negD f) := ⟨peImp (pe_un un_neg ha.pe) fun _ _ _ p => un_tE neg_ok p⟩
/-- let some owned slots go behind a statement -/
theorem ss_let (h1 : SS X C W Γ st Γ1 Γb fr fs) (hk : okG C.io Γ2 Γ1 = true := by rfl) : SS X C W Γ st Γ2 Γb fr fs := ⟨psImp h1.ps fun Dn σ H ⟨ρ, S, p⟩ => by
  refine ⟨ρ, S, ?_⟩
  obtain ⟨h1, h2, h3⟩ := okG_of hk
  cases q : fs ρ with
  | bad => rw [q] at p; exact p
  | exn e ρ' => rw [q] at p; exact p
  | ok d ρ' =>
    rw [q] at p
    cases d with
    | nx => exact fun σ' H' S' k' => p σ' H' (S'.weak h1 h2 h3) (ST.weakStp (K := X.K) k' h1)
    | bk => exact p
    | ct => exact p
    | rt d => exact p⟩
end
theorem room1 {k : Nat} {A : Around} (r : Room k A) : A.units + 1 < cLine := by have := r.un; omega
theorem room64 {k : Nat} {A : Around} (r : Room k A) : A.units + 64 < cLine := by have := r.un; omega
theorem room65 {k : Nat} {A : Around} (r : Room k A) : A.units + 65 < cLine := by have := r.un; omega
theorem one_cls {P : Str → Prop} {c0 : Str} (h : P c0) : ∀ c, [c0].contains c = true → P c := fun c hc => by
  have : c = c0 := by simpa using hc
  rw [this]; exact h
end Ip
namespace Ip
open PySem L2 PySem.Spec PyProof.Rows
theorem suite_ps {X : Cx} {i : Nat} {a : Addr} {e : Expr} {v : V} (j : Nat) {x : Str} {p pos : Pos} (hN : X.N.Nodup) (h : SX X i a e v) (hx : X.N[j]? = some x := by rfl) (hl : Loc X.env.scope x := by first | exact Or.inl rfl | exact Or.inr rfl) (hs : swapsWith e (some (.Name x p)) pos.line X.env = pure false := by rfl)
    (hf : X.fn x = true ∨ X.env.scope.names.lookup x = some .local := by first | exact .inl rfl | exact .inr rfl | assumption) : PSs X [.Assign [.Name x p] e pos] fun Dn σ H => σ[i]? = some (some (.ref a)) ∧ ∀ H', Same H H' → Dn.nx (σ.set j (some v)) H' :=
  pss_one (psImp (ps_set hN hx hl h.pe hs hf) fun Dn σ H q => q)
/-! ## tuple(a text) -/
def rTupS : List V → Hp → VK → Prop := fun xs H Q => ∃ x : Str, xs = [.str x] ∧ x.cps.size ≤ sizeLine ∧ ∀ l, H l = none → Q (.ref l) (upd H l (.tup (x.cps.toList.map fun c => V.str ⟨#[c]⟩)))
theorem call_tupS {X : Cx} (hc : X.calm = true) : CallR X (.type "tuple") rTupS := fun pins s σ H xs us Q I r ⟨x, ex, hz, q⟩ => by
  subst ex
  obtain ⟨u, rfl, t, rfl⟩ := vals1 r
  refine call_tuple_str (I.ok.hd hc) x t (fun h' tk acc hk hi => ?_) hz
  have rv := vals_signs x acc.toList 0 (by have := hi.1; simp [Array.length_toList, this]) fun i v hv => by
    rw [Nat.zero_add]; exact hi.2 i v (by rw [← Array.getElem?_toList]; exact hv)
  rw [List.drop_zero] at rv
  have I1 : Inv X pins σ H { s with heap := h', toks := tk } := I.kept (t' := tk) hk
  refine ⟨.ref _, _, I1.laid (t' := tk) (fun b o e => Heap.get?_push_of_some _ e) (Nat.le_refl _) (o := .tup (x.cps.toList.map fun c => V.str ⟨#[c]⟩)) ⟨by rw [List.length_map, Array.length_toList]; exact hz, acc.toList, rv, ?_⟩, rfl, q _ (I1.hok.fresh (Nat.le_refl _))⟩
  rw [Array.toArray_toList]; exact IsTup.new _ _
def oTupS : List D → Option D
  | [.str x] => ifO (x.cps.size ≤ sizeLine) (.tup (x.cps.toList.map chD))
  | _ => none
theorem cal_tupS {g : Gx} : CalS g rTupS oTupS := fun H M vs ds d Q tr ks ho q => by
  unfold oTupS at ho
  split at ho
  · obtain ⟨hz, rfl⟩ := ifO_some ho
    obtain ⟨v, rfl, s⟩ := shals1 ks
    cases s
    refine ⟨_, rfl, hz, fun l hl => ?_⟩
    have hn : l ∉ M := fun z => tr l z hl
    exact q _ _ (same_upd hl) (.tup (by rw [mask_out hn, upd_same]) (rvs_signs _))
  · cases ho
end Ip
namespace Ip
open PySem L2 PySem.Spec PyProof.Rows
/-! ## the head's facts, with more of the errors' classes -/
def excC (K : PySem.W.Frag) (x : Str) : Bool := decide (PySem.W.findIn K (.ref (He.ga K x)) "__getattribute__" = some (some (.builtin "BaseException.__getattribute__"))) && (decide (PySem.W.findIn K (.ref (He.ga K x)) "__getattr__" = some none) && (decide (PySem.W.subIn K (.ref (He.ga K x)) (.type "BaseException") = some true) &&
  (PySem.W.hasDictIn K (He.ga K x) && (decide (PySem.W.findIn K (.ref (He.ga K x)) "__class__" = some (some (.builtin "object.__class__"))) && (decide (PySem.W.specialIn K (.builtin "object.__class__") "__get__" = some (some (.builtin "getset_descriptor.__get__"))) &&
  (decide (PySem.W.takesIn K (.builtin "object.__class__") = some true) && decide (PySem.W.mroIn K (He.ga K x) (.type "object") = some true)))))))
theorem excC_ok {K : PySem.W.Frag} {x : Str} (h : excC K x = true) : ExcC K (He.ga K x) := by
  simp only [excC, Bool.and_eq_true, decide_eq_true_eq] at h
  obtain ⟨h1, h2, h3, h4, h5, h6, h7, h8⟩ := h
  exact ⟨h1, h2, h3, h4, h5, h6, h7, h8⟩
def kitC (K : PySem.W.Frag) (x y : Str) (b : Bool) : Bool := decide (PySem.W.kitOne K (.ref (He.ga K x)) (.ref (He.ga K y)) = some b)
theorem kitC_ok {K : PySem.W.Frag} {x y : Str} {b : Bool} (h : kitC K x y b = true) : PySem.W.kitOne K (.ref (He.ga K x)) (.ref (He.ga K y)) = some b := of_decide_eq_true h
def obsX (fa : List He.Fa) (fn : List He.DefD) (xs : List (PySem.W.Frag → Bool)) (K : PySem.W.Frag) : He.AlD := (((fa.all fun f => f.ok K) && fn.all fun d => d.ok K) && xs.all fun x => x K, fn.map fun d => He.fnW K d.at_)
def SaysX (fa : List He.Fa) (fn : List He.DefD) (xs : List (PySem.W.Frag → Bool)) (K : PySem.W.Frag) : Prop := obsX fa fn xs K = He.valD fn
def obsXG (n : Nat) (fa : List He.Fa) (fn : List He.DefD) (xs : List (PySem.W.Frag → Bool)) (g : Addr → Option Obj) : He.AlD := obsX fa fn xs (He.frG g (He.asD g n))
def hookX (n : Nat) (fa : List He.Fa) (fn : List He.DefD) (xs : List (PySem.W.Frag → Bool)) : PySem.W.Hook where
  α := He.AlD
  obs := fun s => obsXG n fa fn xs s.heap.get?
  val := fun _ => He.valD fn
  says := fun _ h => ∃ K : PySem.W.Frag, K.In h ∧ SaysX fa fn xs K
  of := fun _ _ e => ⟨_, He.frG_in, e⟩
  keeps := fun _ _ _ ⟨K, hK, c⟩ k => ⟨K, PySem.W.Frag.In.keeps hK k, c⟩
theorem obsXG_eq {n : Nat} {fa : List He.Fa} {fn : List He.DefD} {xs : List (PySem.W.Frag → Bool)} {g : Addr → Option Obj} {s : Shared} (h : ∀ a, g a = s.heap.get? a) : obsXG n fa fn xs g = (hookX n fa fn xs).obs s := by
  rw [show g = s.heap.get? from funext h]; rfl
section
variable {fa : List He.Fa} {fn : List He.DefD} {xs : List (PySem.W.Frag → Bool)} {K : PySem.W.Frag}
theorem SaysX.d (c : SaysX fa fn xs K) : He.SaysD fa fn K := by
  have h1 : (((fa.all fun f => f.ok K) && fn.all fun d => d.ok K) && xs.all fun x => x K) = true := congrArg (fun z : He.AlD => z.1) c
  have h2 : fn.map (fun d => He.fnW K d.at_) = fn.map He.DefD.val := congrArg (fun z : He.AlD => z.2) c
  unfold He.SaysD He.obsD He.valD
  rw [h2, (Bool.and_eq_true_iff.mp h1).1]
theorem SaysX.x (c : SaysX fa fn xs K) (i : Nat) {x : PySem.W.Frag → Bool} (h : xs[i]? = some x := by rfl) : x K = true := by
  have h1 : (((fa.all fun f => f.ok K) && fn.all fun d => d.ok K) && xs.all fun x => x K) = true := congrArg (fun z : He.AlD => z.1) c
  exact List.all_eq_true.mp (Bool.and_eq_true_iff.mp h1).2 x (List.mem_of_getElem? h)
end
/-- the law's promise, from its semantics -/
theorem law_sp {K : PySem.W.Frag} {ct : Str → Option Addr} {F : FSem} {H : Hp} {a : Addr} {ns : List Int} (hF : ∃ outs, F [.lst (ns.map D.int)] = .ok (.bl true) outs) (h : SqL K H a (ns.map V.int)) : spF K ct 1 [] false F [.ref a] H (fun v _ => v = .bl true) fun _ _ _ => False := by
  obtain ⟨outs, e⟩ := hF
  have em : mask H ([] : List Addr) = H := by funext b; exact mask_out (by simp)
  refine ⟨[.lst (ns.map D.int)], [], [], rfl, ⟨rfl, rfl, List.nodup_nil, (fun _ z => nomatch z), (fun _ z => nomatch z), fun i d _ hd => ?_, (fun _ z => nomatch z)⟩, ?_⟩
  · match i, hd with
    | 0, hd => cases hd; exact ⟨_, rfl, .lst (by rw [List.append_nil, em]; exact h) (RVs.ints ns)⟩
  · rw [e]
    intro v H' tm _ va
    exact (val_bl va).1
theorem law_cx {P : Program} {w : World} : ∀ (H : Hp) (s : Shared) (e : Value) (s' : Shared), L2.CX P w [] H s (fun _ _ _ => False) e s' → False := fun _ _ _ _ ⟨_, _, _, _, _, _, _, _, _, _, _, _, z⟩ => z
end Ip
namespace Ip
open PySem L2

/-! ## how the words are reckoned -/
variable {α : Type} {i j n : Nat} {ρ ρ0 ρ1 ρ2 ρ3 : Env} {d x y z : D} {ds es : List D} {f h k : Env → R D} {g : Env → R (List D)} {f2 : Env → R (D × D)} {op op' : D → D → Option D} {c c2 : Env → R Bool} {b : Bool} {fs gs body : Env → R Fl} {r : R Fl} {rd : R D} {gt : D → Env → Option Env} {F : FSem}
theorem ev_c : mC d ρ = .ok d ρ := rfl
theorem ev_var (e : ρ.getD i none = some d) : mVar i ρ = .ok d ρ := by unfold mVar; rw [e]; rfl
theorem ev_pair (e1 : f ρ = .ok x ρ1) (e2 : h ρ1 = .ok y ρ2) : mPair f h ρ = .ok (x, y) ρ2 := by unfold mPair; rw [e1]; dsimp only [R.bind]; rw [e2]
theorem ev_pairO (e1 : h ρ = .ok y ρ2) (e2 : ρ2.getD i none = some x) : mPairO i h ρ = .ok (x, y) ρ2 := by unfold mPairO; rw [e1]; dsimp only [R.bind]; rw [e2]
theorem ev_pairR (e1 : f ρ = .ok x ρ2) (e2 : ρ2.getD i none = some y) : mPairR f i ρ = .ok (x, y) ρ2 := by unfold mPairR; rw [e1]; dsimp only [R.bind]; rw [e2]
theorem ev_m2 (e1 : f2 ρ = .ok (x, y) ρ2) (e2 : op x y = some z) : m2 op f2 ρ = .ok z ρ2 := by unfold m2; rw [e1]; dsimp only [R.bind]; rw [e2]; rfl
theorem ev_un {o : D → Option D} (e1 : f ρ = .ok x ρ2) (e2 : o x = some z) : mUn o f ρ = .ok z ρ2 := by unfold mUn; rw [e1]; dsimp only [R.bind]; rw [e2]; rfl
theorem ev_nil : mNil ρ = .ok [] ρ := rfl
theorem ev_cons (e1 : f ρ = .ok x ρ1) (e2 : g ρ1 = .ok ds ρ2) : mCons f g ρ = .ok (x :: ds) ρ2 := by unfold mCons; rw [e1]; dsimp only [R.bind]; rw [e2]
theorem ev_own (e1 : g ρ = .ok ds ρ2) (e2 : ρ2.getD i none = some x) : mOwn i g ρ = .ok (x :: ds) ρ2 := by unfold mOwn; rw [e1]; dsimp only [R.bind]; rw [e2]
theorem ev_io (e1 : g ρ = .ok ds ρ2) : mIo g ρ = .ok (.non :: ds) ρ2 := by unfold mIo; rw [e1]; rfl
theorem ev_arg {o : List D → Option D} (e1 : g ρ = .ok ds ρ2) (e2 : o ds = some z) : mArg o g ρ = .ok z ρ2 := by unfold mArg; rw [e1]; dsimp only [R.bind]; rw [e2]; rfl
theorem ev_argI {o : List D → Option (List D)} (e1 : g ρ = .ok ds ρ2) (e2 : o ds = some es) : mArgI o g ρ = .ok es ρ2 := by unfold mArgI; rw [e1]; dsimp only [R.bind]; rw [e2]; rfl
theorem ev_seqI (e1 : f ρ = .ok x ρ2) (e2 : asSeq x = some es) : mSeqI f ρ = .ok es ρ2 := by unfold mSeqI; rw [e1]; dsimp only [R.bind]; rw [e2]; rfl
theorem ev_tup (e1 : g ρ = .ok ds ρ2) : mTup g ρ = .ok (.tup ds) ρ2 := by unfold mTup; rw [e1]; rfl
theorem ev_lst (e1 : g ρ = .ok ds ρ2) : mLst g ρ = .ok (.lst ds) ρ2 := by unfold mLst; rw [e1]; rfl
theorem ev_andT (e1 : f ρ = .ok (.bl true) ρ1) (e2 : h ρ1 = rd) : mAndV f h ρ = rd := by unfold mAndV; rw [e1]; exact e2
theorem ev_andF (e1 : f ρ = .ok (.bl false) ρ1) : mAndV f h ρ = .ok (.bl false) ρ1 := by unfold mAndV; rw [e1]; rfl
theorem ev_orT (e1 : f ρ = .ok (.bl true) ρ1) : mOrV f h ρ = .ok (.bl true) ρ1 := by unfold mOrV; rw [e1]; rfl
theorem ev_orF (e1 : f ρ = .ok (.bl false) ρ1) (e2 : h ρ1 = rd) : mOrV f h ρ = rd := by unfold mOrV; rw [e1]; exact e2
theorem ev_notV (e1 : f ρ = .ok (.bl b) ρ1) : mNotV f ρ = .ok (.bl (!b)) ρ1 := by unfold mNotV; rw [e1]; rfl
theorem ev_ite (e1 : c ρ = .ok b ρ1) (e2 : (if b then f ρ1 else h ρ1) = rd) : mIf c f h ρ = rd := by unfold mIf; rw [e1]; exact e2
theorem ev_test (e1 : f ρ = .ok (.bl b) ρ1) : mTest f ρ = .ok b ρ1 := by unfold mTest; rw [e1]; rfl
theorem ev_not (e1 : c ρ = .ok b ρ1) : mNot c ρ = .ok (!b) ρ1 := by unfold mNot; rw [e1]; rfl
theorem ev_tandT (e1 : c ρ = .ok true ρ1) {rb : R Bool} (e2 : c2 ρ1 = rb) : mAnd c c2 ρ = rb := by unfold mAnd; rw [e1]; exact e2
theorem ev_tandF (e1 : c ρ = .ok false ρ1) : mAnd c c2 ρ = .ok false ρ1 := by unfold mAnd; rw [e1]; rfl
theorem ev_torT (e1 : c ρ = .ok true ρ1) : mOr c c2 ρ = .ok true ρ1 := by unfold mOr; rw [e1]; rfl
theorem ev_torF (e1 : c ρ = .ok false ρ1) {rb : R Bool} (e2 : c2 ρ1 = rb) : mOr c c2 ρ = rb := by unfold mOr; rw [e1]; exact e2
theorem ev_chainT (e1 : f ρ = .ok x ρ1) (e2 : h ρ1 = .ok y ρ2) (e3 : op x y = some (.bl true)) (e4 : k ρ2 = .ok z ρ3) (e5 : op' y z = some d) : mChain op op' f h k ρ = .ok d ρ3 := by unfold mChain; rw [e1]; dsimp only [R.bind]; rw [e2]; dsimp only; rw [e3]; dsimp only; rw [e4]; dsimp only; rw [e5]; rfl
theorem ev_chainF (e1 : f ρ = .ok x ρ1) (e2 : h ρ1 = .ok y ρ2) (e3 : op x y = some (.bl false)) : mChain op op' f h k ρ = .ok (.bl false) ρ2 := by unfold mChain; rw [e1]; dsimp only [R.bind]; rw [e2]; dsimp only; rw [e3]
/-! ### statements -/
theorem ev_seq (e1 : fs ρ = .ok .nx ρ1) (e2 : gs ρ1 = r) : mSeq fs gs ρ = r := by unfold mSeq; rw [e1]; exact e2
theorem ev_seqR (e1 : fs ρ = .ok (.rt d) ρ1) : mSeq fs gs ρ = .ok (.rt d) ρ1 := by unfold mSeq; rw [e1]
theorem ev_seqX {e : Ex} (e1 : fs ρ = .exn e ρ1) : mSeq fs gs ρ = .exn e ρ1 := by unfold mSeq; rw [e1]
theorem ev_nx : mNx ρ = .ok .nx ρ := rfl
theorem ev_ifT (e1 : c ρ = .ok true ρ1) (e2 : fs ρ1 = r) : mIfS c fs gs ρ = r := by unfold mIfS; rw [e1]; exact e2
theorem ev_ifF (e1 : c ρ = .ok false ρ1) (e2 : gs ρ1 = r) : mIfS c fs gs ρ = r := by unfold mIfS; rw [e1]; exact e2
theorem ev_if (e1 : c ρ = .ok b ρ1) (e2 : (if b then fs ρ1 else gs ρ1) = r) : mIfS c fs gs ρ = r := by unfold mIfS; rw [e1]; exact e2
theorem ev_ret (e1 : f ρ = .ok d ρ1) : mRet f ρ = .ok (.rt d) ρ1 := by unfold mRet; rw [e1]; rfl
theorem ev_drop (e1 : f ρ = .ok d ρ1) : mDrop f ρ = .ok .nx ρ1 := by unfold mDrop; rw [e1]; rfl
theorem ev_dropX {e : Ex} (e1 : f ρ = .exn e ρ1) : mDrop f ρ = .exn e ρ1 := by unfold mDrop; rw [e1]; rfl
theorem ev_set (e1 : f ρ = .ok d ρ1) (hi : decide (i < ρ1.length) = true) : mSet i f ρ = .ok .nx (ρ1.set i (some d)) := by unfold mSet; rw [e1]; dsimp only [R.bind]; rw [if_pos (of_decide_eq_true hi)]
theorem ev_setO (e1 : f ρ = .ok d ρ1) (hi : decide (i < ρ1.length) = true) (ho : isObj d = true) : mSetO i f ρ = .ok .nx (ρ1.set i (some d)) := by unfold mSetO; rw [e1]; dsimp only [R.bind]; rw [if_pos ⟨of_decide_eq_true hi, ho⟩]
theorem ev_asg (e1 : f ρ = .ok d ρ1) (e2 : gt d ρ1 = some ρ2) : mAsg f gt ρ = .ok .nx ρ2 := by unfold mAsg; rw [e1]; dsimp only [R.bind]; rw [e2]
theorem ev_gIx {ds0 : List D} {q : Int} (e0 : lstO (ρ.getD i none) = some ds0) (e1 : h ρ = .ok (.int q) ρ1) (e2 : lstO (ρ1.getD i none) = some ds) (e3 : ixN ds.length q = some n) : gIx i h d ρ = some (ρ1.set i (some (.lst (ds.set n d)))) := by unfold gIx; rw [e0, e1]; dsimp only; rw [e2]; dsimp only [Option.bind]; rw [e3]; rfl
theorem ev_gDk {ks0 ds0 ks : List D} {kd : D} {kk : Key} (e0 : ρ.getD i none = some (.dic ks0 ds0)) (e1 : h ρ = .ok kd ρ1) (e2 : ρ1.getD i none = some (.dic ks ds)) (e3 : toKey kd = some kk) (e4 : ks.all isKD = true ∧ ks.length < sizeLine) : gDk i h d ρ = some (ρ1.set i (some (.dic (dPut ks ds kd d).1 (dPut ks ds kd d).2))) := by unfold gDk; rw [e0, e1]; dsimp only; rw [e2, e3]; dsimp only; rw [if_pos e4]
theorem ev_call0 {outs : List D} (e1 : g ρ = .ok ds ρ1) (e2 : F ds = .ok d outs) : mCall0 F g ρ = .ok d ρ1 := by unfold mCall0; rw [e1]; dsimp only [R.bind]; rw [e2]; rfl
theorem ev_call0X {e : Ex} {outs : List D} (e1 : g ρ = .ok ds ρ1) (e2 : F ds = .exn e outs) : mCall0 F g ρ = .exn e ρ1 := by unfold mCall0; rw [e1]; dsimp only [R.bind]; rw [e2]; rfl
theorem ev_call1 {p : Nat} {c0 c1 : D} (e1 : g ρ = .ok ds ρ1) (e2 : ρ1.getD i none = some c0) (e3 : F (ds.set p c0) = .ok d [c1]) : mCall1 F p i g ρ = .ok d (ρ1.set i (some c1)) := by unfold mCall1; rw [e1]; dsimp only [R.bind]; rw [e2]; dsimp only; rw [e3]; rfl
theorem ev_lstM {step : List D → List D → Option (D × List D)} {ds0 : List D} {zz : D × List D} (e0 : lstO (ρ.getD i none) = some ds0) (e1 : g ρ = .ok es ρ1) (e2 : lstO (ρ1.getD i none) = some ds) (e3 : step ds es = some zz) : mLstM i step g ρ = .ok zz.1 (ρ1.set i (some (.lst zz.2))) := by unfold mLstM; rw [e0]; dsimp only; rw [e1]; dsimp only [R.bind]; rw [e2]; dsimp only; rw [e3]
theorem ev_strM {o : Str → List D → Option D} {s : Str} (e1 : f ρ = .ok (.str s) ρ1) (e2 : g ρ1 = .ok ds ρ2) (e3 : o s ds = some d) : mStrM o f g ρ = .ok d ρ2 := by unfold mStrM; rw [e1]; dsimp only [R.bind]; rw [e2]; dsimp only; rw [e3]; rfl
theorem ev_rt {io : List Nat} {outs : List D} (e1 : body (env0 n ds) = .ok (.rt d) ρ) (e2 : outsOf io ρ = outs) : fnSem n io body ds = .ok d outs := by subst e2; unfold fnSem; rw [e1]; rfl
theorem ev_fnx {io : List Nat} {outs : List D} (e1 : body (env0 n ds) = .ok .nx ρ) (e2 : outsOf io ρ = outs) : fnSem n io body ds = .ok .non outs := by subst e2; unfold fnSem; rw [e1]; rfl
theorem ev_fnX {io : List Nat} {outs : List D} {e : Ex} (e1 : body (env0 n ds) = .exn e ρ) (e2 : outsOf io ρ = outs) : fnSem n io body ds = .exn e outs := by subst e2; unfold fnSem; rw [e1]; rfl
theorem ev_for {it : Env → R (List D)} (e1 : it ρ = .ok ds ρ1) (e2 : forL (gBody gt body) ds ρ1 = r) : mFor it gt body ρ = r := by unfold mFor; rw [e1]; exact e2
/-- a loop that goes to its end -/
theorem forL_inv {step : D → Env → R Fl} (Inv : Nat → Env → Prop) (hs : ∀ i d ρ, ds[i]? = some d → Inv i ρ → ∃ ρ', (step d ρ = .ok .nx ρ' ∨ step d ρ = .ok .ct ρ') ∧ Inv (i + 1) ρ') (h0 : Inv 0 ρ) : ∃ ρ', forL step ds ρ = .ok .nx ρ' ∧ Inv ds.length ρ' := by
  have key : ∀ (m : Nat) (es : List D) (ρ : Env), es = ds.drop m → m ≤ ds.length → Inv m ρ → ∃ ρ', forL step es ρ = .ok .nx ρ' ∧ Inv ds.length ρ' := by
    intro m es
    induction es generalizing m with
    | nil =>
      intro ρ e hm hi
      have : ds.length ≤ m := by
        have := congrArg List.length e
        rw [List.length_drop] at this
        simp at this; omega
      rw [show ds.length = m by omega]
      exact ⟨ρ, rfl, hi⟩
    | cons d es ih =>
      intro ρ e hm hi
      have hd : ds[m]? = some d := by
        have := congrArg (fun l => l[0]?) e
        simp only [List.getElem?_drop] at this
        simpa using this.symm
      have hes : es = ds.drop (m + 1) := by
        have := congrArg List.tail e
        simpa [List.tail_drop] using this
      obtain ⟨ρ', hq, hi'⟩ := hs m d ρ hd hi
      have hml : m + 1 ≤ ds.length := (List.getElem?_eq_some_iff.mp hd).1
      obtain ⟨ρ2, e2, h2⟩ := ih (m + 1) ρ' hes hml hi'
      refine ⟨ρ2, ?_, h2⟩
      unfold forL
      rcases hq with hq | hq <;> rw [hq] <;> exact e2
  exact key 0 ds ρ (by simp) (Nat.zero_le _) h0
theorem ev_body (e1 : gt d ρ = some ρ1) (e2 : body ρ1 = r) : gBody gt body d ρ = r := by unfold gBody; rw [e1]; exact e2
theorem ev_gNm (hi : decide (i < ρ.length) = true) : gNm i d ρ = some (ρ.set i (some d)) := by unfold gNm; rw [if_pos (of_decide_eq_true hi)]
/-- a comprehension that takes all -/
theorem compL_inv {tst : Env → R Bool} {vs : List Nat} (Inv : Nat → Env → List D → Prop)
    (hs : ∀ i d ρ acc, ds[i]? = some d → Inv i ρ acc → acc.length ≤ i ∧ ∃ ρ1 ρ2 b, gt d ρ = some ρ1 ∧ tst ρ1 = .ok b ρ2 ∧ (b = true → ∃ y ρ3, f ρ2 = .ok y ρ3 ∧ Inv (i + 1) (wipeE ρ3 vs) (acc ++ [y])) ∧ (b = false → Inv (i + 1) (wipeE ρ2 vs) acc)) (hz : ds.length < sizeLine) (h0 : Inv 0 ρ []) :
    ∃ acc ρ', compL gt tst f vs ds ρ [] = .ok acc ρ' ∧ Inv ds.length ρ' acc := by
  have key : ∀ (es : List D) (m : Nat) (ρ : Env) (acc : List D), es = ds.drop m → m ≤ ds.length → Inv m ρ acc → ∃ acc' ρ', compL gt tst f vs es ρ acc = .ok acc' ρ' ∧ Inv ds.length ρ' acc' := by
    intro es
    induction es with
    | nil =>
      intro m ρ acc e hm hi
      have : ds.length ≤ m := by
        have := congrArg List.length e
        rw [List.length_drop] at this
        simp at this; omega
      rw [show ds.length = m by omega]
      exact ⟨acc, ρ, rfl, hi⟩
    | cons d es ih =>
      intro m ρ acc e hm hi
      have hd : ds[m]? = some d := by
        have := congrArg (fun l => l[0]?) e
        simp only [List.getElem?_drop] at this
        simpa using this.symm
      have hes : es = ds.drop (m + 1) := by
        have := congrArg List.tail e
        simpa [List.tail_drop] using this
      have hml : m + 1 ≤ ds.length := (List.getElem?_eq_some_iff.mp hd).1
      obtain ⟨hl, ρ1, ρ2, b, e1, e2, ht, hf⟩ := hs m d ρ acc hd hi
      unfold compL
      rw [e1]; dsimp only; rw [e2]
      cases b with
      | true =>
        obtain ⟨y, ρ3, e3, h3⟩ := ht rfl
        dsimp only; rw [e3]; dsimp only; rw [if_pos (by omega)]
        exact ih (m + 1) _ _ hes hml h3
      | false => exact ih (m + 1) _ _ hes hml (hf rfl)
  exact key ds 0 ρ [] (by simp) (Nat.zero_le _) h0
theorem ev_lc {fi : Env → R (List D)} {tst : Env → R Bool} {vs : List Nat} (e1 : fi ρ = .ok ds ρ1) (e2 : compL gt tst f vs ds (wipeE ρ1 vs) [] = .ok es ρ2) : mLc fi gt tst f vs ρ = .ok (.lst es) (restE ρ1 ρ2 vs) := by unfold mLc; rw [e1]; dsimp only [R.bind]; rw [e2]
theorem ev_yes : mYes ρ = .ok true ρ := rfl
end Ip
namespace Ip
open PySem L2
/-! ## the words' weakest conditions: symbolic execution, one goal at a time -/
def wpx {α : Type} (E : Ex → Env → Prop) (r : R α) (P : α → Env → Prop) : Prop := match r with
  | .ok a ρ => P a ρ
  | .exn e ρ => E e ρ
  | .bad => False
/-- no exception comes -/
abbrev noE : Ex → Env → Prop := fun _ _ => False
abbrev wp {α : Type} (r : R α) (P : α → Env → Prop) : Prop := wpx noE r P
def wo (o : Option D) (ρ : Env) (P : D → Env → Prop) : Prop := match o with
  | some d => P d ρ
  | none => False
/-- a def's answer -/
def wfx (E : Ex → List D → Prop) (r : FR) (P : D → List D → Prop) : Prop := match r with
  | .ok d outs => P d outs
  | .exn e outs => E e outs
  | .bad => False
abbrev noF : Ex → List D → Prop := fun _ _ => False
abbrev wf (r : FR) (P : D → List D → Prop) : Prop := wfx noF r P
theorem wp_of {α : Type} {r : R α} {P : α → Env → Prop} (h : wp r P) : ∃ a ρ, r = .ok a ρ ∧ P a ρ := by
  cases r with
  | ok a ρ => exact ⟨a, ρ, rfl, h⟩
  | exn e ρ => exact h.elim
  | bad => exact h.elim
theorem wf_of {r : FR} {P : D → List D → Prop} (h : wf r P) : ∃ d outs, r = .ok d outs ∧ P d outs := by
  cases r with
  | ok a ρ => exact ⟨a, ρ, rfl, h⟩
  | exn e ρ => exact h.elim
  | bad => exact h.elim
theorem wp_imp {α : Type} {E : Ex → Env → Prop} {r : R α} {P Q : α → Env → Prop} (h : wpx E r P) (i : ∀ a ρ, P a ρ → Q a ρ) : wpx E r Q := by
  cases r with
  | ok a ρ => exact i a ρ h
  | exn e ρ => exact h
  | bad => exact h.elim
theorem wp_impE {α : Type} {E E2 : Ex → Env → Prop} {r : R α} {P Q : α → Env → Prop} (h : wpx E r P) (i : ∀ a ρ, P a ρ → Q a ρ) (ie : ∀ e ρ, E e ρ → E2 e ρ) : wpx E2 r Q := by
  cases r with
  | ok a ρ => exact i a ρ h
  | exn e ρ => exact ie e ρ h
  | bad => exact h.elim
/-- what raises nothing may stand anywhere -/
theorem wp_noE {α : Type} {E : Ex → Env → Prop} {r : R α} {P : α → Env → Prop} (h : wp r P) : wpx E r P := wp_impE h (fun _ _ h => h) fun _ _ h => h.elim
theorem wf_imp {E : Ex → List D → Prop} {r : FR} {P Q : D → List D → Prop} (h : wfx E r P) (i : ∀ a ρ, P a ρ → Q a ρ) : wfx E r Q := by
  cases r with
  | ok a ρ => exact i a ρ h
  | exn e ρ => exact h
  | bad => exact h.elim
theorem wf_impE {E E2 : Ex → List D → Prop} {r : FR} {P Q : D → List D → Prop} (h : wfx E r P) (i : ∀ a ρ, P a ρ → Q a ρ) (ie : ∀ e ρ, E e ρ → E2 e ρ) : wfx E2 r Q := by
  cases r with
  | ok a ρ => exact i a ρ h
  | exn e ρ => exact ie e ρ h
  | bad => exact h.elim
theorem wp_bind {α β : Type} {E : Ex → Env → Prop} {r : R α} {k : α → Env → R β} {P : β → Env → Prop} (h : wpx E r fun a ρ => wpx E (k a ρ) P) : wpx E (r.bind k) P := by
  cases r with
  | ok a ρ => exact h
  | exn e ρ => exact h
  | bad => exact h.elim
section
variable {E : Ex → Env → Prop} {i j n : Nat} {ρ : Env} {d x y z : D} {f h k : Env → R D} {g : Env → R (List D)} {f2 : Env → R (D × D)} {op op' : D → D → Option D} {c c2 : Env → R Bool} {b : Bool} {fs gs body : Env → R Fl} {gt : D → Env → Option Env} {F : FSem} {P : D → Env → Prop} {PL : List D → Env → Prop} {PB : Bool → Env → Prop} {PS : Fl → Env → Prop} {P2 : D × D → Env → Prop}
theorem wo_ofO {o : Option D} (w : wo o ρ P) : wpx E (ofO ρ o) P := by cases o with | none => exact w.elim | some d => exact w
theorem w_c (w : P d ρ) : wpx E (mC d ρ) P := w
theorem w_var (e : ρ.getD i none = some d) (w : P d ρ) : wpx E (mVar i ρ) P := by unfold mVar; rw [e]; exact w
theorem w_pair (w : wpx E (f ρ) fun x ρ1 => wpx E (h ρ1) fun y ρ2 => P2 (x, y) ρ2) : wpx E (mPair f h ρ) P2 := wp_bind (wp_imp w fun x ρ1 w1 => wp_bind w1)
theorem w_pairO (w : wpx E (h ρ) fun y ρ2 => ∃ x, ρ2.getD i none = some x ∧ P2 (x, y) ρ2) : wpx E (mPairO i h ρ) P2 := wp_bind (wp_imp w fun y ρ2 ⟨x, e, w1⟩ => by rw [e]; exact w1)
theorem w_pairR (w : wpx E (f ρ) fun x ρ2 => ∃ y, ρ2.getD i none = some y ∧ P2 (x, y) ρ2) : wpx E (mPairR f i ρ) P2 := wp_bind (wp_imp w fun y ρ2 ⟨x, e, w1⟩ => by rw [e]; exact w1)
theorem w_m2 (w : wpx E (f2 ρ) fun p ρ2 => wo (op p.1 p.2) ρ2 P) : wpx E (m2 op f2 ρ) P := wp_bind (wp_imp w fun p ρ2 w1 => wo_ofO w1)
theorem w_un {o : D → Option D} (w : wpx E (f ρ) fun x ρ2 => wo (o x) ρ2 P) : wpx E (mUn o f ρ) P := wp_bind (wp_imp w fun p ρ2 w1 => wo_ofO w1)
theorem w_nil (w : PL [] ρ) : wpx E (mNil ρ) PL := w
theorem w_cons (w : wpx E (f ρ) fun x ρ1 => wpx E (g ρ1) fun ds ρ2 => PL (x :: ds) ρ2) : wpx E (mCons f g ρ) PL := wp_bind (wp_imp w fun x ρ1 w1 => wp_bind w1)
theorem w_own (w : wpx E (g ρ) fun ds ρ2 => ∃ x, ρ2.getD i none = some x ∧ PL (x :: ds) ρ2) : wpx E (mOwn i g ρ) PL := wp_bind (wp_imp w fun y ρ2 ⟨x, e, w1⟩ => by rw [e]; exact w1)
theorem w_io (w : wpx E (g ρ) fun ds ρ2 => PL (.non :: ds) ρ2) : wpx E (mIo g ρ) PL := wp_bind w
theorem w_arg {o : List D → Option D} (w : wpx E (g ρ) fun ds ρ2 => wo (o ds) ρ2 P) : wpx E (mArg o g ρ) P := wp_bind (wp_imp w fun p ρ2 w1 => wo_ofO w1)
theorem w_argI {o : List D → Option (List D)} (w : wpx E (g ρ) fun ds ρ2 => ∃ es, o ds = some es ∧ PL es ρ2) : wpx E (mArgI o g ρ) PL := wp_bind (wp_imp w fun p ρ2 ⟨es, e, w1⟩ => by rw [e]; exact w1)
theorem w_seqI (w : wpx E (f ρ) fun d ρ2 => ∃ es, asSeq d = some es ∧ PL es ρ2) : wpx E (mSeqI f ρ) PL := wp_bind (wp_imp w fun p ρ2 ⟨es, e, w1⟩ => by rw [e]; exact w1)
theorem w_tup (w : wpx E (g ρ) fun ds ρ2 => P (.tup ds) ρ2) : wpx E (mTup g ρ) P := wp_bind w
theorem w_lst (w : wpx E (g ρ) fun ds ρ2 => P (.lst ds) ρ2) : wpx E (mLst g ρ) P := wp_bind w
theorem w_and (w : wpx E (f ρ) fun d ρ1 => ∃ b, d = .bl b ∧ if b = true then wpx E (h ρ1) P else P (.bl false) ρ1) : wpx E (mAndV f h ρ) P := wp_bind (wp_imp w fun d ρ1 ⟨b, e, w1⟩ => by subst e; cases b with | true => exact w1 | false => exact w1)
theorem w_or (w : wpx E (f ρ) fun d ρ1 => ∃ b, d = .bl b ∧ if b = true then P (.bl true) ρ1 else wpx E (h ρ1) P) : wpx E (mOrV f h ρ) P := wp_bind (wp_imp w fun d ρ1 ⟨b, e, w1⟩ => by subst e; cases b with | true => exact w1 | false => exact w1)
theorem w_notV (w : wpx E (f ρ) fun d ρ1 => ∃ b, d = .bl b ∧ P (.bl (!b)) ρ1) : wpx E (mNotV f ρ) P := wp_bind (wp_imp w fun d ρ1 ⟨b, e, w1⟩ => by subst e; exact w1)
theorem w_ite (w : wpx E (c ρ) fun b ρ1 => if b = true then wpx E (f ρ1) P else wpx E (h ρ1) P) : wpx E (mIf c f h ρ) P := wp_bind (wp_imp w fun b ρ1 w1 => by cases b with | true => exact w1 | false => exact w1)
theorem w_test (w : wpx E (f ρ) fun d ρ1 => ∃ b, d = .bl b ∧ PB b ρ1) : wpx E (mTest f ρ) PB := wp_bind (wp_imp w fun d ρ1 ⟨b, e, w1⟩ => by subst e; exact w1)
theorem w_not (w : wpx E (c ρ) fun b ρ1 => PB (!b) ρ1) : wpx E (mNot c ρ) PB := wp_bind w
theorem w_tand (w : wpx E (c ρ) fun b ρ1 => if b = true then wpx E (c2 ρ1) PB else PB false ρ1) : wpx E (mAnd c c2 ρ) PB := wp_bind (wp_imp w fun b ρ1 w1 => by cases b with | true => exact w1 | false => exact w1)
theorem w_tor (w : wpx E (c ρ) fun b ρ1 => if b = true then PB true ρ1 else wpx E (c2 ρ1) PB) : wpx E (mOr c c2 ρ) PB := wp_bind (wp_imp w fun b ρ1 w1 => by cases b with | true => exact w1 | false => exact w1)
theorem w_chain (w : wpx E (f ρ) fun x ρ1 => wpx E (h ρ1) fun y ρ2 => ∃ b, op x y = some (.bl b) ∧ if b = true then wpx E (k ρ2) fun z ρ3 => wo (op' y z) ρ3 P else P (.bl false) ρ2) : wpx E (mChain op op' f h k ρ) P :=
  wp_bind (wp_imp w fun x ρ1 w1 => wp_bind (wp_imp w1 fun y ρ2 ⟨b, e, w2⟩ => by
    rw [e]
    cases b with
    | true => exact wp_bind (wp_imp w2 fun z ρ3 w3 => wo_ofO w3)
    | false => exact w2))
theorem w_call0 (w : wpx E (g ρ) fun ds ρ1 => wfx (fun e _ => E e ρ1) (F ds) fun d _ => P d ρ1) : wpx E (mCall0 F g ρ) P := wp_bind (wp_imp w fun ds ρ1 w1 => by
  cases q : F ds <;> rw [q] at w1 <;> exact w1)
theorem w_call1 {p : Nat} (w : wpx E (g ρ) fun ds ρ1 => ∃ c0, ρ1.getD i none = some c0 ∧ wfx (fun e outs => ∃ c1, outs = [c1] ∧ E e (ρ1.set i (some c1))) (F (ds.set p c0)) fun d outs => ∃ c1, outs = [c1] ∧ P d (ρ1.set i (some c1))) : wpx E (mCall1 F p i g ρ) P := wp_bind (wp_imp w fun ds ρ1 ⟨c0, e0, w1⟩ => by
  rw [e0]; dsimp only
  cases q : F (ds.set p c0) <;> rw [q] at w1
  · obtain ⟨c1, rfl, w2⟩ := w1; exact w2
  · obtain ⟨c1, rfl, w2⟩ := w1; exact w2
  · exact w1)
theorem w_lstM {step : List D → List D → Option (D × List D)} (w : ∃ ds0, lstO (ρ.getD i none) = some ds0 ∧ wpx E (g ρ) fun es ρ1 => ∃ ds, lstO (ρ1.getD i none) = some ds ∧ ∃ z, step ds es = some z ∧ P z.1 (ρ1.set i (some (.lst z.2)))) : wpx E (mLstM i step g ρ) P := by
  obtain ⟨ds0, e0, w⟩ := w
  unfold mLstM
  rw [e0]
  exact wp_bind (wp_imp w fun es ρ1 ⟨ds, e1, z, e2, w1⟩ => by rw [e1]; dsimp only; rw [e2]; exact w1)
theorem w_strM {o : Str → List D → Option D} (w : wpx E (f ρ) fun d ρ1 => ∃ s, d = .str s ∧ wpx E (g ρ1) fun ds ρ2 => wo (o s ds) ρ2 P) : wpx E (mStrM o f g ρ) P := wp_bind (wp_imp w fun d ρ1 ⟨s, e, w1⟩ => by subst e; exact wp_bind (wp_imp w1 fun ds ρ2 w2 => wo_ofO w2))
theorem w_slice {l u : Env → R (Option Int)} (w : wpx E (f ρ) fun d ρ1 => ∃ s, d = .str s ∧ wpx E (l ρ1) fun lo ρ2 => wpx E (u ρ2) fun hi ρ3 => s.length ≤ sizeLine ∧ P (.str (cutS s lo hi)) ρ3) : wpx E (mSlice f l u ρ) P := wp_bind (wp_imp w fun d ρ1 ⟨s, e, w1⟩ => by
  subst e
  exact wp_bind (wp_imp w1 fun lo ρ2 w2 => wp_bind (wp_imp w2 fun hi ρ3 ⟨h, w3⟩ => wo_ofO (by unfold ifO; rw [if_pos h]; exact w3))))
theorem w_oN {PO : Option Int → Env → Prop} (w : PO none ρ) : wpx E (mONone ρ) PO := w
theorem w_oS {PO : Option Int → Env → Prop} (w : wpx E (f ρ) fun d ρ1 => ∃ q, d = .int q ∧ PO (some q) ρ1) : wpx E (mOSome f ρ) PO := wp_bind (wp_imp w fun d ρ1 ⟨q, e, w1⟩ => by subst e; exact w1)
/-! ### statements: PS tells of the flow -/
def wsq (E : Ex → Env → Prop) (gs : Env → R Fl) (PS : Fl → Env → Prop) : Fl → Env → Prop
  | .nx, ρ => wpx E (gs ρ) PS
  | o, ρ => PS o ρ
theorem q_nx (w : wpx E (gs ρ) PS) : wsq E gs PS .nx ρ := w
theorem q_rt (w : PS (.rt d) ρ) : wsq E gs PS (.rt d) ρ := w
theorem q_bk (w : PS .bk ρ) : wsq E gs PS .bk ρ := w
theorem q_ct (w : PS .ct ρ) : wsq E gs PS .ct ρ := w
def wfe (io : List Nat) (PF : D → List D → Prop) : Fl → Env → Prop
  | .rt d, ρ => PF d (outsOf io ρ)
  | .nx, ρ => PF .non (outsOf io ρ)
  | _, _ => False
theorem e_rt {io : List Nat} {PF : D → List D → Prop} (w : PF d (outsOf io ρ)) : wfe io PF (.rt d) ρ := w
theorem e_nx {io : List Nat} {PF : D → List D → Prop} (w : PF .non (outsOf io ρ)) : wfe io PF .nx ρ := w
theorem i_t {A B : Prop} (w : A) : if true = true then A else B := w
theorem i_f {A B : Prop} (w : B) : if false = true then A else B := w
theorem i_nt {A B : Prop} (w : B) : if (!true) = true then A else B := w
theorem i_nf {A B : Prop} (w : A) : if (!false) = true then A else B := w
theorem w_seq (w : wpx E (fs ρ) (wsq E gs PS)) : wpx E (mSeq fs gs ρ) PS := by
  unfold mSeq
  cases q : fs ρ with
  | ok fl ρ1 => rw [q] at w; cases fl <;> exact w
  | exn e ρ1 => rw [q] at w; exact w
  | bad => rw [q] at w; exact w.elim
theorem w_nx (w : PS .nx ρ) : wpx E (mNx ρ) PS := w
theorem w_if (w : wpx E (c ρ) fun b ρ1 => if b = true then wpx E (fs ρ1) PS else wpx E (gs ρ1) PS) : wpx E (mIfS c fs gs ρ) PS := wp_bind (wp_imp w fun b ρ1 w1 => by cases b with | true => exact w1 | false => exact w1)
theorem w_ret (w : wpx E (f ρ) fun d ρ1 => PS (.rt d) ρ1) : wpx E (mRet f ρ) PS := wp_bind w
theorem w_drop (w : wpx E (f ρ) fun d ρ1 => PS .nx ρ1) : wpx E (mDrop f ρ) PS := wp_bind w
theorem w_set (w : wpx E (f ρ) fun d ρ1 => decide (i < ρ1.length) = true ∧ PS .nx (ρ1.set i (some d))) : wpx E (mSet i f ρ) PS := wp_bind (wp_imp w fun d ρ1 ⟨e, w1⟩ => by rw [if_pos (of_decide_eq_true e)]; exact w1)
theorem w_setO (w : wpx E (f ρ) fun d ρ1 => decide (i < ρ1.length) = true ∧ isObj d = true ∧ PS .nx (ρ1.set i (some d))) : wpx E (mSetO i f ρ) PS := wp_bind (wp_imp w fun d ρ1 ⟨e, e2, w1⟩ => by rw [if_pos ⟨of_decide_eq_true e, e2⟩]; exact w1)
theorem w_asg (w : wpx E (f ρ) fun d ρ1 => ∃ ρ2, gt d ρ1 = some ρ2 ∧ PS .nx ρ2) : wpx E (mAsg f gt ρ) PS := wp_bind (wp_imp w fun d ρ1 ⟨ρ2, e, w1⟩ => by rw [e]; exact w1)
theorem w_gIx {v : D} {Q : Env → Prop} (w : ∃ ds0, lstO (ρ.getD i none) = some ds0 ∧ wp (h ρ) fun kd ρ1 => ∃ q ds n, kd = .int q ∧ lstO (ρ1.getD i none) = some ds ∧ ixN ds.length q = some n ∧ Q (ρ1.set i (some (.lst (ds.set n v))))) : ∃ ρ2, gIx i h v ρ = some ρ2 ∧ Q ρ2 := by
  obtain ⟨ds0, e0, w⟩ := w
  obtain ⟨kd, ρ1, e1, q, ds, n, rfl, e2, e3, w1⟩ := wp_of w
  exact ⟨_, ev_gIx e0 e1 e2 e3, w1⟩
theorem w_fn {EF : Ex → List D → Prop} {io : List Nat} {ds : List D} {PF : D → List D → Prop} (w : wpx (fun e ρ => EF e (outsOf io ρ)) (body (env0 n ds)) (wfe io PF)) : wfx EF (fnSem n io body ds) PF := by
  unfold fnSem
  cases q : body (env0 n ds) with
  | ok fl ρ1 => rw [q] at w; cases fl <;> first | exact w | exact w.elim
  | exn e ρ1 => rw [q] at w; exact w
  | bad => rw [q] at w; exact w.elim
theorem w_for {it : Env → R (List D)} (w : wpx E (it ρ) fun ds ρ1 => wpx E (forL (gBody gt body) ds ρ1) PS) : wpx E (mFor it gt body ρ) PS := wp_bind w
/-- a loop: each turn goes on, or ends it -/
theorem forL_run {step : D → Env → R Fl} {ds : List D} (Inv : Nat → Env → Prop) (hs : ∀ i d ρ, ds[i]? = some d → Inv i ρ → wpx E (step d ρ) fun fl ρ' => ((fl = .nx ∨ fl = .ct) ∧ Inv (i + 1) ρ') ∨ (fl = .bk ∧ PS .nx ρ') ∨ ∃ d, fl = .rt d ∧ PS (.rt d) ρ') (h0 : Inv 0 ρ) (hd : ∀ ρ, Inv ds.length ρ → PS .nx ρ) : wpx E (forL step ds ρ) PS := by
  have key : ∀ (es : List D) (m : Nat) (ρ : Env), es = ds.drop m → m ≤ ds.length → Inv m ρ → wpx E (forL step es ρ) PS := by
    intro es
    induction es with
    | nil =>
      intro m ρ e hm hi
      have : ds.length ≤ m := by
        have := congrArg List.length e
        rw [List.length_drop] at this
        simp at this; omega
      have hm' : m = ds.length := by omega
      exact hd ρ (hm' ▸ hi)
    | cons d es ih =>
      intro m ρ e hm hi
      have hdm : ds[m]? = some d := by
        have := congrArg (fun l => l[0]?) e
        simp only [List.getElem?_drop] at this
        simpa using this.symm
      have hes : es = ds.drop (m + 1) := by
        have := congrArg List.tail e
        simpa [List.tail_drop] using this
      have hml : m + 1 ≤ ds.length := (List.getElem?_eq_some_iff.mp hdm).1
      have w := hs m d ρ hdm hi
      unfold forL
      cases q : step d ρ with
      | bad => rw [q] at w; exact w.elim
      | exn e1 ρ' => rw [q] at w; exact w
      | ok fl ρ' =>
        rw [q] at w
        rcases w with ⟨rfl | rfl, h⟩ | ⟨rfl, h⟩ | ⟨q, rfl, h⟩
        · exact ih (m + 1) ρ' hes hml h
        · exact ih (m + 1) ρ' hes hml h
        · exact h
        · exact h
  exact key ds 0 ρ (by simp) (Nat.zero_le _) h0
theorem w_run {ds : List D} (Inv : Nat → Env → Prop) (h0 : Inv 0 ρ) (hs : ∀ i d ρ, ds[i]? = some d → Inv i ρ → ∃ ρ1, gt d ρ = some ρ1 ∧ wpx E (body ρ1) fun fl ρ2 => ((fl = .nx ∨ fl = .ct) ∧ Inv (i + 1) ρ2) ∨ (fl = .bk ∧ PS .nx ρ2) ∨ ∃ d, fl = .rt d ∧ PS (.rt d) ρ2) (hd : ∀ ρ, Inv ds.length ρ → PS .nx ρ) : wpx E (forL (gBody gt body) ds ρ) PS :=
  forL_run Inv (fun i d ρ hd hi => by
    obtain ⟨ρ1, e1, w⟩ := hs i d ρ hd hi
    unfold gBody
    rw [e1]
    exact w) h0 hd
theorem w_loop {ds : List D} (Inv : Nat → Env → Prop) (h0 : Inv 0 ρ) (hs : ∀ i d ρ, ds[i]? = some d → Inv i ρ → ∃ ρ1, gt d ρ = some ρ1 ∧ wpx E (body ρ1) fun fl ρ2 => (fl = .nx ∨ fl = .ct) ∧ Inv (i + 1) ρ2) (hd : ∀ ρ, Inv ds.length ρ → PS .nx ρ) : wpx E (forL (gBody gt body) ds ρ) PS :=
  w_run Inv h0 (fun i d ρ hd hi => by
    obtain ⟨ρ1, e1, w⟩ := hs i d ρ hd hi
    exact ⟨ρ1, e1, wp_imp w fun _ _ h => .inl h⟩) hd
/-- a loop of checks that all hold: the frame is kept, but for what the loop itself names -/
theorem w_all {ds : List D} {α : Type} (f : α → Env) (a : α) (e : ρ = f a) (hs : ∀ d a, d ∈ ds → ∃ ρ1, gt d (f a) = some ρ1 ∧ wpx E (body ρ1) fun fl ρ2 => (fl = .nx ∨ fl = .ct) ∧ ∃ a, ρ2 = f a) (hd : ∀ a, PS .nx (f a)) : wpx E (forL (gBody gt body) ds ρ) PS :=
  w_loop (fun _ ρ => ∃ a, ρ = f a) ⟨a, e⟩ (fun i d ρ hi ⟨a, ea⟩ => by rw [ea]; exact hs d a (List.mem_of_getElem? hi)) (fun ρ ⟨a, ea⟩ => by rw [ea]; exact hd a)
theorem w_lc {fi : Env → R (List D)} {tst : Env → R Bool} {vs : List Nat} (w : wpx E (fi ρ) fun ds ρ1 => ds.length < sizeLine ∧ ∃ Inv : Nat → Env → List D → Prop, Inv 0 (wipeE ρ1 vs) [] ∧
    (∀ i d ρ acc, ds[i]? = some d → Inv i ρ acc → acc.length ≤ i ∧ ∃ ρa, gt d ρ = some ρa ∧ wp (tst ρa) fun b ρb => if b = true then wp (f ρb) fun y ρc => Inv (i + 1) (wipeE ρc vs) (acc ++ [y]) else Inv (i + 1) (wipeE ρb vs) acc) ∧
    ∀ ρ2 acc, Inv ds.length ρ2 acc → P (.lst acc) (restE ρ1 ρ2 vs)) : wpx E (mLc fi gt tst f vs ρ) P := wp_bind (wp_imp w fun ds ρ1 ⟨hz, Iv, h0, hs, hd⟩ => by
  obtain ⟨acc, ρ2, e, hi⟩ := compL_inv (gt := gt) (tst := tst) (f := f) (vs := vs) Iv (fun i d ρ acc hd' hi => by
    obtain ⟨hl, ρa, e1, w⟩ := hs i d ρ acc hd' hi
    obtain ⟨b, ρb, e2, w2⟩ := wp_of w
    refine ⟨hl, ρa, ρb, b, e1, e2, fun hb => ?_, fun hb => ?_⟩
    · subst hb
      rw [if_pos rfl] at w2
      obtain ⟨y, ρc, e3, w3⟩ := wp_of w2
      exact ⟨y, ρc, e3, w3⟩
    · subst hb
      rw [if_neg Bool.false_ne_true] at w2
      exact w2) hz h0
  rw [e]
  exact hd ρ2 acc hi)
theorem w_yes (w : PB true ρ) : wpx E (mYes ρ) PB := w
/-! ### operators -/
theorem o_some {o : Option D} (e : o = some d) (w : P d ρ) : wo o ρ P := by rw [e]; exact w
theorem o_add {a b : Int} (w : P (.int (a + b)) ρ) : wo (addD (.int a) (.int b)) ρ P := w
theorem o_sub {a b : Int} (w : P (.int (a - b)) ρ) : wo (subD (.int a) (.int b)) ρ P := w
theorem o_cat {a b : Str} (hl : a.length + b.length ≤ sizeLine) (w : P (.str (a ++ b)) ρ) : wo (addD (.str a) (.str b)) ρ P := o_some (show (if _ then _ else none) = _ from if_pos hl) w
theorem o_mulR {a b : Int} (hb : -(2 ^ 64) < b ∧ b < 2 ^ 64) (w : P (.int (a * b)) ρ) : wo (mulD (.int a) (.int b)) ρ P := o_some (show (if _ then _ else none) = _ from if_pos (.inl hb)) w
theorem o_mulL {a b : Int} (hb : -(2 ^ 64) < a ∧ a < 2 ^ 64) (w : P (.int (a * b)) ρ) : wo (mulD (.int a) (.int b)) ρ P := o_some (show (if _ then _ else none) = _ from if_pos (.inr (.inl hb))) w
theorem o_mod {a b : Int} (hb : 0 < b) (w : P (.int (a % b)) ρ) : wo (modD (.int a) (.int b)) ρ P := o_some (show (if _ then _ else none) = _ from if_pos hb) w
theorem o_div {a b : Int} (hb : 0 < b) (hl : b.natAbs.log2 < 9000) (w : P (.int (a / b)) ρ) : wo (fdivD (.int a) (.int b)) ρ P := o_some (show (if _ then _ else none) = _ from if_pos ⟨hb, hl⟩) w
theorem o_pow {a b : Int} (hb : 0 ≤ b ∧ b ≤ 1000000 ∧ a.natAbs < 2 ^ 64) (w : P (.int (a ^ b.toNat)) ρ) : wo (powD (.int a) (.int b)) ρ P := o_some (show (if _ then _ else none) = _ from if_pos hb) w
theorem o_lt {a b : Int} (w : P (.bl (decide (a < b))) ρ) : wo (ltD (.int a) (.int b)) ρ P := w
theorem o_le {a b : Int} (w : P (.bl (decide (a ≤ b))) ρ) : wo (leD (.int a) (.int b)) ρ P := w
theorem o_gt {a b : Int} (w : P (.bl (decide (b < a))) ρ) : wo (gtD (.int a) (.int b)) ρ P := w
theorem o_ge {a b : Int} (w : P (.bl (decide (b ≤ a))) ρ) : wo (geD (.int a) (.int b)) ρ P := w
theorem o_int {a : Int} (w : P (.int a) ρ) : wo (oInt [.int a]) ρ P := w
theorem o_abs {a : Int} (w : P (.int (if a < 0 then -a else a)) ρ) : wo (oAbs [.int a]) ρ P := w
theorem o_lenS {s : Str} (hl : s.length ≤ sizeLine) (w : P (.int s.length) ρ) : wo (oLen [.str s]) ρ P := o_some (show (if _ then _ else none) = _ from if_pos hl) w
theorem o_lenL {ds : List D} (w : P (.int ds.length) ρ) : wo (oLen [.lst ds]) ρ P := w
theorem o_lenT {ds : List D} (w : P (.int ds.length) ρ) : wo (oLen [.tup ds]) ρ P := w
theorem o_ixL {ds : List D} {q : Int} (e : atI ds q = some d) (w : P d ρ) : wo (ixD (.lst ds) (.int q)) ρ P := o_some (show atI ds q = _ from e) w
theorem o_ixT {ds : List D} {q : Int} (e : atI ds q = some d) (w : P d ρ) : wo (ixD (.tup ds) (.int q)) ρ P := o_some (show atI ds q = _ from e) w
theorem r_1 {PL : List D → Env → Prop} {q : Int} (hb : -(2 ^ 62) ≤ q ∧ q < 2 ^ 62) (w : PL ((List.range q.toNat).map fun i => .int (i : Nat)) ρ) : ∃ es, asR1 [.int q] = some es ∧ PL es ρ := ⟨_, if_pos hb, w⟩
theorem r_2 {PL : List D → Env → Prop} {a b : Int} (hb : -(2 ^ 62) ≤ a ∧ a < 2 ^ 62 ∧ -(2 ^ 62) ≤ b ∧ b < 2 ^ 62) (w : PL ((List.range (b - a).toNat).map fun i => .int (a + (i : Nat))) ρ) : ∃ es, asR2 [.int a, .int b] = some es ∧ PL es ρ := ⟨_, if_pos hb, w⟩
theorem o_isi {T : String} {t : String} (e : tyD d = some t) (w : P (.bl (subT t T)) ρ) : wo (isiD T d) ρ P := o_some (show (tyD d).map _ = _ by rw [e]; rfl) w
end
end Ip
namespace Ip
open PySem L2
section
variable {i j n : Nat} {ρ : Env} {d x y z : D}
theorem x_bl {b : Bool} {Q : Bool → Prop} (w : Q b) : ∃ c, D.bl b = .bl c ∧ Q c := ⟨b, rfl, w⟩
theorem x_int {q : Int} {Q : Int → Prop} (w : Q q) : ∃ c, D.int q = .int c ∧ Q c := ⟨q, rfl, w⟩
theorem x_str {s : Str} {Q : Str → Prop} (w : Q s) : ∃ c, D.str s = .str c ∧ Q c := ⟨s, rfl, w⟩
theorem x_sqL {ds : List D} {Q : List D → Prop} (w : Q ds) : ∃ es, asSeq (.lst ds) = some es ∧ Q es := ⟨ds, rfl, w⟩
theorem x_sqT {ds : List D} {Q : List D → Prop} (w : Q ds) : ∃ es, asSeq (.tup ds) = some es ∧ Q es := ⟨ds, rfl, w⟩
theorem x_env {Q : D → Prop} (e : ρ.getD i none = some d) (w : Q d) : ∃ x, ρ.getD i none = some x ∧ Q x := ⟨d, e, w⟩
theorem x_lst {ds : List D} {Q : List D → Prop} (e : ρ.getD i none = some (.lst ds)) (w : Q ds) : ∃ es, lstO (ρ.getD i none) = some es ∧ Q es := ⟨ds, by rw [e]; rfl, w⟩
theorem x_out {Q : D → Prop} (w : Q d) : ∃ c1, [d] = [c1] ∧ Q c1 := ⟨d, rfl, w⟩
theorem x_some {α : Type} {a : α} {Q : α → Prop} (w : Q a) : ∃ c1, some a = some c1 ∧ Q c1 := ⟨a, rfl, w⟩
theorem x_slot {Q : Prop} (e : i < ρ.length) (w : Q) : decide (i < ρ.length) = true ∧ Q := ⟨decide_eq_true e, w⟩
theorem x_objL {ds : List D} {Q : Prop} (w : Q) : isObj (.lst ds) = true ∧ Q := ⟨rfl, w⟩
theorem x_objI {c : Str} {ns : List Str} {ds : List D} {Q : Prop} (w : Q) : isObj (.obj c ns ds) = true ∧ Q := ⟨rfl, w⟩
theorem x_nm {d : D} {Q : Env → Prop} (e : i < ρ.length) (w : Q (ρ.set i (some d))) : ∃ ρ1, gNm i d ρ = some ρ1 ∧ Q ρ1 := ⟨_, if_pos e, w⟩
theorem fl_nx {Q : Prop} (w : Q) : (Fl.nx = .nx ∨ Fl.nx = .ct) ∧ Q := ⟨.inl rfl, w⟩
theorem fl_ct {Q : Prop} (w : Q) : (Fl.ct = .nx ∨ Fl.ct = .ct) ∧ Q := ⟨.inr rfl, w⟩
/-- a call of a def whose answer is known by a lemma -/
theorem f_use {EF : Ex → List D → Prop} {F : FSem} {ds : List D} {P Q : D → List D → Prop} (h : wf (F ds) P) (w : ∀ d outs, P d outs → Q d outs) : wfx EF (F ds) Q := wf_impE h w fun _ _ h => h.elim
theorem x_r1 {Q : List D → Prop} {q : Int} (hb : -(2 ^ 62) ≤ q ∧ q < 2 ^ 62) (w : Q ((List.range q.toNat).map fun i => .int (i : Nat))) : ∃ es, asR1 [.int q] = some es ∧ Q es := ⟨_, if_pos hb, w⟩
theorem x_r2 {Q : List D → Prop} {a b : Int} (hb : -(2 ^ 62) ≤ a ∧ a < 2 ^ 62 ∧ -(2 ^ 62) ≤ b ∧ b < 2 ^ 62) (w : Q ((List.range (b - a).toNat).map fun i => .int (a + (i : Nat)))) : ∃ es, asR2 [.int a, .int b] = some es ∧ Q es := ⟨_, if_pos hb, w⟩
end
end Ip
namespace Ip
open PySem L2
section
variable {X : Cx} {C : Ac} {W : WX} {Γ Γ1 : List Nat} {fr : Bool} {a : Expr} {f : Env → R D} {pos p2 p3 : Pos}
/-- xs[:n] of a list, n written in the text: a new list -/
def mCutL (n : Nat) (f : Env → R D) : Env → R D := fun ρ => (f ρ).bind fun d ρ1 => match d with
  | .lst ds => .ok (.lst (ds.take n)) ρ1
  | _ => .bad
theorem cutV_first (xs : List V) (n : Nat) : cutV xs none (some (n : Int)) = xs.take n := by
  unfold cutV
  rw [HT.sIx_none, HT.sIx_nat, List.drop_zero, Nat.sub_zero]
  rcases Nat.le_total n xs.length with h | h
  · rw [Nat.min_eq_left h]
  · rw [Nat.min_eq_right h, List.take_length, List.take_of_length_le h]
theorem se_cutL {n j : Nat} (ha : SE X C W Γ a Γ1 fr f) : SE X C W Γ (.Subscript a (.Slice none (some (.Constant (.int (n : Int)) j p3)) none p2) pos) Γ1 true (mCutL n f) := ⟨peImp (pe_slice sl_list ha.pe po_none (po_some pe_int)) fun σ H Q ⟨hid, ρ, S, p⟩ => by
  refine ⟨hid, ρ, S, ?_⟩
  unfold mCutL at p
  cases q : f ρ with
  | bad => rw [q] at p; exact p
  | exn e ρ' => rw [q] at p; exact p
  | ok d ρ1 =>
    rw [q] at p
    dsimp only [R.bind] at p
    intro v H1 tm S1 k1 va t1
    cases d with
    | lst ds =>
      have s := va.shal0
      cases s with
      | lst h r =>
        refine ⟨_, rfl, _, _, rfl, h, fun q hq => ?_⟩
        rw [cutV_first]
        exact fin_fr p S.sub S1 k1 q _ hq (.lst upd_same (r.take n))
    | _ => exact (show False from p).elim⟩
end
end Ip
set_option maxHeartbeats 4000000
namespace Wk29
open PySem L2 PySem.Spec PyProof.Rows Ip
/-! ## the text -/
def top (i : Nat) : Stmt := PySem.Challenge.pw_madeanew_k29_text_writer_runs.main.body.getD i (.Pass ⟨0, 0, 0, 0⟩)
structure Blt (mg : Str → Option Value) : Prop where
  n_abs : mg "abs" = none
  n_bool : mg "bool" = none
  n_dict : mg "dict" = none
  n_enumerate : mg "enumerate" = none
  n_int : mg "int" = none
  n_isinstance : mg "isinstance" = none
  n_len : mg "len" = none
  n_list : mg "list" = none
  n_max : mg "max" = none
  n_min : mg "min" = none
  n_range : mg "range" = none
  n_reversed : mg "reversed" = none
  n_str : mg "str" = none
  n_sum : mg "sum" = none
  n_tuple : mg "tuple" = none
/-! ### _law_pool -/
abbrev s_law_pool : Stmt := top 28
abbrev N_law_pool : List Str := ["_law_script", "_law_at"]
abbrev P_law_pool : List Str := ["_law_script", "_law_at"]
def m_law_pool : Ip.Env → R Fl := (mSeq (mIfS (mTest (m2 ltD (mPair (mVar 1) (mArg oLen (mCons (mVar 0) mNil))))) (mRet (mLst (mCons (mArg oAbs (mCons (m2 ixD (mPair (mVar 0) (mVar 1))) mNil)) (mCons (m2 mulD (mPair (mC (.int 1000)) (mVar 1))) mNil)))) mNx) (mRet (mLst (mCons (m2 addD (mPair (m2 modD (mPair (mArg oInt (mCons (mArg oSum (mCons (mCutL 1 (mVar 0)) mNil)) mNil)) (mC (.int 1000003)))) (m2 mulD (mPair (mC (.int 104729)) (mVar 1))))) (mCons (m2 mulD (mPair (mC (.int 1000)) (mVar 1))) mNil)))))
def F_law_pool : FSem := fnSem 2 [] m_law_pool
/-! ### _law_draw -/
abbrev s_law_draw : Stmt := top 29
abbrev N_law_draw : List Str := ["_law_pool_here", "_law_many", "_law_drawn", "_law_mixed"]
abbrev P_law_draw : List Str := ["_law_pool_here", "_law_many"]
def m_law_draw : Ip.Env → R Fl := (mSeq (mIfS (mTest (m2 geD (mPair (m2 ixD (mPairO 0 (mC (.int 0)))) (m2 powD (mPair (mC (.int 10)) (mC (.int 18))))))) (mSeq (mSet 2 (m2 modD (mPair (mArg oInt (mCons (m2 ixD (mPairO 0 (mC (.int 0)))) mNil)) (mVar 1)))) (mSeq (mAsg (m2 fdivD (mPair (m2 ixD (mPairO 0 (mC (.int 0)))) (mVar 1))) (gIx 0 (mC (.int 0)))) (mRet (mVar 2)))) mNx) (mSeq (mAsg (m2 addD (mPair (m2 ixD (mPairO 0 (mC (.int 1)))) (mC (.int 1)))) (gIx 0 (mC (.int 1)))) (mSeq (mSet 3 (m2 modD (mPair (mArg oInt (mCons (m2 mulD (mPair (m2 addD (mPair (m2 addD (mPair (m2 ixD (mPairO 0 (mC (.int 0)))) (m2 mulD (mPair (mC (.int 7919)) (m2 ixD (mPairO 0 (mC (.int 1)))))))) (mC (.int 1)))) (mC (.int 48271)))) mNil)) (mC (.int 2147483647))))) (mSeq (mSet 3 (m2 modD (mPair (mArg oInt (mCons (m2 mulD (mPair (mVar 3) (m2 addD (mPair (m2 fdivD (mPair (mVar 3) (mC (.int 1009)))) (mC (.int 69621)))))) mNil)) (mC (.int 2147483647))))) (mSeq (mSet 3 (m2 modD (mPair (mArg oInt (mCons (m2 mulD (mPair (mVar 3) (m2 addD (mPair (m2 fdivD (mPair (mVar 3) (mC (.int 2003)))) (mC (.int 40692)))))) mNil)) (mC (.int 2147483399))))) (mRet (m2 modD (mPair (mArg oInt (mCons (m2 fdivD (mPair (mVar 3) (mC (.int 16)))) mNil)) (mVar 1)))))))))
def F_law_draw : FSem := fnSem 4 [0] m_law_draw
/-! ### _law_letters -/
abbrev s_law_letters : Stmt := top 32
abbrev N_law_letters : List Str := ["_law_pool_here", "_law_many", "_law_rest", "_law_found", "_law_k"]
abbrev P_law_letters : List Str := ["_law_pool_here", "_law_many"]
def m_law_letters : Ip.Env → R Fl := (mSeq (mSetO 2 (mArg oListS (mCons (mC (.str "abcdefghijklmnopqrstuvwxyz")) mNil))) (mSeq (mSet 3 (mC (.str ""))) (mSeq (mFor (mArgI asR1 (mCons (mVar 1) mNil)) (gNm 4) (mSet 3 (m2 addD (mPair (mVar 3) (mLstM 2 stPopAt (mCons (mCall1 F_law_draw 0 0 (mIo (mCons (mArg oLen (mOwn 2 mNil)) mNil))) mNil)))))) (mRet (mVar 3)))))
def F_law_letters : FSem := fnSem 5 [0] m_law_letters
/-! ### _law_signs -/
abbrev s_law_signs : Stmt := top 34
abbrev N_law_signs : List Str := ["_law_pool_here", "_law_many", "_law_rest", "_law_found", "_law_k"]
abbrev P_law_signs : List Str := ["_law_pool_here", "_law_many"]
def m_law_signs : Ip.Env → R Fl := (mSeq (mSetO 2 (mArg oListS (mCons (mC (.str " !\"#$&'()*+,-./0123456789:;<=>?@ABCDEFGHIJKLMNOPQRSTUVWXYZ[")) mNil))) (mSeq (mSetO 2 (m2 catD (mPairO 2 (mArg oListS (mCons (mC (.str "\\]^_`abcdefghijklmnopqrstuvwxyz{|}~")) mNil))))) (mSeq (mSet 3 (mC (.str ""))) (mSeq (mFor (mArgI asR1 (mCons (mVar 1) mNil)) (gNm 4) (mSet 3 (m2 addD (mPair (mVar 3) (mLstM 2 stPopAt (mCons (mCall1 F_law_draw 0 0 (mIo (mCons (mArg oLen (mOwn 2 mNil)) mNil))) mNil)))))) (mRet (mVar 3))))))
def F_law_signs : FSem := fnSem 5 [0] m_law_signs
/-! ### _law_string -/
abbrev s_law_string : Stmt := top 35
abbrev N_law_string : List Str := ["_law_pool_here", "_law_signs_here", "_law_most", "_law_found", "_law_k"]
abbrev P_law_string : List Str := ["_law_pool_here", "_law_signs_here", "_law_most"]
def m_law_string : Ip.Env → R Fl := (mSeq (mSet 3 (mC (.str ""))) (mSeq (mFor (mArgI asR1 (mCons (mCall1 F_law_draw 0 0 (mIo (mCons (m2 addD (mPair (mVar 2) (mC (.int 1)))) mNil))) mNil)) (gNm 4) (mSet 3 (m2 addD (mPair (mVar 3) (m2 ixD (mPair (mVar 1) (mCall1 F_law_draw 0 0 (mIo (mCons (mArg oLen (mCons (mVar 1) mNil)) mNil))))))))) (mRet (mVar 3))))
def F_law_string : FSem := fnSem 5 [0] m_law_string
/-! ### _law_piece -/
abbrev s_law_piece : Stmt := top 36
abbrev N_law_piece : List Str := ["_law_pool_here", "_law_signs_here", "_law_many", "_law_piece_here", "_law_k"]
abbrev P_law_piece : List Str := ["_law_pool_here", "_law_signs_here", "_law_many"]
def m_law_piece : Ip.Env → R Fl := (mSeq (mSetO 3 (mLst mNil)) (mSeq (mFor (mArgI asR1 (mCons (mCall1 F_law_draw 0 0 (mIo (mCons (mC (.int 4)) mNil))) mNil)) (gNm 4) (mIfS (mTest (m2 gtD (mPair (mCall1 F_law_draw 0 0 (mIo (mCons (mC (.int 3)) mNil))) (mC (.int 0))))) (mDrop (mLstM 3 stAppend (mCons (mCall1 F_law_draw 0 0 (mIo (mCons (mVar 2) mNil))) mNil))) (mDrop (mLstM 3 stAppend (mCons (mCall1 F_law_string 0 0 (mIo (mCons (mVar 1) (mCons (mC (.int 4)) mNil)))) mNil))))) (mRet (mVar 3))))
def F_law_piece : FSem := fnSem 5 [0] m_law_piece
/-! ### _law_texts -/
abbrev s_law_texts : Stmt := top 37
abbrev N_law_texts : List Str := ["_law_pool_here", "_law_letters_here", "_law_signs_here", "_law_many", "_law_rooms", "_law_begin", "_law_steps", "_law_room", "_law_step", "_law_letter", "_law_target", "_law_told_here", "_law_k"]
abbrev P_law_texts : List Str := ["_law_pool_here"]
def m_law_texts : Ip.Env → R Fl := (mSeq (mSet 1 (mCall1 F_law_letters 0 0 (mIo (mCons (m2 addD (mPair (mC (.int 1)) (mCall1 F_law_draw 0 0 (mIo (mCons (mC (.int 4)) mNil))))) mNil)))) (mSeq (mSet 2 (mCall1 F_law_signs 0 0 (mIo (mCons (m2 addD (mPair (mC (.int 1)) (mCall1 F_law_draw 0 0 (mIo (mCons (mC (.int 8)) mNil))))) mNil)))) (mSeq (mSet 3 (m2 addD (mPair (mC (.int 1)) (mCall1 F_law_draw 0 0 (mIo (mCons (mC (.int 3)) mNil)))))) (mSeq (mSet 4 (m2 addD (mPair (mC (.int 1)) (mCall1 F_law_draw 0 0 (mIo (mCons (mC (.int 3)) mNil)))))) (mSeq (mSetO 5 (mLc (mArgI asR1 (mCons (mVar 3) mNil)) (gNm 12) mYes (mCall1 F_law_string 0 0 (mIo (mCons (mVar 2) (mCons (mC (.int 4)) mNil)))) [12])) (mSeq (mSetO 6 (mLst mNil)) (mSeq (mFor (mArgI asR1 (mCons (mVar 4) mNil)) (gNm 7) (mSeq (mSetO 8 (mC (.dic [] []))) (mSeq (mFor (mSeqI (mVar 1)) (gNm 9) (mSeq (mSet 10 (mCall1 F_law_draw 0 0 (mIo (mCons (mVar 4) mNil)))) (mAsg (mTup (mCons (mVar 10) (mCons (mLc (mArgI asR1 (mCons (mVar 3) mNil)) (gNm 12) mYes (mCall1 F_law_piece 0 0 (mIo (mCons (mVar 2) (mCons (mVar 3) mNil)))) [12]) mNil))) (gDk 8 (mVar 9))))) (mDrop (mLstM 6 stAppend (mCons (mVar 8) mNil)))))) (mSeq (mSetO 11 (mLc (mArgI asR1 (mCons (mVar 4) mNil)) (gNm 12) mYes (mCall1 F_law_piece 0 0 (mIo (mCons (mVar 2) (mCons (mVar 3) mNil)))) [12])) (mRet (mTup (mCons (mVar 1) (mCons (mVar 2) (mCons (mVar 5) (mCons (mVar 6) (mCons (mVar 11) mNil)))))))))))))))
def F_law_texts : FSem := fnSem 13 [0] m_law_texts
/-! ### _law_pieces -/
abbrev s_law_pieces : Stmt := top 42
abbrev N_law_pieces : List Str := ["_law_row_here", "_law_piece_here"]
abbrev P_law_pieces : List Str := ["_law_row_here"]
def m_law_pieces : Ip.Env → R Fl := (mRet (mLc (mSeqI (mVar 0)) (gNm 1) mYes (mArg oList (mCons (mVar 1) mNil)) [1]))
def F_law_pieces : FSem := fnSem 2 [] m_law_pieces
/-! ### _law_copied -/
abbrev s_law_copied : Stmt := top 43
abbrev N_law_copied : List Str := ["_law_steps", "_law_backward", "_law_copied_here", "_law_step", "_law_keys", "_law_room", "_law_key"]
abbrev P_law_copied : List Str := ["_law_steps", "_law_backward"]
def m_law_copied : Ip.Env → R Fl := (mSeq (mSetO 2 (mLst mNil)) (mSeq (mFor (mSeqI (mVar 0)) (gNm 3) (mSeq (mSet 4 (mArg oListDK (mCons (mVar 3) mNil))) (mSeq (mIfS (mTest (mVar 1)) (mSet 4 (mUn revD (mVar 4))) mNx) (mSeq (mSetO 5 (mC (.dic [] []))) (mSeq (mFor (mSeqI (mVar 4)) (gNm 6) (mAsg (mTup (mCons (m2 ixD (mPair (m2 dgetD (mPair (mVar 3) (mVar 6))) (mC (.int 0)))) (mCons (mCall0 F_law_pieces (mCons (m2 ixD (mPair (m2 dgetD (mPair (mVar 3) (mVar 6))) (mC (.int 1)))) mNil)) mNil))) (gDk 5 (mVar 6)))) (mDrop (mLstM 2 stAppend (mCons (mVar 5) mNil)))))))) (mRet (mVar 2))))
def F_law_copied : FSem := fnSem 7 [] m_law_copied
/-! ### are_letters -/
abbrev s_are_letters : Stmt := top 9
abbrev N_are_letters : List Str := ["thing", "index", "letter"]
abbrev P_are_letters : List Str := ["thing"]
def m_are_letters : Ip.Env → R Fl := (mSeq (mIfS (mOr (mNot (mTest (mUn (isiD "str") (mVar 0)))) (mNot (mTest (mChain leD leD (mC (.int 1)) (mArg oLen (mCons (mVar 0) mNil)) (mC (.int 4)))))) (mRet (mC (.bl false))) mNx) (mSeq (mFor (mEnumS (mVar 0)) (gTp 2 (gsCons (gNm 1) (gsCons (gNm 2) gsNil))) (mIfS (mOr (mNot (mTest (mChain leD leD (mC (.str "a")) (mVar 2) (mC (.str "z"))))) (mTest (m2 inD (mPair (mVar 2) (mSlice (mVar 0) mONone (mOSome (mVar 1))))))) (mRet (mC (.bl false))) mNx)) (mRet (mC (.bl true)))))
def F_are_letters : FSem := fnSem 3 [] m_are_letters
/-! ### are_signs -/
abbrev s_are_signs : Stmt := top 10
abbrev N_are_signs : List Str := ["thing", "index", "sign"]
abbrev P_are_signs : List Str := ["thing"]
def m_are_signs : Ip.Env → R Fl := (mSeq (mIfS (mOr (mNot (mTest (mUn (isiD "str") (mVar 0)))) (mNot (mTest (mChain leD leD (mC (.int 1)) (mArg oLen (mCons (mVar 0) mNil)) (mC (.int 8)))))) (mRet (mC (.bl false))) mNx) (mSeq (mFor (mEnumS (mVar 0)) (gTp 2 (gsCons (gNm 1) (gsCons (gNm 2) gsNil))) (mIfS (mOr (mNot (mTest (mChain leD leD (mC (.str " ")) (mVar 2) (mC (.str "~"))))) (mTest (m2 inD (mPair (mVar 2) (mSlice (mVar 0) mONone (mOSome (mVar 1))))))) (mRet (mC (.bl false))) mNx)) (mRet (mC (.bl true)))))
def F_are_signs : FSem := fnSem 3 [] m_are_signs
/-! ### is_of_signs -/
abbrev s_is_of_signs : Stmt := top 11
abbrev N_is_of_signs : List Str := ["thing", "signs", "sign"]
abbrev P_is_of_signs : List Str := ["thing", "signs"]
def m_is_of_signs : Ip.Env → R Fl := (mSeq (mIfS (mNot (mTest (mUn (isiD "str") (mVar 0)))) (mRet (mC (.bl false))) mNx) (mSeq (mFor (mSeqI (mVar 0)) (gNm 2) (mIfS (mTest (m2 notInD (mPair (mVar 2) (mVar 1)))) (mRet (mC (.bl false))) mNx)) (mRet (mC (.bl true)))))
def F_is_of_signs : FSem := fnSem 3 [] m_is_of_signs
/-! ### is_short -/
abbrev s_is_short : Stmt := top 16
abbrev N_is_short : List Str := ["thing", "signs"]
abbrev P_is_short : List Str := ["thing", "signs"]
def m_is_short : Ip.Env → R Fl := (mRet (mAndV (mCall0 F_is_of_signs (mCons (mVar 0) (mCons (mVar 1) mNil))) (m2 leD (mPair (mArg oLen (mCons (mVar 0) mNil)) (mC (.int 4))))))
def F_is_short : FSem := fnSem 2 [] m_is_short
/-! ### is_text_begin -/
abbrev s_is_text_begin : Stmt := top 19
abbrev N_is_text_begin : List Str := ["thing", "signs", "item"]
abbrev P_is_text_begin : List Str := ["thing", "signs"]
def m_is_text_begin : Ip.Env → R Fl := (mSeq (mIfS (mOr (mNot (mTest (mUn (isiD "list") (mVar 0)))) (mNot (mTest (mChain leD leD (mC (.int 1)) (mArg oLen (mCons (mVar 0) mNil)) (mC (.int 3)))))) (mRet (mC (.bl false))) mNx) (mSeq (mFor (mSeqI (mVar 0)) (gNm 2) (mIfS (mNot (mTest (mCall0 F_is_short (mCons (mVar 2) (mCons (mVar 1) mNil))))) (mRet (mC (.bl false))) mNx)) (mRet (mC (.bl true)))))
def F_is_text_begin : FSem := fnSem 3 [] m_is_text_begin
/-! ### has_letters -/
abbrev s_has_letters : Stmt := top 12
abbrev N_has_letters : List Str := ["thing", "letters", "letter"]
abbrev P_has_letters : List Str := ["thing", "letters"]
def m_has_letters : Ip.Env → R Fl := (mSeq (mIfS (mOr (mNot (mTest (mUn (isiD "dict") (mVar 0)))) (mTest (m2 neD (mPair (mArg oLenD (mCons (mVar 0) mNil)) (mArg oLen (mCons (mVar 1) mNil)))))) (mRet (mC (.bl false))) mNx) (mSeq (mFor (mSeqI (mVar 1)) (gNm 2) (mIfS (mTest (m2 notInKD (mPair (mVar 2) (mVar 0)))) (mRet (mC (.bl false))) mNx)) (mRet (mC (.bl true)))))
def F_has_letters : FSem := fnSem 3 [] m_has_letters
/-! ### is_integer -/
abbrev s_is_integer : Stmt := top 6
abbrev N_is_integer : List Str := ["thing"]
abbrev P_is_integer : List Str := ["thing"]
def m_is_integer : Ip.Env → R Fl := (mRet (mAndV (mUn (isiD "int") (mVar 0)) (mNotV (mUn (isiD "bool") (mVar 0)))))
def F_is_integer : FSem := fnSem 1 [] m_is_integer
/-! ### is_step -/
abbrev s_is_step : Stmt := top 13
abbrev N_is_step : List Str := ["thing", "rooms", "many", "room", "row"]
abbrev P_is_step : List Str := ["thing", "rooms", "many"]
def m_is_step : Ip.Env → R Fl := (mSeq (mIfS (mOr (mNot (mTest (mUn (isiD "tuple") (mVar 0)))) (mTest (m2 neD (mPair (mArg oLen (mCons (mVar 0) mNil)) (mC (.int 2)))))) (mRet (mC (.bl false))) mNx) (mSeq (mAsg (mVar 0) (gTp 2 (gsCons (gNm 3) (gsCons (gNm 4) gsNil)))) (mSeq (mIfS (mOr (mNot (mTest (mCall0 F_is_integer (mCons (mVar 3) mNil)))) (mNot (mTest (mChain leD ltD (mC (.int 0)) (mVar 3) (mVar 1))))) (mRet (mC (.bl false))) mNx) (mRet (mAndV (mUn (isiD "list") (mVar 4)) (m2 eqD (mPair (mArg oLen (mCons (mVar 4) mNil)) (mVar 2))))))))
def F_is_step : FSem := fnSem 5 [] m_is_step
/-! ### step_rows -/
abbrev s_step_rows : Stmt := top 14
abbrev N_step_rows : List Str := ["steps", "letters", "many", "rows", "room", "letter"]
abbrev P_step_rows : List Str := ["steps", "letters", "many"]
def m_step_rows : Ip.Env → R Fl := (mSeq (mIfS (mOr (mNot (mTest (mUn (isiD "list") (mVar 0)))) (mNot (mTest (mChain leD leD (mC (.int 1)) (mArg oLen (mCons (mVar 0) mNil)) (mC (.int 3)))))) (mRet (mC .non)) mNx) (mSeq (mSetO 3 (mLst mNil)) (mSeq (mFor (mSeqI (mVar 0)) (gNm 4) (mSeq (mIfS (mNot (mTest (mCall0 F_has_letters (mCons (mVar 4) (mCons (mVar 1) mNil))))) (mRet (mC .non)) mNx) (mFor (mSeqI (mVar 1)) (gNm 5) (mSeq (mIfS (mNot (mTest (mCall0 F_is_step (mCons (m2 dgetD (mPair (mVar 4) (mVar 5))) (mCons (mArg oLen (mCons (mVar 0) mNil)) (mCons (mVar 2) mNil)))))) (mRet (mC .non)) mNx) (mDrop (mLstM 3 stAppend (mCons (m2 ixD (mPair (m2 dgetD (mPair (mVar 4) (mVar 5))) (mC (.int 1)))) mNil))))))) (mRet (mVar 3)))))
def F_step_rows : FSem := fnSem 6 [] m_step_rows
/-! ### is_piece -/
abbrev s_is_piece : Stmt := top 17
abbrev N_is_piece : List Str := ["thing", "signs", "many", "item"]
abbrev P_is_piece : List Str := ["thing", "signs", "many"]
def m_is_piece : Ip.Env → R Fl := (mSeq (mIfS (mOr (mNot (mTest (mUn (isiD "list") (mVar 0)))) (mTest (m2 gtD (mPair (mArg oLen (mCons (mVar 0) mNil)) (mC (.int 3)))))) (mRet (mC (.bl false))) mNx) (mSeq (mFor (mSeqI (mVar 0)) (gNm 3) (mIfS (mTest (mCall0 F_is_integer (mCons (mVar 3) mNil))) (mIfS (mNot (mTest (mChain leD ltD (mC (.int 0)) (mVar 3) (mVar 2)))) (mRet (mC (.bl false))) mNx) (mIfS (mNot (mTest (mCall0 F_is_short (mCons (mVar 3) (mCons (mVar 1) mNil))))) (mRet (mC (.bl false))) mNx))) (mRet (mC (.bl true)))))
def F_is_piece : FSem := fnSem 4 [] m_is_piece
/-! ### all_pieces -/
abbrev s_all_pieces : Stmt := top 18
abbrev N_all_pieces : List Str := ["row", "signs", "many", "item"]
abbrev P_all_pieces : List Str := ["row", "signs", "many"]
def m_all_pieces : Ip.Env → R Fl := (mSeq (mFor (mSeqI (mVar 0)) (gNm 3) (mIfS (mNot (mTest (mCall0 F_is_piece (mCons (mVar 3) (mCons (mVar 1) (mCons (mVar 2) mNil)))))) (mRet (mC (.bl false))) mNx)) (mRet (mC (.bl true))))
def F_all_pieces : FSem := fnSem 4 [] m_all_pieces
/-! ### are_text_steps -/
abbrev s_are_text_steps : Stmt := top 20
abbrev N_are_text_steps : List Str := ["thing", "letters", "signs", "many", "rows", "row"]
abbrev P_are_text_steps : List Str := ["thing", "letters", "signs", "many"]
def m_are_text_steps : Ip.Env → R Fl := (mSeq (mSet 4 (mCall0 F_step_rows (mCons (mVar 0) (mCons (mVar 1) (mCons (mVar 3) mNil))))) (mSeq (mIfS (mTest (m2 isNoneD (mPair (mVar 4) (mC .non)))) (mRet (mC (.bl false))) mNx) (mSeq (mFor (mSeqI (mVar 4)) (gNm 5) (mIfS (mNot (mTest (mCall0 F_all_pieces (mCons (mVar 5) (mCons (mVar 2) (mCons (mVar 3) mNil)))))) (mRet (mC (.bl false))) mNx)) (mRet (mC (.bl true))))))
def F_are_text_steps : FSem := fnSem 6 [] m_are_text_steps
/-! ### copied_pieces -/
abbrev s_copied_pieces : Stmt := top 21
abbrev N_copied_pieces : List Str := ["row", "piece"]
abbrev P_copied_pieces : List Str := ["row"]
def m_copied_pieces : Ip.Env → R Fl := (mRet (mLc (mSeqI (mVar 0)) (gNm 1) mYes (mArg oList (mCons (mVar 1) mNil)) [1]))
def F_copied_pieces : FSem := fnSem 2 [] m_copied_pieces
/-! ### copied_text_steps -/
abbrev s_copied_text_steps : Stmt := top 22
abbrev N_copied_text_steps : List Str := ["steps", "letters", "copied", "room", "letter"]
abbrev P_copied_text_steps : List Str := ["steps", "letters"]
def m_copied_text_steps : Ip.Env → R Fl := (mSeq (mSetO 2 (mLst mNil)) (mSeq (mFor (mSeqI (mVar 0)) (gNm 3) (mDrop (mLstM 2 stAppend (mCons (mDc (mSeqI (mVar 1)) (gNm 4) mYes (mVar 4) (mTup (mCons (m2 ixD (mPair (m2 dgetD (mPair (mVar 3) (mVar 4))) (mC (.int 0)))) (mCons (mCall0 F_copied_pieces (mCons (m2 ixD (mPair (m2 dgetD (mPair (mVar 3) (mVar 4))) (mC (.int 1)))) mNil)) mNil))) [4]) mNil)))) (mRet (mVar 2))))
def F_copied_text_steps : FSem := fnSem 5 [] m_copied_text_steps
/-! ### TextWriter.__init__ -/
abbrev s_TextWriter___init__ : Stmt := inClass (top 23) 0
abbrev N_TextWriter___init__ : List Str := ["self", "letters", "signs", "begin", "steps", "told"]
abbrev P_TextWriter___init__ : List Str := ["self", "letters", "signs", "begin", "steps", "told"]
def m_TextWriter___init__ : Ip.Env → R Fl := (mSeq (mIfS (mNot (mTest (mCall0 F_are_letters (mCons (mVar 1) mNil)))) (fun _ => .bad) mNx) (mSeq (mIfS (mNot (mTest (mCall0 F_are_signs (mCons (mVar 2) mNil)))) (fun _ => .bad) mNx) (mSeq (mIfS (mNot (mTest (mCall0 F_is_text_begin (mCons (mVar 3) (mCons (mVar 2) mNil))))) (fun _ => .bad) mNx) (mSeq (mIfS (mNot (mTest (mCall0 F_are_text_steps (mCons (mVar 4) (mCons (mVar 1) (mCons (mVar 2) (mCons (mArg oLen (mCons (mVar 3) mNil)) mNil))))))) (fun _ => .bad) mNx) (mSeq (mIfS (mOr (mNot (mTest (mUn (isiD "list") (mVar 5)))) (mOr (mTest (m2 neD (mPair (mArg oLen (mCons (mVar 5) mNil)) (mArg oLen (mCons (mVar 4) mNil))))) (mNot (mTest (mCall0 F_all_pieces (mCons (mVar 5) (mCons (mVar 2) (mCons (mArg oLen (mCons (mVar 3) mNil)) mNil)))))))) (fun _ => .bad) mNx) (mSeq (mFldS 0 "TextWriter" "kept_letters" (mVar 1)) (mSeq (mFldS 0 "TextWriter" "kept_signs" (mVar 2)) (mSeq (mFldS 0 "TextWriter" "kept_begin" (mArg oList (mCons (mVar 3) mNil))) (mSeq (mFldS 0 "TextWriter" "kept_steps" (mCall0 F_copied_text_steps (mCons (mVar 4) (mCons (mVar 1) mNil)))) (mFldS 0 "TextWriter" "kept_told" (mCall0 F_copied_pieces (mCons (mVar 5) mNil))))))))))))
def F_TextWriter___init__ : FSem := fnSem 6 [0] m_TextWriter___init__
/-! ### _law_row -/
abbrev s_law_row : Stmt := top 33
abbrev N_law_row : List Str := ["_law_pool_here", "_law_letters_here", "_law_least", "_law_most", "_law_row_here", "_law_k"]
abbrev P_law_row : List Str := ["_law_pool_here", "_law_letters_here", "_law_least", "_law_most"]
def m_law_row : Ip.Env → R Fl := (mSeq (mSet 4 (mC (.str ""))) (mSeq (mFor (mArgI asR1 (mCons (m2 addD (mPair (mVar 2) (mCall1 F_law_draw 0 0 (mIo (mCons (m2 addD (mPair (m2 subD (mPair (mVar 3) (mVar 2))) (mC (.int 1)))) mNil))))) mNil)) (gNm 5) (mSet 4 (m2 addD (mPair (mVar 4) (m2 ixD (mPair (mVar 1) (mCall1 F_law_draw 0 0 (mIo (mCons (mArg oLen (mCons (mVar 1) mNil)) mNil))))))))) (mRet (mVar 4))))
def F_law_row : FSem := fnSem 6 [0] m_law_row
/-! ### _law_length -/
abbrev s_law_length : Stmt := top 39
abbrev N_law_length : List Str := ["_law_piece_here", "_law_lengths", "_law_item"]
abbrev P_law_length : List Str := ["_law_piece_here", "_law_lengths"]
def m_law_length : Ip.Env → R Fl := (mRet (mArg oSum (mCons (mLc (mSeqI (mVar 0)) (gNm 2) mYes (mIf (mTest (mUn (isiD "str") (mVar 2))) (mArg oLen (mCons (mVar 2) mNil)) (m2 ixD (mPair (mVar 1) (mVar 2)))) [2]) mNil)))
def F_law_length : FSem := fnSem 3 [] m_law_length
/-! ### _law_cut -/
abbrev s_law_cut : Stmt := top 40
abbrev N_law_cut : List Str := ["_law_begin", "_law_steps", "_law_row_here", "_law_room", "_law_lengths", "_law_k", "_law_target", "_law_made", "_law_longer", "_law_text", "_law_piece_here"]
abbrev P_law_cut : List Str := ["_law_begin", "_law_steps", "_law_row_here"]
def m_law_cut : Ip.Env → R Fl := (mSeq (mSet 3 (mC (.int 0))) (mSeq (mSet 4 (mLc (mSeqI (mVar 0)) (gNm 9) mYes (mArg oLen (mCons (mVar 9) mNil)) [9])) (mSeq (mFor (mArgI asR1 (mCons (mArg oLen (mCons (mVar 2) mNil)) mNil)) (gNm 5) (mSeq (mAsg (m2 dgetD (mPair (m2 ixD (mPair (mVar 1) (mVar 3))) (m2 ixD (mPair (mVar 2) (mVar 5))))) (gTp 2 (gsCons (gNm 6) (gsCons (gNm 7) gsNil)))) (mSeq (mSetO 8 (mLc (mSeqI (mVar 7)) (gNm 10) mYes (mCall0 F_law_length (mCons (mVar 10) (mCons (mVar 4) mNil))) [10])) (mSeq (mIfS (mAnd (mTest (m2 geD (mPair (mVar 5) (mC (.int 6))))) (mTest (m2 gtD (mPair (mArg oSum (mCons (mVar 8) mNil)) (mC (.int 6000)))))) (mRet (mSlice (mVar 2) mONone (mOSome (mVar 5)))) mNx) (mSeq (mSet 4 (mVar 8)) (mSet 3 (mVar 6))))))) (mRet (mVar 2)))))
def F_law_cut : FSem := fnSem 11 [] m_law_cut
/-! ### _law_joined -/
abbrev s_law_joined : Stmt := top 38
abbrev N_law_joined : List Str := ["_law_piece_here", "_law_registers", "_law_text", "_law_item"]
abbrev P_law_joined : List Str := ["_law_piece_here", "_law_registers"]
def m_law_joined : Ip.Env → R Fl := (mSeq (mSet 2 (mC (.str ""))) (mSeq (mFor (mSeqI (mVar 0)) (gNm 3) (mIfS (mTest (mUn (isiD "str") (mVar 3))) (mSet 2 (m2 addD (mPair (mVar 2) (mVar 3)))) (mSet 2 (m2 addD (mPair (mVar 2) (m2 ixD (mPair (mVar 1) (mVar 3)))))))) (mRet (mVar 2))))
def F_law_joined : FSem := fnSem 4 [] m_law_joined
/-! ### _law_run -/
abbrev s_law_run : Stmt := top 41
abbrev N_law_run : List Str := ["_law_begin", "_law_steps", "_law_row_here", "_law_room", "_law_registers", "_law_letter", "_law_target", "_law_made", "_law_piece_here"]
abbrev P_law_run : List Str := ["_law_begin", "_law_steps", "_law_row_here"]
def m_law_run : Ip.Env → R Fl := (mSeq (mSet 3 (mC (.int 0))) (mSeq (mSet 4 (mArg oList (mCons (mVar 0) mNil))) (mSeq (mFor (mSeqI (mVar 2)) (gNm 5) (mSeq (mAsg (m2 dgetD (mPair (m2 ixD (mPair (mVar 1) (mVar 3))) (mVar 5))) (gTp 2 (gsCons (gNm 6) (gsCons (gNm 7) gsNil)))) (mSeq (mSet 4 (mLc (mSeqI (mVar 7)) (gNm 8) mYes (mCall0 F_law_joined (mCons (mVar 8) (mCons (mVar 4) mNil))) [8])) (mSet 3 (mVar 6))))) (mRet (mTup (mCons (mVar 3) (mCons (mArg oTup (mCons (mVar 4) mNil)) mNil)))))))
def F_law_run : FSem := fnSem 9 [] m_law_run
/-! ### _law_bad_row -/
abbrev s_law_bad_row : Stmt := top 44
abbrev N_law_bad_row : List Str := ["_law_pool_here", "_law_letters_here", "_law_row_here", "_law_kind", "_law_at", "_law_others", "_law_other", "_law_sign"]
abbrev P_law_bad_row : List Str := ["_law_pool_here", "_law_letters_here", "_law_row_here"]
def m_law_bad_row : Ip.Env → R Fl := (mSeq (mSet 3 (mCall1 F_law_draw 0 0 (mIo (mCons (mC (.int 10)) mNil)))) (mSeq (mSet 4 (mCall1 F_law_draw 0 0 (mIo (mCons (m2 addD (mPair (mArg oLen (mCons (mVar 2) mNil)) (mC (.int 1)))) mNil)))) (mSeq (mSetO 5 (mLc (mSeqI (mArg oListS (mCons (mC (.str "abcdefghijklmnopqrstuvwxyzAMZ`{ 09_-")) mNil))) (gNm 7) (mTest (m2 notInD (mPair (mVar 7) (mVar 1)))) (mVar 7) [7])) (mSeq (mSet 6 (m2 ixD (mPair (mVar 5) (mCall1 F_law_draw 0 0 (mIo (mCons (mArg oLen (mCons (mVar 5) mNil)) mNil)))))) (mSeq (mIfS (mTest (m2 ltD (mPair (mVar 3) (mC (.int 4))))) (mRet (m2 addD (mPair (m2 addD (mPair (mSlice (mVar 2) mONone (mOSome (mVar 4))) (mVar 6))) (mSlice (mVar 2) (mOSome (mVar 4)) mONone)))) mNx) (mSeq (mIfS (mTest (m2 eqD (mPair (mVar 3) (mC (.int 4))))) (mRet (mArg oListS (mCons (mVar 2) mNil))) mNx) (mRet (m2 ixD (mPair (mTup (mCons (mC .non) (mCons (mVar 4) (mCons (mC (.bl true)) (mCons (mArg oTupS (mCons (mVar 2) mNil)) (mCons (mC (.dic [] [])) mNil)))))) (m2 subD (mPair (mVar 3) (mC (.int 5)))))))))))))
def F_law_bad_row : FSem := fnSem 8 [0] m_law_bad_row
/-! ### _law_is_integer -/
abbrev s_law_is_integer : Stmt := top 30
abbrev N_law_is_integer : List Str := ["_law_actual"]
abbrev P_law_is_integer : List Str := ["_law_actual"]
def m_law_is_integer : Ip.Env → R Fl := (mRet (mAndV (mUn (isiD "int") (mVar 0)) (mNotV (mUn (isiD "bool") (mVar 0)))))
def F_law_is_integer : FSem := fnSem 1 [] m_law_is_integer
/-! ### _law_exact -/
abbrev s_law_exact : Stmt := top 31
abbrev N_law_exact : List Str := ["_law_actual", "_law_due", "_law_key", "_law_k"]
abbrev P_law_exact : List Str := ["_law_actual", "_law_due"]
def m_law_exact (Fr : FSem) : Ip.Env → R Fl := (mSeq (mIfS (mTest (mUn (isiD "dict") (mVar 1))) (fun _ => .bad) mNx) (mSeq (mIfS (mOr (mTest (mUn (isiD "list") (mVar 1))) (mTest (mUn (isiD "tuple") (mVar 1)))) (mSeq (mIfS (mAnd (mTest (mUn (isiD "list") (mVar 1))) (mNot (mTest (mUn (isiD "list") (mVar 0))))) (mRet (mC (.bl false))) mNx) (mSeq (mIfS (mAnd (mTest (mUn (isiD "tuple") (mVar 1))) (mNot (mTest (mUn (isiD "tuple") (mVar 0))))) (mRet (mC (.bl false))) mNx) (mSeq (mIfS (mTest (m2 neD (mPair (mArg oLen (mCons (mVar 0) mNil)) (mArg oLen (mCons (mVar 1) mNil))))) (mRet (mC (.bl false))) mNx) (mSeq (mFor (mArgI asR1 (mCons (mArg oLen (mCons (mVar 1) mNil)) mNil)) (gNm 3) (mIfS (mNot (mTest (mCall0 Fr (mCons (m2 ixD (mPair (mVar 0) (mVar 3))) (mCons (m2 ixD (mPair (mVar 1) (mVar 3))) mNil))))) (mRet (mC (.bl false))) mNx)) (mRet (mC (.bl true))))))) mNx) (mSeq (mIfS (mTest (mUn (isiD "str") (mVar 1))) (mRet (mAndV (mUn (isiD "str") (mVar 0)) (m2 eqD (mPair (mVar 0) (mVar 1))))) mNx) (mRet (mAndV (mCall0 F_law_is_integer (mCons (mVar 0) mNil)) (m2 eqD (mPair (mVar 0) (mVar 1))))))))
def F_law_exact : Nat → FSem
  | 0 => fnSem 4 [] fun _ => .bad
  | n + 1 => fnSem 4 [] (m_law_exact (F_law_exact n))
/-! ### is_row -/
abbrev s_is_row : Stmt := top 7
abbrev N_is_row : List Str := ["thing", "letters", "char"]
abbrev P_is_row : List Str := ["thing", "letters"]
def m_is_row : Ip.Env → R Fl := (mSeq (mIfS (mNot (mTest (mUn (isiD "str") (mVar 0)))) (mRet (mC (.bl false))) mNx) (mSeq (mFor (mSeqI (mVar 0)) (gNm 2) (mIfS (mTest (m2 notInD (mPair (mVar 2) (mVar 1)))) (mRet (mC (.bl false))) mNx)) (mRet (mC (.bl true)))))
def F_is_row : FSem := fnSem 3 [] m_is_row
/-! ### piece_text -/
abbrev s_piece_text : Stmt := top 24
abbrev N_piece_text : List Str := ["piece", "registers", "parts", "item"]
abbrev P_piece_text : List Str := ["piece", "registers"]
def m_piece_text : Ip.Env → R Fl := (mSeq (mSetO 2 (mLst mNil)) (mSeq (mFor (mSeqI (mVar 0)) (gNm 3) (mIfS (mTest (mUn (isiD "int") (mVar 3))) (mDrop (mLstM 2 stAppend (mCons (m2 ixD (mPair (mVar 1) (mVar 3))) mNil))) (mDrop (mLstM 2 stAppend (mCons (mVar 3) mNil))))) (mRet (mStrM oJoin (mC (.str "")) (mOwn 2 mNil)))))
def F_piece_text : FSem := fnSem 4 [] m_piece_text
/-! ### text_step -/
abbrev s_text_step : Stmt := top 25
abbrev N_text_step : List Str := ["writer", "room", "registers", "letter", "target", "row", "piece"]
abbrev P_text_step : List Str := ["writer", "room", "registers", "letter"]
def m_text_step : Ip.Env → R Fl := (mSeq (mAsg (m2 dgetD (mPair (m2 ixD (mPair (mFld ["TextWriter"] "kept_steps" (mVar 0)) (mVar 1))) (mVar 3))) (gTp 2 (gsCons (gNm 4) (gsCons (gNm 5) gsNil)))) (mRet (mTup (mCons (mVar 4) (mCons (mArg oTup (mCons (mLc (mSeqI (mVar 5)) (gNm 6) mYes (mCall0 F_piece_text (mCons (mVar 6) (mCons (mVar 2) mNil))) [6]) mNil)) mNil)))))
def F_text_step : FSem := fnSem 7 [] m_text_step
/-! ### TextWriter.stands -/
abbrev s_TextWriter_stands : Stmt := inClass (top 23) 7
abbrev N_TextWriter_stands : List Str := ["self", "row", "room", "registers", "letter"]
abbrev P_TextWriter_stands : List Str := ["self", "row"]
def m_TextWriter_stands : Ip.Env → R Fl := (mSeq (mIfS (mNot (mTest (mCall0 F_is_row (mCons (mVar 1) (mCons (mFld ["TextWriter"] "kept_letters" (mVar 0)) mNil))))) (mRaise "NoRow") mNx) (mSeq (mSet 2 (mC (.int 0))) (mSeq (mSet 3 (mArg oTup (mCons (mFld ["TextWriter"] "kept_begin" (mVar 0)) mNil))) (mSeq (mFor (mSeqI (mVar 1)) (gNm 4) (mAsg (mCall0 F_text_step (mCons (mVar 0) (mCons (mVar 2) (mCons (mVar 3) (mCons (mVar 4) mNil))))) (gTp 2 (gsCons (gNm 2) (gsCons (gNm 3) gsNil))))) (mRet (mTup (mCons (mVar 2) (mCons (mVar 3) mNil))))))))
def F_TextWriter_stands : FSem := fnSem 5 [] m_TextWriter_stands
/-! ### text_told -/
abbrev s_text_told : Stmt := top 26
abbrev N_text_told : List Str := ["writer", "room", "registers"]
abbrev P_text_told : List Str := ["writer", "room", "registers"]
def m_text_told : Ip.Env → R Fl := (mRet (mCall0 F_piece_text (mCons (m2 ixD (mPair (mFld ["TextWriter"] "kept_told" (mVar 0)) (mVar 1))) (mCons (mVar 2) mNil))))
def F_text_told : FSem := fnSem 3 [] m_text_told
/-! ### TextWriter.tells -/
abbrev s_TextWriter_tells : Stmt := inClass (top 23) 8
abbrev N_TextWriter_tells : List Str := ["self", "row", "room", "registers"]
abbrev P_TextWriter_tells : List Str := ["self", "row"]
def m_TextWriter_tells : Ip.Env → R Fl := (mSeq (mAsg (mMeth ["TextWriter"] "stands" F_TextWriter_stands (mVar 0) (mCons (mVar 1) mNil)) (gTp 2 (gsCons (gNm 2) (gsCons (gNm 3) gsNil)))) (mRet (mCall0 F_text_told (mCons (mVar 0) (mCons (mVar 2) (mCons (mVar 3) mNil))))))
def F_TextWriter_tells : FSem := fnSem 4 [] m_TextWriter_tells
/-! ### _law_told -/
abbrev s_law_told : Stmt := top 45
abbrev N_law_told : List Str := ["_law_writer", "_law_row_here", "_law_stands", "_law_tells", "_law_first", "_law_way"]
abbrev P_law_told : List Str := ["_law_writer", "_law_row_here", "_law_stands", "_law_tells", "_law_first"]
def m_law_told : Ip.Env → R Fl := (mSeq (mFor (mSeqI (mTup (mCons (mVar 4) (mCons (m2 subD (mPair (mC (.int 1)) (mVar 4))) mNil)))) (gNm 5) (mSeq (mIfS (mAnd (mTest (m2 eqD (mPair (mVar 5) (mC (.int 0))))) (mNot (mTest (mCall0 (F_law_exact 3) (mCons (mMeth ["TextWriter"] "tells" F_TextWriter_tells (mVar 0) (mCons (mVar 1) mNil)) (mCons (mVar 3) mNil)))))) (mRet (mC (.bl false))) mNx) (mIfS (mAnd (mTest (m2 eqD (mPair (mVar 5) (mC (.int 1))))) (mNot (mTest (mCall0 (F_law_exact 3) (mCons (mMeth ["TextWriter"] "stands" F_TextWriter_stands (mVar 0) (mCons (mVar 1) mNil)) (mCons (mVar 2) mNil)))))) (mRet (mC (.bl false))) mNx))) (mRet (mC (.bl true))))
def F_law_told : FSem := fnSem 6 [] m_law_told
/-! ### _law_refused -/
abbrev s_law_refused : Stmt := top 46
abbrev N_law_refused : List Str := ["_law_writer", "_law_thing", "_law_way", "_law_refused_here", "e"]
abbrev P_law_refused : List Str := ["_law_writer", "_law_thing", "_law_way"]
def m_law_refused : Ip.Env → R Fl := (mSeq (mSet 3 (mC (.bl false))) (mSeq (mTry "NoRow" 4 3 (.bl (true && ((!false) && (!false)))) (mIfS (mTest (m2 eqD (mPair (mVar 2) (mC (.int 0))))) (mDrop (mMeth ["TextWriter"] "tells" F_TextWriter_tells (mVar 0) (mCons (mVar 1) mNil))) (mDrop (mMeth ["TextWriter"] "stands" F_TextWriter_stands (mVar 0) (mCons (mVar 1) mNil))))) (mRet (mVar 3))))
def F_law_refused : FSem := fnSem 5 [] m_law_refused
/-! ### law -/
abbrev s_law : Stmt := top 47
abbrev N_law : List Str := ["_law_script", "_law_pool_here", "_law_letters_here", "_law_signs_here", "_law_begin", "_law_steps", "_law_told_here", "_law_given", "_law_writer", "_law_at", "_law_turn", "_law_row_here", "_law_stands", "_law_tells", "_law_bad"]
abbrev P_law : List Str := ["_law_script"]
def m_law : Ip.Env → R Fl := (mSeq (mSetO 1 (mCall0 F_law_pool (mCons (mVar 0) (mCons (mC (.int 0)) mNil)))) (mSeq (mAsg (mCall1 F_law_texts 0 1 (mIo mNil)) (gTp 5 (gsCons (gNm 2) (gsCons (gNm 3) (gsCons (gNm 4) (gsCons (gNm 5) (gsCons (gNm 6) gsNil))))))) (mSeq (mSet 7 (mCall0 F_law_copied (mCons (mVar 5) (mCons (m2 eqD (mPair (mCall1 F_law_draw 0 1 (mIo (mCons (mC (.int 2)) mNil))) (mC (.int 1)))) mNil)))) (mSeq (mSet 8 (mMake "TextWriter" F_TextWriter___init__ (mCons (mVar 2) (mCons (mVar 3) (mCons (mArg oList (mCons (mVar 4) mNil)) (mCons (mVar 7) (mCons (mCall0 F_law_pieces (mCons (mVar 6) mNil)) mNil))))))) (mSeq (mFor (mArgI asR2 (mCons (mC (.int 1)) (mCons (mArg oMax (mCons (mC (.int 4)) (mCons (mArg oMin (mCons (mArg oLen (mCons (mVar 0) mNil)) (mCons (mC (.int 40)) mNil))) mNil))) mNil))) (gNm 9) (mSeq (mSetO 10 (mCall0 F_law_pool (mCons (mVar 0) (mCons (mVar 9) mNil)))) (mSeq (mSet 11 (mCall1 F_law_row 0 10 (mIo (mCons (mVar 2) (mCons (m2 ixD (mPair (mLst (mCons (mC (.int 0)) (mCons (mC (.int 0)) (mCons (mC (.int 0)) (mCons (mC (.int 7)) mNil))))) (mCall1 F_law_draw 0 10 (mIo (mCons (mC (.int 4)) mNil))))) (mCons (mC (.int 8)) mNil)))))) (mSeq (mSet 11 (mCall0 F_law_cut (mCons (mVar 4) (mCons (mVar 5) (mCons (mVar 11) mNil))))) (mSeq (mSet 12 (mCall0 F_law_run (mCons (mVar 4) (mCons (mVar 5) (mCons (mVar 11) mNil))))) (mSeq (mSet 13 (mCall0 F_law_joined (mCons (m2 ixD (mPair (mVar 6) (m2 ixD (mPair (mVar 12) (mC (.int 0)))))) (mCons (m2 ixD (mPair (mVar 12) (mC (.int 1)))) mNil)))) (mSeq (mSet 14 (mCall1 F_law_bad_row 0 10 (mIo (mCons (mVar 2) (mCons (mCall1 F_law_row 0 10 (mIo (mCons (mVar 2) (mCons (mC (.int 0)) (mCons (mC (.int 4)) mNil))))) mNil))))) (mSeq (mIfS (mNot (mTest (mCall0 F_law_told (mCons (mVar 8) (mCons (mVar 11) (mCons (mVar 12) (mCons (mVar 13) (mCons (mCall1 F_law_draw 0 10 (mIo (mCons (mC (.int 2)) mNil))) mNil)))))))) (mRet (mC (.bl false))) mNx) (mSeq (mIfS (mOr (mNot (mTest (mCall0 F_law_refused (mCons (mVar 8) (mCons (mVar 14) (mCons (mC (.int 0)) mNil)))))) (mNot (mTest (mCall0 F_law_refused (mCons (mVar 8) (mCons (mVar 14) (mCons (mC (.int 1)) mNil))))))) (mRet (mC (.bl false))) mNx) (mIfS (mNot (mTest (mCall0 F_law_told (mCons (mVar 8) (mCons (mVar 11) (mCons (mVar 12) (mCons (mVar 13) (mCons (mC (.int 0)) mNil)))))))) (mRet (mC (.bl false))) mNx)))))))))) (mRet (mC (.bl true))))))))
def F_law : FSem := fnSem 15 [] m_law
end Wk29
set_option maxHeartbeats 4000000
namespace Wk29
open PySem L2 PySem.Spec PyProof.Rows Ip
section
variable {P : Program} {w : World} {K : PySem.W.Frag} {mg : Str → Option Value} {base : Heap} {ct : Str → Option Addr}
theorem sc_law_pool : FnScope N_law_pool P_law_pool (defScope s_law_pool) := ⟨rfl, rfl, rfl, by decide +kernel, rfl, by decide +kernel, by decide +kernel⟩
theorem ok_law_pool {f : Addr} {fd : FuncData} (B : Blt mg)  (F : FunD K "_law_pool" "_law_pool" (defArgs s_law_pool) (defBody s_law_pool) (defScope s_law_pool) [] [] f fd) : FnOk P w K mg base (L2.CX P w) 1 f fd P_law_pool (spF K ct 2 [] true F_law_pool) := def_okD (k := 0) F sc_law_pool rfl fun cdv A outer s H E hid ioA hr =>
  (ss_cons (ss_if (sp_cmp2 (or_or op_lt op_lt_str) lt_ok (s2_ee (se_var 1) (se_calB call_len cal_len B.n_len (sv_cons (se_var 0) sv_nil)))) (ss_one (ss_ret (se_lst (sa_cons (se_calB call_abs cal_abs B.n_abs (sv_cons (se_ix2 ix_seq ix_ok (s2_ee (se_var 0) (se_var 1))) sv_nil)) (sa_cons (se_bin2 (or_or op_mul op_mulW) mul_ok (s2_ee (se_int (fr := false)) (se_var 1))) sa_nil))))) ss_nil) (ss_one (ss_ret (se_lst (sa_cons (se_bin2 (or_or op_add op_add_str) add_ok (s2_ee (se_bin2 op_mod mod_ok (s2_ee (se_calT call_int1 cal_int B.n_int (sv_cons (se_calB (cr_sum rfl) cal_sum B.n_sum (sv_cons (se_cutL (se_var 0)) sv_nil)) sv_nil)) (se_int (fr := false)))) (se_bin2 (or_or op_mul op_mulW) mul_ok (s2_ee (se_int (fr := false)) (se_var 1))))) (sa_cons (se_bin2 (or_or op_mul op_mulW) mul_ok (s2_ee (se_int (fr := false)) (se_var 1))) sa_nil))))))
theorem bi_law_pool {f : Addr} {fd : FuncData} (F : FunD K "_law_pool" "_law_pool" (defArgs s_law_pool) (defBody s_law_pool) (defScope s_law_pool) [] [] f fd) : Binds K fd P_law_pool [] := F.bindsN fun _ _ _ _ _ _ us hl => match us, hl with | [_, _], _ => rfl
theorem sc_law_copied : FnScope N_law_copied P_law_copied (defScope s_law_copied) := ⟨rfl, rfl, rfl, by decide +kernel, rfl, by decide +kernel, by decide +kernel⟩
theorem ok_law_copied {f : Addr} {fd : FuncData} (B : Blt mg) (h_law_pieces : Fn P w K mg base ct "_law_pieces" 1 1 [] false F_law_pieces) (F : FunD K "_law_copied" "_law_copied" (defArgs s_law_copied) (defBody s_law_copied) (defScope s_law_copied) [] [] f fd) : FnOk P w K mg base (L2.CX P w) 2 f fd P_law_copied (spF K ct 2 [] false F_law_copied) := def_okD (k := 1) F sc_law_copied rfl fun cdv A outer s H E hid ioA hr =>
  (ss_cons (ss_setO 2 (Γ2 := []) sc_law_copied.nd (se_lst sa_nil)) (ss_cons (ss_for cx_own rfl (si_seq (se_var 0)) (sg_name 3 sc_law_copied.nd) (ss_cons (ss_set 4 (Γ2 := [2]) sc_law_copied.nd (se_fz (se_calO (call_listD rfl) cal_listDK B.n_list (sv_cons (se_var 3) sv_nil)))) (ss_cons (ss_if (sp_val (se_var 1)) (ss_one (ss_set 4 (Γ2 := [2]) sc_law_copied.nd (se_fz (se_listRev rfl (se_var 4) B.n_list B.n_reversed)))) ss_nil) (ss_cons (ss_setO 5 (Γ2 := [2]) sc_law_copied.nd se_dnew) (ss_cons (ss_for cx_own rfl (si_seq (se_var 4)) (sg_name 6 sc_law_copied.nd) (ss_one (ss_asg (se_tup (sa_cons (se_ix2 ix_seq ix_ok (s2_ee (se_dget (room1 hr) (s2_ee (se_var 3) (se_var 6))) (se_int (fr := false)))) (sa_cons (se_call0 h_law_pieces cx_takes (hr.mono (by decide)) (sa_cons (se_ix2 ix_seq ix_ok (s2_ee (se_dget (room1 hr) (s2_ee (se_var 3) (se_var 6))) (se_int (fr := false)))) sa_nil)) sa_nil))) (sg_dk (W := Wn) 5 (room1 hr) (se_var 6))))) (ss_one (ss_expr (se_lstM 2 PySem.F.slot_list_append PySem.F.type_list_append mt_append append_ok (sa_cons (se_varF 5 [2]) sa_nil))))))))) (ss_one (ss_ret (se_varF 2 [])))))
theorem bi_law_copied {f : Addr} {fd : FuncData} (F : FunD K "_law_copied" "_law_copied" (defArgs s_law_copied) (defBody s_law_copied) (defScope s_law_copied) [] [] f fd) : Binds K fd P_law_copied [] := F.bindsN fun _ _ _ _ _ _ us hl => match us, hl with | [_, _], _ => rfl
theorem sc_is_step : FnScope N_is_step P_is_step (defScope s_is_step) := ⟨rfl, rfl, rfl, by decide +kernel, rfl, by decide +kernel, by decide +kernel⟩
theorem ok_is_step {f : Addr} {fd : FuncData} (B : Blt mg) (h_is_integer : Fn P w K mg base ct "is_integer" 1 1 [] false F_is_integer) (F : FunD K "is_step" "is_step" (defArgs s_is_step) (defBody s_is_step) (defScope s_is_step) [] [] f fd) : FnOk P w K mg base (L2.CX P w) 2 f fd P_is_step (spF K ct 3 [] false F_is_step) := def_okD (k := 1) F sc_is_step rfl fun cdv A outer s H E hid ioA hr =>
  (ss_cons (ss_if (SW.pt (sw_or (sp_not (sp_val (se_isi (se_var 0) kb_tuple B.n_isinstance B.n_tuple))) (sw_or1 (sp_cmp2 (op_neD (room64 hr)) ne_ok (s2_ee (se_calB call_len cal_len B.n_len (sv_cons (se_var 0) sv_nil)) (se_int (fr := false))))))) (ss_one (ss_ret (se_bl (fr := false)))) ss_nil) (ss_cons (ss_asg (se_var 0) (sg_tup rfl (sgs_cons (sg_name 3 sc_is_step.nd) (sgs_cons (sg_name 4 sc_is_step.nd) sgs_nil)))) (ss_cons (ss_if (SW.pt (sw_or (sp_not (sp_val (se_call0 h_is_integer cx_takes (hr.mono (by decide)) (sa_cons (se_var 3) sa_nil)))) (sw_or1 (sp_not (sp_chain (or_or op_le op_le_str) (or_or op_lt op_lt_str) le_ok lt_ok (se_int (fr := false)) (se_var 3) (se_var 1)))))) (ss_one (ss_ret (se_bl (fr := false)))) ss_nil) (ss_one (ss_ret (se_and (se_isi (se_var 4) kb_list B.n_isinstance B.n_list) (se_one (se_cmp2 (op_eqD (room64 hr)) eq_ok (s2_ee (se_calB call_len cal_len B.n_len (sv_cons (se_var 4) sv_nil)) (se_var 2))))))))))
theorem bi_is_step {f : Addr} {fd : FuncData} (F : FunD K "is_step" "is_step" (defArgs s_is_step) (defBody s_is_step) (defScope s_is_step) [] [] f fd) : Binds K fd P_is_step [] := F.bindsN fun _ _ _ _ _ _ us hl => match us, hl with | [_, _, _], _ => rfl
theorem sc_law_row : FnScope N_law_row P_law_row (defScope s_law_row) := ⟨rfl, rfl, rfl, by decide +kernel, rfl, by decide +kernel, by decide +kernel⟩
theorem ok_law_row {f : Addr} {fd : FuncData} (B : Blt mg) (h_law_draw : Fn P w K mg base ct "_law_draw" 1 2 [0] false F_law_draw) (F : FunD K "_law_row" "_law_row" (defArgs s_law_row) (defBody s_law_row) (defScope s_law_row) [] [] f fd) : FnOk P w K mg base (L2.CX P w) 2 f fd P_law_row (spF K ct 4 [0] false F_law_row) := def_okD (k := 1) F sc_law_row rfl fun cdv A outer s H E hid ioA hr =>
  (ss_cons (ss_set 4 (Γ2 := [0]) sc_law_row.nd (se_str (fr := false))) (ss_cons (ss_for cx_own rfl (si_range1 (sa_cons (se_bin2 (or_or op_add op_add_str) add_ok (s2_ee (se_var 2) (se_call1 h_law_draw cx_takes (hr.mono (by decide)) (sa_io 0 (sa_cons (se_bin2 (or_or op_add op_add_str) add_ok (s2_ee (se_bin2 op_sub sub_ok (s2_ee (se_var 3) (se_var 2))) (se_int (fr := false)))) sa_nil))))) sa_nil) B.n_range) (sg_name 5 sc_law_row.nd) (ss_one (ss_set 4 (Γ2 := [0]) sc_law_row.nd (se_bin2 (or_or op_add op_add_str) add_ok (s2_ee (se_var 4) (se_ix2 ix_seq ix_ok (s2_ee (se_var 1) (se_call1 h_law_draw cx_takes (hr.mono (by decide)) (sa_io 0 (sa_cons (se_calB call_len cal_len B.n_len (sv_cons (se_var 1) sv_nil)) sa_nil)))))))))) (ss_one (ss_ret (se_var 4)))))
theorem bi_law_row {f : Addr} {fd : FuncData} (F : FunD K "_law_row" "_law_row" (defArgs s_law_row) (defBody s_law_row) (defScope s_law_row) [] [] f fd) : Binds K fd P_law_row [] := F.bindsN fun _ _ _ _ _ _ us hl => match us, hl with | [_, _, _, _], _ => rfl
theorem sc_is_row : FnScope N_is_row P_is_row (defScope s_is_row) := ⟨rfl, rfl, rfl, by decide +kernel, rfl, by decide +kernel, by decide +kernel⟩
theorem ok_is_row {f : Addr} {fd : FuncData} (B : Blt mg)  (F : FunD K "is_row" "is_row" (defArgs s_is_row) (defBody s_is_row) (defScope s_is_row) [] [] f fd) : FnOk P w K mg base (L2.CX P w) 1 f fd P_is_row (spF K ct 2 [] false F_is_row) := def_okD (k := 0) F sc_is_row rfl fun cdv A outer s H E hid ioA hr =>
  (ss_cons (ss_if (sp_not (sp_val (se_isi (se_var 0) kb_str B.n_isinstance B.n_str))) (ss_one (ss_ret (se_bl (fr := false)))) ss_nil) (ss_cons (ss_for cx_own rfl (si_seq (se_var 0)) (sg_name 2 sc_is_row.nd) (ss_one (ss_if (sp_cmp2 op_notIn_sign notInS_ok (s2_ee (se_var 2) (se_var 1))) (ss_one (ss_ret (se_bl (fr := false)))) ss_nil))) (ss_one (ss_ret (se_bl (fr := false))))))
theorem bi_is_row {f : Addr} {fd : FuncData} (F : FunD K "is_row" "is_row" (defArgs s_is_row) (defBody s_is_row) (defScope s_is_row) [] [] f fd) : Binds K fd P_is_row [] := F.bindsN fun _ _ _ _ _ _ us hl => match us, hl with | [_, _], _ => rfl
theorem sc_law : FnScope N_law P_law (defScope s_law) := ⟨rfl, rfl, rfl, by decide +kernel, rfl, by decide +kernel, by decide +kernel⟩
theorem ok_law {f : Addr} {fd : FuncData} (B : Blt mg) (h_law_pool : Fn P w K mg base ct "_law_pool" 1 2 [] true F_law_pool) (h_law_texts : Fn P w K mg base ct "_law_texts" 4 1 [0] false F_law_texts) (h_law_copied : Fn P w K mg base ct "_law_copied" 2 2 [] false F_law_copied) (h_law_draw : Fn P w K mg base ct "_law_draw" 1 2 [0] false F_law_draw) (h_mk_TextWriter : Mkr P w K mg base ct "TextWriter" 6 6 F_TextWriter___init__) (h_law_pieces : Fn P w K mg base ct "_law_pieces" 1 1 [] false F_law_pieces) (h_law_row : Fn P w K mg base ct "_law_row" 2 4 [0] false F_law_row) (h_law_cut : Fn P w K mg base ct "_law_cut" 2 3 [] false F_law_cut) (h_law_run : Fn P w K mg base ct "_law_run" 2 3 [] false F_law_run) (h_law_joined : Fn P w K mg base ct "_law_joined" 1 2 [] false F_law_joined) (h_law_bad_row : Fn P w K mg base ct "_law_bad_row" 2 3 [0] false F_law_bad_row) (h_law_told : Fn P w K mg base ct "_law_told" 5 5 [] false F_law_told) (h_law_refused : Fn P w K mg base ct "_law_refused" 5 3 [] false F_law_refused) (F : FunD K "law" "law" (defArgs s_law) (defBody s_law) (defScope s_law) [] [] f fd) : FnOk P w K mg base (L2.CX P w) 8 f fd P_law (spF K ct 1 [] false F_law) := def_okD (k := 7) F sc_law rfl fun cdv A outer s H E hid ioA hr =>
  (ss_cons (ss_setO 1 (Γ2 := []) sc_law.nd (se_call0 h_law_pool cx_takes (hr.mono (by decide)) (sa_cons (se_var 0) (sa_cons (se_int (fr := false)) sa_nil)))) (ss_cons (ss_asg (se_call1 h_law_texts cx_takes (hr.mono (by decide)) (sa_io 1 sa_nil)) (sg_tup rfl (sgs_cons (sg_name 2 sc_law.nd) (sgs_cons (sg_name 3 sc_law.nd) (sgs_cons (sg_name 4 sc_law.nd) (sgs_cons (sg_name 5 sc_law.nd) (sgs_cons (sg_name 6 sc_law.nd) sgs_nil))))))) (ss_cons (ss_set 7 (Γ2 := [1]) sc_law.nd (se_call0 h_law_copied cx_takes (hr.mono (by decide)) (sa_cons (se_var 5) (sa_cons (se_cmp2 (op_eqD (room64 hr)) eq_ok (s2_ee (se_call1 h_law_draw cx_takes (hr.mono (by decide)) (sa_io 1 (sa_cons (se_int (fr := false)) sa_nil))) (se_int (fr := false)))) sa_nil)))) (ss_cons (ss_set 8 (Γ2 := [1]) sc_law.nd (se_fz (se_make h_mk_TextWriter cx_takes (hr.mono (by decide)) (sa_cons (se_var 2) (sa_cons (se_var 3) (sa_cons (se_calO call_list_of cal_list B.n_list (sv_cons (se_var 4) sv_nil)) (sa_cons (se_var 7) (sa_cons (se_call0 h_law_pieces cx_takes (hr.mono (by decide)) (sa_cons (se_var 6) sa_nil)) sa_nil)))))))) (ss_cons (ss_for cx_own rfl (si_range2 (sa_cons (se_int (fr := false)) (sa_cons (se_calB (call_max2 rfl) cal_max B.n_max (sv_cons (se_int (fr := false)) (sv_cons (se_calB (call_min2 rfl) cal_min B.n_min (sv_cons (se_calB call_len cal_len B.n_len (sv_cons (se_var 0) sv_nil)) (sv_cons (se_int (fr := false)) sv_nil))) sv_nil))) sa_nil)) B.n_range) (sg_name 9 sc_law.nd) (ss_cons (ss_setO 10 (Γ2 := [1]) sc_law.nd (se_call0 h_law_pool cx_takes (hr.mono (by decide)) (sa_cons (se_var 0) (sa_cons (se_var 9) sa_nil)))) (ss_cons (ss_set 11 (Γ2 := [10, 1]) sc_law.nd (se_call1 h_law_row cx_takes (hr.mono (by decide)) (sa_io 10 (sa_cons (se_var 2) (sa_cons (se_ix2 ix_seq ix_ok (s2_ee (se_lst (sa_cons (se_int (fr := false)) (sa_cons (se_int (fr := false)) (sa_cons (se_int (fr := false)) (sa_cons (se_int (fr := false)) sa_nil))))) (se_call1 h_law_draw cx_takes (hr.mono (by decide)) (sa_io 10 (sa_cons (se_int (fr := false)) sa_nil))))) (sa_cons (se_int (fr := false)) sa_nil)))))) (ss_cons (ss_set 11 (Γ2 := [10, 1]) sc_law.nd (se_call0 h_law_cut cx_takes (hr.mono (by decide)) (sa_cons (se_var 4) (sa_cons (se_var 5) (sa_cons (se_var 11) sa_nil))))) (ss_cons (ss_set 12 (Γ2 := [10, 1]) sc_law.nd (se_call0 h_law_run cx_takes (hr.mono (by decide)) (sa_cons (se_var 4) (sa_cons (se_var 5) (sa_cons (se_var 11) sa_nil))))) (ss_cons (ss_set 13 (Γ2 := [10, 1]) sc_law.nd (se_call0 h_law_joined cx_takes (hr.mono (by decide)) (sa_cons (se_ix2 ix_seq ix_ok (s2_ee (se_var 6) (se_ix2 ix_seq ix_ok (s2_ee (se_var 12) (se_int (fr := false)))))) (sa_cons (se_ix2 ix_seq ix_ok (s2_ee (se_var 12) (se_int (fr := false)))) sa_nil)))) (ss_cons (ss_set 14 (Γ2 := [10, 1]) sc_law.nd (se_call1 h_law_bad_row cx_takes (hr.mono (by decide)) (sa_io 10 (sa_cons (se_var 2) (sa_cons (se_call1 h_law_row cx_takes (hr.mono (by decide)) (sa_io 10 (sa_cons (se_var 2) (sa_cons (se_int (fr := false)) (sa_cons (se_int (fr := false)) sa_nil))))) sa_nil))))) (ss_cons (ss_if (sp_not (sp_val (se_call0 h_law_told cx_takes (hr.mono (by decide)) (sa_cons (se_var 8) (sa_cons (se_var 11) (sa_cons (se_var 12) (sa_cons (se_var 13) (sa_cons (se_call1 h_law_draw cx_takes (hr.mono (by decide)) (sa_io 10 (sa_cons (se_int (fr := false)) sa_nil))) sa_nil)))))))) (ss_one (ss_ret (se_bl (fr := false)))) ss_nil) (ss_cons (ss_if (SW.pt (sw_or (sp_not (sp_val (se_call0 h_law_refused cx_takes (hr.mono (by decide)) (sa_cons (se_var 8) (sa_cons (se_var 14) (sa_cons (se_int (fr := false)) sa_nil)))))) (sw_or1 (sp_not (sp_val (se_call0 h_law_refused cx_takes (hr.mono (by decide)) (sa_cons (se_var 8) (sa_cons (se_var 14) (sa_cons (se_int (fr := false)) sa_nil))))))))) (ss_one (ss_ret (se_bl (fr := false)))) ss_nil) (ss_weak (ss_one (ss_if (sp_not (sp_val (se_call0 h_law_told cx_takes (hr.mono (by decide)) (sa_cons (se_var 8) (sa_cons (se_var 11) (sa_cons (se_var 12) (sa_cons (se_var 13) (sa_cons (se_int (fr := false)) sa_nil)))))))) (ss_one (ss_ret (se_bl (fr := false)))) ss_nil)))))))))))) (ss_one (ss_ret (se_bl (fr := false)))))))))
theorem bi_law {f : Addr} {fd : FuncData} (F : FunD K "law" "law" (defArgs s_law) (defBody s_law) (defScope s_law) [] [] f fd) : Binds K fd P_law [] := F.bindsN fun _ _ _ _ _ _ us hl => match us, hl with | [_], _ => rfl
end
end Wk29
set_option maxHeartbeats 4000000
namespace Wk29
open PySem L2 PySem.Spec PyProof.Rows Ip
section
variable {P : Program} {w : World} {K : PySem.W.Frag} {mg : Str → Option Value} {base : Heap} {ct : Str → Option Addr}
theorem sc_law_draw : FnScope N_law_draw P_law_draw (defScope s_law_draw) := ⟨rfl, rfl, rfl, by decide +kernel, rfl, by decide +kernel, by decide +kernel⟩
theorem ok_law_draw {f : Addr} {fd : FuncData} (B : Blt mg)  (F : FunD K "_law_draw" "_law_draw" (defArgs s_law_draw) (defBody s_law_draw) (defScope s_law_draw) [] [] f fd) : FnOk P w K mg base (L2.CX P w) 1 f fd P_law_draw (spF K ct 2 [0] false F_law_draw) := def_okD (k := 0) F sc_law_draw rfl fun cdv A outer s H E hid ioA hr =>
  (ss_cons (ss_if (sp_cmp2 (or_or op_ge op_ge_str) ge_ok (s2_ee (se_ix2 ix_seq ix_ok (s2_oe 0 (se_int (fr := false)))) (se_bin2 op_pow pow_ok (s2_ee (se_int (fr := false)) (se_int (fr := false)))))) (ss_cons (ss_set 2 (Γ2 := [0]) sc_law_draw.nd (se_bin2 op_mod mod_ok (s2_ee (se_calT call_int1 cal_int B.n_int (sv_cons (se_ix2 ix_seq ix_ok (s2_oe 0 (se_int (fr := false)))) sv_nil)) (se_var 1)))) (ss_cons (ss_asg (se_bin2 op_fdivW fdiv_ok (s2_ee (se_ix2 ix_seq ix_ok (s2_oe 0 (se_int (fr := false)))) (se_var 1))) (sg_ix (W := Wn) 0 (se_int (fr := false)))) (ss_one (ss_ret (se_var 2))))) ss_nil) (ss_cons (ss_asg (se_bin2 (or_or op_add op_add_str) add_ok (s2_ee (se_ix2 ix_seq ix_ok (s2_oe 0 (se_int (fr := false)))) (se_int (fr := false)))) (sg_ix (W := Wn) 0 (se_int (fr := false)))) (ss_cons (ss_set 3 (Γ2 := [0]) sc_law_draw.nd (se_bin2 op_mod mod_ok (s2_ee (se_calT call_int1 cal_int B.n_int (sv_cons (se_bin2 (or_or op_mul op_mulW) mul_ok (s2_ee (se_bin2 (or_or op_add op_add_str) add_ok (s2_ee (se_bin2 (or_or op_add op_add_str) add_ok (s2_ee (se_ix2 ix_seq ix_ok (s2_oe 0 (se_int (fr := false)))) (se_bin2 (or_or op_mul op_mulW) mul_ok (s2_ee (se_int (fr := false)) (se_ix2 ix_seq ix_ok (s2_oe 0 (se_int (fr := false)))))))) (se_int (fr := false)))) (se_int (fr := false)))) sv_nil)) (se_int (fr := false))))) (ss_cons (ss_set 3 (Γ2 := [0]) sc_law_draw.nd (se_bin2 op_mod mod_ok (s2_ee (se_calT call_int1 cal_int B.n_int (sv_cons (se_bin2 (or_or op_mul op_mulW) mul_ok (s2_ee (se_var 3) (se_bin2 (or_or op_add op_add_str) add_ok (s2_ee (se_bin2 op_fdivW fdiv_ok (s2_ee (se_var 3) (se_int (fr := false)))) (se_int (fr := false)))))) sv_nil)) (se_int (fr := false))))) (ss_cons (ss_set 3 (Γ2 := [0]) sc_law_draw.nd (se_bin2 op_mod mod_ok (s2_ee (se_calT call_int1 cal_int B.n_int (sv_cons (se_bin2 (or_or op_mul op_mulW) mul_ok (s2_ee (se_var 3) (se_bin2 (or_or op_add op_add_str) add_ok (s2_ee (se_bin2 op_fdivW fdiv_ok (s2_ee (se_var 3) (se_int (fr := false)))) (se_int (fr := false)))))) sv_nil)) (se_int (fr := false))))) (ss_one (ss_ret (se_bin2 op_mod mod_ok (s2_ee (se_calT call_int1 cal_int B.n_int (sv_cons (se_bin2 op_fdivW fdiv_ok (s2_ee (se_var 3) (se_int (fr := false)))) sv_nil)) (se_var 1))))))))))
theorem bi_law_draw {f : Addr} {fd : FuncData} (F : FunD K "_law_draw" "_law_draw" (defArgs s_law_draw) (defBody s_law_draw) (defScope s_law_draw) [] [] f fd) : Binds K fd P_law_draw [] := F.bindsN fun _ _ _ _ _ _ us hl => match us, hl with | [_, _], _ => rfl
theorem sc_are_letters : FnScope N_are_letters P_are_letters (defScope s_are_letters) := ⟨rfl, rfl, rfl, by decide +kernel, rfl, by decide +kernel, by decide +kernel⟩
theorem ok_are_letters {f : Addr} {fd : FuncData} (B : Blt mg)  (F : FunD K "are_letters" "are_letters" (defArgs s_are_letters) (defBody s_are_letters) (defScope s_are_letters) [] [] f fd) : FnOk P w K mg base (L2.CX P w) 1 f fd P_are_letters (spF K ct 1 [] false F_are_letters) := def_okD (k := 0) F sc_are_letters rfl fun cdv A outer s H E hid ioA hr =>
  (ss_cons (ss_if (SW.pt (sw_or (sp_not (sp_val (se_isi (se_var 0) kb_str B.n_isinstance B.n_str))) (sw_or1 (sp_not (sp_chain (or_or op_le op_le_str) (or_or op_le op_le_str) le_ok le_ok (se_int (fr := false)) (se_calB call_len cal_len B.n_len (sv_cons (se_var 0) sv_nil)) (se_int (fr := false))))))) (ss_one (ss_ret (se_bl (fr := false)))) ss_nil) (ss_cons (ss_for cx_own rfl (si_enumS (se_var 0) B.n_enumerate) (sg_tup rfl (sgs_cons (sg_name 1 sc_are_letters.nd) (sgs_cons (sg_name 2 sc_are_letters.nd) sgs_nil))) (ss_one (ss_if (SW.pt (sw_or (sp_not (sp_chain (or_or op_le op_le_str) (or_or op_le op_le_str) le_ok le_ok (se_str (fr := false)) (se_var 2) (se_str (fr := false)))) (sw_or1 (sp_cmp2 op_in_sign inS_ok (s2_ee (se_var 2) (se_slice (se_var 0) so_none (so_some (se_var 1)))))))) (ss_one (ss_ret (se_bl (fr := false)))) ss_nil))) (ss_one (ss_ret (se_bl (fr := false))))))
theorem bi_are_letters {f : Addr} {fd : FuncData} (F : FunD K "are_letters" "are_letters" (defArgs s_are_letters) (defBody s_are_letters) (defScope s_are_letters) [] [] f fd) : Binds K fd P_are_letters [] := F.bindsN fun _ _ _ _ _ _ us hl => match us, hl with | [_], _ => rfl
theorem sc_step_rows : FnScope N_step_rows P_step_rows (defScope s_step_rows) := ⟨rfl, rfl, rfl, by decide +kernel, rfl, by decide +kernel, by decide +kernel⟩
theorem ok_step_rows {f : Addr} {fd : FuncData} (B : Blt mg) (h_has_letters : Fn P w K mg base ct "has_letters" 1 2 [] false F_has_letters) (h_is_step : Fn P w K mg base ct "is_step" 2 3 [] false F_is_step) (F : FunD K "step_rows" "step_rows" (defArgs s_step_rows) (defBody s_step_rows) (defScope s_step_rows) [] [] f fd) : FnOk P w K mg base (L2.CX P w) 3 f fd P_step_rows (spF K ct 3 [] false F_step_rows) := def_okD (k := 2) F sc_step_rows rfl fun cdv A outer s H E hid ioA hr =>
  (ss_cons (ss_if (SW.pt (sw_or (sp_not (sp_val (se_isi (se_var 0) kb_list B.n_isinstance B.n_list))) (sw_or1 (sp_not (sp_chain (or_or op_le op_le_str) (or_or op_le op_le_str) le_ok le_ok (se_int (fr := false)) (se_calB call_len cal_len B.n_len (sv_cons (se_var 0) sv_nil)) (se_int (fr := false))))))) (ss_one (ss_ret (se_non (fr := false)))) ss_nil) (ss_cons (ss_setO 3 (Γ2 := []) sc_step_rows.nd (se_lst sa_nil)) (ss_cons (ss_for cx_own rfl (si_seq (se_var 0)) (sg_name 4 sc_step_rows.nd) (ss_cons (ss_if (sp_not (sp_val (se_call0 h_has_letters cx_takes (hr.mono (by decide)) (sa_cons (se_var 4) (sa_cons (se_var 1) sa_nil))))) (ss_one (ss_ret (se_non (fr := false)))) ss_nil) (ss_one (ss_for cx_own rfl (si_seq (se_var 1)) (sg_name 5 sc_step_rows.nd) (ss_cons (ss_if (sp_not (sp_val (se_call0 h_is_step cx_takes (hr.mono (by decide)) (sa_cons (se_dget (room1 hr) (s2_ee (se_var 4) (se_var 5))) (sa_cons (se_calB call_len cal_len B.n_len (sv_cons (se_var 0) sv_nil)) (sa_cons (se_var 2) sa_nil)))))) (ss_one (ss_ret (se_non (fr := false)))) ss_nil) (ss_one (ss_expr (se_lstM 3 PySem.F.slot_list_append PySem.F.type_list_append mt_append append_ok (sa_cons (se_ix2 ix_seq ix_ok (s2_ee (se_dget (room1 hr) (s2_ee (se_var 4) (se_var 5))) (se_int (fr := false)))) sa_nil))))))))) (ss_one (ss_ret (se_varF 3 []))))))
theorem bi_step_rows {f : Addr} {fd : FuncData} (F : FunD K "step_rows" "step_rows" (defArgs s_step_rows) (defBody s_step_rows) (defScope s_step_rows) [] [] f fd) : Binds K fd P_step_rows [] := F.bindsN fun _ _ _ _ _ _ us hl => match us, hl with | [_, _, _], _ => rfl
theorem sc_law_length : FnScope N_law_length P_law_length (defScope s_law_length) := ⟨rfl, rfl, rfl, by decide +kernel, rfl, by decide +kernel, by decide +kernel⟩
theorem ok_law_length {f : Addr} {fd : FuncData} (B : Blt mg)  (F : FunD K "_law_length" "_law_length" (defArgs s_law_length) (defBody s_law_length) (defScope s_law_length) [] [] f fd) : FnOk P w K mg base (L2.CX P w) 1 f fd P_law_length (spF K ct 2 [] false F_law_length) := def_okD (k := 0) F sc_law_length rfl fun cdv A outer s H E hid ioA hr =>
  (ss_one (ss_ret (se_calB (cr_sum rfl) cal_sum B.n_sum (sv_cons (se_lc rfl sc_law_length.nd (blkOk_by (own := [("_law_item", 2)]) (by show blkC N_law_length (defScope s_law_length) _ _ = true; decide +kernel)) (si_seq (se_var 0)) (fun _ _ _ _ _ => (sg_name 2 sc_law_length.nd)) (fun _ _ _ _ _ => sps_nil) (fun _ _ _ _ _ => (se_ifExp (sp_val (se_isi (se_var 2) kb_str B.n_isinstance B.n_str)) (se_calB call_len cal_len B.n_len (sv_cons (se_var 2) sv_nil)) (se_ix2 ix_seq ix_ok (s2_ee (se_var 1) (se_var 2)))))) sv_nil))))
theorem bi_law_length {f : Addr} {fd : FuncData} (F : FunD K "_law_length" "_law_length" (defArgs s_law_length) (defBody s_law_length) (defScope s_law_length) [] [] f fd) : Binds K fd P_law_length [] := F.bindsN fun _ _ _ _ _ _ us hl => match us, hl with | [_, _], _ => rfl
theorem sc_piece_text : FnScope N_piece_text P_piece_text (defScope s_piece_text) := ⟨rfl, rfl, rfl, by decide +kernel, rfl, by decide +kernel, by decide +kernel⟩
theorem ok_piece_text {f : Addr} {fd : FuncData} (B : Blt mg)  (F : FunD K "piece_text" "piece_text" (defArgs s_piece_text) (defBody s_piece_text) (defScope s_piece_text) [] [] f fd) : FnOk P w K mg base (L2.CX P w) 1 f fd P_piece_text (spF K ct 2 [] false F_piece_text) := def_okD (k := 0) F sc_piece_text rfl fun cdv A outer s H E hid ioA hr =>
  (ss_cons (ss_setO 2 (Γ2 := []) sc_piece_text.nd (se_lst sa_nil)) (ss_cons (ss_for cx_own rfl (si_seq (se_var 0)) (sg_name 3 sc_piece_text.nd) (ss_one (ss_if (sp_val (se_isi (se_var 3) kb_int B.n_isinstance B.n_int)) (ss_one (ss_expr (se_lstM 2 PySem.F.slot_list_append PySem.F.type_list_append mt_append append_ok (sa_cons (se_ix2 ix_seq ix_ok (s2_ee (se_var 1) (se_var 3))) sa_nil)))) (ss_one (ss_expr (se_lstM 2 PySem.F.slot_list_append PySem.F.type_list_append mt_append append_ok (sa_cons (se_var 3) sa_nil))))))) (ss_one (ss_ret (se_strM PySem.F.slot_str_join PySem.F.type_str_join mt_join join_ok (se_str (fr := false)) (sv_own 2 sv_nil))))))
theorem bi_piece_text {f : Addr} {fd : FuncData} (F : FunD K "piece_text" "piece_text" (defArgs s_piece_text) (defBody s_piece_text) (defScope s_piece_text) [] [] f fd) : Binds K fd P_piece_text [] := F.bindsN fun _ _ _ _ _ _ us hl => match us, hl with | [_, _], _ => rfl
end
end Wk29
set_option maxHeartbeats 4000000
namespace Wk29
open PySem L2 PySem.Spec PyProof.Rows Ip
section
variable {P : Program} {w : World} {K : PySem.W.Frag} {mg : Str → Option Value} {base : Heap} {ct : Str → Option Addr}
theorem sc_law_letters : FnScope N_law_letters P_law_letters (defScope s_law_letters) := ⟨rfl, rfl, rfl, by decide +kernel, rfl, by decide +kernel, by decide +kernel⟩
theorem ok_law_letters {f : Addr} {fd : FuncData} (B : Blt mg) (h_law_draw : Fn P w K mg base ct "_law_draw" 1 2 [0] false F_law_draw) (F : FunD K "_law_letters" "_law_letters" (defArgs s_law_letters) (defBody s_law_letters) (defScope s_law_letters) [] [] f fd) : FnOk P w K mg base (L2.CX P w) 2 f fd P_law_letters (spF K ct 2 [0] false F_law_letters) := def_okD (k := 1) F sc_law_letters rfl fun cdv A outer s H E hid ioA hr =>
  (ss_cons (ss_setO 2 (Γ2 := [0]) sc_law_letters.nd (se_calO (call_listS rfl) cal_listS B.n_list (sv_cons (se_str (fr := false)) sv_nil))) (ss_cons (ss_set 3 (Γ2 := [2, 0]) sc_law_letters.nd (se_str (fr := false))) (ss_cons (ss_for cx_own rfl (si_range1 (sa_cons (se_var 1) sa_nil) B.n_range) (sg_name 4 sc_law_letters.nd) (ss_one (ss_set 3 (Γ2 := [2, 0]) sc_law_letters.nd (se_bin2 (or_or op_add op_add_str) add_ok (s2_ee (se_var 3) (se_lstM 2 PySem.F.slot_list_pop PySem.F.type_list_pop mt_popAt popAt_ok (sa_cons (se_call1 h_law_draw cx_takes (hr.mono (by decide)) (sa_io 0 (sa_cons (se_calB call_len cal_len B.n_len (sv_own 2 sv_nil)) sa_nil))) sa_nil))))))) (ss_one (ss_ret (se_var 3))))))
theorem bi_law_letters {f : Addr} {fd : FuncData} (F : FunD K "_law_letters" "_law_letters" (defArgs s_law_letters) (defBody s_law_letters) (defScope s_law_letters) [] [] f fd) : Binds K fd P_law_letters [] := F.bindsN fun _ _ _ _ _ _ us hl => match us, hl with | [_, _], _ => rfl
theorem sc_are_signs : FnScope N_are_signs P_are_signs (defScope s_are_signs) := ⟨rfl, rfl, rfl, by decide +kernel, rfl, by decide +kernel, by decide +kernel⟩
theorem ok_are_signs {f : Addr} {fd : FuncData} (B : Blt mg)  (F : FunD K "are_signs" "are_signs" (defArgs s_are_signs) (defBody s_are_signs) (defScope s_are_signs) [] [] f fd) : FnOk P w K mg base (L2.CX P w) 1 f fd P_are_signs (spF K ct 1 [] false F_are_signs) := def_okD (k := 0) F sc_are_signs rfl fun cdv A outer s H E hid ioA hr =>
  (ss_cons (ss_if (SW.pt (sw_or (sp_not (sp_val (se_isi (se_var 0) kb_str B.n_isinstance B.n_str))) (sw_or1 (sp_not (sp_chain (or_or op_le op_le_str) (or_or op_le op_le_str) le_ok le_ok (se_int (fr := false)) (se_calB call_len cal_len B.n_len (sv_cons (se_var 0) sv_nil)) (se_int (fr := false))))))) (ss_one (ss_ret (se_bl (fr := false)))) ss_nil) (ss_cons (ss_for cx_own rfl (si_enumS (se_var 0) B.n_enumerate) (sg_tup rfl (sgs_cons (sg_name 1 sc_are_signs.nd) (sgs_cons (sg_name 2 sc_are_signs.nd) sgs_nil))) (ss_one (ss_if (SW.pt (sw_or (sp_not (sp_chain (or_or op_le op_le_str) (or_or op_le op_le_str) le_ok le_ok (se_str (fr := false)) (se_var 2) (se_str (fr := false)))) (sw_or1 (sp_cmp2 op_in_sign inS_ok (s2_ee (se_var 2) (se_slice (se_var 0) so_none (so_some (se_var 1)))))))) (ss_one (ss_ret (se_bl (fr := false)))) ss_nil))) (ss_one (ss_ret (se_bl (fr := false))))))
theorem bi_are_signs {f : Addr} {fd : FuncData} (F : FunD K "are_signs" "are_signs" (defArgs s_are_signs) (defBody s_are_signs) (defScope s_are_signs) [] [] f fd) : Binds K fd P_are_signs [] := F.bindsN fun _ _ _ _ _ _ us hl => match us, hl with | [_], _ => rfl
theorem sc_is_piece : FnScope N_is_piece P_is_piece (defScope s_is_piece) := ⟨rfl, rfl, rfl, by decide +kernel, rfl, by decide +kernel, by decide +kernel⟩
theorem ok_is_piece {f : Addr} {fd : FuncData} (B : Blt mg) (h_is_integer : Fn P w K mg base ct "is_integer" 1 1 [] false F_is_integer) (h_is_short : Fn P w K mg base ct "is_short" 2 2 [] false F_is_short) (F : FunD K "is_piece" "is_piece" (defArgs s_is_piece) (defBody s_is_piece) (defScope s_is_piece) [] [] f fd) : FnOk P w K mg base (L2.CX P w) 3 f fd P_is_piece (spF K ct 3 [] false F_is_piece) := def_okD (k := 2) F sc_is_piece rfl fun cdv A outer s H E hid ioA hr =>
  (ss_cons (ss_if (SW.pt (sw_or (sp_not (sp_val (se_isi (se_var 0) kb_list B.n_isinstance B.n_list))) (sw_or1 (sp_cmp2 (or_or op_gt op_gt_str) gt_ok (s2_ee (se_calB call_len cal_len B.n_len (sv_cons (se_var 0) sv_nil)) (se_int (fr := false))))))) (ss_one (ss_ret (se_bl (fr := false)))) ss_nil) (ss_cons (ss_for cx_own rfl (si_seq (se_var 0)) (sg_name 3 sc_is_piece.nd) (ss_one (ss_if (sp_val (se_call0 h_is_integer cx_takes (hr.mono (by decide)) (sa_cons (se_var 3) sa_nil))) (ss_one (ss_if (sp_not (sp_chain (or_or op_le op_le_str) (or_or op_lt op_lt_str) le_ok lt_ok (se_int (fr := false)) (se_var 3) (se_var 2))) (ss_one (ss_ret (se_bl (fr := false)))) ss_nil)) (ss_one (ss_if (sp_not (sp_val (se_call0 h_is_short cx_takes (hr.mono (by decide)) (sa_cons (se_var 3) (sa_cons (se_var 1) sa_nil))))) (ss_one (ss_ret (se_bl (fr := false)))) ss_nil))))) (ss_one (ss_ret (se_bl (fr := false))))))
theorem bi_is_piece {f : Addr} {fd : FuncData} (F : FunD K "is_piece" "is_piece" (defArgs s_is_piece) (defBody s_is_piece) (defScope s_is_piece) [] [] f fd) : Binds K fd P_is_piece [] := F.bindsN fun _ _ _ _ _ _ us hl => match us, hl with | [_, _, _], _ => rfl
theorem sc_law_cut : FnScope N_law_cut P_law_cut (defScope s_law_cut) := ⟨rfl, rfl, rfl, by decide +kernel, rfl, by decide +kernel, by decide +kernel⟩
theorem ok_law_cut {f : Addr} {fd : FuncData} (B : Blt mg) (h_law_length : Fn P w K mg base ct "_law_length" 1 2 [] false F_law_length) (F : FunD K "_law_cut" "_law_cut" (defArgs s_law_cut) (defBody s_law_cut) (defScope s_law_cut) [] [] f fd) : FnOk P w K mg base (L2.CX P w) 2 f fd P_law_cut (spF K ct 3 [] false F_law_cut) := def_okD (k := 1) F sc_law_cut rfl fun cdv A outer s H E hid ioA hr =>
  (ss_cons (ss_set 3 (Γ2 := []) sc_law_cut.nd (se_int (fr := false))) (ss_cons (ss_set 4 (Γ2 := []) sc_law_cut.nd (se_fz (se_lc rfl sc_law_cut.nd (blkOk_by (own := [("_law_text", 9)]) (by show blkC N_law_cut (defScope s_law_cut) _ _ = true; decide +kernel)) (si_seq (se_var 0)) (fun _ _ _ _ _ => (sg_name 9 sc_law_cut.nd)) (fun _ _ _ _ _ => sps_nil) (fun _ _ _ _ _ => (se_calB call_len cal_len B.n_len (sv_cons (se_var 9) sv_nil)))))) (ss_cons (ss_for cx_own rfl (si_range1 (sa_cons (se_calB call_len cal_len B.n_len (sv_cons (se_var 2) sv_nil)) sa_nil) B.n_range) (sg_name 5 sc_law_cut.nd) (ss_cons (ss_asg (se_dget (room1 hr) (s2_ee (se_ix2 ix_seq ix_ok (s2_ee (se_var 1) (se_var 3))) (se_ix2 ix_seq ix_ok (s2_ee (se_var 2) (se_var 5))))) (sg_tup rfl (sgs_cons (sg_name 6 sc_law_cut.nd) (sgs_cons (sg_name 7 sc_law_cut.nd) sgs_nil)))) (ss_cons (ss_let (Γ2 := []) (ss_setLc 8 (Γ2 := []) rfl sc_law_cut.nd (blkOk_by (own := [("_law_piece_here", 10)]) (by show blkC N_law_cut (defScope s_law_cut) _ _ = true; decide +kernel)) (si_seq (se_var 7)) (fun _ _ _ _ _ => (sg_name 10 sc_law_cut.nd)) (fun _ _ _ _ _ => sps_nil) (fun _ _ _ _ _ => (se_call0 h_law_length (takes_no rfl) (hr.mono (by decide)) (sa_cons (se_var 10) (sa_cons (se_var 4) sa_nil)))))) (ss_cons (ss_if (SW.pt (sw_and (sp_cmp2 (or_or op_ge op_ge_str) ge_ok (s2_ee (se_var 5) (se_int (fr := false)))) (sw_and1 (sp_cmp2 (or_or op_gt op_gt_str) gt_ok (s2_ee (se_calB (cr_sum rfl) cal_sum B.n_sum (sv_cons (se_var 8) sv_nil)) (se_int (fr := false))))))) (ss_one (ss_ret (se_slice (se_var 2) so_none (so_some (se_var 5))))) ss_nil) (ss_cons (ss_set 4 (Γ2 := []) sc_law_cut.nd (se_var 8)) (ss_one (ss_set 3 (Γ2 := []) sc_law_cut.nd (se_var 6)))))))) (ss_one (ss_ret (se_var 2))))))
theorem bi_law_cut {f : Addr} {fd : FuncData} (F : FunD K "_law_cut" "_law_cut" (defArgs s_law_cut) (defBody s_law_cut) (defScope s_law_cut) [] [] f fd) : Binds K fd P_law_cut [] := F.bindsN fun _ _ _ _ _ _ us hl => match us, hl with | [_, _, _], _ => rfl
theorem sc_text_step : FnScope N_text_step P_text_step (defScope s_text_step) := ⟨rfl, rfl, rfl, by decide +kernel, rfl, by decide +kernel, by decide +kernel⟩
theorem ok_text_step {f : Addr} {fd : FuncData} (B : Blt mg) (h_piece_text : Fn P w K mg base ct "piece_text" 1 2 [] false F_piece_text) (h_TextWriter_kept_steps : At K ct "TextWriter" "kept_steps") (F : FunD K "text_step" "text_step" (defArgs s_text_step) (defBody s_text_step) (defScope s_text_step) [] [] f fd) : FnOk P w K mg base (L2.CX P w) 2 f fd P_text_step (spF K ct 4 [] false F_text_step) := def_okD (k := 1) F sc_text_step rfl fun cdv A outer s H E hid ioA hr =>
  (ss_cons (ss_asg (se_dget (room1 hr) (s2_ee (se_ix2 ix_seq ix_ok (s2_ee (se_fld (cs := ["TextWriter"]) (one_cls h_TextWriter_kept_steps) (se_var 0)) (se_var 1))) (se_var 3))) (sg_tup rfl (sgs_cons (sg_name 4 sc_text_step.nd) (sgs_cons (sg_name 5 sc_text_step.nd) sgs_nil)))) (ss_one (ss_ret (se_tup (sa_cons (se_var 4) (sa_cons (se_calT call_tuple_of cal_tup B.n_tuple (sv_cons (se_lc rfl sc_text_step.nd (blkOk_by (own := [("piece", 6)]) (by show blkC N_text_step (defScope s_text_step) _ _ = true; decide +kernel)) (si_seq (se_var 5)) (fun _ _ _ _ _ => (sg_name 6 sc_text_step.nd)) (fun _ _ _ _ _ => sps_nil) (fun _ _ _ _ _ => (se_call0 h_piece_text (takes_no rfl) (hr.mono (by decide)) (sa_cons (se_var 6) (sa_cons (se_var 2) sa_nil))))) sv_nil)) sa_nil))))))
theorem bi_text_step {f : Addr} {fd : FuncData} (F : FunD K "text_step" "text_step" (defArgs s_text_step) (defBody s_text_step) (defScope s_text_step) [] [] f fd) : Binds K fd P_text_step [] := F.bindsN fun _ _ _ _ _ _ us hl => match us, hl with | [_, _, _, _], _ => rfl
end
end Wk29
set_option maxHeartbeats 4000000
namespace Wk29
open PySem L2 PySem.Spec PyProof.Rows Ip
section
variable {P : Program} {w : World} {K : PySem.W.Frag} {mg : Str → Option Value} {base : Heap} {ct : Str → Option Addr}
theorem sc_law_signs : FnScope N_law_signs P_law_signs (defScope s_law_signs) := ⟨rfl, rfl, rfl, by decide +kernel, rfl, by decide +kernel, by decide +kernel⟩
theorem ok_law_signs {f : Addr} {fd : FuncData} (B : Blt mg) (h_law_draw : Fn P w K mg base ct "_law_draw" 1 2 [0] false F_law_draw) (F : FunD K "_law_signs" "_law_signs" (defArgs s_law_signs) (defBody s_law_signs) (defScope s_law_signs) [] [] f fd) : FnOk P w K mg base (L2.CX P w) 2 f fd P_law_signs (spF K ct 2 [0] false F_law_signs) := def_okD (k := 1) F sc_law_signs rfl fun cdv A outer s H E hid ioA hr =>
  (ss_cons (ss_setO 2 (Γ2 := [0]) sc_law_signs.nd (se_calO (call_listS rfl) cal_listS B.n_list (sv_cons (se_str (fr := false)) sv_nil))) (ss_cons (ss_setO 2 (Γ2 := [0]) sc_law_signs.nd (se_binO op_catQ cat_ok (s2_oe 2 (se_calO (call_listS rfl) cal_listS B.n_list (sv_cons (se_str (fr := false)) sv_nil))))) (ss_cons (ss_set 3 (Γ2 := [2, 0]) sc_law_signs.nd (se_str (fr := false))) (ss_cons (ss_for cx_own rfl (si_range1 (sa_cons (se_var 1) sa_nil) B.n_range) (sg_name 4 sc_law_signs.nd) (ss_one (ss_set 3 (Γ2 := [2, 0]) sc_law_signs.nd (se_bin2 (or_or op_add op_add_str) add_ok (s2_ee (se_var 3) (se_lstM 2 PySem.F.slot_list_pop PySem.F.type_list_pop mt_popAt popAt_ok (sa_cons (se_call1 h_law_draw cx_takes (hr.mono (by decide)) (sa_io 0 (sa_cons (se_calB call_len cal_len B.n_len (sv_own 2 sv_nil)) sa_nil))) sa_nil))))))) (ss_one (ss_ret (se_var 3)))))))
theorem bi_law_signs {f : Addr} {fd : FuncData} (F : FunD K "_law_signs" "_law_signs" (defArgs s_law_signs) (defBody s_law_signs) (defScope s_law_signs) [] [] f fd) : Binds K fd P_law_signs [] := F.bindsN fun _ _ _ _ _ _ us hl => match us, hl with | [_, _], _ => rfl
theorem sc_is_of_signs : FnScope N_is_of_signs P_is_of_signs (defScope s_is_of_signs) := ⟨rfl, rfl, rfl, by decide +kernel, rfl, by decide +kernel, by decide +kernel⟩
theorem ok_is_of_signs {f : Addr} {fd : FuncData} (B : Blt mg)  (F : FunD K "is_of_signs" "is_of_signs" (defArgs s_is_of_signs) (defBody s_is_of_signs) (defScope s_is_of_signs) [] [] f fd) : FnOk P w K mg base (L2.CX P w) 1 f fd P_is_of_signs (spF K ct 2 [] false F_is_of_signs) := def_okD (k := 0) F sc_is_of_signs rfl fun cdv A outer s H E hid ioA hr =>
  (ss_cons (ss_if (sp_not (sp_val (se_isi (se_var 0) kb_str B.n_isinstance B.n_str))) (ss_one (ss_ret (se_bl (fr := false)))) ss_nil) (ss_cons (ss_for cx_own rfl (si_seq (se_var 0)) (sg_name 2 sc_is_of_signs.nd) (ss_one (ss_if (sp_cmp2 op_notIn_sign notInS_ok (s2_ee (se_var 2) (se_var 1))) (ss_one (ss_ret (se_bl (fr := false)))) ss_nil))) (ss_one (ss_ret (se_bl (fr := false))))))
theorem bi_is_of_signs {f : Addr} {fd : FuncData} (F : FunD K "is_of_signs" "is_of_signs" (defArgs s_is_of_signs) (defBody s_is_of_signs) (defScope s_is_of_signs) [] [] f fd) : Binds K fd P_is_of_signs [] := F.bindsN fun _ _ _ _ _ _ us hl => match us, hl with | [_, _], _ => rfl
theorem sc_all_pieces : FnScope N_all_pieces P_all_pieces (defScope s_all_pieces) := ⟨rfl, rfl, rfl, by decide +kernel, rfl, by decide +kernel, by decide +kernel⟩
theorem ok_all_pieces {f : Addr} {fd : FuncData} (B : Blt mg) (h_is_piece : Fn P w K mg base ct "is_piece" 3 3 [] false F_is_piece) (F : FunD K "all_pieces" "all_pieces" (defArgs s_all_pieces) (defBody s_all_pieces) (defScope s_all_pieces) [] [] f fd) : FnOk P w K mg base (L2.CX P w) 4 f fd P_all_pieces (spF K ct 3 [] false F_all_pieces) := def_okD (k := 3) F sc_all_pieces rfl fun cdv A outer s H E hid ioA hr =>
  (ss_cons (ss_for cx_own rfl (si_seq (se_var 0)) (sg_name 3 sc_all_pieces.nd) (ss_one (ss_if (sp_not (sp_val (se_call0 h_is_piece cx_takes (hr.mono (by decide)) (sa_cons (se_var 3) (sa_cons (se_var 1) (sa_cons (se_var 2) sa_nil)))))) (ss_one (ss_ret (se_bl (fr := false)))) ss_nil))) (ss_one (ss_ret (se_bl (fr := false)))))
theorem bi_all_pieces {f : Addr} {fd : FuncData} (F : FunD K "all_pieces" "all_pieces" (defArgs s_all_pieces) (defBody s_all_pieces) (defScope s_all_pieces) [] [] f fd) : Binds K fd P_all_pieces [] := F.bindsN fun _ _ _ _ _ _ us hl => match us, hl with | [_, _, _], _ => rfl
theorem sc_law_joined : FnScope N_law_joined P_law_joined (defScope s_law_joined) := ⟨rfl, rfl, rfl, by decide +kernel, rfl, by decide +kernel, by decide +kernel⟩
theorem ok_law_joined {f : Addr} {fd : FuncData} (B : Blt mg)  (F : FunD K "_law_joined" "_law_joined" (defArgs s_law_joined) (defBody s_law_joined) (defScope s_law_joined) [] [] f fd) : FnOk P w K mg base (L2.CX P w) 1 f fd P_law_joined (spF K ct 2 [] false F_law_joined) := def_okD (k := 0) F sc_law_joined rfl fun cdv A outer s H E hid ioA hr =>
  (ss_cons (ss_set 2 (Γ2 := []) sc_law_joined.nd (se_str (fr := false))) (ss_cons (ss_for cx_own rfl (si_seq (se_var 0)) (sg_name 3 sc_law_joined.nd) (ss_one (ss_if (sp_val (se_isi (se_var 3) kb_str B.n_isinstance B.n_str)) (ss_one (ss_set 2 (Γ2 := []) sc_law_joined.nd (se_bin2 (or_or op_add op_add_str) add_ok (s2_ee (se_var 2) (se_var 3))))) (ss_one (ss_set 2 (Γ2 := []) sc_law_joined.nd (se_bin2 (or_or op_add op_add_str) add_ok (s2_ee (se_var 2) (se_ix2 ix_seq ix_ok (s2_ee (se_var 1) (se_var 3)))))))))) (ss_one (ss_ret (se_var 2)))))
theorem bi_law_joined {f : Addr} {fd : FuncData} (F : FunD K "_law_joined" "_law_joined" (defArgs s_law_joined) (defBody s_law_joined) (defScope s_law_joined) [] [] f fd) : Binds K fd P_law_joined [] := F.bindsN fun _ _ _ _ _ _ us hl => match us, hl with | [_, _], _ => rfl
theorem sc_TextWriter_stands : FnScope N_TextWriter_stands P_TextWriter_stands (defScope s_TextWriter_stands) := ⟨rfl, rfl, rfl, by decide +kernel, rfl, by decide +kernel, by decide +kernel⟩
theorem ok_TextWriter_stands {f : Addr} {fd : FuncData} (B : Blt mg) (h_is_row : Fn P w K mg base ct "is_row" 1 2 [] false F_is_row) (h_text_step : Fn P w K mg base ct "text_step" 2 4 [] false F_text_step) (h_TextWriter_kept_begin : At K ct "TextWriter" "kept_begin") (h_TextWriter_kept_letters : At K ct "TextWriter" "kept_letters") (h_er_NoRow : Er K mg ct "NoRow") (F : FunD K "stands" "TextWriter.stands" (defArgs s_TextWriter_stands) (defBody s_TextWriter_stands) (defScope s_TextWriter_stands) [] [] f fd) : FnOk P w K mg base (L2.CX P w) 3 f fd P_TextWriter_stands (spF K ct 2 [] false F_TextWriter_stands) := def_okD (k := 2) F sc_TextWriter_stands rfl fun cdv A outer s H E hid ioA hr =>
  (ss_cons (ss_if (sp_not (sp_val (se_call0 h_is_row cx_takes (hr.mono (by decide)) (sa_cons (se_var 1) (sa_cons (se_fld (cs := ["TextWriter"]) (one_cls h_TextWriter_kept_letters) (se_var 0)) sa_nil))))) (ss_one (ss_raise h_er_NoRow rfl cx_takes)) ss_nil) (ss_cons (ss_set 2 (Γ2 := []) sc_TextWriter_stands.nd (se_int (fr := false))) (ss_cons (ss_set 3 (Γ2 := []) sc_TextWriter_stands.nd (se_calT call_tuple_of cal_tup B.n_tuple (sv_cons (se_fld (cs := ["TextWriter"]) (one_cls h_TextWriter_kept_begin) (se_var 0)) sv_nil))) (ss_cons (ss_for cx_own rfl (si_seq (se_var 1)) (sg_name 4 sc_TextWriter_stands.nd) (ss_one (ss_asg (se_call0 h_text_step cx_takes (hr.mono (by decide)) (sa_cons (se_var 0) (sa_cons (se_var 2) (sa_cons (se_var 3) (sa_cons (se_var 4) sa_nil))))) (sg_tup rfl (sgs_cons (sg_name 2 sc_TextWriter_stands.nd) (sgs_cons (sg_name 3 sc_TextWriter_stands.nd) sgs_nil)))))) (ss_one (ss_ret (se_tup (sa_cons (se_var 2) (sa_cons (se_var 3) sa_nil)))))))))
theorem bi_TextWriter_stands {f : Addr} {fd : FuncData} (F : FunD K "stands" "TextWriter.stands" (defArgs s_TextWriter_stands) (defBody s_TextWriter_stands) (defScope s_TextWriter_stands) [] [] f fd) : Binds K fd P_TextWriter_stands [] := F.bindsN fun _ _ _ _ _ _ us hl => match us, hl with | [_, _], _ => rfl
end
end Wk29
set_option maxHeartbeats 4000000
namespace Wk29
open PySem L2 PySem.Spec PyProof.Rows Ip
section
variable {P : Program} {w : World} {K : PySem.W.Frag} {mg : Str → Option Value} {base : Heap} {ct : Str → Option Addr}
theorem sc_law_string : FnScope N_law_string P_law_string (defScope s_law_string) := ⟨rfl, rfl, rfl, by decide +kernel, rfl, by decide +kernel, by decide +kernel⟩
theorem ok_law_string {f : Addr} {fd : FuncData} (B : Blt mg) (h_law_draw : Fn P w K mg base ct "_law_draw" 1 2 [0] false F_law_draw) (F : FunD K "_law_string" "_law_string" (defArgs s_law_string) (defBody s_law_string) (defScope s_law_string) [] [] f fd) : FnOk P w K mg base (L2.CX P w) 2 f fd P_law_string (spF K ct 3 [0] false F_law_string) := def_okD (k := 1) F sc_law_string rfl fun cdv A outer s H E hid ioA hr =>
  (ss_cons (ss_set 3 (Γ2 := [0]) sc_law_string.nd (se_str (fr := false))) (ss_cons (ss_for cx_own rfl (si_range1 (sa_cons (se_call1 h_law_draw cx_takes (hr.mono (by decide)) (sa_io 0 (sa_cons (se_bin2 (or_or op_add op_add_str) add_ok (s2_ee (se_var 2) (se_int (fr := false)))) sa_nil))) sa_nil) B.n_range) (sg_name 4 sc_law_string.nd) (ss_one (ss_set 3 (Γ2 := [0]) sc_law_string.nd (se_bin2 (or_or op_add op_add_str) add_ok (s2_ee (se_var 3) (se_ix2 ix_seq ix_ok (s2_ee (se_var 1) (se_call1 h_law_draw cx_takes (hr.mono (by decide)) (sa_io 0 (sa_cons (se_calB call_len cal_len B.n_len (sv_cons (se_var 1) sv_nil)) sa_nil)))))))))) (ss_one (ss_ret (se_var 3)))))
theorem bi_law_string {f : Addr} {fd : FuncData} (F : FunD K "_law_string" "_law_string" (defArgs s_law_string) (defBody s_law_string) (defScope s_law_string) [] [] f fd) : Binds K fd P_law_string [] := F.bindsN fun _ _ _ _ _ _ us hl => match us, hl with | [_, _, _], _ => rfl
theorem sc_is_short : FnScope N_is_short P_is_short (defScope s_is_short) := ⟨rfl, rfl, rfl, by decide +kernel, rfl, by decide +kernel, by decide +kernel⟩
theorem ok_is_short {f : Addr} {fd : FuncData} (B : Blt mg) (h_is_of_signs : Fn P w K mg base ct "is_of_signs" 1 2 [] false F_is_of_signs) (F : FunD K "is_short" "is_short" (defArgs s_is_short) (defBody s_is_short) (defScope s_is_short) [] [] f fd) : FnOk P w K mg base (L2.CX P w) 2 f fd P_is_short (spF K ct 2 [] false F_is_short) := def_okD (k := 1) F sc_is_short rfl fun cdv A outer s H E hid ioA hr =>
  (ss_one (ss_ret (se_and (se_call0 h_is_of_signs cx_takes (hr.mono (by decide)) (sa_cons (se_var 0) (sa_cons (se_var 1) sa_nil))) (se_one (se_cmp2 (or_or op_le op_le_str) le_ok (s2_ee (se_calB call_len cal_len B.n_len (sv_cons (se_var 0) sv_nil)) (se_int (fr := false))))))))
theorem bi_is_short {f : Addr} {fd : FuncData} (F : FunD K "is_short" "is_short" (defArgs s_is_short) (defBody s_is_short) (defScope s_is_short) [] [] f fd) : Binds K fd P_is_short [] := F.bindsN fun _ _ _ _ _ _ us hl => match us, hl with | [_, _], _ => rfl
theorem sc_are_text_steps : FnScope N_are_text_steps P_are_text_steps (defScope s_are_text_steps) := ⟨rfl, rfl, rfl, by decide +kernel, rfl, by decide +kernel, by decide +kernel⟩
theorem ok_are_text_steps {f : Addr} {fd : FuncData} (B : Blt mg) (h_step_rows : Fn P w K mg base ct "step_rows" 3 3 [] false F_step_rows) (h_all_pieces : Fn P w K mg base ct "all_pieces" 4 3 [] false F_all_pieces) (F : FunD K "are_text_steps" "are_text_steps" (defArgs s_are_text_steps) (defBody s_are_text_steps) (defScope s_are_text_steps) [] [] f fd) : FnOk P w K mg base (L2.CX P w) 5 f fd P_are_text_steps (spF K ct 4 [] false F_are_text_steps) := def_okD (k := 4) F sc_are_text_steps rfl fun cdv A outer s H E hid ioA hr =>
  (ss_cons (ss_set 4 (Γ2 := []) sc_are_text_steps.nd (se_call0 h_step_rows cx_takes (hr.mono (by decide)) (sa_cons (se_var 0) (sa_cons (se_var 1) (sa_cons (se_var 3) sa_nil))))) (ss_cons (ss_if (sp_cmp2 op_isN isN_ok (s2_ee (se_var 4) (se_non (fr := false)))) (ss_one (ss_ret (se_bl (fr := false)))) ss_nil) (ss_cons (ss_for cx_own rfl (si_seq (se_var 4)) (sg_name 5 sc_are_text_steps.nd) (ss_one (ss_if (sp_not (sp_val (se_call0 h_all_pieces cx_takes (hr.mono (by decide)) (sa_cons (se_var 5) (sa_cons (se_var 2) (sa_cons (se_var 3) sa_nil)))))) (ss_one (ss_ret (se_bl (fr := false)))) ss_nil))) (ss_one (ss_ret (se_bl (fr := false)))))))
theorem bi_are_text_steps {f : Addr} {fd : FuncData} (F : FunD K "are_text_steps" "are_text_steps" (defArgs s_are_text_steps) (defBody s_are_text_steps) (defScope s_are_text_steps) [] [] f fd) : Binds K fd P_are_text_steps [] := F.bindsN fun _ _ _ _ _ _ us hl => match us, hl with | [_, _, _, _], _ => rfl
theorem sc_law_run : FnScope N_law_run P_law_run (defScope s_law_run) := ⟨rfl, rfl, rfl, by decide +kernel, rfl, by decide +kernel, by decide +kernel⟩
theorem ok_law_run {f : Addr} {fd : FuncData} (B : Blt mg) (h_law_joined : Fn P w K mg base ct "_law_joined" 1 2 [] false F_law_joined) (F : FunD K "_law_run" "_law_run" (defArgs s_law_run) (defBody s_law_run) (defScope s_law_run) [] [] f fd) : FnOk P w K mg base (L2.CX P w) 2 f fd P_law_run (spF K ct 3 [] false F_law_run) := def_okD (k := 1) F sc_law_run rfl fun cdv A outer s H E hid ioA hr =>
  (ss_cons (ss_set 3 (Γ2 := []) sc_law_run.nd (se_int (fr := false))) (ss_cons (ss_set 4 (Γ2 := []) sc_law_run.nd (se_fz (se_calO call_list_of cal_list B.n_list (sv_cons (se_var 0) sv_nil)))) (ss_cons (ss_for cx_own rfl (si_seq (se_var 2)) (sg_name 5 sc_law_run.nd) (ss_cons (ss_asg (se_dget (room1 hr) (s2_ee (se_ix2 ix_seq ix_ok (s2_ee (se_var 1) (se_var 3))) (se_var 5))) (sg_tup rfl (sgs_cons (sg_name 6 sc_law_run.nd) (sgs_cons (sg_name 7 sc_law_run.nd) sgs_nil)))) (ss_cons (ss_set 4 (Γ2 := []) sc_law_run.nd (se_fz (se_lc rfl sc_law_run.nd (blkOk_by (own := [("_law_piece_here", 8)]) (by show blkC N_law_run (defScope s_law_run) _ _ = true; decide +kernel)) (si_seq (se_var 7)) (fun _ _ _ _ _ => (sg_name 8 sc_law_run.nd)) (fun _ _ _ _ _ => sps_nil) (fun _ _ _ _ _ => (se_call0 h_law_joined (takes_no rfl) (hr.mono (by decide)) (sa_cons (se_var 8) (sa_cons (se_var 4) sa_nil))))))) (ss_one (ss_set 3 (Γ2 := []) sc_law_run.nd (se_var 6)))))) (ss_one (ss_ret (se_tup (sa_cons (se_var 3) (sa_cons (se_calT call_tuple_of cal_tup B.n_tuple (sv_cons (se_var 4) sv_nil)) sa_nil))))))))
theorem bi_law_run {f : Addr} {fd : FuncData} (F : FunD K "_law_run" "_law_run" (defArgs s_law_run) (defBody s_law_run) (defScope s_law_run) [] [] f fd) : Binds K fd P_law_run [] := F.bindsN fun _ _ _ _ _ _ us hl => match us, hl with | [_, _, _], _ => rfl
theorem sc_text_told : FnScope N_text_told P_text_told (defScope s_text_told) := ⟨rfl, rfl, rfl, by decide +kernel, rfl, by decide +kernel, by decide +kernel⟩
theorem ok_text_told {f : Addr} {fd : FuncData} (B : Blt mg) (h_piece_text : Fn P w K mg base ct "piece_text" 1 2 [] false F_piece_text) (h_TextWriter_kept_told : At K ct "TextWriter" "kept_told") (F : FunD K "text_told" "text_told" (defArgs s_text_told) (defBody s_text_told) (defScope s_text_told) [] [] f fd) : FnOk P w K mg base (L2.CX P w) 2 f fd P_text_told (spF K ct 3 [] false F_text_told) := def_okD (k := 1) F sc_text_told rfl fun cdv A outer s H E hid ioA hr =>
  (ss_one (ss_ret (se_call0 h_piece_text cx_takes (hr.mono (by decide)) (sa_cons (se_ix2 ix_seq ix_ok (s2_ee (se_fld (cs := ["TextWriter"]) (one_cls h_TextWriter_kept_told) (se_var 0)) (se_var 1))) (sa_cons (se_var 2) sa_nil)))))
theorem bi_text_told {f : Addr} {fd : FuncData} (F : FunD K "text_told" "text_told" (defArgs s_text_told) (defBody s_text_told) (defScope s_text_told) [] [] f fd) : Binds K fd P_text_told [] := F.bindsN fun _ _ _ _ _ _ us hl => match us, hl with | [_, _, _], _ => rfl
end
end Wk29
set_option maxHeartbeats 4000000
namespace Wk29
open PySem L2 PySem.Spec PyProof.Rows Ip
section
variable {P : Program} {w : World} {K : PySem.W.Frag} {mg : Str → Option Value} {base : Heap} {ct : Str → Option Addr}
theorem sc_law_piece : FnScope N_law_piece P_law_piece (defScope s_law_piece) := ⟨rfl, rfl, rfl, by decide +kernel, rfl, by decide +kernel, by decide +kernel⟩
theorem ok_law_piece {f : Addr} {fd : FuncData} (B : Blt mg) (h_law_draw : Fn P w K mg base ct "_law_draw" 1 2 [0] false F_law_draw) (h_law_string : Fn P w K mg base ct "_law_string" 2 3 [0] false F_law_string) (F : FunD K "_law_piece" "_law_piece" (defArgs s_law_piece) (defBody s_law_piece) (defScope s_law_piece) [] [] f fd) : FnOk P w K mg base (L2.CX P w) 3 f fd P_law_piece (spF K ct 3 [0] false F_law_piece) := def_okD (k := 2) F sc_law_piece rfl fun cdv A outer s H E hid ioA hr =>
  (ss_cons (ss_setO 3 (Γ2 := [0]) sc_law_piece.nd (se_lst sa_nil)) (ss_cons (ss_for cx_own rfl (si_range1 (sa_cons (se_call1 h_law_draw cx_takes (hr.mono (by decide)) (sa_io 0 (sa_cons (se_int (fr := false)) sa_nil))) sa_nil) B.n_range) (sg_name 4 sc_law_piece.nd) (ss_one (ss_if (sp_cmp2 (or_or op_gt op_gt_str) gt_ok (s2_ee (se_call1 h_law_draw cx_takes (hr.mono (by decide)) (sa_io 0 (sa_cons (se_int (fr := false)) sa_nil))) (se_int (fr := false)))) (ss_one (ss_expr (se_lstM 3 PySem.F.slot_list_append PySem.F.type_list_append mt_append append_ok (sa_cons (se_call1 h_law_draw cx_takes (hr.mono (by decide)) (sa_io 0 (sa_cons (se_var 2) sa_nil))) sa_nil)))) (ss_one (ss_expr (se_lstM 3 PySem.F.slot_list_append PySem.F.type_list_append mt_append append_ok (sa_cons (se_call1 h_law_string cx_takes (hr.mono (by decide)) (sa_io 0 (sa_cons (se_var 1) (sa_cons (se_int (fr := false)) sa_nil)))) sa_nil))))))) (ss_one (ss_ret (se_varF 3 [0])))))
theorem bi_law_piece {f : Addr} {fd : FuncData} (F : FunD K "_law_piece" "_law_piece" (defArgs s_law_piece) (defBody s_law_piece) (defScope s_law_piece) [] [] f fd) : Binds K fd P_law_piece [] := F.bindsN fun _ _ _ _ _ _ us hl => match us, hl with | [_, _, _], _ => rfl
theorem sc_is_text_begin : FnScope N_is_text_begin P_is_text_begin (defScope s_is_text_begin) := ⟨rfl, rfl, rfl, by decide +kernel, rfl, by decide +kernel, by decide +kernel⟩
theorem ok_is_text_begin {f : Addr} {fd : FuncData} (B : Blt mg) (h_is_short : Fn P w K mg base ct "is_short" 2 2 [] false F_is_short) (F : FunD K "is_text_begin" "is_text_begin" (defArgs s_is_text_begin) (defBody s_is_text_begin) (defScope s_is_text_begin) [] [] f fd) : FnOk P w K mg base (L2.CX P w) 3 f fd P_is_text_begin (spF K ct 2 [] false F_is_text_begin) := def_okD (k := 2) F sc_is_text_begin rfl fun cdv A outer s H E hid ioA hr =>
  (ss_cons (ss_if (SW.pt (sw_or (sp_not (sp_val (se_isi (se_var 0) kb_list B.n_isinstance B.n_list))) (sw_or1 (sp_not (sp_chain (or_or op_le op_le_str) (or_or op_le op_le_str) le_ok le_ok (se_int (fr := false)) (se_calB call_len cal_len B.n_len (sv_cons (se_var 0) sv_nil)) (se_int (fr := false))))))) (ss_one (ss_ret (se_bl (fr := false)))) ss_nil) (ss_cons (ss_for cx_own rfl (si_seq (se_var 0)) (sg_name 2 sc_is_text_begin.nd) (ss_one (ss_if (sp_not (sp_val (se_call0 h_is_short cx_takes (hr.mono (by decide)) (sa_cons (se_var 2) (sa_cons (se_var 1) sa_nil))))) (ss_one (ss_ret (se_bl (fr := false)))) ss_nil))) (ss_one (ss_ret (se_bl (fr := false))))))
theorem bi_is_text_begin {f : Addr} {fd : FuncData} (F : FunD K "is_text_begin" "is_text_begin" (defArgs s_is_text_begin) (defBody s_is_text_begin) (defScope s_is_text_begin) [] [] f fd) : Binds K fd P_is_text_begin [] := F.bindsN fun _ _ _ _ _ _ us hl => match us, hl with | [_, _], _ => rfl
theorem sc_copied_pieces : FnScope N_copied_pieces P_copied_pieces (defScope s_copied_pieces) := ⟨rfl, rfl, rfl, by decide +kernel, rfl, by decide +kernel, by decide +kernel⟩
theorem ok_copied_pieces {f : Addr} {fd : FuncData} (B : Blt mg)  (F : FunD K "copied_pieces" "copied_pieces" (defArgs s_copied_pieces) (defBody s_copied_pieces) (defScope s_copied_pieces) [] [] f fd) : FnOk P w K mg base (L2.CX P w) 1 f fd P_copied_pieces (spF K ct 1 [] false F_copied_pieces) := def_okD (k := 0) F sc_copied_pieces rfl fun cdv A outer s H E hid ioA hr =>
  (ss_one (ss_ret (se_fz (se_lc rfl sc_copied_pieces.nd (blkOk_by (own := [("piece", 1)]) (by show blkC N_copied_pieces (defScope s_copied_pieces) _ _ = true; decide +kernel)) (si_seq (se_var 0)) (fun _ _ _ _ _ => (sg_name 1 sc_copied_pieces.nd)) (fun _ _ _ _ _ => sps_nil) (fun _ _ _ _ _ => (se_calO call_list_of cal_list B.n_list (sv_cons (se_var 1) sv_nil)))))))
theorem bi_copied_pieces {f : Addr} {fd : FuncData} (F : FunD K "copied_pieces" "copied_pieces" (defArgs s_copied_pieces) (defBody s_copied_pieces) (defScope s_copied_pieces) [] [] f fd) : Binds K fd P_copied_pieces [] := F.bindsN fun _ _ _ _ _ _ us hl => match us, hl with | [_], _ => rfl
theorem sc_law_bad_row : FnScope N_law_bad_row P_law_bad_row (defScope s_law_bad_row) := ⟨rfl, rfl, rfl, by decide +kernel, rfl, by decide +kernel, by decide +kernel⟩
theorem ok_law_bad_row {f : Addr} {fd : FuncData} (B : Blt mg) (h_law_draw : Fn P w K mg base ct "_law_draw" 1 2 [0] false F_law_draw) (F : FunD K "_law_bad_row" "_law_bad_row" (defArgs s_law_bad_row) (defBody s_law_bad_row) (defScope s_law_bad_row) [] [] f fd) : FnOk P w K mg base (L2.CX P w) 2 f fd P_law_bad_row (spF K ct 3 [0] false F_law_bad_row) := def_okD (k := 1) F sc_law_bad_row rfl fun cdv A outer s H E hid ioA hr =>
  (ss_cons (ss_set 3 (Γ2 := [0]) sc_law_bad_row.nd (se_call1 h_law_draw cx_takes (hr.mono (by decide)) (sa_io 0 (sa_cons (se_int (fr := false)) sa_nil)))) (ss_cons (ss_set 4 (Γ2 := [0]) sc_law_bad_row.nd (se_call1 h_law_draw cx_takes (hr.mono (by decide)) (sa_io 0 (sa_cons (se_bin2 (or_or op_add op_add_str) add_ok (s2_ee (se_calB call_len cal_len B.n_len (sv_cons (se_var 2) sv_nil)) (se_int (fr := false)))) sa_nil)))) (ss_cons (ss_let (Γ2 := [0]) (ss_setLc 5 (Γ2 := [0]) rfl sc_law_bad_row.nd (blkOk_by (own := [("_law_sign", 7)]) (by show blkC N_law_bad_row (defScope s_law_bad_row) _ _ = true; decide +kernel)) (si_seq (se_calO (call_listS rfl) cal_listS B.n_list (sv_cons (se_str (fr := false)) sv_nil))) (fun _ _ _ _ _ => (sg_name 7 sc_law_bad_row.nd)) (fun _ _ _ _ _ => (sps_one (sp_cmp2 op_notIn_sign notInS_ok (s2_ee (se_var 7) (se_var 1))))) (fun _ _ _ _ _ => (se_var 7)))) (ss_cons (ss_set 6 (Γ2 := [0]) sc_law_bad_row.nd (se_ix2 ix_seq ix_ok (s2_ee (se_var 5) (se_call1 h_law_draw cx_takes (hr.mono (by decide)) (sa_io 0 (sa_cons (se_calB call_len cal_len B.n_len (sv_cons (se_var 5) sv_nil)) sa_nil)))))) (ss_cons (ss_if (sp_cmp2 (or_or op_lt op_lt_str) lt_ok (s2_ee (se_var 3) (se_int (fr := false)))) (ss_one (ss_ret (se_bin2 (or_or op_add op_add_str) add_ok (s2_ee (se_bin2 (or_or op_add op_add_str) add_ok (s2_ee (se_slice (se_var 2) so_none (so_some (se_var 4))) (se_var 6))) (se_slice (se_var 2) (so_some (se_var 4)) so_none))))) ss_nil) (ss_cons (ss_if (sp_cmp2 (op_eqD (room64 hr)) eq_ok (s2_ee (se_var 3) (se_int (fr := false)))) (ss_one (ss_ret (se_fz (se_calO (call_listS rfl) cal_listS B.n_list (sv_cons (se_var 2) sv_nil))))) ss_nil) (ss_one (ss_ret (se_ix2 ix_seq ix_ok (s2_ee (se_tup (sa_cons (se_non (fr := false)) (sa_cons (se_var 4) (sa_cons (se_bl (fr := false)) (sa_cons (se_calT (call_tupS rfl) cal_tupS B.n_tuple (sv_cons (se_var 2) sv_nil)) (sa_cons se_dnew sa_nil)))))) (se_bin2 op_sub sub_ok (s2_ee (se_var 3) (se_int (fr := false))))))))))))))
theorem bi_law_bad_row {f : Addr} {fd : FuncData} (F : FunD K "_law_bad_row" "_law_bad_row" (defArgs s_law_bad_row) (defBody s_law_bad_row) (defScope s_law_bad_row) [] [] f fd) : Binds K fd P_law_bad_row [] := F.bindsN fun _ _ _ _ _ _ us hl => match us, hl with | [_, _, _], _ => rfl
theorem sc_TextWriter_tells : FnScope N_TextWriter_tells P_TextWriter_tells (defScope s_TextWriter_tells) := ⟨rfl, rfl, rfl, by decide +kernel, rfl, by decide +kernel, by decide +kernel⟩
theorem ok_TextWriter_tells {f : Addr} {fd : FuncData} (B : Blt mg) (h_TextWriter_stands : Mt P w K mg base ct "TextWriter" "stands" 3 2 false F_TextWriter_stands) (h_text_told : Fn P w K mg base ct "text_told" 2 3 [] false F_text_told) (F : FunD K "tells" "TextWriter.tells" (defArgs s_TextWriter_tells) (defBody s_TextWriter_tells) (defScope s_TextWriter_tells) [] [] f fd) : FnOk P w K mg base (L2.CX P w) 4 f fd P_TextWriter_tells (spF K ct 2 [] false F_TextWriter_tells) := def_okD (k := 3) F sc_TextWriter_tells rfl fun cdv A outer s H E hid ioA hr =>
  (ss_cons (ss_asg (se_meth (cs := ["TextWriter"]) (one_cls h_TextWriter_stands) cx_takes (hr.mono (by decide)) (se_var 0) (sa_cons (se_var 1) sa_nil)) (sg_tup rfl (sgs_cons (sg_name 2 sc_TextWriter_tells.nd) (sgs_cons (sg_name 3 sc_TextWriter_tells.nd) sgs_nil)))) (ss_one (ss_ret (se_call0 h_text_told cx_takes (hr.mono (by decide)) (sa_cons (se_var 0) (sa_cons (se_var 2) (sa_cons (se_var 3) sa_nil)))))))
theorem bi_TextWriter_tells {f : Addr} {fd : FuncData} (F : FunD K "tells" "TextWriter.tells" (defArgs s_TextWriter_tells) (defBody s_TextWriter_tells) (defScope s_TextWriter_tells) [] [] f fd) : Binds K fd P_TextWriter_tells [] := F.bindsN fun _ _ _ _ _ _ us hl => match us, hl with | [_, _], _ => rfl
end
end Wk29
set_option maxHeartbeats 4000000
namespace Wk29
open PySem L2 PySem.Spec PyProof.Rows Ip
section
variable {P : Program} {w : World} {K : PySem.W.Frag} {mg : Str → Option Value} {base : Heap} {ct : Str → Option Addr}
theorem sc_law_texts : FnScope N_law_texts P_law_texts (defScope s_law_texts) := ⟨rfl, rfl, rfl, by decide +kernel, rfl, by decide +kernel, by decide +kernel⟩
theorem ok_law_texts {f : Addr} {fd : FuncData} (B : Blt mg) (h_law_letters : Fn P w K mg base ct "_law_letters" 2 2 [0] false F_law_letters) (h_law_draw : Fn P w K mg base ct "_law_draw" 1 2 [0] false F_law_draw) (h_law_signs : Fn P w K mg base ct "_law_signs" 2 2 [0] false F_law_signs) (h_law_string : Fn P w K mg base ct "_law_string" 2 3 [0] false F_law_string) (h_law_piece : Fn P w K mg base ct "_law_piece" 3 3 [0] false F_law_piece) (F : FunD K "_law_texts" "_law_texts" (defArgs s_law_texts) (defBody s_law_texts) (defScope s_law_texts) [] [] f fd) : FnOk P w K mg base (L2.CX P w) 4 f fd P_law_texts (spF K ct 1 [0] false F_law_texts) := def_okD (k := 3) F sc_law_texts rfl fun cdv A outer s H E hid ioA hr =>
  (ss_cons (ss_set 1 (Γ2 := [0]) sc_law_texts.nd (se_call1 h_law_letters cx_takes (hr.mono (by decide)) (sa_io 0 (sa_cons (se_bin2 (or_or op_add op_add_str) add_ok (s2_ee (se_int (fr := false)) (se_call1 h_law_draw cx_takes (hr.mono (by decide)) (sa_io 0 (sa_cons (se_int (fr := false)) sa_nil))))) sa_nil)))) (ss_cons (ss_set 2 (Γ2 := [0]) sc_law_texts.nd (se_call1 h_law_signs cx_takes (hr.mono (by decide)) (sa_io 0 (sa_cons (se_bin2 (or_or op_add op_add_str) add_ok (s2_ee (se_int (fr := false)) (se_call1 h_law_draw cx_takes (hr.mono (by decide)) (sa_io 0 (sa_cons (se_int (fr := false)) sa_nil))))) sa_nil)))) (ss_cons (ss_set 3 (Γ2 := [0]) sc_law_texts.nd (se_bin2 (or_or op_add op_add_str) add_ok (s2_ee (se_int (fr := false)) (se_call1 h_law_draw cx_takes (hr.mono (by decide)) (sa_io 0 (sa_cons (se_int (fr := false)) sa_nil)))))) (ss_cons (ss_set 4 (Γ2 := [0]) sc_law_texts.nd (se_bin2 (or_or op_add op_add_str) add_ok (s2_ee (se_int (fr := false)) (se_call1 h_law_draw cx_takes (hr.mono (by decide)) (sa_io 0 (sa_cons (se_int (fr := false)) sa_nil)))))) (ss_cons (ss_let (Γ2 := [0]) (ss_setLc 5 (Γ2 := [0]) rfl sc_law_texts.nd (blkOk_by (own := [("_law_k", 12)]) (by show blkC N_law_texts (defScope s_law_texts) _ _ = true; decide +kernel)) (si_range1 (sa_cons (se_var 3) sa_nil) B.n_range) (fun _ _ _ _ _ => (sg_name 12 sc_law_texts.nd)) (fun _ _ _ _ _ => sps_nil) (fun _ _ _ _ _ => (se_call1 h_law_string (takes_no rfl) (hr.mono (by decide)) (sa_io 0 (sa_cons (se_var 2) (sa_cons (se_int (fr := false)) sa_nil))))))) (ss_cons (ss_setO 6 (Γ2 := [0]) sc_law_texts.nd (se_lst sa_nil)) (ss_cons (ss_for cx_own rfl (si_range1 (sa_cons (se_var 4) sa_nil) B.n_range) (sg_name 7 sc_law_texts.nd) (ss_cons (ss_setO 8 (Γ2 := [6, 0]) sc_law_texts.nd se_dnew) (ss_cons (ss_for cx_own rfl (si_seq (se_var 1)) (sg_name 9 sc_law_texts.nd) (ss_cons (ss_set 10 (Γ2 := [8, 6, 0]) sc_law_texts.nd (se_call1 h_law_draw cx_takes (hr.mono (by decide)) (sa_io 0 (sa_cons (se_var 4) sa_nil)))) (ss_one (ss_asg (se_tup (sa_cons (se_var 10) (sa_cons (se_lc rfl sc_law_texts.nd (blkOk_by (own := [("_law_k", 12)]) (by show blkC N_law_texts (defScope s_law_texts) _ _ = true; decide +kernel)) (si_range1 (sa_cons (se_var 3) sa_nil) B.n_range) (fun _ _ _ _ _ => (sg_name 12 sc_law_texts.nd)) (fun _ _ _ _ _ => sps_nil) (fun _ _ _ _ _ => (se_call1 h_law_piece (takes_no rfl) (hr.mono (by decide)) (sa_io 0 (sa_cons (se_var 2) (sa_cons (se_var 3) sa_nil)))))) sa_nil))) (sg_dk (W := Wn) 8 (room1 hr) (se_var 9)))))) (ss_one (ss_expr (se_lstM 6 PySem.F.slot_list_append PySem.F.type_list_append mt_append append_ok (sa_cons (se_varF 8 [6, 0]) sa_nil))))))) (ss_cons (ss_let (Γ2 := [6, 0]) (ss_setLc 11 (Γ2 := [6, 0]) rfl sc_law_texts.nd (blkOk_by (own := [("_law_k", 12)]) (by show blkC N_law_texts (defScope s_law_texts) _ _ = true; decide +kernel)) (si_range1 (sa_cons (se_var 4) sa_nil) B.n_range) (fun _ _ _ _ _ => (sg_name 12 sc_law_texts.nd)) (fun _ _ _ _ _ => sps_nil) (fun _ _ _ _ _ => (se_call1 h_law_piece (takes_no rfl) (hr.mono (by decide)) (sa_io 0 (sa_cons (se_var 2) (sa_cons (se_var 3) sa_nil))))))) (ss_one (ss_ret (se_tup (sa_cons (se_var 1) (sa_cons (se_var 2) (sa_cons (se_var 5) (sa_cons (se_varF 6 [0]) (sa_cons (se_var 11) sa_nil))))))))))))))))
theorem bi_law_texts {f : Addr} {fd : FuncData} (F : FunD K "_law_texts" "_law_texts" (defArgs s_law_texts) (defBody s_law_texts) (defScope s_law_texts) [] [] f fd) : Binds K fd P_law_texts [] := F.bindsN fun _ _ _ _ _ _ us hl => match us, hl with | [_], _ => rfl
theorem sc_has_letters : FnScope N_has_letters P_has_letters (defScope s_has_letters) := ⟨rfl, rfl, rfl, by decide +kernel, rfl, by decide +kernel, by decide +kernel⟩
theorem ok_has_letters {f : Addr} {fd : FuncData} (B : Blt mg)  (F : FunD K "has_letters" "has_letters" (defArgs s_has_letters) (defBody s_has_letters) (defScope s_has_letters) [] [] f fd) : FnOk P w K mg base (L2.CX P w) 1 f fd P_has_letters (spF K ct 2 [] false F_has_letters) := def_okD (k := 0) F sc_has_letters rfl fun cdv A outer s H E hid ioA hr =>
  (ss_cons (ss_if (SW.pt (sw_or (sp_not (sp_val (se_isi (se_var 0) kb_dict B.n_isinstance B.n_dict))) (sw_or1 (sp_cmp2 (op_neD (room64 hr)) ne_ok (s2_ee (se_calB call_lenDK cal_lenD B.n_len (sv_cons (se_var 0) sv_nil)) (se_calB call_len cal_len B.n_len (sv_cons (se_var 1) sv_nil))))))) (ss_one (ss_ret (se_bl (fr := false)))) ss_nil) (ss_cons (ss_for cx_own rfl (si_seq (se_var 1)) (sg_name 2 sc_has_letters.nd) (ss_one (ss_if (sp_cmp2 (op_notInK (room1 hr)) notInK_ok (s2_ee (se_var 2) (se_var 0))) (ss_one (ss_ret (se_bl (fr := false)))) ss_nil))) (ss_one (ss_ret (se_bl (fr := false))))))
theorem bi_has_letters {f : Addr} {fd : FuncData} (F : FunD K "has_letters" "has_letters" (defArgs s_has_letters) (defBody s_has_letters) (defScope s_has_letters) [] [] f fd) : Binds K fd P_has_letters [] := F.bindsN fun _ _ _ _ _ _ us hl => match us, hl with | [_, _], _ => rfl
theorem sc_copied_text_steps : FnScope N_copied_text_steps P_copied_text_steps (defScope s_copied_text_steps) := ⟨rfl, rfl, rfl, by decide +kernel, rfl, by decide +kernel, by decide +kernel⟩
theorem ok_copied_text_steps {f : Addr} {fd : FuncData} (B : Blt mg) (h_copied_pieces : Fn P w K mg base ct "copied_pieces" 1 1 [] false F_copied_pieces) (F : FunD K "copied_text_steps" "copied_text_steps" (defArgs s_copied_text_steps) (defBody s_copied_text_steps) (defScope s_copied_text_steps) [] [] f fd) : FnOk P w K mg base (L2.CX P w) 2 f fd P_copied_text_steps (spF K ct 2 [] false F_copied_text_steps) := def_okD (k := 1) F sc_copied_text_steps rfl fun cdv A outer s H E hid ioA hr =>
  (ss_cons (ss_setO 2 (Γ2 := []) sc_copied_text_steps.nd (se_lst sa_nil)) (ss_cons (ss_for cx_own rfl (si_seq (se_var 0)) (sg_name 3 sc_copied_text_steps.nd) (ss_one (ss_expr (se_lstM 2 PySem.F.slot_list_append PySem.F.type_list_append mt_append append_ok (sa_cons (se_dc rfl sc_copied_text_steps.nd (blkOk_by (own := [("letter", 4)]) (by show blkC N_copied_text_steps (defScope s_copied_text_steps) _ _ = true; decide +kernel)) (si_seq (se_var 1)) (fun _ _ _ _ _ => (sg_name 4 sc_copied_text_steps.nd)) (fun _ _ _ _ _ => sps_nil) (fun _ _ _ _ _ => (se_var 4)) (fun _ _ _ _ _ => (se_tup (sa_cons (se_ix2 ix_seq ix_ok (s2_ee (se_dget (room1 hr) (s2_ee (se_var 3) (se_var 4))) (se_int (fr := false)))) (sa_cons (se_call0 h_copied_pieces (takes_no rfl) (hr.mono (by decide)) (sa_cons (se_ix2 ix_seq ix_ok (s2_ee (se_dget (room1 hr) (s2_ee (se_var 3) (se_var 4))) (se_int (fr := false)))) sa_nil)) sa_nil))))) sa_nil))))) (ss_one (ss_ret (se_varF 2 [])))))
theorem bi_copied_text_steps {f : Addr} {fd : FuncData} (F : FunD K "copied_text_steps" "copied_text_steps" (defArgs s_copied_text_steps) (defBody s_copied_text_steps) (defScope s_copied_text_steps) [] [] f fd) : Binds K fd P_copied_text_steps [] := F.bindsN fun _ _ _ _ _ _ us hl => match us, hl with | [_, _], _ => rfl
theorem sc_law_is_integer : FnScope N_law_is_integer P_law_is_integer (defScope s_law_is_integer) := ⟨rfl, rfl, rfl, by decide +kernel, rfl, by decide +kernel, by decide +kernel⟩
theorem ok_law_is_integer {f : Addr} {fd : FuncData} (B : Blt mg)  (F : FunD K "_law_is_integer" "_law_is_integer" (defArgs s_law_is_integer) (defBody s_law_is_integer) (defScope s_law_is_integer) [] [] f fd) : FnOk P w K mg base (L2.CX P w) 1 f fd P_law_is_integer (spF K ct 1 [] false F_law_is_integer) := def_okD (k := 0) F sc_law_is_integer rfl fun cdv A outer s H E hid ioA hr =>
  (ss_one (ss_ret (se_and (se_isi (se_var 0) kb_int B.n_isinstance B.n_int) (se_one (se_not (fr := false) (se_isi (se_var 0) kb_bool B.n_isinstance B.n_bool))))))
theorem bi_law_is_integer {f : Addr} {fd : FuncData} (F : FunD K "_law_is_integer" "_law_is_integer" (defArgs s_law_is_integer) (defBody s_law_is_integer) (defScope s_law_is_integer) [] [] f fd) : Binds K fd P_law_is_integer [] := F.bindsN fun _ _ _ _ _ _ us hl => match us, hl with | [_], _ => rfl
theorem sc_law_told : FnScope N_law_told P_law_told (defScope s_law_told) := ⟨rfl, rfl, rfl, by decide +kernel, rfl, by decide +kernel, by decide +kernel⟩
theorem ok_law_told {f : Addr} {fd : FuncData} (B : Blt mg) (h_law_exact : Fn P w K mg base ct "_law_exact" 4 2 [] false (F_law_exact 3)) (h_TextWriter_tells : Mt P w K mg base ct "TextWriter" "tells" 4 2 false F_TextWriter_tells) (h_TextWriter_stands : Mt P w K mg base ct "TextWriter" "stands" 3 2 false F_TextWriter_stands) (F : FunD K "_law_told" "_law_told" (defArgs s_law_told) (defBody s_law_told) (defScope s_law_told) [] [] f fd) : FnOk P w K mg base (L2.CX P w) 5 f fd P_law_told (spF K ct 5 [] false F_law_told) := def_okD (k := 4) F sc_law_told rfl fun cdv A outer s H E hid ioA hr =>
  (ss_cons (ss_for cx_own rfl (si_seq (se_tup (sa_cons (se_var 4) (sa_cons (se_bin2 op_sub sub_ok (s2_ee (se_int (fr := false)) (se_var 4))) sa_nil)))) (sg_name 5 sc_law_told.nd) (ss_cons (ss_if (SW.pt (sw_and (sp_cmp2 (op_eqD (room64 hr)) eq_ok (s2_ee (se_var 5) (se_int (fr := false)))) (sw_and1 (sp_not (sp_val (se_call0 h_law_exact cx_takes (hr.mono (by decide)) (sa_cons (se_meth (cs := ["TextWriter"]) (one_cls h_TextWriter_tells) cx_takes (hr.mono (by decide)) (se_var 0) (sa_cons (se_var 1) sa_nil)) (sa_cons (se_var 3) sa_nil)))))))) (ss_one (ss_ret (se_bl (fr := false)))) ss_nil) (ss_one (ss_if (SW.pt (sw_and (sp_cmp2 (op_eqD (room64 hr)) eq_ok (s2_ee (se_var 5) (se_int (fr := false)))) (sw_and1 (sp_not (sp_val (se_call0 h_law_exact cx_takes (hr.mono (by decide)) (sa_cons (se_meth (cs := ["TextWriter"]) (one_cls h_TextWriter_stands) cx_takes (hr.mono (by decide)) (se_var 0) (sa_cons (se_var 1) sa_nil)) (sa_cons (se_var 2) sa_nil)))))))) (ss_one (ss_ret (se_bl (fr := false)))) ss_nil)))) (ss_one (ss_ret (se_bl (fr := false)))))
theorem bi_law_told {f : Addr} {fd : FuncData} (F : FunD K "_law_told" "_law_told" (defArgs s_law_told) (defBody s_law_told) (defScope s_law_told) [] [] f fd) : Binds K fd P_law_told [] := F.bindsN fun _ _ _ _ _ _ us hl => match us, hl with | [_, _, _, _, _], _ => rfl
end
end Wk29
set_option maxHeartbeats 4000000
namespace Wk29
open PySem L2 PySem.Spec PyProof.Rows Ip
section
variable {P : Program} {w : World} {K : PySem.W.Frag} {mg : Str → Option Value} {base : Heap} {ct : Str → Option Addr}
theorem sc_law_pieces : FnScope N_law_pieces P_law_pieces (defScope s_law_pieces) := ⟨rfl, rfl, rfl, by decide +kernel, rfl, by decide +kernel, by decide +kernel⟩
theorem ok_law_pieces {f : Addr} {fd : FuncData} (B : Blt mg)  (F : FunD K "_law_pieces" "_law_pieces" (defArgs s_law_pieces) (defBody s_law_pieces) (defScope s_law_pieces) [] [] f fd) : FnOk P w K mg base (L2.CX P w) 1 f fd P_law_pieces (spF K ct 1 [] false F_law_pieces) := def_okD (k := 0) F sc_law_pieces rfl fun cdv A outer s H E hid ioA hr =>
  (ss_one (ss_ret (se_fz (se_lc rfl sc_law_pieces.nd (blkOk_by (own := [("_law_piece_here", 1)]) (by show blkC N_law_pieces (defScope s_law_pieces) _ _ = true; decide +kernel)) (si_seq (se_var 0)) (fun _ _ _ _ _ => (sg_name 1 sc_law_pieces.nd)) (fun _ _ _ _ _ => sps_nil) (fun _ _ _ _ _ => (se_calO call_list_of cal_list B.n_list (sv_cons (se_var 1) sv_nil)))))))
theorem bi_law_pieces {f : Addr} {fd : FuncData} (F : FunD K "_law_pieces" "_law_pieces" (defArgs s_law_pieces) (defBody s_law_pieces) (defScope s_law_pieces) [] [] f fd) : Binds K fd P_law_pieces [] := F.bindsN fun _ _ _ _ _ _ us hl => match us, hl with | [_], _ => rfl
theorem sc_is_integer : FnScope N_is_integer P_is_integer (defScope s_is_integer) := ⟨rfl, rfl, rfl, by decide +kernel, rfl, by decide +kernel, by decide +kernel⟩
theorem ok_is_integer {f : Addr} {fd : FuncData} (B : Blt mg)  (F : FunD K "is_integer" "is_integer" (defArgs s_is_integer) (defBody s_is_integer) (defScope s_is_integer) [] [] f fd) : FnOk P w K mg base (L2.CX P w) 1 f fd P_is_integer (spF K ct 1 [] false F_is_integer) := def_okD (k := 0) F sc_is_integer rfl fun cdv A outer s H E hid ioA hr =>
  (ss_one (ss_ret (se_and (se_isi (se_var 0) kb_int B.n_isinstance B.n_int) (se_one (se_not (fr := false) (se_isi (se_var 0) kb_bool B.n_isinstance B.n_bool))))))
theorem bi_is_integer {f : Addr} {fd : FuncData} (F : FunD K "is_integer" "is_integer" (defArgs s_is_integer) (defBody s_is_integer) (defScope s_is_integer) [] [] f fd) : Binds K fd P_is_integer [] := F.bindsN fun _ _ _ _ _ _ us hl => match us, hl with | [_], _ => rfl
theorem sc_TextWriter___init__ : FnScope N_TextWriter___init__ P_TextWriter___init__ (defScope s_TextWriter___init__) := ⟨rfl, rfl, rfl, by decide +kernel, rfl, by decide +kernel, by decide +kernel⟩
theorem ok_TextWriter___init__ {f : Addr} {fd : FuncData} (B : Blt mg) (h_are_letters : Fn P w K mg base ct "are_letters" 1 1 [] false F_are_letters) (h_are_signs : Fn P w K mg base ct "are_signs" 1 1 [] false F_are_signs) (h_is_text_begin : Fn P w K mg base ct "is_text_begin" 3 2 [] false F_is_text_begin) (h_are_text_steps : Fn P w K mg base ct "are_text_steps" 5 4 [] false F_are_text_steps) (h_all_pieces : Fn P w K mg base ct "all_pieces" 4 3 [] false F_all_pieces) (h_copied_text_steps : Fn P w K mg base ct "copied_text_steps" 2 2 [] false F_copied_text_steps) (h_copied_pieces : Fn P w K mg base ct "copied_pieces" 1 1 [] false F_copied_pieces) (h_TextWriter_kept_begin : At K ct "TextWriter" "kept_begin") (h_TextWriter_kept_letters : At K ct "TextWriter" "kept_letters") (h_TextWriter_kept_signs : At K ct "TextWriter" "kept_signs") (h_TextWriter_kept_steps : At K ct "TextWriter" "kept_steps") (h_TextWriter_kept_told : At K ct "TextWriter" "kept_told") (F : FunD K "__init__" "TextWriter.__init__" (defArgs s_TextWriter___init__) (defBody s_TextWriter___init__) (defScope s_TextWriter___init__) [] [] f fd) : FnOk P w K mg base (L2.CX P w) 6 f fd P_TextWriter___init__ (spF K ct 6 [0] false F_TextWriter___init__) := def_okD (k := 5) F sc_TextWriter___init__ rfl fun cdv A outer s H E hid ioA hr =>
  (ss_cons (ss_if (sp_not (sp_val (se_call0 h_are_letters cx_takes (hr.mono (by decide)) (sa_cons (se_var 1) sa_nil)))) (ss_one ss_bad) ss_nil) (ss_cons (ss_if (sp_not (sp_val (se_call0 h_are_signs cx_takes (hr.mono (by decide)) (sa_cons (se_var 2) sa_nil)))) (ss_one ss_bad) ss_nil) (ss_cons (ss_if (sp_not (sp_val (se_call0 h_is_text_begin cx_takes (hr.mono (by decide)) (sa_cons (se_var 3) (sa_cons (se_var 2) sa_nil))))) (ss_one ss_bad) ss_nil) (ss_cons (ss_if (sp_not (sp_val (se_call0 h_are_text_steps cx_takes (hr.mono (by decide)) (sa_cons (se_var 4) (sa_cons (se_var 1) (sa_cons (se_var 2) (sa_cons (se_calB call_len cal_len B.n_len (sv_cons (se_var 3) sv_nil)) sa_nil))))))) (ss_one ss_bad) ss_nil) (ss_cons (ss_if (SW.pt (sw_or (sp_not (sp_val (se_isi (se_var 5) kb_list B.n_isinstance B.n_list))) (sw_or (sp_cmp2 (op_neD (room64 hr)) ne_ok (s2_ee (se_calB call_len cal_len B.n_len (sv_cons (se_var 5) sv_nil)) (se_calB call_len cal_len B.n_len (sv_cons (se_var 4) sv_nil)))) (sw_or1 (sp_not (sp_val (se_call0 h_all_pieces cx_takes (hr.mono (by decide)) (sa_cons (se_var 5) (sa_cons (se_var 2) (sa_cons (se_calB call_len cal_len B.n_len (sv_cons (se_var 3) sv_nil)) sa_nil)))))))))) (ss_one ss_bad) ss_nil) (ss_cons (ss_fld 0 h_TextWriter_kept_letters (se_var 1)) (ss_cons (ss_fld 0 h_TextWriter_kept_signs (se_var 2)) (ss_cons (ss_fld 0 h_TextWriter_kept_begin (se_fz (se_calO call_list_of cal_list B.n_list (sv_cons (se_var 3) sv_nil)))) (ss_cons (ss_fld 0 h_TextWriter_kept_steps (se_call0 h_copied_text_steps cx_takes (hr.mono (by decide)) (sa_cons (se_var 4) (sa_cons (se_var 1) sa_nil)))) (ss_one (ss_fld 0 h_TextWriter_kept_told (se_call0 h_copied_pieces cx_takes (hr.mono (by decide)) (sa_cons (se_var 5) sa_nil)))))))))))))
theorem bi_TextWriter___init__ {f : Addr} {fd : FuncData} (F : FunD K "__init__" "TextWriter.__init__" (defArgs s_TextWriter___init__) (defBody s_TextWriter___init__) (defScope s_TextWriter___init__) [] [] f fd) : Binds K fd P_TextWriter___init__ [] := F.bindsN fun _ _ _ _ _ _ us hl => match us, hl with | [_, _, _, _, _, _], _ => rfl
theorem sc_law_exact : FnScope N_law_exact P_law_exact (defScope s_law_exact) := ⟨rfl, rfl, rfl, by decide +kernel, rfl, by decide +kernel, by decide +kernel⟩
theorem ok_law_exact {f : Addr} {fd : FuncData} (B : Blt mg) (h_law_is_integer : Fn P w K mg base ct "_law_is_integer" 1 1 [] false F_law_is_integer) (F : FunD K "_law_exact" "_law_exact" (defArgs s_law_exact) (defBody s_law_exact) (defScope s_law_exact) [] [] f fd) (hm : mg "_law_exact" = some (.ref f)) : ∀ n, Fn P w K mg base ct "_law_exact" (n + 1) 2 [] false (F_law_exact n)
  | 0 => ⟨f, fd, P_law_exact, def_okD F sc_law_exact rfl fun cdv A outer s H E hid ioA hr => sss_bad, hm, F.kp, F.bindsN fun _ _ _ _ _ _ us hl => match us, hl with | [_, _], _ => rfl⟩
  | m + 1 => by
    have ih := ok_law_exact B h_law_is_integer F hm m
    refine ⟨f, fd, P_law_exact, def_okD F sc_law_exact rfl fun cdv A outer s H E hid ioA hr => ?_, hm, F.kp, F.bindsN fun _ _ _ _ _ _ us hl => match us, hl with | [_, _], _ => rfl⟩
    exact (ss_cons (ss_if (sp_val (se_isi (se_var 1) kb_dict B.n_isinstance B.n_dict)) sss_bad ss_nil) (ss_cons (ss_if (SW.pt (sw_or (sp_val (se_isi (se_var 1) kb_list B.n_isinstance B.n_list)) (sw_or1 (sp_val (se_isi (se_var 1) kb_tuple B.n_isinstance B.n_tuple))))) (ss_cons (ss_if (SW.pt (sw_and (sp_val (se_isi (se_var 1) kb_list B.n_isinstance B.n_list)) (sw_and1 (sp_not (sp_val (se_isi (se_var 0) kb_list B.n_isinstance B.n_list)))))) (ss_one (ss_ret (se_bl (fr := false)))) ss_nil) (ss_cons (ss_if (SW.pt (sw_and (sp_val (se_isi (se_var 1) kb_tuple B.n_isinstance B.n_tuple)) (sw_and1 (sp_not (sp_val (se_isi (se_var 0) kb_tuple B.n_isinstance B.n_tuple)))))) (ss_one (ss_ret (se_bl (fr := false)))) ss_nil) (ss_cons (ss_if (sp_cmp2 (op_neD (room64 hr)) ne_ok (s2_ee (se_calB call_len cal_len B.n_len (sv_cons (se_var 0) sv_nil)) (se_calB call_len cal_len B.n_len (sv_cons (se_var 1) sv_nil)))) (ss_one (ss_ret (se_bl (fr := false)))) ss_nil) (ss_cons (ss_for cx_own rfl (si_range1 (sa_cons (se_calB call_len cal_len B.n_len (sv_cons (se_var 1) sv_nil)) sa_nil) B.n_range) (sg_name 3 sc_law_exact.nd) (ss_one (ss_if (sp_not (sp_val (se_call0 ih cx_takes (hr.mono (by omega)) (sa_cons (se_ix2 ix_seq ix_ok (s2_ee (se_var 0) (se_var 3))) (sa_cons (se_ix2 ix_seq ix_ok (s2_ee (se_var 1) (se_var 3))) sa_nil))))) (ss_one (ss_ret (se_bl (fr := false)))) ss_nil))) (ss_one (ss_ret (se_bl (fr := false)))))))) ss_nil) (ss_cons (ss_if (sp_val (se_isi (se_var 1) kb_str B.n_isinstance B.n_str)) (ss_one (ss_ret (se_and (se_isi (se_var 0) kb_str B.n_isinstance B.n_str) (se_one (se_cmp2 (op_eqD (room64 hr)) eq_ok (s2_ee (se_var 0) (se_var 1))))))) ss_nil) (ss_one (ss_ret (se_and (se_call0 h_law_is_integer cx_takes (hr.mono (by omega)) (sa_cons (se_var 0) sa_nil)) (se_one (se_cmp2 (op_eqD (room64 hr)) eq_ok (s2_ee (se_var 0) (se_var 1))))))))))
theorem sc_law_refused : FnScope N_law_refused P_law_refused (defScope s_law_refused) := ⟨rfl, rfl, rfl, by decide +kernel, rfl, by decide +kernel, by decide +kernel⟩
theorem ok_law_refused {f : Addr} {fd : FuncData} (B : Blt mg) (h_TextWriter_tells : Mt P w K mg base ct "TextWriter" "tells" 4 2 false F_TextWriter_tells) (h_TextWriter_stands : Mt P w K mg base ct "TextWriter" "stands" 3 2 false F_TextWriter_stands) (h_er_NoRow : Er K mg ct "NoRow") {a_NoRow : Addr} (hct_NoRow : ct "NoRow" = some a_NoRow) (hexc_NoRow : ExcC K a_NoRow) (hexm_NoRow : PySem.W.exmOne K (.ref a_NoRow) (.ref a_NoRow) = some true) (hmg_NoRow : mg "NoRow" = some (.ref a_NoRow)) {a_MadeError : Addr} (hmg_MadeError : mg "MadeError" = some (.ref a_MadeError)) (hkit_NoRow_MadeError : PySem.W.kitOne K (.ref a_NoRow) (.ref a_MadeError) = some true) {a_NoWriter : Addr} (hmg_NoWriter : mg "NoWriter" = some (.ref a_NoWriter)) (hkit_NoRow_NoWriter : PySem.W.kitOne K (.ref a_NoRow) (.ref a_NoWriter) = some false) {a_NoText : Addr} (hmg_NoText : mg "NoText" = some (.ref a_NoText)) (hkit_NoRow_NoText : PySem.W.kitOne K (.ref a_NoRow) (.ref a_NoText) = some false) (F : FunD K "_law_refused" "_law_refused" (defArgs s_law_refused) (defBody s_law_refused) (defScope s_law_refused) [] [] f fd) : FnOk P w K mg base (L2.CX P w) 5 f fd P_law_refused (spF K ct 3 [] false F_law_refused) := def_okD (k := 4) F sc_law_refused rfl fun cdv A outer s H E hid ioA hr =>
  (ss_cons (ss_set 3 (Γ2 := []) sc_law_refused.nd (se_bl (fr := false))) (ss_cons (ss_tryAs 4 3 (d := .bl (true && ((!false) && (!false)))) (v := .bl (true && ((!false) && (!false)))) sc_law_refused.nd rfl rfl hct_NoRow ⟨rfl, by decide, .inl hmg_NoRow⟩ hexm_NoRow (fun _ => .bl _) cx_takes (fun _ W1 pn xe t1 t2 => (ss_one (ss_if (sp_cmp2 (op_eqD (room64 hr)) eq_ok (s2_ee (se_var 2) (se_int (fr := false)))) (ss_one (ss_expr (se_meth (cs := ["TextWriter"]) (one_cls h_TextWriter_tells) t1 (hr.mono (by decide)) (se_var 0) (sa_cons (se_var 1) sa_nil)))) (ss_one (ss_expr (se_meth (cs := ["TextWriter"]) (one_cls h_TextWriter_stands) t1 (hr.mono (by decide)) (se_var 0) (sa_cons (se_var 1) sa_nil))))))) fun a oe pn hz hf => (suite_ps 3 sc_law_refused.nd (sx_and (sx_isi (k := true) hexc_NoRow hz hf hkit_NoRow_MadeError rfl (Or.inl rfl) B.n_isinstance hmg_MadeError) (sx_and (sx_not (sx_isi (k := false) hexc_NoRow hz hf hkit_NoRow_NoWriter rfl (Or.inl rfl) B.n_isinstance hmg_NoWriter)) (sx_one (sx_not (sx_isi (k := false) hexc_NoRow hz hf hkit_NoRow_NoText rfl (Or.inl rfl) B.n_isinstance hmg_NoText))))))) (ss_one (ss_ret (se_var 3)))))
theorem bi_law_refused {f : Addr} {fd : FuncData} (F : FunD K "_law_refused" "_law_refused" (defArgs s_law_refused) (defBody s_law_refused) (defScope s_law_refused) [] [] f fd) : Binds K fd P_law_refused [] := F.bindsN fun _ _ _ _ _ _ us hl => match us, hl with | [_, _, _], _ => rfl
end
end Wk29
set_option maxHeartbeats 2000000
namespace Ip
open PySem L2 PySem.Spec PyProof.Rows
/-- the law's end where the context of the errors names the world -/
theorem law_end {lw : PySem.W.OpenLaw} {nn kk : Nat} {qq : Program} {ll : List Str} {XP : (Str → Option Value) → Heap → Prop} {YP : World → Heap → Prop} {dd : DefRec} {xx : Str} (a1 : lw.most = some nn) (a2 : nn ≤ sizeLine) (a3 : dd.params.defaults = []) (a4 : Room kk callerA)
    (FF : ∀ (w : World) (mg : Str → Option Value) (fa : Addr) (hh : Heap), YP w hh → hh.Ns mainGlobals mg → mg dd.name = some (.ref fa) → ∃ (K : PySem.W.Frag) (fd : FuncData) (sp : Sp), K.In hh ∧ (∀ (sh : Shared) (u : Value), BindsTo sh fd ⟨[u], []⟩ [(xx, u)]) ∧ (∀ (H : Hp) (a : Addr) (ns : List Int), ns.length ≤ nn → Only H → SqL K H a (ns.map V.int) → sp [.ref a] H (fun v _ => v = .bl true) fun _ _ _ => False) ∧ ∀ base : Heap, K.In base → base.Ns mainGlobals mg → FnOk lw.prog w K mg base (L2.CX lw.prog w) kk fa fd [xx] sp) :
    PySem.W.WalkO qq ll XP YP lw.row.toRowW dd [] (fun f vs => PySem.call f vs) := by
  refine Att.attach_call a1 a3 fun w sa sb mg mb fa o pm cd doc a vs ns G Y ho hd hcd h1 h2 h3 h4 h5 => ?_
  obtain ⟨K, fd, sp, KX, b1, b2, b3⟩ := FF w mg fa _ Y G.T.g h1
  refine law_call KX G.T.g G.T.b G.T.builtins G.T.nolimit h5 h2 h3 (Nat.le_trans h4 a2) a4 b3 b1 (fun H o1 o2 => b2 H a ns h4 o1 o2) ?_
  exact fun H e sc => law_cx H sb e sc
end Ip
set_option maxHeartbeats 0
namespace Wk29
open PySem L2 PySem.Spec PyProof.Rows Ip
/-! ## the head -/
def d_law_pool : He.DefD := ⟨("_law_pool", none), "_law_pool", "_law_pool", defArgs s_law_pool, defBody s_law_pool, defScope s_law_pool, [], []⟩
def d_law_draw : He.DefD := ⟨("_law_draw", none), "_law_draw", "_law_draw", defArgs s_law_draw, defBody s_law_draw, defScope s_law_draw, [], []⟩
def d_law_letters : He.DefD := ⟨("_law_letters", none), "_law_letters", "_law_letters", defArgs s_law_letters, defBody s_law_letters, defScope s_law_letters, [], []⟩
def d_law_signs : He.DefD := ⟨("_law_signs", none), "_law_signs", "_law_signs", defArgs s_law_signs, defBody s_law_signs, defScope s_law_signs, [], []⟩
def d_law_string : He.DefD := ⟨("_law_string", none), "_law_string", "_law_string", defArgs s_law_string, defBody s_law_string, defScope s_law_string, [], []⟩
def d_law_piece : He.DefD := ⟨("_law_piece", none), "_law_piece", "_law_piece", defArgs s_law_piece, defBody s_law_piece, defScope s_law_piece, [], []⟩
def d_law_texts : He.DefD := ⟨("_law_texts", none), "_law_texts", "_law_texts", defArgs s_law_texts, defBody s_law_texts, defScope s_law_texts, [], []⟩
def d_law_pieces : He.DefD := ⟨("_law_pieces", none), "_law_pieces", "_law_pieces", defArgs s_law_pieces, defBody s_law_pieces, defScope s_law_pieces, [], []⟩
def d_law_copied : He.DefD := ⟨("_law_copied", none), "_law_copied", "_law_copied", defArgs s_law_copied, defBody s_law_copied, defScope s_law_copied, [], []⟩
def d_are_letters : He.DefD := ⟨("are_letters", none), "are_letters", "are_letters", defArgs s_are_letters, defBody s_are_letters, defScope s_are_letters, [], []⟩
def d_are_signs : He.DefD := ⟨("are_signs", none), "are_signs", "are_signs", defArgs s_are_signs, defBody s_are_signs, defScope s_are_signs, [], []⟩
def d_is_of_signs : He.DefD := ⟨("is_of_signs", none), "is_of_signs", "is_of_signs", defArgs s_is_of_signs, defBody s_is_of_signs, defScope s_is_of_signs, [], []⟩
def d_is_short : He.DefD := ⟨("is_short", none), "is_short", "is_short", defArgs s_is_short, defBody s_is_short, defScope s_is_short, [], []⟩
def d_is_text_begin : He.DefD := ⟨("is_text_begin", none), "is_text_begin", "is_text_begin", defArgs s_is_text_begin, defBody s_is_text_begin, defScope s_is_text_begin, [], []⟩
def d_has_letters : He.DefD := ⟨("has_letters", none), "has_letters", "has_letters", defArgs s_has_letters, defBody s_has_letters, defScope s_has_letters, [], []⟩
def d_is_integer : He.DefD := ⟨("is_integer", none), "is_integer", "is_integer", defArgs s_is_integer, defBody s_is_integer, defScope s_is_integer, [], []⟩
def d_is_step : He.DefD := ⟨("is_step", none), "is_step", "is_step", defArgs s_is_step, defBody s_is_step, defScope s_is_step, [], []⟩
def d_step_rows : He.DefD := ⟨("step_rows", none), "step_rows", "step_rows", defArgs s_step_rows, defBody s_step_rows, defScope s_step_rows, [], []⟩
def d_is_piece : He.DefD := ⟨("is_piece", none), "is_piece", "is_piece", defArgs s_is_piece, defBody s_is_piece, defScope s_is_piece, [], []⟩
def d_all_pieces : He.DefD := ⟨("all_pieces", none), "all_pieces", "all_pieces", defArgs s_all_pieces, defBody s_all_pieces, defScope s_all_pieces, [], []⟩
def d_are_text_steps : He.DefD := ⟨("are_text_steps", none), "are_text_steps", "are_text_steps", defArgs s_are_text_steps, defBody s_are_text_steps, defScope s_are_text_steps, [], []⟩
def d_copied_pieces : He.DefD := ⟨("copied_pieces", none), "copied_pieces", "copied_pieces", defArgs s_copied_pieces, defBody s_copied_pieces, defScope s_copied_pieces, [], []⟩
def d_copied_text_steps : He.DefD := ⟨("copied_text_steps", none), "copied_text_steps", "copied_text_steps", defArgs s_copied_text_steps, defBody s_copied_text_steps, defScope s_copied_text_steps, [], []⟩
def d_TextWriter___init__ : He.DefD := ⟨("TextWriter", some "__init__"), "__init__", "TextWriter.__init__", defArgs s_TextWriter___init__, defBody s_TextWriter___init__, defScope s_TextWriter___init__, [], []⟩
def d_law_row : He.DefD := ⟨("_law_row", none), "_law_row", "_law_row", defArgs s_law_row, defBody s_law_row, defScope s_law_row, [], []⟩
def d_law_length : He.DefD := ⟨("_law_length", none), "_law_length", "_law_length", defArgs s_law_length, defBody s_law_length, defScope s_law_length, [], []⟩
def d_law_cut : He.DefD := ⟨("_law_cut", none), "_law_cut", "_law_cut", defArgs s_law_cut, defBody s_law_cut, defScope s_law_cut, [], []⟩
def d_law_joined : He.DefD := ⟨("_law_joined", none), "_law_joined", "_law_joined", defArgs s_law_joined, defBody s_law_joined, defScope s_law_joined, [], []⟩
def d_law_run : He.DefD := ⟨("_law_run", none), "_law_run", "_law_run", defArgs s_law_run, defBody s_law_run, defScope s_law_run, [], []⟩
def d_law_bad_row : He.DefD := ⟨("_law_bad_row", none), "_law_bad_row", "_law_bad_row", defArgs s_law_bad_row, defBody s_law_bad_row, defScope s_law_bad_row, [], []⟩
def d_law_is_integer : He.DefD := ⟨("_law_is_integer", none), "_law_is_integer", "_law_is_integer", defArgs s_law_is_integer, defBody s_law_is_integer, defScope s_law_is_integer, [], []⟩
def d_law_exact : He.DefD := ⟨("_law_exact", none), "_law_exact", "_law_exact", defArgs s_law_exact, defBody s_law_exact, defScope s_law_exact, [], []⟩
def d_is_row : He.DefD := ⟨("is_row", none), "is_row", "is_row", defArgs s_is_row, defBody s_is_row, defScope s_is_row, [], []⟩
def d_piece_text : He.DefD := ⟨("piece_text", none), "piece_text", "piece_text", defArgs s_piece_text, defBody s_piece_text, defScope s_piece_text, [], []⟩
def d_text_step : He.DefD := ⟨("text_step", none), "text_step", "text_step", defArgs s_text_step, defBody s_text_step, defScope s_text_step, [], []⟩
def d_TextWriter_stands : He.DefD := ⟨("TextWriter", some "stands"), "stands", "TextWriter.stands", defArgs s_TextWriter_stands, defBody s_TextWriter_stands, defScope s_TextWriter_stands, [], []⟩
def d_text_told : He.DefD := ⟨("text_told", none), "text_told", "text_told", defArgs s_text_told, defBody s_text_told, defScope s_text_told, [], []⟩
def d_TextWriter_tells : He.DefD := ⟨("TextWriter", some "tells"), "tells", "TextWriter.tells", defArgs s_TextWriter_tells, defBody s_TextWriter_tells, defScope s_TextWriter_tells, [], []⟩
def d_law_told : He.DefD := ⟨("_law_told", none), "_law_told", "_law_told", defArgs s_law_told, defBody s_law_told, defScope s_law_told, [], []⟩
def d_law_refused : He.DefD := ⟨("_law_refused", none), "_law_refused", "_law_refused", defArgs s_law_refused, defBody s_law_refused, defScope s_law_refused, [], []⟩
def d_law : He.DefD := ⟨("law", none), "law", "law", defArgs s_law, defBody s_law, defScope s_law, [], []⟩
def fns : List He.DefD := ([d_law_pool, d_law_draw, d_law_letters, d_law_signs, d_law_string, d_law_piece, d_law_texts, d_law_pieces, d_law_copied, d_are_letters, d_are_signs, d_is_of_signs, d_is_short, d_is_text_begin, d_has_letters, d_is_integer, d_is_step, d_step_rows, d_is_piece, d_all_pieces, d_are_text_steps, d_copied_pieces, d_copied_text_steps, d_TextWriter___init__, d_law_row, d_law_length, d_law_cut, d_law_joined, d_law_run, d_law_bad_row] : List He.DefD) ++ ([d_law_is_integer, d_law_exact, d_is_row, d_piece_text, d_text_step, d_TextWriter_stands, d_text_told, d_TextWriter_tells, d_law_told, d_law_refused, d_law] : List He.DefD)
def fas : List He.Fa := ([.glo "_law_pool", .glo "_law_draw", .glo "_law_letters", .glo "_law_signs", .glo "_law_string", .glo "_law_piece", .glo "_law_texts", .glo "_law_pieces", .glo "_law_copied", .glo "are_letters", .glo "are_signs", .glo "is_of_signs", .glo "is_short", .glo "is_text_begin", .glo "has_letters", .glo "is_integer", .glo "is_step", .glo "step_rows", .glo "is_piece", .glo "all_pieces", .glo "are_text_steps", .glo "copied_pieces", .glo "copied_text_steps", .glo "_law_row", .glo "_law_length", .glo "_law_cut", .glo "_law_joined", .glo "_law_run", .glo "_law_bad_row", .glo "_law_is_integer"] : List He.Fa) ++ ([.glo "_law_exact", .glo "is_row", .glo "piece_text", .glo "text_step", .glo "text_told", .glo "_law_told", .glo "_law_refused", .glo "law", .glo "MadeError", .glo "NoRow", .glo "NoText", .glo "NoWriter", .glo "TextWriter", .free "abs", .free "bool", .free "dict", .free "enumerate", .free "int", .free "isinstance", .free "len", .free "list", .free "max", .free "min", .free "range", .free "reversed", .free "str", .free "sum", .free "tuple", .cls "TextWriter", .mkr "TextWriter"] : List He.Fa) ++ ([.noat "TextWriter" "kept_begin", .noat "TextWriter" "kept_letters", .noat "TextWriter" "kept_signs", .noat "TextWriter" "kept_steps", .noat "TextWriter" "kept_told", .meth "TextWriter" "stands", .meth "TextWriter" "tells", .exc "NoRow", .exm "NoRow" "NoRow" true] : List He.Fa)
def xss : List (PySem.W.Frag → Bool) := ([fun K => excC K "NoRow", fun K => kitC K "NoRow" "MadeError" true, fun K => kitC K "NoRow" "NoText" false, fun K => kitC K "NoRow" "NoWriter" false] : List (PySem.W.Frag → Bool))
def loose : List Str := (["MadeError", "NoRow", "NoText", "NoWriter", "is_integer", "is_row", "are_letters", "are_signs", "is_of_signs", "has_letters", "is_step", "step_rows", "is_short", "is_piece", "all_pieces", "is_text_begin", "are_text_steps", "copied_pieces", "copied_text_steps", "TextWriter", "piece_text", "text_step", "text_told", "_law_pool", "_law_draw", "_law_is_integer", "_law_exact", "_law_letters", "_law_row", "_law_signs"] : List Str) ++ (["_law_string", "_law_piece", "_law_texts", "_law_joined", "_law_length", "_law_cut", "_law_run", "_law_pieces", "_law_copied", "_law_bad_row", "_law_told", "_law_refused"] : List Str)
abbrev R : PySem.W.OpenRow := PySem.W.OpenLaw.row PySem.Challenge.rw_madeanew_k29_text_writer_runs
abbrev hk : PySem.W.Hook := hookX 6 fas fns xss
def ob (s : PySem.W.SharedT) : He.AlD := obsXG 6 fas fns xss (HandSHeadRun.getT s)
theorem ob_eq (s : PySem.W.SharedT) : ob s = hk.obs s.abs := obsXG_eq (HandSHeadRun.getT_eq s)
theorem run (w : World) : HandSHeadRun.RunEq R (PySem.W.view R.prog [47]) hk ob 4000 loose w := by
  intro os
  kernel_rfl
end Wk29
set_option maxHeartbeats 0
namespace Wk29
open PySem L2 PySem.Spec PyProof.Rows Ip
abbrev ctK (K : PySem.W.Frag) : Str → Option Addr := fun c => some (He.ga K c)
theorem facts {P : Program} {w : World} {K : PySem.W.Frag} {h : Heap} {mg : Str → Option Value} {f : Addr} (X : K.In h) (G : h.Ns mainGlobals mg) (hfa : mg ("law" : Str) = some (.ref f)) (c : SaysX fas fns xss K) :
    ∃ fd : FuncData, (∀ (s : Shared) (v : Value), BindsTo s fd ⟨[v], []⟩ [("_law_script", v)]) ∧ ∀ base : Heap, FnOk P w K mg base (L2.CX P w) 8 f fd P_law (spF K (ctK K) 1 [] false F_law) := by
  have cd := c.d
  have B : Blt mg := ⟨He.free_ok X G (cd.fact 43 (f := .free "abs") rfl), He.free_ok X G (cd.fact 44 (f := .free "bool") rfl), He.free_ok X G (cd.fact 45 (f := .free "dict") rfl), He.free_ok X G (cd.fact 46 (f := .free "enumerate") rfl), He.free_ok X G (cd.fact 47 (f := .free "int") rfl), He.free_ok X G (cd.fact 48 (f := .free "isinstance") rfl), He.free_ok X G (cd.fact 49 (f := .free "len") rfl), He.free_ok X G (cd.fact 50 (f := .free "list") rfl), He.free_ok X G (cd.fact 51 (f := .free "max") rfl), He.free_ok X G (cd.fact 52 (f := .free "min") rfl), He.free_ok X G (cd.fact 53 (f := .free "range") rfl), He.free_ok X G (cd.fact 54 (f := .free "reversed") rfl), He.free_ok X G (cd.fact 55 (f := .free "str") rfl), He.free_ok X G (cd.fact 56 (f := .free "sum") rfl), He.free_ok X G (cd.fact 57 (f := .free "tuple") rfl)⟩
  have g_law_pool := He.glo_ok X G (cd.fact 0 (f := .glo "_law_pool") rfl)
  have g_law_draw := He.glo_ok X G (cd.fact 1 (f := .glo "_law_draw") rfl)
  have g_law_letters := He.glo_ok X G (cd.fact 2 (f := .glo "_law_letters") rfl)
  have g_law_signs := He.glo_ok X G (cd.fact 3 (f := .glo "_law_signs") rfl)
  have g_law_string := He.glo_ok X G (cd.fact 4 (f := .glo "_law_string") rfl)
  have g_law_piece := He.glo_ok X G (cd.fact 5 (f := .glo "_law_piece") rfl)
  have g_law_texts := He.glo_ok X G (cd.fact 6 (f := .glo "_law_texts") rfl)
  have g_law_pieces := He.glo_ok X G (cd.fact 7 (f := .glo "_law_pieces") rfl)
  have g_law_copied := He.glo_ok X G (cd.fact 8 (f := .glo "_law_copied") rfl)
  have g_are_letters := He.glo_ok X G (cd.fact 9 (f := .glo "are_letters") rfl)
  have g_are_signs := He.glo_ok X G (cd.fact 10 (f := .glo "are_signs") rfl)
  have g_is_of_signs := He.glo_ok X G (cd.fact 11 (f := .glo "is_of_signs") rfl)
  have g_is_short := He.glo_ok X G (cd.fact 12 (f := .glo "is_short") rfl)
  have g_is_text_begin := He.glo_ok X G (cd.fact 13 (f := .glo "is_text_begin") rfl)
  have g_has_letters := He.glo_ok X G (cd.fact 14 (f := .glo "has_letters") rfl)
  have g_is_integer := He.glo_ok X G (cd.fact 15 (f := .glo "is_integer") rfl)
  have g_is_step := He.glo_ok X G (cd.fact 16 (f := .glo "is_step") rfl)
  have g_step_rows := He.glo_ok X G (cd.fact 17 (f := .glo "step_rows") rfl)
  have g_is_piece := He.glo_ok X G (cd.fact 18 (f := .glo "is_piece") rfl)
  have g_all_pieces := He.glo_ok X G (cd.fact 19 (f := .glo "all_pieces") rfl)
  have g_are_text_steps := He.glo_ok X G (cd.fact 20 (f := .glo "are_text_steps") rfl)
  have g_copied_pieces := He.glo_ok X G (cd.fact 21 (f := .glo "copied_pieces") rfl)
  have g_copied_text_steps := He.glo_ok X G (cd.fact 22 (f := .glo "copied_text_steps") rfl)
  have g_law_row := He.glo_ok X G (cd.fact 23 (f := .glo "_law_row") rfl)
  have g_law_length := He.glo_ok X G (cd.fact 24 (f := .glo "_law_length") rfl)
  have g_law_cut := He.glo_ok X G (cd.fact 25 (f := .glo "_law_cut") rfl)
  have g_law_joined := He.glo_ok X G (cd.fact 26 (f := .glo "_law_joined") rfl)
  have g_law_run := He.glo_ok X G (cd.fact 27 (f := .glo "_law_run") rfl)
  have g_law_bad_row := He.glo_ok X G (cd.fact 28 (f := .glo "_law_bad_row") rfl)
  have g_law_is_integer := He.glo_ok X G (cd.fact 29 (f := .glo "_law_is_integer") rfl)
  have g_law_exact := He.glo_ok X G (cd.fact 30 (f := .glo "_law_exact") rfl)
  have g_is_row := He.glo_ok X G (cd.fact 31 (f := .glo "is_row") rfl)
  have g_piece_text := He.glo_ok X G (cd.fact 32 (f := .glo "piece_text") rfl)
  have g_text_step := He.glo_ok X G (cd.fact 33 (f := .glo "text_step") rfl)
  have g_text_told := He.glo_ok X G (cd.fact 34 (f := .glo "text_told") rfl)
  have g_law_told := He.glo_ok X G (cd.fact 35 (f := .glo "_law_told") rfl)
  have g_law_refused := He.glo_ok X G (cd.fact 36 (f := .glo "_law_refused") rfl)
  have g_law := He.glo_ok X G (cd.fact 37 (f := .glo "law") rfl)
  have g_MadeError := He.glo_ok X G (cd.fact 38 (f := .glo "MadeError") rfl)
  have g_NoRow := He.glo_ok X G (cd.fact 39 (f := .glo "NoRow") rfl)
  have g_NoText := He.glo_ok X G (cd.fact 40 (f := .glo "NoText") rfl)
  have g_NoWriter := He.glo_ok X G (cd.fact 41 (f := .glo "NoWriter") rfl)
  have g_TextWriter := He.glo_ok X G (cd.fact 42 (f := .glo "TextWriter") rfl)
  obtain ⟨fd_law_pool, t_law_pool⟩ := cd.def_ 0 (d := d_law_pool) rfl
  obtain ⟨fd_law_draw, t_law_draw⟩ := cd.def_ 1 (d := d_law_draw) rfl
  obtain ⟨fd_law_letters, t_law_letters⟩ := cd.def_ 2 (d := d_law_letters) rfl
  obtain ⟨fd_law_signs, t_law_signs⟩ := cd.def_ 3 (d := d_law_signs) rfl
  obtain ⟨fd_law_string, t_law_string⟩ := cd.def_ 4 (d := d_law_string) rfl
  obtain ⟨fd_law_piece, t_law_piece⟩ := cd.def_ 5 (d := d_law_piece) rfl
  obtain ⟨fd_law_texts, t_law_texts⟩ := cd.def_ 6 (d := d_law_texts) rfl
  obtain ⟨fd_law_pieces, t_law_pieces⟩ := cd.def_ 7 (d := d_law_pieces) rfl
  obtain ⟨fd_law_copied, t_law_copied⟩ := cd.def_ 8 (d := d_law_copied) rfl
  obtain ⟨fd_are_letters, t_are_letters⟩ := cd.def_ 9 (d := d_are_letters) rfl
  obtain ⟨fd_are_signs, t_are_signs⟩ := cd.def_ 10 (d := d_are_signs) rfl
  obtain ⟨fd_is_of_signs, t_is_of_signs⟩ := cd.def_ 11 (d := d_is_of_signs) rfl
  obtain ⟨fd_is_short, t_is_short⟩ := cd.def_ 12 (d := d_is_short) rfl
  obtain ⟨fd_is_text_begin, t_is_text_begin⟩ := cd.def_ 13 (d := d_is_text_begin) rfl
  obtain ⟨fd_has_letters, t_has_letters⟩ := cd.def_ 14 (d := d_has_letters) rfl
  obtain ⟨fd_is_integer, t_is_integer⟩ := cd.def_ 15 (d := d_is_integer) rfl
  obtain ⟨fd_is_step, t_is_step⟩ := cd.def_ 16 (d := d_is_step) rfl
  obtain ⟨fd_step_rows, t_step_rows⟩ := cd.def_ 17 (d := d_step_rows) rfl
  obtain ⟨fd_is_piece, t_is_piece⟩ := cd.def_ 18 (d := d_is_piece) rfl
  obtain ⟨fd_all_pieces, t_all_pieces⟩ := cd.def_ 19 (d := d_all_pieces) rfl
  obtain ⟨fd_are_text_steps, t_are_text_steps⟩ := cd.def_ 20 (d := d_are_text_steps) rfl
  obtain ⟨fd_copied_pieces, t_copied_pieces⟩ := cd.def_ 21 (d := d_copied_pieces) rfl
  obtain ⟨fd_copied_text_steps, t_copied_text_steps⟩ := cd.def_ 22 (d := d_copied_text_steps) rfl
  obtain ⟨fd_TextWriter___init__, t_TextWriter___init__⟩ := cd.def_ 23 (d := d_TextWriter___init__) rfl
  obtain ⟨fd_law_row, t_law_row⟩ := cd.def_ 24 (d := d_law_row) rfl
  obtain ⟨fd_law_length, t_law_length⟩ := cd.def_ 25 (d := d_law_length) rfl
  obtain ⟨fd_law_cut, t_law_cut⟩ := cd.def_ 26 (d := d_law_cut) rfl
  obtain ⟨fd_law_joined, t_law_joined⟩ := cd.def_ 27 (d := d_law_joined) rfl
  obtain ⟨fd_law_run, t_law_run⟩ := cd.def_ 28 (d := d_law_run) rfl
  obtain ⟨fd_law_bad_row, t_law_bad_row⟩ := cd.def_ 29 (d := d_law_bad_row) rfl
  obtain ⟨fd_law_is_integer, t_law_is_integer⟩ := cd.def_ 30 (d := d_law_is_integer) rfl
  obtain ⟨fd_law_exact, t_law_exact⟩ := cd.def_ 31 (d := d_law_exact) rfl
  obtain ⟨fd_is_row, t_is_row⟩ := cd.def_ 32 (d := d_is_row) rfl
  obtain ⟨fd_piece_text, t_piece_text⟩ := cd.def_ 33 (d := d_piece_text) rfl
  obtain ⟨fd_text_step, t_text_step⟩ := cd.def_ 34 (d := d_text_step) rfl
  obtain ⟨fd_TextWriter_stands, t_TextWriter_stands⟩ := cd.def_ 35 (d := d_TextWriter_stands) rfl
  obtain ⟨fd_text_told, t_text_told⟩ := cd.def_ 36 (d := d_text_told) rfl
  obtain ⟨fd_TextWriter_tells, t_TextWriter_tells⟩ := cd.def_ 37 (d := d_TextWriter_tells) rfl
  obtain ⟨fd_law_told, t_law_told⟩ := cd.def_ 38 (d := d_law_told) rfl
  obtain ⟨fd_law_refused, t_law_refused⟩ := cd.def_ 39 (d := d_law_refused) rfl
  obtain ⟨fd_law, t_law⟩ := cd.def_ 40 (d := d_law) rfl
  have cl_TextWriter := He.cls_ok (cd.fact 58 (f := .cls "TextWriter") rfl)
  have mk_TextWriter := He.mkr_ok (cd.fact 59 (f := .mkr "TextWriter") rfl)
  have h_TextWriter_kept_begin : At K (ctK K) "TextWriter" "kept_begin" := ⟨_, rfl, cl_TextWriter, He.noat_ok (cd.fact 60 (f := .noat "TextWriter" "kept_begin") rfl)⟩
  have h_TextWriter_kept_letters : At K (ctK K) "TextWriter" "kept_letters" := ⟨_, rfl, cl_TextWriter, He.noat_ok (cd.fact 61 (f := .noat "TextWriter" "kept_letters") rfl)⟩
  have h_TextWriter_kept_signs : At K (ctK K) "TextWriter" "kept_signs" := ⟨_, rfl, cl_TextWriter, He.noat_ok (cd.fact 62 (f := .noat "TextWriter" "kept_signs") rfl)⟩
  have h_TextWriter_kept_steps : At K (ctK K) "TextWriter" "kept_steps" := ⟨_, rfl, cl_TextWriter, He.noat_ok (cd.fact 63 (f := .noat "TextWriter" "kept_steps") rfl)⟩
  have h_TextWriter_kept_told : At K (ctK K) "TextWriter" "kept_told" := ⟨_, rfl, cl_TextWriter, He.noat_ok (cd.fact 64 (f := .noat "TextWriter" "kept_told") rfl)⟩
  have ec_NoRow := He.exc_ok (cd.fact 67 (f := .exc "NoRow") rfl)
  have h_er_NoRow : Er K mg (ctK K) "NoRow" := ⟨_, "ValueError", "ValueError.__new__", _, He.veBase, rfl, PySem.F.excBase_ValueError, ec_NoRow.1, g_NoRow, ec_NoRow.2.1, ec_NoRow.2.2.1, ec_NoRow.2.2.2⟩
  have e := hfa.symm.trans g_law
  cases e
  refine ⟨fd_law, fun s v => FunD.bindsA (ps := P_law) t_law (fun _ _ _ _ _ _ us hl => match us, hl with | [_], _ => rfl) s [v] rfl, fun base => ?_⟩
  have h_law_pool : Fn P w K mg base (ctK K) "_law_pool" 1 2 [] true F_law_pool := ⟨_, _, _, ok_law_pool (w := w) (base := base) (ct := ctK K) B  t_law_pool, g_law_pool, t_law_pool.kp, bi_law_pool t_law_pool⟩
  have h_law_draw : Fn P w K mg base (ctK K) "_law_draw" 1 2 [0] false F_law_draw := ⟨_, _, _, ok_law_draw (w := w) (base := base) (ct := ctK K) B  t_law_draw, g_law_draw, t_law_draw.kp, bi_law_draw t_law_draw⟩
  have h_law_letters : Fn P w K mg base (ctK K) "_law_letters" 2 2 [0] false F_law_letters := ⟨_, _, _, ok_law_letters (w := w) (base := base) (ct := ctK K) B h_law_draw t_law_letters, g_law_letters, t_law_letters.kp, bi_law_letters t_law_letters⟩
  have h_law_signs : Fn P w K mg base (ctK K) "_law_signs" 2 2 [0] false F_law_signs := ⟨_, _, _, ok_law_signs (w := w) (base := base) (ct := ctK K) B h_law_draw t_law_signs, g_law_signs, t_law_signs.kp, bi_law_signs t_law_signs⟩
  have h_law_string : Fn P w K mg base (ctK K) "_law_string" 2 3 [0] false F_law_string := ⟨_, _, _, ok_law_string (w := w) (base := base) (ct := ctK K) B h_law_draw t_law_string, g_law_string, t_law_string.kp, bi_law_string t_law_string⟩
  have h_law_piece : Fn P w K mg base (ctK K) "_law_piece" 3 3 [0] false F_law_piece := ⟨_, _, _, ok_law_piece (w := w) (base := base) (ct := ctK K) B h_law_draw h_law_string t_law_piece, g_law_piece, t_law_piece.kp, bi_law_piece t_law_piece⟩
  have h_law_texts : Fn P w K mg base (ctK K) "_law_texts" 4 1 [0] false F_law_texts := ⟨_, _, _, ok_law_texts (w := w) (base := base) (ct := ctK K) B h_law_letters h_law_draw h_law_signs h_law_string h_law_piece t_law_texts, g_law_texts, t_law_texts.kp, bi_law_texts t_law_texts⟩
  have h_law_pieces : Fn P w K mg base (ctK K) "_law_pieces" 1 1 [] false F_law_pieces := ⟨_, _, _, ok_law_pieces (w := w) (base := base) (ct := ctK K) B  t_law_pieces, g_law_pieces, t_law_pieces.kp, bi_law_pieces t_law_pieces⟩
  have h_law_copied : Fn P w K mg base (ctK K) "_law_copied" 2 2 [] false F_law_copied := ⟨_, _, _, ok_law_copied (w := w) (base := base) (ct := ctK K) B h_law_pieces t_law_copied, g_law_copied, t_law_copied.kp, bi_law_copied t_law_copied⟩
  have h_are_letters : Fn P w K mg base (ctK K) "are_letters" 1 1 [] false F_are_letters := ⟨_, _, _, ok_are_letters (w := w) (base := base) (ct := ctK K) B  t_are_letters, g_are_letters, t_are_letters.kp, bi_are_letters t_are_letters⟩
  have h_are_signs : Fn P w K mg base (ctK K) "are_signs" 1 1 [] false F_are_signs := ⟨_, _, _, ok_are_signs (w := w) (base := base) (ct := ctK K) B  t_are_signs, g_are_signs, t_are_signs.kp, bi_are_signs t_are_signs⟩
  have h_is_of_signs : Fn P w K mg base (ctK K) "is_of_signs" 1 2 [] false F_is_of_signs := ⟨_, _, _, ok_is_of_signs (w := w) (base := base) (ct := ctK K) B  t_is_of_signs, g_is_of_signs, t_is_of_signs.kp, bi_is_of_signs t_is_of_signs⟩
  have h_is_short : Fn P w K mg base (ctK K) "is_short" 2 2 [] false F_is_short := ⟨_, _, _, ok_is_short (w := w) (base := base) (ct := ctK K) B h_is_of_signs t_is_short, g_is_short, t_is_short.kp, bi_is_short t_is_short⟩
  have h_is_text_begin : Fn P w K mg base (ctK K) "is_text_begin" 3 2 [] false F_is_text_begin := ⟨_, _, _, ok_is_text_begin (w := w) (base := base) (ct := ctK K) B h_is_short t_is_text_begin, g_is_text_begin, t_is_text_begin.kp, bi_is_text_begin t_is_text_begin⟩
  have h_has_letters : Fn P w K mg base (ctK K) "has_letters" 1 2 [] false F_has_letters := ⟨_, _, _, ok_has_letters (w := w) (base := base) (ct := ctK K) B  t_has_letters, g_has_letters, t_has_letters.kp, bi_has_letters t_has_letters⟩
  have h_is_integer : Fn P w K mg base (ctK K) "is_integer" 1 1 [] false F_is_integer := ⟨_, _, _, ok_is_integer (w := w) (base := base) (ct := ctK K) B  t_is_integer, g_is_integer, t_is_integer.kp, bi_is_integer t_is_integer⟩
  have h_is_step : Fn P w K mg base (ctK K) "is_step" 2 3 [] false F_is_step := ⟨_, _, _, ok_is_step (w := w) (base := base) (ct := ctK K) B h_is_integer t_is_step, g_is_step, t_is_step.kp, bi_is_step t_is_step⟩
  have h_step_rows : Fn P w K mg base (ctK K) "step_rows" 3 3 [] false F_step_rows := ⟨_, _, _, ok_step_rows (w := w) (base := base) (ct := ctK K) B h_has_letters h_is_step t_step_rows, g_step_rows, t_step_rows.kp, bi_step_rows t_step_rows⟩
  have h_is_piece : Fn P w K mg base (ctK K) "is_piece" 3 3 [] false F_is_piece := ⟨_, _, _, ok_is_piece (w := w) (base := base) (ct := ctK K) B h_is_integer h_is_short t_is_piece, g_is_piece, t_is_piece.kp, bi_is_piece t_is_piece⟩
  have h_all_pieces : Fn P w K mg base (ctK K) "all_pieces" 4 3 [] false F_all_pieces := ⟨_, _, _, ok_all_pieces (w := w) (base := base) (ct := ctK K) B h_is_piece t_all_pieces, g_all_pieces, t_all_pieces.kp, bi_all_pieces t_all_pieces⟩
  have h_are_text_steps : Fn P w K mg base (ctK K) "are_text_steps" 5 4 [] false F_are_text_steps := ⟨_, _, _, ok_are_text_steps (w := w) (base := base) (ct := ctK K) B h_step_rows h_all_pieces t_are_text_steps, g_are_text_steps, t_are_text_steps.kp, bi_are_text_steps t_are_text_steps⟩
  have h_copied_pieces : Fn P w K mg base (ctK K) "copied_pieces" 1 1 [] false F_copied_pieces := ⟨_, _, _, ok_copied_pieces (w := w) (base := base) (ct := ctK K) B  t_copied_pieces, g_copied_pieces, t_copied_pieces.kp, bi_copied_pieces t_copied_pieces⟩
  have h_copied_text_steps : Fn P w K mg base (ctK K) "copied_text_steps" 2 2 [] false F_copied_text_steps := ⟨_, _, _, ok_copied_text_steps (w := w) (base := base) (ct := ctK K) B h_copied_pieces t_copied_text_steps, g_copied_text_steps, t_copied_text_steps.kp, bi_copied_text_steps t_copied_text_steps⟩
  have h_mk_TextWriter : Mkr P w K mg base (ctK K) "TextWriter" 6 6 F_TextWriter___init__ := ⟨_, _, _, _, rfl, g_TextWriter, mk_TextWriter, ok_TextWriter___init__ (w := w) (base := base) (ct := ctK K) B h_are_letters h_are_signs h_is_text_begin h_are_text_steps h_all_pieces h_copied_text_steps h_copied_pieces h_TextWriter_kept_begin h_TextWriter_kept_letters h_TextWriter_kept_signs h_TextWriter_kept_steps h_TextWriter_kept_told t_TextWriter___init__, bi_TextWriter___init__ t_TextWriter___init__⟩
  have h_law_row : Fn P w K mg base (ctK K) "_law_row" 2 4 [0] false F_law_row := ⟨_, _, _, ok_law_row (w := w) (base := base) (ct := ctK K) B h_law_draw t_law_row, g_law_row, t_law_row.kp, bi_law_row t_law_row⟩
  have h_law_length : Fn P w K mg base (ctK K) "_law_length" 1 2 [] false F_law_length := ⟨_, _, _, ok_law_length (w := w) (base := base) (ct := ctK K) B  t_law_length, g_law_length, t_law_length.kp, bi_law_length t_law_length⟩
  have h_law_cut : Fn P w K mg base (ctK K) "_law_cut" 2 3 [] false F_law_cut := ⟨_, _, _, ok_law_cut (w := w) (base := base) (ct := ctK K) B h_law_length t_law_cut, g_law_cut, t_law_cut.kp, bi_law_cut t_law_cut⟩
  have h_law_joined : Fn P w K mg base (ctK K) "_law_joined" 1 2 [] false F_law_joined := ⟨_, _, _, ok_law_joined (w := w) (base := base) (ct := ctK K) B  t_law_joined, g_law_joined, t_law_joined.kp, bi_law_joined t_law_joined⟩
  have h_law_run : Fn P w K mg base (ctK K) "_law_run" 2 3 [] false F_law_run := ⟨_, _, _, ok_law_run (w := w) (base := base) (ct := ctK K) B h_law_joined t_law_run, g_law_run, t_law_run.kp, bi_law_run t_law_run⟩
  have h_law_bad_row : Fn P w K mg base (ctK K) "_law_bad_row" 2 3 [0] false F_law_bad_row := ⟨_, _, _, ok_law_bad_row (w := w) (base := base) (ct := ctK K) B h_law_draw t_law_bad_row, g_law_bad_row, t_law_bad_row.kp, bi_law_bad_row t_law_bad_row⟩
  have h_law_is_integer : Fn P w K mg base (ctK K) "_law_is_integer" 1 1 [] false F_law_is_integer := ⟨_, _, _, ok_law_is_integer (w := w) (base := base) (ct := ctK K) B  t_law_is_integer, g_law_is_integer, t_law_is_integer.kp, bi_law_is_integer t_law_is_integer⟩
  have h_law_exact : Fn P w K mg base (ctK K) "_law_exact" 4 2 [] false (F_law_exact 3) := ok_law_exact (w := w) (base := base) (ct := ctK K) B h_law_is_integer t_law_exact g_law_exact 3
  have h_is_row : Fn P w K mg base (ctK K) "is_row" 1 2 [] false F_is_row := ⟨_, _, _, ok_is_row (w := w) (base := base) (ct := ctK K) B  t_is_row, g_is_row, t_is_row.kp, bi_is_row t_is_row⟩
  have h_piece_text : Fn P w K mg base (ctK K) "piece_text" 1 2 [] false F_piece_text := ⟨_, _, _, ok_piece_text (w := w) (base := base) (ct := ctK K) B  t_piece_text, g_piece_text, t_piece_text.kp, bi_piece_text t_piece_text⟩
  have h_text_step : Fn P w K mg base (ctK K) "text_step" 2 4 [] false F_text_step := ⟨_, _, _, ok_text_step (w := w) (base := base) (ct := ctK K) B h_piece_text h_TextWriter_kept_steps t_text_step, g_text_step, t_text_step.kp, bi_text_step t_text_step⟩
  have h_TextWriter_stands : Mt P w K mg base (ctK K) "TextWriter" "stands" 3 2 false F_TextWriter_stands := ⟨_, _, _, _, rfl, cl_TextWriter, He.meth_ok (cd.fact 65 (f := .meth "TextWriter" "stands") rfl), ok_TextWriter_stands (w := w) (base := base) (ct := ctK K) B h_is_row h_text_step h_TextWriter_kept_begin h_TextWriter_kept_letters h_er_NoRow t_TextWriter_stands, bi_TextWriter_stands t_TextWriter_stands⟩
  have h_text_told : Fn P w K mg base (ctK K) "text_told" 2 3 [] false F_text_told := ⟨_, _, _, ok_text_told (w := w) (base := base) (ct := ctK K) B h_piece_text h_TextWriter_kept_told t_text_told, g_text_told, t_text_told.kp, bi_text_told t_text_told⟩
  have h_TextWriter_tells : Mt P w K mg base (ctK K) "TextWriter" "tells" 4 2 false F_TextWriter_tells := ⟨_, _, _, _, rfl, cl_TextWriter, He.meth_ok (cd.fact 66 (f := .meth "TextWriter" "tells") rfl), ok_TextWriter_tells (w := w) (base := base) (ct := ctK K) B h_TextWriter_stands h_text_told t_TextWriter_tells, bi_TextWriter_tells t_TextWriter_tells⟩
  have h_law_told : Fn P w K mg base (ctK K) "_law_told" 5 5 [] false F_law_told := ⟨_, _, _, ok_law_told (w := w) (base := base) (ct := ctK K) B h_law_exact h_TextWriter_tells h_TextWriter_stands t_law_told, g_law_told, t_law_told.kp, bi_law_told t_law_told⟩
  have h_law_refused : Fn P w K mg base (ctK K) "_law_refused" 5 3 [] false F_law_refused := ⟨_, _, _, ok_law_refused (w := w) (base := base) (ct := ctK K) B h_TextWriter_tells h_TextWriter_stands h_er_NoRow rfl (excC_ok (c.x 0 (x := fun K => excC K "NoRow") rfl)) (He.exm_ok (cd.fact 68 (f := .exm "NoRow" "NoRow" true) rfl)) g_NoRow g_MadeError (kitC_ok (c.x 1 (x := fun K => kitC K "NoRow" "MadeError" true) rfl)) g_NoWriter (kitC_ok (c.x 3 (x := fun K => kitC K "NoRow" "NoWriter" false) rfl)) g_NoText (kitC_ok (c.x 2 (x := fun K => kitC K "NoRow" "NoText" false) rfl)) t_law_refused, g_law_refused, t_law_refused.kp, bi_law_refused t_law_refused⟩
  exact ok_law (w := w) (base := base) (ct := ctK K) B h_law_pool h_law_texts h_law_copied h_law_draw h_mk_TextWriter h_law_pieces h_law_row h_law_cut h_law_run h_law_joined h_law_bad_row h_law_told h_law_refused t_law
end Wk29
namespace Ip
open PySem L2
section
variable {E : Ex → Env → Prop} {i j n : Nat} {ρ : Env} {d x y z : D} {f h : Env → R D} {g : Env → R (List D)} {gt : D → Env → Option Env} {fs body : Env → R Fl} {PS : Fl → Env → Prop} {P : D → Env → Prop} {PL : List D → Env → Prop} {F : FSem}
/-- a comprehension without a test, its items told one by one -/
theorem w_map {fi : Env → R (List D)} {f : Env → R D} {vs : List Nat} (w : wpx E (fi ρ) fun ds ρ1 => ds.length < sizeLine ∧ ∃ (g : D → D), (∀ d, d ∈ ds → ∃ ρa, gt d (wipeE ρ1 vs) = some ρa ∧ wp (f ρa) fun y ρb => y = g d ∧ wipeE ρb vs = wipeE ρ1 vs) ∧ P (.lst (ds.map g)) (restE ρ1 (wipeE ρ1 vs) vs)) : wpx E (mLc fi gt mYes f vs ρ) P := w_lc (wp_imp w fun ds ρ1 ⟨hz, g, hs, hp⟩ => by
  refine ⟨hz, fun i ρ acc => ρ = wipeE ρ1 vs ∧ acc = (ds.take i).map g, ⟨rfl, rfl⟩, fun i d ρ acc hd hi => ?_, fun ρ2 acc hi => ?_⟩
  · obtain ⟨rfl, rfl⟩ := hi
    obtain ⟨ρa, e1, w⟩ := hs d (List.mem_of_getElem? hd)
    refine ⟨by rw [List.length_map, List.length_take]; omega, ρa, e1, w_yes ?_⟩
    rw [if_pos rfl]
    refine wp_imp w fun y ρb ⟨e2, e3⟩ => ⟨e3, ?_⟩
    rw [List.take_succ, hd, List.map_append, e2]
    rfl
  · obtain ⟨rfl, rfl⟩ := hi
    rw [List.take_length]
    exact hp)
/-! ### words not told before -/
theorem w_cutL {n : Nat} (w : wpx E (f ρ) fun d ρ1 => ∃ ds, d = .lst ds ∧ P (.lst (ds.take n)) ρ1) : wpx E (mCutL n f ρ) P := wp_bind (wp_imp w fun d ρ1 ⟨ds, e, w1⟩ => by subst e; exact w1)
theorem w_enumS (w : wpx E (f ρ) fun d ρ1 => ∃ s : Str, d = .str s ∧ PL (enumL 0 (s.cps.toList.map chD)) ρ1) : wpx E (mEnumS f ρ) PL := wp_bind (wp_imp w fun d ρ1 ⟨s, e, w1⟩ => by subst e; exact w1)
theorem w_fld {cs : List Str} {nm : Str} (w : wpx E (f ρ) fun o ρ1 => ∃ c, clsOf o = some c ∧ cs.contains c = true ∧ wo (fldD nm o) ρ1 P) : wpx E (mFld cs nm f ρ) P := wp_bind (wp_imp w fun d ρ1 ⟨c, e1, e2, w1⟩ => by rw [e1]; dsimp only; rw [if_pos e2]; exact wo_ofO w1)
theorem w_fldS {cn fn : Str} (w : wpx E (h ρ) fun d ρ1 => ∃ c ns ds, ρ1.getD i none = some (.obj c ns ds) ∧ (c = cn ∧ ns.length < 1000) ∧ PS .nx (ρ1.set i (some (.obj c (putD fn d ns ds).1 (putD fn d ns ds).2)))) : wpx E (mFldS i cn fn h ρ) PS := wp_bind (wp_imp w fun d ρ1 ⟨c, ns, ds, e1, e2, w1⟩ => by rw [e1]; dsimp only; rw [if_pos e2]; exact w1)
theorem w_make {c : Str} (w : wpx E (g ρ) fun ds ρ1 => wfx (fun e _ => E e ρ1) (F (.obj c [] [] :: ds)) fun d outs => ∃ o, d = .non ∧ outs = [o] ∧ P o ρ1) : wpx E (mMake c F g ρ) P := wp_bind (wp_imp w fun ds ρ1 w1 => by
  cases q : F (.obj c [] [] :: ds) <;> rw [q] at w1
  · obtain ⟨o, rfl, rfl, w2⟩ := w1; exact w2
  · exact w1
  · exact w1)
theorem w_meth {cs : List Str} {m : Str} (w : wpx E (f ρ) fun o ρ1 => ∃ c, clsOf o = some c ∧ (cs.contains c = true ∧ hasNo m o = true) ∧ wpx E (g ρ1) fun ds ρ2 => wfx (fun e _ => E e ρ2) (F (o :: ds)) fun d _ => P d ρ2) : wpx E (mMeth cs m F f g ρ) P := wp_bind (wp_imp w fun o ρ1 ⟨c, e1, e2, w1⟩ => by
  rw [e1]; dsimp only; rw [if_pos e2]
  exact wp_bind (wp_imp w1 fun ds ρ2 w2 => by
    cases q : F (o :: ds) <;> rw [q] at w2 <;> exact w2))
theorem w_raise {c : Str} (w : E ⟨c, none⟩ ρ) : wpx E (mRaise c ρ) PS := w
theorem w_try {cn : Str} {i j : Nat} {d : D} (w : wpx (fun e ρ1 => (e.cls = cn ∧ e.fld.isNone = true ∧ j < ρ1.length ∧ i < ρ1.length) ∧ PS .nx ((ρ1.set j (some d)).set i none)) (fs ρ) fun fl ρ1 => fl = .nx ∧ PS .nx ρ1) : wpx E (mTry cn i j d fs ρ) PS := by
  unfold mTry
  cases q : fs ρ with
  | ok fl ρ1 =>
    rw [q] at w
    obtain ⟨rfl, w1⟩ := w
    exact w1
  | exn e ρ1 =>
    rw [q] at w
    dsimp only
    rw [if_pos w.1]
    exact w.2
  | bad => rw [q] at w; exact w.elim
/-! ### data -/
theorem x_isL {ds : List D} {Q : List D → Prop} (w : Q ds) : ∃ es, D.lst ds = .lst es ∧ Q es := ⟨ds, rfl, w⟩
theorem x_objD {a b : List D} {Q : Prop} (w : Q) : isObj (.dic a b) = true ∧ Q := ⟨rfl, w⟩
theorem x_app {ds : List D} {d : D} {Q : D × List D → Prop} (h : ds.length < 2 ^ 24) (w : Q (.non, ds ++ [d])) : ∃ z, stAppend ds [d] = some z ∧ Q z := ⟨_, if_pos h, w⟩
theorem wp_env {α : Type} {f : Env → R α} {ρ ρ' : Env} {P : α → Env → Prop} (e : ρ = ρ') (w : wpx E (f ρ') P) : wpx E (f ρ) P := e ▸ w
theorem x_cls {c c' : Str} {ns : List Str} {ds : List D} {Q : Str → Prop} (w : Q c) : ∃ q, clsOf (.obj c ns ds) = some q ∧ Q q := ⟨c, rfl, w⟩
theorem x_tp {n : Nat} {gs : List D → Env → Option Env} {ρ2 : Env} {Q : Env → Prop} (e : gTp n gs d ρ = some ρ2) (w : Q ρ2) : ∃ r, gTp n gs d ρ = some r ∧ Q r := ⟨_, e, w⟩
theorem x_eqb {b : Bool} {o : Option D} {Q : Bool → Prop} (e : o = some (.bl b)) (w : Q b) : ∃ c, o = some (.bl c) ∧ Q c := ⟨b, e, w⟩
theorem i_T {b : Bool} {A B : Prop} (e : b = true) (w : A) : if b = true then A else B := by rw [if_pos e]; exact w
theorem i_F {b : Bool} {A B : Prop} (e : b = false) (w : B) : if b = true then A else B := by rw [e]; exact w
/-! ### texts by their letters -/
def S (l : List Nat) : Str := ⟨l.toArray⟩
theorem S_len (l : List Nat) : (S l).length = l.length := by show l.toArray.size = _; simp
theorem S_app (a b : List Nat) : S a ++ S b = S (a ++ b) := by
  show (⟨a.toArray ++ b.toArray⟩ : Str) = ⟨(a ++ b).toArray⟩
  simp
theorem chD_S (c : Nat) : chD c = .str (S [c]) := rfl
theorem S_list (l : List Nat) : (S l).cps.toList = l := by show l.toArray.toList = l; simp
theorem S_inj {a b : List Nat} (h : S a = S b) : a = b := by rw [← S_list a, h, S_list]
theorem S_of (s : Str) : S s.cps.toList = s := by cases s; simp [S]
theorem x_sqS {l : List Nat} {Q : List D → Prop} (w : Q (l.map chD)) : ∃ es, asSeq (.str (S l)) = some es ∧ Q es := ⟨_, rfl, by rw [S_list]; exact w⟩
theorem popAt_at {ds : List D} {r : Int} (h0 : 0 ≤ r) (hr : r < ds.length) (hz : ds.length < 2 ^ 62) : ∃ d, ds[r.toNat]? = some d ∧ stPopAt ds [.int r] = some (d, ds.eraseIdx r.toNat) := by
  have hl : r.toNat < ds.length := by omega
  refine ⟨ds[r.toNat], List.getElem?_eq_getElem hl, ?_⟩
  show (if _ then _ else none) = _
  rw [if_pos (by omega), show seqIndex? r ds.length = some r.toNat from PySem.seqIndex_of h0 hr]
  show (ds[r.toNat]?.map _) = _
  rw [List.getElem?_eq_getElem hl]
  rfl
theorem eraseIdx_map {α β : Type} (f : α → β) : ∀ (l : List α) (n : Nat), (l.map f).eraseIdx n = (l.eraseIdx n).map f
  | [], _ => rfl
  | _ :: _, 0 => rfl
  | a :: l, n + 1 => by simp [eraseIdx_map f l n]
theorem erase_perm {α : Type} : ∀ (l : List α) (n : Nat) (a : α), l[n]? = some a → l.Perm (a :: l.eraseIdx n)
  | [], _, _, h => by simp at h
  | b :: l, 0, a, h => by simp at h; subst h; exact .refl _
  | b :: l, n + 1, a, h => by
    have := erase_perm l n a (by simpa using h)
    exact (this.cons b).trans (.swap a b _)
theorem at_in {α : Type} {l : List α} {r : Int} (h0 : 0 ≤ r) (hr : r < l.length) : ∃ c, atI l r = some c ∧ l[r.toNat]? = some c := by
  have hl : r.toNat < l.length := by omega
  refine ⟨l[r.toNat], ?_, List.getElem?_eq_getElem hl⟩
  unfold atI
  rw [show ixN l.length r = some r.toNat by unfold ixN; rw [if_pos h0, if_pos hr]]
  exact List.getElem?_eq_getElem hl
theorem at_nat {α : Type} {l : List α} {r : Nat} {c : α} (h : l[r]? = some c) : atI l (r : Int) = some c := by
  have hl : r < l.length := (List.getElem?_eq_some_iff.1 h).1
  obtain ⟨c', h1, h2⟩ := at_in (l := l) (r := (r : Int)) (by omega) (by omega)
  rw [h1, ← h2]; exact h
theorem log_small {j : Int} (h0 : 0 ≤ j) (h : j < 10 ^ 60) : j.natAbs.log2 < 9000 := by
  have : j.natAbs < 2 ^ 9000 := Nat.lt_of_lt_of_le (by omega : j.natAbs < 10 ^ 60) (Nat.le_trans (Nat.le_of_lt (by decide : 10 ^ 60 < 2 ^ 256)) (Nat.pow_le_pow_right (by decide) (by decide)))
  by_cases hz : j.natAbs = 0
  · rw [hz]; decide
  · exact (Nat.log2_lt hz).mpr this
/-! ### operators -/
theorem o_isiB {T : String} {b : Bool} (e : isiD T d = some (.bl b)) (w : P (.bl b) ρ) : wo (isiD T d) ρ P := o_some e w
theorem o_listS {t : Str} {l : List Nat} (e : t.cps.toList = l) (h : t.cps.size ≤ sizeLine) (w : P (.lst (l.map chD)) ρ) : wo (oListS [.str t]) ρ P := o_some (d := .lst (l.map chD)) (by
  show ifO (t.cps.size ≤ sizeLine) (.lst (t.cps.toList.map chD)) = _
  unfold ifO
  rw [if_pos h, e]) w
theorem o_tupS {l : List Nat} (h : l.length ≤ sizeLine) (w : P (.tup (l.map chD)) ρ) : wo (oTupS [.str (S l)]) ρ P := o_some (d := .tup (l.map chD)) (by
  show ifO ((S l).cps.size ≤ sizeLine) (.tup ((S l).cps.toList.map chD)) = _
  unfold ifO
  have hz : (S l).cps.size ≤ sizeLine := by have := S_len l; show (S l).length ≤ _; rw [this]; exact h
  rw [if_pos hz, S_list]) w
theorem o_catL {a b : List D} (h : a.length + b.length ≤ 2 ^ 24) (w : P (.lst (a ++ b)) ρ) : wo (catD (.lst a) (.lst b)) ρ P := o_some (d := .lst (a ++ b)) (show ifO _ _ = _ from if_pos h) w
theorem o_lenS' {l : List Nat} (hl : l.length ≤ 2 ^ 24) (w : P (.int l.length) ρ) : wo (oLen [.str (S l)]) ρ P := o_lenS (by rw [S_len]; exact hl) (by rw [S_len]; exact w)
theorem o_ixS {l : List Nat} {r : Int} (hl : l.length ≤ 2 ^ 24) (h0 : 0 ≤ r) (hr : r < l.length) (w : ∀ c, l[r.toNat]? = some c → P (.str (S [c])) ρ) : wo (ixD (.str (S l)) (.int r)) ρ P := by
  obtain ⟨c, h1, h2⟩ := at_in h0 hr
  refine o_some (d := chD c) ?_ (w c h2)
  show (if _ then _ else none) = _
  rw [if_pos (by rw [S_len]; exact hl), S_list, h1]
  rfl
theorem o_catS {a b : List Nat} (h : a.length + b.length ≤ 2 ^ 24) (w : P (.str (S (a ++ b))) ρ) : wo (addD (.str (S a)) (.str (S b))) ρ P := o_cat (by rw [S_len, S_len]; exact h) (by rw [S_app]; exact w)
theorem o_inS {c : Nat} {l : List Nat} (w : P (.bl (decide (c ∈ l))) ρ) : wo (inD (chD c) (.str (S l))) ρ P := o_some (d := .bl (decide (c ∈ l))) (by
  show some (D.bl (decide (c ∈ (S l).cps.toList))) = _
  simp only [S_list]) w
theorem o_notInS {c : Nat} {l : List Nat} (w : P (.bl (!decide (c ∈ l))) ρ) : wo (notInD (chD c) (.str (S l))) ρ P := o_some (d := .bl (!decide (c ∈ l))) (by
  show some (D.bl (!decide (c ∈ (S l).cps.toList))) = _
  simp only [S_list]) w
theorem o_sumI {ns : List Int} (w : P (.int ns.sum) ρ) : wo (oSum [.lst (ns.map D.int)]) ρ P := o_some (d := .int ns.sum) (by
  have h : ∀ ns : List Int, dInts (ns.map D.int) = some ns := by
    intro ns
    induction ns with
    | nil => rfl
    | cons a l ih => show (dInts (D.int a :: l.map D.int)) = _; simp [dInts, ih]
  show (dInts _).map _ = _
  rw [h]; rfl) w
theorem o_listL {ds : List D} (w : P (.lst ds) ρ) : wo (oList [.lst ds]) ρ P := w
theorem o_listT {ds : List D} (w : P (.lst ds) ρ) : wo (oList [.tup ds]) ρ P := w
theorem o_tupL {ds : List D} (w : P (.tup ds) ρ) : wo (oTup [.lst ds]) ρ P := w
theorem o_tupT {ds : List D} (w : P (.tup ds) ρ) : wo (oTup [.tup ds]) ρ P := w
theorem o_eqI {a b : Int} (w : P (.bl (decide (a = b))) ρ) : wo (eqD (.int a) (.int b)) ρ P := o_some (d := .bl (decide (a = b))) (by
  show ifO _ (.bl (a == b)) = _
  unfold ifO
  rw [if_pos ⟨rfl, rfl⟩]
  by_cases h : a = b <;> simp [h]) w
theorem o_neI {a b : Int} (w : P (.bl (!decide (a = b))) ρ) : wo (neD (.int a) (.int b)) ρ P := o_some (d := .bl (!decide (a = b))) (by
  show ifO _ (.bl (!(a == b))) = _
  unfold ifO
  rw [if_pos ⟨rfl, rfl⟩]
  by_cases h : a = b <;> simp [h]) w
theorem o_isN (w : P (.bl (isN d)) ρ) : wo (isNoneD d .non) ρ P := w
theorem o_notN (w : P (.bl (!isN d)) ρ) : wo (isNotNoneD d .non) ρ P := w
/-! ### dicts with letters as keys -/
theorem keyB_ch (a b : Nat) : keyB (chD a) (chD b) = decide (a = b) := by
  have h : keyB (kD (.inr (S [a]))) (kD (.inr (S [b]))) = decide ((Sum.inr (S [a]) : Key) = .inr (S [b])) := keyB_kD _ _
  refine h.trans ?_
  by_cases e : a = b
  · subst e; simp
  · have : ¬ (Sum.inr (S [a]) : Key) = .inr (S [b]) := by
      intro h
      have h1 : S [a] = S [b] := Sum.inr.inj h
      exact e (List.cons.inj (S_inj h1)).1
    simp [e, this]
theorem dFind_map (g : Nat → D) (c : Nat) : ∀ ls : List Nat, c ∈ ls → dFind (ls.map chD) (ls.map g) (chD c) = some (g c)
  | [], h => by simp at h
  | a :: ls, h => by
    show (if keyB (chD a) (chD c) then _ else _) = _
    rw [keyB_ch]
    by_cases e : a = c
    · subst e; simp
    · rw [if_neg (by simpa using e)]
      exact dFind_map g c ls (by simpa [Ne.symm e] using h)
theorem dFind_no (g : Nat → D) (c : Nat) : ∀ ls : List Nat, c ∉ ls → dFind (ls.map chD) (ls.map g) (chD c) = none
  | [], h => rfl
  | a :: ls, h => by
    show (if keyB (chD a) (chD c) then _ else _) = _
    rw [keyB_ch]
    have e : ¬ a = c := fun e => h (by simp [e])
    rw [if_neg (by simpa using e)]
    exact dFind_no g c ls (fun q => h (by simp [q]))
theorem any_ch (c : Nat) (ls : List Nat) (h : c ∉ ls) : (ls.map chD).any (keyB · (chD c)) = false := by
  rw [List.any_map, List.any_eq_false]
  intro a ha
  show ¬ keyB (chD a) (chD c) = true
  rw [keyB_ch]
  intro e
  exact h ((of_decide_eq_true e) ▸ ha)
theorem dPut_map (g : Nat → D) (c : Nat) (v : D) (ls : List Nat) (h : c ∉ ls) : dPut (ls.map chD) (ls.map g) (chD c) v = ((ls ++ [c]).map chD, (ls ++ [c]).map fun x => if x = c then v else g x) := by
  unfold dPut
  rw [if_neg (by rw [any_ch c ls h]; simp), List.map_append, List.map_append]
  refine Prod.ext rfl ?_
  show _ ++ [v] = _ ++ [if c = c then v else g c]
  rw [if_pos rfl]
  congr 1
  refine List.map_congr_left fun a ha => ?_
  have hn : a ≠ c := fun e => h (by rw [← e]; exact ha)
  rw [if_neg hn]
theorem keys_all (ls : List Nat) : (ls.map chD).all isKD = true := by
  rw [List.all_map, List.all_eq_true]
  intro a _
  rfl
/-- a dict over letters, its values by a function -/
abbrev chDic (ls : List Nat) (g : Nat → D) : D := .dic (ls.map chD) (ls.map g)
theorem o_getCh {ls : List Nat} {g : Nat → D} {c : Nat} (h : c ∈ ls) (w : P (g c) ρ) : wo (dgetD (chDic ls g) (chD c)) ρ P := o_some (d := g c) (by
  show (if (ls.map chD).all isKD then _ else _) = _
  rw [if_pos (keys_all ls)]
  show dFind _ _ _ = _
  exact dFind_map _ c ls h) w
theorem o_lenCh {ls : List Nat} {g : Nat → D} (w : P (.int ls.length) ρ) : wo (oLenD [chDic ls g]) ρ P := o_some (d := .int ls.length) (by
  show (if _ ∧ _ then _ else none) = _
  rw [if_pos ⟨keys_all ls, by simp⟩]
  simp) w
theorem o_notInCh {ls : List Nat} {g : Nat → D} {c : Nat} (w : P (.bl (!decide (c ∈ ls))) ρ) : wo (notInKD (chD c) (chDic ls g)) ρ P := o_some (d := .bl (!decide (c ∈ ls))) (by
  have e : inDD (chD c) (chDic ls g) = some (dFind (ls.map chD) (ls.map g) (chD c)).isSome := by
    show (if (ls.map chD).all isKD then _ else _) = _
    rw [if_pos (keys_all ls)]; rfl
  unfold notInKD
  rw [e]
  by_cases h : c ∈ ls
  · rw [dFind_map g c ls h]; simp [h]
  · rw [dFind_no g c ls h]; simp [h]) w
theorem o_listCh {ls : List Nat} {g : Nat → D} (w : P (.lst (ls.map chD)) ρ) : wo (oListDK [chDic ls g]) ρ P := o_some (d := .lst (ls.map chD)) (by
  show (if _ then _ else none) = _
  rw [if_pos (keys_all ls)]) w
/-- a dict comprehension over unlike letters -/
theorem w_dcCh {fi : Env → R (List D)} {fk f : Env → R D} {vs : List Nat} {ls : List Nat} {v : Nat → D} (hn : ls.Nodup) (hl : ls.length < 2 ^ 24) (w : wpx E (fi ρ) fun ds ρ1 => ds = ls.map chD ∧
    (∀ c, c ∈ ls → ∃ ρa, gt (chD c) (wipeE ρ1 vs) = some ρa ∧ wp (fk ρa) fun k ρb => k = chD c ∧ wp (f ρb) fun y ρc => y = v c ∧ wipeE ρc vs = wipeE ρ1 vs) ∧ P (chDic ls v) (restE ρ1 (wipeE ρ1 vs) vs)) : wpx E (mDc fi gt mYes fk f vs ρ) P := by
  unfold mDc
  refine wp_bind (wp_imp w fun ds ρ1 w1 => ?_)
  obtain ⟨rfl, hs, hp⟩ := w1
  have key : ∀ (r l : List Nat), l ++ r = ls → compD gt mYes fk f vs (r.map chD) (wipeE ρ1 vs) (l.map chD) (l.map v) = .ok (ls.map chD, ls.map v) (wipeE ρ1 vs) := by
    intro r
    induction r with
    | nil => intro l e; rw [List.append_nil] at e; subst e; rfl
    | cons c r ih =>
      intro l e
      have hc : c ∈ ls := by rw [← e]; simp
      have hcl : c ∉ l := by
        rw [← e] at hn
        intro q
        exact (List.nodup_append.1 hn).2.2 c q c (by simp) rfl
      obtain ⟨ρa, e1, w1⟩ := hs c hc
      obtain ⟨k, ρb, e2, rfl, w2⟩ := wp_of w1
      obtain ⟨y, ρc, e3, rfl, e4⟩ := wp_of w2
      rw [List.map_cons]
      unfold compD
      rw [e1]
      dsimp only [mYes]
      rw [e2]; dsimp only; rw [e3]; dsimp only
      have hll : l.length ≤ ls.length := by rw [← e]; simp
      rw [if_pos ⟨rfl, by rw [List.length_map]; show _ < 2 ^ 24; omega⟩, e4, dPut_map v c _ l hcl]
      dsimp only
      have e5 : ((l ++ [c]).map fun x => if x = c then v c else v x) = (l ++ [c]).map v := List.map_congr_left fun x _ => by
        by_cases h : x = c
        · rw [if_pos h, h]
        · rw [if_neg h]
      rw [e5]
      exact ih (l ++ [c]) (by simpa using e)
  have := key ls [] rfl
  rw [show compD gt mYes fk f vs (ls.map chD) (wipeE ρ1 vs) [] [] = _ from this]
  exact hp
/-- storing under a new letter -/
theorem x_dkCh {i : Nat} {hk : Env → R D} {ρ : Env} {ls : List Nat} {g : Nat → D} {c : Nat} {v : D} {Q : Env → Prop} (e : ρ.getD i none = some (chDic ls g)) (ek : hk ρ = .ok (chD c) ρ) (hc : c ∉ ls) (hl : ls.length < 2 ^ 24) (w : Q (ρ.set i (some (chDic (ls ++ [c]) fun x => if x = c then v else g x)))) : ∃ ρ2, gDk i hk v ρ = some ρ2 ∧ Q ρ2 := by
  refine ⟨_, ?_, w⟩
  unfold gDk
  rw [e, ek]
  dsimp only [chDic, ofO]
  rw [e]
  show (if _ then _ else none) = _
  rw [if_pos ⟨keys_all ls, by rw [List.length_map]; exact hl⟩, dPut_map _ c v ls hc]
theorem chDic_congr {ls : List Nat} {g g' : Nat → D} (h : ∀ c ∈ ls, g c = g' c) : chDic ls g = chDic ls g' := by
  unfold chDic
  rw [List.map_congr_left h]
/-! ### slices -/
theorem cut_to {l : List Nat} {k : Nat} (h : k ≤ l.length) : cutS (S l) none (some (k : Int)) = S (l.take k) := by
  rw [← S_of (cutS _ _ _)]
  congr 1
  unfold cutS
  simp [HT.sIx_none, HT.sIx_nat, S_list, S_len]
/-! ### more rules -/
theorem f_eq {EF : Ex → List D → Prop} {F : FSem} {ds : List D} {v : D} {Q : D → List D → Prop} (h : wf (F ds) fun d outs => d = v ∧ outs = []) (w : Q v []) : wfx EF (F ds) Q := wf_impE h (fun d outs e => by obtain ⟨rfl, rfl⟩ := e; exact w) fun _ _ h => h.elim
theorem x_leI {a b : Int} {Q : Bool → Prop} (w : Q (decide (a ≤ b))) : ∃ c, leD (.int a) (.int b) = some (.bl c) ∧ Q c := ⟨_, rfl, w⟩
theorem x_ltI {a b : Int} {Q : Bool → Prop} (w : Q (decide (a < b))) : ∃ c, ltD (.int a) (.int b) = some (.bl c) ∧ Q c := ⟨_, rfl, w⟩
theorem one_lt {a b : Nat} : ([a] < [b]) ↔ a < b := by
  rw [List.cons_lt_cons_iff]
  constructor
  · rintro (h | ⟨_, h⟩)
    · exact h
    · exact absurd h (List.lt_irrefl _)
  · exact fun h => .inl h
theorem not_dec {p q : Prop} [Decidable p] [Decidable q] (h : q ↔ ¬ p) : (!decide p) = decide q := by
  by_cases hp : p
  · rw [decide_eq_true hp, decide_eq_false (fun hq => h.1 hq hp)]; rfl
  · rw [decide_eq_false hp, decide_eq_true (h.2 hp)]; rfl
theorem le_chL {s : Str} {a c : Nat} (e : s.cps.toList = [a]) : leD (.str s) (chD c) = some (.bl (decide (a ≤ c))) := by
  show some (D.bl (!decide (([c] : List Nat) < s.cps.toList))) = _
  congr 2
  refine not_dec ?_
  rw [e, one_lt]; omega
theorem le_chR {s : Str} {a c : Nat} (e : s.cps.toList = [a]) : leD (chD c) (.str s) = some (.bl (decide (c ≤ a))) := by
  show some (D.bl (!decide (s.cps.toList < ([c] : List Nat)))) = _
  congr 2
  refine not_dec ?_
  rw [e, one_lt]; omega
theorem x_leCh {s : Str} {a c : Nat} {Q : Bool → Prop} (e : s.cps.toList = [a]) (w : Q (decide (a ≤ c))) : ∃ b, leD (.str s) (chD c) = some (.bl b) ∧ Q b := ⟨_, le_chL e, w⟩
theorem o_leCh {s : Str} {a c : Nat} (e : s.cps.toList = [a]) (w : P (.bl (decide (c ≤ a))) ρ) : wo (leD (chD c) (.str s)) ρ P := o_some (le_chR e) w
theorem nodup_take {α : Type} {l : List α} {i : Nat} {c : α} (hn : l.Nodup) (h : l[i]? = some c) : c ∉ l.take i := by
  have e : l.take (i + 1) = l.take i ++ [c] := by rw [List.take_succ, h]; rfl
  have h1 : (l.take i ++ [c]).Nodup := e ▸ hn.sublist (List.take_sublist (i + 1) l)
  intro h2
  exact (List.nodup_append.1 h1).2.2 c h2 c (by simp) rfl
theorem take_at {α : Type} {l : List α} {i : Nat} {c : α} (h : l[i]? = some c) : l.take (i + 1) = l.take i ++ [c] := by rw [List.take_succ, h]; rfl
theorem map_at {α β : Type} {f : α → β} {l : List α} {i : Nat} {d : β} (h : (l.map f)[i]? = some d) : ∃ c, l[i]? = some c ∧ d = f c := by
  rw [List.getElem?_map, Option.map_eq_some_iff] at h
  obtain ⟨c, h1, h2⟩ := h
  exact ⟨c, h1, h2.symm⟩
theorem enum_at {l : List Nat} {i : Nat} {d : D} (h : (enumL 0 (l.map chD))[i]? = some d) : ∃ c, l[i]? = some c ∧ d = .tup [.int (i : Nat), chD c] := by
  rw [enumL_get, List.getElem?_map, Option.map_map, Option.map_eq_some_iff] at h
  obtain ⟨c, h1, h2⟩ := h
  refine ⟨c, h1, ?_⟩
  rw [← h2]
  show D.tup [.int ((0 + i : Nat) : Int), chD c] = _
  rw [Nat.zero_add]
theorem x_enS {l : List Nat} {Q : List D → Prop} (w : Q (enumL 0 (l.map chD))) : ∃ s : Str, D.str (S l) = .str s ∧ Q (enumL 0 (s.cps.toList.map chD)) := ⟨S l, rfl, by rw [S_list]; exact w⟩
theorem x_cutTo {l : List Nat} {k : Nat} {Q : Str → Prop} (hl : l.length ≤ 2 ^ 24) (h : k ≤ l.length) (w : Q (S (l.take k))) : (S l).length ≤ sizeLine ∧ Q (cutS (S l) none (some (k : Int))) := ⟨by rw [S_len]; exact hl, by rw [cut_to h]; exact w⟩
theorem x_fldS {i : Nat} {ρ : Env} {cn c : Str} {ns : List Str} {ds : List D} {Q : Str → List Str → List D → Prop} (e : ρ.getD i none = some (.obj c ns ds)) (e2 : c = cn ∧ ns.length < 1000) (w : Q c ns ds) : ∃ c ns ds, ρ.getD i none = some (.obj c ns ds) ∧ (c = cn ∧ ns.length < 1000) ∧ Q c ns ds := ⟨c, ns, ds, e, e2, w⟩
theorem x_mk {o : D} {Q : D → Prop} (w : Q o) : ∃ q, D.non = .non ∧ [o] = [q] ∧ Q q := ⟨o, rfl, rfl, w⟩
/-! ### joining without a text between -/
theorem joinS : ∀ ls : List (List Nat), Str.join (S []) (ls.map S) = S ls.flatten
  | [] => rfl
  | [l] => by
    show S l = S (l ++ [])
    rw [List.append_nil]
  | l :: m :: r => by
    show S l ++ S [] ++ Str.join (S []) ((m :: r).map S) = S (l ++ (m :: r).flatten)
    rw [joinS (m :: r), S_app, S_app, List.append_nil]
theorem joinE (ls : List (List Nat)) : Txt.join (S []) (ls.map S) = S ls.flatten := (TL.join_eq (S []) (ls.map S)).trans (joinS ls)
theorem dStrs_map : ∀ ls : List (List Nat), dStrs (ls.map fun l => D.str (S l)) = some (ls.map S)
  | [] => rfl
  | l :: ls => by
    show (dStrs (ls.map fun l => D.str (S l))).map (S l :: ·) = _
    rw [dStrs_map ls]; rfl
theorem sum_len : ∀ ls : List (List Nat), ((ls.map S).map (·.length)).sum = ls.flatten.length
  | [] => rfl
  | l :: ls => by
    show (S l).length + ((ls.map S).map (·.length)).sum = _
    rw [sum_len ls, S_len, List.flatten_cons, List.length_append]
theorem o_joinE {ls : List (List Nat)} (h : ls.flatten.length ≤ 2 ^ 24) (w : P (.str (S ls.flatten)) ρ) : wo (oJoin (S []) [.lst (ls.map fun l => D.str (S l))]) ρ P := o_some (d := .str (S ls.flatten)) (by
  show (dStrs _).bind _ = _
  rw [dStrs_map]
  show ifO _ _ = _
  unfold ifO
  rw [sum_len, if_pos (by show _ + _ * 0 ≤ _; omega), joinE]) w
end
end Ip
namespace Ip
open PySem L2
section
variable {E : Ex → Env → Prop} {i j n : Nat} {ρ : Env} {d x y z : D} {f h : Env → R D} {g : Env → R (List D)} {P : D → Env → Prop} {F : FSem}
theorem w_fld1 {c nm : Str} (w : wpx E (f ρ) fun o ρ1 => ∃ d, (clsOf o = some c ∧ fldD nm o = some d) ∧ P d ρ1) : wpx E (mFld [c] nm f ρ) P := w_fld (wp_imp w fun o ρ1 ⟨d, ⟨e1, e2⟩, w1⟩ => ⟨c, e1, by simp, o_some e2 w1⟩)
theorem x_fld {c nm : Str} {o : D} {Q : D → Prop} (e1 : clsOf o = some c) (e2 : fldD nm o = some d) (w : Q d) : ∃ d, (clsOf o = some c ∧ fldD nm o = some d) ∧ Q d := ⟨d, ⟨e1, e2⟩, w⟩
theorem x_meth {cs : List Str} {c m : Str} {o : D} {Q : Prop} (e1 : clsOf o = some c) (e2 : cs.contains c = true ∧ hasNo m o = true) (w : Q) : ∃ c, clsOf o = some c ∧ (cs.contains c = true ∧ hasNo m o = true) ∧ Q := ⟨c, e1, e2, w⟩
theorem o_ixN {ds : List D} {k : Nat} (e : ds[k]? = some d) (w : P d ρ) : wo (ixD (.lst ds) (.int k)) ρ P := o_ixL (at_nat e) w
theorem o_ixNT {ds : List D} {k : Nat} (e : ds[k]? = some d) (w : P d ρ) : wo (ixD (.tup ds) (.int k)) ρ P := o_ixT (at_nat e) w
theorem eqv_str (a b : Str) : PyData.eqv (.str a) (.str b) = (a == b) := rfl
def Sg (a : List Nat) : Prop := ∀ c ∈ a, c < 0x110000
theorem shaped_S {a : List Nat} (h : Sg a) : SeqAt.shaped (.str (S a)) = true := by
  show ((S a).cps.all (· < 0x110000) && decide _) = true
  rw [Bool.and_eq_true]
  refine ⟨?_, rfl⟩
  rw [← Array.all_toList, S_list, List.all_eq_true]
  intro c hc
  exact decide_eq_true (h c hc)
theorem o_eqS {a b : List Nat} (ha : Sg a) (hb : Sg b) (w : P (.bl (decide (a = b))) ρ) : wo (eqD (.str (S a)) (.str (S b))) ρ P := o_some (d := .bl (decide (a = b))) (by
  show ifO _ (.bl (S a == S b)) = _
  unfold ifO
  rw [if_pos ⟨shaped_S ha, shaped_S hb⟩]
  congr 2
  by_cases h : a = b
  · subst h; simp
  · have : ¬ S a = S b := fun e => h (S_inj e)
    simp [h, this]) w
theorem o_neS {a b : List Nat} (ha : Sg a) (hb : Sg b) (w : P (.bl (!decide (a = b))) ρ) : wo (neD (.str (S a)) (.str (S b))) ρ P := o_some (d := .bl (!decide (a = b))) (by
  show ifO _ (.bl (!(S a == S b))) = _
  unfold ifO
  rw [if_pos ⟨shaped_S ha, shaped_S hb⟩]
  congr 3
  by_cases h : a = b
  · subst h; simp
  · have : ¬ S a = S b := fun e => h (S_inj e)
    simp [h, this]) w
theorem o_eqB {a b : Bool} (w : P (.bl (a == b)) ρ) : wo (eqD (.bl a) (.bl b)) ρ P := o_some (d := .bl (a == b)) (by
  show ifO _ (.bl _) = _
  unfold ifO
  rw [if_pos ⟨rfl, rfl⟩]
  cases a <;> cases b <;> rfl) w
theorem o_rev {ds : List D} (w : P (.lst ds.reverse) ρ) : wo (revD (.lst ds)) ρ P := w
/-- what a loop over letters leaves: an early end -/
theorem cut_from {l : List Nat} {k : Nat} (h : k ≤ l.length) : cutS (S l) (some (k : Int)) none = S (l.drop k) := by
  rw [← S_of (cutS _ _ _)]
  congr 1
  unfold cutS
  simp [HT.sIx_none, HT.sIx_nat, S_list, S_len, Nat.min_eq_left h]
  rw [List.take_of_length_le (by rw [List.length_drop]; omega)]
/-- a comprehension over known things -/
theorem w_mapT {α : Type} {gt : D → Env → Option Env} {fi : Env → R (List D)} {vs : List Nat} {l : List α} (A B : α → D) (w : wpx E (fi ρ) fun ds ρ1 => ds = l.map A ∧ l.length < sizeLine ∧ (∀ a, a ∈ l → ∃ ρa, gt (A a) (wipeE ρ1 vs) = some ρa ∧ wp (f ρa) fun y ρb => y = B a ∧ wipeE ρb vs = wipeE ρ1 vs) ∧ P (.lst (l.map B)) (restE ρ1 (wipeE ρ1 vs) vs)) : wpx E (mLc fi gt mYes f vs ρ) P := w_lc (wp_imp w fun ds ρ1 ⟨e, hz, hs, hp⟩ => by
  subst e
  refine ⟨by rw [List.length_map]; exact hz, fun i ρ acc => ρ = wipeE ρ1 vs ∧ acc = (l.take i).map B, ⟨rfl, rfl⟩, fun i d ρ acc hd hi => ?_, fun ρ2 acc hi => ?_⟩
  · obtain ⟨rfl, rfl⟩ := hi
    obtain ⟨a, ha, rfl⟩ := map_at hd
    obtain ⟨ρa, e1, w⟩ := hs a (List.mem_of_getElem? ha)
    refine ⟨by rw [List.length_map, List.length_take]; omega, ρa, e1, w_yes ?_⟩
    rw [if_pos rfl]
    refine wp_imp w fun y ρb ⟨e2, e3⟩ => ⟨e3, ?_⟩
    rw [take_at ha, List.map_append, e2]
    rfl
  · obtain ⟨rfl, rfl⟩ := hi
    rw [List.length_map, List.take_length]
    exact hp)
end
end Ip
namespace Ip
open PySem L2
section
variable {E : Ex → Env → Prop} {i j n : Nat} {ρ : Env} {d x y z : D} {f h : Env → R D} {g : Env → R (List D)} {P : D → Env → Prop} {F : FSem}
/-- a comprehension with a test -/
theorem w_filT {α : Type} {gt : D → Env → Option Env} {fi : Env → R (List D)} {tst : Env → R Bool} {vs : List Nat} {l : List α} (A B : α → D) (p : α → Bool) (w : wpx E (fi ρ) fun ds ρ1 => ds = l.map A ∧ l.length < sizeLine ∧ (∀ a, a ∈ l → ∃ ρa, gt (A a) (wipeE ρ1 vs) = some ρa ∧ wp (tst ρa) fun b ρb => b = p a ∧ if p a = true then wp (f ρb) (fun y ρc => y = B a ∧ wipeE ρc vs = wipeE ρ1 vs) else wipeE ρb vs = wipeE ρ1 vs) ∧ P (.lst ((l.filter p).map B)) (restE ρ1 (wipeE ρ1 vs) vs)) : wpx E (mLc fi gt tst f vs ρ) P := w_lc (wp_imp w fun ds ρ1 ⟨e, hz, hs, hp⟩ => by
  subst e
  refine ⟨by rw [List.length_map]; exact hz, fun i ρ acc => ρ = wipeE ρ1 vs ∧ acc = ((l.take i).filter p).map B, ⟨rfl, rfl⟩, fun i d ρ acc hd hi => ?_, fun ρ2 acc hi => ?_⟩
  · obtain ⟨rfl, rfl⟩ := hi
    obtain ⟨a, ha, rfl⟩ := map_at hd
    obtain ⟨ρa, e1, w⟩ := hs a (List.mem_of_getElem? ha)
    refine ⟨by
      rw [List.length_map]
      have h1 := List.length_filter_le p (l.take i)
      have h2 : (l.take i).length ≤ i := by rw [List.length_take]; omega
      omega, ρa, e1, wp_imp w fun b ρb w1 => ?_⟩
    obtain ⟨e2, w2⟩ := w1
    subst e2
    cases q : p a with
    | true =>
      rw [q, if_pos rfl] at w2
      rw [if_pos rfl]
      refine wp_imp w2 fun y ρc ⟨e3, e4⟩ => ⟨e4, ?_⟩
      rw [take_at ha, List.filter_append, List.map_append, e3]
      simp [q]
    | false =>
      rw [q, if_neg Bool.false_ne_true] at w2
      rw [if_neg Bool.false_ne_true]
      refine ⟨w2, ?_⟩
      rw [take_at ha, List.filter_append]
      simp [q]
  · obtain ⟨rfl, rfl⟩ := hi
    rw [List.length_map, List.take_length]
    exact hp)
theorem o_max {a b : Int} (w : P (.int (if b > a then b else a)) ρ) : wo (oMax [.int a, .int b]) ρ P := w
theorem o_min {a b : Int} (w : P (.int (if b < a then b else a)) ρ) : wo (oMin [.int a, .int b]) ρ P := w
end
end Ip
set_option maxHeartbeats 4000000
namespace Wk29
open PySem L2 Ip
local macro_rules | `(tactic| and_intros) => `(tactic| repeat (first | (with_reducible first | refine w_c ?_ | refine w_nil ?_ | refine w_nx ?_ | refine w_yes ?_ | refine w_pair ?_ | refine w_pairO ?_ | refine w_pairR ?_ | refine w_m2 ?_ | refine w_un ?_ | refine w_cons ?_ | refine w_own ?_ | refine w_io ?_ | refine w_arg ?_ | refine w_argI ?_ | refine w_seqI ?_ | refine w_tup ?_ | refine w_lst ?_ | refine w_and ?_ | refine w_or ?_ | refine w_notV ?_ | refine w_ite ?_ | refine w_test ?_ | refine w_not ?_ | refine w_tand ?_ | refine w_tor ?_ | refine w_chain ?_ | refine w_call0 ?_ | refine w_call1 ?_ | refine w_lstM ?_ | refine w_strM ?_ | refine w_slice ?_ | refine w_oN ?_ | refine w_oS ?_ | refine w_seq ?_ | refine w_if ?_ | refine w_ret ?_ | refine w_drop ?_ | refine w_set ?_ | refine w_setO ?_ | refine w_asg ?_ | refine w_gIx ?_ | refine w_for ?_ | refine w_fn ?_ | refine w_cutL ?_ | refine w_enumS ?_ | refine w_fld1 ?_ | refine w_fldS ?_ | refine w_make ?_ | refine w_meth ?_ | refine w_raise ?_ | refine w_try ?_ | refine q_nx ?_ | refine q_rt ?_ | refine q_bk ?_ | refine q_ct ?_ | refine e_rt ?_ | refine e_nx ?_ | refine i_t ?_ | refine i_f ?_ | refine i_nt ?_ | refine i_nf ?_ | refine o_add ?_ | refine o_sub ?_ | refine o_lt ?_ | refine o_le ?_ | refine o_gt ?_ | refine o_ge ?_ | refine o_int ?_ | refine o_abs ?_ | refine o_lenL ?_ | refine o_lenT ?_ | refine o_inS ?_ | refine o_notInS ?_ | refine o_listL ?_ | refine o_listT ?_ | refine o_tupL ?_ | refine o_tupT ?_ | refine o_eqI ?_ | refine o_neI ?_ | refine o_isN ?_ | refine o_notN ?_ | refine o_rev ?_ | refine o_max ?_ | refine o_min ?_ | refine o_lenCh ?_ | refine o_notInCh ?_ | refine o_listCh ?_ | refine x_bl ?_ | refine x_int ?_ | refine x_str ?_ | refine x_sqL ?_ | refine x_sqT ?_ | refine x_sqS ?_ | refine x_isL ?_ | refine x_out ?_ | refine x_some ?_ | refine x_objL ?_ | refine x_objI ?_ | refine x_objD ?_ | refine x_cls ?_ | refine fl_nx ?_ | refine fl_ct ?_ | refine x_r1 (by with_unfolding_all omega) ?_ | refine x_r2 (by with_unfolding_all omega) ?_ | refine w_var (by with_unfolding_all exact rfl) ?_ | refine x_env (by with_unfolding_all exact rfl) ?_ | refine x_lst (by with_unfolding_all exact rfl) ?_ | refine x_slot (by with_unfolding_all exact of_decide_eq_true rfl) ?_ | refine x_nm (by with_unfolding_all exact of_decide_eq_true rfl) ?_ | refine o_ixL (by with_unfolding_all exact rfl) ?_ | refine o_ixT (by with_unfolding_all exact rfl) ?_ | refine o_isiB (b := true) (by with_unfolding_all exact rfl) ?_ | refine o_isiB (b := false) (by with_unfolding_all exact rfl) ?_ | refine o_lenS' (by first | with_unfolding_all omega | assumption) ?_ | refine x_tp (by with_unfolding_all exact rfl) ?_ | refine x_fld (by with_unfolding_all exact rfl) (by with_unfolding_all exact rfl) ?_ | refine x_meth (by with_unfolding_all exact rfl) ⟨(by with_unfolding_all exact rfl), (by with_unfolding_all exact rfl)⟩ ?_ | refine o_pow (by with_unfolding_all decide) ?_ | refine o_mulR (by with_unfolding_all decide) ?_ | refine o_mulL (by with_unfolding_all decide) ?_ | refine o_mulL (by with_unfolding_all omega) ?_ | refine o_mod (by first | assumption | with_unfolding_all decide) ?_ | refine o_div (by first | assumption | with_unfolding_all decide) (by first | assumption | with_unfolding_all decide) ?_)))
def pool (p q : Int) : D := .lst [.int p, .int q]
theorem draw_ok (p q many : Int) (h1 : 1 ≤ many) (h2 : many < 10 ^ 60) : wf (F_law_draw [pool p q, .int many]) fun d outs => ∃ r p' q', d = .int r ∧ outs = [pool p' q'] ∧ 0 ≤ r ∧ r < many := by
  have hl := log_small (j := many) (by omega) h2
  have hm : (0 : Int) < many := by omega
  unfold F_law_draw pool
  refine w_fn ?_
  unfold m_law_draw
  repeat (first | (with_reducible first | refine w_c ?_ | refine w_nil ?_ | refine w_nx ?_ | refine w_yes ?_ | refine w_pair ?_ | refine w_pairO ?_ | refine w_pairR ?_ | refine w_m2 ?_ | refine w_un ?_ | refine w_cons ?_ | refine w_own ?_ | refine w_io ?_ | refine w_arg ?_ | refine w_argI ?_ | refine w_seqI ?_ | refine w_tup ?_ | refine w_lst ?_ | refine w_and ?_ | refine w_or ?_ | refine w_notV ?_ | refine w_ite ?_ | refine w_test ?_ | refine w_not ?_ | refine w_tand ?_ | refine w_tor ?_ | refine w_chain ?_ | refine w_call0 ?_ | refine w_call1 ?_ | refine w_lstM ?_ | refine w_strM ?_ | refine w_slice ?_ | refine w_oN ?_ | refine w_oS ?_ | refine w_seq ?_ | refine w_if ?_ | refine w_ret ?_ | refine w_drop ?_ | refine w_set ?_ | refine w_setO ?_ | refine w_asg ?_ | refine w_gIx ?_ | refine w_for ?_ | refine w_fn ?_ | refine w_cutL ?_ | refine w_enumS ?_ | refine w_fld1 ?_ | refine w_fldS ?_ | refine w_make ?_ | refine w_meth ?_ | refine w_raise ?_ | refine w_try ?_ | refine q_nx ?_ | refine q_rt ?_ | refine q_bk ?_ | refine q_ct ?_ | refine e_rt ?_ | refine e_nx ?_ | refine i_t ?_ | refine i_f ?_ | refine i_nt ?_ | refine i_nf ?_ | refine o_add ?_ | refine o_sub ?_ | refine o_lt ?_ | refine o_le ?_ | refine o_gt ?_ | refine o_ge ?_ | refine o_int ?_ | refine o_abs ?_ | refine o_lenL ?_ | refine o_lenT ?_ | refine o_inS ?_ | refine o_notInS ?_ | refine o_listL ?_ | refine o_listT ?_ | refine o_tupL ?_ | refine o_tupT ?_ | refine o_eqI ?_ | refine o_neI ?_ | refine o_isN ?_ | refine o_notN ?_ | refine o_rev ?_ | refine o_max ?_ | refine o_min ?_ | refine o_lenCh ?_ | refine o_notInCh ?_ | refine o_listCh ?_ | refine x_bl ?_ | refine x_int ?_ | refine x_str ?_ | refine x_sqL ?_ | refine x_sqT ?_ | refine x_sqS ?_ | refine x_isL ?_ | refine x_out ?_ | refine x_some ?_ | refine x_objL ?_ | refine x_objI ?_ | refine x_objD ?_ | refine x_cls ?_ | refine fl_nx ?_ | refine fl_ct ?_ | refine x_r1 (by with_unfolding_all omega) ?_ | refine x_r2 (by with_unfolding_all omega) ?_ | refine w_var (by with_unfolding_all exact rfl) ?_ | refine x_env (by with_unfolding_all exact rfl) ?_ | refine x_lst (by with_unfolding_all exact rfl) ?_ | refine x_slot (by with_unfolding_all exact of_decide_eq_true rfl) ?_ | refine x_nm (by with_unfolding_all exact of_decide_eq_true rfl) ?_ | refine o_ixL (by with_unfolding_all exact rfl) ?_ | refine o_ixT (by with_unfolding_all exact rfl) ?_ | refine o_isiB (b := true) (by with_unfolding_all exact rfl) ?_ | refine o_isiB (b := false) (by with_unfolding_all exact rfl) ?_ | refine o_lenS' (by first | with_unfolding_all omega | assumption) ?_ | refine x_tp (by with_unfolding_all exact rfl) ?_ | refine x_fld (by with_unfolding_all exact rfl) (by with_unfolding_all exact rfl) ?_ | refine x_meth (by with_unfolding_all exact rfl) ⟨(by with_unfolding_all exact rfl), (by with_unfolding_all exact rfl)⟩ ?_ | refine o_pow (by with_unfolding_all decide) ?_ | refine o_mulR (by with_unfolding_all decide) ?_ | refine o_mulL (by with_unfolding_all decide) ?_ | refine o_mulL (by with_unfolding_all omega) ?_ | refine o_mod (by first | assumption | with_unfolding_all decide) ?_ | refine o_div (by first | assumption | with_unfolding_all decide) (by first | assumption | with_unfolding_all decide) ?_ | refine ⟨(by with_unfolding_all rfl), ?_⟩ | refine ⟨_, (by with_unfolding_all rfl), ?_⟩ | refine ⟨_, _, _, (by with_unfolding_all rfl), (by with_unfolding_all rfl), (by with_unfolding_all rfl), ?_⟩))
  by_cases hp : (10 : Int) ^ 18 ≤ p
  · rw [decide_eq_true (show (10 : Int) ^ Int.toNat 18 ≤ p from hp)]
    repeat (first | (with_reducible first | refine w_c ?_ | refine w_nil ?_ | refine w_nx ?_ | refine w_yes ?_ | refine w_pair ?_ | refine w_pairO ?_ | refine w_pairR ?_ | refine w_m2 ?_ | refine w_un ?_ | refine w_cons ?_ | refine w_own ?_ | refine w_io ?_ | refine w_arg ?_ | refine w_argI ?_ | refine w_seqI ?_ | refine w_tup ?_ | refine w_lst ?_ | refine w_and ?_ | refine w_or ?_ | refine w_notV ?_ | refine w_ite ?_ | refine w_test ?_ | refine w_not ?_ | refine w_tand ?_ | refine w_tor ?_ | refine w_chain ?_ | refine w_call0 ?_ | refine w_call1 ?_ | refine w_lstM ?_ | refine w_strM ?_ | refine w_slice ?_ | refine w_oN ?_ | refine w_oS ?_ | refine w_seq ?_ | refine w_if ?_ | refine w_ret ?_ | refine w_drop ?_ | refine w_set ?_ | refine w_setO ?_ | refine w_asg ?_ | refine w_gIx ?_ | refine w_for ?_ | refine w_fn ?_ | refine w_cutL ?_ | refine w_enumS ?_ | refine w_fld1 ?_ | refine w_fldS ?_ | refine w_make ?_ | refine w_meth ?_ | refine w_raise ?_ | refine w_try ?_ | refine q_nx ?_ | refine q_rt ?_ | refine q_bk ?_ | refine q_ct ?_ | refine e_rt ?_ | refine e_nx ?_ | refine i_t ?_ | refine i_f ?_ | refine i_nt ?_ | refine i_nf ?_ | refine o_add ?_ | refine o_sub ?_ | refine o_lt ?_ | refine o_le ?_ | refine o_gt ?_ | refine o_ge ?_ | refine o_int ?_ | refine o_abs ?_ | refine o_lenL ?_ | refine o_lenT ?_ | refine o_inS ?_ | refine o_notInS ?_ | refine o_listL ?_ | refine o_listT ?_ | refine o_tupL ?_ | refine o_tupT ?_ | refine o_eqI ?_ | refine o_neI ?_ | refine o_isN ?_ | refine o_notN ?_ | refine o_rev ?_ | refine o_max ?_ | refine o_min ?_ | refine o_lenCh ?_ | refine o_notInCh ?_ | refine o_listCh ?_ | refine x_bl ?_ | refine x_int ?_ | refine x_str ?_ | refine x_sqL ?_ | refine x_sqT ?_ | refine x_sqS ?_ | refine x_isL ?_ | refine x_out ?_ | refine x_some ?_ | refine x_objL ?_ | refine x_objI ?_ | refine x_objD ?_ | refine x_cls ?_ | refine fl_nx ?_ | refine fl_ct ?_ | refine x_r1 (by with_unfolding_all omega) ?_ | refine x_r2 (by with_unfolding_all omega) ?_ | refine w_var (by with_unfolding_all exact rfl) ?_ | refine x_env (by with_unfolding_all exact rfl) ?_ | refine x_lst (by with_unfolding_all exact rfl) ?_ | refine x_slot (by with_unfolding_all exact of_decide_eq_true rfl) ?_ | refine x_nm (by with_unfolding_all exact of_decide_eq_true rfl) ?_ | refine o_ixL (by with_unfolding_all exact rfl) ?_ | refine o_ixT (by with_unfolding_all exact rfl) ?_ | refine o_isiB (b := true) (by with_unfolding_all exact rfl) ?_ | refine o_isiB (b := false) (by with_unfolding_all exact rfl) ?_ | refine o_lenS' (by first | with_unfolding_all omega | assumption) ?_ | refine x_tp (by with_unfolding_all exact rfl) ?_ | refine x_fld (by with_unfolding_all exact rfl) (by with_unfolding_all exact rfl) ?_ | refine x_meth (by with_unfolding_all exact rfl) ⟨(by with_unfolding_all exact rfl), (by with_unfolding_all exact rfl)⟩ ?_ | refine o_pow (by with_unfolding_all decide) ?_ | refine o_mulR (by with_unfolding_all decide) ?_ | refine o_mulL (by with_unfolding_all decide) ?_ | refine o_mulL (by with_unfolding_all omega) ?_ | refine o_mod (by first | assumption | with_unfolding_all decide) ?_ | refine o_div (by first | assumption | with_unfolding_all decide) (by first | assumption | with_unfolding_all decide) ?_ | refine ⟨(by with_unfolding_all rfl), ?_⟩ | refine ⟨_, (by with_unfolding_all rfl), ?_⟩ | refine ⟨_, _, _, (by with_unfolding_all rfl), (by with_unfolding_all rfl), (by with_unfolding_all rfl), ?_⟩))
    exact ⟨_, _, _, rfl, rfl, Int.emod_nonneg _ (by omega), Int.emod_lt_of_pos _ hm⟩
  · rw [decide_eq_false (show ¬ (10 : Int) ^ Int.toNat 18 ≤ p from hp)]
    repeat (first | (with_reducible first | refine w_c ?_ | refine w_nil ?_ | refine w_nx ?_ | refine w_yes ?_ | refine w_pair ?_ | refine w_pairO ?_ | refine w_pairR ?_ | refine w_m2 ?_ | refine w_un ?_ | refine w_cons ?_ | refine w_own ?_ | refine w_io ?_ | refine w_arg ?_ | refine w_argI ?_ | refine w_seqI ?_ | refine w_tup ?_ | refine w_lst ?_ | refine w_and ?_ | refine w_or ?_ | refine w_notV ?_ | refine w_ite ?_ | refine w_test ?_ | refine w_not ?_ | refine w_tand ?_ | refine w_tor ?_ | refine w_chain ?_ | refine w_call0 ?_ | refine w_call1 ?_ | refine w_lstM ?_ | refine w_strM ?_ | refine w_slice ?_ | refine w_oN ?_ | refine w_oS ?_ | refine w_seq ?_ | refine w_if ?_ | refine w_ret ?_ | refine w_drop ?_ | refine w_set ?_ | refine w_setO ?_ | refine w_asg ?_ | refine w_gIx ?_ | refine w_for ?_ | refine w_fn ?_ | refine w_cutL ?_ | refine w_enumS ?_ | refine w_fld1 ?_ | refine w_fldS ?_ | refine w_make ?_ | refine w_meth ?_ | refine w_raise ?_ | refine w_try ?_ | refine q_nx ?_ | refine q_rt ?_ | refine q_bk ?_ | refine q_ct ?_ | refine e_rt ?_ | refine e_nx ?_ | refine i_t ?_ | refine i_f ?_ | refine i_nt ?_ | refine i_nf ?_ | refine o_add ?_ | refine o_sub ?_ | refine o_lt ?_ | refine o_le ?_ | refine o_gt ?_ | refine o_ge ?_ | refine o_int ?_ | refine o_abs ?_ | refine o_lenL ?_ | refine o_lenT ?_ | refine o_inS ?_ | refine o_notInS ?_ | refine o_listL ?_ | refine o_listT ?_ | refine o_tupL ?_ | refine o_tupT ?_ | refine o_eqI ?_ | refine o_neI ?_ | refine o_isN ?_ | refine o_notN ?_ | refine o_rev ?_ | refine o_max ?_ | refine o_min ?_ | refine o_lenCh ?_ | refine o_notInCh ?_ | refine o_listCh ?_ | refine x_bl ?_ | refine x_int ?_ | refine x_str ?_ | refine x_sqL ?_ | refine x_sqT ?_ | refine x_sqS ?_ | refine x_isL ?_ | refine x_out ?_ | refine x_some ?_ | refine x_objL ?_ | refine x_objI ?_ | refine x_objD ?_ | refine x_cls ?_ | refine fl_nx ?_ | refine fl_ct ?_ | refine x_r1 (by with_unfolding_all omega) ?_ | refine x_r2 (by with_unfolding_all omega) ?_ | refine w_var (by with_unfolding_all exact rfl) ?_ | refine x_env (by with_unfolding_all exact rfl) ?_ | refine x_lst (by with_unfolding_all exact rfl) ?_ | refine x_slot (by with_unfolding_all exact of_decide_eq_true rfl) ?_ | refine x_nm (by with_unfolding_all exact of_decide_eq_true rfl) ?_ | refine o_ixL (by with_unfolding_all exact rfl) ?_ | refine o_ixT (by with_unfolding_all exact rfl) ?_ | refine o_isiB (b := true) (by with_unfolding_all exact rfl) ?_ | refine o_isiB (b := false) (by with_unfolding_all exact rfl) ?_ | refine o_lenS' (by first | with_unfolding_all omega | assumption) ?_ | refine x_tp (by with_unfolding_all exact rfl) ?_ | refine x_fld (by with_unfolding_all exact rfl) (by with_unfolding_all exact rfl) ?_ | refine x_meth (by with_unfolding_all exact rfl) ⟨(by with_unfolding_all exact rfl), (by with_unfolding_all exact rfl)⟩ ?_ | refine o_pow (by with_unfolding_all decide) ?_ | refine o_mulR (by with_unfolding_all decide) ?_ | refine o_mulL (by with_unfolding_all decide) ?_ | refine o_mulL (by with_unfolding_all omega) ?_ | refine o_mod (by first | assumption | with_unfolding_all decide) ?_ | refine o_div (by first | assumption | with_unfolding_all decide) (by first | assumption | with_unfolding_all decide) ?_ | refine ⟨(by with_unfolding_all rfl), ?_⟩ | refine ⟨_, (by with_unfolding_all rfl), ?_⟩ | refine ⟨_, _, _, (by with_unfolding_all rfl), (by with_unfolding_all rfl), (by with_unfolding_all rfl), ?_⟩))
    exact ⟨_, _, _, rfl, rfl, Int.emod_nonneg _ (by omega), Int.emod_lt_of_pos _ hm⟩
def letters26 : List Nat := [97, 98, 99, 100, 101, 102, 103, 104, 105, 106, 107, 108, 109, 110, 111, 112, 113, 114, 115, 116, 117, 118, 119, 120, 121, 122]
theorem letters_ok (p q : Int) (many : Nat) (h2 : many ≤ 26) : wf (F_law_letters [pool p q, .int many]) fun d outs => ∃ l p' q', d = .str (S l) ∧ outs = [pool p' q'] ∧ l.length = many ∧ l.Nodup ∧ ∀ c ∈ l, c ∈ letters26 := by
  unfold F_law_letters
  with_reducible refine w_fn ?_
  unfold m_law_letters
  and_intros
  refine o_listS (l := letters26) (by decide +kernel) (by decide +kernel) ?_
  and_intros
  refine w_loop (fun i ρ => ∃ p q rest l x, ρ = [some (pool p q), some (.int many), some (.lst (rest.map chD)), some (.str (S l)), x] ∧ l.length = i ∧ (l ++ rest).Perm letters26) ?_ ?_ ?_
  · exact ⟨p, q, letters26, [], none, rfl, rfl, .refl _⟩
  · rintro i d ρ hd ⟨p, q, rest, l, x, rfl, hl, hp⟩
    have hi : i < many := by
      have := (List.getElem?_eq_some_iff.1 hd).1
      simpa using this
    have hlen : rest.length + i = 26 := by
      have := hp.length_eq
      rw [List.length_append, hl] at this
      have e : letters26.length = 26 := rfl
      omega
    refine ⟨_, rfl, ?_⟩
    and_intros
    show wfx _ (F_law_draw [pool p q, .int ((rest.map chD).length : Nat)]) _
    refine f_use (draw_ok p q _ (by rw [List.length_map]; omega) (by rw [List.length_map]; omega)) ?_
    rintro d1 outs ⟨r, p', q', rfl, rfl, h0, hr⟩
    rw [List.length_map] at hr
    and_intros
    obtain ⟨dd, he, hpop⟩ := popAt_at (ds := rest.map chD) h0 (by rw [List.length_map]; exact hr) (by rw [List.length_map]; omega)
    rw [List.getElem?_map, Option.map_eq_some_iff] at he
    obtain ⟨c, hc, rfl⟩ := he
    refine ⟨_, hpop, ?_⟩
    rw [eraseIdx_map]
    show wo (addD (.str (S l)) (.str (S [c]))) _ _
    refine o_cat (by rw [S_len, S_len]; show l.length + 1 ≤ 2 ^ 24; omega) ?_
    rw [S_app]
    and_intros
    refine ⟨p', q', rest.eraseIdx r.toNat, l ++ [c], some d, rfl, by simp [hl], ?_⟩
    have h1 : (l ++ [c] ++ rest.eraseIdx r.toNat).Perm (l ++ rest) := by
      rw [List.append_assoc]
      exact ((erase_perm rest _ _ hc).symm).append_left l
    exact h1.trans hp
  · rintro ρ ⟨p, q, rest, l, x, rfl, hl, hp⟩
    and_intros
    have hn : (l ++ rest).Nodup := hp.nodup_iff.2 (by decide)
    refine ⟨l, p, q, rfl, rfl, by simpa using hl, (List.nodup_append.1 hn).1, fun c hc => hp.mem_iff.1 (List.mem_append_left _ hc)⟩
def signsA : List Nat := (List.range 5).map (· + 32) ++ (List.range 54).map (· + 38)
def signsB : List Nat := (List.range 35).map (· + 92)
def signs94 : List Nat := signsA ++ signsB
theorem signs_ok (p q : Int) (many : Nat) (h2 : many ≤ 94) : wf (F_law_signs [pool p q, .int many]) fun d outs => ∃ l p' q', d = .str (S l) ∧ outs = [pool p' q'] ∧ l.length = many ∧ l.Nodup ∧ ∀ c ∈ l, c ∈ signs94 := by
  unfold F_law_signs
  with_reducible refine w_fn ?_
  unfold m_law_signs
  and_intros
  refine o_listS (l := signsA) (by decide +kernel) (by decide +kernel) ?_
  and_intros
  refine o_listS (l := signsB) (by decide +kernel) (by decide +kernel) ?_
  and_intros
  show wo (catD (.lst (signsA.map chD)) (.lst (signsB.map chD))) _ _
  refine o_catL (by decide +kernel) ?_
  rw [← List.map_append]
  show _ ∧ _
  and_intros
  refine w_loop (fun i ρ => ∃ p q rest l x, ρ = [some (pool p q), some (.int many), some (.lst (rest.map chD)), some (.str (S l)), x] ∧ l.length = i ∧ (l ++ rest).Perm signs94) ?_ ?_ ?_
  · exact ⟨p, q, signs94, [], none, rfl, rfl, .refl _⟩
  · rintro i d ρ hd ⟨p, q, rest, l, x, rfl, hl, hp⟩
    have hi : i < many := by
      have := (List.getElem?_eq_some_iff.1 hd).1
      simpa using this
    have hlen : rest.length + i = 94 := by
      have := hp.length_eq
      rw [List.length_append, hl] at this
      have e : signs94.length = 94 := rfl
      omega
    refine ⟨_, rfl, ?_⟩
    and_intros
    show wfx _ (F_law_draw [pool p q, .int ((rest.map chD).length : Nat)]) _
    refine f_use (draw_ok p q _ (by rw [List.length_map]; omega) (by rw [List.length_map]; omega)) ?_
    rintro d1 outs ⟨r, p', q', rfl, rfl, h0, hr⟩
    rw [List.length_map] at hr
    and_intros
    obtain ⟨dd, he, hpop⟩ := popAt_at (ds := rest.map chD) h0 (by rw [List.length_map]; exact hr) (by rw [List.length_map]; omega)
    rw [List.getElem?_map, Option.map_eq_some_iff] at he
    obtain ⟨c, hc, rfl⟩ := he
    refine ⟨_, hpop, ?_⟩
    rw [eraseIdx_map]
    show wo (addD (.str (S l)) (.str (S [c]))) _ _
    refine o_cat (by rw [S_len, S_len]; show l.length + 1 ≤ 2 ^ 24; omega) ?_
    rw [S_app]
    and_intros
    refine ⟨p', q', rest.eraseIdx r.toNat, l ++ [c], some d, rfl, by simp [hl], ?_⟩
    have h1 : (l ++ [c] ++ rest.eraseIdx r.toNat).Perm (l ++ rest) := by
      rw [List.append_assoc]
      exact ((erase_perm rest _ _ hc).symm).append_left l
    exact h1.trans hp
  · rintro ρ ⟨p, q, rest, l, x, rfl, hl, hp⟩
    and_intros
    have hn : (l ++ rest).Nodup := hp.nodup_iff.2 (by decide)
    refine ⟨l, p, q, rfl, rfl, by simpa using hl, (List.nodup_append.1 hn).1, fun c hc => hp.mem_iff.1 (List.mem_append_left _ hc)⟩
theorem u_draw {EF : Ex → List D → Prop} {p q many : Int} {Q : D → List D → Prop} (h1 : 1 ≤ many) (h2 : many < 10 ^ 60) (w : ∀ r p' q', 0 ≤ r → r < many → Q (.int r) [pool p' q']) : wfx EF (F_law_draw ([.non, .int many].set 0 (pool p q))) Q := by
  show wfx EF (F_law_draw [pool p q, .int many]) Q
  refine f_use (draw_ok p q many h1 h2) ?_
  rintro d outs ⟨r, p', q', rfl, rfl, h0, hr⟩
  exact w r p' q' h0 hr
theorem string_ok (p q : Int) (sg : List Nat) (most : Int) (h1 : 1 ≤ sg.length) (h2 : sg.length ≤ 100) (hm : 0 ≤ most) (hm2 : most ≤ 100) : wf (F_law_string [pool p q, .str (S sg), .int most]) fun d outs => ∃ l p' q', d = .str (S l) ∧ outs = [pool p' q'] ∧ (l.length : Int) ≤ most ∧ ∀ c ∈ l, c ∈ sg := by
  unfold F_law_string
  with_reducible refine w_fn ?_
  unfold m_law_string
  and_intros
  refine u_draw (by omega) (by omega) ?_
  intro r p q hr0 hr1
  and_intros
  refine w_loop (fun i ρ => ∃ p q l x, ρ = [some (pool p q), some (.str (S sg)), some (.int most), some (.str (S l)), x] ∧ l.length = i ∧ ∀ c ∈ l, c ∈ sg) ?_ ?_ ?_
  · exact ⟨p, q, [], none, rfl, rfl, by simp⟩
  · rintro i d ρ hd ⟨p, q, l, x, rfl, hl, hp⟩
    have hi : i < 101 := by
      have := (List.getElem?_eq_some_iff.1 hd).1
      simp at this
      omega
    refine ⟨_, rfl, ?_⟩
    and_intros
    try refine o_lenS' (by omega) ?_
    and_intros
    refine u_draw (by omega) (by omega) ?_
    intro r p q hr0 hr1
    and_intros
    refine o_ixS (by omega) hr0 hr1 ?_
    intro c hc
    and_intros
    refine o_catS (by show l.length + 1 ≤ _; omega) ?_
    and_intros
    refine ⟨p, q, l ++ [c], some d, rfl, by simp [hl], ?_⟩
    intro z hz
    rcases List.mem_append.1 hz with hz | hz
    · exact hp z hz
    · cases List.mem_singleton.1 hz
      exact List.mem_of_getElem? hc
  · rintro ρ ⟨p, q, l, x, rfl, hl, hp⟩
    and_intros
    refine ⟨l, p, q, rfl, rfl, ?_, hp⟩
    rw [hl]
    simp
    omega
inductive Item where
  | reg (n : Nat)
  | txt (l : List Nat)
def itemD : Item → D
  | .reg n => .int n
  | .txt l => .str (S l)
def pieceD (ts : List Item) : D := .lst (ts.map itemD)
def okI (sg : List Nat) (many : Nat) : Item → Prop
  | .reg n => n < many
  | .txt l => l.length ≤ 4 ∧ ∀ c ∈ l, c ∈ sg
def okP (sg : List Nat) (many : Nat) (ts : List Item) : Prop := ts.length ≤ 3 ∧ ∀ i ∈ ts, okI sg many i
theorem u_string {EF : Ex → List D → Prop} {p q : Int} {sg : List Nat} {Q : D → List D → Prop} (h1 : 1 ≤ sg.length) (h2 : sg.length ≤ 100) (w : ∀ l p' q', l.length ≤ 4 → (∀ c ∈ l, c ∈ sg) → Q (.str (S l)) [pool p' q']) : wfx EF (F_law_string ([.non, .str (S sg), .int 4].set 0 (pool p q))) Q := by
  show wfx EF (F_law_string [pool p q, .str (S sg), .int 4]) Q
  refine f_use (string_ok p q sg 4 h1 h2 (by omega) (by omega)) ?_
  rintro d outs ⟨l, p', q', rfl, rfl, hl, hc⟩
  exact w l p' q' (by omega) hc
theorem piece_ok (p q : Int) (sg : List Nat) (many : Nat) (h1 : 1 ≤ sg.length) (h2 : sg.length ≤ 100) (hm : 1 ≤ many) (hm2 : many ≤ 100) : wf (F_law_piece [pool p q, .str (S sg), .int many]) fun d outs => ∃ ts p' q', d = pieceD ts ∧ outs = [pool p' q'] ∧ okP sg many ts := by
  unfold F_law_piece
  with_reducible refine w_fn ?_
  unfold m_law_piece
  and_intros
  refine u_draw (by omega) (by omega) ?_
  intro r p q hr0 hr1
  and_intros
  refine w_loop (fun i ρ => ∃ (p q : Int) (ts : List Item) (x : Option D), ρ = [some (pool p q), some (.str (S sg)), some (.int many), some (.lst (ts.map itemD)), x] ∧ ts.length = i ∧ ∀ i ∈ ts, okI sg many i) ?_ ?_ ?_
  · exact ⟨p, q, [], none, rfl, rfl, by simp⟩
  · rintro i d ρ hd ⟨p, q, ts, x, rfl, hl, hp⟩
    have hi : i < 4 := by
      have := (List.getElem?_eq_some_iff.1 hd).1
      simp at this
      omega
    refine ⟨_, rfl, ?_⟩
    and_intros
    refine u_draw (by omega) (by omega) ?_
    intro r p q hr0 hr1
    and_intros
    split
    · and_intros
      refine u_draw (by omega) (by omega) ?_
      intro r p q hr0 hr1
      obtain ⟨r, rfl⟩ : ∃ n : Nat, r = n := ⟨r.toNat, by omega⟩
      and_intros
      refine x_app (by rw [List.length_map]; omega) ?_
      and_intros
      refine ⟨p, q, ts ++ [.reg r], some d, ?_, by simp [hl], ?_⟩
      · rw [List.map_append]; rfl
      · intro z hz
        rcases List.mem_append.1 hz with hz | hz
        · exact hp z hz
        · cases List.mem_singleton.1 hz
          show r < many
          omega
    · and_intros
      refine u_string h1 h2 ?_
      intro l p q hll hlc
      and_intros
      refine x_app (by rw [List.length_map]; omega) ?_
      and_intros
      refine ⟨p, q, ts ++ [.txt l], some d, ?_, by simp [hl], ?_⟩
      · rw [List.map_append]; rfl
      · intro z hz
        rcases List.mem_append.1 hz with hz | hz
        · exact hp z hz
        · cases List.mem_singleton.1 hz
          exact ⟨hll, hlc⟩
  · rintro ρ ⟨p, q, ts, x, rfl, hl, hp⟩
    and_intros
    refine ⟨ts, p, q, rfl, rfl, ?_, hp⟩
    rw [hl]
    simp
    omega
end Wk29
set_option maxHeartbeats 4000000
namespace Wk29
open PySem L2 Ip
local macro_rules | `(tactic| and_intros) => `(tactic| repeat (first | (with_reducible first | refine w_c ?_ | refine w_nil ?_ | refine w_nx ?_ | refine w_yes ?_ | refine w_pair ?_ | refine w_pairO ?_ | refine w_pairR ?_ | refine w_m2 ?_ | refine w_un ?_ | refine w_cons ?_ | refine w_own ?_ | refine w_io ?_ | refine w_arg ?_ | refine w_argI ?_ | refine w_seqI ?_ | refine w_tup ?_ | refine w_lst ?_ | refine w_and ?_ | refine w_or ?_ | refine w_notV ?_ | refine w_ite ?_ | refine w_test ?_ | refine w_not ?_ | refine w_tand ?_ | refine w_tor ?_ | refine w_chain ?_ | refine w_call0 ?_ | refine w_call1 ?_ | refine w_lstM ?_ | refine w_strM ?_ | refine w_slice ?_ | refine w_oN ?_ | refine w_oS ?_ | refine w_seq ?_ | refine w_if ?_ | refine w_ret ?_ | refine w_drop ?_ | refine w_set ?_ | refine w_setO ?_ | refine w_asg ?_ | refine w_gIx ?_ | refine w_for ?_ | refine w_fn ?_ | refine w_cutL ?_ | refine w_enumS ?_ | refine w_fld1 ?_ | refine w_fldS ?_ | refine w_make ?_ | refine w_meth ?_ | refine w_raise ?_ | refine w_try ?_ | refine q_nx ?_ | refine q_rt ?_ | refine q_bk ?_ | refine q_ct ?_ | refine e_rt ?_ | refine e_nx ?_ | refine i_t ?_ | refine i_f ?_ | refine i_nt ?_ | refine i_nf ?_ | refine o_add ?_ | refine o_sub ?_ | refine o_lt ?_ | refine o_le ?_ | refine o_gt ?_ | refine o_ge ?_ | refine o_int ?_ | refine o_abs ?_ | refine o_lenL ?_ | refine o_lenT ?_ | refine o_inS ?_ | refine o_notInS ?_ | refine o_listL ?_ | refine o_listT ?_ | refine o_tupL ?_ | refine o_tupT ?_ | refine o_eqI ?_ | refine o_neI ?_ | refine o_isN ?_ | refine o_notN ?_ | refine o_rev ?_ | refine o_max ?_ | refine o_min ?_ | refine o_lenCh ?_ | refine o_notInCh ?_ | refine o_listCh ?_ | refine x_bl ?_ | refine x_int ?_ | refine x_str ?_ | refine x_sqL ?_ | refine x_sqT ?_ | refine x_sqS ?_ | refine x_isL ?_ | refine x_out ?_ | refine x_some ?_ | refine x_objL ?_ | refine x_objI ?_ | refine x_objD ?_ | refine x_cls ?_ | refine fl_nx ?_ | refine fl_ct ?_ | refine x_r1 (by with_unfolding_all omega) ?_ | refine x_r2 (by with_unfolding_all omega) ?_ | refine w_var (by with_unfolding_all exact rfl) ?_ | refine x_env (by with_unfolding_all exact rfl) ?_ | refine x_lst (by with_unfolding_all exact rfl) ?_ | refine x_slot (by with_unfolding_all exact of_decide_eq_true rfl) ?_ | refine x_nm (by with_unfolding_all exact of_decide_eq_true rfl) ?_ | refine o_ixL (by with_unfolding_all exact rfl) ?_ | refine o_ixT (by with_unfolding_all exact rfl) ?_ | refine o_isiB (b := true) (by with_unfolding_all exact rfl) ?_ | refine o_isiB (b := false) (by with_unfolding_all exact rfl) ?_ | refine o_lenS' (by first | with_unfolding_all omega | assumption) ?_ | refine x_tp (by with_unfolding_all exact rfl) ?_ | refine x_fld (by with_unfolding_all exact rfl) (by with_unfolding_all exact rfl) ?_ | refine x_meth (by with_unfolding_all exact rfl) ⟨(by with_unfolding_all exact rfl), (by with_unfolding_all exact rfl)⟩ ?_ | refine o_pow (by with_unfolding_all decide) ?_ | refine o_mulR (by with_unfolding_all decide) ?_ | refine o_mulL (by with_unfolding_all decide) ?_ | refine o_mulL (by with_unfolding_all omega) ?_ | refine o_mod (by first | assumption | with_unfolding_all decide) ?_ | refine o_div (by first | assumption | with_unfolding_all decide) (by first | assumption | with_unfolding_all decide) ?_)))
/-- what a letter leads to: the next room, the pieces -/
abbrev Val := Nat × List (List Item)
def valD (v : Val) : D := .tup [.int v.1, .lst (v.2.map pieceD)]
def stepD (ls : List Nat) (f : Nat → Val) : D := chDic ls fun c => valD (f c)
def stepsD (ls : List Nat) (fs : List (Nat → Val)) : D := .lst (fs.map (stepD ls))
def strD (l : List Nat) : D := .str (S l)
theorem stepD_congr {ls : List Nat} {f g : Nat → Val} (h : ∀ c ∈ ls, f c = g c) : stepD ls f = stepD ls g := chDic_congr fun c hc => by rw [h c hc]
theorem x_dk {i j : Nat} {ρ : Ip.Env} {ls : List Nat} {f : Nat → Val} {c : Nat} {v : Val} {Q : Ip.Env → Prop} (e : ρ.getD i none = some (stepD ls f)) (ek : ρ.getD j none = some (chD c)) (hc : c ∉ ls) (hl : ls.length < 2 ^ 24) (w : Q (ρ.set i (some (stepD (ls ++ [c]) fun x => if x = c then v else f x)))) : ∃ ρ2, gDk i (mVar j) (valD v) ρ = some ρ2 ∧ Q ρ2 := by
  refine x_dkCh (g := fun c => valD (f c)) e (ev_var ek) hc hl ?_
  have e2 : (chDic (ls ++ [c]) fun x => if x = c then valD v else valD (f x)) = stepD (ls ++ [c]) fun x => if x = c then v else f x := chDic_congr fun x _ => by by_cases h : x = c <;> simp [h]
  rw [e2]; exact w
theorem o_get {ρ : Ip.Env} {P : D → Ip.Env → Prop} {ls : List Nat} {f : Nat → Val} {c : Nat} (h : c ∈ ls) (w : P (valD (f c)) ρ) : wo (dgetD (stepD ls f) (chD c)) ρ P := o_getCh (g := fun c => valD (f c)) h w
theorem u_piece {EF : Ex → List D → Prop} {p q : Int} {sg : List Nat} {many : Nat} {Q : D → List D → Prop} (h1 : 1 ≤ sg.length) (h2 : sg.length ≤ 100) (hm : 1 ≤ many) (hm2 : many ≤ 100) (w : ∀ ts p' q', okP sg many ts → Q (pieceD ts) [pool p' q']) : wfx EF (F_law_piece ([.non, .str (S sg), .int many].set 0 (pool p q))) Q := by
  show wfx EF (F_law_piece [pool p q, .str (S sg), .int many]) Q
  refine f_use (piece_ok p q sg many h1 h2 hm hm2) ?_
  rintro d outs ⟨ts, p', q', rfl, rfl, hp⟩
  exact w ts p' q' hp
theorem u_letters {EF : Ex → List D → Prop} {p q r : Int} {Q : D → List D → Prop} (h0 : 0 ≤ r) (h2 : r < 4) (w : ∀ l p' q', 1 ≤ l.length → l.length ≤ 4 → l.Nodup → (∀ c ∈ l, c ∈ letters26) → Q (.str (S l)) [pool p' q']) : wfx EF (F_law_letters ([.non, .int (1 + r)].set 0 (pool p q))) Q := by
  obtain ⟨n, rfl⟩ : ∃ n : Nat, r = n := ⟨r.toNat, by omega⟩
  show wfx EF (F_law_letters [pool p q, .int ((1 + n : Nat) : Int)]) Q
  with_reducible refine f_use (letters_ok p q (1 + n) (by omega)) ?_
  rintro d outs ⟨l, p', q', rfl, rfl, hl, hn, hc⟩
  exact w l p' q' (by omega) (by omega) hn hc
theorem u_signs {EF : Ex → List D → Prop} {p q r : Int} {Q : D → List D → Prop} (h0 : 0 ≤ r) (h2 : r < 8) (w : ∀ l p' q', 1 ≤ l.length → l.length ≤ 8 → l.Nodup → (∀ c ∈ l, c ∈ signs94) → Q (.str (S l)) [pool p' q']) : wfx EF (F_law_signs ([.non, .int (1 + r)].set 0 (pool p q))) Q := by
  obtain ⟨n, rfl⟩ : ∃ n : Nat, r = n := ⟨r.toNat, by omega⟩
  show wfx EF (F_law_signs [pool p q, .int ((1 + n : Nat) : Int)]) Q
  with_reducible refine f_use (signs_ok p q (1 + n) (by omega)) ?_
  rintro d outs ⟨l, p', q', rfl, rfl, hl, hn, hc⟩
  exact w l p' q' (by omega) (by omega) hn hc
def okV (ls sg : List Nat) (many rooms : Nat) (v : Val) : Prop := v.1 < rooms ∧ v.2.length = many ∧ ∀ t ∈ v.2, okP sg many t
def okT (sg t : List Nat) : Prop := t.length ≤ 4 ∧ ∀ c ∈ t, c ∈ sg
theorem lc_string {E : Ex → Ip.Env → Prop} {p q : Int} {sg : List Nat} {many rooms : Nat} {x1 x5 x6 x7 x8 x9 x10 x11 x12 : Option D} {P : D → Ip.Env → Prop} (h1 : 1 ≤ sg.length) (h2 : sg.length ≤ 100) (hm : 1 ≤ many) (hm2 : many ≤ 100) (hr2 : rooms ≤ 100)
    (w : ∀ (l : List (List Nat)) (p' q' : Int), l.length = many → (∀ t ∈ l, okT sg t) → P (.lst (l.map strD)) [some (pool p' q'), x1, some (.str (S sg)), some (.int many), some (.int rooms), x5, x6, x7, x8, x9, x10, x11, x12]) :
    wpx E (mLc (mArgI asR1 (mCons (mVar 3) mNil)) (gNm 12) mYes (mCall1 F_law_string 0 0 (mIo (mCons (mVar 2) (mCons (mC (D.int 4)) mNil)))) [12] [some (pool p q), x1, some (.str (S sg)), some (.int many), some (.int rooms), x5, x6, x7, x8, x9, x10, x11, x12]) P := by
  with_reducible refine w_lc ?_
  and_intros
  refine ⟨by rw [List.length_map, List.length_range]; show _ < 2 ^ 24; omega, fun i ρ acc => ∃ (p q : Int) (l : List (List Nat)), ρ = [some (pool p q), x1, some (.str (S sg)), some (.int many), some (.int rooms), x5, x6, x7, x8, x9, x10, x11, none] ∧ acc = l.map strD ∧ l.length = i ∧ ∀ t ∈ l, okT sg t, ?_, ?_, ?_⟩
  · exact ⟨p, q, [], rfl, rfl, rfl, by simp⟩
  · rintro i d ρ acc hd ⟨p, q, l, rfl, rfl, hl, ht⟩
    refine ⟨by rw [List.length_map]; omega, _, rfl, ?_⟩
    and_intros
    refine u_string h1 h2 ?_
    intro t p q hll hlc
    have htt : okT sg t := ⟨hll, hlc⟩
    and_intros
    refine ⟨p, q, l ++ [t], rfl, by rw [List.map_append]; rfl, by simp [hl], ?_⟩
    intro z hz
    rcases List.mem_append.1 hz with hz | hz
    · exact ht z hz
    · cases List.mem_singleton.1 hz
      exact htt
  · rintro ρ acc ⟨p, q, l, rfl, rfl, hl, ht⟩
    exact w l p q (by rw [hl]; simp) ht
theorem lc_row {E : Ex → Ip.Env → Prop} {p q : Int} {sg : List Nat} {many rooms : Nat} {x1 x5 x6 x7 x8 x9 x10 x11 x12 : Option D} {P : D → Ip.Env → Prop} (h1 : 1 ≤ sg.length) (h2 : sg.length ≤ 100) (hm : 1 ≤ many) (hm2 : many ≤ 100) (hr2 : rooms ≤ 100)
    (w : ∀ (l : List (List Item)) (p' q' : Int), l.length = many → (∀ t ∈ l, okP sg many t) → P (.lst (l.map pieceD)) [some (pool p' q'), x1, some (.str (S sg)), some (.int many), some (.int rooms), x5, x6, x7, x8, x9, x10, x11, x12]) :
    wpx E (mLc (mArgI asR1 (mCons (mVar 3) mNil)) (gNm 12) mYes (mCall1 F_law_piece 0 0 (mIo (mCons (mVar 2) (mCons (mVar 3) mNil)))) [12] [some (pool p q), x1, some (.str (S sg)), some (.int many), some (.int rooms), x5, x6, x7, x8, x9, x10, x11, x12]) P := by
  with_reducible refine w_lc ?_
  and_intros
  refine ⟨by rw [List.length_map, List.length_range]; show _ < 2 ^ 24; omega, fun i ρ acc => ∃ (p q : Int) (l : List (List Item)), ρ = [some (pool p q), x1, some (.str (S sg)), some (.int many), some (.int rooms), x5, x6, x7, x8, x9, x10, x11, none] ∧ acc = l.map pieceD ∧ l.length = i ∧ ∀ t ∈ l, okP sg many t, ?_, ?_, ?_⟩
  · exact ⟨p, q, [], rfl, rfl, rfl, by simp⟩
  · rintro i d ρ acc hd ⟨p, q, l, rfl, rfl, hl, ht⟩
    refine ⟨by rw [List.length_map]; omega, _, rfl, ?_⟩
    and_intros
    refine u_piece h1 h2 hm hm2 ?_
    intro t p q htt
    and_intros
    refine ⟨p, q, l ++ [t], rfl, by rw [List.map_append]; rfl, by simp [hl], ?_⟩
    intro z hz
    rcases List.mem_append.1 hz with hz | hz
    · exact ht z hz
    · cases List.mem_singleton.1 hz
      exact htt
  · rintro ρ acc ⟨p, q, l, rfl, rfl, hl, ht⟩
    exact w l p q (by rw [hl]; simp) ht
theorem lc_told {E : Ex → Ip.Env → Prop} {p q : Int} {sg : List Nat} {many rooms : Nat} {x1 x5 x6 x7 x8 x9 x10 x11 x12 : Option D} {P : D → Ip.Env → Prop} (h1 : 1 ≤ sg.length) (h2 : sg.length ≤ 100) (hm : 1 ≤ many) (hm2 : many ≤ 100) (hr2 : rooms ≤ 100)
    (w : ∀ (l : List (List Item)) (p' q' : Int), l.length = rooms → (∀ t ∈ l, okP sg many t) → P (.lst (l.map pieceD)) [some (pool p' q'), x1, some (.str (S sg)), some (.int many), some (.int rooms), x5, x6, x7, x8, x9, x10, x11, x12]) :
    wpx E (mLc (mArgI asR1 (mCons (mVar 4) mNil)) (gNm 12) mYes (mCall1 F_law_piece 0 0 (mIo (mCons (mVar 2) (mCons (mVar 3) mNil)))) [12] [some (pool p q), x1, some (.str (S sg)), some (.int many), some (.int rooms), x5, x6, x7, x8, x9, x10, x11, x12]) P := by
  with_reducible refine w_lc ?_
  and_intros
  refine ⟨by rw [List.length_map, List.length_range]; show _ < 2 ^ 24; omega, fun i ρ acc => ∃ (p q : Int) (l : List (List Item)), ρ = [some (pool p q), x1, some (.str (S sg)), some (.int many), some (.int rooms), x5, x6, x7, x8, x9, x10, x11, none] ∧ acc = l.map pieceD ∧ l.length = i ∧ ∀ t ∈ l, okP sg many t, ?_, ?_, ?_⟩
  · exact ⟨p, q, [], rfl, rfl, rfl, by simp⟩
  · rintro i d ρ acc hd ⟨p, q, l, rfl, rfl, hl, ht⟩
    refine ⟨by rw [List.length_map]; omega, _, rfl, ?_⟩
    and_intros
    refine u_piece h1 h2 hm hm2 ?_
    intro t p q htt
    and_intros
    refine ⟨p, q, l ++ [t], rfl, by rw [List.map_append]; rfl, by simp [hl], ?_⟩
    intro z hz
    rcases List.mem_append.1 hz with hz | hz
    · exact ht z hz
    · cases List.mem_singleton.1 hz
      exact htt
  · rintro ρ acc ⟨p, q, l, rfl, rfl, hl, ht⟩
    exact w l p q (by rw [hl]; simp) ht
structure Texts where
  ls : List Nat
  sg : List Nat
  bg : List (List Nat)
  fs : List (Nat → Val)
  td : List (List Item)
structure Texts.Ok (T : Texts) : Prop where
  ls1 : 1 ≤ T.ls.length
  ls4 : T.ls.length ≤ 4
  lsn : T.ls.Nodup
  lsa : ∀ c ∈ T.ls, c ∈ letters26
  sg1 : 1 ≤ T.sg.length
  sg8 : T.sg.length ≤ 8
  sgn : T.sg.Nodup
  sga : ∀ c ∈ T.sg, c ∈ signs94
  bg1 : 1 ≤ T.bg.length
  bg3 : T.bg.length ≤ 3
  bgs : ∀ t ∈ T.bg, okT T.sg t
  fs1 : 1 ≤ T.fs.length
  fs3 : T.fs.length ≤ 3
  fss : ∀ f ∈ T.fs, ∀ c ∈ T.ls, okV T.ls T.sg T.bg.length T.fs.length (f c)
  td1 : T.td.length = T.fs.length
  tds : ∀ t ∈ T.td, okP T.sg T.bg.length t
def Texts.d (T : Texts) : D := .tup [.str (S T.ls), .str (S T.sg), .lst (T.bg.map strD), stepsD T.ls T.fs, .lst (T.td.map pieceD)]
theorem texts_ok (p q : Int) : wf (F_law_texts [pool p q]) fun d outs => ∃ (T : Texts) (p' q' : Int), d = T.d ∧ outs = [pool p' q'] ∧ T.Ok := by
  unfold F_law_texts
  with_reducible refine w_fn ?_
  unfold m_law_texts
  and_intros
  refine u_draw (by omega) (by omega) ?_
  intro r p q hr0 hr1
  and_intros
  refine u_letters hr0 hr1 ?_
  intro ls p q l1 l4 ln la
  and_intros
  refine u_draw (by omega) (by omega) ?_
  intro r p q hr0 hr1
  and_intros
  refine u_signs hr0 hr1 ?_
  intro sg p q s1 s8 sn sa
  and_intros
  refine u_draw (by omega) (by omega) ?_
  intro r p q hr0 hr1
  obtain ⟨m, rfl⟩ : ∃ n : Nat, r = n := ⟨r.toNat, by omega⟩
  and_intros
  refine u_draw (by omega) (by omega) ?_
  intro r p q hr0 hr1
  obtain ⟨n, rfl⟩ : ∃ n : Nat, r = n := ⟨r.toNat, by omega⟩
  and_intros
  rw [show (1 + (m : Int)) = ((m + 1 : Nat) : Int) by omega, show (1 + (n : Int)) = ((n + 1 : Nat) : Int) by omega]
  with_reducible refine wp_env (ρ' := [some (pool p q), some (.str (S ls)), some (.str (S sg)), some (.int (m + 1 : Nat)), some (.int (n + 1 : Nat)), none, none, none, none, none, none, none, none]) (by with_unfolding_all rfl) ?_
  with_reducible refine lc_string s1 (by omega) (by omega) (by omega) (by omega) ?_
  intro bg p q hb hbs
  and_intros
  refine w_loop (fun i ρ => ∃ (p q : Int) (fs : List (Nat → Val)) (x7 x8 x9 x10 : Option D), ρ = [some (pool p q), some (.str (S ls)), some (.str (S sg)), some (.int (m + 1 : Nat)), some (.int (n + 1 : Nat)), some (.lst (bg.map strD)), some (stepsD ls fs), x7, x8, x9, x10, none, none] ∧ fs.length = i ∧ ∀ f ∈ fs, ∀ c ∈ ls, okV ls sg (m + 1) (n + 1) (f c)) ?_ ?_ ?_
  · exact ⟨p, q, [], none, none, none, none, rfl, rfl, by simp⟩
  · rintro i d ρ hd ⟨p, q, fs, x7, x8, x9, x10, rfl, hl, hp⟩
    have hi : i < n + 1 := by
      have := (List.getElem?_eq_some_iff.1 hd).1
      simpa using this
    refine ⟨_, rfl, ?_⟩
    and_intros
    refine w_loop (fun j ρ => ∃ (p q : Int) (f : Nat → Val) (x9 x10 : Option D), ρ = [some (pool p q), some (.str (S ls)), some (.str (S sg)), some (.int (m + 1 : Nat)), some (.int (n + 1 : Nat)), some (.lst (bg.map strD)), some (stepsD ls fs), some d, some (stepD (ls.take j) f), x9, x10, none, none] ∧ ∀ c ∈ ls.take j, okV ls sg (m + 1) (n + 1) (f c)) ?_ ?_ ?_
    · exact ⟨p, q, fun _ => (0, []), x9, x10, rfl, by simp⟩
    · rintro j e ρ he ⟨p, q, f, x9, x10, rfl, hf⟩
      rw [List.getElem?_map, Option.map_eq_some_iff] at he
      obtain ⟨c, hc, rfl⟩ := he
      refine ⟨_, rfl, ?_⟩
      and_intros
      refine u_draw (by omega) (by omega) ?_
      intro r p q hr0 hr1
      obtain ⟨r, rfl⟩ : ∃ n : Nat, r = n := ⟨r.toNat, by omega⟩
      and_intros
      with_reducible refine wp_env (ρ' := [some (pool p q), some (.str (S ls)), some (.str (S sg)), some (.int (m + 1 : Nat)), some (.int (n + 1 : Nat)), some (.lst (bg.map strD)), some (stepsD ls fs), some d, some (stepD (ls.take j) f), some (chD c), some (.int r), none, none]) (by with_unfolding_all rfl) ?_
      with_reducible refine lc_row s1 (by omega) (by omega) (by omega) (by omega) ?_
      intro row p q hb hbs
      and_intros
      have hj : j < ls.length := (List.getElem?_eq_some_iff.1 hc).1
      have hcj : ls.take (j + 1) = ls.take j ++ [c] := by
        rw [List.take_succ, hc]; rfl
      have hnc : c ∉ ls.take j := by
        have h1 : (ls.take j ++ [c]).Nodup := hcj ▸ ln.sublist (List.take_sublist (j + 1) ls)
        intro h2
        exact (List.nodup_append.1 h1).2.2 c h2 c (by simp) rfl
      refine x_dk (v := (r, row)) (ls := ls.take j) (f := f) (c := c) rfl rfl hnc (by rw [List.length_take]; omega) ?_
      and_intros
      refine ⟨p, q, fun x => if x = c then (r, row) else f x, some (chD c), some (.int r), ?_, ?_⟩
      · rw [hcj]; rfl
      · rw [hcj]
        intro z hz
        dsimp only
        rcases List.mem_append.1 hz with hz | hz
        · have hn : z ≠ c := fun e => hnc (e ▸ hz)
          rw [if_neg hn]
          exact hf z hz
        · rw [if_pos (List.mem_singleton.1 hz)]
          exact ⟨by show r < n + 1; omega, hb, hbs⟩
    · rintro ρ ⟨p, q, f, x9, x10, rfl, hf⟩
      rw [List.length_map, List.take_length] at *
      and_intros
      refine x_app (by rw [List.length_map]; omega) ?_
      and_intros
      refine ⟨p, q, fs ++ [f], some d, some (stepD ls f), x9, x10, ?_, by simp [hl], ?_⟩
      · show _ = [_, _, _, _, _, _, some (D.lst ((fs ++ [f]).map (stepD ls))), _, _, _, _, _, _]
        rw [List.map_append]; rfl
      · intro g hg
        rcases List.mem_append.1 hg with hg | hg
        · exact hp g hg
        · cases List.mem_singleton.1 hg
          exact hf
  · intro ρ hI
    with_reducible obtain ⟨p, q, fs, x7, x8, x9, x10, hρ, hl, hp⟩ := hI
    have hl' : fs.length = n + 1 := by
      have := hl
      rw [List.length_map, List.length_range] at this
      exact this
    clear hl
    subst hρ
    and_intros
    with_reducible refine wp_env (ρ' := [some (pool p q), some (.str (S ls)), some (.str (S sg)), some (.int (m + 1 : Nat)), some (.int (n + 1 : Nat)), some (.lst (bg.map strD)), some (stepsD ls fs), x7, x8, x9, x10, none, none]) (by with_unfolding_all rfl) ?_
    with_reducible refine lc_told s1 (by omega) (by omega) (by omega) (by omega) ?_
    intro td p q ht hts
    and_intros
    refine ⟨⟨ls, sg, bg, fs, td⟩, p, q, ?_, ?_, ?_⟩
    · unfold Texts.d; with_reducible rfl
    · with_unfolding_all exact rfl
    exact ⟨l1, l4, ln, la, s1, s8, sn, sa, by show 1 ≤ bg.length; omega, by show bg.length ≤ 3; omega, hbs, by show 1 ≤ fs.length; omega, by show fs.length ≤ 3; omega, by
      show ∀ f ∈ fs, ∀ c ∈ ls, okV ls sg bg.length fs.length (f c)
      rw [hb, hl']; exact hp, by show td.length = fs.length; omega, by
      show ∀ t ∈ td, okP sg bg.length t
      rw [hb]; exact hts⟩
end Wk29
set_option maxHeartbeats 4000000
namespace Wk29
open PySem L2 Ip
local macro_rules | `(tactic| and_intros) => `(tactic| repeat (first | (with_reducible first | refine w_c ?_ | refine w_nil ?_ | refine w_nx ?_ | refine w_yes ?_ | refine w_pair ?_ | refine w_pairO ?_ | refine w_pairR ?_ | refine w_m2 ?_ | refine w_un ?_ | refine w_cons ?_ | refine w_own ?_ | refine w_io ?_ | refine w_arg ?_ | refine w_argI ?_ | refine w_seqI ?_ | refine w_tup ?_ | refine w_lst ?_ | refine w_and ?_ | refine w_or ?_ | refine w_notV ?_ | refine w_ite ?_ | refine w_test ?_ | refine w_not ?_ | refine w_tand ?_ | refine w_tor ?_ | refine w_chain ?_ | refine w_call0 ?_ | refine w_call1 ?_ | refine w_lstM ?_ | refine w_strM ?_ | refine w_slice ?_ | refine w_oN ?_ | refine w_oS ?_ | refine w_seq ?_ | refine w_if ?_ | refine w_ret ?_ | refine w_drop ?_ | refine w_set ?_ | refine w_setO ?_ | refine w_asg ?_ | refine w_gIx ?_ | refine w_for ?_ | refine w_fn ?_ | refine w_cutL ?_ | refine w_enumS ?_ | refine w_fld1 ?_ | refine w_fldS ?_ | refine w_make ?_ | refine w_meth ?_ | refine w_raise ?_ | refine w_try ?_ | refine q_nx ?_ | refine q_rt ?_ | refine q_bk ?_ | refine q_ct ?_ | refine e_rt ?_ | refine e_nx ?_ | refine i_t ?_ | refine i_f ?_ | refine i_nt ?_ | refine i_nf ?_ | refine o_add ?_ | refine o_sub ?_ | refine o_lt ?_ | refine o_le ?_ | refine o_gt ?_ | refine o_ge ?_ | refine o_int ?_ | refine o_abs ?_ | refine o_lenL ?_ | refine o_lenT ?_ | refine o_inS ?_ | refine o_notInS ?_ | refine o_listL ?_ | refine o_listT ?_ | refine o_tupL ?_ | refine o_tupT ?_ | refine o_eqI ?_ | refine o_neI ?_ | refine o_isN ?_ | refine o_notN ?_ | refine o_rev ?_ | refine o_max ?_ | refine o_min ?_ | refine o_lenCh ?_ | refine o_notInCh ?_ | refine o_listCh ?_ | refine x_bl ?_ | refine x_int ?_ | refine x_str ?_ | refine x_sqL ?_ | refine x_sqT ?_ | refine x_sqS ?_ | refine x_isL ?_ | refine x_out ?_ | refine x_some ?_ | refine x_objL ?_ | refine x_objI ?_ | refine x_objD ?_ | refine x_cls ?_ | refine fl_nx ?_ | refine fl_ct ?_ | refine x_r1 (by with_unfolding_all omega) ?_ | refine x_r2 (by with_unfolding_all omega) ?_ | refine w_var (by with_unfolding_all exact rfl) ?_ | refine x_env (by with_unfolding_all exact rfl) ?_ | refine x_lst (by with_unfolding_all exact rfl) ?_ | refine x_slot (by with_unfolding_all exact of_decide_eq_true rfl) ?_ | refine x_nm (by with_unfolding_all exact of_decide_eq_true rfl) ?_ | refine o_ixL (by with_unfolding_all exact rfl) ?_ | refine o_ixT (by with_unfolding_all exact rfl) ?_ | refine o_isiB (b := true) (by with_unfolding_all exact rfl) ?_ | refine o_isiB (b := false) (by with_unfolding_all exact rfl) ?_ | refine o_lenS' (by first | with_unfolding_all omega | assumption) ?_ | refine x_tp (by with_unfolding_all exact rfl) ?_ | refine x_fld (by with_unfolding_all exact rfl) (by with_unfolding_all exact rfl) ?_ | refine x_meth (by with_unfolding_all exact rfl) ⟨(by with_unfolding_all exact rfl), (by with_unfolding_all exact rfl)⟩ ?_ | refine o_pow (by with_unfolding_all decide) ?_ | refine o_mulR (by with_unfolding_all decide) ?_ | refine o_mulL (by with_unfolding_all decide) ?_ | refine o_mulL (by with_unfolding_all omega) ?_ | refine o_mod (by first | assumption | with_unfolding_all decide) ?_ | refine o_div (by first | assumption | with_unfolding_all decide) (by first | assumption | with_unfolding_all decide) ?_)))
theorem row_ok (p q : Int) (sg : List Nat) (least most : Int) (h1 : 1 ≤ sg.length) (h2 : sg.length ≤ 100) (h0 : 0 ≤ least) (hm : least ≤ most) (hm2 : most ≤ 100) : wf (F_law_row [pool p q, .str (S sg), .int least, .int most]) fun d outs => ∃ l p' q', d = .str (S l) ∧ outs = [pool p' q'] ∧ (l.length : Int) ≤ most ∧ ∀ c ∈ l, c ∈ sg := by
  unfold F_law_row
  with_reducible refine w_fn ?_
  unfold m_law_row
  and_intros
  refine u_draw (by omega) (by omega) ?_
  intro r p q hr0 hr1
  and_intros
  refine w_loop (fun i ρ => ∃ p q l x, ρ = [some (pool p q), some (.str (S sg)), some (.int least), some (.int most), some (.str (S l)), x] ∧ l.length = i ∧ ∀ c ∈ l, c ∈ sg) ?_ ?_ ?_
  · exact ⟨p, q, [], none, rfl, rfl, by simp⟩
  · rintro i d ρ hd ⟨p, q, l, x, rfl, hl, hp⟩
    have hi : i < 101 := by
      have := (List.getElem?_eq_some_iff.1 hd).1
      simp at this
      omega
    refine ⟨_, rfl, ?_⟩
    and_intros
    try refine o_lenS' (by omega) ?_
    and_intros
    refine u_draw (by omega) (by omega) ?_
    intro r p q hr0 hr1
    and_intros
    refine o_ixS (by omega) hr0 hr1 ?_
    intro c hc
    and_intros
    refine o_catS (by show l.length + 1 ≤ _; omega) ?_
    and_intros
    refine ⟨p, q, l ++ [c], some d, rfl, by simp [hl], ?_⟩
    intro z hz
    rcases List.mem_append.1 hz with hz | hz
    · exact hp z hz
    · cases List.mem_singleton.1 hz
      exact List.mem_of_getElem? hc
  · rintro ρ ⟨p, q, l, x, rfl, hl, hp⟩
    and_intros
    refine ⟨l, p, q, rfl, rfl, ?_, hp⟩
    rw [hl]
    simp
    omega
theorem u_row {EF : Ex → List D → Prop} {p q : Int} {sg : List Nat} {least most : Int} {Q : D → List D → Prop} (h1 : 1 ≤ sg.length) (h2 : sg.length ≤ 100) (h0 : 0 ≤ least) (hm : least ≤ most) (hm2 : most ≤ 100) (w : ∀ l p' q', (l.length : Int) ≤ most → (∀ c ∈ l, c ∈ sg) → Q (.str (S l)) [pool p' q']) : wfx EF (F_law_row ([.non, .str (S sg), .int least, .int most].set 0 (pool p q))) Q := by
  show wfx EF (F_law_row [pool p q, .str (S sg), .int least, .int most]) Q
  refine f_use (row_ok p q sg least most h1 h2 h0 hm hm2) ?_
  rintro d outs ⟨l, p', q', rfl, rfl, hl, hc⟩
  exact w l p' q' hl hc
theorem pool_ok (ns : List Int) (k : Nat) : wf (F_law_pool [.lst (ns.map D.int), .int k]) fun d outs => ∃ p q, d = pool p q := by
  unfold F_law_pool
  with_reducible refine w_fn ?_
  unfold m_law_pool
  and_intros
  split
  · rename_i h
    and_intros
    rw [List.length_map] at h
    have h' : k < ns.length := by simpa using h
    obtain ⟨z, h1, h2⟩ := at_in (l := ns.map D.int) (r := k) (by omega) (by rw [List.length_map]; omega)
    rw [List.getElem?_map, Option.map_eq_some_iff] at h2
    obtain ⟨y, hy, rfl⟩ := h2
    refine o_ixL h1 ?_
    and_intros
    exact ⟨_, _, rfl⟩
  · and_intros
    rw [← List.map_take]
    refine o_sumI ?_
    and_intros
    exact ⟨_, _, rfl⟩
/-- the copy of a row of pieces -/
theorem pieces_ok (ts : List (List Item)) (h : ts.length ≤ 1000) : wf (F_law_pieces [.lst (ts.map pieceD)]) fun d outs => d = .lst (ts.map pieceD) := by
  unfold F_law_pieces
  with_reducible refine w_fn ?_
  unfold m_law_pieces
  and_intros
  with_reducible refine w_lc ?_
  and_intros
  refine ⟨by rw [List.length_map]; show _ < 2 ^ 24; omega, fun i ρ acc => ρ = [some (.lst (ts.map pieceD)), none] ∧ acc = (ts.take i).map pieceD, ?_, ?_, ?_⟩
  · exact ⟨rfl, rfl⟩
  · rintro i d ρ acc hd ⟨rfl, rfl⟩
    rw [List.getElem?_map, Option.map_eq_some_iff] at hd
    obtain ⟨t, ht, rfl⟩ := hd
    refine ⟨by rw [List.length_map, List.length_take]; omega, _, rfl, ?_⟩
    and_intros
    show wo (oList [.lst (t.map itemD)]) _ _
    try refine o_listL ?_
    refine ⟨rfl, ?_⟩
    rw [List.take_succ, ht, List.map_append]
    rfl
  · rintro ρ acc ⟨rfl, rfl⟩
    and_intros
    rw [List.length_map, List.take_length]
/-- the class's own copy -/
theorem copied_pieces_ok (ts : List (List Item)) (h : ts.length ≤ 1000) : wf (F_copied_pieces [.lst (ts.map pieceD)]) fun d outs => d = .lst (ts.map pieceD) := by
  unfold F_copied_pieces
  with_reducible refine w_fn ?_
  unfold m_copied_pieces
  and_intros
  with_reducible refine w_lc ?_
  and_intros
  refine ⟨by rw [List.length_map]; show _ < 2 ^ 24; omega, fun i ρ acc => ρ = [some (.lst (ts.map pieceD)), none] ∧ acc = (ts.take i).map pieceD, ?_, ?_, ?_⟩
  · exact ⟨rfl, rfl⟩
  · rintro i d ρ acc hd ⟨rfl, rfl⟩
    rw [List.getElem?_map, Option.map_eq_some_iff] at hd
    obtain ⟨t, ht, rfl⟩ := hd
    refine ⟨by rw [List.length_map, List.length_take]; omega, _, rfl, ?_⟩
    and_intros
    show wo (oList [.lst (t.map itemD)]) _ _
    try refine o_listL ?_
    refine ⟨rfl, ?_⟩
    rw [List.take_succ, ht, List.map_append]
    rfl
  · rintro ρ acc ⟨rfl, rfl⟩
    and_intros
    rw [List.length_map, List.take_length]
def itemT (regs : List (List Nat)) : Item → List Nat
  | .reg n => regs.getD n []
  | .txt l => l
def joinT (regs : List (List Nat)) (ts : List Item) : List Nat := (ts.map (itemT regs)).flatten
theorem joinT_snoc (regs : List (List Nat)) (ts : List Item) (t : Item) : joinT regs (ts ++ [t]) = joinT regs ts ++ itemT regs t := by
  unfold joinT; rw [List.map_append, List.flatten_append]; simp
theorem itemT_len {regs : List (List Nat)} {B : Nat} (hB : ∀ r ∈ regs, r.length ≤ B) (h4 : 4 ≤ B) {sg : List Nat} : ∀ {t : Item}, okI sg regs.length t → (itemT regs t).length ≤ B
  | .reg n, h => by
    have h' : n < regs.length := h
    show (regs.getD n []).length ≤ B
    rw [List.getD_eq_getElem?_getD, List.getElem?_eq_getElem h']
    exact hB _ (List.getElem_mem h')
  | .txt l, h => Nat.le_trans h.1 h4
theorem joinT_len {regs : List (List Nat)} {B : Nat} (hB : ∀ r ∈ regs, r.length ≤ B) (h4 : 4 ≤ B) {sg : List Nat} : ∀ {ts : List Item}, (∀ t ∈ ts, okI sg regs.length t) → (joinT regs ts).length ≤ ts.length * B
  | [], _ => by simp [joinT]
  | t :: ts, h => by
    have h1 := itemT_len hB h4 (h t (by simp))
    have h2 := joinT_len hB h4 (ts := ts) fun z hz => h z (by simp [hz])
    have e : joinT regs (t :: ts) = itemT regs t ++ joinT regs ts := by unfold joinT; rw [List.map_cons, List.flatten_cons]
    rw [e, List.length_append, List.length_cons, Nat.succ_mul]
    omega
end Wk29
set_option maxHeartbeats 4000000
namespace Wk29
open PySem L2 Ip
local macro_rules | `(tactic| and_intros) => `(tactic| repeat (first | (with_reducible first | refine w_c ?_ | refine w_nil ?_ | refine w_nx ?_ | refine w_yes ?_ | refine w_pair ?_ | refine w_pairO ?_ | refine w_pairR ?_ | refine w_m2 ?_ | refine w_un ?_ | refine w_cons ?_ | refine w_own ?_ | refine w_io ?_ | refine w_arg ?_ | refine w_argI ?_ | refine w_seqI ?_ | refine w_tup ?_ | refine w_lst ?_ | refine w_and ?_ | refine w_or ?_ | refine w_notV ?_ | refine w_ite ?_ | refine w_test ?_ | refine w_not ?_ | refine w_tand ?_ | refine w_tor ?_ | refine w_chain ?_ | refine w_call0 ?_ | refine w_call1 ?_ | refine w_lstM ?_ | refine w_strM ?_ | refine w_slice ?_ | refine w_oN ?_ | refine w_oS ?_ | refine w_seq ?_ | refine w_if ?_ | refine w_ret ?_ | refine w_drop ?_ | refine w_set ?_ | refine w_setO ?_ | refine w_asg ?_ | refine w_gIx ?_ | refine w_for ?_ | refine w_fn ?_ | refine w_cutL ?_ | refine w_enumS ?_ | refine w_fld1 ?_ | refine w_fldS ?_ | refine w_make ?_ | refine w_meth ?_ | refine w_raise ?_ | refine w_try ?_ | refine q_nx ?_ | refine q_rt ?_ | refine q_bk ?_ | refine q_ct ?_ | refine e_rt ?_ | refine e_nx ?_ | refine i_t ?_ | refine i_f ?_ | refine i_nt ?_ | refine i_nf ?_ | refine o_add ?_ | refine o_sub ?_ | refine o_lt ?_ | refine o_le ?_ | refine o_gt ?_ | refine o_ge ?_ | refine o_int ?_ | refine o_abs ?_ | refine o_lenL ?_ | refine o_lenT ?_ | refine o_inS ?_ | refine o_notInS ?_ | refine o_listL ?_ | refine o_listT ?_ | refine o_tupL ?_ | refine o_tupT ?_ | refine o_eqI ?_ | refine o_neI ?_ | refine o_isN ?_ | refine o_notN ?_ | refine o_rev ?_ | refine o_max ?_ | refine o_min ?_ | refine o_lenCh ?_ | refine o_notInCh ?_ | refine o_listCh ?_ | refine x_bl ?_ | refine x_int ?_ | refine x_str ?_ | refine x_sqL ?_ | refine x_sqT ?_ | refine x_sqS ?_ | refine x_isL ?_ | refine x_out ?_ | refine x_some ?_ | refine x_objL ?_ | refine x_objI ?_ | refine x_objD ?_ | refine x_cls ?_ | refine fl_nx ?_ | refine fl_ct ?_ | refine x_r1 (by with_unfolding_all omega) ?_ | refine x_r2 (by with_unfolding_all omega) ?_ | refine w_var (by with_unfolding_all exact rfl) ?_ | refine x_env (by with_unfolding_all exact rfl) ?_ | refine x_lst (by with_unfolding_all exact rfl) ?_ | refine x_slot (by with_unfolding_all exact of_decide_eq_true rfl) ?_ | refine x_nm (by with_unfolding_all exact of_decide_eq_true rfl) ?_ | refine o_ixL (by with_unfolding_all exact rfl) ?_ | refine o_ixT (by with_unfolding_all exact rfl) ?_ | refine o_isiB (b := true) (by with_unfolding_all exact rfl) ?_ | refine o_isiB (b := false) (by with_unfolding_all exact rfl) ?_ | refine o_lenS' (by first | with_unfolding_all omega | assumption) ?_ | refine x_tp (by with_unfolding_all exact rfl) ?_ | refine x_fld (by with_unfolding_all exact rfl) (by with_unfolding_all exact rfl) ?_ | refine x_meth (by with_unfolding_all exact rfl) ⟨(by with_unfolding_all exact rfl), (by with_unfolding_all exact rfl)⟩ ?_ | refine o_pow (by with_unfolding_all decide) ?_ | refine o_mulR (by with_unfolding_all decide) ?_ | refine o_mulL (by with_unfolding_all decide) ?_ | refine o_mulL (by with_unfolding_all omega) ?_ | refine o_mod (by first | assumption | with_unfolding_all decide) ?_ | refine o_div (by first | assumption | with_unfolding_all decide) (by first | assumption | with_unfolding_all decide) ?_)))
/-! ## the checks of good parts -/
theorem is_of_signs_ok {t sg : List Nat} (h : ∀ c ∈ t, c ∈ sg) : wf (F_is_of_signs [.str (S t), .str (S sg)]) fun d outs => d = .bl true ∧ outs = [] := by
  unfold F_is_of_signs
  with_reducible refine w_fn ?_
  unfold m_is_of_signs
  and_intros
  refine w_all (fun x => [some (.str (S t)), some (.str (S sg)), x]) none rfl ?_ ?_
  · intro d x hd
    obtain ⟨c, hc, rfl⟩ := List.mem_map.1 hd
    refine ⟨_, rfl, ?_⟩
    and_intros
    rw [decide_eq_true (h c hc)]
    and_intros
    exact ⟨_, rfl⟩
  · intro x
    and_intros
    exact ⟨rfl, rfl⟩
theorem is_short_ok {t sg : List Nat} (h : okT sg t) : wf (F_is_short [.str (S t), .str (S sg)]) fun d outs => d = .bl true ∧ outs = [] := by
  unfold F_is_short
  with_reducible refine w_fn ?_
  unfold m_is_short
  and_intros
  refine f_eq (is_of_signs_ok h.2) ?_
  and_intros
  try refine o_lenS' (by have := h.1; omega) ?_
  and_intros
  rw [decide_eq_true (by have := h.1; omega)]
  exact ⟨rfl, rfl⟩
theorem are_letters_ok {l : List Nat} (h1 : 1 ≤ l.length) (h2 : l.length ≤ 4) (hn : l.Nodup) (ha : ∀ c ∈ l, c ∈ letters26) : wf (F_are_letters [.str (S l)]) fun d outs => d = .bl true ∧ outs = [] := by
  unfold F_are_letters
  with_reducible refine w_fn ?_
  unfold m_are_letters
  and_intros
  refine x_leI ?_
  rw [decide_eq_true (by omega)]
  and_intros
  rw [decide_eq_true (by omega)]
  and_intros
  rw [S_list]
  refine w_loop (fun i ρ => ∃ x y, ρ = [some (.str (S l)), x, y]) ⟨none, none, rfl⟩ ?_ ?_
  · rintro i d ρ hd ⟨x, y, rfl⟩
    obtain ⟨c, hc, rfl⟩ := enum_at hd
    have hb : 97 ≤ c ∧ c ≤ 122 := by
      have : ∀ c ∈ letters26, 97 ≤ c ∧ c ≤ 122 := by decide
      exact this c (ha c (List.mem_of_getElem? hc))
    have hi := (List.getElem?_eq_some_iff.1 hc).1
    refine ⟨_, rfl, ?_⟩
    and_intros
    refine x_leCh (a := 97) (by decide +kernel) ?_
    rw [decide_eq_true hb.1]
    and_intros
    refine o_leCh (a := 122) (by decide +kernel) ?_
    rw [decide_eq_true hb.2]
    and_intros
    rw [cut_to (by omega)]
    refine ⟨by rw [S_len]; show _ ≤ 2 ^ 24; omega, ?_⟩
    and_intros
    rw [decide_eq_false (nodup_take hn hc)]
    and_intros
    exact ⟨_, _, rfl⟩
  · rintro ρ ⟨x, y, rfl⟩
    and_intros
    exact ⟨rfl, rfl⟩
theorem are_signs_ok {l : List Nat} (h1 : 1 ≤ l.length) (h2 : l.length ≤ 8) (hn : l.Nodup) (ha : ∀ c ∈ l, c ∈ signs94) : wf (F_are_signs [.str (S l)]) fun d outs => d = .bl true ∧ outs = [] := by
  unfold F_are_signs
  with_reducible refine w_fn ?_
  unfold m_are_signs
  and_intros
  refine x_leI ?_
  rw [decide_eq_true (by omega)]
  and_intros
  rw [decide_eq_true (by omega)]
  and_intros
  rw [S_list]
  refine w_loop (fun i ρ => ∃ x y, ρ = [some (.str (S l)), x, y]) ⟨none, none, rfl⟩ ?_ ?_
  · rintro i d ρ hd ⟨x, y, rfl⟩
    obtain ⟨c, hc, rfl⟩ := enum_at hd
    have hb : 32 ≤ c ∧ c ≤ 126 := by
      have : ∀ c ∈ signs94, 32 ≤ c ∧ c ≤ 126 := by decide
      exact this c (ha c (List.mem_of_getElem? hc))
    have hi := (List.getElem?_eq_some_iff.1 hc).1
    refine ⟨_, rfl, ?_⟩
    and_intros
    refine x_leCh (a := 32) (by decide +kernel) ?_
    rw [decide_eq_true hb.1]
    and_intros
    refine o_leCh (a := 126) (by decide +kernel) ?_
    rw [decide_eq_true hb.2]
    and_intros
    rw [cut_to (by omega)]
    refine ⟨by rw [S_len]; show _ ≤ 2 ^ 24; omega, ?_⟩
    and_intros
    rw [decide_eq_false (nodup_take hn hc)]
    and_intros
    exact ⟨_, _, rfl⟩
  · rintro ρ ⟨x, y, rfl⟩
    and_intros
    exact ⟨rfl, rfl⟩
theorem is_text_begin_ok {bg : List (List Nat)} {sg : List Nat} (h1 : 1 ≤ bg.length) (h3 : bg.length ≤ 3) (h : ∀ t ∈ bg, okT sg t) : wf (F_is_text_begin [.lst (bg.map strD), .str (S sg)]) fun d outs => d = .bl true ∧ outs = [] := by
  unfold F_is_text_begin
  with_reducible refine w_fn ?_
  unfold m_is_text_begin
  and_intros
  rw [List.length_map]
  refine x_leI ?_
  rw [decide_eq_true (by omega)]
  and_intros
  rw [decide_eq_true (by omega)]
  and_intros
  refine w_all (fun x => [some (.lst (bg.map strD)), some (.str (S sg)), x]) none rfl ?_ ?_
  · intro d x hd
    obtain ⟨t, ht, rfl⟩ := List.mem_map.1 hd
    refine ⟨_, rfl, ?_⟩
    and_intros
    refine f_eq (is_short_ok (h t ht)) ?_
    and_intros
    exact ⟨_, rfl⟩
  · intro x
    and_intros
    exact ⟨rfl, rfl⟩
theorem is_integer_ok {n : Int} : wf (F_is_integer [.int n]) fun d outs => d = .bl true ∧ outs = [] := by
  unfold F_is_integer
  with_reducible refine w_fn ?_
  unfold m_is_integer
  and_intros
  exact ⟨rfl, rfl⟩
theorem is_integer_str {s : Str} : wf (F_is_integer [.str s]) fun d outs => d = .bl false ∧ outs = [] := by
  unfold F_is_integer
  with_reducible refine w_fn ?_
  unfold m_is_integer
  and_intros
  exact ⟨rfl, rfl⟩
/-- a room: what each letter leads to; its value by any items -/
abbrev GVal := Nat × List D
abbrev gvalD (v : GVal) : D := .tup [.int v.1, .lst v.2]
theorem has_letters_ok {ls ls' : List Nat} {g : Nat → D} (hl : ls'.length = ls.length) (h4 : ls.length ≤ 100) (hp : ∀ c ∈ ls, c ∈ ls') : wf (F_has_letters [chDic ls' g, .str (S ls)]) fun d outs => d = .bl true ∧ outs = [] := by
  unfold F_has_letters
  with_reducible refine w_fn ?_
  unfold m_has_letters
  and_intros
  try refine o_lenS' (by omega) ?_
  and_intros
  rw [hl, decide_eq_true rfl]
  and_intros
  refine w_all (fun x => [some (chDic ls' g), some (.str (S ls)), x]) none rfl ?_ ?_
  · intro d x hd
    obtain ⟨c, hc, rfl⟩ := List.mem_map.1 hd
    refine ⟨_, rfl, ?_⟩
    and_intros
    rw [decide_eq_true (hp c hc)]
    and_intros
    exact ⟨_, rfl⟩
  · intro x
    and_intros
    exact ⟨rfl, rfl⟩
theorem is_step_ok {v : GVal} {rooms many : Nat} (h1 : v.1 < rooms) (h2 : v.2.length = many) : wf (F_is_step [gvalD v, .int rooms, .int many]) fun d outs => d = .bl true ∧ outs = [] := by
  unfold F_is_step
  with_reducible refine w_fn ?_
  unfold m_is_step
  and_intros
  rw [decide_eq_true (show ((List.length [D.int (v.1 : Int), D.lst v.2] : Nat) : Int) = 2 from rfl)]
  and_intros
  refine f_eq is_integer_ok ?_
  and_intros
  refine x_leI ?_
  rw [decide_eq_true (by omega)]
  and_intros
  rw [decide_eq_true (by omega)]
  and_intros
  rw [decide_eq_true (by omega)]
  exact ⟨rfl, rfl⟩
def rowsG (ls : List Nat) (fs : List (Nat → GVal)) : List D := fs.flatMap fun f => ls.map fun c => .lst (f c).2
abbrev stepsG (ls : List Nat) (fs : List (Nat → GVal)) : D := .lst (fs.map fun f => chDic ls fun c => gvalD (f c))
theorem step_rows_ok {ls ls' : List Nat} {fs : List (Nat → GVal)} {many : Nat} (hl : ls'.length = ls.length) (h4 : ls.length ≤ 100) (hp : ∀ c ∈ ls, c ∈ ls') (f1 : 1 ≤ fs.length) (f3 : fs.length ≤ 3)
    (h : ∀ f ∈ fs, ∀ c ∈ ls, (f c).1 < fs.length ∧ (f c).2.length = many) : wf (F_step_rows [stepsG ls' fs, .str (S ls), .int many]) fun d outs => d = .lst (rowsG ls fs) ∧ outs = [] := by
  unfold F_step_rows
  with_reducible refine w_fn ?_
  unfold m_step_rows
  and_intros
  rw [List.length_map]
  refine x_leI ?_
  rw [decide_eq_true (by omega)]
  and_intros
  rw [decide_eq_true (by omega)]
  and_intros
  refine w_loop (fun i ρ => ∃ x y, ρ = [some (stepsG ls' fs), some (.str (S ls)), some (.int many), some (.lst (rowsG ls (fs.take i))), x, y]) ⟨none, none, rfl⟩ ?_ ?_
  · rintro i d ρ hd ⟨x, y, rfl⟩
    obtain ⟨f, hf, rfl⟩ := map_at hd
    have hfm := List.mem_of_getElem? hf
    have hi := (List.getElem?_eq_some_iff.1 hf).1
    refine ⟨_, rfl, ?_⟩
    and_intros
    refine f_eq (has_letters_ok hl h4 hp) ?_
    and_intros
    have hlen : ∀ j, (rowsG ls (fs.take i) ++ (ls.take j).map fun c => D.lst (f c).2).length ≤ 400 := by
      intro j
      rw [List.length_append, List.length_map]
      have h1 : (rowsG ls (fs.take i)).length = (fs.take i).length * ls.length := by
        unfold rowsG
        induction fs.take i with
        | nil => simp
        | cons a l ih => rw [List.flatMap_cons, List.length_append, List.length_map, ih, List.length_cons, Nat.succ_mul, Nat.add_comm]
      rw [h1, List.length_take, List.length_take]
      have h2 : min i fs.length * ls.length ≤ 3 * 100 := Nat.mul_le_mul (by omega) h4
      omega
    refine w_loop (fun j ρ => ∃ y, ρ = [some (stepsG ls' fs), some (.str (S ls)), some (.int many), some (.lst (rowsG ls (fs.take i) ++ (ls.take j).map fun c => D.lst (f c).2)), some (chDic ls' fun c => gvalD (f c)), y]) ⟨y, by simp⟩ ?_ ?_
    · rintro j e ρ he ⟨y, rfl⟩
      obtain ⟨c, hc, rfl⟩ := map_at he
      have hcm := List.mem_of_getElem? hc
      refine ⟨_, rfl, ?_⟩
      and_intros
      refine o_getCh (hp c hcm) ?_
      and_intros
      rw [List.length_map]
      refine f_eq (is_step_ok (h f hfm c hcm).1 (h f hfm c hcm).2) ?_
      and_intros
      refine o_getCh (hp c hcm) ?_
      and_intros
      refine x_app (by have := hlen j; show _ < 2 ^ 24; omega) ?_
      and_intros
      refine ⟨some (chD c), ?_⟩
      rw [take_at hc, List.map_append, ← List.append_assoc]
      rfl
    · rintro ρ ⟨y, rfl⟩
      rw [List.length_map, List.take_length]
      and_intros
      refine ⟨some (chDic ls' fun c => gvalD (f c)), y, ?_⟩
      have e : rowsG ls (fs.take (i + 1)) = rowsG ls (fs.take i) ++ ls.map fun c => D.lst (f c).2 := by
        rw [take_at hf]; unfold rowsG
        rw [List.flatMap_append]; simp
      rw [e]
  · rintro ρ ⟨x, y, rfl⟩
    rw [List.length_map, List.take_length]
    and_intros
    exact ⟨rfl, rfl⟩
theorem is_piece_ok {sg : List Nat} {many : Nat} {ts : List Item} (h : okP sg many ts) : wf (F_is_piece [pieceD ts, .str (S sg), .int many]) fun d outs => d = .bl true ∧ outs = [] := by
  unfold F_is_piece pieceD
  with_reducible refine w_fn ?_
  unfold m_is_piece
  and_intros
  rw [List.length_map, decide_eq_false (by have := h.1; omega)]
  and_intros
  refine w_all (fun x => [some (.lst (ts.map itemD)), some (.str (S sg)), some (.int many), x]) none rfl ?_ ?_
  · intro d x hd
    obtain ⟨t, ht, rfl⟩ := List.mem_map.1 hd
    refine ⟨_, rfl, ?_⟩
    have hk := h.2 t ht
    cases t with
    | reg n =>
      have hn : n < many := hk
      show wpx _ (mIfS _ _ _ [_, _, _, some (D.int n)]) _
      and_intros
      refine f_eq is_integer_ok ?_
      and_intros
      refine x_leI ?_
      rw [decide_eq_true (by omega)]
      and_intros
      rw [decide_eq_true (by omega)]
      and_intros
      exact ⟨_, rfl⟩
    | txt l =>
      show wpx _ (mIfS _ _ _ [_, _, _, some (D.str (S l))]) _
      and_intros
      refine f_eq is_integer_str ?_
      and_intros
      refine f_eq (is_short_ok hk) ?_
      and_intros
      exact ⟨_, rfl⟩
  · intro x
    and_intros
    exact ⟨rfl, rfl⟩
theorem all_pieces_ok {sg : List Nat} {many : Nat} {td : List (List Item)} (h : ∀ t ∈ td, okP sg many t) : wf (F_all_pieces [.lst (td.map pieceD), .str (S sg), .int many]) fun d outs => d = .bl true ∧ outs = [] := by
  unfold F_all_pieces
  with_reducible refine w_fn ?_
  unfold m_all_pieces
  and_intros
  refine w_all (fun x => [some (.lst (td.map pieceD)), some (.str (S sg)), some (.int many), x]) none rfl ?_ ?_
  · intro d x hd
    obtain ⟨t, ht, rfl⟩ := List.mem_map.1 hd
    refine ⟨_, rfl, ?_⟩
    and_intros
    refine f_eq (is_piece_ok (h t ht)) ?_
    and_intros
    exact ⟨_, rfl⟩
  · intro x
    and_intros
    exact ⟨rfl, rfl⟩
def gOf (f : Nat → Val) (c : Nat) : GVal := ((f c).1, (f c).2.map pieceD)
theorem stepsD_G (ls : List Nat) (fs : List (Nat → Val)) : stepsD ls fs = stepsG ls (fs.map gOf) := by
  unfold stepsD stepsG
  rw [List.map_map]
  rfl
theorem are_text_steps_ok {ls ls' sg : List Nat} {fs : List (Nat → Val)} {many : Nat} (hl : ls'.length = ls.length) (h4 : ls.length ≤ 100) (hp : ∀ c ∈ ls, c ∈ ls') (f1 : 1 ≤ fs.length) (f3 : fs.length ≤ 3)
    (h : ∀ f ∈ fs, ∀ c ∈ ls, okV ls sg many fs.length (f c)) : wf (F_are_text_steps [stepsD ls' fs, .str (S ls), .str (S sg), .int many]) fun d outs => d = .bl true ∧ outs = [] := by
  unfold F_are_text_steps
  with_reducible refine w_fn ?_
  unfold m_are_text_steps
  rw [stepsD_G]
  and_intros
  refine f_eq (step_rows_ok hl h4 hp (by rw [List.length_map]; exact f1) (by rw [List.length_map]; exact f3) ?_) ?_
  · intro g hg c hc
    obtain ⟨f, hf, rfl⟩ := List.mem_map.1 hg
    have := h f hf c hc
    exact ⟨by rw [List.length_map]; exact this.1, by show (List.map pieceD _).length = _; rw [List.length_map]; exact this.2.1⟩
  and_intros
  show if false = true then _ else _
  and_intros
  refine w_all (fun x => [some (stepsG ls' (fs.map gOf)), some (.str (S ls)), some (.str (S sg)), some (.int many), some (.lst (rowsG ls (fs.map gOf))), x]) none rfl ?_ ?_
  · intro d x hd
    unfold rowsG at hd
    obtain ⟨g, hg, hd⟩ := List.mem_flatMap.1 hd
    obtain ⟨f, hf, rfl⟩ := List.mem_map.1 hg
    obtain ⟨c, hc, rfl⟩ := List.mem_map.1 hd
    refine ⟨_, rfl, ?_⟩
    and_intros
    show wfx _ (F_all_pieces [.lst ((f c).2.map pieceD), _, _]) _
    refine f_eq (all_pieces_ok (h f hf c hc).2.2) ?_
    and_intros
    exact ⟨_, rfl⟩
  · intro x
    and_intros
    exact ⟨rfl, rfl⟩
/-! ## the class's copies -/
theorem copied_text_steps_ok {ls ls' sg : List Nat} {fs : List (Nat → Val)} {many rooms : Nat} (hn : ls.Nodup) (h4 : ls.length ≤ 100) (hp : ∀ c ∈ ls, c ∈ ls') (f3 : fs.length ≤ 3) (hm : many ≤ 100)
    (h : ∀ f ∈ fs, ∀ c ∈ ls, okV ls sg many rooms (f c)) : wf (F_copied_text_steps [stepsD ls' fs, .str (S ls)]) fun d outs => d = stepsD ls fs ∧ outs = [] := by
  unfold F_copied_text_steps
  with_reducible refine w_fn ?_
  unfold m_copied_text_steps
  and_intros
  unfold stepsD
  and_intros
  refine w_loop (fun i ρ => ∃ x, ρ = [some (.lst (fs.map (stepD ls'))), some (.str (S ls)), some (.lst ((fs.take i).map (stepD ls))), x, none]) ⟨none, rfl⟩ ?_ ?_
  · rintro i d ρ hd ⟨x, rfl⟩
    obtain ⟨f, hf, rfl⟩ := map_at hd
    have hfm := List.mem_of_getElem? hf
    have hi := (List.getElem?_eq_some_iff.1 hf).1
    refine ⟨_, rfl, ?_⟩
    and_intros
    refine w_dcCh (v := fun c => valD (f c)) hn (by show _ < 2 ^ 24; omega) ?_
    and_intros
    refine ⟨rfl, ?_, ?_⟩
    · intro c hc
      refine ⟨_, rfl, ?_⟩
      and_intros
      refine ⟨rfl, ?_⟩
      and_intros
      refine o_get (hp c hc) ?_
      unfold valD
      and_intros
      refine o_get (hp c hc) ?_
      unfold valD
      and_intros
      refine f_use (copied_pieces_ok (f c).2 (by have := (h f hfm c hc).2.1; omega)) ?_
      intro d outs e
      subst e
      and_intros
      exact ⟨rfl, rfl⟩
    · and_intros
      refine x_app (by rw [List.length_map, List.length_take]; show _ < 2 ^ 24; omega) ?_
      and_intros
      refine ⟨some (stepD ls' f), ?_⟩
      rw [take_at hf, List.map_append]
      rfl
  · rintro ρ ⟨x, rfl⟩
    rw [List.length_map, List.take_length]
    and_intros
    exact ⟨rfl, rfl⟩
def writerD (T : Texts) : D := .obj "TextWriter" ["kept_letters", "kept_signs", "kept_begin", "kept_steps", "kept_told"] [.str (S T.ls), .str (S T.sg), .lst (T.bg.map strD), stepsD T.ls T.fs, .lst (T.td.map pieceD)]
theorem init_ok {T : Texts} (ok : T.Ok) {ls' : List Nat} (hl : ls'.length = T.ls.length) (hp : ∀ c ∈ T.ls, c ∈ ls') : wf (F_TextWriter___init__ [.obj "TextWriter" [] [], .str (S T.ls), .str (S T.sg), .lst (T.bg.map strD), stepsD ls' T.fs, .lst (T.td.map pieceD)]) fun d outs => d = .non ∧ outs = [writerD T] := by
  have l4 := ok.ls4
  unfold F_TextWriter___init__
  with_reducible refine w_fn ?_
  unfold m_TextWriter___init__
  and_intros
  refine f_eq (are_letters_ok ok.ls1 ok.ls4 ok.lsn ok.lsa) ?_
  and_intros
  refine f_eq (are_signs_ok ok.sg1 ok.sg8 ok.sgn ok.sga) ?_
  and_intros
  refine f_eq (is_text_begin_ok ok.bg1 ok.bg3 ok.bgs) ?_
  and_intros
  rw [List.length_map]
  refine f_eq (are_text_steps_ok hl (by omega) hp ok.fs1 ok.fs3 ok.fss) ?_
  and_intros
  unfold stepsD
  and_intros
  rw [List.length_map, List.length_map, ok.td1, decide_eq_true rfl]
  and_intros
  rw [List.length_map]
  refine f_eq (all_pieces_ok ok.tds) ?_
  and_intros
  refine x_fldS (by with_unfolding_all exact rfl) ⟨rfl, by with_unfolding_all exact of_decide_eq_true rfl⟩ ?_
  and_intros
  refine x_fldS (by with_unfolding_all exact rfl) ⟨rfl, by with_unfolding_all exact of_decide_eq_true rfl⟩ ?_
  and_intros
  refine x_fldS (by with_unfolding_all exact rfl) ⟨rfl, by with_unfolding_all exact of_decide_eq_true rfl⟩ ?_
  and_intros
  show wfx _ (F_copied_text_steps [stepsD ls' T.fs, _]) _
  refine f_eq (copied_text_steps_ok (sg := T.sg) (many := T.bg.length) (rooms := T.fs.length) ok.lsn (by omega) hp ok.fs3 (by have := ok.bg3; omega) ok.fss) ?_
  and_intros
  refine x_fldS (by with_unfolding_all exact rfl) ⟨rfl, by with_unfolding_all exact of_decide_eq_true rfl⟩ ?_
  and_intros
  refine f_use (copied_pieces_ok T.td (by have := ok.td1; have := ok.fs3; omega)) ?_
  intro d outs e
  subst e
  and_intros
  refine x_fldS (by with_unfolding_all exact rfl) ⟨rfl, by with_unfolding_all exact of_decide_eq_true rfl⟩ ?_
  and_intros
  exact ⟨rfl, rfl⟩
end Wk29
set_option maxHeartbeats 4000000
namespace Wk29
open PySem L2 Ip
local macro_rules | `(tactic| and_intros) => `(tactic| repeat (first | (with_reducible first | refine w_c ?_ | refine w_nil ?_ | refine w_nx ?_ | refine w_yes ?_ | refine w_pair ?_ | refine w_pairO ?_ | refine w_pairR ?_ | refine w_m2 ?_ | refine w_un ?_ | refine w_cons ?_ | refine w_own ?_ | refine w_io ?_ | refine w_arg ?_ | refine w_argI ?_ | refine w_seqI ?_ | refine w_tup ?_ | refine w_lst ?_ | refine w_and ?_ | refine w_or ?_ | refine w_notV ?_ | refine w_ite ?_ | refine w_test ?_ | refine w_not ?_ | refine w_tand ?_ | refine w_tor ?_ | refine w_chain ?_ | refine w_call0 ?_ | refine w_call1 ?_ | refine w_lstM ?_ | refine w_strM ?_ | refine w_slice ?_ | refine w_oN ?_ | refine w_oS ?_ | refine w_seq ?_ | refine w_if ?_ | refine w_ret ?_ | refine w_drop ?_ | refine w_set ?_ | refine w_setO ?_ | refine w_asg ?_ | refine w_gIx ?_ | refine w_for ?_ | refine w_fn ?_ | refine w_cutL ?_ | refine w_enumS ?_ | refine w_fld1 ?_ | refine w_fldS ?_ | refine w_make ?_ | refine w_meth ?_ | refine w_raise ?_ | refine w_try ?_ | refine q_nx ?_ | refine q_rt ?_ | refine q_bk ?_ | refine q_ct ?_ | refine e_rt ?_ | refine e_nx ?_ | refine i_t ?_ | refine i_f ?_ | refine i_nt ?_ | refine i_nf ?_ | refine o_add ?_ | refine o_sub ?_ | refine o_lt ?_ | refine o_le ?_ | refine o_gt ?_ | refine o_ge ?_ | refine o_int ?_ | refine o_abs ?_ | refine o_lenL ?_ | refine o_lenT ?_ | refine o_inS ?_ | refine o_notInS ?_ | refine o_listL ?_ | refine o_listT ?_ | refine o_tupL ?_ | refine o_tupT ?_ | refine o_eqI ?_ | refine o_neI ?_ | refine o_isN ?_ | refine o_notN ?_ | refine o_rev ?_ | refine o_max ?_ | refine o_min ?_ | refine o_lenCh ?_ | refine o_notInCh ?_ | refine o_listCh ?_ | refine x_bl ?_ | refine x_int ?_ | refine x_str ?_ | refine x_sqL ?_ | refine x_sqT ?_ | refine x_sqS ?_ | refine x_isL ?_ | refine x_out ?_ | refine x_some ?_ | refine x_objL ?_ | refine x_objI ?_ | refine x_objD ?_ | refine x_cls ?_ | refine fl_nx ?_ | refine fl_ct ?_ | refine x_r1 (by with_unfolding_all omega) ?_ | refine x_r2 (by with_unfolding_all omega) ?_ | refine w_var (by with_unfolding_all exact rfl) ?_ | refine x_env (by with_unfolding_all exact rfl) ?_ | refine x_lst (by with_unfolding_all exact rfl) ?_ | refine x_slot (by with_unfolding_all exact of_decide_eq_true rfl) ?_ | refine x_nm (by with_unfolding_all exact of_decide_eq_true rfl) ?_ | refine o_ixL (by with_unfolding_all exact rfl) ?_ | refine o_ixT (by with_unfolding_all exact rfl) ?_ | refine o_isiB (b := true) (by with_unfolding_all exact rfl) ?_ | refine o_isiB (b := false) (by with_unfolding_all exact rfl) ?_ | refine o_lenS' (by first | with_unfolding_all omega | assumption) ?_ | refine x_tp (by with_unfolding_all exact rfl) ?_ | refine x_fld (by with_unfolding_all exact rfl) (by with_unfolding_all exact rfl) ?_ | refine x_meth (by with_unfolding_all exact rfl) ⟨(by with_unfolding_all exact rfl), (by with_unfolding_all exact rfl)⟩ ?_ | refine o_pow (by with_unfolding_all decide) ?_ | refine o_mulR (by with_unfolding_all decide) ?_ | refine o_mulL (by with_unfolding_all decide) ?_ | refine o_mulL (by with_unfolding_all omega) ?_ | refine o_mod (by first | assumption | with_unfolding_all decide) ?_ | refine o_div (by first | assumption | with_unfolding_all decide) (by first | assumption | with_unfolding_all decide) ?_)))
/-! ## runs -/
abbrev St := Nat × List (List Nat)
def stepT (T : Texts) (st : St) (c : Nat) : St := ((T.fs.getD st.1 (fun _ => (0, [])) c).1, (T.fs.getD st.1 (fun _ => (0, [])) c).2.map (joinT st.2))
def runT (T : Texts) (row : List Nat) : St := row.foldl (stepT T) (0, T.bg)
def toldT (T : Texts) (st : St) : List Nat := joinT st.2 (T.td.getD st.1 [])
def OkSt (T : Texts) (st : St) : Prop := st.1 < T.fs.length ∧ st.2.length = T.bg.length
def stD (st : St) : D := .tup [.int st.1, .tup (st.2.map strD)]
theorem fs_at {T : Texts} {r : Nat} (h : r < T.fs.length) : ∃ f, T.fs[r]? = some f ∧ f ∈ T.fs ∧ T.fs.getD r (fun _ => (0, [])) = f := by
  refine ⟨T.fs[r], List.getElem?_eq_getElem h, List.getElem_mem h, ?_⟩
  rw [List.getD_eq_getElem?_getD, List.getElem?_eq_getElem h]; rfl
theorem td_at {T : Texts} (ok : T.Ok) {r : Nat} (h : r < T.fs.length) : ∃ t, T.td[r]? = some t ∧ t ∈ T.td ∧ T.td.getD r [] = t := by
  have h : r < T.td.length := by rw [ok.td1]; exact h
  refine ⟨T.td[r], List.getElem?_eq_getElem h, List.getElem_mem h, ?_⟩
  rw [List.getD_eq_getElem?_getD, List.getElem?_eq_getElem h]; rfl
theorem step_okSt {T : Texts} (ok : T.Ok) {st : St} (h : OkSt T st) {c : Nat} (hc : c ∈ T.ls) : OkSt T (stepT T st c) := by
  obtain ⟨f, _, h2, h3⟩ := fs_at h.1
  have := ok.fss f h2 c hc
  unfold stepT
  rw [h3]
  exact ⟨this.1, by rw [List.length_map]; exact this.2.1⟩
theorem run_snoc (T : Texts) (row : List Nat) (c : Nat) : runT T (row ++ [c]) = stepT T (runT T row) c := by unfold runT; rw [List.foldl_append]; rfl
theorem run_okSt {T : Texts} (ok : T.Ok) : ∀ (row : List Nat), (∀ c ∈ row, c ∈ T.ls) → OkSt T (runT T row) := by
  have key : ∀ (row : List Nat) (st : St), OkSt T st → (∀ c ∈ row, c ∈ T.ls) → OkSt T (row.foldl (stepT T) st) := by
    intro row
    induction row with
    | nil => intro st h _; exact h
    | cons c r ih => intro st h hr; exact ih _ (step_okSt ok h (hr c (by simp))) fun z hz => hr z (by simp [hz])
  exact fun row hr => key row _ ⟨ok.fs1, rfl⟩ hr
/-- a thing that is no row of the letters -/
def NotRow (ls : List Nat) (d : D) : Prop := (∃ l, d = .str (S l) ∧ ∃ c ∈ l, c ∉ ls) ∨ isiD "str" d = some (.bl false)
theorem is_row_ok {l ls : List Nat} (h : ∀ c ∈ l, c ∈ ls) : wf (F_is_row [.str (S l), .str (S ls)]) fun d outs => d = .bl true ∧ outs = [] := by
  unfold F_is_row
  with_reducible refine w_fn ?_
  unfold m_is_row
  and_intros
  refine w_all (fun x => [some (.str (S l)), some (.str (S ls)), x]) none rfl ?_ ?_
  · intro d x hd
    obtain ⟨c, hc, rfl⟩ := List.mem_map.1 hd
    refine ⟨_, rfl, ?_⟩
    and_intros
    rw [decide_eq_true (h c hc)]
    and_intros
    exact ⟨_, rfl⟩
  · intro x
    and_intros
    exact ⟨rfl, rfl⟩
theorem is_row_bad {d : D} {ls : List Nat} (h : NotRow ls d) : wf (F_is_row [d, .str (S ls)]) fun d outs => d = .bl false ∧ outs = [] := by
  unfold F_is_row
  with_reducible refine w_fn ?_
  unfold m_is_row
  rcases h with ⟨l, rfl, c, hc, hn⟩ | h
  · and_intros
    refine w_run (fun i ρ => (∃ x, ρ = [some (.str (S l)), some (.str (S ls)), x]) ∧ ∀ c ∈ l.take i, c ∈ ls) ⟨⟨none, rfl⟩, by simp⟩ ?_ ?_
    · rintro i d ρ hd ⟨⟨x, rfl⟩, hi⟩
      obtain ⟨e, he, rfl⟩ := map_at hd
      refine ⟨_, rfl, ?_⟩
      by_cases hm : e ∈ ls
      · and_intros
        rw [decide_eq_true hm]
        and_intros
        refine .inl ⟨.inl rfl, ⟨_, rfl⟩, ?_⟩
        rw [take_at he]
        intro z hz
        rcases List.mem_append.1 hz with hz | hz
        · exact hi z hz
        · rw [List.mem_singleton.1 hz]; exact hm
      · and_intros
        rw [decide_eq_false hm]
        and_intros
        exact .inr (.inr ⟨_, rfl, rfl, rfl⟩)
    · rintro ρ ⟨_, hi⟩
      rw [List.length_map, List.take_length] at hi
      exact absurd (hi c hc) hn
  · and_intros
    refine o_isiB (b := false) h ?_
    and_intros
    exact ⟨rfl, rfl⟩
theorem piece_text_ok {regs : List (List Nat)} {sg : List Nat} {ts : List Item} (h : okP sg regs.length ts) (hl : (joinT regs ts).length ≤ 2 ^ 24) : wf (F_piece_text [pieceD ts, .tup (regs.map strD)]) fun d outs => d = strD (joinT regs ts) ∧ outs = [] := by
  unfold F_piece_text pieceD
  with_reducible refine w_fn ?_
  unfold m_piece_text
  and_intros
  refine w_loop (fun i ρ => ∃ x, ρ = [some (.lst (ts.map itemD)), some (.tup (regs.map strD)), some (.lst (((ts.take i).map (itemT regs)).map fun l => D.str (S l))), x]) ⟨none, rfl⟩ ?_ ?_
  · rintro i d ρ hd ⟨x, rfl⟩
    obtain ⟨t, ht, rfl⟩ := map_at hd
    have hi := (List.getElem?_eq_some_iff.1 ht).1
    have hk := h.2 t (List.mem_of_getElem? ht)
    have h3 := h.1
    refine ⟨_, rfl, ?_⟩
    cases t with
    | reg n =>
      have hn : n < regs.length := hk
      show wpx _ (mIfS _ _ _ [_, _, _, some (D.int n)]) _
      and_intros
      refine o_ixNT (d := strD regs[n]) (by rw [List.getElem?_map, List.getElem?_eq_getElem hn]; rfl) ?_
      and_intros
      refine x_app (by rw [List.length_map, List.length_map, List.length_take]; show _ < 2 ^ 24; omega) ?_
      and_intros
      refine ⟨some (.int n), ?_⟩
      rw [take_at ht, List.map_append, List.map_append]
      have e : itemT regs (.reg n) = regs[n] := by
        show regs.getD n [] = _
        rw [List.getD_eq_getElem?_getD, List.getElem?_eq_getElem hn]; rfl
      show _ = [_, _, some (D.lst (_ ++ [D.str (S (itemT regs (.reg n)))])), _]
      rw [e]
      rfl
    | txt l =>
      show wpx _ (mIfS _ _ _ [_, _, _, some (D.str (S l))]) _
      and_intros
      refine x_app (by rw [List.length_map, List.length_map, List.length_take]; show _ < 2 ^ 24; omega) ?_
      and_intros
      refine ⟨some (.str (S l)), ?_⟩
      rw [take_at ht, List.map_append, List.map_append]
      rfl
  · rintro ρ ⟨x, rfl⟩
    rw [List.length_map, List.take_length]
    and_intros
    rw [show Str.ofString "" = S [] by decide +kernel]
    refine o_joinE hl ?_
    and_intros
    exact ⟨rfl, rfl⟩
theorem text_step_ok {T : Texts} (ok : T.Ok) {st : St} (h : OkSt T st) {c : Nat} (hc : c ∈ T.ls) (hl : ∀ r ∈ (stepT T st c).2, r.length ≤ 2 ^ 24) : wf (F_text_step [writerD T, .int st.1, .tup (st.2.map strD), chD c]) fun d outs => d = stD (stepT T st c) ∧ outs = [] := by
  obtain ⟨f, hf, hfm, hfe⟩ := fs_at h.1
  have hok := ok.fss f hfm c hc
  have hb3 := ok.bg3
  have es : stepT T st c = ((f c).1, (f c).2.map (joinT st.2)) := by unfold stepT; rw [hfe]
  rw [es] at hl ⊢
  unfold F_text_step
  with_reducible refine w_fn ?_
  unfold m_text_step
  and_intros
  refine o_ixN (d := stepD T.ls f) (by rw [List.getElem?_map, hf]; rfl) ?_
  and_intros
  refine o_get hc ?_
  unfold valD
  and_intros
  refine w_mapT (l := (f c).2) pieceD (fun p => strD (joinT st.2 p)) ?_
  and_intros
  refine ⟨rfl, by show _ < 2 ^ 24; have := hok.2.1; omega, ?_, ?_⟩
  · intro p hp
    refine ⟨_, rfl, ?_⟩
    and_intros
    refine f_eq (piece_text_ok (sg := T.sg) (by rw [h.2]; exact hok.2.2 p hp) (hl _ (List.mem_map_of_mem hp))) ?_
    exact ⟨rfl, rfl⟩
  · and_intros
    unfold stD
    rw [List.map_map]
    exact ⟨rfl, rfl⟩
/-- the texts on the way are not too long -/
def Fit (T : Texts) (row : List Nat) : Prop := ∀ k ≤ row.length, ∀ r ∈ (runT T (row.take k)).2, r.length ≤ 2 ^ 23
theorem stands_ok {T : Texts} (ok : T.Ok) {row : List Nat} (hr : ∀ c ∈ row, c ∈ T.ls) (fit : Fit T row) : wf (F_TextWriter_stands [writerD T, .str (S row)]) fun d outs => d = stD (runT T row) ∧ outs = [] := by
  unfold F_TextWriter_stands
  with_reducible refine w_fn ?_
  unfold m_TextWriter_stands
  and_intros
  refine f_eq (is_row_ok hr) ?_
  and_intros
  refine w_loop (fun i ρ => ∃ x, ρ = [some (writerD T), some (.str (S row)), some (.int (runT T (row.take i)).1), some (.tup ((runT T (row.take i)).2.map strD)), x]) ⟨none, rfl⟩ ?_ ?_
  · rintro i d ρ hd ⟨x, rfl⟩
    obtain ⟨c, hc, rfl⟩ := map_at hd
    have hi := (List.getElem?_eq_some_iff.1 hc).1
    have hcm := hr c (List.mem_of_getElem? hc)
    refine ⟨_, rfl, ?_⟩
    have e := take_at hc
    have hs : OkSt T (runT T (row.take i)) := run_okSt ok _ fun z hz => hr z (List.mem_of_mem_take hz)
    have e2 := run_snoc T (row.take i) c
    have hf := fit (i + 1) (by omega)
    rw [e, e2] at hf
    and_intros
    refine f_eq (text_step_ok ok hs hcm fun r hr => by have := hf r hr; omega) ?_
    unfold stD
    and_intros
    refine ⟨some (chD c), ?_⟩
    rw [e, e2]
    rfl
  · rintro ρ ⟨x, rfl⟩
    rw [List.length_map, List.take_length]
    and_intros
    exact ⟨rfl, rfl⟩
theorem stands_bad {T : Texts} {d : D} (h : NotRow T.ls d) : wfx (fun e outs => e = ⟨"NoRow", none⟩ ∧ outs = []) (F_TextWriter_stands [writerD T, d]) fun _ _ => False := by
  unfold F_TextWriter_stands
  with_reducible refine w_fn ?_
  unfold m_TextWriter_stands
  and_intros
  refine f_eq (is_row_bad h) ?_
  and_intros
  exact ⟨rfl, rfl⟩
theorem text_told_ok {T : Texts} (ok : T.Ok) {st : St} (h : OkSt T st) (hl : (toldT T st).length ≤ 2 ^ 24) : wf (F_text_told [writerD T, .int st.1, .tup (st.2.map strD)]) fun d outs => d = strD (toldT T st) ∧ outs = [] := by
  obtain ⟨t, ht, htm, hte⟩ := td_at ok h.1
  unfold toldT at hl ⊢
  rw [hte] at hl ⊢
  unfold F_text_told
  with_reducible refine w_fn ?_
  unfold m_text_told
  and_intros
  refine o_ixN (d := pieceD t) (by rw [List.getElem?_map, ht]; rfl) ?_
  and_intros
  refine f_eq (piece_text_ok (sg := T.sg) (by rw [h.2]; exact ok.tds t htm) hl) ?_
  and_intros
  exact ⟨rfl, rfl⟩
theorem told_len {T : Texts} (ok : T.Ok) {st : St} (h : OkSt T st) (hl : ∀ r ∈ st.2, r.length ≤ 2 ^ 22) : (toldT T st).length ≤ 2 ^ 24 := by
  obtain ⟨t, ht, htm, hte⟩ := td_at ok h.1
  unfold toldT
  rw [hte]
  have hk := ok.tds t htm
  have h1 := joinT_len (regs := st.2) (B := 2 ^ 22) hl (by decide) (sg := T.sg) (ts := t) (by rw [h.2]; exact hk.2)
  have h3 := hk.1
  have : t.length * 2 ^ 22 ≤ 3 * 2 ^ 22 := Nat.mul_le_mul_right _ h3
  omega
theorem tells_ok {T : Texts} (ok : T.Ok) {row : List Nat} (hr : ∀ c ∈ row, c ∈ T.ls) (fit : Fit T row) (hl : (toldT T (runT T row)).length ≤ 2 ^ 24) : wf (F_TextWriter_tells [writerD T, .str (S row)]) fun d outs => d = strD (toldT T (runT T row)) ∧ outs = [] := by
  unfold F_TextWriter_tells
  with_reducible refine w_fn ?_
  unfold m_TextWriter_tells
  and_intros
  refine f_eq (stands_ok ok hr fit) ?_
  unfold stD
  and_intros
  refine f_eq (text_told_ok ok (run_okSt ok row hr) hl) ?_
  and_intros
  exact ⟨rfl, rfl⟩
theorem tells_bad {T : Texts} {d : D} (h : NotRow T.ls d) : wfx (fun e outs => e = ⟨"NoRow", none⟩ ∧ outs = []) (F_TextWriter_tells [writerD T, d]) fun _ _ => False := by
  unfold F_TextWriter_tells
  with_reducible refine w_fn ?_
  unfold m_TextWriter_tells
  and_intros
  refine wf_impE (stands_bad h) (fun _ _ h => h.elim) ?_
  rintro e outs ⟨rfl, rfl⟩
  exact ⟨rfl, rfl⟩
end Wk29
set_option maxHeartbeats 4000000
namespace Wk29
open PySem L2 Ip
local macro_rules | `(tactic| and_intros) => `(tactic| repeat (first | (with_reducible first | refine w_c ?_ | refine w_nil ?_ | refine w_nx ?_ | refine w_yes ?_ | refine w_pair ?_ | refine w_pairO ?_ | refine w_pairR ?_ | refine w_m2 ?_ | refine w_un ?_ | refine w_cons ?_ | refine w_own ?_ | refine w_io ?_ | refine w_arg ?_ | refine w_argI ?_ | refine w_seqI ?_ | refine w_tup ?_ | refine w_lst ?_ | refine w_and ?_ | refine w_or ?_ | refine w_notV ?_ | refine w_ite ?_ | refine w_test ?_ | refine w_not ?_ | refine w_tand ?_ | refine w_tor ?_ | refine w_chain ?_ | refine w_call0 ?_ | refine w_call1 ?_ | refine w_lstM ?_ | refine w_strM ?_ | refine w_slice ?_ | refine w_oN ?_ | refine w_oS ?_ | refine w_seq ?_ | refine w_if ?_ | refine w_ret ?_ | refine w_drop ?_ | refine w_set ?_ | refine w_setO ?_ | refine w_asg ?_ | refine w_gIx ?_ | refine w_for ?_ | refine w_fn ?_ | refine w_cutL ?_ | refine w_enumS ?_ | refine w_fld1 ?_ | refine w_fldS ?_ | refine w_make ?_ | refine w_meth ?_ | refine w_raise ?_ | refine w_try ?_ | refine q_nx ?_ | refine q_rt ?_ | refine q_bk ?_ | refine q_ct ?_ | refine e_rt ?_ | refine e_nx ?_ | refine i_t ?_ | refine i_f ?_ | refine i_nt ?_ | refine i_nf ?_ | refine o_add ?_ | refine o_sub ?_ | refine o_lt ?_ | refine o_le ?_ | refine o_gt ?_ | refine o_ge ?_ | refine o_int ?_ | refine o_abs ?_ | refine o_lenL ?_ | refine o_lenT ?_ | refine o_inS ?_ | refine o_notInS ?_ | refine o_listL ?_ | refine o_listT ?_ | refine o_tupL ?_ | refine o_tupT ?_ | refine o_eqI ?_ | refine o_neI ?_ | refine o_isN ?_ | refine o_notN ?_ | refine o_rev ?_ | refine o_max ?_ | refine o_min ?_ | refine o_lenCh ?_ | refine o_notInCh ?_ | refine o_listCh ?_ | refine x_bl ?_ | refine x_int ?_ | refine x_str ?_ | refine x_sqL ?_ | refine x_sqT ?_ | refine x_sqS ?_ | refine x_isL ?_ | refine x_out ?_ | refine x_some ?_ | refine x_objL ?_ | refine x_objI ?_ | refine x_objD ?_ | refine x_cls ?_ | refine fl_nx ?_ | refine fl_ct ?_ | refine x_r1 (by with_unfolding_all omega) ?_ | refine x_r2 (by with_unfolding_all omega) ?_ | refine w_var (by with_unfolding_all exact rfl) ?_ | refine x_env (by with_unfolding_all exact rfl) ?_ | refine x_lst (by with_unfolding_all exact rfl) ?_ | refine x_slot (by with_unfolding_all exact of_decide_eq_true rfl) ?_ | refine x_nm (by with_unfolding_all exact of_decide_eq_true rfl) ?_ | refine o_ixL (by with_unfolding_all exact rfl) ?_ | refine o_ixT (by with_unfolding_all exact rfl) ?_ | refine o_isiB (b := true) (by with_unfolding_all exact rfl) ?_ | refine o_isiB (b := false) (by with_unfolding_all exact rfl) ?_ | refine o_lenS' (by first | with_unfolding_all omega | assumption) ?_ | refine x_tp (by with_unfolding_all exact rfl) ?_ | refine x_fld (by with_unfolding_all exact rfl) (by with_unfolding_all exact rfl) ?_ | refine x_meth (by with_unfolding_all exact rfl) ⟨(by with_unfolding_all exact rfl), (by with_unfolding_all exact rfl)⟩ ?_ | refine o_pow (by with_unfolding_all decide) ?_ | refine o_mulR (by with_unfolding_all decide) ?_ | refine o_mulL (by with_unfolding_all decide) ?_ | refine o_mulL (by with_unfolding_all omega) ?_ | refine o_mod (by first | assumption | with_unfolding_all decide) ?_ | refine o_div (by first | assumption | with_unfolding_all decide) (by first | assumption | with_unfolding_all decide) ?_)))
/-- the law's copy of the rooms: their keys in either order -/
theorem copied_ok {ls : List Nat} {fs : List (Nat → Val)} {b : Bool} {many rooms : Nat} {sg : List Nat} (hn : ls.Nodup) (h4 : ls.length ≤ 100) (f3 : fs.length ≤ 3) (hm : many ≤ 100) (h : ∀ f ∈ fs, ∀ c ∈ ls, okV ls sg many rooms (f c)) :
    wf (F_law_copied [stepsD ls fs, .bl b]) fun d outs => d = stepsD (if b = true then ls.reverse else ls) fs ∧ outs = [] := by
  generalize hl' : (if b = true then ls.reverse else ls) = ls'
  have hn' : ls'.Nodup := by
    rw [← hl']; split
    · exact (List.reverse_perm ls).nodup_iff.2 hn
    · exact hn
  have hm' : ∀ c, c ∈ ls' ↔ c ∈ ls := by
    intro c
    rw [← hl']; split
    · exact List.mem_reverse
    · exact Iff.rfl
  have h4' : ls'.length ≤ 100 := by
    rw [← hl']; split
    · rw [List.length_reverse]; exact h4
    · exact h4
  unfold F_law_copied
  with_reducible refine w_fn ?_
  unfold m_law_copied stepsD
  and_intros
  refine w_loop (fun i ρ => ∃ x3 x4 x5 x6, ρ = [some (.lst (fs.map (stepD ls))), some (.bl b), some (.lst ((fs.take i).map (stepD ls'))), x3, x4, x5, x6]) ⟨none, none, none, none, rfl⟩ ?_ ?_
  · rintro i d ρ hd ⟨x3, x4, x5, x6, rfl⟩
    obtain ⟨f, hf, rfl⟩ := map_at hd
    have hfm := List.mem_of_getElem? hf
    have hi := (List.getElem?_eq_some_iff.1 hf).1
    refine ⟨_, rfl, ?_⟩
    and_intros
    unfold stepD
    and_intros
    have key : ∀ x6, wpx (fun e ρ => noF e (outsOf [] ρ)) (forL (gBody (gNm 6) (mAsg (mTup (mCons (m2 ixD (mPair (m2 dgetD (mPair (mVar 3) (mVar 6))) (mC (.int 0)))) (mCons (mCall0 F_law_pieces (mCons (m2 ixD (mPair (m2 dgetD (mPair (mVar 3) (mVar 6))) (mC (.int 1)))) mNil)) mNil))) (gDk 5 (mVar 6)))) (ls'.map chD) [some (.lst (fs.map (stepD ls))), some (.bl b), some (.lst ((fs.take i).map (stepD ls'))), some (stepD ls f), some (.lst (ls'.map chD)), some (.dic [] []), x6]) (wsq (fun e ρ => noF e (outsOf [] ρ)) (mDrop (mLstM 2 stAppend (mCons (mVar 5) mNil))) fun fl ρ2 => (fl = .nx ∨ fl = .ct) ∧ ∃ x3 x4 x5 x6, ρ2 = [some (.lst (fs.map (stepD ls))), some (.bl b), some (.lst ((fs.take (i + 1)).map (stepD ls'))), x3, x4, x5, x6]) := by
      intro x6
      refine w_loop (fun j ρ => ∃ x6, ρ = [some (.lst (fs.map (stepD ls))), some (.bl b), some (.lst ((fs.take i).map (stepD ls'))), some (stepD ls f), some (.lst (ls'.map chD)), some (stepD (ls'.take j) f), x6]) ⟨x6, rfl⟩ ?_ ?_
      · rintro j e ρ he ⟨x6, rfl⟩
        obtain ⟨c, hc, rfl⟩ := map_at he
        have hcl := (hm' c).1 (List.mem_of_getElem? hc)
        refine ⟨_, rfl, ?_⟩
        and_intros
        refine o_get hcl ?_
        unfold valD
        and_intros
        refine o_get hcl ?_
        unfold valD
        and_intros
        refine f_use (pieces_ok (f c).2 (by have := (h f hfm c hcl).2.1; omega)) ?_
        intro d outs e
        subst e
        and_intros
        refine x_dk (v := f c) (f := f) (ls := ls'.take j) (c := c) rfl rfl (nodup_take hn' hc) (by rw [List.length_take]; omega) ?_
        and_intros
        refine ⟨some (chD c), ?_⟩
        rw [take_at hc, stepD_congr (f := fun x => if x = c then f c else f x) (g := f) fun x _ => by by_cases h : x = c <;> simp [h]]
        rfl
      · rintro ρ ⟨x6, rfl⟩
        rw [List.length_map, List.take_length]
        and_intros
        refine x_app (by rw [List.length_map, List.length_take]; show _ < 2 ^ 24; omega) ?_
        and_intros
        refine ⟨some (stepD ls f), some (.lst (ls'.map chD)), some (stepD ls' f), x6, ?_⟩
        rw [take_at hf, List.map_append]
        rfl
    cases b with
    | true =>
      and_intros
      have e : ls' = ls.reverse := by rw [← hl']; rfl
      rw [← List.map_reverse, ← e]
      exact key x6
    | false =>
      and_intros
      have e : ls' = ls := by rw [← hl']; rfl
      rw [← e] at key ⊢
      exact key x6
  · rintro ρ ⟨x3, x4, x5, x6, rfl⟩
    rw [List.length_map, List.take_length]
    and_intros
    exact ⟨rfl, rfl⟩
/-! ## exactly alike -/
theorem law_is_integer_ok {n : Int} : wf (F_law_is_integer [.int n]) fun d outs => d = .bl true ∧ outs = [] := by
  unfold F_law_is_integer
  with_reducible refine w_fn ?_
  unfold m_law_is_integer
  and_intros
  exact ⟨rfl, rfl⟩
theorem exact_int {k : Nat} {n : Int} : wf (F_law_exact (k + 1) [.int n, .int n]) fun d outs => d = .bl true ∧ outs = [] := by
  show wf (fnSem 4 [] (m_law_exact (F_law_exact k)) _) _
  with_reducible refine w_fn ?_
  unfold m_law_exact
  and_intros
  refine f_eq law_is_integer_ok ?_
  and_intros
  rw [decide_eq_true rfl]
  exact ⟨rfl, rfl⟩
theorem exact_str {k : Nat} {l : List Nat} (h : Sg l) : wf (F_law_exact (k + 1) [.str (S l), .str (S l)]) fun d outs => d = .bl true ∧ outs = [] := by
  show wf (fnSem 4 [] (m_law_exact (F_law_exact k)) _) _
  with_reducible refine w_fn ?_
  unfold m_law_exact
  and_intros
  refine o_eqS h h ?_
  rw [decide_eq_true rfl]
  exact ⟨rfl, rfl⟩
theorem exact_tup {k : Nat} {ds : List D} (hl : ds.length < 2 ^ 20) (h : ∀ d ∈ ds, wf (F_law_exact k [d, d]) fun d outs => d = .bl true ∧ outs = []) : wf (F_law_exact (k + 1) [.tup ds, .tup ds]) fun d outs => d = .bl true ∧ outs = [] := by
  show wf (fnSem 4 [] (m_law_exact (F_law_exact k)) _) _
  with_reducible refine w_fn ?_
  unfold m_law_exact
  and_intros
  rw [decide_eq_true rfl]
  and_intros
  refine w_loop (fun i ρ => ∃ x, ρ = [some (.tup ds), some (.tup ds), none, x]) ⟨none, rfl⟩ ?_ ?_
  · rintro i d ρ hd ⟨x, rfl⟩
    obtain ⟨j, hj, rfl⟩ := map_at hd
    have hj2 : j < ds.length := by have := List.mem_of_getElem? hj; simpa using this
    have he := List.getElem?_eq_getElem hj2
    refine ⟨_, rfl, ?_⟩
    and_intros
    refine o_ixNT he ?_
    and_intros
    refine o_ixNT he ?_
    and_intros
    refine f_eq (h _ (List.getElem_mem hj2)) ?_
    and_intros
    exact ⟨_, rfl⟩
  · rintro ρ ⟨x, rfl⟩
    and_intros
    exact ⟨rfl, rfl⟩
end Wk29
set_option maxHeartbeats 4000000
namespace Wk29
open PySem L2 Ip
local macro_rules | `(tactic| and_intros) => `(tactic| repeat (first | (with_reducible first | refine w_c ?_ | refine w_nil ?_ | refine w_nx ?_ | refine w_yes ?_ | refine w_pair ?_ | refine w_pairO ?_ | refine w_pairR ?_ | refine w_m2 ?_ | refine w_un ?_ | refine w_cons ?_ | refine w_own ?_ | refine w_io ?_ | refine w_arg ?_ | refine w_argI ?_ | refine w_seqI ?_ | refine w_tup ?_ | refine w_lst ?_ | refine w_and ?_ | refine w_or ?_ | refine w_notV ?_ | refine w_ite ?_ | refine w_test ?_ | refine w_not ?_ | refine w_tand ?_ | refine w_tor ?_ | refine w_chain ?_ | refine w_call0 ?_ | refine w_call1 ?_ | refine w_lstM ?_ | refine w_strM ?_ | refine w_slice ?_ | refine w_oN ?_ | refine w_oS ?_ | refine w_seq ?_ | refine w_if ?_ | refine w_ret ?_ | refine w_drop ?_ | refine w_set ?_ | refine w_setO ?_ | refine w_asg ?_ | refine w_gIx ?_ | refine w_for ?_ | refine w_fn ?_ | refine w_cutL ?_ | refine w_enumS ?_ | refine w_fld1 ?_ | refine w_fldS ?_ | refine w_make ?_ | refine w_meth ?_ | refine w_raise ?_ | refine w_try ?_ | refine q_nx ?_ | refine q_rt ?_ | refine q_bk ?_ | refine q_ct ?_ | refine e_rt ?_ | refine e_nx ?_ | refine i_t ?_ | refine i_f ?_ | refine i_nt ?_ | refine i_nf ?_ | refine o_add ?_ | refine o_sub ?_ | refine o_lt ?_ | refine o_le ?_ | refine o_gt ?_ | refine o_ge ?_ | refine o_int ?_ | refine o_abs ?_ | refine o_lenL ?_ | refine o_lenT ?_ | refine o_inS ?_ | refine o_notInS ?_ | refine o_listL ?_ | refine o_listT ?_ | refine o_tupL ?_ | refine o_tupT ?_ | refine o_eqI ?_ | refine o_neI ?_ | refine o_isN ?_ | refine o_notN ?_ | refine o_rev ?_ | refine o_max ?_ | refine o_min ?_ | refine o_lenCh ?_ | refine o_notInCh ?_ | refine o_listCh ?_ | refine x_bl ?_ | refine x_int ?_ | refine x_str ?_ | refine x_sqL ?_ | refine x_sqT ?_ | refine x_sqS ?_ | refine x_isL ?_ | refine x_out ?_ | refine x_some ?_ | refine x_objL ?_ | refine x_objI ?_ | refine x_objD ?_ | refine x_cls ?_ | refine fl_nx ?_ | refine fl_ct ?_ | refine x_r1 (by with_unfolding_all omega) ?_ | refine x_r2 (by with_unfolding_all omega) ?_ | refine w_var (by with_unfolding_all exact rfl) ?_ | refine x_env (by with_unfolding_all exact rfl) ?_ | refine x_lst (by with_unfolding_all exact rfl) ?_ | refine x_slot (by with_unfolding_all exact of_decide_eq_true rfl) ?_ | refine x_nm (by with_unfolding_all exact of_decide_eq_true rfl) ?_ | refine o_ixL (by with_unfolding_all exact rfl) ?_ | refine o_ixT (by with_unfolding_all exact rfl) ?_ | refine o_isiB (b := true) (by with_unfolding_all exact rfl) ?_ | refine o_isiB (b := false) (by with_unfolding_all exact rfl) ?_ | refine o_lenS' (by first | with_unfolding_all omega | assumption) ?_ | refine x_tp (by with_unfolding_all exact rfl) ?_ | refine x_fld (by with_unfolding_all exact rfl) (by with_unfolding_all exact rfl) ?_ | refine x_meth (by with_unfolding_all exact rfl) ⟨(by with_unfolding_all exact rfl), (by with_unfolding_all exact rfl)⟩ ?_ | refine o_pow (by with_unfolding_all decide) ?_ | refine o_mulR (by with_unfolding_all decide) ?_ | refine o_mulL (by with_unfolding_all decide) ?_ | refine o_mulL (by with_unfolding_all omega) ?_ | refine o_mod (by first | assumption | with_unfolding_all decide) ?_ | refine o_div (by first | assumption | with_unfolding_all decide) (by first | assumption | with_unfolding_all decide) ?_)))
theorem exact_st {st : St} (h : ∀ r ∈ st.2, Sg r) (hl : st.2.length ≤ 100) : wf (F_law_exact 3 [stD st, stD st]) fun d outs => d = .bl true ∧ outs = [] := by
  unfold stD
  with_reducible refine exact_tup (k := 2) (by simp) ?_
  intro d hd
  rcases List.mem_cons.1 hd with rfl | hd
  · exact exact_int
  · cases List.mem_singleton.1 hd
    with_reducible refine exact_tup (k := 1) (by rw [List.length_map]; show _ < 2 ^ 20; omega) ?_
    intro d hd
    obtain ⟨t, ht, rfl⟩ := List.mem_map.1 hd
    exact exact_str (k := 0) (h t ht)
theorem signs_sg {c : Nat} (h : c ∈ signs94) : c < 0x110000 := by
  have : ∀ c ∈ signs94, c < 0x110000 := by decide
  exact this c h
/-- all texts are of the signs -/
theorem join_signs {T : Texts} {regs : List (List Nat)} {many : Nat} (hs : ∀ r ∈ regs, ∀ c ∈ r, c ∈ T.sg) : ∀ {ts : List Item}, (∀ t ∈ ts, okI T.sg many t) → ∀ c ∈ joinT regs ts, c ∈ T.sg := by
  intro ts h c hc
  unfold joinT at hc
  obtain ⟨l, hl, hc⟩ := List.mem_flatten.1 hc
  obtain ⟨t, ht, rfl⟩ := List.mem_map.1 hl
  cases t with
  | reg n =>
    have hc : c ∈ regs.getD n [] := hc
    rw [List.getD_eq_getElem?_getD] at hc
    cases q : regs[n]? with
    | none => rw [q] at hc; simp at hc
    | some r => rw [q] at hc; exact hs r (List.mem_of_getElem? q) c hc
  | txt l => exact (h _ ht).2 c hc
theorem run_signs {T : Texts} (ok : T.Ok) : ∀ (row : List Nat), (∀ c ∈ row, c ∈ T.ls) → ∀ r ∈ (runT T row).2, ∀ c ∈ r, c ∈ T.sg := by
  have key : ∀ (row : List Nat) (st : St), OkSt T st → (∀ r ∈ st.2, ∀ c ∈ r, c ∈ T.sg) → (∀ c ∈ row, c ∈ T.ls) → ∀ r ∈ (row.foldl (stepT T) st).2, ∀ c ∈ r, c ∈ T.sg := by
    intro row
    induction row with
    | nil => intro st _ h _; exact h
    | cons c r ih =>
      intro st ho h hr
      have hc := hr c (by simp)
      refine ih _ (step_okSt ok ho hc) ?_ fun z hz => hr z (by simp [hz])
      obtain ⟨f, _, h2, h3⟩ := fs_at ho.1
      have hv := ok.fss f h2 c hc
      unfold stepT
      rw [h3]
      intro t ht
      obtain ⟨p, hp, rfl⟩ := List.mem_map.1 ht
      exact join_signs h (hv.2.2 p hp).2
  exact fun row hr => key row _ ⟨ok.fs1, rfl⟩ (fun r h => (ok.bgs r h).2) hr
theorem told_signs {T : Texts} (ok : T.Ok) {st : St} (h : OkSt T st) (hs : ∀ r ∈ st.2, ∀ c ∈ r, c ∈ T.sg) : ∀ c ∈ toldT T st, c ∈ T.sg := by
  obtain ⟨t, ht, htm, hte⟩ := td_at ok h.1
  unfold toldT
  rw [hte]
  exact join_signs hs (ok.tds t htm).2
/-- the rows that are asked: rows of the letters, the texts on the way short -/
structure GoodRow (T : Texts) (row : List Nat) : Prop where
  ls : ∀ c ∈ row, c ∈ T.ls
  l8 : row.length ≤ 100
  fit : ∀ k ≤ row.length, ∀ r ∈ (runT T (row.take k)).2, r.length ≤ 6000
theorem GoodRow.fits {T : Texts} {row : List Nat} (h : GoodRow T row) : Fit T row := fun k hk r hr => by have := h.fit k hk r hr; omega
theorem GoodRow.last {T : Texts} {row : List Nat} (h : GoodRow T row) : ∀ r ∈ (runT T row).2, r.length ≤ 6000 := by
  have := h.fit row.length (Nat.le_refl _)
  rwa [List.take_length] at this
theorem told_ok {T : Texts} (ok : T.Ok) {row : List Nat} (h : GoodRow T row) {first : Int} (h0 : first = 0 ∨ first = 1) : wf (F_law_told [writerD T, .str (S row), stD (runT T row), strD (toldT T (runT T row)), .int first]) fun d outs => d = .bl true ∧ outs = [] := by
  have hos := run_okSt ok row h.ls
  have hl := told_len ok hos fun r hr => by have := h.last r hr; omega
  have hb3 := ok.bg3
  have hsg := run_signs ok row h.ls
  have hsg' : ∀ r ∈ (runT T row).2, Sg r := by
    intro r hr c hc
    exact signs_sg (ok.sga c (hsg r hr c hc))
  have hrl : (runT T row).2.length ≤ 100 := by have := hos.2; omega
  have e1 : wf (F_law_exact 3 [stD (runT T row), stD (runT T row)]) fun d outs => d = .bl true ∧ outs = [] := by with_reducible exact exact_st hsg' hrl
  have hsg2 : Sg (toldT T (runT T row)) := by
    intro c hc
    exact signs_sg (ok.sga c (told_signs ok hos hsg c hc))
  have e2 : wf (F_law_exact 3 [.str (S (toldT T (runT T row))), .str (S (toldT T (runT T row)))]) fun d outs => d = .bl true ∧ outs = [] := by with_reducible exact exact_str (k := 2) hsg2
  unfold F_law_told
  with_reducible refine w_fn ?_
  unfold m_law_told
  and_intros
  refine w_all (fun x => [some (writerD T), some (.str (S row)), some (stD (runT T row)), some (strD (toldT T (runT T row))), some (.int first), x]) none rfl ?_ ?_
  · intro d x hd
    have hd : d = .int 0 ∨ d = .int 1 := by
      rcases List.mem_cons.1 hd with rfl | hd
      · rcases h0 with rfl | rfl
        · exact .inl rfl
        · exact .inr rfl
      · cases List.mem_singleton.1 hd
        rcases h0 with rfl | rfl
        · exact .inr rfl
        · exact .inl rfl
    rcases hd with rfl | rfl
    · refine ⟨_, rfl, ?_⟩
      and_intros
      rw [decide_eq_true rfl]
      and_intros
      refine f_eq (tells_ok ok h.ls h.fits hl) ?_
      and_intros
      refine f_eq e2 ?_
      and_intros
      rw [decide_eq_false (by decide)]
      and_intros
      exact ⟨_, rfl⟩
    · refine ⟨_, rfl, ?_⟩
      and_intros
      rw [decide_eq_false (by decide)]
      and_intros
      rw [decide_eq_true rfl]
      and_intros
      refine f_eq (stands_ok ok h.ls h.fits) ?_
      and_intros
      with_reducible refine f_eq e1 ?_
      and_intros
      exact ⟨_, rfl⟩
  · intro x
    and_intros
    exact ⟨rfl, rfl⟩
theorem refused_ok {T : Texts} {d : D} (h : NotRow T.ls d) {way : Int} : wf (F_law_refused [writerD T, d, .int way]) fun d outs => d = .bl true ∧ outs = [] := by
  unfold F_law_refused
  with_reducible refine w_fn ?_
  unfold m_law_refused
  and_intros
  by_cases hw : way = 0
  · rw [decide_eq_true hw]
    and_intros
    refine wf_impE (tells_bad h) (fun _ _ h => h.elim) ?_
    rintro e outs ⟨rfl, rfl⟩
    refine ⟨⟨rfl, rfl, by with_unfolding_all exact of_decide_eq_true rfl, by with_unfolding_all exact of_decide_eq_true rfl⟩, ?_⟩
    and_intros
    exact ⟨rfl, rfl⟩
  · rw [decide_eq_false hw]
    and_intros
    refine wf_impE (stands_bad h) (fun _ _ h => h.elim) ?_
    rintro e outs ⟨rfl, rfl⟩
    refine ⟨⟨rfl, rfl, by with_unfolding_all exact of_decide_eq_true rfl, by with_unfolding_all exact of_decide_eq_true rfl⟩, ?_⟩
    and_intros
    exact ⟨rfl, rfl⟩
end Wk29
set_option maxHeartbeats 4000000
namespace Wk29
open PySem L2 Ip
local macro_rules | `(tactic| and_intros) => `(tactic| repeat (first | (with_reducible first | refine w_c ?_ | refine w_nil ?_ | refine w_nx ?_ | refine w_yes ?_ | refine w_pair ?_ | refine w_pairO ?_ | refine w_pairR ?_ | refine w_m2 ?_ | refine w_un ?_ | refine w_cons ?_ | refine w_own ?_ | refine w_io ?_ | refine w_arg ?_ | refine w_argI ?_ | refine w_seqI ?_ | refine w_tup ?_ | refine w_lst ?_ | refine w_and ?_ | refine w_or ?_ | refine w_notV ?_ | refine w_ite ?_ | refine w_test ?_ | refine w_not ?_ | refine w_tand ?_ | refine w_tor ?_ | refine w_chain ?_ | refine w_call0 ?_ | refine w_call1 ?_ | refine w_lstM ?_ | refine w_strM ?_ | refine w_slice ?_ | refine w_oN ?_ | refine w_oS ?_ | refine w_seq ?_ | refine w_if ?_ | refine w_ret ?_ | refine w_drop ?_ | refine w_set ?_ | refine w_setO ?_ | refine w_asg ?_ | refine w_gIx ?_ | refine w_for ?_ | refine w_fn ?_ | refine w_cutL ?_ | refine w_enumS ?_ | refine w_fld1 ?_ | refine w_fldS ?_ | refine w_make ?_ | refine w_meth ?_ | refine w_raise ?_ | refine w_try ?_ | refine q_nx ?_ | refine q_rt ?_ | refine q_bk ?_ | refine q_ct ?_ | refine e_rt ?_ | refine e_nx ?_ | refine i_t ?_ | refine i_f ?_ | refine i_nt ?_ | refine i_nf ?_ | refine o_add ?_ | refine o_sub ?_ | refine o_lt ?_ | refine o_le ?_ | refine o_gt ?_ | refine o_ge ?_ | refine o_int ?_ | refine o_abs ?_ | refine o_lenL ?_ | refine o_lenT ?_ | refine o_inS ?_ | refine o_notInS ?_ | refine o_listL ?_ | refine o_listT ?_ | refine o_tupL ?_ | refine o_tupT ?_ | refine o_eqI ?_ | refine o_neI ?_ | refine o_isN ?_ | refine o_notN ?_ | refine o_rev ?_ | refine o_max ?_ | refine o_min ?_ | refine o_lenCh ?_ | refine o_notInCh ?_ | refine o_listCh ?_ | refine x_bl ?_ | refine x_int ?_ | refine x_str ?_ | refine x_sqL ?_ | refine x_sqT ?_ | refine x_sqS ?_ | refine x_isL ?_ | refine x_out ?_ | refine x_some ?_ | refine x_objL ?_ | refine x_objI ?_ | refine x_objD ?_ | refine x_cls ?_ | refine fl_nx ?_ | refine fl_ct ?_ | refine x_r1 (by with_unfolding_all omega) ?_ | refine x_r2 (by with_unfolding_all omega) ?_ | refine w_var (by with_unfolding_all exact rfl) ?_ | refine x_env (by with_unfolding_all exact rfl) ?_ | refine x_lst (by with_unfolding_all exact rfl) ?_ | refine x_slot (by with_unfolding_all exact of_decide_eq_true rfl) ?_ | refine x_nm (by with_unfolding_all exact of_decide_eq_true rfl) ?_ | refine o_ixL (by with_unfolding_all exact rfl) ?_ | refine o_ixT (by with_unfolding_all exact rfl) ?_ | refine o_isiB (b := true) (by with_unfolding_all exact rfl) ?_ | refine o_isiB (b := false) (by with_unfolding_all exact rfl) ?_ | refine o_lenS' (by first | with_unfolding_all omega | assumption) ?_ | refine x_tp (by with_unfolding_all exact rfl) ?_ | refine x_fld (by with_unfolding_all exact rfl) (by with_unfolding_all exact rfl) ?_ | refine x_meth (by with_unfolding_all exact rfl) ⟨(by with_unfolding_all exact rfl), (by with_unfolding_all exact rfl)⟩ ?_ | refine o_pow (by with_unfolding_all decide) ?_ | refine o_mulR (by with_unfolding_all decide) ?_ | refine o_mulL (by with_unfolding_all decide) ?_ | refine o_mulL (by with_unfolding_all omega) ?_ | refine o_mod (by first | assumption | with_unfolding_all decide) ?_ | refine o_div (by first | assumption | with_unfolding_all decide) (by first | assumption | with_unfolding_all decide) ?_)))
def lenD (l : List Nat) : D := .int l.length
theorem itemT_reg {regs : List (List Nat)} {n : Nat} (hn : n < regs.length) : itemT regs (.reg n) = regs[n] := by
  show regs.getD n [] = _
  rw [List.getD_eq_getElem?_getD, List.getElem?_eq_getElem hn]; rfl
theorem join_len (regs : List (List Nat)) (ts : List Item) : ((ts.map (itemT regs)).map fun l => (l.length : Int)).sum = ((joinT regs ts).length : Int) := by
  unfold joinT
  induction ts.map (itemT regs) with
  | nil => rfl
  | cons l r ih => rw [List.map_cons, List.sum_cons, ih, List.flatten_cons, List.length_append]; omega
theorem length_ok {regs : List (List Nat)} {sg : List Nat} {ts : List Item} (h : okP sg regs.length ts) : wf (F_law_length [pieceD ts, .lst (regs.map lenD)]) fun d outs => d = lenD (joinT regs ts) ∧ outs = [] := by
  unfold F_law_length pieceD
  with_reducible refine w_fn ?_
  unfold m_law_length
  and_intros
  refine w_mapT (l := ts) itemD (fun t => lenD (itemT regs t)) ?_
  and_intros
  refine ⟨rfl, by have := h.1; show _ < 2 ^ 24; omega, ?_, ?_⟩
  · intro t ht
    have hk := h.2 t ht
    refine ⟨_, rfl, ?_⟩
    cases t with
    | reg n =>
      have hn : n < regs.length := hk
      show wpx _ (mIf _ _ _ [_, _, some (D.int n)]) _
      and_intros
      refine o_ixN (d := lenD (itemT regs (.reg n))) (by rw [List.getElem?_map, List.getElem?_eq_getElem hn, itemT_reg hn]; rfl) ?_
      exact ⟨rfl, rfl⟩
    | txt l =>
      have hl : l.length ≤ 4 := hk.1
      show wpx _ (mIf _ _ _ [_, _, some (D.str (S l))]) _
      and_intros
      exact ⟨rfl, rfl⟩
  · and_intros
    have e : (ts.map fun t => lenD (itemT regs t)) = ((ts.map (itemT regs)).map fun l => (l.length : Int)).map D.int := by
      rw [List.map_map, List.map_map]; rfl
    rw [e]
    refine o_sumI ?_
    rw [join_len]
    exact ⟨rfl, rfl⟩
theorem sum_le : ∀ (l : List (List Nat)) (r : List Nat), r ∈ l → (r.length : Int) ≤ (l.map fun l => (l.length : Int)).sum
  | [], r, h => by simp at h
  | a :: l, r, h => by
    rw [List.map_cons, List.sum_cons]
    have h0 : ∀ l : List (List Nat), 0 ≤ (l.map fun l => (l.length : Int)).sum := by
      intro l
      induction l with
      | nil => simp
      | cons a l ih => rw [List.map_cons, List.sum_cons]; omega
    rcases List.mem_cons.1 h with rfl | h
    · have := h0 l; omega
    · have := sum_le l r h; omega
/-- how long the texts may be behind k letters -/
def cap (k : Nat) : Nat := if k ≤ 6 then 4 * 3 ^ k else 6000
theorem cap_le (k : Nat) : cap k ≤ 6000 := by
  unfold cap
  split
  · rename_i h
    have : 3 ^ k ≤ 3 ^ 6 := Nat.pow_le_pow_right (by decide) h
    omega
  · exact Nat.le_refl _
theorem step_len {T : Texts} (ok : T.Ok) {st : St} (h : OkSt T st) {c : Nat} (hc : c ∈ T.ls) {B : Nat} (h4 : 4 ≤ B) (hl : ∀ r ∈ st.2, r.length ≤ B) : ∀ r ∈ (stepT T st c).2, r.length ≤ 3 * B := by
  obtain ⟨f, _, h2, h3⟩ := fs_at h.1
  have hv := ok.fss f h2 c hc
  unfold stepT
  rw [h3]
  intro r hr
  obtain ⟨p, hp, rfl⟩ := List.mem_map.1 hr
  have hk := hv.2.2 p hp
  have h1 := joinT_len (regs := st.2) hl h4 (sg := T.sg) (ts := p) (by rw [h.2]; exact hk.2)
  exact Nat.le_trans h1 (Nat.mul_le_mul_right _ hk.1)
theorem cut_ok {T : Texts} (ok : T.Ok) {row : List Nat} (hr : ∀ c ∈ row, c ∈ T.ls) (h8 : row.length ≤ 100) : wf (F_law_cut [.lst (T.bg.map strD), stepsD T.ls T.fs, .str (S row)]) fun d outs => ∃ r', d = .str (S r') ∧ outs = [] ∧ GoodRow T r' := by
  have l4 := ok.ls4
  have hb3 := ok.bg3
  have good : ∀ i, i ≤ row.length → (∀ k ≤ i, ∀ r ∈ (runT T (row.take k)).2, r.length ≤ cap k) → GoodRow T (row.take i) := by
    intro i hi h
    refine ⟨fun c hc => hr c (List.mem_of_mem_take hc), by rw [List.length_take]; omega, ?_⟩
    intro k hk r hrr
    rw [List.length_take] at hk
    rw [List.take_take, Nat.min_eq_left (by omega)] at hrr
    exact Nat.le_trans (h k (by omega) r hrr) (cap_le k)
  unfold F_law_cut
  with_reducible refine w_fn ?_
  unfold m_law_cut
  and_intros
  refine w_mapT (l := T.bg) strD lenD ?_
  and_intros
  refine ⟨rfl, by show _ < 2 ^ 24; omega, ?_, ?_⟩
  · intro t ht
    have h4 := (ok.bgs t ht).1
    refine ⟨_, rfl, ?_⟩
    show wpx _ (mArg _ _ (List.set _ 9 (some (D.str (S t))))) _
    and_intros
    exact ⟨rfl, rfl⟩
  and_intros
  refine w_run (fun i ρ => (∃ x5 x6 x7 x8 x9 x10, ρ = [some (.lst (T.bg.map strD)), some (stepsD T.ls T.fs), some (.str (S row)), some (.int (runT T (row.take i)).1), some (.lst ((runT T (row.take i)).2.map lenD)), x5, x6, x7, x8, x9, x10]) ∧ ∀ k ≤ i, ∀ r ∈ (runT T (row.take k)).2, r.length ≤ cap k) ?_ ?_ ?_
  · refine ⟨⟨none, none, none, none, none, none, rfl⟩, ?_⟩
    intro k hk r hrr
    have : k = 0 := by omega
    subst this
    have := (ok.bgs r hrr).1
    show _ ≤ 4
    exact this
  · rintro i d ρ hd ⟨⟨x5, x6, x7, x8, x9, x10, rfl⟩, hcap⟩
    obtain ⟨j, hj, rfl⟩ := map_at hd
    have hj2 : i < row.length ∧ j = i := by
      obtain ⟨h1, h2⟩ := List.getElem?_eq_some_iff.1 hj
      rw [List.getElem_range] at h2
      simp at h1
      exact ⟨h1, h2.symm⟩
    obtain ⟨hi, rfl⟩ := hj2
    have hc := List.getElem?_eq_getElem hi
    generalize row[j] = c at hc
    have hcm := hr c (List.mem_of_getElem? hc)
    have hos := run_okSt ok (row.take j) fun z hz => hr z (List.mem_of_mem_take hz)
    obtain ⟨f, hf, hfm, hfe⟩ := fs_at hos.1
    have hv := ok.fss f hfm c hcm
    have e1 := take_at hc
    have e2 := run_snoc T (row.take j) c
    have e3 : stepT T (runT T (row.take j)) c = ((f c).1, (f c).2.map (joinT (runT T (row.take j)).2)) := by unfold stepT; rw [hfe]
    generalize hst : runT T (row.take j) = st at *
    refine ⟨_, rfl, ?_⟩
    and_intros
    refine o_ixN (d := stepD T.ls f) (by rw [List.getElem?_map, hf]; rfl) ?_
    and_intros
    refine o_some (d := chD c) ?_ ?_
    · show (if _ then _ else none) = _
      rw [if_pos (by rw [S_len]; show _ ≤ 2 ^ 24; omega), S_list, at_nat hc]
      rfl
    and_intros
    refine o_get hcm ?_
    unfold valD
    and_intros
    refine w_mapT (l := (f c).2) pieceD (fun p => lenD (joinT st.2 p)) ?_
    and_intros
    refine ⟨rfl, by show _ < 2 ^ 24; have := hv.2.1; omega, ?_, ?_⟩
    · intro p hp
      refine ⟨_, rfl, ?_⟩
      and_intros
      refine f_eq (length_ok (sg := T.sg) (by rw [hos.2]; exact hv.2.2 p hp)) ?_
      exact ⟨rfl, rfl⟩
    and_intros
    have e4 : ((f c).2.map fun p => lenD (joinT st.2 p)) = (((stepT T st c).2.map fun l => (l.length : Int)).map D.int) := by
      rw [e3, List.map_map, List.map_map]; rfl
    have fin : (∀ r ∈ (stepT T st c).2, r.length ≤ cap (j + 1)) → ∀ k ≤ j + 1, ∀ r ∈ (runT T (row.take k)).2, r.length ≤ cap k := by
      intro h k hk r hrr
      by_cases hkj : k ≤ j
      · exact hcap k hkj r hrr
      · have : k = j + 1 := by omega
        subst this
        rw [e1, e2] at hrr
        exact h r hrr
    have hcj : ∀ r ∈ st.2, r.length ≤ cap j := by
      intro r hrr
      refine hcap j (Nat.le_refl _) r ?_
      rw [hst]; exact hrr
    by_cases h6 : (6 : Int) ≤ (j : Int)
    · rw [decide_eq_true h6]
      and_intros
      rw [e4]
      refine o_sumI ?_
      and_intros
      by_cases hs : (6000 : Int) < ((stepT T st c).2.map fun l => (l.length : Int)).sum
      · rw [decide_eq_true hs]
        and_intros
        rw [cut_to (by omega)]
        refine ⟨by rw [S_len]; show _ ≤ 2 ^ 24; omega, ?_⟩
        and_intros
        refine .inr (.inr ⟨_, rfl, ?_⟩)
        and_intros
        exact ⟨row.take j, rfl, rfl, good j (by omega) hcap⟩
      · rw [decide_eq_false hs]
        and_intros
        refine .inl ⟨.inl rfl, ?_, fin ?_⟩
        · rw [e1, e2, ← e4, e3, show (((f c).1, (f c).2.map (joinT st.2)) : St).2.map lenD = (f c).2.map fun p => lenD (joinT st.2 p) from List.map_map]
          exact ⟨_, _, _, _, _, _, rfl⟩
        · intro r hrr
          have := sum_le _ r hrr
          unfold cap
          rw [if_neg (by omega)]
          omega
    · rw [decide_eq_false h6]
      and_intros
      refine .inl ⟨.inl rfl, ?_, fin ?_⟩
      · rw [e1, e2, e3, show (((f c).1, (f c).2.map (joinT st.2)) : St).2.map lenD = (f c).2.map fun p => lenD (joinT st.2 p) from List.map_map]
        exact ⟨_, _, _, _, _, _, rfl⟩
      · have hj6 : j < 6 := by omega
        have hce : cap j = 4 * 3 ^ j := by unfold cap; rw [if_pos (by omega)]
        have hce1 : cap (j + 1) = 4 * 3 ^ (j + 1) := by unfold cap; rw [if_pos (by omega)]
        rw [hce] at hcj
        have := step_len ok hos hcm (B := 4 * 3 ^ j) (by have : 1 ≤ 3 ^ j := Nat.one_le_pow _ _ (by decide); omega) hcj
        intro r hrr
        rw [hce1, Nat.pow_succ]
        have := this r hrr
        omega
  · rintro ρ ⟨⟨x5, x6, x7, x8, x9, x10, rfl⟩, hcap⟩
    and_intros
    refine ⟨row, rfl, rfl, ?_⟩
    have e : ((List.range (row.length : Int).toNat).map fun i => D.int (i : Nat)).length = row.length := by simp
    rw [e] at hcap
    have := good row.length (Nat.le_refl _) hcap
    rwa [List.take_length] at this
end Wk29
set_option maxHeartbeats 4000000
namespace Wk29
open PySem L2 Ip
local macro_rules | `(tactic| and_intros) => `(tactic| repeat (first | (with_reducible first | refine w_c ?_ | refine w_nil ?_ | refine w_nx ?_ | refine w_yes ?_ | refine w_pair ?_ | refine w_pairO ?_ | refine w_pairR ?_ | refine w_m2 ?_ | refine w_un ?_ | refine w_cons ?_ | refine w_own ?_ | refine w_io ?_ | refine w_arg ?_ | refine w_argI ?_ | refine w_seqI ?_ | refine w_tup ?_ | refine w_lst ?_ | refine w_and ?_ | refine w_or ?_ | refine w_notV ?_ | refine w_ite ?_ | refine w_test ?_ | refine w_not ?_ | refine w_tand ?_ | refine w_tor ?_ | refine w_chain ?_ | refine w_call0 ?_ | refine w_call1 ?_ | refine w_lstM ?_ | refine w_strM ?_ | refine w_slice ?_ | refine w_oN ?_ | refine w_oS ?_ | refine w_seq ?_ | refine w_if ?_ | refine w_ret ?_ | refine w_drop ?_ | refine w_set ?_ | refine w_setO ?_ | refine w_asg ?_ | refine w_gIx ?_ | refine w_for ?_ | refine w_fn ?_ | refine w_cutL ?_ | refine w_enumS ?_ | refine w_fld1 ?_ | refine w_fldS ?_ | refine w_make ?_ | refine w_meth ?_ | refine w_raise ?_ | refine w_try ?_ | refine q_nx ?_ | refine q_rt ?_ | refine q_bk ?_ | refine q_ct ?_ | refine e_rt ?_ | refine e_nx ?_ | refine i_t ?_ | refine i_f ?_ | refine i_nt ?_ | refine i_nf ?_ | refine o_add ?_ | refine o_sub ?_ | refine o_lt ?_ | refine o_le ?_ | refine o_gt ?_ | refine o_ge ?_ | refine o_int ?_ | refine o_abs ?_ | refine o_lenL ?_ | refine o_lenT ?_ | refine o_inS ?_ | refine o_notInS ?_ | refine o_listL ?_ | refine o_listT ?_ | refine o_tupL ?_ | refine o_tupT ?_ | refine o_eqI ?_ | refine o_neI ?_ | refine o_isN ?_ | refine o_notN ?_ | refine o_rev ?_ | refine o_max ?_ | refine o_min ?_ | refine o_lenCh ?_ | refine o_notInCh ?_ | refine o_listCh ?_ | refine x_bl ?_ | refine x_int ?_ | refine x_str ?_ | refine x_sqL ?_ | refine x_sqT ?_ | refine x_sqS ?_ | refine x_isL ?_ | refine x_out ?_ | refine x_some ?_ | refine x_objL ?_ | refine x_objI ?_ | refine x_objD ?_ | refine x_cls ?_ | refine fl_nx ?_ | refine fl_ct ?_ | refine x_r1 (by with_unfolding_all omega) ?_ | refine x_r2 (by with_unfolding_all omega) ?_ | refine w_var (by with_unfolding_all exact rfl) ?_ | refine x_env (by with_unfolding_all exact rfl) ?_ | refine x_lst (by with_unfolding_all exact rfl) ?_ | refine x_slot (by with_unfolding_all exact of_decide_eq_true rfl) ?_ | refine x_nm (by with_unfolding_all exact of_decide_eq_true rfl) ?_ | refine o_ixL (by with_unfolding_all exact rfl) ?_ | refine o_ixT (by with_unfolding_all exact rfl) ?_ | refine o_isiB (b := true) (by with_unfolding_all exact rfl) ?_ | refine o_isiB (b := false) (by with_unfolding_all exact rfl) ?_ | refine o_lenS' (by first | with_unfolding_all omega | assumption) ?_ | refine x_tp (by with_unfolding_all exact rfl) ?_ | refine x_fld (by with_unfolding_all exact rfl) (by with_unfolding_all exact rfl) ?_ | refine x_meth (by with_unfolding_all exact rfl) ⟨(by with_unfolding_all exact rfl), (by with_unfolding_all exact rfl)⟩ ?_ | refine o_pow (by with_unfolding_all decide) ?_ | refine o_mulR (by with_unfolding_all decide) ?_ | refine o_mulL (by with_unfolding_all decide) ?_ | refine o_mulL (by with_unfolding_all omega) ?_ | refine o_mod (by first | assumption | with_unfolding_all decide) ?_ | refine o_div (by first | assumption | with_unfolding_all decide) (by first | assumption | with_unfolding_all decide) ?_)))
theorem join_take (regs : List (List Nat)) (ts : List Item) (i : Nat) : (joinT regs (ts.take i)).length ≤ (joinT regs ts).length := by
  have e : joinT regs ts = joinT regs (ts.take i) ++ joinT regs (ts.drop i) := by
    unfold joinT
    rw [← List.flatten_append, ← List.map_append, List.take_append_drop]
  rw [e, List.length_append]; omega
theorem joined_ok {regs : List (List Nat)} {rd : D} {sg : List Nat} {ts : List Item} (hrd : rd = .lst (regs.map strD) ∨ rd = .tup (regs.map strD)) (h : okP sg regs.length ts) (hl : (joinT regs ts).length ≤ 2 ^ 24) : wf (F_law_joined [pieceD ts, rd]) fun d outs => d = strD (joinT regs ts) ∧ outs = [] := by
  unfold F_law_joined pieceD
  with_reducible refine w_fn ?_
  unfold m_law_joined
  and_intros
  refine w_loop (fun i ρ => ∃ x, ρ = [some (.lst (ts.map itemD)), some rd, some (.str (S (joinT regs (ts.take i)))), x]) ⟨none, rfl⟩ ?_ ?_
  · rintro i d ρ hd ⟨x, rfl⟩
    obtain ⟨t, ht, rfl⟩ := map_at hd
    have hi := (List.getElem?_eq_some_iff.1 ht).1
    have hk := h.2 t (List.mem_of_getElem? ht)
    have e : joinT regs (ts.take (i + 1)) = joinT regs (ts.take i) ++ itemT regs t := by rw [take_at ht, joinT_snoc]
    have hb : (joinT regs (ts.take i)).length + (itemT regs t).length ≤ 2 ^ 24 := by
      have := join_take regs ts (i + 1)
      rw [e, List.length_append] at this
      omega
    refine ⟨_, rfl, ?_⟩
    cases t with
    | reg n =>
      have hn : n < regs.length := hk
      show wpx _ (mIfS _ _ _ [_, _, _, some (D.int n)]) _
      and_intros
      have hx : ixD rd (.int n) = some (.str (S (itemT regs (.reg n)))) := by
        have h1 : (regs.map strD)[n]? = some (.str (S (itemT regs (.reg n)))) := by rw [List.getElem?_map, List.getElem?_eq_getElem hn, itemT_reg hn]; rfl
        rcases hrd with rfl | rfl
        · exact at_nat h1
        · exact at_nat h1
      refine o_some hx ?_
      and_intros
      refine o_catS hb ?_
      and_intros
      rw [e]
      exact ⟨_, rfl⟩
    | txt l =>
      show wpx _ (mIfS _ _ _ [_, _, _, some (D.str (S l))]) _
      and_intros
      refine o_catS hb ?_
      and_intros
      rw [e]
      exact ⟨_, rfl⟩
  · rintro ρ ⟨x, rfl⟩
    rw [List.length_map, List.take_length]
    and_intros
    exact ⟨rfl, rfl⟩
theorem law_run_ok {T : Texts} (ok : T.Ok) {row : List Nat} (h : GoodRow T row) : wf (F_law_run [.lst (T.bg.map strD), stepsD T.ls T.fs, .str (S row)]) fun d outs => d = stD (runT T row) ∧ outs = [] := by
  have hb3 := ok.bg3
  have hr := h.ls
  unfold F_law_run
  with_reducible refine w_fn ?_
  unfold m_law_run
  and_intros
  refine w_loop (fun i ρ => ∃ x5 x6 x7 x8, ρ = [some (.lst (T.bg.map strD)), some (stepsD T.ls T.fs), some (.str (S row)), some (.int (runT T (row.take i)).1), some (.lst ((runT T (row.take i)).2.map strD)), x5, x6, x7, x8]) ⟨none, none, none, none, rfl⟩ ?_ ?_
  · rintro j d ρ hd ⟨x5, x6, x7, x8, rfl⟩
    obtain ⟨c, hc, rfl⟩ := map_at hd
    have hi := (List.getElem?_eq_some_iff.1 hc).1
    have hcm := hr c (List.mem_of_getElem? hc)
    have hos := run_okSt ok (row.take j) fun z hz => hr z (List.mem_of_mem_take hz)
    obtain ⟨f, hf, hfm, hfe⟩ := fs_at hos.1
    have hv := ok.fss f hfm c hcm
    have e1 := take_at hc
    have e2 := run_snoc T (row.take j) c
    have hfit := h.fit (j + 1) (by omega)
    rw [e1, e2] at hfit
    have e3 : stepT T (runT T (row.take j)) c = ((f c).1, (f c).2.map (joinT (runT T (row.take j)).2)) := by unfold stepT; rw [hfe]
    generalize hst : runT T (row.take j) = st at *
    refine ⟨_, rfl, ?_⟩
    and_intros
    refine o_ixN (d := stepD T.ls f) (by rw [List.getElem?_map, hf]; rfl) ?_
    and_intros
    refine o_get hcm ?_
    unfold valD
    and_intros
    refine w_mapT (l := (f c).2) pieceD (fun p => strD (joinT st.2 p)) ?_
    and_intros
    refine ⟨rfl, by show _ < 2 ^ 24; have := hv.2.1; omega, ?_, ?_⟩
    · intro p hp
      refine ⟨_, rfl, ?_⟩
      and_intros
      have hjl : (joinT st.2 p).length ≤ 6000 := hfit _ (by rw [e3]; exact List.mem_map_of_mem hp)
      refine f_eq (joined_ok (sg := T.sg) (.inl rfl) (by rw [hos.2]; exact hv.2.2 p hp) (by omega)) ?_
      exact ⟨rfl, rfl⟩
    and_intros
    rw [e1, e2, e3, show (((f c).1, (f c).2.map (joinT st.2)) : St).2.map strD = (f c).2.map fun p => strD (joinT st.2 p) from List.map_map]
    exact ⟨_, _, _, _, rfl⟩
  · rintro ρ ⟨x5, x6, x7, x8, rfl⟩
    rw [List.length_map, List.take_length]
    and_intros
    exact ⟨rfl, rfl⟩
def others36 : List Nat := [97, 98, 99, 100, 101, 102, 103, 104, 105, 106, 107, 108, 109, 110, 111, 112, 113, 114, 115, 116, 117, 118, 119, 120, 121, 122, 65, 77, 90, 96, 123, 32, 48, 57, 95, 45]
theorem bad_row_ok {T : Texts} (ok : T.Ok) {row : List Nat} (h8 : row.length ≤ 100) (p q : Int) : wf (F_law_bad_row [pool p q, .str (S T.ls), .str (S row)]) fun d outs => ∃ p q, outs = [pool p q] ∧ NotRow T.ls d := by
  unfold F_law_bad_row
  with_reducible refine w_fn ?_
  unfold m_law_bad_row
  and_intros
  refine u_draw (by omega) (by omega) ?_
  intro k p q k0 k1
  and_intros
  refine u_draw (by omega) (by omega) ?_
  intro a p q a0 a1
  obtain ⟨a, rfl⟩ : ∃ n : Nat, a = n := ⟨a.toNat, by omega⟩
  and_intros
  refine w_filT (l := others36) chD chD (fun c => !decide (c ∈ T.ls)) ?_
  and_intros
  refine o_listS (l := others36) (by decide +kernel) (by decide +kernel) ?_
  and_intros
  refine ⟨rfl, by decide, ?_, ?_⟩
  · intro c hc
    refine ⟨_, rfl, ?_⟩
    and_intros
    refine ⟨rfl, ?_⟩
    split
    · and_intros
      exact ⟨rfl, rfl⟩
    · rfl
  and_intros
  have ho1 : 1 ≤ (others36.filter fun c => !decide (c ∈ T.ls)).length := by
    refine List.length_pos_iff.2 fun e => ?_
    have : (65 : Nat) ∈ others36.filter fun c => !decide (c ∈ T.ls) := by
      rw [List.mem_filter]
      refine ⟨by decide, ?_⟩
      have : (65 : Nat) ∉ T.ls := fun hm => absurd (ok.lsa 65 hm) (by decide)
      simp [this]
    rw [e] at this
    cases this
  have ho2 : (others36.filter fun c => !decide (c ∈ T.ls)).length ≤ 36 := List.length_filter_le _ others36
  have hno : ∀ c ∈ others36.filter fun c => !decide (c ∈ T.ls), c ∉ T.ls := by
    intro c hc
    have := (List.mem_filter.1 hc).2
    simpa using this
  generalize (others36.filter fun c => !decide (c ∈ T.ls)) = os at *
  rw [List.length_map]
  refine u_draw (by omega) (by omega) ?_
  intro r p q r0 r1
  obtain ⟨d, hd1, hd2⟩ := at_in (l := os.map chD) r0 (by rw [List.length_map]; exact r1)
  obtain ⟨c, hc, rfl⟩ := map_at hd2
  have hcn := hno c (List.mem_of_getElem? hc)
  and_intros
  refine o_ixL hd1 ?_
  and_intros
  by_cases h4 : k < 4
  · rw [decide_eq_true h4]
    and_intros
    rw [cut_to (by omega)]
    refine ⟨by rw [S_len]; show _ ≤ 2 ^ 24; omega, ?_⟩
    and_intros
    rw [chD_S]
    refine o_catS (by rw [List.length_take]; simp; omega) ?_
    and_intros
    rw [cut_from (by omega)]
    refine ⟨by rw [S_len]; show _ ≤ 2 ^ 24; omega, ?_⟩
    and_intros
    refine o_catS (by rw [List.length_append, List.length_take, List.length_drop]; simp; omega) ?_
    and_intros
    exact ⟨p, q, rfl, .inl ⟨_, rfl, c, by simp, hcn⟩⟩
  · rw [decide_eq_false h4]
    and_intros
    by_cases h5 : k = 4
    · rw [decide_eq_true h5]
      and_intros
      refine o_listS (S_list row) (show (S row).length ≤ _ by rw [S_len]; show _ ≤ 2 ^ 24; omega) ?_
      and_intros
      exact ⟨p, q, rfl, .inr rfl⟩
    · rw [decide_eq_false h5]
      and_intros
      refine o_tupS (by show _ ≤ 2 ^ 24; omega) ?_
      and_intros
      have hk : k = 5 ∨ k = 6 ∨ k = 7 ∨ k = 8 ∨ k = 9 := by omega
      rcases hk with rfl | rfl | rfl | rfl | rfl
      · and_intros
        exact ⟨p, q, rfl, .inr rfl⟩
      · and_intros
        exact ⟨p, q, rfl, .inr rfl⟩
      · and_intros
        exact ⟨p, q, rfl, .inr rfl⟩
      · and_intros
        exact ⟨p, q, rfl, .inr rfl⟩
      · and_intros
        exact ⟨p, q, rfl, .inr rfl⟩
end Wk29
set_option maxHeartbeats 4000000
namespace Wk29
open PySem L2 Ip
local macro_rules | `(tactic| and_intros) => `(tactic| repeat (first | (with_reducible first | refine w_c ?_ | refine w_nil ?_ | refine w_nx ?_ | refine w_yes ?_ | refine w_pair ?_ | refine w_pairO ?_ | refine w_pairR ?_ | refine w_m2 ?_ | refine w_un ?_ | refine w_cons ?_ | refine w_own ?_ | refine w_io ?_ | refine w_arg ?_ | refine w_argI ?_ | refine w_seqI ?_ | refine w_tup ?_ | refine w_lst ?_ | refine w_and ?_ | refine w_or ?_ | refine w_notV ?_ | refine w_ite ?_ | refine w_test ?_ | refine w_not ?_ | refine w_tand ?_ | refine w_tor ?_ | refine w_chain ?_ | refine w_call0 ?_ | refine w_call1 ?_ | refine w_lstM ?_ | refine w_strM ?_ | refine w_slice ?_ | refine w_oN ?_ | refine w_oS ?_ | refine w_seq ?_ | refine w_if ?_ | refine w_ret ?_ | refine w_drop ?_ | refine w_set ?_ | refine w_setO ?_ | refine w_asg ?_ | refine w_gIx ?_ | refine w_for ?_ | refine w_fn ?_ | refine w_cutL ?_ | refine w_enumS ?_ | refine w_fld1 ?_ | refine w_fldS ?_ | refine w_make ?_ | refine w_meth ?_ | refine w_raise ?_ | refine w_try ?_ | refine q_nx ?_ | refine q_rt ?_ | refine q_bk ?_ | refine q_ct ?_ | refine e_rt ?_ | refine e_nx ?_ | refine i_t ?_ | refine i_f ?_ | refine i_nt ?_ | refine i_nf ?_ | refine o_add ?_ | refine o_sub ?_ | refine o_lt ?_ | refine o_le ?_ | refine o_gt ?_ | refine o_ge ?_ | refine o_int ?_ | refine o_abs ?_ | refine o_lenL ?_ | refine o_lenT ?_ | refine o_inS ?_ | refine o_notInS ?_ | refine o_listL ?_ | refine o_listT ?_ | refine o_tupL ?_ | refine o_tupT ?_ | refine o_eqI ?_ | refine o_neI ?_ | refine o_isN ?_ | refine o_notN ?_ | refine o_rev ?_ | refine o_max ?_ | refine o_min ?_ | refine o_lenCh ?_ | refine o_notInCh ?_ | refine o_listCh ?_ | refine x_bl ?_ | refine x_int ?_ | refine x_str ?_ | refine x_sqL ?_ | refine x_sqT ?_ | refine x_sqS ?_ | refine x_isL ?_ | refine x_out ?_ | refine x_some ?_ | refine x_objL ?_ | refine x_objI ?_ | refine x_objD ?_ | refine x_cls ?_ | refine fl_nx ?_ | refine fl_ct ?_ | refine x_r1 (by with_unfolding_all omega) ?_ | refine x_r2 (by with_unfolding_all omega) ?_ | refine w_var (by with_unfolding_all exact rfl) ?_ | refine x_env (by with_unfolding_all exact rfl) ?_ | refine x_lst (by with_unfolding_all exact rfl) ?_ | refine x_slot (by with_unfolding_all exact of_decide_eq_true rfl) ?_ | refine x_nm (by with_unfolding_all exact of_decide_eq_true rfl) ?_ | refine o_ixL (by with_unfolding_all exact rfl) ?_ | refine o_ixT (by with_unfolding_all exact rfl) ?_ | refine o_isiB (b := true) (by with_unfolding_all exact rfl) ?_ | refine o_isiB (b := false) (by with_unfolding_all exact rfl) ?_ | refine o_lenS' (by first | with_unfolding_all omega | assumption) ?_ | refine x_tp (by with_unfolding_all exact rfl) ?_ | refine x_fld (by with_unfolding_all exact rfl) (by with_unfolding_all exact rfl) ?_ | refine x_meth (by with_unfolding_all exact rfl) ⟨(by with_unfolding_all exact rfl), (by with_unfolding_all exact rfl)⟩ ?_ | refine o_pow (by with_unfolding_all decide) ?_ | refine o_mulR (by with_unfolding_all decide) ?_ | refine o_mulL (by with_unfolding_all decide) ?_ | refine o_mulL (by with_unfolding_all omega) ?_ | refine o_mod (by first | assumption | with_unfolding_all decide) ?_ | refine o_div (by first | assumption | with_unfolding_all decide) (by first | assumption | with_unfolding_all decide) ?_)))
theorem law_ok (ns : List Int) (hn : ns.length ≤ 63) : wf (F_law [.lst (ns.map D.int)]) fun d outs => d = .bl true := by
  unfold F_law
  with_reducible refine w_fn ?_
  unfold m_law
  and_intros
  refine f_use (pool_ok ns 0) ?_
  rintro d outs ⟨p, q, rfl⟩
  and_intros
  refine ⟨rfl, ?_⟩
  and_intros
  show wfx _ (F_law_texts [pool p q]) _
  refine f_use (texts_ok p q) ?_
  rintro d outs ⟨T, p, q, rfl, rfl, ok⟩
  have l4 := ok.ls4
  have hb3 := ok.bg3
  unfold Texts.d
  and_intros
  refine u_draw (by omega) (by omega) ?_
  intro r p q r0 r1
  and_intros
  refine f_eq (copied_ok (sg := T.sg) (many := T.bg.length) (rooms := T.fs.length) ok.lsn (by omega) ok.fs3 (by omega) ok.fss) ?_
  and_intros
  refine f_use (pieces_ok T.td (by have := ok.td1; have := ok.fs3; omega)) ?_
  rintro d outs rfl
  and_intros
  generalize hls : (if decide (r = 1) = true then T.ls.reverse else T.ls) = ls'
  have hl1 : ls'.length = T.ls.length := by rw [← hls]; split <;> simp
  have hl2 : ∀ c ∈ T.ls, c ∈ ls' := by intro c hc; rw [← hls]; split <;> simp [hc]
  refine wf_imp (wf_impE (init_ok ok hl1 hl2) (fun _ _ h => h) fun _ _ h => h.elim) ?_
  rintro d outs ⟨rfl, rfl⟩
  refine x_mk ?_
  and_intros
  rw [List.length_map]
  refine w_loop (fun i ρ => ∃ p q x9 x10 x11 x12 x13 x14, ρ = [some (.lst (ns.map D.int)), some (pool p q), some (.str (S T.ls)), some (.str (S T.sg)), some (.lst (T.bg.map strD)), some (stepsD T.ls T.fs), some (.lst (T.td.map pieceD)), some (stepsD ls' T.fs), some (writerD T), x9, x10, x11, x12, x13, x14]) ⟨p, q, none, none, none, none, none, none, rfl⟩ ?_ ?_
  · rintro i d ρ hd ⟨p0, q0, x9, x10, x11, x12, x13, x14, rfl⟩
    obtain ⟨j, hj, rfl⟩ := map_at hd
    refine ⟨_, rfl, ?_⟩
    and_intros
    rw [show (1 + (j : Int)) = ((1 + j : Nat) : Int) by omega]
    refine f_use (pool_ok ns (1 + j)) ?_
    rintro d outs ⟨p, q, rfl⟩
    and_intros
    refine ⟨rfl, ?_⟩
    and_intros
    refine u_draw (by omega) (by omega) ?_
    intro r p q r0 r1
    and_intros
    obtain ⟨c, h1, h2⟩ := at_in (l := [D.int 0, D.int 0, D.int 0, D.int 7]) r0 (by simp; omega)
    have hc : c = .int 0 ∨ c = .int 7 := by
      have := List.mem_of_getElem? h2
      simpa using this
    refine o_ixL h1 ?_
    obtain ⟨least, rfl, hle⟩ : ∃ least : Int, c = .int least ∧ (least = 0 ∨ least = 7) := by
      rcases hc with rfl | rfl
      · exact ⟨0, rfl, .inl rfl⟩
      · exact ⟨7, rfl, .inr rfl⟩
    and_intros
    refine u_row ok.ls1 (by omega) (by omega) (by omega) (by omega) ?_
    intro row p q hrl hrc
    and_intros
    refine f_use (cut_ok ok hrc (by omega)) ?_
    rintro d outs ⟨row, rfl, rfl, good⟩
    and_intros
    refine f_eq (law_run_ok ok good) ?_
    have hos := run_okSt ok row good.ls
    obtain ⟨t, ht, htm, hte⟩ := td_at ok hos.1
    have hl := told_len ok hos fun r hr => by have := good.last r hr; omega
    have htold : joinT (runT T row).2 t = toldT T (runT T row) := by unfold toldT; rw [hte]
    rw [← htold] at hl
    and_intros
    unfold stD
    and_intros
    refine o_ixN (d := pieceD t) (by rw [List.getElem?_map, ht]; rfl) ?_
    and_intros
    refine f_eq (joined_ok (sg := T.sg) (.inr rfl) (by rw [hos.2]; exact ok.tds t htm) hl) ?_
    rw [htold]
    and_intros
    refine u_row ok.ls1 (by omega) (by omega) (by omega) (by omega) ?_
    intro row2 p q hrl2 hrc2
    and_intros
    show wfx _ (F_law_bad_row [pool p q, .str (S T.ls), .str (S row2)]) _
    refine f_use (bad_row_ok ok (by omega) p q) ?_
    rintro bad outs ⟨p, q, rfl, hbad⟩
    and_intros
    refine u_draw (by omega) (by omega) ?_
    intro r p q r0 r1
    and_intros
    refine f_eq (told_ok ok good (by omega)) ?_
    and_intros
    refine f_eq (refused_ok hbad) ?_
    and_intros
    refine f_eq (refused_ok hbad) ?_
    and_intros
    refine f_eq (told_ok ok good (by omega)) ?_
    and_intros
    exact ⟨_, _, _, _, _, _, _, _, rfl⟩
  · rintro ρ ⟨p, q, x9, x10, x11, x12, x13, x14, rfl⟩
    and_intros
    rfl
theorem law_holds (ns : List Int) (hn : ns.length ≤ 63) : ∃ outs, F_law [.lst (ns.map D.int)] = .ok (.bl true) outs := by
  obtain ⟨d, outs, e, h⟩ := wf_of (law_ok ns hn)
  subst h
  exact ⟨outs, e⟩
end Wk29
open PySem PySem.W PySem.Calls PyProof.Rows
set_option maxHeartbeats 0 in
theorem PySem.Challenge.cw_madeanew_k29_text_writer_runs_holds : PySem.Challenge.rw_madeanew_k29_text_writer_runs.Holds := by
  w_on; o_law
  refine HandSHeadRun.head_any (r := OpenLaw.row PySem.Challenge.rw_madeanew_k29_text_writer_runs) (q := view (OpenLaw.row PySem.Challenge.rw_madeanew_k29_text_writer_runs).prog [47]) (H := @Wk29.hk) (ob := @Wk29.ob) (M := 4000) (loose := @Wk29.loose) (d := HandSHeadRun.topDef (OpenLaw.row PySem.Challenge.rw_madeanew_k29_text_writer_runs).prog 47) (kwd := []) @Wk29.ob_eq
    (by kernel_rfl) (fun s => by kernel_rfl) @Wk29.run (by kernel_rfl) (by kernel_rfl) (by kernel_rfl) (by rfl) (by first | assumption | decide +kernel) (by decide +kernel) ⟨rfl, rfl, rfl, rfl, rfl, by decide +kernel⟩ ?hw ?hc
  case hw => w_witness2
  case hc =>
    refine Ip.law_end (lw := PySem.Challenge.rw_madeanew_k29_text_writer_runs) (nn := 63) (kk := 8) (xx := "_law_script") rfl (by decide) (by kernel_rfl) ⟨rfl, by decide, by decide⟩ ?F
    intro w mg fa h Y G hmg0
    obtain ⟨K, KX, c⟩ := Y
    have hmg : mg ("law" : PySem.Str) = some (.ref fa) := by
      have e : (HandSHeadRun.topDef (OpenLaw.row PySem.Challenge.rw_madeanew_k29_text_writer_runs).prog 47).name = ("law" : PySem.Str) := by kernel_rfl
      rw [← e]
      exact hmg0
    obtain ⟨fd, hb, hF⟩ := Wk29.facts (P := PySem.Challenge.rw_madeanew_k29_text_writer_runs.prog) (w := w) KX G hmg c
    exact ⟨K, fd, _, KX, hb, fun H a ns hl _ hS => Ip.law_sp (Wk29.law_holds ns hl) hS, fun base _ _ => hF base⟩
