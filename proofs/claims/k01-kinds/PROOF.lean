import PyProof.Rows.All
import Wide.All
import OpenK.AllK
import Wide.FinOn
import HandS.ForMost
import HandS.Exc
import HandS.TryOnly
import HandS.ExcOwn
import HandS.WordsExc
import HandS.IsInst
import KE.DataEq
import KE.DataCmp
import KE.SortData
import HandS.TupAny
import HandS.Wide
import HandS.Zip
import HandS.Set
import HandS.Strs
import HandS.TupSets
import HandS.Style
import HandS.Text
import HandS.Dict
import PyProof.Rows.IntBool
import KE.KRevSl
import KE.KStateDown
import HandS.Ends
import HandS.More
import HandS.Words
import HandS.Defaults
import HandS.Head0
import HandS.Head1
import HandS.Head2
import HandS.HeadEnd
import HandS.HeadHook1
import HandS.HeadHook2
import PySem.Challenge.RW_rebuiltby_k01_kinds
/-! text RBase -/
section
set_option Elab.async false
set_option linter.all false
set_option maxRecDepth 100000
set_option maxHeartbeats 4000000
/-! RBase: plain data over the hand layer: what a piece of Python denotes, as a Lean function over data and a store. -/
namespace RB
open PySem PySem.Spec PyProof.Rows L2

/-- plain data: nothing in it can change -/
abbrev D := PyData

/-- what an address of the store holds -/
inductive Ob where
  | lst (xs : List D)
  | dic (kvs : List (Key × D))
  /-- a list that changes no more -/
  | frz (xs : List D)

/-- a value: data, a thing of the shared store, a thing of this frame's own store, the script -/
inductive Rv where
  | v (d : D) | loc (n : Nat) | own (n : Nat) | scr (ns : List Int)

abbrev Sto := List Ob
abbrev Vn := List (Option Rv)
/-- an exception: its class by name, its fields -/
structure Exn where
  cls : Str
  fs : List (Str × D)

section
variable (K : PySem.W.Frag) (G : Hp)
mutual
inductive Rep : V → D → Prop
  | non : Rep .non .none
  | bl (b : Bool) : Rep (.bl b) (.bool b)
  | int (i : Int) : Rep (.int i) (.int i)
  | str (x : Str) : Rep (.str x) (.str x)
  | tup {a : Addr} {xs : List V} {ds : List D} : SqT K G a xs → Reps xs ds → Rep (.ref a) (.tuple ds)
  | lst {a : Addr} {xs : List V} {ds : List D} : G a = some (.lst xs) → Reps xs ds → Rep (.ref a) (.list ds)
inductive Reps : List V → List D → Prop
  | nil : Reps [] []
  | cons {x : V} {xs : List V} {d : D} {ds : List D} : Rep x d → Reps xs ds → Reps (x :: xs) (d :: ds)
end
end

theorem sqT_mono {K : PySem.W.Frag} {H H' : Hp} {a : Addr} {xs : List V} (e : Same H H') (h : SqT K H a xs) : SqT K H' a xs := by
  rcases h with (h | ⟨o, h⟩) | h
  · exact .inl (.inl (e _ _ h))
  · exact .inl (.inr ⟨o, e _ _ h⟩)
  · exact .inr h

section
variable {K : PySem.W.Frag} {G G' : Hp}
mutual
theorem Rep.mono (e : Same G G') : ∀ {x : V} {d : D}, Rep K G x d → Rep K G' x d
  | _, _, .non => .non
  | _, _, .bl b => .bl b
  | _, _, .int i => .int i
  | _, _, .str x => .str x
  | _, _, .tup h r => .tup (sqT_mono e h) (Reps.mono e r)
  | _, _, .lst h r => .lst (e _ _ h) (Reps.mono e r)
theorem Reps.mono (e : Same G G') : ∀ {xs : List V} {ds : List D}, Reps K G xs ds → Reps K G' xs ds
  | _, _, .nil => .nil
  | _, _, .cons h r => .cons (Rep.mono e h) (Reps.mono e r)
end
theorem Reps.length : ∀ {xs : List V} {ds : List D}, Reps K G xs ds → xs.length = ds.length
  | _, _, .nil => rfl
  | _, _, .cons _ r => by rw [List.length_cons, List.length_cons, Reps.length r]
theorem Reps.get : ∀ {xs : List V} {ds : List D} {i : Nat} {d : D}, Reps K G xs ds → ds[i]? = some d → ∃ x, xs[i]? = some x ∧ Rep K G x d
  | _, _, _, _, .nil, e => by simp at e
  | _, _, 0, _, .cons h _, e => by simp at e; subst e; exact ⟨_, rfl, h⟩
  | _, _, i + 1, d, .cons _ r, e => by
    obtain ⟨x, h1, h2⟩ := Reps.get (i := i) (d := d) r (by simpa using e)
    exact ⟨x, by simpa using h1, h2⟩
theorem Reps.getV : ∀ {xs : List V} {ds : List D} {i : Nat} {x : V}, Reps K G xs ds → xs[i]? = some x → ∃ d, ds[i]? = some d ∧ Rep K G x d
  | _, _, _, _, .nil, e => by simp at e
  | _, _, 0, _, .cons h _, e => by simp at e; subst e; exact ⟨_, rfl, h⟩
  | _, _, i + 1, d, .cons _ r, e => by
    obtain ⟨x, h1, h2⟩ := Reps.getV (i := i) (x := d) r (by simpa using e)
    exact ⟨x, by simpa using h1, h2⟩
theorem Reps.append : ∀ {xs ys : List V} {ds es : List D}, Reps K G xs ds → Reps K G ys es → Reps K G (xs ++ ys) (ds ++ es)
  | _, _, _, _, .nil, s => s
  | _, _, _, _, .cons h r, s => .cons h (Reps.append r s)
theorem Reps.take : ∀ {xs : List V} {ds : List D} (n : Nat), Reps K G xs ds → Reps K G (xs.take n) (ds.take n)
  | _, _, 0, _ => .nil
  | _, _, _ + 1, .nil => .nil
  | _, _, n + 1, .cons h r => .cons h (Reps.take n r)
theorem Reps.drop : ∀ {xs : List V} {ds : List D} (n : Nat), Reps K G xs ds → Reps K G (xs.drop n) (ds.drop n)
  | _, _, 0, r => r
  | _, _, _ + 1, .nil => .nil
  | _, _, n + 1, .cons _ r => Reps.drop n r
theorem Reps.reverse : ∀ {xs : List V} {ds : List D}, Reps K G xs ds → Reps K G xs.reverse ds.reverse
  | _, _, .nil => .nil
  | _, _, .cons h r => by
    rw [List.reverse_cons, List.reverse_cons]
    exact Reps.append (Reps.reverse r) (.cons h .nil)
end

/-! ### the store -/
/-- the thing at a is o -/
def ROb (K : PySem.W.Frag) (G H : Hp) (a : Addr) : Ob → Prop
  | .lst ds => ∃ vs, H a = some (.lst vs) ∧ G a = none ∧ Reps K G vs ds
  | .dic kvs => ∃ ws, H a = some (.dK ws) ∧ G a = none ∧ ws.map (·.1) = kvs.map (·.1) ∧ Reps K G (ws.map (·.2)) (kvs.map (·.2))
  | .frz ds => ∃ vs, H a = some (.lst vs) ∧ G a = some (.lst vs) ∧ Reps K G vs ds
theorem ROb.held {K : PySem.W.Frag} {G H : Hp} {a : Addr} {o : Ob} (h : ROb K G H a o) : ∃ u, H a = some u := by
  cases o with
  | lst ds => obtain ⟨_, h, _⟩ := h; exact ⟨_, h⟩
  | dic kvs => obtain ⟨_, h, _⟩ := h; exact ⟨_, h⟩
  | frz ds => obtain ⟨_, h, _⟩ := h; exact ⟨_, h⟩
theorem ROb.mono {K : PySem.W.Frag} {G G' H H' : Hp} {a : Addr} {o : Ob} (e : Same G G') (hn : G a = none → G' a = none) (hh : ∀ u, H a = some u → H' a = some u) (h : ROb K G H a o) : ROb K G' H' a o := by
  cases o with
  | lst ds => obtain ⟨vs, h1, h2, h3⟩ := h; exact ⟨vs, hh _ h1, hn h2, h3.mono e⟩
  | dic kvs => obtain ⟨vs, h1, h2, h3, h4⟩ := h; exact ⟨vs, hh _ h1, hn h2, h3, h4.mono e⟩
  | frz ds => obtain ⟨vs, h1, h2, h3⟩ := h; exact ⟨vs, hh _ h1, e _ _ h2, h3.mono e⟩

/-- the heap H holds the frozen G and, at L and M, the stores S and T -/
structure Fits (K : PySem.W.Frag) (G H : Hp) (L M : List Addr) (T S : Sto) : Prop where
  sub : Same G H
  nd : (L ++ M).Nodup
  lenL : L.length = S.length
  lenM : M.length = T.length
  obL : ∀ (n : Nat) (a : Addr) (o : Ob), L[n]? = some a → S[n]? = some o → ROb K G H a o
  obM : ∀ (n : Nat) (a : Addr) (o : Ob), M[n]? = some a → T[n]? = some o → ROb K G H a o

/-- what may change -/
structure Ext (G H : Hp) (L M : List Addr) (G' H' : Hp) (L' M' : List Addr) : Prop where
  gm : Same G G'
  lp : L <+: L'
  mp : M <+: M'
  keep : ∀ a o, H a = some o → a ∉ L → a ∉ M → H' a = some o
  dom : ∀ a o, H a = some o → ∃ o', H' a = some o'
  gn : ∀ a o, G' a = some o → G a = some o ∨ H a = none ∨ a ∈ M
  ln : ∀ a, a ∈ L' → a ∈ L ∨ H a = none
  mn : ∀ a, a ∈ M' → a ∈ M ∨ H a = none

theorem Ext.refl (G H : Hp) (L M : List Addr) : Ext G H L M G H L M :=
  ⟨Same.refl G, List.prefix_refl L, List.prefix_refl M, fun _ _ h _ _ => h, fun _ o h => ⟨o, h⟩, fun _ _ h => .inl h, fun _ h => .inl h, fun _ h => .inl h⟩
theorem Ext.trans {G H G1 H1 G2 H2 : Hp} {L M L1 M1 L2 M2 : List Addr} (a : Ext G H L M G1 H1 L1 M1) (b : Ext G1 H1 L1 M1 G2 H2 L2 M2) : Ext G H L M G2 H2 L2 M2 where
  gm := a.gm.trans b.gm
  lp := a.lp.trans b.lp
  mp := a.mp.trans b.mp
  keep := fun x o h hl hm => b.keep x o (a.keep x o h hl hm) (fun z => (a.ln x z).elim hl fun q => by rw [h] at q; cases q) fun z => (a.mn x z).elim hm fun q => by rw [h] at q; cases q
  dom := fun x o h => let ⟨o1, h1⟩ := a.dom x o h; b.dom x o1 h1
  gn := fun x o h => by
    rcases b.gn x o h with q | q | q
    · exact a.gn x o q
    · cases e : H x with
      | none => exact .inr (.inl rfl)
      | some u => obtain ⟨o1, h1⟩ := a.dom x u e; rw [q] at h1; cases h1
    · rcases a.mn x q with z | z
      · exact .inr (.inr z)
      · exact .inr (.inl z)
  ln := fun x h => by
    rcases b.ln x h with q | q
    · exact a.ln x q
    · cases e : H x with
      | none => exact .inr rfl
      | some u => obtain ⟨o1, h1⟩ := a.dom x u e; rw [q] at h1; cases h1
  mn := fun x h => by
    rcases b.mn x h with q | q
    · exact a.mn x q
    · cases e : H x with
      | none => exact .inr rfl
      | some u => obtain ⟨o1, h1⟩ := a.dom x u e; rw [q] at h1; cases h1

/-- a value of the layer below stands for a value here -/
def RepR (K : PySem.W.Frag) (G : Hp) (L M : List Addr) (x : V) : Rv → Prop
  | .v d => Rep K G x d
  | .loc n => ∃ a, L[n]? = some a ∧ x = .ref a
  | .own n => ∃ a, M[n]? = some a ∧ x = .ref a
  | .scr ns => ∃ a, x = .ref a ∧ SqL K G a (ns.map V.int)
inductive RepRs (K : PySem.W.Frag) (G : Hp) (L M : List Addr) : List V → List Rv → Prop
  | nil : RepRs K G L M [] []
  | cons {x : V} {xs : List V} {r : Rv} {rs : List Rv} : RepR K G L M x r → RepRs K G L M xs rs → RepRs K G L M (x :: xs) (r :: rs)
theorem pre_get {α : Type} {l l' : List α} {n : Nat} {a : α} (h : l <+: l') (e : l[n]? = some a) : l'[n]? = some a := by
  obtain ⟨t, rfl⟩ := h
  rw [List.getElem?_append_left (List.getElem?_eq_some_iff.mp e).1]
  exact e
section
variable {K : PySem.W.Frag} {G H G' H' : Hp} {L M L' M' : List Addr} {T S T' S' : Sto}
theorem RepR.monoL {x : V} {r : Rv} (g : Same G G') (lp : L <+: L') (mp : M <+: M') (h : RepR K G L M x r) : RepR K G' L' M' x r := by
  cases r with
  | v d => exact Rep.mono g h
  | loc n => obtain ⟨a, h1, h2⟩ := h; exact ⟨a, pre_get lp h1, h2⟩
  | own n => obtain ⟨a, h1, h2⟩ := h; exact ⟨a, pre_get mp h1, h2⟩
  | scr ns => obtain ⟨a, h1, h2⟩ := h; exact ⟨a, h1, g.seq h2⟩
theorem RepR.mono {x : V} {r : Rv} (e : Ext G H L M G' H' L' M') (h : RepR K G L M x r) : RepR K G' L' M' x r := h.monoL e.gm e.lp e.mp
theorem RepRs.mono (e : Ext G H L M G' H' L' M') : ∀ {xs : List V} {rs : List Rv}, RepRs K G L M xs rs → RepRs K G' L' M' xs rs
  | _, _, .nil => .nil
  | _, _, .cons h r => .cons (h.mono e) (RepRs.mono e r)
theorem RepRs.length : ∀ {xs : List V} {rs : List Rv}, RepRs K G L M xs rs → xs.length = rs.length
  | _, _, .nil => rfl
  | _, _, .cons _ r => by rw [List.length_cons, List.length_cons, RepRs.length r]

/-- the slots -/
def Slots (K : PySem.W.Frag) (G : Hp) (L M : List Addr) (ρ : Vn) (σ : L2.St) : Prop :=
  ∀ (i : Nat) (r : Rv), ρ[i]? = some (some r) → ∃ x, σ[i]? = some (some x) ∧ RepR K G L M x r
theorem Slots.mono {ρ : Vn} {σ : L2.St} (e : Ext G H L M G' H' L' M') (h : Slots K G L M ρ σ) : Slots K G' L' M' ρ σ := fun i r hr => by
  obtain ⟨x, h1, h2⟩ := h i r hr
  exact ⟨x, h1, h2.mono e⟩
theorem Slots.set {ρ : Vn} {σ : L2.St} {i : Nat} {x : V} {r : Rv} (h : Slots K G L M ρ σ) (hl : ρ.length = σ.length) (hr : RepR K G L M x r) : Slots K G L M (ρ.set i (some r)) (σ.set i (some x)) := fun j q hq => by
  by_cases e : i = j
  · subst e
    have hi : i < ρ.length := by
      have := (List.getElem?_eq_some_iff.mp hq).1
      rw [List.length_set] at this
      exact this
    rw [List.getElem?_set_self hi] at hq
    cases hq
    exact ⟨x, List.getElem?_set_self (by rw [← hl]; exact hi), hr⟩
  · rw [List.getElem?_set_ne e] at hq ⊢
    exact h j q hq
theorem Slots.unset {ρ : Vn} {σ : L2.St} {i : Nat} {y : Option V} (h : Slots K G L M ρ σ) : Slots K G L M (ρ.set i none) (σ.set i y) := fun j q hq => by
  by_cases e : i = j
  · subst e
    have hi : i < ρ.length := by
      have := (List.getElem?_eq_some_iff.mp hq).1
      rw [List.length_set] at this
      exact this
    rw [List.getElem?_set_self hi] at hq
    cases hq
  · rw [List.getElem?_set_ne e] at hq ⊢
    exact h j q hq

/-! ### moves of the heap -/
/-- a new frozen thing -/
theorem Fits.new {p : Addr} {o : HO} (f : Fits K G H L M T S) (hp : H p = none) : Ext G H L M (upd G p o) (upd H p o) L M ∧ Fits K (upd G p o) (upd H p o) L M T S := by
  have gp : G p = none := f.sub.free hp
  have g1 : Same G (upd G p o) := fun a u h => by rw [upd_ne (ne_of_none h gp)]; exact h
  have h1 : Same H (upd H p o) := fun a u h => by rw [upd_ne (ne_of_none h hp)]; exact h
  have nn : ∀ a u, H a = some u → G a = none → upd G p o a = none := fun a u ha hg => by rw [upd_ne (ne_of_none ha hp)]; exact hg
  refine ⟨⟨g1, List.prefix_refl L, List.prefix_refl M, fun a u h _ _ => h1 a u h, fun a u h => ⟨u, h1 a u h⟩, fun a u h => ?_, fun _ h => .inl h, fun _ h => .inl h⟩,
    ⟨fun a u h => ?_, f.nd, f.lenL, f.lenM, fun n a q e1 e2 => ?_, fun n a q e1 e2 => ?_⟩⟩
  · by_cases ha : a = p
    · subst ha; exact .inr (.inl hp)
    · rw [upd_ne ha] at h; exact .inl h
  · by_cases ha : a = p
    · subst ha; rw [upd_same] at h ⊢; exact h
    · rw [upd_ne ha] at h ⊢; exact f.sub a u h
  · have b := f.obL n a q e1 e2
    obtain ⟨u, hu⟩ := ROb.held b
    exact ROb.mono g1 (nn a u hu) (fun z hz => h1 a z hz) b
  · have b := f.obM n a q e1 e2
    obtain ⟨u, hu⟩ := ROb.held b
    exact ROb.mono g1 (nn a u hu) (fun z hz => h1 a z hz) b
/-- all that was tracked is kept -/
theorem Fits.kept (f : Fits K G H L M T S) (h1 : Same H H') : Ext G H L M G H' L M ∧ Fits K G H' L M T S :=
  ⟨⟨Same.refl G, List.prefix_refl L, List.prefix_refl M, fun a u h _ _ => h1 a u h, fun a u h => ⟨u, h1 a u h⟩, fun a u h => .inl h, fun _ h => .inl h, fun _ h => .inl h⟩,
   ⟨f.sub.trans h1, f.nd, f.lenL, f.lenM, fun n a q e1 e2 => ROb.mono (Same.refl G) (fun z => z) (fun z hz => h1 a z hz) (f.obL n a q e1 e2), fun n a q e1 e2 => ROb.mono (Same.refl G) (fun z => z) (fun z hz => h1 a z hz) (f.obM n a q e1 e2)⟩⟩
theorem nd_get {A : List Addr} (h : A.Nodup) {i j : Nat} {a : Addr} (e1 : A[i]? = some a) (e2 : A[j]? = some a) : i = j := by
  obtain ⟨h1, q1⟩ := List.getElem?_eq_some_iff.mp e1
  obtain ⟨h2, q2⟩ := List.getElem?_eq_some_iff.mp e2
  exact (List.getElem_inj h).mp (q1.trans q2.symm)
theorem Fits.ndL (f : Fits K G H L M T S) : L.Nodup := (List.nodup_append.mp f.nd).1
theorem Fits.ndM (f : Fits K G H L M T S) : M.Nodup := (List.nodup_append.mp f.nd).2.1
theorem Fits.apart (f : Fits K G H L M T S) {a : Addr} (h1 : a ∈ L) (h2 : a ∈ M) : False := (List.nodup_append.mp f.nd).2.2 a h1 a h2 rfl
/-- a new thing of the frame's own -/
theorem Fits.newM {p : Addr} {u : HO} {o : Ob} (f : Fits K G H L M T S) (hp : H p = none) (ho : ROb K G (upd H p u) p o) :
    Ext G H L M G (upd H p u) L (M ++ [p]) ∧ Fits K G (upd H p u) L (M ++ [p]) (T ++ [o]) S := by
  have h1 : Same H (upd H p u) := fun a x h => by rw [upd_ne (ne_of_none h hp)]; exact h
  have nl : p ∉ L := fun z => by
    obtain ⟨n, hn⟩ := List.mem_iff_getElem?.mp z
    have hl : n < S.length := by rw [← f.lenL]; exact (List.getElem?_eq_some_iff.mp hn).1
    obtain ⟨x, hx⟩ := ROb.held (f.obL n p _ hn (List.getElem?_eq_getElem hl))
    rw [hp] at hx; cases hx
  have nm : p ∉ M := fun z => by
    obtain ⟨n, hn⟩ := List.mem_iff_getElem?.mp z
    have hl : n < T.length := by rw [← f.lenM]; exact (List.getElem?_eq_some_iff.mp hn).1
    obtain ⟨x, hx⟩ := ROb.held (f.obM n p _ hn (List.getElem?_eq_getElem hl))
    rw [hp] at hx; cases hx
  refine ⟨⟨Same.refl G, List.prefix_refl L, List.prefix_append M [p], fun a x h _ _ => h1 a x h, fun a x h => ⟨x, h1 a x h⟩, fun a x h => .inl h, fun _ h => .inl h, fun a h => ?_⟩,
    ⟨f.sub.trans h1, ?_, f.lenL, by rw [List.length_append, List.length_append, f.lenM]; rfl, fun n a q e1 e2 => ROb.mono (Same.refl G) (fun z => z) (fun z hz => h1 a z hz) (f.obL n a q e1 e2), fun n a q e1 e2 => ?_⟩⟩
  · rcases List.mem_append.mp h with z | z
    · exact .inl z
    · rw [List.mem_singleton] at z; subst z; exact .inr hp
  · rw [← List.append_assoc]
    refine List.nodup_append.mpr ⟨f.nd, List.nodup_cons.mpr ⟨by simp, List.nodup_nil⟩, fun a ha b hb e => ?_⟩
    rw [List.mem_singleton] at hb
    subst hb; subst e
    exact (List.mem_append.mp ha).elim nl nm
  · by_cases hn : n < M.length
    · rw [List.getElem?_append_left hn] at e1
      rw [List.getElem?_append_left (by rw [← f.lenM]; exact hn)] at e2
      exact ROb.mono (Same.refl G) (fun z => z) (fun z hz => h1 a z hz) (f.obM n a q e1 e2)
    · rw [List.getElem?_append_right (by omega)] at e1
      rw [List.getElem?_append_right (by have := f.lenM; omega)] at e2
      have hz : n - M.length = 0 := by
        have := (List.getElem?_eq_some_iff.mp e1).1
        simp at this
        omega
      rw [hz] at e1
      rw [← f.lenM, hz] at e2
      cases e1; cases e2
      exact ho
/-- a thing of the frame's own changes -/
theorem Fits.setM {n : Nat} {a : Addr} {u : HO} {o : Ob} (f : Fits K G H L M T S) (ha : M[n]? = some a) (hg : G a = none) (ho : ROb K G (upd H a u) a o) :
    Ext G H L M G (upd H a u) L M ∧ Fits K G (upd H a u) L M (T.set n o) S := by
  have am : a ∈ M := List.mem_of_getElem? ha
  refine ⟨⟨Same.refl G, List.prefix_refl L, List.prefix_refl M, fun b x h _ hm => by rw [upd_ne (fun z => hm (by rw [z]; exact am))]; exact h, fun b x h => ?_, fun b x h => .inl h, fun _ h => .inl h, fun _ h => .inl h⟩,
    ⟨fun b x h => by rw [upd_ne (ne_of_none h hg)]; exact f.sub b x h, f.nd, f.lenL, by rw [List.length_set]; exact f.lenM, fun k b q e1 e2 => ROb.mono (Same.refl G) (fun z => z) (fun z hz => ?_) (f.obL k b q e1 e2), fun k b q e1 e2 => ?_⟩⟩
  · by_cases e : b = a
    · subst e; exact ⟨u, upd_same⟩
    · rw [upd_ne e]; exact ⟨x, h⟩
  · rw [upd_ne (fun e => f.apart (List.mem_of_getElem? e1) (by rw [e]; exact am))]; exact hz
  · by_cases e : n = k
    · subst e
      rw [ha] at e1; cases e1
      rw [List.getElem?_set_self (by rw [← f.lenM]; exact (List.getElem?_eq_some_iff.mp ha).1)] at e2
      cases e2
      exact ho
    · rw [List.getElem?_set_ne e] at e2
      refine ROb.mono (Same.refl G) (fun z => z) (fun z hz => ?_) (f.obM k b q e1 e2)
      rw [upd_ne (show b ≠ a from fun w => e (nd_get f.ndM ha (by rw [← w]; exact e1)))]; exact hz
/-- a thing of the shared store changes -/
theorem Fits.setL {n : Nat} {a : Addr} {u : HO} {o : Ob} (f : Fits K G H L M T S) (ha : L[n]? = some a) (hg : G a = none) (ho : ROb K G (upd H a u) a o) :
    Ext G H L M G (upd H a u) L M ∧ Fits K G (upd H a u) L M T (S.set n o) := by
  have am : a ∈ L := List.mem_of_getElem? ha
  refine ⟨⟨Same.refl G, List.prefix_refl L, List.prefix_refl M, fun b x h hm _ => by rw [upd_ne (fun z => hm (by rw [z]; exact am))]; exact h, fun b x h => ?_, fun b x h => .inl h, fun _ h => .inl h, fun _ h => .inl h⟩,
    ⟨fun b x h => by rw [upd_ne (ne_of_none h hg)]; exact f.sub b x h, f.nd, by rw [List.length_set]; exact f.lenL, f.lenM, fun k b q e1 e2 => ?_, fun k b q e1 e2 => ROb.mono (Same.refl G) (fun z => z) (fun z hz => ?_) (f.obM k b q e1 e2)⟩⟩
  · by_cases e : b = a
    · subst e; exact ⟨u, upd_same⟩
    · rw [upd_ne e]; exact ⟨x, h⟩
  · by_cases e : n = k
    · subst e
      rw [ha] at e1; cases e1
      rw [List.getElem?_set_self (by rw [← f.lenL]; exact (List.getElem?_eq_some_iff.mp ha).1)] at e2
      cases e2
      exact ho
    · rw [List.getElem?_set_ne e] at e2
      refine ROb.mono (Same.refl G) (fun z => z) (fun z hz => ?_) (f.obL k b q e1 e2)
      rw [upd_ne (show b ≠ a from fun w => e (nd_get f.ndL ha (by rw [← w]; exact e1)))]; exact hz
  · rw [upd_ne (fun e => f.apart (by rw [← e] at am; exact am) (List.mem_of_getElem? e1))]; exact hz
end

/-! ### data that is told is plain, and reads as itself -/
section
variable {K : PySem.W.Frag} {G H : Hp}
mutual
theorem Rep.plain : ∀ {x : V} {d : D}, Rep K G x d → d.plain = true
  | _, _, .non => rfl
  | _, _, .bl b => rfl
  | _, _, .int i => rfl
  | _, _, .str x => rfl
  | _, _, .tup _ r => Reps.plain r
  | _, _, .lst _ r => Reps.plain r
theorem Reps.plain : ∀ {xs : List V} {ds : List D}, Reps K G xs ds → PyData.plainAll ds = true
  | _, _, .nil => rfl
  | _, _, .cons h r => by
    show (PyData.plain _ && PyData.plainAll _) = true
    rw [Rep.plain h, Reps.plain r]; rfl
end
mutual
theorem Rep.dp (e : Same G H) : ∀ {x : V} {d : D}, Rep K G x d → Dp K H x d
  | _, _, .non => .non
  | _, _, .bl b => .bl b
  | _, _, .int i => .int i
  | _, _, .str x => .str x
  | _, _, .tup h r => .tup (sqT_mono e h) (Reps.dp e r)
  | _, _, .lst h r => .lst (.inl (.inl (e _ _ h))) (Reps.dp e r)
theorem Reps.dp (e : Same G H) : ∀ {xs : List V} {ds : List D}, Reps K G xs ds → DpAll K H xs ds
  | _, _, .nil => .nil
  | _, _, .cons h r => .cons (Rep.dp e h) (Reps.dp e r)
end
end
end RB

end

/-! text RSem -/
section
set_option Elab.async false
set_option linter.all false
set_option maxRecDepth 100000
set_option maxHeartbeats 4000000
/-! RSem: judgements: a piece of Python denotes a Lean function. -/
namespace RB
open PySem PySem.Spec PyProof.Rows L2

inductive Res (α : Type) where
  | ok (a : α) (T S : Sto)
  | exn (x : Exn) (T S : Sto)
  | bad
abbrev EM (α : Type) := Vn → Sto → Sto → Res α
def Res.bind {α β : Type} (r : Res α) (k : α → Sto → Sto → Res β) : Res β := match r with
  | .ok a T S => k a T S
  | .exn x T S => .exn x T S
  | .bad => .bad
@[simp] theorem Res.bind_ok {α β : Type} (a : α) (T S : Sto) (k : α → Sto → Sto → Res β) : (Res.ok a T S).bind k = k a T S := rfl
@[simp] theorem Res.bind_exn {α β : Type} (x : Exn) (T S : Sto) (k : α → Sto → Sto → Res β) : (Res.exn x T S : Res α).bind k = .exn x T S := rfl
@[simp] theorem Res.bind_bad {α β : Type} (k : α → Sto → Sto → Res β) : (Res.bad : Res α).bind k = .bad := rfl

/-- an exception below stands for one here -/
def RepX (ct : Str → Option Addr) (K : PySem.W.Frag) (G H : Hp) (c : Value) (d : Option Addr) (x : Exn) : Prop :=
  ∃ C dx fs, ct x.cls = some C ∧ c = .ref C ∧ d = some dx ∧ H dx = some (.xd fs) ∧ fs.map (·.1) = x.fs.map (·.1) ∧ Reps K G (fs.map (·.2)) (x.fs.map (·.2))

section
variable (ct : Str → Option Addr) (K : PySem.W.Frag) (W : WX)
def Sat {α β : Type} (G H : Hp) (L M : List Addr) (σ : L2.St) (rel : Hp → List Addr → List Addr → β → α → Prop) (Q : β → Hp → Prop) : Res α → Prop
  | .ok a T' S' => ∀ G' H' L' M' y, Ext G H L M G' H' L' M' → Fits K G' H' L' M' T' S' → rel G' L' M' y a → Q y H'
  | .exn x T' S' => ∀ G' H' L' M' c d, Ext G H L M G' H' L' M' → Fits K G' H' L' M' T' S' → RepX ct K G' H' c d x → W c d σ H'
  | .bad => False
end
section
variable {ct : Str → Option Addr} {K : PySem.W.Frag} {W : WX} {α β γ δ : Type} {G H G1 H1 : Hp} {L M L1 M1 : List Addr} {σ : L2.St}
theorem Sat.pre {rel : Hp → List Addr → List Addr → β → α → Prop} {Q : β → Hp → Prop} {r : Res α} (e : Ext G H L M G1 H1 L1 M1) (h : Sat ct K W G H L M σ rel Q r) : Sat ct K W G1 H1 L1 M1 σ rel Q r := by
  cases r with
  | ok a T S => exact fun G' H' L' M' y e' f q => h G' H' L' M' y (e.trans e') f q
  | exn x T S => exact fun G' H' L' M' c d e' f q => h G' H' L' M' c d (e.trans e') f q
  | bad => exact h
theorem Sat.bind {rel : Hp → List Addr → List Addr → β → α → Prop} {rel2 : Hp → List Addr → List Addr → δ → γ → Prop} {Q1 : β → Hp → Prop} {Q2 : δ → Hp → Prop} {r : Res α} {k : α → Sto → Sto → Res γ}
    (h : Sat ct K W G H L M σ rel2 Q2 (r.bind k))
    (hk : ∀ a T' S' G' H' L' M' y, Ext G H L M G' H' L' M' → Fits K G' H' L' M' T' S' → rel G' L' M' y a → Sat ct K W G' H' L' M' σ rel2 Q2 (k a T' S') → Q1 y H') : Sat ct K W G H L M σ rel Q1 r := by
  cases r with
  | ok a T S => exact fun G' H' L' M' y e f q => hk a T S G' H' L' M' y e f q (Sat.pre e h)
  | exn x T S => exact h
  | bad => exact h
end

abbrev relB : Hp → List Addr → List Addr → Bool → Bool → Prop := fun _ _ _ b b' => b = b'
section
variable (ct : Str → Option Addr) (X : Cx) (W : WX)
def SE (e : Expr) (m : EM Rv) : Prop :=
  ∃ t, PE X e t ∧ ∀ (ρ : Vn) (T S : Sto) (G H : Hp) (L M : List Addr) (σ : L2.St) (Q : VK), ρ.length = σ.length → Fits X.K G H L M T S → Slots X.K G L M ρ σ → Sat ct X.K W G H L M σ (RepR X.K) Q (m ρ T S) → t σ H Q
def ST (e : Expr) (m : EM Bool) : Prop :=
  ∃ t, PT X e t ∧ ∀ (ρ : Vn) (T S : Sto) (G H : Hp) (L M : List Addr) (σ : L2.St) (Q : Bool → Hp → Prop), ρ.length = σ.length → Fits X.K G H L M T S → Slots X.K G L M ρ σ → Sat ct X.K W G H L M σ relB Q (m ρ T S) → t σ H Q
/-- a test made of and, or -/
def SW (e : Expr) (m : EM Bool) : Prop :=
  ∃ t, PW X e t ∧ ∀ (ρ : Vn) (T S : Sto) (G H : Hp) (L M : List Addr) (σ : L2.St) (Q : Bool → Hp → Prop), ρ.length = σ.length → Fits X.K G H L M T S → Slots X.K G L M ρ σ → Sat ct X.K W G H L M σ relB Q (m ρ T S) → t σ H Q
def SA (es : List Expr) (m : EM (List Rv)) : Prop :=
  ∃ t, PA X es t ∧ ∀ (ρ : Vn) (T S : Sto) (G H : Hp) (L M : List Addr) (σ : L2.St) (Q : List V → Hp → Prop), ρ.length = σ.length → Fits X.K G H L M T S → Slots X.K G L M ρ σ → Sat ct X.K W G H L M σ (RepRs X.K) Q (m ρ T S) → t σ H Q
/-- an operation on two values -/
def OpS (f : Value → Value → Sem Value) (o : Rv → Rv → Sto → Sto → Res Rv) : Prop :=
  ∃ r, OpR X f r ∧ ∀ (x y : V) (a b : Rv) (T S : Sto) (G H : Hp) (L M : List Addr) (σ : L2.St) (Q : VK), Fits X.K G H L M T S → RepR X.K G L M x a → RepR X.K G L M y b → Sat ct X.K W G H L M σ (RepR X.K) Q (o a b T S) → r x y H Q
def IxS (o : Rv → Rv → Sto → Sto → Res Rv) : Prop :=
  ∃ r, IxR X r ∧ ∀ (x y : V) (a b : Rv) (T S : Sto) (G H : Hp) (L M : List Addr) (σ : L2.St) (Q : VK), Fits X.K G H L M T S → RepR X.K G L M x a → RepR X.K G L M y b → Sat ct X.K W G H L M σ (RepR X.K) Q (o a b T S) → r x y H Q
def CallS (f : Value) (o : List Rv → Sto → Sto → Res Rv) : Prop :=
  ∃ r, CallR X f r ∧ ∀ (xs : List V) (rs : List Rv) (T S : Sto) (G H : Hp) (L M : List Addr) (σ : L2.St) (Q : VK), Fits X.K G H L M T S → RepRs X.K G L M xs rs → Sat ct X.K W G H L M σ (RepR X.K) Q (o rs T S) → r xs H Q
end

/-! ### names and constants -/
def getV (i : Nat) : EM Rv := fun ρ T S => match ρ[i]? with
  | some (some r) => .ok r T S
  | _ => .bad
def cst (d : D) : EM Rv := fun _ T S => .ok (.v d) T S
section
variable {ct : Str → Option Addr} {X : Cx} {W : WX} {pos : Pos}
theorem se_var {i : Nat} {x : Str} (hN : X.N[i]? = some x) (hv : Vis X.env.scope x) (hd : (x == ("__debug__" : Str)) = false) (hcd : (x == ("__classdict__" : Str)) = false) : SE ct X W (.Name x pos) (getV i) := by
  refine ⟨tVar i, pe_var hN hv hd hcd, fun ρ T S G H L M σ Q hl f sl h => ?_⟩
  unfold getV at h
  cases e : ρ[i]? with
  | none => rw [e] at h; exact h.elim
  | some o =>
    cases o with
    | none => rw [e] at h; exact h.elim
    | some r =>
      rw [e] at h
      obtain ⟨x, h1, h2⟩ := sl i r e
      exact ⟨x, h1, h G H L M x (Ext.refl G H L M) f h2⟩
theorem se_of {e : Expr} {v : V} {d : D} (h : PE X e (tC v)) (hr : ∀ G, Rep X.K G v d) : SE ct X W e (cst d) :=
  ⟨tC v, h, fun ρ T S G H L M σ Q hl f sl q => q G H L M v (Ext.refl G H L M) f (hr G)⟩
theorem se_int {i : Int} {j} : SE ct X W (.Constant (.int i) j pos) (cst (.int i)) := se_of pe_int fun _ => .int i
theorem se_bl {b : Bool} {j} : SE ct X W (.Constant (.bool b) j pos) (cst (.bool b)) := se_of pe_bl fun _ => .bl b
theorem se_non {j} : SE ct X W (.Constant .none j pos) (cst .none) := se_of pe_non fun _ => .non
theorem se_str {x : Str} {j} : SE ct X W (.Constant (.str x) j pos) (cst (.str x)) := se_of pe_str fun _ => .str x
theorem se_globI {x : Str} {i : Int} {t : Tok} (hg : Gl X x) (hm : X.mg x = some (.int i t)) (hd : (x == ("__debug__" : Str)) = false) : SE ct X W (.Name x pos) (cst (.int i)) := se_of (v := .int i) (pe_glob hg hm ⟨t, rfl⟩ hd) fun _ => .int i
theorem se_globS {x z : Str} {t : Tok} (hg : Gl X x) (hm : X.mg x = some (.str z t)) (hd : (x == ("__debug__" : Str)) = false) : SE ct X W (.Name x pos) (cst (.str z)) := se_of (v := .str z) (pe_glob hg hm ⟨t, rfl⟩ hd) fun _ => .str z

/-! ### two expressions -/
def bin (o : Rv → Rv → Sto → Sto → Res Rv) (ma mb : EM Rv) : EM Rv := fun ρ T S => (ma ρ T S).bind fun a T S => (mb ρ T S).bind fun b T S => o a b T S
variable {a b c : Expr} {ma mb mc : EM Rv}
theorem bin_ok {ta tb : TE} {r : R2} {o : Rv → Rv → Sto → Sto → Res Rv}
    (ha : ∀ (ρ : Vn) (T S : Sto) (G H : Hp) (L M : List Addr) (σ : L2.St) (Q : VK), ρ.length = σ.length → Fits X.K G H L M T S → Slots X.K G L M ρ σ → Sat ct X.K W G H L M σ (RepR X.K) Q (ma ρ T S) → ta σ H Q)
    (hb : ∀ (ρ : Vn) (T S : Sto) (G H : Hp) (L M : List Addr) (σ : L2.St) (Q : VK), ρ.length = σ.length → Fits X.K G H L M T S → Slots X.K G L M ρ σ → Sat ct X.K W G H L M σ (RepR X.K) Q (mb ρ T S) → tb σ H Q)
    (ho : ∀ (x y : V) (a b : Rv) (T S : Sto) (G H : Hp) (L M : List Addr) (σ : L2.St) (Q : VK), Fits X.K G H L M T S → RepR X.K G L M x a → RepR X.K G L M y b → Sat ct X.K W G H L M σ (RepR X.K) Q (o a b T S) → r x y H Q)
    (ρ : Vn) (T S : Sto) (G H : Hp) (L M : List Addr) (σ : L2.St) (Q : VK) (hl : ρ.length = σ.length) (f : Fits X.K G H L M T S) (sl : Slots X.K G L M ρ σ) (h : Sat ct X.K W G H L M σ (RepR X.K) Q (bin o ma mb ρ T S)) : tOp r ta tb σ H Q := by
  refine ha ρ T S G H L M σ _ hl f sl (Sat.bind h fun va T1 S1 G1 H1 L1 M1 x e1 f1 r1 h1 => ?_)
  refine hb ρ T1 S1 G1 H1 L1 M1 σ _ hl f1 (sl.mono e1) (Sat.bind h1 fun vb T2 S2 G2 H2 L2 M2 y e2 f2 r2 h2 => ?_)
  exact ho x y va vb T2 S2 G2 H2 L2 M2 σ Q f2 (r1.mono e2) r2 h2
theorem se_op {op : Operator} {o : Rv → Rv → Sto → Sto → Res Rv} (ho : OpS ct X W (binaryOp op) o) (ha : SE ct X W a ma) (hb : SE ct X W b mb) : SE ct X W (.BinOp a op b pos) (bin o ma mb) := by
  obtain ⟨ta, pa, qa⟩ := ha
  obtain ⟨tb, pb, qb⟩ := hb
  obtain ⟨r, po, qo⟩ := ho
  exact ⟨tOp r ta tb, pe_op po pa pb, bin_ok qa qb qo⟩
theorem se_cmp {op : CmpOp} {o : Rv → Rv → Sto → Sto → Res Rv} (ho : OpS ct X W (compareOp op) o) (ha : SE ct X W a ma) (hb : SE ct X W b mb) (hm : behindInMarks op b = false) : SE ct X W (.Compare a [op] [b] pos) (bin o ma mb) := by
  obtain ⟨ta, pa, qa⟩ := ha
  obtain ⟨tb, pb, qb⟩ := hb
  obtain ⟨r, po, qo⟩ := ho
  exact ⟨tOp r ta tb, pe_cmpR po pa pb hm, bin_ok qa qb qo⟩
theorem se_ix {o : Rv → Rv → Sto → Sto → Res Rv} (ho : IxS ct X W o) (ha : SE ct X W a ma) (hb : SE ct X W b mb) (hs : PlainIx b) : SE ct X W (.Subscript a b pos) (bin o ma mb) := by
  obtain ⟨ta, pa, qa⟩ := ha
  obtain ⟨tb, pb, qb⟩ := hb
  obtain ⟨r, po, qo⟩ := ho
  exact ⟨tOp r ta tb, pe_ix po pa pb hs, bin_ok qa qb qo⟩

/-! ### tests -/
/-- a value that is a truth value -/
def asB (m : EM Rv) : EM Bool := fun ρ T S => (m ρ T S).bind fun r T S => match r with
  | .v (.bool b) => .ok b T S
  | _ => .bad
theorem asB_ok {t : TE} {m : EM Rv}
    (ha : ∀ (ρ : Vn) (T S : Sto) (G H : Hp) (L M : List Addr) (σ : L2.St) (Q : VK), ρ.length = σ.length → Fits X.K G H L M T S → Slots X.K G L M ρ σ → Sat ct X.K W G H L M σ (RepR X.K) Q (m ρ T S) → t σ H Q)
    (ρ : Vn) (T S : Sto) (G H : Hp) (L M : List Addr) (σ : L2.St) (Q : Bool → Hp → Prop) (hl : ρ.length = σ.length) (f : Fits X.K G H L M T S) (sl : Slots X.K G L M ρ σ) (h : Sat ct X.K W G H L M σ relB Q (asB m ρ T S)) : tB t σ H Q := by
  refine ha ρ T S G H L M σ _ hl f sl (Sat.bind h fun r T1 S1 G1 H1 L1 M1 x e1 f1 r1 h1 => ?_)
  cases r with
  | v d =>
    cases d with
    | bool b =>
      cases (show Rep X.K G1 x (.bool b) from r1)
      exact ⟨b, rfl, h1 G1 H1 L1 M1 b (Ext.refl _ _ _ _) f1 rfl⟩
    | _ => exact (show False from h1).elim
  | _ => exact (show False from h1).elim
theorem st_val {e : Expr} {m : EM Rv} (h : SE ct X W e m) (he : ∀ whole, isTrue e X.env whole = (do let v ← whole; standAt e.pos; holding [v] (truthy v))) : ST ct X W e (asB m) := by
  obtain ⟨t, p, q⟩ := h
  exact ⟨tB t, pt_val p he, asB_ok q⟩
theorem st_cmp {op : CmpOp} {o : Rv → Rv → Sto → Sto → Res Rv} (ho : OpS ct X W (compareOp op) o) (ha : SE ct X W a ma) (hb : SE ct X W b mb) (hm : behindInMarks op b = false) : ST ct X W (.Compare a [op] [b] pos) (asB (bin o ma mb)) := by
  obtain ⟨ta, pa, qa⟩ := ha
  obtain ⟨tb, pb, qb⟩ := hb
  obtain ⟨r, po, qo⟩ := ho
  exact ⟨tB (tOp r ta tb), pt_cmpR po pa pb hm, asB_ok (bin_ok qa qb qo)⟩
def notM (m : EM Bool) : EM Bool := fun ρ T S => (m ρ T S).bind fun b T S => .ok (!b) T S
theorem st_not {m : EM Bool} (h : ST ct X W a m) : ST ct X W (.UnaryOp .Not a pos) (notM m) := by
  obtain ⟨t, p, q⟩ := h
  refine ⟨tNot t, pt_not p, fun ρ T S G H L M σ Q hl f sl h => ?_⟩
  refine q ρ T S G H L M σ _ hl f sl (Sat.bind h fun r T1 S1 G1 H1 L1 M1 x e1 f1 r1 h1 => ?_)
  cases r1
  exact h1 G1 H1 L1 M1 _ (Ext.refl _ _ _ _) f1 rfl
def andM (m n : EM Bool) : EM Bool := fun ρ T S => (m ρ T S).bind fun b T S => if b = true then n ρ T S else .ok false T S
def orM (m n : EM Bool) : EM Bool := fun ρ T S => (m ρ T S).bind fun b T S => if b = true then .ok true T S else n ρ T S
variable {rest : List Expr} {m n : EM Bool}
theorem sw_and1 (h : ST ct X W a m) : SW ct X W (.BoolOp .And [a] pos) m := by
  obtain ⟨t, p, q⟩ := h
  exact ⟨t, pw_and1 p, q⟩
theorem sw_or1 (h : ST ct X W a m) : SW ct X W (.BoolOp .Or [a] pos) m := by
  obtain ⟨t, p, q⟩ := h
  exact ⟨t, pw_or1 p, q⟩
theorem sw_and (h : ST ct X W a m) (h2 : SW ct X W (.BoolOp .And (b :: rest) pos) n) : SW ct X W (.BoolOp .And (a :: b :: rest) pos) (andM m n) := by
  obtain ⟨t, p, q⟩ := h
  obtain ⟨t2, p2, q2⟩ := h2
  refine ⟨tAnd t t2, pw_and p p2, fun ρ T S G H L M σ Q hl f sl h => ?_⟩
  refine q ρ T S G H L M σ _ hl f sl (Sat.bind h fun r T1 S1 G1 H1 L1 M1 x e1 f1 r1 h1 => ?_)
  cases r1
  cases r with
  | true => exact q2 ρ T1 S1 G1 H1 L1 M1 σ Q hl f1 (sl.mono e1) h1
  | false => exact h1 G1 H1 L1 M1 _ (Ext.refl _ _ _ _) f1 rfl
theorem sw_or (h : ST ct X W a m) (h2 : SW ct X W (.BoolOp .Or (b :: rest) pos) n) : SW ct X W (.BoolOp .Or (a :: b :: rest) pos) (orM m n) := by
  obtain ⟨t, p, q⟩ := h
  obtain ⟨t2, p2, q2⟩ := h2
  refine ⟨tOr t t2, pw_or p p2, fun ρ T S G H L M σ Q hl f sl h => ?_⟩
  refine q ρ T S G H L M σ _ hl f sl (Sat.bind h fun r T1 S1 G1 H1 L1 M1 x e1 f1 r1 h1 => ?_)
  cases r1
  cases r with
  | true => exact h1 G1 H1 L1 M1 _ (Ext.refl _ _ _ _) f1 rfl
  | false => exact q2 ρ T1 S1 G1 H1 L1 M1 σ Q hl f1 (sl.mono e1) h1
theorem st_w {e : Expr} (h : SW ct X W e m) : ST ct X W e m := by
  obtain ⟨t, p, q⟩ := h
  exact ⟨t, p.pt, q⟩
/-! as values -/
def andV (m n : EM Rv) : EM Rv := fun ρ T S => (m ρ T S).bind fun r T S => match r with
  | .v (.bool true) => n ρ T S
  | .v (.bool false) => .ok (.v (.bool false)) T S
  | _ => .bad
def orV (m n : EM Rv) : EM Rv := fun ρ T S => (m ρ T S).bind fun r T S => match r with
  | .v (.bool true) => .ok (.v (.bool true)) T S
  | .v (.bool false) => n ρ T S
  | _ => .bad
def notV (m : EM Rv) : EM Rv := fun ρ T S => (m ρ T S).bind fun r T S => match r with
  | .v (.bool b) => .ok (.v (.bool (!b))) T S
  | _ => .bad
theorem se_one {op} (h : SE ct X W a ma) : SE ct X W (.BoolOp op [a] pos) ma := by
  obtain ⟨t, p, q⟩ := h
  exact ⟨t, pe_one p, q⟩
theorem se_and (h : SE ct X W a ma) (h2 : SE ct X W (.BoolOp .And (b :: rest) pos) mb) : SE ct X W (.BoolOp .And (a :: b :: rest) pos) (andV ma mb) := by
  obtain ⟨t, p, q⟩ := h
  obtain ⟨t2, p2, q2⟩ := h2
  refine ⟨tAndV t t2, pe_and p p2, fun ρ T S G H L M σ Q hl f sl h => ?_⟩
  refine q ρ T S G H L M σ _ hl f sl (Sat.bind h fun r T1 S1 G1 H1 L1 M1 x e1 f1 r1 h1 => ?_)
  cases r with
  | v d =>
    cases d with
    | bool k =>
      cases (show Rep X.K G1 x (.bool k) from r1)
      refine ⟨k, rfl, ?_⟩
      cases k with
      | true => exact q2 ρ T1 S1 G1 H1 L1 M1 σ Q hl f1 (sl.mono e1) h1
      | false => exact h1 G1 H1 L1 M1 _ (Ext.refl _ _ _ _) f1 (.bl false)
    | _ => exact (show False from h1).elim
  | _ => exact (show False from h1).elim
theorem se_or (h : SE ct X W a ma) (h2 : SE ct X W (.BoolOp .Or (b :: rest) pos) mb) : SE ct X W (.BoolOp .Or (a :: b :: rest) pos) (orV ma mb) := by
  obtain ⟨t, p, q⟩ := h
  obtain ⟨t2, p2, q2⟩ := h2
  refine ⟨tOrV t t2, pe_or p p2, fun ρ T S G H L M σ Q hl f sl h => ?_⟩
  refine q ρ T S G H L M σ _ hl f sl (Sat.bind h fun r T1 S1 G1 H1 L1 M1 x e1 f1 r1 h1 => ?_)
  cases r with
  | v d =>
    cases d with
    | bool k =>
      cases (show Rep X.K G1 x (.bool k) from r1)
      refine ⟨k, rfl, ?_⟩
      cases k with
      | true => exact h1 G1 H1 L1 M1 _ (Ext.refl _ _ _ _) f1 (.bl true)
      | false => exact q2 ρ T1 S1 G1 H1 L1 M1 σ Q hl f1 (sl.mono e1) h1
    | _ => exact (show False from h1).elim
  | _ => exact (show False from h1).elim
theorem se_not (h : SE ct X W a ma) : SE ct X W (.UnaryOp .Not a pos) (notV ma) := by
  obtain ⟨t, p, q⟩ := h
  refine ⟨tNotV t, pe_not p, fun ρ T S G H L M σ Q hl f sl h => ?_⟩
  refine q ρ T S G H L M σ _ hl f sl (Sat.bind h fun r T1 S1 G1 H1 L1 M1 x e1 f1 r1 h1 => ?_)
  cases r with
  | v d =>
    cases d with
    | bool k =>
      cases (show Rep X.K G1 x (.bool k) from r1)
      exact ⟨k, rfl, h1 G1 H1 L1 M1 _ (Ext.refl _ _ _ _) f1 (.bl (!k))⟩
    | _ => exact (show False from h1).elim
  | _ => exact (show False from h1).elim
def ifM (c : EM Bool) (m n : EM Rv) : EM Rv := fun ρ T S => (c ρ T S).bind fun b T S => if b = true then m ρ T S else n ρ T S
theorem se_if (hc : ST ct X W c m) (ha : SE ct X W a ma) (hb : SE ct X W b mb) : SE ct X W (.IfExp c a b pos) (ifM m ma mb) := by
  obtain ⟨t, p, q⟩ := hc
  obtain ⟨ta, pa, qa⟩ := ha
  obtain ⟨tb, pb, qb⟩ := hb
  refine ⟨tIf t ta tb, pe_ifExp p pa pb, fun ρ T S G H L M σ Q hl f sl h => ?_⟩
  refine q ρ T S G H L M σ _ hl f sl (Sat.bind h fun r T1 S1 G1 H1 L1 M1 x e1 f1 r1 h1 => ?_)
  cases r1
  cases r with
  | true => exact qa ρ T1 S1 G1 H1 L1 M1 σ Q hl f1 (sl.mono e1) h1
  | false => exact qb ρ T1 S1 G1 H1 L1 M1 σ Q hl f1 (sl.mono e1) h1
/-- a < b < c -/
def chn (o o' : Rv → Rv → Sto → Sto → Res Rv) (ma mb mc : EM Rv) : EM Rv := fun ρ T S => (ma ρ T S).bind fun a T S => (mb ρ T S).bind fun b T S => (o a b T S).bind fun r T S => match r with
  | .v (.bool true) => (mc ρ T S).bind fun c T S => o' b c T S
  | .v (.bool false) => .ok (.v (.bool false)) T S
  | _ => .bad
theorem chn_ok {op op' : CmpOp} {o o' : Rv → Rv → Sto → Sto → Res Rv} (ho : OpS ct X W (compareOp op) o) (ho' : OpS ct X W (compareOp op') o') (ha : SE ct X W a ma) (hb : SE ct X W b mb) (hc : SE ct X W c mc) :
    ∃ r r' ta tb tc, OpR X (compareOp op) r ∧ OpR X (compareOp op') r' ∧ PE X a ta ∧ PE X b tb ∧ PE X c tc ∧
    ∀ (ρ : Vn) (T S : Sto) (G H : Hp) (L M : List Addr) (σ : L2.St) (Q : VK), ρ.length = σ.length → Fits X.K G H L M T S → Slots X.K G L M ρ σ → Sat ct X.K W G H L M σ (RepR X.K) Q (chn o o' ma mb mc ρ T S) → tChain r r' ta tb tc σ H Q := by
  obtain ⟨ta, pa, qa⟩ := ha
  obtain ⟨tb, pb, qb⟩ := hb
  obtain ⟨tc, pc, qc⟩ := hc
  obtain ⟨r, po, qo⟩ := ho
  obtain ⟨r', po', qo'⟩ := ho'
  refine ⟨r, r', ta, tb, tc, po, po', pa, pb, pc, fun ρ T S G H L M σ Q hl f sl h => ?_⟩
  refine qa ρ T S G H L M σ _ hl f sl (Sat.bind h fun va T1 S1 G1 H1 L1 M1 x e1 f1 r1 h1 => ?_)
  refine qb ρ T1 S1 G1 H1 L1 M1 σ _ hl f1 (sl.mono e1) (Sat.bind h1 fun vb T2 S2 G2 H2 L2 M2 y e2 f2 r2 h2 => ?_)
  refine qo x y va vb T2 S2 G2 H2 L2 M2 σ _ f2 (r1.mono e2) r2 (Sat.bind h2 fun k T3 S3 G3 H3 L3 M3 z e3 f3 r3 h3 => ?_)
  cases k with
  | v d =>
    cases d with
    | bool k =>
      cases (show Rep X.K G3 z (.bool k) from r3)
      refine ⟨k, rfl, ?_⟩
      cases k with
      | true =>
        refine qc ρ T3 S3 G3 H3 L3 M3 σ _ hl f3 (sl.mono ((e1.trans e2).trans e3)) (Sat.bind h3 fun vc T4 S4 G4 H4 L4 M4 w e4 f4 r4 h4 => ?_)
        exact qo' y w vb vc T4 S4 G4 H4 L4 M4 σ Q f4 (r2.mono (e3.trans e4)) r4 h4
      | false => exact h3 G3 H3 L3 M3 _ (Ext.refl _ _ _ _) f3 (.bl false)
    | _ => exact (show False from h3).elim
  | _ => exact (show False from h3).elim
theorem se_chain {op op' : CmpOp} {o o' : Rv → Rv → Sto → Sto → Res Rv} (ho : OpS ct X W (compareOp op) o) (ho' : OpS ct X W (compareOp op') o') (ha : SE ct X W a ma) (hb : SE ct X W b mb) (hc : SE ct X W c mc) (hm : lastMarks [op, op'] [b, c] = false) :
    SE ct X W (.Compare a [op, op'] [b, c] pos) (chn o o' ma mb mc) := by
  obtain ⟨r, r', ta, tb, tc, po, po', pa, pb, pc, q⟩ := chn_ok ho ho' ha hb hc
  exact ⟨tChain r r' ta tb tc, pe_chain po po' pa pb pc (hm := hm), q⟩
theorem st_chain {op op' : CmpOp} {o o' : Rv → Rv → Sto → Sto → Res Rv} (ho : OpS ct X W (compareOp op) o) (ho' : OpS ct X W (compareOp op') o') (ha : SE ct X W a ma) (hb : SE ct X W b mb) (hc : SE ct X W c mc) (hm : lastMarks [op, op'] [b, c] = false) :
    ST ct X W (.Compare a [op, op'] [b, c] pos) (asB (chn o o' ma mb mc)) := by
  obtain ⟨r, r', ta, tb, tc, po, po', pa, pb, pc, q⟩ := chn_ok ho ho' ha hb hc
  exact ⟨tB (tChain r r' ta tb tc), pt_chain po po' pa pb pc (hm := hm), asB_ok q⟩

/-! ### arguments -/
def nilA : EM (List Rv) := fun _ T S => .ok [] T S
def consA (m : EM Rv) (ms : EM (List Rv)) : EM (List Rv) := fun ρ T S => (m ρ T S).bind fun r T S => (ms ρ T S).bind fun rs T S => .ok (r :: rs) T S
theorem sa_nil : SA ct X W [] nilA := ⟨tNil, pa_nil, fun ρ T S G H L M σ Q hl f sl q => q G H L M [] (Ext.refl G H L M) f .nil⟩
theorem sa_cons {e : Expr} {es : List Expr} {me : EM Rv} {ms : EM (List Rv)} (h : SE ct X W e me) (hr : SA ct X W es ms) (hs : starEach (e :: es) X.env = (false, eval e X.env) :: starEach es X.env) : SA ct X W (e :: es) (consA me ms) := by
  obtain ⟨t, p, q⟩ := h
  obtain ⟨t2, p2, q2⟩ := hr
  refine ⟨tCons t t2, pa_cons p p2 hs, fun ρ T S G H L M σ Q hl f sl h => ?_⟩
  refine q ρ T S G H L M σ _ hl f sl (Sat.bind h fun r T1 S1 G1 H1 L1 M1 x e1 f1 r1 h1 => ?_)
  refine q2 ρ T1 S1 G1 H1 L1 M1 σ _ hl f1 (sl.mono e1) (Sat.bind h1 fun rs T2 S2 G2 H2 L2 M2 xs e2 f2 r2 h2 => ?_)
  exact h2 G2 H2 L2 M2 (x :: xs) (Ext.refl _ _ _ _) f2 (.cons (r1.mono e2) r2)
end
end RB

end

/-! text ROps -/
section
set_option Elab.async false
set_option linter.all false
set_option maxRecDepth 100000
set_option maxHeartbeats 4000000
/-! ROps: operations on values. -/
namespace RB
open PySem PySem.Spec PyProof.Rows L2

/-! ### what a value reads as -/
/-- a list that can be read -/
def obList : Option Ob → Option (List D)
  | some (.lst xs) => some xs
  | some (.frz xs) => some xs
  | _ => none
def lstOf (r : Rv) (T S : Sto) : Option (List D) := match r with
  | .v (.list xs) => some xs
  | .own n => obList T[n]?
  | .loc n => obList S[n]?
  | _ => none
/-- the datum as it stands -/
def look (r : Rv) (T S : Sto) : Option D := match r with
  | .v d => some d
  | .scr ns => some (.list (ns.map .int))
  | r => (lstOf r T S).map .list
section
variable {K : PySem.W.Frag} {G H : Hp} {L M : List Addr} {T S : Sto} {x : V} {r : Rv}
theorem lt_of_get {α : Type} {l : List α} {n : Nat} {a : α} (h : l[n]? = some a) : n < l.length := (List.getElem?_eq_some_iff.mp h).1
theorem lstOf_ok {ds : List D} (f : Fits K G H L M T S) (h : RepR K G L M x r) (e : lstOf r T S = some ds) : ∃ a vs, x = .ref a ∧ H a = some (.lst vs) ∧ Reps K G vs ds := by
  cases r with
  | v d =>
    cases d with
    | list xs =>
      cases (show Rep K G x (.list xs) from h) with
      | @lst a vs _ hg hr =>
        cases e
        exact ⟨a, vs, rfl, f.sub _ _ hg, hr⟩
    | _ => cases e
  | own n =>
    obtain ⟨a, ha, rfl⟩ := h
    have e : obList T[n]? = some ds := e
    cases q : T[n]? with
    | none => rw [q] at e; cases e
    | some o =>
      rw [q] at e
      have b := f.obM n a o ha q
      cases o with
      | lst xs => cases e; obtain ⟨vs, h1, h2, h3⟩ := b; exact ⟨a, vs, rfl, h1, h3⟩
      | frz xs => cases e; obtain ⟨vs, h1, h2, h3⟩ := b; exact ⟨a, vs, rfl, h1, h3⟩
      | dic kvs => cases e
  | loc n =>
    obtain ⟨a, ha, rfl⟩ := h
    have e : obList S[n]? = some ds := e
    cases q : S[n]? with
    | none => rw [q] at e; cases e
    | some o =>
      rw [q] at e
      have b := f.obL n a o ha q
      cases o with
      | lst xs => cases e; obtain ⟨vs, h1, h2, h3⟩ := b; exact ⟨a, vs, rfl, h1, h3⟩
      | frz xs => cases e; obtain ⟨vs, h1, h2, h3⟩ := b; exact ⟨a, vs, rfl, h1, h3⟩
      | dic kvs => cases e
  | scr ns => cases e
theorem dp_ints (K : PySem.W.Frag) (H : Hp) : ∀ ns : List Int, DpAll K H (ns.map V.int) (ns.map PyData.int)
  | [] => .nil
  | n :: ns => .cons (.int n) (dp_ints K H ns)
theorem plain_ints : ∀ ns : List Int, PyData.plainAll (ns.map PyData.int) = true
  | [] => rfl
  | n :: ns => by show (PyData.plain (.int n) && PyData.plainAll (ns.map PyData.int)) = true; rw [plain_ints ns]; rfl
theorem look_ok {d : D} (f : Fits K G H L M T S) (h : RepR K G L M x r) (e : look r T S = some d) : Dp K H x d ∧ d.plain = true := by
  cases r with
  | v d' => cases e; exact ⟨Rep.dp f.sub h, Rep.plain h⟩
  | scr ns =>
    cases e
    obtain ⟨a, rfl, hs⟩ := h
    exact ⟨.lst (f.sub.seq hs) (dp_ints K H ns), plain_ints ns⟩
  | own n =>
    cases q : lstOf (.own n) T S with
    | none => have e : (lstOf _ T S).map PyData.list = some d := e; rw [q] at e; cases e
    | some ds =>
      have e : (lstOf _ T S).map PyData.list = some d := e
      rw [q] at e; cases e
      obtain ⟨a, vs, rfl, h1, h2⟩ := lstOf_ok f h q
      exact ⟨.lst (.inl (.inl h1)) (Reps.dp f.sub h2), Reps.plain h2⟩
  | loc n =>
    cases q : lstOf (.loc n) T S with
    | none => have e : (lstOf _ T S).map PyData.list = some d := e; rw [q] at e; cases e
    | some ds =>
      have e : (lstOf _ T S).map PyData.list = some d := e
      rw [q] at e; cases e
      obtain ⟨a, vs, rfl, h1, h2⟩ := lstOf_ok f h q
      exact ⟨.lst (.inl (.inl h1)) (Reps.dp f.sub h2), Reps.plain h2⟩
/-- a sequence to be read: a list (true), a tuple (false) -/
def seqOf (r : Rv) (T S : Sto) : Option (Bool × List D) := match look r T S with
  | some (.list xs) => some (true, xs)
  | some (.tuple xs) => some (false, xs)
  | _ => none
end

/-! ### from data to a new thing -/
section
variable {ct : Str → Option Addr} {X : Cx} {W : WX} {G H : Hp} {L M : List Addr} {T S : Sto} {σ : L2.St} {Q : VK}
theorem sat_d {x : V} {d : D} (f : Fits X.K G H L M T S) (h : Sat ct X.K W G H L M σ (RepR X.K) Q (.ok (.v d) T S)) (r : Rep X.K G x d) : Q x H := h G H L M x (Ext.refl G H L M) f r
theorem sat_tup {p : Addr} {vs : List V} {ds : List D} (f : Fits X.K G H L M T S) (h : Sat ct X.K W G H L M σ (RepR X.K) Q (.ok (.v (.tuple ds)) T S)) (r : Reps X.K G vs ds) (hp : H p = none) : Q (.ref p) (upd H p (.tup vs)) := by
  obtain ⟨e, f'⟩ := f.new (o := .tup vs) hp
  exact h _ _ _ _ _ e f' (show Rep X.K (upd G p (.tup vs)) (.ref p) (.tuple ds) from .tup (.inl (.inl upd_same)) (r.mono e.gm))
theorem sat_lst {p : Addr} {vs : List V} {ds : List D} (f : Fits X.K G H L M T S) (h : Sat ct X.K W G H L M σ (RepR X.K) Q (.ok (.v (.list ds)) T S)) (r : Reps X.K G vs ds) (hp : H p = none) : Q (.ref p) (upd H p (.lst vs)) := by
  obtain ⟨e, f'⟩ := f.new (o := .lst vs) hp
  exact h _ _ _ _ _ e f' (show Rep X.K (upd G p (.lst vs)) (.ref p) (.list ds) from .lst upd_same (r.mono e.gm))
end

/-! ### arithmetic -/
def o_int (C : Int → Int → Bool) (g : Int → Int → Int) (a b : Rv) (T S : Sto) : Res Rv := match a, b with
  | .v (.int i), .v (.int j) => if C i j = true then .ok (.v (.int (g i j))) T S else .bad
  | _, _ => .bad
section
variable {ct : Str → Option Addr} {X : Cx} {W : WX}
theorem ops_int {f : Value → Value → Sem Value} {C : Int → Int → Prop} {Cb : Int → Int → Bool} {g : Int → Int → Int} (hr : OpR X f (rI C fun i j => .int (g i j))) (hc : ∀ i j, Cb i j = true → C i j) : OpS ct X W f (o_int Cb g) := by
  refine ⟨_, hr, fun x y a b T S G H L M σ Q f' ra rb h => ?_⟩
  unfold o_int at h
  split at h
  · rename_i i j
    split at h
    · rename_i hC
      cases (show Rep X.K G x (.int i) from ra)
      cases (show Rep X.K G y (.int j) from rb)
      exact ⟨i, j, rfl, rfl, hc i j hC, sat_d f' h (.int _)⟩
    · exact (show False from h).elim
  · exact (show False from h).elim
theorem rI_true {X : Cx} {f : Value → Value → Sem Value} {g : Int → Int → V} (h : OpR X f (rI0 g)) : OpR X f (rI (fun _ _ => True) g) := fun pins s σ H x y v u Q I rx ry ⟨i, j, e1, e2, _, q⟩ => h pins s σ H x y v u Q I rx ry ⟨i, j, e1, e2, q⟩
abbrev yes2 : Int → Int → Bool := fun _ _ => true
abbrev o_sub := o_int yes2 (fun i j => i - j)
theorem ops_sub : OpS ct X W (binaryOp .Sub) o_sub := ops_int (rI_true op_sub) fun _ _ _ => trivial
abbrev cMul : Int → Int → Bool := fun i j => decide (i.natAbs.log2 + j.natAbs.log2 < 1000000)
abbrev o_mul := o_int cMul (fun i j => i * j)
theorem ops_mul : OpS ct X W (binaryOp .Mult) o_mul := ops_int op_mulW fun i j h => show i.natAbs.log2 + j.natAbs.log2 < 1000000 from of_decide_eq_true h
abbrev cDiv : Int → Int → Bool := fun _ j => decide (0 < j ∧ j < 1073741824)
abbrev o_div := o_int cDiv (fun i j => i / j)
theorem ops_div : OpS ct X W (binaryOp .FloorDiv) o_div := ops_int op_fdiv fun i j h => show 0 < j ∧ j < 1073741824 from of_decide_eq_true h
abbrev cMod : Int → Int → Bool := fun _ j => decide (0 < j)
abbrev o_mod := o_int cMod (fun i j => i % j)
theorem ops_mod : OpS ct X W (binaryOp .Mod) o_mod := ops_int op_mod fun i j h => of_decide_eq_true h
abbrev cPow : Int → Int → Bool := fun i j => decide (0 ≤ j ∧ j ≤ 1000000 ∧ i.natAbs < 2 ^ 64)
abbrev o_pow := o_int cPow (fun i j => i ^ j.toNat)
theorem ops_pow : OpS ct X W (binaryOp .Pow) o_pow := ops_int op_pow fun i j h => show 0 ≤ j ∧ j ≤ 1000000 ∧ i.natAbs < 2 ^ 64 from of_decide_eq_true h
/-- -a -/
def negM (m : EM Rv) : EM Rv := fun ρ T S => (m ρ T S).bind fun r T S => match r with
  | .v (.int i) => .ok (.v (.int (-i))) T S
  | _ => .bad
theorem se_neg {a : Expr} {ma : EM Rv} {pos : Pos} (h : SE ct X W a ma) : SE ct X W (.UnaryOp .USub a pos) (negM ma) := by
  obtain ⟨t, p, q⟩ := h
  refine ⟨_, pe_un un_neg p, fun ρ T S G H L M σ Q hl f sl h => ?_⟩
  refine q ρ T S G H L M σ _ hl f sl (Sat.bind h fun r T1 S1 G1 H1 L1 M1 x e1 f1 r1 h1 => ?_)
  cases r with
  | v d =>
    cases d with
    | int i =>
      cases (show Rep X.K G1 x (.int i) from r1)
      exact ⟨i, rfl, sat_d f1 h1 (.int _)⟩
    | _ => exact (show False from h1).elim
  | _ => exact (show False from h1).elim

/-! ### + -/
def o_add (a b : Rv) (T S : Sto) : Res Rv := match a, b with
  | .v (.int i), .v (.int j) => .ok (.v (.int (i + j))) T S
  | .v (.str x), .v (.str y) => if x.length + y.length ≤ 16777216 then .ok (.v (.str (x ++ y))) T S else .bad
  | .v (.tuple xs), .v (.tuple ys) => if xs.length + ys.length ≤ 16777216 then .ok (.v (.tuple (xs ++ ys))) T S else .bad
  | a, b => match lstOf a T S, lstOf b T S with
    | some xs, some ys => if xs.length + ys.length ≤ 16777216 then .ok (.v (.list (xs ++ ys))) T S else .bad
    | _, _ => .bad
theorem line_le {n : Nat} (h : n ≤ 16777216) : n ≤ sizeLine := by rw [sizeLine_eq]; exact h
theorem ops_add : OpS ct X W (binaryOp .Add) o_add := by
  refine ⟨_, op_add.or (op_add_str.or (op_catA.or op_cat)), fun x y a b T S G H L M σ Q f ra rb h => ?_⟩
  unfold o_add at h
  split at h
  · rename_i i j
    cases (show Rep X.K G x (.int i) from ra)
    cases (show Rep X.K G y (.int j) from rb)
    exact .inl ⟨i, j, rfl, rfl, sat_d f h (.int _)⟩
  · rename_i i j
    split at h
    · rename_i hz
      cases (show Rep X.K G x (.str i) from ra)
      cases (show Rep X.K G y (.str j) from rb)
      exact .inr (.inl ⟨i, j, rfl, rfl, line_le hz, sat_d f h (.str _)⟩)
    · exact (show False from h).elim
  · rename_i xs ys
    split at h
    · rename_i hz
      cases (show Rep X.K G x (.tuple xs) from ra) with
      | @tup a vs _ hs hr =>
        cases (show Rep X.K G y (.tuple ys) from rb) with
        | @tup b ws _ hs2 hr2 =>
          refine .inr (.inr (.inl ⟨a, b, vs, ws, rfl, rfl, sqT_mono f.sub hs, sqT_mono f.sub hs2, by rw [hr.length, hr2.length]; exact line_le hz, fun e => ?_, fun _ e => ?_, fun _ _ p hp => sat_tup f h (hr.append hr2) hp⟩))
          · subst e; cases hr; exact sat_d f h (.tup hs2 hr2)
          · subst e; cases hr2; rw [List.append_nil] at h; exact sat_d f h (.tup hs hr)
    · exact (show False from h).elim
  · split at h
    · rename_i xs ys e1 e2
      split at h
      · rename_i hz
        obtain ⟨p, vs, rfl, h1, r1⟩ := lstOf_ok f ra e1
        obtain ⟨q, ws, rfl, h2, r2⟩ := lstOf_ok f rb e2
        exact .inr (.inr (.inr ⟨p, q, vs, ws, rfl, rfl, h1, h2, by rw [r1.length, r2.length]; exact line_le hz, fun p hp => sat_lst f h (r1.append r2) hp⟩))
      · exact (show False from h).elim
    · exact (show False from h).elim

/-! ### comparisons -/
def deep (d e : D) : Bool := decide (min d.depth e.depth ≤ 64)
def rCmpD (K : PySem.W.Frag) (C : D → D → Prop) (g : D → D → Bool) : R2 := fun x y H Q => ∃ d e, Dp K H x d ∧ Dp K H y e ∧ C d e ∧ Q (.bl (g d e)) H
def o_cmp (C : D → D → Bool) (g : D → D → Bool) (a b : Rv) (T S : Sto) : Res Rv := match look a T S, look b T S with
  | some d, some e => if C d e = true then .ok (.v (.bool (g d e))) T S else .bad
  | _, _ => .bad
theorem ops_cmp {f : Value → Value → Sem Value} {C : D → D → Prop} {Cb : D → D → Bool} {g : D → D → Bool} (hr : OpR X f (rCmpD X.K C g)) (hc : ∀ d e, d.plain = true → e.plain = true → Cb d e = true → C d e) : OpS ct X W f (o_cmp Cb g) := by
  refine ⟨_, hr, fun x y a b T S G H L M σ Q f' ra rb h => ?_⟩
  unfold o_cmp at h
  split at h
  · rename_i d e e1 e2
    split at h
    · rename_i hC
      obtain ⟨p1, q1⟩ := look_ok f' ra e1
      obtain ⟨p2, q2⟩ := look_ok f' rb e2
      exact ⟨d, e, p1, p2, hc d e q1 q2 hC, sat_d f' h (.bl _)⟩
    · exact (show False from h).elim
  · exact (show False from h).elim
abbrev CEq : D → D → Prop := fun d e => d.plain = true ∧ e.plain = true ∧ min d.depth e.depth ≤ 64
theorem room64 {d e : D} {u : Nat} (hu : u + 64 < cLine) (h : min d.depth e.depth ≤ 64) : u + min d.depth e.depth < cLine := by omega
theorem op_eqP (hu : X.A.units + 64 < cLine) : OpR X (compareOp .Eq) (rCmpD X.K CEq PyData.eqv) := by
  intro pins s σ H x y v u Q I rx ry h
  obtain ⟨d, e, hd, he, ⟨c1, c2, c3⟩, q⟩ := h
  obtain ⟨as, r1⟩ := Dp.reads I d x v hd rx
  obtain ⟨bs, r2⟩ := Dp.reads I e y u he ry
  exact PySem.SeqAt.eq_plain r1 r2 c1 c2 (room64 hu c3) ⟨.bl _, H, I, rfl, q⟩
theorem op_neP (hu : X.A.units + 64 < cLine) : OpR X (compareOp .NotEq) (rCmpD X.K CEq fun d e => !PyData.eqv d e) := by
  intro pins s σ H x y v u Q I rx ry h
  obtain ⟨d, e, hd, he, ⟨c1, c2, c3⟩, q⟩ := h
  obtain ⟨as, r1⟩ := Dp.reads I d x v hd rx
  obtain ⟨bs, r2⟩ := Dp.reads I e y u he ry
  exact PySem.SeqAt.ne_plain r1 r2 c1 c2 (room64 hu c3) ⟨.bl _, H, I, rfl, q⟩
abbrev o_eq := o_cmp deep PyData.eqv
abbrev o_ne := o_cmp deep fun d e => !PyData.eqv d e
theorem ops_eq (hu : X.A.units + 64 < cLine) : OpS ct X W (compareOp .Eq) o_eq := ops_cmp (op_eqP hu) fun d e h1 h2 h => ⟨h1, h2, of_decide_eq_true h⟩
theorem ops_ne (hu : X.A.units + 64 < cLine) : OpS ct X W (compareOp .NotEq) o_ne := ops_cmp (op_neP hu) fun d e h1 h2 h => ⟨h1, h2, of_decide_eq_true h⟩
def isNone : D → Bool
  | .none => true
  | _ => false
theorem not_none {d : D} (h : isNone d = false) : d ≠ .none := fun e => by subst e; cases h
def ordC (d e : D) : Bool := PySem.W.alike d e && !isNone d && deep d e
abbrev COr : D → D → Prop := fun d e => PySem.W.alike d e = true ∧ d ≠ .none ∧ min d.depth e.depth ≤ 64
theorem ordC_ok (d e : D) (h : ordC d e = true) : COr d e := by
  unfold ordC at h
  simp only [Bool.and_eq_true, Bool.not_eq_true'] at h
  exact ⟨h.1.1, not_none h.1.2, of_decide_eq_true h.2⟩
theorem op_ltP (hu : X.A.units + 64 < cLine) : OpR X (compareOp .Lt) (rCmpD X.K COr PySem.W.dataLt) := by
  intro pins s σ H x y v u Q I rx ry h
  obtain ⟨d, e, hd, he, ⟨c1, c2, c3⟩, q⟩ := h
  obtain ⟨as, r1⟩ := Dp.reads I d x v hd rx
  obtain ⟨bs, r2⟩ := Dp.reads I e y u he ry
  exact PySem.W.lt_data r1 r2 c1 c2 (room64 hu c3) ⟨.bl _, H, I, rfl, q⟩
theorem op_gtP (hu : X.A.units + 64 < cLine) : OpR X (compareOp .Gt) (rCmpD X.K COr fun d e => PySem.W.dataLt e d) := by
  intro pins s σ H x y v u Q I rx ry h
  obtain ⟨d, e, hd, he, ⟨c1, c2, c3⟩, q⟩ := h
  obtain ⟨as, r1⟩ := Dp.reads I d x v hd rx
  obtain ⟨bs, r2⟩ := Dp.reads I e y u he ry
  exact PySem.W.gt_data r1 r2 c1 c2 (room64 hu c3) ⟨.bl _, H, I, rfl, q⟩
theorem op_leP (hu : X.A.units + 64 < cLine) : OpR X (compareOp .LtE) (rCmpD X.K COr fun d e => !PySem.W.dataLt e d) := by
  intro pins s σ H x y v u Q I rx ry h
  obtain ⟨d, e, hd, he, ⟨c1, c2, c3⟩, q⟩ := h
  obtain ⟨as, r1⟩ := Dp.reads I d x v hd rx
  obtain ⟨bs, r2⟩ := Dp.reads I e y u he ry
  exact PySem.W.le_data r1 r2 c1 c2 (room64 hu c3) ⟨.bl _, H, I, rfl, q⟩
theorem op_geP (hu : X.A.units + 64 < cLine) : OpR X (compareOp .GtE) (rCmpD X.K COr fun d e => !PySem.W.dataLt d e) := by
  intro pins s σ H x y v u Q I rx ry h
  obtain ⟨d, e, hd, he, ⟨c1, c2, c3⟩, q⟩ := h
  obtain ⟨as, r1⟩ := Dp.reads I d x v hd rx
  obtain ⟨bs, r2⟩ := Dp.reads I e y u he ry
  exact PySem.W.ge_data r1 r2 c1 c2 (room64 hu c3) ⟨.bl _, H, I, rfl, q⟩
abbrev o_lt := o_cmp ordC PySem.W.dataLt
abbrev o_gt := o_cmp ordC fun d e => PySem.W.dataLt e d
abbrev o_le := o_cmp ordC fun d e => !PySem.W.dataLt e d
abbrev o_ge := o_cmp ordC fun d e => !PySem.W.dataLt d e
theorem ops_lt (hu : X.A.units + 64 < cLine) : OpS ct X W (compareOp .Lt) o_lt := ops_cmp (op_ltP hu) fun d e _ _ h => ordC_ok d e h
theorem ops_gt (hu : X.A.units + 64 < cLine) : OpS ct X W (compareOp .Gt) o_gt := ops_cmp (op_gtP hu) fun d e _ _ h => ordC_ok d e h
theorem ops_le (hu : X.A.units + 64 < cLine) : OpS ct X W (compareOp .LtE) o_le := ops_cmp (op_leP hu) fun d e _ _ h => ordC_ok d e h
theorem ops_ge (hu : X.A.units + 64 < cLine) : OpS ct X W (compareOp .GtE) o_ge := ops_cmp (op_geP hu) fun d e _ _ h => ordC_ok d e h
/-- is None -/
def isN (neg : Bool) (a b : Rv) (T S : Sto) : Res Rv := match b with
  | .v .none => (match a with
    | .v .none => .ok (.v (.bool !neg)) T S
    | _ => .ok (.v (.bool neg)) T S)
  | _ => .bad
theorem rep_none {K : PySem.W.Frag} {G : Hp} {L M : List Addr} {x : V} {r : Rv} (h : RepR K G L M x r) : decide (x = .non) = (match r with | .v .none => true | _ => false) := by
  cases r with
  | v d =>
    cases (show Rep K G x d from h) <;> rfl
  | loc n => obtain ⟨a, _, rfl⟩ := h; rfl
  | own n => obtain ⟨a, _, rfl⟩ := h; rfl
  | scr ns => obtain ⟨a, rfl, _⟩ := h; rfl
theorem ops_is : OpS ct X W (compareOp .Is) (isN false) := by
  refine ⟨_, op_isN, fun x y a b T S G H L M σ Q f ra rb h => ?_⟩
  unfold isN at h
  split at h
  · cases (show Rep X.K G y .none from rb)
    refine ⟨rfl, ?_⟩
    rw [rep_none ra]
    split at h
    · exact sat_d f h (.bl _)
    · rename_i hn
      split
      · rename_i z; exact (hn rfl).elim
      · exact sat_d f h (.bl _)
  · exact (show False from h).elim
theorem ops_isnot : OpS ct X W (compareOp .IsNot) (isN true) := by
  refine ⟨_, op_notN, fun x y a b T S G H L M σ Q f ra rb h => ?_⟩
  unfold isN at h
  split at h
  · cases (show Rep X.K G y .none from rb)
    refine ⟨rfl, ?_⟩
    rw [rep_none ra]
    split at h
    · exact sat_d f h (.bl _)
    · rename_i hn
      split
      · rename_i z; exact (hn rfl).elim
      · exact sat_d f h (.bl _)
  · exact (show False from h).elim

/-! ### in -/
def o_in (neg : Bool) (a b : Rv) (T S : Sto) : Res Rv := match look b T S with
  | some (.str z) => (match look a T S with
    | some (.str x) => (match x.cps.toList with
      | [c] => .ok (.v (.bool (if neg then !decide (c ∈ z.cps.toList) else decide (c ∈ z.cps.toList)))) T S
      | _ => .bad)
    | _ => .bad)
  | some (.list xs) => (match look a T S with
    | some d => if min (PyData.depthAll xs) d.depth ≤ 60 then .ok (.v (.bool (if neg then !xs.any (fun y => PyData.eqv y d) else xs.any fun y => PyData.eqv y d))) T S else .bad
    | none => .bad)
  | some (.tuple xs) => (match look a T S with
    | some d => if min (PyData.depthAll xs) d.depth ≤ 60 then .ok (.v (.bool (if neg then !xs.any (fun y => PyData.eqv y d) else xs.any fun y => PyData.eqv y d))) T S else .bad
    | none => .bad)
  | _ => .bad
def rInD (K : PySem.W.Frag) (g : Bool → Bool) : R2 := fun x y H Q => ∃ d xs, Dp K H x d ∧ d.plain = true ∧ PyData.plainAll xs = true ∧ (Dp K H y (.list xs) ∨ Dp K H y (.tuple xs)) ∧ min (PyData.depthAll xs) d.depth ≤ 60 ∧ Q (.bl (g (xs.any fun y => PyData.eqv y d))) H
theorem op_inP (hu : X.A.units + 64 < cLine) : OpR X (compareOp .In) (rInD X.K id) := by
  intro pins s σ H x y v u Q I rx ry h
  obtain ⟨d, xs, hd, c1, c2, hy, c3, q⟩ := h
  obtain ⟨as, r1⟩ := Dp.reads I d x v hd rx
  rcases hy with hy | hy
  · obtain ⟨bs, r2⟩ := Dp.reads I _ y u hy ry
    exact PySem.SeqAt.in_list_data r2 r1 c2 c1 (by omega) ⟨.bl _, H, I, rfl, q⟩
  · obtain ⟨bs, r2⟩ := Dp.reads I _ y u hy ry
    exact PySem.SeqAt.in_tuple_data r2 r1 c2 c1 (by omega) ⟨.bl _, H, I, rfl, q⟩
theorem op_ninP (hu : X.A.units + 64 < cLine) : OpR X (compareOp .NotIn) (rInD X.K not) := by
  intro pins s σ H x y v u Q I rx ry h
  obtain ⟨d, xs, hd, c1, c2, hy, c3, q⟩ := h
  obtain ⟨as, r1⟩ := Dp.reads I d x v hd rx
  rcases hy with hy | hy
  · obtain ⟨bs, r2⟩ := Dp.reads I _ y u hy ry
    exact PySem.SeqAt.notIn_list_data r2 r1 c2 c1 (by omega) ⟨.bl _, H, I, rfl, q⟩
  · obtain ⟨bs, r2⟩ := Dp.reads I _ y u hy ry
    exact PySem.SeqAt.notIn_tuple_data r2 r1 c2 c1 (by omega) ⟨.bl _, H, I, rfl, q⟩
theorem dp_str {K : PySem.W.Frag} {H : Hp} {x : V} {z : Str} (h : Dp K H x (.str z)) : x = .str z := by cases h; rfl
theorem str_one {x : Str} {c : Nat} (h : x.cps.toList = [c]) : x = ⟨#[c]⟩ := by
  obtain ⟨a⟩ := x
  have : a = #[c] := by
    apply Array.ext'
    simpa using h
  rw [this]
theorem ops_in (hu : X.A.units + 64 < cLine) : OpS ct X W (compareOp .In) (o_in false) := by
  refine ⟨_, op_in_sign.or (op_inP hu), fun x y a b T S G H L M σ Q f ra rb h => ?_⟩
  unfold o_in at h
  split at h
  · rename_i z e2
    split at h
    · rename_i p e1
      obtain ⟨p1, q1⟩ := look_ok f ra e1
      obtain ⟨p2, q2⟩ := look_ok f rb e2
      split at h
      · rename_i c hc
        rw [dp_str p1, dp_str p2, str_one hc]
        exact .inl ⟨c, z, rfl, rfl, sat_d f h (.bl _)⟩
      · exact (show False from h).elim
    · exact (show False from h).elim
  · rename_i xs e2
    split at h
    · rename_i d e1
      obtain ⟨p1, q1⟩ := look_ok f ra e1
      obtain ⟨p2, q2⟩ := look_ok f rb e2
      split at h
      · rename_i hz
        exact .inr ⟨d, xs, p1, q1, q2, .inl p2, hz, sat_d f h (.bl _)⟩
      · exact (show False from h).elim
    · exact (show False from h).elim
  · rename_i xs e2
    split at h
    · rename_i d e1
      obtain ⟨p1, q1⟩ := look_ok f ra e1
      obtain ⟨p2, q2⟩ := look_ok f rb e2
      split at h
      · rename_i hz
        exact .inr ⟨d, xs, p1, q1, q2, .inr p2, hz, sat_d f h (.bl _)⟩
      · exact (show False from h).elim
    · exact (show False from h).elim
  · exact (show False from h).elim
theorem ops_notin (hu : X.A.units + 64 < cLine) : OpS ct X W (compareOp .NotIn) (o_in true) := by
  refine ⟨_, op_notIn_sign.or (op_ninP hu), fun x y a b T S G H L M σ Q f ra rb h => ?_⟩
  unfold o_in at h
  split at h
  · rename_i z e2
    split at h
    · rename_i p e1
      obtain ⟨p1, q1⟩ := look_ok f ra e1
      obtain ⟨p2, q2⟩ := look_ok f rb e2
      split at h
      · rename_i c hc
        rw [dp_str p1, dp_str p2, str_one hc]
        exact .inl ⟨c, z, rfl, rfl, sat_d f h (.bl _)⟩
      · exact (show False from h).elim
    · exact (show False from h).elim
  · rename_i xs e2
    split at h
    · rename_i d e1
      obtain ⟨p1, q1⟩ := look_ok f ra e1
      obtain ⟨p2, q2⟩ := look_ok f rb e2
      split at h
      · rename_i hz
        exact .inr ⟨d, xs, p1, q1, q2, .inl p2, hz, sat_d f h (.bl _)⟩
      · exact (show False from h).elim
    · exact (show False from h).elim
  · rename_i xs e2
    split at h
    · rename_i d e1
      obtain ⟨p1, q1⟩ := look_ok f ra e1
      obtain ⟨p2, q2⟩ := look_ok f rb e2
      split at h
      · rename_i hz
        exact .inr ⟨d, xs, p1, q1, q2, .inr p2, hz, sat_d f h (.bl _)⟩
      · exact (show False from h).elim
    · exact (show False from h).elim
  · exact (show False from h).elim
end
end RB

end

/-! text RBuild -/
section
set_option Elab.async false
set_option linter.all false
set_option maxRecDepth 100000
set_option maxHeartbeats 4000000
/-! RBuild: displays, subscripts, slices, built-ins. -/
namespace RB
open PySem PySem.Spec PyProof.Rows L2

/-! ### a list of one's own is handed on: it changes no more -/
def toD (r : Rv) (T : Sto) : Option (D × Sto) := match r with
  | .v d => some (d, T)
  | .own n => (match T[n]? with
    | some (.lst xs) => some (.list xs, T.set n (.frz xs))
    | some (.frz xs) => some (.list xs, T)
    | _ => none)
  | _ => none
def toDs : List Rv → Sto → Option (List D × Sto)
  | [], T => some ([], T)
  | r :: rs, T => match toD r T with
    | some (d, T1) => (match toDs rs T1 with
      | some (ds, T2) => some (d :: ds, T2)
      | none => none)
    | none => none
section
variable {K : PySem.W.Frag} {G H : Hp} {L M : List Addr} {T S : Sto}
theorem Fits.freeze {n : Nat} {a : Addr} {vs : List V} {ds : List D} (f : Fits K G H L M T S) (ha : M[n]? = some a) (hh : H a = some (.lst vs)) (hg : G a = none) (hr : Reps K G vs ds) :
    Ext G H L M (upd G a (.lst vs)) H L M ∧ Fits K (upd G a (.lst vs)) H L M (T.set n (.frz ds)) S := by
  have am : a ∈ M := List.mem_of_getElem? ha
  have g1 : Same G (upd G a (.lst vs)) := fun b u h => by rw [upd_ne (ne_of_none h hg)]; exact h
  refine ⟨⟨g1, List.prefix_refl L, List.prefix_refl M, fun _ _ h _ _ => h, fun _ u h => ⟨u, h⟩, fun b u h => ?_, fun _ h => .inl h, fun _ h => .inl h⟩,
    ⟨fun b u h => ?_, f.nd, f.lenL, by rw [List.length_set]; exact f.lenM, fun k b q e1 e2 => ?_, fun k b q e1 e2 => ?_⟩⟩
  · by_cases e : b = a
    · exact .inr (.inr (by rw [e]; exact am))
    · rw [upd_ne e] at h; exact .inl h
  · by_cases e : b = a
    · subst e; rw [upd_same] at h; cases h; exact hh
    · rw [upd_ne e] at h; exact f.sub b u h
  · refine ROb.mono g1 (fun z => ?_) (fun z hz => hz) (f.obL k b q e1 e2)
    rw [upd_ne (show b ≠ a from fun e => f.apart (List.mem_of_getElem? e1) (by rw [e]; exact am))]; exact z
  · by_cases e : n = k
    · subst e
      rw [ha] at e1; cases e1
      rw [List.getElem?_set_self (by rw [← f.lenM]; exact lt_of_get ha)] at e2
      cases e2
      exact ⟨vs, hh, upd_same, hr.mono g1⟩
    · rw [List.getElem?_set_ne e] at e2
      refine ROb.mono g1 (fun z => ?_) (fun z hz => hz) (f.obM k b q e1 e2)
      rw [upd_ne (show b ≠ a from fun w => e (nd_get f.ndM ha (by rw [← w]; exact e1)))]; exact z
theorem toD_ok {x : V} {r : Rv} {d : D} {T' : Sto} (f : Fits K G H L M T S) (h : RepR K G L M x r) (e : toD r T = some (d, T')) :
    ∃ G', Ext G H L M G' H L M ∧ Fits K G' H L M T' S ∧ Rep K G' x d := by
  cases r with
  | v d' => cases e; exact ⟨G, Ext.refl _ _ _ _, f, h⟩
  | own n =>
    obtain ⟨a, ha, rfl⟩ := h
    unfold toD at e
    simp only at e
    split at e
    · rename_i xs q
      cases e
      obtain ⟨vs, h1, h2, h3⟩ := f.obM n a _ ha q
      obtain ⟨e', f'⟩ := f.freeze ha h1 h2 h3
      exact ⟨_, e', f', .lst upd_same (h3.mono e'.gm)⟩
    · rename_i xs q
      cases e
      obtain ⟨vs, h1, h2, h3⟩ := f.obM n a _ ha q
      exact ⟨G, Ext.refl _ _ _ _, f, .lst h2 h3⟩
    · cases e
  | loc n => cases e
  | scr ns => cases e
theorem toDs_ok : ∀ {xs : List V} {rs : List Rv} {ds : List D} {G : Hp} {T T' : Sto}, Fits K G H L M T S → RepRs K G L M xs rs → toDs rs T = some (ds, T') →
    ∃ G', Ext G H L M G' H L M ∧ Fits K G' H L M T' S ∧ Reps K G' xs ds
  | _, _, _, G, T, _, f, .nil, e => by cases e; exact ⟨G, Ext.refl _ _ _ _, f, .nil⟩
  | _, _, _, G, T, T', f, .cons (r := r) (rs := rs) h hs, e => by
    unfold toDs at e
    split at e
    · rename_i d T1 e1
      split at e
      · rename_i ds T2 e2
        cases e
        obtain ⟨G1, x1, f1, r1⟩ := toD_ok f h e1
        obtain ⟨G2, x2, f2, r2⟩ := toDs_ok f1 (hs.mono x1) e2
        exact ⟨G2, x1.trans x2, f2, .cons (r1.mono x2.gm) r2⟩
      · cases e
    · cases e
end

/-! ### displays -/
def tupM (ms : EM (List Rv)) : EM Rv := fun ρ T S => (ms ρ T S).bind fun rs T S => match toDs rs T with
  | some (ds, T') => if ds.length ≤ 16777216 then .ok (.v (.tuple ds)) T' S else .bad
  | none => .bad
def lstM (ms : EM (List Rv)) : EM Rv := fun ρ T S => (ms ρ T S).bind fun rs T S => match toDs rs T with
  | some (ds, T') => if ds.length ≤ 16777216 then .ok (.v (.list ds)) T' S else .bad
  | none => .bad
/-- a list that may change -/
def ownM (ms : EM (List Rv)) : EM Rv := fun ρ T S => (ms ρ T S).bind fun rs T S => match toDs rs T with
  | some (ds, T') => if ds.length ≤ 16777216 then .ok (.own T'.length) (T' ++ [.lst ds]) S else .bad
  | none => .bad
/-- a new list becomes one that may change -/
def ownOf (m : EM Rv) : EM Rv := m
section
variable {ct : Str → Option Addr} {X : Cx} {W : WX} {pos : Pos} {es : List Expr} {ms : EM (List Rv)}
theorem se_tup {j} (h : SA ct X W es ms) : SE ct X W (.Tuple es j pos) (tupM ms) := by
  obtain ⟨t, p, q⟩ := h
  refine ⟨tTup t, pe_tup p, fun ρ T S G H L M σ Q hl f sl h => ?_⟩
  refine q ρ T S G H L M σ _ hl f sl (Sat.bind h fun rs T1 S1 G1 H1 L1 M1 xs e1 f1 r1 h1 => ?_)
  split at h1
  · rename_i ds T' e
    split at h1
    · rename_i hz
      obtain ⟨G2, e2, f2, r2⟩ := toDs_ok f1 r1 e
      exact ⟨by rw [r2.length]; exact line_le hz, fun p hp => sat_tup f2 (Sat.pre e2 h1) r2 hp⟩
    · exact (show False from h1).elim
  · exact (show False from h1).elim
theorem se_lst (h : SA ct X W es ms) : SE ct X W (.List es pos) (lstM ms) := by
  obtain ⟨t, p, q⟩ := h
  refine ⟨tLst t, pe_lst p, fun ρ T S G H L M σ Q hl f sl h => ?_⟩
  refine q ρ T S G H L M σ _ hl f sl (Sat.bind h fun rs T1 S1 G1 H1 L1 M1 xs e1 f1 r1 h1 => ?_)
  split at h1
  · rename_i ds T' e
    split at h1
    · rename_i hz
      obtain ⟨G2, e2, f2, r2⟩ := toDs_ok f1 r1 e
      exact ⟨by rw [r2.length]; exact line_le hz, fun p hp => sat_lst f2 (Sat.pre e2 h1) r2 hp⟩
    · exact (show False from h1).elim
  · exact (show False from h1).elim
theorem sat_own {G H : Hp} {L M : List Addr} {T S : Sto} {σ : L2.St} {Q : VK} {p : Addr} {vs : List V} {ds : List D} (f : Fits X.K G H L M T S) (h : Sat ct X.K W G H L M σ (RepR X.K) Q (.ok (.own T.length) (T ++ [.lst ds]) S)) (r : Reps X.K G vs ds) (hp : H p = none) : Q (.ref p) (upd H p (.lst vs)) := by
  obtain ⟨e, f'⟩ := f.newM (u := .lst vs) (o := .lst ds) hp ⟨vs, upd_same, f.sub.free hp, r⟩
  refine h _ _ _ _ _ e f' ⟨p, ?_, rfl⟩
  rw [← f.lenM, List.getElem?_append_right (Nat.le_refl _), Nat.sub_self]
  rfl
theorem se_own (h : SA ct X W es ms) : SE ct X W (.List es pos) (ownM ms) := by
  obtain ⟨t, p, q⟩ := h
  refine ⟨tLst t, pe_lst p, fun ρ T S G H L M σ Q hl f sl h => ?_⟩
  refine q ρ T S G H L M σ _ hl f sl (Sat.bind h fun rs T1 S1 G1 H1 L1 M1 xs e1 f1 r1 h1 => ?_)
  split at h1
  · rename_i ds T' e
    split at h1
    · rename_i hz
      obtain ⟨G2, e2, f2, r2⟩ := toDs_ok f1 r1 e
      exact ⟨by rw [r2.length]; exact line_le hz, fun p hp => sat_own f2 (Sat.pre e2 h1) r2 hp⟩
    · exact (show False from h1).elim
  · exact (show False from h1).elim
end

/-! ### items -/
def o_ix (a b : Rv) (T S : Sto) : Res Rv := match b with
  | .v (.int i) => (match look a T S with
    | some (.list xs) => (match atI xs i with | some d => .ok (.v d) T S | none => .bad)
    | some (.tuple xs) => (match atI xs i with | some d => .ok (.v d) T S | none => .bad)
    | some (.str x) => (match atI x.cps.toList i with | some c => if x.length ≤ 16777216 then .ok (.v (.str ⟨#[c]⟩)) T S else .bad | none => .bad)
    | _ => .bad)
  | _ => .bad
theorem reps_at {K : PySem.W.Frag} {G : Hp} {vs : List V} {ds : List D} {i : Int} {d : D} (r : Reps K G vs ds) (h : atI ds i = some d) : ∃ x, atI vs i = some x ∧ Rep K G x d := by
  unfold atI at h ⊢
  rw [r.length]
  cases e : ixN ds.length i with
  | none => rw [e] at h; cases h
  | some j => rw [e] at h; exact r.get h
theorem atI_map {α β : Type} (f : α → β) (xs : List α) (i : Int) : atI (xs.map f) i = (atI xs i).map f := by
  unfold atI
  rw [List.length_map]
  cases ixN xs.length i with
  | none => rfl
  | some j => exact List.getElem?_map
section
variable {ct : Str → Option Addr} {X : Cx} {W : WX} {pos : Pos}
/-- the list behind a value: its items as values -/
theorem look_list {G H : Hp} {L M : List Addr} {T S : Sto} {x : V} {r : Rv} {ds : List D} (f : Fits X.K G H L M T S) (h : RepR X.K G L M x r) (e : look r T S = some (.list ds)) :
    ∃ a vs, x = .ref a ∧ SqL X.K H a vs ∧ Reps X.K G vs ds := by
  cases r with
  | v d =>
    cases e
    cases (show Rep X.K G x (.list ds) from h) with
    | lst hg hr => exact ⟨_, _, rfl, .inl (.inl (f.sub _ _ hg)), hr⟩
  | scr ns =>
    cases e
    obtain ⟨a, rfl, hs⟩ := h
    refine ⟨a, _, rfl, f.sub.seq hs, ?_⟩
    clear hs
    induction ns with
    | nil => exact .nil
    | cons n ns ih => exact .cons (.int n) ih
  | own n =>
    cases q : lstOf (.own n) T S with
    | none => have e : (lstOf _ T S).map PyData.list = _ := e; rw [q] at e; cases e
    | some xs =>
      have e : (lstOf _ T S).map PyData.list = _ := e
      rw [q] at e; cases e
      obtain ⟨a, vs, rfl, h1, h2⟩ := lstOf_ok f h q
      exact ⟨a, vs, rfl, .inl (.inl h1), h2⟩
  | loc n =>
    cases q : lstOf (.loc n) T S with
    | none => have e : (lstOf _ T S).map PyData.list = _ := e; rw [q] at e; cases e
    | some xs =>
      have e : (lstOf _ T S).map PyData.list = _ := e
      rw [q] at e; cases e
      obtain ⟨a, vs, rfl, h1, h2⟩ := lstOf_ok f h q
      exact ⟨a, vs, rfl, .inl (.inl h1), h2⟩
theorem look_v {T S : Sto} {r : Rv} {d : D} (hn : ∀ ds, d ≠ .list ds) (e : look r T S = some d) : r = .v d := by
  cases r with
  | v d' => cases e; rfl
  | scr ns => cases e; exact (hn _ rfl).elim
  | own n => have e : (lstOf (.own n) T S).map PyData.list = _ := e; cases q : lstOf (.own n) T S <;> rw [q] at e <;> cases e; exact (hn _ rfl).elim
  | loc n => have e : (lstOf (.loc n) T S).map PyData.list = _ := e; cases q : lstOf (.loc n) T S <;> rw [q] at e <;> cases e; exact (hn _ rfl).elim
theorem look_tuple {G H : Hp} {L M : List Addr} {T S : Sto} {x : V} {r : Rv} {ds : List D} (f : Fits X.K G H L M T S) (h : RepR X.K G L M x r) (e : look r T S = some (.tuple ds)) :
    r = .v (.tuple ds) ∧ ∃ a vs, x = .ref a ∧ SqT X.K G a vs ∧ SqT X.K H a vs ∧ Reps X.K G vs ds := by
  have e' := look_v (fun _ z => by cases z) e
  subst e'
  cases (show Rep X.K G x (.tuple ds) from h) with
  | tup hg hr => exact ⟨rfl, _, _, rfl, hg, sqT_mono f.sub hg, hr⟩
theorem look_str {G H : Hp} {L M : List Addr} {T S : Sto} {x : V} {r : Rv} {z : Str} (f : Fits X.K G H L M T S) (h : RepR X.K G L M x r) (e : look r T S = some (.str z)) : x = .str z := by
  have e' := look_v (fun _ z => by cases z) e
  subst e'
  cases (show Rep X.K G x (.str z) from h)
  rfl
theorem ixs : IxS ct X W o_ix := by
  refine ⟨_, ix_seq, fun x y a b T S G H L M σ Q f ra rb h => ?_⟩
  unfold o_ix at h
  split at h
  · rename_i i
    cases (show Rep X.K G y (.int i) from rb)
    split at h
    · rename_i xs e
      split at h
      · rename_i d hd
        obtain ⟨p, vs, rfl, hs, hr⟩ := look_list f ra e
        obtain ⟨v, hv, rv⟩ := reps_at hr hd
        exact .inl ⟨p, vs, i, v, rfl, rfl, hs, hv, sat_d f h rv⟩
      · exact (show False from h).elim
    · rename_i xs e
      split at h
      · rename_i d hd
        obtain ⟨_, p, vs, rfl, _, hs, hr⟩ := look_tuple f ra e
        obtain ⟨v, hv, rv⟩ := reps_at hr hd
        exact .inr (.inl ⟨p, vs, i, v, rfl, rfl, hs, hv, sat_d f h rv⟩)
      · exact (show False from h).elim
    · rename_i z e
      split at h
      · rename_i c hc
        split at h
        · rename_i hz
          rw [look_str f ra e]
          exact .inr (.inr ⟨z, i, c, rfl, rfl, line_le hz, hc, sat_d f h (.str _)⟩)
        · exact (show False from h).elim
      · exact (show False from h).elim
    · exact (show False from h).elim
  · exact (show False from h).elim
end

/-! ### slices -/
def cutL {α : Type} (xs : List α) (lo hi : Option Int) : List α := (xs.drop (HT.sIx xs.length 0 lo)).take (HT.sIx xs.length xs.length hi - HT.sIx xs.length 0 lo)
theorem reps_cut {K : PySem.W.Frag} {G : Hp} {vs : List V} {ds : List D} (r : Reps K G vs ds) (lo hi : Option Int) : Reps K G (cutV vs lo hi) (cutL ds lo hi) := by
  unfold cutV cutL
  rw [r.length]
  exact (r.drop _).take _
def partM (m : Option (EM Rv)) : EM (Option Int) := fun ρ T S => match m with
  | none => .ok none T S
  | some m => (m ρ T S).bind fun r T S => match r with
    | .v (.int i) => .ok (some i) T S
    | _ => .bad
def cutR (a : Rv) (lo hi : Option Int) (T S : Sto) : Res Rv := match look a T S with
  | some (.list xs) => .ok (.v (.list (cutL xs lo hi))) T S
  | some (.tuple xs) => .ok (.v (.tuple (cutL xs lo hi))) T S
  | some (.str x) => if x.length ≤ 16777216 then .ok (.v (.str (cutS x lo hi))) T S else .bad
  | _ => .bad
def cutM (m : EM Rv) (lo hi : Option (EM Rv)) : EM Rv := fun ρ T S => (m ρ T S).bind fun a T S => (partM lo ρ T S).bind fun l T S => (partM hi ρ T S).bind fun u T S => cutR a l u T S
abbrev relO : Hp → List Addr → List Addr → Option Int → Option Int → Prop := fun _ _ _ b b' => b = b'
section
variable {ct : Str → Option Addr} {X : Cx} {W : WX} {pos : Pos}
def SO (ct : Str → Option Addr) (X : Cx) (W : WX) (e : Option Expr) (m : Option (EM Rv)) : Prop :=
  ∃ t, PO X e t ∧ ∀ (ρ : Vn) (T S : Sto) (G H : Hp) (L M : List Addr) (σ : L2.St) (Q : Option Int → Hp → Prop), ρ.length = σ.length → Fits X.K G H L M T S → Slots X.K G L M ρ σ → Sat ct X.K W G H L M σ relO Q (partM m ρ T S) → t σ H Q
theorem so_none : SO ct X W none none := ⟨tNoPart, po_none, fun ρ T S G H L M σ Q hl f sl h => h G H L M none (Ext.refl _ _ _ _) f rfl⟩
theorem so_some {e : Expr} {m : EM Rv} (h : SE ct X W e m) : SO ct X W (some e) (some m) := by
  obtain ⟨t, p, q⟩ := h
  refine ⟨tPart t, po_some p, fun ρ T S G H L M σ Q hl f sl h => ?_⟩
  refine q ρ T S G H L M σ _ hl f sl (Sat.bind h fun r T1 S1 G1 H1 L1 M1 x e1 f1 r1 h1 => ?_)
  cases r with
  | v d =>
    cases d with
    | int i =>
      cases (show Rep X.K G1 x (.int i) from r1)
      exact ⟨i, rfl, h1 G1 H1 L1 M1 _ (Ext.refl _ _ _ _) f1 rfl⟩
    | _ => exact (show False from h1).elim
  | _ => exact (show False from h1).elim
theorem cutL_all {α : Type} {xs : List α} {lo hi : Option Int} (h : HT.sIx xs.length 0 lo = 0 ∧ HT.sIx xs.length xs.length hi = xs.length) : cutL xs lo hi = xs := by
  unfold cutL
  rw [h.1, h.2]
  simp
theorem se_cut {e : Expr} {lo hi : Option Expr} {p2 : Pos} {m : EM Rv} {ml mh : Option (EM Rv)} (he : SE ct X W e m) (hl : SO ct X W lo ml) (hh : SO ct X W hi mh) : SE ct X W (.Subscript e (.Slice lo hi none p2) pos) (cutM m ml mh) := by
  obtain ⟨t, p, q⟩ := he
  obtain ⟨tl, pl, ql⟩ := hl
  obtain ⟨th, ph, qh⟩ := hh
  refine ⟨_, pe_slice (sl_list.or (sl_tupA.or sl_str)) p pl ph, fun ρ T S G H L M σ Q hl f sl h => ?_⟩
  refine q ρ T S G H L M σ _ hl f sl (Sat.bind h fun r T1 S1 G1 H1 L1 M1 x e1 f1 r1 h1 => ?_)
  refine ql ρ T1 S1 G1 H1 L1 M1 σ _ hl f1 (sl.mono e1) (Sat.bind h1 fun l T2 S2 G2 H2 L2 M2 y e2 f2 r2 h2 => ?_)
  refine qh ρ T2 S2 G2 H2 L2 M2 σ _ hl f2 (sl.mono (e1.trans e2)) (Sat.bind h2 fun u T3 S3 G3 H3 L3 M3 z e3 f3 r3 h3 => ?_)
  cases r2; cases r3
  have r1' := r1.mono (e2.trans e3)
  unfold cutR at h3
  split at h3
  · rename_i xs e
    obtain ⟨p, vs, rfl, hs, hr⟩ := look_list f3 r1' e
    exact .inl ⟨p, vs, rfl, hs, fun q hq => sat_lst f3 h3 (reps_cut hr _ _) hq⟩
  · rename_i xs e
    obtain ⟨_, p, vs, rfl, hg, hs, hr⟩ := look_tuple f3 r1' e
    refine .inr (.inl ⟨p, vs, rfl, hs, fun hw => ?_, fun _ q hq => sat_tup f3 h3 (reps_cut hr _ _) hq⟩)
    rw [hr.length] at hw
    rw [cutL_all hw] at h3
    exact sat_d f3 h3 (.tup hg hr)
  · rename_i zz e
    split at h3
    · rename_i hz
      rw [look_str f3 r1' e]
      exact .inr (.inr ⟨zz, rfl, line_le hz, sat_d f3 h3 (.str _)⟩)
    · exact (show False from h3).elim
  · exact (show False from h3).elim

/-! ### built-ins -/
def callM (o : List Rv → Sto → Sto → Res Rv) (ms : EM (List Rv)) : EM Rv := fun ρ T S => (ms ρ T S).bind fun rs T S => o rs T S
theorem callM_ok {t : TA} {r : List V → Hp → VK → Prop} {o : List Rv → Sto → Sto → Res Rv} {ms : EM (List Rv)}
    (ha : ∀ (ρ : Vn) (T S : Sto) (G H : Hp) (L M : List Addr) (σ : L2.St) (Q : List V → Hp → Prop), ρ.length = σ.length → Fits X.K G H L M T S → Slots X.K G L M ρ σ → Sat ct X.K W G H L M σ (RepRs X.K) Q (ms ρ T S) → t σ H Q)
    (ho : ∀ (xs : List V) (rs : List Rv) (T S : Sto) (G H : Hp) (L M : List Addr) (σ : L2.St) (Q : VK), Fits X.K G H L M T S → RepRs X.K G L M xs rs → Sat ct X.K W G H L M σ (RepR X.K) Q (o rs T S) → r xs H Q)
    (ρ : Vn) (T S : Sto) (G H : Hp) (L M : List Addr) (σ : L2.St) (Q : VK) (hl : ρ.length = σ.length) (f : Fits X.K G H L M T S) (sl : Slots X.K G L M ρ σ) (h : Sat ct X.K W G H L M σ (RepR X.K) Q (callM o ms ρ T S)) : tCB r t σ H Q :=
  ha ρ T S G H L M σ _ hl f sl (Sat.bind h fun rs T1 S1 G1 H1 L1 M1 xs e1 f1 r1 h1 => ho xs rs T1 S1 G1 H1 L1 M1 σ Q f1 r1 h1)
variable {x : Str} {p : Pos} {e : Expr} {es : List Expr} {ms : EM (List Rv)} {o : List Rv → Sto → Sto → Res Rv}
theorem se_callB {id : String} (hc : CallS ct X W (.builtin id) o) (hg : Gl X x) (hm : X.mg x = none) (hv : bootBuiltins x = some (.builtin id)) (ha : SA ct X W (e :: es) ms) (hn : x ≠ "__name__") (hdb : (x == ("__debug__" : Str)) = false)
    (he : starEach (e :: es) X.env = (false, eval e X.env) :: starEach es X.env) (hpl : (backTo pos (starEach es X.env)).any (·.1) = false) : SE ct X W (.Call (.Name x p) (e :: es) [] pos) (callM o ms) := by
  obtain ⟨t, pa, qa⟩ := ha
  obtain ⟨r, pr, qr⟩ := hc
  exact ⟨tCB r t, pe_callB pr hg hm hv pa hn hdb he hpl, callM_ok qa qr⟩
theorem se_callTy {id : String} (hc : CallS ct X W (.type id) o) (hg : Gl X x) (hm : X.mg x = none) (hv : bootBuiltins x = some (.type id)) (ha : SA ct X W (e :: es) ms) (hn : x ≠ "__name__") (hdb : (x == ("__debug__" : Str)) = false)
    (he : starEach (e :: es) X.env = (false, eval e X.env) :: starEach es X.env) (hpl : (backTo pos (starEach es X.env)).any (·.1) = false) : SE ct X W (.Call (.Name x p) (e :: es) [] pos) (callM o ms) := by
  obtain ⟨t, pa, qa⟩ := ha
  obtain ⟨r, pr, qr⟩ := hc
  exact ⟨tCB r t, pe_callTy pr hg hm hv pa hn hdb he hpl, callM_ok qa qr⟩
def c_len (rs : List Rv) (T S : Sto) : Res Rv := match rs with
  | [r] => (match look r T S with
    | some (.list xs) => .ok (.v (.int xs.length)) T S
    | some (.tuple xs) => .ok (.v (.int xs.length)) T S
    | some (.str x) => if x.length ≤ 16777216 then .ok (.v (.int x.length)) T S else .bad
    | _ => .bad)
  | _ => .bad
theorem rs1 {K : PySem.W.Frag} {G : Hp} {L M : List Addr} {xs : List V} {r : Rv} (h : RepRs K G L M xs [r]) : ∃ x, xs = [x] ∧ RepR K G L M x r := by
  cases h with
  | cons h t => cases t; exact ⟨_, rfl, h⟩
theorem cs_len : CallS ct X W (.builtin "len") c_len := by
  refine ⟨_, call_len, fun xs rs T S G H L M σ Q f rr h => ?_⟩
  unfold c_len at h
  split at h
  · obtain ⟨x, rfl, r1⟩ := rs1 rr
    split at h
    · rename_i ds e
      obtain ⟨a, vs, rfl, hs, hr⟩ := look_list f r1 e
      exact ⟨.ref a, vs.length, rfl, .inl ⟨vs, hs, rfl⟩, by rw [hr.length]; exact sat_d f h (.int _)⟩
    · rename_i ds e
      obtain ⟨_, a, vs, rfl, _, hs, hr⟩ := look_tuple f r1 e
      exact ⟨.ref a, vs.length, rfl, .inr ⟨vs, hs, rfl⟩, by rw [hr.length]; exact sat_d f h (.int _)⟩
    · rename_i z e
      split at h
      · rename_i hz
        rw [look_str f r1 e]
        exact ⟨.str z, z.length, rfl, ⟨line_le hz, rfl⟩, sat_d f h (.int _)⟩
      · exact (show False from h).elim
    · exact (show False from h).elim
  · exact (show False from h).elim
def c_tuple (rs : List Rv) (T S : Sto) : Res Rv := match rs with
  | [r] => (match look r T S with
    | some (.list xs) => .ok (.v (.tuple xs)) T S
    | some (.tuple xs) => .ok (.v (.tuple xs)) T S
    | _ => .bad)
  | _ => .bad
theorem cs_tuple : CallS ct X W (.type "tuple") c_tuple := by
  refine ⟨_, call_tuple_of, fun xs rs T S G H L M σ Q f rr h => ?_⟩
  unfold c_tuple at h
  split at h
  · obtain ⟨x, rfl, r1⟩ := rs1 rr
    split at h
    · rename_i ds e
      obtain ⟨a, vs, rfl, hs, hr⟩ := look_list f r1 e
      exact ⟨a, vs, rfl, .inl ⟨hs, fun l hl => sat_tup f h hr hl⟩⟩
    · rename_i ds e
      obtain ⟨_, a, vs, rfl, hg, hs, hr⟩ := look_tuple f r1 e
      exact ⟨a, vs, rfl, .inr ⟨hs, sat_d f h (.tup hg hr)⟩⟩
    · exact (show False from h).elim
  · exact (show False from h).elim
def c_list (own : Bool) (rs : List Rv) (T S : Sto) : Res Rv := match rs with
  | [r] => (match look r T S with
    | some (.list xs) => if own then .ok (.own T.length) (T ++ [.lst xs]) S else .ok (.v (.list xs)) T S
    | some (.tuple xs) => if own then .ok (.own T.length) (T ++ [.lst xs]) S else .ok (.v (.list xs)) T S
    | _ => .bad)
  | _ => .bad
theorem cs_list (own : Bool) : CallS ct X W (.type "list") (c_list own) := by
  refine ⟨_, call_list_of, fun xs rs T S G H L M σ Q f rr h => ?_⟩
  unfold c_list at h
  split at h
  · obtain ⟨x, rfl, r1⟩ := rs1 rr
    split at h
    · rename_i ds e
      obtain ⟨a, vs, rfl, hs, hr⟩ := look_list f r1 e
      refine ⟨a, vs, rfl, .inl hs, fun l hl => ?_⟩
      cases own with
      | true => exact sat_own f h hr hl
      | false => exact sat_lst f h hr hl
    · rename_i ds e
      obtain ⟨_, a, vs, rfl, hg, hs, hr⟩ := look_tuple f r1 e
      refine ⟨a, vs, rfl, .inr hs, fun l hl => ?_⟩
      cases own with
      | true => exact sat_own f h hr hl
      | false => exact sat_lst f h hr hl
    · exact (show False from h).elim
  · exact (show False from h).elim
def c_int (rs : List Rv) (T S : Sto) : Res Rv := match rs with
  | [.v (.int i)] => .ok (.v (.int i)) T S
  | _ => .bad
theorem cs_int : CallS ct X W (.type "int") c_int := by
  refine ⟨_, call_int1, fun xs rs T S G H L M σ Q f rr h => ?_⟩
  unfold c_int at h
  split at h
  · rename_i i
    obtain ⟨x, rfl, r1⟩ := rs1 rr
    cases (show Rep X.K G x (.int i) from r1)
    exact .inl ⟨i, rfl, sat_d f h (.int _)⟩
  · exact (show False from h).elim
def c_str (rs : List Rv) (T S : Sto) : Res Rv := match rs with
  | [.v (.int i)] => if i.natAbs.log2 < 1920 then .ok (.v (.str (toString i))) T S else .bad
  | _ => .bad
theorem cs_str : CallS ct X W (.type "str") c_str := by
  refine ⟨_, call_str_int, fun xs rs T S G H L M σ Q f rr h => ?_⟩
  unfold c_str at h
  split at h
  · rename_i i
    split at h
    · rename_i hz
      obtain ⟨x, rfl, r1⟩ := rs1 rr
      cases (show Rep X.K G x (.int i) from r1)
      exact ⟨i, rfl, hz, sat_d f h (.str _)⟩
    · exact (show False from h).elim
  · exact (show False from h).elim
/-- truth values only -/
def bools : List D → Option (List Bool)
  | [] => some []
  | .bool b :: r => (bools r).map (b :: ·)
  | _ :: _ => none
theorem bools_ok {K : PySem.W.Frag} {G : Hp} : ∀ {ds : List D} {bs : List Bool} {vs : List V}, bools ds = some bs → Reps K G vs ds → vs = bs.map V.bl
  | [], _, _, e, r => by cases e; cases r; rfl
  | d :: ds, bs, vs, e, r => by
    cases r with
    | cons h t =>
      cases h with
      | bl b =>
        have e : (bools ds).map (b :: ·) = some bs := e
        cases q : bools ds with
        | none => rw [q] at e; cases e
        | some cs => rw [q] at e; cases e; rw [bools_ok q t]; rfl
      | _ => cases e
def c_all (rs : List Rv) (T S : Sto) : Res Rv := match rs with
  | [r] => (match look r T S with
    | some (.list xs) => (match bools xs with | some bs => .ok (.v (.bool (bs.all id))) T S | none => .bad)
    | _ => .bad)
  | _ => .bad
theorem cs_all (hc : X.calm = true) : CallS ct X W (.builtin "all") c_all := by
  refine ⟨_, cr_all hc, fun xs rs T S G H L M σ Q f rr h => ?_⟩
  unfold c_all at h
  split at h
  · obtain ⟨x, rfl, r1⟩ := rs1 rr
    split at h
    · rename_i ds e
      split at h
      · rename_i bs hb
        obtain ⟨a, vs, rfl, hs, hr⟩ := look_list f r1 e
        exact ⟨a, bs, rfl, by rw [← bools_ok hb hr]; exact hs, sat_d f h (.bl _)⟩
      · exact (show False from h).elim
    · exact (show False from h).elim
  · exact (show False from h).elim
def c_any (rs : List Rv) (T S : Sto) : Res Rv := match rs with
  | [r] => (match look r T S with
    | some (.list xs) => (match bools xs with | some bs => .ok (.v (.bool (bs.any id))) T S | none => .bad)
    | _ => .bad)
  | _ => .bad
theorem cs_any (hc : X.calm = true) : CallS ct X W (.builtin "any") c_any := by
  refine ⟨_, cr_any hc, fun xs rs T S G H L M σ Q f rr h => ?_⟩
  unfold c_any at h
  split at h
  · obtain ⟨x, rfl, r1⟩ := rs1 rr
    split at h
    · rename_i ds e
      split at h
      · rename_i bs hb
        obtain ⟨a, vs, rfl, hs, hr⟩ := look_list f r1 e
        exact ⟨a, bs, rfl, by rw [← bools_ok hb hr]; exact hs, sat_d f h (.bl _)⟩
      · exact (show False from h).elim
    · exact (show False from h).elim
  · exact (show False from h).elim
end
end RB

end

/-! text RStmt -/
section
set_option Elab.async false
set_option linter.all false
set_option maxRecDepth 100000
set_option maxHeartbeats 4000000
/-! RStmt: statements, loops, functions. -/
namespace RB
open PySem PySem.Spec PyProof.Rows L2

inductive Out where
  | next (ρ : Vn) (T S : Sto)
  | ret (r : Rv) (T S : Sto)
  | brk (ρ : Vn) (T S : Sto)
  | cnt (ρ : Vn) (T S : Sto)
  | exn (x : Exn) (ρ : Vn) (T S : Sto)
  | bad
abbrev SM := Vn → Sto → Sto → Out
def Res.out {α : Type} (r : Res α) (ρ : Vn) (k : α → Sto → Sto → Out) : Out := match r with
  | .ok a T S => k a T S
  | .exn x T S => .exn x ρ T S
  | .bad => .bad
@[simp] theorem Res.out_ok {α : Type} (a : α) (T S : Sto) (ρ : Vn) (k : α → Sto → Sto → Out) : (Res.ok a T S).out ρ k = k a T S := rfl
@[simp] theorem Res.out_exn {α : Type} (x : Exn) (T S : Sto) (ρ : Vn) (k : α → Sto → Sto → Out) : (Res.exn x T S : Res α).out ρ k = .exn x ρ T S := rfl
@[simp] theorem Res.out_bad {α : Type} (ρ : Vn) (k : α → Sto → Sto → Out) : (Res.bad : Res α).out ρ k = .bad := rfl
def Out.thn (o : Out) (s : SM) : Out := match o with
  | .next ρ T S => s ρ T S
  | o => o
@[simp] theorem Out.thn_next (ρ : Vn) (T S : Sto) (s : SM) : (Out.next ρ T S).thn s = s ρ T S := rfl
@[simp] theorem Out.thn_ret (r : Rv) (T S : Sto) (s : SM) : (Out.ret r T S).thn s = .ret r T S := rfl
@[simp] theorem Out.thn_brk (ρ : Vn) (T S : Sto) (s : SM) : (Out.brk ρ T S).thn s = .brk ρ T S := rfl
@[simp] theorem Out.thn_cnt (ρ : Vn) (T S : Sto) (s : SM) : (Out.cnt ρ T S).thn s = .cnt ρ T S := rfl
@[simp] theorem Out.thn_exn (x : Exn) (ρ : Vn) (T S : Sto) (s : SM) : (Out.exn x ρ T S).thn s = .exn x ρ T S := rfl
@[simp] theorem Out.thn_bad (s : SM) : Out.bad.thn s = .bad := rfl

def Sl (K : PySem.W.Frag) (G : Hp) (L M : List Addr) (ρ : Vn) (σ : L2.St) : Prop := ρ.length = σ.length ∧ Slots K G L M ρ σ
section
variable (ct : Str → Option Addr) (K : PySem.W.Frag) (W : WX)
def SatS (G H : Hp) (L M : List Addr) (E : Ends) : Out → Prop
  | .next ρ' T' S' => ∀ G' H' L' M' σ', Ext G H L M G' H' L' M' → Fits K G' H' L' M' T' S' → Sl K G' L' M' ρ' σ' → E.nx σ' H'
  | .ret r T' S' => ∀ G' H' L' M' x, Ext G H L M G' H' L' M' → Fits K G' H' L' M' T' S' → RepR K G' L' M' x r → E.rt x H'
  | .brk ρ' T' S' => ∀ G' H' L' M' σ', Ext G H L M G' H' L' M' → Fits K G' H' L' M' T' S' → Sl K G' L' M' ρ' σ' → E.bk σ' H'
  | .cnt ρ' T' S' => ∀ G' H' L' M' σ', Ext G H L M G' H' L' M' → Fits K G' H' L' M' T' S' → Sl K G' L' M' ρ' σ' → E.ct σ' H'
  | .exn x ρ' T' S' => ∀ G' H' L' M' σ' c d, Ext G H L M G' H' L' M' → Fits K G' H' L' M' T' S' → Sl K G' L' M' ρ' σ' → RepX ct K G' H' c d x → W c d σ' H'
  | .bad => False
end
section
variable {ct : Str → Option Addr} {K : PySem.W.Frag} {W : WX} {G H G1 H1 : Hp} {L M L1 M1 : List Addr} {E : Ends}
theorem SatS.pre {o : Out} (e : Ext G H L M G1 H1 L1 M1) (h : SatS ct K W G H L M E o) : SatS ct K W G1 H1 L1 M1 E o := by
  cases o with
  | next ρ T S => exact fun G' H' L' M' s e' f q => h G' H' L' M' s (e.trans e') f q
  | ret r T S => exact fun G' H' L' M' s e' f q => h G' H' L' M' s (e.trans e') f q
  | brk ρ T S => exact fun G' H' L' M' s e' f q => h G' H' L' M' s (e.trans e') f q
  | cnt ρ T S => exact fun G' H' L' M' s e' f q => h G' H' L' M' s (e.trans e') f q
  | exn x ρ T S => exact fun G' H' L' M' s c d e' f q => h G' H' L' M' s c d (e.trans e') f q
  | bad => exact h
/-- an expression, then what follows -/
theorem SatS.of {α β : Type} {rel : Hp → List Addr → List Addr → β → α → Prop} {ρ : Vn} {σ : L2.St} {Q : β → Hp → Prop} {r : Res α} {k : α → Sto → Sto → Out} (sl : Sl K G L M ρ σ) (h : SatS ct K W G H L M E (r.out ρ k))
    (hk : ∀ a T' S' G' H' L' M' y, Ext G H L M G' H' L' M' → Fits K G' H' L' M' T' S' → rel G' L' M' y a → SatS ct K W G' H' L' M' E (k a T' S') → Q y H') : Sat ct K W G H L M σ rel Q r := by
  cases r with
  | ok a T S => exact fun G' H' L' M' y e f q => hk a T S G' H' L' M' y e f q (SatS.pre e h)
  | exn x T S => exact fun G' H' L' M' c d e f q => h G' H' L' M' σ c d e f ⟨sl.1, sl.2.mono e⟩ q
  | bad => exact h
end
section
variable (ct : Str → Option Addr) (X : Cx) (W : WX)
def SS (st : Stmt) (s : SM) : Prop :=
  ∃ t, PS X st t ∧ ∀ (ρ : Vn) (T S : Sto) (G H : Hp) (L M : List Addr) (σ : L2.St) (E : Ends), Fits X.K G H L M T S → Sl X.K G L M ρ σ → SatS ct X.K W G H L M E (s ρ T S) → t E σ H
def SSs (st : List Stmt) (s : SM) : Prop :=
  ∃ t, PSs X st t ∧ ∀ (ρ : Vn) (T S : Sto) (G H : Hp) (L M : List Addr) (σ : L2.St) (E : Ends), Fits X.K G H L M T S → Sl X.K G L M ρ σ → SatS ct X.K W G H L M E (s ρ T S) → t E σ H
end
def skipS : SM := fun ρ T S => .next ρ T S
def seqS (s u : SM) : SM := fun ρ T S => (s ρ T S).thn u
def retS (m : EM Rv) : SM := fun ρ T S => (m ρ T S).out ρ fun r T S => .ret r T S
def dropS (m : EM Rv) : SM := fun ρ T S => (m ρ T S).out ρ fun _ T S => .next ρ T S
def setS (i : Nat) (m : EM Rv) : SM := fun ρ T S => (m ρ T S).out ρ fun r T S => .next (ρ.set i (some r)) T S
def ifS (c : EM Bool) (s u : SM) : SM := fun ρ T S => (c ρ T S).out ρ fun b T S => if b = true then s ρ T S else u ρ T S
section
variable {ct : Str → Option Addr} {X : Cx} {W : WX} {st : Stmt} {rest : List Stmt} {s u : SM} {e : Expr} {m : EM Rv} {pos : Pos}
theorem sss_nil : SSs ct X W [] skipS := ⟨tNext, pss_nil, fun ρ T S G H L M σ E f sl h => h G H L M σ (Ext.refl _ _ _ _) f sl⟩
theorem sss_one (h : SS ct X W st s) : SSs ct X W [st] s := by
  obtain ⟨t, p, q⟩ := h
  exact ⟨t, pss_one p, q⟩
theorem sss_cons (h : SS ct X W st s) (h2 : SSs ct X W rest u) : SSs ct X W (st :: rest) (seqS s u) := by
  obtain ⟨t, p, q⟩ := h
  obtain ⟨t2, p2, q2⟩ := h2
  refine ⟨tSeq t t2, pss_cons p p2, fun ρ T S G H L M σ E f sl h => ?_⟩
  refine q ρ T S G H L M σ _ f sl ?_
  unfold seqS at h
  cases e : s ρ T S with
  | next ρ1 T1 S1 =>
    rw [e] at h
    exact fun G' H' L' M' σ' x f' sl' => q2 ρ1 T1 S1 G' H' L' M' σ' E f' sl' (SatS.pre x h)
  | ret r T1 S1 => rw [e] at h; exact h
  | brk ρ1 T1 S1 => rw [e] at h; exact h
  | cnt ρ1 T1 S1 => rw [e] at h; exact h
  | exn x ρ1 T1 S1 => rw [e] at h; exact h
  | bad => rw [e] at h; exact h
theorem ss_pass : SS ct X W (.Pass pos) skipS := ⟨tNext, ps_pass, fun ρ T S G H L M σ E f sl h => h G H L M σ (Ext.refl _ _ _ _) f sl⟩
theorem ss_break : SS ct X W (.Break pos) (fun ρ T S => .brk ρ T S) := ⟨tBreak, ps_break, fun ρ T S G H L M σ E f sl h => h G H L M σ (Ext.refl _ _ _ _) f sl⟩
theorem ss_continue : SS ct X W (.Continue pos) (fun ρ T S => .cnt ρ T S) := ⟨tCont, ps_continue, fun ρ T S G H L M σ E f sl h => h G H L M σ (Ext.refl _ _ _ _) f sl⟩
theorem ss_ret (h : SE ct X W e m) : SS ct X W (.Return (some e) pos) (retS m) := by
  obtain ⟨t, p, q⟩ := h
  refine ⟨tRet t, ps_ret p, fun ρ T S G H L M σ E f sl h => ?_⟩
  exact q ρ T S G H L M σ _ sl.1 f sl.2 (SatS.of sl h fun r T1 S1 G1 H1 L1 M1 x e1 f1 r1 h1 => h1 G1 H1 L1 M1 x (Ext.refl _ _ _ _) f1 r1)
theorem ss_expr (h : SE ct X W e m) (hs : swapsWith e none pos.line X.env = pure false) : SS ct X W (.Expr e pos) (dropS m) := by
  obtain ⟨t, p, q⟩ := h
  refine ⟨tDrop t, ps_expr p hs, fun ρ T S G H L M σ E f sl h => ?_⟩
  exact q ρ T S G H L M σ _ sl.1 f sl.2 (SatS.of sl h fun r T1 S1 G1 H1 L1 M1 x e1 f1 r1 h1 => h1 G1 H1 L1 M1 σ (Ext.refl _ _ _ _) f1 ⟨sl.1, sl.2.mono e1⟩)
theorem Sl.set {K : PySem.W.Frag} {G : Hp} {L M : List Addr} {ρ : Vn} {σ : L2.St} {i : Nat} {x : V} {r : Rv} (h : Sl K G L M ρ σ) (hr : RepR K G L M x r) : Sl K G L M (ρ.set i (some r)) (σ.set i (some x)) :=
  ⟨by rw [List.length_set, List.length_set]; exact h.1, h.2.set h.1 hr⟩
theorem Sl.mono {K : PySem.W.Frag} {G H G' H' : Hp} {L M L' M' : List Addr} {ρ : Vn} {σ : L2.St} (e : Ext G H L M G' H' L' M') (h : Sl K G L M ρ σ) : Sl K G' L' M' ρ σ := ⟨h.1, h.2.mono e⟩
theorem ss_set {i : Nat} {x : Str} {pos' : Pos} (h : SE ct X W e m) (hN : X.N.Nodup) (hi : X.N[i]? = some x) (hx : Loc X.env.scope x) (hs : swapsWith e (some (.Name x pos')) pos.line X.env = pure false) (hf : X.fn x = true ∨ X.env.scope.names.lookup x = some .local) :
    SS ct X W (.Assign [.Name x pos'] e pos) (setS i m) := by
  obtain ⟨t, p, q⟩ := h
  refine ⟨tAsg t (gName i), ps_set hN hi hx p hs hf, fun ρ T S G H L M σ E f sl h => ?_⟩
  exact q ρ T S G H L M σ _ sl.1 f sl.2 (SatS.of sl h fun r T1 S1 G1 H1 L1 M1 x e1 f1 r1 h1 => h1 G1 H1 L1 M1 _ (Ext.refl _ _ _ _) f1 ((sl.mono e1).set r1))
theorem ss_if {c : Expr} {a b : List Stmt} {mc : EM Bool} (hc : ST ct X W c mc) (ha : SSs ct X W a s) (hb : SSs ct X W b u) : SS ct X W (.If c a b pos) (ifS mc s u) := by
  obtain ⟨t, p, q⟩ := hc
  obtain ⟨ta, pa, qa⟩ := ha
  obtain ⟨tb, pb, qb⟩ := hb
  refine ⟨tIfS t ta tb, ps_if p pa pb, fun ρ T S G H L M σ E f sl h => ?_⟩
  refine q ρ T S G H L M σ _ sl.1 f sl.2 (SatS.of sl h fun r T1 S1 G1 H1 L1 M1 x e1 f1 r1 h1 => ?_)
  cases r1
  cases r with
  | true => exact qa ρ T1 S1 G1 H1 L1 M1 σ E f1 (sl.mono e1) h1
  | false => exact qb ρ T1 S1 G1 H1 L1 M1 σ E f1 (sl.mono e1) h1
end

/-! ### targets of data -/
abbrev TgM := D → Vn → Option Vn
section
variable (X : Cx)
/-- js: the slots it writes -/
def SG (tg : Expr) (js : List Nat) (g : TgM) : Prop :=
  ∃ t, PG X tg t ∧ ∀ (x : V) (d : D) (ρ ρ' : Vn) (σ : L2.St) (G H : Hp) (L M : List Addr) (Q : L2.St → Hp → Prop), Same G H → Sl X.K G L M ρ σ → Rep X.K G x d → g d ρ = some ρ' →
    (∀ σ', Sl X.K G L M ρ' σ' → (∀ i, i ∉ js → σ'[i]? = σ[i]?) → σ'.length = σ.length → Q σ' H) → t x σ H Q
def SGs (tg : List Expr) (js : List Nat) (g : List D → Vn → Option Vn) : Prop :=
  ∃ t, PGs X tg t ∧ ∀ (xs : List V) (ds : List D) (ρ ρ' : Vn) (σ : L2.St) (G H : Hp) (L M : List Addr) (Q : L2.St → Hp → Prop), Same G H → Sl X.K G L M ρ σ → Reps X.K G xs ds → g ds ρ = some ρ' →
    (∀ σ', Sl X.K G L M ρ' σ' → (∀ i, i ∉ js → σ'[i]? = σ[i]?) → σ'.length = σ.length → Q σ' H) → t xs σ H Q
end
def tgName (i : Nat) : TgM := fun d ρ => some (ρ.set i (some (.v d)))
def tgsNil : List D → Vn → Option Vn := fun ds ρ => match ds with | [] => some ρ | _ => none
def tgsCons (g : TgM) (gs : List D → Vn → Option Vn) : List D → Vn → Option Vn := fun ds ρ => match ds with
  | d :: r => (g d ρ).bind fun ρ' => gs r ρ'
  | [] => none
def tgTup (n : Nat) (gs : List D → Vn → Option Vn) : TgM := fun d ρ => match d with
  | .tuple ds => if ds.length = n then gs ds ρ else none
  | _ => none
section
variable {ct : Str → Option Addr} {X : Cx} {W : WX} {pos : Pos}
theorem sg_name {i : Nat} {x : Str} (hN : X.N.Nodup) (hi : X.N[i]? = some x) (hx : Loc X.env.scope x) (hf : X.fn x = true ∨ X.env.scope.names.lookup x = some .local) : SG X (.Name x pos) [i] (tgName i) := by
  refine ⟨gName i, pg_name hN hi hx hf, fun x d ρ ρ' σ G H L M Q sub sl r e h => ?_⟩
  cases e
  exact h _ (sl.set r) (fun j hj => by rw [List.getElem?_set_ne (by intro z; subst z; simp at hj)]) (by rw [List.length_set])
theorem sgs_nil : SGs X [] [] tgsNil := by
  refine ⟨gNil, pgs_nil, fun xs ds ρ ρ' σ G H L M Q sub sl r e h => ?_⟩
  cases r with
  | nil => cases e; exact ⟨rfl, h σ sl (fun _ _ => rfl) rfl⟩
  | cons _ _ => cases e
theorem sgs_cons {e : Expr} {es : List Expr} {js ks : List Nat} {g : TgM} {gs : List D → Vn → Option Vn} (h1 : SG X e js g) (h2 : SGs X es ks gs)
    (hs : (assignEach (e :: es) X.env).map (·.2) = assign e X.env :: (assignEach es X.env).map (·.2)) : SGs X (e :: es) (js ++ ks) (tgsCons g gs) := by
  obtain ⟨t, p, q⟩ := h1
  obtain ⟨t2, p2, q2⟩ := h2
  refine ⟨gCons t t2, pgs_cons p p2 hs, fun xs ds ρ ρ' σ G H L M Q sub sl r e h => ?_⟩
  cases r with
  | nil => cases e
  | @cons x xs d ds h1 hr =>
    refine ⟨x, xs, rfl, ?_⟩
    have e : (g d ρ).bind (fun ρ' => gs ds ρ') = some ρ' := e
    cases q1 : g d ρ with
    | none => rw [q1] at e; cases e
    | some ρ1 =>
      rw [q1] at e
      refine q x d ρ ρ1 σ G H L M _ sub sl h1 q1 fun σ1 sl1 k1 l1 => ?_
      exact q2 xs ds ρ1 ρ' σ1 G H L M Q sub sl1 hr e fun σ2 sl2 k2 l2 => h σ2 sl2 (fun i hi => (k2 i (fun z => hi (List.mem_append_right _ z))).trans (k1 i fun z => hi (List.mem_append_left _ z))) (l2.trans l1)
theorem sg_tup {es : List Expr} {k : Nat} {js : List Nat} {gs : List D → Vn → Option Vn} {n : Nat} (hc : X.calm = true) (h : SGs X es js gs) (hn : (assignEach es X.env).length = n) (hst : (assignEach es X.env).findIdx? (·.1) = none) : SG X (.Tuple es k pos) js (tgTup n gs) := by
  obtain ⟨t, p, q⟩ := h
  refine ⟨gTup X.K n t, pg_tup hc p hn hst, fun x d ρ ρ' σ G H L M Q sub sl r e h => ?_⟩
  unfold tgTup at e
  split at e
  · rename_i ds
    split at e
    · rename_i hl
      cases r with
      | @tup a vs _ hs hr => exact ⟨a, vs, rfl, sqT_mono sub hs, by rw [hr.length]; exact hl, q vs ds ρ ρ' σ G H L M Q sub sl hr e h⟩
    · cases e
  · cases e
/-- target = data -/
def asgS (g : TgM) (m : EM Rv) : SM := fun ρ T S => (m ρ T S).out ρ fun r T S => match toD r T with
  | some (d, T') => (match g d ρ with
    | some ρ' => .next ρ' T' S
    | none => .bad)
  | none => .bad
theorem ss_asg {tg e : Expr} {js : List Nat} {g : TgM} {m : EM Rv} (he : SE ct X W e m) (hg : SG X tg js g) (hs : swapsWithSole [tg] e pos.line X.env = pure false) (hw : swappedStores [tg] e X.env = pure none)
    (h1 : (assignEach [tg] X.env).map (·.2) = [assign tg X.env]) : SS ct X W (.Assign [tg] e pos) (asgS g m) := by
  obtain ⟨t, p, q⟩ := he
  obtain ⟨t2, p2, q2⟩ := hg
  refine ⟨tAsg t t2, ps_asg p p2 hs hw h1, fun ρ T S G H L M σ E f sl h => ?_⟩
  refine q ρ T S G H L M σ _ sl.1 f sl.2 (SatS.of sl h fun r T1 S1 G1 H1 L1 M1 x e1 f1 r1 h1 => ?_)
  split at h1
  · rename_i d T' e2
    split at h1
    · rename_i ρ' e3
      obtain ⟨G2, x2, f2, r2⟩ := toD_ok f1 r1 e2
      exact q2 x d ρ ρ' σ G2 H1 L1 M1 _ f2.sub (sl.mono (e1.trans x2)) r2 e3 fun σ' sl' _ _ => h1 G2 H1 L1 M1 σ' x2 f2 sl'
    · exact (show False from h1).elim
  · exact (show False from h1).elim
/-- a, b = x, y: plain names, stored from the right -/
def parS (i j : Nat) (ms : EM (List Rv)) : SM := fun ρ T S => (ms ρ T S).out ρ fun rs T S => match rs with
  | [a, b] => .next ((ρ.set i (some a)).set j (some b)) T S
  | _ => .bad
theorem ss_par {i j : Nat} {x y : Str} {a b : Expr} {ms : EM (List Rv)} {px py pt : Pos} {kt k2 pt2} (hc : X.calm = true) (hN : X.N.Nodup) (hi : X.N[i]? = some x) (hj : X.N[j]? = some y) (hij : i ≠ j)
    (hx : X.env.scope.names.lookup x = some .local) (hy : X.env.scope.names.lookup y = some .local) (ha : SA ct X W [a, b] ms)
    (hw : swappedStores [.Tuple [.Name x px, .Name y py] kt pt] (.Tuple [a, b] k2 pt2) X.env = pure (some [x, y]))
    (hs : swapsWithSole [.Tuple [.Name x px, .Name y py] kt pt] (.Tuple [a, b] k2 pt2) pos.line X.env = pure false) :
    SS ct X W (.Assign [.Tuple [.Name x px, .Name y py] kt pt] (.Tuple [a, b] k2 pt2) pos) (parS i j ms) := by
  obtain ⟨t, p, q⟩ := ha
  refine ⟨tPar i j t, ps_par hc hN hi hj hij hx hy p hw hs, fun ρ T S G H L M σ E f sl h => ?_⟩
  refine q ρ T S G H L M σ _ sl.1 f sl.2 (SatS.of sl h fun rs T1 S1 G1 H1 L1 M1 xs e1 f1 r1 h1 => ?_)
  split at h1
  · cases r1 with
    | @cons u us _ _ ru rt =>
      cases rt with
      | @cons w ws _ _ rw' rt2 =>
        cases rt2
        exact ⟨u, w, rfl, h1 G1 H1 L1 M1 _ (Ext.refl _ _ _ _) f1 (((sl.mono e1).set ru).set rw')⟩
  · exact (show False from h1).elim
end

/-! ### dicts of the shared store, by text keys -/
def findD (kvs : List (Key × D)) (k : Key) : Option D := (kvs.find? fun kv => decide (kv.1 = k)).map (·.2)
def putD (kvs : List (Key × D)) (k : Key) (d : D) : List (Key × D) := if (kvs.any fun kv => decide (kv.1 = k)) = true then kvs.map (fun kv => if kv.1 = k then (kv.1, d) else kv) else kvs ++ [(k, d)]
section
variable {K : PySem.W.Frag} {G : Hp}
theorem find_ok {k : Key} {d : D} : ∀ {ws : List (Key × V)} {kvs : List (Key × D)}, ws.map (·.1) = kvs.map (·.1) → Reps K G (ws.map (·.2)) (kvs.map (·.2)) → findD kvs k = some d → ∃ v, valV ws k = some v ∧ Rep K G v d
  | [], [], _, _, e => by cases e
  | [], _ :: _, h, _, _ => by cases h
  | _ :: _, [], h, _, _ => by cases h
  | (a, v) :: ws, (b, c) :: kvs, h, r, e => by
    rw [List.map_cons, List.map_cons] at h
    injection h with h1 h2
    cases r with
    | cons r1 r2 =>
      have h1 : a = b := h1
      subst h1
      unfold findD at e
      unfold valV
      rw [List.find?_cons] at e ⊢
      by_cases q : a = k
      · subst q
        rw [decide_eq_true rfl] at e ⊢
        cases e
        exact ⟨v, rfl, r1⟩
      · rw [decide_eq_false q] at e ⊢
        exact find_ok h2 r2 e
theorem any_keys (k : Key) : ∀ {ws : List (Key × V)} {kvs : List (Key × D)}, ws.map (·.1) = kvs.map (·.1) → (ws.any fun kv => decide (kv.1 = k)) = kvs.any fun kv => decide (kv.1 = k)
  | [], [], _ => rfl
  | [], _ :: _, h => by cases h
  | _ :: _, [], h => by cases h
  | (a, v) :: ws, (b, c) :: kvs, h => by
    rw [List.map_cons, List.map_cons] at h
    injection h with h1 h2
    have h1 : a = b := h1
    rw [List.any_cons, List.any_cons, any_keys k h2, h1]
theorem map_put {k : Key} {d : D} {v : V} (r : Rep K G v d) : ∀ {ws : List (Key × V)} {kvs : List (Key × D)}, ws.map (·.1) = kvs.map (·.1) → Reps K G (ws.map (·.2)) (kvs.map (·.2)) →
    (ws.map (fun kv => if kv.1 = k then (kv.1, v) else kv)).map (·.1) = (kvs.map (fun kv => if kv.1 = k then (kv.1, d) else kv)).map (·.1) ∧
    Reps K G ((ws.map (fun kv => if kv.1 = k then (kv.1, v) else kv)).map (·.2)) ((kvs.map (fun kv => if kv.1 = k then (kv.1, d) else kv)).map (·.2))
  | [], [], _, _ => ⟨rfl, .nil⟩
  | [], _ :: _, h, _ => by cases h
  | _ :: _, [], h, _ => by cases h
  | (a, u) :: ws, (b, c) :: kvs, h, q => by
    rw [List.map_cons, List.map_cons] at h
    injection h with h1 h2
    have h1 : a = b := h1
    subst h1
    cases q with
    | cons q1 q2 =>
      obtain ⟨i1, i2⟩ := map_put (k := k) r h2 q2
      simp only [List.map_cons]
      by_cases z : a = k
      · subst z
        simp only [if_true]
        exact ⟨by rw [i1], .cons r i2⟩
      · simp only [if_neg z]
        exact ⟨by rw [i1], .cons q1 i2⟩
theorem put_ok {k : Key} {d : D} {v : V} {ws : List (Key × V)} {kvs : List (Key × D)} (r : Rep K G v d) (h : ws.map (·.1) = kvs.map (·.1)) (q : Reps K G (ws.map (·.2)) (kvs.map (·.2))) :
    (putK ws k v).map (·.1) = (putD kvs k d).map (·.1) ∧ Reps K G ((putK ws k v).map (·.2)) ((putD kvs k d).map (·.2)) := by
  unfold putK putD
  rw [any_keys k h]
  split
  · exact map_put r h q
  · simp only [List.map_append, List.map_cons, List.map_nil]
    exact ⟨by rw [h], q.append (.cons r .nil)⟩
end
/-- d[key] -/
def dgetR (a b : Rv) (T S : Sto) : Res Rv := match a, b with
  | .loc n, .v (.str x) => (match S[n]? with
    | some (.dic kvs) => (match findD kvs (.inr x) with | some d => .ok (.v d) T S | none => .bad)
    | _ => .bad)
  | _, _ => .bad
section
variable {ct : Str → Option Addr} {X : Cx} {W : WX} {pos : Pos} {o i e : Expr} {mo mi m : EM Rv}
theorem se_dget (hu : X.A.units + 1 < cLine) (ho : SE ct X W o mo) (hi : SE ct X W i mi) (hs : NoSl i) : SE ct X W (.Subscript o i pos) (bin dgetR mo mi) := by
  obtain ⟨t, p, q⟩ := ho
  obtain ⟨t2, p2, q2⟩ := hi
  refine ⟨tDGet t t2, pe_dget hu p p2 hs, fun ρ T S G H L M σ Q hl f sl h => ?_⟩
  refine q ρ T S G H L M σ _ hl f sl (Sat.bind h fun r T1 S1 G1 H1 L1 M1 x e1 f1 r1 h1 => ?_)
  refine q2 ρ T1 S1 G1 H1 L1 M1 σ _ hl f1 (sl.mono e1) (Sat.bind h1 fun k T2 S2 G2 H2 L2 M2 y e2 f2 r2 h2 => ?_)
  unfold dgetR at h2
  split at h2
  · rename_i n z
    split at h2
    · rename_i kvs ek
      split at h2
      · rename_i d ed
        obtain ⟨a, ha, rfl⟩ := r1.mono e2
        cases (show Rep X.K G2 y (.str z) from r2)
        obtain ⟨ws, w1, w2, w3, w4⟩ := f2.obL n a _ ha ek
        obtain ⟨v, hv, rv⟩ := find_ok w3 w4 ed
        exact ⟨a, v, rfl, .inl ⟨ws, .inr z, .inl w1, rfl, hv.symm⟩, sat_d f2 h2 rv⟩
      · exact (show False from h2).elim
    · exact (show False from h2).elim
  · exact (show False from h2).elim
/-- d[key] = e -/
def dputS (md mk m : EM Rv) : SM := fun ρ T S => (m ρ T S).out ρ fun r T S => (md ρ T S).out ρ fun a T S => (mk ρ T S).out ρ fun b T S => match a, b with
  | .loc n, .v (.str x) => (match S[n]?, toD r T with
    | some (.dic kvs), some (d, T') => if kvs.length < 16777216 then .next ρ T' (S.set n (.dic (putD kvs (.inr x) d))) else .bad
    | _, _ => .bad)
  | _, _ => .bad
theorem ss_dput {pos' : Pos} (hu : X.A.units + 1 < cLine) (ho : SE ct X W o mo) (hi : SE ct X W i mi) (he : SE ct X W e m) (hs : swapsWith e (some (.Subscript o i pos')) pos.line X.env = pure false) :
    SS ct X W (.Assign [.Subscript o i pos'] e pos) (dputS mo mi m) := by
  obtain ⟨t, p, q⟩ := he
  obtain ⟨t1, p1, q1⟩ := ho
  obtain ⟨t2, p2, q2⟩ := hi
  refine ⟨sDPut t1 t2 t, ps_dput hu p1 p2 p hs, fun ρ T S G H L M σ E f sl h => ?_⟩
  refine q ρ T S G H L M σ _ sl.1 f sl.2 (SatS.of sl h fun r T1 S1 G1 H1 L1 M1 x e1 f1 r1 h1 => ?_)
  refine q1 ρ T1 S1 G1 H1 L1 M1 σ _ sl.1 f1 (sl.2.mono e1) (SatS.of (sl.mono e1) h1 fun a T2 S2 G2 H2 L2 M2 y e2 f2 r2 h2 => ?_)
  refine q2 ρ T2 S2 G2 H2 L2 M2 σ _ sl.1 f2 (sl.2.mono (e1.trans e2)) (SatS.of (sl.mono (e1.trans e2)) h2 fun b T3 S3 G3 H3 L3 M3 z e3 f3 r3 h3 => ?_)
  split at h3
  · rename_i n k
    split at h3
    · rename_i kvs d T' ek ed
      split at h3
      · rename_i hz
        obtain ⟨G4, x4, f4, r4⟩ := toD_ok f3 (r1.mono (e2.trans e3)) ed
        obtain ⟨a, ha, rfl⟩ := r2.mono e3
        cases (show Rep X.K G3 z (.str k) from r3)
        obtain ⟨ws, w1, w2, w3, w4⟩ := f4.obL n a _ ha ek
        obtain ⟨c1, c2⟩ := put_ok (k := .inr k) r4 w3 w4
        obtain ⟨x5, f5⟩ := f4.setL (u := .dK (putK ws (.inr k) x)) (o := .dic (putD kvs (.inr k) d)) ha w2 ⟨_, upd_same, w2, c1, c2⟩
        have wl : ws.length = kvs.length := by have := congrArg List.length w3; simpa using this
        exact ⟨a, _, rfl, DPut.k (k := .inr k) w1 (by rw [wl]; exact Nat.lt_of_lt_of_le hz (by rw [sizeLine_eq]; exact Nat.le_refl _)), h3 _ _ _ _ σ (x4.trans x5) f5 (sl.mono (((e1.trans e2).trans e3).trans (x4.trans x5)))⟩
      · exact (show False from h3).elim
    · exact (show False from h3).elim
  · exact (show False from h3).elim
end
end RB

end

/-! text RLoop -/
section
set_option Elab.async false
set_option linter.all false
set_option maxRecDepth 100000
set_option maxHeartbeats 4000000
/-! RLoop: what is walked, loops, comprehensions, functions and their calls. -/
namespace RB
open PySem PySem.Spec PyProof.Rows L2

/-! ### what is walked -/
def WalkD (K : PySem.W.Frag) (J : It) (G : Hp) (ds : List D) : Prop :=
  (∀ (i : Nat) (G1 H1 : Hp) (d : D), Same G G1 → Same G1 H1 → ds[i]? = some d → J.go i H1 ∧ ∀ x H2, J.yld i H1 x H2 → (H2 = H1 ∧ Rep K G1 x d) ∨ ∃ p o, H1 p = none ∧ H2 = upd H1 p o ∧ Rep K (upd G1 p o) x d) ∧
  ∀ (i : Nat) (G1 H1 : Hp), Same G G1 → Same G1 H1 → ds.length ≤ i → J.stop i H1
theorem WalkD.mono {K : PySem.W.Frag} {J : It} {G G' : Hp} {ds : List D} (e : Same G G') (h : WalkD K J G ds) : WalkD K J G' ds :=
  ⟨fun i G1 H1 d a b c => h.1 i G1 H1 d (e.trans a) b c, fun i G1 H1 a b c => h.2 i G1 H1 (e.trans a) b c⟩
abbrev relI (K : PySem.W.Frag) : Hp → List Addr → List Addr → It → List D → Prop := fun G _ _ J ds => WalkD K J G ds
def SI (ct : Str → Option Addr) (X : Cx) (W : WX) (tg iter : Expr) (m : EM (List D)) : Prop :=
  ∃ wi, PI X tg iter wi ∧ ∀ (ρ : Vn) (T S : Sto) (G H : Hp) (L M : List Addr) (σ : L2.St) (R : It → Hp → Prop), Fits X.K G H L M T S → Sl X.K G L M ρ σ → Sat ct X.K W G H L M σ (relI X.K) R (m ρ T S) → wi σ H R
section
variable {K : PySem.W.Frag} {G : Hp} {a : Addr} {vs : List V} {ds : List D}
theorem walk_list (h : SqL K G a vs) (r : Reps K G vs ds) : WalkD K (Itl K a) G ds := by
  refine ⟨fun i G1 H1 d e1 e2 hd => ?_, fun i G1 H1 e1 e2 hi => ⟨vs, (e1.trans e2).seq h, by rw [r.length]; exact hi⟩⟩
  obtain ⟨x, hx, rx⟩ := r.get hd
  refine ⟨⟨vs, x, (e1.trans e2).seq h, hx⟩, fun y H2 hy => .inl ⟨hy.1, ?_⟩⟩
  have := hy.2 vs ((e1.trans e2).seq h)
  rw [hx] at this
  cases this
  exact rx.mono e1
theorem walk_tup (h : SqT K G a vs) (r : Reps K G vs ds) : WalkD K (Itt K a) G ds := by
  refine ⟨fun i G1 H1 d e1 e2 hd => ?_, fun i G1 H1 e1 e2 hi => ⟨vs, sqT_mono (e1.trans e2) h, by rw [r.length]; exact hi⟩⟩
  obtain ⟨x, hx, rx⟩ := r.get hd
  refine ⟨⟨vs, x, sqT_mono (e1.trans e2) h, hx⟩, fun y H2 hy => .inl ⟨hy.1, ?_⟩⟩
  have := hy.2 vs (sqT_mono (e1.trans e2) h)
  rw [hx] at this
  cases this
  exact rx.mono e1
def signs (x : Str) : List D := x.cps.toList.map fun c => .str ⟨#[c]⟩
theorem walk_str (K : PySem.W.Frag) (G : Hp) (x : Str) : WalkD K (Its x) G (signs x) := by
  refine ⟨fun i G1 H1 d e1 e2 hd => ?_, fun i G1 H1 e1 e2 hi => show x.cps.size ≤ i by simpa [signs] using hi⟩
  have hl := lt_of_get hd
  unfold signs at hd hl
  rw [List.length_map, Array.length_toList] at hl
  refine ⟨hl, fun y H2 hy => .inl ⟨hy.1, ?_⟩⟩
  obtain ⟨_, c, hc, rfl⟩ := hy
  rw [List.getElem?_map, Array.getElem?_toList, hc] at hd
  cases hd
  exact .str _
theorem walk_range (K : PySem.W.Frag) (G : Hp) (lo : Int) (n : Nat) : WalkD K (Itr lo n) G ((List.range n).map fun (i : Nat) => .int (lo + (i : Int))) := by
  refine ⟨fun i G1 H1 d e1 e2 hd => ?_, fun i G1 H1 e1 e2 hi => show n ≤ i by simpa using hi⟩
  have hl := lt_of_get hd
  rw [List.length_map, List.length_range] at hl
  refine ⟨hl, fun y H2 hy => .inl ⟨hy.1, ?_⟩⟩
  obtain ⟨_, rfl⟩ := hy
  rw [List.getElem?_map, List.getElem?_range hl] at hd
  cases hd
  exact .int _
theorem walk_enum (h : SqL K G a vs) (r : Reps K G vs ds) : WalkD K (Ite K a) G (ds.mapIdx fun i d => .tuple [.int (i : Int), d]) := by
  refine ⟨fun i G1 H1 d e1 e2 hd => ?_, fun i G1 H1 e1 e2 hi => ⟨vs, (e1.trans e2).seq h, by rw [r.length]; simpa using hi⟩⟩
  rw [List.getElem?_mapIdx] at hd
  cases q : ds[i]? with
  | none => rw [q] at hd; cases hd
  | some d0 =>
    rw [q] at hd
    cases hd
    obtain ⟨x, hx, rx⟩ := r.get q
    refine ⟨⟨vs, x, (e1.trans e2).seq h, hx⟩, fun y H2 hy => .inr ?_⟩
    obtain ⟨p, z, rfl, hp, rfl, hz⟩ := hy
    have := hz vs ((e1.trans e2).seq h)
    rw [hx] at this
    cases this
    have gp : G1 p = none := e2.free hp
    refine ⟨p, _, hp, rfl, .tup (.inl (.inl upd_same)) (.cons (.int _) (.cons (rx.mono (e1.trans ?_)) .nil))⟩
    exact fun b u hb => by rw [upd_ne (ne_of_none hb gp)]; exact hb
theorem zip_get {ds es : List D} {i : Nat} {d : D} (hd : ((ds.zip es).map fun p => PyData.tuple [p.1, p.2])[i]? = some d) : ∃ x y, ds[i]? = some x ∧ es[i]? = some y ∧ d = .tuple [x, y] := by
  rw [List.getElem?_map] at hd
  cases q : (ds.zip es)[i]? with
  | none => rw [q] at hd; cases hd
  | some p =>
    rw [q] at hd
    cases hd
    obtain ⟨h1, h2⟩ := List.getElem?_zip_eq_some.mp q
    exact ⟨p.1, p.2, h1, h2, rfl⟩
theorem walk_zip {b : Addr} {ws : List V} {es : List D} (h : SqL K G a vs) (r : Reps K G vs ds) (h2 : SqL K G b ws) (r2 : Reps K G ws es) : WalkD K (Itz K a b) G ((ds.zip es).map fun p => .tuple [p.1, p.2]) := by
  refine ⟨fun i G1 H1 d e1 e2 hd => ?_, fun i G1 H1 e1 e2 hi => ⟨vs, ws, (e1.trans e2).seq h, (e1.trans e2).seq h2, ?_⟩⟩
  · obtain ⟨x, y, hx, hy, rfl⟩ := zip_get hd
    obtain ⟨v, hv, rv⟩ := r.get hx
    obtain ⟨w, hw, rw'⟩ := r2.get hy
    refine ⟨⟨vs, ws, v, w, (e1.trans e2).seq h, (e1.trans e2).seq h2, hv, hw⟩, fun z H2 hz => .inr ?_⟩
    obtain ⟨p, v', w', rfl, hp, rfl, k1, k2⟩ := hz
    have q1 := k1 vs ((e1.trans e2).seq h)
    have q2 := k2 ws ((e1.trans e2).seq h2)
    rw [hv] at q1; rw [hw] at q2
    cases q1; cases q2
    have gp : G1 p = none := e2.free hp
    have g1 : Same G1 (upd G1 p (.tup [v, w])) := fun b u hb => by rw [upd_ne (ne_of_none hb gp)]; exact hb
    exact ⟨p, _, hp, rfl, .tup (.inl (.inl upd_same)) (.cons (rv.mono (e1.trans g1)) (.cons (rw'.mono (e1.trans g1)) .nil))⟩
  · rw [List.length_map, List.length_zip, ← r.length, ← r2.length] at hi
    omega
theorem walk_zipT {b : Addr} {ws : List V} {es : List D} (h : SqT K G a vs) (r : Reps K G vs ds) (h2 : SqT K G b ws) (r2 : Reps K G ws es) : WalkD K (RZ.ItzT K a b) G ((ds.zip es).map fun p => .tuple [p.1, p.2]) := by
  refine ⟨fun i G1 H1 d e1 e2 hd => ?_, fun i G1 H1 e1 e2 hi => ⟨vs, ws, sqT_mono (e1.trans e2) h, sqT_mono (e1.trans e2) h2, ?_⟩⟩
  · obtain ⟨x, y, hx, hy, rfl⟩ := zip_get hd
    obtain ⟨v, hv, rv⟩ := r.get hx
    obtain ⟨w, hw, rw'⟩ := r2.get hy
    refine ⟨⟨vs, ws, v, w, sqT_mono (e1.trans e2) h, sqT_mono (e1.trans e2) h2, hv, hw⟩, fun z H2 hz => .inr ?_⟩
    obtain ⟨p, v', w', rfl, hp, rfl, k1, k2⟩ := hz
    have q1 := k1 vs (sqT_mono (e1.trans e2) h)
    have q2 := k2 ws (sqT_mono (e1.trans e2) h2)
    rw [hv] at q1; rw [hw] at q2
    cases q1; cases q2
    have gp : G1 p = none := e2.free hp
    have g1 : Same G1 (upd G1 p (.tup [v, w])) := fun b u hb => by rw [upd_ne (ne_of_none hb gp)]; exact hb
    exact ⟨p, _, hp, rfl, .tup (.inl (.inl upd_same)) (.cons (rv.mono (e1.trans g1)) (.cons (rw'.mono (e1.trans g1)) .nil))⟩
  · rw [List.length_map, List.length_zip, ← r.length, ← r2.length] at hi
    omega
end
/-- the items of a sequence -/
def itemsR (r : Rv) (T S : Sto) : Res (List D) := match r with
  | .scr ns => .ok (ns.map .int) T S
  | r => match toD r T with
    | some (.list xs, T') => .ok xs T' S
    | some (.tuple xs, T') => .ok xs T' S
    | some (.str x, T') => .ok (signs x) T' S
    | _ => .bad
def seqM (m : EM Rv) : EM (List D) := fun ρ T S => (m ρ T S).bind fun r T S => itemsR r T S
def intsD (lo : Int) (n : Nat) : List D := (List.range n).map fun (i : Nat) => .int (lo + (i : Int))
def rng1 (ms : EM (List Rv)) : EM (List D) := fun ρ T S => (ms ρ T S).bind fun rs T S => match rs with
  | [.v (.int n)] => if -(2 ^ 62) ≤ n ∧ n < 2 ^ 62 then .ok (intsD 0 n.toNat) T S else .bad
  | _ => .bad
def rng2 (ms : EM (List Rv)) : EM (List D) := fun ρ T S => (ms ρ T S).bind fun rs T S => match rs with
  | [.v (.int a), .v (.int b)] => if -(2 ^ 62) ≤ a ∧ a < 2 ^ 62 ∧ -(2 ^ 62) ≤ b ∧ b < 2 ^ 62 then .ok (intsD a (b - a).toNat) T S else .bad
  | _ => .bad
def enumD (ds : List D) : List D := ds.mapIdx fun i d => .tuple [.int (i : Int), d]
def zipD (ds es : List D) : List D := (ds.zip es).map fun p => .tuple [p.1, p.2]
def enumM (ms : EM (List Rv)) : EM (List D) := fun ρ T S => (ms ρ T S).bind fun rs T S => match rs with
  | [.scr ns] => .ok (enumD (ns.map .int)) T S
  | [r] => (match toD r T with
    | some (.list xs, T') => .ok (enumD xs) T' S
    | _ => .bad)
  | _ => .bad
def zipM (ms : EM (List Rv)) : EM (List D) := fun ρ T S => (ms ρ T S).bind fun rs T S => match toDs rs T with
  | some ([.list xs, .list ys], T') => .ok (zipD xs ys) T' S
  | some ([.tuple xs, .tuple ys], T') => .ok (zipD xs ys) T' S
  | _ => .bad
section
variable {ct : Str → Option Addr} {X : Cx} {W : WX} {tg e : Expr} {m : EM Rv}
theorem pi_or {wi wj : TI} (h : PI X tg e wi) (h2 : PI X tg e wj) : PI X tg e (fun σ H R => wi σ H R ∨ wj σ H R) := ⟨fun pins s σ H R I q => q.elim (h.run pins s σ H R I) (h2.run pins s σ H R I)⟩
theorem pi_seq {t : TE} (h : PE X e t) : PI X tg e (fun σ H R => t σ H fun x H1 => (∃ a, x = .ref a ∧ (∃ xs, SqL X.K H1 a xs) ∧ R (Itl X.K a) H1) ∨ (∃ a, x = .ref a ∧ (∃ xs, SqT X.K H1 a xs) ∧ R (Itt X.K a) H1) ∨ ∃ z, x = .str z ∧ R (Its z) H1) := by
  refine ⟨fun pins s σ H R I q => ?_⟩
  refine thn (h.run pins s σ H _ I q) fun u s1 ⟨x, H1, I1, r1, q1⟩ => ?_
  rcases q1 with ⟨a, ex, hx, q1⟩ | ⟨a, ex, hx, q1⟩ | ⟨z, ex, q1⟩
  · subst ex
    cases r1
    obtain ⟨xs, hq⟩ := hx
    obtain ⟨its, rv, p, hz⟩ := I1.list hq
    refine wpAny_pyIter_list p.isList ?_
    refine ⟨s1.heap.objs.size, [s1.heap.objs.size], _, _, H1, rfl, I1.kept (t' := s1.toks) fun b o e => Heap.get?_push_of_some _ e, turn_list a _, ⟨_, Heap.get?_push_size _ rfl, rfl, rfl⟩, fun b hb => ?_, q1⟩
    have e : b = s1.heap.objs.size := by simpa using hb
    subst e
    exact I1.fpOk (Nat.le_refl _) (I1.hok.fresh (Nat.le_refl _))
  · subst ex
    cases r1
    obtain ⟨xs, hq⟩ := hx
    obtain ⟨its, rv, p, hz⟩ := I1.tuple hq
    refine wpAny_pyIter_tuple (show s1.heap.IsTuple a its.toArray from p) ?_
    refine ⟨s1.heap.objs.size, [s1.heap.objs.size], _, _, H1, rfl, I1.kept (t' := s1.toks) fun b o e => Heap.get?_push_of_some _ e, turn_tuple a _, ⟨_, Heap.get?_push_size _ rfl, rfl, rfl⟩, fun b hb => ?_, q1⟩
    have e : b = s1.heap.objs.size := by simpa using hb
    subst e
    exact I1.fpOk (Nat.le_refl _) (I1.hok.fresh (Nat.le_refl _))
  · subst ex
    obtain ⟨t, rfl⟩ := r1
    cases ha : z.cps.all (· < 128)
    · exact wpAny_pyIter_wide ha (pi_one (tk := s1.toks) I1 _ (turn_str _ z t "str_iterator" (.inr rfl)) ⟨_, Heap.get?_push_size _ rfl, rfl, rfl⟩ q1)
    · exact wpAny_pyIter_ascii ha (pi_one (tk := s1.toks) I1 _ (turn_str _ z t "str_ascii_iterator" (.inl rfl)) ⟨_, Heap.get?_push_size _ rfl, rfl, rfl⟩ q1)
theorem reps_ints (K : PySem.W.Frag) (G : Hp) : ∀ ns : List Int, Reps K G (ns.map V.int) (ns.map PyData.int)
  | [] => .nil
  | n :: ns => .cons (.int n) (reps_ints K G ns)
theorem si_seq (h : SE ct X W e m) : SI ct X W tg e (seqM m) := by
  obtain ⟨t, p, q⟩ := h
  refine ⟨_, pi_seq p, fun ρ T S G H L M σ R f sl h => ?_⟩
  refine q ρ T S G H L M σ _ sl.1 f sl.2 (Sat.bind h fun r T1 S1 G1 H1 L1 M1 x e1 f1 r1 h1 => ?_)
  unfold itemsR at h1
  split at h1
  · rename_i ns
    obtain ⟨a, rfl, hs⟩ := r1
    exact .inl ⟨a, rfl, ⟨_, f1.sub.seq hs⟩, h1 G1 H1 L1 M1 _ (Ext.refl _ _ _ _) f1 (walk_list hs (reps_ints _ _ ns))⟩
  · split at h1
    · rename_i xs T' ed
      obtain ⟨G2, x2, f2, r2⟩ := toD_ok f1 r1 ed
      cases r2 with
      | @lst a vs _ hg hr => exact .inl ⟨a, rfl, ⟨vs, .inl (.inl (f2.sub _ _ hg))⟩, h1 G2 H1 L1 M1 _ x2 f2 (walk_list (.inl (.inl hg)) hr)⟩
    · rename_i xs T' ed
      obtain ⟨G2, x2, f2, r2⟩ := toD_ok f1 r1 ed
      cases r2 with
      | @tup a vs _ hg hr => exact .inr (.inl ⟨a, rfl, ⟨vs, sqT_mono f2.sub hg⟩, h1 G2 H1 L1 M1 _ x2 f2 (walk_tup hg hr)⟩)
    · rename_i z T' ed
      obtain ⟨G2, x2, f2, r2⟩ := toD_ok f1 r1 ed
      cases r2
      exact .inr (.inr ⟨z, rfl, h1 G2 H1 L1 M1 _ x2 f2 (walk_str _ _ z)⟩)
    · exact (show False from h1).elim
variable {p pos : Pos} {a b : Expr} {ms : EM (List Rv)}
theorem rs2 {K : PySem.W.Frag} {G : Hp} {L M : List Addr} {xs : List V} {r s : Rv} (h : RepRs K G L M xs [r, s]) : ∃ x y, xs = [x, y] ∧ RepR K G L M x r ∧ RepR K G L M y s := by
  cases h with
  | cons h t =>
    obtain ⟨y, rfl, q⟩ := rs1 t
    exact ⟨_, y, rfl, h, q⟩
theorem si_range1 (hg : Gl X "range") (hm : X.mg "range" = none) (ha : SA ct X W [a] ms) (hs : starEach [a] X.env = [(false, eval a X.env)]) : SI ct X W tg (.Call (.Name "range" p) [a] [] pos) (rng1 ms) := by
  obtain ⟨t, p, q⟩ := ha
  refine ⟨_, pi_range1 hg hm p hs, fun ρ T S G H L M σ R f sl h => ?_⟩
  refine q ρ T S G H L M σ _ sl.1 f sl.2 (Sat.bind h fun rs T1 S1 G1 H1 L1 M1 xs e1 f1 r1 h1 => ?_)
  split at h1
  · rename_i n
    split at h1
    · rename_i hz
      obtain ⟨x, rfl, r2⟩ := rs1 r1
      cases (show Rep X.K G1 x (.int n) from r2)
      exact ⟨n, rfl, hz.1, hz.2, h1 G1 H1 L1 M1 _ (Ext.refl _ _ _ _) f1 (walk_range _ _ 0 _)⟩
    · exact (show False from h1).elim
  · exact (show False from h1).elim
theorem si_range2 (hg : Gl X "range") (hm : X.mg "range" = none) (ha : SA ct X W [a, b] ms) (hs : starEach [a, b] X.env = [(false, eval a X.env), (false, eval b X.env)]) (hs2 : starEach [b] X.env = [(false, eval b X.env)]) : SI ct X W tg (.Call (.Name "range" p) [a, b] [] pos) (rng2 ms) := by
  obtain ⟨t, p, q⟩ := ha
  refine ⟨_, pi_range2 hg hm p hs hs2, fun ρ T S G H L M σ R f sl h => ?_⟩
  refine q ρ T S G H L M σ _ sl.1 f sl.2 (Sat.bind h fun rs T1 S1 G1 H1 L1 M1 xs e1 f1 r1 h1 => ?_)
  split at h1
  · rename_i n k
    split at h1
    · rename_i hz
      obtain ⟨x, y, rfl, r2, r3⟩ := rs2 r1
      cases (show Rep X.K G1 x (.int n) from r2)
      cases (show Rep X.K G1 y (.int k) from r3)
      exact ⟨n, k, rfl, hz, h1 G1 H1 L1 M1 _ (Ext.refl _ _ _ _) f1 (walk_range _ _ n _)⟩
    · exact (show False from h1).elim
  · exact (show False from h1).elim
theorem si_enum {elts : List Expr} {kk : Nat} {tpos : Pos} (hg : Gl X "enumerate") (hm : X.mg "enumerate" = none) (ha : SA ct X W [a] ms) (hs : starEach [a] X.env = [(false, eval a X.env)]) : SI ct X W (.Tuple elts kk tpos) (.Call (.Name "enumerate" p) [a] [] pos) (enumM ms) := by
  obtain ⟨t, p, q⟩ := ha
  refine ⟨_, pi_enum hg hm p hs, fun ρ T S G H L M σ R f sl h => ?_⟩
  refine q ρ T S G H L M σ _ sl.1 f sl.2 (Sat.bind h fun rs T1 S1 G1 H1 L1 M1 xs e1 f1 r1 h1 => ?_)
  split at h1
  · rename_i ns
    obtain ⟨x, rfl, r2⟩ := rs1 r1
    obtain ⟨a, rfl, hs⟩ := r2
    exact ⟨a, _, rfl, f1.sub.seq hs, h1 G1 H1 L1 M1 _ (Ext.refl _ _ _ _) f1 (walk_enum hs (reps_ints _ _ ns))⟩
  · obtain ⟨x, rfl, r2⟩ := rs1 r1
    split at h1
    · rename_i xs T' ed
      obtain ⟨G2, x2, f2, r3⟩ := toD_ok f1 r2 ed
      cases r3 with
      | @lst a vs _ hg hr => exact ⟨a, vs, rfl, .inl (.inl (f2.sub _ _ hg)), h1 G2 H1 L1 M1 _ x2 f2 (walk_enum (.inl (.inl hg)) hr)⟩
    · exact (show False from h1).elim
  · exact (show False from h1).elim
theorem si_zip {elts : List Expr} {kk : Nat} {tpos : Pos} (hg : Gl X "zip") (hm : X.mg "zip" = none) (ha : SA ct X W [a, b] ms) (hs : starEach [a, b] X.env = (false, eval a X.env) :: starEach [b] X.env) (hpl : (backTo pos (starEach [b] X.env)).any (·.1) = false) :
    SI ct X W (.Tuple elts kk tpos) (.Call (.Name "zip" p) [a, b] [] pos) (zipM ms) := by
  obtain ⟨t, p, q⟩ := ha
  refine ⟨_, RZ.pi_zipA hg hm p hs hpl, fun ρ T S G H L M σ R f sl h => ?_⟩
  refine q ρ T S G H L M σ _ sl.1 f sl.2 (Sat.bind h fun rs T1 S1 G1 H1 L1 M1 xs e1 f1 r1 h1 => ?_)
  split at h1
  · rename_i xs ys T' ed
    obtain ⟨G2, x2, f2, r3⟩ := toDs_ok f1 r1 ed
    cases r3 with
    | cons u1 u2 =>
      cases u2 with
      | cons u2 u3 =>
        cases u3
        cases u1 with
        | @lst a vs _ hg hr =>
          cases u2 with
          | @lst b ws _ hg2 hr2 => exact ⟨a, b, vs, ws, rfl, .inl ⟨.inl (.inl (f2.sub _ _ hg)), .inl (.inl (f2.sub _ _ hg2)), h1 G2 H1 L1 M1 _ x2 f2 (walk_zip (.inl (.inl hg)) hr (.inl (.inl hg2)) hr2)⟩⟩
  · rename_i xs ys T' ed
    obtain ⟨G2, x2, f2, r3⟩ := toDs_ok f1 r1 ed
    cases r3 with
    | cons u1 u2 =>
      cases u2 with
      | cons u2 u3 =>
        cases u3
        cases u1 with
        | @tup a vs _ hg hr =>
          cases u2 with
          | @tup b ws _ hg2 hr2 => exact ⟨a, b, vs, ws, rfl, .inr ⟨sqT_mono f2.sub hg, sqT_mono f2.sub hg2, h1 G2 H1 L1 M1 _ x2 f2 (walk_zipT hg hr hg2 hr2)⟩⟩
  · exact (show False from h1).elim
end

/-! ### for -/
def forD (g : TgM) (body : SM) : List D → SM
  | [], ρ, T, S => .next ρ T S
  | d :: ds, ρ, T, S => match g d ρ with
    | some ρ' => (match body ρ' T S with
      | .next ρ1 T1 S1 => forD g body ds ρ1 T1 S1
      | .cnt ρ1 T1 S1 => forD g body ds ρ1 T1 S1
      | .brk ρ1 T1 S1 => .next ρ1 T1 S1
      | o => o)
    | none => .bad
def forS (items : EM (List D)) (g : TgM) (body : SM) : SM := fun ρ T S => (items ρ T S).out ρ fun ds T S => forD g body ds ρ T S
section
variable {ct : Str → Option Addr} {X : Cx} {W : WX} {tg iter : Expr} {m : EM (List D)} {pos : Pos}
/-- what a turn leaves -/
def LoopN (ct : Str → Option Addr) (X : Cx) (W : WX) (E : Ends) (g : TgM) (s : SM) (ds : List D) (G1 H1 : Hp) (L1 M1 : List Addr) (i : Nat) : L2.St → Hp → Prop := fun σ2 H2 => ∃ ρ2 T2 S2 G2 L2 M2, i + 1 ≤ ds.length ∧ Ext G1 H1 L1 M1 G2 H2 L2 M2 ∧ Fits X.K G2 H2 L2 M2 T2 S2 ∧ Sl X.K G2 L2 M2 ρ2 σ2 ∧ SatS ct X.K W G2 H2 L2 M2 E (forD g s (ds.drop (i + 1)) ρ2 T2 S2)
def loopE (E : Ends) (N : L2.St → Hp → Prop) : Ends := { E with nx := N, ct := N, bk := E.nx }
theorem ss_for {body : List Stmt} {js : List Nat} {g : TgM} {s : SM} (hp : PassesOwn (model X.prog X.w) X.A X.env X.xe) (hc : X.calm = true) (hi : SI ct X W tg iter m) (hg : SG X tg js g) (hb : SSs ct X W body s)
    (hs : ∀ x, foldedSetIterable iter X.env x = pure x) : SS ct X W (.For tg iter body [] pos) (forS m g s) := by
  obtain ⟨wi, pi, qi⟩ := hi
  obtain ⟨tt, pt, qt⟩ := hg
  obtain ⟨tb, pb, qb⟩ := hb
  refine ⟨tFor wi tt tb, ps_for hp hc pi pt pb hs, fun ρ T S G H L M σ E f sl h => ?_⟩
  refine qi ρ T S G H L M σ _ f sl (SatS.of sl h fun ds T1 S1 G1 H1 L1 M1 J e1 f1 wk h1 => ?_)
  refine ⟨fun i n σ' H' => ∃ ρ' T' S' G' L' M', n = ds.length - i ∧ i ≤ ds.length ∧ Ext G1 H1 L1 M1 G' H' L' M' ∧ Fits X.K G' H' L' M' T' S' ∧ Sl X.K G' L' M' ρ' σ' ∧ SatS ct X.K W G' H' L' M' E (forD g s (ds.drop i) ρ' T' S'),
    ⟨ds.length, ρ, T1, S1, G1, L1, M1, by simp, Nat.zero_le _, Ext.refl _ _ _ _, f1, sl.mono e1, by simpa using h1⟩, ?_⟩
  rintro i n σ' H' ⟨ρ', T', S', G', L', M', rfl, hi, e', f', sl', h'⟩
  by_cases hlt : i < ds.length
  · rw [List.drop_eq_getElem_cons hlt] at h'
    have hd : ds[i]? = some ds[i] := List.getElem?_eq_getElem hlt
    obtain ⟨go, yl⟩ := wk.1 i G' H' _ e'.gm f'.sub hd
    refine .inr ⟨go, LoopN ct X W E g s ds G1 H1 L1 M1 i,
      fun σ2 H2 ⟨ρ2, T2, S2, G2, L2, M2, a1, a2, a3, a4, a5⟩ => ⟨ds.length - (i + 1), by omega, ρ2, T2, S2, G2, L2, M2, rfl, a1, a2, a3, a4, a5⟩, fun x H2 hy => ?_⟩
    have go2 : ∀ G2, Ext G' H' L' M' G2 H2 L' M' → Fits X.K G2 H2 L' M' T' S' → Rep X.K G2 x ds[i] → tt x σ' H2 fun σ2 H3 => tb (loopE E (LoopN ct X W E g s ds G1 H1 L1 M1 i)) σ2 H3 := fun G2 x2 f2 r2 => by
      unfold forD at h'
      split at h'
      · rename_i ρ2 eg
        refine qt x ds[i] ρ' ρ2 σ' G2 H2 L' M' _ f2.sub (sl'.mono x2) r2 eg fun σ3 sl3 _ _ => ?_
        refine qb ρ2 T' S' G2 H2 L' M' σ3 _ f2 sl3 ?_
        cases eb : s ρ2 T' S' with
        | next ρ4 T4 S4 =>
          rw [eb] at h'
          exact fun G4 H4 L4 M4 σ4 x4 f4 sl4 => ⟨ρ4, T4, S4, G4, L4, M4, hlt, (e'.trans x2).trans x4, f4, sl4, SatS.pre (x2.trans x4) h'⟩
        | cnt ρ4 T4 S4 =>
          rw [eb] at h'
          exact fun G4 H4 L4 M4 σ4 x4 f4 sl4 => ⟨ρ4, T4, S4, G4, L4, M4, hlt, (e'.trans x2).trans x4, f4, sl4, SatS.pre (x2.trans x4) h'⟩
        | brk ρ4 T4 S4 =>
          rw [eb] at h'
          exact fun G4 H4 L4 M4 σ4 x4 f4 sl4 => h' G4 H4 L4 M4 σ4 (x2.trans x4) f4 sl4
        | ret r T4 S4 => rw [eb] at h'; exact SatS.pre (o := .ret r T4 S4) x2 h'
        | exn z ρ4 T4 S4 => rw [eb] at h'; exact SatS.pre (o := .exn z ρ4 T4 S4) x2 h'
        | bad => rw [eb] at h'; exact h'
      · exact (show False from h').elim
    rcases yl x H2 hy with ⟨rfl, r2⟩ | ⟨p, o, hp, rfl, r2⟩
    · exact go2 G' (Ext.refl _ _ _ _) f' r2
    · obtain ⟨x3, f3⟩ := f'.new (o := o) hp
      exact go2 _ x3 f3 r2
  · have e : i = ds.length := by omega
    subst e
    rw [List.drop_length] at h'
    exact .inl ⟨wk.2 _ G' H' e'.gm f'.sub (Nat.le_refl _), h' G' H' L' M' σ' (Ext.refl _ _ _ _) f' sl'⟩
end
end RB

end

/-! text RComp -/
section
set_option Elab.async false
set_option linter.all false
set_option maxRecDepth 100000
set_option maxHeartbeats 4000000
/-! RComp: list comprehensions. -/
namespace RB
open PySem PySem.Spec PyProof.Rows L2

/-! ### one reading for all contexts of a block -/
section
variable (ct : Str → Option Addr) (K : PySem.W.Frag) (W : WX)
def tOfE (m : EM Rv) : TE := fun σ H Q => ∃ ρ T S G L M, ρ.length = σ.length ∧ Fits K G H L M T S ∧ Slots K G L M ρ σ ∧ Sat ct K W G H L M σ (RepR K) Q (m ρ T S)
def tOfT (m : EM Bool) : TT := fun σ H Q => ∃ ρ T S G L M, ρ.length = σ.length ∧ Fits K G H L M T S ∧ Slots K G L M ρ σ ∧ Sat ct K W G H L M σ relB Q (m ρ T S)
def tOfG (js : List Nat) (g : TgM) : TG := fun x σ H Q => ∃ d ρ ρ' G L M, Same G H ∧ Sl K G L M ρ σ ∧ Rep K G x d ∧ g d ρ = some ρ' ∧ ∀ σ', Sl K G L M ρ' σ' → (∀ i, i ∉ js → σ'[i]? = σ[i]?) → σ'.length = σ.length → Q σ' H
end
section
variable {ct : Str → Option Addr} {X : Cx} {W : WX}
theorem SE.canon {e : Expr} {m : EM Rv} (h : SE ct X W e m) : PE X e (tOfE ct X.K W m) := by
  obtain ⟨t, p, q⟩ := h
  exact ⟨fun pins s σ H Q I ⟨ρ, T, S, G, L, M, h1, h2, h3, h4⟩ => p.run pins s σ H Q I (q ρ T S G H L M σ Q h1 h2 h3 h4)⟩
theorem ST.canon {e : Expr} {m : EM Bool} (h : ST ct X W e m) : PT X e (tOfT ct X.K W m) := by
  obtain ⟨t, p, q⟩ := h
  exact ⟨fun pins s σ H Q I ⟨ρ, T, S, G, L, M, h1, h2, h3, h4⟩ => p.run pins s σ H Q I (q ρ T S G H L M σ Q h1 h2 h3 h4)⟩
theorem SG.canon {tg : Expr} {js : List Nat} {g : TgM} (h : SG X tg js g) : PG X tg (tOfG X.K js g) := by
  obtain ⟨t, p, q⟩ := h
  exact ⟨fun pins s σ H x u Q I r ⟨d, ρ, ρ', G, L, M, h1, h2, h3, h4, h5⟩ => p.run pins s σ H x u Q I r (q x d ρ ρ' σ G H L M Q h1 h2 h3 h4 h5)⟩
/-- a clause's tests -/
def STs (ct : Str → Option Addr) (X : Cx) (W : WX) (ifs : List Expr) (m : EM Bool) : Prop := PTs X ifs (tOfT ct X.K W m)
def yesM : EM Bool := fun _ T S => .ok true T S
theorem sts_nil : STs ct X W [] yesM := ⟨fun pins s σ H Q I ⟨ρ, T, S, G, L, M, h1, h2, h3, h4⟩ => pts_nil.run pins s σ H Q I (h4 G H L M true (Ext.refl _ _ _ _) h2 rfl)⟩
theorem sts_one {e : Expr} {m : EM Bool} (h : ST ct X W e m) : STs ct X W [e] m := pts_one h.canon
end

/-! ### the semantics -/
def wipeV (ρ : Vn) : List Nat → Vn
  | [] => ρ
  | v :: vs => (wipeV ρ vs).set v none
def compD (g : TgM) (tests : EM Bool) (elt : EM Rv) (ρ : Vn) : List D → Sto → Sto → Res (List D)
  | [], T, S => .ok [] T S
  | d :: ds, T, S => match g d ρ with
    | some ρ' => (match tests ρ' T S with
      | .ok true T1 S1 => (match elt ρ' T1 S1 with
        | .ok r T2 S2 => (match toD r T2 with
          | some (d', T3) => (compD g tests elt ρ ds T3 S2).bind fun rs T S => .ok (d' :: rs) T S
          | none => .bad)
        | _ => .bad)
      | .ok false T1 S1 => compD g tests elt ρ ds T1 S1
      | _ => .bad)
    | none => .bad
/-- a new list: frozen, or one that may change -/
def newL (own : Bool) (ds : List D) (T S : Sto) : Res Rv :=
  if ds.length ≤ 16777216 then (if own = true then .ok (.own T.length) (T ++ [.lst ds]) S else .ok (.v (.list ds)) T S) else .bad
def lcM (own : Bool) (items : EM (List D)) (g : TgM) (tests : EM Bool) (elt : EM Rv) (vs : List Nat) : EM Rv := fun ρ T S =>
  (items ρ T S).bind fun ds T S => (compD g tests elt (wipeV ρ vs) ds T S).bind fun rs T S => newL own rs T S

section
variable {K : PySem.W.Frag} {G H : Hp} {L M : List Addr} {T S : Sto}
theorem wipe_sl {ρ : Vn} {σ : L2.St} (h : Sl K G L M ρ σ) : ∀ vs : List Nat, Sl K G L M (wipeV ρ vs) (wipe σ vs)
  | [] => h
  | v :: vs => by
    have q := wipe_sl h vs
    exact ⟨by show ((wipeV ρ vs).set v none).length = ((wipe σ vs).set v none).length; rw [List.length_set, List.length_set]; exact q.1, q.2.unset⟩
theorem wipe_get {σ : L2.St} {i : Nat} : ∀ {vs : List Nat}, (wipe σ vs)[i]? = if i ∈ vs then (if i < σ.length then some none else none) else σ[i]?
  | [] => by simp [wipe]
  | v :: vs => by
    show ((wipe σ vs).set v none)[i]? = _
    rw [List.getElem?_set, wipe_get (vs := vs), wipe_length]
    by_cases e : v = i
    · subst e; simp
    · have e' : ¬ i = v := fun z => e z.symm
      simp [e, e']
theorem wipe_again {σ σ' : L2.St} {js vs : List Nat} (hl : σ'.length = σ.length) (hj : ∀ i, i ∈ js → i ∈ vs) (h : ∀ i, i ∉ js → σ'[i]? = (wipe σ vs)[i]?) : wipe σ' vs = wipe σ vs := by
  apply List.ext_getElem?
  intro i
  rw [wipe_get]
  by_cases hi : i ∈ vs
  · rw [if_pos hi, hl, wipe_get, if_pos hi]
  · rw [if_neg hi, h i fun z => hi (hj i z)]
/-- a tracked thing that nobody holds yet: it becomes frozen | the frame's own -/
theorem Fits.adopt {p : Addr} {vs : List V} {ds : List D} {G0 H0 : Hp} {L0 M0 : List Addr} (f : Fits K G H L M T S) (x : Ext G0 H0 L0 M0 G H L M) (h0 : H0 p = none) (hp : H p = some (.lst vs)) (hg : G p = none) (hL : p ∉ L) (hM : p ∉ M) (hr : Reps K G vs ds) :
    (Ext G0 H0 L0 M0 (upd G p (.lst vs)) H L M ∧ Fits K (upd G p (.lst vs)) H L M T S ∧ Rep K (upd G p (.lst vs)) (.ref p) (.list ds)) ∧
    (Ext G0 H0 L0 M0 G H L (M ++ [p]) ∧ Fits K G H L (M ++ [p]) (T ++ [.lst ds]) S) := by
  have g1 : Same G (upd G p (.lst vs)) := fun b u h => by rw [upd_ne (ne_of_none h hg)]; exact h
  refine ⟨⟨⟨x.gm.trans g1, x.lp, x.mp, x.keep, x.dom, fun b u h => ?_, x.ln, x.mn⟩, ⟨fun b u h => ?_, f.nd, f.lenL, f.lenM, fun k b q e1 e2 => ?_, fun k b q e1 e2 => ?_⟩, .lst upd_same (hr.mono g1)⟩,
    ⟨x.gm, x.lp, x.mp.trans (List.prefix_append M [p]), x.keep, x.dom, x.gn, x.ln, fun b h => ?_⟩, ⟨f.sub, ?_, f.lenL, by rw [List.length_append, List.length_append, f.lenM]; rfl, f.obL, fun n b q e1 e2 => ?_⟩⟩
  · by_cases e : b = p
    · subst e; exact .inr (.inl h0)
    · rw [upd_ne e] at h; exact x.gn b u h
  · by_cases e : b = p
    · subst e; rw [upd_same] at h; cases h; exact hp
    · rw [upd_ne e] at h; exact f.sub b u h
  · refine ROb.mono g1 (fun z => ?_) (fun z hz => hz) (f.obL k b q e1 e2)
    rw [upd_ne (show b ≠ p from fun e => hL (by rw [← e]; exact List.mem_of_getElem? e1))]; exact z
  · refine ROb.mono g1 (fun z => ?_) (fun z hz => hz) (f.obM k b q e1 e2)
    rw [upd_ne (show b ≠ p from fun e => hM (by rw [← e]; exact List.mem_of_getElem? e1))]; exact z
  · rcases List.mem_append.mp h with z | z
    · exact x.mn b z
    · rw [List.mem_singleton] at z; subst z; exact .inr h0
  · rw [← List.append_assoc]
    refine List.nodup_append.mpr ⟨f.nd, List.nodup_cons.mpr ⟨by simp, List.nodup_nil⟩, fun a ha b hb e => ?_⟩
    rw [List.mem_singleton] at hb
    subst hb; subst e
    exact (List.mem_append.mp ha).elim hL hM
  · by_cases hn : n < M.length
    · rw [List.getElem?_append_left hn] at e1
      rw [List.getElem?_append_left (by rw [← f.lenM]; exact hn)] at e2
      exact f.obM n b q e1 e2
    · rw [List.getElem?_append_right (by omega)] at e1
      rw [List.getElem?_append_right (by have := f.lenM; omega)] at e2
      have hz : n - M.length = 0 := by
        have := lt_of_get e1
        simp at this
        omega
      rw [hz] at e1
      rw [← f.lenM, hz] at e2
      cases e1; cases e2
      exact ⟨vs, hp, hg, hr⟩
/-- a tracked list that nobody holds grows -/
theorem Fits.grow {p : Addr} {vs : List V} {u : HO} {G0 H0 : Hp} {L0 M0 : List Addr} (f : Fits K G H L M T S) (x : Ext G0 H0 L0 M0 G H L M) (h0 : H0 p = none) (hp : H p = some (.lst vs)) (hg : G p = none) (hL : p ∉ L) (hM : p ∉ M) :
    Ext G0 H0 L0 M0 G (upd H p u) L M ∧ Fits K G (upd H p u) L M T S := by
  refine ⟨⟨x.gm, x.lp, x.mp, fun a o h hl hm => ?_, fun a o h => ?_, x.gn, x.ln, x.mn⟩, ⟨fun a o h => by rw [upd_ne (ne_of_none h hg)]; exact f.sub a o h, f.nd, f.lenL, f.lenM, fun k b q e1 e2 => ?_, fun k b q e1 e2 => ?_⟩⟩
  · rw [upd_ne (ne_of_none h h0)]; exact x.keep a o h hl hm
  · rw [upd_ne (ne_of_none h h0)]; exact x.dom a o h
  · refine ROb.mono (Same.refl G) (fun z => z) (fun z hz => ?_) (f.obL k b q e1 e2)
    rw [upd_ne (show b ≠ p from fun e => hL (by rw [← e]; exact List.mem_of_getElem? e1))]; exact hz
  · refine ROb.mono (Same.refl G) (fun z => z) (fun z hz => ?_) (f.obM k b q e1 e2)
    rw [upd_ne (show b ≠ p from fun e => hM (by rw [← e]; exact List.mem_of_getElem? e1))]; exact hz
end
theorem compD_noexn {g : TgM} {tests : EM Bool} {elt : EM Rv} {ρ : Vn} {z : Exn} {T' S' : Sto} : ∀ {ds : List D} {T S : Sto}, compD g tests elt ρ ds T S ≠ .exn z T' S'
  | [], T, S => fun h => by cases h
  | d :: ds, T, S => fun h => by
    unfold compD at h
    split at h
    · split at h
      · split at h
        · split at h
          · rename_i d' T3 _
            cases ec : compD g tests elt ρ ds T3 _ with
            | ok rs T6 S6 => rw [ec] at h; cases h
            | exn z2 T6 S6 => exact compD_noexn ec
            | bad => rw [ec] at h; cases h
          · cases h
        · cases h
      · exact compD_noexn h
      · cases h
    · cases h
abbrev W0 : WX := fun _ _ _ _ => False
section
variable {ct : Str → Option Addr} {X : Cx} {W : WX} {g : TgM} {tests : EM Bool} {elt : EM Rv} {vs js : List Nat} {own : Bool}
/-- what stands between two turns -/
def CompI (ct : Str → Option Addr) (K : PySem.W.Frag) (W : WX) (own : Bool) (g : TgM) (tests : EM Bool) (elt : EM Rv) (ρ : Vn) (σ : L2.St) (Q : VK) (ds : List D) (G1 H1 : Hp) (L1 M1 : List Addr) (p : Addr) (i : Nat) (H : Hp) : Prop :=
  ∃ G L M T S acc accD, i ≤ ds.length ∧ Ext G1 H1 L1 M1 G H L M ∧ Fits K G H L M T S ∧ H p = some (.lst acc) ∧ G p = none ∧ p ∉ L ∧ p ∉ M ∧ Reps K G acc accD ∧
    Sat ct K W G1 H1 L1 M1 σ (RepR K) Q ((compD g tests elt ρ (ds.drop i) T S).bind fun rs T S => newL own (accD ++ rs) T S)
theorem ext_out {G H G' H' : Hp} {L M L' M' : List Addr} {p : Addr} {o : HO} (x : Ext G H L M G' H' L' M') (hp : H p = some o) (hg : G p = none) (hL : p ∉ L) (hM : p ∉ M) : H' p = some o ∧ G' p = none ∧ p ∉ L' ∧ p ∉ M' := by
  refine ⟨x.keep p o hp hL hM, ?_, fun z => (x.ln p z).elim hL fun q => (by rw [hp] at q; cases q), fun z => (x.mn p z).elim hM fun q => (by rw [hp] at q; cases q)⟩
  cases e : G' p with
  | none => rfl
  | some u =>
    rcases x.gn p u e with q | q | q
    · rw [hg] at q; cases q
    · rw [hp] at q; cases q
    · exact (hM q).elim
theorem newL_len {ds : List D} {T S : Sto} {G H : Hp} {L M : List Addr} {σ : L2.St} {Q : VK} {K : PySem.W.Frag} (h : Sat ct K W G H L M σ (RepR K) Q (newL own ds T S)) : ds.length ≤ 16777216 := by
  unfold newL at h
  split at h
  · assumption
  · exact (show False from h).elim
theorem comp_ok {wi : TI} {m : EM (List D)} {tg iter : Expr} (hj : ∀ i, i ∈ js → i ∈ vs)
    (qi : ∀ (ρ : Vn) (T S : Sto) (G H : Hp) (L M : List Addr) (σ : L2.St) (R : It → Hp → Prop), Fits X.K G H L M T S → Sl X.K G L M ρ σ → Sat ct X.K W G H L M σ (relI X.K) R (m ρ T S) → wi σ H R)
    (ρ : Vn) (T S : Sto) (G H : Hp) (L M : List Addr) (σ : L2.St) (Q : VK) (hl : ρ.length = σ.length) (f : Fits X.K G H L M T S) (sl : Slots X.K G L M ρ σ) (h : Sat ct X.K W G H L M σ (RepR X.K) Q (lcM own m g tests elt vs ρ T S)) :
    tLc wi (tOfG X.K js g) (tOfT ct X.K W0 tests) (tOfE ct X.K W0 elt) vs σ H Q := by
  refine qi ρ T S G H L M σ _ f ⟨hl, sl⟩ (Sat.bind h fun ds T1 S1 G1 H1 L1 M1 J e1 f1 wk h1 => ?_)
  intro p hp
  have sw : Sl X.K G1 L1 M1 (wipeV ρ vs) (wipe σ vs) := wipe_sl ⟨hl, sl.mono e1⟩ vs
  have npL : p ∉ L1 := fun z => by
    obtain ⟨n, hn⟩ := List.mem_iff_getElem?.mp z
    obtain ⟨u, hu⟩ := ROb.held (f1.obL n p _ hn (List.getElem?_eq_getElem (show n < S1.length by rw [← f1.lenL]; exact lt_of_get hn)))
    rw [hp] at hu; cases hu
  have npM : p ∉ M1 := fun z => by
    obtain ⟨n, hn⟩ := List.mem_iff_getElem?.mp z
    obtain ⟨u, hu⟩ := ROb.held (f1.obM n p _ hn (List.getElem?_eq_getElem (show n < T1.length by rw [← f1.lenM]; exact lt_of_get hn)))
    rw [hp] at hu; cases hu
  have s1 : Same H1 (upd H1 p (.lst [])) := fun a u q => by rw [upd_ne (ne_of_none q hp)]; exact q
  obtain ⟨x0, f0⟩ := f1.kept s1
  refine ⟨fun i n H' => n = ds.length - i ∧ CompI ct X.K W own g tests elt (wipeV ρ vs) σ Q ds G1 H1 L1 M1 p i H',
    ⟨ds.length, by simp, G1, L1, M1, T1, S1, [], [], Nat.zero_le _, x0, f0, upd_same, f1.sub.free hp, npL, npM, .nil, by simpa using h1⟩, ?_⟩
  rintro i n H' ⟨rfl, G', L', M', T', S', acc, accD, hi, e', f', hacc, hg, hL, hM, hr, h'⟩
  by_cases hlt : i < ds.length
  · rw [List.drop_eq_getElem_cons hlt] at h'
    have hd : ds[i]? = some ds[i] := List.getElem?_eq_getElem hlt
    obtain ⟨go, yl⟩ := wk.1 i G' H' _ e'.gm f'.sub hd
    refine .inr ⟨go, CompI ct X.K W own g tests elt (wipeV ρ vs) σ Q ds G1 H1 L1 M1 p (i + 1), fun H2 q => ⟨ds.length - (i + 1), by omega, rfl, q⟩, fun x H2 hy => ?_⟩
    have go2 : ∀ G2, Ext G' H' L' M' G2 H2 L' M' → Fits X.K G2 H2 L' M' T' S' → Rep X.K G2 x ds[i] → tOfG X.K js g x (wipe σ vs) H2 fun σ2 H2 => wipe σ2 vs = wipe σ vs ∧ tOfT ct X.K W0 tests σ2 H2 fun b H3 =>
        if b = true then tOfE ct X.K W0 elt σ2 H3 fun y H4 => ∃ acc, H4 p = some (.lst acc) ∧ acc.length < sizeLine ∧ CompI ct X.K W own g tests elt (wipeV ρ vs) σ Q ds G1 H1 L1 M1 p (i + 1) (upd H4 p (.lst (acc ++ [y]))) else CompI ct X.K W own g tests elt (wipeV ρ vs) σ Q ds G1 H1 L1 M1 p (i + 1) H3 := fun G2 x2 f2 r2 => by
      unfold compD at h'
      split at h'
      · rename_i ρ2 eg
        refine ⟨ds[i], wipeV ρ vs, ρ2, G2, L', M', f2.sub, sw.mono (e'.trans x2), r2, eg, fun σ2 sl2 k2 l2 => ⟨wipe_again (by rw [l2, wipe_length]) hj k2, ?_⟩⟩
        refine ⟨ρ2, T', S', G2, L', M', sl2.1, f2, sl2.2, ?_⟩
        split at h'
        · rename_i T3 S3 et
          rw [et]
          intro G3 H3 L3 M3 b x3 f3 hb
          cases hb
          rw [if_pos rfl]
          refine ⟨ρ2, T3, S3, G3, L3, M3, sl2.1, f3, sl2.2.mono x3, ?_⟩
          split at h'
          · rename_i r T4 S4 ee
            rw [ee]
            intro G4 H4 L4 M4 y x4 f4 r4
            split at h'
            · rename_i d' T5 ed
              obtain ⟨G5, x5, f5, r5⟩ := toD_ok f4 r4 ed
              have xx := ((x2.trans x3).trans x4).trans x5
              obtain ⟨a1, a2, a3, a4⟩ := ext_out xx hacc hg hL hM
              have hlen : acc.length < sizeLine := by
                rw [hr.length]
                have h5 := h'
                cases ec : compD g tests elt (wipeV ρ vs) (List.drop (i + 1) ds) T5 S4 with
                | ok rs T6 S6 =>
                  rw [ec] at h5
                  have h6 := newL_len (T := T6) (S := S6) h5
                  rw [List.length_append, List.length_cons] at h6
                  rw [sizeLine_eq]
                  omega
                | exn z T6 S6 =>
                  rw [ec] at h5
                  exact absurd ec (by
                    intro ec
                    exact compD_noexn ec)
                | bad => rw [ec] at h5; exact (show False from h5).elim
              refine ⟨acc, a1, hlen, ?_⟩
              obtain ⟨x6, f6⟩ := f5.grow (u := .lst (acc ++ [y])) (e'.trans xx) hp a1 a2 a3 a4
              refine ⟨G5, L4, M4, T5, S4, acc ++ [y], accD ++ [d'], hlt, x6, f6, upd_same, a2, a3, a4, (hr.mono xx.gm).append (.cons r5 .nil), ?_⟩
              have e9 : ((compD g tests elt (wipeV ρ vs) (List.drop (i + 1) ds) T5 S4).bind fun rs T S => newL own (accD ++ [d'] ++ rs) T S) = (((compD g tests elt (wipeV ρ vs) (List.drop (i + 1) ds) T5 S4).bind fun rs T S => Res.ok (d' :: rs) T S).bind fun rs T S => newL own (accD ++ rs) T S) := by
                cases compD g tests elt (wipeV ρ vs) (List.drop (i + 1) ds) T5 S4 with
                | ok rs T6 S6 => simp
                | exn z T6 S6 => rfl
                | bad => rfl
              rw [e9]
              exact h'
            · exact (show False from h').elim
          · exact (show False from h').elim
        · rename_i T3 S3 et
          rw [et]
          intro G3 H3 L3 M3 b x3 f3 hb
          cases hb
          rw [if_neg Bool.false_ne_true]
          obtain ⟨a1, a2, a3, a4⟩ := ext_out (x2.trans x3) hacc hg hL hM
          exact ⟨G3, L3, M3, T3, S3, acc, accD, hlt, (e'.trans x2).trans x3, f3, a1, a2, a3, a4, hr.mono (x2.trans x3).gm, h'⟩
        · exact (show False from h').elim
      · exact (show False from h').elim
    rcases yl x H2 hy with ⟨rfl, r2⟩ | ⟨q, o, hq, rfl, r2⟩
    · exact go2 G' (Ext.refl _ _ _ _) f' r2
    · obtain ⟨x3, f3⟩ := f'.new (o := o) hq
      exact go2 _ x3 f3 r2
  · have e : i = ds.length := by omega
    subst e
    rw [List.drop_length] at h'
    refine .inl ⟨wk.2 _ G' H' e'.gm f'.sub (Nat.le_refl _), ?_⟩
    have h2 : Sat ct X.K W G1 H1 L1 M1 σ (RepR X.K) Q (newL own (accD ++ []) T' S') := h'
    rw [List.append_nil] at h2
    have hz := newL_len h2
    unfold newL at h2
    rw [if_pos hz] at h2
    obtain ⟨⟨b1, b2, b3⟩, c1, c2⟩ := f'.adopt e' hp hacc hg hL hM hr
    cases own with
    | false =>
      rw [if_neg Bool.false_ne_true] at h2
      exact h2 _ _ _ _ _ b1 b2 b3
    | true =>
      rw [if_pos rfl] at h2
      refine h2 _ _ _ _ _ c1 c2 ⟨p, ?_, rfl⟩
      rw [← f'.lenM, List.getElem?_append_right (Nat.le_refl _), Nat.sub_self]
      rfl
end
end RB

end

/-! text RFun -/
section
set_option Elab.async false
set_option linter.all false
set_option maxRecDepth 100000
set_option maxHeartbeats 4000000
/-! RFun: comprehensions as expressions, functions, calls, methods. -/
namespace RB
open PySem PySem.Spec PyProof.Rows L2

section
variable {ct : Str → Option Addr} {X : Cx} {W : WX} {g : TgM} {tests : EM Bool} {elt : EM Rv} {js : List Nat} {m : EM (List D)} {e tg iter : Expr} {ifs : List Expr} {scope : Scope} {pos : Pos}
theorem se_lc (own : Bool) {ow : List (Str × Nat)} (hc : X.calm = true) (hN : X.N.Nodup) (hi : SI ct X W tg iter m) (ok : BlkOk X.N X.env.scope scope ow) (hj : ∀ i, i ∈ js → i ∈ ow.map (·.2))
    (hg : ∀ (s : Shared) (H : Hp) (C : Addr) (cl : List (Str × Addr)) (fp : List Addr), SG (X.blk s H scope (compEnvC scope cl C X.env) fp) tg js g)
    (ht : ∀ (s : Shared) (H : Hp) (C : Addr) (cl : List (Str × Addr)) (fp : List Addr), STs ct (X.blk s H scope (compEnvC scope cl C X.env) fp) W0 ifs tests)
    (he : ∀ (s : Shared) (H : Hp) (C : Addr) (cl : List (Str × Addr)) (fp : List Addr), SE ct (X.blk s H scope (compEnvC scope cl C X.env) fp) W0 e elt) (hs : ∀ x, foldedSetIterable iter X.env x = pure x) :
    SE ct X W (.ListComp e [⟨tg, iter, ifs, 0⟩] scope pos) (lcM own m g tests elt (ow.map (·.2))) := by
  obtain ⟨wi, pi, qi⟩ := hi
  exact ⟨_, pe_lc (g := tOfG X.K js g) (tt := tOfT ct X.K W0 tests) (te := tOfE ct X.K W0 elt) hc hN pi ok (fun s H C cl fp => (hg s H C cl fp).canon) (fun s H C cl fp => ht s H C cl fp) (fun s H C cl fp => (he s H C cl fp).canon) hs, comp_ok (tg := tg) (iter := iter) hj qi⟩
theorem ss_setLc (own : Bool) {ow : List (Str × Nat)} {i : Nat} {y : Str} {py spos : Pos} (hc : X.calm = true) (hN : X.N.Nodup) (hy : X.N[i]? = some y) (hyl : X.env.scope.names.lookup y = some .local)
    (hsw : swapsWith (.ListComp e [⟨tg, iter, ifs, 0⟩] scope pos) (some (.Name y py)) spos.line X.env = pure true) (hi : SI ct X W tg iter m) (ok : BlkOk X.N X.env.scope scope ow) (hj : ∀ i, i ∈ js → i ∈ ow.map (·.2))
    (hg : ∀ (s : Shared) (H : Hp) (C : Addr) (cl : List (Str × Addr)) (fp : List Addr), SG (X.blk s H scope (compEnvC scope cl C X.env) fp) tg js g)
    (ht : ∀ (s : Shared) (H : Hp) (C : Addr) (cl : List (Str × Addr)) (fp : List Addr), STs ct (X.blk s H scope (compEnvC scope cl C X.env) fp) W0 ifs tests)
    (he : ∀ (s : Shared) (H : Hp) (C : Addr) (cl : List (Str × Addr)) (fp : List Addr), SE ct (X.blk s H scope (compEnvC scope cl C X.env) fp) W0 e elt) (hs : ∀ x, foldedSetIterable iter X.env x = pure x) :
    SS ct X W (.Assign [.Name y py] (.ListComp e [⟨tg, iter, ifs, 0⟩] scope pos) spos) (setS i (lcM own m g tests elt (ow.map (·.2)))) := by
  obtain ⟨wi, pi, qi⟩ := hi
  refine ⟨_, ps_setLc (g := tOfG X.K js g) (tt := tOfT ct X.K W0 tests) (te := tOfE ct X.K W0 elt) hc hN hy hyl hsw pi ok (fun s H C cl fp => (hg s H C cl fp).canon) (fun s H C cl fp => ht s H C cl fp) (fun s H C cl fp => (he s H C cl fp).canon) hs, fun ρ T S G H L M σ E f sl h => ?_⟩
  exact comp_ok (tg := tg) (iter := iter) hj qi ρ T S G H L M σ _ sl.1 f sl.2 (SatS.of sl h fun r T1 S1 G1 H1 L1 M1 x e1 f1 r1 h1 => h1 G1 H1 L1 M1 _ (Ext.refl _ _ _ _) f1 ((sl.mono e1).set r1))
end

/-! ### functions -/
inductive FRes where
  | ok (r : Rv) (S : Sto)
  | exn (x : Exn) (S : Sto)
  | bad
abbrev FM := List Rv → Sto → FRes
/-- the promise of a def that denotes f -/
def spF (ct : Str → Option Addr) (K : PySem.W.Frag) (n : Nat) (f : FM) : Sp := fun vs H Q E => vs.length = n ∧ ∃ G L S rs, Fits K G H L [] [] S ∧ RepRs K G L [] vs rs ∧ match f rs S with
  | .ok r S' => ∀ G' H' L' x, Ext G H L [] G' H' L' [] → Fits K G' H' L' [] [] S' → RepR K G' L' [] x r → Q x H'
  | .exn e S' => ∀ G' H' L' c d, Ext G H L [] G' H' L' [] → Fits K G' H' L' [] [] S' → RepX ct K G' H' c d e → E c d H'
  | .bad => False
/-- what a def of n names does, by its body -/
def retR (r : Rv) (T S : Sto) : FRes := match r with
  | .own k => (match obList T[k]? with
    | some xs => .ok (.v (.list xs)) S
    | none => .bad)
  | r => .ok r S
def fnM (n : Nat) (m : SM) : FM := fun rs S => match m (rs.map some ++ List.replicate (n - rs.length) none) [] S with
  | .ret r T S' => retR r T S'
  | .next _ _ S' => .ok (.v .none) S'
  | .exn x _ _ S' => .exn x S'
  | _ => .bad
section
variable {K : PySem.W.Frag} {G H G' H' : Hp} {L M L' M' : List Addr} {T S T' S' : Sto}
theorem Fits.dropM (f : Fits K G H L M T S) : Fits K G H L [] [] S :=
  ⟨f.sub, by rw [List.append_nil]; exact f.ndL, f.lenL, rfl, f.obL, fun n a o e => by simp at e⟩
theorem Ext.dropM (x : Ext G H L [] G' H' L' M') : Ext G H L [] G' H' L' [] :=
  ⟨x.gm, x.lp, List.prefix_refl _, x.keep, x.dom, x.gn, x.ln, fun a h => .inl h⟩
theorem RepR.dropM {x : V} {r : Rv} (h : RepR K G L M x r) (hn : ∀ k, r ≠ .own k) : RepR K G L [] x r := by
  cases r with
  | v d => exact h
  | loc n => exact h
  | own n => exact (hn n rfl).elim
  | scr ns => exact h
theorem start_sl {N : List Str} {vs : List V} {rs : List Rv} (h : RepRs K G L [] vs rs) : Sl K G L [] (rs.map some ++ List.replicate (N.length - rs.length) none) (L2.start N vs) := by
  have hl := h.length
  refine ⟨by unfold L2.start; simp only [List.length_append, List.length_map, List.length_replicate]; omega, ?_⟩
  intro i r hi
  unfold L2.start
  have : ∀ {vs : List V} {rs : List Rv}, RepRs K G L [] vs rs → ∀ (i : Nat) (r : Rv), rs[i]? = some r → ∃ x, vs[i]? = some x ∧ RepR K G L [] x r := by
    intro vs rs h
    induction h with
    | nil => intro i r e; simp at e
    | cons h1 h2 ih =>
      intro i r e
      cases i with
      | zero => simp at e; subst e; exact ⟨_, rfl, h1⟩
      | succ i => exact ih i r (by simpa using e)
  by_cases hlt : i < rs.length
  · rw [List.getElem?_append_left (by simpa using hlt), List.getElem?_map] at hi
    cases e : rs[i]? with
    | none => rw [e] at hi; cases hi
    | some r' =>
      rw [e] at hi; cases hi
      obtain ⟨x, hx, rx⟩ := this h i r e
      exact ⟨x, by rw [List.getElem?_append_left (by simpa using (show i < vs.length by omega)), List.getElem?_map, hx]; rfl, rx⟩
  · rw [List.getElem?_append_right (by simpa using hlt), List.getElem?_replicate] at hi
    split at hi <;> cases hi
end
section
variable {P : Program} {w : World} {K : PySem.W.Frag} {mg : Str → Option Value} {base : Heap} {ct : Str → Option Addr}
abbrev WEx (E : XK) : WX := fun c d _ H => E c d H
/-- THE RULE for a def: its body denotes m -/
theorem fn_ok {x qual : Str} {st : Stmt} {f : Addr} {fd : FuncData} {N ps : List Str} {k : Nat} {m : SM} (F : Fun K x qual st f fd) (S : FnScope N ps (defScope st))
    (hbody : ∀ (cdv : Value) (A : Around) (outer : List Env) (s : Shared) (H : Hp) (E : XK), Room k (A.deeper (envOfC qual (defScope st) s.heap.objs.size f cdv)) → SSs ct (cxOf (L2.CX P w) P w K mg base N qual (defScope st) f cdv A outer s H E) (WEx E) (defBody st) m) :
    FnOk P w K mg base (L2.CX P w) (k + 1) f fd ps (spF ct K ps.length (fnM N.length m)) := by
  refine F.okX S (fun vs H Q E h => h.1) (fun cdv A outer s H vs Q E hr h => ?_)
  obtain ⟨hl, G, L, S0, rs, hf, hrs, h⟩ := h
  obtain ⟨t, p, q⟩ := hbody cdv A outer s H E hr
  refine ⟨t, p, q _ [] S0 G H L [] _ _ hf (start_sl hrs) ?_⟩
  unfold fnM at h
  cases e : m (rs.map some ++ List.replicate (N.length - rs.length) none) [] S0 with
  | next ρ' T' S' =>
    rw [e] at h
    exact fun G' H' L' M' σ' x f' _ => h G' H' L' .non x.dropM f'.dropM .non
  | ret r T' S' =>
    rw [e] at h
    intro G' H' L' M' x x1 f1 r1
    cases r with
    | v d => exact h G' H' L' x x1.dropM f1.dropM r1
    | loc n => exact h G' H' L' x x1.dropM f1.dropM r1
    | scr ns => exact h G' H' L' x x1.dropM f1.dropM r1
    | own k =>
      obtain ⟨a, ha, rfl⟩ := r1
      have h : match (match obList T'[k]? with | some xs => FRes.ok (.v (.list xs)) S' | none => .bad) with
        | .ok r S' => ∀ G' H' L' x, Ext G H L [] G' H' L' [] → Fits K G' H' L' [] [] S' → RepR K G' L' [] x r → Q x H'
        | .exn e S' => ∀ G' H' L' c d, Ext G H L [] G' H' L' [] → Fits K G' H' L' [] [] S' → RepX ct K G' H' c d e → E c d H'
        | .bad => False := h
      cases et : T'[k]? with
      | none => rw [et] at h; exact h.elim
      | some o =>
        rw [et] at h
        have ob := f1.obM k a o ha et
        cases o with
        | lst xs =>
          obtain ⟨vs2, b1, b2, b3⟩ := ob
          obtain ⟨x2, f2⟩ := f1.freeze ha b1 b2 b3
          exact h _ H' L' _ (x1.trans x2).dropM f2.dropM (show Rep K _ (.ref a) (.list xs) from .lst upd_same (b3.mono x2.gm))
        | frz xs =>
          obtain ⟨vs2, b1, b2, b3⟩ := ob
          exact h G' H' L' _ x1.dropM f1.dropM (show Rep K _ (.ref a) (.list xs) from .lst b2 b3)
        | dic kvs => exact h.elim
  | brk ρ' T' S' => rw [e] at h; exact h.elim
  | cnt ρ' T' S' => rw [e] at h; exact h.elim
  | exn z ρ' T' S' =>
    rw [e] at h
    exact fun G' H' L' M' σ' c d x f' _ rx => h G' H' L' c d x.dropM f'.dropM rx
  | bad => rw [e] at h; exact h.elim
end
/-- arguments: a list of one's own is handed on for good -/
def toA (r : Rv) (T : Sto) : Option (Rv × Sto) := match r with
  | .own n => (match T[n]? with
    | some (.lst xs) => some (.v (.list xs), T.set n (.frz xs))
    | some (.frz xs) => some (.v (.list xs), T)
    | _ => none)
  | r => some (r, T)
def toAs : List Rv → Sto → Option (List Rv × Sto)
  | [], T => some ([], T)
  | r :: rs, T => match toA r T with
    | some (d, T1) => (match toAs rs T1 with
      | some (ds, T2) => some (d :: ds, T2)
      | none => none)
    | none => none
def callF (f : FM) (rs : List Rv) (T S : Sto) : Res Rv := match toAs rs T with
  | some (as, T') => (match f as S with
    | .ok r S' => .ok r T' S'
    | .exn x S' => .exn x T' S'
    | .bad => .bad)
  | none => .bad
section
variable {K : PySem.W.Frag} {G H : Hp} {L M : List Addr} {T S : Sto}
theorem toA_ok {x : V} {r r' : Rv} {T' : Sto} (f : Fits K G H L M T S) (h : RepR K G L M x r) (e : toA r T = some (r', T')) :
    ∃ G', Ext G H L M G' H L M ∧ Fits K G' H L M T' S ∧ RepR K G' L [] x r' := by
  cases r with
  | v d => cases e; exact ⟨G, Ext.refl _ _ _ _, f, h⟩
  | loc n => cases e; exact ⟨G, Ext.refl _ _ _ _, f, h⟩
  | scr ns => cases e; exact ⟨G, Ext.refl _ _ _ _, f, h⟩
  | own n =>
    obtain ⟨a, ha, rfl⟩ := h
    unfold toA at e
    simp only at e
    split at e
    · rename_i xs q
      cases e
      obtain ⟨vs, h1, h2, h3⟩ := f.obM n a _ ha q
      obtain ⟨e', f'⟩ := f.freeze ha h1 h2 h3
      exact ⟨_, e', f', show Rep K _ (.ref a) (.list xs) from .lst upd_same (h3.mono e'.gm)⟩
    · rename_i xs q
      cases e
      obtain ⟨vs, h1, h2, h3⟩ := f.obM n a _ ha q
      exact ⟨G, Ext.refl _ _ _ _, f, show Rep K _ (.ref a) (.list xs) from .lst h2 h3⟩
    · cases e
theorem toAs_ok : ∀ {xs : List V} {rs as : List Rv} {G : Hp} {T T' : Sto}, Fits K G H L M T S → RepRs K G L M xs rs → toAs rs T = some (as, T') →
    ∃ G', Ext G H L M G' H L M ∧ Fits K G' H L M T' S ∧ RepRs K G' L [] xs as
  | _, _, _, G, T, _, f, .nil, e => by cases e; exact ⟨G, Ext.refl _ _ _ _, f, .nil⟩
  | _, _, _, G, T, T', f, .cons (r := r) (rs := rs) h hs, e => by
    unfold toAs at e
    split at e
    · rename_i d T1 e1
      split at e
      · rename_i ds T2 e2
        cases e
        obtain ⟨G1, x1, f1, r1⟩ := toA_ok f h e1
        obtain ⟨G2, x2, f2, r2⟩ := toAs_ok f1 (hs.mono x1) e2
        exact ⟨G2, x1.trans x2, f2, .cons (r1.monoL x2.gm (List.prefix_refl _) (List.prefix_refl _)) r2⟩
      · cases e
    · cases e
theorem Fits.back {G' H' : Hp} {L' : List Addr} {S' : Sto} (f : Fits K G H L M T S) (x : Ext G H L [] G' H' L' []) (f' : Fits K G' H' L' [] [] S') : Ext G H L M G' H' L' M ∧ Fits K G' H' L' M T S' := by
  have out : ∀ a, a ∈ M → ∃ u, H a = some u ∧ a ∉ L := fun a ha => by
    obtain ⟨n, hn⟩ := List.mem_iff_getElem?.mp ha
    obtain ⟨u, hu⟩ := ROb.held (f.obM n a _ hn (List.getElem?_eq_getElem (show n < T.length by rw [← f.lenM]; exact lt_of_get hn)))
    exact ⟨u, hu, fun z => f.apart z ha⟩
  refine ⟨⟨x.gm, x.lp, List.prefix_refl _, fun a o h hl _ => x.keep a o h hl (by simp), x.dom, fun a o h => (x.gn a o h).elim .inl fun z => .inr (z.elim .inl fun q => by simp at q), x.ln, fun a h => .inl h⟩,
    ⟨f'.sub, List.nodup_append.mpr ⟨f'.ndL, f.ndM, fun a ha b hb e => ?_⟩, f'.lenL, f.lenM, f'.obL, fun n a o e1 e2 => ?_⟩⟩
  · subst e
    obtain ⟨u, hu, hn⟩ := out a hb
    rcases x.ln a ha with z | z
    · exact hn z
    · rw [hu] at z; cases z
  · obtain ⟨u, hu, hn⟩ := out a (List.mem_of_getElem? e1)
    refine ROb.mono x.gm (fun z => ?_) (fun z hz => x.keep a z hz hn (by simp)) (f.obM n a o e1 e2)
    cases q : G' a with
    | none => rfl
    | some y =>
      rcases x.gn a y q with q2 | q2 | q2
      · rw [z] at q2; cases q2
      · rw [hu] at q2; cases q2
      · simp at q2
end
section
variable {ct : Str → Option Addr} {X : Cx} {W : WX} {x : Str} {p pos : Pos} {e : Expr} {es : List Expr} {ms : EM (List Rv)} {k : Nat} {f : Addr} {fd : FuncData} {ps : List Str} {fm : FM}
theorem callF_ok {t : TA}
    (ha : ∀ (ρ : Vn) (T S : Sto) (G H : Hp) (L M : List Addr) (σ : L2.St) (Q : List V → Hp → Prop), ρ.length = σ.length → Fits X.K G H L M T S → Slots X.K G L M ρ σ → Sat ct X.K W G H L M σ (RepRs X.K) Q (ms ρ T S) → t σ H Q) {n : Nat}
    (ρ : Vn) (T S : Sto) (G H : Hp) (L M : List Addr) (σ : L2.St) (Q : VK) (hl : ρ.length = σ.length) (f : Fits X.K G H L M T S) (sl : Slots X.K G L M ρ σ) (hn : ∀ rs T' S', ms ρ T S = .ok rs T' S' → rs.length = n)
    (h : Sat ct X.K W G H L M σ (RepR X.K) Q (callM (callF fm) ms ρ T S)) : tCallS (spF ct X.K n fm) (WE W) t σ H Q := by
  have hn' := hn
  refine ha ρ T S G H L M σ _ hl f sl ?_
  unfold callM at h
  cases e : ms ρ T S with
  | ok rs T1 S1 =>
    rw [e] at h
    intro G1 H1 L1 M1 xs e1 f1 r1
    have h1 := Sat.pre e1 h
    have h1 : Sat ct X.K W G1 H1 L1 M1 σ (RepR X.K) Q (callF fm rs T1 S1) := h1
    unfold callF at h1
    split at h1
    · rename_i as T' ea
      obtain ⟨G2, x2, f2, r2⟩ := toAs_ok f1 r1 ea
      refine ⟨by rw [r1.length]; exact hn rs T1 S1 e, G2, L1, S1, as, f2.dropM, r2, ?_⟩
      split
      · rename_i r S' ef
        rw [ef] at h1
        intro G3 H3 L3 y x3 f3 r3
        obtain ⟨x4, f4⟩ := f2.back x3 f3
        exact h1 G3 H3 L3 M1 y (x2.trans x4) f4 (r3.monoL (Same.refl _) (List.prefix_refl _) ⟨M1, rfl⟩)
      · rename_i z S' ef
        rw [ef] at h1
        intro G3 H3 L3 c d x3 f3 r3
        obtain ⟨x4, f4⟩ := f2.back x3 f3
        exact h1 G3 H3 L3 M1 c d (x2.trans x4) f4 r3
      · rename_i ef
        rw [ef] at h1
        exact h1
    · exact (show False from h1).elim
  | exn z T1 S1 => rw [e] at h; exact h
  | bad => rw [e] at h; exact h
/-- how many arguments there are -/
def SAn (ct : Str → Option Addr) (X : Cx) (W : WX) (es : List Expr) (n : Nat) (m : EM (List Rv)) : Prop := SA ct X W es m ∧ ∀ ρ T S rs T' S', m ρ T S = .ok rs T' S' → rs.length = n
theorem san_nil : SAn ct X W [] 0 nilA := ⟨sa_nil, fun ρ T S rs T' S' h => by cases h; rfl⟩
theorem san_cons {me : EM Rv} {n : Nat} (h : SE ct X W e me) (hr : SAn ct X W es n ms) (hs : starEach (e :: es) X.env = (false, eval e X.env) :: starEach es X.env) : SAn ct X W (e :: es) (n + 1) (consA me ms) := by
  refine ⟨sa_cons h hr.1 hs, fun ρ T S rs T' S' h => ?_⟩
  unfold consA at h
  cases e1 : me ρ T S with
  | ok r T1 S1 =>
    rw [e1] at h
    have h : (ms ρ T1 S1).bind (fun rs T S => Res.ok (r :: rs) T S) = .ok rs T' S' := h
    cases e2 : ms ρ T1 S1 with
    | ok rs2 T2 S2 =>
      rw [e2] at h
      cases h
      rw [List.length_cons, hr.2 ρ T1 S1 rs2 _ _ e2]
    | exn z T2 S2 => rw [e2] at h; cases h
    | bad => rw [e2] at h; cases h
  | exn z T1 S1 => rw [e1] at h; cases h
  | bad => rw [e1] at h; cases h
theorem se_call {n : Nat} (F : FnOk X.prog X.w X.K X.mg X.base (L2.CX X.prog X.w) k f fd ps (spF ct X.K n fm)) (hr : Room k X.A) (tk : Takes X W) (hk : PySem.W.keepIn X.K (.ref f) = true) (hb : Binds X.K fd ps []) (hm : X.mg x = some (.ref f)) (hg : Gl X x)
    (ha : SAn ct X W (e :: es) n ms) (hdb : (x == ("__debug__" : Str)) = false) (he : starEach (e :: es) X.env = (false, eval e X.env) :: starEach es X.env) (hpl : (backTo pos (starEach es X.env)).any (·.1) = false) :
    SE ct X W (.Call (.Name x p) (e :: es) [] pos) (callM (callF fm) ms) := by
  obtain ⟨⟨t, pa, qa⟩, hn⟩ := ha
  exact ⟨_, pe_callS F hr hg hm hk hb (fun σ => passAt tk σ) pa hdb he hpl, fun ρ T S G H L M σ Q hl f sl h => callF_ok qa ρ T S G H L M σ Q hl f sl (fun rs T' S' q => hn ρ T S rs T' S' q) h⟩
theorem pe_callS0 {CX : CXT} {sp : Sp} {E : L2.St → XK} (F : FnOk X.prog X.w X.K X.mg X.base CX k f fd ps sp) (hr : Room k X.A) (hg : Gl X x) (hm : X.mg x = some (.ref f)) (hk : PySem.W.keepIn X.K (.ref f) = true) (hb : Binds X.K fd ps []) (hx : ∀ σ, PassesAt CX X σ (E σ))
    (hdb : (x == ("__debug__" : Str)) = false) : PE X (.Call (.Name x p) [] [] pos) (tCallS sp E tNil) := by
  refine ⟨fun pins s σ H Q I h => ?_⟩
  refine wpAny_Call_Name_kw (ld_glob I hg hm ?_ hdb)
  exact PySem.W.callWith_K0 I.kIn hk (run_fnS (us := []) F hr hb (hx σ) I .nil h)
theorem se_call0 (F : FnOk X.prog X.w X.K X.mg X.base (L2.CX X.prog X.w) k f fd ps (spF ct X.K 0 fm)) (hr : Room k X.A) (tk : Takes X W) (hk : PySem.W.keepIn X.K (.ref f) = true) (hb : Binds X.K fd ps []) (hm : X.mg x = some (.ref f)) (hg : Gl X x)
    (hdb : (x == ("__debug__" : Str)) = false) : SE ct X W (.Call (.Name x p) [] [] pos) (callM (callF fm) nilA) := by
  obtain ⟨⟨t, pa, qa⟩, hn⟩ := (san_nil : SAn ct X W [] 0 nilA)
  refine ⟨_, pe_callS0 F hr hg hm hk hb (fun σ => passAt tk σ) hdb, fun ρ T S G H L M σ Q hl f sl h => ?_⟩
  exact callF_ok (X := X) (W := W) (ms := nilA) (t := tNil) (fun ρ T S G H L M σ Q hl f sl q => (show ∀ G' H' L' M' y, Ext G H L M G' H' L' M' → Fits X.K G' H' L' M' T S → RepRs X.K G' L' M' y [] → Q y H' from q) G H L M [] (Ext.refl G H L M) f .nil) ρ T S G H L M σ Q hl f sl (fun rs T' S' q => hn ρ T S rs T' S' q) h
end

/-! ### methods -/
def methM (ty : Rv → Sto → Sto → Bool) (o : Rv → List Rv → Sto → Sto → Res Rv) (mo : EM Rv) (ms : EM (List Rv)) : EM Rv := fun ρ T S => (mo ρ T S).bind fun r T S => if ty r T S = true then (ms ρ T S).bind fun rs T S => o r rs T S else .bad
def isL (r : Rv) (T S : Sto) : Bool := (lstOf r T S).isSome
def appendR (r : Rv) (rs : List Rv) (T S : Sto) : Res Rv := match r, rs with
  | .own n, [y] => (match toD y T with
    | some (d, T') => (match T'[n]? with
      | some (.lst xs) => if xs.length < 16777216 then .ok (.v .none) (T'.set n (.lst (xs ++ [d]))) S else .bad
      | _ => .bad)
    | none => .bad)
  | .loc n, [y] => (match toD y T with
    | some (d, T') => (match S[n]? with
      | some (.lst xs) => if xs.length < 16777216 then .ok (.v .none) T' (S.set n (.lst (xs ++ [d]))) else .bad
      | _ => .bad)
    | none => .bad)
  | _, _ => .bad
def extendR (r : Rv) (rs : List Rv) (T S : Sto) : Res Rv := match r, rs with
  | .own n, [y] => (match lstOf y T S with
    | some ys => (match T[n]? with
      | some (.lst xs) => if xs.length + ys.length ≤ 16777216 then .ok (.v .none) (T.set n (.lst (xs ++ ys))) S else .bad
      | _ => .bad)
    | none => .bad)
  | _, _ => .bad
section
variable {ct : Str → Option Addr} {X : Cx} {W : WX} {o e : Expr} {es : List Expr} {mo : EM Rv} {ms : EM (List Rv)} {apos cpos : Pos}
theorem isL_ty {G H : Hp} {L M : List Addr} {T S : Sto} {x : V} {r : Rv} (f : Fits X.K G H L M T S) (h : RepR X.K G L M x r) (e : isL r T S = true) : tyV X.K "list" x H := by
  unfold isL at e
  cases q : lstOf r T S with
  | none => rw [q] at e; cases e
  | some ds =>
    obtain ⟨a, vs, rfl, h1, _⟩ := lstOf_ok f h q
    exact .inl ⟨rfl, vs, .inl (.inl h1)⟩
theorem lt_line {n : Nat} (h : n < 16777216) : n < sizeLine := by rw [sizeLine_eq]; exact h
theorem se_append (ho : SE ct X W o mo) (ha : SA ct X W (e :: es) ms)
    (hbase : attributeBase o "append" X.env (eval o X.env) = eval o X.env)
    (hfew : ((backTo cpos (starEach (e :: es) X.env)).all (fun x => !x.1) && (backToKw cpos (keywordEach [] X.env)).all (fun x => x.1.isSome) && decide ((e :: es).length + ([] : List Keyword).length + (if ([] : List Keyword).isEmpty then 0 else 1) < 30)) = true)
    (hline : (apos.endLine == cpos.line) = true) (hs : starEach (e :: es) X.env = (false, eval e X.env) :: starEach es X.env) (hplain : (backTo cpos (starEach es X.env)).any (·.1) = false) :
    SE ct X W (.Call (.Attribute o "append" apos) (e :: es) [] cpos) (methM isL appendR mo ms) := by
  obtain ⟨t, p, q⟩ := ho
  obtain ⟨ta, pa, qa⟩ := ha
  refine ⟨_, pe_bm PySem.F.plainAttrs_list PySem.F.slot_list_append PySem.F.type_list_append mt_append p pa hbase hfew hline hs hplain, fun ρ T S G H L M σ Q hl f sl h => ?_⟩
  refine q ρ T S G H L M σ _ hl f sl (Sat.bind h fun r T1 S1 G1 H1 L1 M1 x e1 f1 r1 h1 => ?_)
  split at h1
  · rename_i hty
    refine ⟨isL_ty f1 r1 hty, qa ρ T1 S1 G1 H1 L1 M1 σ _ hl f1 (sl.mono e1) (Sat.bind h1 fun rs T2 S2 G2 H2 L2 M2 xs e2 f2 r2 h2 => ?_)⟩
    unfold appendR at h2
    split at h2
    · rename_i n y
      split at h2
      · rename_i d T' ed
        split at h2
        · rename_i zs et
          split at h2
          · rename_i hz
            obtain ⟨v, rfl, rv⟩ := rs1 r2
            obtain ⟨G3, x3, f3, r3⟩ := toD_ok f2 rv ed
            obtain ⟨a, ha, rfl⟩ := r1.mono e2
            obtain ⟨vs, b1, b2, b3⟩ := f3.obM n a _ ha et
            obtain ⟨x4, f4⟩ := f3.setM (u := .lst (vs ++ [v])) (o := .lst (zs ++ [d])) ha b2 ⟨_, upd_same, b2, b3.append (.cons r3 .nil)⟩
            exact ⟨a, vs, v, rfl, rfl, b1, by rw [b3.length]; exact lt_line hz, h2 _ _ _ _ _ (x3.trans x4) f4 (show Rep X.K _ _ _ from .non)⟩
          · exact (show False from h2).elim
        · exact (show False from h2).elim
      · exact (show False from h2).elim
    · rename_i n y
      split at h2
      · rename_i d T' ed
        split at h2
        · rename_i zs et
          split at h2
          · rename_i hz
            obtain ⟨v, rfl, rv⟩ := rs1 r2
            obtain ⟨G3, x3, f3, r3⟩ := toD_ok f2 rv ed
            obtain ⟨a, ha, rfl⟩ := r1.mono e2
            obtain ⟨vs, b1, b2, b3⟩ := f3.obL n a _ ha et
            obtain ⟨x4, f4⟩ := f3.setL (u := .lst (vs ++ [v])) (o := .lst (zs ++ [d])) ha b2 ⟨_, upd_same, b2, b3.append (.cons r3 .nil)⟩
            exact ⟨a, vs, v, rfl, rfl, b1, by rw [b3.length]; exact lt_line hz, h2 _ _ _ _ _ (x3.trans x4) f4 (show Rep X.K _ _ _ from .non)⟩
          · exact (show False from h2).elim
        · exact (show False from h2).elim
      · exact (show False from h2).elim
    · exact (show False from h2).elim
  · exact (show False from h1).elim
theorem se_extend (ho : SE ct X W o mo) (ha : SA ct X W (e :: es) ms)
    (hbase : attributeBase o "extend" X.env (eval o X.env) = eval o X.env)
    (hfew : ((backTo cpos (starEach (e :: es) X.env)).all (fun x => !x.1) && (backToKw cpos (keywordEach [] X.env)).all (fun x => x.1.isSome) && decide ((e :: es).length + ([] : List Keyword).length + (if ([] : List Keyword).isEmpty then 0 else 1) < 30)) = true)
    (hline : (apos.endLine == cpos.line) = true) (hs : starEach (e :: es) X.env = (false, eval e X.env) :: starEach es X.env) (hplain : (backTo cpos (starEach es X.env)).any (·.1) = false) :
    SE ct X W (.Call (.Attribute o "extend" apos) (e :: es) [] cpos) (methM isL extendR mo ms) := by
  obtain ⟨t, p, q⟩ := ho
  obtain ⟨ta, pa, qa⟩ := ha
  refine ⟨_, pe_bm PySem.F.plainAttrs_list PySem.F.slot_list_extend PySem.F.type_list_extend mt_extend p pa hbase hfew hline hs hplain, fun ρ T S G H L M σ Q hl f sl h => ?_⟩
  refine q ρ T S G H L M σ _ hl f sl (Sat.bind h fun r T1 S1 G1 H1 L1 M1 x e1 f1 r1 h1 => ?_)
  split at h1
  · rename_i hty
    refine ⟨isL_ty f1 r1 hty, qa ρ T1 S1 G1 H1 L1 M1 σ _ hl f1 (sl.mono e1) (Sat.bind h1 fun rs T2 S2 G2 H2 L2 M2 xs e2 f2 r2 h2 => ?_)⟩
    unfold extendR at h2
    split at h2
    · rename_i n y
      split at h2
      · rename_i ys ey
        split at h2
        · rename_i zs et
          split at h2
          · rename_i hz
            obtain ⟨v, rfl, rv⟩ := rs1 r2
            obtain ⟨b, ws, rfl, c1, c2⟩ := lstOf_ok f2 rv ey
            obtain ⟨a, ha, rfl⟩ := r1.mono e2
            obtain ⟨vs, b1, b2, b3⟩ := f2.obM n a _ ha et
            obtain ⟨x4, f4⟩ := f2.setM (u := .lst (vs ++ ws)) (o := .lst (zs ++ ys)) ha b2 ⟨_, upd_same, b2, b3.append c2⟩
            exact ⟨a, b, vs, ws, rfl, rfl, b1, c1, by rw [b3.length, c2.length]; exact line_le hz, h2 _ _ _ _ _ x4 f4 (show Rep X.K _ _ _ from .non)⟩
          · exact (show False from h2).elim
        · exact (show False from h2).elim
      · exact (show False from h2).elim
    · exact (show False from h2).elim
  · exact (show False from h1).elim
end
end RB

end

/-! text RMore -/
section
set_option Elab.async false
set_option linter.all false
set_option maxRecDepth 100000
set_option maxHeartbeats 4000000
/-! RMore: isinstance, sorted, join, a dict's display. -/
namespace RB
open PySem PySem.Spec PyProof.Rows L2

inductive Ty where
  | non | bool | int | str | list | tuple | dict
  deriving DecidableEq
def Ty.name : Ty → String
  | .non => "NoneType" | .bool => "bool" | .int => "int" | .str => "str" | .list => "list" | .tuple => "tuple" | .dict => "dict"
def Ty.isa : Ty → Ty → Bool
  | .bool, .int => true
  | a, b => decide (a = b)
def tyD : D → Option Ty
  | .none => some .non
  | .bool _ => some .bool
  | .int _ => some .int
  | .str _ => some .str
  | .list _ => some .list
  | .tuple _ => some .tuple
  | .dict _ => none
def tyR (r : Rv) (T S : Sto) : Option Ty := match r with
  | .v d => tyD d
  | .scr _ => some .list
  | .own n => (obList T[n]?).map fun _ => .list
  | .loc n => (match S[n]? with
    | some (.dic _) => some .dict
    | o => (obList o).map fun _ => .list)
section
variable {K : PySem.W.Frag} {G H : Hp} {L M : List Addr} {T S : Sto} {x : V} {r : Rv} {t : Ty}
theorem tyX_tup {a : Addr} {vs : List V} (h : SqT K H a vs) : TyX K H (.ref a) (.type "tuple") := by
  rcases h with (h | ⟨o, h⟩) | ⟨o, its, n, hk, hc, _⟩
  · exact .base (.tup h)
  · exact .fTuple h
  · exact .kTuple hk hc
theorem tyX_lst {a : Addr} {vs : List V} (h : SqL K H a vs) : TyX K H (.ref a) (.type "list") := by
  rcases h with (h | ⟨o, h⟩) | ⟨o, its, n, hk, hc, _⟩
  · exact .base (.lst h)
  · exact .base (.frz h)
  · exact .kList hk hc
theorem tyR_ok (f : Fits K G H L M T S) (h : RepR K G L M x r) (e : tyR r T S = some t) : TyX K H x (.type t.name) := by
  cases r with
  | v d =>
    have e : tyD d = some t := e
    cases (show Rep K G x d from h) with
    | non => cases e; exact .base .non
    | bl b => cases e; exact .base (.bl b)
    | int i => cases e; exact .base (.int i)
    | str z => cases e; exact .base (.str z)
    | tup hs _ => cases e; exact tyX_tup (sqT_mono f.sub hs)
    | lst hg _ => cases e; exact .base (.lst (f.sub _ _ hg))
  | scr ns =>
    cases e
    obtain ⟨a, rfl, hs⟩ := h
    exact tyX_lst (f.sub.seq hs)
  | own n =>
    cases q : obList T[n]? with
    | none => have e : (obList T[n]?).map _ = some t := e; rw [q] at e; cases e
    | some ds =>
      have e : (obList T[n]?).map _ = some t := e
      rw [q] at e; cases e
      obtain ⟨a, vs, rfl, h1, _⟩ := lstOf_ok (r := .own n) f h q
      exact .base (.lst h1)
  | loc n =>
    obtain ⟨a, ha, rfl⟩ := h
    unfold tyR at e
    simp only at e
    split at e
    · rename_i kvs q
      cases e
      obtain ⟨ws, h1, _⟩ := f.obL n a _ ha q
      exact .base (.dK h1)
    · cases q : obList S[n]? with
      | none => rw [q] at e; cases e
      | some ds =>
        rw [q] at e; cases e
        obtain ⟨b, vs, e2, h1, _⟩ := lstOf_ok (r := .loc n) f ⟨a, ha, rfl⟩ q
        cases e2
        exact .base (.lst h1)
end
/-- isinstance(x, c) -/
def isiM (c : Ty) (m : EM Rv) : EM Rv := fun ρ T S => (m ρ T S).bind fun r T S => match tyR r T S with
  | some t => .ok (.v (.bool (t.isa c))) T S
  | none => .bad
def isiN (cs : List Ty) (m : EM Rv) : EM Rv := fun ρ T S => (m ρ T S).bind fun r T S => match tyR r T S with
  | some t => .ok (.v (.bool (cs.any fun c => t.isa c))) T S
  | none => .bad
theorem kit_isa (t c : Ty) : kitB t.name c.name = some (t.isa c) := by
  cases t <;> cases c <;> decide +kernel
theorem kitAny_isa {K : PySem.W.Frag} (t : Ty) : ∀ cs : List Ty, PySem.W.kitAny K (.type t.name) (cs.map fun c => Value.type c.name) = some (cs.any fun c => t.isa c)
  | [] => rfl
  | c :: cs => by
    rw [List.map_cons]
    refine kitAny_cons (kit_ty (kit_isa t c)) (fun h => ?_) (fun h => ?_)
    · rw [kitAny_isa t cs, List.any_cons, h, Bool.false_or]
    · rw [List.any_cons, h, Bool.true_or]
section
variable {ct : Str → Option Addr} {X : Cx} {W : WX} {a : Expr} {m : EM Rv} {p pc pos : Pos} {x : Str}
theorem se_isi (c : Ty) (hg : Gl X "isinstance") (hm : X.mg "isinstance" = none) (hgc : Gl X x) (hmc : X.mg x = none) (hbc : bootBuiltins x = some (.type c.name)) (hn : x ≠ "__name__") (hd : (x == ("__debug__" : Str)) = false) (ha : SE ct X W a m)
    (h1 : starEach [a, .Name x pc] X.env = (false, eval a X.env) :: starEach [.Name x pc] X.env) (h2 : starEach [.Name x pc] X.env = (false, eval (.Name x pc) X.env) :: starEach [] X.env) (hpl : (backTo pos (starEach [.Name x pc] X.env)).any (·.1) = false) :
    SE ct X W (.Call (.Name "isinstance" p) [a, .Name x pc] [] pos) (isiM c m) := by
  obtain ⟨t, pa, qa⟩ := ha
  refine ⟨_, pe_callB call_isi hg hm (by decide +kernel) (pa_cons pa (pa_cons (pe_bltn (v := .ty c.name) hgc hmc hbc rfl hn hd) pa_nil h2) h1) (by decide) (by decide) h1 hpl, fun ρ T S G H L M σ Q hl f sl h => ?_⟩
  refine qa ρ T S G H L M σ _ hl f sl (Sat.bind h fun r T1 S1 G1 H1 L1 M1 v e1 f1 r1 h1 => ?_)
  split at h1
  · rename_i ty et
    exact ⟨v, .ty c.name, .type ty.name, .type c.name, ty.isa c, rfl, .ty c.name, tyR_ok f1 r1 et, kit_ty (kit_isa ty c), sat_d f1 h1 (.bl _)⟩
  · exact (show False from h1).elim
/-- isinstance(x, (c, d)) -/
theorem se_isi2 {y : Str} {pd pt : Pos} {kt} (c d : Ty) (hg : Gl X "isinstance") (hm : X.mg "isinstance" = none) (hgc : Gl X x) (hmc : X.mg x = none) (hbc : bootBuiltins x = some (.type c.name)) (hn : x ≠ "__name__") (hd : (x == ("__debug__" : Str)) = false)
    (hgd : Gl X y) (hmd : X.mg y = none) (hbd : bootBuiltins y = some (.type d.name)) (hn2 : y ≠ "__name__") (hd2 : (y == ("__debug__" : Str)) = false) (ha : SE ct X W a m)
    (h1 : starEach [a, .Tuple [.Name x pc, .Name y pd] kt pt] X.env = (false, eval a X.env) :: starEach [.Tuple [.Name x pc, .Name y pd] kt pt] X.env) (h2 : starEach [.Tuple [.Name x pc, .Name y pd] kt pt] X.env = (false, eval (.Tuple [.Name x pc, .Name y pd] kt pt) X.env) :: starEach [] X.env)
    (h3 : starEach [.Name x pc, .Name y pd] X.env = (false, eval (.Name x pc) X.env) :: starEach [.Name y pd] X.env) (h4 : starEach [.Name y pd] X.env = (false, eval (.Name y pd) X.env) :: starEach [] X.env)
    (hpl : (backTo pos (starEach [.Tuple [.Name x pc, .Name y pd] kt pt] X.env)).any (·.1) = false) :
    SE ct X W (.Call (.Name "isinstance" p) [a, .Tuple [.Name x pc, .Name y pd] kt pt] [] pos) (isiN [c, d] m) := by
  obtain ⟨t, pa, qa⟩ := ha
  refine ⟨_, pe_callB call_isiT hg hm (by decide +kernel) (pa_cons pa (pa_cons (pe_tup (pa_cons (pe_bltn (v := .ty c.name) hgc hmc hbc rfl hn hd) (pa_cons (pe_bltn (v := .ty d.name) hgd hmd hbd rfl hn2 hd2) pa_nil h4) h3)) pa_nil h2) h1) (by decide) (by decide) h1 hpl, fun ρ T S G H L M σ Q hl f sl h => ?_⟩
  refine qa ρ T S G H L M σ _ hl f sl (Sat.bind h fun r T1 S1 G1 H1 L1 M1 v e1 f1 r1 h1 => ?_)
  refine ⟨by show 2 ≤ sizeLine; rw [sizeLine_eq]; decide, fun q hq => ?_⟩
  split at h1
  · rename_i ty et
    obtain ⟨x2, f2⟩ := f1.kept (H' := upd H1 q (.tup [.ty c.name, .ty d.name])) (fun b u hb => by rw [upd_ne (ne_of_none hb hq)]; exact hb)
    exact ⟨v, q, [.ty c.name, .ty d.name], .type ty.name, [.type c.name, .type d.name], _, rfl, upd_same, .cons (.ty _) (.cons (.ty _) .nil), tyR_ok f2 (r1.mono x2) et, kitAny_isa ty [c, d], h1 _ _ _ _ _ x2 f2 (show Rep X.K _ _ _ from .bl _)⟩
  · exact (show False from h1).elim
end
end RB
namespace RB
open PySem PySem.Spec PyProof.Rows L2
/-! ### a, b, .. = x, y, ..: the values go to the names -/
def setAll : List Nat → List Rv → Vn → Vn
  | i :: is, r :: rs, ρ => setAll is rs (ρ.set i (some r))
  | _, _, ρ => ρ
def unpS (is : List Nat) (ms : EM (List Rv)) : SM := fun ρ T S => (ms ρ T S).out ρ fun rs T S => if rs.length = is.length then .next (setAll is rs ρ) T S else .bad
def gNames : List Nat → TGs
  | [] => gNil
  | i :: is => gCons (gName i) (gNames is)
theorem gNames_ok {K : PySem.W.Frag} {G : Hp} {L M : List Addr} {H : Hp} {Q : L2.St → Hp → Prop} : ∀ {is : List Nat} {xs : List V} {rs : List Rv} {ρ : Vn} {σ : L2.St}, Sl K G L M ρ σ → RepRs K G L M xs rs → rs.length = is.length → (∀ σ', Sl K G L M (setAll is rs ρ) σ' → Q σ' H) → gNames is xs σ H Q
  | [], _, _, ρ, σ, sl, .nil, _, h => ⟨rfl, h σ sl⟩
  | [], _, _, ρ, σ, sl, .cons _ _, e, _ => by cases e
  | i :: is, _, _, ρ, σ, sl, .nil, e, _ => by cases e
  | i :: is, _, _, ρ, σ, sl, .cons (x := x) (xs := xs) h1 h2, e, h => ⟨x, xs, rfl, gNames_ok (sl.set h1) h2 (by simpa using e) h⟩
section
variable {ct : Str → Option Addr} {X : Cx} {W : WX} {pos : Pos}
theorem pgn_nil : PGs X [] (gNames []) := pgs_nil
theorem pgn_cons {i : Nat} {x : Str} {px : Pos} {es : List Expr} {is : List Nat} (hN : X.N.Nodup) (hi : X.N[i]? = some x) (hx : Loc X.env.scope x) (hf : X.fn x = true ∨ X.env.scope.names.lookup x = some .local) (h2 : PGs X es (gNames is))
    (hs : (assignEach (.Name x px :: es) X.env).map (·.2) = assign (.Name x px) X.env :: (assignEach es X.env).map (·.2)) : PGs X (.Name x px :: es) (gNames (i :: is)) := pgs_cons (pg_name hN hi hx hf) h2 hs
theorem ss_unp {tgs es : List Expr} {is : List Nat} {ms : EM (List Rv)} {kt k2 : Nat} {pt p2 : Pos} {n : Nat} (hc : X.calm = true) (hg : PGs X tgs (gNames is)) (ha : SA ct X W es ms) (hn : (assignEach tgs X.env).length = n) (hn2 : is.length = n) (hst : (assignEach tgs X.env).findIdx? (·.1) = none)
    (hz : n ≤ 1000) (hs : swapsWithSole [.Tuple tgs kt pt] (.Tuple es k2 p2) pos.line X.env = pure false) (hw : swappedStores [.Tuple tgs kt pt] (.Tuple es k2 p2) X.env = pure none) (h1 : (assignEach [.Tuple tgs kt pt] X.env).map (·.2) = [assign (.Tuple tgs kt pt) X.env]) :
    SS ct X W (.Assign [.Tuple tgs kt pt] (.Tuple es k2 p2) pos) (unpS is ms) := by
  obtain ⟨t, p, q⟩ := ha
  refine ⟨_, ps_asg (pe_tup p) (pg_tup hc hg hn hst) hs hw h1, fun ρ T S G H L M σ E f sl h => ?_⟩
  refine q ρ T S G H L M σ _ sl.1 f sl.2 (SatS.of sl h fun rs T1 S1 G1 H1 L1 M1 xs e1 f1 r1 h1 => ?_)
  split at h1
  · rename_i hl
    refine ⟨by rw [r1.length, hl, hn2]; exact Nat.le_trans hz (by rw [sizeLine_eq]; decide), fun p hp => ⟨p, xs, rfl, .inl (.inl upd_same), by rw [r1.length, hl, hn2], ?_⟩⟩
    obtain ⟨x2, f2⟩ := f1.kept (H' := upd H1 p (.tup xs)) (fun b u hb => by rw [upd_ne (ne_of_none hb hp)]; exact hb)
    exact gNames_ok ((sl.mono e1).mono x2) (r1.mono x2) hl fun σ' sl' => h1 _ _ _ _ σ' x2 f2 sl'
  · exact (show False from h1).elim
end
/-! ### a def by its name -/
def Dfn (P : Program) (w : World) (K : PySem.W.Frag) (mg : Str → Option Value) (base : Heap) (ct : Str → Option Addr) (x : Str) (k n : Nat) (fm : FM) : Prop :=
  ∃ f fd ps, FnOk P w K mg base (L2.CX P w) k f fd ps (spF ct K n fm) ∧ PySem.W.keepIn K (.ref f) = true ∧ Binds K fd ps [] ∧ mg x = some (.ref f)
section
variable {ct : Str → Option Addr} {X : Cx} {W : WX} {x : Str} {p pos : Pos} {e : Expr} {es : List Expr} {ms : EM (List Rv)} {k j n : Nat} {fm : FM}
theorem se_fn (d : Dfn X.prog X.w X.K X.mg X.base ct x k n fm) (hr : Room j X.A) (hk : k ≤ j) (tk : Takes X W) (hg : Gl X x) (ha : SAn ct X W (e :: es) n ms) (hdb : (x == ("__debug__" : Str)) = false) (he : starEach (e :: es) X.env = (false, eval e X.env) :: starEach es X.env)
    (hpl : (backTo pos (starEach es X.env)).any (·.1) = false) : SE ct X W (.Call (.Name x p) (e :: es) [] pos) (callM (callF fm) ms) := by
  obtain ⟨f, fd, ps, F, kp, b, hm⟩ := d
  exact se_call F (hr.mono hk) tk kp b hm hg ha hdb he hpl
theorem se_fn0 (d : Dfn X.prog X.w X.K X.mg X.base ct x k 0 fm) (hr : Room j X.A) (hk : k ≤ j) (tk : Takes X W) (hg : Gl X x) (hdb : (x == ("__debug__" : Str)) = false) : SE ct X W (.Call (.Name x p) [] [] pos) (callM (callF fm) nilA) := by
  obtain ⟨f, fd, ps, F, kp, b, hm⟩ := d
  exact se_call0 F (hr.mono hk) tk kp b hm hg hdb
end
end RB

end

/-! text RSet -/
section
set_option Elab.async false
set_option linter.all false
set_option maxRecDepth 100000
set_option maxHeartbeats 4000000
/-! RSet: set(xs) of a list of texts, and sorted of it. -/
namespace RB
open PySem PySem.Spec PyProof.Rows L2

def keyS (e : Int × Value) : Str := match e.2 with | .str k _ => k | _ => Str.empty
def GoodS (P : Program) (w : World) (e : Int × Value) : Prop := ∃ k tk, e.2 = Value.str k tk ∧ e.1 = (strKind P w).hash k
/-- the set of texts at a -/
def SetS (P : Program) (w : World) (h : Heap) (a : Addr) (S : Str → Bool) (n : Nat) : Prop :=
  ∃ o es ep t, h.get? a = some o ∧ o.ExactSet ∧ o.data = .set es ep t ∧ (∀ e ∈ es.toList, GoodS P w e) ∧ (es.toList.map keyS).Nodup ∧ (∀ k, S k = true ↔ k ∈ es.toList.map keyS) ∧
    es.size < scanBound ∧ t.fits es.size = true ∧ es.size = n ∧ Ris t.place.toList ∧ (w.params.followText "set-order" = true ∨ t.led = true)
section
variable {P : Program} {w : World} {h h' : Heap} {a : Addr} {S : Str → Bool} {n : Nat}
theorem SetS.at (R : SetS P w h a S n) (k : ∀ o, h.get? a = some o → h'.get? a = some o) : SetS P w h' a S n := by
  obtain ⟨o, es, ep, t, ho, r⟩ := R
  exact ⟨o, es, ep, t, k o ho, r⟩
theorem SetS.congr {S' : Str → Bool} {n' : Nat} (R : SetS P w h a S n) (e : ∀ k, S' k = S k) (en : n' = n) : SetS P w h a S' n' := by
  have q : S' = S := funext e
  rw [q, en]; exact R
theorem goodS_elems {l : List (Int × Value)} (g : ∀ e ∈ l, GoodS P w e) : ElemsOf (strKind P w) l := fun e he => by
  obtain ⟨k, tk, h1, h2⟩ := g e he
  exact ⟨⟨k, by rw [h1]; exact strKind_is P w k tk, h2⟩, by rw [h1] <;> rfl⟩
theorem goodS_is {e : Int × Value} (g : GoodS P w e) (k : Str) : (strKind P w).is k e.2 = true ↔ keyS e = k := by
  obtain ⟨k0, tk, h1, _⟩ := g
  unfold keyS
  rw [h1]
  show ((k0 == k) = true) ↔ k0 = k
  exact beq_iff_eq
theorem goodS_mem {l : List (Int × Value)} (g : ∀ e ∈ l, GoodS P w e) (k : Str) : k ∈ l.map keyS ↔ ∃ e ∈ l, (strKind P w).is k e.2 = true := by
  rw [List.mem_map]
  constructor
  · rintro ⟨e, he, q⟩
    exact ⟨e, he, (goodS_is (g e he) k).2 q⟩
  · rintro ⟨e, he, q⟩
    exact ⟨e, he, (goodS_is (g e he) k).1 q⟩
end
section
variable {P : Program} {w : World} {A : Around} {E : Value → Shared → Prop} {s : Shared} {a : Addr} {S : Str → Bool} {n : Nat}
theorem setS_add_tail {g : Bool → Sem Unit} (hg : ∀ (b : Bool) (s₁ : Shared) (Q' : Unit → Shared → Prop), Q' () s₁ → wpAny (model P w) A (g b) Q' E s₁)
    {o : Obj} {es : Array (Int × Value)} {ep : Nat} {t : SetTable} (ho : s.heap.get? a = some o) (hex : o.ExactSet) (hd : o.data = .set es ep t)
    {es1 : Array (Int × Value)} {t2 : SetTable} {S' : Str → Bool} (g1 : ∀ e ∈ es1.toList, GoodS P w e) (nd1 : (es1.toList.map keyS).Nodup) (m1 : ∀ k, S' k = true ↔ k ∈ es1.toList.map keyS)
    (hb1 : es1.size < scanBound) (hf2 : t2.fits es1.size = true) (hr : Ris t2.place.toList) (hl : w.params.followText "set-order" = true ∨ t2.led = true) {wasDummy : Bool} {R : Option Bool → Shared → Prop}
    (hR : ∀ h', Heap.SameBut a s.heap h' → SetS P w h' a S' es1.size → R (some true) { s with heap := h' }) :
    wpAny (model P w) A (do
        storeSet a es1 t2
        if (!wasDummy && t2.tooFull) = true then do
            g (relayAll t2 es1 (SetTable.grown es1.size)).2.2
            storeSet a (relayAll t2 es1 (SetTable.grown es1.size)).1 (relayAll t2 es1 (SetTable.grown es1.size)).2.1
            pure (some true)
          else pure (some true)) R E s := by
  refine wpAny_bind (wpAny_storeSet_of ho hd ?_ (fits_of_scanBound hb1))
  have ho1 := store_at (es' := es1) (t' := t2) ho hd
  have sb1 := Heap.SameBut.update s.heap a (Obj.putSet es1 t2)
  split
  · have pm := relayAll_perm t2 es1 (SetTable.grown es1.size)
    have hf3 := relayAll_fits t2 es1 (SetTable.grown es1.size)
    have hr3 := relayAll_ris t2 es1 (SetTable.grown es1.size)
    have hl3 := relayAll_led t2 es1 (SetTable.grown es1.size)
    generalize relayAll t2 es1 (SetTable.grown es1.size) = Z at pm hf3 hr3 hl3 ⊢
    obtain ⟨es2, t3, gave⟩ := Z
    dsimp only at pm hf3 hr3 hl3 ⊢
    have hsz : es2.size = es1.size := by rw [← Array.length_toList, pm.length_eq, Array.length_toList]
    have hb2 : es2.size < scanBound := by rw [hsz]; exact hb1
    refine wpAny_bind (hg _ _ _ ?_)
    refine wpAny_bind (wpAny_storeSet_of ho1 rfl ?_ (fits_of_scanBound hb2))
    have ho2 := store_at (es' := es2) (t' := t3) ho1 rfl
    refine wpAny_pure (hR _ (sb1.trans (Heap.SameBut.update _ a _)) ?_)
    exact ⟨_, es2, _, t3, ho2, hex, rfl, fun e he => g1 e (pm.mem_iff.mp he), (pm.map keyS).nodup_iff.mpr nd1, fun k => (m1 k).trans (pm.map keyS).mem_iff.symm, hb2, hf3, hsz, hr3,
      hl.imp id fun z => by rw [hl3]; exact z⟩
  · exact wpAny_pure (hR _ sb1 ⟨_, es1, _, t2, ho1, hex, rfl, g1, nd1, m1, hb1, hf2, rfl, hr, hl⟩)
theorem setS_add_hashed {k : Str} {tk : Tok} {Q : Bool → Shared → Prop} (R : SetS P w s.heap a S n) (room : n + 1 < scanBound)
    (hQ : ∀ h', Heap.SameBut a s.heap h' → SetS P w h' a (fun j => S j || decide (j = k)) (if S k = true then n else n + 1) → Q (!S k) { s with heap := h' }) :
    wpAny (model P w) A (setAddHashed a (.str k tk) ((strKind P w).hash k)) Q E s := by
  obtain ⟨o, es, ep, t, ho, hex, hd, g, nd, hm, hb, hf, hn, hr, hl⟩ := R
  have hkey : (strKind P w).is k (.str k tk) = true := strKind_is P w k tk
  have hsc : (Value.str k tk).scannable = true := rfl
  have hel : ElemsOf (strKind P w) es.toList := goodS_elems g
  unfold setAddHashed setAddHashedIn
  refine wpAny_holding (wpAny_bind (wpAny_setState_of ho hd hf ?_))
  dsimp only
  rw [byScan_of hsc hb hel]
  simp only [↓reduceIte]
  unfold setAddByScan
  refine wpAny_bind ?_
  refine wpAny_bind (wpAny_rule ?_)
  refine wpAny_bind (wpAny_setScan_of hkey ho hd hf hel ?_)
  cases hfi : List.findIdx? (fun e => (strKind P w).is k e.2) es.toList with
  | some j =>
    dsimp only
    obtain ⟨hj, pj, _⟩ := List.findIdx?_eq_some_iff_getElem.mp hfi
    have hSk : S k = true := (hm k).2 ((goodS_mem (P := P) (w := w) g k).2 ⟨es.toList[j], List.getElem_mem hj, pj⟩)
    refine wpAny_pure (wpAny_pure ?_)
    have q := hQ s.heap (Heap.SameBut.refl a s.heap) ⟨o, es, ep, t, ho, hex, hd, g, nd, fun i => by
      rw [Bool.or_eq_true, decide_eq_true_eq, ← hm i]
      exact ⟨fun z => z.elim id (fun e => e ▸ hSk), .inl⟩, hb, hf, by rw [if_pos hSk]; exact hn, hr, hl⟩
    rw [hSk] at q
    exact q
  | none =>
    dsimp only
    have hnk : k ∉ es.toList.map keyS := fun z => by
      obtain ⟨e, he, q⟩ := (goodS_mem (P := P) (w := w) g k).1 z
      have c := List.findIdx?_eq_none_iff.mp hfi e he
      rw [q] at c
      cases c
    have hSk : S k = false := by
      cases q : S k with
      | false => rfl
      | true => exact absurd ((hm k).1 q) hnk
    have hgw : ∀ (b : Bool) {s₁ : Shared} {Q' : Unit → Shared → Prop}, Q' () s₁ → wpAny (model P w) A (match b with | true => rule "set.scan.the-table-gave-way" | false => pure ()) Q' E s₁ :=
      fun b s₁ Q' q => by cases b <;> first | exact wpAny_pure q | exact wpAny_rule q
    have pm := layNew_perm t es ((strKind P w).hash k) (.str k tk)
    have hf1 := layNew_fits t es ((strKind P w).hash k) (.str k tk)
    have hr1 := layNew_ris t es ((strKind P w).hash k) (.str k tk) hr
    have hl1 := layNew_led t es ((strKind P w).hash k) (.str k tk)
    generalize layNew t es ((strKind P w).hash k) (.str k tk) = Z at pm hf1 hr1 hl1 ⊢
    obtain ⟨es1, t1, wasDummy, gave⟩ := Z
    dsimp only at pm hf1 hr1 hl1 ⊢
    rw [Array.toList_push] at pm
    have pc : es1.toList.Perm (((strKind P w).hash k, Value.str k tk) :: es.toList) := pm.trans (List.perm_append_singleton _ _)
    have pk : (es1.toList.map keyS).Perm (k :: es.toList.map keyS) := pc.map keyS
    have g1 : ∀ e ∈ es1.toList, GoodS P w e := fun e he => by
      rcases List.mem_cons.mp (pc.mem_iff.mp he) with z | z
      · rw [z]; exact ⟨k, tk, rfl, rfl⟩
      · exact g e z
    have nd1 : (es1.toList.map keyS).Nodup := pk.nodup_iff.mpr (List.nodup_cons.mpr ⟨hnk, nd⟩)
    have m1 : ∀ i, (S i || decide (i = k)) = true ↔ i ∈ es1.toList.map keyS := fun i => by
      rw [Bool.or_eq_true, decide_eq_true_eq, hm i, pk.mem_iff, List.mem_cons]
      exact Or.comm
    have hsz : es1.size = n + 1 := by rw [← Array.length_toList, pc.length_eq, List.length_cons, Array.length_toList, hn]
    have hb1 : es1.size < scanBound := by rw [hsz]; exact room
    have hled : w.params.followText "set-order" = true ∨ t1.led = true := hl.imp id fun z => by rw [hl1]; exact z
    have fin : ∀ h', Heap.SameBut a s.heap h' → SetS P w h' a (fun j => S j || decide (j = k)) es1.size → Q true { s with heap := h' } := fun h' sb r => by
      have q := hQ h' sb
      rw [hSk] at q
      rw [hsz] at r
      exact q r
    refine wpAny_bind (hgw _ ?_)
    split
    · refine wpAny_bind ?_
      rw [hashByValue_scannable 8 hsc]
      refine wpAny_pure ?_
      refine setS_add_tail ?_ ho hex hd g1 nd1 m1 hb1 ?_ ?_ ?_ ?_
      · intro b s₁ Q' q; cases b <;> first | exact wpAny_pure q | exact wpAny_rule q
      · first | (split <;> first | exact hf1 | exact SetTable.fits_plain_off hf1) | exact hf1
      · first | (split <;> exact hr1) | exact hr1
      · first | (split <;> exact hled) | exact hled
      · intro h' sb r; dsimp only; exact wpAny_pure (fin h' sb r)
    · refine wpAny_bind (wpAny_pure ?_)
      simp only [↓reduceIte]
      refine setS_add_tail ?_ ho hex hd g1 nd1 m1 hb1 hf1 hr1 hled ?_
      · intro b s₁ Q' q; cases b <;> first | exact wpAny_pure q | exact wpAny_rule q
      · intro h' sb r; dsimp only; exact wpAny_pure (fin h' sb r)
theorem setS_fresh {h : Heap} {a : Addr} (ho : h.get? a = some { cls := .type "set", dict := none, data := .set #[] 0 (.fresh 0 0 (!w.params.followText "set-order")) }) : SetS P w h a (fun _ => false) 0 :=
  ⟨_, #[], 0, _, ho, ⟨rfl, rfl, rfl⟩, rfl, (fun e he => by simp at he), (by simp), (fun k => by simp), (by decide), (by rfl), rfl, List.Pairwise.nil, by
    show _ ∨ (!w.params.followText "set-order") = true
    cases w.params.followText "set-order"
    · exact .inr rfl
    · exact .inl rfl⟩
end

/-! ### set(xs) -/
/-- the texts met, each once -/
def metS (xs : List Str) : List Str := xs.foldl (fun σ x => if x ∈ σ then σ else σ ++ [x]) []
theorem metS_snoc (xs : List Str) (x : Str) : metS (xs ++ [x]) = if x ∈ metS xs then metS xs else metS xs ++ [x] := by
  unfold metS; rw [List.foldl_append]; rfl
theorem metS_le : ∀ (n : Nat) (xs : List Str), xs.length = n → (metS xs).length ≤ n
  | 0, xs, h => by rw [List.length_eq_zero_iff.mp h]; exact Nat.le_refl _
  | n + 1, xs, h => by
    have hx : xs ≠ [] := fun z => by rw [z] at h; cases h
    have e := List.dropLast_concat_getLast hx
    rw [← e, metS_snoc]
    have := metS_le n xs.dropLast (by rw [List.length_dropLast, h]; rfl)
    split
    · omega
    · rw [List.length_append, List.length_singleton]; omega
section
variable {prog : Program} {w : World} {A : Around} {R : Result → Shared → Prop} {I : Addr} {fp wr : List Addr} {G : Array GenState → Array GenState → Prop} {n : Nat} {P : Nat → Value → Prop} {St : Nat → Shared → Prop}
theorem loopSet (W : WalksS prog w A.in1 I fp wr G n P St) (S : Addr) (hSf : S ∉ fp) (xs : List Str) (hsz : xs.length = n) (hb : n + 1 < scanBound)
    (hval : ∀ i v, P i v → ∃ t, v = .str (xs.getD i Str.empty) t) :
    ∀ (k i : Nat) (s : Shared), n - i = k → i ≤ n → St i s →
      SetS prog w s.heap S (fun k' => decide (k' ∈ metS (xs.take i))) (metS (xs.take i)).length →
      (∀ s', Moved (S :: wr) G s s' → SetS prog w s'.heap S (fun k' => decide (k' ∈ metS xs)) (metS xs).length → R (.ok (.ret .none)) s') →
      codeAny (model prog w) A (.builtin "set.update.loop" ⟨[.ref S, .ref I], []⟩) R s := by
  have hSw : S ∉ wr := fun h => hSf (W.sub _ h)
  have hsub : ∀ b ∈ wr, b ∈ S :: wr := fun b hb => List.mem_cons_of_mem _ hb
  intro k
  induction k with
  | zero =>
    intro i s hk hi hst hS hR
    have hin : i = n := by omega
    subst hin
    refine codeAny_builtin PyProof.Rows.F.entry_set_update_loop ?_
    rw [Around.under_plainId PyProof.Rows.F.plain_set_update_loop _]
    show wpAny _ A.in1 (pyNext (.ref I) >>= _) _ _ s
    refine wpAny_bind (W.done s _ _ hst fun s' hm => ?_)
    show wpAny _ A.in1 (ret Value.none) _ _ s'
    rw [List.take_of_length_le (Nat.le_of_eq hsz)] at hS
    exact wpAny_pure (hR s' (hm.mono hsub) (hS.at fun o e => hm.heap S _ hSw e))
  | succ k ih =>
    intro i s hk hi hst hS hR
    have hlt : i < n := by omega
    refine codeAny_builtin PyProof.Rows.F.entry_set_update_loop ?_
    rw [Around.under_plainId PyProof.Rows.F.plain_set_update_loop _]
    show wpAny _ A.in1 (pyNext (.ref I) >>= _) _ _ s
    refine wpAny_bind (W.item i s _ _ hlt hst fun v s' hP hst' hm => ?_)
    obtain ⟨t, rfl⟩ := hval i v hP
    have hS' := hS.at (h' := s'.heap) fun o e => hm.heap S _ hSw e
    show wpAny _ A.in1 (holding [Value.str (xs.getD i Str.empty) t] (setAdd S (.str (xs.getD i Str.empty) t)) >>= _) _ _ s'
    refine wpAny_bind (wpAny_holding ?_)
    unfold setAdd
    refine wpAny_holding ?_
    refine wpAny_bind ((PySem.strKind prog w).pyHash (k := xs.getD i Str.empty) (strKind_is _ _ _ _) ?_)
    have hle := metS_le _ (xs.take i) rfl
    have hlt' : i < xs.length := by omega
    have htk : (xs.take i).length = i := by rw [List.length_take]; omega
    refine setS_add_hashed (s := { s' with toks := s'.toks + 1 }) hS' (by omega) fun h' hsb hS2 => ?_
    have ex : xs.take (i + 1) = xs.take i ++ [xs.getD i Str.empty] := by
      rw [List.take_succ, List.getElem?_eq_getElem hlt']
      simp [List.getD_eq_getElem?_getD, List.getElem?_eq_getElem hlt']
    have hSi : SetS prog w h' S (fun k' => decide (k' ∈ metS (xs.take (i + 1)))) (metS (xs.take (i + 1))).length := by
      rw [ex, metS_snoc]
      refine hS2.congr (fun k' => ?_) ?_
      · by_cases hx : xs.getD i Str.empty ∈ metS (xs.take i)
        · rw [if_pos hx, Bool.eq_iff_iff]
          simp only [Bool.or_eq_true, decide_eq_true_eq]
          exact ⟨.inl, fun z => z.elim id fun e => by rw [e]; exact hx⟩
        · rw [if_neg hx, Bool.eq_iff_iff]
          simp only [Bool.or_eq_true, decide_eq_true_eq, List.mem_append, List.mem_singleton]
      · by_cases hx : xs.getD i Str.empty ∈ metS (xs.take i)
        · rw [if_pos hx, if_pos (by simpa using hx)]
        · rw [if_neg hx, if_neg (by simpa using hx), List.length_append, List.length_singleton]
    refine wpAny_pure ⟨plainId_quiet PyProof.Rows.F.plain_set_update_loop _, ih (i + 1) _ (by omega) hlt (W.frame _ s' _ _ hst' (Nat.le_succ _) fun b hb o e => ?_) hSi fun s'' hm'' hS'' => ?_⟩
    · rw [hsb.2 b (fun h : b = S => hSf (by rw [← h]; exact hb))]; exact e
    · refine hR s'' (Moved.trans W.gtrans ((hm.mono hsub).then_heap (Nat.le_succ _) fun b o hb e => ?_) hm'') hS''
      rw [hsb.2 b (fun h : b = S => hb (by rw [h]; exact List.mem_cons_self))]; exact e
end
end RB

end

/-! text RSet2 -/
section
set_option Elab.async false
set_option linter.all false
set_option maxRecDepth 100000
set_option maxHeartbeats 4000000
namespace RB
open PySem PySem.Spec PyProof.Rows L2
section
variable {P : Program} {w : World} {A : Around} {E : Value → Shared → Prop} {s : Shared}
theorem call_set_strs {l : Addr} {items : Array Value} {xs : List Str} {Q : Value → Shared → Prop}
    (hh : A.handled = none) (hl : s.heap.IsList l items) (hi : PyProof.Rows.StrsAre items.toList xs) (hb : items.size + 1 < scanBound)
    (h : ∀ (h' : Heap) (tk : Nat), SetS P w h' s.heap.objs.size (fun k' => decide (k' ∈ metS xs)) (metS xs).length →
      (∀ b o, s.heap.get? b = some o → h'.get? b = some o) → Q (.ref s.heap.objs.size) { s with heap := h', toks := tk }) :
    wpAny (model P w) A (call (.type "set") [.ref l]) Q E s := by
  have hisz : xs.length = items.size := by
    rw [← hi.length, Array.length_toList]
  obtain ⟨c, tl, hmro⟩ := PySem.F.called_set.mro
  have hmade := PySem.F.called_set.made
  have hsub := PySem.F.called_set.sub
  refine wpAny_call (codeAny_of_tree ?_)
  show wpAny _ _ (callAny (.type "set") _) _ _ _
  refine wpAny_pure ⟨Code.quiet_builtin _ (by decide +kernel), codeAny_builtin PySem.F.entry_type_call ?_⟩
  rw [Around.under_plain (weight_type_call_type "set" [.ref l] []) rfl]
  have h1 := PySem.F.called_set.notType
  have h2 := PySem.F.called_set.canCreate
  have hct := PySem.F.typeCall_set_1 (.ref l)
  repeat (any_goals (first | assumption | wp_step))
  refine codeAny_mono (code_set_led1 (.ref l) (E := E) (Q₁ := fun obj s₁ => obj = .ref s.heap.objs.size ∧ s₁ = { s with heap := s.heap.push { cls := .type "set", dict := none, data := .set #[] 0 (.fresh 0 0 (!w.params.followText "set-order")) } }) ⟨rfl, rfl⟩) fun r s₁ hr => ?_
  cases r with
  | error e => exact hr
  | ok fl =>
    cases fl with
    | ret obj =>
      obtain ⟨rfl, rfl⟩ := hr
      have hS : (s.heap.push { cls := .type "set", dict := none, data := .set #[] 0 (.fresh 0 0 (!w.params.followText "set-order")) }).get? s.heap.objs.size = some { cls := .type "set", dict := none, data := .set #[] 0 (.fresh 0 0 (!w.params.followText "set-order")) } := Heap.get?_push_size _ rfl
      have hT : Shared.TypeIs { s with heap := s.heap.push { cls := .type "set", dict := none, data := .set #[] 0 (.fresh 0 0 (!w.params.followText "set-order")) } } (.ref s.heap.objs.size) "set" := ⟨_, hS, rfl⟩
      have hli := PySem.F.called_set.init.lookup
      have hbi := PySem.F.called_set.init.bind (.ref s.heap.objs.size)
      repeat (any_goals (first | assumption | wp_step))
      refine codeAny_mono (codeAny_call_builtin (R := wants (fun r s₂ => r = .none ∧ ∃ h' tk, s₂ = { s with heap := h', toks := tk } ∧ SetS P w h' s.heap.objs.size (fun k' => decide (k' ∈ metS xs)) (metS xs).length ∧
          (∀ b o, s.heap.get? b = some o → h'.get? b = some o)) E) PySem.F.called_set.init.plain PySem.F.entry_set_init (check_set_init_1 hT ?_)) fun r₂ s₂ hr₂ => ?_
      · obtain ⟨ol, hol, hcl, nl, hdl⟩ := hl
        obtain ⟨ocls, odict, odata, oslots⟩ := ol
        simp only at hcl hdl
        subst hcl; subst hdl
        have hol' : (s.heap.push { cls := .type "set", dict := none, data := .set #[] 0 (.fresh 0 0 (!w.params.followText "set-order")) }).get? l = some { cls := .type "list", dict := odict, data := .seq items nl, slots := oslots } := Heap.get?_push_of_some _ hol
        have hsls := PySem.F.sub_list_set
        have hslf := PySem.F.sub_list_frozenset
        have hne : (Value.type "list" == Value.type "dict") = false := by decide
        have hl1 : (s.heap.push { cls := .type "set", dict := none, data := .set #[] 0 (.fresh 0 0 (!w.params.followText "set-order")) }).IsList l items := ⟨_, hol', rfl, nl, rfl⟩
        unfold Builtin.«set.__init__» noKeywords Builtin.Frozenset.updateFrom
        generalize hPI : pyIter = PI
        wp_walk
        subst hPI
        refine wpAny_pyIter_list hl1 ?_
        refine wpAny_bind (wpAny_runValue ?_)
        have hlS : l < s.heap.objs.size := Heap.lt_size hol
        have hh3 : A.in1.in1.in1.handled = none := by simp [hh]
        have hneI : l ≠ (s.heap.push { cls := .type "set", dict := none, data := .set #[] 0 (.fresh 0 0 (!w.params.followText "set-order")) }).objs.size := by
          rw [Heap.size_push]; exact Nat.ne_of_lt (Nat.lt_succ_of_lt hlS)
        have hSf : s.heap.objs.size ∉ [(s.heap.push { cls := .type "set", dict := none, data := .set #[] 0 (.fresh 0 0 (!w.params.followText "set-order")) }).objs.size, l] := by
          rw [Heap.size_push]; simp only [List.mem_cons, List.mem_singleton, List.not_mem_nil, or_false, not_or]
          exact ⟨Nat.ne_of_lt (Nat.lt_succ_self _), Nat.ne_of_gt hlS⟩
        have hval : ∀ (i : Nat) (v : Value), items[i]? = some v → ∃ t, v = .str (xs.getD i Str.empty) t := fun i v hv =>
          SS.strs_at hi i v (by rw [Array.getElem?_toList]; exact hv)
        refine loopSet ((Walks.list hh3 _ l hneI items).toS) s.heap.objs.size
          hSf xs hisz hb hval (items.size - 0) 0 _ (by omega) (Nat.zero_le _)
          ⟨⟨_, Heap.get?_push_size _ rfl, rfl, rfl⟩, (hl1.push _)⟩ ?hS0 ?hR
        case hS0 =>
          have hget : ((s.heap.push { cls := .type "set", dict := none, data := .set #[] 0 (.fresh 0 0 (!w.params.followText "set-order")) }).push { cls := .type "list_iterator", data := .fields #[.ref l, .int 0 0] }).get? s.heap.objs.size
              = some { cls := .type "set", dict := none, data := .set #[] 0 (.fresh 0 0 (!w.params.followText "set-order")) } := Heap.get?_push_of_some _ hS
          exact (setS_fresh hget).congr (fun _ => by rw [List.take_zero]; rfl) (by rw [List.take_zero]; rfl)
        case hR =>
          intro s' hm hS'
          obtain ⟨h', g', d', tk', os'⟩ := s'
          have eg : g' = s.gens := hm.gens
          have ed : d' = s.drawn := hm.drawn
          have eo : os' = s.os := hm.os
          subst eg; subst ed; subst eo
          show wpAny _ _ _ _ _ _
          refine wpAny_pure ?_
          show wpAny _ _ (ret Value.none) _ _ _
          refine wpAny_pure ⟨rfl, h', tk', rfl, hS', fun b o e => ?_⟩
          have hb := Heap.lt_size e
          have hb1 : b ≠ s.heap.objs.size := Nat.ne_of_lt hb
          have hb2 : b ≠ (s.heap.push { cls := .type "set", dict := none, data := .set #[] 0 (.fresh 0 0 (!w.params.followText "set-order")) }).objs.size := by
            rw [Heap.size_push]; exact Nat.ne_of_lt (Nat.lt_succ_of_lt hb)
          exact hm.heap b o (by simp only [List.mem_cons, List.mem_singleton, List.not_mem_nil, or_false, not_or]; exact ⟨hb1, hb2⟩) (Heap.get?_push_of_some _ (Heap.get?_push_of_some _ e))
      · cases r₂ with
        | error e => exact hr₂
        | ok fl₂ =>
          cases fl₂ with
          | ret r =>
            obtain ⟨rfl, h', tk, rfl, hS', hk'⟩ := hr₂
            repeat (any_goals (first | assumption | wp_step))
            exact h _ _ hS' hk'
          | _ => exact hr₂.elim
    | _ => exact hr.elim
end
/-! ### sorted -/
def leS (x y : Str) : Bool := decide (x.cps.toList ≤ y.cps.toList)
def sortS (xs : List Str) : List Str := xs.mergeSort leS
theorem leS_trans (a b c : Str) (h1 : leS a b = true) (h2 : leS b c = true) : leS a c = true := by
  unfold leS at *
  rw [decide_eq_true_eq] at *
  exact List.le_trans h1 h2
theorem leS_total (a b : Str) : (leS a b || leS b a) = true := by
  unfold leS
  rw [Bool.or_eq_true, decide_eq_true_eq, decide_eq_true_eq]
  exact List.le_total _ _
theorem leS_anti (a b : Str) (h1 : leS a b = true) (h2 : leS b a = true) : a = b := by
  unfold leS at *
  rw [decide_eq_true_eq] at *
  have e := List.le_antisymm h1 h2
  cases a; cases b
  simp only [Str.mk.injEq]
  exact Array.toList_inj.mp e
theorem sortS_pw (xs : List Str) : (sortS xs).Pairwise (fun a b => leS a b = true) := List.pairwise_mergeSort leS_trans leS_total xs
theorem sortS_perm (xs : List Str) : (sortS xs).Perm xs := List.mergeSort_perm xs leS
theorem sortS_eq {xs ys : List Str} (h : xs.Perm ys) : sortS xs = sortS ys :=
  List.Perm.eq_of_pairwise (le := fun a b => leS a b = true) (fun a b _ _ h1 h2 => leS_anti a b h1 h2) (sortS_pw xs) (sortS_pw ys) ((sortS_perm xs).trans (h.trans (sortS_perm ys).symm))
theorem dataLe_leS : PySem.W.dataLe false PyData.str = leS := by
  funext a b
  exact congrFun (congrFun (PySem.W.dataLe_str (β := Str) id) a) b
theorem metS_nodup : ∀ (n : Nat) (xs : List Str), xs.length = n → (metS xs).Nodup
  | 0, xs, h => by rw [List.length_eq_zero_iff.mp h]; exact List.nodup_nil
  | n + 1, xs, h => by
    have hx : xs ≠ [] := fun z => by rw [z] at h; cases h
    have e := List.dropLast_concat_getLast hx
    rw [← e, metS_snoc]
    have ih := metS_nodup n xs.dropLast (by rw [List.length_dropLast, h]; rfl)
    split
    · exact ih
    · rename_i hn
      refine List.nodup_append.mpr ⟨ih, List.nodup_cons.mpr ⟨by simp, List.nodup_nil⟩, fun a ha b hb e => ?_⟩
      rw [List.mem_singleton] at hb
      subst hb; subst e
      exact hn ha
section
variable {P : Program} {w : World} {A : Around} {E : Value → Shared → Prop} {s : Shared} {a : Addr} {S : Str → Bool} {n : Nat}
theorem strs_each {h : Heap} : ∀ {vs : List Value} {xs : List Str}, StrsAre vs xs → PySem.W.EachIs (fun v b => ∃ as, Reads h v (PyData.str b) as) vs xs
  | _, _, .nil => .nil
  | _, _, .cons x t r => .cons ⟨_, .str _ _⟩ (strs_each r)
theorem each_strs : ∀ {vs : List Value} {xs : List Str}, PySem.W.EachIs (fun v b => ∃ t, v = Value.str b t) vs xs → StrsAre vs xs
  | _, _, .nil => .nil
  | _, _, .cons ⟨t, h⟩ r => by subst h; exact .cons _ t (each_strs r)
theorem strs_each' : ∀ {vs : List Value} {xs : List Str}, StrsAre vs xs → PySem.W.EachIs (fun v b => ∃ t, v = Value.str b t) vs xs
  | _, _, .nil => .nil
  | _, _, .cons x t r => .cons ⟨t, rfl⟩ (strs_each' r)
theorem strs_of_good (h : Heap) : ∀ (vs : List Value), (∀ v ∈ vs, ∃ k t, v = Value.str k t) → StrsAre vs (vs.map fun v => keyS (0, v))
  | [], _ => .nil
  | v :: vs, g => by
    obtain ⟨k, t, e⟩ := g v List.mem_cons_self
    subst e
    exact .cons k t (strs_of_good h vs fun u hu => g u (List.mem_cons_of_mem _ hu))
theorem sorted_setS {Q : Value → Shared → Prop} {xs : List Str} (R : SetS P w s.heap a (fun k => decide (k ∈ metS xs)) (metS xs).length) (hh : A.handled = none) (hu : A.units + 8 < cLine)
    (hQ : ∀ s' p (out : List Value) (c : Nat), (∀ b o, s.heap.get? b = some o → s'.heap.get? b = some o) → s'.gens = s.gens → s'.os = s.os → s.heap.objs.size ≤ p →
      s'.heap.get? p = some (seqObj "list" out.toArray c) → StrsAre out (sortS (metS xs)) → Q (.ref p) s') :
    wpAny (model P w) A (call (.builtin "sorted") [.ref a]) Q E s := by
  obtain ⟨o, es, ep, t, ho, hex, hd, g, nd, hm, hb, hf, hn, hr, hl⟩ := R
  refine Calls.call_function_entry kind_sorted plain_sorted entry_sorted (args_sorted1 _) ?_
  unfold Builtin.«sorted»
  refine wpAny_bind (m := checkCount "sorted" 1 1 _) (wpAny_pure ?_)
  refine wpAny_bind (collect_set (A := A.in1) hh ⟨o, ho, hex.1, hd⟩ hf hb hr hl fun s1 vs k1 hz g1 o1 pm => ?_)
  have gv : ∀ v ∈ vs, ∃ k t, v = Value.str k t := fun v hv => by
    obtain ⟨e, he, q⟩ := List.mem_map.mp (pm.mem_iff.mp hv)
    obtain ⟨k, t, h1, _⟩ := g e he
    exact ⟨k, t, by rw [← q]; exact h1⟩
  have sv := strs_of_good s1.heap vs gv
  have pk : (vs.map fun v => keyS (0, v)).Perm (metS xs) := by
    have p1 := pm.map (fun v => keyS (0, v))
    rw [List.map_map] at p1
    have e1 : (es.toList.map ((fun v => keyS (0, v)) ∘ fun e => e.2)) = es.toList.map keyS := List.map_congr_left fun e _ => rfl
    rw [e1] at p1
    refine p1.trans ((List.perm_ext_iff_of_nodup nd (metS_nodup _ xs rfl)).mpr fun k => ?_)
    rw [← hm k]
    exact decide_eq_true_iff
  have hlen : vs.length ≤ sizeLine := by
    have q1 := pm.length_eq
    rw [List.length_map] at q1
    have q2 : es.toList.length = es.size := Array.length_toList
    rw [sizeLine_eq, q1, q2]
    unfold scanBound at hb
    omega
  refine wpAny_bind (wpAny_newList ?_ hlen)
  have hoL : (s1.heap.push (seqObj "list" vs.toArray 0)).get? s1.heap.objs.size = some (seqObj "list" vs.toArray 0) := Heap.get?_push_size _ rfl
  refine wpAny_bind (wpAny_holding (PySem.W.list_sort_data (s := { s1 with heap := s1.heap.push (seqObj "list" vs.toArray 0) }) (enc := PyData.str) hoL (strs_each' sv)
    ((strs_each' sv).mono fun v b ⟨t, e⟩ => by subst e; exact ⟨_, .str _ _, by simp⟩) (PySem.W.AllAlike.of fun _ _ => by simp [PySem.W.alike]) (PySem.W.Sortable.others fun b => ⟨by simp, by simp⟩) (by rw [← sv.length]; exact hlen)
    (fun b _ => ?_) fun out ho' eo => ?_))
  · show A.in1.units + 1 + 0 < cLine
    have : A.in1.units = A.units + 1 := rfl
    omega
  obtain ⟨c, hc⟩ := sortedHeap_at (vs := vs) (out := out.toArray) hoL
  rw [dataLe_leS] at eo
  have eo' : StrsAre out (sortS (metS xs)) := by
    rw [← sortS_eq pk]
    exact each_strs eo
  refine wpAny_pure ⟨_, rfl, hQ _ s1.heap.objs.size out c (fun b u e => ?_) g1 o1 hz hc eo'⟩
  have q := k1 b u e
  have hlt := Heap.lt_size q
  show (sortedHeap (s1.heap.push (seqObj "list" vs.toArray 0)) s1.heap.objs.size vs out.toArray).get? b = some u
  rw [sortedHeap_old (Nat.ne_of_lt hlt) (by rw [size_push']; exact Nat.lt_succ_of_lt hlt)]
  exact Heap.get?_push_of_some _ q
end
end RB

end

/-! text RMore2 -/
section
set_option Elab.async false
set_option linter.all false
set_option maxRecDepth 100000
set_option maxHeartbeats 4000000
/-! RMore2: sorted, join, a dict's display, sorted(set(..)), x[::-1], a, b, c = x, y, z. -/
namespace RB
open PySem PySem.Spec PyProof.Rows L2

/-! ### texts only -/
def strsD : List D → Option (List Str)
  | [] => some []
  | .str x :: r => (strsD r).map (x :: ·)
  | _ :: _ => none
theorem strsD_ok {K : PySem.W.Frag} {G : Hp} : ∀ {ds : List D} {bs : List Str} {vs : List V}, strsD ds = some bs → Reps K G vs ds → vs = bs.map V.str
  | [], _, _, e, r => by cases e; cases r; rfl
  | d :: ds, bs, vs, e, r => by
    cases r with
    | cons h t =>
      cases h with
      | str b =>
        have e : (strsD ds).map (b :: ·) = some bs := e
        cases q : strsD ds with
        | none => rw [q] at e; cases e
        | some cs => rw [q] at e; cases e; rw [strsD_ok q t]; rfl
      | _ => cases e
theorem reps_strs (K : PySem.W.Frag) (G : Hp) : ∀ ns : List Str, Reps K G (ns.map V.str) (ns.map PyData.str)
  | [] => .nil
  | n :: ns => .cons (.str n) (reps_strs K G ns)

/-! ### sep.join(xs) -/
def joinM (mo me : EM Rv) : EM Rv := fun ρ T S => (mo ρ T S).bind fun r T S => match r with
  | .v (.str a) => (me ρ T S).bind fun e T S => (match look e T S with
    | some (.list xs) => (match strsD xs with
      | some ys => if (ys.map (·.length)).sum + ys.length * a.length ≤ 16777216 then .ok (.v (.str (Txt.join a ys))) T S else .bad
      | none => .bad)
    | some (.tuple xs) => (match strsD xs with
      | some ys => if (ys.map (·.length)).sum + ys.length * a.length ≤ 16777216 then .ok (.v (.str (Txt.join a ys))) T S else .bad
      | none => .bad)
    | _ => .bad)
  | _ => .bad
section
variable {ct : Str → Option Addr} {X : Cx} {W : WX} {o e : Expr} {mo me : EM Rv}
theorem se_join {apos pos : Pos} (ho : SE ct X W o mo) (he : SE ct X W e me) (hs : starEach [e] X.env = [(false, eval e X.env)]) (hbase : attributeBase o "join" X.env (eval o X.env) = eval o X.env) (hline : (apos.endLine == pos.line) = true) :
    SE ct X W (.Call (.Attribute o "join" apos) [e] [] pos) (joinM mo me) := by
  obtain ⟨t, p, q⟩ := ho
  obtain ⟨t2, p2, q2⟩ := he
  refine ⟨_, pe_join p p2 hs hbase hline, fun ρ T S G H L M σ Q hl f sl h => ?_⟩
  refine q ρ T S G H L M σ _ hl f sl (Sat.bind h fun r T1 S1 G1 H1 L1 M1 x e1 f1 r1 h1 => ?_)
  split at h1
  · rename_i a
    cases (show Rep X.K G1 x (.str a) from r1)
    refine ⟨⟨a, rfl⟩, q2 ρ T1 S1 G1 H1 L1 M1 σ _ hl f1 (sl.mono e1) (Sat.bind h1 fun r T2 S2 G2 H2 L2 M2 y e2 f2 r2 h2 => ?_)⟩
    split at h2
    · rename_i xs el
      split at h2
      · rename_i ys es
        split at h2
        · rename_i hz
          obtain ⟨b, vs, rfl, hs, hr⟩ := look_list f2 r2 el
          have ev := strsD_ok es hr
          subst ev
          exact ⟨a, b, ys, rfl, rfl, .inl hs, hz, sat_d f2 h2 (.str _)⟩
        · exact (show False from h2).elim
      · exact (show False from h2).elim
    · rename_i xs el
      split at h2
      · rename_i ys es
        split at h2
        · rename_i hz
          obtain ⟨_, b, vs, rfl, _, hs, hr⟩ := look_tuple f2 r2 el
          have ev := strsD_ok es hr
          subst ev
          exact ⟨a, b, ys, rfl, rfl, .inr hs, hz, sat_d f2 h2 (.str _)⟩
        · exact (show False from h2).elim
      · exact (show False from h2).elim
    · exact (show False from h2).elim
  · exact (show False from h1).elim
end

/-! ### sorted(set(xs)), xs a list of texts -/
def sortSetM (m : EM Rv) : EM Rv := fun ρ T S => (m ρ T S).bind fun r T S => match look r T S with
  | some (.list xs) => (match strsD xs with
    | some ys => if ys.length ≤ 4000 then .ok (.v (.list ((sortS (metS ys)).map .str))) T S else .bad
    | none => .bad)
  | _ => .bad
def tSortSet (K : PySem.W.Frag) (ta : TE) : TE := fun σ H Q => ta σ H fun x H1 => ∃ l, ∃ xs : List Str, x = .ref l ∧ SqL K H1 l (xs.map V.str) ∧ xs.length ≤ 4000 ∧ ∀ p, H1 p = none → Q (.ref p) (upd H1 p (.lst ((sortS (metS xs)).map V.str)))
theorem vals_strs : ∀ {us : List Value} {xs : List Str}, StrsAre us xs → Vals (xs.map V.str) us
  | _, _, .nil => .nil
  | _, _, .cons x t r => .cons ⟨t, rfl⟩ (vals_strs r)
theorem boot_sorted : bootBuiltins "sorted" = some (.builtin "sorted") := by decide +kernel
section
variable {ct : Str → Option Addr} {X : Cx} {W : WX} {a : Expr} {ma : EM Rv} {p p2 q pos : Pos}
theorem pe_sortset {ta : TE} (hc : X.calm = true) (hu : X.A.units + 64 < cLine) (hg : Gl X "sorted") (hm : X.mg "sorted" = none) (hg2 : Gl X "set") (hm2 : X.mg "set" = none) (ha : PE X a ta)
    (na : starEach [a] X.env = (false, eval a X.env) :: starEach [] X.env) : PE X (.Call (.Name "sorted" p) [.Call (.Name "set" p2) [a] [] q] [] pos) (tSortSet X.K ta) := by
  refine ⟨fun pins s σ H Q I h => ?_⟩
  refine Call_ (ld_blt I hg hm boot_sorted ?_)
  refine PyProof.Rows.callWith_builtin1 (PyProof.Rows.args_cons ?_ rfl) rfl rfl
  refine Call_ (ld_blt I hg2 hm2 boot_set ?_)
  refine PyProof.Rows.callWith_type1 (PyProof.Rows.args_cons (thn (ha.run pins s σ H _ I h) fun v s1 ⟨x, H1, I1, r1, q1⟩ => PyProof.Rows.args_nil ?_) na) na rfl
  obtain ⟨l, xs, rfl, hq, hz, q1⟩ := q1
  cases r1
  obtain ⟨its, r, pl, _⟩ := I1.list hq
  have hlen : its.toArray.size = xs.length := by rw [List.size_toArray, ← r.length, List.length_map]
  refine call_set_strs (I1.ok.hd hc) pl.isList (xs := xs) (by simpa using strsAre_of r) (by rw [hlen]; unfold scanBound; omega) fun h' tk hS hk => ?_
  refine PyProof.Rows.args_nil ?_
  have I2 : Inv X pins σ H1 { s1 with heap := h', toks := tk } := I1.kept hk
  refine sorted_setS (s := { s1 with heap := h', toks := tk }) hS (I1.ok.hd hc) (by omega) fun s' p out c k g o hp hget hstr => ?_
  have hle := metS_le _ xs rfl
  have hl2 : ((sortS (metS xs)).map V.str).length ≤ sizeLine := by
    rw [List.length_map, (sortS_perm _).length_eq, sizeLine_eq]
    omega
  have hn : H1 p = none := I2.hok.fresh hp
  have J : Inv X pins σ (upd H1 p (.lst ((sortS (metS xs)).map V.str))) { ({ s1 with heap := h', toks := tk } : Shared) with heap := s'.heap, gens := s'.gens, drawn := s'.drawn, toks := s'.toks } :=
    I2.call (ch := []) (Un.laid k hp hn) (I2.hok.laid k hp ⟨hl2, out, c, vals_strs hstr, hget⟩) (by rw [g]; exact I2.bare) (fun _ z => nomatch z)
  have e : s' = { ({ s1 with heap := h', toks := tk } : Shared) with heap := s'.heap, gens := s'.gens, drawn := s'.drawn, toks := s'.toks } := by
    cases s'
    cases s1
    cases o
    rfl
  rw [e]
  exact ⟨.ref p, _, J, rfl, q1 p hn⟩
theorem se_sortset (hc : X.calm = true) (hu : X.A.units + 64 < cLine) (hg : Gl X "sorted") (hm : X.mg "sorted" = none) (hg2 : Gl X "set") (hm2 : X.mg "set" = none) (ha : SE ct X W a ma)
    (na : starEach [a] X.env = (false, eval a X.env) :: starEach [] X.env) : SE ct X W (.Call (.Name "sorted" p) [.Call (.Name "set" p2) [a] [] q] [] pos) (sortSetM ma) := by
  obtain ⟨t, pa, qa⟩ := ha
  refine ⟨_, pe_sortset hc hu hg hm hg2 hm2 pa na, fun ρ T S G H L M σ Q hl f sl h => ?_⟩
  refine qa ρ T S G H L M σ _ hl f sl (Sat.bind h fun r T1 S1 G1 H1 L1 M1 x e1 f1 r1 h1 => ?_)
  split at h1
  · rename_i xs el
    split at h1
    · rename_i ys es
      split at h1
      · rename_i hz
        obtain ⟨b, vs, rfl, hs, hr⟩ := look_list f1 r1 el
        have ev := strsD_ok es hr
        subst ev
        exact ⟨b, ys, rfl, hs, hz, fun p hp => sat_lst f1 h1 (reps_strs _ _ _) hp⟩
      · exact (show False from h1).elim
    · exact (show False from h1).elim
  · exact (show False from h1).elim
end

/-! ### sorted(xs), xs a list -/
def leD (x y : D) : Bool := !PySem.W.dataLt y x
def allAlike (ds : List D) : Bool := ds.all fun d => ds.all fun e => PySem.W.alike d e
def isTupC : D → Bool
  | .tuple (_ :: _) => true
  | _ => false
def notTup : D → Bool
  | .tuple _ => false
  | .none => false
  | _ => true
def sortOk (ds : List D) : Bool := allAlike ds && (ds.all isTupC || ds.all notTup) && ds.all (fun d => decide (d.depth ≤ 32)) && decide (ds.length ≤ 16777216)
def sortD (ds : List D) : List D := ds.mergeSort leD
def c_sorted (rs : List Rv) (T S : Sto) : Res Rv := match rs with
  | [r] => (match look r T S with
    | some (.list xs) => if sortOk xs = true then .ok (.v (.list (sortD xs))) T S else .bad
    | _ => .bad)
  | _ => .bad
theorem allAlike_ok {ds : List D} (h : allAlike ds = true) : PySem.W.AllAlike ds := fun d hd e he => by
  unfold allAlike at h
  exact List.all_eq_true.mp (List.all_eq_true.mp h d hd) e he
theorem sortable_ok {ds : List D} (h : (ds.all isTupC || ds.all notTup) = true) : PySem.W.Sortable ds := by
  rcases Bool.or_eq_true .. ▸ h with h | h
  · refine .inl fun d hd => ?_
    have q := List.all_eq_true.mp h d hd
    unfold isTupC at q
    split at q
    · exact ⟨_, _, rfl⟩
    · cases q
  · refine .inr fun d hd => ?_
    have q := List.all_eq_true.mp h d hd
    unfold notTup at q
    split at q
    · cases q
    · cases q
    · rename_i h1 h2
      exact ⟨h2, h1⟩
/-- each value with its datum -/
theorem dp_pairs {K : PySem.W.Frag} {G : Hp} : ∀ {vs : List V} {ds : List D}, Reps K G vs ds → ∃ ps : List (V × D), ps.map (·.1) = vs ∧ ps.map (·.2) = ds ∧ ∀ q ∈ ps, Rep K G q.1 q.2
  | _, _, .nil => ⟨[], rfl, rfl, fun _ h => by cases h⟩
  | _, _, .cons (x := x) (d := d) h r => by
    obtain ⟨ps, e1, e2, h3⟩ := dp_pairs r
    refine ⟨(x, d) :: ps, by rw [List.map_cons, e1], by rw [List.map_cons, e2], fun q hq => ?_⟩
    rcases List.mem_cons.mp hq with z | z
    · subst z; exact h
    · exact h3 q z
theorem reps_of_pairs {K : PySem.W.Frag} {G : Hp} : ∀ {ps : List (V × D)}, (∀ q ∈ ps, Rep K G q.1 q.2) → Reps K G (ps.map (·.1)) (ps.map (·.2))
  | [], _ => .nil
  | p :: ps, h => .cons (h p List.mem_cons_self) (reps_of_pairs fun q hq => h q (List.mem_cons_of_mem _ hq))
theorem each_pairs : ∀ {ps : List (V × D)} {us : List Value}, Vals (ps.map (·.1)) us → PySem.W.EachIs (fun u q => RelV q.1 u) us ps
  | [], _, .nil => .nil
  | p :: ps, _, .cons h t => .cons h (each_pairs t)
theorem pairs_each : ∀ {ps : List (V × D)} {us : List Value}, PySem.W.EachIs (fun u q => RelV q.1 u) us ps → Vals (ps.map (·.1)) us
  | _, _, .nil => .nil
  | _, _, .cons h t => .cons h (pairs_each t)
def rSortD (K : PySem.W.Frag) : List V → Hp → VK → Prop := fun xs H Q => ∃ (a : Addr) (ps : List (V × D)), xs = [.ref a] ∧ SqL K H a (ps.map (·.1)) ∧ (∀ q ∈ ps, Dp K H q.1 q.2) ∧ sortOk (ps.map (·.2)) = true ∧ ∀ p, H p = none → Q (.ref p) (upd H p (.lst ((ps.mergeSort fun x y => leD x.2 y.2).map (·.1))))
section
variable {ct : Str → Option Addr} {X : Cx} {W : WX}
theorem each_dp {pins : List (Addr × Obj)} {σ : L2.St} {H : Hp} {s : Shared} (I : Inv X pins σ H s) : ∀ {ps : List (V × D)} {us : List Value}, (∀ q ∈ ps, Dp X.K H q.1 q.2) → Vals (ps.map (·.1)) us → PySem.W.EachIs (fun v (b : V × D) => ∃ as, Reads s.heap v b.2 as) us ps
  | [], _, _, .nil => .nil
  | p :: ps, _, h, .cons r t => .cons (Dp.reads I p.2 p.1 _ (h p List.mem_cons_self) r) (each_dp I (fun q hq => h q (List.mem_cons_of_mem _ hq)) t)
theorem cr_sortD (hu : X.A.units + 64 < cLine) : CallR X (.builtin "sorted") (rSortD X.K) := by
  intro pins s σ H xs us Q I r h
  obtain ⟨a, ps, rfl, hs, hd, hok, q⟩ := h
  rw [Vals.ref1 r]
  obtain ⟨its, rv, pl, hz⟩ := I.list hs
  unfold sortOk at hok
  simp only [Bool.and_eq_true] at hok
  obtain ⟨⟨⟨h1, h2⟩, h3⟩, h4⟩ := hok
  have hlen : ps.length ≤ sizeLine := by
    have := of_decide_eq_true h4
    rw [List.length_map] at this
    exact line_le this
  refine PySem.W.sorted_data (enc := fun q : V × D => q.2) (R := fun u q => RelV q.1 u) pl.isList (each_pairs rv) (each_dp I hd rv) (allAlike_ok h1) (sortable_ok h2) hlen (fun b hb => ?_) fun out ho eo => ?_
  · have := of_decide_eq_true (List.all_eq_true.mp h3 b.2 (List.mem_map.mpr ⟨b, hb, rfl⟩))
    omega
  · have ep := pairs_each eo
    obtain ⟨c, hc⟩ := PyProof.Rows.sortedAll_at s.heap its out.toArray
    refine ⟨.ref _, upd H (s.heap.objs.size + 1) (.lst ((ps.mergeSort (PySem.W.dataLe false fun q : V × D => q.2)).map (·.1))), I.laid (t' := s.toks) (fun _ _ => PyProof.Rows.sortedAll_old) (Nat.le_succ _) ⟨?_, out, c, ep, hc⟩, rfl, q _ (I.hok.fresh (Nat.le_succ _))⟩
    rw [List.length_map, List.length_mergeSort]
    exact hlen
theorem sort_pairs (ps : List (V × D)) : (ps.mergeSort fun x y => leD x.2 y.2).map (·.2) = sortD (ps.map (·.2)) := by
  unfold sortD
  exact List.map_mergeSort (r := fun x y : V × D => leD x.2 y.2) (s := leD) (f := fun q : V × D => q.2) (l := ps) (fun _ _ _ _ => rfl)
theorem cs_sorted (hu : X.A.units + 64 < cLine) : CallS ct X W (.builtin "sorted") c_sorted := by
  refine ⟨_, cr_sortD hu, fun xs rs T S G H L M σ Q f rr h => ?_⟩
  unfold c_sorted at h
  split at h
  · obtain ⟨x, rfl, r1⟩ := rs1 rr
    split at h
    · rename_i ds e
      split at h
      · rename_i hok
        obtain ⟨a, vs, rfl, hs, hr⟩ := look_list f r1 e
        obtain ⟨ps, e1, e2, hp⟩ := dp_pairs hr
        subst e1; subst e2
        refine ⟨a, ps, rfl, hs, fun q hq => Rep.dp f.sub (hp q hq), hok, fun p hpn => ?_⟩
        rw [← sort_pairs] at h
        exact sat_lst f h (reps_of_pairs fun q hq => hp q ((List.mergeSort_perm _ _).mem_iff.mp hq)) hpn
      · exact (show False from h).elim
    · exact (show False from h).elim
  · exact (show False from h).elim
end
end RB

end

/-! text RMore3 -/
section
set_option Elab.async false
set_option linter.all false
set_option maxRecDepth 100000
set_option maxHeartbeats 4000000
/-! RMore3: a dict's display, x[::-1] of a tuple, a, b, c = x, y, z, return, truth values as ints. -/
namespace RB
open PySem PySem.Spec PyProof.Rows L2

/-! ### a, b, c = x, y, z -/
def par3S (i j l : Nat) (ms : EM (List Rv)) : SM := fun ρ T S => (ms ρ T S).out ρ fun rs T S => match rs with
  | [a, b, c] => .next (((ρ.set i (some a)).set j (some b)).set l (some c)) T S
  | _ => .bad
section
variable {ct : Str → Option Addr} {X : Cx} {W : WX} {pos : Pos}
theorem ss_par3 {i j l : Nat} {x y z : Str} {a b c : Expr} {ms : EM (List Rv)} {px py pz pt : Pos} {kt k2 pt2} (hc : X.calm = true) (hN : X.N.Nodup) (hi : X.N[i]? = some x) (hj : X.N[j]? = some y) (hl : X.N[l]? = some z) (hij : i ≠ j) (hil : i ≠ l) (hjl : j ≠ l)
    (hx : X.env.scope.names.lookup x = some .local) (hy : X.env.scope.names.lookup y = some .local) (hz : X.env.scope.names.lookup z = some .local) (ha : SA ct X W [a, b, c] ms)
    (hw : swappedStores [.Tuple [.Name x px, .Name y py, .Name z pz] kt pt] (.Tuple [a, b, c] k2 pt2) X.env = pure (some [x, y, z]))
    (hs : swapsWithSole [.Tuple [.Name x px, .Name y py, .Name z pz] kt pt] (.Tuple [a, b, c] k2 pt2) pos.line X.env = pure false) :
    SS ct X W (.Assign [.Tuple [.Name x px, .Name y py, .Name z pz] kt pt] (.Tuple [a, b, c] k2 pt2) pos) (par3S i j l ms) := by
  obtain ⟨t, p, q⟩ := ha
  refine ⟨tPar3 i j l t, ps_par3 hc hN hi hj hl hij hil hjl hx hy hz p hw hs, fun ρ T S G H L M σ E f sl h => ?_⟩
  refine q ρ T S G H L M σ _ sl.1 f sl.2 (SatS.of sl h fun rs T1 S1 G1 H1 L1 M1 xs e1 f1 r1 h1 => ?_)
  split at h1
  · cases r1 with
    | @cons u us _ _ ru rt =>
      cases rt with
      | @cons w ws _ _ rw' rt2 =>
        cases rt2 with
        | @cons v vs _ _ rv rt3 =>
          cases rt3
          exact ⟨u, w, v, rfl, h1 G1 H1 L1 M1 _ (Ext.refl _ _ _ _) f1 ((((sl.mono e1).set ru).set rw').set rv)⟩
  · exact (show False from h1).elim
theorem ss_retN : SS ct X W (.Return none pos) (fun _ T S => .ret (.v .none) T S) :=
  ⟨tRetN, ps_retN, fun ρ T S G H L M σ E f sl h => h G H L M .non (Ext.refl _ _ _ _) f (show Rep X.K G .non .none from .non)⟩
end

/-! ### truth values as ints -/
def b2i (b : Bool) : Int := if b = true then 1 else 0
def rBI (C : Bool → Int → V) : R2 := fun x y H Q => ∃ b j, x = .bl b ∧ y = .int j ∧ Q (C b j) H
section
variable {ct : Str → Option Addr} {X : Cx} {W : WX}
theorem op_addBI : OpR X (binaryOp .Add) (rBI fun b j => .int (b2i b + j)) := by
  intro pins s σ H x y v u Q I rx ry h
  obtain ⟨b, j, rfl, rfl, q⟩ := h
  cases rx
  obtain ⟨t, rfl⟩ := ry
  exact PySem.IntBool.add_bool_int ⟨.int (b2i b + j), H, I.tok _, ⟨_, rfl⟩, q⟩
theorem gives_gt_bool_int (a : Bool) (b : Int) (u : Tok) : Gives (Builtin.«int.__gt__» ⟨[.bool a, .int b u], []⟩) (.val (Value.bool ((fun x1 x2 => decide (x1 > x2)) (if a = true then (1 : Int) else 0) b))) :=
  .of_wp fun M A E s Q h => by obtain ⟨hp, g, d, tk, os⟩ := s; wp_walk; exact ⟨_, rfl, h⟩
theorem op_gtBI : OpR X (compareOp .Gt) (rBI fun b j => .bl (decide (b2i b > j))) := by
  intro pins s σ H x y v u Q I rx ry h
  obtain ⟨b, j, rfl, rfl, q⟩ := h
  cases rx
  obtain ⟨t, rfl⟩ := ry
  show wpAny _ _ (richCompare .Gt (.bool b) (.int j t)) _ _ _
  exact PySem.SeqAt.rc_left_or rfl (typeIs_int s j t) (by decide) PySem.F.sub_int_bool PySem.F.slot_bool_gt
    (call_gives PySem.F.slot_bool_gt rfl PySem.F.entry_int_gt (PySem.F.args_int_gt_2 _ _) (gives_gt_bool_int b j t) ⟨nofun, ⟨.bl _, H, I, rfl, q⟩⟩) (.inl rfl)
def o_addB (a b : Rv) (T S : Sto) : Res Rv := match a, b with
  | .v (.bool p), .v (.int j) => .ok (.v (.int (b2i p + j))) T S
  | a, b => o_add a b T S
theorem ops_addB : OpS ct X W (binaryOp .Add) o_addB := by
  obtain ⟨r, pr, qr⟩ := ops_add (ct := ct) (X := X) (W := W)
  refine ⟨_, op_addBI.or pr, fun x y a b T S G H L M σ Q f ra rb h => ?_⟩
  unfold o_addB at h
  split at h
  · rename_i p j
    cases (show Rep X.K G x (.bool p) from ra)
    cases (show Rep X.K G y (.int j) from rb)
    exact .inl ⟨p, j, rfl, rfl, sat_d f h (.int _)⟩
  · exact .inr (qr x y _ _ T S G H L M σ Q f ra rb h)
def o_gtB (a b : Rv) (T S : Sto) : Res Rv := match a, b with
  | .v (.bool p), .v (.int j) => .ok (.v (.bool (decide (b2i p > j)))) T S
  | a, b => o_gt a b T S
theorem ops_gtB (hu : X.A.units + 64 < cLine) : OpS ct X W (compareOp .Gt) o_gtB := by
  obtain ⟨r, pr, qr⟩ := ops_gt (ct := ct) (X := X) (W := W) hu
  refine ⟨_, op_gtBI.or pr, fun x y a b T S G H L M σ Q f ra rb h => ?_⟩
  unfold o_gtB at h
  split at h
  · rename_i p j
    cases (show Rep X.K G x (.bool p) from ra)
    cases (show Rep X.K G y (.int j) from rb)
    exact .inl ⟨p, j, rfl, rfl, sat_d f h (.bl _)⟩
  · exact .inr (qr x y _ _ T S G H L M σ Q f ra rb h)
end

/-- a + b, two lists: a list of one's own -/
def o_addO (a b : Rv) (T S : Sto) : Res Rv := match lstOf a T S, lstOf b T S with
  | some xs, some ys => if xs.length + ys.length ≤ 16777216 then .ok (.own T.length) (T ++ [.lst (xs ++ ys)]) S else .bad
  | _, _ => .bad
theorem ops_addO {ct : Str → Option Addr} {X : Cx} {W : WX} : OpS ct X W (binaryOp .Add) o_addO := by
  refine ⟨_, op_cat, fun x y a b T S G H L M σ Q f ra rb h => ?_⟩
  unfold o_addO at h
  split at h
  · rename_i xs ys e1 e2
    split at h
    · rename_i hz
      obtain ⟨p, vs, rfl, h1, r1⟩ := lstOf_ok f ra e1
      obtain ⟨q, ws, rfl, h2, r2⟩ := lstOf_ok f rb e2
      exact ⟨p, q, vs, ws, rfl, rfl, h1, h2, by rw [r1.length, r2.length]; exact line_le hz, fun p hp => sat_own f h (r1.append r2) hp⟩
    · exact (show False from h).elim
  · exact (show False from h).elim
/-! ### x[::-1] -/
section
variable {prog : Program} {w : World} {A : Around} {E : Value → Shared → Prop} {s : Shared}
theorem pick_rev (xs : Array Value) : ((List.range xs.size).filterMap fun (m : Nat) => xs[(((xs.size : Int) - 1) + (m : Int) * (-1)).toNat]?).toArray = xs.toList.reverse.toArray := by
  congr 1
  apply List.ext_getElem?
  intro i
  have e : (List.range xs.size).filterMap (fun (m : Nat) => xs[(((xs.size : Int) - 1) + (m : Int) * (-1)).toNat]?) = (List.range xs.size).map fun (m : Nat) => xs[xs.size - 1 - m]?.getD .none := by
    have go : ∀ l : List Nat, (∀ m ∈ l, m < xs.size) → l.filterMap (fun (m : Nat) => xs[(((xs.size : Int) - 1) + (m : Int) * (-1)).toNat]?) = l.map fun (m : Nat) => xs[xs.size - 1 - m]?.getD .none := by
      intro l
      induction l with
      | nil => intro _; rfl
      | cons m l ih =>
        intro hm
        have hm1 := hm m List.mem_cons_self
        have e1 : (((xs.size : Int) - 1) + (m : Int) * (-1)).toNat = xs.size - 1 - m := by omega
        have hl : xs.size - 1 - m < xs.size := by omega
        rw [List.filterMap_cons, e1, Array.getElem?_eq_getElem hl, List.map_cons, ih fun k hk => hm k (List.mem_cons_of_mem _ hk), Array.getElem?_eq_getElem hl]
        rfl
    exact go _ fun m hm => List.mem_range.mp hm
  rw [e, List.getElem?_map]
  by_cases hi : i < xs.size
  · have hl : xs.size - 1 - i < xs.size := by omega
    rw [List.getElem?_range hi, List.getElem?_reverse (by rw [Array.length_toList]; exact hi), Array.length_toList, Array.getElem?_toList, Option.map_some, Array.getElem?_eq_getElem hl]
    rfl
  · rw [List.getElem?_eq_none (by rw [List.length_range]; omega), List.getElem?_eq_none (by rw [List.length_reverse, Array.length_toList]; omega)]
    rfl
theorem sliceApplied_rev {sl : Addr} {vl vu vs : Value} {n : Nat} {Q : Int × Int × Nat → Shared → Prop} (hs : s.heap.IsSliceOf sl vl vu vs) (pl : IsPart vl none) (pu : IsPart vu none) (ps : IsPart vs (some (-1)))
    (h : Q ((n : Int) - 1, -1, n) s) : wpAny (model prog w) A (Builtin.Slice.sliceApplied (.ref sl) (pure (n : Int))) Q E s := by
  obtain ⟨os, hos, hcs, hds⟩ := id hs
  unfold Builtin.Slice.sliceApplied Builtin.Slice.sliceFields
  refine wpAny_bind (wpAny_bind (wpAny_field hos hds (x := vl) rfl (wpAny_bind (wpAny_field hos hds (x := vu) rfl (wpAny_bind (wpAny_field hos hds (x := vs) rfl (wpAny_pure ?_)))))))
  refine wpAny_bind (HT.slicePart_ ps ?_)
  show wpAny _ _ (if ((-1 : Int) == 0) = true then _ else _) _ _ s
  rw [if_neg (by decide)]
  refine wpAny_bind (HT.slicePart_ pl (wpAny_bind (HT.slicePart_ pu (wpAny_bind (wpAny_pure ?_)))))
  have e : Builtin.Slice.sliceAdjust none none (-1) (n : Int) = ((n : Int) - 1, -1) := by
    unfold Builtin.Slice.sliceAdjust
    simp
  have e2 : Builtin.Slice.slicePlaces ((n : Int) - 1) (-1) (-1) = n := by
    unfold Builtin.Slice.slicePlaces
    simp
    split <;> omega
  show wpAny _ _ (match Builtin.Slice.sliceAdjust none none (-1) (n : Int) with | (lo, hi) => pure (lo, (-1 : Int), Builtin.Slice.slicePlaces lo hi (-1))) _ _ s
  rw [e]
  show wpAny _ _ (pure ((n : Int) - 1, (-1 : Int), Builtin.Slice.slicePlaces ((n : Int) - 1) (-1) (-1))) _ _ s
  rw [e2]
  exact wpAny_pure h
theorem getItem_tuple_rev {t sl : Addr} {items : Array Value} {vl vu vs : Value} {Q : Value → Shared → Prop} (ht : IsTup s.heap t items) (hs : s.heap.IsSliceOf sl vl vu vs) (pl : IsPart vl none) (pu : IsPart vu none) (ps : IsPart vs (some (-1)))
    (h : Q (.ref s.heap.objs.size) { s with heap := s.heap.push { cls := .type "tuple", data := .seq items.toList.reverse.toArray } }) (hsz : items.size ≤ sizeLine) : wpAny (model prog w) A (getItem (.ref t) (.ref sl)) Q E s := by
  have htake : sizeOk (.seq items.toList.reverse.toArray) := by
    show items.toList.reverse.toArray.size ≤ sizeLine
    rw [List.size_toArray, List.length_reverse, Array.length_toList]
    exact hsz
  obtain ⟨os, hos, hcs, hds⟩ := id hs
  have hTs : s.TypeIs (.ref sl) "slice" := ⟨os, hos, hcs⟩
  unfold getItem
  try with_reducible refine wpAny_holding ?_
  first | refine wpAny_bind (wpAny_pure ?_) | skip
  refine wpAny_bind (wpAny_sequenceKey ht.typeIs (by decide) ?_)
  refine wpAny_bind (wpAny_callSpecial?_slot (name := Str.ofString "__getitem__") ht.typeIs PyProof.Rows.slot_tuple_getitem
    (wpAny_call_entry PyProof.Rows.slot_tuple_getitem ht.typeIs entry_tuple_getitem ?_ (args_tuple_getitem _ _)))
  show wpAny _ _ (Builtin.Tuple.tupleItemsOf (.ref t) >>= _) _ _ s
  refine wpAny_bind (tupleItemsOf_ ht ?_)
  refine wpAny_bind (wpAny_typeOf hTs ?_)
  rw [if_pos (by decide)]
  refine wpAny_bind (sliceApplied_rev hs pl pu ps ?_)
  show wpAny _ _ (if (((items.size : Int) - 1) == 0 && (-1 : Int) == 1 && items.size == items.size) = true then _ else _) _ _ s
  rw [if_neg (by simp), pick_rev]
  first
    | exact wpAny_bind (m := Builtin.Tuple.tupleExact _) (wpAny_newObj_type (wpAny_pure ⟨_, rfl, wpAny_pure h⟩) htake)
    | exact wpAny_bind (m := Builtin.Tuple.tupleExact _) (wpAny_newObj_type (wpAny_bind (wpAny_pure (wpAny_pure ⟨_, rfl, wpAny_pure h⟩))) htake)
    | exact wpAny_bind (wpAny_bind (m := Builtin.Tuple.tupleExact _) (wpAny_newObj_type (wpAny_pure (wpAny_pure ⟨_, rfl, wpAny_pure h⟩)) htake))
    | exact wpAny_bind (wpAny_bind (m := Builtin.Tuple.tupleExact _) (wpAny_newObj_type (wpAny_pure ⟨_, rfl, wpAny_pure h⟩) htake))
end
def tRevT (K : PySem.W.Frag) (te : TE) : TE := fun σ H Q => te σ H fun x H1 => ∃ a xs, x = .ref a ∧ SqT K H1 a xs ∧ ∀ p, H1 p = none → Q (.ref p) (upd H1 p (.tup xs.reverse))
section
variable {ct : Str → Option Addr} {X : Cx} {W : WX} {e : Expr}
theorem pe_revT {te : TE} {k : Nat} {p1 p2 p3 pos : Pos} (he : PE X e te) : PE X (.Subscript e (.Slice none none (some (.UnaryOp .USub (.Constant (.int 1) k p1) p2)) p3) pos) (tRevT X.K te) := by
  refine ⟨fun pins s σ H Q I h => ?_⟩
  refine Subscript_ (thn (he.run pins s σ H _ I h) fun v s1 ⟨x, H1, I1, r1, q1⟩ => ?_)
  obtain ⟨a, xs, ex, hx, q⟩ := q1
  subst ex
  cases r1
  have hst : PO X (some (.UnaryOp .USub (.Constant (.int 1) k p1) p2)) (tPart (tUn (rU fun i => .int (-i)) (tC (.int 1)))) := po_some (pe_un un_neg pe_int)
  refine wpAny_Slice (thn (po_none.run pins s1 σ H1 (fun o H2 => o = none ∧ H2 = H1) I1 ⟨rfl, rfl⟩) fun vl s2 ⟨l, H2, I2, pl, el, e2⟩ => ?_)
  subst el e2
  refine thn (po_none.run pins s2 σ H2 (fun o H3 => o = none ∧ H3 = H2) I2 ⟨rfl, rfl⟩) fun vu s3 ⟨u, H3, I3, pu, eu, e3⟩ => ?_
  subst eu e3
  refine thn (hst.run pins s3 σ H3 (fun o H4 => o = some (-1) ∧ H4 = H3) I3 ⟨1, rfl, -1, rfl, rfl, rfl⟩) fun vs s4 ⟨o, H4, I4, ps, eo, e4⟩ => ?_
  subst eo e4
  have I5 : Inv X pins σ H4 { s4 with heap := s4.heap.push { cls := .type "slice", data := .fields #[vl, vu, vs] } } := I4.kept (t' := s4.toks) fun b ob q => Heap.get?_push_of_some _ q
  obtain ⟨its, r, ht, hz⟩ := I5.tuple hx
  have hlen := r.length
  show wpAny (model X.prog X.w) X.A (subscriptTail e (.Slice none none (some (.UnaryOp .USub (.Constant (.int 1) k p1) p2)) p3) (.ref a) (.ref s4.heap.objs.size)) (EP X pins σ Q) X.xe { s4 with heap := s4.heap.push { cls := .type "slice", data := .fields #[vl, vu, vs] } }
  refine tail_any (ops := [.ref a, .ref s4.heap.objs.size]) ht.typeIs (PyProof.Rows.slot_tuple_getitem.lookup) ?_ (by with_unfolding_all rfl)
  refine getItem_tuple_rev ht (Heap.IsSliceOf.new _ vl vu vs) pl pu ps ?_ (by rw [List.size_toArray]; omega)
  refine ⟨.ref _, _, I5.laid (t' := s4.toks) (o := .tup xs.reverse) (fun b ob q => Heap.get?_push_of_some _ q) (Nat.le_refl _) ?_, rfl, q _ (I5.hok.fresh (Nat.le_refl _))⟩
  exact ⟨by rw [List.length_reverse]; exact hz, _, r.reverse, ⟨_, Heap.get?_push_size _ rfl, rfl, 0, rfl⟩⟩
def revM (m : EM Rv) : EM Rv := fun ρ T S => (m ρ T S).bind fun r T S => match look r T S with
  | some (.tuple xs) => .ok (.v (.tuple xs.reverse)) T S
  | _ => .bad
theorem se_rev {m : EM Rv} {k : Nat} {p1 p2 p3 pos : Pos} (he : SE ct X W e m) : SE ct X W (.Subscript e (.Slice none none (some (.UnaryOp .USub (.Constant (.int 1) k p1) p2)) p3) pos) (revM m) := by
  obtain ⟨t, p, q⟩ := he
  refine ⟨_, pe_revT p, fun ρ T S G H L M σ Q hl f sl h => ?_⟩
  refine q ρ T S G H L M σ _ hl f sl (Sat.bind h fun r T1 S1 G1 H1 L1 M1 x e1 f1 r1 h1 => ?_)
  split at h1
  · rename_i xs el
    obtain ⟨_, b, vs, rfl, _, hs, hr⟩ := look_tuple f1 r1 el
    exact ⟨b, vs, rfl, hs, fun p hp => sat_tup f1 h1 hr.reverse hp⟩
  · exact (show False from h1).elim
end

/-! ### a dict's display, by text keys -/
abbrev PM := EM (List (Str × D))
def pnil : PM := fun _ T S => .ok [] T S
def pcons (mk mv : EM Rv) (r : PM) : PM := fun ρ T S => (mk ρ T S).bind fun k T S => (mv ρ T S).bind fun v T S => match k, toD v T with
  | .v (.str x), some (d, T') => (r ρ T' S).bind fun kvs T S => .ok ((x, d) :: kvs) T S
  | _, _ => .bad
def dispM (m : PM) : EM Rv := fun ρ T S => (m ρ T S).bind fun kvs T S => if kvs.length ≤ 15 then .ok (.loc S.length) T (S ++ [.dic (kvs.foldl (fun acc kv => putD acc (.inr kv.1) kv.2) [])]) else .bad
abbrev relP (K : PySem.W.Frag) : Hp → List Addr → List Addr → List (V × V) → List (Str × D) → Prop := fun G _ _ ps kvs => ps.map (·.1) = kvs.map (fun kv => V.str kv.1) ∧ Reps K G (ps.map (·.2)) (kvs.map (·.2))
section
variable {ct : Str → Option Addr} {X : Cx} {W : WX} {pos : Pos}
def SP (ct : Str → Option Addr) (X : Cx) (W : WX) (pos : Pos) (keys : List (Option Expr)) (values : List Expr) (m : PM) : Prop :=
  ∃ trs, PPs X pos keys values trs ∧ ∀ (ρ : Vn) (T S : Sto) (G H : Hp) (L M : List Addr) (σ : L2.St) (Q : List (V × V) → Hp → Prop), ρ.length = σ.length → Fits X.K G H L M T S → Slots X.K G L M ρ σ → Sat ct X.K W G H L M σ (relP X.K) Q (m ρ T S) → tPairs trs σ H Q
theorem sp_nil : SP ct X W pos [] [] pnil := ⟨[], pps_nil, fun ρ T S G H L M σ Q hl f sl h => h G H L M [] (Ext.refl _ _ _ _) f ⟨rfl, .nil⟩⟩
theorem sp_cons {k v : Expr} {ks : List (Option Expr)} {vs : List Expr} {mk mv : EM Rv} {r : PM} (hk : SE ct X W k mk) (hv : SE ct X W v mv) (hr : SP ct X W pos ks vs r) : SP ct X W pos (some k :: ks) (v :: vs) (pcons mk mv r) := by
  obtain ⟨t, p, q⟩ := hk
  obtain ⟨t2, p2, q2⟩ := hv
  obtain ⟨t3, p3, q3⟩ := hr
  refine ⟨_, pps_cons p p2 p3, fun ρ T S G H L M σ Q hl f sl h => ?_⟩
  refine q ρ T S G H L M σ _ hl f sl (Sat.bind h fun k T1 S1 G1 H1 L1 M1 x e1 f1 r1 h1 => ?_)
  refine q2 ρ T1 S1 G1 H1 L1 M1 σ _ hl f1 (sl.mono e1) (Sat.bind h1 fun v T2 S2 G2 H2 L2 M2 y e2 f2 r2 h2 => ?_)
  split at h2
  · rename_i z d T' ed
    obtain ⟨G3, x3, f3, r3⟩ := toD_ok f2 r2 ed
    refine q3 ρ T' S2 G3 H2 L2 M2 σ _ hl f3 (sl.mono ((e1.trans e2).trans x3)) (Sat.bind (Sat.pre x3 h2) fun kvs T4 S4 G4 H4 L4 M4 ps e4 f4 r4 h4 => ?_)
    cases (show Rep X.K G1 x (.str z) from r1)
    exact h4 G4 H4 L4 M4 _ (Ext.refl _ _ _ _) f4 ⟨by rw [List.map_cons, List.map_cons, r4.1], .cons (r3.mono e4.gm) r4.2⟩
  · exact (show False from h2).elim
theorem Sat.bindP {K : PySem.W.Frag} {α β γ δ : Type} {G H G1 H1 : Hp} {L M L1 M1 : List Addr} {σ : L2.St} {rel : Hp → List Addr → List Addr → β → α → Prop} {rel2 : Hp → List Addr → List Addr → δ → γ → Prop} {Q1 : β → Hp → Prop} {Q2 : δ → Hp → Prop} {r : Res α} {k : α → Sto → Sto → Res γ}
    (x0 : Ext G H L M G1 H1 L1 M1) (h : Sat ct K W G H L M σ rel2 Q2 (r.bind k))
    (hk : ∀ a T' S' G' H' L' M' y, Ext G1 H1 L1 M1 G' H' L' M' → Fits K G' H' L' M' T' S' → rel G' L' M' y a → Sat ct K W G H L M σ rel2 Q2 (k a T' S') → Q1 y H') : Sat ct K W G1 H1 L1 M1 σ rel Q1 r := by
  cases r with
  | ok a T S => exact fun G' H' L' M' y e f q => hk a T S G' H' L' M' y e f q h
  | exn x T S => exact Sat.pre x0 h
  | bad => exact h
theorem merge_ok {K : PySem.W.Frag} {G : Hp} : ∀ {more : List (Key × V)} {kvs : List (Str × D)} {ws : List (Key × V)} {acc : List (Key × D)}, more.map (·.1) = kvs.map (fun kv => Sum.inr kv.1) → Reps K G (more.map (·.2)) (kvs.map (·.2)) → ws.map (·.1) = acc.map (·.1) → Reps K G (ws.map (·.2)) (acc.map (·.2)) →
    (mergeK ws more).map (·.1) = (kvs.foldl (fun acc kv => putD acc (.inr kv.1) kv.2) acc).map (·.1) ∧ Reps K G ((mergeK ws more).map (·.2)) ((kvs.foldl (fun acc kv => putD acc (.inr kv.1) kv.2) acc).map (·.2))
  | [], [], _, _, _, _, h, q => ⟨h, q⟩
  | [], _ :: _, _, _, h, _, _, _ => by cases h
  | _ :: _, [], _, _, h, _, _, _ => by cases h
  | (k, v) :: more, (x, d) :: kvs, ws, acc, h, r, h2, q2 => by
    rw [List.map_cons, List.map_cons] at h
    injection h with h1 h3
    have h1 : k = .inr x := h1
    subst h1
    cases r with
    | cons r1 r2 =>
      obtain ⟨a1, a2⟩ := put_ok (k := .inr x) r1 h2 q2
      exact merge_ok (more := more) (kvs := kvs) (ws := putK ws (.inr x) v) (acc := putD acc (.inr x) d) h3 r2 a1 a2
/-- a thing that nobody holds becomes one of the shared store -/
theorem Fits.adoptL {K : PySem.W.Frag} {G H G0 H0 : Hp} {L M L0 M0 : List Addr} {T S : Sto} {p : Addr} {u : HO} {o : Ob} (f : Fits K G H L M T S) (x : Ext G0 H0 L0 M0 G H L M) (h0 : H0 p = none) (hg : G p = none) (hL : p ∉ L) (hM : p ∉ M) (ho : ROb K G (upd H p u) p o) :
    Ext G0 H0 L0 M0 G (upd H p u) (L ++ [p]) M ∧ Fits K G (upd H p u) (L ++ [p]) M T (S ++ [o]) := by
  refine ⟨⟨x.gm, x.lp.trans (List.prefix_append L [p]), x.mp, fun a w h hl hm => ?_, fun a w h => ?_, x.gn, fun a h => ?_, x.mn⟩, ⟨fun a w h => by rw [upd_ne (ne_of_none h hg)]; exact f.sub a w h, ?_, by rw [List.length_append, List.length_append, f.lenL]; rfl, f.lenM, fun n b q e1 e2 => ?_, fun k b q e1 e2 => ?_⟩⟩
  · rw [upd_ne (ne_of_none h h0)]; exact x.keep a w h hl hm
  · rw [upd_ne (ne_of_none h h0)]; exact x.dom a w h
  · rcases List.mem_append.mp h with z | z
    · exact x.ln a z
    · rw [List.mem_singleton] at z; subst z; exact .inr h0
  · have pm : (L ++ [p] ++ M).Perm (p :: (L ++ M)) := by
      rw [List.append_assoc]
      exact List.perm_middle
    exact pm.nodup_iff.mpr (List.nodup_cons.mpr ⟨fun z => (List.mem_append.mp z).elim hL hM, f.nd⟩)
  · by_cases hn : n < L.length
    · rw [List.getElem?_append_left hn] at e1
      rw [List.getElem?_append_left (by rw [← f.lenL]; exact hn)] at e2
      refine ROb.mono (Same.refl G) (fun z => z) (fun z hz => ?_) (f.obL n b q e1 e2)
      rw [upd_ne (show b ≠ p from fun e => hL (by rw [← e]; exact List.mem_of_getElem? e1))]; exact hz
    · rw [List.getElem?_append_right (by omega)] at e1
      rw [List.getElem?_append_right (by have := f.lenL; omega)] at e2
      have hz : n - L.length = 0 := by
        have := lt_of_get e1
        simp at this
        omega
      rw [hz] at e1
      rw [← f.lenL, hz] at e2
      cases e1; cases e2
      exact ho
  · refine ROb.mono (Same.refl G) (fun z => z) (fun z hz => ?_) (f.obM k b q e1 e2)
    rw [upd_ne (show b ≠ p from fun e => hM (by rw [← e]; exact List.mem_of_getElem? e1))]; exact hz
theorem Fits.fresh {K : PySem.W.Frag} {G H : Hp} {L M : List Addr} {T S : Sto} {p : Addr} (f : Fits K G H L M T S) (hp : H p = none) : p ∉ L ∧ p ∉ M := by
  constructor
  · intro z
    obtain ⟨n, hn⟩ := List.mem_iff_getElem?.mp z
    obtain ⟨u, hu⟩ := ROb.held (f.obL n p _ hn (List.getElem?_eq_getElem (show n < S.length by rw [← f.lenL]; exact lt_of_get hn)))
    rw [hp] at hu; cases hu
  · intro z
    obtain ⟨n, hn⟩ := List.mem_iff_getElem?.mp z
    obtain ⟨u, hu⟩ := ROb.held (f.obM n p _ hn (List.getElem?_eq_getElem (show n < T.length by rw [← f.lenM]; exact lt_of_get hn)))
    rw [hp] at hu; cases hu
theorem pairs_keys : ∀ {ps : List (V × V)} {kvs : List (Str × D)}, ps.map (·.1) = kvs.map (fun kv => V.str kv.1) → ∃ ws : List (Key × V), ps = ws.map (fun kv => (kV kv.1, kv.2)) ∧ ws.map (·.1) = kvs.map (fun kv => Sum.inr kv.1) ∧ ws.map (·.2) = ps.map (·.2)
  | [], [], _ => ⟨[], rfl, rfl, rfl⟩
  | [], _ :: _, h => by cases h
  | _ :: _, [], h => by cases h
  | (a, b) :: ps, (x, d) :: kvs, h => by
    rw [List.map_cons, List.map_cons] at h
    injection h with h1 h2
    have h1 : a = V.str x := h1
    obtain ⟨ws, e1, e2, e3⟩ := pairs_keys h2
    exact ⟨(.inr x, b) :: ws, by rw [List.map_cons, ← e1, h1]; rfl, by rw [List.map_cons, e2]; rfl, by rw [List.map_cons, List.map_cons, e3]⟩
theorem se_disp {keys : List (Option Expr)} {values : List Expr} {m : PM} (h : SP ct X W pos keys values m) (hall : keys.all (·.isSome) = true) (hl : keys.length = values.length) (h0 : keys ≠ []) (h15 : keys.length ≤ 15) : SE ct X W (.Dict keys values pos) (dispM m) := by
  obtain ⟨trs, p, q⟩ := h
  refine ⟨_, pe_disp p hall hl h0 h15, fun ρ T S G H L M σ Q hl f sl h => ?_⟩
  intro a ha
  obtain ⟨x0, f0⟩ := f.kept (H' := upd H a (.dK [])) (fun b u hb => by rw [upd_ne (ne_of_none hb ha)]; exact hb)
  obtain ⟨nL, nM⟩ := f.fresh ha
  refine q ρ T S G _ L M σ _ hl f0 (sl.mono x0) (Sat.bindP x0 h fun kvs T1 S1 G1 H1 L1 M1 ps e1 f1 r1 h1 => ?_)
  obtain ⟨a1, a2, a3, a4⟩ := ext_out e1 upd_same (f.sub.free ha) nL nM
  refine ⟨a1, ?_⟩
  split at h1
  · rename_i hz
    obtain ⟨ws, w1, w2, w3⟩ := pairs_keys r1.1
    have hr : Reps X.K G1 (ws.map (·.2)) (kvs.map (·.2)) := by rw [w3]; exact r1.2
    obtain ⟨b1, b2⟩ := merge_ok (ws := []) (acc := []) w2 hr rfl .nil
    obtain ⟨x2, f2⟩ := f1.adoptL (u := .dK (mergeK [] ws)) (o := .dic (kvs.foldl (fun acc kv => putD acc (.inr kv.1) kv.2) [])) (x0.trans e1) ha a2 a3 a4 ⟨_, upd_same, a2, b1, b2⟩
    have hlw : ws.length = kvs.length := by have := congrArg List.length w2; simpa using this
    refine ⟨ws, w1, by rw [hlw]; exact hz, h1 _ _ _ _ _ x2 f2 ⟨a, ?_, rfl⟩⟩
    rw [← f1.lenL, List.getElem?_append_right (Nat.le_refl _), Nat.sub_self]
    rfl
  · exact (show False from h1).elim
end
end RB

end

/-! text RHead -/
section
set_option Elab.async false
set_option linter.all false
set_option maxRecDepth 100000
set_option maxHeartbeats 4000000
/-! RHead: from a def's promise to the law's statement. -/
namespace RB
open PySem PySem.Spec PyProof.Rows L2
theorem walk_ofW {l : PySem.W.OpenLaw} {n k : Nat} {q : Program} {loose : List Str} {XP : (Str → Option Value) → Heap → Prop} {YP : World → Heap → Prop} {d : DefRec} {CX : World → CXT} {x : Str}
    (hn : l.most = some n) (hn2 : n ≤ sizeLine) (hdf : d.params.defaults = []) (hr : Room k callerA)
    (F : ∀ (w : World) (mg : Str → Option Value) (fa : Addr) (h : Heap), YP w h → h.Ns mainGlobals mg → mg d.name = some (.ref fa) →
      ∃ (K : PySem.W.Frag) (fd : FuncData) (sp : Sp), K.In h ∧ (∀ (s : Shared) (u : Value), BindsTo s fd ⟨[u], []⟩ [(x, u)]) ∧
        (∀ (H : Hp) (a : Addr) (ns : List Int), ns.length ≤ n → Only H → SqL K H a (ns.map V.int) → sp [.ref a] H (fun v _ => v = .bl true) fun _ _ _ => False) ∧
        ∀ base : Heap, K.In base → base.Ns mainGlobals mg → FnOk l.prog w K mg base (CX w) k fa fd [x] sp)
    (hCX : ∀ (w : World) (H : Hp) (s : Shared) (e : Value) (s' : Shared), CX w [] H s (fun _ _ _ => False) e s' → False) :
    PySem.W.WalkO q loose XP YP l.row.toRowW d [] (fun f vs => PySem.call f vs) := by
  refine Att.attach_call hn hdf fun w s₀ s₁ mg mb fa o pm cd doc a vs ns G Y ho hd hcd hmg hobj hints hlen hg => ?_
  obtain ⟨K, fd, sp, KX, hb, hsp, hF⟩ := F w mg fa _ Y G.T.g hmg
  exact law_call KX G.T.g G.T.b G.T.builtins G.T.nolimit hg hobj hints (Nat.le_trans hlen hn2) hr hF hb (fun H hO hS => hsp H a ns hlen hO hS) fun H e s' => hCX w H s₁ e s'
theorem cx_none (P : Program) (w : World) (H : Hp) (s : Shared) (e : Value) (s' : Shared) (h : L2.CX P w [] H s (fun _ _ _ => False) e s') : False := by
  obtain ⟨_, _, _, _, _, _, _, _, _, _, _, _, q⟩ := h
  exact q
abbrev dd (x : Str) (st : Stmt) : He.DefD := ⟨(x, none), x, x, defArgs st, defBody st, defScope st, [], []⟩
theorem fun_of {K : PySem.W.Frag} {x : Str} {st : Stmt} {f : Addr} {fd : FuncData} (F : FunD K x x (defArgs st) (defBody st) (defScope st) [] [] f fd) : Fun K x x st f fd := by
  obtain ⟨oc, od, dV, kV, doc, pm, an, cdv, ct, osl, e, lk, hcd, hD, hK⟩ := F.ex
  rcases hD with ⟨_, rfl⟩ | ⟨e, _⟩
  · exact ⟨⟨oc, od, kV, doc, pm, an, cdv, ct, osl, e, lk, hcd⟩, F.kp⟩
  · exact absurd rfl e
theorem fits0 (K : PySem.W.Frag) (H : Hp) : Fits K H H [] [] [] [] := ⟨Same.refl H, List.nodup_nil, rfl, rfl, fun n a o e _ => by simp at e, fun n a o e _ => by simp at e⟩
/-- the law's def answers True -/
theorem spF_true {ct : Str → Option Addr} {K : PySem.W.Frag} {f : FM} {ns : List Int} {H : Hp} {a : Addr} (h : ∃ S', f [.scr ns] [] = .ok (.v (.bool true)) S') (hS : SqL K H a (ns.map V.int)) :
    spF ct K 1 f [.ref a] H (fun v _ => v = .bl true) fun _ _ _ => False := by
  obtain ⟨S', e⟩ := h
  refine ⟨rfl, H, [], [], [.scr ns], fits0 K H, .cons ⟨a, rfl, hS⟩ .nil, ?_⟩
  rw [e]
  intro G' H' L' v _ _ r
  cases (show Rep K G' v (.bool true) from r)
  rfl
end RB

end

/-! text RWp -/
section
set_option Elab.async false
set_option linter.all false
set_option maxRecDepth 100000
set_option maxHeartbeats 4000000
/-! RWp: what mirrors answer, by conditions behind them. -/
namespace RB
open PySem PySem.Spec PyProof.Rows L2
def isB (r : Rv) (Q : Bool → Prop) : Prop := match r with
  | .v (.bool b) => Q b
  | _ => False
def isV (o : Option (Option Rv)) (Q : Rv → Prop) : Prop := match o with
  | some (some r) => Q r
  | _ => False
def isS {α : Type} (o : Option α) (Q : α → Prop) : Prop := match o with
  | some a => Q a
  | none => False
def isDic (o : Option Ob) (Q : List (Key × D) → Prop) : Prop := match o with
  | some (.dic kvs) => Q kvs
  | _ => False
def fnRun (o : Out) : FRes := match o with
  | .ret r T S' => retR r T S'
  | .next _ _ S' => .ok (.v .none) S'
  | .exn x _ _ S' => .exn x S'
  | _ => .bad
theorem isB_b (b : Bool) (Q : Bool → Prop) : isB (.v (.bool b)) Q = Q b := rfl
theorem isV_s (r : Rv) (Q : Rv → Prop) : isV (some (some r)) Q = Q r := rfl
theorem isS_s {α : Type} (a : α) (Q : α → Prop) : isS (some a) Q = Q a := rfl
theorem isS_n {α : Type} (Q : α → Prop) : isS none Q = False := rfl
theorem isDic_d (kvs : List (Key × D)) (Q : List (Key × D) → Prop) : isDic (some (.dic kvs)) Q = Q kvs := rfl
end RB
namespace RB.W0
open PySem PySem.Spec PyProof.Rows L2 RB

def wpR {α : Type} (r : Res α) (Q : α → Sto → Sto → Prop) : Prop := match r with
  | .ok a T S => Q a T S
  | _ => False
def wpO (o : Out) (N : Vn → Sto → Sto → Prop) (R : Rv → Sto → Sto → Prop) : Prop := match o with
  | .next ρ T S => N ρ T S
  | .ret r T S => R r T S
  | _ => False
def wpF (r : FRes) (Q : Rv → Sto → Prop) : Prop := match r with
  | .ok r S => Q r S
  | _ => False



theorem wpR_ok {α : Type} (a : α) (T S : Sto) (Q : α → Sto → Sto → Prop) : wpR (.ok a T S) Q = Q a T S := rfl
theorem wpR_bad {α : Type} (Q : α → Sto → Sto → Prop) : wpR (.bad : Res α) Q = False := rfl
theorem wpR_bind {α β : Type} (r : Res α) (k : α → Sto → Sto → Res β) (Q : β → Sto → Sto → Prop) : wpR (r.bind k) Q = wpR r fun a T S => wpR (k a T S) Q := by cases r <;> rfl
theorem wpR_ite {α : Type} (c : Prop) [Decidable c] (r : Res α) (Q : α → Sto → Sto → Prop) : wpR (if c then r else .bad) Q = (c ∧ wpR r Q) := by
  by_cases h : c
  · rw [if_pos h]; exact propext ⟨fun z => ⟨h, z⟩, fun z => z.2⟩
  · rw [if_neg h]; exact propext ⟨fun z => z.elim, fun z => (h z.1).elim⟩
theorem wpR_if {α : Type} (c : Prop) [Decidable c] (r s : Res α) (Q : α → Sto → Sto → Prop) : wpR (if c then r else s) Q = if c then wpR r Q else wpR s Q := by
  by_cases h : c
  · rw [if_pos h, if_pos h]
  · rw [if_neg h, if_neg h]
theorem wpR_mono {α : Type} {r : Res α} {Q Q' : α → Sto → Sto → Prop} (h : wpR r Q) (m : ∀ a T S, Q a T S → Q' a T S) : wpR r Q' := by
  cases r with
  | ok a T S => exact m a T S h
  | exn x T S => exact h
  | bad => exact h
theorem wpF_mono {r : FRes} {Q Q' : Rv → Sto → Prop} (h : wpF r Q) (m : ∀ a S, Q a S → Q' a S) : wpF r Q' := by
  cases r with
  | ok a S => exact m a S h
  | exn x S => exact h
  | bad => exact h
theorem wpO_mono {o : Out} {N N' : Vn → Sto → Sto → Prop} {R R' : Rv → Sto → Sto → Prop} (h : wpO o N R) (m : ∀ ρ T S, N ρ T S → N' ρ T S) (m2 : ∀ r T S, R r T S → R' r T S) : wpO o N' R' := by
  cases o with
  | next ρ T S => exact m ρ T S h
  | ret r T S => exact m2 r T S h
  | _ => exact h
theorem wpF_eq {r : FRes} {a : Rv} {S : Sto} (h : wpF r fun b S' => b = a ∧ S' = S) : r = .ok a S := by
  cases r with
  | ok b S' => obtain ⟨h1, h2⟩ := h; rw [h1, h2]
  | exn x S' => exact h.elim
  | bad => exact h.elim
/-! ### statements -/
variable (ρ : Vn) (T S : Sto) (N : Vn → Sto → Sto → Prop) (R : Rv → Sto → Sto → Prop)
theorem wp_out {α : Type} (r : Res α) (k : α → Sto → Sto → Out) : wpO (r.out ρ k) N R = wpR r fun a T S => wpO (k a T S) N R := by cases r <;> rfl
theorem wp_thn (o : Out) (s : SM) : wpO (o.thn s) N R = wpO o (fun ρ T S => wpO (s ρ T S) N R) R := by cases o <;> rfl
theorem wp_seq (s u : SM) : wpO (seqS s u ρ T S) N R = wpO (s ρ T S) (fun ρ T S => wpO (u ρ T S) N R) R := wp_thn N R _ u
theorem wp_skip : wpO (skipS ρ T S) N R = N ρ T S := rfl
theorem wp_ret (m : EM Rv) : wpO (retS m ρ T S) N R = wpR (m ρ T S) R := wp_out ρ N R _ _
theorem wp_drop (m : EM Rv) : wpO (dropS m ρ T S) N R = wpR (m ρ T S) fun _ T S => N ρ T S := wp_out ρ N R _ _
theorem wp_set (i : Nat) (m : EM Rv) : wpO (setS i m ρ T S) N R = wpR (m ρ T S) fun r T S => N (ρ.set i (some r)) T S := wp_out ρ N R _ _
theorem wp_ifS (c : EM Bool) (s u : SM) : wpO (ifS c s u ρ T S) N R = wpR (c ρ T S) fun b T S => if b = true then wpO (s ρ T S) N R else wpO (u ρ T S) N R := by
  unfold ifS
  rw [wp_out]
  congr; funext b T S
  cases b <;> rfl
theorem wp_par (i j : Nat) (ms : EM (List Rv)) : wpO (parS i j ms ρ T S) N R = wpR (ms ρ T S) fun rs T S => ∃ a b, rs = [a, b] ∧ N ((ρ.set i (some a)).set j (some b)) T S := by
  unfold parS
  rw [wp_out]
  congr; funext rs T S
  split
  · exact propext ⟨fun h => ⟨_, _, rfl, h⟩, fun ⟨_, _, e, h⟩ => by cases e; exact h⟩
  · rename_i hn; exact propext ⟨fun h => h.elim, fun ⟨_, _, e, h⟩ => (hn _ _ e).elim⟩
theorem wp_par3 (i j l : Nat) (ms : EM (List Rv)) : wpO (par3S i j l ms ρ T S) N R = wpR (ms ρ T S) fun rs T S => ∃ a b c, rs = [a, b, c] ∧ N (((ρ.set i (some a)).set j (some b)).set l (some c)) T S := by
  unfold par3S
  rw [wp_out]
  congr; funext rs T S
  split
  · exact propext ⟨fun h => ⟨_, _, _, rfl, h⟩, fun ⟨_, _, _, e, h⟩ => by cases e; exact h⟩
  · rename_i hn; exact propext ⟨fun h => h.elim, fun ⟨_, _, _, e, h⟩ => (hn _ _ _ e).elim⟩
theorem wp_unp (is : List Nat) (ms : EM (List Rv)) : wpO (unpS is ms ρ T S) N R = wpR (ms ρ T S) fun rs T S => rs.length = is.length ∧ N (setAll is rs ρ) T S := by
  unfold unpS
  rw [wp_out]
  congr; funext rs T S
  by_cases h : rs.length = is.length
  · rw [if_pos h]; exact propext ⟨fun z => ⟨h, z⟩, fun z => z.2⟩
  · rw [if_neg h]; exact propext ⟨fun z => z.elim, fun z => (h z.1).elim⟩
theorem wp_asg (g : TgM) (m : EM Rv) : wpO (asgS g m ρ T S) N R = wpR (m ρ T S) fun r T S => isS (toD r T) fun p => isS (g p.1 ρ) fun ρ' => N ρ' p.2 S := by
  unfold asgS
  rw [wp_out]
  congr; funext r T S
  cases toD r T with
  | none => rfl
  | some p =>
    obtain ⟨d, T'⟩ := p
    show wpO (match g d ρ with | some ρ' => .next ρ' T' S | none => .bad) N R = _
    rw [isS_s]
    show _ = isS (g d ρ) fun ρ' => N ρ' T' S
    cases g d ρ <;> rfl

theorem wp_dput (md mk m : EM Rv) : wpO (dputS md mk m ρ T S) N R = wpR (m ρ T S) fun r T S => wpR (md ρ T S) fun a T S => wpR (mk ρ T S) fun b T S => ∃ n x, a = .loc n ∧ b = .v (.str x) ∧ isDic S[n]? fun kvs => isS (toD r T) fun p => kvs.length < 16777216 ∧ N ρ p.2 (S.set n (.dic (putD kvs (.inr x) p.1))) := by
  unfold dputS
  rw [wp_out]
  congr; funext r T S
  rw [wp_out]
  congr; funext a T S
  rw [wp_out]
  congr; funext b T S
  refine propext ⟨fun h => ?_, fun h => ?_⟩
  · split at h
    · rename_i n x
      split at h
      · rename_i kvs d T' e1 e2
        split at h
        · rename_i hz
          refine ⟨n, x, rfl, rfl, ?_⟩
          rw [e1, e2]
          exact ⟨hz, h⟩
        · exact h.elim
      · exact h.elim
    · exact h.elim
  · obtain ⟨n, x, rfl, rfl, h⟩ := h
    cases e1 : S[n]? with
    | none => rw [e1] at h; exact h.elim
    | some o =>
      cases o with
      | dic kvs =>
        rw [e1] at h
        cases e2 : toD r T with
        | none => rw [e2] at h; exact h.elim
        | some p =>
          obtain ⟨d, T'⟩ := p
          rw [e2] at h
          obtain ⟨hz, h⟩ := h
          show wpO (match S[n]?, some (d, T') with
            | some (.dic kvs), some (d, T') => if kvs.length < 16777216 then .next ρ T' (S.set n (.dic (putD kvs (.inr x) d))) else .bad
            | _, _ => .bad) N R
          rw [e1]
          show wpO (if kvs.length < 16777216 then .next ρ T' (S.set n (.dic (putD kvs (.inr x) d))) else .bad) N R
          rw [if_pos hz]
          exact h
      | lst xs => rw [e1] at h; exact h.elim
      | frz xs => rw [e1] at h; exact h.elim
theorem wp_for (items : EM (List D)) (g : TgM) (body : SM) : wpO (forS items g body ρ T S) N R = wpR (items ρ T S) fun ds T S => wpO (forD g body ds ρ T S) N R := wp_out ρ N R _ _
/-- a loop by an invariant -/
theorem wp_forD {g : TgM} {body : SM} {N : Vn → Sto → Sto → Prop} {R : Rv → Sto → Sto → Prop} (I : Nat → Vn → Sto → Sto → Prop) : ∀ (ds : List D) (k : Nat) (ρ : Vn) (T S : Sto), I k ρ T S →
    (∀ i d ρ T S, ds[i]? = some d → I (k + i) ρ T S → isS (g d ρ) fun ρ' => wpO (body ρ' T S) (I (k + i + 1)) R) → (∀ ρ T S, I (k + ds.length) ρ T S → N ρ T S) → wpO (forD g body ds ρ T S) N R
  | [], k, ρ, T, S, h0, _, hN => hN ρ T S h0
  | d :: ds, k, ρ, T, S, h0, hs, hN => by
    have h1 := hs 0 d ρ T S rfl h0
    unfold forD
    cases e : g d ρ with
    | none => rw [e] at h1; exact h1.elim
    | some ρ' =>
      rw [e] at h1
      have h1 : wpO (body ρ' T S) (I (k + 1)) R := h1
      show wpO (match body ρ' T S with
        | .next ρ1 T1 S1 => forD g body ds ρ1 T1 S1
        | .cnt ρ1 T1 S1 => forD g body ds ρ1 T1 S1
        | .brk ρ1 T1 S1 => .next ρ1 T1 S1
        | o => o) N R
      cases e2 : body ρ' T S with
      | next ρ1 T1 S1 =>
        rw [e2] at h1
        refine wp_forD I ds (k + 1) ρ1 T1 S1 h1 (fun i d2 ρ2 T2 S2 hd hi => ?_) fun ρ2 T2 S2 h2 => hN ρ2 T2 S2 (by
          have e : k + (d :: ds).length = k + 1 + ds.length := by rw [List.length_cons]; omega
          rw [e]; exact h2)
        have e3 : k + 1 + i = k + (i + 1) := by omega
        have e4 : k + 1 + i + 1 = k + (i + 1) + 1 := by omega
        rw [e4]
        rw [e3] at hi
        exact hs (i + 1) d2 ρ2 T2 S2 (by simpa using hd) hi
      | ret r T1 S1 => rw [e2] at h1; exact h1
      | brk ρ1 T1 S1 => rw [e2] at h1; exact h1.elim
      | cnt ρ1 T1 S1 => rw [e2] at h1; exact h1.elim
      | exn x ρ1 T1 S1 => rw [e2] at h1; exact h1.elim
      | bad => rw [e2] at h1; exact h1.elim
/-! ### expressions -/
section
variable {α : Type} (Q : Rv → Sto → Sto → Prop) (QB : Bool → Sto → Sto → Prop) (QL : List Rv → Sto → Sto → Prop) (QD : List D → Sto → Sto → Prop)
theorem wp_getV (i : Nat) : wpR (getV i ρ T S) Q = isV ρ[i]? fun r => Q r T S := by
  unfold getV
  cases ρ[i]? with
  | none => rfl
  | some o => cases o <;> rfl
theorem wp_cst (d : D) : wpR (cst d ρ T S) Q = Q (.v d) T S := rfl
theorem wp_bin (o : Rv → Rv → Sto → Sto → Res Rv) (ma mb : EM Rv) : wpR (bin o ma mb ρ T S) Q = wpR (ma ρ T S) fun a T S => wpR (mb ρ T S) fun b T S => wpR (o a b T S) Q := by
  unfold bin
  rw [wpR_bind]
  congr; funext a T S
  rw [wpR_bind]
theorem wp_asB (m : EM Rv) : wpR (asB m ρ T S) QB = wpR (m ρ T S) fun r T S => isB r fun b => QB b T S := by
  unfold asB
  rw [wpR_bind]
  congr; funext r T S
  cases r with
  | v d => cases d <;> rfl
  | _ => rfl
theorem wp_notM (m : EM Bool) : wpR (notM m ρ T S) QB = wpR (m ρ T S) fun b T S => QB (!b) T S := wpR_bind _ _ _
theorem wp_andM (m n : EM Bool) : wpR (andM m n ρ T S) QB = wpR (m ρ T S) fun b T S => if b = true then wpR (n ρ T S) QB else QB false T S := by
  unfold andM
  rw [wpR_bind]
  congr; funext b T S
  cases b <;> rfl
theorem wp_orM (m n : EM Bool) : wpR (orM m n ρ T S) QB = wpR (m ρ T S) fun b T S => if b = true then QB true T S else wpR (n ρ T S) QB := by
  unfold orM
  rw [wpR_bind]
  congr; funext b T S
  cases b <;> rfl
theorem wp_andV (m n : EM Rv) : wpR (andV m n ρ T S) Q = wpR (m ρ T S) fun r T S => isB r fun b => if b = true then wpR (n ρ T S) Q else Q (.v (.bool false)) T S := by
  unfold andV
  rw [wpR_bind]
  congr; funext r T S
  cases r with
  | v d =>
    cases d with
    | bool b => cases b <;> rfl
    | _ => rfl
  | _ => rfl
theorem wp_orV (m n : EM Rv) : wpR (orV m n ρ T S) Q = wpR (m ρ T S) fun r T S => isB r fun b => if b = true then Q (.v (.bool true)) T S else wpR (n ρ T S) Q := by
  unfold orV
  rw [wpR_bind]
  congr; funext r T S
  cases r with
  | v d =>
    cases d with
    | bool b => cases b <;> rfl
    | _ => rfl
  | _ => rfl
theorem wp_notV (m : EM Rv) : wpR (notV m ρ T S) Q = wpR (m ρ T S) fun r T S => isB r fun b => Q (.v (.bool (!b))) T S := by
  unfold notV
  rw [wpR_bind]
  congr; funext r T S
  cases r with
  | v d => cases d <;> rfl
  | _ => rfl
theorem wp_ifM (c : EM Bool) (m n : EM Rv) : wpR (ifM c m n ρ T S) Q = wpR (c ρ T S) fun b T S => if b = true then wpR (m ρ T S) Q else wpR (n ρ T S) Q := by
  unfold ifM
  rw [wpR_bind]
  congr; funext b T S
  cases b <;> rfl
theorem wp_chn (o o' : Rv → Rv → Sto → Sto → Res Rv) (ma mb mc : EM Rv) : wpR (chn o o' ma mb mc ρ T S) Q = wpR (ma ρ T S) fun a T S => wpR (mb ρ T S) fun b T S => wpR (o a b T S) fun r T S => isB r fun k => if k = true then wpR (mc ρ T S) fun c T S => wpR (o' b c T S) Q else Q (.v (.bool false)) T S := by
  unfold chn
  rw [wpR_bind]
  congr; funext a T S
  rw [wpR_bind]
  congr; funext b T S
  rw [wpR_bind]
  congr; funext r T S
  cases r with
  | v d =>
    cases d with
    | bool k =>
      cases k with
      | true => exact wpR_bind _ _ _
      | false => rfl
    | _ => rfl
  | _ => rfl
theorem wp_nilA : wpR (nilA ρ T S) QL = QL [] T S := rfl
theorem wp_consA (m : EM Rv) (ms : EM (List Rv)) : wpR (consA m ms ρ T S) QL = wpR (m ρ T S) fun r T S => wpR (ms ρ T S) fun rs T S => QL (r :: rs) T S := by
  unfold consA
  rw [wpR_bind]
  congr; funext a T S
  rw [wpR_bind]
  rfl
theorem wp_callM (o : List Rv → Sto → Sto → Res Rv) (ms : EM (List Rv)) : wpR (callM o ms ρ T S) Q = wpR (ms ρ T S) fun rs T S => wpR (o rs T S) Q := wpR_bind _ _ _
theorem wp_callF (f : FM) (rs : List Rv) : wpR (callF f rs T S) Q = isS (toAs rs T) fun p => wpF (f p.1 S) fun r S' => Q r p.2 S' := by
  unfold callF
  cases toAs rs T with
  | none => rfl
  | some p =>
    obtain ⟨as, T'⟩ := p
    show wpR (match f as S with | .ok r S' => .ok r T' S' | .exn x S' => .exn x T' S' | .bad => .bad) Q = wpF (f as S) fun r S' => Q r T' S'
    cases f as S <;> rfl
theorem wp_tupM (ms : EM (List Rv)) : wpR (tupM ms ρ T S) Q = wpR (ms ρ T S) fun rs T S => isS (toDs rs T) fun p => p.1.length ≤ 16777216 ∧ Q (.v (.tuple p.1)) p.2 S := by
  unfold tupM
  rw [wpR_bind]
  congr; funext rs T S
  cases toDs rs T with
  | none => rfl
  | some p => exact wpR_ite _ _ _
theorem wp_lstM (ms : EM (List Rv)) : wpR (lstM ms ρ T S) Q = wpR (ms ρ T S) fun rs T S => isS (toDs rs T) fun p => p.1.length ≤ 16777216 ∧ Q (.v (.list p.1)) p.2 S := by
  unfold lstM
  rw [wpR_bind]
  congr; funext rs T S
  cases toDs rs T with
  | none => rfl
  | some p => exact wpR_ite _ _ _
theorem wp_ownM (ms : EM (List Rv)) : wpR (ownM ms ρ T S) Q = wpR (ms ρ T S) fun rs T S => isS (toDs rs T) fun p => p.1.length ≤ 16777216 ∧ Q (.own p.2.length) (p.2 ++ [.lst p.1]) S := by
  unfold ownM
  rw [wpR_bind]
  congr; funext rs T S
  cases toDs rs T with
  | none => rfl
  | some p => exact wpR_ite _ _ _
theorem wp_seqM (m : EM Rv) : wpR (seqM m ρ T S) QD = wpR (m ρ T S) fun r T S => wpR (itemsR r T S) QD := wpR_bind _ _ _
theorem wp_methM (ty : Rv → Sto → Sto → Bool) (o : Rv → List Rv → Sto → Sto → Res Rv) (mo : EM Rv) (ms : EM (List Rv)) : wpR (methM ty o mo ms ρ T S) Q = wpR (mo ρ T S) fun r T S => ty r T S = true ∧ wpR (ms ρ T S) fun rs T S => wpR (o r rs T S) Q := by
  unfold methM
  rw [wpR_bind]
  congr; funext r T S
  rw [wpR_ite, wpR_bind]
theorem wp_lcM (own : Bool) (items : EM (List D)) (g : TgM) (tests : EM Bool) (elt : EM Rv) (vs : List Nat) : wpR (lcM own items g tests elt vs ρ T S) Q = wpR (items ρ T S) fun ds T S => wpR (compD g tests elt (wipeV ρ vs) ds T S) fun rs T S => wpR (newL own rs T S) Q := by
  unfold lcM
  rw [wpR_bind]
  congr; funext ds T S
  rw [wpR_bind]
theorem wp_isiM (c : Ty) (m : EM Rv) : wpR (isiM c m ρ T S) Q = wpR (m ρ T S) fun r T S => isS (tyR r T S) fun t => Q (.v (.bool (t.isa c))) T S := by
  unfold isiM
  rw [wpR_bind]
  congr; funext r T S
  cases tyR r T S <;> rfl
theorem wp_isiN (cs : List Ty) (m : EM Rv) : wpR (isiN cs m ρ T S) Q = wpR (m ρ T S) fun r T S => isS (tyR r T S) fun t => Q (.v (.bool (cs.any fun c => t.isa c))) T S := by
  unfold isiN
  rw [wpR_bind]
  congr; funext r T S
  cases tyR r T S <;> rfl
theorem wp_partN {QO : Option Int → Sto → Sto → Prop} : wpR (partM none ρ T S) QO = QO none T S := rfl
theorem wp_partS {QO : Option Int → Sto → Sto → Prop} (m : EM Rv) : wpR (partM (some m) ρ T S) QO = wpR (m ρ T S) fun r T S => ∃ i, r = .v (.int i) ∧ QO (some i) T S := by
  show wpR ((m ρ T S).bind _) QO = _
  rw [wpR_bind]
  congr; funext r T S
  refine propext ⟨fun h => ?_, fun ⟨i, e, h⟩ => by subst e; exact h⟩
  split at h
  · exact ⟨_, rfl, h⟩
  · exact h.elim
theorem wp_cutM (m : EM Rv) (lo hi : Option (EM Rv)) : wpR (cutM m lo hi ρ T S) Q = wpR (m ρ T S) fun a T S => wpR (partM lo ρ T S) fun l T S => wpR (partM hi ρ T S) fun u T S => wpR (cutR a l u T S) Q := by
  unfold cutM
  rw [wpR_bind]
  congr; funext a T S
  rw [wpR_bind]
  congr; funext l T S
  rw [wpR_bind]
theorem wp_rng1 (ms : EM (List Rv)) : wpR (rng1 ms ρ T S) QD = wpR (ms ρ T S) fun rs T S => ∃ n, rs = [.v (.int n)] ∧ (-(2 ^ 62) ≤ n ∧ n < 2 ^ 62) ∧ QD (intsD 0 n.toNat) T S := by
  unfold rng1
  rw [wpR_bind]
  congr; funext rs T S
  split
  · rw [wpR_ite]
    exact propext ⟨fun h => ⟨_, rfl, h⟩, fun ⟨_, e, h⟩ => by cases e; exact h⟩
  · rename_i hn; exact propext ⟨fun h => h.elim, fun ⟨_, e, h⟩ => (hn _ e).elim⟩
theorem wp_rng2 (ms : EM (List Rv)) : wpR (rng2 ms ρ T S) QD = wpR (ms ρ T S) fun rs T S => ∃ a b, rs = [.v (.int a), .v (.int b)] ∧ (-(2 ^ 62) ≤ a ∧ a < 2 ^ 62 ∧ -(2 ^ 62) ≤ b ∧ b < 2 ^ 62) ∧ QD (intsD a (b - a).toNat) T S := by
  unfold rng2
  rw [wpR_bind]
  congr; funext rs T S
  split
  · rw [wpR_ite]
    exact propext ⟨fun h => ⟨_, _, rfl, h⟩, fun ⟨_, _, e, h⟩ => by cases e; exact h⟩
  · rename_i hn; exact propext ⟨fun h => h.elim, fun ⟨_, _, e, h⟩ => (hn _ _ e).elim⟩
theorem wp_negM (m : EM Rv) : wpR (negM m ρ T S) Q = wpR (m ρ T S) fun r T S => ∃ i, r = .v (.int i) ∧ Q (.v (.int (-i))) T S := by
  unfold negM
  rw [wpR_bind]
  congr; funext r T S
  split
  · exact propext ⟨fun h => ⟨_, rfl, h⟩, fun ⟨_, e, h⟩ => by cases e; exact h⟩
  · rename_i hn; exact propext ⟨fun h => h.elim, fun ⟨_, e, h⟩ => (hn _ e).elim⟩
theorem wp_revM (m : EM Rv) : wpR (revM m ρ T S) Q = wpR (m ρ T S) fun r T S => ∃ xs, look r T S = some (.tuple xs) ∧ Q (.v (.tuple xs.reverse)) T S := by
  unfold revM
  rw [wpR_bind]
  congr; funext r T S
  split
  · rename_i xs e; exact propext ⟨fun h => ⟨_, e, h⟩, fun ⟨_, e2, h⟩ => by rw [e] at e2; cases e2; exact h⟩
  · rename_i hn; exact propext ⟨fun h => h.elim, fun ⟨_, e, h⟩ => (hn _ e).elim⟩
theorem wp_dispM (m : PM) : wpR (dispM m ρ T S) Q = wpR (m ρ T S) fun kvs T S => kvs.length ≤ 15 ∧ Q (.loc S.length) T (S ++ [.dic (kvs.foldl (fun acc kv => putD acc (.inr kv.1) kv.2) [])]) := by
  unfold dispM
  rw [wpR_bind]
  congr; funext kvs T S
  rw [wpR_ite]
  rfl
theorem wp_pnil {QP : List (Str × D) → Sto → Sto → Prop} : wpR (pnil ρ T S) QP = QP [] T S := rfl
theorem wp_pcons {QP : List (Str × D) → Sto → Sto → Prop} (mk mv : EM Rv) (r : PM) : wpR (pcons mk mv r ρ T S) QP = wpR (mk ρ T S) fun k T S => wpR (mv ρ T S) fun v T S => ∃ x, k = .v (.str x) ∧ isS (toD v T) fun p => wpR (r ρ p.2 S) fun kvs T S => QP ((x, p.1) :: kvs) T S := by
  unfold pcons
  rw [wpR_bind]
  congr; funext k T S
  rw [wpR_bind]
  congr; funext v T S
  refine propext ⟨fun h => ?_, fun ⟨x, e, h⟩ => ?_⟩
  · split at h
    · rename_i x d T' e
      rw [wpR_bind] at h
      refine ⟨x, rfl, ?_⟩
      rw [e]
      exact h
    · exact h.elim
  · subst e
    cases e : toD v T with
    | none => rw [e] at h; exact h.elim
    | some p =>
      obtain ⟨d, T'⟩ := p
      rw [e] at h
      show wpR ((r ρ T' S).bind _) QP
      rw [wpR_bind]
      exact h
theorem wp_sortSetM (m : EM Rv) : wpR (sortSetM m ρ T S) Q = wpR (m ρ T S) fun r T S => ∃ xs ys, look r T S = some (.list xs) ∧ strsD xs = some ys ∧ ys.length ≤ 4000 ∧ Q (.v (.list ((sortS (metS ys)).map .str))) T S := by
  unfold sortSetM
  rw [wpR_bind]
  congr; funext r T S
  refine propext ⟨fun h => ?_, fun ⟨xs, ys, e1, e2, e3, h⟩ => ?_⟩
  · split at h
    · rename_i xs e
      split at h
      · rename_i ys e2
        rw [wpR_ite] at h
        exact ⟨xs, ys, e, e2, h⟩
      · exact h.elim
    · exact h.elim
  · rw [e1]
    show wpR (match strsD xs with | some ys => if ys.length ≤ 4000 then .ok (.v (.list ((sortS (metS ys)).map .str))) T S else .bad | none => .bad) Q
    rw [e2]
    show wpR (if ys.length ≤ 4000 then _ else .bad) Q
    rw [if_pos e3]
    exact h
end
/-! ### defs -/

theorem wp_run (o : Out) (Q : Rv → Sto → Prop) : wpF (fnRun o) Q = wpO o (fun _ _ S => Q (.v .none) S) fun r T S => wpF (retR r T S) Q := by cases o <;> rfl
theorem wpF_ok (r : Rv) (S : Sto) (Q : Rv → Sto → Prop) : wpF (.ok r S) Q = Q r S := rfl
theorem fnM_eq (n : Nat) (m : SM) (rs : List Rv) (S : Sto) : fnM n m rs S = fnRun (m (rs.map some ++ List.replicate (n - rs.length) none) [] S) := rfl
/-! ### comprehensions -/
/-- by an invariant over what was made -/
theorem wp_comp {g : TgM} {tests : EM Bool} {elt : EM Rv} {ρ : Vn} {Q : List D → Sto → Sto → Prop} (I : Nat → List D → Sto → Sto → Prop) : ∀ (ds : List D) (k : Nat) (acc : List D) (T S : Sto), I k acc T S →
    (∀ i d acc T S, ds[i]? = some d → I (k + i) acc T S → isS (g d ρ) fun ρ' => wpR (tests ρ' T S) fun b T S => if b = true then wpR (elt ρ' T S) fun r T S => isS (toD r T) fun p => I (k + i + 1) (acc ++ [p.1]) p.2 S else I (k + i + 1) acc T S) →
    (∀ rs T S, I (k + ds.length) (acc ++ rs) T S → Q rs T S) → wpR (compD g tests elt ρ ds T S) Q
  | [], k, acc, T, S, h0, _, hN => hN [] T S (by rw [List.append_nil]; exact h0)
  | d :: ds, k, acc, T, S, h0, hs, hN => by
    have h1 := hs 0 d acc T S rfl h0
    have nxt : ∀ acc' T' S' (pre : List D), I (k + 1) acc' T' S' → acc' = acc ++ pre → wpR (compD g tests elt ρ ds T' S') fun rs T S => Q (pre ++ rs) T S := fun acc' T' S' pre h e => by
      refine wp_comp I ds (k + 1) acc' T' S' h (fun i d2 acc2 T2 S2 hd hi => ?_) fun rs T2 S2 h2 => hN (pre ++ rs) T2 S2 (by
        have e2 : k + (d :: ds).length = k + 1 + ds.length := by rw [List.length_cons]; omega
        rw [e2, ← List.append_assoc, ← e]; exact h2)
      have e3 : k + 1 + i = k + (i + 1) := by omega
      have e4 : k + 1 + i + 1 = k + (i + 1) + 1 := by omega
      rw [e4]
      rw [e3] at hi
      exact hs (i + 1) d2 acc2 T2 S2 (by simpa using hd) hi
    unfold compD
    cases e : g d ρ with
    | none => rw [e] at h1; exact h1.elim
    | some ρ' =>
      rw [e] at h1
      have h1 : wpR (tests ρ' T S) fun b T S => if b = true then wpR (elt ρ' T S) fun r T S => isS (toD r T) fun p => I (k + 1) (acc ++ [p.1]) p.2 S else I (k + 1) acc T S := h1
      show wpR (match tests ρ' T S with
        | .ok true T1 S1 => (match elt ρ' T1 S1 with
          | .ok r T2 S2 => (match toD r T2 with
            | some (d', T3) => (compD g tests elt ρ ds T3 S2).bind fun rs T S => .ok (d' :: rs) T S
            | none => .bad)
          | _ => .bad)
        | .ok false T1 S1 => compD g tests elt ρ ds T1 S1
        | _ => .bad) Q
      cases e2 : tests ρ' T S with
      | exn x T1 S1 => rw [e2] at h1; exact h1.elim
      | bad => rw [e2] at h1; exact h1.elim
      | ok b T1 S1 =>
        rw [e2] at h1
        cases b with
        | false =>
          have h1 : I (k + 1) acc T1 S1 := h1
          exact nxt acc T1 S1 [] h1 (by rw [List.append_nil])
        | true =>
          have h1 : wpR (elt ρ' T1 S1) fun r T S => isS (toD r T) fun p => I (k + 1) (acc ++ [p.1]) p.2 S := h1
          show wpR (match elt ρ' T1 S1 with
          | .ok r T2 S2 => (match toD r T2 with
            | some (d', T3) => (compD g tests elt ρ ds T3 S2).bind fun rs T S => .ok (d' :: rs) T S
            | none => .bad)
          | _ => .bad) Q
          cases e3 : elt ρ' T1 S1 with
          | exn x T2 S2 => rw [e3] at h1; exact h1.elim
          | bad => rw [e3] at h1; exact h1.elim
          | ok r T2 S2 =>
            rw [e3] at h1
            have h1 : isS (toD r T2) fun p => I (k + 1) (acc ++ [p.1]) p.2 S2 := h1
            show wpR (match toD r T2 with
            | some (d', T3) => (compD g tests elt ρ ds T3 S2).bind fun rs T S => .ok (d' :: rs) T S
            | none => .bad) Q
            cases e4 : toD r T2 with
            | none => rw [e4] at h1; exact h1.elim
            | some p =>
              obtain ⟨d', T3⟩ := p
              rw [e4] at h1
              show wpR ((compD g tests elt ρ ds T3 S2).bind fun rs T S => .ok (d' :: rs) T S) Q
              rw [wpR_bind]
              exact nxt (acc ++ [d']) T3 S2 [d'] h1 rfl
/-- a comprehension that touches nothing: map and filter -/
theorem comp_pure {g : TgM} {tests : EM Bool} {elt : EM Rv} {ρ : Vn} {T S : Sto} {p : D → Bool} {f : D → D} : ∀ {ds : List D},
    (∀ d, d ∈ ds → isS (g d ρ) fun ρ' => tests ρ' T S = .ok (p d) T S ∧ (p d = true → elt ρ' T S = .ok (.v (f d)) T S)) → compD g tests elt ρ ds T S = .ok ((ds.filter p).map f) T S
  | [], _ => rfl
  | d :: ds, h => by
    have h1 := h d List.mem_cons_self
    have ih := comp_pure (ds := ds) fun e he => h e (List.mem_cons_of_mem _ he)
    unfold compD
    cases e : g d ρ with
    | none => rw [e] at h1; exact h1.elim
    | some ρ' =>
      rw [e] at h1
      obtain ⟨h1, h2⟩ := h1
      show (match tests ρ' T S with
        | .ok true T1 S1 => (match elt ρ' T1 S1 with
          | .ok r T2 S2 => (match toD r T2 with
            | some (d', T3) => (compD g tests elt ρ ds T3 S2).bind fun rs T S => .ok (d' :: rs) T S
            | none => .bad)
          | _ => .bad)
        | .ok false T1 S1 => compD g tests elt ρ ds T1 S1
        | _ => .bad) = _
      rw [h1]
      cases hp : p d with
      | false =>
        show compD g tests elt ρ ds T S = _
        rw [ih, List.filter_cons, hp]
        rfl
      | true =>
        show (match elt ρ' T S with
          | .ok r T2 S2 => (match toD r T2 with
            | some (d', T3) => (compD g tests elt ρ ds T3 S2).bind fun rs T S => .ok (d' :: rs) T S
            | none => .bad)
          | _ => .bad) = _
        rw [h2 hp]
        show (compD g tests elt ρ ds T S).bind (fun rs T S => .ok (f d :: rs) T S) = _
        rw [ih, List.filter_cons, hp]
        rfl
end RB.W0
namespace RB
open PySem PySem.Spec PyProof.Rows L2
structure wpR {α : Type} (r : Res α) (Q : α → Sto → Sto → Prop) : Prop where
  get : W0.wpR r Q
structure wpO (o : Out) (N : Vn → Sto → Sto → Prop) (R : Rv → Sto → Sto → Prop) : Prop where
  get : W0.wpO o N R
structure wpF (r : FRes) (Q : Rv → Sto → Prop) : Prop where
  get : W0.wpF r Q
theorem wpR_def : @wpR = @W0.wpR := by funext α r Q; exact propext ⟨fun h => h.get, fun h => ⟨h⟩⟩
theorem wpO_def : @wpO = @W0.wpO := by funext r Q R; exact propext ⟨fun h => h.get, fun h => ⟨h⟩⟩
theorem wpF_def : @wpF = @W0.wpF := by funext r Q; exact propext ⟨fun h => h.get, fun h => ⟨h⟩⟩
theorem wpR_ok {α : Type} (a : α) (T S : Sto) (Q : α → Sto → Sto → Prop) : wpR (.ok a T S) Q = Q a T S := by
  simp only [wpR_def, wpO_def, wpF_def]
  apply W0.wpR_ok
theorem wpR_bad {α : Type} (Q : α → Sto → Sto → Prop) : wpR (.bad : Res α) Q = False := by
  simp only [wpR_def, wpO_def, wpF_def]
  apply W0.wpR_bad
theorem wpR_bind {α β : Type} (r : Res α) (k : α → Sto → Sto → Res β) (Q : β → Sto → Sto → Prop) : wpR (r.bind k) Q = wpR r fun a T S => wpR (k a T S) Q := by
  simp only [wpR_def, wpO_def, wpF_def]
  apply W0.wpR_bind
theorem wpR_ite {α : Type} (c : Prop) [Decidable c] (r : Res α) (Q : α → Sto → Sto → Prop) : wpR (if c then r else .bad) Q = (c ∧ wpR r Q) := by
  simp only [wpR_def, wpO_def, wpF_def]
  apply W0.wpR_ite
theorem wpR_if {α : Type} (c : Prop) [Decidable c] (r s : Res α) (Q : α → Sto → Sto → Prop) : wpR (if c then r else s) Q = if c then wpR r Q else wpR s Q := by
  simp only [wpR_def, wpO_def, wpF_def]
  apply W0.wpR_if
theorem wpR_mono {α : Type} {r : Res α} {Q Q' : α → Sto → Sto → Prop} (h : wpR r Q) (m : ∀ a T S, Q a T S → Q' a T S) : wpR r Q' := by
  simp only [wpR_def, wpO_def, wpF_def] at *
  exact W0.wpR_mono h m
theorem wpF_mono {r : FRes} {Q Q' : Rv → Sto → Prop} (h : wpF r Q) (m : ∀ a S, Q a S → Q' a S) : wpF r Q' := by
  simp only [wpR_def, wpO_def, wpF_def] at *
  exact W0.wpF_mono h m
theorem wpO_mono {o : Out} {N N' : Vn → Sto → Sto → Prop} {R R' : Rv → Sto → Sto → Prop} (h : wpO o N R) (m : ∀ ρ T S, N ρ T S → N' ρ T S) (m2 : ∀ r T S, R r T S → R' r T S) : wpO o N' R' := by
  simp only [wpR_def, wpO_def, wpF_def] at *
  exact W0.wpO_mono h m m2
theorem wpF_eq {r : FRes} {a : Rv} {S : Sto} (h : wpF r fun b S' => b = a ∧ S' = S) : r = .ok a S := by
  simp only [wpR_def, wpO_def, wpF_def] at *
  exact W0.wpF_eq h
/-! ### statements -/
variable (ρ : Vn) (T S : Sto) (N : Vn → Sto → Sto → Prop) (R : Rv → Sto → Sto → Prop)
theorem wp_out {α : Type} (r : Res α) (k : α → Sto → Sto → Out) : wpO (r.out ρ k) N R = wpR r fun a T S => wpO (k a T S) N R := by
  simp only [wpR_def, wpO_def, wpF_def]
  apply W0.wp_out
theorem wp_thn (o : Out) (s : SM) : wpO (o.thn s) N R = wpO o (fun ρ T S => wpO (s ρ T S) N R) R := by
  simp only [wpR_def, wpO_def, wpF_def]
  apply W0.wp_thn
theorem wp_seq (s u : SM) : wpO (seqS s u ρ T S) N R = wpO (s ρ T S) (fun ρ T S => wpO (u ρ T S) N R) R := by
  simp only [wpR_def, wpO_def, wpF_def]
  apply W0.wp_seq
theorem wp_skip : wpO (skipS ρ T S) N R = N ρ T S := by
  simp only [wpR_def, wpO_def, wpF_def]
  apply W0.wp_skip
theorem wp_ret (m : EM Rv) : wpO (retS m ρ T S) N R = wpR (m ρ T S) R := by
  simp only [wpR_def, wpO_def, wpF_def]
  apply W0.wp_ret
theorem wp_drop (m : EM Rv) : wpO (dropS m ρ T S) N R = wpR (m ρ T S) fun _ T S => N ρ T S := by
  simp only [wpR_def, wpO_def, wpF_def]
  apply W0.wp_drop
theorem wp_set (i : Nat) (m : EM Rv) : wpO (setS i m ρ T S) N R = wpR (m ρ T S) fun r T S => N (ρ.set i (some r)) T S := by
  simp only [wpR_def, wpO_def, wpF_def]
  apply W0.wp_set
theorem wp_ifS (c : EM Bool) (s u : SM) : wpO (ifS c s u ρ T S) N R = wpR (c ρ T S) fun b T S => if b = true then wpO (s ρ T S) N R else wpO (u ρ T S) N R := by
  simp only [wpR_def, wpO_def, wpF_def]
  apply W0.wp_ifS
theorem wp_par (i j : Nat) (ms : EM (List Rv)) : wpO (parS i j ms ρ T S) N R = wpR (ms ρ T S) fun rs T S => ∃ a b, rs = [a, b] ∧ N ((ρ.set i (some a)).set j (some b)) T S := by
  simp only [wpR_def, wpO_def, wpF_def]
  apply W0.wp_par
theorem wp_par3 (i j l : Nat) (ms : EM (List Rv)) : wpO (par3S i j l ms ρ T S) N R = wpR (ms ρ T S) fun rs T S => ∃ a b c, rs = [a, b, c] ∧ N (((ρ.set i (some a)).set j (some b)).set l (some c)) T S := by
  simp only [wpR_def, wpO_def, wpF_def]
  apply W0.wp_par3
theorem wp_unp (is : List Nat) (ms : EM (List Rv)) : wpO (unpS is ms ρ T S) N R = wpR (ms ρ T S) fun rs T S => rs.length = is.length ∧ N (setAll is rs ρ) T S := by
  simp only [wpR_def, wpO_def, wpF_def]
  apply W0.wp_unp
theorem wp_asg (g : TgM) (m : EM Rv) : wpO (asgS g m ρ T S) N R = wpR (m ρ T S) fun r T S => isS (toD r T) fun p => isS (g p.1 ρ) fun ρ' => N ρ' p.2 S := by
  simp only [wpR_def, wpO_def, wpF_def]
  apply W0.wp_asg
theorem wp_dput (md mk m : EM Rv) : wpO (dputS md mk m ρ T S) N R = wpR (m ρ T S) fun r T S => wpR (md ρ T S) fun a T S => wpR (mk ρ T S) fun b T S => ∃ n x, a = .loc n ∧ b = .v (.str x) ∧ isDic S[n]? fun kvs => isS (toD r T) fun p => kvs.length < 16777216 ∧ N ρ p.2 (S.set n (.dic (putD kvs (.inr x) p.1))) := by
  simp only [wpR_def, wpO_def, wpF_def]
  apply W0.wp_dput
theorem wp_for (items : EM (List D)) (g : TgM) (body : SM) : wpO (forS items g body ρ T S) N R = wpR (items ρ T S) fun ds T S => wpO (forD g body ds ρ T S) N R := by
  simp only [wpR_def, wpO_def, wpF_def]
  apply W0.wp_for
theorem wp_forD {g : TgM} {body : SM} {N : Vn → Sto → Sto → Prop} {R : Rv → Sto → Sto → Prop} (I : Nat → Vn → Sto → Sto → Prop) : ∀ (ds : List D) (k : Nat) (ρ : Vn) (T S : Sto), I k ρ T S →
    (∀ i d ρ T S, ds[i]? = some d → I (k + i) ρ T S → isS (g d ρ) fun ρ' => wpO (body ρ' T S) (I (k + i + 1)) R) → (∀ ρ T S, I (k + ds.length) ρ T S → N ρ T S) → wpO (forD g body ds ρ T S) N R := by
  simp only [wpR_def, wpO_def, wpF_def]
  exact W0.wp_forD I
/-! ### expressions -/
section
variable {α : Type} (Q : Rv → Sto → Sto → Prop) (QB : Bool → Sto → Sto → Prop) (QL : List Rv → Sto → Sto → Prop) (QD : List D → Sto → Sto → Prop)
theorem wp_getV (i : Nat) : wpR (getV i ρ T S) Q = isV ρ[i]? fun r => Q r T S := by
  simp only [wpR_def, wpO_def, wpF_def]
  apply W0.wp_getV
theorem wp_cst (d : D) : wpR (cst d ρ T S) Q = Q (.v d) T S := by
  simp only [wpR_def, wpO_def, wpF_def]
  apply W0.wp_cst
theorem wp_bin (o : Rv → Rv → Sto → Sto → Res Rv) (ma mb : EM Rv) : wpR (bin o ma mb ρ T S) Q = wpR (ma ρ T S) fun a T S => wpR (mb ρ T S) fun b T S => wpR (o a b T S) Q := by
  simp only [wpR_def, wpO_def, wpF_def]
  apply W0.wp_bin
theorem wp_asB (m : EM Rv) : wpR (asB m ρ T S) QB = wpR (m ρ T S) fun r T S => isB r fun b => QB b T S := by
  simp only [wpR_def, wpO_def, wpF_def]
  apply W0.wp_asB
theorem wp_notM (m : EM Bool) : wpR (notM m ρ T S) QB = wpR (m ρ T S) fun b T S => QB (!b) T S := by
  simp only [wpR_def, wpO_def, wpF_def]
  apply W0.wp_notM
theorem wp_andM (m n : EM Bool) : wpR (andM m n ρ T S) QB = wpR (m ρ T S) fun b T S => if b = true then wpR (n ρ T S) QB else QB false T S := by
  simp only [wpR_def, wpO_def, wpF_def]
  apply W0.wp_andM
theorem wp_orM (m n : EM Bool) : wpR (orM m n ρ T S) QB = wpR (m ρ T S) fun b T S => if b = true then QB true T S else wpR (n ρ T S) QB := by
  simp only [wpR_def, wpO_def, wpF_def]
  apply W0.wp_orM
theorem wp_andV (m n : EM Rv) : wpR (andV m n ρ T S) Q = wpR (m ρ T S) fun r T S => isB r fun b => if b = true then wpR (n ρ T S) Q else Q (.v (.bool false)) T S := by
  simp only [wpR_def, wpO_def, wpF_def]
  apply W0.wp_andV
theorem wp_orV (m n : EM Rv) : wpR (orV m n ρ T S) Q = wpR (m ρ T S) fun r T S => isB r fun b => if b = true then Q (.v (.bool true)) T S else wpR (n ρ T S) Q := by
  simp only [wpR_def, wpO_def, wpF_def]
  apply W0.wp_orV
theorem wp_notV (m : EM Rv) : wpR (notV m ρ T S) Q = wpR (m ρ T S) fun r T S => isB r fun b => Q (.v (.bool (!b))) T S := by
  simp only [wpR_def, wpO_def, wpF_def]
  apply W0.wp_notV
theorem wp_ifM (c : EM Bool) (m n : EM Rv) : wpR (ifM c m n ρ T S) Q = wpR (c ρ T S) fun b T S => if b = true then wpR (m ρ T S) Q else wpR (n ρ T S) Q := by
  simp only [wpR_def, wpO_def, wpF_def]
  apply W0.wp_ifM
theorem wp_chn (o o' : Rv → Rv → Sto → Sto → Res Rv) (ma mb mc : EM Rv) : wpR (chn o o' ma mb mc ρ T S) Q = wpR (ma ρ T S) fun a T S => wpR (mb ρ T S) fun b T S => wpR (o a b T S) fun r T S => isB r fun k => if k = true then wpR (mc ρ T S) fun c T S => wpR (o' b c T S) Q else Q (.v (.bool false)) T S := by
  simp only [wpR_def, wpO_def, wpF_def]
  apply W0.wp_chn
theorem wp_nilA : wpR (nilA ρ T S) QL = QL [] T S := by
  simp only [wpR_def, wpO_def, wpF_def]
  apply W0.wp_nilA
theorem wp_consA (m : EM Rv) (ms : EM (List Rv)) : wpR (consA m ms ρ T S) QL = wpR (m ρ T S) fun r T S => wpR (ms ρ T S) fun rs T S => QL (r :: rs) T S := by
  simp only [wpR_def, wpO_def, wpF_def]
  apply W0.wp_consA
theorem wp_callM (o : List Rv → Sto → Sto → Res Rv) (ms : EM (List Rv)) : wpR (callM o ms ρ T S) Q = wpR (ms ρ T S) fun rs T S => wpR (o rs T S) Q := by
  simp only [wpR_def, wpO_def, wpF_def]
  apply W0.wp_callM
theorem wp_callF (f : FM) (rs : List Rv) : wpR (callF f rs T S) Q = isS (toAs rs T) fun p => wpF (f p.1 S) fun r S' => Q r p.2 S' := by
  simp only [wpR_def, wpO_def, wpF_def]
  apply W0.wp_callF
theorem wp_tupM (ms : EM (List Rv)) : wpR (tupM ms ρ T S) Q = wpR (ms ρ T S) fun rs T S => isS (toDs rs T) fun p => p.1.length ≤ 16777216 ∧ Q (.v (.tuple p.1)) p.2 S := by
  simp only [wpR_def, wpO_def, wpF_def]
  apply W0.wp_tupM
theorem wp_lstM (ms : EM (List Rv)) : wpR (lstM ms ρ T S) Q = wpR (ms ρ T S) fun rs T S => isS (toDs rs T) fun p => p.1.length ≤ 16777216 ∧ Q (.v (.list p.1)) p.2 S := by
  simp only [wpR_def, wpO_def, wpF_def]
  apply W0.wp_lstM
theorem wp_ownM (ms : EM (List Rv)) : wpR (ownM ms ρ T S) Q = wpR (ms ρ T S) fun rs T S => isS (toDs rs T) fun p => p.1.length ≤ 16777216 ∧ Q (.own p.2.length) (p.2 ++ [.lst p.1]) S := by
  simp only [wpR_def, wpO_def, wpF_def]
  apply W0.wp_ownM
theorem wp_seqM (m : EM Rv) : wpR (seqM m ρ T S) QD = wpR (m ρ T S) fun r T S => wpR (itemsR r T S) QD := by
  simp only [wpR_def, wpO_def, wpF_def]
  apply W0.wp_seqM
theorem wp_methM (ty : Rv → Sto → Sto → Bool) (o : Rv → List Rv → Sto → Sto → Res Rv) (mo : EM Rv) (ms : EM (List Rv)) : wpR (methM ty o mo ms ρ T S) Q = wpR (mo ρ T S) fun r T S => ty r T S = true ∧ wpR (ms ρ T S) fun rs T S => wpR (o r rs T S) Q := by
  simp only [wpR_def, wpO_def, wpF_def]
  apply W0.wp_methM
theorem wp_lcM (own : Bool) (items : EM (List D)) (g : TgM) (tests : EM Bool) (elt : EM Rv) (vs : List Nat) : wpR (lcM own items g tests elt vs ρ T S) Q = wpR (items ρ T S) fun ds T S => wpR (compD g tests elt (wipeV ρ vs) ds T S) fun rs T S => wpR (newL own rs T S) Q := by
  simp only [wpR_def, wpO_def, wpF_def]
  apply W0.wp_lcM
theorem wp_isiM (c : Ty) (m : EM Rv) : wpR (isiM c m ρ T S) Q = wpR (m ρ T S) fun r T S => isS (tyR r T S) fun t => Q (.v (.bool (t.isa c))) T S := by
  simp only [wpR_def, wpO_def, wpF_def]
  apply W0.wp_isiM
theorem wp_isiN (cs : List Ty) (m : EM Rv) : wpR (isiN cs m ρ T S) Q = wpR (m ρ T S) fun r T S => isS (tyR r T S) fun t => Q (.v (.bool (cs.any fun c => t.isa c))) T S := by
  simp only [wpR_def, wpO_def, wpF_def]
  apply W0.wp_isiN
theorem wp_partN {QO : Option Int → Sto → Sto → Prop} : wpR (partM none ρ T S) QO = QO none T S := by
  simp only [wpR_def, wpO_def, wpF_def]
  apply W0.wp_partN
theorem wp_partS {QO : Option Int → Sto → Sto → Prop} (m : EM Rv) : wpR (partM (some m) ρ T S) QO = wpR (m ρ T S) fun r T S => ∃ i, r = .v (.int i) ∧ QO (some i) T S := by
  simp only [wpR_def, wpO_def, wpF_def]
  apply W0.wp_partS
theorem wp_cutM (m : EM Rv) (lo hi : Option (EM Rv)) : wpR (cutM m lo hi ρ T S) Q = wpR (m ρ T S) fun a T S => wpR (partM lo ρ T S) fun l T S => wpR (partM hi ρ T S) fun u T S => wpR (cutR a l u T S) Q := by
  simp only [wpR_def, wpO_def, wpF_def]
  apply W0.wp_cutM
theorem wp_rng1 (ms : EM (List Rv)) : wpR (rng1 ms ρ T S) QD = wpR (ms ρ T S) fun rs T S => ∃ n, rs = [.v (.int n)] ∧ (-(2 ^ 62) ≤ n ∧ n < 2 ^ 62) ∧ QD (intsD 0 n.toNat) T S := by
  simp only [wpR_def, wpO_def, wpF_def]
  apply W0.wp_rng1
theorem wp_rng2 (ms : EM (List Rv)) : wpR (rng2 ms ρ T S) QD = wpR (ms ρ T S) fun rs T S => ∃ a b, rs = [.v (.int a), .v (.int b)] ∧ (-(2 ^ 62) ≤ a ∧ a < 2 ^ 62 ∧ -(2 ^ 62) ≤ b ∧ b < 2 ^ 62) ∧ QD (intsD a (b - a).toNat) T S := by
  simp only [wpR_def, wpO_def, wpF_def]
  apply W0.wp_rng2
theorem wp_negM (m : EM Rv) : wpR (negM m ρ T S) Q = wpR (m ρ T S) fun r T S => ∃ i, r = .v (.int i) ∧ Q (.v (.int (-i))) T S := by
  simp only [wpR_def, wpO_def, wpF_def]
  apply W0.wp_negM
theorem wp_revM (m : EM Rv) : wpR (revM m ρ T S) Q = wpR (m ρ T S) fun r T S => ∃ xs, look r T S = some (.tuple xs) ∧ Q (.v (.tuple xs.reverse)) T S := by
  simp only [wpR_def, wpO_def, wpF_def]
  apply W0.wp_revM
theorem wp_dispM (m : PM) : wpR (dispM m ρ T S) Q = wpR (m ρ T S) fun kvs T S => kvs.length ≤ 15 ∧ Q (.loc S.length) T (S ++ [.dic (kvs.foldl (fun acc kv => putD acc (.inr kv.1) kv.2) [])]) := by
  simp only [wpR_def, wpO_def, wpF_def]
  apply W0.wp_dispM
theorem wp_pnil {QP : List (Str × D) → Sto → Sto → Prop} : wpR (pnil ρ T S) QP = QP [] T S := by
  simp only [wpR_def, wpO_def, wpF_def]
  apply W0.wp_pnil
theorem wp_pcons {QP : List (Str × D) → Sto → Sto → Prop} (mk mv : EM Rv) (r : PM) : wpR (pcons mk mv r ρ T S) QP = wpR (mk ρ T S) fun k T S => wpR (mv ρ T S) fun v T S => ∃ x, k = .v (.str x) ∧ isS (toD v T) fun p => wpR (r ρ p.2 S) fun kvs T S => QP ((x, p.1) :: kvs) T S := by
  simp only [wpR_def, wpO_def, wpF_def]
  apply W0.wp_pcons
theorem wp_sortSetM (m : EM Rv) : wpR (sortSetM m ρ T S) Q = wpR (m ρ T S) fun r T S => ∃ xs ys, look r T S = some (.list xs) ∧ strsD xs = some ys ∧ ys.length ≤ 4000 ∧ Q (.v (.list ((sortS (metS ys)).map .str))) T S := by
  simp only [wpR_def, wpO_def, wpF_def]
  apply W0.wp_sortSetM
end
/-! ### defs -/
theorem wp_run (o : Out) (Q : Rv → Sto → Prop) : wpF (fnRun o) Q = wpO o (fun _ _ S => Q (.v .none) S) fun r T S => wpF (retR r T S) Q := by
  simp only [wpR_def, wpO_def, wpF_def]
  apply W0.wp_run
theorem wpF_ok (r : Rv) (S : Sto) (Q : Rv → Sto → Prop) : wpF (.ok r S) Q = Q r S := by
  simp only [wpR_def, wpO_def, wpF_def]
  apply W0.wpF_ok
theorem fnM_eq (n : Nat) (m : SM) (rs : List Rv) (S : Sto) : fnM n m rs S = fnRun (m (rs.map some ++ List.replicate (n - rs.length) none) [] S) := rfl
/-! ### comprehensions -/
theorem wp_comp {g : TgM} {tests : EM Bool} {elt : EM Rv} {ρ : Vn} {Q : List D → Sto → Sto → Prop} (I : Nat → List D → Sto → Sto → Prop) : ∀ (ds : List D) (k : Nat) (acc : List D) (T S : Sto), I k acc T S →
    (∀ i d acc T S, ds[i]? = some d → I (k + i) acc T S → isS (g d ρ) fun ρ' => wpR (tests ρ' T S) fun b T S => if b = true then wpR (elt ρ' T S) fun r T S => isS (toD r T) fun p => I (k + i + 1) (acc ++ [p.1]) p.2 S else I (k + i + 1) acc T S) →
    (∀ rs T S, I (k + ds.length) (acc ++ rs) T S → Q rs T S) → wpR (compD g tests elt ρ ds T S) Q := by
  simp only [wpR_def, wpO_def, wpF_def]
  exact W0.wp_comp I
theorem comp_pure {g : TgM} {tests : EM Bool} {elt : EM Rv} {ρ : Vn} {T S : Sto} {p : D → Bool} {f : D → D} : ∀ {ds : List D},
    (∀ d, d ∈ ds → isS (g d ρ) fun ρ' => tests ρ' T S = .ok (p d) T S ∧ (p d = true → elt ρ' T S = .ok (.v (f d)) T S)) → compD g tests elt ρ ds T S = .ok ((ds.filter p).map f) T S := W0.comp_pure
end RB

end

/-! text RWp2 -/
section
set_option Elab.async false
set_option linter.all false
set_option maxRecDepth 100000
set_option maxHeartbeats 4000000
/-! RWp2: operations at plain values. -/
namespace RB
open PySem PySem.Spec PyProof.Rows L2
variable (T S : Sto)
theorem wpR_exn {α : Type} (x : Exn) (T S : Sto) (Q : α → Sto → Sto → Prop) : wpR (.exn x T S : Res α) Q = False := by
  rw [wpR_def]; rfl
theorem wpR_eq {α : Type} {r : Res α} {x : α} {T S : Sto} (h : wpR r fun a T' S' => a = x ∧ T' = T ∧ S' = S) : r = .ok x T S := by
  cases r with
  | ok b T' S' => rw [wpR_ok] at h; obtain ⟨h1, h2, h3⟩ := h; rw [h1, h2, h3]
  | exn x T' S' => rw [wpR_exn] at h; exact h.elim
  | bad => rw [wpR_bad] at h; exact h.elim
theorem wpF_ret (d : D) (T S : Sto) (Q : Rv → Sto → Prop) : wpF (retR (.v d) T S) Q = Q (.v d) S := wpF_ok _ _ _
theorem wpF_own (k : Nat) (T S : Sto) (Q : Rv → Sto → Prop) : wpF (retR (.own k) T S) Q = isS (obList T[k]?) fun xs => Q (.v (.list xs)) S := by
  show wpF (match obList T[k]? with | some xs => .ok (.v (.list xs)) S | none => .bad) Q = _
  cases obList T[k]? with
  | none => rw [wpF_def]; rfl
  | some xs => simp only [wpF_ok, isS_s]
theorem ob_l (xs : List D) : obList (some (.lst xs)) = some xs := rfl
theorem ob_f (xs : List D) : obList (some (.frz xs)) = some xs := rfl
theorem filt_true {α : Type} (xs : List α) : xs.filter (fun _ => true) = xs := List.filter_eq_self.mpr fun _ _ => rfl
/-- a comprehension without a test that touches nothing -/
theorem comp_map {g : TgM} {elt : EM Rv} {ρ : Vn} {T S : Sto} (f : D → D) {ds : List D} (h : ∀ d, d ∈ ds → isS (g d ρ) fun ρ' => elt ρ' T S = .ok (.v (f d)) T S) : compD g yesM elt ρ ds T S = .ok (ds.map f) T S := by
  rw [comp_pure (p := fun _ => true) (f := f), filt_true]
  intro d hd
  have h1 := h d hd
  cases e : g d ρ with
  | none => rw [e] at h1; exact h1.elim
  | some ρ' => rw [e] at h1; exact ⟨rfl, fun _ => h1⟩
/-! ### ints -/
theorem o_add_int (i j : Int) : o_add (.v (.int i)) (.v (.int j)) T S = .ok (.v (.int (i + j))) T S := rfl
theorem o_sub_int (i j : Int) : o_sub (.v (.int i)) (.v (.int j)) T S = .ok (.v (.int (i - j))) T S := rfl
theorem o_mul_int (i j : Int) (h : i.natAbs.log2 + j.natAbs.log2 < 1000000) : o_mul (.v (.int i)) (.v (.int j)) T S = .ok (.v (.int (i * j))) T S := by
  show (if cMul i j = true then _ else _) = _
  rw [if_pos (decide_eq_true h)]
theorem log2_small {i : Int} (h : i.natAbs < 2 ^ 400) : i.natAbs.log2 < 400 := by
  by_cases h0 : i.natAbs = 0
  · rw [h0]; decide
  · exact (Nat.log2_lt h0).mpr h
theorem o_mul_small (i j : Int) (h : i.natAbs < 2 ^ 400) (h2 : j.natAbs < 2 ^ 400) : o_mul (.v (.int i)) (.v (.int j)) T S = .ok (.v (.int (i * j))) T S := by
  have := log2_small h
  have := log2_small h2
  exact o_mul_int T S i j (by omega)
theorem o_div_int (i j : Int) (h : 0 < j ∧ j < 1073741824) : o_div (.v (.int i)) (.v (.int j)) T S = .ok (.v (.int (i / j))) T S := by
  show (if cDiv i j = true then _ else _) = _
  rw [if_pos (decide_eq_true h)]
theorem o_mod_int (i j : Int) (h : 0 < j) : o_mod (.v (.int i)) (.v (.int j)) T S = .ok (.v (.int (i % j))) T S := by
  show (if cMod i j = true then _ else _) = _
  rw [if_pos (decide_eq_true h)]
theorem o_pow_int (i j : Int) (h : 0 ≤ j ∧ j ≤ 1000000 ∧ i.natAbs < 2 ^ 64) : o_pow (.v (.int i)) (.v (.int j)) T S = .ok (.v (.int (i ^ j.toNat))) T S := by
  show (if cPow i j = true then _ else _) = _
  rw [if_pos (decide_eq_true h)]
theorem ordC_int (i j : Int) : ordC (.int i) (.int j) = true := by simp [ordC, PySem.W.alike, isNone, deep, PyData.depth]
theorem ordC_str (x y : Str) : ordC (.str x) (.str y) = true := by simp [ordC, PySem.W.alike, isNone, deep, PyData.depth]
theorem o_lt_int (i j : Int) : o_lt (.v (.int i)) (.v (.int j)) T S = .ok (.v (.bool (decide (i < j)))) T S := by simp [o_cmp, look, ordC_int, PySem.W.dataLt_int]
theorem o_gt_int (i j : Int) : o_gt (.v (.int i)) (.v (.int j)) T S = .ok (.v (.bool (decide (j < i)))) T S := by simp [o_cmp, look, ordC_int, PySem.W.dataLt_int]
theorem o_le_int (i j : Int) : o_le (.v (.int i)) (.v (.int j)) T S = .ok (.v (.bool (decide (i ≤ j)))) T S := by
  simp [o_cmp, look, ordC_int, PySem.W.dataLt_int]
  by_cases h : i ≤ j <;> simp [h] <;> omega
theorem o_ge_int (i j : Int) : o_ge (.v (.int i)) (.v (.int j)) T S = .ok (.v (.bool (decide (j ≤ i)))) T S := by
  simp [o_cmp, look, ordC_int, PySem.W.dataLt_int]
  by_cases h : j ≤ i <;> simp [h] <;> omega
theorem deep0 (d e : D) (h : d.depth ≤ 64 ∨ e.depth ≤ 64) : deep d e = true := by
  unfold deep
  exact decide_eq_true (by omega)
theorem o_eq_dd (d e : D) (h : d.depth ≤ 64 ∨ e.depth ≤ 64) : o_eq (.v d) (.v e) T S = .ok (.v (.bool (PyData.eqv d e))) T S := by
  simp [o_cmp, look, deep0 d e h]
theorem o_ne_dd (d e : D) (h : d.depth ≤ 64 ∨ e.depth ≤ 64) : o_ne (.v d) (.v e) T S = .ok (.v (.bool (!PyData.eqv d e))) T S := by
  simp [o_cmp, look, deep0 d e h]
theorem o_eq_int (i j : Int) : o_eq (.v (.int i)) (.v (.int j)) T S = .ok (.v (.bool (decide (i = j)))) T S := by
  rw [o_eq_dd _ _ _ _ (.inl (by simp [PyData.depth]))]
  simp [PyData.eqv, BEq.beq]
theorem o_ne_int (i j : Int) : o_ne (.v (.int i)) (.v (.int j)) T S = .ok (.v (.bool (!decide (i = j)))) T S := by
  rw [o_ne_dd _ _ _ _ (.inl (by simp [PyData.depth]))]
  simp [PyData.eqv, BEq.beq]
theorem depth_nilL : (PyData.list []).depth = 1 := by simp [PyData.depth, PyData.depthAll]
theorem depth_nilT : (PyData.tuple []).depth = 1 := by simp [PyData.depth, PyData.depthAll]
theorem eqvAll_nil (xs : List D) : PyData.eqvAll xs [] = xs.isEmpty := by cases xs <;> simp [PyData.eqvAll]
theorem o_eq_nil (xs : List D) : o_eq (.v (.list xs)) (.v (.list [])) T S = .ok (.v (.bool xs.isEmpty)) T S := by
  rw [o_eq_dd _ _ _ _ (.inr (by rw [depth_nilL]; decide))]
  simp [PyData.eqv, eqvAll_nil]
theorem o_ne_nil (xs : List D) : o_ne (.v (.list xs)) (.v (.list [])) T S = .ok (.v (.bool (!xs.isEmpty))) T S := by
  rw [o_ne_dd _ _ _ _ (.inr (by rw [depth_nilL]; decide))]
  simp [PyData.eqv, eqvAll_nil]
theorem o_eq_nilT (xs : List D) : o_eq (.v (.tuple xs)) (.v (.tuple [])) T S = .ok (.v (.bool xs.isEmpty)) T S := by
  rw [o_eq_dd _ _ _ _ (.inr (by rw [depth_nilT]; decide))]
  simp [PyData.eqv, eqvAll_nil]
theorem o_eq_bool (a b : Bool) : o_eq (.v (.bool a)) (.v (.bool b)) T S = .ok (.v (.bool (a == b))) T S := by
  rw [o_eq_dd _ _ _ _ (.inl (by simp [PyData.depth]))]
  simp [PyData.eqv]
theorem o_ne_bool (a b : Bool) : o_ne (.v (.bool a)) (.v (.bool b)) T S = .ok (.v (.bool (!(a == b)))) T S := by
  rw [o_ne_dd _ _ _ _ (.inl (by simp [PyData.depth]))]
  simp [PyData.eqv]
def ltS (x y : Str) : Bool := decide (x.cps.toList < y.cps.toList)
theorem o_lt_str (x y : Str) : o_lt (.v (.str x)) (.v (.str y)) T S = .ok (.v (.bool (ltS x y))) T S := by simp [o_cmp, look, ordC_str, PySem.W.dataLt_str, ltS]
theorem o_ge_str (x y : Str) : o_ge (.v (.str x)) (.v (.str y)) T S = .ok (.v (.bool (!ltS x y))) T S := by simp [o_cmp, look, ordC_str, PySem.W.dataLt_str, ltS]
/-! ### items -/
theorem atI_nat {α : Type} (xs : List α) (k : Nat) : atI xs (k : Int) = xs[k]? := by
  unfold atI ixN
  rw [if_pos (by omega)]
  by_cases h : k < xs.length
  · rw [if_pos (by omega)]
    simp
  · rw [if_neg (by omega), List.getElem?_eq_none (by omega)]
    rfl
theorem atI_lit {α : Type} (xs : List α) (k : Nat) [OfNat Int k] (h : (OfNat.ofNat k : Int) = (k : Int)) : atI xs (OfNat.ofNat k : Int) = xs[k]? := by rw [h, atI_nat]
theorem atI_0 {α : Type} (xs : List α) : atI xs 0 = xs[0]? := atI_nat xs 0
theorem atI_1 {α : Type} (xs : List α) : atI xs 1 = xs[1]? := atI_nat xs 1
theorem atI_2 {α : Type} (xs : List α) : atI xs 2 = xs[2]? := atI_nat xs 2
theorem atI_3 {α : Type} (xs : List α) : atI xs 3 = xs[3]? := atI_nat xs 3
theorem atI_4 {α : Type} (xs : List α) : atI xs 4 = xs[4]? := atI_nat xs 4
theorem atI_lt {α : Type} (xs : List α) {i : Int} (h0 : 0 ≤ i) (h1 : i < xs.length) : ∃ x, atI xs i = some x ∧ x ∈ xs := by
  obtain ⟨k, rfl⟩ := Int.eq_ofNat_of_zero_le h0
  have hk : k < xs.length := by omega
  rw [atI_nat]
  exact ⟨xs[k], List.getElem?_eq_getElem hk, List.getElem_mem hk⟩
theorem wp_ixT {Q : Rv → Sto → Sto → Prop} (xs : List D) (i : Int) : wpR (o_ix (.v (.tuple xs)) (.v (.int i)) T S) Q = isS (atI xs i) fun d => Q (.v d) T S := by
  show wpR (match atI xs i with | some d => .ok (.v d) T S | none => .bad) Q = _
  cases atI xs i with
  | none => simp only [wpR_bad, isS_n]
  | some d => simp only [wpR_ok, isS_s]
theorem wp_ixL {Q : Rv → Sto → Sto → Prop} (xs : List D) (i : Int) : wpR (o_ix (.v (.list xs)) (.v (.int i)) T S) Q = isS (atI xs i) fun d => Q (.v d) T S := by
  show wpR (match atI xs i with | some d => .ok (.v d) T S | none => .bad) Q = _
  cases atI xs i with
  | none => simp only [wpR_bad, isS_n]
  | some d => simp only [wpR_ok, isS_s]
theorem wp_ixS {Q : Rv → Sto → Sto → Prop} (x : Str) (i : Int) : wpR (o_ix (.v (.str x)) (.v (.int i)) T S) Q = isS (atI x.cps.toList i) fun c => x.length ≤ 16777216 ∧ Q (.v (.str ⟨#[c]⟩)) T S := by
  show wpR (match atI x.cps.toList i with | some c => if x.length ≤ 16777216 then .ok (.v (.str ⟨#[c]⟩)) T S else .bad | none => .bad) Q = _
  cases atI x.cps.toList i with
  | none => simp only [wpR_bad, isS_n]
  | some c => simp only [wpR_ite, wpR_ok, isS_s]
/-! ### len, all, in, zip, slices -/
theorem wp_lenT {Q : Rv → Sto → Sto → Prop} (xs : List D) : wpR (c_len [.v (.tuple xs)] T S) Q = Q (.v (.int xs.length)) T S := wpR_ok _ _ _ _
theorem wp_lenL {Q : Rv → Sto → Sto → Prop} (xs : List D) : wpR (c_len [.v (.list xs)] T S) Q = Q (.v (.int xs.length)) T S := wpR_ok _ _ _ _
theorem wp_lenS {Q : Rv → Sto → Sto → Prop} (x : Str) : wpR (c_len [.v (.str x)] T S) Q = (x.length ≤ 16777216 ∧ Q (.v (.int x.length)) T S) := by
  show wpR (if x.length ≤ 16777216 then .ok (.v (.int x.length)) T S else .bad) Q = _
  rw [wpR_ite, wpR_ok]
theorem bools_map {α : Type} (f : α → Bool) : ∀ xs : List α, bools (xs.map fun x => .bool (f x)) = some (xs.map f)
  | [] => rfl
  | x :: xs => by
    show (bools (xs.map fun x => .bool (f x))).map (f x :: ·) = _
    rw [bools_map f xs]; rfl
theorem wp_all {Q : Rv → Sto → Sto → Prop} {α : Type} (f : α → Bool) (xs : List α) : wpR (c_all [.v (.list (xs.map fun x => .bool (f x)))] T S) Q = Q (.v (.bool (xs.all f))) T S := by
  show wpR (match bools (xs.map fun x => .bool (f x)) with | some bs => .ok (.v (.bool (bs.all id))) T S | none => .bad) Q = _
  rw [bools_map]
  show wpR (.ok (.v (.bool ((xs.map f).all id))) T S) Q = _
  rw [wpR_ok, List.all_map]
  rfl
theorem o_in_sign (neg : Bool) (c : Nat) (z : Str) : o_in neg (.v (.str ⟨#[c]⟩)) (.v (.str z)) T S = .ok (.v (.bool (if neg then !decide (c ∈ z.cps.toList) else decide (c ∈ z.cps.toList)))) T S := rfl
theorem wp_newF {Q : Rv → Sto → Sto → Prop} (ds : List D) : wpR (newL false ds T S) Q = (ds.length ≤ 16777216 ∧ Q (.v (.list ds)) T S) := by
  unfold newL
  simp only [wpR_ite, Bool.false_eq_true, if_false, wpR_ok]
theorem wp_newT {Q : Rv → Sto → Sto → Prop} (ds : List D) : wpR (newL true ds T S) Q = (ds.length ≤ 16777216 ∧ Q (.own T.length) (T ++ [.lst ds]) S) := by
  unfold newL
  simp only [wpR_ite, if_true, wpR_ok]
theorem wp_itemsV {Q : List D → Sto → Sto → Prop} (xs : List D) : wpR (itemsR (.v (.list xs)) T S) Q = Q xs T S := wpR_ok _ _ _ _
theorem wp_itemsT {Q : List D → Sto → Sto → Prop} (xs : List D) : wpR (itemsR (.v (.tuple xs)) T S) Q = Q xs T S := wpR_ok _ _ _ _
theorem wp_itemsS {Q : List D → Sto → Sto → Prop} (x : Str) : wpR (itemsR (.v (.str x)) T S) Q = Q (signs x) T S := wpR_ok _ _ _ _
theorem wp_cutT {Q : Rv → Sto → Sto → Prop} (xs : List D) (l u : Option Int) : wpR (cutR (.v (.tuple xs)) l u T S) Q = Q (.v (.tuple (cutL xs l u))) T S := wpR_ok _ _ _ _
theorem wp_cutLi {Q : Rv → Sto → Sto → Prop} (xs : List D) (l u : Option Int) : wpR (cutR (.v (.list xs)) l u T S) Q = Q (.v (.list (cutL xs l u))) T S := wpR_ok _ _ _ _
theorem wp_cutSt {Q : Rv → Sto → Sto → Prop} (x : Str) (l u : Option Int) : wpR (cutR (.v (.str x)) l u T S) Q = (x.length ≤ 16777216 ∧ Q (.v (.str (cutS x l u))) T S) := by
  show wpR (if x.length ≤ 16777216 then .ok (.v (.str (cutS x l u))) T S else .bad) Q = _
  rw [wpR_ite, wpR_ok]
theorem wp_zipTT {Q : List D → Sto → Sto → Prop} {ρ : Vn} (ms : EM (List Rv)) : wpR (zipM ms ρ T S) Q = wpR (ms ρ T S) fun rs T S => wpR (match toDs rs T with
  | some ([.list xs, .list ys], T') => .ok (zipD xs ys) T' S
  | some ([.tuple xs, .tuple ys], T') => .ok (zipD xs ys) T' S
  | _ => .bad) Q := wpR_bind _ _ _
theorem cut_from1 {α : Type} (xs : List α) : cutL xs (some 1) none = xs.drop 1 := by
  unfold cutL
  have e1 : HT.sIx xs.length 0 (some 1) = min 1 xs.length := HT.sIx_nat _ _ 1
  rw [e1, HT.sIx_none]
  by_cases h : 1 ≤ xs.length
  · rw [Nat.min_eq_left h, List.take_of_length_le]
    rw [List.length_drop]; omega
  · have : xs = [] := List.length_eq_zero_iff.mp (by omega)
    subst this; rfl
theorem cut_to2 {α : Type} (xs : List α) : cutL xs none (some 2) = xs.take 2 := by
  unfold cutL
  have e1 : HT.sIx xs.length xs.length (some 2) = min 2 xs.length := HT.sIx_nat _ _ 2
  rw [e1, HT.sIx_none, List.drop_zero, Nat.sub_zero]
  by_cases h : 2 ≤ xs.length
  · rw [Nat.min_eq_left h]
  · rw [Nat.min_eq_right (by omega), List.take_of_length_le (Nat.le_refl _), List.take_of_length_le (by omega)]
/-! ### two kinds of comprehension -/
theorem get_tg {i : Nat} {ρ : Vn} {d : D} (hi : i < ρ.length) : (ρ.set i (some (.v d)))[i]? = some (some (.v d)) := List.getElem?_set_self hi
theorem comp_call {f : FM} {p : D → Bool} {i : Nat} {ρ : Vn} {xs : List D} {T S : Sto} (hi : i < ρ.length) (h : ∀ d ∈ xs, f [.v d] S = .ok (.v (.bool (p d))) S) :
    compD (tgName i) yesM (callM (callF f) (consA (getV i) nilA)) ρ xs T S = .ok (xs.map fun d => .bool (p d)) T S := by
  refine comp_map _ fun d hd => ?_
  show (callM (callF f) (consA (getV i) nilA)) (ρ.set i (some (.v d))) T S = _
  apply wpR_eq
  rw [wp_callM, wp_consA, wp_getV, get_tg hi]
  simp only [isV_s, wp_nilA, wp_callF, toAs, toA, isS_s, h d hd, wpF_ok]
  refine ⟨?_, ?_, ?_⟩ <;> first | rfl | trivial
theorem comp_not {f : FM} {p : D → Bool} {i : Nat} {ρ : Vn} {xs : List D} {T S : Sto} (hi : i < ρ.length) (h : ∀ d ∈ xs, f [.v d] S = .ok (.v (.bool (p d))) S) :
    compD (tgName i) (notM (asB (callM (callF f) (consA (getV i) nilA)))) (getV i) ρ xs T S = .ok (xs.filter fun d => !p d) T S := by
  have e := comp_pure (g := tgName i) (tests := notM (asB (callM (callF f) (consA (getV i) nilA)))) (elt := getV i) (ρ := ρ) (T := T) (S := S) (p := fun d => !p d) (f := fun d => d) (ds := xs) fun d hd => ?_
  · rw [e, List.map_id']
  · refine ⟨wpR_eq ?_, fun _ => wpR_eq ?_⟩
    · rw [wp_notM, wp_asB, wp_callM, wp_consA, wp_getV, get_tg hi]
      simp only [isV_s, wp_nilA, wp_callF, toAs, toA, isS_s, h d hd, wpF_ok, isB_b]
      refine ⟨?_, ?_, ?_⟩ <;> first | rfl | trivial
    · rw [wp_getV, get_tg hi]
      exact ⟨rfl, rfl, rfl⟩
theorem filt_all {α : Type} (p : α → Bool) : ∀ xs : List α, (xs.filter fun d => !p d).isEmpty = xs.all p
  | [] => rfl
  | x :: xs => by
    rw [List.filter_cons, List.all_cons]
    cases p x with
    | true => exact filt_all p xs
    | false => rfl
end RB
namespace RB
open PySem PySem.Spec PyProof.Rows L2
/-! ### one statement at a time -/
section
variable {ρ : Vn} {T S : Sto} {N : Vn → Sto → Sto → Prop} {R : Rv → Sto → Sto → Prop} {u s a b : SM} {m : EM Rv} {c : EM Bool} {i : Nat}
theorem step_set (P : Rv → Sto → Sto → Prop) (h : wpR (m ρ T S) P) (h2 : ∀ r T S, P r T S → wpO (u (ρ.set i (some r)) T S) N R) : wpO (seqS (setS i m) u ρ T S) N R := by
  rw [wp_seq, wp_set]
  exact wpR_mono h h2
theorem step_drop (P : Rv → Sto → Sto → Prop) (h : wpR (m ρ T S) P) (h2 : ∀ r T S, P r T S → wpO (u ρ T S) N R) : wpO (seqS (dropS m) u ρ T S) N R := by
  rw [wp_seq, wp_drop]
  exact wpR_mono h h2
theorem step_if (P : Bool → Sto → Sto → Prop) (h : wpR (c ρ T S) P) (h2 : ∀ T S, P true T S → wpO (seqS a u ρ T S) N R) (h3 : ∀ T S, P false T S → wpO (seqS b u ρ T S) N R) : wpO (seqS (ifS c a b) u ρ T S) N R := by
  rw [wp_seq, wp_ifS]
  refine wpR_mono h fun k T S hk => ?_
  cases k with
  | true => rw [if_pos rfl]; have := h2 T S hk; rw [wp_seq] at this; exact this
  | false => rw [if_neg (by decide)]; have := h3 T S hk; rw [wp_seq] at this; exact this
theorem step_skip (h : wpO (u ρ T S) N R) : wpO (seqS skipS u ρ T S) N R := h
theorem step_ret (h : wpR (m ρ T S) R) : wpO (seqS (retS m) u ρ T S) N R := by
  rw [wp_seq, wp_ret]; exact h
theorem step_assoc (h : wpO (seqS s (seqS a u) ρ T S) N R) : wpO (seqS (seqS s a) u ρ T S) N R := by
  rw [wp_seq, wp_seq]
  rw [wp_seq] at h
  refine wpO_mono h (fun ρ T S h => ?_) fun _ _ _ h => h
  rw [wp_seq] at h
  exact h
theorem step_mid (M : Vn → Sto → Sto → Prop) (h : wpO (s ρ T S) M R) (h2 : ∀ ρ T S, M ρ T S → wpO (u ρ T S) N R) : wpO (seqS s u ρ T S) N R := by
  rw [wp_seq]
  exact wpO_mono h h2 fun _ _ _ h => h
end
end RB

end

/-! text K01all -/
section
set_option Elab.async false
set_option linter.all false
set_option maxRecDepth 100000
set_option maxHeartbeats 4000000
namespace RB.Law
open PySem PySem.Spec PyProof.Rows L2 RB
def topS (i : Nat) : Stmt := PySem.Challenge.pw_rebuiltby_k01_kinds.main.body.getD i (.Pass ⟨0, 0, 0, 0⟩)
/-- built-ins that stand as they are -/
structure Bt (mg : Str → Option Value) : Prop where
  n_all : mg "all" = none
  n_bool : mg "bool" = none
  n_enumerate : mg "enumerate" = none
  n_int : mg "int" = none
  n_isinstance : mg "isinstance" = none
  n_len : mg "len" = none
  n_list : mg "list" = none
  n_range : mg "range" = none
  n_set : mg "set" = none
  n_sorted : mg "sorted" = none
  n_str : mg "str" = none
  n_tuple : mg "tuple" = none
  n_zip : mg "zip" = none
/-- the module's constants -/
structure Ct (mg : Str → Option Value) : Prop where
  n_ : True
  k_DIGITS : ∃ t, mg "DIGITS" = some (.str (Str.ofString "0123456789") t)
  k_LETTERS : ∃ t, mg "LETTERS" = some (.str (Str.ofString "abcdefghijklmnopqrstuvwxyz") t)
  k_LONGEST_NAME : ∃ t, mg "LONGEST_NAME" = some (.int (8) t)
variable {P : Program} {w : World} {K : PySem.W.Frag} {mg : Str → Option Value} {base : Heap} {ct : Str → Option Addr}
abbrev s_is_integer : Stmt := topS 4
theorem sc_is_integer : FnScope ["thing"] ["thing"] (defScope s_is_integer) := ⟨rfl, rfl, rfl, by decide +kernel, rfl, by decide +kernel, by decide +kernel⟩
def m_is_integer : SM :=
    (retS (andV (isiM .int (getV 0)) (notV (isiM .bool (getV 0)))))
def f_is_integer : FM := fnM 1 m_is_integer
theorem ok_is_integer {f : Addr} {fd : FuncData} (F : Fun K "is_integer" "is_integer" s_is_integer f fd) (hm : mg "is_integer" = some (.ref f)) (B : Bt mg) (C : Ct mg)  : Dfn P w K mg base ct "is_integer" 1 1 f_is_integer := by
  have b : Binds K fd ["thing"] [] := F.binds (ps := ["thing"]) (fun _ _ _ _ _ _ us hl => match us, hl with | [_], _ => (by kernel_rfl))
  have sc := sc_is_integer
  have G : FnOk P w K mg base (L2.CX P w) 1 f fd ["thing"] (spF ct K 1 f_is_integer) := fn_ok (N := ["thing"]) F sc_is_integer (k := 0) (m := m_is_integer) (fun cdv A outer s H E hr => by
    have tk : Takes (cxOf (L2.CX P w) P w K mg base ["thing"] "is_integer" (defScope s_is_integer) f cdv A outer s H E) (WEx E) := takes_of rfl rfl rfl rfl
    exact (sss_one (ss_ret (se_and (se_isi .int rfl B.n_isinstance rfl B.n_int (by decide +kernel) (by decide) rfl (se_var (i := 0) rfl (.inl rfl) rfl rfl) rfl rfl rfl) (se_one (se_not (se_isi .bool rfl B.n_isinstance rfl B.n_bool (by decide +kernel) (by decide) rfl (se_var (i := 0) rfl (.inl rfl) rfl rfl) rfl rfl rfl)))))))
  exact ⟨f, fd, ["thing"], G, F.kp, b, hm⟩
abbrev s_is_number : Stmt := topS 5
theorem sc_is_number : FnScope ["thing"] ["thing"] (defScope s_is_number) := ⟨rfl, rfl, rfl, by decide +kernel, rfl, by decide +kernel, by decide +kernel⟩
def m_is_number : SM :=
    (retS (andV (callM (callF f_is_integer) (consA (getV 0) nilA)) (bin o_ge (getV 0) (cst (.int (0))))))
def f_is_number : FM := fnM 1 m_is_number
theorem ok_is_number {f : Addr} {fd : FuncData} (F : Fun K "is_number" "is_number" s_is_number f fd) (hm : mg "is_number" = some (.ref f)) (B : Bt mg) (C : Ct mg) (d_is_integer : Dfn P w K mg base ct "is_integer" 1 1 f_is_integer) : Dfn P w K mg base ct "is_number" 2 1 f_is_number := by
  have b : Binds K fd ["thing"] [] := F.binds (ps := ["thing"]) (fun _ _ _ _ _ _ us hl => match us, hl with | [_], _ => (by kernel_rfl))
  have sc := sc_is_number
  have G : FnOk P w K mg base (L2.CX P w) 2 f fd ["thing"] (spF ct K 1 f_is_number) := fn_ok (N := ["thing"]) F sc_is_number (k := 1) (m := m_is_number) (fun cdv A outer s H E hr => by
    have tk : Takes (cxOf (L2.CX P w) P w K mg base ["thing"] "is_number" (defScope s_is_number) f cdv A outer s H E) (WEx E) := takes_of rfl rfl rfl rfl
    exact (sss_one (ss_ret (se_and (se_fn d_is_integer hr (by decide) tk rfl (san_cons (se_var (i := 0) rfl (.inl rfl) rfl rfl) san_nil rfl) rfl rfl rfl) (se_one (se_cmp (ops_ge hr.units) (se_var (i := 0) rfl (.inl rfl) rfl rfl) se_int rfl))))))
  exact ⟨f, fd, ["thing"], G, F.kp, b, hm⟩
abbrev s_is_weight : Stmt := topS 6
theorem sc_is_weight : FnScope ["thing"] ["thing"] (defScope s_is_weight) := ⟨rfl, rfl, rfl, by decide +kernel, rfl, by decide +kernel, by decide +kernel⟩
def m_is_weight : SM :=
    (retS (andV (callM (callF f_is_integer) (consA (getV 0) nilA)) (bin o_ge (getV 0) (cst (.int (1))))))
def f_is_weight : FM := fnM 1 m_is_weight
theorem ok_is_weight {f : Addr} {fd : FuncData} (F : Fun K "is_weight" "is_weight" s_is_weight f fd) (hm : mg "is_weight" = some (.ref f)) (B : Bt mg) (C : Ct mg) (d_is_integer : Dfn P w K mg base ct "is_integer" 1 1 f_is_integer) : Dfn P w K mg base ct "is_weight" 2 1 f_is_weight := by
  have b : Binds K fd ["thing"] [] := F.binds (ps := ["thing"]) (fun _ _ _ _ _ _ us hl => match us, hl with | [_], _ => (by kernel_rfl))
  have sc := sc_is_weight
  have G : FnOk P w K mg base (L2.CX P w) 2 f fd ["thing"] (spF ct K 1 f_is_weight) := fn_ok (N := ["thing"]) F sc_is_weight (k := 1) (m := m_is_weight) (fun cdv A outer s H E hr => by
    have tk : Takes (cxOf (L2.CX P w) P w K mg base ["thing"] "is_weight" (defScope s_is_weight) f cdv A outer s H E) (WEx E) := takes_of rfl rfl rfl rfl
    exact (sss_one (ss_ret (se_and (se_fn d_is_integer hr (by decide) tk rfl (san_cons (se_var (i := 0) rfl (.inl rfl) rfl rfl) san_nil rfl) rfl rfl rfl) (se_one (se_cmp (ops_ge hr.units) (se_var (i := 0) rfl (.inl rfl) rfl rfl) se_int rfl))))))
  exact ⟨f, fd, ["thing"], G, F.kp, b, hm⟩
abbrev s_is_name : Stmt := topS 7
theorem sc_is_name : FnScope ["thing", "sign"] ["thing"] (defScope s_is_name) := ⟨rfl, rfl, rfl, by decide +kernel, rfl, by decide +kernel, by decide +kernel⟩
def m_is_name : SM :=
    (seqS (ifS (orM (notM (asB (isiM .str (getV 0)))) (orM (notM (asB (chn o_le o_le (cst (.int (1))) (callM c_len (consA (getV 0) nilA)) (cst (.int (8)))))) (asB (bin (o_in true) (bin o_ix (getV 0) (cst (.int (0)))) (cst (.str (Str.ofString "abcdefghijklmnopqrstuvwxyz"))))))) (retS (cst (.bool false))) skipS)
    (retS (callM c_all (consA (lcM false (seqM (getV 0)) (tgName 1) yesM (orV (bin (o_in false) (getV 1) (cst (.str (Str.ofString "abcdefghijklmnopqrstuvwxyz")))) (bin (o_in false) (getV 1) (cst (.str (Str.ofString "0123456789"))))) [1]) nilA))))
def f_is_name : FM := fnM 2 m_is_name
theorem ok_is_name {f : Addr} {fd : FuncData} (F : Fun K "is_name" "is_name" s_is_name f fd) (hm : mg "is_name" = some (.ref f)) (B : Bt mg) (C : Ct mg)  : Dfn P w K mg base ct "is_name" 1 1 f_is_name := by
  have b : Binds K fd ["thing"] [] := F.binds (ps := ["thing"]) (fun _ _ _ _ _ _ us hl => match us, hl with | [_], _ => (by kernel_rfl))
  have sc := sc_is_name
  have G : FnOk P w K mg base (L2.CX P w) 1 f fd ["thing"] (spF ct K 1 f_is_name) := fn_ok (N := ["thing", "sign"]) F sc_is_name (k := 0) (m := m_is_name) (fun cdv A outer s H E hr => by
    have tk : Takes (cxOf (L2.CX P w) P w K mg base ["thing", "sign"] "is_name" (defScope s_is_name) f cdv A outer s H E) (WEx E) := takes_of rfl rfl rfl rfl
    exact (sss_cons (ss_if (st_w (sw_or (st_not (st_val (se_isi .str rfl B.n_isinstance rfl B.n_str (by decide +kernel) (by decide) rfl (se_var (i := 0) rfl (.inl rfl) rfl rfl) rfl rfl rfl) (fun _ => rfl))) (sw_or (st_not (st_chain (ops_le hr.units) (ops_le hr.units) se_int (se_callB cs_len rfl B.n_len (by decide +kernel) (sa_cons (se_var (i := 0) rfl (.inl rfl) rfl rfl) sa_nil rfl) (by decide) rfl rfl rfl) (se_globI rfl C.k_LONGEST_NAME.choose_spec rfl) rfl)) (sw_or1 (st_cmp (ops_notin hr.units) (se_ix ixs (se_var (i := 0) rfl (.inl rfl) rfl rfl) se_int (fun _ _ => rfl)) (se_globS rfl C.k_LETTERS.choose_spec rfl) rfl))))) (sss_one (ss_ret se_bl)) sss_nil)
      (sss_one (ss_ret (se_callB (cs_all rfl) rfl B.n_all (by decide +kernel) (sa_cons (se_lc false (ow := [("sign", 1)]) rfl sc.nd (si_seq (se_var (i := 0) rfl (.inl rfl) rfl rfl)) (blkOk_by (by kernel_rfl)) (by decide) (fun _ _ _ _ _ => (sg_name (i := 1) sc.nd rfl (.inl rfl) (.inr rfl))) (fun _ _ _ _ _ => sts_nil) (fun _ _ _ _ _ => (se_or (se_cmp (ops_in hr.units) (se_var (i := 1) rfl (.inl rfl) rfl rfl) (se_globS rfl C.k_LETTERS.choose_spec rfl) rfl) (se_one (se_cmp (ops_in hr.units) (se_var (i := 1) rfl (.inl rfl) rfl rfl) (se_globS rfl C.k_DIGITS.choose_spec rfl) rfl)))) (fun _ => rfl)) sa_nil rfl) (by decide) rfl rfl rfl)))))
  exact ⟨f, fd, ["thing"], G, F.kp, b, hm⟩
abbrev s_is_tuple_of : Stmt := topS 8
theorem sc_is_tuple_of : FnScope ["thing", "many"] ["thing", "many"] (defScope s_is_tuple_of) := ⟨rfl, rfl, rfl, by decide +kernel, rfl, by decide +kernel, by decide +kernel⟩
def m_is_tuple_of : SM :=
    (retS (andV (isiM .tuple (getV 0)) (bin o_eq (callM c_len (consA (getV 0) nilA)) (getV 1))))
def f_is_tuple_of : FM := fnM 2 m_is_tuple_of
theorem ok_is_tuple_of {f : Addr} {fd : FuncData} (F : Fun K "is_tuple_of" "is_tuple_of" s_is_tuple_of f fd) (hm : mg "is_tuple_of" = some (.ref f)) (B : Bt mg) (C : Ct mg)  : Dfn P w K mg base ct "is_tuple_of" 1 2 f_is_tuple_of := by
  have b : Binds K fd ["thing", "many"] [] := F.binds (ps := ["thing", "many"]) (fun _ _ _ _ _ _ us hl => match us, hl with | [_, _], _ => (by kernel_rfl))
  have sc := sc_is_tuple_of
  have G : FnOk P w K mg base (L2.CX P w) 1 f fd ["thing", "many"] (spF ct K 2 f_is_tuple_of) := fn_ok (N := ["thing", "many"]) F sc_is_tuple_of (k := 0) (m := m_is_tuple_of) (fun cdv A outer s H E hr => by
    have tk : Takes (cxOf (L2.CX P w) P w K mg base ["thing", "many"] "is_tuple_of" (defScope s_is_tuple_of) f cdv A outer s H E) (WEx E) := takes_of rfl rfl rfl rfl
    exact (sss_one (ss_ret (se_and (se_isi .tuple rfl B.n_isinstance rfl B.n_tuple (by decide +kernel) (by decide) rfl (se_var (i := 0) rfl (.inl rfl) rfl rfl) rfl rfl rfl) (se_one (se_cmp (ops_eq hr.units) (se_callB cs_len rfl B.n_len (by decide +kernel) (sa_cons (se_var (i := 0) rfl (.inl rfl) rfl rfl) sa_nil rfl) (by decide) rfl rfl rfl) (se_var (i := 1) rfl (.inl rfl) rfl rfl) rfl))))))
  exact ⟨f, fd, ["thing", "many"], G, F.kp, b, hm⟩
abbrev s_are_names : Stmt := topS 9
theorem sc_are_names : FnScope ["thing", "one"] ["thing"] (defScope s_are_names) := ⟨rfl, rfl, rfl, by decide +kernel, rfl, by decide +kernel, by decide +kernel⟩
def m_are_names : SM :=
    (retS (andV (isiM .tuple (getV 0)) (callM c_all (consA (lcM false (seqM (getV 0)) (tgName 1) yesM (callM (callF f_is_name) (consA (getV 1) nilA)) [1]) nilA))))
def f_are_names : FM := fnM 2 m_are_names
theorem ok_are_names {f : Addr} {fd : FuncData} (F : Fun K "are_names" "are_names" s_are_names f fd) (hm : mg "are_names" = some (.ref f)) (B : Bt mg) (C : Ct mg) (d_is_name : Dfn P w K mg base ct "is_name" 1 1 f_is_name) : Dfn P w K mg base ct "are_names" 2 1 f_are_names := by
  have b : Binds K fd ["thing"] [] := F.binds (ps := ["thing"]) (fun _ _ _ _ _ _ us hl => match us, hl with | [_], _ => (by kernel_rfl))
  have sc := sc_are_names
  have G : FnOk P w K mg base (L2.CX P w) 2 f fd ["thing"] (spF ct K 1 f_are_names) := fn_ok (N := ["thing", "one"]) F sc_are_names (k := 1) (m := m_are_names) (fun cdv A outer s H E hr => by
    have tk : Takes (cxOf (L2.CX P w) P w K mg base ["thing", "one"] "are_names" (defScope s_are_names) f cdv A outer s H E) (WEx E) := takes_of rfl rfl rfl rfl
    exact (sss_one (ss_ret (se_and (se_isi .tuple rfl B.n_isinstance rfl B.n_tuple (by decide +kernel) (by decide) rfl (se_var (i := 0) rfl (.inl rfl) rfl rfl) rfl rfl rfl) (se_one (se_callB (cs_all rfl) rfl B.n_all (by decide +kernel) (sa_cons (se_lc false (ow := [("one", 1)]) rfl sc.nd (si_seq (se_var (i := 0) rfl (.inl rfl) rfl rfl)) (blkOk_by (by kernel_rfl)) (by decide) (fun _ _ _ _ _ => (sg_name (i := 1) sc.nd rfl (.inl rfl) (.inr rfl))) (fun _ _ _ _ _ => sts_nil) (fun _ _ _ _ _ => (se_fn d_is_name hr (by decide) takes0 rfl (san_cons (se_var (i := 1) rfl (.inl rfl) rfl rfl) san_nil rfl) rfl rfl rfl)) (fun _ => rfl)) sa_nil rfl) (by decide) rfl rfl rfl))))))
  exact ⟨f, fd, ["thing"], G, F.kp, b, hm⟩
abbrev s_is_rising : Stmt := topS 10
theorem sc_is_rising : FnScope ["some", "one", "other"] ["some"] (defScope s_is_rising) := ⟨rfl, rfl, rfl, by decide +kernel, rfl, by decide +kernel, by decide +kernel⟩
def m_is_rising : SM :=
    (retS (callM c_all (consA (lcM false (zipM (consA (getV 0) (consA (cutM (getV 0) (some (cst (.int (1)))) none) nilA))) (tgTup 2 (tgsCons (tgName 1) (tgsCons (tgName 2) tgsNil))) yesM (bin o_lt (getV 1) (getV 2)) [1, 2]) nilA)))
def f_is_rising : FM := fnM 3 m_is_rising
theorem ok_is_rising {f : Addr} {fd : FuncData} (F : Fun K "is_rising" "is_rising" s_is_rising f fd) (hm : mg "is_rising" = some (.ref f)) (B : Bt mg) (C : Ct mg)  : Dfn P w K mg base ct "is_rising" 1 1 f_is_rising := by
  have b : Binds K fd ["some"] [] := F.binds (ps := ["some"]) (fun _ _ _ _ _ _ us hl => match us, hl with | [_], _ => (by kernel_rfl))
  have sc := sc_is_rising
  have G : FnOk P w K mg base (L2.CX P w) 1 f fd ["some"] (spF ct K 1 f_is_rising) := fn_ok (N := ["some", "one", "other"]) F sc_is_rising (k := 0) (m := m_is_rising) (fun cdv A outer s H E hr => by
    have tk : Takes (cxOf (L2.CX P w) P w K mg base ["some", "one", "other"] "is_rising" (defScope s_is_rising) f cdv A outer s H E) (WEx E) := takes_of rfl rfl rfl rfl
    exact (sss_one (ss_ret (se_callB (cs_all rfl) rfl B.n_all (by decide +kernel) (sa_cons (se_lc false (ow := [("one", 1), ("other", 2)]) rfl sc.nd (si_zip rfl B.n_zip (sa_cons (se_var (i := 0) rfl (.inl rfl) rfl rfl) (sa_cons (se_cut (se_var (i := 0) rfl (.inl rfl) rfl rfl) (so_some se_int) so_none) sa_nil rfl) rfl) rfl rfl) (blkOk_by (by kernel_rfl)) (by decide) (fun _ _ _ _ _ => (sg_tup rfl (sgs_cons (sg_name (i := 1) sc.nd rfl (.inl rfl) (.inr rfl)) (sgs_cons (sg_name (i := 2) sc.nd rfl (.inl rfl) (.inr rfl)) sgs_nil rfl) rfl) rfl rfl)) (fun _ _ _ _ _ => sts_nil) (fun _ _ _ _ _ => (se_cmp (ops_lt hr.units) (se_var (i := 1) rfl (.inl rfl) rfl rfl) (se_var (i := 2) rfl (.inl rfl) rfl rfl) rfl)) (fun _ => rfl)) sa_nil rfl) (by decide) rfl rfl rfl))))
  exact ⟨f, fd, ["some"], G, F.kp, b, hm⟩
abbrev s_is_set : Stmt := topS 11
theorem sc_is_set : FnScope ["thing"] ["thing"] (defScope s_is_set) := ⟨rfl, rfl, rfl, by decide +kernel, rfl, by decide +kernel, by decide +kernel⟩
def m_is_set : SM :=
    (retS (andV (callM (callF f_are_names) (consA (getV 0) nilA)) (callM (callF f_is_rising) (consA (getV 0) nilA))))
def f_is_set : FM := fnM 1 m_is_set
theorem ok_is_set {f : Addr} {fd : FuncData} (F : Fun K "is_set" "is_set" s_is_set f fd) (hm : mg "is_set" = some (.ref f)) (B : Bt mg) (C : Ct mg) (d_are_names : Dfn P w K mg base ct "are_names" 2 1 f_are_names) (d_is_rising : Dfn P w K mg base ct "is_rising" 1 1 f_is_rising) : Dfn P w K mg base ct "is_set" 3 1 f_is_set := by
  have b : Binds K fd ["thing"] [] := F.binds (ps := ["thing"]) (fun _ _ _ _ _ _ us hl => match us, hl with | [_], _ => (by kernel_rfl))
  have sc := sc_is_set
  have G : FnOk P w K mg base (L2.CX P w) 3 f fd ["thing"] (spF ct K 1 f_is_set) := fn_ok (N := ["thing"]) F sc_is_set (k := 2) (m := m_is_set) (fun cdv A outer s H E hr => by
    have tk : Takes (cxOf (L2.CX P w) P w K mg base ["thing"] "is_set" (defScope s_is_set) f cdv A outer s H E) (WEx E) := takes_of rfl rfl rfl rfl
    exact (sss_one (ss_ret (se_and (se_fn d_are_names hr (by decide) tk rfl (san_cons (se_var (i := 0) rfl (.inl rfl) rfl rfl) san_nil rfl) rfl rfl rfl) (se_one (se_fn d_is_rising hr (by decide) tk rfl (san_cons (se_var (i := 0) rfl (.inl rfl) rfl rfl) san_nil rfl) rfl rfl rfl))))))
  exact ⟨f, fd, ["thing"], G, F.kp, b, hm⟩
abbrev s_is_name_pair : Stmt := topS 12
theorem sc_is_name_pair : FnScope ["thing"] ["thing"] (defScope s_is_name_pair) := ⟨rfl, rfl, rfl, by decide +kernel, rfl, by decide +kernel, by decide +kernel⟩
def m_is_name_pair : SM :=
    (retS (andV (callM (callF f_are_names) (consA (getV 0) nilA)) (bin o_eq (callM c_len (consA (getV 0) nilA)) (cst (.int (2))))))
def f_is_name_pair : FM := fnM 1 m_is_name_pair
theorem ok_is_name_pair {f : Addr} {fd : FuncData} (F : Fun K "is_name_pair" "is_name_pair" s_is_name_pair f fd) (hm : mg "is_name_pair" = some (.ref f)) (B : Bt mg) (C : Ct mg) (d_are_names : Dfn P w K mg base ct "are_names" 2 1 f_are_names) : Dfn P w K mg base ct "is_name_pair" 3 1 f_is_name_pair := by
  have b : Binds K fd ["thing"] [] := F.binds (ps := ["thing"]) (fun _ _ _ _ _ _ us hl => match us, hl with | [_], _ => (by kernel_rfl))
  have sc := sc_is_name_pair
  have G : FnOk P w K mg base (L2.CX P w) 3 f fd ["thing"] (spF ct K 1 f_is_name_pair) := fn_ok (N := ["thing"]) F sc_is_name_pair (k := 2) (m := m_is_name_pair) (fun cdv A outer s H E hr => by
    have tk : Takes (cxOf (L2.CX P w) P w K mg base ["thing"] "is_name_pair" (defScope s_is_name_pair) f cdv A outer s H E) (WEx E) := takes_of rfl rfl rfl rfl
    exact (sss_one (ss_ret (se_and (se_fn d_are_names hr (by decide) tk rfl (san_cons (se_var (i := 0) rfl (.inl rfl) rfl rfl) san_nil rfl) rfl rfl rfl) (se_one (se_cmp (ops_eq hr.units) (se_callB cs_len rfl B.n_len (by decide +kernel) (sa_cons (se_var (i := 0) rfl (.inl rfl) rfl rfl) sa_nil rfl) (by decide) rfl rfl rfl) se_int rfl))))))
  exact ⟨f, fd, ["thing"], G, F.kp, b, hm⟩
abbrev s_is_fact : Stmt := topS 13
theorem sc_is_fact : FnScope ["thing"] ["thing"] (defScope s_is_fact) := ⟨rfl, rfl, rfl, by decide +kernel, rfl, by decide +kernel, by decide +kernel⟩
def m_is_fact : SM :=
    (retS (callM (callF f_is_name_pair) (consA (getV 0) nilA)))
def f_is_fact : FM := fnM 1 m_is_fact
theorem ok_is_fact {f : Addr} {fd : FuncData} (F : Fun K "is_fact" "is_fact" s_is_fact f fd) (hm : mg "is_fact" = some (.ref f)) (B : Bt mg) (C : Ct mg) (d_is_name_pair : Dfn P w K mg base ct "is_name_pair" 3 1 f_is_name_pair) : Dfn P w K mg base ct "is_fact" 4 1 f_is_fact := by
  have b : Binds K fd ["thing"] [] := F.binds (ps := ["thing"]) (fun _ _ _ _ _ _ us hl => match us, hl with | [_], _ => (by kernel_rfl))
  have sc := sc_is_fact
  have G : FnOk P w K mg base (L2.CX P w) 4 f fd ["thing"] (spF ct K 1 f_is_fact) := fn_ok (N := ["thing"]) F sc_is_fact (k := 3) (m := m_is_fact) (fun cdv A outer s H E hr => by
    have tk : Takes (cxOf (L2.CX P w) P w K mg base ["thing"] "is_fact" (defScope s_is_fact) f cdv A outer s H E) (WEx E) := takes_of rfl rfl rfl rfl
    exact (sss_one (ss_ret (se_fn d_is_name_pair hr (by decide) tk rfl (san_cons (se_var (i := 0) rfl (.inl rfl) rfl rfl) san_nil rfl) rfl rfl rfl))))
  exact ⟨f, fd, ["thing"], G, F.kp, b, hm⟩
abbrev s_is_source : Stmt := topS 14
theorem sc_is_source : FnScope ["thing"] ["thing"] (defScope s_is_source) := ⟨rfl, rfl, rfl, by decide +kernel, rfl, by decide +kernel, by decide +kernel⟩
def m_is_source : SM :=
    (seqS (ifS (orM (notM (asB (callM (callF f_is_tuple_of) (consA (getV 0) (consA (cst (.int (5))) nilA))))) (orM (notM (asB (callM (callF f_is_name) (consA (bin o_ix (getV 0) (cst (.int (0)))) nilA)))) (notM (asB (callM (callF f_is_name) (consA (bin o_ix (getV 0) (cst (.int (1)))) nilA)))))) (retS (cst (.bool false))) skipS)
    (retS (andV (callM (callF f_is_set) (consA (bin o_ix (getV 0) (cst (.int (2)))) nilA)) (andV (isiM .bool (bin o_ix (getV 0) (cst (.int (3))))) (callM (callF f_is_set) (consA (bin o_ix (getV 0) (cst (.int (4)))) nilA))))))
def f_is_source : FM := fnM 1 m_is_source
theorem ok_is_source {f : Addr} {fd : FuncData} (F : Fun K "is_source" "is_source" s_is_source f fd) (hm : mg "is_source" = some (.ref f)) (B : Bt mg) (C : Ct mg) (d_is_name : Dfn P w K mg base ct "is_name" 1 1 f_is_name) (d_is_set : Dfn P w K mg base ct "is_set" 3 1 f_is_set) (d_is_tuple_of : Dfn P w K mg base ct "is_tuple_of" 1 2 f_is_tuple_of) : Dfn P w K mg base ct "is_source" 4 1 f_is_source := by
  have b : Binds K fd ["thing"] [] := F.binds (ps := ["thing"]) (fun _ _ _ _ _ _ us hl => match us, hl with | [_], _ => (by kernel_rfl))
  have sc := sc_is_source
  have G : FnOk P w K mg base (L2.CX P w) 4 f fd ["thing"] (spF ct K 1 f_is_source) := fn_ok (N := ["thing"]) F sc_is_source (k := 3) (m := m_is_source) (fun cdv A outer s H E hr => by
    have tk : Takes (cxOf (L2.CX P w) P w K mg base ["thing"] "is_source" (defScope s_is_source) f cdv A outer s H E) (WEx E) := takes_of rfl rfl rfl rfl
    exact (sss_cons (ss_if (st_w (sw_or (st_not (st_val (se_fn d_is_tuple_of hr (by decide) tk rfl (san_cons (se_var (i := 0) rfl (.inl rfl) rfl rfl) (san_cons se_int san_nil rfl) rfl) rfl rfl rfl) (fun _ => rfl))) (sw_or (st_not (st_val (se_fn d_is_name hr (by decide) tk rfl (san_cons (se_ix ixs (se_var (i := 0) rfl (.inl rfl) rfl rfl) se_int (fun _ _ => rfl)) san_nil rfl) rfl rfl rfl) (fun _ => rfl))) (sw_or1 (st_not (st_val (se_fn d_is_name hr (by decide) tk rfl (san_cons (se_ix ixs (se_var (i := 0) rfl (.inl rfl) rfl rfl) se_int (fun _ _ => rfl)) san_nil rfl) rfl rfl rfl) (fun _ => rfl))))))) (sss_one (ss_ret se_bl)) sss_nil)
      (sss_one (ss_ret (se_and (se_fn d_is_set hr (by decide) tk rfl (san_cons (se_ix ixs (se_var (i := 0) rfl (.inl rfl) rfl rfl) se_int (fun _ _ => rfl)) san_nil rfl) rfl rfl rfl) (se_and (se_isi .bool rfl B.n_isinstance rfl B.n_bool (by decide +kernel) (by decide) rfl (se_ix ixs (se_var (i := 0) rfl (.inl rfl) rfl rfl) se_int (fun _ _ => rfl)) rfl rfl rfl) (se_one (se_fn d_is_set hr (by decide) tk rfl (san_cons (se_ix ixs (se_var (i := 0) rfl (.inl rfl) rfl rfl) se_int (fun _ _ => rfl)) san_nil rfl) rfl rfl rfl))))))))
  exact ⟨f, fd, ["thing"], G, F.kp, b, hm⟩
abbrev s_is_party : Stmt := topS 15
theorem sc_is_party : FnScope ["thing"] ["thing"] (defScope s_is_party) := ⟨rfl, rfl, rfl, by decide +kernel, rfl, by decide +kernel, by decide +kernel⟩
def m_is_party : SM :=
    (retS (andV (callM (callF f_is_tuple_of) (consA (getV 0) (consA (cst (.int (2))) nilA))) (andV (callM (callF f_is_name) (consA (bin o_ix (getV 0) (cst (.int (0)))) nilA)) (callM (callF f_is_weight) (consA (bin o_ix (getV 0) (cst (.int (1)))) nilA)))))
def f_is_party : FM := fnM 1 m_is_party
theorem ok_is_party {f : Addr} {fd : FuncData} (F : Fun K "is_party" "is_party" s_is_party f fd) (hm : mg "is_party" = some (.ref f)) (B : Bt mg) (C : Ct mg) (d_is_name : Dfn P w K mg base ct "is_name" 1 1 f_is_name) (d_is_tuple_of : Dfn P w K mg base ct "is_tuple_of" 1 2 f_is_tuple_of) (d_is_weight : Dfn P w K mg base ct "is_weight" 2 1 f_is_weight) : Dfn P w K mg base ct "is_party" 3 1 f_is_party := by
  have b : Binds K fd ["thing"] [] := F.binds (ps := ["thing"]) (fun _ _ _ _ _ _ us hl => match us, hl with | [_], _ => (by kernel_rfl))
  have sc := sc_is_party
  have G : FnOk P w K mg base (L2.CX P w) 3 f fd ["thing"] (spF ct K 1 f_is_party) := fn_ok (N := ["thing"]) F sc_is_party (k := 2) (m := m_is_party) (fun cdv A outer s H E hr => by
    have tk : Takes (cxOf (L2.CX P w) P w K mg base ["thing"] "is_party" (defScope s_is_party) f cdv A outer s H E) (WEx E) := takes_of rfl rfl rfl rfl
    exact (sss_one (ss_ret (se_and (se_fn d_is_tuple_of hr (by decide) tk rfl (san_cons (se_var (i := 0) rfl (.inl rfl) rfl rfl) (san_cons se_int san_nil rfl) rfl) rfl rfl rfl) (se_and (se_fn d_is_name hr (by decide) tk rfl (san_cons (se_ix ixs (se_var (i := 0) rfl (.inl rfl) rfl rfl) se_int (fun _ _ => rfl)) san_nil rfl) rfl rfl rfl) (se_one (se_fn d_is_weight hr (by decide) tk rfl (san_cons (se_ix ixs (se_var (i := 0) rfl (.inl rfl) rfl rfl) se_int (fun _ _ => rfl)) san_nil rfl) rfl rfl rfl)))))))
  exact ⟨f, fd, ["thing"], G, F.kp, b, hm⟩
abbrev s_is_build : Stmt := topS 16
theorem sc_is_build : FnScope ["thing"] ["thing"] (defScope s_is_build) := ⟨rfl, rfl, rfl, by decide +kernel, rfl, by decide +kernel, by decide +kernel⟩
def m_is_build : SM :=
    (seqS (ifS (orM (notM (asB (callM (callF f_is_tuple_of) (consA (getV 0) (consA (cst (.int (5))) nilA))))) (orM (notM (asB (callM (callF f_is_name) (consA (bin o_ix (getV 0) (cst (.int (0)))) nilA)))) (notM (asB (callM (callF f_is_name) (consA (bin o_ix (getV 0) (cst (.int (2)))) nilA)))))) (retS (cst (.bool false))) skipS)
    (seqS (ifS (orM (notM (asB (callM (callF f_are_names) (consA (bin o_ix (getV 0) (cst (.int (3)))) nilA)))) (notM (asB (callM (callF f_is_name) (consA (bin o_ix (getV 0) (cst (.int (4)))) nilA))))) (retS (cst (.bool false))) skipS)
    (retS (ifM (asB (bin (isN false) (bin o_ix (getV 0) (cst (.int (1)))) (cst .none))) (bin o_eq (callM c_len (consA (bin o_ix (getV 0) (cst (.int (3)))) nilA)) (cst (.int (0)))) (callM (callF f_is_name) (consA (bin o_ix (getV 0) (cst (.int (1)))) nilA))))))
def f_is_build : FM := fnM 1 m_is_build
theorem ok_is_build {f : Addr} {fd : FuncData} (F : Fun K "is_build" "is_build" s_is_build f fd) (hm : mg "is_build" = some (.ref f)) (B : Bt mg) (C : Ct mg) (d_are_names : Dfn P w K mg base ct "are_names" 2 1 f_are_names) (d_is_name : Dfn P w K mg base ct "is_name" 1 1 f_is_name) (d_is_tuple_of : Dfn P w K mg base ct "is_tuple_of" 1 2 f_is_tuple_of) : Dfn P w K mg base ct "is_build" 3 1 f_is_build := by
  have b : Binds K fd ["thing"] [] := F.binds (ps := ["thing"]) (fun _ _ _ _ _ _ us hl => match us, hl with | [_], _ => (by kernel_rfl))
  have sc := sc_is_build
  have G : FnOk P w K mg base (L2.CX P w) 3 f fd ["thing"] (spF ct K 1 f_is_build) := fn_ok (N := ["thing"]) F sc_is_build (k := 2) (m := m_is_build) (fun cdv A outer s H E hr => by
    have tk : Takes (cxOf (L2.CX P w) P w K mg base ["thing"] "is_build" (defScope s_is_build) f cdv A outer s H E) (WEx E) := takes_of rfl rfl rfl rfl
    exact (sss_cons (ss_if (st_w (sw_or (st_not (st_val (se_fn d_is_tuple_of hr (by decide) tk rfl (san_cons (se_var (i := 0) rfl (.inl rfl) rfl rfl) (san_cons se_int san_nil rfl) rfl) rfl rfl rfl) (fun _ => rfl))) (sw_or (st_not (st_val (se_fn d_is_name hr (by decide) tk rfl (san_cons (se_ix ixs (se_var (i := 0) rfl (.inl rfl) rfl rfl) se_int (fun _ _ => rfl)) san_nil rfl) rfl rfl rfl) (fun _ => rfl))) (sw_or1 (st_not (st_val (se_fn d_is_name hr (by decide) tk rfl (san_cons (se_ix ixs (se_var (i := 0) rfl (.inl rfl) rfl rfl) se_int (fun _ _ => rfl)) san_nil rfl) rfl rfl rfl) (fun _ => rfl))))))) (sss_one (ss_ret se_bl)) sss_nil)
      (sss_cons (ss_if (st_w (sw_or (st_not (st_val (se_fn d_are_names hr (by decide) tk rfl (san_cons (se_ix ixs (se_var (i := 0) rfl (.inl rfl) rfl rfl) se_int (fun _ _ => rfl)) san_nil rfl) rfl rfl rfl) (fun _ => rfl))) (sw_or1 (st_not (st_val (se_fn d_is_name hr (by decide) tk rfl (san_cons (se_ix ixs (se_var (i := 0) rfl (.inl rfl) rfl rfl) se_int (fun _ _ => rfl)) san_nil rfl) rfl rfl rfl) (fun _ => rfl)))))) (sss_one (ss_ret se_bl)) sss_nil)
      (sss_one (ss_ret (se_if (st_cmp ops_is (se_ix ixs (se_var (i := 0) rfl (.inl rfl) rfl rfl) se_int (fun _ _ => rfl)) se_non rfl) (se_cmp (ops_eq hr.units) (se_callB cs_len rfl B.n_len (by decide +kernel) (sa_cons (se_ix ixs (se_var (i := 0) rfl (.inl rfl) rfl rfl) se_int (fun _ _ => rfl)) sa_nil rfl) (by decide) rfl rfl rfl) se_int rfl) (se_fn d_is_name hr (by decide) tk rfl (san_cons (se_ix ixs (se_var (i := 0) rfl (.inl rfl) rfl rfl) se_int (fun _ _ => rfl)) san_nil rfl) rfl rfl rfl)))))))
  exact ⟨f, fd, ["thing"], G, F.kp, b, hm⟩
abbrev s_is_form : Stmt := topS 17
theorem sc_is_form : FnScope ["thing", "one"] ["thing"] (defScope s_is_form) := ⟨rfl, rfl, rfl, by decide +kernel, rfl, by decide +kernel, by decide +kernel⟩
def m_is_form : SM :=
    (retS (andV (callM (callF f_is_tuple_of) (consA (getV 0) (consA (cst (.int (4))) nilA))) (callM c_all (consA (lcM false (seqM (getV 0)) (tgName 1) yesM (isiM .tuple (getV 1)) [1]) nilA))))
def f_is_form : FM := fnM 2 m_is_form
theorem ok_is_form {f : Addr} {fd : FuncData} (F : Fun K "is_form" "is_form" s_is_form f fd) (hm : mg "is_form" = some (.ref f)) (B : Bt mg) (C : Ct mg) (d_is_tuple_of : Dfn P w K mg base ct "is_tuple_of" 1 2 f_is_tuple_of) : Dfn P w K mg base ct "is_form" 2 1 f_is_form := by
  have b : Binds K fd ["thing"] [] := F.binds (ps := ["thing"]) (fun _ _ _ _ _ _ us hl => match us, hl with | [_], _ => (by kernel_rfl))
  have sc := sc_is_form
  have G : FnOk P w K mg base (L2.CX P w) 2 f fd ["thing"] (spF ct K 1 f_is_form) := fn_ok (N := ["thing", "one"]) F sc_is_form (k := 1) (m := m_is_form) (fun cdv A outer s H E hr => by
    have tk : Takes (cxOf (L2.CX P w) P w K mg base ["thing", "one"] "is_form" (defScope s_is_form) f cdv A outer s H E) (WEx E) := takes_of rfl rfl rfl rfl
    exact (sss_one (ss_ret (se_and (se_fn d_is_tuple_of hr (by decide) tk rfl (san_cons (se_var (i := 0) rfl (.inl rfl) rfl rfl) (san_cons se_int san_nil rfl) rfl) rfl rfl rfl) (se_one (se_callB (cs_all rfl) rfl B.n_all (by decide +kernel) (sa_cons (se_lc false (ow := [("one", 1)]) rfl sc.nd (si_seq (se_var (i := 0) rfl (.inl rfl) rfl rfl)) (blkOk_by (by kernel_rfl)) (by decide) (fun _ _ _ _ _ => (sg_name (i := 1) sc.nd rfl (.inl rfl) (.inr rfl))) (fun _ _ _ _ _ => sts_nil) (fun _ _ _ _ _ => (se_isi .tuple rfl B.n_isinstance rfl B.n_tuple (by decide +kernel) (by decide) rfl (se_var (i := 1) rfl (.inl rfl) rfl rfl) rfl rfl rfl)) (fun _ => rfl)) sa_nil rfl) (by decide) rfl rfl rfl))))))
  exact ⟨f, fd, ["thing"], G, F.kp, b, hm⟩
abbrev s_is_book : Stmt := topS 18
theorem sc_is_book : FnScope ["thing", "sources", "parties", "unlike", "builds", "one"] ["thing"] (defScope s_is_book) := ⟨rfl, rfl, rfl, by decide +kernel, rfl, by decide +kernel, by decide +kernel⟩
def m_is_book : SM :=
    (seqS (ifS (notM (asB (callM (callF f_is_form) (consA (getV 0) nilA)))) (retS (cst (.bool false))) skipS)
    (seqS (asgS (tgTup 4 (tgsCons (tgName 1) (tgsCons (tgName 2) (tgsCons (tgName 3) (tgsCons (tgName 4) tgsNil))))) (getV 0))
    (seqS (ifS (orM (notM (asB (callM c_all (consA (lcM false (seqM (getV 1)) (tgName 5) yesM (callM (callF f_is_source) (consA (getV 5) nilA)) [5]) nilA)))) (notM (asB (callM c_all (consA (lcM false (seqM (getV 2)) (tgName 5) yesM (callM (callF f_is_party) (consA (getV 5) nilA)) [5]) nilA))))) (retS (cst (.bool false))) skipS)
    (retS (andV (callM c_all (consA (lcM false (seqM (getV 3)) (tgName 5) yesM (callM (callF f_is_name_pair) (consA (getV 5) nilA)) [5]) nilA)) (callM c_all (consA (lcM false (seqM (getV 4)) (tgName 5) yesM (callM (callF f_is_build) (consA (getV 5) nilA)) [5]) nilA)))))))
def f_is_book : FM := fnM 6 m_is_book
theorem ok_is_book {f : Addr} {fd : FuncData} (F : Fun K "is_book" "is_book" s_is_book f fd) (hm : mg "is_book" = some (.ref f)) (B : Bt mg) (C : Ct mg) (d_is_build : Dfn P w K mg base ct "is_build" 3 1 f_is_build) (d_is_form : Dfn P w K mg base ct "is_form" 2 1 f_is_form) (d_is_name_pair : Dfn P w K mg base ct "is_name_pair" 3 1 f_is_name_pair) (d_is_party : Dfn P w K mg base ct "is_party" 3 1 f_is_party) (d_is_source : Dfn P w K mg base ct "is_source" 4 1 f_is_source) : Dfn P w K mg base ct "is_book" 5 1 f_is_book := by
  have b : Binds K fd ["thing"] [] := F.binds (ps := ["thing"]) (fun _ _ _ _ _ _ us hl => match us, hl with | [_], _ => (by kernel_rfl))
  have sc := sc_is_book
  have G : FnOk P w K mg base (L2.CX P w) 5 f fd ["thing"] (spF ct K 1 f_is_book) := fn_ok (N := ["thing", "sources", "parties", "unlike", "builds", "one"]) F sc_is_book (k := 4) (m := m_is_book) (fun cdv A outer s H E hr => by
    have tk : Takes (cxOf (L2.CX P w) P w K mg base ["thing", "sources", "parties", "unlike", "builds", "one"] "is_book" (defScope s_is_book) f cdv A outer s H E) (WEx E) := takes_of rfl rfl rfl rfl
    exact (sss_cons (ss_if (st_not (st_val (se_fn d_is_form hr (by decide) tk rfl (san_cons (se_var (i := 0) rfl (.inl rfl) rfl rfl) san_nil rfl) rfl rfl rfl) (fun _ => rfl))) (sss_one (ss_ret se_bl)) sss_nil)
      (sss_cons (ss_asg (se_var (i := 0) rfl (.inl rfl) rfl rfl) (sg_tup rfl (sgs_cons (sg_name (i := 1) sc.nd rfl (.inl rfl) (.inr rfl)) (sgs_cons (sg_name (i := 2) sc.nd rfl (.inl rfl) (.inr rfl)) (sgs_cons (sg_name (i := 3) sc.nd rfl (.inl rfl) (.inr rfl)) (sgs_cons (sg_name (i := 4) sc.nd rfl (.inl rfl) (.inr rfl)) sgs_nil rfl) rfl) rfl) rfl) rfl rfl) rfl rfl rfl)
      (sss_cons (ss_if (st_w (sw_or (st_not (st_val (se_callB (cs_all rfl) rfl B.n_all (by decide +kernel) (sa_cons (se_lc false (ow := [("one", 5)]) rfl sc.nd (si_seq (se_var (i := 1) rfl (.inl rfl) rfl rfl)) (blkOk_by (by kernel_rfl)) (by decide) (fun _ _ _ _ _ => (sg_name (i := 5) sc.nd rfl (.inl rfl) (.inr rfl))) (fun _ _ _ _ _ => sts_nil) (fun _ _ _ _ _ => (se_fn d_is_source hr (by decide) takes0 rfl (san_cons (se_var (i := 5) rfl (.inl rfl) rfl rfl) san_nil rfl) rfl rfl rfl)) (fun _ => rfl)) sa_nil rfl) (by decide) rfl rfl rfl) (fun _ => rfl))) (sw_or1 (st_not (st_val (se_callB (cs_all rfl) rfl B.n_all (by decide +kernel) (sa_cons (se_lc false (ow := [("one", 5)]) rfl sc.nd (si_seq (se_var (i := 2) rfl (.inl rfl) rfl rfl)) (blkOk_by (by kernel_rfl)) (by decide) (fun _ _ _ _ _ => (sg_name (i := 5) sc.nd rfl (.inl rfl) (.inr rfl))) (fun _ _ _ _ _ => sts_nil) (fun _ _ _ _ _ => (se_fn d_is_party hr (by decide) takes0 rfl (san_cons (se_var (i := 5) rfl (.inl rfl) rfl rfl) san_nil rfl) rfl rfl rfl)) (fun _ => rfl)) sa_nil rfl) (by decide) rfl rfl rfl) (fun _ => rfl)))))) (sss_one (ss_ret se_bl)) sss_nil)
      (sss_one (ss_ret (se_and (se_callB (cs_all rfl) rfl B.n_all (by decide +kernel) (sa_cons (se_lc false (ow := [("one", 5)]) rfl sc.nd (si_seq (se_var (i := 3) rfl (.inl rfl) rfl rfl)) (blkOk_by (by kernel_rfl)) (by decide) (fun _ _ _ _ _ => (sg_name (i := 5) sc.nd rfl (.inl rfl) (.inr rfl))) (fun _ _ _ _ _ => sts_nil) (fun _ _ _ _ _ => (se_fn d_is_name_pair hr (by decide) takes0 rfl (san_cons (se_var (i := 5) rfl (.inl rfl) rfl rfl) san_nil rfl) rfl rfl rfl)) (fun _ => rfl)) sa_nil rfl) (by decide) rfl rfl rfl) (se_one (se_callB (cs_all rfl) rfl B.n_all (by decide +kernel) (sa_cons (se_lc false (ow := [("one", 5)]) rfl sc.nd (si_seq (se_var (i := 4) rfl (.inl rfl) rfl rfl)) (blkOk_by (by kernel_rfl)) (by decide) (fun _ _ _ _ _ => (sg_name (i := 5) sc.nd rfl (.inl rfl) (.inr rfl))) (fun _ _ _ _ _ => sts_nil) (fun _ _ _ _ _ => (se_fn d_is_build hr (by decide) takes0 rfl (san_cons (se_var (i := 5) rfl (.inl rfl) rfl rfl) san_nil rfl) rfl rfl rfl)) (fun _ => rfl)) sa_nil rfl) (by decide) rfl rfl rfl)))))))))
  exact ⟨f, fd, ["thing"], G, F.kp, b, hm⟩
abbrev s__law_feed : Stmt := topS 20
theorem sc__law_feed : FnScope ["_law_script", "_law_cell"] ["_law_script"] (defScope s__law_feed) := ⟨rfl, rfl, rfl, by decide +kernel, rfl, by decide +kernel, by decide +kernel⟩
def m__law_feed : SM :=
    (retS (dispM (pcons (cst (.str (Str.ofString "cells"))) (lcM false (seqM (cutM (getV 0) none (some (cst (.int (63)))))) (tgName 1) yesM (callM c_int (consA (getV 1) nilA)) [1]) (pcons (cst (.str (Str.ofString "next"))) (cst (.int (0))) (pcons (cst (.str (Str.ofString "left"))) (cst (.int (0))) (pcons (cst (.str (Str.ofString "count"))) (cst (.int (0))) pnil))))))
def f__law_feed : FM := fnM 2 m__law_feed
theorem ok__law_feed {f : Addr} {fd : FuncData} (F : Fun K "_law_feed" "_law_feed" s__law_feed f fd) (hm : mg "_law_feed" = some (.ref f)) (B : Bt mg) (C : Ct mg)  : Dfn P w K mg base ct "_law_feed" 1 1 f__law_feed := by
  have b : Binds K fd ["_law_script"] [] := F.binds (ps := ["_law_script"]) (fun _ _ _ _ _ _ us hl => match us, hl with | [_], _ => (by kernel_rfl))
  have sc := sc__law_feed
  have G : FnOk P w K mg base (L2.CX P w) 1 f fd ["_law_script"] (spF ct K 1 f__law_feed) := fn_ok (N := ["_law_script", "_law_cell"]) F sc__law_feed (k := 0) (m := m__law_feed) (fun cdv A outer s H E hr => by
    have tk : Takes (cxOf (L2.CX P w) P w K mg base ["_law_script", "_law_cell"] "_law_feed" (defScope s__law_feed) f cdv A outer s H E) (WEx E) := takes_of rfl rfl rfl rfl
    exact (sss_one (ss_ret (se_disp (sp_cons se_str (se_lc false (ow := [("_law_cell", 1)]) rfl sc.nd (si_seq (se_cut (se_var (i := 0) rfl (.inl rfl) rfl rfl) so_none (so_some se_int))) (blkOk_by (by kernel_rfl)) (by decide) (fun _ _ _ _ _ => (sg_name (i := 1) sc.nd rfl (.inl rfl) (.inr rfl))) (fun _ _ _ _ _ => sts_nil) (fun _ _ _ _ _ => (se_callTy cs_int rfl B.n_int (by decide +kernel) (sa_cons (se_var (i := 1) rfl (.inl rfl) rfl rfl) sa_nil rfl) (by decide) rfl rfl rfl)) (fun _ => rfl)) (sp_cons se_str se_int (sp_cons se_str se_int (sp_cons se_str se_int sp_nil)))) rfl rfl (fun z => by cases z) (by decide)))))
  exact ⟨f, fd, ["_law_script"], G, F.kp, b, hm⟩
abbrev s__law_draw : Stmt := topS 21
theorem sc__law_draw : FnScope ["_law_feed_here", "_law_many", "_law_digit", "_law_cells", "_law_spot", "_law_cell", "_law_mixed"] ["_law_feed_here", "_law_many"] (defScope s__law_draw) := ⟨rfl, rfl, rfl, by decide +kernel, rfl, by decide +kernel, by decide +kernel⟩
def m__law_draw : SM :=
    (seqS (dputS (getV 0) (cst (.str (Str.ofString "count"))) (bin o_add (bin dgetR (getV 0) (cst (.str (Str.ofString "count")))) (cst (.int (1)))))
    (seqS (ifS (asB (bin o_gt (bin dgetR (getV 0) (cst (.str (Str.ofString "left")))) (cst (.int (0))))) (seqS (setS 2 (bin o_mod (callM c_int (consA (bin dgetR (getV 0) (cst (.str (Str.ofString "left")))) nilA)) (getV 1)))
    (seqS (dputS (getV 0) (cst (.str (Str.ofString "left"))) (bin o_div (bin dgetR (getV 0) (cst (.str (Str.ofString "left")))) (getV 1)))
    (retS (getV 2)))) skipS)
    (seqS (parS 3 4 (consA (bin dgetR (getV 0) (cst (.str (Str.ofString "cells")))) (consA (bin dgetR (getV 0) (cst (.str (Str.ofString "next")))) nilA)))
    (seqS (dputS (getV 0) (cst (.str (Str.ofString "next"))) (bin o_add (getV 4) (cst (.int (1)))))
    (seqS (setS 5 (ifM (asB (bin o_ne (getV 3) (lstM nilA))) (bin o_ix (getV 3) (bin o_mod (callM c_int (consA (getV 4) nilA)) (callM c_len (consA (getV 3) nilA)))) (cst (.int (31847)))))
    (seqS (ifS (andM (asB (bin o_ge (getV 5) (bin o_pow (cst (.int (10))) (cst (.int (18)))))) (asB (bin o_lt (getV 4) (callM c_len (consA (getV 3) nilA))))) (seqS (dputS (getV 0) (cst (.str (Str.ofString "left"))) (bin o_div (getV 5) (getV 1)))
    (retS (bin o_mod (callM c_int (consA (getV 5) nilA)) (getV 1)))) skipS)
    (seqS (setS 6 (bin o_mod (callM c_int (consA (bin o_add (bin o_add (bin o_mod (callM c_int (consA (getV 5) nilA)) (cst (.int (2147483629)))) (bin o_mul (cst (.int (48271))) (bin dgetR (getV 0) (cst (.str (Str.ofString "count")))))) (cst (.int (11)))) nilA)) (cst (.int (2147483587)))))
    (seqS (setS 6 (bin o_mod (callM c_int (consA (bin o_add (bin o_add (bin o_mul (getV 6) (getV 6)) (bin o_mul (cst (.int (69621))) (bin dgetR (getV 0) (cst (.str (Str.ofString "count")))))) (cst (.int (5)))) nilA)) (cst (.int (2147483563)))))
    (seqS (setS 6 (bin o_mod (callM c_int (consA (bin o_add (bin o_mul (getV 6) (getV 6)) (bin o_mul (cst (.int (40692))) (getV 6))) nilA)) (cst (.int (2147483549)))))
    (retS (bin o_mod (callM c_int (consA (bin o_div (getV 6) (cst (.int (64)))) nilA)) (getV 1))))))))))))
def f__law_draw : FM := fnM 7 m__law_draw
theorem ok__law_draw {f : Addr} {fd : FuncData} (F : Fun K "_law_draw" "_law_draw" s__law_draw f fd) (hm : mg "_law_draw" = some (.ref f)) (B : Bt mg) (C : Ct mg)  : Dfn P w K mg base ct "_law_draw" 1 2 f__law_draw := by
  have b : Binds K fd ["_law_feed_here", "_law_many"] [] := F.binds (ps := ["_law_feed_here", "_law_many"]) (fun _ _ _ _ _ _ us hl => match us, hl with | [_, _], _ => (by kernel_rfl))
  have sc := sc__law_draw
  have G : FnOk P w K mg base (L2.CX P w) 1 f fd ["_law_feed_here", "_law_many"] (spF ct K 2 f__law_draw) := fn_ok (N := ["_law_feed_here", "_law_many", "_law_digit", "_law_cells", "_law_spot", "_law_cell", "_law_mixed"]) F sc__law_draw (k := 0) (m := m__law_draw) (fun cdv A outer s H E hr => by
    have tk : Takes (cxOf (L2.CX P w) P w K mg base ["_law_feed_here", "_law_many", "_law_digit", "_law_cells", "_law_spot", "_law_cell", "_law_mixed"] "_law_draw" (defScope s__law_draw) f cdv A outer s H E) (WEx E) := takes_of rfl rfl rfl rfl
    exact (sss_cons (ss_dput (hu_of hr) (se_var (i := 0) rfl (.inl rfl) rfl rfl) se_str (se_op ops_add (se_dget (hu_of hr) (se_var (i := 0) rfl (.inl rfl) rfl rfl) se_str (fun _ _ => rfl)) se_int) rfl)
      (sss_cons (ss_if (st_cmp (ops_gt hr.units) (se_dget (hu_of hr) (se_var (i := 0) rfl (.inl rfl) rfl rfl) se_str (fun _ _ => rfl)) se_int rfl) (sss_cons (ss_set (i := 2) (se_op ops_mod (se_callTy cs_int rfl B.n_int (by decide +kernel) (sa_cons (se_dget (hu_of hr) (se_var (i := 0) rfl (.inl rfl) rfl rfl) se_str (fun _ _ => rfl)) sa_nil rfl) (by decide) rfl rfl rfl) (se_var (i := 1) rfl (.inl rfl) rfl rfl)) sc.nd rfl (.inl rfl) rfl (.inr rfl))
      (sss_cons (ss_dput (hu_of hr) (se_var (i := 0) rfl (.inl rfl) rfl rfl) se_str (se_op ops_div (se_dget (hu_of hr) (se_var (i := 0) rfl (.inl rfl) rfl rfl) se_str (fun _ _ => rfl)) (se_var (i := 1) rfl (.inl rfl) rfl rfl)) rfl)
      (sss_one (ss_ret (se_var (i := 2) rfl (.inl rfl) rfl rfl))))) sss_nil)
      (sss_cons (ss_par (i := 3) (j := 4) rfl sc.nd rfl rfl (by decide) rfl rfl (sa_cons (se_dget (hu_of hr) (se_var (i := 0) rfl (.inl rfl) rfl rfl) se_str (fun _ _ => rfl)) (sa_cons (se_dget (hu_of hr) (se_var (i := 0) rfl (.inl rfl) rfl rfl) se_str (fun _ _ => rfl)) sa_nil rfl) rfl) rfl rfl)
      (sss_cons (ss_dput (hu_of hr) (se_var (i := 0) rfl (.inl rfl) rfl rfl) se_str (se_op ops_add (se_var (i := 4) rfl (.inl rfl) rfl rfl) se_int) rfl)
      (sss_cons (ss_set (i := 5) (se_if (st_cmp (ops_ne hr.units) (se_var (i := 3) rfl (.inl rfl) rfl rfl) (se_lst sa_nil) rfl) (se_ix ixs (se_var (i := 3) rfl (.inl rfl) rfl rfl) (se_op ops_mod (se_callTy cs_int rfl B.n_int (by decide +kernel) (sa_cons (se_var (i := 4) rfl (.inl rfl) rfl rfl) sa_nil rfl) (by decide) rfl rfl rfl) (se_callB cs_len rfl B.n_len (by decide +kernel) (sa_cons (se_var (i := 3) rfl (.inl rfl) rfl rfl) sa_nil rfl) (by decide) rfl rfl rfl)) (fun _ _ => rfl)) se_int) sc.nd rfl (.inl rfl) rfl (.inr rfl))
      (sss_cons (ss_if (st_w (sw_and (st_cmp (ops_ge hr.units) (se_var (i := 5) rfl (.inl rfl) rfl rfl) (se_op ops_pow se_int se_int) rfl) (sw_and1 (st_cmp (ops_lt hr.units) (se_var (i := 4) rfl (.inl rfl) rfl rfl) (se_callB cs_len rfl B.n_len (by decide +kernel) (sa_cons (se_var (i := 3) rfl (.inl rfl) rfl rfl) sa_nil rfl) (by decide) rfl rfl rfl) rfl)))) (sss_cons (ss_dput (hu_of hr) (se_var (i := 0) rfl (.inl rfl) rfl rfl) se_str (se_op ops_div (se_var (i := 5) rfl (.inl rfl) rfl rfl) (se_var (i := 1) rfl (.inl rfl) rfl rfl)) rfl)
      (sss_one (ss_ret (se_op ops_mod (se_callTy cs_int rfl B.n_int (by decide +kernel) (sa_cons (se_var (i := 5) rfl (.inl rfl) rfl rfl) sa_nil rfl) (by decide) rfl rfl rfl) (se_var (i := 1) rfl (.inl rfl) rfl rfl))))) sss_nil)
      (sss_cons (ss_set (i := 6) (se_op ops_mod (se_callTy cs_int rfl B.n_int (by decide +kernel) (sa_cons (se_op ops_add (se_op ops_add (se_op ops_mod (se_callTy cs_int rfl B.n_int (by decide +kernel) (sa_cons (se_var (i := 5) rfl (.inl rfl) rfl rfl) sa_nil rfl) (by decide) rfl rfl rfl) se_int) (se_op ops_mul se_int (se_dget (hu_of hr) (se_var (i := 0) rfl (.inl rfl) rfl rfl) se_str (fun _ _ => rfl)))) se_int) sa_nil rfl) (by decide) rfl rfl rfl) se_int) sc.nd rfl (.inl rfl) rfl (.inr rfl))
      (sss_cons (ss_set (i := 6) (se_op ops_mod (se_callTy cs_int rfl B.n_int (by decide +kernel) (sa_cons (se_op ops_add (se_op ops_add (se_op ops_mul (se_var (i := 6) rfl (.inl rfl) rfl rfl) (se_var (i := 6) rfl (.inl rfl) rfl rfl)) (se_op ops_mul se_int (se_dget (hu_of hr) (se_var (i := 0) rfl (.inl rfl) rfl rfl) se_str (fun _ _ => rfl)))) se_int) sa_nil rfl) (by decide) rfl rfl rfl) se_int) sc.nd rfl (.inl rfl) rfl (.inr rfl))
      (sss_cons (ss_set (i := 6) (se_op ops_mod (se_callTy cs_int rfl B.n_int (by decide +kernel) (sa_cons (se_op ops_add (se_op ops_mul (se_var (i := 6) rfl (.inl rfl) rfl rfl) (se_var (i := 6) rfl (.inl rfl) rfl rfl)) (se_op ops_mul se_int (se_var (i := 6) rfl (.inl rfl) rfl rfl))) sa_nil rfl) (by decide) rfl rfl rfl) se_int) sc.nd rfl (.inl rfl) rfl (.inr rfl))
      (sss_one (ss_ret (se_op ops_mod (se_callTy cs_int rfl B.n_int (by decide +kernel) (sa_cons (se_op ops_div (se_var (i := 6) rfl (.inl rfl) rfl rfl) se_int) sa_nil rfl) (by decide) rfl rfl rfl) (se_var (i := 1) rfl (.inl rfl) rfl rfl))))))))))))))
  exact ⟨f, fd, ["_law_feed_here", "_law_many"], G, F.kp, b, hm⟩
abbrev s__law_pick : Stmt := topS 22
theorem sc__law_pick : FnScope ["_law_feed_here", "_law_things"] ["_law_feed_here", "_law_things"] (defScope s__law_pick) := ⟨rfl, rfl, rfl, by decide +kernel, rfl, by decide +kernel, by decide +kernel⟩
def m__law_pick : SM :=
    (retS (bin o_ix (getV 1) (callM (callF f__law_draw) (consA (getV 0) (consA (callM c_len (consA (getV 1) nilA)) nilA)))))
def f__law_pick : FM := fnM 2 m__law_pick
theorem ok__law_pick {f : Addr} {fd : FuncData} (F : Fun K "_law_pick" "_law_pick" s__law_pick f fd) (hm : mg "_law_pick" = some (.ref f)) (B : Bt mg) (C : Ct mg) (d__law_draw : Dfn P w K mg base ct "_law_draw" 1 2 f__law_draw) : Dfn P w K mg base ct "_law_pick" 2 2 f__law_pick := by
  have b : Binds K fd ["_law_feed_here", "_law_things"] [] := F.binds (ps := ["_law_feed_here", "_law_things"]) (fun _ _ _ _ _ _ us hl => match us, hl with | [_, _], _ => (by kernel_rfl))
  have sc := sc__law_pick
  have G : FnOk P w K mg base (L2.CX P w) 2 f fd ["_law_feed_here", "_law_things"] (spF ct K 2 f__law_pick) := fn_ok (N := ["_law_feed_here", "_law_things"]) F sc__law_pick (k := 1) (m := m__law_pick) (fun cdv A outer s H E hr => by
    have tk : Takes (cxOf (L2.CX P w) P w K mg base ["_law_feed_here", "_law_things"] "_law_pick" (defScope s__law_pick) f cdv A outer s H E) (WEx E) := takes_of rfl rfl rfl rfl
    exact (sss_one (ss_ret (se_ix ixs (se_var (i := 1) rfl (.inl rfl) rfl rfl) (se_fn d__law_draw hr (by decide) tk rfl (san_cons (se_var (i := 0) rfl (.inl rfl) rfl rfl) (san_cons (se_callB cs_len rfl B.n_len (by decide +kernel) (sa_cons (se_var (i := 1) rfl (.inl rfl) rfl rfl) sa_nil rfl) (by decide) rfl rfl rfl) san_nil rfl) rfl) rfl rfl rfl) (fun _ _ => rfl)))))
  exact ⟨f, fd, ["_law_feed_here", "_law_things"], G, F.kp, b, hm⟩
abbrev s__law_names : Stmt := topS 23
theorem sc__law_names : FnScope ["_law_feed_here", "_law_many", "_law_signs", "_law_words", "_law_way", "_law_size", "_law_found", "_law_lap", "_law_stem", "_law_cut", "_law_name", "_law_more", "_law_k", "_law_sign"] ["_law_feed_here", "_law_many"] (defScope s__law_names) := ⟨rfl, rfl, rfl, by decide +kernel, rfl, by decide +kernel, by decide +kernel⟩
def m__law_names : SM :=
    (seqS (setS 2 (cst (.str (Str.ofString "abcdefghijklmnopqrstuvwxyz0123456789"))))
    (seqS (setS 3 (ownM (consA (cst (.str (Str.ofString "source"))) (consA (cst (.str (Str.ofString "party"))) (consA (cst (.str (Str.ofString "unlike"))) (consA (cst (.str (Str.ofString "build"))) (consA (cst (.str (Str.ofString "steady"))) (consA (cst (.str (Str.ofString "loose"))) (consA (cst (.str (Str.ofString "n0"))) (consA (cst (.str (Str.ofString "n10"))) (consA (cst (.str (Str.ofString "n9"))) nilA)))))))))))
    (seqS (dropS (methM isL extendR (getV 3) (consA (lstM (consA (cst (.str (Str.ofString "a"))) (consA (cst (.str (Str.ofString "ab"))) (consA (cst (.str (Str.ofString "abc"))) (consA (cst (.str (Str.ofString "a0"))) (consA (cst (.str (Str.ofString "z9"))) nilA)))))) nilA)))
    (seqS (unpS [4, 5, 6] (consA (callM (callF f__law_draw) (consA (getV 0) (consA (cst (.int (3))) nilA))) (consA (callM (callF f__law_draw) (consA (getV 0) (consA (cst (.int (7))) nilA))) (consA (ownM nilA) nilA))))
    (seqS (setS 8 (bin o_add (bin o_ix (getV 2) (callM (callF f__law_draw) (consA (getV 0) (consA (cst (.int (26))) nilA)))) (joinM (cst (.str (Str.ofString ""))) (lcM false (rng1 (consA (getV 5) nilA)) (tgName 7) yesM (callM (callF f__law_pick) (consA (getV 0) (consA (getV 2) nilA))) [7]))))
    (seqS (setS 9 (bin o_add (cst (.int (1))) (callM (callF f__law_draw) (consA (getV 0) (consA (bin o_add (getV 5) (cst (.int (1)))) nilA)))))
    (seqS (forS (rng1 (consA (getV 1) nilA)) (tgName 7) (seqS (setS 10 (bin o_add (bin o_add (cutM (getV 8) none (some (getV 9))) (callM (callF f__law_pick) (consA (getV 0) (consA (getV 2) nilA)))) (cutM (getV 8) (some (getV 9)) none)))
    (seqS (ifS (asB (bin o_eq (getV 4) (cst (.int (1))))) (setS 10 (callM (callF f__law_pick) (consA (getV 0) (consA (getV 3) nilA)))) skipS)
    (seqS (ifS (asB (bin o_eq (getV 4) (cst (.int (2))))) (seqS (setS 11 (lcM false (rng1 (consA (callM (callF f__law_draw) (consA (getV 0) (consA (cst (.int (8))) nilA))) nilA)) (tgName 12) yesM (callM (callF f__law_pick) (consA (getV 0) (consA (getV 2) nilA))) [12]))
    (setS 10 (bin o_add (bin o_ix (getV 2) (callM (callF f__law_draw) (consA (getV 0) (consA (cst (.int (26))) nilA)))) (joinM (cst (.str (Str.ofString ""))) (getV 11))))) skipS)
    (seqS (ifS (asB (bin (o_in false) (getV 10) (getV 6))) (setS 10 (bin o_ix (lcM false (seqM (cutM (getV 2) none (some (cst (.int (26)))))) (tgName 13) (asB (bin (o_in true) (getV 13) (getV 6))) (getV 13) [13]) (cst (.int (0))))) skipS)
    (dropS (methM isL appendR (getV 6) (consA (getV 10) nilA))))))))
    (retS (getV 6)))))))))
def f__law_names : FM := fnM 14 m__law_names
theorem ok__law_names {f : Addr} {fd : FuncData} (F : Fun K "_law_names" "_law_names" s__law_names f fd) (hm : mg "_law_names" = some (.ref f)) (B : Bt mg) (C : Ct mg) (d__law_draw : Dfn P w K mg base ct "_law_draw" 1 2 f__law_draw) (d__law_pick : Dfn P w K mg base ct "_law_pick" 2 2 f__law_pick) : Dfn P w K mg base ct "_law_names" 3 2 f__law_names := by
  have b : Binds K fd ["_law_feed_here", "_law_many"] [] := F.binds (ps := ["_law_feed_here", "_law_many"]) (fun _ _ _ _ _ _ us hl => match us, hl with | [_, _], _ => (by kernel_rfl))
  have sc := sc__law_names
  have G : FnOk P w K mg base (L2.CX P w) 3 f fd ["_law_feed_here", "_law_many"] (spF ct K 2 f__law_names) := fn_ok (N := ["_law_feed_here", "_law_many", "_law_signs", "_law_words", "_law_way", "_law_size", "_law_found", "_law_lap", "_law_stem", "_law_cut", "_law_name", "_law_more", "_law_k", "_law_sign"]) F sc__law_names (k := 2) (m := m__law_names) (fun cdv A outer s H E hr => by
    have tk : Takes (cxOf (L2.CX P w) P w K mg base ["_law_feed_here", "_law_many", "_law_signs", "_law_words", "_law_way", "_law_size", "_law_found", "_law_lap", "_law_stem", "_law_cut", "_law_name", "_law_more", "_law_k", "_law_sign"] "_law_names" (defScope s__law_names) f cdv A outer s H E) (WEx E) := takes_of rfl rfl rfl rfl
    exact (sss_cons (ss_set (i := 2) se_str sc.nd rfl (.inr rfl) rfl (.inl rfl))
      (sss_cons (ss_set (i := 3) (se_own (sa_cons se_str (sa_cons se_str (sa_cons se_str (sa_cons se_str (sa_cons se_str (sa_cons se_str (sa_cons se_str (sa_cons se_str (sa_cons se_str sa_nil rfl) rfl) rfl) rfl) rfl) rfl) rfl) rfl) rfl)) sc.nd rfl (.inl rfl) rfl (.inr rfl))
      (sss_cons (ss_expr (se_extend (se_var (i := 3) rfl (.inl rfl) rfl rfl) (sa_cons (se_lst (sa_cons se_str (sa_cons se_str (sa_cons se_str (sa_cons se_str (sa_cons se_str sa_nil rfl) rfl) rfl) rfl) rfl)) sa_nil rfl) rfl rfl rfl rfl rfl) rfl)
      (sss_cons (ss_unp (n := 3) rfl (pgn_cons (i := 4) sc.nd rfl (.inl rfl) (.inr rfl) (pgn_cons (i := 5) sc.nd rfl (.inl rfl) (.inr rfl) (pgn_cons (i := 6) sc.nd rfl (.inr rfl) (.inl rfl) pgn_nil rfl) rfl) rfl) (sa_cons (se_fn d__law_draw hr (by decide) tk rfl (san_cons (se_var (i := 0) rfl (.inr (.inl rfl)) rfl rfl) (san_cons se_int san_nil rfl) rfl) rfl rfl rfl) (sa_cons (se_fn d__law_draw hr (by decide) tk rfl (san_cons (se_var (i := 0) rfl (.inr (.inl rfl)) rfl rfl) (san_cons se_int san_nil rfl) rfl) rfl rfl rfl) (sa_cons (se_own sa_nil) sa_nil rfl) rfl) rfl) rfl rfl rfl (by decide) rfl rfl rfl)
      (sss_cons (ss_set (i := 8) (se_op ops_add (se_ix ixs (se_var (i := 2) rfl (.inr (.inl rfl)) rfl rfl) (se_fn d__law_draw hr (by decide) tk rfl (san_cons (se_var (i := 0) rfl (.inr (.inl rfl)) rfl rfl) (san_cons se_int san_nil rfl) rfl) rfl rfl rfl) (fun _ _ => rfl)) (se_join se_str (se_lc false (ow := [("_law_lap", 7)]) rfl sc.nd (si_range1 rfl B.n_range (sa_cons (se_var (i := 5) rfl (.inl rfl) rfl rfl) sa_nil rfl) rfl) (blkOk_by (by kernel_rfl)) (by decide) (fun _ _ _ _ _ => (sg_name (i := 7) sc.nd rfl (.inl rfl) (.inr rfl))) (fun _ _ _ _ _ => sts_nil) (fun _ _ _ _ _ => (se_fn d__law_pick hr (by decide) takes0 rfl (san_cons (se_var (i := 0) rfl (by first | exact .inr (.inl rfl) | exact .inr (.inr rfl)) rfl rfl) (san_cons (se_var (i := 2) rfl (by first | exact .inr (.inl rfl) | exact .inr (.inr rfl)) rfl rfl) san_nil rfl) rfl) rfl rfl rfl)) (fun _ => rfl)) rfl rfl rfl)) sc.nd rfl (.inl rfl) rfl (.inr rfl))
      (sss_cons (ss_set (i := 9) (se_op ops_add se_int (se_fn d__law_draw hr (by decide) tk rfl (san_cons (se_var (i := 0) rfl (.inr (.inl rfl)) rfl rfl) (san_cons (se_op ops_add (se_var (i := 5) rfl (.inl rfl) rfl rfl) se_int) san_nil rfl) rfl) rfl rfl rfl)) sc.nd rfl (.inl rfl) rfl (.inr rfl))
      (sss_cons (ss_for (passes_of rfl) rfl (si_range1 rfl B.n_range (sa_cons (se_var (i := 1) rfl (.inl rfl) rfl rfl) sa_nil rfl) rfl) (sg_name (i := 7) sc.nd rfl (.inl rfl) (.inr rfl)) (sss_cons (ss_set (i := 10) (se_op ops_add (se_op ops_add (se_cut (se_var (i := 8) rfl (.inl rfl) rfl rfl) so_none (so_some (se_var (i := 9) rfl (.inl rfl) rfl rfl))) (se_fn d__law_pick hr (by decide) tk rfl (san_cons (se_var (i := 0) rfl (.inr (.inl rfl)) rfl rfl) (san_cons (se_var (i := 2) rfl (.inr (.inl rfl)) rfl rfl) san_nil rfl) rfl) rfl rfl rfl)) (se_cut (se_var (i := 8) rfl (.inl rfl) rfl rfl) (so_some (se_var (i := 9) rfl (.inl rfl) rfl rfl)) so_none)) sc.nd rfl (.inl rfl) rfl (.inr rfl))
      (sss_cons (ss_if (st_cmp (ops_eq hr.units) (se_var (i := 4) rfl (.inl rfl) rfl rfl) se_int rfl) (sss_one (ss_set (i := 10) (se_fn d__law_pick hr (by decide) tk rfl (san_cons (se_var (i := 0) rfl (.inr (.inl rfl)) rfl rfl) (san_cons (se_var (i := 3) rfl (.inl rfl) rfl rfl) san_nil rfl) rfl) rfl rfl rfl) sc.nd rfl (.inl rfl) rfl (.inr rfl))) sss_nil)
      (sss_cons (ss_if (st_cmp (ops_eq hr.units) (se_var (i := 4) rfl (.inl rfl) rfl rfl) se_int rfl) (sss_cons (ss_setLc false (i := 11) (ow := [("_law_k", 12)]) rfl sc.nd rfl rfl (sw_true rfl rfl rfl (by decide +kernel)) (si_range1 rfl B.n_range (sa_cons (se_fn d__law_draw hr (by decide) tk rfl (san_cons (se_var (i := 0) rfl (.inr (.inl rfl)) rfl rfl) (san_cons se_int san_nil rfl) rfl) rfl rfl rfl) sa_nil rfl) rfl) (blkOk_by (by kernel_rfl)) (by decide) (fun _ _ _ _ _ => (sg_name (i := 12) sc.nd rfl (.inl rfl) (.inr rfl))) (fun _ _ _ _ _ => sts_nil) (fun _ _ _ _ _ => (se_fn d__law_pick hr (by decide) takes0 rfl (san_cons (se_var (i := 0) rfl (by first | exact .inr (.inl rfl) | exact .inr (.inr rfl)) rfl rfl) (san_cons (se_var (i := 2) rfl (by first | exact .inr (.inl rfl) | exact .inr (.inr rfl)) rfl rfl) san_nil rfl) rfl) rfl rfl rfl)) (fun _ => rfl))
      (sss_one (ss_set (i := 10) (se_op ops_add (se_ix ixs (se_var (i := 2) rfl (.inr (.inl rfl)) rfl rfl) (se_fn d__law_draw hr (by decide) tk rfl (san_cons (se_var (i := 0) rfl (.inr (.inl rfl)) rfl rfl) (san_cons se_int san_nil rfl) rfl) rfl rfl rfl) (fun _ _ => rfl)) (se_join se_str (se_var (i := 11) rfl (.inl rfl) rfl rfl) rfl rfl rfl)) sc.nd rfl (.inl rfl) rfl (.inr rfl)))) sss_nil)
      (sss_cons (ss_if (st_cmp (ops_in hr.units) (se_var (i := 10) rfl (.inl rfl) rfl rfl) (se_var (i := 6) rfl (.inr (.inl rfl)) rfl rfl) rfl) (sss_one (ss_set (i := 10) (se_ix ixs (se_lc false (ow := [("_law_sign", 13)]) rfl sc.nd (si_seq (se_cut (se_var (i := 2) rfl (.inr (.inl rfl)) rfl rfl) so_none (so_some se_int))) (blkOk_by (by kernel_rfl)) (by decide) (fun _ _ _ _ _ => (sg_name (i := 13) sc.nd rfl (.inl rfl) (.inr rfl))) (fun _ _ _ _ _ => (sts_one (st_cmp (ops_notin hr.units) (se_var (i := 13) rfl (.inl rfl) rfl rfl) (se_var (i := 6) rfl (by first | exact .inr (.inl rfl) | exact .inr (.inr rfl)) rfl rfl) rfl))) (fun _ _ _ _ _ => (se_var (i := 13) rfl (.inl rfl) rfl rfl)) (fun _ => rfl)) se_int (fun _ _ => rfl)) sc.nd rfl (.inl rfl) rfl (.inr rfl))) sss_nil)
      (sss_one (ss_expr (se_append (se_var (i := 6) rfl (.inr (.inl rfl)) rfl rfl) (sa_cons (se_var (i := 10) rfl (.inl rfl) rfl rfl) sa_nil rfl) rfl rfl rfl rfl rfl) rfl)))))) (fun _ => rfl))
      (sss_one (ss_ret (se_var (i := 6) rfl (.inr (.inl rfl)) rfl rfl)))))))))))
  exact ⟨f, fd, ["_law_feed_here", "_law_many"], G, F.kp, b, hm⟩
abbrev s__law_sources : Stmt := topS 24
theorem sc__law_sources : FnScope ["_law_feed_here", "_law_names_here", "_law_tongues", "_law_name", "_law_keys", "_law_found", "_law_i", "_law_lower", "_law_many", "_law_uses", "_law_speaks", "_law_steady", "_law_j", "_law_lap"] ["_law_feed_here", "_law_names_here", "_law_tongues"] (defScope s__law_sources) := ⟨rfl, rfl, rfl, by decide +kernel, rfl, by decide +kernel, by decide +kernel⟩
def m__law_sources : SM :=
    (seqS (unpS [4, 5] (consA (lcM false (seqM (getV 1)) (tgName 3) yesM (callM (callF f__law_draw) (consA (getV 0) (consA (cst (.int (100))) nilA))) [3]) (consA (ownM nilA) nilA)))
    (seqS (forS (enumM (consA (getV 1) nilA)) (tgTup 2 (tgsCons (tgName 6) (tgsCons (tgName 3) tgsNil))) (seqS (setS 7 (lcM false (rng1 (consA (callM c_len (consA (getV 1) nilA)) nilA)) (tgName 12) (asB (bin o_lt (tupM (consA (bin o_ix (getV 4) (getV 12)) (consA (getV 12) nilA))) (tupM (consA (bin o_ix (getV 4) (getV 6)) (consA (getV 6) nilA))))) (bin o_ix (getV 1) (getV 12)) [12]))
    (seqS (setS 8 (ifM (asB (bin o_ne (getV 7) (lstM nilA))) (callM (callF f__law_draw) (consA (getV 0) (consA (cst (.int (4))) nilA))) (cst (.int (0)))))
    (seqS (setS 9 (callM c_tuple (consA (sortSetM (lcM false (rng1 (consA (getV 8) nilA)) (tgName 13) yesM (callM (callF f__law_pick) (consA (getV 0) (consA (getV 7) nilA))) [13])) nilA)))
    (seqS (setS 10 (callM c_tuple (consA (sortSetM (lcM false (rng1 (consA (callM (callF f__law_draw) (consA (getV 0) (consA (cst (.int (3))) nilA))) nilA)) (tgName 13) yesM (callM (callF f__law_pick) (consA (getV 0) (consA (getV 2) nilA))) [13])) nilA)))
    (seqS (setS 11 (bin o_gt (callM (callF f__law_draw) (consA (getV 0) (consA (cst (.int (3))) nilA))) (cst (.int (0)))))
    (dropS (methM isL appendR (getV 5) (consA (tupM (consA (getV 3) (consA (callM (callF f__law_pick) (consA (getV 0) (consA (getV 2) nilA))) (consA (getV 10) (consA (getV 11) (consA (getV 9) nilA)))))) nilA)))))))))
    (retS (callM c_tuple (consA (getV 5) nilA)))))
def f__law_sources : FM := fnM 14 m__law_sources
theorem ok__law_sources {f : Addr} {fd : FuncData} (F : Fun K "_law_sources" "_law_sources" s__law_sources f fd) (hm : mg "_law_sources" = some (.ref f)) (B : Bt mg) (C : Ct mg) (d__law_draw : Dfn P w K mg base ct "_law_draw" 1 2 f__law_draw) (d__law_pick : Dfn P w K mg base ct "_law_pick" 2 2 f__law_pick) : Dfn P w K mg base ct "_law_sources" 3 3 f__law_sources := by
  have b : Binds K fd ["_law_feed_here", "_law_names_here", "_law_tongues"] [] := F.binds (ps := ["_law_feed_here", "_law_names_here", "_law_tongues"]) (fun _ _ _ _ _ _ us hl => match us, hl with | [_, _, _], _ => (by kernel_rfl))
  have sc := sc__law_sources
  have G : FnOk P w K mg base (L2.CX P w) 3 f fd ["_law_feed_here", "_law_names_here", "_law_tongues"] (spF ct K 3 f__law_sources) := fn_ok (N := ["_law_feed_here", "_law_names_here", "_law_tongues", "_law_name", "_law_keys", "_law_found", "_law_i", "_law_lower", "_law_many", "_law_uses", "_law_speaks", "_law_steady", "_law_j", "_law_lap"]) F sc__law_sources (k := 2) (m := m__law_sources) (fun cdv A outer s H E hr => by
    have tk : Takes (cxOf (L2.CX P w) P w K mg base ["_law_feed_here", "_law_names_here", "_law_tongues", "_law_name", "_law_keys", "_law_found", "_law_i", "_law_lower", "_law_many", "_law_uses", "_law_speaks", "_law_steady", "_law_j", "_law_lap"] "_law_sources" (defScope s__law_sources) f cdv A outer s H E) (WEx E) := takes_of rfl rfl rfl rfl
    exact (sss_cons (ss_unp (n := 2) rfl (pgn_cons (i := 4) sc.nd rfl (.inr rfl) (.inl rfl) (pgn_cons (i := 5) sc.nd rfl (.inl rfl) (.inr rfl) pgn_nil rfl) rfl) (sa_cons (se_lc false (ow := [("_law_name", 3)]) rfl sc.nd (si_seq (se_var (i := 1) rfl (.inr (.inl rfl)) rfl rfl)) (blkOk_by (by kernel_rfl)) (by decide) (fun _ _ _ _ _ => (sg_name (i := 3) sc.nd rfl (.inl rfl) (.inr rfl))) (fun _ _ _ _ _ => sts_nil) (fun _ _ _ _ _ => (se_fn d__law_draw hr (by decide) takes0 rfl (san_cons (se_var (i := 0) rfl (by first | exact .inr (.inl rfl) | exact .inr (.inr rfl)) rfl rfl) (san_cons se_int san_nil rfl) rfl) rfl rfl rfl)) (fun _ => rfl)) (sa_cons (se_own sa_nil) sa_nil rfl) rfl) rfl rfl rfl (by decide) rfl rfl rfl)
      (sss_cons (ss_for (passes_of rfl) rfl (si_enum rfl B.n_enumerate (sa_cons (se_var (i := 1) rfl (.inr (.inl rfl)) rfl rfl) sa_nil rfl) rfl) (sg_tup rfl (sgs_cons (sg_name (i := 6) sc.nd rfl (.inr rfl) (.inl rfl)) (sgs_cons (sg_name (i := 3) sc.nd rfl (.inl rfl) (.inr rfl)) sgs_nil rfl) rfl) rfl rfl) (sss_cons (ss_set (i := 7) (se_lc false (ow := [("_law_j", 12)]) rfl sc.nd (si_range1 rfl B.n_range (sa_cons (se_callB cs_len rfl B.n_len (by decide +kernel) (sa_cons (se_var (i := 1) rfl (.inr (.inl rfl)) rfl rfl) sa_nil rfl) (by decide) rfl rfl rfl) sa_nil rfl) rfl) (blkOk_by (by kernel_rfl)) (by decide) (fun _ _ _ _ _ => (sg_name (i := 12) sc.nd rfl (.inl rfl) (.inr rfl))) (fun _ _ _ _ _ => (sts_one (st_cmp (ops_lt hr.units) (se_tup (sa_cons (se_ix ixs (se_var (i := 4) rfl (by first | exact .inr (.inl rfl) | exact .inr (.inr rfl)) rfl rfl) (se_var (i := 12) rfl (.inl rfl) rfl rfl) (fun _ _ => rfl)) (sa_cons (se_var (i := 12) rfl (.inl rfl) rfl rfl) sa_nil rfl) rfl)) (se_tup (sa_cons (se_ix ixs (se_var (i := 4) rfl (by first | exact .inr (.inl rfl) | exact .inr (.inr rfl)) rfl rfl) (se_var (i := 6) rfl (by first | exact .inr (.inl rfl) | exact .inr (.inr rfl)) rfl rfl) (fun _ _ => rfl)) (sa_cons (se_var (i := 6) rfl (by first | exact .inr (.inl rfl) | exact .inr (.inr rfl)) rfl rfl) sa_nil rfl) rfl)) rfl))) (fun _ _ _ _ _ => (se_ix ixs (se_var (i := 1) rfl (by first | exact .inr (.inl rfl) | exact .inr (.inr rfl)) rfl rfl) (se_var (i := 12) rfl (.inl rfl) rfl rfl) (fun _ _ => rfl))) (fun _ => rfl)) sc.nd rfl (.inr rfl) rfl (.inl rfl))
      (sss_cons (ss_set (i := 8) (se_if (st_cmp (ops_ne hr.units) (se_var (i := 7) rfl (.inr (.inl rfl)) rfl rfl) (se_lst sa_nil) rfl) (se_fn d__law_draw hr (by decide) tk rfl (san_cons (se_var (i := 0) rfl (.inr (.inl rfl)) rfl rfl) (san_cons se_int san_nil rfl) rfl) rfl rfl rfl) se_int) sc.nd rfl (.inl rfl) rfl (.inr rfl))
      (sss_cons (ss_set (i := 9) (se_callTy cs_tuple rfl B.n_tuple (by decide +kernel) (sa_cons (se_sortset rfl hr.units rfl B.n_sorted rfl B.n_set (se_lc false (ow := [("_law_lap", 13)]) rfl sc.nd (si_range1 rfl B.n_range (sa_cons (se_var (i := 8) rfl (.inl rfl) rfl rfl) sa_nil rfl) rfl) (blkOk_by (by kernel_rfl)) (by decide) (fun _ _ _ _ _ => (sg_name (i := 13) sc.nd rfl (.inl rfl) (.inr rfl))) (fun _ _ _ _ _ => sts_nil) (fun _ _ _ _ _ => (se_fn d__law_pick hr (by decide) takes0 rfl (san_cons (se_var (i := 0) rfl (by first | exact .inr (.inl rfl) | exact .inr (.inr rfl)) rfl rfl) (san_cons (se_var (i := 7) rfl (by first | exact .inr (.inl rfl) | exact .inr (.inr rfl)) rfl rfl) san_nil rfl) rfl) rfl rfl rfl)) (fun _ => rfl)) rfl) sa_nil rfl) (by decide) rfl rfl rfl) sc.nd rfl (.inl rfl) rfl (.inr rfl))
      (sss_cons (ss_set (i := 10) (se_callTy cs_tuple rfl B.n_tuple (by decide +kernel) (sa_cons (se_sortset rfl hr.units rfl B.n_sorted rfl B.n_set (se_lc false (ow := [("_law_lap", 13)]) rfl sc.nd (si_range1 rfl B.n_range (sa_cons (se_fn d__law_draw hr (by decide) tk rfl (san_cons (se_var (i := 0) rfl (.inr (.inl rfl)) rfl rfl) (san_cons se_int san_nil rfl) rfl) rfl rfl rfl) sa_nil rfl) rfl) (blkOk_by (by kernel_rfl)) (by decide) (fun _ _ _ _ _ => (sg_name (i := 13) sc.nd rfl (.inl rfl) (.inr rfl))) (fun _ _ _ _ _ => sts_nil) (fun _ _ _ _ _ => (se_fn d__law_pick hr (by decide) takes0 rfl (san_cons (se_var (i := 0) rfl (by first | exact .inr (.inl rfl) | exact .inr (.inr rfl)) rfl rfl) (san_cons (se_var (i := 2) rfl (by first | exact .inr (.inl rfl) | exact .inr (.inr rfl)) rfl rfl) san_nil rfl) rfl) rfl rfl rfl)) (fun _ => rfl)) rfl) sa_nil rfl) (by decide) rfl rfl rfl) sc.nd rfl (.inl rfl) rfl (.inr rfl))
      (sss_cons (ss_set (i := 11) (se_cmp (ops_gt hr.units) (se_fn d__law_draw hr (by decide) tk rfl (san_cons (se_var (i := 0) rfl (.inr (.inl rfl)) rfl rfl) (san_cons se_int san_nil rfl) rfl) rfl rfl rfl) se_int rfl) sc.nd rfl (.inl rfl) rfl (.inr rfl))
      (sss_one (ss_expr (se_append (se_var (i := 5) rfl (.inl rfl) rfl rfl) (sa_cons (se_tup (sa_cons (se_var (i := 3) rfl (.inl rfl) rfl rfl) (sa_cons (se_fn d__law_pick hr (by decide) tk rfl (san_cons (se_var (i := 0) rfl (.inr (.inl rfl)) rfl rfl) (san_cons (se_var (i := 2) rfl (.inr (.inl rfl)) rfl rfl) san_nil rfl) rfl) rfl rfl rfl) (sa_cons (se_var (i := 10) rfl (.inl rfl) rfl rfl) (sa_cons (se_var (i := 11) rfl (.inl rfl) rfl rfl) (sa_cons (se_var (i := 9) rfl (.inl rfl) rfl rfl) sa_nil rfl) rfl) rfl) rfl) rfl)) sa_nil rfl) rfl rfl rfl rfl rfl) rfl))))))) (fun _ => rfl))
      (sss_one (ss_ret (se_callTy cs_tuple rfl B.n_tuple (by decide +kernel) (sa_cons (se_var (i := 5) rfl (.inl rfl) rfl rfl) sa_nil rfl) (by decide) rfl rfl rfl))))))
  exact ⟨f, fd, ["_law_feed_here", "_law_names_here", "_law_tongues"], G, F.kp, b, hm⟩
abbrev s__law_weight : Stmt := topS 25
theorem sc__law_weight : FnScope ["_law_feed_here", "_law_way"] ["_law_feed_here"] (defScope s__law_weight) := ⟨rfl, rfl, rfl, by decide +kernel, rfl, by decide +kernel, by decide +kernel⟩
def m__law_weight : SM :=
    (seqS (setS 1 (callM (callF f__law_draw) (consA (getV 0) (consA (cst (.int (4))) nilA))))
    (seqS (ifS (asB (bin o_eq (getV 1) (cst (.int (0))))) (retS (bin o_add (bin o_add (cst (.int (1))) (bin o_mul (callM (callF f__law_draw) (consA (getV 0) (consA (bin o_pow (cst (.int (10))) (cst (.int (6)))) nilA))) (bin o_pow (cst (.int (10))) (cst (.int (53)))))) (callM (callF f__law_draw) (consA (getV 0) (consA (bin o_pow (cst (.int (10))) (cst (.int (6)))) nilA))))) skipS)
    (retS (bin o_add (cst (.int (1))) (callM (callF f__law_draw) (consA (getV 0) (consA (bin o_ix (lstM (consA (cst (.int (3))) (consA (cst (.int (12))) (consA (cst (.int (1200))) nilA)))) (bin o_sub (getV 1) (cst (.int (1))))) nilA)))))))
def f__law_weight : FM := fnM 2 m__law_weight
theorem ok__law_weight {f : Addr} {fd : FuncData} (F : Fun K "_law_weight" "_law_weight" s__law_weight f fd) (hm : mg "_law_weight" = some (.ref f)) (B : Bt mg) (C : Ct mg) (d__law_draw : Dfn P w K mg base ct "_law_draw" 1 2 f__law_draw) : Dfn P w K mg base ct "_law_weight" 2 1 f__law_weight := by
  have b : Binds K fd ["_law_feed_here"] [] := F.binds (ps := ["_law_feed_here"]) (fun _ _ _ _ _ _ us hl => match us, hl with | [_], _ => (by kernel_rfl))
  have sc := sc__law_weight
  have G : FnOk P w K mg base (L2.CX P w) 2 f fd ["_law_feed_here"] (spF ct K 1 f__law_weight) := fn_ok (N := ["_law_feed_here", "_law_way"]) F sc__law_weight (k := 1) (m := m__law_weight) (fun cdv A outer s H E hr => by
    have tk : Takes (cxOf (L2.CX P w) P w K mg base ["_law_feed_here", "_law_way"] "_law_weight" (defScope s__law_weight) f cdv A outer s H E) (WEx E) := takes_of rfl rfl rfl rfl
    exact (sss_cons (ss_set (i := 1) (se_fn d__law_draw hr (by decide) tk rfl (san_cons (se_var (i := 0) rfl (.inl rfl) rfl rfl) (san_cons se_int san_nil rfl) rfl) rfl rfl rfl) sc.nd rfl (.inl rfl) rfl (.inr rfl))
      (sss_cons (ss_if (st_cmp (ops_eq hr.units) (se_var (i := 1) rfl (.inl rfl) rfl rfl) se_int rfl) (sss_one (ss_ret (se_op ops_add (se_op ops_add se_int (se_op ops_mul (se_fn d__law_draw hr (by decide) tk rfl (san_cons (se_var (i := 0) rfl (.inl rfl) rfl rfl) (san_cons (se_op ops_pow se_int se_int) san_nil rfl) rfl) rfl rfl rfl) (se_op ops_pow se_int se_int))) (se_fn d__law_draw hr (by decide) tk rfl (san_cons (se_var (i := 0) rfl (.inl rfl) rfl rfl) (san_cons (se_op ops_pow se_int se_int) san_nil rfl) rfl) rfl rfl rfl)))) sss_nil)
      (sss_one (ss_ret (se_op ops_add se_int (se_fn d__law_draw hr (by decide) tk rfl (san_cons (se_var (i := 0) rfl (.inl rfl) rfl rfl) (san_cons (se_ix ixs (se_lst (sa_cons se_int (sa_cons se_int (sa_cons se_int sa_nil rfl) rfl) rfl)) (se_op ops_sub (se_var (i := 1) rfl (.inl rfl) rfl rfl) se_int) (fun _ _ => rfl)) san_nil rfl) rfl) rfl rfl rfl)))))))
  exact ⟨f, fd, ["_law_feed_here"], G, F.kp, b, hm⟩
abbrev s__law_build : Stmt := topS 26
theorem sc__law_build : FnScope ["_law_feed_here", "_law_whole", "_law_blobs", "_law_source", "_law_one", "_law_given", "_law_use"] ["_law_feed_here", "_law_whole", "_law_blobs"] (defScope s__law_build) := ⟨rfl, rfl, rfl, by decide +kernel, rfl, by decide +kernel, by decide +kernel⟩
def m__law_build : SM :=
    (seqS (parS 3 4 (consA (callM (callF f__law_pick) (consA (getV 0) (consA (bin o_ix (getV 1) (cst (.int (0)))) nilA))) (consA (callM (callF f__law_pick) (consA (getV 0) (consA (bin o_ix (getV 1) (cst (.int (1)))) nilA))) nilA)))
    (seqS (ifS (asB (bin o_eq (callM (callF f__law_draw) (consA (getV 0) (consA (cst (.int (4))) nilA))) (cst (.int (0))))) (retS (tupM (consA (bin o_ix (getV 4) (cst (.int (0)))) (consA (cst .none) (consA (bin o_ix (getV 3) (cst (.int (0)))) (consA (tupM nilA) (consA (callM (callF f__law_pick) (consA (getV 0) (consA (getV 2) nilA))) nilA))))))) skipS)
    (seqS (setS 5 (callM c_tuple (consA (lcM false (seqM (bin o_ix (getV 3) (cst (.int (4))))) (tgName 6) yesM (callM (callF f__law_pick) (consA (getV 0) (consA (getV 2) nilA))) [6]) nilA)))
    (retS (tupM (consA (bin o_ix (getV 4) (cst (.int (0)))) (consA (callM (callF f__law_pick) (consA (getV 0) (consA (getV 2) nilA))) (consA (bin o_ix (getV 3) (cst (.int (0)))) (consA (getV 5) (consA (callM (callF f__law_pick) (consA (getV 0) (consA (getV 2) nilA))) nilA))))))))))
def f__law_build : FM := fnM 7 m__law_build
theorem ok__law_build {f : Addr} {fd : FuncData} (F : Fun K "_law_build" "_law_build" s__law_build f fd) (hm : mg "_law_build" = some (.ref f)) (B : Bt mg) (C : Ct mg) (d__law_draw : Dfn P w K mg base ct "_law_draw" 1 2 f__law_draw) (d__law_pick : Dfn P w K mg base ct "_law_pick" 2 2 f__law_pick) : Dfn P w K mg base ct "_law_build" 3 3 f__law_build := by
  have b : Binds K fd ["_law_feed_here", "_law_whole", "_law_blobs"] [] := F.binds (ps := ["_law_feed_here", "_law_whole", "_law_blobs"]) (fun _ _ _ _ _ _ us hl => match us, hl with | [_, _, _], _ => (by kernel_rfl))
  have sc := sc__law_build
  have G : FnOk P w K mg base (L2.CX P w) 3 f fd ["_law_feed_here", "_law_whole", "_law_blobs"] (spF ct K 3 f__law_build) := fn_ok (N := ["_law_feed_here", "_law_whole", "_law_blobs", "_law_source", "_law_one", "_law_given", "_law_use"]) F sc__law_build (k := 2) (m := m__law_build) (fun cdv A outer s H E hr => by
    have tk : Takes (cxOf (L2.CX P w) P w K mg base ["_law_feed_here", "_law_whole", "_law_blobs", "_law_source", "_law_one", "_law_given", "_law_use"] "_law_build" (defScope s__law_build) f cdv A outer s H E) (WEx E) := takes_of rfl rfl rfl rfl
    exact (sss_cons (ss_par (i := 3) (j := 4) rfl sc.nd rfl rfl (by decide) rfl rfl (sa_cons (se_fn d__law_pick hr (by decide) tk rfl (san_cons (se_var (i := 0) rfl (.inr (.inl rfl)) rfl rfl) (san_cons (se_ix ixs (se_var (i := 1) rfl (.inl rfl) rfl rfl) se_int (fun _ _ => rfl)) san_nil rfl) rfl) rfl rfl rfl) (sa_cons (se_fn d__law_pick hr (by decide) tk rfl (san_cons (se_var (i := 0) rfl (.inr (.inl rfl)) rfl rfl) (san_cons (se_ix ixs (se_var (i := 1) rfl (.inl rfl) rfl rfl) se_int (fun _ _ => rfl)) san_nil rfl) rfl) rfl rfl rfl) sa_nil rfl) rfl) rfl rfl)
      (sss_cons (ss_if (st_cmp (ops_eq hr.units) (se_fn d__law_draw hr (by decide) tk rfl (san_cons (se_var (i := 0) rfl (.inr (.inl rfl)) rfl rfl) (san_cons se_int san_nil rfl) rfl) rfl rfl rfl) se_int rfl) (sss_one (ss_ret (se_tup (sa_cons (se_ix ixs (se_var (i := 4) rfl (.inl rfl) rfl rfl) se_int (fun _ _ => rfl)) (sa_cons se_non (sa_cons (se_ix ixs (se_var (i := 3) rfl (.inl rfl) rfl rfl) se_int (fun _ _ => rfl)) (sa_cons (se_tup sa_nil) (sa_cons (se_fn d__law_pick hr (by decide) tk rfl (san_cons (se_var (i := 0) rfl (.inr (.inl rfl)) rfl rfl) (san_cons (se_var (i := 2) rfl (.inr (.inl rfl)) rfl rfl) san_nil rfl) rfl) rfl rfl rfl) sa_nil rfl) rfl) rfl) rfl) rfl)))) sss_nil)
      (sss_cons (ss_set (i := 5) (se_callTy cs_tuple rfl B.n_tuple (by decide +kernel) (sa_cons (se_lc false (ow := [("_law_use", 6)]) rfl sc.nd (si_seq (se_ix ixs (se_var (i := 3) rfl (.inl rfl) rfl rfl) se_int (fun _ _ => rfl))) (blkOk_by (by kernel_rfl)) (by decide) (fun _ _ _ _ _ => (sg_name (i := 6) sc.nd rfl (.inl rfl) (.inr rfl))) (fun _ _ _ _ _ => sts_nil) (fun _ _ _ _ _ => (se_fn d__law_pick hr (by decide) takes0 rfl (san_cons (se_var (i := 0) rfl (by first | exact .inr (.inl rfl) | exact .inr (.inr rfl)) rfl rfl) (san_cons (se_var (i := 2) rfl (by first | exact .inr (.inl rfl) | exact .inr (.inr rfl)) rfl rfl) san_nil rfl) rfl) rfl rfl rfl)) (fun _ => rfl)) sa_nil rfl) (by decide) rfl rfl rfl) sc.nd rfl (.inl rfl) rfl (.inr rfl))
      (sss_one (ss_ret (se_tup (sa_cons (se_ix ixs (se_var (i := 4) rfl (.inl rfl) rfl rfl) se_int (fun _ _ => rfl)) (sa_cons (se_fn d__law_pick hr (by decide) tk rfl (san_cons (se_var (i := 0) rfl (.inr (.inl rfl)) rfl rfl) (san_cons (se_var (i := 2) rfl (.inr (.inl rfl)) rfl rfl) san_nil rfl) rfl) rfl rfl rfl) (sa_cons (se_ix ixs (se_var (i := 3) rfl (.inl rfl) rfl rfl) se_int (fun _ _ => rfl)) (sa_cons (se_var (i := 5) rfl (.inl rfl) rfl rfl) (sa_cons (se_fn d__law_pick hr (by decide) tk rfl (san_cons (se_var (i := 0) rfl (.inr (.inl rfl)) rfl rfl) (san_cons (se_var (i := 2) rfl (.inr (.inl rfl)) rfl rfl) san_nil rfl) rfl) rfl rfl rfl) sa_nil rfl) rfl) rfl) rfl) rfl))))))))
  exact ⟨f, fd, ["_law_feed_here", "_law_whole", "_law_blobs"], G, F.kp, b, hm⟩
abbrev s__law_book : Stmt := topS 27
theorem sc__law_book : FnScope ["_law_feed_here", "_law_names_here", "_law_folk", "_law_blobs", "_law_first", "_law_whole", "_law_pairs", "_law_found", "_law_i", "_law_many", "_law_lap", "_law_build_here", "_law_name"] ["_law_feed_here"] (defScope s__law_book) := ⟨rfl, rfl, rfl, by decide +kernel, rfl, by decide +kernel, by decide +kernel⟩
def m__law_book : SM :=
    (seqS (setS 1 (callM c_sorted (consA (callM (callF f__law_names) (consA (getV 0) (consA (bin o_ix (lstM (consA (cst (.int (2))) (consA (cst (.int (3))) (consA (cst (.int (1))) (consA (cst (.int (4))) (consA (cst (.int (2))) (consA (cst (.int (6))) (consA (cst (.int (0))) (consA (cst (.int (3))) nilA))))))))) (callM (callF f__law_draw) (consA (getV 0) (consA (cst (.int (8))) nilA)))) nilA))) nilA)))
    (seqS (setS 2 (callM c_sorted (consA (callM (callF f__law_names) (consA (getV 0) (consA (bin o_ix (lstM (consA (cst (.int (2))) (consA (cst (.int (3))) (consA (cst (.int (1))) (consA (cst (.int (5))) (consA (cst (.int (2))) (consA (cst (.int (0))) (consA (cst (.int (4))) (consA (cst (.int (3))) nilA))))))))) (callM (callF f__law_draw) (consA (getV 0) (consA (cst (.int (8))) nilA)))) nilA))) nilA)))
    (seqS (setS 3 (callM (callF f__law_names) (consA (getV 0) (consA (bin o_ix (lstM (consA (cst (.int (3))) (consA (cst (.int (5))) (consA (cst (.int (1))) (consA (cst (.int (7))) nilA))))) (callM (callF f__law_draw) (consA (getV 0) (consA (cst (.int (4))) nilA)))) nilA))))
    (seqS (ifS (asB (bin o_eq (callM (callF f__law_draw) (consA (getV 0) (consA (cst (.int (4))) nilA))) (cst (.int (0))))) (setS 3 (bin o_add (bin o_add (getV 3) (getV 1)) (getV 2))) skipS)
    (seqS (setS 4 (callM (callF f__law_sources) (consA (getV 0) (consA (getV 1) (consA (callM (callF f__law_names) (consA (getV 0) (consA (bin o_add (cst (.int (1))) (callM (callF f__law_draw) (consA (getV 0) (consA (cst (.int (3))) nilA)))) nilA))) nilA)))))
    (seqS (setS 5 (tupM (consA (getV 4) (consA (callM c_tuple (consA (lcM false (seqM (getV 2)) (tgName 12) yesM (tupM (consA (getV 12) (consA (callM (callF f__law_weight) (consA (getV 0) nilA)) nilA))) [12]) nilA)) nilA))))
    (seqS (parS 6 7 (consA (ownM nilA) (consA (ownM nilA) nilA)))
    (seqS (forS (rng1 (consA (callM c_len (consA (getV 1) nilA)) nilA)) (tgName 8) (dropS (methM isL extendR (getV 6) (consA (lcM false (seqM (cutM (getV 1) (some (bin o_add (getV 8) (cst (.int (1))))) none)) (tgName 12) (asB (bin o_eq (callM (callF f__law_draw) (consA (getV 0) (consA (cst (.int (3))) nilA))) (cst (.int (0))))) (tupM (consA (bin o_ix (getV 1) (getV 8)) (consA (getV 12) nilA))) [12]) nilA))))
    (seqS (setS 9 (bin o_ix (lstM (consA (cst (.int (4))) (consA (cst (.int (6))) (consA (cst (.int (2))) (consA (cst (.int (9))) (consA (cst (.int (16))) (consA (cst (.int (0))) (consA (cst (.int (5))) (consA (cst (.int (3))) nilA))))))))) (callM (callF f__law_draw) (consA (getV 0) (consA (cst (.int (8))) nilA)))))
    (seqS (forS (rng1 (consA (ifM (andM (asB (bin o_ne (getV 1) (lstM nilA))) (asB (bin o_ne (getV 2) (lstM nilA)))) (getV 9) (cst (.int (0)))) nilA)) (tgName 10) (seqS (setS 11 (callM (callF f__law_build) (consA (getV 0) (consA (getV 5) (consA (getV 3) nilA)))))
    (ifS (asB (bin (o_in true) (getV 11) (getV 7))) (dropS (methM isL appendR (getV 7) (consA (getV 11) nilA))) skipS)))
    (retS (bin o_add (getV 5) (tupM (consA (callM c_tuple (consA (getV 6) nilA)) (consA (callM c_tuple (consA (getV 7) nilA)) nilA)))))))))))))))
def f__law_book : FM := fnM 13 m__law_book
theorem ok__law_book {f : Addr} {fd : FuncData} (F : Fun K "_law_book" "_law_book" s__law_book f fd) (hm : mg "_law_book" = some (.ref f)) (B : Bt mg) (C : Ct mg) (d__law_build : Dfn P w K mg base ct "_law_build" 3 3 f__law_build) (d__law_draw : Dfn P w K mg base ct "_law_draw" 1 2 f__law_draw) (d__law_names : Dfn P w K mg base ct "_law_names" 3 2 f__law_names) (d__law_sources : Dfn P w K mg base ct "_law_sources" 3 3 f__law_sources) (d__law_weight : Dfn P w K mg base ct "_law_weight" 2 1 f__law_weight) : Dfn P w K mg base ct "_law_book" 4 1 f__law_book := by
  have b : Binds K fd ["_law_feed_here"] [] := F.binds (ps := ["_law_feed_here"]) (fun _ _ _ _ _ _ us hl => match us, hl with | [_], _ => (by kernel_rfl))
  have sc := sc__law_book
  have G : FnOk P w K mg base (L2.CX P w) 4 f fd ["_law_feed_here"] (spF ct K 1 f__law_book) := fn_ok (N := ["_law_feed_here", "_law_names_here", "_law_folk", "_law_blobs", "_law_first", "_law_whole", "_law_pairs", "_law_found", "_law_i", "_law_many", "_law_lap", "_law_build_here", "_law_name"]) F sc__law_book (k := 3) (m := m__law_book) (fun cdv A outer s H E hr => by
    have tk : Takes (cxOf (L2.CX P w) P w K mg base ["_law_feed_here", "_law_names_here", "_law_folk", "_law_blobs", "_law_first", "_law_whole", "_law_pairs", "_law_found", "_law_i", "_law_many", "_law_lap", "_law_build_here", "_law_name"] "_law_book" (defScope s__law_book) f cdv A outer s H E) (WEx E) := takes_of rfl rfl rfl rfl
    exact (sss_cons (ss_set (i := 1) (se_callB (cs_sorted hr.units) rfl B.n_sorted (by decide +kernel) (sa_cons (se_fn d__law_names hr (by decide) tk rfl (san_cons (se_var (i := 0) rfl (.inr (.inl rfl)) rfl rfl) (san_cons (se_ix ixs (se_lst (sa_cons se_int (sa_cons se_int (sa_cons se_int (sa_cons se_int (sa_cons se_int (sa_cons se_int (sa_cons se_int (sa_cons se_int sa_nil rfl) rfl) rfl) rfl) rfl) rfl) rfl) rfl)) (se_fn d__law_draw hr (by decide) tk rfl (san_cons (se_var (i := 0) rfl (.inr (.inl rfl)) rfl rfl) (san_cons se_int san_nil rfl) rfl) rfl rfl rfl) (fun _ _ => rfl)) san_nil rfl) rfl) rfl rfl rfl) sa_nil rfl) (by decide) rfl rfl rfl) sc.nd rfl (.inr rfl) rfl (.inl rfl))
      (sss_cons (ss_set (i := 2) (se_callB (cs_sorted hr.units) rfl B.n_sorted (by decide +kernel) (sa_cons (se_fn d__law_names hr (by decide) tk rfl (san_cons (se_var (i := 0) rfl (.inr (.inl rfl)) rfl rfl) (san_cons (se_ix ixs (se_lst (sa_cons se_int (sa_cons se_int (sa_cons se_int (sa_cons se_int (sa_cons se_int (sa_cons se_int (sa_cons se_int (sa_cons se_int sa_nil rfl) rfl) rfl) rfl) rfl) rfl) rfl) rfl)) (se_fn d__law_draw hr (by decide) tk rfl (san_cons (se_var (i := 0) rfl (.inr (.inl rfl)) rfl rfl) (san_cons se_int san_nil rfl) rfl) rfl rfl rfl) (fun _ _ => rfl)) san_nil rfl) rfl) rfl rfl rfl) sa_nil rfl) (by decide) rfl rfl rfl) sc.nd rfl (.inl rfl) rfl (.inr rfl))
      (sss_cons (ss_set (i := 3) (se_fn d__law_names hr (by decide) tk rfl (san_cons (se_var (i := 0) rfl (.inr (.inl rfl)) rfl rfl) (san_cons (se_ix ixs (se_lst (sa_cons se_int (sa_cons se_int (sa_cons se_int (sa_cons se_int sa_nil rfl) rfl) rfl) rfl)) (se_fn d__law_draw hr (by decide) tk rfl (san_cons (se_var (i := 0) rfl (.inr (.inl rfl)) rfl rfl) (san_cons se_int san_nil rfl) rfl) rfl rfl rfl) (fun _ _ => rfl)) san_nil rfl) rfl) rfl rfl rfl) sc.nd rfl (.inl rfl) rfl (.inr rfl))
      (sss_cons (ss_if (st_cmp (ops_eq hr.units) (se_fn d__law_draw hr (by decide) tk rfl (san_cons (se_var (i := 0) rfl (.inr (.inl rfl)) rfl rfl) (san_cons se_int san_nil rfl) rfl) rfl rfl rfl) se_int rfl) (sss_one (ss_set (i := 3) (se_op ops_add (se_op ops_add (se_var (i := 3) rfl (.inl rfl) rfl rfl) (se_var (i := 1) rfl (.inr (.inl rfl)) rfl rfl)) (se_var (i := 2) rfl (.inl rfl) rfl rfl)) sc.nd rfl (.inl rfl) rfl (.inr rfl))) sss_nil)
      (sss_cons (ss_set (i := 4) (se_fn d__law_sources hr (by decide) tk rfl (san_cons (se_var (i := 0) rfl (.inr (.inl rfl)) rfl rfl) (san_cons (se_var (i := 1) rfl (.inr (.inl rfl)) rfl rfl) (san_cons (se_fn d__law_names hr (by decide) tk rfl (san_cons (se_var (i := 0) rfl (.inr (.inl rfl)) rfl rfl) (san_cons (se_op ops_add se_int (se_fn d__law_draw hr (by decide) tk rfl (san_cons (se_var (i := 0) rfl (.inr (.inl rfl)) rfl rfl) (san_cons se_int san_nil rfl) rfl) rfl rfl rfl)) san_nil rfl) rfl) rfl rfl rfl) san_nil rfl) rfl) rfl) rfl rfl rfl) sc.nd rfl (.inl rfl) rfl (.inr rfl))
      (sss_cons (ss_set (i := 5) (se_tup (sa_cons (se_var (i := 4) rfl (.inl rfl) rfl rfl) (sa_cons (se_callTy cs_tuple rfl B.n_tuple (by decide +kernel) (sa_cons (se_lc false (ow := [("_law_name", 12)]) rfl sc.nd (si_seq (se_var (i := 2) rfl (.inl rfl) rfl rfl)) (blkOk_by (by kernel_rfl)) (by decide) (fun _ _ _ _ _ => (sg_name (i := 12) sc.nd rfl (.inl rfl) (.inr rfl))) (fun _ _ _ _ _ => sts_nil) (fun _ _ _ _ _ => (se_tup (sa_cons (se_var (i := 12) rfl (.inl rfl) rfl rfl) (sa_cons (se_fn d__law_weight hr (by decide) takes0 rfl (san_cons (se_var (i := 0) rfl (by first | exact .inr (.inl rfl) | exact .inr (.inr rfl)) rfl rfl) san_nil rfl) rfl rfl rfl) sa_nil rfl) rfl))) (fun _ => rfl)) sa_nil rfl) (by decide) rfl rfl rfl) sa_nil rfl) rfl)) sc.nd rfl (.inl rfl) rfl (.inr rfl))
      (sss_cons (ss_par (i := 6) (j := 7) rfl sc.nd rfl rfl (by decide) rfl rfl (sa_cons (se_own sa_nil) (sa_cons (se_own sa_nil) sa_nil rfl) rfl) rfl rfl)
      (sss_cons (ss_for (passes_of rfl) rfl (si_range1 rfl B.n_range (sa_cons (se_callB cs_len rfl B.n_len (by decide +kernel) (sa_cons (se_var (i := 1) rfl (.inr (.inl rfl)) rfl rfl) sa_nil rfl) (by decide) rfl rfl rfl) sa_nil rfl) rfl) (sg_name (i := 8) sc.nd rfl (.inr rfl) (.inl rfl)) (sss_one (ss_expr (se_extend (se_var (i := 6) rfl (.inl rfl) rfl rfl) (sa_cons (se_lc false (ow := [("_law_name", 12)]) rfl sc.nd (si_seq (se_cut (se_var (i := 1) rfl (.inr (.inl rfl)) rfl rfl) (so_some (se_op ops_add (se_var (i := 8) rfl (.inr (.inl rfl)) rfl rfl) se_int)) so_none)) (blkOk_by (by kernel_rfl)) (by decide) (fun _ _ _ _ _ => (sg_name (i := 12) sc.nd rfl (.inl rfl) (.inr rfl))) (fun _ _ _ _ _ => (sts_one (st_cmp (ops_eq hr.units) (se_fn d__law_draw hr (by decide) takes0 rfl (san_cons (se_var (i := 0) rfl (by first | exact .inr (.inl rfl) | exact .inr (.inr rfl)) rfl rfl) (san_cons se_int san_nil rfl) rfl) rfl rfl rfl) se_int rfl))) (fun _ _ _ _ _ => (se_tup (sa_cons (se_ix ixs (se_var (i := 1) rfl (by first | exact .inr (.inl rfl) | exact .inr (.inr rfl)) rfl rfl) (se_var (i := 8) rfl (by first | exact .inr (.inl rfl) | exact .inr (.inr rfl)) rfl rfl) (fun _ _ => rfl)) (sa_cons (se_var (i := 12) rfl (.inl rfl) rfl rfl) sa_nil rfl) rfl))) (fun _ => rfl)) sa_nil rfl) rfl rfl rfl rfl rfl) rfl)) (fun _ => rfl))
      (sss_cons (ss_set (i := 9) (se_ix ixs (se_lst (sa_cons se_int (sa_cons se_int (sa_cons se_int (sa_cons se_int (sa_cons se_int (sa_cons se_int (sa_cons se_int (sa_cons se_int sa_nil rfl) rfl) rfl) rfl) rfl) rfl) rfl) rfl)) (se_fn d__law_draw hr (by decide) tk rfl (san_cons (se_var (i := 0) rfl (.inr (.inl rfl)) rfl rfl) (san_cons se_int san_nil rfl) rfl) rfl rfl rfl) (fun _ _ => rfl)) sc.nd rfl (.inl rfl) rfl (.inr rfl))
      (sss_cons (ss_for (passes_of rfl) rfl (si_range1 rfl B.n_range (sa_cons (se_if (st_w (sw_and (st_cmp (ops_ne hr.units) (se_var (i := 1) rfl (.inr (.inl rfl)) rfl rfl) (se_lst sa_nil) rfl) (sw_and1 (st_cmp (ops_ne hr.units) (se_var (i := 2) rfl (.inl rfl) rfl rfl) (se_lst sa_nil) rfl)))) (se_var (i := 9) rfl (.inl rfl) rfl rfl) se_int) sa_nil rfl) rfl) (sg_name (i := 10) sc.nd rfl (.inl rfl) (.inr rfl)) (sss_cons (ss_set (i := 11) (se_fn d__law_build hr (by decide) tk rfl (san_cons (se_var (i := 0) rfl (.inr (.inl rfl)) rfl rfl) (san_cons (se_var (i := 5) rfl (.inl rfl) rfl rfl) (san_cons (se_var (i := 3) rfl (.inl rfl) rfl rfl) san_nil rfl) rfl) rfl) rfl rfl rfl) sc.nd rfl (.inl rfl) rfl (.inr rfl))
      (sss_one (ss_if (st_cmp (ops_notin hr.units) (se_var (i := 11) rfl (.inl rfl) rfl rfl) (se_var (i := 7) rfl (.inl rfl) rfl rfl) rfl) (sss_one (ss_expr (se_append (se_var (i := 7) rfl (.inl rfl) rfl rfl) (sa_cons (se_var (i := 11) rfl (.inl rfl) rfl rfl) sa_nil rfl) rfl rfl rfl rfl rfl) rfl)) sss_nil))) (fun _ => rfl))
      (sss_one (ss_ret (se_op ops_add (se_var (i := 5) rfl (.inl rfl) rfl rfl) (se_tup (sa_cons (se_callTy cs_tuple rfl B.n_tuple (by decide +kernel) (sa_cons (se_var (i := 6) rfl (.inl rfl) rfl rfl) sa_nil rfl) (by decide) rfl rfl rfl) (sa_cons (se_callTy cs_tuple rfl B.n_tuple (by decide +kernel) (sa_cons (se_var (i := 7) rfl (.inl rfl) rfl rfl) sa_nil rfl) (by decide) rfl rfl rfl) sa_nil rfl) rfl))))))))))))))))
  exact ⟨f, fd, ["_law_feed_here"], G, F.kp, b, hm⟩
abbrev s__law_is_number : Stmt := topS 28
theorem sc__law_is_number : FnScope ["_law_thing"] ["_law_thing"] (defScope s__law_is_number) := ⟨rfl, rfl, rfl, by decide +kernel, rfl, by decide +kernel, by decide +kernel⟩
def m__law_is_number : SM :=
    (retS (andV (isiM .int (getV 0)) (andV (notV (isiM .bool (getV 0))) (bin o_ge (getV 0) (cst (.int (0)))))))
def f__law_is_number : FM := fnM 1 m__law_is_number
theorem ok__law_is_number {f : Addr} {fd : FuncData} (F : Fun K "_law_is_number" "_law_is_number" s__law_is_number f fd) (hm : mg "_law_is_number" = some (.ref f)) (B : Bt mg) (C : Ct mg)  : Dfn P w K mg base ct "_law_is_number" 1 1 f__law_is_number := by
  have b : Binds K fd ["_law_thing"] [] := F.binds (ps := ["_law_thing"]) (fun _ _ _ _ _ _ us hl => match us, hl with | [_], _ => (by kernel_rfl))
  have sc := sc__law_is_number
  have G : FnOk P w K mg base (L2.CX P w) 1 f fd ["_law_thing"] (spF ct K 1 f__law_is_number) := fn_ok (N := ["_law_thing"]) F sc__law_is_number (k := 0) (m := m__law_is_number) (fun cdv A outer s H E hr => by
    have tk : Takes (cxOf (L2.CX P w) P w K mg base ["_law_thing"] "_law_is_number" (defScope s__law_is_number) f cdv A outer s H E) (WEx E) := takes_of rfl rfl rfl rfl
    exact (sss_one (ss_ret (se_and (se_isi .int rfl B.n_isinstance rfl B.n_int (by decide +kernel) (by decide) rfl (se_var (i := 0) rfl (.inl rfl) rfl rfl) rfl rfl rfl) (se_and (se_not (se_isi .bool rfl B.n_isinstance rfl B.n_bool (by decide +kernel) (by decide) rfl (se_var (i := 0) rfl (.inl rfl) rfl rfl) rfl rfl rfl)) (se_one (se_cmp (ops_ge hr.units) (se_var (i := 0) rfl (.inl rfl) rfl rfl) se_int rfl)))))))
  exact ⟨f, fd, ["_law_thing"], G, F.kp, b, hm⟩
abbrev s__law_is_name : Stmt := topS 29
theorem sc__law_is_name : FnScope ["_law_thing", "_law_signs", "_law_sign"] ["_law_thing"] (defScope s__law_is_name) := ⟨rfl, rfl, rfl, by decide +kernel, rfl, by decide +kernel, by decide +kernel⟩
def m__law_is_name : SM :=
    (seqS (setS 1 (cst (.str (Str.ofString "abcdefghijklmnopqrstuvwxyz0123456789"))))
    (seqS (ifS (orM (notM (asB (isiM .str (getV 0)))) (notM (asB (chn o_le o_le (cst (.int (1))) (callM c_len (consA (getV 0) nilA)) (cst (.int (8))))))) (retS (cst (.bool false))) skipS)
    (retS (andV (bin (o_in false) (bin o_ix (getV 0) (cst (.int (0)))) (cutM (getV 1) none (some (cst (.int (26)))))) (bin o_eq (lcM false (seqM (getV 0)) (tgName 2) (asB (bin (o_in true) (getV 2) (getV 1))) (getV 2) [2]) (lstM nilA))))))
def f__law_is_name : FM := fnM 3 m__law_is_name
theorem ok__law_is_name {f : Addr} {fd : FuncData} (F : Fun K "_law_is_name" "_law_is_name" s__law_is_name f fd) (hm : mg "_law_is_name" = some (.ref f)) (B : Bt mg) (C : Ct mg)  : Dfn P w K mg base ct "_law_is_name" 1 1 f__law_is_name := by
  have b : Binds K fd ["_law_thing"] [] := F.binds (ps := ["_law_thing"]) (fun _ _ _ _ _ _ us hl => match us, hl with | [_], _ => (by kernel_rfl))
  have sc := sc__law_is_name
  have G : FnOk P w K mg base (L2.CX P w) 1 f fd ["_law_thing"] (spF ct K 1 f__law_is_name) := fn_ok (N := ["_law_thing", "_law_signs", "_law_sign"]) F sc__law_is_name (k := 0) (m := m__law_is_name) (fun cdv A outer s H E hr => by
    have tk : Takes (cxOf (L2.CX P w) P w K mg base ["_law_thing", "_law_signs", "_law_sign"] "_law_is_name" (defScope s__law_is_name) f cdv A outer s H E) (WEx E) := takes_of rfl rfl rfl rfl
    exact (sss_cons (ss_set (i := 1) se_str sc.nd rfl (.inr rfl) rfl (.inl rfl))
      (sss_cons (ss_if (st_w (sw_or (st_not (st_val (se_isi .str rfl B.n_isinstance rfl B.n_str (by decide +kernel) (by decide) rfl (se_var (i := 0) rfl (.inl rfl) rfl rfl) rfl rfl rfl) (fun _ => rfl))) (sw_or1 (st_not (st_chain (ops_le hr.units) (ops_le hr.units) se_int (se_callB cs_len rfl B.n_len (by decide +kernel) (sa_cons (se_var (i := 0) rfl (.inl rfl) rfl rfl) sa_nil rfl) (by decide) rfl rfl rfl) se_int rfl))))) (sss_one (ss_ret se_bl)) sss_nil)
      (sss_one (ss_ret (se_and (se_cmp (ops_in hr.units) (se_ix ixs (se_var (i := 0) rfl (.inl rfl) rfl rfl) se_int (fun _ _ => rfl)) (se_cut (se_var (i := 1) rfl (.inr (.inl rfl)) rfl rfl) so_none (so_some se_int)) rfl) (se_one (se_cmp (ops_eq hr.units) (se_lc false (ow := [("_law_sign", 2)]) rfl sc.nd (si_seq (se_var (i := 0) rfl (.inl rfl) rfl rfl)) (blkOk_by (by kernel_rfl)) (by decide) (fun _ _ _ _ _ => (sg_name (i := 2) sc.nd rfl (.inl rfl) (.inr rfl))) (fun _ _ _ _ _ => (sts_one (st_cmp (ops_notin hr.units) (se_var (i := 2) rfl (.inl rfl) rfl rfl) (se_var (i := 1) rfl (by first | exact .inr (.inl rfl) | exact .inr (.inr rfl)) rfl rfl) rfl))) (fun _ _ _ _ _ => (se_var (i := 2) rfl (.inl rfl) rfl rfl)) (fun _ => rfl)) (se_lst sa_nil) rfl))))))))
  exact ⟨f, fd, ["_law_thing"], G, F.kp, b, hm⟩
abbrev s__law_are_names : Stmt := topS 30
theorem sc__law_are_names : FnScope ["_law_thing", "_law_name"] ["_law_thing"] (defScope s__law_are_names) := ⟨rfl, rfl, rfl, by decide +kernel, rfl, by decide +kernel, by decide +kernel⟩
def m__law_are_names : SM :=
    (retS (andV (isiM .tuple (getV 0)) (bin o_eq (lcM false (seqM (getV 0)) (tgName 1) (notM (asB (callM (callF f__law_is_name) (consA (getV 1) nilA)))) (getV 1) [1]) (lstM nilA))))
def f__law_are_names : FM := fnM 2 m__law_are_names
theorem ok__law_are_names {f : Addr} {fd : FuncData} (F : Fun K "_law_are_names" "_law_are_names" s__law_are_names f fd) (hm : mg "_law_are_names" = some (.ref f)) (B : Bt mg) (C : Ct mg) (d__law_is_name : Dfn P w K mg base ct "_law_is_name" 1 1 f__law_is_name) : Dfn P w K mg base ct "_law_are_names" 2 1 f__law_are_names := by
  have b : Binds K fd ["_law_thing"] [] := F.binds (ps := ["_law_thing"]) (fun _ _ _ _ _ _ us hl => match us, hl with | [_], _ => (by kernel_rfl))
  have sc := sc__law_are_names
  have G : FnOk P w K mg base (L2.CX P w) 2 f fd ["_law_thing"] (spF ct K 1 f__law_are_names) := fn_ok (N := ["_law_thing", "_law_name"]) F sc__law_are_names (k := 1) (m := m__law_are_names) (fun cdv A outer s H E hr => by
    have tk : Takes (cxOf (L2.CX P w) P w K mg base ["_law_thing", "_law_name"] "_law_are_names" (defScope s__law_are_names) f cdv A outer s H E) (WEx E) := takes_of rfl rfl rfl rfl
    exact (sss_one (ss_ret (se_and (se_isi .tuple rfl B.n_isinstance rfl B.n_tuple (by decide +kernel) (by decide) rfl (se_var (i := 0) rfl (.inl rfl) rfl rfl) rfl rfl rfl) (se_one (se_cmp (ops_eq hr.units) (se_lc false (ow := [("_law_name", 1)]) rfl sc.nd (si_seq (se_var (i := 0) rfl (.inl rfl) rfl rfl)) (blkOk_by (by kernel_rfl)) (by decide) (fun _ _ _ _ _ => (sg_name (i := 1) sc.nd rfl (.inl rfl) (.inr rfl))) (fun _ _ _ _ _ => (sts_one (st_not (st_val (se_fn d__law_is_name hr (by decide) takes0 rfl (san_cons (se_var (i := 1) rfl (.inl rfl) rfl rfl) san_nil rfl) rfl rfl rfl) (fun _ => rfl))))) (fun _ _ _ _ _ => (se_var (i := 1) rfl (.inl rfl) rfl rfl)) (fun _ => rfl)) (se_lst sa_nil) rfl))))))
  exact ⟨f, fd, ["_law_thing"], G, F.kp, b, hm⟩
abbrev s__law_is_set : Stmt := topS 31
theorem sc__law_is_set : FnScope ["_law_thing", "_law_k"] ["_law_thing"] (defScope s__law_is_set) := ⟨rfl, rfl, rfl, by decide +kernel, rfl, by decide +kernel, by decide +kernel⟩
def m__law_is_set : SM :=
    (seqS (ifS (notM (asB (callM (callF f__law_are_names) (consA (getV 0) nilA)))) (retS (cst (.bool false))) skipS)
    (retS (bin o_eq (lcM false (rng2 (consA (cst (.int (1))) (consA (callM c_len (consA (getV 0) nilA)) nilA))) (tgName 1) (asB (bin o_ge (bin o_ix (getV 0) (bin o_sub (getV 1) (cst (.int (1))))) (bin o_ix (getV 0) (getV 1)))) (getV 1) [1]) (lstM nilA))))
def f__law_is_set : FM := fnM 2 m__law_is_set
theorem ok__law_is_set {f : Addr} {fd : FuncData} (F : Fun K "_law_is_set" "_law_is_set" s__law_is_set f fd) (hm : mg "_law_is_set" = some (.ref f)) (B : Bt mg) (C : Ct mg) (d__law_are_names : Dfn P w K mg base ct "_law_are_names" 2 1 f__law_are_names) : Dfn P w K mg base ct "_law_is_set" 3 1 f__law_is_set := by
  have b : Binds K fd ["_law_thing"] [] := F.binds (ps := ["_law_thing"]) (fun _ _ _ _ _ _ us hl => match us, hl with | [_], _ => (by kernel_rfl))
  have sc := sc__law_is_set
  have G : FnOk P w K mg base (L2.CX P w) 3 f fd ["_law_thing"] (spF ct K 1 f__law_is_set) := fn_ok (N := ["_law_thing", "_law_k"]) F sc__law_is_set (k := 2) (m := m__law_is_set) (fun cdv A outer s H E hr => by
    have tk : Takes (cxOf (L2.CX P w) P w K mg base ["_law_thing", "_law_k"] "_law_is_set" (defScope s__law_is_set) f cdv A outer s H E) (WEx E) := takes_of rfl rfl rfl rfl
    exact (sss_cons (ss_if (st_not (st_val (se_fn d__law_are_names hr (by decide) tk rfl (san_cons (se_var (i := 0) rfl (.inr (.inl rfl)) rfl rfl) san_nil rfl) rfl rfl rfl) (fun _ => rfl))) (sss_one (ss_ret se_bl)) sss_nil)
      (sss_one (ss_ret (se_cmp (ops_eq hr.units) (se_lc false (ow := [("_law_k", 1)]) rfl sc.nd (si_range2 rfl B.n_range (sa_cons se_int (sa_cons (se_callB cs_len rfl B.n_len (by decide +kernel) (sa_cons (se_var (i := 0) rfl (.inr (.inl rfl)) rfl rfl) sa_nil rfl) (by decide) rfl rfl rfl) sa_nil rfl) rfl) rfl rfl) (blkOk_by (by kernel_rfl)) (by decide) (fun _ _ _ _ _ => (sg_name (i := 1) sc.nd rfl (.inl rfl) (.inr rfl))) (fun _ _ _ _ _ => (sts_one (st_cmp (ops_ge hr.units) (se_ix ixs (se_var (i := 0) rfl (by first | exact .inr (.inl rfl) | exact .inr (.inr rfl)) rfl rfl) (se_op ops_sub (se_var (i := 1) rfl (.inl rfl) rfl rfl) se_int) (fun _ _ => rfl)) (se_ix ixs (se_var (i := 0) rfl (by first | exact .inr (.inl rfl) | exact .inr (.inr rfl)) rfl rfl) (se_var (i := 1) rfl (.inl rfl) rfl rfl) (fun _ _ => rfl)) rfl))) (fun _ _ _ _ _ => (se_var (i := 1) rfl (.inl rfl) rfl rfl)) (fun _ => rfl)) (se_lst sa_nil) rfl)))))
  exact ⟨f, fd, ["_law_thing"], G, F.kp, b, hm⟩
abbrev s__law_is_source : Stmt := topS 32
theorem sc__law_is_source : FnScope ["_law_thing"] ["_law_thing"] (defScope s__law_is_source) := ⟨rfl, rfl, rfl, by decide +kernel, rfl, by decide +kernel, by decide +kernel⟩
def m__law_is_source : SM :=
    (seqS (ifS (orM (notM (asB (isiM .tuple (getV 0)))) (orM (asB (bin o_ne (callM c_len (consA (getV 0) nilA)) (cst (.int (5))))) (notM (asB (callM (callF f__law_are_names) (consA (cutM (getV 0) none (some (cst (.int (2))))) nilA)))))) (retS (cst (.bool false))) skipS)
    (retS (andV (callM (callF f__law_is_set) (consA (bin o_ix (getV 0) (cst (.int (2)))) nilA)) (andV (isiM .bool (bin o_ix (getV 0) (cst (.int (3))))) (callM (callF f__law_is_set) (consA (bin o_ix (getV 0) (cst (.int (4)))) nilA))))))
def f__law_is_source : FM := fnM 1 m__law_is_source
theorem ok__law_is_source {f : Addr} {fd : FuncData} (F : Fun K "_law_is_source" "_law_is_source" s__law_is_source f fd) (hm : mg "_law_is_source" = some (.ref f)) (B : Bt mg) (C : Ct mg) (d__law_are_names : Dfn P w K mg base ct "_law_are_names" 2 1 f__law_are_names) (d__law_is_set : Dfn P w K mg base ct "_law_is_set" 3 1 f__law_is_set) : Dfn P w K mg base ct "_law_is_source" 4 1 f__law_is_source := by
  have b : Binds K fd ["_law_thing"] [] := F.binds (ps := ["_law_thing"]) (fun _ _ _ _ _ _ us hl => match us, hl with | [_], _ => (by kernel_rfl))
  have sc := sc__law_is_source
  have G : FnOk P w K mg base (L2.CX P w) 4 f fd ["_law_thing"] (spF ct K 1 f__law_is_source) := fn_ok (N := ["_law_thing"]) F sc__law_is_source (k := 3) (m := m__law_is_source) (fun cdv A outer s H E hr => by
    have tk : Takes (cxOf (L2.CX P w) P w K mg base ["_law_thing"] "_law_is_source" (defScope s__law_is_source) f cdv A outer s H E) (WEx E) := takes_of rfl rfl rfl rfl
    exact (sss_cons (ss_if (st_w (sw_or (st_not (st_val (se_isi .tuple rfl B.n_isinstance rfl B.n_tuple (by decide +kernel) (by decide) rfl (se_var (i := 0) rfl (.inl rfl) rfl rfl) rfl rfl rfl) (fun _ => rfl))) (sw_or (st_cmp (ops_ne hr.units) (se_callB cs_len rfl B.n_len (by decide +kernel) (sa_cons (se_var (i := 0) rfl (.inl rfl) rfl rfl) sa_nil rfl) (by decide) rfl rfl rfl) se_int rfl) (sw_or1 (st_not (st_val (se_fn d__law_are_names hr (by decide) tk rfl (san_cons (se_cut (se_var (i := 0) rfl (.inl rfl) rfl rfl) so_none (so_some se_int)) san_nil rfl) rfl rfl rfl) (fun _ => rfl))))))) (sss_one (ss_ret se_bl)) sss_nil)
      (sss_one (ss_ret (se_and (se_fn d__law_is_set hr (by decide) tk rfl (san_cons (se_ix ixs (se_var (i := 0) rfl (.inl rfl) rfl rfl) se_int (fun _ _ => rfl)) san_nil rfl) rfl rfl rfl) (se_and (se_isi .bool rfl B.n_isinstance rfl B.n_bool (by decide +kernel) (by decide) rfl (se_ix ixs (se_var (i := 0) rfl (.inl rfl) rfl rfl) se_int (fun _ _ => rfl)) rfl rfl rfl) (se_one (se_fn d__law_is_set hr (by decide) tk rfl (san_cons (se_ix ixs (se_var (i := 0) rfl (.inl rfl) rfl rfl) se_int (fun _ _ => rfl)) san_nil rfl) rfl rfl rfl))))))))
  exact ⟨f, fd, ["_law_thing"], G, F.kp, b, hm⟩
abbrev s__law_is_party : Stmt := topS 33
theorem sc__law_is_party : FnScope ["_law_thing"] ["_law_thing"] (defScope s__law_is_party) := ⟨rfl, rfl, rfl, by decide +kernel, rfl, by decide +kernel, by decide +kernel⟩
def m__law_is_party : SM :=
    (seqS (ifS (orM (notM (asB (isiM .tuple (getV 0)))) (orM (asB (bin o_ne (callM c_len (consA (getV 0) nilA)) (cst (.int (2))))) (notM (asB (callM (callF f__law_is_name) (consA (bin o_ix (getV 0) (cst (.int (0)))) nilA)))))) (retS (cst (.bool false))) skipS)
    (retS (andV (callM (callF f__law_is_number) (consA (bin o_ix (getV 0) (cst (.int (1)))) nilA)) (bin o_gt (bin o_ix (getV 0) (cst (.int (1)))) (cst (.int (0)))))))
def f__law_is_party : FM := fnM 1 m__law_is_party
theorem ok__law_is_party {f : Addr} {fd : FuncData} (F : Fun K "_law_is_party" "_law_is_party" s__law_is_party f fd) (hm : mg "_law_is_party" = some (.ref f)) (B : Bt mg) (C : Ct mg) (d__law_is_name : Dfn P w K mg base ct "_law_is_name" 1 1 f__law_is_name) (d__law_is_number : Dfn P w K mg base ct "_law_is_number" 1 1 f__law_is_number) : Dfn P w K mg base ct "_law_is_party" 2 1 f__law_is_party := by
  have b : Binds K fd ["_law_thing"] [] := F.binds (ps := ["_law_thing"]) (fun _ _ _ _ _ _ us hl => match us, hl with | [_], _ => (by kernel_rfl))
  have sc := sc__law_is_party
  have G : FnOk P w K mg base (L2.CX P w) 2 f fd ["_law_thing"] (spF ct K 1 f__law_is_party) := fn_ok (N := ["_law_thing"]) F sc__law_is_party (k := 1) (m := m__law_is_party) (fun cdv A outer s H E hr => by
    have tk : Takes (cxOf (L2.CX P w) P w K mg base ["_law_thing"] "_law_is_party" (defScope s__law_is_party) f cdv A outer s H E) (WEx E) := takes_of rfl rfl rfl rfl
    exact (sss_cons (ss_if (st_w (sw_or (st_not (st_val (se_isi .tuple rfl B.n_isinstance rfl B.n_tuple (by decide +kernel) (by decide) rfl (se_var (i := 0) rfl (.inl rfl) rfl rfl) rfl rfl rfl) (fun _ => rfl))) (sw_or (st_cmp (ops_ne hr.units) (se_callB cs_len rfl B.n_len (by decide +kernel) (sa_cons (se_var (i := 0) rfl (.inl rfl) rfl rfl) sa_nil rfl) (by decide) rfl rfl rfl) se_int rfl) (sw_or1 (st_not (st_val (se_fn d__law_is_name hr (by decide) tk rfl (san_cons (se_ix ixs (se_var (i := 0) rfl (.inl rfl) rfl rfl) se_int (fun _ _ => rfl)) san_nil rfl) rfl rfl rfl) (fun _ => rfl))))))) (sss_one (ss_ret se_bl)) sss_nil)
      (sss_one (ss_ret (se_and (se_fn d__law_is_number hr (by decide) tk rfl (san_cons (se_ix ixs (se_var (i := 0) rfl (.inl rfl) rfl rfl) se_int (fun _ _ => rfl)) san_nil rfl) rfl rfl rfl) (se_one (se_cmp (ops_gt hr.units) (se_ix ixs (se_var (i := 0) rfl (.inl rfl) rfl rfl) se_int (fun _ _ => rfl)) se_int rfl)))))))
  exact ⟨f, fd, ["_law_thing"], G, F.kp, b, hm⟩
abbrev s__law_is_build : Stmt := topS 34
theorem sc__law_is_build : FnScope ["_law_thing"] ["_law_thing"] (defScope s__law_is_build) := ⟨rfl, rfl, rfl, by decide +kernel, rfl, by decide +kernel, by decide +kernel⟩
def m__law_is_build : SM :=
    (seqS (ifS (orM (notM (asB (isiM .tuple (getV 0)))) (orM (asB (bin o_ne (callM c_len (consA (getV 0) nilA)) (cst (.int (5))))) (notM (asB (callM (callF f__law_are_names) (consA (bin o_ix (getV 0) (cst (.int (3)))) nilA)))))) (retS (cst (.bool false))) skipS)
    (seqS (ifS (orM (notM (asB (callM (callF f__law_is_name) (consA (bin o_ix (getV 0) (cst (.int (0)))) nilA)))) (orM (notM (asB (callM (callF f__law_is_name) (consA (bin o_ix (getV 0) (cst (.int (2)))) nilA)))) (notM (asB (callM (callF f__law_is_name) (consA (bin o_ix (getV 0) (cst (.int (4)))) nilA)))))) (retS (cst (.bool false))) skipS)
    (retS (ifM (asB (bin (isN false) (bin o_ix (getV 0) (cst (.int (1)))) (cst .none))) (bin o_eq (bin o_ix (getV 0) (cst (.int (3)))) (tupM nilA)) (callM (callF f__law_is_name) (consA (bin o_ix (getV 0) (cst (.int (1)))) nilA))))))
def f__law_is_build : FM := fnM 1 m__law_is_build
theorem ok__law_is_build {f : Addr} {fd : FuncData} (F : Fun K "_law_is_build" "_law_is_build" s__law_is_build f fd) (hm : mg "_law_is_build" = some (.ref f)) (B : Bt mg) (C : Ct mg) (d__law_are_names : Dfn P w K mg base ct "_law_are_names" 2 1 f__law_are_names) (d__law_is_name : Dfn P w K mg base ct "_law_is_name" 1 1 f__law_is_name) : Dfn P w K mg base ct "_law_is_build" 3 1 f__law_is_build := by
  have b : Binds K fd ["_law_thing"] [] := F.binds (ps := ["_law_thing"]) (fun _ _ _ _ _ _ us hl => match us, hl with | [_], _ => (by kernel_rfl))
  have sc := sc__law_is_build
  have G : FnOk P w K mg base (L2.CX P w) 3 f fd ["_law_thing"] (spF ct K 1 f__law_is_build) := fn_ok (N := ["_law_thing"]) F sc__law_is_build (k := 2) (m := m__law_is_build) (fun cdv A outer s H E hr => by
    have tk : Takes (cxOf (L2.CX P w) P w K mg base ["_law_thing"] "_law_is_build" (defScope s__law_is_build) f cdv A outer s H E) (WEx E) := takes_of rfl rfl rfl rfl
    exact (sss_cons (ss_if (st_w (sw_or (st_not (st_val (se_isi .tuple rfl B.n_isinstance rfl B.n_tuple (by decide +kernel) (by decide) rfl (se_var (i := 0) rfl (.inl rfl) rfl rfl) rfl rfl rfl) (fun _ => rfl))) (sw_or (st_cmp (ops_ne hr.units) (se_callB cs_len rfl B.n_len (by decide +kernel) (sa_cons (se_var (i := 0) rfl (.inl rfl) rfl rfl) sa_nil rfl) (by decide) rfl rfl rfl) se_int rfl) (sw_or1 (st_not (st_val (se_fn d__law_are_names hr (by decide) tk rfl (san_cons (se_ix ixs (se_var (i := 0) rfl (.inl rfl) rfl rfl) se_int (fun _ _ => rfl)) san_nil rfl) rfl rfl rfl) (fun _ => rfl))))))) (sss_one (ss_ret se_bl)) sss_nil)
      (sss_cons (ss_if (st_w (sw_or (st_not (st_val (se_fn d__law_is_name hr (by decide) tk rfl (san_cons (se_ix ixs (se_var (i := 0) rfl (.inl rfl) rfl rfl) se_int (fun _ _ => rfl)) san_nil rfl) rfl rfl rfl) (fun _ => rfl))) (sw_or (st_not (st_val (se_fn d__law_is_name hr (by decide) tk rfl (san_cons (se_ix ixs (se_var (i := 0) rfl (.inl rfl) rfl rfl) se_int (fun _ _ => rfl)) san_nil rfl) rfl rfl rfl) (fun _ => rfl))) (sw_or1 (st_not (st_val (se_fn d__law_is_name hr (by decide) tk rfl (san_cons (se_ix ixs (se_var (i := 0) rfl (.inl rfl) rfl rfl) se_int (fun _ _ => rfl)) san_nil rfl) rfl rfl rfl) (fun _ => rfl))))))) (sss_one (ss_ret se_bl)) sss_nil)
      (sss_one (ss_ret (se_if (st_cmp ops_is (se_ix ixs (se_var (i := 0) rfl (.inl rfl) rfl rfl) se_int (fun _ _ => rfl)) se_non rfl) (se_cmp (ops_eq hr.units) (se_ix ixs (se_var (i := 0) rfl (.inl rfl) rfl rfl) se_int (fun _ _ => rfl)) (se_tup sa_nil) rfl) (se_fn d__law_is_name hr (by decide) tk rfl (san_cons (se_ix ixs (se_var (i := 0) rfl (.inl rfl) rfl rfl) se_int (fun _ _ => rfl)) san_nil rfl) rfl rfl rfl)))))))
  exact ⟨f, fd, ["_law_thing"], G, F.kp, b, hm⟩
abbrev s__law_is_pair : Stmt := topS 35
theorem sc__law_is_pair : FnScope ["_law_thing"] ["_law_thing"] (defScope s__law_is_pair) := ⟨rfl, rfl, rfl, by decide +kernel, rfl, by decide +kernel, by decide +kernel⟩
def m__law_is_pair : SM :=
    (retS (andV (callM (callF f__law_are_names) (consA (getV 0) nilA)) (bin o_eq (callM c_len (consA (getV 0) nilA)) (cst (.int (2))))))
def f__law_is_pair : FM := fnM 1 m__law_is_pair
theorem ok__law_is_pair {f : Addr} {fd : FuncData} (F : Fun K "_law_is_pair" "_law_is_pair" s__law_is_pair f fd) (hm : mg "_law_is_pair" = some (.ref f)) (B : Bt mg) (C : Ct mg) (d__law_are_names : Dfn P w K mg base ct "_law_are_names" 2 1 f__law_are_names) : Dfn P w K mg base ct "_law_is_pair" 3 1 f__law_is_pair := by
  have b : Binds K fd ["_law_thing"] [] := F.binds (ps := ["_law_thing"]) (fun _ _ _ _ _ _ us hl => match us, hl with | [_], _ => (by kernel_rfl))
  have sc := sc__law_is_pair
  have G : FnOk P w K mg base (L2.CX P w) 3 f fd ["_law_thing"] (spF ct K 1 f__law_is_pair) := fn_ok (N := ["_law_thing"]) F sc__law_is_pair (k := 2) (m := m__law_is_pair) (fun cdv A outer s H E hr => by
    have tk : Takes (cxOf (L2.CX P w) P w K mg base ["_law_thing"] "_law_is_pair" (defScope s__law_is_pair) f cdv A outer s H E) (WEx E) := takes_of rfl rfl rfl rfl
    exact (sss_one (ss_ret (se_and (se_fn d__law_are_names hr (by decide) tk rfl (san_cons (se_var (i := 0) rfl (.inl rfl) rfl rfl) san_nil rfl) rfl rfl rfl) (se_one (se_cmp (ops_eq hr.units) (se_callB cs_len rfl B.n_len (by decide +kernel) (sa_cons (se_var (i := 0) rfl (.inl rfl) rfl rfl) sa_nil rfl) (by decide) rfl rfl rfl) se_int rfl))))))
  exact ⟨f, fd, ["_law_thing"], G, F.kp, b, hm⟩
abbrev s__law_is_four : Stmt := topS 36
theorem sc__law_is_four : FnScope ["_law_thing", "_law_part"] ["_law_thing"] (defScope s__law_is_four) := ⟨rfl, rfl, rfl, by decide +kernel, rfl, by decide +kernel, by decide +kernel⟩
def m__law_is_four : SM :=
    (seqS (ifS (orM (notM (asB (isiM .tuple (getV 0)))) (asB (bin o_ne (callM c_len (consA (getV 0) nilA)) (cst (.int (4)))))) (retS (cst (.bool false))) skipS)
    (retS (bin o_eq (lcM false (seqM (getV 0)) (tgName 1) (notM (asB (isiM .tuple (getV 1)))) (getV 1) [1]) (lstM nilA))))
def f__law_is_four : FM := fnM 2 m__law_is_four
theorem ok__law_is_four {f : Addr} {fd : FuncData} (F : Fun K "_law_is_four" "_law_is_four" s__law_is_four f fd) (hm : mg "_law_is_four" = some (.ref f)) (B : Bt mg) (C : Ct mg)  : Dfn P w K mg base ct "_law_is_four" 1 1 f__law_is_four := by
  have b : Binds K fd ["_law_thing"] [] := F.binds (ps := ["_law_thing"]) (fun _ _ _ _ _ _ us hl => match us, hl with | [_], _ => (by kernel_rfl))
  have sc := sc__law_is_four
  have G : FnOk P w K mg base (L2.CX P w) 1 f fd ["_law_thing"] (spF ct K 1 f__law_is_four) := fn_ok (N := ["_law_thing", "_law_part"]) F sc__law_is_four (k := 0) (m := m__law_is_four) (fun cdv A outer s H E hr => by
    have tk : Takes (cxOf (L2.CX P w) P w K mg base ["_law_thing", "_law_part"] "_law_is_four" (defScope s__law_is_four) f cdv A outer s H E) (WEx E) := takes_of rfl rfl rfl rfl
    exact (sss_cons (ss_if (st_w (sw_or (st_not (st_val (se_isi .tuple rfl B.n_isinstance rfl B.n_tuple (by decide +kernel) (by decide) rfl (se_var (i := 0) rfl (.inl rfl) rfl rfl) rfl rfl rfl) (fun _ => rfl))) (sw_or1 (st_cmp (ops_ne hr.units) (se_callB cs_len rfl B.n_len (by decide +kernel) (sa_cons (se_var (i := 0) rfl (.inl rfl) rfl rfl) sa_nil rfl) (by decide) rfl rfl rfl) se_int rfl)))) (sss_one (ss_ret se_bl)) sss_nil)
      (sss_one (ss_ret (se_cmp (ops_eq hr.units) (se_lc false (ow := [("_law_part", 1)]) rfl sc.nd (si_seq (se_var (i := 0) rfl (.inl rfl) rfl rfl)) (blkOk_by (by kernel_rfl)) (by decide) (fun _ _ _ _ _ => (sg_name (i := 1) sc.nd rfl (.inl rfl) (.inr rfl))) (fun _ _ _ _ _ => (sts_one (st_not (st_val (se_isi .tuple rfl B.n_isinstance rfl B.n_tuple (by decide +kernel) (by decide) rfl (se_var (i := 1) rfl (.inl rfl) rfl rfl) rfl rfl rfl) (fun _ => rfl))))) (fun _ _ _ _ _ => (se_var (i := 1) rfl (.inl rfl) rfl rfl)) (fun _ => rfl)) (se_lst sa_nil) rfl)))))
  exact ⟨f, fd, ["_law_thing"], G, F.kp, b, hm⟩
abbrev s__law_is_book : Stmt := topS 37
theorem sc__law_is_book : FnScope ["_law_thing", "_law_odd_here", "_law_one"] ["_law_thing"] (defScope s__law_is_book) := ⟨rfl, rfl, rfl, by decide +kernel, rfl, by decide +kernel, by decide +kernel⟩
def m__law_is_book : SM :=
    (seqS (ifS (notM (asB (callM (callF f__law_is_four) (consA (getV 0) nilA)))) (retS (cst (.bool false))) skipS)
    (seqS (setS 1 (lcM true (seqM (bin o_ix (getV 0) (cst (.int (0))))) (tgName 2) (notM (asB (callM (callF f__law_is_source) (consA (getV 2) nilA)))) (getV 2) [2]))
    (seqS (dropS (methM isL extendR (getV 1) (consA (lcM false (seqM (bin o_ix (getV 0) (cst (.int (1))))) (tgName 2) (notM (asB (callM (callF f__law_is_party) (consA (getV 2) nilA)))) (getV 2) [2]) nilA)))
    (seqS (dropS (methM isL extendR (getV 1) (consA (lcM false (seqM (bin o_ix (getV 0) (cst (.int (2))))) (tgName 2) (notM (asB (callM (callF f__law_is_pair) (consA (getV 2) nilA)))) (getV 2) [2]) nilA)))
    (seqS (dropS (methM isL extendR (getV 1) (consA (lcM false (seqM (bin o_ix (getV 0) (cst (.int (3))))) (tgName 2) (notM (asB (callM (callF f__law_is_build) (consA (getV 2) nilA)))) (getV 2) [2]) nilA)))
    (retS (bin o_eq (callM c_len (consA (getV 1) nilA)) (cst (.int (0))))))))))
def f__law_is_book : FM := fnM 3 m__law_is_book
theorem ok__law_is_book {f : Addr} {fd : FuncData} (F : Fun K "_law_is_book" "_law_is_book" s__law_is_book f fd) (hm : mg "_law_is_book" = some (.ref f)) (B : Bt mg) (C : Ct mg) (d__law_is_build : Dfn P w K mg base ct "_law_is_build" 3 1 f__law_is_build) (d__law_is_four : Dfn P w K mg base ct "_law_is_four" 1 1 f__law_is_four) (d__law_is_pair : Dfn P w K mg base ct "_law_is_pair" 3 1 f__law_is_pair) (d__law_is_party : Dfn P w K mg base ct "_law_is_party" 2 1 f__law_is_party) (d__law_is_source : Dfn P w K mg base ct "_law_is_source" 4 1 f__law_is_source) : Dfn P w K mg base ct "_law_is_book" 5 1 f__law_is_book := by
  have b : Binds K fd ["_law_thing"] [] := F.binds (ps := ["_law_thing"]) (fun _ _ _ _ _ _ us hl => match us, hl with | [_], _ => (by kernel_rfl))
  have sc := sc__law_is_book
  have G : FnOk P w K mg base (L2.CX P w) 5 f fd ["_law_thing"] (spF ct K 1 f__law_is_book) := fn_ok (N := ["_law_thing", "_law_odd_here", "_law_one"]) F sc__law_is_book (k := 4) (m := m__law_is_book) (fun cdv A outer s H E hr => by
    have tk : Takes (cxOf (L2.CX P w) P w K mg base ["_law_thing", "_law_odd_here", "_law_one"] "_law_is_book" (defScope s__law_is_book) f cdv A outer s H E) (WEx E) := takes_of rfl rfl rfl rfl
    exact (sss_cons (ss_if (st_not (st_val (se_fn d__law_is_four hr (by decide) tk rfl (san_cons (se_var (i := 0) rfl (.inl rfl) rfl rfl) san_nil rfl) rfl rfl rfl) (fun _ => rfl))) (sss_one (ss_ret se_bl)) sss_nil)
      (sss_cons (ss_setLc true (i := 1) (ow := [("_law_one", 2)]) rfl sc.nd rfl rfl (sw_true rfl rfl rfl (by decide +kernel)) (si_seq (se_ix ixs (se_var (i := 0) rfl (.inl rfl) rfl rfl) se_int (fun _ _ => rfl))) (blkOk_by (by kernel_rfl)) (by decide) (fun _ _ _ _ _ => (sg_name (i := 2) sc.nd rfl (.inl rfl) (.inr rfl))) (fun _ _ _ _ _ => (sts_one (st_not (st_val (se_fn d__law_is_source hr (by decide) takes0 rfl (san_cons (se_var (i := 2) rfl (.inl rfl) rfl rfl) san_nil rfl) rfl rfl rfl) (fun _ => rfl))))) (fun _ _ _ _ _ => (se_var (i := 2) rfl (.inl rfl) rfl rfl)) (fun _ => rfl))
      (sss_cons (ss_expr (se_extend (se_var (i := 1) rfl (.inl rfl) rfl rfl) (sa_cons (se_lc false (ow := [("_law_one", 2)]) rfl sc.nd (si_seq (se_ix ixs (se_var (i := 0) rfl (.inl rfl) rfl rfl) se_int (fun _ _ => rfl))) (blkOk_by (by kernel_rfl)) (by decide) (fun _ _ _ _ _ => (sg_name (i := 2) sc.nd rfl (.inl rfl) (.inr rfl))) (fun _ _ _ _ _ => (sts_one (st_not (st_val (se_fn d__law_is_party hr (by decide) takes0 rfl (san_cons (se_var (i := 2) rfl (.inl rfl) rfl rfl) san_nil rfl) rfl rfl rfl) (fun _ => rfl))))) (fun _ _ _ _ _ => (se_var (i := 2) rfl (.inl rfl) rfl rfl)) (fun _ => rfl)) sa_nil rfl) rfl rfl rfl rfl rfl) rfl)
      (sss_cons (ss_expr (se_extend (se_var (i := 1) rfl (.inl rfl) rfl rfl) (sa_cons (se_lc false (ow := [("_law_one", 2)]) rfl sc.nd (si_seq (se_ix ixs (se_var (i := 0) rfl (.inl rfl) rfl rfl) se_int (fun _ _ => rfl))) (blkOk_by (by kernel_rfl)) (by decide) (fun _ _ _ _ _ => (sg_name (i := 2) sc.nd rfl (.inl rfl) (.inr rfl))) (fun _ _ _ _ _ => (sts_one (st_not (st_val (se_fn d__law_is_pair hr (by decide) takes0 rfl (san_cons (se_var (i := 2) rfl (.inl rfl) rfl rfl) san_nil rfl) rfl rfl rfl) (fun _ => rfl))))) (fun _ _ _ _ _ => (se_var (i := 2) rfl (.inl rfl) rfl rfl)) (fun _ => rfl)) sa_nil rfl) rfl rfl rfl rfl rfl) rfl)
      (sss_cons (ss_expr (se_extend (se_var (i := 1) rfl (.inl rfl) rfl rfl) (sa_cons (se_lc false (ow := [("_law_one", 2)]) rfl sc.nd (si_seq (se_ix ixs (se_var (i := 0) rfl (.inl rfl) rfl rfl) se_int (fun _ _ => rfl))) (blkOk_by (by kernel_rfl)) (by decide) (fun _ _ _ _ _ => (sg_name (i := 2) sc.nd rfl (.inl rfl) (.inr rfl))) (fun _ _ _ _ _ => (sts_one (st_not (st_val (se_fn d__law_is_build hr (by decide) takes0 rfl (san_cons (se_var (i := 2) rfl (.inl rfl) rfl rfl) san_nil rfl) rfl rfl rfl) (fun _ => rfl))))) (fun _ _ _ _ _ => (se_var (i := 2) rfl (.inl rfl) rfl rfl)) (fun _ => rfl)) sa_nil rfl) rfl rfl rfl rfl rfl) rfl)
      (sss_one (ss_ret (se_cmp (ops_eq hr.units) (se_callB cs_len rfl B.n_len (by decide +kernel) (sa_cons (se_var (i := 1) rfl (.inl rfl) rfl rfl) sa_nil rfl) (by decide) rfl rfl rfl) se_int rfl)))))))))
  exact ⟨f, fd, ["_law_thing"], G, F.kp, b, hm⟩
abbrev s__law_odd : Stmt := topS 38
theorem sc__law_odd : FnScope ["_law_feed_here", "_law_odd_here"] ["_law_feed_here"] (defScope s__law_odd) := ⟨rfl, rfl, rfl, by decide +kernel, rfl, by decide +kernel, by decide +kernel⟩
def m__law_odd : SM :=
    (seqS (setS 1 (ownM (consA (cst .none) (consA (cst (.bool true)) (consA (cst (.bool false)) (consA (cst (.int (0))) (consA (cst (.int (1))) (consA (negM (cst (.int (1)))) (consA (cst (.int (2))) (consA (bin o_pow (cst (.int (10))) (cst (.int (59)))) (consA (cst (.str (Str.ofString ""))) (consA (cst (.str (Str.ofString "a"))) (consA (cst (.str (Str.ofString "b9"))) (consA (cst (.str (Str.ofString "9a"))) (consA (cst (.str (Str.ofString "A"))) (consA (cst (.str (Str.ofString "abcdefgh"))) (consA (cst (.str (Str.ofString "abcdefghi"))) nilA)))))))))))))))))
    (seqS (dropS (methM isL extendR (getV 1) (consA (lstM (consA (cst (.str (Str.ofString "a b"))) (consA (cst (.str (Str.ofString "-"))) (consA (cst (.str (Str.ofString "a-"))) (consA (tupM nilA) (consA (tupM (consA (cst (.str (Str.ofString "a"))) nilA)) (consA (tupM (consA (cst (.str (Str.ofString "a"))) (consA (cst (.str (Str.ofString "b"))) nilA))) (consA (tupM (consA (cst (.str (Str.ofString "b"))) (consA (cst (.str (Str.ofString "a"))) nilA))) (consA (tupM (consA (cst (.str (Str.ofString "a"))) (consA (cst (.str (Str.ofString "a"))) nilA))) (consA (lstM nilA) (consA (lstM (consA (cst (.str (Str.ofString "a"))) nilA)) (consA (tupM (consA (cst (.int (1))) nilA)) (consA (tupM (consA (tupM nilA) nilA)) nilA))))))))))))) nilA)))
    (seqS (dropS (methM isL extendR (getV 1) (consA (lstM (consA (tupM (consA (cst (.str (Str.ofString "a"))) (consA (cst (.int (1))) nilA))) (consA (tupM (consA (cst (.str (Str.ofString "a"))) (consA (cst (.bool true)) nilA))) (consA (tupM (consA (cst (.str (Str.ofString "a"))) (consA (cst (.int (0))) nilA))) (consA (cst (.str (Str.ofString "a\n"))) (consA (cst (.str (Str.ofString "a_b"))) (consA (cst (.str (Str.ofString "a,b"))) (consA (tupM (consA (cst (.str (Str.ofString "a"))) (consA (cst .none) nilA))) (consA (tupM (consA (cst (.str (Str.ofString "a"))) (consA (cst (.str (Str.ofString "b"))) (consA (cst (.str (Str.ofString "c"))) nilA)))) nilA))))))))) nilA)))
    (retS (callM (callF f__law_pick) (consA (getV 0) (consA (bin o_add (getV 1) (lstM (consA (tupM (consA (tupM (consA (cst (.str (Str.ofString "a"))) (consA (cst (.str (Str.ofString "b"))) nilA))) nilA)) (consA (cst (.str (Str.ofString "0"))) (consA (cst (.str (Str.ofString "zzzzzzzz"))) (consA (tupM (consA (cst (.str (Str.ofString "zzzzzzzz"))) nilA)) (consA (lstM (consA (tupM nilA) nilA)) nilA))))))) nilA)))))))
def f__law_odd : FM := fnM 2 m__law_odd
theorem ok__law_odd {f : Addr} {fd : FuncData} (F : Fun K "_law_odd" "_law_odd" s__law_odd f fd) (hm : mg "_law_odd" = some (.ref f)) (B : Bt mg) (C : Ct mg) (d__law_pick : Dfn P w K mg base ct "_law_pick" 2 2 f__law_pick) : Dfn P w K mg base ct "_law_odd" 3 1 f__law_odd := by
  have b : Binds K fd ["_law_feed_here"] [] := F.binds (ps := ["_law_feed_here"]) (fun _ _ _ _ _ _ us hl => match us, hl with | [_], _ => (by kernel_rfl))
  have sc := sc__law_odd
  have G : FnOk P w K mg base (L2.CX P w) 3 f fd ["_law_feed_here"] (spF ct K 1 f__law_odd) := fn_ok (N := ["_law_feed_here", "_law_odd_here"]) F sc__law_odd (k := 2) (m := m__law_odd) (fun cdv A outer s H E hr => by
    have tk : Takes (cxOf (L2.CX P w) P w K mg base ["_law_feed_here", "_law_odd_here"] "_law_odd" (defScope s__law_odd) f cdv A outer s H E) (WEx E) := takes_of rfl rfl rfl rfl
    exact (sss_cons (ss_set (i := 1) (se_own (sa_cons se_non (sa_cons se_bl (sa_cons se_bl (sa_cons se_int (sa_cons se_int (sa_cons (se_neg se_int) (sa_cons se_int (sa_cons (se_op ops_pow se_int se_int) (sa_cons se_str (sa_cons se_str (sa_cons se_str (sa_cons se_str (sa_cons se_str (sa_cons se_str (sa_cons se_str sa_nil rfl) rfl) rfl) rfl) rfl) rfl) rfl) rfl) rfl) rfl) rfl) rfl) rfl) rfl) rfl)) sc.nd rfl (.inl rfl) rfl (.inr rfl))
      (sss_cons (ss_expr (se_extend (se_var (i := 1) rfl (.inl rfl) rfl rfl) (sa_cons (se_lst (sa_cons se_str (sa_cons se_str (sa_cons se_str (sa_cons (se_tup sa_nil) (sa_cons (se_tup (sa_cons se_str sa_nil rfl)) (sa_cons (se_tup (sa_cons se_str (sa_cons se_str sa_nil rfl) rfl)) (sa_cons (se_tup (sa_cons se_str (sa_cons se_str sa_nil rfl) rfl)) (sa_cons (se_tup (sa_cons se_str (sa_cons se_str sa_nil rfl) rfl)) (sa_cons (se_lst sa_nil) (sa_cons (se_lst (sa_cons se_str sa_nil rfl)) (sa_cons (se_tup (sa_cons se_int sa_nil rfl)) (sa_cons (se_tup (sa_cons (se_tup sa_nil) sa_nil rfl)) sa_nil rfl) rfl) rfl) rfl) rfl) rfl) rfl) rfl) rfl) rfl) rfl) rfl)) sa_nil rfl) rfl rfl rfl rfl rfl) rfl)
      (sss_cons (ss_expr (se_extend (se_var (i := 1) rfl (.inl rfl) rfl rfl) (sa_cons (se_lst (sa_cons (se_tup (sa_cons se_str (sa_cons se_int sa_nil rfl) rfl)) (sa_cons (se_tup (sa_cons se_str (sa_cons se_bl sa_nil rfl) rfl)) (sa_cons (se_tup (sa_cons se_str (sa_cons se_int sa_nil rfl) rfl)) (sa_cons se_str (sa_cons se_str (sa_cons se_str (sa_cons (se_tup (sa_cons se_str (sa_cons se_non sa_nil rfl) rfl)) (sa_cons (se_tup (sa_cons se_str (sa_cons se_str (sa_cons se_str sa_nil rfl) rfl) rfl)) sa_nil rfl) rfl) rfl) rfl) rfl) rfl) rfl) rfl)) sa_nil rfl) rfl rfl rfl rfl rfl) rfl)
      (sss_one (ss_ret (se_fn d__law_pick hr (by decide) tk rfl (san_cons (se_var (i := 0) rfl (.inl rfl) rfl rfl) (san_cons (se_op ops_add (se_var (i := 1) rfl (.inl rfl) rfl rfl) (se_lst (sa_cons (se_tup (sa_cons (se_tup (sa_cons se_str (sa_cons se_str sa_nil rfl) rfl)) sa_nil rfl)) (sa_cons se_str (sa_cons se_str (sa_cons (se_tup (sa_cons se_str sa_nil rfl)) (sa_cons (se_lst (sa_cons (se_tup sa_nil) sa_nil rfl)) sa_nil rfl) rfl) rfl) rfl) rfl))) san_nil rfl) rfl) rfl rfl rfl)))))))
  exact ⟨f, fd, ["_law_feed_here"], G, F.kp, b, hm⟩
abbrev s__law_bent : Stmt := topS 39
theorem sc__law_bent : FnScope ["_law_feed_here", "_law_thing", "_law_size", "_law_k", "_law_way", "_law_middle", "_law_sign"] ["_law_feed_here", "_law_thing"] (defScope s__law_bent) := ⟨rfl, rfl, rfl, by decide +kernel, rfl, by decide +kernel, by decide +kernel⟩
def m__law_bent (F__law_bent : Nat → FM) (n : Nat) : SM :=
    (seqS (setS 2 (ifM (asB (isiN [.tuple, .str] (getV 1))) (callM c_len (consA (getV 1) nilA)) (cst (.int (0)))))
    (seqS (ifS (andM (asB (isiM .tuple (getV 1))) (andM (asB (bin o_gt (getV 2) (cst (.int (0))))) (asB (bin o_gt (callM (callF f__law_draw) (consA (getV 0) (consA (cst (.int (4))) nilA))) (cst (.int (0))))))) (seqS (setS 3 (callM (callF f__law_draw) (consA (getV 0) (consA (getV 2) nilA))))
    (retS (bin o_addB (bin o_addB (cutM (getV 1) none (some (getV 3))) (tupM (consA (callM (callF (F__law_bent n)) (consA (getV 0) (consA (bin o_ix (getV 1) (getV 3)) nilA))) nilA))) (cutM (getV 1) (some (bin o_addB (getV 3) (cst (.int (1))))) none)))) skipS)
    (seqS (parS 4 3 (consA (callM (callF f__law_draw) (consA (getV 0) (consA (cst (.int (7))) nilA))) (consA (callM (callF f__law_draw) (consA (getV 0) (consA (bin o_addB (getV 2) (cst (.int (1)))) nilA))) nilA)))
    (seqS (ifS (andM (asB (isiM .tuple (getV 1))) (asB (bin o_eq (getV 4) (cst (.int (3)))))) (retS (callM (c_list false) (consA (getV 1) nilA))) skipS)
    (seqS (ifS (andM (asB (isiM .tuple (getV 1))) (asB (bin o_lt (getV 4) (cst (.int (3)))))) (seqS (setS 5 (lstM (consA (tupM nilA) (consA (bin o_addB (cutM (getV 1) (some (getV 3)) (some (bin o_addB (getV 3) (cst (.int (1)))))) (cutM (getV 1) (some (getV 3)) (some (bin o_addB (getV 3) (cst (.int (1))))))) (consA (bin o_addB (cutM (getV 1) (some (bin o_addB (getV 3) (cst (.int (1))))) (some (bin o_addB (getV 3) (cst (.int (2)))))) (cutM (getV 1) (some (getV 3)) (some (bin o_addB (getV 3) (cst (.int (1))))))) nilA)))))
    (retS (bin o_addB (bin o_addB (cutM (getV 1) none (some (getV 3))) (bin o_ix (getV 5) (getV 4))) (cutM (getV 1) (some (bin o_addB (getV 3) (bin o_ix (lstM (consA (cst (.int (1))) (consA (cst (.int (1))) (consA (cst (.int (2))) nilA)))) (getV 4)))) none)))) skipS)
    (seqS (ifS (andM (asB (isiM .str (getV 1))) (asB (bin o_lt (getV 4) (cst (.int (4)))))) (seqS (setS 6 (callM (callF f__law_pick) (consA (getV 0) (consA (lstM (consA (cst (.str (Str.ofString "a"))) (consA (cst (.str (Str.ofString "z"))) (consA (cst (.str (Str.ofString "0"))) (consA (cst (.str (Str.ofString "9"))) (consA (cst (.str (Str.ofString "A"))) (consA (cst (.str (Str.ofString "_"))) (consA (cst (.str (Str.ofString " "))) (consA (cst (.str (Str.ofString "-"))) (consA (cst (.str (Str.ofString ""))) nilA)))))))))) nilA))))
    (retS (bin o_addB (bin o_addB (cutM (getV 1) none (some (getV 3))) (getV 6)) (cutM (getV 1) (some (bin o_addB (getV 3) (bin o_mod (callM c_int (consA (getV 4) nilA)) (cst (.int (2)))))) none)))) skipS)
    (seqS (ifS (andM (asB (isiM .int (getV 1))) (asB (bin o_lt (getV 4) (cst (.int (3)))))) (retS (bin o_ix (lstM (consA (bin o_addB (getV 1) (cst (.int (1)))) (consA (cst (.int (0))) (consA (bin o_gtB (getV 1) (cst (.int (0)))) nilA)))) (getV 4))) skipS)
    (retS (callM (callF f__law_odd) (consA (getV 0) nilA))))))))))
def F__law_bent : Nat → FM
  | 0 => fun _ _ => .bad
  | n + 1 => fnM 7 (m__law_bent (fun _ => F__law_bent n) n)
theorem ok__law_bent {f : Addr} {fd : FuncData} (F : Fun K "_law_bent" "_law_bent" s__law_bent f fd) (hm : mg "_law_bent" = some (.ref f)) (B : Bt mg) (C : Ct mg) (d__law_draw : Dfn P w K mg base ct "_law_draw" 1 2 f__law_draw) (d__law_odd : Dfn P w K mg base ct "_law_odd" 3 1 f__law_odd) (d__law_pick : Dfn P w K mg base ct "_law_pick" 2 2 f__law_pick) : ∀ n : Nat, Dfn P w K mg base ct "_law_bent" (3 + n) 2 (F__law_bent n)
  | 0 => by
    have b : Binds K fd ["_law_feed_here", "_law_thing"] [] := F.binds (ps := ["_law_feed_here", "_law_thing"]) (fun _ _ _ _ _ _ us hl => match us, hl with | [_, _], _ => (by kernel_rfl))
    have G : FnOk P w K mg base (L2.CX P w) (3 + 0) f fd ["_law_feed_here", "_law_thing"] (spF ct K 2 (F__law_bent 0)) := ⟨fun vs H Q E h => h.1, fun A outer s H args us vs Q E _ _ _ _ h => (by
      obtain ⟨_, _, _, _, _, _, _, h⟩ := h
      exact h.elim)⟩
    exact ⟨f, fd, ["_law_feed_here", "_law_thing"], G, F.kp, b, hm⟩
  | n + 1 => by
    have ih := ok__law_bent F hm B C d__law_draw d__law_odd d__law_pick n
    have b : Binds K fd ["_law_feed_here", "_law_thing"] [] := F.binds (ps := ["_law_feed_here", "_law_thing"]) (fun _ _ _ _ _ _ us hl => match us, hl with | [_, _], _ => (by kernel_rfl))
    have sc := sc__law_bent
    have G : FnOk P w K mg base (L2.CX P w) (3 + (n + 1)) f fd ["_law_feed_here", "_law_thing"] (spF ct K 2 (F__law_bent (n + 1))) := fn_ok (N := ["_law_feed_here", "_law_thing", "_law_size", "_law_k", "_law_way", "_law_middle", "_law_sign"]) F sc__law_bent (k := 3 + n) (m := (m__law_bent (fun _ => F__law_bent n) n)) (fun cdv A outer s H E hr => by
      have tk : Takes (cxOf (L2.CX P w) P w K mg base ["_law_feed_here", "_law_thing", "_law_size", "_law_k", "_law_way", "_law_middle", "_law_sign"] "_law_bent" (defScope s__law_bent) f cdv A outer s H E) (WEx E) := takes_of rfl rfl rfl rfl
      exact (sss_cons (ss_set (i := 2) (se_if (st_val (se_isi2 .tuple .str rfl B.n_isinstance rfl B.n_tuple (by decide +kernel) (by decide) rfl rfl B.n_str (by decide +kernel) (by decide) rfl (se_var (i := 1) rfl (.inl rfl) rfl rfl) rfl rfl rfl rfl rfl) (fun _ => rfl)) (se_callB cs_len rfl B.n_len (by decide +kernel) (sa_cons (se_var (i := 1) rfl (.inl rfl) rfl rfl) sa_nil rfl) (by decide) rfl rfl rfl) se_int) sc.nd rfl (.inl rfl) rfl (.inr rfl))
      (sss_cons (ss_if (st_w (sw_and (st_val (se_isi .tuple rfl B.n_isinstance rfl B.n_tuple (by decide +kernel) (by decide) rfl (se_var (i := 1) rfl (.inl rfl) rfl rfl) rfl rfl rfl) (fun _ => rfl)) (sw_and (st_cmp (ops_gt hr.units) (se_var (i := 2) rfl (.inl rfl) rfl rfl) se_int rfl) (sw_and1 (st_cmp (ops_gt hr.units) (se_fn d__law_draw hr (by omega) tk rfl (san_cons (se_var (i := 0) rfl (.inl rfl) rfl rfl) (san_cons se_int san_nil rfl) rfl) rfl rfl rfl) se_int rfl))))) (sss_cons (ss_set (i := 3) (se_fn d__law_draw hr (by omega) tk rfl (san_cons (se_var (i := 0) rfl (.inl rfl) rfl rfl) (san_cons (se_var (i := 2) rfl (.inl rfl) rfl rfl) san_nil rfl) rfl) rfl rfl rfl) sc.nd rfl (.inl rfl) rfl (.inr rfl))
      (sss_one (ss_ret (se_op ops_addB (se_op ops_addB (se_cut (se_var (i := 1) rfl (.inl rfl) rfl rfl) so_none (so_some (se_var (i := 3) rfl (.inl rfl) rfl rfl))) (se_tup (sa_cons (se_fn ih hr (Nat.le_refl _) tk rfl (san_cons (se_var (i := 0) rfl (.inl rfl) rfl rfl) (san_cons (se_ix ixs (se_var (i := 1) rfl (.inl rfl) rfl rfl) (se_var (i := 3) rfl (.inl rfl) rfl rfl) (fun _ _ => rfl)) san_nil rfl) rfl) rfl rfl rfl) sa_nil rfl))) (se_cut (se_var (i := 1) rfl (.inl rfl) rfl rfl) (so_some (se_op ops_addB (se_var (i := 3) rfl (.inl rfl) rfl rfl) se_int)) so_none))))) sss_nil)
      (sss_cons (ss_par (i := 4) (j := 3) rfl sc.nd rfl rfl (by decide) rfl rfl (sa_cons (se_fn d__law_draw hr (by omega) tk rfl (san_cons (se_var (i := 0) rfl (.inl rfl) rfl rfl) (san_cons se_int san_nil rfl) rfl) rfl rfl rfl) (sa_cons (se_fn d__law_draw hr (by omega) tk rfl (san_cons (se_var (i := 0) rfl (.inl rfl) rfl rfl) (san_cons (se_op ops_addB (se_var (i := 2) rfl (.inl rfl) rfl rfl) se_int) san_nil rfl) rfl) rfl rfl rfl) sa_nil rfl) rfl) rfl rfl)
      (sss_cons (ss_if (st_w (sw_and (st_val (se_isi .tuple rfl B.n_isinstance rfl B.n_tuple (by decide +kernel) (by decide) rfl (se_var (i := 1) rfl (.inl rfl) rfl rfl) rfl rfl rfl) (fun _ => rfl)) (sw_and1 (st_cmp (ops_eq hr.units) (se_var (i := 4) rfl (.inl rfl) rfl rfl) se_int rfl)))) (sss_one (ss_ret (se_callTy (cs_list false) rfl B.n_list (by decide +kernel) (sa_cons (se_var (i := 1) rfl (.inl rfl) rfl rfl) sa_nil rfl) (by decide) rfl rfl rfl))) sss_nil)
      (sss_cons (ss_if (st_w (sw_and (st_val (se_isi .tuple rfl B.n_isinstance rfl B.n_tuple (by decide +kernel) (by decide) rfl (se_var (i := 1) rfl (.inl rfl) rfl rfl) rfl rfl rfl) (fun _ => rfl)) (sw_and1 (st_cmp (ops_lt hr.units) (se_var (i := 4) rfl (.inl rfl) rfl rfl) se_int rfl)))) (sss_cons (ss_set (i := 5) (se_lst (sa_cons (se_tup sa_nil) (sa_cons (se_op ops_addB (se_cut (se_var (i := 1) rfl (.inl rfl) rfl rfl) (so_some (se_var (i := 3) rfl (.inl rfl) rfl rfl)) (so_some (se_op ops_addB (se_var (i := 3) rfl (.inl rfl) rfl rfl) se_int))) (se_cut (se_var (i := 1) rfl (.inl rfl) rfl rfl) (so_some (se_var (i := 3) rfl (.inl rfl) rfl rfl)) (so_some (se_op ops_addB (se_var (i := 3) rfl (.inl rfl) rfl rfl) se_int)))) (sa_cons (se_op ops_addB (se_cut (se_var (i := 1) rfl (.inl rfl) rfl rfl) (so_some (se_op ops_addB (se_var (i := 3) rfl (.inl rfl) rfl rfl) se_int)) (so_some (se_op ops_addB (se_var (i := 3) rfl (.inl rfl) rfl rfl) se_int))) (se_cut (se_var (i := 1) rfl (.inl rfl) rfl rfl) (so_some (se_var (i := 3) rfl (.inl rfl) rfl rfl)) (so_some (se_op ops_addB (se_var (i := 3) rfl (.inl rfl) rfl rfl) se_int)))) sa_nil rfl) rfl) rfl)) sc.nd rfl (.inl rfl) rfl (.inr rfl))
      (sss_one (ss_ret (se_op ops_addB (se_op ops_addB (se_cut (se_var (i := 1) rfl (.inl rfl) rfl rfl) so_none (so_some (se_var (i := 3) rfl (.inl rfl) rfl rfl))) (se_ix ixs (se_var (i := 5) rfl (.inl rfl) rfl rfl) (se_var (i := 4) rfl (.inl rfl) rfl rfl) (fun _ _ => rfl))) (se_cut (se_var (i := 1) rfl (.inl rfl) rfl rfl) (so_some (se_op ops_addB (se_var (i := 3) rfl (.inl rfl) rfl rfl) (se_ix ixs (se_lst (sa_cons se_int (sa_cons se_int (sa_cons se_int sa_nil rfl) rfl) rfl)) (se_var (i := 4) rfl (.inl rfl) rfl rfl) (fun _ _ => rfl)))) so_none))))) sss_nil)
      (sss_cons (ss_if (st_w (sw_and (st_val (se_isi .str rfl B.n_isinstance rfl B.n_str (by decide +kernel) (by decide) rfl (se_var (i := 1) rfl (.inl rfl) rfl rfl) rfl rfl rfl) (fun _ => rfl)) (sw_and1 (st_cmp (ops_lt hr.units) (se_var (i := 4) rfl (.inl rfl) rfl rfl) se_int rfl)))) (sss_cons (ss_set (i := 6) (se_fn d__law_pick hr (by omega) tk rfl (san_cons (se_var (i := 0) rfl (.inl rfl) rfl rfl) (san_cons (se_lst (sa_cons se_str (sa_cons se_str (sa_cons se_str (sa_cons se_str (sa_cons se_str (sa_cons se_str (sa_cons se_str (sa_cons se_str (sa_cons se_str sa_nil rfl) rfl) rfl) rfl) rfl) rfl) rfl) rfl) rfl)) san_nil rfl) rfl) rfl rfl rfl) sc.nd rfl (.inl rfl) rfl (.inr rfl))
      (sss_one (ss_ret (se_op ops_addB (se_op ops_addB (se_cut (se_var (i := 1) rfl (.inl rfl) rfl rfl) so_none (so_some (se_var (i := 3) rfl (.inl rfl) rfl rfl))) (se_var (i := 6) rfl (.inl rfl) rfl rfl)) (se_cut (se_var (i := 1) rfl (.inl rfl) rfl rfl) (so_some (se_op ops_addB (se_var (i := 3) rfl (.inl rfl) rfl rfl) (se_op ops_mod (se_callTy cs_int rfl B.n_int (by decide +kernel) (sa_cons (se_var (i := 4) rfl (.inl rfl) rfl rfl) sa_nil rfl) (by decide) rfl rfl rfl) se_int))) so_none))))) sss_nil)
      (sss_cons (ss_if (st_w (sw_and (st_val (se_isi .int rfl B.n_isinstance rfl B.n_int (by decide +kernel) (by decide) rfl (se_var (i := 1) rfl (.inl rfl) rfl rfl) rfl rfl rfl) (fun _ => rfl)) (sw_and1 (st_cmp (ops_lt hr.units) (se_var (i := 4) rfl (.inl rfl) rfl rfl) se_int rfl)))) (sss_one (ss_ret (se_ix ixs (se_lst (sa_cons (se_op ops_addB (se_var (i := 1) rfl (.inl rfl) rfl rfl) se_int) (sa_cons se_int (sa_cons (se_cmp (ops_gtB hr.units) (se_var (i := 1) rfl (.inl rfl) rfl rfl) se_int rfl) sa_nil rfl) rfl) rfl)) (se_var (i := 4) rfl (.inl rfl) rfl rfl) (fun _ _ => rfl)))) sss_nil)
      (sss_one (ss_ret (se_fn d__law_odd hr (by omega) tk rfl (san_cons (se_var (i := 0) rfl (.inl rfl) rfl rfl) san_nil rfl) rfl rfl rfl)))))))))))
    exact ⟨f, fd, ["_law_feed_here", "_law_thing"], G, F.kp, b, hm⟩
abbrev s__law_fixed : Stmt := topS 40
theorem sc__law_fixed : FnScope ["_law_deep", "_law_wide", "_law_lap", "_law_things", "_law_k"] [] (defScope s__law_fixed) := ⟨rfl, rfl, rfl, by decide +kernel, rfl, by decide +kernel, by decide +kernel⟩
def m__law_fixed : SM :=
    (seqS (parS 0 1 (consA (tupM (consA (cst (.str (Str.ofString "a"))) nilA)) (consA (callM c_tuple (consA (lcM false (rng2 (consA (cst (.int (100))) (consA (cst (.int (700))) nilA))) (tgName 4) yesM (bin o_add (cst (.str (Str.ofString "a"))) (callM c_str (consA (getV 4) nilA))) [4]) nilA)) nilA)))
    (seqS (forS (rng1 (consA (cst (.int (27))) nilA)) (tgName 2) (setS 0 (tupM (consA (getV 0) nilA))))
    (seqS (setS 3 (ownM (consA (cst .none) (consA (cst (.bool true)) (consA (cst (.bool false)) (consA (cst (.int (0))) (consA (cst (.int (1))) (consA (negM (cst (.int (1)))) (consA (bin o_pow (cst (.int (10))) (cst (.int (59)))) (consA (negM (bin o_pow (cst (.int (10))) (cst (.int (59))))) (consA (cst (.str (Str.ofString ""))) (consA (cst (.str (Str.ofString "a"))) (consA (cst (.str (Str.ofString "z"))) (consA (cst (.str (Str.ofString "0"))) (consA (cst (.str (Str.ofString "a0"))) (consA (cst (.str (Str.ofString "0a"))) (consA (cst (.str (Str.ofString "abcdefgh"))) nilA)))))))))))))))))
    (seqS (dropS (methM isL extendR (getV 3) (consA (lstM (consA (cst (.str (Str.ofString "abcdefghi"))) (consA (cst (.str (Str.ofString "A"))) (consA (cst (.str (Str.ofString "a b"))) (consA (cst (.str (Str.ofString " a"))) (consA (cst (.str (Str.ofString "a\n"))) (consA (cst (.str (Str.ofString "a-b"))) (consA (cst (.str (Str.ofString "a_b"))) (consA (cst (.str (Str.ofString "~"))) (consA (cst (.str (Str.ofString "{"))) (consA (cst (.str (Str.ofString "@"))) (consA (cst (.str (Str.ofString "["))) (consA (cst (.str (Str.ofString "/"))) (consA (cst (.str (Str.ofString ":"))) (consA (cst (.str (Str.ofString "a/"))) (consA (cst (.str (Str.ofString "a:"))) (consA (cst (.str (Str.ofString "a{"))) nilA))))))))))))))))) nilA)))
    (seqS (dropS (methM isL extendR (getV 3) (consA (lstM (consA (tupM nilA) (consA (lstM nilA) (consA (tupM (consA (cst (.str (Str.ofString "a"))) nilA)) (consA (lstM (consA (cst (.str (Str.ofString "a"))) nilA)) (consA (tupM (consA (cst (.str (Str.ofString "a"))) (consA (cst (.str (Str.ofString "b"))) nilA))) (consA (tupM (consA (cst (.str (Str.ofString "b"))) (consA (cst (.str (Str.ofString "a"))) nilA))) (consA (tupM (consA (cst (.str (Str.ofString "a"))) (consA (cst (.str (Str.ofString "a"))) nilA))) (consA (tupM (consA (cst (.str (Str.ofString "a9"))) (consA (cst (.str (Str.ofString "aa"))) nilA))) (consA (tupM (consA (cst (.str (Str.ofString "aa"))) (consA (cst (.str (Str.ofString "a9"))) nilA))) (consA (tupM (consA (cst (.str (Str.ofString "ab"))) (consA (cst (.str (Str.ofString "a"))) nilA))) nilA))))))))))) nilA)))
    (seqS (dropS (methM isL extendR (getV 3) (consA (lstM (consA (getV 0) (consA (getV 1) (consA (revM (getV 1)) (consA (callM (c_list false) (consA (getV 1) nilA)) (consA (tupM (consA (cst (.str (Str.ofString "a"))) (consA (cst (.str (Str.ofString "b"))) (consA (cst (.str (Str.ofString "c"))) nilA)))) (consA (tupM (consA (cst (.str (Str.ofString "a"))) (consA (cst .none) nilA))) (consA (tupM (consA (cst (.str (Str.ofString ""))) (consA (cst (.str (Str.ofString "b"))) nilA))) (consA (tupM (consA (cst (.str (Str.ofString "a"))) (consA (cst (.int (1))) nilA))) (consA (tupM (consA (cst (.str (Str.ofString "a"))) (consA (cst (.int (0))) nilA))) nilA)))))))))) nilA)))
    (seqS (dropS (methM isL extendR (getV 3) (consA (lstM (consA (tupM (consA (cst (.str (Str.ofString "a"))) (consA (cst (.bool true)) nilA))) (consA (tupM (consA (cst (.str (Str.ofString "a"))) (consA (negM (cst (.int (1)))) nilA))) (consA (tupM (consA (cst (.str (Str.ofString "A"))) (consA (cst (.int (1))) nilA))) (consA (tupM (consA (cst (.str (Str.ofString "a"))) (consA (cst (.str (Str.ofString "1"))) nilA))) (consA (lstM (consA (cst (.str (Str.ofString "a"))) (consA (cst (.int (1))) nilA))) (consA (tupM (consA (cst (.str (Str.ofString "a"))) (consA (cst (.int (1))) (consA (cst (.int (1))) nilA)))) (consA (tupM (consA (cst (.str (Str.ofString "a"))) (consA (bin o_pow (cst (.int (10))) (cst (.int (59)))) nilA))) (consA (tupM (consA (cst (.int (1))) (consA (cst (.str (Str.ofString "a"))) nilA))) nilA))))))))) nilA)))
    (seqS (dropS (methM isL extendR (getV 3) (consA (lstM (consA (tupM (consA (cst (.str (Str.ofString "a"))) (consA (cst (.str (Str.ofString "c"))) (consA (tupM nilA) (consA (cst (.bool true)) (consA (tupM nilA) nilA)))))) (consA (tupM (consA (cst (.str (Str.ofString "a"))) (consA (cst (.str (Str.ofString "c"))) (consA (tupM nilA) (consA (cst (.int (1))) (consA (tupM nilA) nilA)))))) (consA (tupM (consA (cst (.str (Str.ofString "a"))) (consA (cst (.str (Str.ofString "c"))) (consA (tupM (consA (cst (.str (Str.ofString "c"))) nilA)) (consA (cst (.bool false)) (consA (tupM (consA (cst (.str (Str.ofString "a"))) nilA)) nilA)))))) nilA)))) nilA)))
    (seqS (dropS (methM isL extendR (getV 3) (consA (lstM (consA (tupM (consA (cst (.str (Str.ofString "a"))) (consA (cst (.str (Str.ofString "c"))) (consA (lstM nilA) (consA (cst (.bool true)) (consA (tupM nilA) nilA)))))) (consA (tupM (consA (cst (.str (Str.ofString "a"))) (consA (cst (.str (Str.ofString "c"))) (consA (tupM (consA (cst (.str (Str.ofString "d"))) (consA (cst (.str (Str.ofString "c"))) nilA))) (consA (cst (.bool true)) (consA (tupM nilA) nilA)))))) (consA (tupM (consA (cst (.str (Str.ofString "a"))) (consA (cst (.str (Str.ofString "c"))) (consA (tupM nilA) (consA (cst (.bool true)) (consA (tupM (consA (cst (.str (Str.ofString "b"))) (consA (cst (.str (Str.ofString "b"))) nilA))) nilA)))))) nilA)))) nilA)))
    (seqS (dropS (methM isL extendR (getV 3) (consA (lstM (consA (tupM (consA (cst (.str (Str.ofString "a"))) (consA (cst (.str (Str.ofString ""))) (consA (tupM nilA) (consA (cst (.bool true)) (consA (tupM nilA) nilA)))))) (consA (tupM (consA (cst (.str (Str.ofString ""))) (consA (cst (.str (Str.ofString "c"))) (consA (tupM nilA) (consA (cst (.bool true)) (consA (tupM nilA) nilA)))))) (consA (tupM (consA (cst (.str (Str.ofString "a"))) (consA (cst (.str (Str.ofString "c"))) (consA (tupM nilA) (consA (cst .none) (consA (tupM nilA) nilA)))))) (consA (tupM (consA (cst (.str (Str.ofString "a"))) (consA (cst (.str (Str.ofString "c"))) (consA (tupM nilA) (consA (cst (.bool true)) nilA))))) nilA))))) nilA)))
    (seqS (dropS (methM isL extendR (getV 3) (consA (lstM (consA (lstM (consA (cst (.str (Str.ofString "a"))) (consA (cst (.str (Str.ofString "c"))) (consA (tupM nilA) (consA (cst (.bool true)) (consA (tupM nilA) nilA)))))) (consA (tupM (consA (cst (.str (Str.ofString "a"))) (consA (cst (.str (Str.ofString "c"))) (consA (cst (.str (Str.ofString "c"))) (consA (cst (.bool true)) (consA (tupM nilA) nilA)))))) (consA (tupM (consA (cst (.str (Str.ofString "a"))) (consA (cst (.str (Str.ofString "c"))) (consA (tupM nilA) (consA (cst (.bool true)) (consA (lstM (consA (cst (.str (Str.ofString "b"))) nilA)) nilA)))))) nilA)))) nilA)))
    (seqS (dropS (methM isL extendR (getV 3) (consA (lstM (consA (tupM (consA (cst (.str (Str.ofString "a"))) (consA (cst .none) (consA (cst (.str (Str.ofString "s"))) (consA (tupM nilA) (consA (cst (.str (Str.ofString "f"))) nilA)))))) (consA (tupM (consA (cst (.str (Str.ofString "a"))) (consA (cst .none) (consA (cst (.str (Str.ofString "s"))) (consA (tupM (consA (cst (.str (Str.ofString "g"))) nilA)) (consA (cst (.str (Str.ofString "f"))) nilA)))))) (consA (tupM (consA (cst (.str (Str.ofString "a"))) (consA (cst (.str (Str.ofString "k"))) (consA (cst (.str (Str.ofString "s"))) (consA (tupM nilA) (consA (cst (.str (Str.ofString "f"))) nilA)))))) nilA)))) nilA)))
    (seqS (dropS (methM isL extendR (getV 3) (consA (lstM (consA (tupM (consA (cst (.str (Str.ofString "a"))) (consA (cst (.str (Str.ofString "k"))) (consA (cst (.str (Str.ofString "s"))) (consA (lstM nilA) (consA (cst (.str (Str.ofString "f"))) nilA)))))) (consA (tupM (consA (cst (.str (Str.ofString "a"))) (consA (cst (.str (Str.ofString "k"))) (consA (cst (.str (Str.ofString "s"))) (consA (tupM (consA (cst (.str (Str.ofString "g"))) (consA (cst (.str (Str.ofString "g"))) nilA))) (consA (cst (.str (Str.ofString "f"))) nilA)))))) (consA (tupM (consA (cst (.str (Str.ofString "a"))) (consA (cst (.str (Str.ofString "k"))) (consA (cst (.str (Str.ofString "s"))) (consA (tupM (consA (cst (.str (Str.ofString "z"))) (consA (cst (.str (Str.ofString "b"))) (consA (cst (.str (Str.ofString ""))) nilA)))) (consA (cst (.str (Str.ofString "f"))) nilA)))))) nilA)))) nilA)))
    (seqS (dropS (methM isL extendR (getV 3) (consA (lstM (consA (tupM (consA (cst (.str (Str.ofString "a"))) (consA (cst (.bool false)) (consA (cst (.str (Str.ofString "s"))) (consA (tupM nilA) (consA (cst (.str (Str.ofString "f"))) nilA)))))) (consA (tupM (consA (cst (.str (Str.ofString "a"))) (consA (cst (.str (Str.ofString ""))) (consA (cst (.str (Str.ofString "s"))) (consA (tupM nilA) (consA (cst (.str (Str.ofString "f"))) nilA)))))) (consA (tupM (consA (cst (.str (Str.ofString "a"))) (consA (cst .none) (consA (cst (.str (Str.ofString "s"))) (consA (tupM nilA) (consA (cst .none) nilA)))))) nilA)))) nilA)))
    (seqS (dropS (methM isL extendR (getV 3) (consA (lstM (consA (tupM (consA (cst .none) (consA (cst .none) (consA (cst (.str (Str.ofString "s"))) (consA (tupM nilA) (consA (cst (.str (Str.ofString "f"))) nilA)))))) (consA (tupM (consA (cst (.str (Str.ofString "a"))) (consA (cst .none) (consA (cst (.int (1))) (consA (tupM nilA) (consA (cst (.str (Str.ofString "f"))) nilA)))))) (consA (tupM (consA (cst (.str (Str.ofString "a"))) (consA (cst (.str (Str.ofString "k"))) (consA (cst (.str (Str.ofString "s"))) (consA (tupM (consA (cst (.str (Str.ofString "z"))) (consA (cst (.str (Str.ofString "b"))) nilA))) (consA (cst (.str (Str.ofString "f"))) (consA (cst (.str (Str.ofString "f"))) nilA))))))) nilA)))) nilA)))
    (retS (getV 3)))))))))))))))))
def f__law_fixed : FM := fnM 5 m__law_fixed
theorem ok__law_fixed {f : Addr} {fd : FuncData} (F : Fun K "_law_fixed" "_law_fixed" s__law_fixed f fd) (hm : mg "_law_fixed" = some (.ref f)) (B : Bt mg) (C : Ct mg)  : Dfn P w K mg base ct "_law_fixed" 1 0 f__law_fixed := by
  have b : Binds K fd [] [] := F.binds (ps := []) (fun _ _ _ _ _ _ us hl => match us, hl with | [], _ => (by kernel_rfl))
  have sc := sc__law_fixed
  have G : FnOk P w K mg base (L2.CX P w) 1 f fd [] (spF ct K 0 f__law_fixed) := fn_ok (N := ["_law_deep", "_law_wide", "_law_lap", "_law_things", "_law_k"]) F sc__law_fixed (k := 0) (m := m__law_fixed) (fun cdv A outer s H E hr => by
    have tk : Takes (cxOf (L2.CX P w) P w K mg base ["_law_deep", "_law_wide", "_law_lap", "_law_things", "_law_k"] "_law_fixed" (defScope s__law_fixed) f cdv A outer s H E) (WEx E) := takes_of rfl rfl rfl rfl
    exact (sss_cons (ss_par (i := 0) (j := 1) rfl sc.nd rfl rfl (by decide) rfl rfl (sa_cons (se_tup (sa_cons se_str sa_nil rfl)) (sa_cons (se_callTy cs_tuple rfl B.n_tuple (by decide +kernel) (sa_cons (se_lc false (ow := [("_law_k", 4)]) rfl sc.nd (si_range2 rfl B.n_range (sa_cons se_int (sa_cons se_int sa_nil rfl) rfl) rfl rfl) (blkOk_by (by kernel_rfl)) (by decide) (fun _ _ _ _ _ => (sg_name (i := 4) sc.nd rfl (.inl rfl) (.inr rfl))) (fun _ _ _ _ _ => sts_nil) (fun _ _ _ _ _ => (se_op ops_add se_str (se_callTy cs_str rfl B.n_str (by decide +kernel) (sa_cons (se_var (i := 4) rfl (.inl rfl) rfl rfl) sa_nil rfl) (by decide) rfl rfl rfl))) (fun _ => rfl)) sa_nil rfl) (by decide) rfl rfl rfl) sa_nil rfl) rfl) rfl rfl)
      (sss_cons (ss_for (passes_of rfl) rfl (si_range1 rfl B.n_range (sa_cons se_int sa_nil rfl) rfl) (sg_name (i := 2) sc.nd rfl (.inl rfl) (.inr rfl)) (sss_one (ss_set (i := 0) (se_tup (sa_cons (se_var (i := 0) rfl (.inl rfl) rfl rfl) sa_nil rfl)) sc.nd rfl (.inl rfl) rfl (.inr rfl))) (fun _ => rfl))
      (sss_cons (ss_set (i := 3) (se_own (sa_cons se_non (sa_cons se_bl (sa_cons se_bl (sa_cons se_int (sa_cons se_int (sa_cons (se_neg se_int) (sa_cons (se_op ops_pow se_int se_int) (sa_cons (se_neg (se_op ops_pow se_int se_int)) (sa_cons se_str (sa_cons se_str (sa_cons se_str (sa_cons se_str (sa_cons se_str (sa_cons se_str (sa_cons se_str sa_nil rfl) rfl) rfl) rfl) rfl) rfl) rfl) rfl) rfl) rfl) rfl) rfl) rfl) rfl) rfl)) sc.nd rfl (.inl rfl) rfl (.inr rfl))
      (sss_cons (ss_expr (se_extend (se_var (i := 3) rfl (.inl rfl) rfl rfl) (sa_cons (se_lst (sa_cons se_str (sa_cons se_str (sa_cons se_str (sa_cons se_str (sa_cons se_str (sa_cons se_str (sa_cons se_str (sa_cons se_str (sa_cons se_str (sa_cons se_str (sa_cons se_str (sa_cons se_str (sa_cons se_str (sa_cons se_str (sa_cons se_str (sa_cons se_str sa_nil rfl) rfl) rfl) rfl) rfl) rfl) rfl) rfl) rfl) rfl) rfl) rfl) rfl) rfl) rfl) rfl)) sa_nil rfl) rfl rfl rfl rfl rfl) rfl)
      (sss_cons (ss_expr (se_extend (se_var (i := 3) rfl (.inl rfl) rfl rfl) (sa_cons (se_lst (sa_cons (se_tup sa_nil) (sa_cons (se_lst sa_nil) (sa_cons (se_tup (sa_cons se_str sa_nil rfl)) (sa_cons (se_lst (sa_cons se_str sa_nil rfl)) (sa_cons (se_tup (sa_cons se_str (sa_cons se_str sa_nil rfl) rfl)) (sa_cons (se_tup (sa_cons se_str (sa_cons se_str sa_nil rfl) rfl)) (sa_cons (se_tup (sa_cons se_str (sa_cons se_str sa_nil rfl) rfl)) (sa_cons (se_tup (sa_cons se_str (sa_cons se_str sa_nil rfl) rfl)) (sa_cons (se_tup (sa_cons se_str (sa_cons se_str sa_nil rfl) rfl)) (sa_cons (se_tup (sa_cons se_str (sa_cons se_str sa_nil rfl) rfl)) sa_nil rfl) rfl) rfl) rfl) rfl) rfl) rfl) rfl) rfl) rfl)) sa_nil rfl) rfl rfl rfl rfl rfl) rfl)
      (sss_cons (ss_expr (se_extend (se_var (i := 3) rfl (.inl rfl) rfl rfl) (sa_cons (se_lst (sa_cons (se_var (i := 0) rfl (.inl rfl) rfl rfl) (sa_cons (se_var (i := 1) rfl (.inl rfl) rfl rfl) (sa_cons (se_rev (se_var (i := 1) rfl (.inl rfl) rfl rfl)) (sa_cons (se_callTy (cs_list false) rfl B.n_list (by decide +kernel) (sa_cons (se_var (i := 1) rfl (.inl rfl) rfl rfl) sa_nil rfl) (by decide) rfl rfl rfl) (sa_cons (se_tup (sa_cons se_str (sa_cons se_str (sa_cons se_str sa_nil rfl) rfl) rfl)) (sa_cons (se_tup (sa_cons se_str (sa_cons se_non sa_nil rfl) rfl)) (sa_cons (se_tup (sa_cons se_str (sa_cons se_str sa_nil rfl) rfl)) (sa_cons (se_tup (sa_cons se_str (sa_cons se_int sa_nil rfl) rfl)) (sa_cons (se_tup (sa_cons se_str (sa_cons se_int sa_nil rfl) rfl)) sa_nil rfl) rfl) rfl) rfl) rfl) rfl) rfl) rfl) rfl)) sa_nil rfl) rfl rfl rfl rfl rfl) rfl)
      (sss_cons (ss_expr (se_extend (se_var (i := 3) rfl (.inl rfl) rfl rfl) (sa_cons (se_lst (sa_cons (se_tup (sa_cons se_str (sa_cons se_bl sa_nil rfl) rfl)) (sa_cons (se_tup (sa_cons se_str (sa_cons (se_neg se_int) sa_nil rfl) rfl)) (sa_cons (se_tup (sa_cons se_str (sa_cons se_int sa_nil rfl) rfl)) (sa_cons (se_tup (sa_cons se_str (sa_cons se_str sa_nil rfl) rfl)) (sa_cons (se_lst (sa_cons se_str (sa_cons se_int sa_nil rfl) rfl)) (sa_cons (se_tup (sa_cons se_str (sa_cons se_int (sa_cons se_int sa_nil rfl) rfl) rfl)) (sa_cons (se_tup (sa_cons se_str (sa_cons (se_op ops_pow se_int se_int) sa_nil rfl) rfl)) (sa_cons (se_tup (sa_cons se_int (sa_cons se_str sa_nil rfl) rfl)) sa_nil rfl) rfl) rfl) rfl) rfl) rfl) rfl) rfl)) sa_nil rfl) rfl rfl rfl rfl rfl) rfl)
      (sss_cons (ss_expr (se_extend (se_var (i := 3) rfl (.inl rfl) rfl rfl) (sa_cons (se_lst (sa_cons (se_tup (sa_cons se_str (sa_cons se_str (sa_cons (se_tup sa_nil) (sa_cons se_bl (sa_cons (se_tup sa_nil) sa_nil rfl) rfl) rfl) rfl) rfl)) (sa_cons (se_tup (sa_cons se_str (sa_cons se_str (sa_cons (se_tup sa_nil) (sa_cons se_int (sa_cons (se_tup sa_nil) sa_nil rfl) rfl) rfl) rfl) rfl)) (sa_cons (se_tup (sa_cons se_str (sa_cons se_str (sa_cons (se_tup (sa_cons se_str sa_nil rfl)) (sa_cons se_bl (sa_cons (se_tup (sa_cons se_str sa_nil rfl)) sa_nil rfl) rfl) rfl) rfl) rfl)) sa_nil rfl) rfl) rfl)) sa_nil rfl) rfl rfl rfl rfl rfl) rfl)
      (sss_cons (ss_expr (se_extend (se_var (i := 3) rfl (.inl rfl) rfl rfl) (sa_cons (se_lst (sa_cons (se_tup (sa_cons se_str (sa_cons se_str (sa_cons (se_lst sa_nil) (sa_cons se_bl (sa_cons (se_tup sa_nil) sa_nil rfl) rfl) rfl) rfl) rfl)) (sa_cons (se_tup (sa_cons se_str (sa_cons se_str (sa_cons (se_tup (sa_cons se_str (sa_cons se_str sa_nil rfl) rfl)) (sa_cons se_bl (sa_cons (se_tup sa_nil) sa_nil rfl) rfl) rfl) rfl) rfl)) (sa_cons (se_tup (sa_cons se_str (sa_cons se_str (sa_cons (se_tup sa_nil) (sa_cons se_bl (sa_cons (se_tup (sa_cons se_str (sa_cons se_str sa_nil rfl) rfl)) sa_nil rfl) rfl) rfl) rfl) rfl)) sa_nil rfl) rfl) rfl)) sa_nil rfl) rfl rfl rfl rfl rfl) rfl)
      (sss_cons (ss_expr (se_extend (se_var (i := 3) rfl (.inl rfl) rfl rfl) (sa_cons (se_lst (sa_cons (se_tup (sa_cons se_str (sa_cons se_str (sa_cons (se_tup sa_nil) (sa_cons se_bl (sa_cons (se_tup sa_nil) sa_nil rfl) rfl) rfl) rfl) rfl)) (sa_cons (se_tup (sa_cons se_str (sa_cons se_str (sa_cons (se_tup sa_nil) (sa_cons se_bl (sa_cons (se_tup sa_nil) sa_nil rfl) rfl) rfl) rfl) rfl)) (sa_cons (se_tup (sa_cons se_str (sa_cons se_str (sa_cons (se_tup sa_nil) (sa_cons se_non (sa_cons (se_tup sa_nil) sa_nil rfl) rfl) rfl) rfl) rfl)) (sa_cons (se_tup (sa_cons se_str (sa_cons se_str (sa_cons (se_tup sa_nil) (sa_cons se_bl sa_nil rfl) rfl) rfl) rfl)) sa_nil rfl) rfl) rfl) rfl)) sa_nil rfl) rfl rfl rfl rfl rfl) rfl)
      (sss_cons (ss_expr (se_extend (se_var (i := 3) rfl (.inl rfl) rfl rfl) (sa_cons (se_lst (sa_cons (se_lst (sa_cons se_str (sa_cons se_str (sa_cons (se_tup sa_nil) (sa_cons se_bl (sa_cons (se_tup sa_nil) sa_nil rfl) rfl) rfl) rfl) rfl)) (sa_cons (se_tup (sa_cons se_str (sa_cons se_str (sa_cons se_str (sa_cons se_bl (sa_cons (se_tup sa_nil) sa_nil rfl) rfl) rfl) rfl) rfl)) (sa_cons (se_tup (sa_cons se_str (sa_cons se_str (sa_cons (se_tup sa_nil) (sa_cons se_bl (sa_cons (se_lst (sa_cons se_str sa_nil rfl)) sa_nil rfl) rfl) rfl) rfl) rfl)) sa_nil rfl) rfl) rfl)) sa_nil rfl) rfl rfl rfl rfl rfl) rfl)
      (sss_cons (ss_expr (se_extend (se_var (i := 3) rfl (.inl rfl) rfl rfl) (sa_cons (se_lst (sa_cons (se_tup (sa_cons se_str (sa_cons se_non (sa_cons se_str (sa_cons (se_tup sa_nil) (sa_cons se_str sa_nil rfl) rfl) rfl) rfl) rfl)) (sa_cons (se_tup (sa_cons se_str (sa_cons se_non (sa_cons se_str (sa_cons (se_tup (sa_cons se_str sa_nil rfl)) (sa_cons se_str sa_nil rfl) rfl) rfl) rfl) rfl)) (sa_cons (se_tup (sa_cons se_str (sa_cons se_str (sa_cons se_str (sa_cons (se_tup sa_nil) (sa_cons se_str sa_nil rfl) rfl) rfl) rfl) rfl)) sa_nil rfl) rfl) rfl)) sa_nil rfl) rfl rfl rfl rfl rfl) rfl)
      (sss_cons (ss_expr (se_extend (se_var (i := 3) rfl (.inl rfl) rfl rfl) (sa_cons (se_lst (sa_cons (se_tup (sa_cons se_str (sa_cons se_str (sa_cons se_str (sa_cons (se_lst sa_nil) (sa_cons se_str sa_nil rfl) rfl) rfl) rfl) rfl)) (sa_cons (se_tup (sa_cons se_str (sa_cons se_str (sa_cons se_str (sa_cons (se_tup (sa_cons se_str (sa_cons se_str sa_nil rfl) rfl)) (sa_cons se_str sa_nil rfl) rfl) rfl) rfl) rfl)) (sa_cons (se_tup (sa_cons se_str (sa_cons se_str (sa_cons se_str (sa_cons (se_tup (sa_cons se_str (sa_cons se_str (sa_cons se_str sa_nil rfl) rfl) rfl)) (sa_cons se_str sa_nil rfl) rfl) rfl) rfl) rfl)) sa_nil rfl) rfl) rfl)) sa_nil rfl) rfl rfl rfl rfl rfl) rfl)
      (sss_cons (ss_expr (se_extend (se_var (i := 3) rfl (.inl rfl) rfl rfl) (sa_cons (se_lst (sa_cons (se_tup (sa_cons se_str (sa_cons se_bl (sa_cons se_str (sa_cons (se_tup sa_nil) (sa_cons se_str sa_nil rfl) rfl) rfl) rfl) rfl)) (sa_cons (se_tup (sa_cons se_str (sa_cons se_str (sa_cons se_str (sa_cons (se_tup sa_nil) (sa_cons se_str sa_nil rfl) rfl) rfl) rfl) rfl)) (sa_cons (se_tup (sa_cons se_str (sa_cons se_non (sa_cons se_str (sa_cons (se_tup sa_nil) (sa_cons se_non sa_nil rfl) rfl) rfl) rfl) rfl)) sa_nil rfl) rfl) rfl)) sa_nil rfl) rfl rfl rfl rfl rfl) rfl)
      (sss_cons (ss_expr (se_extend (se_var (i := 3) rfl (.inl rfl) rfl rfl) (sa_cons (se_lst (sa_cons (se_tup (sa_cons se_non (sa_cons se_non (sa_cons se_str (sa_cons (se_tup sa_nil) (sa_cons se_str sa_nil rfl) rfl) rfl) rfl) rfl)) (sa_cons (se_tup (sa_cons se_str (sa_cons se_non (sa_cons se_int (sa_cons (se_tup sa_nil) (sa_cons se_str sa_nil rfl) rfl) rfl) rfl) rfl)) (sa_cons (se_tup (sa_cons se_str (sa_cons se_str (sa_cons se_str (sa_cons (se_tup (sa_cons se_str (sa_cons se_str sa_nil rfl) rfl)) (sa_cons se_str (sa_cons se_str sa_nil rfl) rfl) rfl) rfl) rfl) rfl)) sa_nil rfl) rfl) rfl)) sa_nil rfl) rfl rfl rfl rfl rfl) rfl)
      (sss_one (ss_ret (se_var (i := 3) rfl (.inl rfl) rfl rfl)))))))))))))))))))
  exact ⟨f, fd, [], G, F.kp, b, hm⟩
abbrev s__law_fixed_books : Stmt := topS 41
theorem sc__law_fixed_books : FnScope ["_law_same", "_law_one", "_law_row", "_law_things"] [] (defScope s__law_fixed_books) := ⟨rfl, rfl, rfl, by decide +kernel, rfl, by decide +kernel, by decide +kernel⟩
def m__law_fixed_books : SM :=
    (seqS (unpS [0, 1, 2] (consA (tupM (consA (cst (.str (Str.ofString "b"))) (consA (cst (.str (Str.ofString "c"))) (consA (tupM nilA) (consA (cst (.bool true)) (consA (tupM (consA (cst (.str (Str.ofString "b"))) nilA)) nilA)))))) (consA (tupM (consA (cst (.str (Str.ofString "b"))) (consA (cst (.int (1))) nilA))) (consA (tupM (consA (cst (.str (Str.ofString "x"))) (consA (cst .none) (consA (cst (.str (Str.ofString "y"))) (consA (tupM nilA) (consA (cst (.str (Str.ofString "z"))) nilA)))))) nilA))))
    (seqS (setS 3 (ownM (consA (tupM (consA (tupM nilA) (consA (tupM nilA) (consA (tupM nilA) (consA (tupM nilA) nilA))))) (consA (lstM (consA (tupM nilA) (consA (tupM nilA) (consA (tupM nilA) (consA (tupM nilA) nilA))))) (consA (tupM (consA (tupM nilA) (consA (tupM nilA) (consA (tupM nilA) nilA)))) (consA (tupM (consA (tupM nilA) (consA (tupM nilA) (consA (tupM nilA) (consA (tupM nilA) (consA (tupM nilA) nilA)))))) (consA (tupM (consA (tupM nilA) (consA (tupM nilA) (consA (tupM nilA) (consA (lstM nilA) nilA))))) nilA)))))))
    (seqS (dropS (methM isL extendR (getV 3) (consA (lstM (consA (tupM (consA (tupM (consA (getV 0) (consA (getV 0) nilA))) (consA (tupM (consA (getV 1) (consA (getV 1) nilA))) (consA (tupM (consA (tupM (consA (cst (.str (Str.ofString "b"))) (consA (cst (.str (Str.ofString "a"))) nilA))) (consA (tupM (consA (cst (.str (Str.ofString "a"))) (consA (cst (.str (Str.ofString "a"))) nilA))) nilA))) (consA (tupM nilA) nilA))))) (consA (tupM (consA (tupM nilA) (consA (tupM nilA) (consA (tupM nilA) (consA (tupM (consA (getV 2) (consA (getV 2) nilA))) nilA))))) nilA))) nilA)))
    (seqS (dropS (methM isL extendR (getV 3) (consA (lstM (consA (tupM (consA (tupM nilA) (consA (tupM nilA) (consA (tupM (consA (tupM (consA (cst (.str (Str.ofString "a"))) nilA)) nilA)) (consA (tupM nilA) nilA))))) (consA (tupM (consA (tupM nilA) (consA (tupM nilA) (consA (tupM (consA (lstM (consA (cst (.str (Str.ofString "a"))) (consA (cst (.str (Str.ofString "b"))) nilA))) nilA)) (consA (tupM nilA) nilA))))) (consA (tupM (consA (tupM nilA) (consA (tupM nilA) (consA (tupM nilA) (consA (tupM (consA (getV 2) (consA (callM (c_list false) (consA (getV 2) nilA)) nilA))) nilA))))) nilA)))) nilA)))
    (retS (bin o_add (getV 3) (lstM (consA (tupM (consA (tupM (consA (cst (.int (1))) nilA)) (consA (tupM nilA) (consA (tupM nilA) (consA (tupM nilA) nilA))))) (consA (tupM (consA (tupM nilA) (consA (tupM (consA (cst (.str (Str.ofString "a"))) nilA)) (consA (tupM nilA) (consA (tupM nilA) nilA))))) (consA (tupM (consA (tupM nilA) (consA (tupM nilA) (consA (tupM nilA) (consA (cst .none) nilA))))) (consA (tupM (consA (tupM (consA (getV 0) (consA (getV 2) nilA))) (consA (tupM nilA) (consA (tupM nilA) (consA (tupM nilA) nilA))))) nilA)))))))))))
def f__law_fixed_books : FM := fnM 4 m__law_fixed_books
theorem ok__law_fixed_books {f : Addr} {fd : FuncData} (F : Fun K "_law_fixed_books" "_law_fixed_books" s__law_fixed_books f fd) (hm : mg "_law_fixed_books" = some (.ref f)) (B : Bt mg) (C : Ct mg)  : Dfn P w K mg base ct "_law_fixed_books" 1 0 f__law_fixed_books := by
  have b : Binds K fd [] [] := F.binds (ps := []) (fun _ _ _ _ _ _ us hl => match us, hl with | [], _ => (by kernel_rfl))
  have sc := sc__law_fixed_books
  have G : FnOk P w K mg base (L2.CX P w) 1 f fd [] (spF ct K 0 f__law_fixed_books) := fn_ok (N := ["_law_same", "_law_one", "_law_row", "_law_things"]) F sc__law_fixed_books (k := 0) (m := m__law_fixed_books) (fun cdv A outer s H E hr => by
    have tk : Takes (cxOf (L2.CX P w) P w K mg base ["_law_same", "_law_one", "_law_row", "_law_things"] "_law_fixed_books" (defScope s__law_fixed_books) f cdv A outer s H E) (WEx E) := takes_of rfl rfl rfl rfl
    exact (sss_cons (ss_unp (n := 3) rfl (pgn_cons (i := 0) sc.nd rfl (.inl rfl) (.inr rfl) (pgn_cons (i := 1) sc.nd rfl (.inl rfl) (.inr rfl) (pgn_cons (i := 2) sc.nd rfl (.inl rfl) (.inr rfl) pgn_nil rfl) rfl) rfl) (sa_cons (se_tup (sa_cons se_str (sa_cons se_str (sa_cons (se_tup sa_nil) (sa_cons se_bl (sa_cons (se_tup (sa_cons se_str sa_nil rfl)) sa_nil rfl) rfl) rfl) rfl) rfl)) (sa_cons (se_tup (sa_cons se_str (sa_cons se_int sa_nil rfl) rfl)) (sa_cons (se_tup (sa_cons se_str (sa_cons se_non (sa_cons se_str (sa_cons (se_tup sa_nil) (sa_cons se_str sa_nil rfl) rfl) rfl) rfl) rfl)) sa_nil rfl) rfl) rfl) rfl rfl rfl (by decide) rfl rfl rfl)
      (sss_cons (ss_set (i := 3) (se_own (sa_cons (se_tup (sa_cons (se_tup sa_nil) (sa_cons (se_tup sa_nil) (sa_cons (se_tup sa_nil) (sa_cons (se_tup sa_nil) sa_nil rfl) rfl) rfl) rfl)) (sa_cons (se_lst (sa_cons (se_tup sa_nil) (sa_cons (se_tup sa_nil) (sa_cons (se_tup sa_nil) (sa_cons (se_tup sa_nil) sa_nil rfl) rfl) rfl) rfl)) (sa_cons (se_tup (sa_cons (se_tup sa_nil) (sa_cons (se_tup sa_nil) (sa_cons (se_tup sa_nil) sa_nil rfl) rfl) rfl)) (sa_cons (se_tup (sa_cons (se_tup sa_nil) (sa_cons (se_tup sa_nil) (sa_cons (se_tup sa_nil) (sa_cons (se_tup sa_nil) (sa_cons (se_tup sa_nil) sa_nil rfl) rfl) rfl) rfl) rfl)) (sa_cons (se_tup (sa_cons (se_tup sa_nil) (sa_cons (se_tup sa_nil) (sa_cons (se_tup sa_nil) (sa_cons (se_lst sa_nil) sa_nil rfl) rfl) rfl) rfl)) sa_nil rfl) rfl) rfl) rfl) rfl)) sc.nd rfl (.inl rfl) rfl (.inr rfl))
      (sss_cons (ss_expr (se_extend (se_var (i := 3) rfl (.inl rfl) rfl rfl) (sa_cons (se_lst (sa_cons (se_tup (sa_cons (se_tup (sa_cons (se_var (i := 0) rfl (.inl rfl) rfl rfl) (sa_cons (se_var (i := 0) rfl (.inl rfl) rfl rfl) sa_nil rfl) rfl)) (sa_cons (se_tup (sa_cons (se_var (i := 1) rfl (.inl rfl) rfl rfl) (sa_cons (se_var (i := 1) rfl (.inl rfl) rfl rfl) sa_nil rfl) rfl)) (sa_cons (se_tup (sa_cons (se_tup (sa_cons se_str (sa_cons se_str sa_nil rfl) rfl)) (sa_cons (se_tup (sa_cons se_str (sa_cons se_str sa_nil rfl) rfl)) sa_nil rfl) rfl)) (sa_cons (se_tup sa_nil) sa_nil rfl) rfl) rfl) rfl)) (sa_cons (se_tup (sa_cons (se_tup sa_nil) (sa_cons (se_tup sa_nil) (sa_cons (se_tup sa_nil) (sa_cons (se_tup (sa_cons (se_var (i := 2) rfl (.inl rfl) rfl rfl) (sa_cons (se_var (i := 2) rfl (.inl rfl) rfl rfl) sa_nil rfl) rfl)) sa_nil rfl) rfl) rfl) rfl)) sa_nil rfl) rfl)) sa_nil rfl) rfl rfl rfl rfl rfl) rfl)
      (sss_cons (ss_expr (se_extend (se_var (i := 3) rfl (.inl rfl) rfl rfl) (sa_cons (se_lst (sa_cons (se_tup (sa_cons (se_tup sa_nil) (sa_cons (se_tup sa_nil) (sa_cons (se_tup (sa_cons (se_tup (sa_cons se_str sa_nil rfl)) sa_nil rfl)) (sa_cons (se_tup sa_nil) sa_nil rfl) rfl) rfl) rfl)) (sa_cons (se_tup (sa_cons (se_tup sa_nil) (sa_cons (se_tup sa_nil) (sa_cons (se_tup (sa_cons (se_lst (sa_cons se_str (sa_cons se_str sa_nil rfl) rfl)) sa_nil rfl)) (sa_cons (se_tup sa_nil) sa_nil rfl) rfl) rfl) rfl)) (sa_cons (se_tup (sa_cons (se_tup sa_nil) (sa_cons (se_tup sa_nil) (sa_cons (se_tup sa_nil) (sa_cons (se_tup (sa_cons (se_var (i := 2) rfl (.inl rfl) rfl rfl) (sa_cons (se_callTy (cs_list false) rfl B.n_list (by decide +kernel) (sa_cons (se_var (i := 2) rfl (.inl rfl) rfl rfl) sa_nil rfl) (by decide) rfl rfl rfl) sa_nil rfl) rfl)) sa_nil rfl) rfl) rfl) rfl)) sa_nil rfl) rfl) rfl)) sa_nil rfl) rfl rfl rfl rfl rfl) rfl)
      (sss_one (ss_ret (se_op ops_add (se_var (i := 3) rfl (.inl rfl) rfl rfl) (se_lst (sa_cons (se_tup (sa_cons (se_tup (sa_cons se_int sa_nil rfl)) (sa_cons (se_tup sa_nil) (sa_cons (se_tup sa_nil) (sa_cons (se_tup sa_nil) sa_nil rfl) rfl) rfl) rfl)) (sa_cons (se_tup (sa_cons (se_tup sa_nil) (sa_cons (se_tup (sa_cons se_str sa_nil rfl)) (sa_cons (se_tup sa_nil) (sa_cons (se_tup sa_nil) sa_nil rfl) rfl) rfl) rfl)) (sa_cons (se_tup (sa_cons (se_tup sa_nil) (sa_cons (se_tup sa_nil) (sa_cons (se_tup sa_nil) (sa_cons se_non sa_nil rfl) rfl) rfl) rfl)) (sa_cons (se_tup (sa_cons (se_tup (sa_cons (se_var (i := 0) rfl (.inl rfl) rfl rfl) (sa_cons (se_var (i := 2) rfl (.inl rfl) rfl rfl) sa_nil rfl) rfl)) (sa_cons (se_tup sa_nil) (sa_cons (se_tup sa_nil) (sa_cons (se_tup sa_nil) sa_nil rfl) rfl) rfl) rfl)) sa_nil rfl) rfl) rfl) rfl))))))))))
  exact ⟨f, fd, [], G, F.kp, b, hm⟩
abbrev s__law_right : Stmt := topS 42
theorem sc__law_right : FnScope ["_law_thing", "_law_integer", "_law_pairs", "_law_seen", "_law_due"] ["_law_thing"] (defScope s__law_right) := ⟨rfl, rfl, rfl, by decide +kernel, rfl, by decide +kernel, by decide +kernel⟩
def m__law_right : SM :=
    (seqS (setS 1 (andV (isiM .int (getV 0)) (notV (isiM .bool (getV 0)))))
    (seqS (setS 2 (ownM (consA (tupM (consA (callM (callF f_is_integer) (consA (getV 0) nilA)) (consA (getV 1) nilA))) (consA (tupM (consA (callM (callF f_is_number) (consA (getV 0) nilA)) (consA (callM (callF f__law_is_number) (consA (getV 0) nilA)) nilA))) nilA))))
    (seqS (dropS (methM isL extendR (getV 2) (consA (lstM (consA (tupM (consA (callM (callF f_is_name) (consA (getV 0) nilA)) (consA (callM (callF f__law_is_name) (consA (getV 0) nilA)) nilA))) (consA (tupM (consA (callM (callF f_is_set) (consA (getV 0) nilA)) (consA (callM (callF f__law_is_set) (consA (getV 0) nilA)) nilA))) nilA))) nilA)))
    (seqS (dropS (methM isL extendR (getV 2) (consA (lstM (consA (tupM (consA (callM (callF f_is_source) (consA (getV 0) nilA)) (consA (callM (callF f__law_is_source) (consA (getV 0) nilA)) nilA))) (consA (tupM (consA (callM (callF f_is_party) (consA (getV 0) nilA)) (consA (callM (callF f__law_is_party) (consA (getV 0) nilA)) nilA))) nilA))) nilA)))
    (seqS (dropS (methM isL extendR (getV 2) (consA (lstM (consA (tupM (consA (callM (callF f_is_build) (consA (getV 0) nilA)) (consA (callM (callF f__law_is_build) (consA (getV 0) nilA)) nilA))) (consA (tupM (consA (callM (callF f_is_fact) (consA (getV 0) nilA)) (consA (callM (callF f__law_is_pair) (consA (getV 0) nilA)) nilA))) nilA))) nilA)))
    (seqS (dropS (methM isL appendR (getV 2) (consA (tupM (consA (callM (callF f_is_book) (consA (getV 0) nilA)) (consA (callM (callF f__law_is_book) (consA (getV 0) nilA)) nilA))) nilA)))
    (retS (bin o_eq (lcM false (seqM (getV 2)) (tgTup 2 (tgsCons (tgName 3) (tgsCons (tgName 4) tgsNil))) (orM (notM (asB (isiM .bool (getV 3)))) (asB (bin o_ne (getV 3) (getV 4)))) (getV 4) [3, 4]) (lstM nilA)))))))))
def f__law_right : FM := fnM 5 m__law_right
theorem ok__law_right {f : Addr} {fd : FuncData} (F : Fun K "_law_right" "_law_right" s__law_right f fd) (hm : mg "_law_right" = some (.ref f)) (B : Bt mg) (C : Ct mg) (d__law_is_book : Dfn P w K mg base ct "_law_is_book" 5 1 f__law_is_book) (d__law_is_build : Dfn P w K mg base ct "_law_is_build" 3 1 f__law_is_build) (d__law_is_name : Dfn P w K mg base ct "_law_is_name" 1 1 f__law_is_name) (d__law_is_number : Dfn P w K mg base ct "_law_is_number" 1 1 f__law_is_number) (d__law_is_pair : Dfn P w K mg base ct "_law_is_pair" 3 1 f__law_is_pair) (d__law_is_party : Dfn P w K mg base ct "_law_is_party" 2 1 f__law_is_party) (d__law_is_set : Dfn P w K mg base ct "_law_is_set" 3 1 f__law_is_set) (d__law_is_source : Dfn P w K mg base ct "_law_is_source" 4 1 f__law_is_source) (d_is_book : Dfn P w K mg base ct "is_book" 5 1 f_is_book) (d_is_build : Dfn P w K mg base ct "is_build" 3 1 f_is_build) (d_is_fact : Dfn P w K mg base ct "is_fact" 4 1 f_is_fact) (d_is_integer : Dfn P w K mg base ct "is_integer" 1 1 f_is_integer) (d_is_name : Dfn P w K mg base ct "is_name" 1 1 f_is_name) (d_is_number : Dfn P w K mg base ct "is_number" 2 1 f_is_number) (d_is_party : Dfn P w K mg base ct "is_party" 3 1 f_is_party) (d_is_set : Dfn P w K mg base ct "is_set" 3 1 f_is_set) (d_is_source : Dfn P w K mg base ct "is_source" 4 1 f_is_source) : Dfn P w K mg base ct "_law_right" 6 1 f__law_right := by
  have b : Binds K fd ["_law_thing"] [] := F.binds (ps := ["_law_thing"]) (fun _ _ _ _ _ _ us hl => match us, hl with | [_], _ => (by kernel_rfl))
  have sc := sc__law_right
  have G : FnOk P w K mg base (L2.CX P w) 6 f fd ["_law_thing"] (spF ct K 1 f__law_right) := fn_ok (N := ["_law_thing", "_law_integer", "_law_pairs", "_law_seen", "_law_due"]) F sc__law_right (k := 5) (m := m__law_right) (fun cdv A outer s H E hr => by
    have tk : Takes (cxOf (L2.CX P w) P w K mg base ["_law_thing", "_law_integer", "_law_pairs", "_law_seen", "_law_due"] "_law_right" (defScope s__law_right) f cdv A outer s H E) (WEx E) := takes_of rfl rfl rfl rfl
    exact (sss_cons (ss_set (i := 1) (se_and (se_isi .int rfl B.n_isinstance rfl B.n_int (by decide +kernel) (by decide) rfl (se_var (i := 0) rfl (.inl rfl) rfl rfl) rfl rfl rfl) (se_one (se_not (se_isi .bool rfl B.n_isinstance rfl B.n_bool (by decide +kernel) (by decide) rfl (se_var (i := 0) rfl (.inl rfl) rfl rfl) rfl rfl rfl)))) sc.nd rfl (.inl rfl) rfl (.inr rfl))
      (sss_cons (ss_set (i := 2) (se_own (sa_cons (se_tup (sa_cons (se_fn d_is_integer hr (by decide) tk rfl (san_cons (se_var (i := 0) rfl (.inl rfl) rfl rfl) san_nil rfl) rfl rfl rfl) (sa_cons (se_var (i := 1) rfl (.inl rfl) rfl rfl) sa_nil rfl) rfl)) (sa_cons (se_tup (sa_cons (se_fn d_is_number hr (by decide) tk rfl (san_cons (se_var (i := 0) rfl (.inl rfl) rfl rfl) san_nil rfl) rfl rfl rfl) (sa_cons (se_fn d__law_is_number hr (by decide) tk rfl (san_cons (se_var (i := 0) rfl (.inl rfl) rfl rfl) san_nil rfl) rfl rfl rfl) sa_nil rfl) rfl)) sa_nil rfl) rfl)) sc.nd rfl (.inl rfl) rfl (.inr rfl))
      (sss_cons (ss_expr (se_extend (se_var (i := 2) rfl (.inl rfl) rfl rfl) (sa_cons (se_lst (sa_cons (se_tup (sa_cons (se_fn d_is_name hr (by decide) tk rfl (san_cons (se_var (i := 0) rfl (.inl rfl) rfl rfl) san_nil rfl) rfl rfl rfl) (sa_cons (se_fn d__law_is_name hr (by decide) tk rfl (san_cons (se_var (i := 0) rfl (.inl rfl) rfl rfl) san_nil rfl) rfl rfl rfl) sa_nil rfl) rfl)) (sa_cons (se_tup (sa_cons (se_fn d_is_set hr (by decide) tk rfl (san_cons (se_var (i := 0) rfl (.inl rfl) rfl rfl) san_nil rfl) rfl rfl rfl) (sa_cons (se_fn d__law_is_set hr (by decide) tk rfl (san_cons (se_var (i := 0) rfl (.inl rfl) rfl rfl) san_nil rfl) rfl rfl rfl) sa_nil rfl) rfl)) sa_nil rfl) rfl)) sa_nil rfl) rfl rfl rfl rfl rfl) rfl)
      (sss_cons (ss_expr (se_extend (se_var (i := 2) rfl (.inl rfl) rfl rfl) (sa_cons (se_lst (sa_cons (se_tup (sa_cons (se_fn d_is_source hr (by decide) tk rfl (san_cons (se_var (i := 0) rfl (.inl rfl) rfl rfl) san_nil rfl) rfl rfl rfl) (sa_cons (se_fn d__law_is_source hr (by decide) tk rfl (san_cons (se_var (i := 0) rfl (.inl rfl) rfl rfl) san_nil rfl) rfl rfl rfl) sa_nil rfl) rfl)) (sa_cons (se_tup (sa_cons (se_fn d_is_party hr (by decide) tk rfl (san_cons (se_var (i := 0) rfl (.inl rfl) rfl rfl) san_nil rfl) rfl rfl rfl) (sa_cons (se_fn d__law_is_party hr (by decide) tk rfl (san_cons (se_var (i := 0) rfl (.inl rfl) rfl rfl) san_nil rfl) rfl rfl rfl) sa_nil rfl) rfl)) sa_nil rfl) rfl)) sa_nil rfl) rfl rfl rfl rfl rfl) rfl)
      (sss_cons (ss_expr (se_extend (se_var (i := 2) rfl (.inl rfl) rfl rfl) (sa_cons (se_lst (sa_cons (se_tup (sa_cons (se_fn d_is_build hr (by decide) tk rfl (san_cons (se_var (i := 0) rfl (.inl rfl) rfl rfl) san_nil rfl) rfl rfl rfl) (sa_cons (se_fn d__law_is_build hr (by decide) tk rfl (san_cons (se_var (i := 0) rfl (.inl rfl) rfl rfl) san_nil rfl) rfl rfl rfl) sa_nil rfl) rfl)) (sa_cons (se_tup (sa_cons (se_fn d_is_fact hr (by decide) tk rfl (san_cons (se_var (i := 0) rfl (.inl rfl) rfl rfl) san_nil rfl) rfl rfl rfl) (sa_cons (se_fn d__law_is_pair hr (by decide) tk rfl (san_cons (se_var (i := 0) rfl (.inl rfl) rfl rfl) san_nil rfl) rfl rfl rfl) sa_nil rfl) rfl)) sa_nil rfl) rfl)) sa_nil rfl) rfl rfl rfl rfl rfl) rfl)
      (sss_cons (ss_expr (se_append (se_var (i := 2) rfl (.inl rfl) rfl rfl) (sa_cons (se_tup (sa_cons (se_fn d_is_book hr (by decide) tk rfl (san_cons (se_var (i := 0) rfl (.inl rfl) rfl rfl) san_nil rfl) rfl rfl rfl) (sa_cons (se_fn d__law_is_book hr (by decide) tk rfl (san_cons (se_var (i := 0) rfl (.inl rfl) rfl rfl) san_nil rfl) rfl rfl rfl) sa_nil rfl) rfl)) sa_nil rfl) rfl rfl rfl rfl rfl) rfl)
      (sss_one (ss_ret (se_cmp (ops_eq hr.units) (se_lc false (ow := [("_law_seen", 3), ("_law_due", 4)]) rfl sc.nd (si_seq (se_var (i := 2) rfl (.inl rfl) rfl rfl)) (blkOk_by (by kernel_rfl)) (by decide) (fun _ _ _ _ _ => (sg_tup rfl (sgs_cons (sg_name (i := 3) sc.nd rfl (.inl rfl) (.inr rfl)) (sgs_cons (sg_name (i := 4) sc.nd rfl (.inl rfl) (.inr rfl)) sgs_nil rfl) rfl) rfl rfl)) (fun _ _ _ _ _ => (sts_one (st_w (sw_or (st_not (st_val (se_isi .bool rfl B.n_isinstance rfl B.n_bool (by decide +kernel) (by decide) rfl (se_var (i := 3) rfl (.inl rfl) rfl rfl) rfl rfl rfl) (fun _ => rfl))) (sw_or1 (st_cmp (ops_ne hr.units) (se_var (i := 3) rfl (.inl rfl) rfl rfl) (se_var (i := 4) rfl (.inl rfl) rfl rfl) rfl)))))) (fun _ _ _ _ _ => (se_var (i := 4) rfl (.inl rfl) rfl rfl)) (fun _ => rfl)) (se_lst sa_nil) rfl))))))))))
  exact ⟨f, fd, ["_law_thing"], G, F.kp, b, hm⟩
abbrev s_law : Stmt := topS 43
theorem sc_law : FnScope ["_law_script", "_law_feed_here", "_law_whole", "_law_parts", "_law_part", "_law_one", "_law_picked", "_law_things", "_law_lap", "_law_thing"] ["_law_script"] (defScope s_law) := ⟨rfl, rfl, rfl, by decide +kernel, rfl, by decide +kernel, by decide +kernel⟩
def m_law : SM :=
    (seqS (setS 1 (callM (callF f__law_feed) (consA (getV 0) nilA)))
    (seqS (setS 2 (callM (callF f__law_book) (consA (getV 1) nilA)))
    (seqS (setS 3 (ownM (consA (getV 2) nilA)))
    (seqS (forS (seqM (getV 2)) (tgName 4) (seqS (dropS (methM isL appendR (getV 3) (consA (getV 4) nilA)))
    (forS (seqM (getV 4)) (tgName 5) (dropS (methM isL extendR (getV 3) (consA (bin o_add (lstM (consA (getV 5) nilA)) (callM (c_list false) (consA (getV 5) nilA))) nilA))))))
    (seqS (setS 6 (lcM false (rng1 (consA (cst (.int (40))) nilA)) (tgName 8) yesM (callM (callF f__law_pick) (consA (getV 1) (consA (getV 3) nilA))) [8]))
    (seqS (setS 7 (bin o_addO (bin o_add (callM (c_list false) (consA (getV 2) nilA)) (getV 6)) (lcM false (seqM (getV 6)) (tgName 9) yesM (callM (callF (F__law_bent 8)) (consA (getV 1) (consA (getV 9) nilA))) [9])))
    (seqS (dropS (methM isL extendR (getV 7) (consA (bin o_add (lstM (consA (getV 2) nilA)) (lcM false (rng1 (consA (cst (.int (12))) nilA)) (tgName 8) yesM (callM (callF (F__law_bent 8)) (consA (getV 1) (consA (getV 2) nilA))) [8])) nilA)))
    (seqS (dropS (methM isL extendR (getV 7) (consA (lcM false (rng1 (consA (cst (.int (6))) nilA)) (tgName 8) yesM (callM (callF f__law_odd) (consA (getV 1) nilA)) [8]) nilA)))
    (seqS (dropS (methM isL extendR (getV 7) (consA (bin o_add (callM (callF f__law_fixed) nilA) (callM (callF f__law_fixed_books) nilA)) nilA)))
    (retS (bin o_eq (lcM false (seqM (getV 7)) (tgName 9) (notM (asB (callM (callF f__law_right) (consA (getV 9) nilA)))) (getV 9) [9]) (lstM nilA))))))))))))
def f_law : FM := fnM 10 m_law
theorem okF_law {f : Addr} {fd : FuncData} (F : Fun K "law" "law" s_law f fd) (hm : mg "law" = some (.ref f)) (B : Bt mg) (C : Ct mg) (d__law_bent : Dfn P w K mg base ct "_law_bent" 11 2 (F__law_bent 8)) (d__law_book : Dfn P w K mg base ct "_law_book" 4 1 f__law_book) (d__law_feed : Dfn P w K mg base ct "_law_feed" 1 1 f__law_feed) (d__law_fixed : Dfn P w K mg base ct "_law_fixed" 1 0 f__law_fixed) (d__law_fixed_books : Dfn P w K mg base ct "_law_fixed_books" 1 0 f__law_fixed_books) (d__law_odd : Dfn P w K mg base ct "_law_odd" 3 1 f__law_odd) (d__law_pick : Dfn P w K mg base ct "_law_pick" 2 2 f__law_pick) (d__law_right : Dfn P w K mg base ct "_law_right" 6 1 f__law_right) : FnOk P w K mg base (L2.CX P w) 12 f fd ["_law_script"] (spF ct K 1 f_law) := by
  have b : Binds K fd ["_law_script"] [] := F.binds (ps := ["_law_script"]) (fun _ _ _ _ _ _ us hl => match us, hl with | [_], _ => (by kernel_rfl))
  have sc := sc_law
  have G : FnOk P w K mg base (L2.CX P w) 12 f fd ["_law_script"] (spF ct K 1 f_law) := fn_ok (N := ["_law_script", "_law_feed_here", "_law_whole", "_law_parts", "_law_part", "_law_one", "_law_picked", "_law_things", "_law_lap", "_law_thing"]) F sc_law (k := 11) (m := m_law) (fun cdv A outer s H E hr => by
    have tk : Takes (cxOf (L2.CX P w) P w K mg base ["_law_script", "_law_feed_here", "_law_whole", "_law_parts", "_law_part", "_law_one", "_law_picked", "_law_things", "_law_lap", "_law_thing"] "law" (defScope s_law) f cdv A outer s H E) (WEx E) := takes_of rfl rfl rfl rfl
    exact (sss_cons (ss_set (i := 1) (se_fn d__law_feed hr (by decide) tk rfl (san_cons (se_var (i := 0) rfl (.inl rfl) rfl rfl) san_nil rfl) rfl rfl rfl) sc.nd rfl (.inr rfl) rfl (.inl rfl))
      (sss_cons (ss_set (i := 2) (se_fn d__law_book hr (by decide) tk rfl (san_cons (se_var (i := 1) rfl (.inr (.inl rfl)) rfl rfl) san_nil rfl) rfl rfl rfl) sc.nd rfl (.inr rfl) rfl (.inl rfl))
      (sss_cons (ss_set (i := 3) (se_own (sa_cons (se_var (i := 2) rfl (.inr (.inl rfl)) rfl rfl) sa_nil rfl)) sc.nd rfl (.inr rfl) rfl (.inl rfl))
      (sss_cons (ss_for (passes_of rfl) rfl (si_seq (se_var (i := 2) rfl (.inr (.inl rfl)) rfl rfl)) (sg_name (i := 4) sc.nd rfl (.inl rfl) (.inr rfl)) (sss_cons (ss_expr (se_append (se_var (i := 3) rfl (.inr (.inl rfl)) rfl rfl) (sa_cons (se_var (i := 4) rfl (.inl rfl) rfl rfl) sa_nil rfl) rfl rfl rfl rfl rfl) rfl)
      (sss_one (ss_for (passes_of rfl) rfl (si_seq (se_var (i := 4) rfl (.inl rfl) rfl rfl)) (sg_name (i := 5) sc.nd rfl (.inl rfl) (.inr rfl)) (sss_one (ss_expr (se_extend (se_var (i := 3) rfl (.inr (.inl rfl)) rfl rfl) (sa_cons (se_op ops_add (se_lst (sa_cons (se_var (i := 5) rfl (.inl rfl) rfl rfl) sa_nil rfl)) (se_callTy (cs_list false) rfl B.n_list (by decide +kernel) (sa_cons (se_var (i := 5) rfl (.inl rfl) rfl rfl) sa_nil rfl) (by decide) rfl rfl rfl)) sa_nil rfl) rfl rfl rfl rfl rfl) rfl)) (fun _ => rfl)))) (fun _ => rfl))
      (sss_cons (ss_setLc false (i := 6) (ow := [("_law_lap", 8)]) rfl sc.nd rfl rfl (sw_true rfl rfl rfl (by decide +kernel)) (si_range1 rfl B.n_range (sa_cons se_int sa_nil rfl) rfl) (blkOk_by (by kernel_rfl)) (by decide) (fun _ _ _ _ _ => (sg_name (i := 8) sc.nd rfl (.inl rfl) (.inr rfl))) (fun _ _ _ _ _ => sts_nil) (fun _ _ _ _ _ => (se_fn d__law_pick hr (by decide) takes0 rfl (san_cons (se_var (i := 1) rfl (by first | exact .inr (.inl rfl) | exact .inr (.inr rfl)) rfl rfl) (san_cons (se_var (i := 3) rfl (by first | exact .inr (.inl rfl) | exact .inr (.inr rfl)) rfl rfl) san_nil rfl) rfl) rfl rfl rfl)) (fun _ => rfl))
      (sss_cons (ss_set (i := 7) (se_op ops_addO (se_op ops_add (se_callTy (cs_list false) rfl B.n_list (by decide +kernel) (sa_cons (se_var (i := 2) rfl (.inr (.inl rfl)) rfl rfl) sa_nil rfl) (by decide) rfl rfl rfl) (se_var (i := 6) rfl (.inl rfl) rfl rfl)) (se_lc false (ow := [("_law_thing", 9)]) rfl sc.nd (si_seq (se_var (i := 6) rfl (.inl rfl) rfl rfl)) (blkOk_by (by kernel_rfl)) (by decide) (fun _ _ _ _ _ => (sg_name (i := 9) sc.nd rfl (.inl rfl) (.inr rfl))) (fun _ _ _ _ _ => sts_nil) (fun _ _ _ _ _ => (se_fn d__law_bent hr (by decide) takes0 rfl (san_cons (se_var (i := 1) rfl (by first | exact .inr (.inl rfl) | exact .inr (.inr rfl)) rfl rfl) (san_cons (se_var (i := 9) rfl (.inl rfl) rfl rfl) san_nil rfl) rfl) rfl rfl rfl)) (fun _ => rfl))) sc.nd rfl (.inl rfl) rfl (.inr rfl))
      (sss_cons (ss_expr (se_extend (se_var (i := 7) rfl (.inl rfl) rfl rfl) (sa_cons (se_op ops_add (se_lst (sa_cons (se_var (i := 2) rfl (.inr (.inl rfl)) rfl rfl) sa_nil rfl)) (se_lc false (ow := [("_law_lap", 8)]) rfl sc.nd (si_range1 rfl B.n_range (sa_cons se_int sa_nil rfl) rfl) (blkOk_by (by kernel_rfl)) (by decide) (fun _ _ _ _ _ => (sg_name (i := 8) sc.nd rfl (.inl rfl) (.inr rfl))) (fun _ _ _ _ _ => sts_nil) (fun _ _ _ _ _ => (se_fn d__law_bent hr (by decide) takes0 rfl (san_cons (se_var (i := 1) rfl (by first | exact .inr (.inl rfl) | exact .inr (.inr rfl)) rfl rfl) (san_cons (se_var (i := 2) rfl (by first | exact .inr (.inl rfl) | exact .inr (.inr rfl)) rfl rfl) san_nil rfl) rfl) rfl rfl rfl)) (fun _ => rfl))) sa_nil rfl) rfl rfl rfl rfl rfl) rfl)
      (sss_cons (ss_expr (se_extend (se_var (i := 7) rfl (.inl rfl) rfl rfl) (sa_cons (se_lc false (ow := [("_law_lap", 8)]) rfl sc.nd (si_range1 rfl B.n_range (sa_cons se_int sa_nil rfl) rfl) (blkOk_by (by kernel_rfl)) (by decide) (fun _ _ _ _ _ => (sg_name (i := 8) sc.nd rfl (.inl rfl) (.inr rfl))) (fun _ _ _ _ _ => sts_nil) (fun _ _ _ _ _ => (se_fn d__law_odd hr (by decide) takes0 rfl (san_cons (se_var (i := 1) rfl (by first | exact .inr (.inl rfl) | exact .inr (.inr rfl)) rfl rfl) san_nil rfl) rfl rfl rfl)) (fun _ => rfl)) sa_nil rfl) rfl rfl rfl rfl rfl) rfl)
      (sss_cons (ss_expr (se_extend (se_var (i := 7) rfl (.inl rfl) rfl rfl) (sa_cons (se_op ops_add (se_fn0 d__law_fixed hr (by decide) tk rfl rfl) (se_fn0 d__law_fixed_books hr (by decide) tk rfl rfl)) sa_nil rfl) rfl rfl rfl rfl rfl) rfl)
      (sss_one (ss_ret (se_cmp (ops_eq hr.units) (se_lc false (ow := [("_law_thing", 9)]) rfl sc.nd (si_seq (se_var (i := 7) rfl (.inl rfl) rfl rfl)) (blkOk_by (by kernel_rfl)) (by decide) (fun _ _ _ _ _ => (sg_name (i := 9) sc.nd rfl (.inl rfl) (.inr rfl))) (fun _ _ _ _ _ => (sts_one (st_not (st_val (se_fn d__law_right hr (by decide) takes0 rfl (san_cons (se_var (i := 9) rfl (.inl rfl) rfl rfl) san_nil rfl) rfl rfl rfl) (fun _ => rfl))))) (fun _ _ _ _ _ => (se_var (i := 9) rfl (.inl rfl) rfl rfl)) (fun _ => rfl)) (se_lst sa_nil) rfl)))))))))))))
  exact G
theorem ok_law {f : Addr} {fd : FuncData} (F : Fun K "law" "law" s_law f fd) (hm : mg "law" = some (.ref f)) (B : Bt mg) (C : Ct mg) (d__law_bent : Dfn P w K mg base ct "_law_bent" 11 2 (F__law_bent 8)) (d__law_book : Dfn P w K mg base ct "_law_book" 4 1 f__law_book) (d__law_feed : Dfn P w K mg base ct "_law_feed" 1 1 f__law_feed) (d__law_fixed : Dfn P w K mg base ct "_law_fixed" 1 0 f__law_fixed) (d__law_fixed_books : Dfn P w K mg base ct "_law_fixed_books" 1 0 f__law_fixed_books) (d__law_odd : Dfn P w K mg base ct "_law_odd" 3 1 f__law_odd) (d__law_pick : Dfn P w K mg base ct "_law_pick" 2 2 f__law_pick) (d__law_right : Dfn P w K mg base ct "_law_right" 6 1 f__law_right) : Dfn P w K mg base ct "law" 12 1 f_law := by
  have b : Binds K fd ["_law_script"] [] := F.binds (ps := ["_law_script"]) (fun _ _ _ _ _ _ us hl => match us, hl with | [_], _ => (by kernel_rfl))
  exact ⟨f, fd, ["_law_script"], okF_law F hm B C d__law_bent d__law_book d__law_feed d__law_fixed d__law_fixed_books d__law_odd d__law_pick d__law_right, F.kp, b, hm⟩
end RB.Law

end

/-! text KPure -/
section
set_option Elab.async false
set_option linter.all false
set_option maxRecDepth 100000
set_option maxHeartbeats 4000000
namespace RB
open PySem PySem.Spec PyProof.Rows L2
/-- data of at most n levels, of modest size, with no dict in it -/
def okN : Nat → D → Bool
  | _, .none => true
  | _, .bool _ => true
  | _, .int _ => true
  | _, .str x => decide (x.length ≤ 1000)
  | n + 1, .tuple xs => decide (xs.length ≤ 100000) && xs.all (okN n)
  | n + 1, .list xs => decide (xs.length ≤ 100000) && xs.all (okN n)
  | _, _ => false
theorem okN_str {n : Nat} {x : Str} (h : okN n (.str x) = true) : x.length ≤ 1000 := by
  cases n <;> simpa [okN] using h
theorem okN_tup {n : Nat} {xs : List D} (h : okN n (.tuple xs) = true) : xs.length ≤ 100000 ∧ ∃ k, n = k + 1 ∧ ∀ x ∈ xs, okN k x = true := by
  cases n with
  | zero => cases h
  | succ k =>
    have h : (decide (xs.length ≤ 100000) && xs.all (okN k)) = true := h
    rw [Bool.and_eq_true, decide_eq_true_eq, List.all_eq_true] at h
    exact ⟨h.1, k, rfl, h.2⟩
theorem okN_lst {n : Nat} {xs : List D} (h : okN n (.list xs) = true) : xs.length ≤ 100000 ∧ ∃ k, n = k + 1 ∧ ∀ x ∈ xs, okN k x = true := by
  cases n with
  | zero => cases h
  | succ k =>
    have h : (decide (xs.length ≤ 100000) && xs.all (okN k)) = true := h
    rw [Bool.and_eq_true, decide_eq_true_eq, List.all_eq_true] at h
    exact ⟨h.1, k, rfl, h.2⟩
theorem okN_ty {n : Nat} {d : D} (h : okN n d = true) : ∃ t, tyD d = some t := by
  cases d with
  | dict k => cases n <;> cases h
  | _ => exact ⟨_, rfl⟩
/-- the type of data that is told -/
def tyO (d : D) : Ty := (tyD d).getD .dict
theorem tyR_ok' {n : Nat} {d : D} {T S : Sto} (h : okN n d = true) : tyR (.v d) T S = some (tyO d) := by
  obtain ⟨t, e⟩ := okN_ty h
  show tyD d = some (tyO d)
  rw [tyO, e]; rfl
def isTuple : D → Bool
  | .tuple _ => true
  | _ => false
def isBool : D → Bool
  | .bool _ => true
  | _ => false
def isStr : D → Bool
  | .str _ => true
  | _ => false
def isIntB : D → Bool
  | .int _ => true
  | .bool _ => true
  | _ => false
theorem isa_tuple {n : Nat} {d : D} (h : okN n d = true) : (tyO d).isa .tuple = isTuple d := by cases d <;> first | rfl | (cases n <;> cases h)
theorem isa_bool {n : Nat} {d : D} (h : okN n d = true) : (tyO d).isa .bool = isBool d := by cases d <;> first | rfl | (cases n <;> cases h)
theorem isa_str {n : Nat} {d : D} (h : okN n d = true) : (tyO d).isa .str = isStr d := by cases d <;> first | rfl | (cases n <;> cases h)
theorem isa_int {n : Nat} {d : D} (h : okN n d = true) : (tyO d).isa .int = isIntB d := by cases d <;> first | rfl | (cases n <;> cases h)
end RB
namespace RB.Law
open PySem PySem.Spec PyProof.Rows L2 RB
def signIn (c : Nat) (z : String) : Bool := decide (c ∈ (Str.ofString z).cps.toList)
def letter (c : Nat) : Bool := signIn c "abcdefghijklmnopqrstuvwxyz"
def digit (c : Nat) : Bool := signIn c "0123456789"
def nameS (x : Str) : Bool := decide (1 ≤ x.length) && decide (x.length ≤ 8) && (match x.cps.toList with | c :: _ => letter c | [] => false) && x.cps.toList.all fun c => letter c || digit c
def nameB : D → Bool
  | .str x => nameS x
  | _ => false
def intB : D → Bool
  | .int _ => true
  | _ => false
def numB : D → Bool
  | .int i => decide (0 ≤ i)
  | _ => false
def weightB : D → Bool
  | .int i => decide (1 ≤ i)
  | _ => false
section
variable {d : D} {n : Nat} (S : Sto)
theorem is_integer_eq (h : okN n d = true) : f_is_integer [.v d] S = .ok (.v (.bool (intB d))) S := by
  apply wpF_eq
  show wpF (fnRun (m_is_integer [some (.v d)] [] S)) _
  simp only [m_is_integer, wp_seq, wp_skip, wp_ret, wp_drop, wp_set, wp_ifS, wp_par, wp_par3, wp_unp, wp_asg, wp_dput, wp_for, wp_getV, wp_cst, wp_bin, wp_asB, wp_notM, wp_andM, wp_orM, wp_andV, wp_orV, wp_notV, wp_ifM, wp_chn, wp_nilA, wp_consA, wp_callM, wp_callF, wp_tupM, wp_lstM, wp_ownM, wp_seqM, wp_methM, wp_lcM, wp_isiM, wp_isiN, wp_partN, wp_partS, wp_cutM, wp_rng1, wp_rng2, wp_negM, wp_revM, wp_dispM, wp_pnil, wp_pcons, wp_sortSetM, wp_run, wpF_ok, wpR_ok, wpR_bad, isB_b, isV_s, isS_s, isDic_d, wpF_ret, wpF_own, ob_l, ob_f, List.set_cons_zero, List.set_cons_succ, List.getElem?_cons_zero, List.getElem?_cons_succ, toAs, toA, toDs, toD, Bool.not_true, Bool.not_false, reduceIte, Bool.false_eq_true, if_false, if_true, tyR_ok' h, isa_int h, isa_bool h]
  cases d <;> simp [isIntB, isBool, intB, isB, wpF_ret]
theorem is_number_eq (h : okN n d = true) : f_is_number [.v d] S = .ok (.v (.bool (numB d))) S := by
  apply wpF_eq
  show wpF (fnRun (m_is_number [some (.v d)] [] S)) _
  simp only [m_is_number, wp_seq, wp_skip, wp_ret, wp_drop, wp_set, wp_ifS, wp_par, wp_par3, wp_unp, wp_asg, wp_dput, wp_for, wp_getV, wp_cst, wp_bin, wp_asB, wp_notM, wp_andM, wp_orM, wp_andV, wp_orV, wp_notV, wp_ifM, wp_chn, wp_nilA, wp_consA, wp_callM, wp_callF, wp_tupM, wp_lstM, wp_ownM, wp_seqM, wp_methM, wp_lcM, wp_isiM, wp_isiN, wp_partN, wp_partS, wp_cutM, wp_rng1, wp_rng2, wp_negM, wp_revM, wp_dispM, wp_pnil, wp_pcons, wp_sortSetM, wp_run, wpF_ok, wpR_ok, wpR_bad, isB_b, isV_s, isS_s, isDic_d, wpF_ret, wpF_own, ob_l, ob_f, List.set_cons_zero, List.set_cons_succ, List.getElem?_cons_zero, List.getElem?_cons_succ, toAs, toA, toDs, toD, Bool.not_true, Bool.not_false, reduceIte, Bool.false_eq_true, if_false, if_true, is_integer_eq _ h]
  cases d <;> simp [intB, numB, isB, wpF_ret, o_ge_int, wpR_ok]
theorem is_weight_eq (h : okN n d = true) : f_is_weight [.v d] S = .ok (.v (.bool (weightB d))) S := by
  apply wpF_eq
  show wpF (fnRun (m_is_weight [some (.v d)] [] S)) _
  simp only [m_is_weight, wp_seq, wp_skip, wp_ret, wp_drop, wp_set, wp_ifS, wp_par, wp_par3, wp_unp, wp_asg, wp_dput, wp_for, wp_getV, wp_cst, wp_bin, wp_asB, wp_notM, wp_andM, wp_orM, wp_andV, wp_orV, wp_notV, wp_ifM, wp_chn, wp_nilA, wp_consA, wp_callM, wp_callF, wp_tupM, wp_lstM, wp_ownM, wp_seqM, wp_methM, wp_lcM, wp_isiM, wp_isiN, wp_partN, wp_partS, wp_cutM, wp_rng1, wp_rng2, wp_negM, wp_revM, wp_dispM, wp_pnil, wp_pcons, wp_sortSetM, wp_run, wpF_ok, wpR_ok, wpR_bad, isB_b, isV_s, isS_s, isDic_d, wpF_ret, wpF_own, ob_l, ob_f, List.set_cons_zero, List.set_cons_succ, List.getElem?_cons_zero, List.getElem?_cons_succ, toAs, toA, toDs, toD, Bool.not_true, Bool.not_false, reduceIte, Bool.false_eq_true, if_false, if_true, is_integer_eq _ h]
  cases d <;> simp [intB, weightB, isB, wpF_ret, o_ge_int, wpR_ok]
theorem law_is_number_eq (h : okN n d = true) : f__law_is_number [.v d] S = .ok (.v (.bool (numB d))) S := by
  apply wpF_eq
  show wpF (fnRun (m__law_is_number [some (.v d)] [] S)) _
  simp only [m__law_is_number, wp_seq, wp_skip, wp_ret, wp_drop, wp_set, wp_ifS, wp_par, wp_par3, wp_unp, wp_asg, wp_dput, wp_for, wp_getV, wp_cst, wp_bin, wp_asB, wp_notM, wp_andM, wp_orM, wp_andV, wp_orV, wp_notV, wp_ifM, wp_chn, wp_nilA, wp_consA, wp_callM, wp_callF, wp_tupM, wp_lstM, wp_ownM, wp_seqM, wp_methM, wp_lcM, wp_isiM, wp_isiN, wp_partN, wp_partS, wp_cutM, wp_rng1, wp_rng2, wp_negM, wp_revM, wp_dispM, wp_pnil, wp_pcons, wp_sortSetM, wp_run, wpF_ok, wpR_ok, wpR_bad, isB_b, isV_s, isS_s, isDic_d, wpF_ret, wpF_own, ob_l, ob_f, List.set_cons_zero, List.set_cons_succ, List.getElem?_cons_zero, List.getElem?_cons_succ, toAs, toA, toDs, toD, Bool.not_true, Bool.not_false, reduceIte, Bool.false_eq_true, if_false, if_true, tyR_ok' h, isa_int h, isa_bool h]
  cases d <;> simp [isIntB, isBool, numB, isB, wpF_ret, o_ge_int, wpR_ok]
theorem signs_mem {x : Str} {e : D} (h : e ∈ signs x) : ∃ c, c ∈ x.cps.toList ∧ e = .str ⟨#[c]⟩ := by
  obtain ⟨c, hc, rfl⟩ := List.mem_map.mp h
  exact ⟨c, hc, rfl⟩
def cpOf : D → Nat
  | .str x => x.cps.toList.headD 0
  | _ => 0
theorem len_cps (x : Str) : x.cps.toList.length = x.length := rfl
theorem is_name_eq (h : okN n d = true) : f_is_name [.v d] S = .ok (.v (.bool (nameB d))) S := by
  apply wpF_eq
  show wpF (fnRun (m_is_name [some (.v d), none] [] S)) _
  simp only [m_is_name, wp_seq, wp_skip, wp_ret, wp_drop, wp_set, wp_ifS, wp_par, wp_par3, wp_unp, wp_asg, wp_dput, wp_for, wp_getV, wp_cst, wp_bin, wp_asB, wp_notM, wp_andM, wp_orM, wp_andV, wp_orV, wp_notV, wp_ifM, wp_chn, wp_nilA, wp_consA, wp_callM, wp_callF, wp_tupM, wp_lstM, wp_ownM, wp_seqM, wp_methM, wp_lcM, wp_isiM, wp_isiN, wp_partN, wp_partS, wp_cutM, wp_rng1, wp_rng2, wp_negM, wp_revM, wp_dispM, wp_pnil, wp_pcons, wp_sortSetM, wp_run, wpF_ok, wpR_ok, wpR_bad, isB_b, isV_s, isS_s, isDic_d, wpF_ret, wpF_own, ob_l, ob_f, List.set_cons_zero, List.set_cons_succ, List.getElem?_cons_zero, List.getElem?_cons_succ, toAs, toA, toDs, toD, Bool.not_true, Bool.not_false, reduceIte, Bool.false_eq_true, if_false, if_true, tyR_ok' h, isa_str h]
  cases d with
  | str x =>
    have hx := okN_str h
    have hx2 : x.length ≤ 16777216 := by omega
    simp only [isStr, wp_seq, wp_skip, wp_ret, wp_drop, wp_set, wp_ifS, wp_par, wp_par3, wp_unp, wp_asg, wp_dput, wp_for, wp_getV, wp_cst, wp_bin, wp_asB, wp_notM, wp_andM, wp_orM, wp_andV, wp_orV, wp_notV, wp_ifM, wp_chn, wp_nilA, wp_consA, wp_callM, wp_callF, wp_tupM, wp_lstM, wp_ownM, wp_seqM, wp_methM, wp_lcM, wp_isiM, wp_isiN, wp_partN, wp_partS, wp_cutM, wp_rng1, wp_rng2, wp_negM, wp_revM, wp_dispM, wp_pnil, wp_pcons, wp_sortSetM, wp_run, wpF_ok, wpR_ok, wpR_bad, isB_b, isV_s, isS_s, isDic_d, wpF_ret, wpF_own, ob_l, ob_f, List.set_cons_zero, List.set_cons_succ, List.getElem?_cons_zero, List.getElem?_cons_succ, toAs, toA, toDs, toD, Bool.not_true, Bool.not_false, reduceIte, Bool.false_eq_true, if_false, if_true, o_add_int, o_sub_int, o_lt_int, o_gt_int, o_le_int, o_ge_int, o_eq_int, o_ne_int, o_eq_nil, o_ne_nil, o_eq_nilT, o_eq_bool, o_ne_bool, o_lt_str, o_ge_str, wp_ixT, wp_ixL, wp_ixS, wp_lenT, wp_lenL, wp_lenS, o_in_sign, wp_newF, wp_newT, wp_itemsV, wp_itemsT, wp_itemsS, wp_cutT, wp_cutLi, wp_cutSt, wp_zipTT, atI_0, atI_1, atI_2, atI_3, atI_4, hx2, true_and]
    by_cases h1 : 1 ≤ x.length
    · by_cases h8 : x.length ≤ 8
      · obtain ⟨c, r, hc⟩ : ∃ c r, x.cps.toList = c :: r := by
          cases e : x.cps.toList with
          | nil => have := len_cps x; rw [e] at this; simp at this; omega
          | cons c r => exact ⟨c, r, rfl⟩
        have e1 : ((1 : Int) ≤ (x.length : Int)) := by omega
        have e8 : ((x.length : Int) ≤ 8) := by omega
        simp only [e1, e8, decide_true, wp_seq, wp_skip, wp_ret, wp_drop, wp_set, wp_ifS, wp_par, wp_par3, wp_unp, wp_asg, wp_dput, wp_for, wp_getV, wp_cst, wp_bin, wp_asB, wp_notM, wp_andM, wp_orM, wp_andV, wp_orV, wp_notV, wp_ifM, wp_chn, wp_nilA, wp_consA, wp_callM, wp_callF, wp_tupM, wp_lstM, wp_ownM, wp_seqM, wp_methM, wp_lcM, wp_isiM, wp_isiN, wp_partN, wp_partS, wp_cutM, wp_rng1, wp_rng2, wp_negM, wp_revM, wp_dispM, wp_pnil, wp_pcons, wp_sortSetM, wp_run, wpF_ok, wpR_ok, wpR_bad, isB_b, isV_s, isS_s, isDic_d, wpF_ret, wpF_own, ob_l, ob_f, List.set_cons_zero, List.set_cons_succ, List.getElem?_cons_zero, List.getElem?_cons_succ, toAs, toA, toDs, toD, Bool.not_true, Bool.not_false, reduceIte, Bool.false_eq_true, if_false, if_true, o_add_int, o_sub_int, o_lt_int, o_gt_int, o_le_int, o_ge_int, o_eq_int, o_ne_int, o_eq_nil, o_ne_nil, o_eq_nilT, o_eq_bool, o_ne_bool, o_lt_str, o_ge_str, wp_ixT, wp_ixL, wp_ixS, wp_lenT, wp_lenL, wp_lenS, o_in_sign, wp_newF, wp_newT, wp_itemsV, wp_itemsT, wp_itemsS, wp_cutT, wp_cutLi, wp_cutSt, wp_zipTT, atI_0, atI_1, atI_2, atI_3, atI_4, hc, hx2, true_and]
        have hl : decide (c ∈ (Str.ofString "abcdefghijklmnopqrstuvwxyz").cps.toList) = letter c := rfl
        rw [hl]
        have hn : nameS x = (letter c && x.cps.toList.all fun c => letter c || digit c) := by
          unfold nameS
          rw [hc, decide_eq_true h1, decide_eq_true h8]
          rfl
        cases hlc : letter c with
        | false => simp [nameB, hn, hlc, wpF_ret]
        | true =>
          simp only [wp_seq, wp_skip, wp_ret, wp_drop, wp_set, wp_ifS, wp_par, wp_par3, wp_unp, wp_asg, wp_dput, wp_for, wp_getV, wp_cst, wp_bin, wp_asB, wp_notM, wp_andM, wp_orM, wp_andV, wp_orV, wp_notV, wp_ifM, wp_chn, wp_nilA, wp_consA, wp_callM, wp_callF, wp_tupM, wp_lstM, wp_ownM, wp_seqM, wp_methM, wp_lcM, wp_isiM, wp_isiN, wp_partN, wp_partS, wp_cutM, wp_rng1, wp_rng2, wp_negM, wp_revM, wp_dispM, wp_pnil, wp_pcons, wp_sortSetM, wp_run, wpF_ok, wpR_ok, wpR_bad, isB_b, isV_s, isS_s, isDic_d, wpF_ret, wpF_own, ob_l, ob_f, List.set_cons_zero, List.set_cons_succ, List.getElem?_cons_zero, List.getElem?_cons_succ, toAs, toA, toDs, toD, Bool.not_true, Bool.not_false, reduceIte, Bool.false_eq_true, if_false, if_true, wipeV, List.set_cons_zero, List.set_cons_succ]
          rw [comp_pure (p := fun _ => true) (f := fun e => .bool (letter (cpOf e) || digit (cpOf e)))]
          · rw [filt_true]
            unfold signs
            rw [List.map_map]
            simp only [wpR_ok, wp_newF, List.length_map]
            refine ⟨by rw [len_cps]; omega, ?_⟩
            have e : (fun e => PyData.bool (letter (cpOf e) || digit (cpOf e))) ∘ (fun c => PyData.str ⟨#[c]⟩) = fun c => .bool (letter c || digit c) := rfl
            rw [e, wp_all]
            simp [nameB, hn, hlc, wpF_ret]
          · intro e he
            obtain ⟨c2, hc2, rfl⟩ := signs_mem he
            refine ⟨rfl, fun _ => wpR_eq ?_⟩
            simp only [tgName, wp_seq, wp_skip, wp_ret, wp_drop, wp_set, wp_ifS, wp_par, wp_par3, wp_unp, wp_asg, wp_dput, wp_for, wp_getV, wp_cst, wp_bin, wp_asB, wp_notM, wp_andM, wp_orM, wp_andV, wp_orV, wp_notV, wp_ifM, wp_chn, wp_nilA, wp_consA, wp_callM, wp_callF, wp_tupM, wp_lstM, wp_ownM, wp_seqM, wp_methM, wp_lcM, wp_isiM, wp_isiN, wp_partN, wp_partS, wp_cutM, wp_rng1, wp_rng2, wp_negM, wp_revM, wp_dispM, wp_pnil, wp_pcons, wp_sortSetM, wp_run, wpF_ok, wpR_ok, wpR_bad, isB_b, isV_s, isS_s, isDic_d, wpF_ret, wpF_own, ob_l, ob_f, List.set_cons_zero, List.set_cons_succ, List.getElem?_cons_zero, List.getElem?_cons_succ, toAs, toA, toDs, toD, Bool.not_true, Bool.not_false, reduceIte, Bool.false_eq_true, if_false, if_true, o_add_int, o_sub_int, o_lt_int, o_gt_int, o_le_int, o_ge_int, o_eq_int, o_ne_int, o_eq_nil, o_ne_nil, o_eq_nilT, o_eq_bool, o_ne_bool, o_lt_str, o_ge_str, wp_ixT, wp_ixL, wp_ixS, wp_lenT, wp_lenL, wp_lenS, o_in_sign, wp_newF, wp_newT, wp_itemsV, wp_itemsT, wp_itemsS, wp_cutT, wp_cutLi, wp_cutSt, wp_zipTT, atI_0, atI_1, atI_2, atI_3, atI_4]
            have hl2 : decide (c2 ∈ (Str.ofString "abcdefghijklmnopqrstuvwxyz").cps.toList) = letter c2 := rfl
            have hd2 : decide (c2 ∈ (Str.ofString "0123456789").cps.toList) = digit c2 := rfl
            rw [hl2, hd2]
            cases hlc2 : letter c2 <;> simp [cpOf, hlc2]
      · have e8 : ¬ ((x.length : Int) ≤ 8) := by omega
        have e1 : ((1 : Int) ≤ (x.length : Int)) := by omega
        simp [e1, e8, wp_seq, wp_skip, wp_ret, wp_drop, wp_set, wp_ifS, wp_par, wp_par3, wp_unp, wp_asg, wp_dput, wp_for, wp_getV, wp_cst, wp_bin, wp_asB, wp_notM, wp_andM, wp_orM, wp_andV, wp_orV, wp_notV, wp_ifM, wp_chn, wp_nilA, wp_consA, wp_callM, wp_callF, wp_tupM, wp_lstM, wp_ownM, wp_seqM, wp_methM, wp_lcM, wp_isiM, wp_isiN, wp_partN, wp_partS, wp_cutM, wp_rng1, wp_rng2, wp_negM, wp_revM, wp_dispM, wp_pnil, wp_pcons, wp_sortSetM, wp_run, wpF_ok, wpR_ok, wpR_bad, isB_b, isV_s, isS_s, isDic_d, wpF_ret, wpF_own, ob_l, ob_f, List.set_cons_zero, List.set_cons_succ, List.getElem?_cons_zero, List.getElem?_cons_succ, toAs, toA, toDs, toD, Bool.not_true, Bool.not_false, reduceIte, Bool.false_eq_true, if_false, if_true, nameB, nameS, h8, wpF_ret]
    · have e1 : ¬ ((1 : Int) ≤ (x.length : Int)) := by omega
      simp [e1, wp_seq, wp_skip, wp_ret, wp_drop, wp_set, wp_ifS, wp_par, wp_par3, wp_unp, wp_asg, wp_dput, wp_for, wp_getV, wp_cst, wp_bin, wp_asB, wp_notM, wp_andM, wp_orM, wp_andV, wp_orV, wp_notV, wp_ifM, wp_chn, wp_nilA, wp_consA, wp_callM, wp_callF, wp_tupM, wp_lstM, wp_ownM, wp_seqM, wp_methM, wp_lcM, wp_isiM, wp_isiN, wp_partN, wp_partS, wp_cutM, wp_rng1, wp_rng2, wp_negM, wp_revM, wp_dispM, wp_pnil, wp_pcons, wp_sortSetM, wp_run, wpF_ok, wpR_ok, wpR_bad, isB_b, isV_s, isS_s, isDic_d, wpF_ret, wpF_own, ob_l, ob_f, List.set_cons_zero, List.set_cons_succ, List.getElem?_cons_zero, List.getElem?_cons_succ, toAs, toA, toDs, toD, Bool.not_true, Bool.not_false, reduceIte, Bool.false_eq_true, if_false, if_true, nameB, nameS, h1, wpF_ret]
  | _ => simp [isStr, nameB, wpF_ret]
end
end RB.Law

end

/-! text KPure2 -/
section
set_option Elab.async false
set_option linter.all false
set_option maxRecDepth 100000
set_option maxHeartbeats 4000000
namespace RB.Law
open PySem PySem.Spec PyProof.Rows L2 RB
def namesB : D → Bool
  | .tuple xs => xs.all nameB
  | _ => false
def txt : D → Str
  | .str x => x
  | _ => Str.empty
def riseL : List D → Bool
  | a :: b :: r => ltS (txt a) (txt b) && riseL (b :: r)
  | _ => true
def setB : D → Bool
  | .tuple xs => xs.all nameB && riseL xs
  | _ => false
def pairB : D → Bool
  | .tuple xs => xs.all nameB && decide (xs.length = 2)
  | _ => false
section
variable {d : D} {n : Nat} (S : Sto)
theorem cut26 : cutS (Str.ofString "abcdefghijklmnopqrstuvwxyz0123456789") none (some 26) = Str.ofString "abcdefghijklmnopqrstuvwxyz" := by decide +kernel
theorem signs36 (c : Nat) : decide (c ∈ (Str.ofString "abcdefghijklmnopqrstuvwxyz0123456789").cps.toList) = (letter c || digit c) := by
  have e : (Str.ofString "abcdefghijklmnopqrstuvwxyz0123456789").cps.toList = (Str.ofString "abcdefghijklmnopqrstuvwxyz").cps.toList ++ (Str.ofString "0123456789").cps.toList := by decide +kernel
  rw [e, letter, digit, signIn, signIn, Bool.eq_iff_iff]
  simp only [decide_eq_true_eq, Bool.or_eq_true, List.mem_append]
theorem law_is_name_eq (h : okN n d = true) : f__law_is_name [.v d] S = .ok (.v (.bool (nameB d))) S := by
  apply wpF_eq
  show wpF (fnRun (m__law_is_name [some (.v d), none, none] [] S)) _
  simp only [m__law_is_name, wp_seq, wp_skip, wp_ret, wp_drop, wp_set, wp_ifS, wp_par, wp_par3, wp_unp, wp_asg, wp_dput, wp_for, wp_getV, wp_cst, wp_bin, wp_asB, wp_notM, wp_andM, wp_orM, wp_andV, wp_orV, wp_notV, wp_ifM, wp_chn, wp_nilA, wp_consA, wp_callM, wp_callF, wp_tupM, wp_lstM, wp_ownM, wp_seqM, wp_methM, wp_lcM, wp_isiM, wp_isiN, wp_partN, wp_partS, wp_cutM, wp_rng1, wp_rng2, wp_negM, wp_revM, wp_dispM, wp_pnil, wp_pcons, wp_sortSetM, wp_run, wpF_ok, wpR_ok, wpR_bad, isB_b, isV_s, isS_s, isDic_d, wpF_ret, wpF_own, ob_l, ob_f, List.set_cons_zero, List.set_cons_succ, List.getElem?_cons_zero, List.getElem?_cons_succ, toAs, toA, toDs, toD, Bool.not_true, Bool.not_false, reduceIte, Bool.false_eq_true, if_false, if_true, tyR_ok' h, isa_str h]
  cases d with
  | str x =>
    have hx := okN_str h
    have hx2 : x.length ≤ 16777216 := by omega
    simp only [isStr, wp_seq, wp_skip, wp_ret, wp_drop, wp_set, wp_ifS, wp_par, wp_par3, wp_unp, wp_asg, wp_dput, wp_for, wp_getV, wp_cst, wp_bin, wp_asB, wp_notM, wp_andM, wp_orM, wp_andV, wp_orV, wp_notV, wp_ifM, wp_chn, wp_nilA, wp_consA, wp_callM, wp_callF, wp_tupM, wp_lstM, wp_ownM, wp_seqM, wp_methM, wp_lcM, wp_isiM, wp_isiN, wp_partN, wp_partS, wp_cutM, wp_rng1, wp_rng2, wp_negM, wp_revM, wp_dispM, wp_pnil, wp_pcons, wp_sortSetM, wp_run, wpF_ok, wpR_ok, wpR_bad, isB_b, isV_s, isS_s, isDic_d, wpF_ret, wpF_own, ob_l, ob_f, List.set_cons_zero, List.set_cons_succ, List.getElem?_cons_zero, List.getElem?_cons_succ, toAs, toA, toDs, toD, Bool.not_true, Bool.not_false, reduceIte, Bool.false_eq_true, if_false, if_true, o_add_int, o_sub_int, o_lt_int, o_gt_int, o_le_int, o_ge_int, o_eq_int, o_ne_int, o_eq_nil, o_ne_nil, o_eq_nilT, o_eq_bool, o_ne_bool, o_lt_str, o_ge_str, wp_ixT, wp_ixL, wp_ixS, wp_lenT, wp_lenL, wp_lenS, o_in_sign, wp_newF, wp_newT, wp_itemsV, wp_itemsT, wp_itemsS, wp_cutT, wp_cutLi, wp_cutSt, wp_zipTT, atI_0, atI_1, atI_2, atI_3, atI_4, hx2, true_and]
    by_cases h1 : 1 ≤ x.length
    · by_cases h8 : x.length ≤ 8
      · obtain ⟨c, r, hc⟩ : ∃ c r, x.cps.toList = c :: r := by
          cases e : x.cps.toList with
          | nil => have := len_cps x; rw [e] at this; simp at this; omega
          | cons c r => exact ⟨c, r, rfl⟩
        have e1 : ((1 : Int) ≤ (x.length : Int)) := by omega
        have e8 : ((x.length : Int) ≤ 8) := by omega
        have e36 : (Str.ofString "abcdefghijklmnopqrstuvwxyz0123456789").length ≤ 16777216 := by decide +kernel
        simp only [e1, e8, decide_true, wp_seq, wp_skip, wp_ret, wp_drop, wp_set, wp_ifS, wp_par, wp_par3, wp_unp, wp_asg, wp_dput, wp_for, wp_getV, wp_cst, wp_bin, wp_asB, wp_notM, wp_andM, wp_orM, wp_andV, wp_orV, wp_notV, wp_ifM, wp_chn, wp_nilA, wp_consA, wp_callM, wp_callF, wp_tupM, wp_lstM, wp_ownM, wp_seqM, wp_methM, wp_lcM, wp_isiM, wp_isiN, wp_partN, wp_partS, wp_cutM, wp_rng1, wp_rng2, wp_negM, wp_revM, wp_dispM, wp_pnil, wp_pcons, wp_sortSetM, wp_run, wpF_ok, wpR_ok, wpR_bad, isB_b, isV_s, isS_s, isDic_d, wpF_ret, wpF_own, ob_l, ob_f, List.set_cons_zero, List.set_cons_succ, List.getElem?_cons_zero, List.getElem?_cons_succ, toAs, toA, toDs, toD, Bool.not_true, Bool.not_false, reduceIte, Bool.false_eq_true, if_false, if_true, o_add_int, o_sub_int, o_lt_int, o_gt_int, o_le_int, o_ge_int, o_eq_int, o_ne_int, o_eq_nil, o_ne_nil, o_eq_nilT, o_eq_bool, o_ne_bool, o_lt_str, o_ge_str, wp_ixT, wp_ixL, wp_ixS, wp_lenT, wp_lenL, wp_lenS, o_in_sign, wp_newF, wp_newT, wp_itemsV, wp_itemsT, wp_itemsS, wp_cutT, wp_cutLi, wp_cutSt, wp_zipTT, atI_0, atI_1, atI_2, atI_3, atI_4, hc, hx2, true_and, e36]
        refine ⟨26, rfl, ?_⟩
        rw [cut26]
        try simp only [wp_seq, wp_skip, wp_ret, wp_drop, wp_set, wp_ifS, wp_par, wp_par3, wp_unp, wp_asg, wp_dput, wp_for, wp_getV, wp_cst, wp_bin, wp_asB, wp_notM, wp_andM, wp_orM, wp_andV, wp_orV, wp_notV, wp_ifM, wp_chn, wp_nilA, wp_consA, wp_callM, wp_callF, wp_tupM, wp_lstM, wp_ownM, wp_seqM, wp_methM, wp_lcM, wp_isiM, wp_isiN, wp_partN, wp_partS, wp_cutM, wp_rng1, wp_rng2, wp_negM, wp_revM, wp_dispM, wp_pnil, wp_pcons, wp_sortSetM, wp_run, wpF_ok, wpR_ok, wpR_bad, isB_b, isV_s, isS_s, isDic_d, wpF_ret, wpF_own, ob_l, ob_f, List.set_cons_zero, List.set_cons_succ, List.getElem?_cons_zero, List.getElem?_cons_succ, toAs, toA, toDs, toD, Bool.not_true, Bool.not_false, reduceIte, Bool.false_eq_true, if_false, if_true, o_add_int, o_sub_int, o_lt_int, o_gt_int, o_le_int, o_ge_int, o_eq_int, o_ne_int, o_eq_nil, o_ne_nil, o_eq_nilT, o_eq_bool, o_ne_bool, o_lt_str, o_ge_str, wp_ixT, wp_ixL, wp_ixS, wp_lenT, wp_lenL, wp_lenS, o_in_sign, wp_newF, wp_newT, wp_itemsV, wp_itemsT, wp_itemsS, wp_cutT, wp_cutLi, wp_cutSt, wp_zipTT, atI_0, atI_1, atI_2, atI_3, atI_4]
        have hl : decide (c ∈ (Str.ofString "abcdefghijklmnopqrstuvwxyz").cps.toList) = letter c := rfl
        rw [hl]
        have hn : nameS x = (letter c && x.cps.toList.all fun c => letter c || digit c) := by
          unfold nameS
          rw [hc, decide_eq_true h1, decide_eq_true h8]
          rfl
        cases hlc : letter c with
        | false => simp [nameB, hn, hlc, wpF_ret]
        | true =>
          simp only [wp_seq, wp_skip, wp_ret, wp_drop, wp_set, wp_ifS, wp_par, wp_par3, wp_unp, wp_asg, wp_dput, wp_for, wp_getV, wp_cst, wp_bin, wp_asB, wp_notM, wp_andM, wp_orM, wp_andV, wp_orV, wp_notV, wp_ifM, wp_chn, wp_nilA, wp_consA, wp_callM, wp_callF, wp_tupM, wp_lstM, wp_ownM, wp_seqM, wp_methM, wp_lcM, wp_isiM, wp_isiN, wp_partN, wp_partS, wp_cutM, wp_rng1, wp_rng2, wp_negM, wp_revM, wp_dispM, wp_pnil, wp_pcons, wp_sortSetM, wp_run, wpF_ok, wpR_ok, wpR_bad, isB_b, isV_s, isS_s, isDic_d, wpF_ret, wpF_own, ob_l, ob_f, List.set_cons_zero, List.set_cons_succ, List.getElem?_cons_zero, List.getElem?_cons_succ, toAs, toA, toDs, toD, Bool.not_true, Bool.not_false, reduceIte, Bool.false_eq_true, if_false, if_true, wipeV]
          rw [comp_pure (p := fun e => !(letter (cpOf e) || digit (cpOf e))) (f := fun e => e)]
          · simp only [wpR_ok, wp_newF, wp_seq, wp_skip, wp_ret, wp_drop, wp_set, wp_ifS, wp_par, wp_par3, wp_unp, wp_asg, wp_dput, wp_for, wp_getV, wp_cst, wp_bin, wp_asB, wp_notM, wp_andM, wp_orM, wp_andV, wp_orV, wp_notV, wp_ifM, wp_chn, wp_nilA, wp_consA, wp_callM, wp_callF, wp_tupM, wp_lstM, wp_ownM, wp_seqM, wp_methM, wp_lcM, wp_isiM, wp_isiN, wp_partN, wp_partS, wp_cutM, wp_rng1, wp_rng2, wp_negM, wp_revM, wp_dispM, wp_pnil, wp_pcons, wp_sortSetM, wp_run, wpF_ok, wpR_ok, wpR_bad, isB_b, isV_s, isS_s, isDic_d, wpF_ret, wpF_own, ob_l, ob_f, List.set_cons_zero, List.set_cons_succ, List.getElem?_cons_zero, List.getElem?_cons_succ, toAs, toA, toDs, toD, Bool.not_true, Bool.not_false, reduceIte, Bool.false_eq_true, if_false, if_true, o_add_int, o_sub_int, o_lt_int, o_gt_int, o_le_int, o_ge_int, o_eq_int, o_ne_int, o_eq_nil, o_ne_nil, o_eq_nilT, o_eq_bool, o_ne_bool, o_lt_str, o_ge_str, wp_ixT, wp_ixL, wp_ixS, wp_lenT, wp_lenL, wp_lenS, o_in_sign, wp_newF, wp_newT, wp_itemsV, wp_itemsT, wp_itemsS, wp_cutT, wp_cutLi, wp_cutSt, wp_zipTT, atI_0, atI_1, atI_2, atI_3, atI_4, List.map_id']
            refine ⟨Nat.le_trans (List.length_filter_le _ _) (by unfold signs; rw [List.length_map, len_cps]; omega), by decide, ?_⟩
            rw [filt_all (fun e => letter (cpOf e) || digit (cpOf e))]
            unfold signs
            rw [List.all_map]
            have e : (fun e => letter (cpOf e) || digit (cpOf e)) ∘ (fun c => PyData.str ⟨#[c]⟩) = fun c => letter c || digit c := rfl
            rw [e]
            simp [nameB, hn, hlc, wpF_ret]
          · intro e he
            obtain ⟨c2, hc2, rfl⟩ := signs_mem he
            refine ⟨wpR_eq ?_, fun _ => rfl⟩
            simp only [tgName, wp_seq, wp_skip, wp_ret, wp_drop, wp_set, wp_ifS, wp_par, wp_par3, wp_unp, wp_asg, wp_dput, wp_for, wp_getV, wp_cst, wp_bin, wp_asB, wp_notM, wp_andM, wp_orM, wp_andV, wp_orV, wp_notV, wp_ifM, wp_chn, wp_nilA, wp_consA, wp_callM, wp_callF, wp_tupM, wp_lstM, wp_ownM, wp_seqM, wp_methM, wp_lcM, wp_isiM, wp_isiN, wp_partN, wp_partS, wp_cutM, wp_rng1, wp_rng2, wp_negM, wp_revM, wp_dispM, wp_pnil, wp_pcons, wp_sortSetM, wp_run, wpF_ok, wpR_ok, wpR_bad, isB_b, isV_s, isS_s, isDic_d, wpF_ret, wpF_own, ob_l, ob_f, List.set_cons_zero, List.set_cons_succ, List.getElem?_cons_zero, List.getElem?_cons_succ, toAs, toA, toDs, toD, Bool.not_true, Bool.not_false, reduceIte, Bool.false_eq_true, if_false, if_true, o_add_int, o_sub_int, o_lt_int, o_gt_int, o_le_int, o_ge_int, o_eq_int, o_ne_int, o_eq_nil, o_ne_nil, o_eq_nilT, o_eq_bool, o_ne_bool, o_lt_str, o_ge_str, wp_ixT, wp_ixL, wp_ixS, wp_lenT, wp_lenL, wp_lenS, o_in_sign, wp_newF, wp_newT, wp_itemsV, wp_itemsT, wp_itemsS, wp_cutT, wp_cutLi, wp_cutSt, wp_zipTT, atI_0, atI_1, atI_2, atI_3, atI_4]
            rw [signs36]
            and_intros <;> first | rfl | trivial
      · have e8 : ¬ ((x.length : Int) ≤ 8) := by omega
        have e1 : ((1 : Int) ≤ (x.length : Int)) := by omega
        simp [e1, e8, wp_seq, wp_skip, wp_ret, wp_drop, wp_set, wp_ifS, wp_par, wp_par3, wp_unp, wp_asg, wp_dput, wp_for, wp_getV, wp_cst, wp_bin, wp_asB, wp_notM, wp_andM, wp_orM, wp_andV, wp_orV, wp_notV, wp_ifM, wp_chn, wp_nilA, wp_consA, wp_callM, wp_callF, wp_tupM, wp_lstM, wp_ownM, wp_seqM, wp_methM, wp_lcM, wp_isiM, wp_isiN, wp_partN, wp_partS, wp_cutM, wp_rng1, wp_rng2, wp_negM, wp_revM, wp_dispM, wp_pnil, wp_pcons, wp_sortSetM, wp_run, wpF_ok, wpR_ok, wpR_bad, isB_b, isV_s, isS_s, isDic_d, wpF_ret, wpF_own, ob_l, ob_f, List.set_cons_zero, List.set_cons_succ, List.getElem?_cons_zero, List.getElem?_cons_succ, toAs, toA, toDs, toD, Bool.not_true, Bool.not_false, reduceIte, Bool.false_eq_true, if_false, if_true, nameB, nameS, h8, wpF_ret]
    · have e1 : ¬ ((1 : Int) ≤ (x.length : Int)) := by omega
      simp [e1, wp_seq, wp_skip, wp_ret, wp_drop, wp_set, wp_ifS, wp_par, wp_par3, wp_unp, wp_asg, wp_dput, wp_for, wp_getV, wp_cst, wp_bin, wp_asB, wp_notM, wp_andM, wp_orM, wp_andV, wp_orV, wp_notV, wp_ifM, wp_chn, wp_nilA, wp_consA, wp_callM, wp_callF, wp_tupM, wp_lstM, wp_ownM, wp_seqM, wp_methM, wp_lcM, wp_isiM, wp_isiN, wp_partN, wp_partS, wp_cutM, wp_rng1, wp_rng2, wp_negM, wp_revM, wp_dispM, wp_pnil, wp_pcons, wp_sortSetM, wp_run, wpF_ok, wpR_ok, wpR_bad, isB_b, isV_s, isS_s, isDic_d, wpF_ret, wpF_own, ob_l, ob_f, List.set_cons_zero, List.set_cons_succ, List.getElem?_cons_zero, List.getElem?_cons_succ, toAs, toA, toDs, toD, Bool.not_true, Bool.not_false, reduceIte, Bool.false_eq_true, if_false, if_true, nameB, nameS, h1, wpF_ret]
  | _ => simp [isStr, nameB, wpF_ret]
theorem are_names_eq (h : okN n d = true) : f_are_names [.v d] S = .ok (.v (.bool (namesB d))) S := by
  apply wpF_eq
  show wpF (fnRun (m_are_names [some (.v d), none] [] S)) _
  simp only [m_are_names, wp_seq, wp_skip, wp_ret, wp_drop, wp_set, wp_ifS, wp_par, wp_par3, wp_unp, wp_asg, wp_dput, wp_for, wp_getV, wp_cst, wp_bin, wp_asB, wp_notM, wp_andM, wp_orM, wp_andV, wp_orV, wp_notV, wp_ifM, wp_chn, wp_nilA, wp_consA, wp_callM, wp_callF, wp_tupM, wp_lstM, wp_ownM, wp_seqM, wp_methM, wp_lcM, wp_isiM, wp_isiN, wp_partN, wp_partS, wp_cutM, wp_rng1, wp_rng2, wp_negM, wp_revM, wp_dispM, wp_pnil, wp_pcons, wp_sortSetM, wp_run, wpF_ok, wpR_ok, wpR_bad, isB_b, isV_s, isS_s, isDic_d, wpF_ret, wpF_own, ob_l, ob_f, List.set_cons_zero, List.set_cons_succ, List.getElem?_cons_zero, List.getElem?_cons_succ, toAs, toA, toDs, toD, Bool.not_true, Bool.not_false, reduceIte, Bool.false_eq_true, if_false, if_true, tyR_ok' h, isa_tuple h]
  cases d with
  | tuple xs =>
    obtain ⟨hl, k, rfl, hx⟩ := okN_tup h
    simp only [isTuple, wp_seq, wp_skip, wp_ret, wp_drop, wp_set, wp_ifS, wp_par, wp_par3, wp_unp, wp_asg, wp_dput, wp_for, wp_getV, wp_cst, wp_bin, wp_asB, wp_notM, wp_andM, wp_orM, wp_andV, wp_orV, wp_notV, wp_ifM, wp_chn, wp_nilA, wp_consA, wp_callM, wp_callF, wp_tupM, wp_lstM, wp_ownM, wp_seqM, wp_methM, wp_lcM, wp_isiM, wp_isiN, wp_partN, wp_partS, wp_cutM, wp_rng1, wp_rng2, wp_negM, wp_revM, wp_dispM, wp_pnil, wp_pcons, wp_sortSetM, wp_run, wpF_ok, wpR_ok, wpR_bad, isB_b, isV_s, isS_s, isDic_d, wpF_ret, wpF_own, ob_l, ob_f, List.set_cons_zero, List.set_cons_succ, List.getElem?_cons_zero, List.getElem?_cons_succ, toAs, toA, toDs, toD, Bool.not_true, Bool.not_false, reduceIte, Bool.false_eq_true, if_false, if_true, o_add_int, o_sub_int, o_lt_int, o_gt_int, o_le_int, o_ge_int, o_eq_int, o_ne_int, o_eq_nil, o_ne_nil, o_eq_nilT, o_eq_bool, o_ne_bool, o_lt_str, o_ge_str, wp_ixT, wp_ixL, wp_ixS, wp_lenT, wp_lenL, wp_lenS, o_in_sign, wp_newF, wp_newT, wp_itemsV, wp_itemsT, wp_itemsS, wp_cutT, wp_cutLi, wp_cutSt, wp_zipTT, atI_0, atI_1, atI_2, atI_3, atI_4, wipeV]
    rw [comp_call (p := nameB) (by simp) fun e he => is_name_eq S (hx e he)]
    simp only [wp_seq, wp_skip, wp_ret, wp_drop, wp_set, wp_ifS, wp_par, wp_par3, wp_unp, wp_asg, wp_dput, wp_for, wp_getV, wp_cst, wp_bin, wp_asB, wp_notM, wp_andM, wp_orM, wp_andV, wp_orV, wp_notV, wp_ifM, wp_chn, wp_nilA, wp_consA, wp_callM, wp_callF, wp_tupM, wp_lstM, wp_ownM, wp_seqM, wp_methM, wp_lcM, wp_isiM, wp_isiN, wp_partN, wp_partS, wp_cutM, wp_rng1, wp_rng2, wp_negM, wp_revM, wp_dispM, wp_pnil, wp_pcons, wp_sortSetM, wp_run, wpF_ok, wpR_ok, wpR_bad, isB_b, isV_s, isS_s, isDic_d, wpF_ret, wpF_own, ob_l, ob_f, List.set_cons_zero, List.set_cons_succ, List.getElem?_cons_zero, List.getElem?_cons_succ, toAs, toA, toDs, toD, Bool.not_true, Bool.not_false, reduceIte, Bool.false_eq_true, if_false, if_true, o_add_int, o_sub_int, o_lt_int, o_gt_int, o_le_int, o_ge_int, o_eq_int, o_ne_int, o_eq_nil, o_ne_nil, o_eq_nilT, o_eq_bool, o_ne_bool, o_lt_str, o_ge_str, wp_ixT, wp_ixL, wp_ixS, wp_lenT, wp_lenL, wp_lenS, o_in_sign, wp_newF, wp_newT, wp_itemsV, wp_itemsT, wp_itemsS, wp_cutT, wp_cutLi, wp_cutSt, wp_zipTT, atI_0, atI_1, atI_2, atI_3, atI_4, List.length_map, wp_all]
    exact ⟨by omega, (by first | rfl | trivial), (by first | rfl | trivial)⟩
  | _ => simp [isTuple, namesB, wpF_ret]
theorem law_are_names_eq (h : okN n d = true) : f__law_are_names [.v d] S = .ok (.v (.bool (namesB d))) S := by
  apply wpF_eq
  show wpF (fnRun (m__law_are_names [some (.v d), none] [] S)) _
  simp only [m__law_are_names, wp_seq, wp_skip, wp_ret, wp_drop, wp_set, wp_ifS, wp_par, wp_par3, wp_unp, wp_asg, wp_dput, wp_for, wp_getV, wp_cst, wp_bin, wp_asB, wp_notM, wp_andM, wp_orM, wp_andV, wp_orV, wp_notV, wp_ifM, wp_chn, wp_nilA, wp_consA, wp_callM, wp_callF, wp_tupM, wp_lstM, wp_ownM, wp_seqM, wp_methM, wp_lcM, wp_isiM, wp_isiN, wp_partN, wp_partS, wp_cutM, wp_rng1, wp_rng2, wp_negM, wp_revM, wp_dispM, wp_pnil, wp_pcons, wp_sortSetM, wp_run, wpF_ok, wpR_ok, wpR_bad, isB_b, isV_s, isS_s, isDic_d, wpF_ret, wpF_own, ob_l, ob_f, List.set_cons_zero, List.set_cons_succ, List.getElem?_cons_zero, List.getElem?_cons_succ, toAs, toA, toDs, toD, Bool.not_true, Bool.not_false, reduceIte, Bool.false_eq_true, if_false, if_true, tyR_ok' h, isa_tuple h]
  cases d with
  | tuple xs =>
    obtain ⟨hl, k, rfl, hx⟩ := okN_tup h
    simp only [isTuple, wp_seq, wp_skip, wp_ret, wp_drop, wp_set, wp_ifS, wp_par, wp_par3, wp_unp, wp_asg, wp_dput, wp_for, wp_getV, wp_cst, wp_bin, wp_asB, wp_notM, wp_andM, wp_orM, wp_andV, wp_orV, wp_notV, wp_ifM, wp_chn, wp_nilA, wp_consA, wp_callM, wp_callF, wp_tupM, wp_lstM, wp_ownM, wp_seqM, wp_methM, wp_lcM, wp_isiM, wp_isiN, wp_partN, wp_partS, wp_cutM, wp_rng1, wp_rng2, wp_negM, wp_revM, wp_dispM, wp_pnil, wp_pcons, wp_sortSetM, wp_run, wpF_ok, wpR_ok, wpR_bad, isB_b, isV_s, isS_s, isDic_d, wpF_ret, wpF_own, ob_l, ob_f, List.set_cons_zero, List.set_cons_succ, List.getElem?_cons_zero, List.getElem?_cons_succ, toAs, toA, toDs, toD, Bool.not_true, Bool.not_false, reduceIte, Bool.false_eq_true, if_false, if_true, o_add_int, o_sub_int, o_lt_int, o_gt_int, o_le_int, o_ge_int, o_eq_int, o_ne_int, o_eq_nil, o_ne_nil, o_eq_nilT, o_eq_bool, o_ne_bool, o_lt_str, o_ge_str, wp_ixT, wp_ixL, wp_ixS, wp_lenT, wp_lenL, wp_lenS, o_in_sign, wp_newF, wp_newT, wp_itemsV, wp_itemsT, wp_itemsS, wp_cutT, wp_cutLi, wp_cutSt, wp_zipTT, atI_0, atI_1, atI_2, atI_3, atI_4, wipeV]
    rw [comp_not (p := nameB) (by simp) fun e he => law_is_name_eq S (hx e he)]
    simp only [wp_seq, wp_skip, wp_ret, wp_drop, wp_set, wp_ifS, wp_par, wp_par3, wp_unp, wp_asg, wp_dput, wp_for, wp_getV, wp_cst, wp_bin, wp_asB, wp_notM, wp_andM, wp_orM, wp_andV, wp_orV, wp_notV, wp_ifM, wp_chn, wp_nilA, wp_consA, wp_callM, wp_callF, wp_tupM, wp_lstM, wp_ownM, wp_seqM, wp_methM, wp_lcM, wp_isiM, wp_isiN, wp_partN, wp_partS, wp_cutM, wp_rng1, wp_rng2, wp_negM, wp_revM, wp_dispM, wp_pnil, wp_pcons, wp_sortSetM, wp_run, wpF_ok, wpR_ok, wpR_bad, isB_b, isV_s, isS_s, isDic_d, wpF_ret, wpF_own, ob_l, ob_f, List.set_cons_zero, List.set_cons_succ, List.getElem?_cons_zero, List.getElem?_cons_succ, toAs, toA, toDs, toD, Bool.not_true, Bool.not_false, reduceIte, Bool.false_eq_true, if_false, if_true, o_add_int, o_sub_int, o_lt_int, o_gt_int, o_le_int, o_ge_int, o_eq_int, o_ne_int, o_eq_nil, o_ne_nil, o_eq_nilT, o_eq_bool, o_ne_bool, o_lt_str, o_ge_str, wp_ixT, wp_ixL, wp_ixS, wp_lenT, wp_lenL, wp_lenS, o_in_sign, wp_newF, wp_newT, wp_itemsV, wp_itemsT, wp_itemsS, wp_cutT, wp_cutLi, wp_cutSt, wp_zipTT, atI_0, atI_1, atI_2, atI_3, atI_4, filt_all]
    exact ⟨Nat.le_trans (List.length_filter_le _ _) (by omega), by decide, (by first | rfl | trivial), (by first | rfl | trivial)⟩
  | _ => simp [isTuple, namesB, wpF_ret]
theorem name_txt {d : D} (h : nameB d = true) : d = .str (txt d) := by
  cases d <;> first | rfl | cases h
theorem rise_zip : ∀ xs : List D, (∀ x ∈ xs, nameB x = true) → ((zipD xs (xs.drop 1)).all fun e => match e with | .tuple [a, b] => ltS (txt a) (txt b) | _ => false) = riseL xs
  | [], _ => rfl
  | [_], _ => rfl
  | a :: b :: r, h => by
    have ih := rise_zip (b :: r) fun x hx => h x (List.mem_cons_of_mem _ hx)
    have e : zipD (a :: b :: r) ((a :: b :: r).drop 1) = .tuple [a, b] :: zipD (b :: r) ((b :: r).drop 1) := rfl
    rw [e, List.all_cons, ih]
    rfl
theorem zip_mem {xs : List D} {e : D} (h : e ∈ zipD xs (xs.drop 1)) : ∃ a b, a ∈ xs ∧ b ∈ xs ∧ e = .tuple [a, b] := by
  unfold zipD at h
  obtain ⟨p, hp, rfl⟩ := List.mem_map.mp h
  have := List.of_mem_zip hp
  exact ⟨p.1, p.2, this.1, List.mem_of_mem_drop this.2, rfl⟩
theorem is_rising_eq {xs : List D} (hl : xs.length ≤ 100000) (h : ∀ x ∈ xs, nameB x = true) : f_is_rising [.v (.tuple xs)] S = .ok (.v (.bool (riseL xs))) S := by
  apply wpF_eq
  show wpF (fnRun (m_is_rising [some (.v (.tuple xs)), none, none] [] S)) _
  simp only [m_is_rising, wp_seq, wp_skip, wp_ret, wp_drop, wp_set, wp_ifS, wp_par, wp_par3, wp_unp, wp_asg, wp_dput, wp_for, wp_getV, wp_cst, wp_bin, wp_asB, wp_notM, wp_andM, wp_orM, wp_andV, wp_orV, wp_notV, wp_ifM, wp_chn, wp_nilA, wp_consA, wp_callM, wp_callF, wp_tupM, wp_lstM, wp_ownM, wp_seqM, wp_methM, wp_lcM, wp_isiM, wp_isiN, wp_partN, wp_partS, wp_cutM, wp_rng1, wp_rng2, wp_negM, wp_revM, wp_dispM, wp_pnil, wp_pcons, wp_sortSetM, wp_run, wpF_ok, wpR_ok, wpR_bad, isB_b, isV_s, isS_s, isDic_d, wpF_ret, wpF_own, ob_l, ob_f, List.set_cons_zero, List.set_cons_succ, List.getElem?_cons_zero, List.getElem?_cons_succ, toAs, toA, toDs, toD, Bool.not_true, Bool.not_false, reduceIte, Bool.false_eq_true, if_false, if_true, o_add_int, o_sub_int, o_lt_int, o_gt_int, o_le_int, o_ge_int, o_eq_int, o_ne_int, o_eq_nil, o_ne_nil, o_eq_nilT, o_eq_bool, o_ne_bool, o_lt_str, o_ge_str, wp_ixT, wp_ixL, wp_ixS, wp_lenT, wp_lenL, wp_lenS, o_in_sign, wp_newF, wp_newT, wp_itemsV, wp_itemsT, wp_itemsS, wp_cutT, wp_cutLi, wp_cutSt, wp_zipTT, atI_0, atI_1, atI_2, atI_3, atI_4]
  refine ⟨1, rfl, ?_⟩
  rw [cut_from1]
  simp only [wp_seq, wp_skip, wp_ret, wp_drop, wp_set, wp_ifS, wp_par, wp_par3, wp_unp, wp_asg, wp_dput, wp_for, wp_getV, wp_cst, wp_bin, wp_asB, wp_notM, wp_andM, wp_orM, wp_andV, wp_orV, wp_notV, wp_ifM, wp_chn, wp_nilA, wp_consA, wp_callM, wp_callF, wp_tupM, wp_lstM, wp_ownM, wp_seqM, wp_methM, wp_lcM, wp_isiM, wp_isiN, wp_partN, wp_partS, wp_cutM, wp_rng1, wp_rng2, wp_negM, wp_revM, wp_dispM, wp_pnil, wp_pcons, wp_sortSetM, wp_run, wpF_ok, wpR_ok, wpR_bad, isB_b, isV_s, isS_s, isDic_d, wpF_ret, wpF_own, ob_l, ob_f, List.set_cons_zero, List.set_cons_succ, List.getElem?_cons_zero, List.getElem?_cons_succ, toAs, toA, toDs, toD, Bool.not_true, Bool.not_false, reduceIte, Bool.false_eq_true, if_false, if_true, o_add_int, o_sub_int, o_lt_int, o_gt_int, o_le_int, o_ge_int, o_eq_int, o_ne_int, o_eq_nil, o_ne_nil, o_eq_nilT, o_eq_bool, o_ne_bool, o_lt_str, o_ge_str, wp_ixT, wp_ixL, wp_ixS, wp_lenT, wp_lenL, wp_lenS, o_in_sign, wp_newF, wp_newT, wp_itemsV, wp_itemsT, wp_itemsS, wp_cutT, wp_cutLi, wp_cutSt, wp_zipTT, atI_0, atI_1, atI_2, atI_3, atI_4, wipeV]
  rw [comp_map fun e => .bool (match e with | .tuple [a, b] => ltS (txt a) (txt b) | _ => false)]
  · simp only [wp_seq, wp_skip, wp_ret, wp_drop, wp_set, wp_ifS, wp_par, wp_par3, wp_unp, wp_asg, wp_dput, wp_for, wp_getV, wp_cst, wp_bin, wp_asB, wp_notM, wp_andM, wp_orM, wp_andV, wp_orV, wp_notV, wp_ifM, wp_chn, wp_nilA, wp_consA, wp_callM, wp_callF, wp_tupM, wp_lstM, wp_ownM, wp_seqM, wp_methM, wp_lcM, wp_isiM, wp_isiN, wp_partN, wp_partS, wp_cutM, wp_rng1, wp_rng2, wp_negM, wp_revM, wp_dispM, wp_pnil, wp_pcons, wp_sortSetM, wp_run, wpF_ok, wpR_ok, wpR_bad, isB_b, isV_s, isS_s, isDic_d, wpF_ret, wpF_own, ob_l, ob_f, List.set_cons_zero, List.set_cons_succ, List.getElem?_cons_zero, List.getElem?_cons_succ, toAs, toA, toDs, toD, Bool.not_true, Bool.not_false, reduceIte, Bool.false_eq_true, if_false, if_true, o_add_int, o_sub_int, o_lt_int, o_gt_int, o_le_int, o_ge_int, o_eq_int, o_ne_int, o_eq_nil, o_ne_nil, o_eq_nilT, o_eq_bool, o_ne_bool, o_lt_str, o_ge_str, wp_ixT, wp_ixL, wp_ixS, wp_lenT, wp_lenL, wp_lenS, o_in_sign, wp_newF, wp_newT, wp_itemsV, wp_itemsT, wp_itemsS, wp_cutT, wp_cutLi, wp_cutSt, wp_zipTT, atI_0, atI_1, atI_2, atI_3, atI_4, List.length_map, wp_all, rise_zip xs h]
    refine ⟨?_, (by first | rfl | trivial), (by first | rfl | trivial)⟩
    unfold zipD
    rw [List.length_map, List.length_zip, List.length_drop]
    omega
  · intro e he
    obtain ⟨a, b, ha, hb, rfl⟩ := zip_mem he
    rw [name_txt (h a ha), name_txt (h b hb)]
    apply wpR_eq
    simp only [tgsCons, tgName, tgsNil, Option.bind, wp_seq, wp_skip, wp_ret, wp_drop, wp_set, wp_ifS, wp_par, wp_par3, wp_unp, wp_asg, wp_dput, wp_for, wp_getV, wp_cst, wp_bin, wp_asB, wp_notM, wp_andM, wp_orM, wp_andV, wp_orV, wp_notV, wp_ifM, wp_chn, wp_nilA, wp_consA, wp_callM, wp_callF, wp_tupM, wp_lstM, wp_ownM, wp_seqM, wp_methM, wp_lcM, wp_isiM, wp_isiN, wp_partN, wp_partS, wp_cutM, wp_rng1, wp_rng2, wp_negM, wp_revM, wp_dispM, wp_pnil, wp_pcons, wp_sortSetM, wp_run, wpF_ok, wpR_ok, wpR_bad, isB_b, isV_s, isS_s, isDic_d, wpF_ret, wpF_own, ob_l, ob_f, List.set_cons_zero, List.set_cons_succ, List.getElem?_cons_zero, List.getElem?_cons_succ, toAs, toA, toDs, toD, Bool.not_true, Bool.not_false, reduceIte, Bool.false_eq_true, if_false, if_true, o_add_int, o_sub_int, o_lt_int, o_gt_int, o_le_int, o_ge_int, o_eq_int, o_ne_int, o_eq_nil, o_ne_nil, o_eq_nilT, o_eq_bool, o_ne_bool, o_lt_str, o_ge_str, wp_ixT, wp_ixL, wp_ixS, wp_lenT, wp_lenL, wp_lenS, o_in_sign, wp_newF, wp_newT, wp_itemsV, wp_itemsT, wp_itemsS, wp_cutT, wp_cutLi, wp_cutSt, wp_zipTT, atI_0, atI_1, atI_2, atI_3, atI_4]
    and_intros <;> first | rfl | trivial
theorem is_set_eq (h : okN n d = true) : f_is_set [.v d] S = .ok (.v (.bool (setB d))) S := by
  apply wpF_eq
  show wpF (fnRun (m_is_set [some (.v d)] [] S)) _
  simp only [m_is_set, wp_seq, wp_skip, wp_ret, wp_drop, wp_set, wp_ifS, wp_par, wp_par3, wp_unp, wp_asg, wp_dput, wp_for, wp_getV, wp_cst, wp_bin, wp_asB, wp_notM, wp_andM, wp_orM, wp_andV, wp_orV, wp_notV, wp_ifM, wp_chn, wp_nilA, wp_consA, wp_callM, wp_callF, wp_tupM, wp_lstM, wp_ownM, wp_seqM, wp_methM, wp_lcM, wp_isiM, wp_isiN, wp_partN, wp_partS, wp_cutM, wp_rng1, wp_rng2, wp_negM, wp_revM, wp_dispM, wp_pnil, wp_pcons, wp_sortSetM, wp_run, wpF_ok, wpR_ok, wpR_bad, isB_b, isV_s, isS_s, isDic_d, wpF_ret, wpF_own, ob_l, ob_f, List.set_cons_zero, List.set_cons_succ, List.getElem?_cons_zero, List.getElem?_cons_succ, toAs, toA, toDs, toD, Bool.not_true, Bool.not_false, reduceIte, Bool.false_eq_true, if_false, if_true, are_names_eq S h]
  cases d with
  | tuple xs =>
    obtain ⟨hl, k, rfl, hx⟩ := okN_tup h
    cases hn : namesB (.tuple xs) with
    | false =>
      have hn : xs.all nameB = false := hn
      simp [setB, hn, wpF_ret]
    | true =>
      have hn : xs.all nameB = true := hn
      simp only [wp_seq, wp_skip, wp_ret, wp_drop, wp_set, wp_ifS, wp_par, wp_par3, wp_unp, wp_asg, wp_dput, wp_for, wp_getV, wp_cst, wp_bin, wp_asB, wp_notM, wp_andM, wp_orM, wp_andV, wp_orV, wp_notV, wp_ifM, wp_chn, wp_nilA, wp_consA, wp_callM, wp_callF, wp_tupM, wp_lstM, wp_ownM, wp_seqM, wp_methM, wp_lcM, wp_isiM, wp_isiN, wp_partN, wp_partS, wp_cutM, wp_rng1, wp_rng2, wp_negM, wp_revM, wp_dispM, wp_pnil, wp_pcons, wp_sortSetM, wp_run, wpF_ok, wpR_ok, wpR_bad, isB_b, isV_s, isS_s, isDic_d, wpF_ret, wpF_own, ob_l, ob_f, List.set_cons_zero, List.set_cons_succ, List.getElem?_cons_zero, List.getElem?_cons_succ, toAs, toA, toDs, toD, Bool.not_true, Bool.not_false, reduceIte, Bool.false_eq_true, if_false, if_true, is_rising_eq S hl (List.all_eq_true.mp hn), wpF_ret, setB, hn]
      and_intros <;> first | rfl | trivial
  | _ => simp [setB, namesB, wpF_ret]
theorem rise_ix : ∀ (xs : List D), riseL xs = true ↔ ∀ k : Nat, k + 1 < xs.length → ltS (txt (xs.getD k .none)) (txt (xs.getD (k + 1) .none)) = true
  | [] => ⟨fun _ k h => by simp at h, fun _ => rfl⟩
  | [_] => ⟨fun _ k h => by simp at h, fun _ => rfl⟩
  | a :: b :: r => by
    have ih := rise_ix (b :: r)
    show (ltS (txt a) (txt b) && riseL (b :: r)) = true ↔ _
    rw [Bool.and_eq_true, ih]
    constructor
    · rintro ⟨h1, h2⟩ k hk
      cases k with
      | zero => exact h1
      | succ k => exact h2 k (by simpa using hk)
    · intro h
      exact ⟨h 0 (by simp), fun k hk => h (k + 1) (by simpa using hk)⟩
theorem law_is_set_eq (h : okN n d = true) : f__law_is_set [.v d] S = .ok (.v (.bool (setB d))) S := by
  apply wpF_eq
  show wpF (fnRun (m__law_is_set [some (.v d), none] [] S)) _
  simp only [m__law_is_set, wp_seq, wp_skip, wp_ret, wp_drop, wp_set, wp_ifS, wp_par, wp_par3, wp_unp, wp_asg, wp_dput, wp_for, wp_getV, wp_cst, wp_bin, wp_asB, wp_notM, wp_andM, wp_orM, wp_andV, wp_orV, wp_notV, wp_ifM, wp_chn, wp_nilA, wp_consA, wp_callM, wp_callF, wp_tupM, wp_lstM, wp_ownM, wp_seqM, wp_methM, wp_lcM, wp_isiM, wp_isiN, wp_partN, wp_partS, wp_cutM, wp_rng1, wp_rng2, wp_negM, wp_revM, wp_dispM, wp_pnil, wp_pcons, wp_sortSetM, wp_run, wpF_ok, wpR_ok, wpR_bad, isB_b, isV_s, isS_s, isDic_d, wpF_ret, wpF_own, ob_l, ob_f, List.set_cons_zero, List.set_cons_succ, List.getElem?_cons_zero, List.getElem?_cons_succ, toAs, toA, toDs, toD, Bool.not_true, Bool.not_false, reduceIte, Bool.false_eq_true, if_false, if_true, law_are_names_eq S h]
  cases d with
  | tuple xs =>
    obtain ⟨hl, k, rfl, hx⟩ := okN_tup h
    cases hn : namesB (.tuple xs) with
    | false =>
      have hn : xs.all nameB = false := hn
      simp [setB, hn, wpF_ret]
    | true =>
      have hn : xs.all nameB = true := hn
      have hn' := List.all_eq_true.mp hn
      simp only [wp_seq, wp_skip, wp_ret, wp_drop, wp_set, wp_ifS, wp_par, wp_par3, wp_unp, wp_asg, wp_dput, wp_for, wp_getV, wp_cst, wp_bin, wp_asB, wp_notM, wp_andM, wp_orM, wp_andV, wp_orV, wp_notV, wp_ifM, wp_chn, wp_nilA, wp_consA, wp_callM, wp_callF, wp_tupM, wp_lstM, wp_ownM, wp_seqM, wp_methM, wp_lcM, wp_isiM, wp_isiN, wp_partN, wp_partS, wp_cutM, wp_rng1, wp_rng2, wp_negM, wp_revM, wp_dispM, wp_pnil, wp_pcons, wp_sortSetM, wp_run, wpF_ok, wpR_ok, wpR_bad, isB_b, isV_s, isS_s, isDic_d, wpF_ret, wpF_own, ob_l, ob_f, List.set_cons_zero, List.set_cons_succ, List.getElem?_cons_zero, List.getElem?_cons_succ, toAs, toA, toDs, toD, Bool.not_true, Bool.not_false, reduceIte, Bool.false_eq_true, if_false, if_true, o_add_int, o_sub_int, o_lt_int, o_gt_int, o_le_int, o_ge_int, o_eq_int, o_ne_int, o_eq_nil, o_ne_nil, o_eq_nilT, o_eq_bool, o_ne_bool, o_lt_str, o_ge_str, wp_ixT, wp_ixL, wp_ixS, wp_lenT, wp_lenL, wp_lenS, o_in_sign, wp_newF, wp_newT, wp_itemsV, wp_itemsT, wp_itemsS, wp_cutT, wp_cutLi, wp_cutSt, wp_zipTT, atI_0, atI_1, atI_2, atI_3, atI_4, wipeV]
      refine ⟨1, _, rfl, by omega, ?_⟩
      have hix : ∀ j : Nat, j < xs.length → ∃ x, xs[j]? = some x ∧ x = .str (txt (xs.getD j .none)) := fun j hj => by
        refine ⟨xs[j], List.getElem?_eq_getElem hj, ?_⟩
        rw [List.getD_eq_getElem?_getD, List.getElem?_eq_getElem hj]
        exact name_txt (hn' _ (List.getElem_mem hj))
      rw [comp_pure (p := fun e => match e with | .int i => !ltS (txt (xs.getD (i - 1).toNat .none)) (txt (xs.getD i.toNat .none)) | _ => false) (f := fun e => e)]
      · simp only [wp_seq, wp_skip, wp_ret, wp_drop, wp_set, wp_ifS, wp_par, wp_par3, wp_unp, wp_asg, wp_dput, wp_for, wp_getV, wp_cst, wp_bin, wp_asB, wp_notM, wp_andM, wp_orM, wp_andV, wp_orV, wp_notV, wp_ifM, wp_chn, wp_nilA, wp_consA, wp_callM, wp_callF, wp_tupM, wp_lstM, wp_ownM, wp_seqM, wp_methM, wp_lcM, wp_isiM, wp_isiN, wp_partN, wp_partS, wp_cutM, wp_rng1, wp_rng2, wp_negM, wp_revM, wp_dispM, wp_pnil, wp_pcons, wp_sortSetM, wp_run, wpF_ok, wpR_ok, wpR_bad, isB_b, isV_s, isS_s, isDic_d, wpF_ret, wpF_own, ob_l, ob_f, List.set_cons_zero, List.set_cons_succ, List.getElem?_cons_zero, List.getElem?_cons_succ, toAs, toA, toDs, toD, Bool.not_true, Bool.not_false, reduceIte, Bool.false_eq_true, if_false, if_true, o_add_int, o_sub_int, o_lt_int, o_gt_int, o_le_int, o_ge_int, o_eq_int, o_ne_int, o_eq_nil, o_ne_nil, o_eq_nilT, o_eq_bool, o_ne_bool, o_lt_str, o_ge_str, wp_ixT, wp_ixL, wp_ixS, wp_lenT, wp_lenL, wp_lenS, o_in_sign, wp_newF, wp_newT, wp_itemsV, wp_itemsT, wp_itemsS, wp_cutT, wp_cutLi, wp_cutSt, wp_zipTT, atI_0, atI_1, atI_2, atI_3, atI_4, List.map_id', setB, hn, Bool.true_and, wpF_ret]
        refine ⟨Nat.le_trans (List.length_filter_le _ _) (by unfold intsD; rw [List.length_map, List.length_range]; omega), by decide, ?_, by first | rfl | trivial⟩
        congr 2
        rw [Bool.eq_iff_iff, List.isEmpty_iff, List.filter_eq_nil_iff, rise_ix]
        constructor
        · intro hh j hj
          have := hh (.int (1 + (j : Nat))) (by
            unfold intsD
            exact List.mem_map.mpr ⟨j, List.mem_range.mpr (by omega), rfl⟩)
          have e1 : ((1 : Int) + (j : Int) - 1).toNat = j := by omega
          have e2 : ((1 : Int) + (j : Int)).toNat = j + 1 := by omega
          simp only [e1, e2, Bool.not_eq_true', Bool.not_eq_false] at this
          exact this
        · intro hh e he
          unfold intsD at he
          obtain ⟨j, hj, rfl⟩ := List.mem_map.mp he
          have hj := List.mem_range.mp hj
          have e1 : ((1 : Int) + (j : Int) - 1).toNat = j := by omega
          have e2 : ((1 : Int) + (j : Int)).toNat = j + 1 := by omega
          have := hh j (by omega)
          simp only [e1, e2, this]
          decide
      · intro e he
        unfold intsD at he
        obtain ⟨j, hj, rfl⟩ := List.mem_map.mp he
        have hj := List.mem_range.mp hj
        have e1 : ((1 : Int) + (j : Int) - 1) = (j : Nat) := by omega
        have e2 : ((1 : Int) + (j : Int)) = ((j + 1 : Nat) : Int) := by omega
        obtain ⟨x, hx1, hx2⟩ := hix j (by omega)
        obtain ⟨y, hy1, hy2⟩ := hix (j + 1) (by omega)
        refine ⟨wpR_eq ?_, fun _ => rfl⟩
        simp only [tgName, wp_seq, wp_skip, wp_ret, wp_drop, wp_set, wp_ifS, wp_par, wp_par3, wp_unp, wp_asg, wp_dput, wp_for, wp_getV, wp_cst, wp_bin, wp_asB, wp_notM, wp_andM, wp_orM, wp_andV, wp_orV, wp_notV, wp_ifM, wp_chn, wp_nilA, wp_consA, wp_callM, wp_callF, wp_tupM, wp_lstM, wp_ownM, wp_seqM, wp_methM, wp_lcM, wp_isiM, wp_isiN, wp_partN, wp_partS, wp_cutM, wp_rng1, wp_rng2, wp_negM, wp_revM, wp_dispM, wp_pnil, wp_pcons, wp_sortSetM, wp_run, wpF_ok, wpR_ok, wpR_bad, isB_b, isV_s, isS_s, isDic_d, wpF_ret, wpF_own, ob_l, ob_f, List.set_cons_zero, List.set_cons_succ, List.getElem?_cons_zero, List.getElem?_cons_succ, toAs, toA, toDs, toD, Bool.not_true, Bool.not_false, reduceIte, Bool.false_eq_true, if_false, if_true, o_add_int, o_sub_int, o_lt_int, o_gt_int, o_le_int, o_ge_int, o_eq_int, o_ne_int, o_eq_nil, o_ne_nil, o_eq_nilT, o_eq_bool, o_ne_bool, o_lt_str, o_ge_str, wp_ixT, wp_ixL, wp_ixS, wp_lenT, wp_lenL, wp_lenS, o_in_sign, wp_newF, wp_newT, wp_itemsV, wp_itemsT, wp_itemsS, wp_cutT, wp_cutLi, wp_cutSt, wp_zipTT, atI_0, atI_1, atI_2, atI_3, atI_4, e1]
        rw [atI_nat, hx1]
        simp only [wp_seq, wp_skip, wp_ret, wp_drop, wp_set, wp_ifS, wp_par, wp_par3, wp_unp, wp_asg, wp_dput, wp_for, wp_getV, wp_cst, wp_bin, wp_asB, wp_notM, wp_andM, wp_orM, wp_andV, wp_orV, wp_notV, wp_ifM, wp_chn, wp_nilA, wp_consA, wp_callM, wp_callF, wp_tupM, wp_lstM, wp_ownM, wp_seqM, wp_methM, wp_lcM, wp_isiM, wp_isiN, wp_partN, wp_partS, wp_cutM, wp_rng1, wp_rng2, wp_negM, wp_revM, wp_dispM, wp_pnil, wp_pcons, wp_sortSetM, wp_run, wpF_ok, wpR_ok, wpR_bad, isB_b, isV_s, isS_s, isDic_d, wpF_ret, wpF_own, ob_l, ob_f, List.set_cons_zero, List.set_cons_succ, List.getElem?_cons_zero, List.getElem?_cons_succ, toAs, toA, toDs, toD, Bool.not_true, Bool.not_false, reduceIte, Bool.false_eq_true, if_false, if_true, o_add_int, o_sub_int, o_lt_int, o_gt_int, o_le_int, o_ge_int, o_eq_int, o_ne_int, o_eq_nil, o_ne_nil, o_eq_nilT, o_eq_bool, o_ne_bool, o_lt_str, o_ge_str, wp_ixT, wp_ixL, wp_ixS, wp_lenT, wp_lenL, wp_lenS, o_in_sign, wp_newF, wp_newT, wp_itemsV, wp_itemsT, wp_itemsS, wp_cutT, wp_cutLi, wp_cutSt, wp_zipTT, atI_0, atI_1, atI_2, atI_3, atI_4]
        rw [e2, atI_nat, hy1]
        simp only [wp_seq, wp_skip, wp_ret, wp_drop, wp_set, wp_ifS, wp_par, wp_par3, wp_unp, wp_asg, wp_dput, wp_for, wp_getV, wp_cst, wp_bin, wp_asB, wp_notM, wp_andM, wp_orM, wp_andV, wp_orV, wp_notV, wp_ifM, wp_chn, wp_nilA, wp_consA, wp_callM, wp_callF, wp_tupM, wp_lstM, wp_ownM, wp_seqM, wp_methM, wp_lcM, wp_isiM, wp_isiN, wp_partN, wp_partS, wp_cutM, wp_rng1, wp_rng2, wp_negM, wp_revM, wp_dispM, wp_pnil, wp_pcons, wp_sortSetM, wp_run, wpF_ok, wpR_ok, wpR_bad, isB_b, isV_s, isS_s, isDic_d, wpF_ret, wpF_own, ob_l, ob_f, List.set_cons_zero, List.set_cons_succ, List.getElem?_cons_zero, List.getElem?_cons_succ, toAs, toA, toDs, toD, Bool.not_true, Bool.not_false, reduceIte, Bool.false_eq_true, if_false, if_true, o_add_int, o_sub_int, o_lt_int, o_gt_int, o_le_int, o_ge_int, o_eq_int, o_ne_int, o_eq_nil, o_ne_nil, o_eq_nilT, o_eq_bool, o_ne_bool, o_lt_str, o_ge_str, wp_ixT, wp_ixL, wp_ixS, wp_lenT, wp_lenL, wp_lenS, o_in_sign, wp_newF, wp_newT, wp_itemsV, wp_itemsT, wp_itemsS, wp_cutT, wp_cutLi, wp_cutSt, wp_zipTT, atI_0, atI_1, atI_2, atI_3, atI_4]
        rw [hx2, hy2]
        simp only [wp_seq, wp_skip, wp_ret, wp_drop, wp_set, wp_ifS, wp_par, wp_par3, wp_unp, wp_asg, wp_dput, wp_for, wp_getV, wp_cst, wp_bin, wp_asB, wp_notM, wp_andM, wp_orM, wp_andV, wp_orV, wp_notV, wp_ifM, wp_chn, wp_nilA, wp_consA, wp_callM, wp_callF, wp_tupM, wp_lstM, wp_ownM, wp_seqM, wp_methM, wp_lcM, wp_isiM, wp_isiN, wp_partN, wp_partS, wp_cutM, wp_rng1, wp_rng2, wp_negM, wp_revM, wp_dispM, wp_pnil, wp_pcons, wp_sortSetM, wp_run, wpF_ok, wpR_ok, wpR_bad, isB_b, isV_s, isS_s, isDic_d, wpF_ret, wpF_own, ob_l, ob_f, List.set_cons_zero, List.set_cons_succ, List.getElem?_cons_zero, List.getElem?_cons_succ, toAs, toA, toDs, toD, Bool.not_true, Bool.not_false, reduceIte, Bool.false_eq_true, if_false, if_true, o_add_int, o_sub_int, o_lt_int, o_gt_int, o_le_int, o_ge_int, o_eq_int, o_ne_int, o_eq_nil, o_ne_nil, o_eq_nilT, o_eq_bool, o_ne_bool, o_lt_str, o_ge_str, wp_ixT, wp_ixL, wp_ixS, wp_lenT, wp_lenL, wp_lenS, o_in_sign, wp_newF, wp_newT, wp_itemsV, wp_itemsT, wp_itemsS, wp_cutT, wp_cutLi, wp_cutSt, wp_zipTT, atI_0, atI_1, atI_2, atI_3, atI_4, Int.toNat_natCast]
        and_intros <;> first | rfl | trivial
  | _ => simp [setB, namesB, wpF_ret]
end
end RB.Law

end

/-! text KPure3 -/
section
set_option Elab.async false
set_option linter.all false
set_option maxRecDepth 100000
set_option maxHeartbeats 4000000
namespace RB.Law
open PySem PySem.Spec PyProof.Rows L2 RB
def lenIs (k : Int) : D → Bool
  | .tuple xs => decide ((xs.length : Int) = k)
  | _ => false
def sourceB : D → Bool
  | .tuple [a, b, c, d, e] => nameB a && nameB b && setB c && isBool d && setB e
  | _ => false
def partyB : D → Bool
  | .tuple [a, b] => nameB a && weightB b
  | _ => false
def isNil : D → Bool
  | .tuple [] => true
  | _ => false
def buildB : D → Bool
  | .tuple [a, b, c, d, e] => nameB a && nameB c && namesB d && nameB e && (if isNone b = true then isNil d else nameB b)
  | _ => false
def formB : D → Bool
  | .tuple [a, b, c, d] => isTuple a && isTuple b && isTuple c && isTuple d
  | _ => false
def bookB : D → Bool
  | .tuple [.tuple a, .tuple b, .tuple c, .tuple d] => a.all sourceB && b.all partyB && c.all pairB && d.all buildB
  | _ => false
section
variable {d : D} {n : Nat} (S : Sto)
theorem is_tuple_of_eq (k : Int) (h : okN n d = true) : f_is_tuple_of [.v d, .v (.int k)] S = .ok (.v (.bool (lenIs k d))) S := by
  apply wpF_eq
  show wpF (fnRun (m_is_tuple_of [some (.v d), some (.v (.int k))] [] S)) _
  simp only [m_is_tuple_of, wp_seq, wp_skip, wp_ret, wp_drop, wp_set, wp_ifS, wp_par, wp_par3, wp_unp, wp_asg, wp_dput, wp_for, wp_getV, wp_cst, wp_bin, wp_asB, wp_notM, wp_andM, wp_orM, wp_andV, wp_orV, wp_notV, wp_ifM, wp_chn, wp_nilA, wp_consA, wp_callM, wp_callF, wp_tupM, wp_lstM, wp_ownM, wp_seqM, wp_methM, wp_lcM, wp_isiM, wp_isiN, wp_partN, wp_partS, wp_cutM, wp_rng1, wp_rng2, wp_negM, wp_revM, wp_dispM, wp_pnil, wp_pcons, wp_sortSetM, wp_run, wpF_ok, wpR_ok, wpR_bad, isB_b, isV_s, isS_s, isDic_d, wpF_ret, wpF_own, ob_l, ob_f, List.set_cons_zero, List.set_cons_succ, List.getElem?_cons_zero, List.getElem?_cons_succ, toAs, toA, toDs, toD, Bool.not_true, Bool.not_false, reduceIte, Bool.false_eq_true, if_false, if_true, tyR_ok' h, isa_tuple h]
  cases d <;> simp [isTuple, lenIs, wpF_ret, wp_lenT, o_eq_int, wpR_ok]
theorem is_name_pair_eq (h : okN n d = true) : f_is_name_pair [.v d] S = .ok (.v (.bool (pairB d))) S := by
  apply wpF_eq
  show wpF (fnRun (m_is_name_pair [some (.v d)] [] S)) _
  simp only [m_is_name_pair, wp_seq, wp_skip, wp_ret, wp_drop, wp_set, wp_ifS, wp_par, wp_par3, wp_unp, wp_asg, wp_dput, wp_for, wp_getV, wp_cst, wp_bin, wp_asB, wp_notM, wp_andM, wp_orM, wp_andV, wp_orV, wp_notV, wp_ifM, wp_chn, wp_nilA, wp_consA, wp_callM, wp_callF, wp_tupM, wp_lstM, wp_ownM, wp_seqM, wp_methM, wp_lcM, wp_isiM, wp_isiN, wp_partN, wp_partS, wp_cutM, wp_rng1, wp_rng2, wp_negM, wp_revM, wp_dispM, wp_pnil, wp_pcons, wp_sortSetM, wp_run, wpF_ok, wpR_ok, wpR_bad, isB_b, isV_s, isS_s, isDic_d, wpF_ret, wpF_own, ob_l, ob_f, List.set_cons_zero, List.set_cons_succ, List.getElem?_cons_zero, List.getElem?_cons_succ, toAs, toA, toDs, toD, Bool.not_true, Bool.not_false, reduceIte, Bool.false_eq_true, if_false, if_true, are_names_eq S h]
  cases d with
  | tuple xs =>
    cases hn : xs.all nameB with
    | false => simp [pairB, namesB, hn, wpF_ret]
    | true =>
      have e : ((xs.length : Int) = 2) = (xs.length = 2) := propext (by omega)
      simp [pairB, namesB, hn, wpF_ret, wp_lenT, o_eq_int, wpR_ok, e]
  | _ => simp [pairB, namesB, wpF_ret]
theorem law_is_pair_eq (h : okN n d = true) : f__law_is_pair [.v d] S = .ok (.v (.bool (pairB d))) S := by
  apply wpF_eq
  show wpF (fnRun (m__law_is_pair [some (.v d)] [] S)) _
  simp only [m__law_is_pair, wp_seq, wp_skip, wp_ret, wp_drop, wp_set, wp_ifS, wp_par, wp_par3, wp_unp, wp_asg, wp_dput, wp_for, wp_getV, wp_cst, wp_bin, wp_asB, wp_notM, wp_andM, wp_orM, wp_andV, wp_orV, wp_notV, wp_ifM, wp_chn, wp_nilA, wp_consA, wp_callM, wp_callF, wp_tupM, wp_lstM, wp_ownM, wp_seqM, wp_methM, wp_lcM, wp_isiM, wp_isiN, wp_partN, wp_partS, wp_cutM, wp_rng1, wp_rng2, wp_negM, wp_revM, wp_dispM, wp_pnil, wp_pcons, wp_sortSetM, wp_run, wpF_ok, wpR_ok, wpR_bad, isB_b, isV_s, isS_s, isDic_d, wpF_ret, wpF_own, ob_l, ob_f, List.set_cons_zero, List.set_cons_succ, List.getElem?_cons_zero, List.getElem?_cons_succ, toAs, toA, toDs, toD, Bool.not_true, Bool.not_false, reduceIte, Bool.false_eq_true, if_false, if_true, law_are_names_eq S h]
  cases d with
  | tuple xs =>
    cases hn : xs.all nameB with
    | false => simp [pairB, namesB, hn, wpF_ret]
    | true =>
      have e : ((xs.length : Int) = 2) = (xs.length = 2) := propext (by omega)
      simp [pairB, namesB, hn, wpF_ret, wp_lenT, o_eq_int, wpR_ok, e]
  | _ => simp [pairB, namesB, wpF_ret]
theorem is_fact_eq (h : okN n d = true) : f_is_fact [.v d] S = .ok (.v (.bool (pairB d))) S := by
  apply wpF_eq
  show wpF (fnRun (m_is_fact [some (.v d)] [] S)) _
  simp only [m_is_fact, wp_seq, wp_skip, wp_ret, wp_drop, wp_set, wp_ifS, wp_par, wp_par3, wp_unp, wp_asg, wp_dput, wp_for, wp_getV, wp_cst, wp_bin, wp_asB, wp_notM, wp_andM, wp_orM, wp_andV, wp_orV, wp_notV, wp_ifM, wp_chn, wp_nilA, wp_consA, wp_callM, wp_callF, wp_tupM, wp_lstM, wp_ownM, wp_seqM, wp_methM, wp_lcM, wp_isiM, wp_isiN, wp_partN, wp_partS, wp_cutM, wp_rng1, wp_rng2, wp_negM, wp_revM, wp_dispM, wp_pnil, wp_pcons, wp_sortSetM, wp_run, wpF_ok, wpR_ok, wpR_bad, isB_b, isV_s, isS_s, isDic_d, wpF_ret, wpF_own, ob_l, ob_f, List.set_cons_zero, List.set_cons_succ, List.getElem?_cons_zero, List.getElem?_cons_succ, toAs, toA, toDs, toD, Bool.not_true, Bool.not_false, reduceIte, Bool.false_eq_true, if_false, if_true, is_name_pair_eq S h, wpF_ret]
  and_intros <;> first | rfl | trivial
theorem five {xs : List D} (h : (xs.length : Int) = 5) : ∃ a b c d e, xs = [a, b, c, d, e] := by
  match xs, h with
  | [a, b, c, d, e], _ => exact ⟨a, b, c, d, e, rfl⟩
  | [], h => simp at h
  | [_], h => simp at h
  | [_, _], h => simp at h
  | [_, _, _], h => simp at h
  | [_, _, _, _], h => simp at h
  | _ :: _ :: _ :: _ :: _ :: _ :: _, h => simp at h; omega
theorem four {xs : List D} (h : (xs.length : Int) = 4) : ∃ a b c d, xs = [a, b, c, d] := by
  match xs, h with
  | [a, b, c, d], _ => exact ⟨a, b, c, d, rfl⟩
  | [], h => simp at h
  | [_], h => simp at h
  | [_, _], h => simp at h
  | [_, _, _], h => simp at h
  | _ :: _ :: _ :: _ :: _ :: _, h => simp at h; omega
theorem two {xs : List D} (h : (xs.length : Int) = 2) : ∃ a b, xs = [a, b] := by
  match xs, h with
  | [a, b], _ => exact ⟨a, b, rfl⟩
  | [], h => simp at h
  | [_], h => simp at h
  | _ :: _ :: _ :: _, h => simp at h; omega
theorem no5 {xs : List D} (h : ¬ (xs.length : Int) = 5) : sourceB (.tuple xs) = false ∧ buildB (.tuple xs) = false := by
  constructor
  · unfold sourceB
    split
    · rename_i e; cases e; exact (h rfl).elim
    · rfl
  · unfold buildB
    split
    · rename_i e; cases e; exact (h rfl).elim
    · rfl
theorem no2 {xs : List D} (h : ¬ (xs.length : Int) = 2) : partyB (.tuple xs) = false := by
  unfold partyB
  split
  · rename_i e; cases e; exact (h rfl).elim
  · rfl
theorem no4 {xs : List D} (h : ¬ (xs.length : Int) = 4) : formB (.tuple xs) = false := by
  unfold formB
  split
  · rename_i e; cases e; exact (h rfl).elim
  · rfl
theorem is_source_eq (h : okN n d = true) : f_is_source [.v d] S = .ok (.v (.bool (sourceB d))) S := by
  apply wpF_eq
  show wpF (fnRun (m_is_source [some (.v d)] [] S)) _
  simp only [m_is_source, wp_seq, wp_skip, wp_ret, wp_drop, wp_set, wp_ifS, wp_par, wp_par3, wp_unp, wp_asg, wp_dput, wp_for, wp_getV, wp_cst, wp_bin, wp_asB, wp_notM, wp_andM, wp_orM, wp_andV, wp_orV, wp_notV, wp_ifM, wp_chn, wp_nilA, wp_consA, wp_callM, wp_callF, wp_tupM, wp_lstM, wp_ownM, wp_seqM, wp_methM, wp_lcM, wp_isiM, wp_isiN, wp_partN, wp_partS, wp_cutM, wp_rng1, wp_rng2, wp_negM, wp_revM, wp_dispM, wp_pnil, wp_pcons, wp_sortSetM, wp_run, wpF_ok, wpR_ok, wpR_bad, isB_b, isV_s, isS_s, isDic_d, wpF_ret, wpF_own, ob_l, ob_f, List.set_cons_zero, List.set_cons_succ, List.getElem?_cons_zero, List.getElem?_cons_succ, toAs, toA, toDs, toD, Bool.not_true, Bool.not_false, reduceIte, Bool.false_eq_true, if_false, if_true, is_tuple_of_eq S 5 h]
  cases d with
  | tuple xs =>
    obtain ⟨hl, k, rfl, hx⟩ := okN_tup h
    by_cases h5 : (xs.length : Int) = 5
    · obtain ⟨a, b, c, d, e, rfl⟩ := five h5
      have ha := hx a (by simp)
      have hb := hx b (by simp)
      have hc := hx c (by simp)
      have hd := hx d (by simp)
      have he := hx e (by simp)
      simp only [lenIs, h5, decide_true, wp_seq, wp_skip, wp_ret, wp_drop, wp_set, wp_ifS, wp_par, wp_par3, wp_unp, wp_asg, wp_dput, wp_for, wp_getV, wp_cst, wp_bin, wp_asB, wp_notM, wp_andM, wp_orM, wp_andV, wp_orV, wp_notV, wp_ifM, wp_chn, wp_nilA, wp_consA, wp_callM, wp_callF, wp_tupM, wp_lstM, wp_ownM, wp_seqM, wp_methM, wp_lcM, wp_isiM, wp_isiN, wp_partN, wp_partS, wp_cutM, wp_rng1, wp_rng2, wp_negM, wp_revM, wp_dispM, wp_pnil, wp_pcons, wp_sortSetM, wp_run, wpF_ok, wpR_ok, wpR_bad, isB_b, isV_s, isS_s, isDic_d, wpF_ret, wpF_own, ob_l, ob_f, List.set_cons_zero, List.set_cons_succ, List.getElem?_cons_zero, List.getElem?_cons_succ, toAs, toA, toDs, toD, Bool.not_true, Bool.not_false, reduceIte, Bool.false_eq_true, if_false, if_true, o_add_int, o_sub_int, o_lt_int, o_gt_int, o_le_int, o_ge_int, o_eq_int, o_ne_int, o_eq_nil, o_ne_nil, o_eq_nilT, o_eq_bool, o_ne_bool, o_lt_str, o_ge_str, wp_ixT, wp_ixL, wp_ixS, wp_lenT, wp_lenL, wp_lenS, o_in_sign, wp_newF, wp_newT, wp_itemsV, wp_itemsT, wp_itemsS, wp_cutT, wp_cutLi, wp_cutSt, wp_zipTT, atI_0, atI_1, atI_2, atI_3, atI_4, is_name_eq S ha, is_name_eq S hb, is_set_eq S hc, is_set_eq S he, tyR_ok' hd, isa_bool hd, sourceB]
      cases nameB a <;> cases nameB b <;> cases setB c <;> cases isBool d <;> simp [wpF_ret, wp_seq, wp_skip, wp_ret, wp_drop, wp_set, wp_ifS, wp_par, wp_par3, wp_unp, wp_asg, wp_dput, wp_for, wp_getV, wp_cst, wp_bin, wp_asB, wp_notM, wp_andM, wp_orM, wp_andV, wp_orV, wp_notV, wp_ifM, wp_chn, wp_nilA, wp_consA, wp_callM, wp_callF, wp_tupM, wp_lstM, wp_ownM, wp_seqM, wp_methM, wp_lcM, wp_isiM, wp_isiN, wp_partN, wp_partS, wp_cutM, wp_rng1, wp_rng2, wp_negM, wp_revM, wp_dispM, wp_pnil, wp_pcons, wp_sortSetM, wp_run, wpF_ok, wpR_ok, wpR_bad, isB_b, isV_s, isS_s, isDic_d, wpF_ret, wpF_own, ob_l, ob_f, List.set_cons_zero, List.set_cons_succ, List.getElem?_cons_zero, List.getElem?_cons_succ, toAs, toA, toDs, toD, Bool.not_true, Bool.not_false, reduceIte, Bool.false_eq_true, if_false, if_true]
    · simp [lenIs, h5, (no5 h5).1, wpF_ret]
  | _ => simp [lenIs, sourceB, wpF_ret]
theorem is_party_eq (h : okN n d = true) : f_is_party [.v d] S = .ok (.v (.bool (partyB d))) S := by
  apply wpF_eq
  show wpF (fnRun (m_is_party [some (.v d)] [] S)) _
  simp only [m_is_party, wp_seq, wp_skip, wp_ret, wp_drop, wp_set, wp_ifS, wp_par, wp_par3, wp_unp, wp_asg, wp_dput, wp_for, wp_getV, wp_cst, wp_bin, wp_asB, wp_notM, wp_andM, wp_orM, wp_andV, wp_orV, wp_notV, wp_ifM, wp_chn, wp_nilA, wp_consA, wp_callM, wp_callF, wp_tupM, wp_lstM, wp_ownM, wp_seqM, wp_methM, wp_lcM, wp_isiM, wp_isiN, wp_partN, wp_partS, wp_cutM, wp_rng1, wp_rng2, wp_negM, wp_revM, wp_dispM, wp_pnil, wp_pcons, wp_sortSetM, wp_run, wpF_ok, wpR_ok, wpR_bad, isB_b, isV_s, isS_s, isDic_d, wpF_ret, wpF_own, ob_l, ob_f, List.set_cons_zero, List.set_cons_succ, List.getElem?_cons_zero, List.getElem?_cons_succ, toAs, toA, toDs, toD, Bool.not_true, Bool.not_false, reduceIte, Bool.false_eq_true, if_false, if_true, is_tuple_of_eq S 2 h]
  cases d with
  | tuple xs =>
    obtain ⟨hl, k, rfl, hx⟩ := okN_tup h
    by_cases h5 : (xs.length : Int) = 2
    · obtain ⟨a, b, rfl⟩ := two h5
      have ha := hx a (by simp)
      have hb := hx b (by simp)
      simp only [lenIs, h5, decide_true, wp_seq, wp_skip, wp_ret, wp_drop, wp_set, wp_ifS, wp_par, wp_par3, wp_unp, wp_asg, wp_dput, wp_for, wp_getV, wp_cst, wp_bin, wp_asB, wp_notM, wp_andM, wp_orM, wp_andV, wp_orV, wp_notV, wp_ifM, wp_chn, wp_nilA, wp_consA, wp_callM, wp_callF, wp_tupM, wp_lstM, wp_ownM, wp_seqM, wp_methM, wp_lcM, wp_isiM, wp_isiN, wp_partN, wp_partS, wp_cutM, wp_rng1, wp_rng2, wp_negM, wp_revM, wp_dispM, wp_pnil, wp_pcons, wp_sortSetM, wp_run, wpF_ok, wpR_ok, wpR_bad, isB_b, isV_s, isS_s, isDic_d, wpF_ret, wpF_own, ob_l, ob_f, List.set_cons_zero, List.set_cons_succ, List.getElem?_cons_zero, List.getElem?_cons_succ, toAs, toA, toDs, toD, Bool.not_true, Bool.not_false, reduceIte, Bool.false_eq_true, if_false, if_true, o_add_int, o_sub_int, o_lt_int, o_gt_int, o_le_int, o_ge_int, o_eq_int, o_ne_int, o_eq_nil, o_ne_nil, o_eq_nilT, o_eq_bool, o_ne_bool, o_lt_str, o_ge_str, wp_ixT, wp_ixL, wp_ixS, wp_lenT, wp_lenL, wp_lenS, o_in_sign, wp_newF, wp_newT, wp_itemsV, wp_itemsT, wp_itemsS, wp_cutT, wp_cutLi, wp_cutSt, wp_zipTT, atI_0, atI_1, atI_2, atI_3, atI_4, is_name_eq S ha, is_weight_eq S hb, partyB]
      cases nameB a <;> simp [wpF_ret, wp_seq, wp_skip, wp_ret, wp_drop, wp_set, wp_ifS, wp_par, wp_par3, wp_unp, wp_asg, wp_dput, wp_for, wp_getV, wp_cst, wp_bin, wp_asB, wp_notM, wp_andM, wp_orM, wp_andV, wp_orV, wp_notV, wp_ifM, wp_chn, wp_nilA, wp_consA, wp_callM, wp_callF, wp_tupM, wp_lstM, wp_ownM, wp_seqM, wp_methM, wp_lcM, wp_isiM, wp_isiN, wp_partN, wp_partS, wp_cutM, wp_rng1, wp_rng2, wp_negM, wp_revM, wp_dispM, wp_pnil, wp_pcons, wp_sortSetM, wp_run, wpF_ok, wpR_ok, wpR_bad, isB_b, isV_s, isS_s, isDic_d, wpF_ret, wpF_own, ob_l, ob_f, List.set_cons_zero, List.set_cons_succ, List.getElem?_cons_zero, List.getElem?_cons_succ, toAs, toA, toDs, toD, Bool.not_true, Bool.not_false, reduceIte, Bool.false_eq_true, if_false, if_true]
    · simp [lenIs, h5, no2 h5, wpF_ret]
  | _ => simp [lenIs, partyB, wpF_ret]
theorem isN_d (d : D) (T S : Sto) : isN false (.v d) (.v .none) T S = .ok (.v (.bool (isNone d))) T S := by cases d <;> rfl
theorem names_len {d : D} (h : namesB d = true) : ∃ xs, d = .tuple xs := by
  cases d <;> first | exact ⟨_, rfl⟩ | cases h
theorem is_build_eq (h : okN n d = true) : f_is_build [.v d] S = .ok (.v (.bool (buildB d))) S := by
  apply wpF_eq
  show wpF (fnRun (m_is_build [some (.v d)] [] S)) _
  simp only [m_is_build, wp_seq, wp_skip, wp_ret, wp_drop, wp_set, wp_ifS, wp_par, wp_par3, wp_unp, wp_asg, wp_dput, wp_for, wp_getV, wp_cst, wp_bin, wp_asB, wp_notM, wp_andM, wp_orM, wp_andV, wp_orV, wp_notV, wp_ifM, wp_chn, wp_nilA, wp_consA, wp_callM, wp_callF, wp_tupM, wp_lstM, wp_ownM, wp_seqM, wp_methM, wp_lcM, wp_isiM, wp_isiN, wp_partN, wp_partS, wp_cutM, wp_rng1, wp_rng2, wp_negM, wp_revM, wp_dispM, wp_pnil, wp_pcons, wp_sortSetM, wp_run, wpF_ok, wpR_ok, wpR_bad, isB_b, isV_s, isS_s, isDic_d, wpF_ret, wpF_own, ob_l, ob_f, List.set_cons_zero, List.set_cons_succ, List.getElem?_cons_zero, List.getElem?_cons_succ, toAs, toA, toDs, toD, Bool.not_true, Bool.not_false, reduceIte, Bool.false_eq_true, if_false, if_true, is_tuple_of_eq S 5 h]
  cases d with
  | tuple xs =>
    obtain ⟨hl, k, rfl, hx⟩ := okN_tup h
    by_cases h5 : (xs.length : Int) = 5
    · obtain ⟨a, b, c, d, e, rfl⟩ := five h5
      have ha := hx a (by simp)
      have hb := hx b (by simp)
      have hc := hx c (by simp)
      have hd := hx d (by simp)
      have he := hx e (by simp)
      simp only [lenIs, h5, decide_true, wp_seq, wp_skip, wp_ret, wp_drop, wp_set, wp_ifS, wp_par, wp_par3, wp_unp, wp_asg, wp_dput, wp_for, wp_getV, wp_cst, wp_bin, wp_asB, wp_notM, wp_andM, wp_orM, wp_andV, wp_orV, wp_notV, wp_ifM, wp_chn, wp_nilA, wp_consA, wp_callM, wp_callF, wp_tupM, wp_lstM, wp_ownM, wp_seqM, wp_methM, wp_lcM, wp_isiM, wp_isiN, wp_partN, wp_partS, wp_cutM, wp_rng1, wp_rng2, wp_negM, wp_revM, wp_dispM, wp_pnil, wp_pcons, wp_sortSetM, wp_run, wpF_ok, wpR_ok, wpR_bad, isB_b, isV_s, isS_s, isDic_d, wpF_ret, wpF_own, ob_l, ob_f, List.set_cons_zero, List.set_cons_succ, List.getElem?_cons_zero, List.getElem?_cons_succ, toAs, toA, toDs, toD, Bool.not_true, Bool.not_false, reduceIte, Bool.false_eq_true, if_false, if_true, o_add_int, o_sub_int, o_lt_int, o_gt_int, o_le_int, o_ge_int, o_eq_int, o_ne_int, o_eq_nil, o_ne_nil, o_eq_nilT, o_eq_bool, o_ne_bool, o_lt_str, o_ge_str, wp_ixT, wp_ixL, wp_ixS, wp_lenT, wp_lenL, wp_lenS, o_in_sign, wp_newF, wp_newT, wp_itemsV, wp_itemsT, wp_itemsS, wp_cutT, wp_cutLi, wp_cutSt, wp_zipTT, atI_0, atI_1, atI_2, atI_3, atI_4, is_name_eq S ha, is_name_eq S hc, are_names_eq S hd, is_name_eq S he, is_name_eq S hb, isN_d, buildB]
      cases nameB a <;> cases nameB c <;> cases hnd : namesB d <;> cases nameB e <;> simp only [wpF_ret, wp_seq, wp_skip, wp_ret, wp_drop, wp_set, wp_ifS, wp_par, wp_par3, wp_unp, wp_asg, wp_dput, wp_for, wp_getV, wp_cst, wp_bin, wp_asB, wp_notM, wp_andM, wp_orM, wp_andV, wp_orV, wp_notV, wp_ifM, wp_chn, wp_nilA, wp_consA, wp_callM, wp_callF, wp_tupM, wp_lstM, wp_ownM, wp_seqM, wp_methM, wp_lcM, wp_isiM, wp_isiN, wp_partN, wp_partS, wp_cutM, wp_rng1, wp_rng2, wp_negM, wp_revM, wp_dispM, wp_pnil, wp_pcons, wp_sortSetM, wp_run, wpF_ok, wpR_ok, wpR_bad, isB_b, isV_s, isS_s, isDic_d, wpF_ret, wpF_own, ob_l, ob_f, List.set_cons_zero, List.set_cons_succ, List.getElem?_cons_zero, List.getElem?_cons_succ, toAs, toA, toDs, toD, Bool.not_true, Bool.not_false, reduceIte, Bool.false_eq_true, if_false, if_true, Bool.and_true, Bool.and_false, Bool.false_and, Bool.true_and] <;> try (and_intros <;> first | rfl | trivial)
      obtain ⟨ys, rfl⟩ := names_len hnd
      cases isNone b with
      | false => simp only [wp_seq, wp_skip, wp_ret, wp_drop, wp_set, wp_ifS, wp_par, wp_par3, wp_unp, wp_asg, wp_dput, wp_for, wp_getV, wp_cst, wp_bin, wp_asB, wp_notM, wp_andM, wp_orM, wp_andV, wp_orV, wp_notV, wp_ifM, wp_chn, wp_nilA, wp_consA, wp_callM, wp_callF, wp_tupM, wp_lstM, wp_ownM, wp_seqM, wp_methM, wp_lcM, wp_isiM, wp_isiN, wp_partN, wp_partS, wp_cutM, wp_rng1, wp_rng2, wp_negM, wp_revM, wp_dispM, wp_pnil, wp_pcons, wp_sortSetM, wp_run, wpF_ok, wpR_ok, wpR_bad, isB_b, isV_s, isS_s, isDic_d, wpF_ret, wpF_own, ob_l, ob_f, List.set_cons_zero, List.set_cons_succ, List.getElem?_cons_zero, List.getElem?_cons_succ, toAs, toA, toDs, toD, Bool.not_true, Bool.not_false, reduceIte, Bool.false_eq_true, if_false, if_true, wpF_ret]; and_intros <;> first | rfl | trivial
      | true =>
        simp only [wp_seq, wp_skip, wp_ret, wp_drop, wp_set, wp_ifS, wp_par, wp_par3, wp_unp, wp_asg, wp_dput, wp_for, wp_getV, wp_cst, wp_bin, wp_asB, wp_notM, wp_andM, wp_orM, wp_andV, wp_orV, wp_notV, wp_ifM, wp_chn, wp_nilA, wp_consA, wp_callM, wp_callF, wp_tupM, wp_lstM, wp_ownM, wp_seqM, wp_methM, wp_lcM, wp_isiM, wp_isiN, wp_partN, wp_partS, wp_cutM, wp_rng1, wp_rng2, wp_negM, wp_revM, wp_dispM, wp_pnil, wp_pcons, wp_sortSetM, wp_run, wpF_ok, wpR_ok, wpR_bad, isB_b, isV_s, isS_s, isDic_d, wpF_ret, wpF_own, ob_l, ob_f, List.set_cons_zero, List.set_cons_succ, List.getElem?_cons_zero, List.getElem?_cons_succ, toAs, toA, toDs, toD, Bool.not_true, Bool.not_false, reduceIte, Bool.false_eq_true, if_false, if_true, o_add_int, o_sub_int, o_lt_int, o_gt_int, o_le_int, o_ge_int, o_eq_int, o_ne_int, o_eq_nil, o_ne_nil, o_eq_nilT, o_eq_bool, o_ne_bool, o_lt_str, o_ge_str, wp_ixT, wp_ixL, wp_ixS, wp_lenT, wp_lenL, wp_lenS, o_in_sign, wp_newF, wp_newT, wp_itemsV, wp_itemsT, wp_itemsS, wp_cutT, wp_cutLi, wp_cutSt, wp_zipTT, atI_0, atI_1, atI_2, atI_3, atI_4, wpF_ret]
        refine ⟨?_, by first | rfl | trivial⟩
        cases ys with
        | nil => rfl
        | cons y ys =>
          have : ¬ (((y :: ys).length : Int) = 0) := by rw [List.length_cons]; omega
          simp [isNil, this]
          omega
    · simp [lenIs, h5, (no5 h5).2, wpF_ret]
  | _ => simp [lenIs, buildB, wpF_ret]
theorem is_form_eq (h : okN n d = true) : f_is_form [.v d] S = .ok (.v (.bool (formB d))) S := by
  apply wpF_eq
  show wpF (fnRun (m_is_form [some (.v d), none] [] S)) _
  simp only [m_is_form, wp_seq, wp_skip, wp_ret, wp_drop, wp_set, wp_ifS, wp_par, wp_par3, wp_unp, wp_asg, wp_dput, wp_for, wp_getV, wp_cst, wp_bin, wp_asB, wp_notM, wp_andM, wp_orM, wp_andV, wp_orV, wp_notV, wp_ifM, wp_chn, wp_nilA, wp_consA, wp_callM, wp_callF, wp_tupM, wp_lstM, wp_ownM, wp_seqM, wp_methM, wp_lcM, wp_isiM, wp_isiN, wp_partN, wp_partS, wp_cutM, wp_rng1, wp_rng2, wp_negM, wp_revM, wp_dispM, wp_pnil, wp_pcons, wp_sortSetM, wp_run, wpF_ok, wpR_ok, wpR_bad, isB_b, isV_s, isS_s, isDic_d, wpF_ret, wpF_own, ob_l, ob_f, List.set_cons_zero, List.set_cons_succ, List.getElem?_cons_zero, List.getElem?_cons_succ, toAs, toA, toDs, toD, Bool.not_true, Bool.not_false, reduceIte, Bool.false_eq_true, if_false, if_true, is_tuple_of_eq S 4 h]
  cases d with
  | tuple xs =>
    obtain ⟨hl, k, rfl, hx⟩ := okN_tup h
    by_cases h5 : (xs.length : Int) = 4
    · simp only [lenIs, h5, decide_true, wp_seq, wp_skip, wp_ret, wp_drop, wp_set, wp_ifS, wp_par, wp_par3, wp_unp, wp_asg, wp_dput, wp_for, wp_getV, wp_cst, wp_bin, wp_asB, wp_notM, wp_andM, wp_orM, wp_andV, wp_orV, wp_notV, wp_ifM, wp_chn, wp_nilA, wp_consA, wp_callM, wp_callF, wp_tupM, wp_lstM, wp_ownM, wp_seqM, wp_methM, wp_lcM, wp_isiM, wp_isiN, wp_partN, wp_partS, wp_cutM, wp_rng1, wp_rng2, wp_negM, wp_revM, wp_dispM, wp_pnil, wp_pcons, wp_sortSetM, wp_run, wpF_ok, wpR_ok, wpR_bad, isB_b, isV_s, isS_s, isDic_d, wpF_ret, wpF_own, ob_l, ob_f, List.set_cons_zero, List.set_cons_succ, List.getElem?_cons_zero, List.getElem?_cons_succ, toAs, toA, toDs, toD, Bool.not_true, Bool.not_false, reduceIte, Bool.false_eq_true, if_false, if_true, o_add_int, o_sub_int, o_lt_int, o_gt_int, o_le_int, o_ge_int, o_eq_int, o_ne_int, o_eq_nil, o_ne_nil, o_eq_nilT, o_eq_bool, o_ne_bool, o_lt_str, o_ge_str, wp_ixT, wp_ixL, wp_ixS, wp_lenT, wp_lenL, wp_lenS, o_in_sign, wp_newF, wp_newT, wp_itemsV, wp_itemsT, wp_itemsS, wp_cutT, wp_cutLi, wp_cutSt, wp_zipTT, atI_0, atI_1, atI_2, atI_3, atI_4, wipeV]
      rw [comp_map fun e => .bool (isTuple e)]
      · simp only [wp_seq, wp_skip, wp_ret, wp_drop, wp_set, wp_ifS, wp_par, wp_par3, wp_unp, wp_asg, wp_dput, wp_for, wp_getV, wp_cst, wp_bin, wp_asB, wp_notM, wp_andM, wp_orM, wp_andV, wp_orV, wp_notV, wp_ifM, wp_chn, wp_nilA, wp_consA, wp_callM, wp_callF, wp_tupM, wp_lstM, wp_ownM, wp_seqM, wp_methM, wp_lcM, wp_isiM, wp_isiN, wp_partN, wp_partS, wp_cutM, wp_rng1, wp_rng2, wp_negM, wp_revM, wp_dispM, wp_pnil, wp_pcons, wp_sortSetM, wp_run, wpF_ok, wpR_ok, wpR_bad, isB_b, isV_s, isS_s, isDic_d, wpF_ret, wpF_own, ob_l, ob_f, List.set_cons_zero, List.set_cons_succ, List.getElem?_cons_zero, List.getElem?_cons_succ, toAs, toA, toDs, toD, Bool.not_true, Bool.not_false, reduceIte, Bool.false_eq_true, if_false, if_true, o_add_int, o_sub_int, o_lt_int, o_gt_int, o_le_int, o_ge_int, o_eq_int, o_ne_int, o_eq_nil, o_ne_nil, o_eq_nilT, o_eq_bool, o_ne_bool, o_lt_str, o_ge_str, wp_ixT, wp_ixL, wp_ixS, wp_lenT, wp_lenL, wp_lenS, o_in_sign, wp_newF, wp_newT, wp_itemsV, wp_itemsT, wp_itemsS, wp_cutT, wp_cutLi, wp_cutSt, wp_zipTT, atI_0, atI_1, atI_2, atI_3, atI_4, List.length_map, wp_all, wpF_ret]
        obtain ⟨a, b, c, d, rfl⟩ := four h5
        refine ⟨by omega, ?_, by first | rfl | trivial⟩
        simp [formB, Bool.and_assoc]
      · intro e he
        apply wpR_eq
        simp only [wp_seq, wp_skip, wp_ret, wp_drop, wp_set, wp_ifS, wp_par, wp_par3, wp_unp, wp_asg, wp_dput, wp_for, wp_getV, wp_cst, wp_bin, wp_asB, wp_notM, wp_andM, wp_orM, wp_andV, wp_orV, wp_notV, wp_ifM, wp_chn, wp_nilA, wp_consA, wp_callM, wp_callF, wp_tupM, wp_lstM, wp_ownM, wp_seqM, wp_methM, wp_lcM, wp_isiM, wp_isiN, wp_partN, wp_partS, wp_cutM, wp_rng1, wp_rng2, wp_negM, wp_revM, wp_dispM, wp_pnil, wp_pcons, wp_sortSetM, wp_run, wpF_ok, wpR_ok, wpR_bad, isB_b, isV_s, isS_s, isDic_d, wpF_ret, wpF_own, ob_l, ob_f, List.set_cons_zero, List.set_cons_succ, List.getElem?_cons_zero, List.getElem?_cons_succ, toAs, toA, toDs, toD, Bool.not_true, Bool.not_false, reduceIte, Bool.false_eq_true, if_false, if_true, tyR_ok' (hx e he), isa_tuple (hx e he)]
        and_intros <;> first | rfl | trivial
    · simp [lenIs, h5, no4 h5, wpF_ret]
  | _ => simp [lenIs, formB, wpF_ret]
theorem tup_of {d : D} (h : isTuple d = true) : ∃ xs, d = .tuple xs := by
  cases d <;> first | exact ⟨_, rfl⟩ | cases h
theorem noBook {a b c d : D} (h : (isTuple a && isTuple b && isTuple c && isTuple d) = false) : bookB (.tuple [a, b, c, d]) = false := by
  unfold bookB
  split
  · rename_i e; cases e; cases h
  · rfl
theorem noBook2 {d : D} (h : formB d = false) : bookB d = false := by
  unfold bookB
  split
  · cases h
  · rfl
theorem form_of {d : D} (h : formB d = true) : ∃ a b c e, d = .tuple [.tuple a, .tuple b, .tuple c, .tuple e] := by
  unfold formB at h
  split at h
  · rename_i a b c e
    simp only [Bool.and_eq_true] at h
    obtain ⟨⟨⟨h1, h2⟩, h3⟩, h4⟩ := h
    obtain ⟨x1, rfl⟩ := tup_of h1
    obtain ⟨x2, rfl⟩ := tup_of h2
    obtain ⟨x3, rfl⟩ := tup_of h3
    obtain ⟨x4, rfl⟩ := tup_of h4
    exact ⟨_, _, _, _, rfl⟩
  · cases h
theorem is_book_eq (h : okN n d = true) : f_is_book [.v d] S = .ok (.v (.bool (bookB d))) S := by
  apply wpF_eq
  show wpF (fnRun (m_is_book [some (.v d), none, none, none, none, none] [] S)) _
  simp only [m_is_book, wp_seq, wp_skip, wp_ret, wp_drop, wp_set, wp_ifS, wp_par, wp_par3, wp_unp, wp_asg, wp_dput, wp_for, wp_getV, wp_cst, wp_bin, wp_asB, wp_notM, wp_andM, wp_orM, wp_andV, wp_orV, wp_notV, wp_ifM, wp_chn, wp_nilA, wp_consA, wp_callM, wp_callF, wp_tupM, wp_lstM, wp_ownM, wp_seqM, wp_methM, wp_lcM, wp_isiM, wp_isiN, wp_partN, wp_partS, wp_cutM, wp_rng1, wp_rng2, wp_negM, wp_revM, wp_dispM, wp_pnil, wp_pcons, wp_sortSetM, wp_run, wpF_ok, wpR_ok, wpR_bad, isB_b, isV_s, isS_s, isDic_d, wpF_ret, wpF_own, ob_l, ob_f, List.set_cons_zero, List.set_cons_succ, List.getElem?_cons_zero, List.getElem?_cons_succ, toAs, toA, toDs, toD, Bool.not_true, Bool.not_false, reduceIte, Bool.false_eq_true, if_false, if_true, is_form_eq S h]
  cases hf : formB d with
  | false => simp [noBook2 hf, wpF_ret]
  | true =>
    obtain ⟨a, b, c, e, rfl⟩ := form_of hf
    obtain ⟨_, k, rfl, hx⟩ := okN_tup h
    obtain ⟨la, k1, rfl, ha⟩ := okN_tup (hx (.tuple a) (by simp))
    obtain ⟨lb, k2, e2, hb⟩ := okN_tup (hx (.tuple b) (by simp))
    obtain ⟨lc, k3, e3, hc⟩ := okN_tup (hx (.tuple c) (by simp))
    obtain ⟨le, k4, e4, he⟩ := okN_tup (hx (.tuple e) (by simp))
    simp only [wp_seq, wp_skip, wp_ret, wp_drop, wp_set, wp_ifS, wp_par, wp_par3, wp_unp, wp_asg, wp_dput, wp_for, wp_getV, wp_cst, wp_bin, wp_asB, wp_notM, wp_andM, wp_orM, wp_andV, wp_orV, wp_notV, wp_ifM, wp_chn, wp_nilA, wp_consA, wp_callM, wp_callF, wp_tupM, wp_lstM, wp_ownM, wp_seqM, wp_methM, wp_lcM, wp_isiM, wp_isiN, wp_partN, wp_partS, wp_cutM, wp_rng1, wp_rng2, wp_negM, wp_revM, wp_dispM, wp_pnil, wp_pcons, wp_sortSetM, wp_run, wpF_ok, wpR_ok, wpR_bad, isB_b, isV_s, isS_s, isDic_d, wpF_ret, wpF_own, ob_l, ob_f, List.set_cons_zero, List.set_cons_succ, List.getElem?_cons_zero, List.getElem?_cons_succ, toAs, toA, toDs, toD, Bool.not_true, Bool.not_false, reduceIte, Bool.false_eq_true, if_false, if_true, o_add_int, o_sub_int, o_lt_int, o_gt_int, o_le_int, o_ge_int, o_eq_int, o_ne_int, o_eq_nil, o_ne_nil, o_eq_nilT, o_eq_bool, o_ne_bool, o_lt_str, o_ge_str, wp_ixT, wp_ixL, wp_ixS, wp_lenT, wp_lenL, wp_lenS, o_in_sign, wp_newF, wp_newT, wp_itemsV, wp_itemsT, wp_itemsS, wp_cutT, wp_cutLi, wp_cutSt, wp_zipTT, atI_0, atI_1, atI_2, atI_3, atI_4, tgTup, tgsCons, tgName, tgsNil, Option.bind, List.length_cons, List.length_nil, wipeV]
    rw [comp_call (p := sourceB) (by simp) fun x hx' => is_source_eq S (ha x hx')]
    simp only [wp_seq, wp_skip, wp_ret, wp_drop, wp_set, wp_ifS, wp_par, wp_par3, wp_unp, wp_asg, wp_dput, wp_for, wp_getV, wp_cst, wp_bin, wp_asB, wp_notM, wp_andM, wp_orM, wp_andV, wp_orV, wp_notV, wp_ifM, wp_chn, wp_nilA, wp_consA, wp_callM, wp_callF, wp_tupM, wp_lstM, wp_ownM, wp_seqM, wp_methM, wp_lcM, wp_isiM, wp_isiN, wp_partN, wp_partS, wp_cutM, wp_rng1, wp_rng2, wp_negM, wp_revM, wp_dispM, wp_pnil, wp_pcons, wp_sortSetM, wp_run, wpF_ok, wpR_ok, wpR_bad, isB_b, isV_s, isS_s, isDic_d, wpF_ret, wpF_own, ob_l, ob_f, List.set_cons_zero, List.set_cons_succ, List.getElem?_cons_zero, List.getElem?_cons_succ, toAs, toA, toDs, toD, Bool.not_true, Bool.not_false, reduceIte, Bool.false_eq_true, if_false, if_true, o_add_int, o_sub_int, o_lt_int, o_gt_int, o_le_int, o_ge_int, o_eq_int, o_ne_int, o_eq_nil, o_ne_nil, o_eq_nilT, o_eq_bool, o_ne_bool, o_lt_str, o_ge_str, wp_ixT, wp_ixL, wp_ixS, wp_lenT, wp_lenL, wp_lenS, o_in_sign, wp_newF, wp_newT, wp_itemsV, wp_itemsT, wp_itemsS, wp_cutT, wp_cutLi, wp_cutSt, wp_zipTT, atI_0, atI_1, atI_2, atI_3, atI_4, List.length_map, wp_all, bookB]
    refine ⟨by omega, ?_⟩
    cases a.all sourceB with
    | false => simp [wpF_ret]
    | true =>
      simp only [wp_seq, wp_skip, wp_ret, wp_drop, wp_set, wp_ifS, wp_par, wp_par3, wp_unp, wp_asg, wp_dput, wp_for, wp_getV, wp_cst, wp_bin, wp_asB, wp_notM, wp_andM, wp_orM, wp_andV, wp_orV, wp_notV, wp_ifM, wp_chn, wp_nilA, wp_consA, wp_callM, wp_callF, wp_tupM, wp_lstM, wp_ownM, wp_seqM, wp_methM, wp_lcM, wp_isiM, wp_isiN, wp_partN, wp_partS, wp_cutM, wp_rng1, wp_rng2, wp_negM, wp_revM, wp_dispM, wp_pnil, wp_pcons, wp_sortSetM, wp_run, wpF_ok, wpR_ok, wpR_bad, isB_b, isV_s, isS_s, isDic_d, wpF_ret, wpF_own, ob_l, ob_f, List.set_cons_zero, List.set_cons_succ, List.getElem?_cons_zero, List.getElem?_cons_succ, toAs, toA, toDs, toD, Bool.not_true, Bool.not_false, reduceIte, Bool.false_eq_true, if_false, if_true, o_add_int, o_sub_int, o_lt_int, o_gt_int, o_le_int, o_ge_int, o_eq_int, o_ne_int, o_eq_nil, o_ne_nil, o_eq_nilT, o_eq_bool, o_ne_bool, o_lt_str, o_ge_str, wp_ixT, wp_ixL, wp_ixS, wp_lenT, wp_lenL, wp_lenS, o_in_sign, wp_newF, wp_newT, wp_itemsV, wp_itemsT, wp_itemsS, wp_cutT, wp_cutLi, wp_cutSt, wp_zipTT, atI_0, atI_1, atI_2, atI_3, atI_4]
      rw [comp_call (p := partyB) (by simp) fun x hx' => is_party_eq S (hb x hx')]
      simp only [wp_seq, wp_skip, wp_ret, wp_drop, wp_set, wp_ifS, wp_par, wp_par3, wp_unp, wp_asg, wp_dput, wp_for, wp_getV, wp_cst, wp_bin, wp_asB, wp_notM, wp_andM, wp_orM, wp_andV, wp_orV, wp_notV, wp_ifM, wp_chn, wp_nilA, wp_consA, wp_callM, wp_callF, wp_tupM, wp_lstM, wp_ownM, wp_seqM, wp_methM, wp_lcM, wp_isiM, wp_isiN, wp_partN, wp_partS, wp_cutM, wp_rng1, wp_rng2, wp_negM, wp_revM, wp_dispM, wp_pnil, wp_pcons, wp_sortSetM, wp_run, wpF_ok, wpR_ok, wpR_bad, isB_b, isV_s, isS_s, isDic_d, wpF_ret, wpF_own, ob_l, ob_f, List.set_cons_zero, List.set_cons_succ, List.getElem?_cons_zero, List.getElem?_cons_succ, toAs, toA, toDs, toD, Bool.not_true, Bool.not_false, reduceIte, Bool.false_eq_true, if_false, if_true, o_add_int, o_sub_int, o_lt_int, o_gt_int, o_le_int, o_ge_int, o_eq_int, o_ne_int, o_eq_nil, o_ne_nil, o_eq_nilT, o_eq_bool, o_ne_bool, o_lt_str, o_ge_str, wp_ixT, wp_ixL, wp_ixS, wp_lenT, wp_lenL, wp_lenS, o_in_sign, wp_newF, wp_newT, wp_itemsV, wp_itemsT, wp_itemsS, wp_cutT, wp_cutLi, wp_cutSt, wp_zipTT, atI_0, atI_1, atI_2, atI_3, atI_4, List.length_map, wp_all]
      refine ⟨by omega, ?_⟩
      cases b.all partyB with
      | false => simp [wpF_ret]
      | true =>
        simp only [wp_seq, wp_skip, wp_ret, wp_drop, wp_set, wp_ifS, wp_par, wp_par3, wp_unp, wp_asg, wp_dput, wp_for, wp_getV, wp_cst, wp_bin, wp_asB, wp_notM, wp_andM, wp_orM, wp_andV, wp_orV, wp_notV, wp_ifM, wp_chn, wp_nilA, wp_consA, wp_callM, wp_callF, wp_tupM, wp_lstM, wp_ownM, wp_seqM, wp_methM, wp_lcM, wp_isiM, wp_isiN, wp_partN, wp_partS, wp_cutM, wp_rng1, wp_rng2, wp_negM, wp_revM, wp_dispM, wp_pnil, wp_pcons, wp_sortSetM, wp_run, wpF_ok, wpR_ok, wpR_bad, isB_b, isV_s, isS_s, isDic_d, wpF_ret, wpF_own, ob_l, ob_f, List.set_cons_zero, List.set_cons_succ, List.getElem?_cons_zero, List.getElem?_cons_succ, toAs, toA, toDs, toD, Bool.not_true, Bool.not_false, reduceIte, Bool.false_eq_true, if_false, if_true, o_add_int, o_sub_int, o_lt_int, o_gt_int, o_le_int, o_ge_int, o_eq_int, o_ne_int, o_eq_nil, o_ne_nil, o_eq_nilT, o_eq_bool, o_ne_bool, o_lt_str, o_ge_str, wp_ixT, wp_ixL, wp_ixS, wp_lenT, wp_lenL, wp_lenS, o_in_sign, wp_newF, wp_newT, wp_itemsV, wp_itemsT, wp_itemsS, wp_cutT, wp_cutLi, wp_cutSt, wp_zipTT, atI_0, atI_1, atI_2, atI_3, atI_4]
        rw [comp_call (p := pairB) (by simp) fun x hx' => is_name_pair_eq S (hc x hx')]
        simp only [wp_seq, wp_skip, wp_ret, wp_drop, wp_set, wp_ifS, wp_par, wp_par3, wp_unp, wp_asg, wp_dput, wp_for, wp_getV, wp_cst, wp_bin, wp_asB, wp_notM, wp_andM, wp_orM, wp_andV, wp_orV, wp_notV, wp_ifM, wp_chn, wp_nilA, wp_consA, wp_callM, wp_callF, wp_tupM, wp_lstM, wp_ownM, wp_seqM, wp_methM, wp_lcM, wp_isiM, wp_isiN, wp_partN, wp_partS, wp_cutM, wp_rng1, wp_rng2, wp_negM, wp_revM, wp_dispM, wp_pnil, wp_pcons, wp_sortSetM, wp_run, wpF_ok, wpR_ok, wpR_bad, isB_b, isV_s, isS_s, isDic_d, wpF_ret, wpF_own, ob_l, ob_f, List.set_cons_zero, List.set_cons_succ, List.getElem?_cons_zero, List.getElem?_cons_succ, toAs, toA, toDs, toD, Bool.not_true, Bool.not_false, reduceIte, Bool.false_eq_true, if_false, if_true, o_add_int, o_sub_int, o_lt_int, o_gt_int, o_le_int, o_ge_int, o_eq_int, o_ne_int, o_eq_nil, o_ne_nil, o_eq_nilT, o_eq_bool, o_ne_bool, o_lt_str, o_ge_str, wp_ixT, wp_ixL, wp_ixS, wp_lenT, wp_lenL, wp_lenS, o_in_sign, wp_newF, wp_newT, wp_itemsV, wp_itemsT, wp_itemsS, wp_cutT, wp_cutLi, wp_cutSt, wp_zipTT, atI_0, atI_1, atI_2, atI_3, atI_4, List.length_map, wp_all]
        refine ⟨by omega, ?_⟩
        cases c.all pairB with
        | false => simp [wpF_ret]
        | true =>
          simp only [wp_seq, wp_skip, wp_ret, wp_drop, wp_set, wp_ifS, wp_par, wp_par3, wp_unp, wp_asg, wp_dput, wp_for, wp_getV, wp_cst, wp_bin, wp_asB, wp_notM, wp_andM, wp_orM, wp_andV, wp_orV, wp_notV, wp_ifM, wp_chn, wp_nilA, wp_consA, wp_callM, wp_callF, wp_tupM, wp_lstM, wp_ownM, wp_seqM, wp_methM, wp_lcM, wp_isiM, wp_isiN, wp_partN, wp_partS, wp_cutM, wp_rng1, wp_rng2, wp_negM, wp_revM, wp_dispM, wp_pnil, wp_pcons, wp_sortSetM, wp_run, wpF_ok, wpR_ok, wpR_bad, isB_b, isV_s, isS_s, isDic_d, wpF_ret, wpF_own, ob_l, ob_f, List.set_cons_zero, List.set_cons_succ, List.getElem?_cons_zero, List.getElem?_cons_succ, toAs, toA, toDs, toD, Bool.not_true, Bool.not_false, reduceIte, Bool.false_eq_true, if_false, if_true, o_add_int, o_sub_int, o_lt_int, o_gt_int, o_le_int, o_ge_int, o_eq_int, o_ne_int, o_eq_nil, o_ne_nil, o_eq_nilT, o_eq_bool, o_ne_bool, o_lt_str, o_ge_str, wp_ixT, wp_ixL, wp_ixS, wp_lenT, wp_lenL, wp_lenS, o_in_sign, wp_newF, wp_newT, wp_itemsV, wp_itemsT, wp_itemsS, wp_cutT, wp_cutLi, wp_cutSt, wp_zipTT, atI_0, atI_1, atI_2, atI_3, atI_4]
          rw [comp_call (p := buildB) (by simp) fun x hx' => is_build_eq S (he x hx')]
          simp only [wp_seq, wp_skip, wp_ret, wp_drop, wp_set, wp_ifS, wp_par, wp_par3, wp_unp, wp_asg, wp_dput, wp_for, wp_getV, wp_cst, wp_bin, wp_asB, wp_notM, wp_andM, wp_orM, wp_andV, wp_orV, wp_notV, wp_ifM, wp_chn, wp_nilA, wp_consA, wp_callM, wp_callF, wp_tupM, wp_lstM, wp_ownM, wp_seqM, wp_methM, wp_lcM, wp_isiM, wp_isiN, wp_partN, wp_partS, wp_cutM, wp_rng1, wp_rng2, wp_negM, wp_revM, wp_dispM, wp_pnil, wp_pcons, wp_sortSetM, wp_run, wpF_ok, wpR_ok, wpR_bad, isB_b, isV_s, isS_s, isDic_d, wpF_ret, wpF_own, ob_l, ob_f, List.set_cons_zero, List.set_cons_succ, List.getElem?_cons_zero, List.getElem?_cons_succ, toAs, toA, toDs, toD, Bool.not_true, Bool.not_false, reduceIte, Bool.false_eq_true, if_false, if_true, o_add_int, o_sub_int, o_lt_int, o_gt_int, o_le_int, o_ge_int, o_eq_int, o_ne_int, o_eq_nil, o_ne_nil, o_eq_nilT, o_eq_bool, o_ne_bool, o_lt_str, o_ge_str, wp_ixT, wp_ixL, wp_ixS, wp_lenT, wp_lenL, wp_lenS, o_in_sign, wp_newF, wp_newT, wp_itemsV, wp_itemsT, wp_itemsS, wp_cutT, wp_cutLi, wp_cutSt, wp_zipTT, atI_0, atI_1, atI_2, atI_3, atI_4, List.length_map, wp_all, wpF_ret]
          refine ⟨by omega, ?_⟩
          and_intros <;> first | rfl | trivial
end
end RB.Law

end

/-! text KPure4 -/
section
set_option Elab.async false
set_option linter.all false
set_option maxRecDepth 100000
set_option maxHeartbeats 4000000
namespace RB.Law
open PySem PySem.Spec PyProof.Rows L2 RB
section
variable {d : D} {n : Nat} (S : Sto)
theorem okN_take {n k : Nat} {xs : List D} (h : okN n (.tuple xs) = true) : okN n (.tuple (xs.take k)) = true := by
  obtain ⟨hl, m, rfl, hx⟩ := okN_tup h
  show (decide ((xs.take k).length ≤ 100000) && (xs.take k).all (okN m)) = true
  rw [Bool.and_eq_true, decide_eq_true_eq, List.all_eq_true]
  exact ⟨by rw [List.length_take]; omega, fun x hx' => hx x (List.mem_of_mem_take hx')⟩
theorem law_is_source_eq (h : okN n d = true) : f__law_is_source [.v d] S = .ok (.v (.bool (sourceB d))) S := by
  apply wpF_eq
  show wpF (fnRun (m__law_is_source [some (.v d)] [] S)) _
  simp only [m__law_is_source, wp_seq, wp_skip, wp_ret, wp_drop, wp_set, wp_ifS, wp_par, wp_par3, wp_unp, wp_asg, wp_dput, wp_for, wp_getV, wp_cst, wp_bin, wp_asB, wp_notM, wp_andM, wp_orM, wp_andV, wp_orV, wp_notV, wp_ifM, wp_chn, wp_nilA, wp_consA, wp_callM, wp_callF, wp_tupM, wp_lstM, wp_ownM, wp_seqM, wp_methM, wp_lcM, wp_isiM, wp_isiN, wp_partN, wp_partS, wp_cutM, wp_rng1, wp_rng2, wp_negM, wp_revM, wp_dispM, wp_pnil, wp_pcons, wp_sortSetM, wp_run, wpF_ok, wpR_ok, wpR_bad, isB_b, isV_s, isS_s, isDic_d, wpF_ret, wpF_own, ob_l, ob_f, List.set_cons_zero, List.set_cons_succ, List.getElem?_cons_zero, List.getElem?_cons_succ, toAs, toA, toDs, toD, Bool.not_true, Bool.not_false, reduceIte, Bool.false_eq_true, if_false, if_true, tyR_ok' h, isa_tuple h]
  cases d with
  | tuple xs =>
    by_cases h5 : (xs.length : Int) = 5
    · simp only [isTuple, wp_seq, wp_skip, wp_ret, wp_drop, wp_set, wp_ifS, wp_par, wp_par3, wp_unp, wp_asg, wp_dput, wp_for, wp_getV, wp_cst, wp_bin, wp_asB, wp_notM, wp_andM, wp_orM, wp_andV, wp_orV, wp_notV, wp_ifM, wp_chn, wp_nilA, wp_consA, wp_callM, wp_callF, wp_tupM, wp_lstM, wp_ownM, wp_seqM, wp_methM, wp_lcM, wp_isiM, wp_isiN, wp_partN, wp_partS, wp_cutM, wp_rng1, wp_rng2, wp_negM, wp_revM, wp_dispM, wp_pnil, wp_pcons, wp_sortSetM, wp_run, wpF_ok, wpR_ok, wpR_bad, isB_b, isV_s, isS_s, isDic_d, wpF_ret, wpF_own, ob_l, ob_f, List.set_cons_zero, List.set_cons_succ, List.getElem?_cons_zero, List.getElem?_cons_succ, toAs, toA, toDs, toD, Bool.not_true, Bool.not_false, reduceIte, Bool.false_eq_true, if_false, if_true, o_add_int, o_sub_int, o_lt_int, o_gt_int, o_le_int, o_ge_int, o_eq_int, o_ne_int, o_eq_nil, o_ne_nil, o_eq_nilT, o_eq_bool, o_ne_bool, o_lt_str, o_ge_str, wp_ixT, wp_ixL, wp_ixS, wp_lenT, wp_lenL, wp_lenS, o_in_sign, wp_newF, wp_newT, wp_itemsV, wp_itemsT, wp_itemsS, wp_cutT, wp_cutLi, wp_cutSt, wp_zipTT, atI_0, atI_1, atI_2, atI_3, atI_4, h5, decide_true]
      refine ⟨2, rfl, ?_⟩
      rw [cut_to2]
      simp only [wp_seq, wp_skip, wp_ret, wp_drop, wp_set, wp_ifS, wp_par, wp_par3, wp_unp, wp_asg, wp_dput, wp_for, wp_getV, wp_cst, wp_bin, wp_asB, wp_notM, wp_andM, wp_orM, wp_andV, wp_orV, wp_notV, wp_ifM, wp_chn, wp_nilA, wp_consA, wp_callM, wp_callF, wp_tupM, wp_lstM, wp_ownM, wp_seqM, wp_methM, wp_lcM, wp_isiM, wp_isiN, wp_partN, wp_partS, wp_cutM, wp_rng1, wp_rng2, wp_negM, wp_revM, wp_dispM, wp_pnil, wp_pcons, wp_sortSetM, wp_run, wpF_ok, wpR_ok, wpR_bad, isB_b, isV_s, isS_s, isDic_d, wpF_ret, wpF_own, ob_l, ob_f, List.set_cons_zero, List.set_cons_succ, List.getElem?_cons_zero, List.getElem?_cons_succ, toAs, toA, toDs, toD, Bool.not_true, Bool.not_false, reduceIte, Bool.false_eq_true, if_false, if_true, o_add_int, o_sub_int, o_lt_int, o_gt_int, o_le_int, o_ge_int, o_eq_int, o_ne_int, o_eq_nil, o_ne_nil, o_eq_nilT, o_eq_bool, o_ne_bool, o_lt_str, o_ge_str, wp_ixT, wp_ixL, wp_ixS, wp_lenT, wp_lenL, wp_lenS, o_in_sign, wp_newF, wp_newT, wp_itemsV, wp_itemsT, wp_itemsS, wp_cutT, wp_cutLi, wp_cutSt, wp_zipTT, atI_0, atI_1, atI_2, atI_3, atI_4, law_are_names_eq S (okN_take h)]
      obtain ⟨hl, k, rfl, hx⟩ := okN_tup h
      obtain ⟨a, b, c, d, e, rfl⟩ := five h5
      have hc := hx c (by simp)
      have hd := hx d (by simp)
      have he := hx e (by simp)
      have e2 : namesB (.tuple ([a, b, c, d, e].take 2)) = (nameB a && nameB b) := by simp [namesB]
      rw [e2]
      simp only [wp_seq, wp_skip, wp_ret, wp_drop, wp_set, wp_ifS, wp_par, wp_par3, wp_unp, wp_asg, wp_dput, wp_for, wp_getV, wp_cst, wp_bin, wp_asB, wp_notM, wp_andM, wp_orM, wp_andV, wp_orV, wp_notV, wp_ifM, wp_chn, wp_nilA, wp_consA, wp_callM, wp_callF, wp_tupM, wp_lstM, wp_ownM, wp_seqM, wp_methM, wp_lcM, wp_isiM, wp_isiN, wp_partN, wp_partS, wp_cutM, wp_rng1, wp_rng2, wp_negM, wp_revM, wp_dispM, wp_pnil, wp_pcons, wp_sortSetM, wp_run, wpF_ok, wpR_ok, wpR_bad, isB_b, isV_s, isS_s, isDic_d, wpF_ret, wpF_own, ob_l, ob_f, List.set_cons_zero, List.set_cons_succ, List.getElem?_cons_zero, List.getElem?_cons_succ, toAs, toA, toDs, toD, Bool.not_true, Bool.not_false, reduceIte, Bool.false_eq_true, if_false, if_true, o_add_int, o_sub_int, o_lt_int, o_gt_int, o_le_int, o_ge_int, o_eq_int, o_ne_int, o_eq_nil, o_ne_nil, o_eq_nilT, o_eq_bool, o_ne_bool, o_lt_str, o_ge_str, wp_ixT, wp_ixL, wp_ixS, wp_lenT, wp_lenL, wp_lenS, o_in_sign, wp_newF, wp_newT, wp_itemsV, wp_itemsT, wp_itemsS, wp_cutT, wp_cutLi, wp_cutSt, wp_zipTT, atI_0, atI_1, atI_2, atI_3, atI_4, law_is_set_eq S hc, law_is_set_eq S he, tyR_ok' hd, isa_bool hd, sourceB]
      cases nameB a <;> cases nameB b <;> cases setB c <;> cases isBool d <;> simp [wpF_ret, wp_seq, wp_skip, wp_ret, wp_drop, wp_set, wp_ifS, wp_par, wp_par3, wp_unp, wp_asg, wp_dput, wp_for, wp_getV, wp_cst, wp_bin, wp_asB, wp_notM, wp_andM, wp_orM, wp_andV, wp_orV, wp_notV, wp_ifM, wp_chn, wp_nilA, wp_consA, wp_callM, wp_callF, wp_tupM, wp_lstM, wp_ownM, wp_seqM, wp_methM, wp_lcM, wp_isiM, wp_isiN, wp_partN, wp_partS, wp_cutM, wp_rng1, wp_rng2, wp_negM, wp_revM, wp_dispM, wp_pnil, wp_pcons, wp_sortSetM, wp_run, wpF_ok, wpR_ok, wpR_bad, isB_b, isV_s, isS_s, isDic_d, wpF_ret, wpF_own, ob_l, ob_f, List.set_cons_zero, List.set_cons_succ, List.getElem?_cons_zero, List.getElem?_cons_succ, toAs, toA, toDs, toD, Bool.not_true, Bool.not_false, reduceIte, Bool.false_eq_true, if_false, if_true]
    · simp [isTuple, wp_seq, wp_skip, wp_ret, wp_drop, wp_set, wp_ifS, wp_par, wp_par3, wp_unp, wp_asg, wp_dput, wp_for, wp_getV, wp_cst, wp_bin, wp_asB, wp_notM, wp_andM, wp_orM, wp_andV, wp_orV, wp_notV, wp_ifM, wp_chn, wp_nilA, wp_consA, wp_callM, wp_callF, wp_tupM, wp_lstM, wp_ownM, wp_seqM, wp_methM, wp_lcM, wp_isiM, wp_isiN, wp_partN, wp_partS, wp_cutM, wp_rng1, wp_rng2, wp_negM, wp_revM, wp_dispM, wp_pnil, wp_pcons, wp_sortSetM, wp_run, wpF_ok, wpR_ok, wpR_bad, isB_b, isV_s, isS_s, isDic_d, wpF_ret, wpF_own, ob_l, ob_f, List.set_cons_zero, List.set_cons_succ, List.getElem?_cons_zero, List.getElem?_cons_succ, toAs, toA, toDs, toD, Bool.not_true, Bool.not_false, reduceIte, Bool.false_eq_true, if_false, if_true, o_add_int, o_sub_int, o_lt_int, o_gt_int, o_le_int, o_ge_int, o_eq_int, o_ne_int, o_eq_nil, o_ne_nil, o_eq_nilT, o_eq_bool, o_ne_bool, o_lt_str, o_ge_str, wp_ixT, wp_ixL, wp_ixS, wp_lenT, wp_lenL, wp_lenS, o_in_sign, wp_newF, wp_newT, wp_itemsV, wp_itemsT, wp_itemsS, wp_cutT, wp_cutLi, wp_cutSt, wp_zipTT, atI_0, atI_1, atI_2, atI_3, atI_4, h5, (no5 h5).1, wpF_ret]
  | _ => simp [isTuple, sourceB, wpF_ret]
theorem law_is_party_eq (h : okN n d = true) : f__law_is_party [.v d] S = .ok (.v (.bool (partyB d))) S := by
  apply wpF_eq
  show wpF (fnRun (m__law_is_party [some (.v d)] [] S)) _
  simp only [m__law_is_party, wp_seq, wp_skip, wp_ret, wp_drop, wp_set, wp_ifS, wp_par, wp_par3, wp_unp, wp_asg, wp_dput, wp_for, wp_getV, wp_cst, wp_bin, wp_asB, wp_notM, wp_andM, wp_orM, wp_andV, wp_orV, wp_notV, wp_ifM, wp_chn, wp_nilA, wp_consA, wp_callM, wp_callF, wp_tupM, wp_lstM, wp_ownM, wp_seqM, wp_methM, wp_lcM, wp_isiM, wp_isiN, wp_partN, wp_partS, wp_cutM, wp_rng1, wp_rng2, wp_negM, wp_revM, wp_dispM, wp_pnil, wp_pcons, wp_sortSetM, wp_run, wpF_ok, wpR_ok, wpR_bad, isB_b, isV_s, isS_s, isDic_d, wpF_ret, wpF_own, ob_l, ob_f, List.set_cons_zero, List.set_cons_succ, List.getElem?_cons_zero, List.getElem?_cons_succ, toAs, toA, toDs, toD, Bool.not_true, Bool.not_false, reduceIte, Bool.false_eq_true, if_false, if_true, tyR_ok' h, isa_tuple h]
  cases d with
  | tuple xs =>
    by_cases h5 : (xs.length : Int) = 2
    · simp only [isTuple, wp_seq, wp_skip, wp_ret, wp_drop, wp_set, wp_ifS, wp_par, wp_par3, wp_unp, wp_asg, wp_dput, wp_for, wp_getV, wp_cst, wp_bin, wp_asB, wp_notM, wp_andM, wp_orM, wp_andV, wp_orV, wp_notV, wp_ifM, wp_chn, wp_nilA, wp_consA, wp_callM, wp_callF, wp_tupM, wp_lstM, wp_ownM, wp_seqM, wp_methM, wp_lcM, wp_isiM, wp_isiN, wp_partN, wp_partS, wp_cutM, wp_rng1, wp_rng2, wp_negM, wp_revM, wp_dispM, wp_pnil, wp_pcons, wp_sortSetM, wp_run, wpF_ok, wpR_ok, wpR_bad, isB_b, isV_s, isS_s, isDic_d, wpF_ret, wpF_own, ob_l, ob_f, List.set_cons_zero, List.set_cons_succ, List.getElem?_cons_zero, List.getElem?_cons_succ, toAs, toA, toDs, toD, Bool.not_true, Bool.not_false, reduceIte, Bool.false_eq_true, if_false, if_true, o_add_int, o_sub_int, o_lt_int, o_gt_int, o_le_int, o_ge_int, o_eq_int, o_ne_int, o_eq_nil, o_ne_nil, o_eq_nilT, o_eq_bool, o_ne_bool, o_lt_str, o_ge_str, wp_ixT, wp_ixL, wp_ixS, wp_lenT, wp_lenL, wp_lenS, o_in_sign, wp_newF, wp_newT, wp_itemsV, wp_itemsT, wp_itemsS, wp_cutT, wp_cutLi, wp_cutSt, wp_zipTT, atI_0, atI_1, atI_2, atI_3, atI_4, h5, decide_true]
      obtain ⟨hl, k, rfl, hx⟩ := okN_tup h
      obtain ⟨a, b, rfl⟩ := two h5
      have ha := hx a (by simp)
      have hb := hx b (by simp)
      simp only [wp_seq, wp_skip, wp_ret, wp_drop, wp_set, wp_ifS, wp_par, wp_par3, wp_unp, wp_asg, wp_dput, wp_for, wp_getV, wp_cst, wp_bin, wp_asB, wp_notM, wp_andM, wp_orM, wp_andV, wp_orV, wp_notV, wp_ifM, wp_chn, wp_nilA, wp_consA, wp_callM, wp_callF, wp_tupM, wp_lstM, wp_ownM, wp_seqM, wp_methM, wp_lcM, wp_isiM, wp_isiN, wp_partN, wp_partS, wp_cutM, wp_rng1, wp_rng2, wp_negM, wp_revM, wp_dispM, wp_pnil, wp_pcons, wp_sortSetM, wp_run, wpF_ok, wpR_ok, wpR_bad, isB_b, isV_s, isS_s, isDic_d, wpF_ret, wpF_own, ob_l, ob_f, List.set_cons_zero, List.set_cons_succ, List.getElem?_cons_zero, List.getElem?_cons_succ, toAs, toA, toDs, toD, Bool.not_true, Bool.not_false, reduceIte, Bool.false_eq_true, if_false, if_true, o_add_int, o_sub_int, o_lt_int, o_gt_int, o_le_int, o_ge_int, o_eq_int, o_ne_int, o_eq_nil, o_ne_nil, o_eq_nilT, o_eq_bool, o_ne_bool, o_lt_str, o_ge_str, wp_ixT, wp_ixL, wp_ixS, wp_lenT, wp_lenL, wp_lenS, o_in_sign, wp_newF, wp_newT, wp_itemsV, wp_itemsT, wp_itemsS, wp_cutT, wp_cutLi, wp_cutSt, wp_zipTT, atI_0, atI_1, atI_2, atI_3, atI_4, law_is_name_eq S ha, law_is_number_eq S hb, partyB]
      cases nameB a with
      | false => simp [wpF_ret]
      | true =>
        cases b with
        | int i =>
          simp only [numB, weightB, wp_seq, wp_skip, wp_ret, wp_drop, wp_set, wp_ifS, wp_par, wp_par3, wp_unp, wp_asg, wp_dput, wp_for, wp_getV, wp_cst, wp_bin, wp_asB, wp_notM, wp_andM, wp_orM, wp_andV, wp_orV, wp_notV, wp_ifM, wp_chn, wp_nilA, wp_consA, wp_callM, wp_callF, wp_tupM, wp_lstM, wp_ownM, wp_seqM, wp_methM, wp_lcM, wp_isiM, wp_isiN, wp_partN, wp_partS, wp_cutM, wp_rng1, wp_rng2, wp_negM, wp_revM, wp_dispM, wp_pnil, wp_pcons, wp_sortSetM, wp_run, wpF_ok, wpR_ok, wpR_bad, isB_b, isV_s, isS_s, isDic_d, wpF_ret, wpF_own, ob_l, ob_f, List.set_cons_zero, List.set_cons_succ, List.getElem?_cons_zero, List.getElem?_cons_succ, toAs, toA, toDs, toD, Bool.not_true, Bool.not_false, reduceIte, Bool.false_eq_true, if_false, if_true, o_add_int, o_sub_int, o_lt_int, o_gt_int, o_le_int, o_ge_int, o_eq_int, o_ne_int, o_eq_nil, o_ne_nil, o_eq_nilT, o_eq_bool, o_ne_bool, o_lt_str, o_ge_str, wp_ixT, wp_ixL, wp_ixS, wp_lenT, wp_lenL, wp_lenS, o_in_sign, wp_newF, wp_newT, wp_itemsV, wp_itemsT, wp_itemsS, wp_cutT, wp_cutLi, wp_cutSt, wp_zipTT, atI_0, atI_1, atI_2, atI_3, atI_4, wpF_ret]
          by_cases h0 : 0 ≤ i
          · have e : (0 < i) = (1 ≤ i) := propext (by omega)
            simp [h0, wp_seq, wp_skip, wp_ret, wp_drop, wp_set, wp_ifS, wp_par, wp_par3, wp_unp, wp_asg, wp_dput, wp_for, wp_getV, wp_cst, wp_bin, wp_asB, wp_notM, wp_andM, wp_orM, wp_andV, wp_orV, wp_notV, wp_ifM, wp_chn, wp_nilA, wp_consA, wp_callM, wp_callF, wp_tupM, wp_lstM, wp_ownM, wp_seqM, wp_methM, wp_lcM, wp_isiM, wp_isiN, wp_partN, wp_partS, wp_cutM, wp_rng1, wp_rng2, wp_negM, wp_revM, wp_dispM, wp_pnil, wp_pcons, wp_sortSetM, wp_run, wpF_ok, wpR_ok, wpR_bad, isB_b, isV_s, isS_s, isDic_d, wpF_ret, wpF_own, ob_l, ob_f, List.set_cons_zero, List.set_cons_succ, List.getElem?_cons_zero, List.getElem?_cons_succ, toAs, toA, toDs, toD, Bool.not_true, Bool.not_false, reduceIte, Bool.false_eq_true, if_false, if_true, o_add_int, o_sub_int, o_lt_int, o_gt_int, o_le_int, o_ge_int, o_eq_int, o_ne_int, o_eq_nil, o_ne_nil, o_eq_nilT, o_eq_bool, o_ne_bool, o_lt_str, o_ge_str, wp_ixT, wp_ixL, wp_ixS, wp_lenT, wp_lenL, wp_lenS, o_in_sign, wp_newF, wp_newT, wp_itemsV, wp_itemsT, wp_itemsS, wp_cutT, wp_cutLi, wp_cutSt, wp_zipTT, atI_0, atI_1, atI_2, atI_3, atI_4, wpF_ret, e]
          · have : ¬ 1 ≤ i := by omega
            simp [h0, this, wp_seq, wp_skip, wp_ret, wp_drop, wp_set, wp_ifS, wp_par, wp_par3, wp_unp, wp_asg, wp_dput, wp_for, wp_getV, wp_cst, wp_bin, wp_asB, wp_notM, wp_andM, wp_orM, wp_andV, wp_orV, wp_notV, wp_ifM, wp_chn, wp_nilA, wp_consA, wp_callM, wp_callF, wp_tupM, wp_lstM, wp_ownM, wp_seqM, wp_methM, wp_lcM, wp_isiM, wp_isiN, wp_partN, wp_partS, wp_cutM, wp_rng1, wp_rng2, wp_negM, wp_revM, wp_dispM, wp_pnil, wp_pcons, wp_sortSetM, wp_run, wpF_ok, wpR_ok, wpR_bad, isB_b, isV_s, isS_s, isDic_d, wpF_ret, wpF_own, ob_l, ob_f, List.set_cons_zero, List.set_cons_succ, List.getElem?_cons_zero, List.getElem?_cons_succ, toAs, toA, toDs, toD, Bool.not_true, Bool.not_false, reduceIte, Bool.false_eq_true, if_false, if_true, wpF_ret]
        | _ => simp [numB, weightB, wpF_ret]
    · simp [isTuple, wp_seq, wp_skip, wp_ret, wp_drop, wp_set, wp_ifS, wp_par, wp_par3, wp_unp, wp_asg, wp_dput, wp_for, wp_getV, wp_cst, wp_bin, wp_asB, wp_notM, wp_andM, wp_orM, wp_andV, wp_orV, wp_notV, wp_ifM, wp_chn, wp_nilA, wp_consA, wp_callM, wp_callF, wp_tupM, wp_lstM, wp_ownM, wp_seqM, wp_methM, wp_lcM, wp_isiM, wp_isiN, wp_partN, wp_partS, wp_cutM, wp_rng1, wp_rng2, wp_negM, wp_revM, wp_dispM, wp_pnil, wp_pcons, wp_sortSetM, wp_run, wpF_ok, wpR_ok, wpR_bad, isB_b, isV_s, isS_s, isDic_d, wpF_ret, wpF_own, ob_l, ob_f, List.set_cons_zero, List.set_cons_succ, List.getElem?_cons_zero, List.getElem?_cons_succ, toAs, toA, toDs, toD, Bool.not_true, Bool.not_false, reduceIte, Bool.false_eq_true, if_false, if_true, o_add_int, o_sub_int, o_lt_int, o_gt_int, o_le_int, o_ge_int, o_eq_int, o_ne_int, o_eq_nil, o_ne_nil, o_eq_nilT, o_eq_bool, o_ne_bool, o_lt_str, o_ge_str, wp_ixT, wp_ixL, wp_ixS, wp_lenT, wp_lenL, wp_lenS, o_in_sign, wp_newF, wp_newT, wp_itemsV, wp_itemsT, wp_itemsS, wp_cutT, wp_cutLi, wp_cutSt, wp_zipTT, atI_0, atI_1, atI_2, atI_3, atI_4, h5, no2 h5, wpF_ret]
  | _ => simp [isTuple, partyB, wpF_ret]
theorem law_is_build_eq (h : okN n d = true) : f__law_is_build [.v d] S = .ok (.v (.bool (buildB d))) S := by
  apply wpF_eq
  show wpF (fnRun (m__law_is_build [some (.v d)] [] S)) _
  simp only [m__law_is_build, wp_seq, wp_skip, wp_ret, wp_drop, wp_set, wp_ifS, wp_par, wp_par3, wp_unp, wp_asg, wp_dput, wp_for, wp_getV, wp_cst, wp_bin, wp_asB, wp_notM, wp_andM, wp_orM, wp_andV, wp_orV, wp_notV, wp_ifM, wp_chn, wp_nilA, wp_consA, wp_callM, wp_callF, wp_tupM, wp_lstM, wp_ownM, wp_seqM, wp_methM, wp_lcM, wp_isiM, wp_isiN, wp_partN, wp_partS, wp_cutM, wp_rng1, wp_rng2, wp_negM, wp_revM, wp_dispM, wp_pnil, wp_pcons, wp_sortSetM, wp_run, wpF_ok, wpR_ok, wpR_bad, isB_b, isV_s, isS_s, isDic_d, wpF_ret, wpF_own, ob_l, ob_f, List.set_cons_zero, List.set_cons_succ, List.getElem?_cons_zero, List.getElem?_cons_succ, toAs, toA, toDs, toD, Bool.not_true, Bool.not_false, reduceIte, Bool.false_eq_true, if_false, if_true, tyR_ok' h, isa_tuple h]
  cases d with
  | tuple xs =>
    by_cases h5 : (xs.length : Int) = 5
    · simp only [isTuple, wp_seq, wp_skip, wp_ret, wp_drop, wp_set, wp_ifS, wp_par, wp_par3, wp_unp, wp_asg, wp_dput, wp_for, wp_getV, wp_cst, wp_bin, wp_asB, wp_notM, wp_andM, wp_orM, wp_andV, wp_orV, wp_notV, wp_ifM, wp_chn, wp_nilA, wp_consA, wp_callM, wp_callF, wp_tupM, wp_lstM, wp_ownM, wp_seqM, wp_methM, wp_lcM, wp_isiM, wp_isiN, wp_partN, wp_partS, wp_cutM, wp_rng1, wp_rng2, wp_negM, wp_revM, wp_dispM, wp_pnil, wp_pcons, wp_sortSetM, wp_run, wpF_ok, wpR_ok, wpR_bad, isB_b, isV_s, isS_s, isDic_d, wpF_ret, wpF_own, ob_l, ob_f, List.set_cons_zero, List.set_cons_succ, List.getElem?_cons_zero, List.getElem?_cons_succ, toAs, toA, toDs, toD, Bool.not_true, Bool.not_false, reduceIte, Bool.false_eq_true, if_false, if_true, o_add_int, o_sub_int, o_lt_int, o_gt_int, o_le_int, o_ge_int, o_eq_int, o_ne_int, o_eq_nil, o_ne_nil, o_eq_nilT, o_eq_bool, o_ne_bool, o_lt_str, o_ge_str, wp_ixT, wp_ixL, wp_ixS, wp_lenT, wp_lenL, wp_lenS, o_in_sign, wp_newF, wp_newT, wp_itemsV, wp_itemsT, wp_itemsS, wp_cutT, wp_cutLi, wp_cutSt, wp_zipTT, atI_0, atI_1, atI_2, atI_3, atI_4, h5, decide_true]
      obtain ⟨hl, k, rfl, hx⟩ := okN_tup h
      obtain ⟨a, b, c, d, e, rfl⟩ := five h5
      have ha := hx a (by simp)
      have hb := hx b (by simp)
      have hc := hx c (by simp)
      have hd := hx d (by simp)
      have he := hx e (by simp)
      simp only [wp_seq, wp_skip, wp_ret, wp_drop, wp_set, wp_ifS, wp_par, wp_par3, wp_unp, wp_asg, wp_dput, wp_for, wp_getV, wp_cst, wp_bin, wp_asB, wp_notM, wp_andM, wp_orM, wp_andV, wp_orV, wp_notV, wp_ifM, wp_chn, wp_nilA, wp_consA, wp_callM, wp_callF, wp_tupM, wp_lstM, wp_ownM, wp_seqM, wp_methM, wp_lcM, wp_isiM, wp_isiN, wp_partN, wp_partS, wp_cutM, wp_rng1, wp_rng2, wp_negM, wp_revM, wp_dispM, wp_pnil, wp_pcons, wp_sortSetM, wp_run, wpF_ok, wpR_ok, wpR_bad, isB_b, isV_s, isS_s, isDic_d, wpF_ret, wpF_own, ob_l, ob_f, List.set_cons_zero, List.set_cons_succ, List.getElem?_cons_zero, List.getElem?_cons_succ, toAs, toA, toDs, toD, Bool.not_true, Bool.not_false, reduceIte, Bool.false_eq_true, if_false, if_true, o_add_int, o_sub_int, o_lt_int, o_gt_int, o_le_int, o_ge_int, o_eq_int, o_ne_int, o_eq_nil, o_ne_nil, o_eq_nilT, o_eq_bool, o_ne_bool, o_lt_str, o_ge_str, wp_ixT, wp_ixL, wp_ixS, wp_lenT, wp_lenL, wp_lenS, o_in_sign, wp_newF, wp_newT, wp_itemsV, wp_itemsT, wp_itemsS, wp_cutT, wp_cutLi, wp_cutSt, wp_zipTT, atI_0, atI_1, atI_2, atI_3, atI_4, law_is_name_eq S ha, law_is_name_eq S hc, law_are_names_eq S hd, law_is_name_eq S he, law_is_name_eq S hb, isN_d, buildB]
      cases nameB a <;> cases nameB c <;> cases hnd : namesB d <;> cases nameB e <;> simp only [wpF_ret, wp_seq, wp_skip, wp_ret, wp_drop, wp_set, wp_ifS, wp_par, wp_par3, wp_unp, wp_asg, wp_dput, wp_for, wp_getV, wp_cst, wp_bin, wp_asB, wp_notM, wp_andM, wp_orM, wp_andV, wp_orV, wp_notV, wp_ifM, wp_chn, wp_nilA, wp_consA, wp_callM, wp_callF, wp_tupM, wp_lstM, wp_ownM, wp_seqM, wp_methM, wp_lcM, wp_isiM, wp_isiN, wp_partN, wp_partS, wp_cutM, wp_rng1, wp_rng2, wp_negM, wp_revM, wp_dispM, wp_pnil, wp_pcons, wp_sortSetM, wp_run, wpF_ok, wpR_ok, wpR_bad, isB_b, isV_s, isS_s, isDic_d, wpF_ret, wpF_own, ob_l, ob_f, List.set_cons_zero, List.set_cons_succ, List.getElem?_cons_zero, List.getElem?_cons_succ, toAs, toA, toDs, toD, Bool.not_true, Bool.not_false, reduceIte, Bool.false_eq_true, if_false, if_true, Bool.and_true, Bool.and_false, Bool.false_and, Bool.true_and] <;> try (and_intros <;> first | rfl | trivial)
      obtain ⟨ys, rfl⟩ := names_len hnd
      cases isNone b with
      | false => simp only [wp_seq, wp_skip, wp_ret, wp_drop, wp_set, wp_ifS, wp_par, wp_par3, wp_unp, wp_asg, wp_dput, wp_for, wp_getV, wp_cst, wp_bin, wp_asB, wp_notM, wp_andM, wp_orM, wp_andV, wp_orV, wp_notV, wp_ifM, wp_chn, wp_nilA, wp_consA, wp_callM, wp_callF, wp_tupM, wp_lstM, wp_ownM, wp_seqM, wp_methM, wp_lcM, wp_isiM, wp_isiN, wp_partN, wp_partS, wp_cutM, wp_rng1, wp_rng2, wp_negM, wp_revM, wp_dispM, wp_pnil, wp_pcons, wp_sortSetM, wp_run, wpF_ok, wpR_ok, wpR_bad, isB_b, isV_s, isS_s, isDic_d, wpF_ret, wpF_own, ob_l, ob_f, List.set_cons_zero, List.set_cons_succ, List.getElem?_cons_zero, List.getElem?_cons_succ, toAs, toA, toDs, toD, Bool.not_true, Bool.not_false, reduceIte, Bool.false_eq_true, if_false, if_true, wpF_ret]; and_intros <;> first | rfl | trivial
      | true =>
        simp only [wp_seq, wp_skip, wp_ret, wp_drop, wp_set, wp_ifS, wp_par, wp_par3, wp_unp, wp_asg, wp_dput, wp_for, wp_getV, wp_cst, wp_bin, wp_asB, wp_notM, wp_andM, wp_orM, wp_andV, wp_orV, wp_notV, wp_ifM, wp_chn, wp_nilA, wp_consA, wp_callM, wp_callF, wp_tupM, wp_lstM, wp_ownM, wp_seqM, wp_methM, wp_lcM, wp_isiM, wp_isiN, wp_partN, wp_partS, wp_cutM, wp_rng1, wp_rng2, wp_negM, wp_revM, wp_dispM, wp_pnil, wp_pcons, wp_sortSetM, wp_run, wpF_ok, wpR_ok, wpR_bad, isB_b, isV_s, isS_s, isDic_d, wpF_ret, wpF_own, ob_l, ob_f, List.set_cons_zero, List.set_cons_succ, List.getElem?_cons_zero, List.getElem?_cons_succ, toAs, toA, toDs, toD, Bool.not_true, Bool.not_false, reduceIte, Bool.false_eq_true, if_false, if_true, o_add_int, o_sub_int, o_lt_int, o_gt_int, o_le_int, o_ge_int, o_eq_int, o_ne_int, o_eq_nil, o_ne_nil, o_eq_nilT, o_eq_bool, o_ne_bool, o_lt_str, o_ge_str, wp_ixT, wp_ixL, wp_ixS, wp_lenT, wp_lenL, wp_lenS, o_in_sign, wp_newF, wp_newT, wp_itemsV, wp_itemsT, wp_itemsS, wp_cutT, wp_cutLi, wp_cutSt, wp_zipTT, atI_0, atI_1, atI_2, atI_3, atI_4, wpF_ret]
        refine ⟨by decide, ?_, by first | rfl | trivial⟩
        cases ys <;> rfl
    · simp [isTuple, wp_seq, wp_skip, wp_ret, wp_drop, wp_set, wp_ifS, wp_par, wp_par3, wp_unp, wp_asg, wp_dput, wp_for, wp_getV, wp_cst, wp_bin, wp_asB, wp_notM, wp_andM, wp_orM, wp_andV, wp_orV, wp_notV, wp_ifM, wp_chn, wp_nilA, wp_consA, wp_callM, wp_callF, wp_tupM, wp_lstM, wp_ownM, wp_seqM, wp_methM, wp_lcM, wp_isiM, wp_isiN, wp_partN, wp_partS, wp_cutM, wp_rng1, wp_rng2, wp_negM, wp_revM, wp_dispM, wp_pnil, wp_pcons, wp_sortSetM, wp_run, wpF_ok, wpR_ok, wpR_bad, isB_b, isV_s, isS_s, isDic_d, wpF_ret, wpF_own, ob_l, ob_f, List.set_cons_zero, List.set_cons_succ, List.getElem?_cons_zero, List.getElem?_cons_succ, toAs, toA, toDs, toD, Bool.not_true, Bool.not_false, reduceIte, Bool.false_eq_true, if_false, if_true, o_add_int, o_sub_int, o_lt_int, o_gt_int, o_le_int, o_ge_int, o_eq_int, o_ne_int, o_eq_nil, o_ne_nil, o_eq_nilT, o_eq_bool, o_ne_bool, o_lt_str, o_ge_str, wp_ixT, wp_ixL, wp_ixS, wp_lenT, wp_lenL, wp_lenS, o_in_sign, wp_newF, wp_newT, wp_itemsV, wp_itemsT, wp_itemsS, wp_cutT, wp_cutLi, wp_cutSt, wp_zipTT, atI_0, atI_1, atI_2, atI_3, atI_4, h5, (no5 h5).2, wpF_ret]
  | _ => simp [isTuple, buildB, wpF_ret]
theorem law_is_four_eq (h : okN n d = true) : f__law_is_four [.v d] S = .ok (.v (.bool (formB d))) S := by
  apply wpF_eq
  show wpF (fnRun (m__law_is_four [some (.v d), none] [] S)) _
  simp only [m__law_is_four, wp_seq, wp_skip, wp_ret, wp_drop, wp_set, wp_ifS, wp_par, wp_par3, wp_unp, wp_asg, wp_dput, wp_for, wp_getV, wp_cst, wp_bin, wp_asB, wp_notM, wp_andM, wp_orM, wp_andV, wp_orV, wp_notV, wp_ifM, wp_chn, wp_nilA, wp_consA, wp_callM, wp_callF, wp_tupM, wp_lstM, wp_ownM, wp_seqM, wp_methM, wp_lcM, wp_isiM, wp_isiN, wp_partN, wp_partS, wp_cutM, wp_rng1, wp_rng2, wp_negM, wp_revM, wp_dispM, wp_pnil, wp_pcons, wp_sortSetM, wp_run, wpF_ok, wpR_ok, wpR_bad, isB_b, isV_s, isS_s, isDic_d, wpF_ret, wpF_own, ob_l, ob_f, List.set_cons_zero, List.set_cons_succ, List.getElem?_cons_zero, List.getElem?_cons_succ, toAs, toA, toDs, toD, Bool.not_true, Bool.not_false, reduceIte, Bool.false_eq_true, if_false, if_true, tyR_ok' h, isa_tuple h]
  cases d with
  | tuple xs =>
    by_cases h5 : (xs.length : Int) = 4
    · obtain ⟨hl, k, rfl, hx⟩ := okN_tup h
      simp only [isTuple, wp_seq, wp_skip, wp_ret, wp_drop, wp_set, wp_ifS, wp_par, wp_par3, wp_unp, wp_asg, wp_dput, wp_for, wp_getV, wp_cst, wp_bin, wp_asB, wp_notM, wp_andM, wp_orM, wp_andV, wp_orV, wp_notV, wp_ifM, wp_chn, wp_nilA, wp_consA, wp_callM, wp_callF, wp_tupM, wp_lstM, wp_ownM, wp_seqM, wp_methM, wp_lcM, wp_isiM, wp_isiN, wp_partN, wp_partS, wp_cutM, wp_rng1, wp_rng2, wp_negM, wp_revM, wp_dispM, wp_pnil, wp_pcons, wp_sortSetM, wp_run, wpF_ok, wpR_ok, wpR_bad, isB_b, isV_s, isS_s, isDic_d, wpF_ret, wpF_own, ob_l, ob_f, List.set_cons_zero, List.set_cons_succ, List.getElem?_cons_zero, List.getElem?_cons_succ, toAs, toA, toDs, toD, Bool.not_true, Bool.not_false, reduceIte, Bool.false_eq_true, if_false, if_true, o_add_int, o_sub_int, o_lt_int, o_gt_int, o_le_int, o_ge_int, o_eq_int, o_ne_int, o_eq_nil, o_ne_nil, o_eq_nilT, o_eq_bool, o_ne_bool, o_lt_str, o_ge_str, wp_ixT, wp_ixL, wp_ixS, wp_lenT, wp_lenL, wp_lenS, o_in_sign, wp_newF, wp_newT, wp_itemsV, wp_itemsT, wp_itemsS, wp_cutT, wp_cutLi, wp_cutSt, wp_zipTT, atI_0, atI_1, atI_2, atI_3, atI_4, h5, decide_true, wipeV]
      rw [comp_pure (p := fun e => !isTuple e) (f := fun e => e)]
      · simp only [wp_seq, wp_skip, wp_ret, wp_drop, wp_set, wp_ifS, wp_par, wp_par3, wp_unp, wp_asg, wp_dput, wp_for, wp_getV, wp_cst, wp_bin, wp_asB, wp_notM, wp_andM, wp_orM, wp_andV, wp_orV, wp_notV, wp_ifM, wp_chn, wp_nilA, wp_consA, wp_callM, wp_callF, wp_tupM, wp_lstM, wp_ownM, wp_seqM, wp_methM, wp_lcM, wp_isiM, wp_isiN, wp_partN, wp_partS, wp_cutM, wp_rng1, wp_rng2, wp_negM, wp_revM, wp_dispM, wp_pnil, wp_pcons, wp_sortSetM, wp_run, wpF_ok, wpR_ok, wpR_bad, isB_b, isV_s, isS_s, isDic_d, wpF_ret, wpF_own, ob_l, ob_f, List.set_cons_zero, List.set_cons_succ, List.getElem?_cons_zero, List.getElem?_cons_succ, toAs, toA, toDs, toD, Bool.not_true, Bool.not_false, reduceIte, Bool.false_eq_true, if_false, if_true, o_add_int, o_sub_int, o_lt_int, o_gt_int, o_le_int, o_ge_int, o_eq_int, o_ne_int, o_eq_nil, o_ne_nil, o_eq_nilT, o_eq_bool, o_ne_bool, o_lt_str, o_ge_str, wp_ixT, wp_ixL, wp_ixS, wp_lenT, wp_lenL, wp_lenS, o_in_sign, wp_newF, wp_newT, wp_itemsV, wp_itemsT, wp_itemsS, wp_cutT, wp_cutLi, wp_cutSt, wp_zipTT, atI_0, atI_1, atI_2, atI_3, atI_4, List.map_id', filt_all, wpF_ret]
        refine ⟨Nat.le_trans (List.length_filter_le _ _) (by omega), by decide, ?_, by first | rfl | trivial⟩
        obtain ⟨a, b, c, d, rfl⟩ := four h5
        simp [formB, Bool.and_assoc]
      · intro e he
        refine ⟨wpR_eq ?_, fun _ => rfl⟩
        simp only [tgName, wp_seq, wp_skip, wp_ret, wp_drop, wp_set, wp_ifS, wp_par, wp_par3, wp_unp, wp_asg, wp_dput, wp_for, wp_getV, wp_cst, wp_bin, wp_asB, wp_notM, wp_andM, wp_orM, wp_andV, wp_orV, wp_notV, wp_ifM, wp_chn, wp_nilA, wp_consA, wp_callM, wp_callF, wp_tupM, wp_lstM, wp_ownM, wp_seqM, wp_methM, wp_lcM, wp_isiM, wp_isiN, wp_partN, wp_partS, wp_cutM, wp_rng1, wp_rng2, wp_negM, wp_revM, wp_dispM, wp_pnil, wp_pcons, wp_sortSetM, wp_run, wpF_ok, wpR_ok, wpR_bad, isB_b, isV_s, isS_s, isDic_d, wpF_ret, wpF_own, ob_l, ob_f, List.set_cons_zero, List.set_cons_succ, List.getElem?_cons_zero, List.getElem?_cons_succ, toAs, toA, toDs, toD, Bool.not_true, Bool.not_false, reduceIte, Bool.false_eq_true, if_false, if_true, tyR_ok' (hx e he), isa_tuple (hx e he)]
        and_intros <;> first | rfl | trivial
    · simp [isTuple, wp_seq, wp_skip, wp_ret, wp_drop, wp_set, wp_ifS, wp_par, wp_par3, wp_unp, wp_asg, wp_dput, wp_for, wp_getV, wp_cst, wp_bin, wp_asB, wp_notM, wp_andM, wp_orM, wp_andV, wp_orV, wp_notV, wp_ifM, wp_chn, wp_nilA, wp_consA, wp_callM, wp_callF, wp_tupM, wp_lstM, wp_ownM, wp_seqM, wp_methM, wp_lcM, wp_isiM, wp_isiN, wp_partN, wp_partS, wp_cutM, wp_rng1, wp_rng2, wp_negM, wp_revM, wp_dispM, wp_pnil, wp_pcons, wp_sortSetM, wp_run, wpF_ok, wpR_ok, wpR_bad, isB_b, isV_s, isS_s, isDic_d, wpF_ret, wpF_own, ob_l, ob_f, List.set_cons_zero, List.set_cons_succ, List.getElem?_cons_zero, List.getElem?_cons_succ, toAs, toA, toDs, toD, Bool.not_true, Bool.not_false, reduceIte, Bool.false_eq_true, if_false, if_true, o_add_int, o_sub_int, o_lt_int, o_gt_int, o_le_int, o_ge_int, o_eq_int, o_ne_int, o_eq_nil, o_ne_nil, o_eq_nilT, o_eq_bool, o_ne_bool, o_lt_str, o_ge_str, wp_ixT, wp_ixL, wp_ixS, wp_lenT, wp_lenL, wp_lenS, o_in_sign, wp_newF, wp_newT, wp_itemsV, wp_itemsT, wp_itemsS, wp_cutT, wp_cutLi, wp_cutSt, wp_zipTT, atI_0, atI_1, atI_2, atI_3, atI_4, h5, no4 h5, wpF_ret]
  | _ => simp [isTuple, formB, wpF_ret]
theorem law_is_book_eq (h : okN n d = true) : f__law_is_book [.v d] S = .ok (.v (.bool (bookB d))) S := by
  apply wpF_eq
  show wpF (fnRun (m__law_is_book [some (.v d), none, none] [] S)) _
  simp only [m__law_is_book, wp_seq, wp_skip, wp_ret, wp_drop, wp_set, wp_ifS, wp_par, wp_par3, wp_unp, wp_asg, wp_dput, wp_for, wp_getV, wp_cst, wp_bin, wp_asB, wp_notM, wp_andM, wp_orM, wp_andV, wp_orV, wp_notV, wp_ifM, wp_chn, wp_nilA, wp_consA, wp_callM, wp_callF, wp_tupM, wp_lstM, wp_ownM, wp_seqM, wp_methM, wp_lcM, wp_isiM, wp_isiN, wp_partN, wp_partS, wp_cutM, wp_rng1, wp_rng2, wp_negM, wp_revM, wp_dispM, wp_pnil, wp_pcons, wp_sortSetM, wp_run, wpF_ok, wpR_ok, wpR_bad, isB_b, isV_s, isS_s, isDic_d, wpF_ret, wpF_own, ob_l, ob_f, List.set_cons_zero, List.set_cons_succ, List.getElem?_cons_zero, List.getElem?_cons_succ, toAs, toA, toDs, toD, Bool.not_true, Bool.not_false, reduceIte, Bool.false_eq_true, if_false, if_true, law_is_four_eq S h]
  cases hf : formB d with
  | false => simp [noBook2 hf, wpF_ret]
  | true =>
    obtain ⟨a, b, c, e, rfl⟩ := form_of hf
    obtain ⟨_, k, rfl, hx⟩ := okN_tup h
    obtain ⟨la, k1, rfl, ha⟩ := okN_tup (hx (.tuple a) (by simp))
    obtain ⟨lb, k2, e2, hb⟩ := okN_tup (hx (.tuple b) (by simp))
    obtain ⟨lc, k3, e3, hc⟩ := okN_tup (hx (.tuple c) (by simp))
    obtain ⟨le, k4, e4, he⟩ := okN_tup (hx (.tuple e) (by simp))
    have fa := List.length_filter_le (fun d => !sourceB d) a
    have fb := List.length_filter_le (fun d => !partyB d) b
    have fc := List.length_filter_le (fun d => !pairB d) c
    have fe := List.length_filter_le (fun d => !buildB d) e
    simp only [wp_seq, wp_skip, wp_ret, wp_drop, wp_set, wp_ifS, wp_par, wp_par3, wp_unp, wp_asg, wp_dput, wp_for, wp_getV, wp_cst, wp_bin, wp_asB, wp_notM, wp_andM, wp_orM, wp_andV, wp_orV, wp_notV, wp_ifM, wp_chn, wp_nilA, wp_consA, wp_callM, wp_callF, wp_tupM, wp_lstM, wp_ownM, wp_seqM, wp_methM, wp_lcM, wp_isiM, wp_isiN, wp_partN, wp_partS, wp_cutM, wp_rng1, wp_rng2, wp_negM, wp_revM, wp_dispM, wp_pnil, wp_pcons, wp_sortSetM, wp_run, wpF_ok, wpR_ok, wpR_bad, isB_b, isV_s, isS_s, isDic_d, wpF_ret, wpF_own, ob_l, ob_f, List.set_cons_zero, List.set_cons_succ, List.getElem?_cons_zero, List.getElem?_cons_succ, toAs, toA, toDs, toD, Bool.not_true, Bool.not_false, reduceIte, Bool.false_eq_true, if_false, if_true, o_add_int, o_sub_int, o_lt_int, o_gt_int, o_le_int, o_ge_int, o_eq_int, o_ne_int, o_eq_nil, o_ne_nil, o_eq_nilT, o_eq_bool, o_ne_bool, o_lt_str, o_ge_str, wp_ixT, wp_ixL, wp_ixS, wp_lenT, wp_lenL, wp_lenS, o_in_sign, wp_newF, wp_newT, wp_itemsV, wp_itemsT, wp_itemsS, wp_cutT, wp_cutLi, wp_cutSt, wp_zipTT, atI_0, atI_1, atI_2, atI_3, atI_4, wipeV]
    rw [comp_not (p := sourceB) (by simp) fun x hx' => law_is_source_eq S (ha x hx')]
    simp only [wp_seq, wp_skip, wp_ret, wp_drop, wp_set, wp_ifS, wp_par, wp_par3, wp_unp, wp_asg, wp_dput, wp_for, wp_getV, wp_cst, wp_bin, wp_asB, wp_notM, wp_andM, wp_orM, wp_andV, wp_orV, wp_notV, wp_ifM, wp_chn, wp_nilA, wp_consA, wp_callM, wp_callF, wp_tupM, wp_lstM, wp_ownM, wp_seqM, wp_methM, wp_lcM, wp_isiM, wp_isiN, wp_partN, wp_partS, wp_cutM, wp_rng1, wp_rng2, wp_negM, wp_revM, wp_dispM, wp_pnil, wp_pcons, wp_sortSetM, wp_run, wpF_ok, wpR_ok, wpR_bad, isB_b, isV_s, isS_s, isDic_d, wpF_ret, wpF_own, ob_l, ob_f, List.set_cons_zero, List.set_cons_succ, List.getElem?_cons_zero, List.getElem?_cons_succ, toAs, toA, toDs, toD, Bool.not_true, Bool.not_false, reduceIte, Bool.false_eq_true, if_false, if_true, o_add_int, o_sub_int, o_lt_int, o_gt_int, o_le_int, o_ge_int, o_eq_int, o_ne_int, o_eq_nil, o_ne_nil, o_eq_nilT, o_eq_bool, o_ne_bool, o_lt_str, o_ge_str, wp_ixT, wp_ixL, wp_ixS, wp_lenT, wp_lenL, wp_lenS, o_in_sign, wp_newF, wp_newT, wp_itemsV, wp_itemsT, wp_itemsS, wp_cutT, wp_cutLi, wp_cutSt, wp_zipTT, atI_0, atI_1, atI_2, atI_3, atI_4, List.length_nil, List.nil_append]
    refine ⟨by omega, by first | rfl | trivial, ?_⟩
    rw [comp_not (p := partyB) (by simp) fun x hx' => law_is_party_eq S (hb x hx')]
    simp only [wp_seq, wp_skip, wp_ret, wp_drop, wp_set, wp_ifS, wp_par, wp_par3, wp_unp, wp_asg, wp_dput, wp_for, wp_getV, wp_cst, wp_bin, wp_asB, wp_notM, wp_andM, wp_orM, wp_andV, wp_orV, wp_notV, wp_ifM, wp_chn, wp_nilA, wp_consA, wp_callM, wp_callF, wp_tupM, wp_lstM, wp_ownM, wp_seqM, wp_methM, wp_lcM, wp_isiM, wp_isiN, wp_partN, wp_partS, wp_cutM, wp_rng1, wp_rng2, wp_negM, wp_revM, wp_dispM, wp_pnil, wp_pcons, wp_sortSetM, wp_run, wpF_ok, wpR_ok, wpR_bad, isB_b, isV_s, isS_s, isDic_d, wpF_ret, wpF_own, ob_l, ob_f, List.set_cons_zero, List.set_cons_succ, List.getElem?_cons_zero, List.getElem?_cons_succ, toAs, toA, toDs, toD, Bool.not_true, Bool.not_false, reduceIte, Bool.false_eq_true, if_false, if_true, o_add_int, o_sub_int, o_lt_int, o_gt_int, o_le_int, o_ge_int, o_eq_int, o_ne_int, o_eq_nil, o_ne_nil, o_eq_nilT, o_eq_bool, o_ne_bool, o_lt_str, o_ge_str, wp_ixT, wp_ixL, wp_ixS, wp_lenT, wp_lenL, wp_lenS, o_in_sign, wp_newF, wp_newT, wp_itemsV, wp_itemsT, wp_itemsS, wp_cutT, wp_cutLi, wp_cutSt, wp_zipTT, atI_0, atI_1, atI_2, atI_3, atI_4, extendR, lstOf, wpR_ite]
    refine ⟨by omega, by omega, by first | rfl | trivial, ?_⟩
    rw [comp_not (p := pairB) (by simp) fun x hx' => law_is_pair_eq S (hc x hx')]
    simp only [wp_seq, wp_skip, wp_ret, wp_drop, wp_set, wp_ifS, wp_par, wp_par3, wp_unp, wp_asg, wp_dput, wp_for, wp_getV, wp_cst, wp_bin, wp_asB, wp_notM, wp_andM, wp_orM, wp_andV, wp_orV, wp_notV, wp_ifM, wp_chn, wp_nilA, wp_consA, wp_callM, wp_callF, wp_tupM, wp_lstM, wp_ownM, wp_seqM, wp_methM, wp_lcM, wp_isiM, wp_isiN, wp_partN, wp_partS, wp_cutM, wp_rng1, wp_rng2, wp_negM, wp_revM, wp_dispM, wp_pnil, wp_pcons, wp_sortSetM, wp_run, wpF_ok, wpR_ok, wpR_bad, isB_b, isV_s, isS_s, isDic_d, wpF_ret, wpF_own, ob_l, ob_f, List.set_cons_zero, List.set_cons_succ, List.getElem?_cons_zero, List.getElem?_cons_succ, toAs, toA, toDs, toD, Bool.not_true, Bool.not_false, reduceIte, Bool.false_eq_true, if_false, if_true, o_add_int, o_sub_int, o_lt_int, o_gt_int, o_le_int, o_ge_int, o_eq_int, o_ne_int, o_eq_nil, o_ne_nil, o_eq_nilT, o_eq_bool, o_ne_bool, o_lt_str, o_ge_str, wp_ixT, wp_ixL, wp_ixS, wp_lenT, wp_lenL, wp_lenS, o_in_sign, wp_newF, wp_newT, wp_itemsV, wp_itemsT, wp_itemsS, wp_cutT, wp_cutLi, wp_cutSt, wp_zipTT, atI_0, atI_1, atI_2, atI_3, atI_4, extendR, lstOf, wpR_ite, List.length_append]
    refine ⟨by omega, by omega, by first | rfl | trivial, ?_⟩
    rw [comp_not (p := buildB) (by simp) fun x hx' => law_is_build_eq S (he x hx')]
    simp only [wp_seq, wp_skip, wp_ret, wp_drop, wp_set, wp_ifS, wp_par, wp_par3, wp_unp, wp_asg, wp_dput, wp_for, wp_getV, wp_cst, wp_bin, wp_asB, wp_notM, wp_andM, wp_orM, wp_andV, wp_orV, wp_notV, wp_ifM, wp_chn, wp_nilA, wp_consA, wp_callM, wp_callF, wp_tupM, wp_lstM, wp_ownM, wp_seqM, wp_methM, wp_lcM, wp_isiM, wp_isiN, wp_partN, wp_partS, wp_cutM, wp_rng1, wp_rng2, wp_negM, wp_revM, wp_dispM, wp_pnil, wp_pcons, wp_sortSetM, wp_run, wpF_ok, wpR_ok, wpR_bad, isB_b, isV_s, isS_s, isDic_d, wpF_ret, wpF_own, ob_l, ob_f, List.set_cons_zero, List.set_cons_succ, List.getElem?_cons_zero, List.getElem?_cons_succ, toAs, toA, toDs, toD, Bool.not_true, Bool.not_false, reduceIte, Bool.false_eq_true, if_false, if_true, o_add_int, o_sub_int, o_lt_int, o_gt_int, o_le_int, o_ge_int, o_eq_int, o_ne_int, o_eq_nil, o_ne_nil, o_eq_nilT, o_eq_bool, o_ne_bool, o_lt_str, o_ge_str, wp_ixT, wp_ixL, wp_ixS, wp_lenT, wp_lenL, wp_lenS, o_in_sign, wp_newF, wp_newT, wp_itemsV, wp_itemsT, wp_itemsS, wp_cutT, wp_cutLi, wp_cutSt, wp_zipTT, atI_0, atI_1, atI_2, atI_3, atI_4, extendR, lstOf, wpR_ite, List.length_append]
    refine ⟨by omega, by omega, ?_⟩
    simp only [c_len, look, lstOf, obList, wp_seq, wp_skip, wp_ret, wp_drop, wp_set, wp_ifS, wp_par, wp_par3, wp_unp, wp_asg, wp_dput, wp_for, wp_getV, wp_cst, wp_bin, wp_asB, wp_notM, wp_andM, wp_orM, wp_andV, wp_orV, wp_notV, wp_ifM, wp_chn, wp_nilA, wp_consA, wp_callM, wp_callF, wp_tupM, wp_lstM, wp_ownM, wp_seqM, wp_methM, wp_lcM, wp_isiM, wp_isiN, wp_partN, wp_partS, wp_cutM, wp_rng1, wp_rng2, wp_negM, wp_revM, wp_dispM, wp_pnil, wp_pcons, wp_sortSetM, wp_run, wpF_ok, wpR_ok, wpR_bad, isB_b, isV_s, isS_s, isDic_d, wpF_ret, wpF_own, ob_l, ob_f, List.set_cons_zero, List.set_cons_succ, List.getElem?_cons_zero, List.getElem?_cons_succ, toAs, toA, toDs, toD, Bool.not_true, Bool.not_false, reduceIte, Bool.false_eq_true, if_false, if_true, o_add_int, o_sub_int, o_lt_int, o_gt_int, o_le_int, o_ge_int, o_eq_int, o_ne_int, o_eq_nil, o_ne_nil, o_eq_nilT, o_eq_bool, o_ne_bool, o_lt_str, o_ge_str, wp_ixT, wp_ixL, wp_ixS, wp_lenT, wp_lenL, wp_lenS, o_in_sign, wp_newF, wp_newT, wp_itemsV, wp_itemsT, wp_itemsS, wp_cutT, wp_cutLi, wp_cutSt, wp_zipTT, atI_0, atI_1, atI_2, atI_3, atI_4, Option.map, List.length_append, wpF_ret, bookB]
    refine ⟨?_, by first | rfl | trivial⟩
    congr 2
    rw [← filt_all sourceB, ← filt_all partyB, ← filt_all pairB, ← filt_all buildB, Bool.eq_iff_iff]
    simp only [decide_eq_true_eq, Bool.and_eq_true, List.isEmpty_iff, ← List.length_eq_zero_iff]
    omega
end
end RB.Law

end

/-! text KRight -/
section
set_option Elab.async false
set_option linter.all false
set_option maxRecDepth 100000
set_option maxHeartbeats 4000000
namespace RB.Law
open PySem PySem.Spec PyProof.Rows L2 RB
section
variable {d : D} {n : Nat} (S : Sto)
theorem first_eq (h : okN n d = true) : (andV (isiM .int (getV 0)) (notV (isiM .bool (getV 0)))) [some (.v d), none, none, none, none] [] S = .ok (.v (.bool (intB d))) [] S := by
  apply wpR_eq
  simp only [wp_seq, wp_skip, wp_ret, wp_drop, wp_set, wp_ifS, wp_par, wp_par3, wp_unp, wp_asg, wp_dput, wp_for, wp_getV, wp_cst, wp_bin, wp_asB, wp_notM, wp_andM, wp_orM, wp_andV, wp_orV, wp_notV, wp_ifM, wp_chn, wp_nilA, wp_consA, wp_callM, wp_callF, wp_tupM, wp_lstM, wp_ownM, wp_seqM, wp_methM, wp_lcM, wp_isiM, wp_isiN, wp_partN, wp_partS, wp_cutM, wp_rng1, wp_rng2, wp_negM, wp_revM, wp_dispM, wp_pnil, wp_pcons, wp_sortSetM, wp_run, wpF_ok, wpR_ok, wpR_bad, isB_b, isV_s, isS_s, isDic_d, wpF_ret, wpF_own, ob_l, ob_f, List.set_cons_zero, List.set_cons_succ, List.getElem?_cons_zero, List.getElem?_cons_succ, toAs, toA, toDs, toD, Bool.not_true, Bool.not_false, reduceIte, Bool.false_eq_true, if_false, if_true, tyR_ok' h, isa_int h, isa_bool h]
  cases d <;> simp [isIntB, isBool, intB, wp_seq, wp_skip, wp_ret, wp_drop, wp_set, wp_ifS, wp_par, wp_par3, wp_unp, wp_asg, wp_dput, wp_for, wp_getV, wp_cst, wp_bin, wp_asB, wp_notM, wp_andM, wp_orM, wp_andV, wp_orV, wp_notV, wp_ifM, wp_chn, wp_nilA, wp_consA, wp_callM, wp_callF, wp_tupM, wp_lstM, wp_ownM, wp_seqM, wp_methM, wp_lcM, wp_isiM, wp_isiN, wp_partN, wp_partS, wp_cutM, wp_rng1, wp_rng2, wp_negM, wp_revM, wp_dispM, wp_pnil, wp_pcons, wp_sortSetM, wp_run, wpF_ok, wpR_ok, wpR_bad, isB_b, isV_s, isS_s, isDic_d, wpF_ret, wpF_own, ob_l, ob_f, List.set_cons_zero, List.set_cons_succ, List.getElem?_cons_zero, List.getElem?_cons_succ, toAs, toA, toDs, toD, Bool.not_true, Bool.not_false, reduceIte, Bool.false_eq_true, if_false, if_true]
theorem right_eq (h : okN n d = true) : f__law_right [.v d] S = .ok (.v (.bool true)) S := by
  apply wpF_eq
  show wpF (fnRun (m__law_right [some (.v d), none, none, none, none] [] S)) _
  unfold m__law_right
  rw [wp_run, wp_seq, wp_set, first_eq S h, wpR_ok]
  simp (config := { maxSteps := 1000000 }) only [wp_seq, wp_skip, wp_ret, wp_drop, wp_set, wp_ifS, wp_par, wp_par3, wp_unp, wp_asg, wp_dput, wp_for, wp_getV, wp_cst, wp_bin, wp_asB, wp_notM, wp_andM, wp_orM, wp_andV, wp_orV, wp_notV, wp_ifM, wp_chn, wp_nilA, wp_consA, wp_callM, wp_callF, wp_tupM, wp_lstM, wp_ownM, wp_seqM, wp_methM, wp_lcM, wp_isiM, wp_isiN, wp_partN, wp_partS, wp_cutM, wp_rng1, wp_rng2, wp_negM, wp_revM, wp_dispM, wp_pnil, wp_pcons, wp_sortSetM, wp_run, wpF_ok, wpR_ok, wpR_bad, isB_b, isV_s, isS_s, isDic_d, wpF_ret, wpF_own, ob_l, ob_f, List.set_cons_zero, List.set_cons_succ, List.getElem?_cons_zero, List.getElem?_cons_succ, toAs, toA, toDs, toD, Bool.not_true, Bool.not_false, reduceIte, Bool.false_eq_true, if_false, if_true, is_integer_eq S h, is_number_eq S h, law_is_number_eq S h, is_name_eq S h, law_is_name_eq S h, is_set_eq S h, law_is_set_eq S h, is_source_eq S h, law_is_source_eq S h, is_party_eq S h, law_is_party_eq S h, is_build_eq S h, law_is_build_eq S h, is_fact_eq S h, law_is_pair_eq S h, is_book_eq S h, law_is_book_eq S h, extendR, appendR, lstOf, obList, wpR_ite, List.length_cons, List.length_nil, List.nil_append, List.cons_append, isL, itemsR]
  and_intros <;> try first | rfl | trivial | decide
  rw [comp_pure (p := fun _ => false) (f := fun e => e)]
  · simp only [wpR_ok, wp_newF, wp_seq, wp_skip, wp_ret, wp_drop, wp_set, wp_ifS, wp_par, wp_par3, wp_unp, wp_asg, wp_dput, wp_for, wp_getV, wp_cst, wp_bin, wp_asB, wp_notM, wp_andM, wp_orM, wp_andV, wp_orV, wp_notV, wp_ifM, wp_chn, wp_nilA, wp_consA, wp_callM, wp_callF, wp_tupM, wp_lstM, wp_ownM, wp_seqM, wp_methM, wp_lcM, wp_isiM, wp_isiN, wp_partN, wp_partS, wp_cutM, wp_rng1, wp_rng2, wp_negM, wp_revM, wp_dispM, wp_pnil, wp_pcons, wp_sortSetM, wp_run, wpF_ok, wpR_ok, wpR_bad, isB_b, isV_s, isS_s, isDic_d, wpF_ret, wpF_own, ob_l, ob_f, List.set_cons_zero, List.set_cons_succ, List.getElem?_cons_zero, List.getElem?_cons_succ, toAs, toA, toDs, toD, Bool.not_true, Bool.not_false, reduceIte, Bool.false_eq_true, if_false, if_true, o_add_int, o_sub_int, o_lt_int, o_gt_int, o_le_int, o_ge_int, o_eq_int, o_ne_int, o_eq_nil, o_ne_nil, o_eq_nilT, o_eq_bool, o_ne_bool, o_lt_str, o_ge_str, wp_ixT, wp_ixL, wp_ixS, wp_lenT, wp_lenL, wp_lenS, o_in_sign, wp_newF, wp_newT, wp_itemsV, wp_itemsT, wp_itemsS, wp_cutT, wp_cutLi, wp_cutSt, wp_zipTT, atI_0, atI_1, atI_2, atI_3, atI_4, List.map_id', wpF_ret]
    have e : ∀ xs : List D, xs.filter (fun _ => false) = [] := fun xs => List.filter_eq_nil_iff.mpr fun _ _ => by simp
    simp only [e]
    and_intros <;> first | rfl | trivial | decide
  · intro e he
    simp only [List.mem_cons, List.not_mem_nil, or_false] at he
    rcases he with rfl | rfl | rfl | rfl | rfl | rfl | rfl | rfl | rfl <;> (refine ⟨wpR_eq ?_, fun z => nomatch z⟩; simp [tgsCons, tgName, tgsNil, wipeV, wp_seq, wp_skip, wp_ret, wp_drop, wp_set, wp_ifS, wp_par, wp_par3, wp_unp, wp_asg, wp_dput, wp_for, wp_getV, wp_cst, wp_bin, wp_asB, wp_notM, wp_andM, wp_orM, wp_andV, wp_orV, wp_notV, wp_ifM, wp_chn, wp_nilA, wp_consA, wp_callM, wp_callF, wp_tupM, wp_lstM, wp_ownM, wp_seqM, wp_methM, wp_lcM, wp_isiM, wp_isiN, wp_partN, wp_partS, wp_cutM, wp_rng1, wp_rng2, wp_negM, wp_revM, wp_dispM, wp_pnil, wp_pcons, wp_sortSetM, wp_run, wpF_ok, wpR_ok, wpR_bad, isB_b, isV_s, isS_s, isDic_d, wpF_ret, wpF_own, ob_l, ob_f, List.set_cons_zero, List.set_cons_succ, List.getElem?_cons_zero, List.getElem?_cons_succ, toAs, toA, toDs, toD, Bool.not_true, Bool.not_false, reduceIte, Bool.false_eq_true, if_false, if_true, o_add_int, o_sub_int, o_lt_int, o_gt_int, o_le_int, o_ge_int, o_eq_int, o_ne_int, o_eq_nil, o_ne_nil, o_eq_nilT, o_eq_bool, o_ne_bool, o_lt_str, o_ge_str, wp_ixT, wp_ixL, wp_ixS, wp_lenT, wp_lenL, wp_lenS, o_in_sign, wp_newF, wp_newT, wp_itemsV, wp_itemsT, wp_itemsS, wp_cutT, wp_cutLi, wp_cutSt, wp_zipTT, atI_0, atI_1, atI_2, atI_3, atI_4, tyR, tyD, Ty.isa])
end
end RB.Law

end

/-! text KDraw -/
section
set_option Elab.async false
set_option linter.all false
set_option maxRecDepth 100000
set_option maxHeartbeats 4000000
namespace RB.Law
open PySem PySem.Spec PyProof.Rows L2 RB
/-- the feed -/
def feedKV (cells : List Int) (k l c : Int) : List (Key × D) := [(.inr (Str.ofString "cells"), .list (cells.map .int)), (.inr (Str.ofString "next"), .int k), (.inr (Str.ofString "left"), .int l), (.inr (Str.ofString "count"), .int c)]
section
variable (cells : List Int) (k l c x : Int)
theorem fd_cells : findD (feedKV cells k l c) (.inr (Str.ofString "cells")) = some (.list (cells.map .int)) := by kernel_rfl
theorem fd_next : findD (feedKV cells k l c) (.inr (Str.ofString "next")) = some (.int k) := by kernel_rfl
theorem fd_left : findD (feedKV cells k l c) (.inr (Str.ofString "left")) = some (.int l) := by kernel_rfl
theorem fd_count : findD (feedKV cells k l c) (.inr (Str.ofString "count")) = some (.int c) := by kernel_rfl
theorem pd_next : putD (feedKV cells k l c) (.inr (Str.ofString "next")) (.int x) = feedKV cells x l c := by kernel_rfl
theorem pd_left : putD (feedKV cells k l c) (.inr (Str.ofString "left")) (.int x) = feedKV cells k x c := by kernel_rfl
theorem pd_count : putD (feedKV cells k l c) (.inr (Str.ofString "count")) (.int x) = feedKV cells k l x := by kernel_rfl
theorem len_feed : (feedKV cells k l c).length < 16777216 := by show 4 < 16777216; decide
end
/-- a feed that was asked at most n times stands alone in the store -/
def Feed (n : Nat) (S : Sto) : Prop := ∃ (cells : List Int) (k l c : Int), S = [.dic (feedKV cells k l c)] ∧ 0 ≤ k ∧ 0 ≤ l ∧ 0 ≤ c ∧ c ≤ n
theorem Feed.mono {n m : Nat} {S : Sto} (h : Feed n S) (e : n ≤ m) : Feed m S := by
  obtain ⟨a, b, c, d, h1, h2, h3, h4, h5⟩ := h
  exact ⟨a, b, c, d, h1, h2, h3, h4, by omega⟩
theorem wp_dget {Q : Rv → Sto → Sto → Prop} (T : Sto) (kvs : List (Key × D)) (x : Str) : wpR (dgetR (.loc 0) (.v (.str x)) T [.dic kvs]) Q = isS (findD kvs (.inr x)) fun d => Q (.v d) T [.dic kvs] := by
  show wpR (match findD kvs (.inr x) with | some d => .ok (.v d) T [.dic kvs] | none => .bad) Q = _
  cases findD kvs (.inr x) with
  | none => simp only [wpR_bad, isS_n]
  | some d => simp only [wpR_ok, isS_s]
theorem wp_int {Q : Rv → Sto → Sto → Prop} (T S : Sto) (i : Int) : wpR (c_int [.v (.int i)] T S) Q = Q (.v (.int i)) T S := wpR_ok _ _ _ _
section
variable {N : Vn → Sto → Sto → Prop} {R : Rv → Sto → Sto → Prop} {u : SM} {ρ : Vn} {T : Sto} {kvs kvs' : List (Key × D)} {x : Str} {m : EM Rv}
/-- feed[x] = m -/
theorem step_dput (h0 : ρ[0]? = some (some (.loc 0))) (hl : kvs.length < 16777216) (z : Int) (h : wpR (m ρ T [.dic kvs]) fun r T' S' => r = .v (.int z) ∧ T' = T ∧ S' = [.dic kvs]) (hp : putD kvs (.inr x) (.int z) = kvs') (h2 : wpO (u ρ T [.dic kvs']) N R) :
    wpO (seqS (dputS (getV 0) (cst (.str x)) m) u ρ T [.dic kvs]) N R := by
  rw [wp_seq, wp_dput]
  refine wpR_mono h fun r T' S' ⟨e1, e2, e3⟩ => ?_
  subst e1; subst e2; subst e3
  rw [wp_getV, h0, isV_s, wp_cst]
  refine ⟨0, x, rfl, rfl, hl, ?_⟩
  show wpO (u ρ T' [.dic (putD kvs (.inr x) (.int z))]) N R
  rw [hp]
  exact h2
end
theorem mod_nat {z : Int} {m : Nat} (h : 0 < m) : ∃ d : Nat, d < m ∧ z % (m : Int) = (d : Int) := by
  have e1 := Int.emod_nonneg z (show (m : Int) ≠ 0 by omega)
  have e2 := Int.emod_lt_of_pos z (show (0 : Int) < (m : Int) by omega)
  exact ⟨(z % (m : Int)).toNat, by omega, by omega⟩
theorem draw_wp {n m : Nat} {S : Sto} {Q : Rv → Sto → Prop} (f : Feed n S) (hn : n < 1000000000) (h0 : 0 < m) (h1 : m < 1073741824) (h : ∀ (d : Nat) S', d < m → Feed (n + 1) S' → Q (.v (.int d)) S') : wpF (f__law_draw [.loc 0, .v (.int m)] S) Q := by
  obtain ⟨cells, k, l, c, rfl, hk, hl, hc, hcn⟩ := f
  show wpF (fnRun (m__law_draw [some (.loc 0), some (.v (.int m)), none, none, none, none, none] [] _)) _
  have hm : (0 : Int) < (m : Int) := by omega
  have hm2 : (0 : Int) < (m : Int) ∧ (m : Int) < 1073741824 := by omega
  have fin : ∀ (z : Int) S', Feed (n + 1) S' → Q (.v (.int (z % (m : Int)))) S' := fun z S' hf => by
    obtain ⟨d, hd, e⟩ := mod_nat (z := z) h0
    rw [e]
    exact h d S' hd hf
  rw [wp_run]
  unfold m__law_draw
  refine step_dput rfl (len_feed _ _ _ _) (c + 1) ?_ (pd_count _ _ _ _ _) ?_
  · simp only [wp_seq, wp_skip, wp_ret, wp_drop, wp_set, wp_ifS, wp_par, wp_par3, wp_unp, wp_asg, wp_dput, wp_for, wp_getV, wp_cst, wp_bin, wp_asB, wp_notM, wp_andM, wp_orM, wp_andV, wp_orV, wp_notV, wp_ifM, wp_chn, wp_nilA, wp_consA, wp_callM, wp_callF, wp_tupM, wp_lstM, wp_ownM, wp_seqM, wp_methM, wp_lcM, wp_isiM, wp_isiN, wp_partN, wp_partS, wp_cutM, wp_rng1, wp_rng2, wp_negM, wp_revM, wp_dispM, wp_pnil, wp_pcons, wp_sortSetM, wp_run, wpF_ok, wpR_ok, wpR_bad, isB_b, isV_s, isS_s, isDic_d, wpF_ret, wpF_own, ob_l, ob_f, List.set_cons_zero, List.set_cons_succ, List.getElem?_cons_zero, List.getElem?_cons_succ, toAs, toA, toDs, toD, Bool.not_true, Bool.not_false, reduceIte, Bool.false_eq_true, if_false, if_true, wp_dget, fd_count, o_add_int]
    and_intros <;> first | rfl | trivial
  refine step_if (fun b T' S' => b = decide (0 < l) ∧ T' = [] ∧ S' = [.dic (feedKV cells k l (c + 1))]) ?_ ?_ ?_
  · simp only [wp_seq, wp_skip, wp_ret, wp_drop, wp_set, wp_ifS, wp_par, wp_par3, wp_unp, wp_asg, wp_dput, wp_for, wp_getV, wp_cst, wp_bin, wp_asB, wp_notM, wp_andM, wp_orM, wp_andV, wp_orV, wp_notV, wp_ifM, wp_chn, wp_nilA, wp_consA, wp_callM, wp_callF, wp_tupM, wp_lstM, wp_ownM, wp_seqM, wp_methM, wp_lcM, wp_isiM, wp_isiN, wp_partN, wp_partS, wp_cutM, wp_rng1, wp_rng2, wp_negM, wp_revM, wp_dispM, wp_pnil, wp_pcons, wp_sortSetM, wp_run, wpF_ok, wpR_ok, wpR_bad, isB_b, isV_s, isS_s, isDic_d, wpF_ret, wpF_own, ob_l, ob_f, List.set_cons_zero, List.set_cons_succ, List.getElem?_cons_zero, List.getElem?_cons_succ, toAs, toA, toDs, toD, Bool.not_true, Bool.not_false, reduceIte, Bool.false_eq_true, if_false, if_true, wp_dget, fd_left, o_gt_int]
    and_intros <;> first | rfl | trivial
  · rintro T' S' ⟨e, rfl, rfl⟩
    have hleft : 0 < l := of_decide_eq_true e.symm
    refine step_assoc (step_set (fun r T' S' => r = .v (.int (l % m)) ∧ T' = [] ∧ S' = [.dic (feedKV cells k l (c + 1))]) ?_ ?_)
    · simp only [wp_seq, wp_skip, wp_ret, wp_drop, wp_set, wp_ifS, wp_par, wp_par3, wp_unp, wp_asg, wp_dput, wp_for, wp_getV, wp_cst, wp_bin, wp_asB, wp_notM, wp_andM, wp_orM, wp_andV, wp_orV, wp_notV, wp_ifM, wp_chn, wp_nilA, wp_consA, wp_callM, wp_callF, wp_tupM, wp_lstM, wp_ownM, wp_seqM, wp_methM, wp_lcM, wp_isiM, wp_isiN, wp_partN, wp_partS, wp_cutM, wp_rng1, wp_rng2, wp_negM, wp_revM, wp_dispM, wp_pnil, wp_pcons, wp_sortSetM, wp_run, wpF_ok, wpR_ok, wpR_bad, isB_b, isV_s, isS_s, isDic_d, wpF_ret, wpF_own, ob_l, ob_f, List.set_cons_zero, List.set_cons_succ, List.getElem?_cons_zero, List.getElem?_cons_succ, toAs, toA, toDs, toD, Bool.not_true, Bool.not_false, reduceIte, Bool.false_eq_true, if_false, if_true, wp_dget, fd_left, wp_int, o_mod_int _ _ _ _ hm]
      and_intros <;> first | rfl | trivial
    rintro r T' S' ⟨rfl, rfl, rfl⟩
    refine step_assoc (step_dput rfl (len_feed _ _ _ _) (l / m) ?_ (pd_left _ _ _ _ _) (step_ret ?_))
    · simp only [wp_seq, wp_skip, wp_ret, wp_drop, wp_set, wp_ifS, wp_par, wp_par3, wp_unp, wp_asg, wp_dput, wp_for, wp_getV, wp_cst, wp_bin, wp_asB, wp_notM, wp_andM, wp_orM, wp_andV, wp_orV, wp_notV, wp_ifM, wp_chn, wp_nilA, wp_consA, wp_callM, wp_callF, wp_tupM, wp_lstM, wp_ownM, wp_seqM, wp_methM, wp_lcM, wp_isiM, wp_isiN, wp_partN, wp_partS, wp_cutM, wp_rng1, wp_rng2, wp_negM, wp_revM, wp_dispM, wp_pnil, wp_pcons, wp_sortSetM, wp_run, wpF_ok, wpR_ok, wpR_bad, isB_b, isV_s, isS_s, isDic_d, wpF_ret, wpF_own, ob_l, ob_f, List.set_cons_zero, List.set_cons_succ, List.getElem?_cons_zero, List.getElem?_cons_succ, toAs, toA, toDs, toD, Bool.not_true, Bool.not_false, reduceIte, Bool.false_eq_true, if_false, if_true, wp_dget, fd_left, o_div_int _ _ _ _ hm2]
      and_intros <;> first | rfl | trivial
    · simp only [wp_seq, wp_skip, wp_ret, wp_drop, wp_set, wp_ifS, wp_par, wp_par3, wp_unp, wp_asg, wp_dput, wp_for, wp_getV, wp_cst, wp_bin, wp_asB, wp_notM, wp_andM, wp_orM, wp_andV, wp_orV, wp_notV, wp_ifM, wp_chn, wp_nilA, wp_consA, wp_callM, wp_callF, wp_tupM, wp_lstM, wp_ownM, wp_seqM, wp_methM, wp_lcM, wp_isiM, wp_isiN, wp_partN, wp_partS, wp_cutM, wp_rng1, wp_rng2, wp_negM, wp_revM, wp_dispM, wp_pnil, wp_pcons, wp_sortSetM, wp_run, wpF_ok, wpR_ok, wpR_bad, isB_b, isV_s, isS_s, isDic_d, wpF_ret, wpF_own, ob_l, ob_f, List.set_cons_zero, List.set_cons_succ, List.getElem?_cons_zero, List.getElem?_cons_succ, toAs, toA, toDs, toD, Bool.not_true, Bool.not_false, reduceIte, Bool.false_eq_true, if_false, if_true]
      exact fin l _ ⟨cells, k, _, _, rfl, hk, Int.ediv_nonneg hl (by omega), by omega, by omega⟩
  · rintro T' S' ⟨e, rfl, rfl⟩
    refine step_skip ?_
    rw [wp_seq, wp_par]
    simp only [wp_consA, wp_nilA, wp_bin, wp_getV, wp_cst, List.getElem?_cons_zero, isV_s, wp_dget, fd_cells, fd_next, isS_s]
    refine ⟨_, _, rfl, ?_⟩
    refine step_dput rfl (len_feed _ _ _ _) (k + 1) ?_ (pd_next _ _ _ _ _) ?_
    · simp only [wp_seq, wp_skip, wp_ret, wp_drop, wp_set, wp_ifS, wp_par, wp_par3, wp_unp, wp_asg, wp_dput, wp_for, wp_getV, wp_cst, wp_bin, wp_asB, wp_notM, wp_andM, wp_orM, wp_andV, wp_orV, wp_notV, wp_ifM, wp_chn, wp_nilA, wp_consA, wp_callM, wp_callF, wp_tupM, wp_lstM, wp_ownM, wp_seqM, wp_methM, wp_lcM, wp_isiM, wp_isiN, wp_partN, wp_partS, wp_cutM, wp_rng1, wp_rng2, wp_negM, wp_revM, wp_dispM, wp_pnil, wp_pcons, wp_sortSetM, wp_run, wpF_ok, wpR_ok, wpR_bad, isB_b, isV_s, isS_s, isDic_d, wpF_ret, wpF_own, ob_l, ob_f, List.set_cons_zero, List.set_cons_succ, List.getElem?_cons_zero, List.getElem?_cons_succ, toAs, toA, toDs, toD, Bool.not_true, Bool.not_false, reduceIte, Bool.false_eq_true, if_false, if_true, o_add_int]
      and_intros <;> first | rfl | trivial
    refine step_set (fun r T' S' => ∃ z : Int, r = .v (.int z) ∧ T' = [] ∧ S' = [.dic (feedKV cells (k + 1) l (c + 1))]) ?_ ?_
    · simp only [wp_seq, wp_skip, wp_ret, wp_drop, wp_set, wp_ifS, wp_par, wp_par3, wp_unp, wp_asg, wp_dput, wp_for, wp_getV, wp_cst, wp_bin, wp_asB, wp_notM, wp_andM, wp_orM, wp_andV, wp_orV, wp_notV, wp_ifM, wp_chn, wp_nilA, wp_consA, wp_callM, wp_callF, wp_tupM, wp_lstM, wp_ownM, wp_seqM, wp_methM, wp_lcM, wp_isiM, wp_isiN, wp_partN, wp_partS, wp_cutM, wp_rng1, wp_rng2, wp_negM, wp_revM, wp_dispM, wp_pnil, wp_pcons, wp_sortSetM, wp_run, wpF_ok, wpR_ok, wpR_bad, isB_b, isV_s, isS_s, isDic_d, wpF_ret, wpF_own, ob_l, ob_f, List.set_cons_zero, List.set_cons_succ, List.getElem?_cons_zero, List.getElem?_cons_succ, toAs, toA, toDs, toD, Bool.not_true, Bool.not_false, reduceIte, Bool.false_eq_true, if_false, if_true, o_add_int, o_sub_int, o_lt_int, o_gt_int, o_le_int, o_ge_int, o_eq_int, o_ne_int, o_eq_nil, o_ne_nil, o_eq_nilT, o_eq_bool, o_ne_bool, o_lt_str, o_ge_str, wp_ixT, wp_ixL, wp_ixS, wp_lenT, wp_lenL, wp_lenS, o_in_sign, wp_newF, wp_newT, wp_itemsV, wp_itemsT, wp_itemsS, wp_cutT, wp_cutLi, wp_cutSt, wp_zipTT, atI_0, atI_1, atI_2, atI_3, atI_4, List.length_nil, Nat.zero_le, true_and, wp_int]
      cases cells with
      | nil => exact ⟨_, rfl, by first | exact ⟨rfl, rfl⟩ | trivial⟩
      | cons a r =>
        have hlen : (0 : Int) < (((a :: r).map PyData.int).length : Int) := by rw [List.length_map, List.length_cons]; omega
        simp only [List.map_cons, List.isEmpty_cons, Bool.not_false, if_true]
        rw [← List.map_cons, o_mod_int _ _ _ _ hlen, wpR_ok, wp_ixL]
        obtain ⟨x, hx, hm'⟩ := atI_lt ((a :: r).map PyData.int) (Int.emod_nonneg k (show (((a :: r).map PyData.int).length : Int) ≠ 0 by omega)) (Int.emod_lt_of_pos k hlen)
        rw [hx]
        obtain ⟨z, _, rfl⟩ := List.mem_map.mp hm'
        exact ⟨z, rfl, rfl, rfl⟩
    rintro r T' S' ⟨z, rfl, rfl, rfl⟩
    refine step_if (fun b T' S' => T' = [] ∧ S' = [.dic (feedKV cells (k + 1) l (c + 1))] ∧ (b = true → (10 : Int) ^ 18 ≤ z)) ?_ ?_ ?_
    · simp only [wp_seq, wp_skip, wp_ret, wp_drop, wp_set, wp_ifS, wp_par, wp_par3, wp_unp, wp_asg, wp_dput, wp_for, wp_getV, wp_cst, wp_bin, wp_asB, wp_notM, wp_andM, wp_orM, wp_andV, wp_orV, wp_notV, wp_ifM, wp_chn, wp_nilA, wp_consA, wp_callM, wp_callF, wp_tupM, wp_lstM, wp_ownM, wp_seqM, wp_methM, wp_lcM, wp_isiM, wp_isiN, wp_partN, wp_partS, wp_cutM, wp_rng1, wp_rng2, wp_negM, wp_revM, wp_dispM, wp_pnil, wp_pcons, wp_sortSetM, wp_run, wpF_ok, wpR_ok, wpR_bad, isB_b, isV_s, isS_s, isDic_d, wpF_ret, wpF_own, ob_l, ob_f, List.set_cons_zero, List.set_cons_succ, List.getElem?_cons_zero, List.getElem?_cons_succ, toAs, toA, toDs, toD, Bool.not_true, Bool.not_false, reduceIte, Bool.false_eq_true, if_false, if_true, o_add_int, o_sub_int, o_lt_int, o_gt_int, o_le_int, o_ge_int, o_eq_int, o_ne_int, o_eq_nil, o_ne_nil, o_eq_nilT, o_eq_bool, o_ne_bool, o_lt_str, o_ge_str, wp_ixT, wp_ixL, wp_ixS, wp_lenT, wp_lenL, wp_lenS, o_in_sign, wp_newF, wp_newT, wp_itemsV, wp_itemsT, wp_itemsS, wp_cutT, wp_cutLi, wp_cutSt, wp_zipTT, atI_0, atI_1, atI_2, atI_3, atI_4, o_pow_int _ _ 10 18 (by decide)]
      by_cases hz : (10 : Int) ^ (18 : Int).toNat ≤ z
      · rw [decide_eq_true hz, if_pos rfl]
        exact ⟨(by first | rfl | trivial), (by first | rfl | trivial), fun _ => hz⟩
      · rw [decide_eq_false hz, if_neg (by decide)]
        exact ⟨(by first | rfl | trivial), (by first | rfl | trivial), fun e => by cases e⟩
    · rintro T' S' ⟨rfl, rfl, hz⟩
      have hz := hz rfl
      have hz0 : 0 ≤ z := Int.le_trans (by decide) hz
      refine step_assoc (step_dput rfl (len_feed _ _ _ _) (z / m) ?_ (pd_left _ _ _ _ _) (step_ret ?_))
      · simp only [wp_seq, wp_skip, wp_ret, wp_drop, wp_set, wp_ifS, wp_par, wp_par3, wp_unp, wp_asg, wp_dput, wp_for, wp_getV, wp_cst, wp_bin, wp_asB, wp_notM, wp_andM, wp_orM, wp_andV, wp_orV, wp_notV, wp_ifM, wp_chn, wp_nilA, wp_consA, wp_callM, wp_callF, wp_tupM, wp_lstM, wp_ownM, wp_seqM, wp_methM, wp_lcM, wp_isiM, wp_isiN, wp_partN, wp_partS, wp_cutM, wp_rng1, wp_rng2, wp_negM, wp_revM, wp_dispM, wp_pnil, wp_pcons, wp_sortSetM, wp_run, wpF_ok, wpR_ok, wpR_bad, isB_b, isV_s, isS_s, isDic_d, wpF_ret, wpF_own, ob_l, ob_f, List.set_cons_zero, List.set_cons_succ, List.getElem?_cons_zero, List.getElem?_cons_succ, toAs, toA, toDs, toD, Bool.not_true, Bool.not_false, reduceIte, Bool.false_eq_true, if_false, if_true, o_div_int _ _ _ _ hm2]
        and_intros <;> first | rfl | trivial
      · simp only [wp_seq, wp_skip, wp_ret, wp_drop, wp_set, wp_ifS, wp_par, wp_par3, wp_unp, wp_asg, wp_dput, wp_for, wp_getV, wp_cst, wp_bin, wp_asB, wp_notM, wp_andM, wp_orM, wp_andV, wp_orV, wp_notV, wp_ifM, wp_chn, wp_nilA, wp_consA, wp_callM, wp_callF, wp_tupM, wp_lstM, wp_ownM, wp_seqM, wp_methM, wp_lcM, wp_isiM, wp_isiN, wp_partN, wp_partS, wp_cutM, wp_rng1, wp_rng2, wp_negM, wp_revM, wp_dispM, wp_pnil, wp_pcons, wp_sortSetM, wp_run, wpF_ok, wpR_ok, wpR_bad, isB_b, isV_s, isS_s, isDic_d, wpF_ret, wpF_own, ob_l, ob_f, List.set_cons_zero, List.set_cons_succ, List.getElem?_cons_zero, List.getElem?_cons_succ, toAs, toA, toDs, toD, Bool.not_true, Bool.not_false, reduceIte, Bool.false_eq_true, if_false, if_true, wp_int, o_mod_int _ _ _ _ hm]
        exact fin z _ ⟨cells, _, _, _, rfl, by omega, Int.ediv_nonneg hz0 (by omega), by omega, by omega⟩
    · rintro T' S' ⟨rfl, rfl, _⟩
      refine step_skip ?_
      have big : ∀ y : Int, 0 ≤ y → y < 10000000000 → y.natAbs < 2 ^ 400 := fun y h1 h2 => by
        have : (10000000000 : Nat) < 2 ^ 400 := by decide +kernel
        omega
      have mm : ∀ (y p : Int), 0 < p → p < 10000000000 → 0 ≤ y % p ∧ y % p < 10000000000 := fun y p h1 h2 => by
        have e1 := Int.emod_nonneg y (show p ≠ 0 by omega)
        have e2 := Int.emod_lt_of_pos y h1
        omega
      refine step_set (fun r T' S' => ∃ y : Int, r = .v (.int y) ∧ 0 ≤ y ∧ y < 10000000000 ∧ T' = [] ∧ S' = [.dic (feedKV cells (k + 1) l (c + 1))]) ?_ ?_
      · simp only [wp_seq, wp_skip, wp_ret, wp_drop, wp_set, wp_ifS, wp_par, wp_par3, wp_unp, wp_asg, wp_dput, wp_for, wp_getV, wp_cst, wp_bin, wp_asB, wp_notM, wp_andM, wp_orM, wp_andV, wp_orV, wp_notV, wp_ifM, wp_chn, wp_nilA, wp_consA, wp_callM, wp_callF, wp_tupM, wp_lstM, wp_ownM, wp_seqM, wp_methM, wp_lcM, wp_isiM, wp_isiN, wp_partN, wp_partS, wp_cutM, wp_rng1, wp_rng2, wp_negM, wp_revM, wp_dispM, wp_pnil, wp_pcons, wp_sortSetM, wp_run, wpF_ok, wpR_ok, wpR_bad, isB_b, isV_s, isS_s, isDic_d, wpF_ret, wpF_own, ob_l, ob_f, List.set_cons_zero, List.set_cons_succ, List.getElem?_cons_zero, List.getElem?_cons_succ, toAs, toA, toDs, toD, Bool.not_true, Bool.not_false, reduceIte, Bool.false_eq_true, if_false, if_true, wp_int, wp_dget, fd_count, o_mod_int _ _ _ 2147483629 (by decide), o_mod_int _ _ _ 2147483587 (by decide), o_mul_small _ _ 48271 (c + 1) (big _ (by decide) (by decide)) (big _ (by omega) (by omega)), o_add_int]
        exact ⟨_, (by first | rfl | trivial), (mm _ _ (by decide) (by decide)).1, (mm _ _ (by decide) (by decide)).2, (by first | rfl | trivial), (by first | rfl | trivial)⟩
      rintro r T' S' ⟨y, rfl, y0, y1, rfl, rfl⟩
      refine step_set (fun r T' S' => ∃ y : Int, r = .v (.int y) ∧ 0 ≤ y ∧ y < 10000000000 ∧ T' = [] ∧ S' = [.dic (feedKV cells (k + 1) l (c + 1))]) ?_ ?_
      · simp only [wp_seq, wp_skip, wp_ret, wp_drop, wp_set, wp_ifS, wp_par, wp_par3, wp_unp, wp_asg, wp_dput, wp_for, wp_getV, wp_cst, wp_bin, wp_asB, wp_notM, wp_andM, wp_orM, wp_andV, wp_orV, wp_notV, wp_ifM, wp_chn, wp_nilA, wp_consA, wp_callM, wp_callF, wp_tupM, wp_lstM, wp_ownM, wp_seqM, wp_methM, wp_lcM, wp_isiM, wp_isiN, wp_partN, wp_partS, wp_cutM, wp_rng1, wp_rng2, wp_negM, wp_revM, wp_dispM, wp_pnil, wp_pcons, wp_sortSetM, wp_run, wpF_ok, wpR_ok, wpR_bad, isB_b, isV_s, isS_s, isDic_d, wpF_ret, wpF_own, ob_l, ob_f, List.set_cons_zero, List.set_cons_succ, List.getElem?_cons_zero, List.getElem?_cons_succ, toAs, toA, toDs, toD, Bool.not_true, Bool.not_false, reduceIte, Bool.false_eq_true, if_false, if_true, wp_int, wp_dget, fd_count, o_mod_int _ _ _ 2147483563 (by decide), o_mul_small _ _ 69621 (c + 1) (big _ (by decide) (by decide)) (big _ (by omega) (by omega)), o_mul_small _ _ y y (big _ y0 y1) (big _ y0 y1), o_add_int]
        exact ⟨_, (by first | rfl | trivial), (mm _ _ (by decide) (by decide)).1, (mm _ _ (by decide) (by decide)).2, (by first | rfl | trivial), (by first | rfl | trivial)⟩
      rintro r T' S' ⟨y2, rfl, z0, z1, rfl, rfl⟩
      refine step_set (fun r T' S' => ∃ y : Int, r = .v (.int y) ∧ 0 ≤ y ∧ y < 10000000000 ∧ T' = [] ∧ S' = [.dic (feedKV cells (k + 1) l (c + 1))]) ?_ ?_
      · simp only [wp_seq, wp_skip, wp_ret, wp_drop, wp_set, wp_ifS, wp_par, wp_par3, wp_unp, wp_asg, wp_dput, wp_for, wp_getV, wp_cst, wp_bin, wp_asB, wp_notM, wp_andM, wp_orM, wp_andV, wp_orV, wp_notV, wp_ifM, wp_chn, wp_nilA, wp_consA, wp_callM, wp_callF, wp_tupM, wp_lstM, wp_ownM, wp_seqM, wp_methM, wp_lcM, wp_isiM, wp_isiN, wp_partN, wp_partS, wp_cutM, wp_rng1, wp_rng2, wp_negM, wp_revM, wp_dispM, wp_pnil, wp_pcons, wp_sortSetM, wp_run, wpF_ok, wpR_ok, wpR_bad, isB_b, isV_s, isS_s, isDic_d, wpF_ret, wpF_own, ob_l, ob_f, List.set_cons_zero, List.set_cons_succ, List.getElem?_cons_zero, List.getElem?_cons_succ, toAs, toA, toDs, toD, Bool.not_true, Bool.not_false, reduceIte, Bool.false_eq_true, if_false, if_true, wp_int, o_mod_int _ _ _ 2147483549 (by decide), o_mul_small _ _ 40692 y2 (big _ (by decide) (by decide)) (big _ z0 z1), o_mul_small _ _ y2 y2 (big _ z0 z1) (big _ z0 z1), o_add_int]
        exact ⟨_, (by first | rfl | trivial), (mm _ _ (by decide) (by decide)).1, (mm _ _ (by decide) (by decide)).2, (by first | rfl | trivial), (by first | rfl | trivial)⟩
      rintro r T' S' ⟨y3, rfl, w0, w1, rfl, rfl⟩
      simp only [wp_seq, wp_skip, wp_ret, wp_drop, wp_set, wp_ifS, wp_par, wp_par3, wp_unp, wp_asg, wp_dput, wp_for, wp_getV, wp_cst, wp_bin, wp_asB, wp_notM, wp_andM, wp_orM, wp_andV, wp_orV, wp_notV, wp_ifM, wp_chn, wp_nilA, wp_consA, wp_callM, wp_callF, wp_tupM, wp_lstM, wp_ownM, wp_seqM, wp_methM, wp_lcM, wp_isiM, wp_isiN, wp_partN, wp_partS, wp_cutM, wp_rng1, wp_rng2, wp_negM, wp_revM, wp_dispM, wp_pnil, wp_pcons, wp_sortSetM, wp_run, wpF_ok, wpR_ok, wpR_bad, isB_b, isV_s, isS_s, isDic_d, wpF_ret, wpF_own, ob_l, ob_f, List.set_cons_zero, List.set_cons_succ, List.getElem?_cons_zero, List.getElem?_cons_succ, toAs, toA, toDs, toD, Bool.not_true, Bool.not_false, reduceIte, Bool.false_eq_true, if_false, if_true, wp_int, o_div_int _ _ _ 64 (by decide), o_mod_int _ _ _ _ hm]
      exact fin _ _ ⟨cells, _, _, _, rfl, by omega, hl, by omega, by omega⟩
end RB.Law

end

/-! text KPick -/
section
set_option Elab.async false
set_option linter.all false
set_option maxRecDepth 100000
set_option maxHeartbeats 4000000
namespace RB.Law
open PySem PySem.Spec PyProof.Rows L2 RB
/-! ### picking -/
/-- what can be picked from -/
def Pool (pool : D) (P : D → Prop) : Prop := ∀ (n : Nat) (S : Sto) (Q : Rv → Sto → Prop), Feed n S → n < 1000000000 → (∀ x S', P x → Feed (n + 1) S' → Q (.v x) S') → wpF (f__law_pick [.loc 0, .v pool] S) Q
theorem Pool.mono {pool : D} {P P' : D → Prop} (h : Pool pool P) (m : ∀ x, P x → P' x) : Pool pool P' := fun n S Q f hn hQ => h n S Q f hn fun x S' hx => hQ x S' (m x hx)
theorem pool_list {xs : List D} (h0 : xs ≠ []) (h1 : xs.length < 1073741824) : Pool (.list xs) (· ∈ xs) := by
  intro n S Q f hn hQ
  have hl : 0 < xs.length := List.length_pos_iff.mpr h0
  show wpF (fnRun (m__law_pick [some (.loc 0), some (.v (.list xs))] [] S)) _
  simp only [m__law_pick, wp_seq, wp_skip, wp_ret, wp_drop, wp_set, wp_ifS, wp_par, wp_par3, wp_unp, wp_asg, wp_dput, wp_for, wp_getV, wp_cst, wp_bin, wp_asB, wp_notM, wp_andM, wp_orM, wp_andV, wp_orV, wp_notV, wp_ifM, wp_chn, wp_nilA, wp_consA, wp_callM, wp_callF, wp_tupM, wp_lstM, wp_ownM, wp_seqM, wp_methM, wp_lcM, wp_isiM, wp_isiN, wp_partN, wp_partS, wp_cutM, wp_rng1, wp_rng2, wp_negM, wp_revM, wp_dispM, wp_pnil, wp_pcons, wp_sortSetM, wp_run, wpF_ok, wpR_ok, wpR_bad, isB_b, isV_s, isS_s, isDic_d, wpF_ret, wpF_own, ob_l, ob_f, List.set_cons_zero, List.set_cons_succ, List.getElem?_cons_zero, List.getElem?_cons_succ, toAs, toA, toDs, toD, Bool.not_true, Bool.not_false, reduceIte, Bool.false_eq_true, if_false, if_true, wp_lenL]
  refine draw_wp f hn hl h1 fun d S' hd hf => ?_
  rw [wp_ixL, atI_nat, List.getElem?_eq_getElem hd, isS_s, wpF_ret]
  exact hQ _ _ (List.getElem_mem hd) hf
theorem pool_tup {xs : List D} (h0 : xs ≠ []) (h1 : xs.length < 1073741824) : Pool (.tuple xs) (· ∈ xs) := by
  intro n S Q f hn hQ
  have hl : 0 < xs.length := List.length_pos_iff.mpr h0
  show wpF (fnRun (m__law_pick [some (.loc 0), some (.v (.tuple xs))] [] S)) _
  simp only [m__law_pick, wp_seq, wp_skip, wp_ret, wp_drop, wp_set, wp_ifS, wp_par, wp_par3, wp_unp, wp_asg, wp_dput, wp_for, wp_getV, wp_cst, wp_bin, wp_asB, wp_notM, wp_andM, wp_orM, wp_andV, wp_orV, wp_notV, wp_ifM, wp_chn, wp_nilA, wp_consA, wp_callM, wp_callF, wp_tupM, wp_lstM, wp_ownM, wp_seqM, wp_methM, wp_lcM, wp_isiM, wp_isiN, wp_partN, wp_partS, wp_cutM, wp_rng1, wp_rng2, wp_negM, wp_revM, wp_dispM, wp_pnil, wp_pcons, wp_sortSetM, wp_run, wpF_ok, wpR_ok, wpR_bad, isB_b, isV_s, isS_s, isDic_d, wpF_ret, wpF_own, ob_l, ob_f, List.set_cons_zero, List.set_cons_succ, List.getElem?_cons_zero, List.getElem?_cons_succ, toAs, toA, toDs, toD, Bool.not_true, Bool.not_false, reduceIte, Bool.false_eq_true, if_false, if_true, wp_lenT]
  refine draw_wp f hn hl h1 fun d S' hd hf => ?_
  rw [wp_ixT, atI_nat, List.getElem?_eq_getElem hd, isS_s, wpF_ret]
  exact hQ _ _ (List.getElem_mem hd) hf
theorem pool_str {x : Str} (h0 : x.cps.toList ≠ []) (h1 : x.length ≤ 16777216) : Pool (.str x) (fun d => ∃ c ∈ x.cps.toList, d = .str ⟨#[c]⟩) := by
  intro n S Q f hn hQ
  have hl : 0 < x.length := List.length_pos_iff.mpr h0
  show wpF (fnRun (m__law_pick [some (.loc 0), some (.v (.str x))] [] S)) _
  simp only [m__law_pick, wp_seq, wp_skip, wp_ret, wp_drop, wp_set, wp_ifS, wp_par, wp_par3, wp_unp, wp_asg, wp_dput, wp_for, wp_getV, wp_cst, wp_bin, wp_asB, wp_notM, wp_andM, wp_orM, wp_andV, wp_orV, wp_notV, wp_ifM, wp_chn, wp_nilA, wp_consA, wp_callM, wp_callF, wp_tupM, wp_lstM, wp_ownM, wp_seqM, wp_methM, wp_lcM, wp_isiM, wp_isiN, wp_partN, wp_partS, wp_cutM, wp_rng1, wp_rng2, wp_negM, wp_revM, wp_dispM, wp_pnil, wp_pcons, wp_sortSetM, wp_run, wpF_ok, wpR_ok, wpR_bad, isB_b, isV_s, isS_s, isDic_d, wpF_ret, wpF_own, ob_l, ob_f, List.set_cons_zero, List.set_cons_succ, List.getElem?_cons_zero, List.getElem?_cons_succ, toAs, toA, toDs, toD, Bool.not_true, Bool.not_false, reduceIte, Bool.false_eq_true, if_false, if_true, wp_lenS, h1, true_and]
  refine draw_wp f hn hl (by omega) fun d S' hd hf => ?_
  have hd' : d < x.cps.toList.length := hd
  rw [wp_ixS, atI_nat, List.getElem?_eq_getElem hd', isS_s, wpF_ret]
  exact ⟨h1, hQ _ _ ⟨_, List.getElem_mem hd', rfl⟩ hf⟩
/-- [pick(feed, pool) for .. in ..] -/
theorem picks_wp {P : D → Prop} {pool : D} (hp : Pool pool P) {i j n : Nat} {ρ : Vn} {ds : List D} {T S : Sto} {Q : List D → Sto → Sto → Prop} (h0 : ρ[0]? = some (some (.loc 0))) (hj : ρ[j]? = some (some (.v pool))) (hi0 : i ≠ 0) (hij : i ≠ j)
    (f : Feed n S) (hn : n + ds.length < 1000000000) (hQ : ∀ rs S', rs.length = ds.length → (∀ r ∈ rs, P r) → Feed (n + ds.length) S' → Q rs T S') :
    wpR (compD (tgName i) yesM (callM (callF f__law_pick) (consA (getV 0) (consA (getV j) nilA))) ρ ds T S) Q := by
  refine wp_comp (fun k acc T' S' => k ≤ ds.length ∧ acc.length = k ∧ (∀ r ∈ acc, P r) ∧ T' = T ∧ Feed (n + k) S') ds 0 [] T S ⟨Nat.zero_le _, rfl, (by intro r h; cases h), rfl, f⟩ (fun k d acc T' S' hd ⟨hk, hl, ha, hT, hf⟩ => ?_) fun rs T' S' ⟨hk, hl, ha, hT, hf⟩ => ?_
  · have hlt := lt_of_get hd
    show wpR (yesM (ρ.set i (some (.v d))) T' S') _
    unfold yesM
    rw [wpR_ok, if_pos rfl, wp_callM, wp_consA, wp_getV, List.getElem?_set_ne hi0, h0, isV_s, wp_consA, wp_getV, List.getElem?_set_ne hij, hj, isV_s, wp_nilA, wp_callF]
    simp only [toAs, toA, isS_s]
    refine hp (n + (0 + k)) S' _ hf (by omega) fun x S2 hx hf2 => ?_
    refine ⟨by omega, by rw [List.length_append, hl]; rfl, fun r hr => ?_, hT, hf2⟩
    rcases List.mem_append.mp hr with z | z
    · exact ha r z
    · rw [List.mem_singleton] at z; subst z; exact hx
  · subst hT
    rw [List.nil_append] at hl ha
    rw [Nat.zero_add] at hl hf
    exact hQ rs S' hl ha hf
/-! ### names -/
def sgn (c : Nat) : Bool := letter c || digit c
structure Nm (l : List Nat) : Prop where
  len : l.length ≤ 8
  fst : ∃ c r, l = c :: r ∧ letter c = true
  all : ∀ c ∈ l, sgn c = true
theorem nameS_iff (x : Str) : nameS x = true ↔ Nm (TL.tl x) := by
  constructor
  · intro h
    unfold nameS at h
    simp only [Bool.and_eq_true, decide_eq_true_eq] at h
    obtain ⟨⟨⟨h1, h2⟩, h3⟩, h4⟩ := h
    refine ⟨h2, ?_, fun c hc => List.all_eq_true.mp h4 c hc⟩
    show ∃ c r, x.cps.toList = c :: r ∧ _
    cases e : x.cps.toList with
    | nil => rw [e] at h3; cases h3
    | cons c r => rw [e] at h3; exact ⟨c, r, rfl, h3⟩
  · rintro ⟨h1, ⟨c, r, h2, h3⟩, h4⟩
    have h2 : x.cps.toList = c :: r := h2
    unfold nameS
    have hl : x.length = (c :: r).length := by rw [← h2]; rfl
    rw [h2, hl]
    rw [List.length_cons] at hl
    have h1 : x.length ≤ 8 := h1
    have h4 : ∀ c ∈ x.cps.toList, sgn c = true := h4
    rw [h2] at h4
    simp only [Bool.and_eq_true, decide_eq_true_eq, List.length_cons]
    exact ⟨⟨⟨by omega, by omega⟩, h3⟩, List.all_eq_true.mpr h4⟩
def signsS : Str := Str.ofString "abcdefghijklmnopqrstuvwxyz0123456789"
theorem signs_len : (Str.ofString "abcdefghijklmnopqrstuvwxyz0123456789").length = 36 := by decide +kernel
theorem signs_mem36 {c : Nat} (h : c ∈ (Str.ofString "abcdefghijklmnopqrstuvwxyz0123456789").cps.toList) : sgn c = true := by
  have e : (Str.ofString "abcdefghijklmnopqrstuvwxyz0123456789").cps.toList = (Str.ofString "abcdefghijklmnopqrstuvwxyz").cps.toList ++ (Str.ofString "0123456789").cps.toList := by decide +kernel
  rw [e] at h
  unfold sgn letter digit signIn
  rw [Bool.or_eq_true, decide_eq_true_eq, decide_eq_true_eq]
  exact List.mem_append.mp h
theorem pool36 : Pool (.str (Str.ofString "abcdefghijklmnopqrstuvwxyz0123456789")) (fun d => ∃ c, sgn c = true ∧ d = .str ⟨#[c]⟩) :=
  (pool_str (by decide +kernel) (by rw [signs_len]; decide)).mono fun d ⟨c, hc, e⟩ => ⟨c, signs_mem36 hc, e⟩
/-- the first 26 signs are letters -/
theorem letter_at (d : Nat) (h : d < 26) : ∃ c, (Str.ofString "abcdefghijklmnopqrstuvwxyz0123456789").cps.toList[d]? = some c ∧ letter c = true := by
  have e : ∀ k : Fin 26, ∃ c, (Str.ofString "abcdefghijklmnopqrstuvwxyz0123456789").cps.toList[k.val]? = some c ∧ letter c = true := by
    intro k
    have : ((Str.ofString "abcdefghijklmnopqrstuvwxyz0123456789").cps.toList[k.val]?).any (fun c => letter c) = true := by revert k; decide +kernel
    cases e : (Str.ofString "abcdefghijklmnopqrstuvwxyz0123456789").cps.toList[k.val]? with
    | none => rw [e] at this; cases this
    | some c => rw [e] at this; exact ⟨c, rfl, this⟩
  exact e ⟨d, h⟩
theorem letter_sgn {c : Nat} (h : letter c = true) : sgn c = true := by unfold sgn; rw [h]; rfl
/-- one-sign texts joined -/
theorem join_signs : ∀ {rs : List D}, (∀ r ∈ rs, ∃ c, sgn c = true ∧ r = .str ⟨#[c]⟩) → ∃ ys : List Str, strsD rs = some ys ∧ ys.length = rs.length ∧ (ys.map (·.length)).sum = ys.length ∧ (∃ l : List Nat, TL.joinL [] (ys.map TL.tl) = l ∧ l.length = rs.length ∧ ∀ c ∈ l, sgn c = true)
  | [], _ => ⟨[], rfl, rfl, rfl, [], rfl, rfl, fun c h => by cases h⟩
  | r :: rs, h => by
    obtain ⟨c, hc, rfl⟩ := h r List.mem_cons_self
    obtain ⟨ys, h1, h2, h3, l, h4, h5, h6⟩ := join_signs (rs := rs) fun r hr => h r (List.mem_cons_of_mem _ hr)
    refine ⟨⟨#[c]⟩ :: ys, by show (strsD rs).map _ = _; rw [h1]; rfl, by rw [List.length_cons, List.length_cons, h2], ?_, c :: l, ?_, by rw [List.length_cons, List.length_cons, h5], fun x hx => ?_⟩
    · rw [List.map_cons, List.sum_cons, h3, List.length_cons]
      show 1 + ys.length = ys.length + 1
      omega
    · cases ys with
      | nil =>
        have : l = [] := h4.symm
        subst this
        rfl
      | cons y ys =>
        show [c] ++ ([] ++ TL.joinL [] ((y :: ys).map TL.tl)) = c :: l
        rw [h4]
        rfl
    · rcases List.mem_cons.mp hx with z | z
      · subst z; exact hc
      · exact h6 x z
theorem wp_joinM {Q : Rv → Sto → Sto → Prop} {ρ : Vn} {T S : Sto} (me : EM Rv) : wpR (joinM (cst (.str (Str.ofString ""))) me ρ T S) Q = wpR (me ρ T S) fun e T S => wpR (match look e T S with
    | some (.list xs) => (match strsD xs with
      | some ys => if (ys.map (·.length)).sum + ys.length * (Str.ofString "").length ≤ 16777216 then .ok (.v (.str (Txt.join (Str.ofString "") ys))) T S else .bad
      | none => .bad)
    | some (.tuple xs) => (match strsD xs with
      | some ys => if (ys.map (·.length)).sum + ys.length * (Str.ofString "").length ≤ 16777216 then .ok (.v (.str (Txt.join (Str.ofString "") ys))) T S else .bad
      | none => .bad)
    | _ => .bad) Q := by
  unfold joinM
  rw [wpR_bind, wp_cst]
  show wpR ((me ρ T S).bind _) Q = _
  rw [wpR_bind]
  try rfl
theorem join_wp {Q : Rv → Sto → Sto → Prop} {ρ : Vn} {T S : Sto} {me : EM Rv} (h : wpR (me ρ T S) fun r T' S' => ∃ rs : List D, look r T' S' = some (.list rs) ∧ rs.length ≤ 1000 ∧ (∀ r ∈ rs, ∃ c, sgn c = true ∧ r = .str ⟨#[c]⟩) ∧ ∀ x : Str, (TL.tl x).length = rs.length → (∀ c ∈ TL.tl x, sgn c = true) → Q (.v (.str x)) T' S') :
    wpR (joinM (cst (.str (Str.ofString ""))) me ρ T S) Q := by
  rw [wp_joinM]
  refine wpR_mono h fun r T' S' ⟨rs, e, hl, hr, hQ⟩ => ?_
  rw [e]
  obtain ⟨ys, h1, h2, h3, l, h4, h5, h6⟩ := join_signs hr
  show wpR (match strsD rs with
      | some ys => if (ys.map (·.length)).sum + ys.length * (Str.ofString "").length ≤ 16777216 then .ok (.v (.str (Txt.join (Str.ofString "") ys))) T' S' else .bad
      | none => .bad) Q
  rw [h1]
  show wpR (if _ then _ else _) Q
  have e0 : (Str.ofString "").length = 0 := by decide +kernel
  have e1 : TL.tl (Txt.join (Str.ofString "") ys) = l := by
    rw [TL.join_eq, TL.tl_join, ← h4]
    have : TL.tl (Str.ofString "") = [] := by decide +kernel
    rw [this]
  rw [if_pos (by rw [h3, h2, e0]; omega), wpR_ok]
  exact hQ _ (by rw [e1, h5]) (by rw [e1]; exact h6)
end RB.Law

end

/-! text KNames -/
section
set_option Elab.async false
set_option linter.all false
set_option maxRecDepth 100000
set_option maxHeartbeats 4000000
namespace RB.Law
open PySem PySem.Spec PyProof.Rows L2 RB
abbrev s36 : Str := Str.ofString "abcdefghijklmnopqrstuvwxyz0123456789"
def wordsL : List D := [.str (Str.ofString "source"), .str (Str.ofString "party"), .str (Str.ofString "unlike"), .str (Str.ofString "build"), .str (Str.ofString "steady"), .str (Str.ofString "loose"), .str (Str.ofString "n0"), .str (Str.ofString "n10"), .str (Str.ofString "n9"), .str (Str.ofString "a"), .str (Str.ofString "ab"), .str (Str.ofString "abc"), .str (Str.ofString "a0"), .str (Str.ofString "z9")]
theorem words_ok : ∀ x ∈ wordsL, ∃ s, x = .str s ∧ nameS s = true := by
  have h : wordsL.all nameB = true := by decide +kernel
  intro x hx
  have := List.all_eq_true.mp h x hx
  cases x <;> first | exact ⟨_, rfl, this⟩ | cases this
theorem cutS_tl (z : Str) (lo hi : Option Int) : TL.tl (cutS z lo hi) = cutL (TL.tl z) lo hi := rfl
theorem cut_pre {α : Type} (xs : List α) (k : Nat) (h : k ≤ xs.length) : cutL xs none (some (k : Int)) = xs.take k := by
  unfold cutL
  rw [HT.sIx_nat, HT.sIx_none, List.drop_zero, Nat.sub_zero, Nat.min_eq_left h]
theorem cut_suf {α : Type} (xs : List α) (k : Nat) (h : k ≤ xs.length) : cutL xs (some (k : Int)) none = xs.drop k := by
  unfold cutL
  rw [HT.sIx_nat, HT.sIx_none, Nat.min_eq_left h, List.take_of_length_le]
  rw [List.length_drop]; omega
/-- a name made of a stem -/
theorem nm_put {l : List Nat} {k c : Nat} (hl : l.length ≤ 7) (h1 : 1 ≤ k) (h2 : k ≤ l.length) (hf : ∃ c r, l = c :: r ∧ letter c = true) (ha : ∀ c ∈ l, sgn c = true) (hc : sgn c = true) : Nm (l.take k ++ [c] ++ l.drop k) := by
  obtain ⟨a, r, rfl, hlet⟩ := hf
  refine ⟨?_, ?_, fun x hx => ?_⟩
  · rw [List.length_append, List.length_append, List.length_take, List.length_drop, List.length_singleton]
    omega
  · obtain ⟨j, rfl⟩ : ∃ j, k = j + 1 := ⟨k - 1, by omega⟩
    exact ⟨a, r.take j ++ [c] ++ r.drop j, rfl, hlet⟩
  · rcases List.mem_append.mp hx with z | z
    · rcases List.mem_append.mp z with z | z
      · exact ha x (List.mem_of_mem_take z)
      · rw [List.mem_singleton] at z; subst z; exact hc
    · exact ha x (List.mem_of_mem_drop z)
/-- what stands between two turns of the loop -/
def NamesI (n many way size cut : Nat) (stem : Str) (i : Nat) (ρ : Vn) (T S : Sto) : Prop :=
  ∃ (x7 x10 x11 x12 x13 : Option Rv) (w : Ob) (ss : List Str), ρ = [some (.loc 0), some (.v (.int many)), some (.v (.str s36)), some (.own 0), some (.v (.int way)), some (.v (.int size)), some (.own 1), x7, some (.v (.str stem)), some (.v (.int cut)), x10, x11, x12, x13] ∧
    T = [w, .lst (ss.map .str)] ∧ (w = .lst wordsL ∨ w = .frz wordsL) ∧ ss.length = i ∧ ss.Nodup ∧ (∀ s ∈ ss, nameS s = true) ∧ Feed (n + 11 + 12 * i) S
theorem any_str (ss : List Str) (s : Str) : ((ss.map PyData.str).any fun y => PyData.eqv y (.str s)) = decide (s ∈ ss) := by
  rw [List.any_map, Bool.eq_iff_iff, List.any_eq_true, decide_eq_true_eq]
  constructor
  · rintro ⟨x, hx, h⟩
    have : x = s := by simpa [PyData.eqv] using h
    subst this; exact hx
  · intro h
    exact ⟨s, h, by simp [PyData.eqv]⟩
theorem depth_strs : ∀ ss : List Str, PyData.depthAll (ss.map PyData.str) = 0
  | [] => by simp [PyData.depthAll]
  | x :: ss => by
    show PyData.depthAll (.str x :: ss.map PyData.str) = 0
    rw [PyData.depthAll, depth_strs ss]
    simp [PyData.depth]
theorem in_found (neg : Bool) (s : Str) (w : Ob) (ss : List Str) (S : Sto) : o_in neg (.v (.str s)) (.own 1) [w, .lst (ss.map .str)] S = .ok (.v (.bool (if neg then !decide (s ∈ ss) else decide (s ∈ ss)))) [w, .lst (ss.map .str)] S := by
  show (if min (PyData.depthAll (ss.map .str)) (PyData.depth (.str s)) ≤ 60 then _ else _) = _
  rw [if_pos (by rw [depth_strs]; omega), any_str]
theorem len_sub {α : Type} [DecidableEq α] : ∀ (l m : List α), l.Nodup → (∀ x ∈ l, x ∈ m) → l.length ≤ m.length
  | [], _, _, _ => Nat.zero_le _
  | x :: l, m, nd, h => by
    have hx := h x List.mem_cons_self
    have nd' := List.nodup_cons.mp nd
    have ih := len_sub l (m.erase x) nd'.2 fun y hy => (List.mem_erase_of_ne (fun e => nd'.1 (by rw [← e]; exact hy))).mpr (h y (List.mem_cons_of_mem _ hy))
    rw [List.length_erase_of_mem hx] at ih
    have := List.length_pos_of_mem hx
    rw [List.length_cons]
    omega
def lets : List Str := (Str.ofString "abcdefghijklmnopqrstuvwxyz").cps.toList.map fun c => ⟨#[c]⟩
theorem lets_nd : lets.Nodup := by decide +kernel
theorem lets_len : lets.length = 26 := by decide +kernel
theorem lets_name : ∀ s ∈ lets, nameS s = true := by
  have h : lets.all nameS = true := by decide +kernel
  exact fun s hs => List.all_eq_true.mp h s hs
theorem cut26' : cutS s36 none (some 26) = Str.ofString "abcdefghijklmnopqrstuvwxyz" := by decide +kernel
theorem signs_lets : signs (Str.ofString "abcdefghijklmnopqrstuvwxyz") = lets.map .str := by
  unfold signs lets
  rw [List.map_map]
  rfl
theorem s36_len : s36.length ≤ 16777216 := by rw [signs_len]; decide
/-- one turn -/
theorem names_turn {n many way size cut : Nat} {stem : Str} {i : Nat} {d : D} {ρ : Vn} {T S : Sto} {body : SM} {R : Rv → Sto → Sto → Prop} (hi : i < 7) (hn : n < 900000000) (hc1 : 1 ≤ cut) (hc2 : cut ≤ (TL.tl stem).length) (hs : (TL.tl stem).length ≤ 7) (hf : ∃ c r, TL.tl stem = c :: r ∧ letter c = true) (ha : ∀ c ∈ TL.tl stem, sgn c = true)
    (hI : NamesI n many way size cut stem i ρ T S)
    (hb : body = (seqS (setS 10 (bin o_add (bin o_add (cutM (getV 8) none (some (getV 9))) (callM (callF f__law_pick) (consA (getV 0) (consA (getV 2) nilA)))) (cutM (getV 8) (some (getV 9)) none)))
    (seqS (ifS (asB (bin o_eq (getV 4) (cst (.int (1))))) (setS 10 (callM (callF f__law_pick) (consA (getV 0) (consA (getV 3) nilA)))) skipS)
    (seqS (ifS (asB (bin o_eq (getV 4) (cst (.int (2))))) (seqS (setS 11 (lcM false (rng1 (consA (callM (callF f__law_draw) (consA (getV 0) (consA (cst (.int (8))) nilA))) nilA)) (tgName 12) yesM (callM (callF f__law_pick) (consA (getV 0) (consA (getV 2) nilA))) [12]))
    (setS 10 (bin o_add (bin o_ix (getV 2) (callM (callF f__law_draw) (consA (getV 0) (consA (cst (.int (26))) nilA)))) (joinM (cst (.str (Str.ofString ""))) (getV 11))))) skipS)
    (seqS (ifS (asB (bin (o_in false) (getV 10) (getV 6))) (setS 10 (bin o_ix (lcM false (seqM (cutM (getV 2) none (some (cst (.int (26)))))) (tgName 13) (asB (bin (o_in true) (getV 13) (getV 6))) (getV 13) [13]) (cst (.int (0))))) skipS)
    (dropS (methM isL appendR (getV 6) (consA (getV 10) nilA)))))))) :
    isS (tgName 7 d ρ) fun ρ' => wpO (body ρ' T S) (NamesI n many way size cut stem (i + 1)) R := by
  obtain ⟨x7, x10, x11, x12, x13, w, ss, rfl, rfl, hw, hl, nd, hnm, f⟩ := hI
  subst hb
  show wpO (seqS _ _ [some (.loc 0), some (.v (.int many)), some (.v (.str s36)), some (.own 0), some (.v (.int way)), some (.v (.int size)), some (.own 1), some (.v d), some (.v (.str stem)), some (.v (.int cut)), x10, x11, x12, x13] _ _) _ _
  have hsl : stem.length ≤ 16777216 := by
    have : stem.length = (TL.tl stem).length := rfl
    omega
  -- the name by the stem
  refine step_set (fun r T' S' => ∃ s : Str, r = .v (.str s) ∧ nameS s = true ∧ T' = [w, .lst (ss.map .str)] ∧ Feed (n + 11 + 12 * i + 1) S') ?_ ?_
  · simp only [wp_seq, wp_skip, wp_ret, wp_drop, wp_set, wp_ifS, wp_par, wp_par3, wp_unp, wp_asg, wp_dput, wp_for, wp_getV, wp_cst, wp_bin, wp_asB, wp_notM, wp_andM, wp_orM, wp_andV, wp_orV, wp_notV, wp_ifM, wp_chn, wp_nilA, wp_consA, wp_callM, wp_callF, wp_tupM, wp_lstM, wp_ownM, wp_seqM, wp_methM, wp_lcM, wp_isiM, wp_isiN, wp_partN, wp_partS, wp_cutM, wp_rng1, wp_rng2, wp_negM, wp_revM, wp_dispM, wp_pnil, wp_pcons, wp_sortSetM, wp_run, wpF_ok, wpR_ok, wpR_bad, isB_b, isV_s, isS_s, isDic_d, wpF_ret, wpF_own, ob_l, ob_f, List.set_cons_zero, List.set_cons_succ, List.getElem?_cons_zero, List.getElem?_cons_succ, toAs, toA, toDs, toD, Bool.not_true, Bool.not_false, reduceIte, Bool.false_eq_true, if_false, if_true, o_add_int, o_sub_int, o_lt_int, o_gt_int, o_le_int, o_ge_int, o_eq_int, o_ne_int, o_eq_nil, o_ne_nil, o_eq_nilT, o_eq_bool, o_ne_bool, o_lt_str, o_ge_str, wp_ixT, wp_ixL, wp_ixS, wp_lenT, wp_lenL, wp_lenS, o_in_sign, wp_newF, wp_newT, wp_itemsV, wp_itemsT, wp_itemsS, wp_cutT, wp_cutLi, wp_cutSt, wp_zipTT, atI_0, atI_1, atI_2, atI_3, atI_4, hsl, true_and]
    refine ⟨_, rfl, ?_⟩
    refine pool36 _ _ _ f (by omega) fun x S' ⟨c, hc, e⟩ f' => ?_
    subst e
    have e1 : (cutS stem none (some (cut : Int))).length = cut := by
      show (TL.tl (cutS stem none (some (cut : Int)))).length = cut
      rw [cutS_tl, cut_pre _ _ hc2, List.length_take]; omega
    have e2 : (cutS stem (some (cut : Int)) none).length ≤ 7 := by
      show (TL.tl (cutS stem (some (cut : Int)) none)).length ≤ 7
      rw [cutS_tl, cut_suf _ _ hc2, List.length_drop]; omega
    have e4 : (⟨#[c]⟩ : Str).length = 1 := rfl
    simp only [o_add, wpR_ite, wp_seq, wp_skip, wp_ret, wp_drop, wp_set, wp_ifS, wp_par, wp_par3, wp_unp, wp_asg, wp_dput, wp_for, wp_getV, wp_cst, wp_bin, wp_asB, wp_notM, wp_andM, wp_orM, wp_andV, wp_orV, wp_notV, wp_ifM, wp_chn, wp_nilA, wp_consA, wp_callM, wp_callF, wp_tupM, wp_lstM, wp_ownM, wp_seqM, wp_methM, wp_lcM, wp_isiM, wp_isiN, wp_partN, wp_partS, wp_cutM, wp_rng1, wp_rng2, wp_negM, wp_revM, wp_dispM, wp_pnil, wp_pcons, wp_sortSetM, wp_run, wpF_ok, wpR_ok, wpR_bad, isB_b, isV_s, isS_s, isDic_d, wpF_ret, wpF_own, ob_l, ob_f, List.set_cons_zero, List.set_cons_succ, List.getElem?_cons_zero, List.getElem?_cons_succ, toAs, toA, toDs, toD, Bool.not_true, Bool.not_false, reduceIte, Bool.false_eq_true, if_false, if_true]
    refine ⟨by omega, _, rfl, ?_⟩
    have e3 : (cutS stem none (some (cut : Int)) ++ (⟨#[c]⟩ : Str)).length = cut + 1 := by
      show (TL.tl (cutS stem none (some (cut : Int)) ++ (⟨#[c]⟩ : Str))).length = cut + 1
      rw [TL.tl_append, List.length_append]
      show (cutS stem none (some (cut : Int))).length + 1 = _
      omega
    refine ⟨by omega, _, (by first | rfl | trivial), (nameS_iff _).mpr ?_, (by first | rfl | trivial), f'⟩
    rw [TL.tl_append, TL.tl_append, cutS_tl, cutS_tl, cut_pre _ _ hc2, cut_suf _ _ hc2]
    exact nm_put hs hc1 hc2 hf ha hc
  rintro r T' S' ⟨s, rfl, hs1, rfl, f1⟩
  -- a word
  refine step_mid (fun ρ' T' S' => ∃ s w, nameS s = true ∧ (w = .lst wordsL ∨ w = .frz wordsL) ∧ ρ' = [some (.loc 0), some (.v (.int many)), some (.v (.str s36)), some (.own 0), some (.v (.int way)), some (.v (.int size)), some (.own 1), some (.v d), some (.v (.str stem)), some (.v (.int cut)), some (.v (.str s)), x11, x12, x13] ∧ T' = [w, .lst (ss.map .str)] ∧ Feed (n + 11 + 12 * i + 2) S') ?_ ?_
  · rw [wp_ifS]
    simp only [wp_seq, wp_skip, wp_ret, wp_drop, wp_set, wp_ifS, wp_par, wp_par3, wp_unp, wp_asg, wp_dput, wp_for, wp_getV, wp_cst, wp_bin, wp_asB, wp_notM, wp_andM, wp_orM, wp_andV, wp_orV, wp_notV, wp_ifM, wp_chn, wp_nilA, wp_consA, wp_callM, wp_callF, wp_tupM, wp_lstM, wp_ownM, wp_seqM, wp_methM, wp_lcM, wp_isiM, wp_isiN, wp_partN, wp_partS, wp_cutM, wp_rng1, wp_rng2, wp_negM, wp_revM, wp_dispM, wp_pnil, wp_pcons, wp_sortSetM, wp_run, wpF_ok, wpR_ok, wpR_bad, isB_b, isV_s, isS_s, isDic_d, wpF_ret, wpF_own, ob_l, ob_f, List.set_cons_zero, List.set_cons_succ, List.getElem?_cons_zero, List.getElem?_cons_succ, toAs, toA, toDs, toD, Bool.not_true, Bool.not_false, reduceIte, Bool.false_eq_true, if_false, if_true, o_eq_int]
    by_cases hway : (way : Int) = 1
    · rw [decide_eq_true hway, if_pos rfl]
      have go : ∀ T'' : Sto, (T'' = [Ob.frz wordsL, Ob.lst (ss.map .str)]) → wpF (f__law_pick [.loc 0, .v (.list wordsL)] S') fun r S'' => ∃ (s : Str) (w : Ob), nameS s = true ∧ (w = .lst wordsL ∨ w = .frz wordsL) ∧ [some (.loc 0), some (.v (.int many)), some (.v (.str s36)), some (.own 0), some (.v (.int way)), some (.v (.int size)), some (.own 1), some (.v d), some (.v (.str stem)), some (.v (.int cut)), some r, x11, x12, x13] = [some (.loc 0), some (.v (.int many)), some (.v (.str s36)), some (.own 0), some (.v (.int way)), some (.v (.int size)), some (.own 1), some (.v d), some (.v (.str stem)), some (.v (.int cut)), some (.v (.str s)), x11, x12, x13] ∧ T'' = [w, .lst (ss.map .str)] ∧ Feed (n + 11 + 12 * i + 2) S'' := fun T'' hT => by
        refine pool_list (xs := wordsL) (by simp [wordsL]) (by simp [wordsL]) _ _ _ f1 (by omega) fun x S2 hx f2 => ?_
        obtain ⟨s2, rfl, hs2⟩ := words_ok x hx
        exact ⟨s2, _, hs2, .inr rfl, rfl, hT, f2⟩
      rcases hw with rfl | rfl
      · exact go _ rfl
      · exact go _ rfl
    · rw [decide_eq_false hway, if_neg (by decide)]
      exact ⟨s, w, hs1, hw, rfl, rfl, f1.mono (by omega)⟩
  rintro ρ' T' S' ⟨s, w, hs1, hw, rfl, rfl, f1⟩
  -- signs at random
  refine step_mid (fun ρ' T' S' => ∃ s x11 , nameS s = true ∧ ρ' = [some (.loc 0), some (.v (.int many)), some (.v (.str s36)), some (.own 0), some (.v (.int way)), some (.v (.int size)), some (.own 1), some (.v d), some (.v (.str stem)), some (.v (.int cut)), some (.v (.str s)), x11, x12, x13] ∧ T' = [w, .lst (ss.map .str)] ∧ Feed (n + 11 + 12 * i + 11) S') ?_ ?_
  · rw [wp_ifS]
    simp only [wp_asB, wp_bin, wp_getV, wp_cst, List.getElem?_cons_zero, List.getElem?_cons_succ, isV_s, o_eq_int, wpR_ok, isB_b]
    by_cases hway : (way : Int) = 2
    · rw [decide_eq_true hway, if_pos rfl]
      refine step_set (fun r T' S' => ∃ rs : List D, r = .v (.list rs) ∧ rs.length ≤ 7 ∧ (∀ r ∈ rs, ∃ c, sgn c = true ∧ r = .str ⟨#[c]⟩) ∧ T' = [w, .lst (ss.map .str)] ∧ Feed (n + 11 + 12 * i + 10) S') ?_ ?_
      · simp only [wp_seq, wp_skip, wp_ret, wp_drop, wp_set, wp_ifS, wp_par, wp_par3, wp_unp, wp_asg, wp_dput, wp_for, wp_getV, wp_cst, wp_bin, wp_asB, wp_notM, wp_andM, wp_orM, wp_andV, wp_orV, wp_notV, wp_ifM, wp_chn, wp_nilA, wp_consA, wp_callM, wp_callF, wp_tupM, wp_lstM, wp_ownM, wp_seqM, wp_methM, wp_lcM, wp_isiM, wp_isiN, wp_partN, wp_partS, wp_cutM, wp_rng1, wp_rng2, wp_negM, wp_revM, wp_dispM, wp_pnil, wp_pcons, wp_sortSetM, wp_run, wpF_ok, wpR_ok, wpR_bad, isB_b, isV_s, isS_s, isDic_d, wpF_ret, wpF_own, ob_l, ob_f, List.set_cons_zero, List.set_cons_succ, List.getElem?_cons_zero, List.getElem?_cons_succ, toAs, toA, toDs, toD, Bool.not_true, Bool.not_false, reduceIte, Bool.false_eq_true, if_false, if_true]
        refine draw_wp f1 (by omega) (m := 8) (by decide) (by decide) fun k S2 hk f2 => ?_
        refine ⟨_, rfl, by omega, ?_⟩
        refine picks_wp pool36 rfl rfl (by decide) (by decide) f2 ?_ fun rs S3 hl3 hr3 f3 => ?_
        · unfold intsD; rw [List.length_map, List.length_range]; omega
        · unfold intsD at hl3 f3
          rw [List.length_map, List.length_range] at hl3 f3
          rw [wp_newF]
          exact ⟨by omega, rs, rfl, by omega, hr3, rfl, f3.mono (by omega)⟩
      rintro r T' S' ⟨rs, rfl, hl, hr, rfl, f3⟩
      simp only [wp_set, wp_bin, wp_getV, wp_callM, wp_consA, wp_cst, wp_nilA, wp_callF, List.set_cons_zero, List.set_cons_succ, List.getElem?_cons_zero, List.getElem?_cons_succ, isV_s, toAs, toA, isS_s]
      refine draw_wp f3 (by omega) (m := 26) (by decide) (by decide) fun k S2 hk f4 => ?_
      obtain ⟨c, hc, hlet⟩ := letter_at k hk
      rw [wp_ixS, atI_nat, hc, isS_s]
      refine ⟨s36_len, join_wp ?_⟩
      rw [wp_getV]
      simp only [List.getElem?_cons_zero, List.getElem?_cons_succ, isV_s]
      refine ⟨rs, rfl, by omega, hr, fun x hx1 hx2 => ?_⟩
      have e4 : (⟨#[c]⟩ : Str).length = 1 := rfl
      have e5 : x.length = (TL.tl x).length := rfl
      simp only [o_add, wpR_ite, wpR_ok]
      refine ⟨by omega, _, _, (nameS_iff _).mpr ?_, (by first | rfl | trivial), (by first | rfl | trivial), f4⟩
      rw [TL.tl_append]
      refine ⟨by rw [List.length_append]; show 1 + _ ≤ 8; omega, ⟨c, TL.tl x, rfl, hlet⟩, fun y hy => ?_⟩
      rcases List.mem_append.mp hy with z | z
      · have : y = c := by simpa using z
        subst this; exact letter_sgn hlet
      · exact hx2 y z
    · rw [decide_eq_false hway, if_neg (by decide)]
      rw [wp_skip]
      exact ⟨s, _, hs1, rfl, rfl, f1.mono (by omega)⟩
  rintro ρ' T' S' ⟨s, x11', hs1, rfl, rfl, f2⟩
  -- one that is not there yet
  refine step_mid (fun ρ' T' S' => ∃ s, nameS s = true ∧ s ∉ ss ∧ ρ' = [some (.loc 0), some (.v (.int many)), some (.v (.str s36)), some (.own 0), some (.v (.int way)), some (.v (.int size)), some (.own 1), some (.v d), some (.v (.str stem)), some (.v (.int cut)), some (.v (.str s)), x11', x12, x13] ∧ T' = [w, .lst (ss.map .str)] ∧ Feed (n + 11 + 12 * i + 11) S') ?_ ?_
  · rw [wp_ifS]
    simp only [wp_asB, wp_bin, wp_getV, wp_cst, List.getElem?_cons_zero, List.getElem?_cons_succ, isV_s, in_found, wpR_ok, isB_b, if_false, Bool.false_eq_true]
    by_cases hin : s ∈ ss
    · rw [decide_eq_true hin, if_pos rfl]
      simp only [wp_set, wp_bin, wp_lcM, wp_seqM, wp_cutM, wp_partN, wp_partS, wp_cst, wp_getV, List.set_cons_zero, List.set_cons_succ, List.getElem?_cons_zero, List.getElem?_cons_succ, isV_s, wp_cutSt, s36_len, true_and]
      refine ⟨_, rfl, ?_⟩
      rw [cut26', wp_itemsS, signs_lets]
      rw [comp_pure (p := fun e => match e with | .str s => !decide (s ∈ ss) | _ => false) (f := fun e => e)]
      · rw [wpR_ok, wp_newF, List.map_id']
        refine ⟨Nat.le_trans (List.length_filter_le _ _) (by rw [List.length_map, lets_len]; decide), ?_⟩
        rw [wp_ixL, atI_0]
        cases e : (List.filter (fun e => match e with | .str s => !decide (s ∈ ss) | _ => false) (lets.map PyData.str)) with
        | nil =>
          exfalso
          have all : ∀ x ∈ lets, x ∈ ss := fun x hx => by
            have := List.filter_eq_nil_iff.mp e (.str x) (List.mem_map.mpr ⟨x, hx, rfl⟩)
            simpa using this
          have := len_sub lets ss lets_nd all
          rw [lets_len] at this
          omega
        | cons y ys =>
          have hy : y ∈ (List.filter (fun e => match e with | .str s => !decide (s ∈ ss) | _ => false) (lets.map PyData.str)) := by rw [e]; exact List.mem_cons_self
          obtain ⟨h1, h2⟩ := List.mem_filter.mp hy
          obtain ⟨s2, hs2, rfl⟩ := List.mem_map.mp h1
          have h2 : s2 ∉ ss := by simpa using h2
          exact ⟨s2, lets_name s2 hs2, h2, rfl, rfl, f2⟩
      · intro e he
        obtain ⟨s2, hs2, rfl⟩ := List.mem_map.mp he
        refine ⟨wpR_eq ?_, fun _ => rfl⟩
        simp only [tgName, wipeV, wp_asB, wp_bin, wp_getV, List.set_cons_zero, List.set_cons_succ, List.getElem?_cons_zero, List.getElem?_cons_succ, isV_s, in_found, wpR_ok, isB_b, if_true]
        and_intros <;> first | rfl | trivial
    · rw [decide_eq_false hin, if_neg (by decide)]
      rw [wp_skip]
      exact ⟨s, hs1, hin, rfl, rfl, f2⟩
  rintro ρ' T' S' ⟨s, hs1, hns, rfl, rfl, f3⟩
  simp only [wp_drop, wp_methM, wp_getV, wp_consA, wp_nilA, List.getElem?_cons_zero, List.getElem?_cons_succ, isV_s, appendR, toD, wpR_ite, wpR_ok]
  refine ⟨rfl, by rw [List.length_map]; omega, ?_⟩
  refine ⟨_, _, _, _, _, w, ss ++ [s], rfl, ?_, hw, ?_, ?_, ?_, f3.mono (by omega)⟩
  · rw [List.map_append]; rfl
  · rw [List.length_append, hl]; rfl
  · refine List.nodup_append.mpr ⟨nd, List.nodup_cons.mpr ⟨by simp, List.nodup_nil⟩, fun a ha b hb e => ?_⟩
    rw [List.mem_singleton] at hb
    subst hb; subst e; exact hns ha
  · intro x hx
    rcases List.mem_append.mp hx with z | z
    · exact hnm x z
    · rw [List.mem_singleton] at z; subst z; exact hs1
end RB.Law

end

/-! text KNames2 -/
section
set_option Elab.async false
set_option linter.all false
set_option maxRecDepth 100000
set_option maxHeartbeats 4000000
namespace RB.Law
open PySem PySem.Spec PyProof.Rows L2 RB
theorem signs_le : (Str.ofString "abcdefghijklmnopqrstuvwxyz0123456789").length ≤ 16777216 := by rw [signs_len]; decide
theorem len_ints (a : Int) (k : Nat) : (intsD a k).length = k := by unfold intsD; rw [List.length_map, List.length_range]
theorem names_wp {n many : Nat} {S : Sto} {Q : Rv → Sto → Prop} (f : Feed n S) (hn : n < 900000000) (hm : many ≤ 7) (h : ∀ (ss : List Str) S', ss.length = many → ss.Nodup → (∀ s ∈ ss, nameS s = true) → Feed (n + 100) S' → Q (.v (.list (ss.map .str))) S') :
    wpF (f__law_names [.loc 0, .v (.int many)] S) Q := by
  show wpF (fnRun (m__law_names [some (.loc 0), some (.v (.int many)), none, none, none, none, none, none, none, none, none, none, none, none] [] S)) _
  rw [wp_run]
  unfold m__law_names
  refine step_set (fun r T' S' => r = .v (.str s36) ∧ T' = [] ∧ S' = S) (by simp only [wp_seq, wp_skip, wp_ret, wp_drop, wp_set, wp_ifS, wp_par, wp_par3, wp_unp, wp_asg, wp_dput, wp_for, wp_getV, wp_cst, wp_bin, wp_asB, wp_notM, wp_andM, wp_orM, wp_andV, wp_orV, wp_notV, wp_ifM, wp_chn, wp_nilA, wp_consA, wp_callM, wp_callF, wp_tupM, wp_lstM, wp_ownM, wp_seqM, wp_methM, wp_lcM, wp_isiM, wp_isiN, wp_partN, wp_partS, wp_cutM, wp_rng1, wp_rng2, wp_negM, wp_revM, wp_dispM, wp_pnil, wp_pcons, wp_sortSetM, wp_run, wpF_ok, wpR_ok, wpR_bad, isB_b, isV_s, isS_s, isDic_d, wpF_ret, wpF_own, ob_l, ob_f, List.set_cons_zero, List.set_cons_succ, List.getElem?_cons_zero, List.getElem?_cons_succ, toAs, toA, toDs, toD, Bool.not_true, Bool.not_false, reduceIte, Bool.false_eq_true, if_false, if_true]; and_intros <;> first | rfl | trivial) ?_
  rintro r T' S' ⟨rfl, rfl, rfl⟩
  refine step_set (fun r T' S'' => r = .own 0 ∧ T' = [.lst (wordsL.take 9)] ∧ S'' = S') ?_ ?_
  · simp only [wp_seq, wp_skip, wp_ret, wp_drop, wp_set, wp_ifS, wp_par, wp_par3, wp_unp, wp_asg, wp_dput, wp_for, wp_getV, wp_cst, wp_bin, wp_asB, wp_notM, wp_andM, wp_orM, wp_andV, wp_orV, wp_notV, wp_ifM, wp_chn, wp_nilA, wp_consA, wp_callM, wp_callF, wp_tupM, wp_lstM, wp_ownM, wp_seqM, wp_methM, wp_lcM, wp_isiM, wp_isiN, wp_partN, wp_partS, wp_cutM, wp_rng1, wp_rng2, wp_negM, wp_revM, wp_dispM, wp_pnil, wp_pcons, wp_sortSetM, wp_run, wpF_ok, wpR_ok, wpR_bad, isB_b, isV_s, isS_s, isDic_d, wpF_ret, wpF_own, ob_l, ob_f, List.set_cons_zero, List.set_cons_succ, List.getElem?_cons_zero, List.getElem?_cons_succ, toAs, toA, toDs, toD, Bool.not_true, Bool.not_false, reduceIte, Bool.false_eq_true, if_false, if_true, List.length_cons, List.length_nil]
    refine ⟨by decide, ?_⟩
    exact ⟨(by first | rfl | trivial), (by first | rfl | trivial), (by first | rfl | trivial)⟩
  rintro r T' S'' ⟨rfl, rfl, rfl⟩
  refine step_drop (fun r T' S' => T' = [.lst wordsL] ∧ S' = S'') ?_ ?_
  · simp only [wp_seq, wp_skip, wp_ret, wp_drop, wp_set, wp_ifS, wp_par, wp_par3, wp_unp, wp_asg, wp_dput, wp_for, wp_getV, wp_cst, wp_bin, wp_asB, wp_notM, wp_andM, wp_orM, wp_andV, wp_orV, wp_notV, wp_ifM, wp_chn, wp_nilA, wp_consA, wp_callM, wp_callF, wp_tupM, wp_lstM, wp_ownM, wp_seqM, wp_methM, wp_lcM, wp_isiM, wp_isiN, wp_partN, wp_partS, wp_cutM, wp_rng1, wp_rng2, wp_negM, wp_revM, wp_dispM, wp_pnil, wp_pcons, wp_sortSetM, wp_run, wpF_ok, wpR_ok, wpR_bad, isB_b, isV_s, isS_s, isDic_d, wpF_ret, wpF_own, ob_l, ob_f, List.set_cons_zero, List.set_cons_succ, List.getElem?_cons_zero, List.getElem?_cons_succ, toAs, toA, toDs, toD, Bool.not_true, Bool.not_false, reduceIte, Bool.false_eq_true, if_false, if_true, extendR, lstOf, wpR_ite, List.length_cons, List.length_nil]
    refine ⟨rfl, by decide, by decide, ?_⟩
    exact ⟨(by first | rfl | trivial), (by first | rfl | trivial)⟩
  rintro r T' S' ⟨rfl, rfl⟩
  refine step_mid (fun ρ' T' S' => ∃ way size : Nat, size < 7 ∧ ρ' = [some (.loc 0), some (.v (.int many)), some (.v (.str s36)), some (.own 0), some (.v (.int way)), some (.v (.int size)), some (.own 1), none, none, none, none, none, none, none] ∧ T' = [.lst wordsL, .lst []] ∧ Feed (n + 2) S') ?_ ?_
  · rw [wp_unp]
    simp only [wp_seq, wp_skip, wp_ret, wp_drop, wp_set, wp_ifS, wp_par, wp_par3, wp_unp, wp_asg, wp_dput, wp_for, wp_getV, wp_cst, wp_bin, wp_asB, wp_notM, wp_andM, wp_orM, wp_andV, wp_orV, wp_notV, wp_ifM, wp_chn, wp_nilA, wp_consA, wp_callM, wp_callF, wp_tupM, wp_lstM, wp_ownM, wp_seqM, wp_methM, wp_lcM, wp_isiM, wp_isiN, wp_partN, wp_partS, wp_cutM, wp_rng1, wp_rng2, wp_negM, wp_revM, wp_dispM, wp_pnil, wp_pcons, wp_sortSetM, wp_run, wpF_ok, wpR_ok, wpR_bad, isB_b, isV_s, isS_s, isDic_d, wpF_ret, wpF_own, ob_l, ob_f, List.set_cons_zero, List.set_cons_succ, List.getElem?_cons_zero, List.getElem?_cons_succ, toAs, toA, toDs, toD, Bool.not_true, Bool.not_false, reduceIte, Bool.false_eq_true, if_false, if_true]
    refine draw_wp f (by omega) (m := 3) (by decide) (by decide) fun way S1 hw f1 => ?_
    refine draw_wp f1 (by omega) (m := 7) (by decide) (by decide) fun size S2 hz f2 => ?_
    exact ⟨by decide, rfl, way, size, hz, rfl, rfl, f2⟩
  rintro ρ' T' S' ⟨way, size, hz, rfl, rfl, f2⟩
  refine step_set (fun r T' S' => ∃ stem : Str, r = .v (.str stem) ∧ (TL.tl stem).length = size + 1 ∧ (∃ c r, TL.tl stem = c :: r ∧ letter c = true) ∧ (∀ c ∈ TL.tl stem, sgn c = true) ∧ T' = [.lst wordsL, .lst []] ∧ Feed (n + 9) S') ?_ ?_
  · simp only [wp_seq, wp_skip, wp_ret, wp_drop, wp_set, wp_ifS, wp_par, wp_par3, wp_unp, wp_asg, wp_dput, wp_for, wp_getV, wp_cst, wp_bin, wp_asB, wp_notM, wp_andM, wp_orM, wp_andV, wp_orV, wp_notV, wp_ifM, wp_chn, wp_nilA, wp_consA, wp_callM, wp_callF, wp_tupM, wp_lstM, wp_ownM, wp_seqM, wp_methM, wp_lcM, wp_isiM, wp_isiN, wp_partN, wp_partS, wp_cutM, wp_rng1, wp_rng2, wp_negM, wp_revM, wp_dispM, wp_pnil, wp_pcons, wp_sortSetM, wp_run, wpF_ok, wpR_ok, wpR_bad, isB_b, isV_s, isS_s, isDic_d, wpF_ret, wpF_own, ob_l, ob_f, List.set_cons_zero, List.set_cons_succ, List.getElem?_cons_zero, List.getElem?_cons_succ, toAs, toA, toDs, toD, Bool.not_true, Bool.not_false, reduceIte, Bool.false_eq_true, if_false, if_true]
    refine draw_wp f2 (by omega) (m := 26) (by decide) (by decide) fun k S3 hk f3 => ?_
    obtain ⟨c, hc, hlet⟩ := letter_at k hk
    rw [wp_ixS, atI_nat, hc, isS_s]
    apply And.intro signs_le
    apply join_wp
    simp only [wp_seq, wp_skip, wp_ret, wp_drop, wp_set, wp_ifS, wp_par, wp_par3, wp_unp, wp_asg, wp_dput, wp_for, wp_getV, wp_cst, wp_bin, wp_asB, wp_notM, wp_andM, wp_orM, wp_andV, wp_orV, wp_notV, wp_ifM, wp_chn, wp_nilA, wp_consA, wp_callM, wp_callF, wp_tupM, wp_lstM, wp_ownM, wp_seqM, wp_methM, wp_lcM, wp_isiM, wp_isiN, wp_partN, wp_partS, wp_cutM, wp_rng1, wp_rng2, wp_negM, wp_revM, wp_dispM, wp_pnil, wp_pcons, wp_sortSetM, wp_run, wpF_ok, wpR_ok, wpR_bad, isB_b, isV_s, isS_s, isDic_d, wpF_ret, wpF_own, ob_l, ob_f, List.set_cons_zero, List.set_cons_succ, List.getElem?_cons_zero, List.getElem?_cons_succ, toAs, toA, toDs, toD, Bool.not_true, Bool.not_false, reduceIte, Bool.false_eq_true, if_false, if_true]
    refine ⟨_, rfl, by omega, ?_⟩
    refine picks_wp pool36 rfl rfl (by decide) (by decide) f3 (by rw [len_ints]; omega) fun rs S4 hl4 hr4 f4 => ?_
    rw [len_ints] at hl4 f4
    have hsz : (size : Int).toNat = size := by omega
    rw [hsz] at hl4 f4
    rw [wp_newF]
    refine ⟨by omega, rs, rfl, by omega, hr4, fun x hx1 hx2 => ?_⟩
    have e4 : (⟨#[c]⟩ : Str).length = 1 := rfl
    have e5 : x.length = (TL.tl x).length := rfl
    simp only [o_add, wpR_ite, wpR_ok]
    refine ⟨by omega, _, (by first | rfl | trivial), ?_, ?_, ?_, (by first | rfl | trivial), f4.mono (by omega)⟩
    · rw [TL.tl_append, List.length_append]
      show 1 + _ = _
      omega
    · rw [TL.tl_append]; exact ⟨c, TL.tl x, rfl, hlet⟩
    · intro y hy
      rw [TL.tl_append] at hy
      rcases List.mem_append.mp hy with z | z
      · have : y = c := by simpa using z
        subst this; exact letter_sgn hlet
      · exact hx2 y z
  rintro r T' S' ⟨stem, rfl, hl, hf, ha, rfl, f3⟩
  refine step_set (fun r T' S' => ∃ cut : Nat, 1 ≤ cut ∧ cut ≤ size + 1 ∧ r = .v (.int cut) ∧ T' = [.lst wordsL, .lst []] ∧ Feed (n + 10) S') ?_ ?_
  · simp only [wp_seq, wp_skip, wp_ret, wp_drop, wp_set, wp_ifS, wp_par, wp_par3, wp_unp, wp_asg, wp_dput, wp_for, wp_getV, wp_cst, wp_bin, wp_asB, wp_notM, wp_andM, wp_orM, wp_andV, wp_orV, wp_notV, wp_ifM, wp_chn, wp_nilA, wp_consA, wp_callM, wp_callF, wp_tupM, wp_lstM, wp_ownM, wp_seqM, wp_methM, wp_lcM, wp_isiM, wp_isiN, wp_partN, wp_partS, wp_cutM, wp_rng1, wp_rng2, wp_negM, wp_revM, wp_dispM, wp_pnil, wp_pcons, wp_sortSetM, wp_run, wpF_ok, wpR_ok, wpR_bad, isB_b, isV_s, isS_s, isDic_d, wpF_ret, wpF_own, ob_l, ob_f, List.set_cons_zero, List.set_cons_succ, List.getElem?_cons_zero, List.getElem?_cons_succ, toAs, toA, toDs, toD, Bool.not_true, Bool.not_false, reduceIte, Bool.false_eq_true, if_false, if_true, o_add_int]
    have e : ((size : Int) + 1) = ((size + 1 : Nat) : Int) := by omega
    rw [e]
    refine draw_wp f3 (by omega) (by omega) (by omega) fun k S4 hk f4 => ?_
    simp only [o_add_int, wpR_ok]
    rw [show (1 : Int) + (k : Int) = ((k + 1 : Nat) : Int) by omega]
    exact ⟨k + 1, by omega, by omega, rfl, (by first | rfl | trivial), f4⟩
  intro r T' S' hh
  obtain ⟨cut, hc1, hc2, e1, e2, f4⟩ := hh
  subst e1
  subst e2
  apply step_mid (NamesI n many way size cut stem many) ?_ ?_
  · rw [wp_for]
    simp only [wp_seq, wp_skip, wp_ret, wp_drop, wp_set, wp_ifS, wp_par, wp_par3, wp_unp, wp_asg, wp_dput, wp_for, wp_getV, wp_cst, wp_bin, wp_asB, wp_notM, wp_andM, wp_orM, wp_andV, wp_orV, wp_notV, wp_ifM, wp_chn, wp_nilA, wp_consA, wp_callM, wp_callF, wp_tupM, wp_lstM, wp_ownM, wp_seqM, wp_methM, wp_lcM, wp_isiM, wp_isiN, wp_partN, wp_partS, wp_cutM, wp_rng1, wp_rng2, wp_negM, wp_revM, wp_dispM, wp_pnil, wp_pcons, wp_sortSetM, wp_run, wpF_ok, wpR_ok, wpR_bad, isB_b, isV_s, isS_s, isDic_d, wpF_ret, wpF_own, ob_l, ob_f, List.set_cons_zero, List.set_cons_succ, List.getElem?_cons_zero, List.getElem?_cons_succ, toAs, toA, toDs, toD, Bool.not_true, Bool.not_false, reduceIte, Bool.false_eq_true, if_false, if_true]
    refine ⟨_, rfl, by omega, ?_⟩
    have e : (many : Int).toNat = many := by omega
    refine wp_forD (NamesI n many way size cut stem) _ 0 _ _ _ ⟨none, none, none, none, none, .lst wordsL, [], rfl, rfl, .inl rfl, rfl, List.nodup_nil, (by intro s hs; cases hs), f4.mono (by omega)⟩ (fun i d ρ T S hd hI => ?_) fun ρ T S hI => ?_
    · have hi := lt_of_get hd
      rw [len_ints, e] at hi
      rw [Nat.zero_add] at hI ⊢
      exact names_turn (by omega) hn hc1 (by omega) (by omega) hf ha hI rfl
    · rw [len_ints, e, Nat.zero_add] at hI
      exact hI
  rintro ρ T S ⟨x7, x10, x11, x12, x13, w, ss, rfl, rfl, hw, hl2, nd, hnm, f5⟩
  simp only [wp_seq, wp_skip, wp_ret, wp_drop, wp_set, wp_ifS, wp_par, wp_par3, wp_unp, wp_asg, wp_dput, wp_for, wp_getV, wp_cst, wp_bin, wp_asB, wp_notM, wp_andM, wp_orM, wp_andV, wp_orV, wp_notV, wp_ifM, wp_chn, wp_nilA, wp_consA, wp_callM, wp_callF, wp_tupM, wp_lstM, wp_ownM, wp_seqM, wp_methM, wp_lcM, wp_isiM, wp_isiN, wp_partN, wp_partS, wp_cutM, wp_rng1, wp_rng2, wp_negM, wp_revM, wp_dispM, wp_pnil, wp_pcons, wp_sortSetM, wp_run, wpF_ok, wpR_ok, wpR_bad, isB_b, isV_s, isS_s, isDic_d, wpF_ret, wpF_own, ob_l, ob_f, List.set_cons_zero, List.set_cons_succ, List.getElem?_cons_zero, List.getElem?_cons_succ, toAs, toA, toDs, toD, Bool.not_true, Bool.not_false, reduceIte, Bool.false_eq_true, if_false, if_true]
  exact h ss _ hl2 nd hnm (f5.mono (by omega))
end RB.Law

end

/-! text KSrc -/
section
set_option Elab.async false
set_option linter.all false
set_option maxRecDepth 100000
set_option maxHeartbeats 4000000
namespace RB.Law
open PySem PySem.Spec PyProof.Rows L2 RB
/-- a source of the drawn book -/
structure Sc where
  nm : Str
  tg : Str
  sp : List Str
  st : Bool
  us : List Str
def Sc.d (c : Sc) : D := .tuple [.str c.nm, .str c.tg, .tuple (c.sp.map .str), .bool c.st, .tuple (c.us.map .str)]
structure Sc.Ok (c : Sc) (ss tt : List Str) : Prop where
  nm : c.nm ∈ ss
  tg : c.tg ∈ tt
  sp : ∀ s ∈ c.sp, s ∈ tt
  us : ∀ s ∈ c.us, s ∈ ss
  lsp : c.sp.length ≤ 3
  lus : c.us.length ≤ 3
theorem o_lt_pair (T S : Sto) (a b c d : Int) : o_lt (.v (.tuple [.int a, .int b])) (.v (.tuple [.int c, .int d])) T S = .ok (.v (.bool (PySem.W.dataLt (.tuple [.int a, .int b]) (.tuple [.int c, .int d])))) T S := by
  have h : ordC (.tuple [.int a, .int b]) (.tuple [.int c, .int d]) = true := by simp [ordC, PySem.W.alike, PySem.W.alikeAll, isNone, deep, PyData.depth, PyData.depthAll]
  simp [o_cmp, look, h]
theorem wp_enumL {Q : List D → Sto → Sto → Prop} {ρ : Vn} {T S : Sto} {m : EM Rv} (h : wpR (m ρ T S) fun r T' S' => ∃ xs, r = .v (.list xs) ∧ Q (enumD xs) T' S') : wpR (enumM (consA m nilA) ρ T S) Q := by
  unfold enumM
  rw [wpR_bind, wp_consA]
  refine wpR_mono h fun r T' S' ⟨xs, e, hq⟩ => ?_
  subst e
  rw [wp_nilA]
  show wpR (.ok (enumD xs) T' S') Q
  rw [wpR_ok]
  exact hq
theorem wp_tupleL {Q : Rv → Sto → Sto → Prop} (T S : Sto) (xs : List D) : wpR (c_tuple [.v (.list xs)] T S) Q = Q (.v (.tuple xs)) T S := wpR_ok _ _ _ _
/-- picks from a list of texts, which may be empty if nothing is picked -/
theorem texts_wp {ss : List Str} {i j n k : Nat} {ρ : Vn} {T S : Sto} {Q : List D → Sto → Sto → Prop} (h0 : ρ[0]? = some (some (.loc 0))) (hj : ρ[j]? = some (some (.v (.list (ss.map .str))))) (hi0 : i ≠ 0) (hij : i ≠ j) (hk : ss = [] → k = 0) (hl : ss.length ≤ 1000) (f : Feed n S) (hn : n + k < 1000000000)
    (hQ : ∀ (ys : List Str) S', ys.length = k → (∀ y ∈ ys, y ∈ ss) → Feed (n + k) S' → Q (ys.map .str) T S') : wpR (compD (tgName i) yesM (callM (callF f__law_pick) (consA (getV 0) (consA (getV j) nilA))) ρ (intsD 0 k) T S) Q := by
  cases hs : ss with
  | nil =>
    have := hk hs
    subst this
    show wpR (.ok [] T S) Q
    rw [wpR_ok]
    exact hQ [] S rfl (by intro y hy; cases hy) f
  | cons a r =>
    have hp := pool_list (xs := ss.map PyData.str) (by rw [hs]; simp) (by rw [List.length_map]; omega)
    refine picks_wp hp h0 hj hi0 hij f (by rw [len_ints]; exact hn) fun rs S' hl' hr f' => ?_
    rw [len_ints] at hl' f'
    have ex : ∀ rs : List D, (∀ r ∈ rs, r ∈ ss.map PyData.str) → ∃ ys : List Str, rs = ys.map .str ∧ ∀ y ∈ ys, y ∈ ss := by
      intro rs
      induction rs with
      | nil => exact fun _ => ⟨[], rfl, by intro y hy; cases hy⟩
      | cons x rs ih =>
        intro h
        obtain ⟨ys, e, hy⟩ := ih fun r hr => h r (List.mem_cons_of_mem _ hr)
        obtain ⟨s, hs', e2⟩ := List.mem_map.mp (h x List.mem_cons_self)
        refine ⟨s :: ys, by rw [List.map_cons, e, e2], fun y hy' => ?_⟩
        rcases List.mem_cons.mp hy' with z | z
        · rw [z]; exact hs'
        · exact hy y z
    obtain ⟨ys, rfl, hy⟩ := ex rs hr
    rw [List.length_map] at hl'
    exact hQ ys S' hl' hy f'
theorem strsD_map : ∀ ys : List Str, strsD (ys.map .str) = some ys
  | [] => rfl
  | y :: ys => by
    show (strsD (ys.map .str)).map (y :: ·) = _
    rw [strsD_map ys]; rfl
theorem metS_sub : ∀ (n : Nat) (xs : List Str), xs.length = n → ∀ x ∈ metS xs, x ∈ xs
  | 0, xs, h => by rw [List.length_eq_zero_iff.mp h]; intro x hx; cases hx
  | n + 1, xs, h => by
    have hx : xs ≠ [] := fun z => by rw [z] at h; cases h
    have e := List.dropLast_concat_getLast hx
    have ih := metS_sub n xs.dropLast (by rw [List.length_dropLast, h]; rfl)
    rw [← e, metS_snoc]
    intro x hx'
    split at hx'
    · exact List.mem_append_left _ (ih x hx')
    · rcases List.mem_append.mp hx' with z | z
      · exact List.mem_append_left _ (ih x z)
      · exact List.mem_append_right _ z
theorem sortSet_ok {ys ss : List Str} (h : ∀ y ∈ ys, y ∈ ss) : (∀ s ∈ sortS (metS ys), s ∈ ss) ∧ (sortS (metS ys)).length ≤ ys.length := by
  refine ⟨fun s hs => h s (metS_sub _ ys rfl s ((sortS_perm _).mem_iff.mp hs)), ?_⟩
  rw [(sortS_perm _).length_eq]
  exact metS_le _ ys rfl
/-- between two turns -/
def SrcI (n : Nat) (ss tt : List Str) (keys : List Int) (i : Nat) (ρ : Vn) (T S : Sto) : Prop :=
  ∃ (x3 x6 x7 x8 x9 x10 x11 x12 x13 : Option Rv) (cs : List Sc), ρ = [some (.loc 0), some (.v (.list (ss.map .str))), some (.v (.list (tt.map .str))), x3, some (.v (.list (keys.map .int))), some (.own 0), x6, x7, x8, x9, x10, x11, x12, x13] ∧
    T = [.lst (cs.map Sc.d)] ∧ cs.map (·.nm) = ss.take i ∧ (∀ c ∈ cs, c.Ok ss tt) ∧ Feed (n + ss.length + 10 * i) S
theorem src_turn {n : Nat} {ss tt : List Str} {keys : List Int} {i : Nat} {d : D} {ρ : Vn} {T S : Sto} {body : SM} {R : Rv → Sto → Sto → Prop} (hk : keys.length = ss.length) (hi : i < ss.length) (hl : ss.length ≤ 100) (ht0 : tt ≠ []) (ht : tt.length ≤ 100) (hn : n < 900000000)
    (hd : (enumD (ss.map .str))[i]? = some d) (hI : SrcI n ss tt keys i ρ T S)
    (hb : body = (seqS (setS 7 (lcM false (rng1 (consA (callM c_len (consA (getV 1) nilA)) nilA)) (tgName 12) (asB (bin o_lt (tupM (consA (bin o_ix (getV 4) (getV 12)) (consA (getV 12) nilA))) (tupM (consA (bin o_ix (getV 4) (getV 6)) (consA (getV 6) nilA))))) (bin o_ix (getV 1) (getV 12)) [12]))
    (seqS (setS 8 (ifM (asB (bin o_ne (getV 7) (lstM nilA))) (callM (callF f__law_draw) (consA (getV 0) (consA (cst (.int (4))) nilA))) (cst (.int (0)))))
    (seqS (setS 9 (callM c_tuple (consA (sortSetM (lcM false (rng1 (consA (getV 8) nilA)) (tgName 13) yesM (callM (callF f__law_pick) (consA (getV 0) (consA (getV 7) nilA))) [13])) nilA)))
    (seqS (setS 10 (callM c_tuple (consA (sortSetM (lcM false (rng1 (consA (callM (callF f__law_draw) (consA (getV 0) (consA (cst (.int (3))) nilA))) nilA)) (tgName 13) yesM (callM (callF f__law_pick) (consA (getV 0) (consA (getV 2) nilA))) [13])) nilA)))
    (seqS (setS 11 (bin o_gt (callM (callF f__law_draw) (consA (getV 0) (consA (cst (.int (3))) nilA))) (cst (.int (0)))))
    (dropS (methM isL appendR (getV 5) (consA (tupM (consA (getV 3) (consA (callM (callF f__law_pick) (consA (getV 0) (consA (getV 2) nilA))) (consA (getV 10) (consA (getV 11) (consA (getV 9) nilA)))))) nilA))))))))) :
    isS (tgTup 2 (tgsCons (tgName 6) (tgsCons (tgName 3) tgsNil)) d ρ) fun ρ' => wpO (body ρ' T S) (SrcI n ss tt keys (i + 1)) R := by
  obtain ⟨x3, x6, x7, x8, x9, x10, x11, x12, x13, cs, rfl, rfl, hcs, hok, f⟩ := hI
  subst hb
  have hsi : ss[i]? = some ss[i] := List.getElem?_eq_getElem hi
  have ed : d = .tuple [.int (i : Int), .str ss[i]] := by
    unfold enumD at hd
    rw [List.getElem?_mapIdx, List.getElem?_map, hsi] at hd
    simpa using hd.symm
  subst ed
  show wpO (seqS _ _ [some (.loc 0), some (.v (.list (ss.map .str))), some (.v (.list (tt.map .str))), some (.v (.str ss[i])), some (.v (.list (keys.map .int))), some (.own 0), some (.v (.int (i : Int))), x7, x8, x9, x10, x11, x12, x13] _ _) _ _
  have key : ∀ j : Nat, j < ss.length → ∃ z : Int, (keys.map PyData.int)[j]? = some (.int z) := fun j hj => ⟨keys[j]'(by omega), by rw [List.getElem?_map, List.getElem?_eq_getElem (by omega)]; rfl⟩
  -- what stands lower
  refine step_set (fun r T' S' => ∃ lo : List Str, (∀ s ∈ lo, s ∈ ss) ∧ lo.length ≤ ss.length ∧ r = .v (.list (lo.map .str)) ∧ T' = [.lst (cs.map Sc.d)] ∧ S' = S) ?_ ?_
  · simp only [wp_seq, wp_skip, wp_ret, wp_drop, wp_set, wp_ifS, wp_par, wp_par3, wp_unp, wp_asg, wp_dput, wp_for, wp_getV, wp_cst, wp_bin, wp_asB, wp_notM, wp_andM, wp_orM, wp_andV, wp_orV, wp_notV, wp_ifM, wp_chn, wp_nilA, wp_consA, wp_callM, wp_callF, wp_tupM, wp_lstM, wp_ownM, wp_seqM, wp_methM, wp_lcM, wp_isiM, wp_isiN, wp_partN, wp_partS, wp_cutM, wp_rng1, wp_rng2, wp_negM, wp_revM, wp_dispM, wp_pnil, wp_pcons, wp_sortSetM, wp_run, wpF_ok, wpR_ok, wpR_bad, isB_b, isV_s, isS_s, isDic_d, wpF_ret, wpF_own, ob_l, ob_f, List.set_cons_zero, List.set_cons_succ, List.getElem?_cons_zero, List.getElem?_cons_succ, toAs, toA, toDs, toD, Bool.not_true, Bool.not_false, reduceIte, Bool.false_eq_true, if_false, if_true, wp_lenL, List.length_map, wipeV]
    refine ⟨_, rfl, by omega, ?_⟩
    have et : ((ss.length : Nat) : Int).toNat = ss.length := by omega
    rw [et]
    refine wp_comp (fun k acc T' S' => k ≤ ss.length ∧ acc.length ≤ k ∧ (∃ lo : List Str, acc = lo.map .str ∧ ∀ s ∈ lo, s ∈ ss) ∧ T' = [.lst (cs.map Sc.d)] ∧ S' = S) _ 0 [] _ _ ⟨Nat.zero_le _, Nat.le_refl _, ⟨[], rfl, by intro s hs; cases hs⟩, rfl, rfl⟩ (fun j e acc T' S' he ⟨hj, ha, ⟨lo, hlo, hlo2⟩, hT, hS⟩ => ?_) fun rs T' S' ⟨hj, ha, ⟨lo, hlo, hlo2⟩, hT, hS⟩ => ?_
    · have hjl := lt_of_get he
      rw [len_ints] at hjl
      have ee : e = .int (j : Int) := by
        unfold intsD at he
        rw [List.getElem?_map, List.getElem?_range hjl] at he
        simpa using he.symm
      subst ee; subst hT; subst hS
      obtain ⟨z, hz⟩ := key j hjl
      obtain ⟨z2, hz2⟩ := key i hi
      show wpR _ _
      simp only [wp_seq, wp_skip, wp_ret, wp_drop, wp_set, wp_ifS, wp_par, wp_par3, wp_unp, wp_asg, wp_dput, wp_for, wp_getV, wp_cst, wp_bin, wp_asB, wp_notM, wp_andM, wp_orM, wp_andV, wp_orV, wp_notV, wp_ifM, wp_chn, wp_nilA, wp_consA, wp_callM, wp_callF, wp_tupM, wp_lstM, wp_ownM, wp_seqM, wp_methM, wp_lcM, wp_isiM, wp_isiN, wp_partN, wp_partS, wp_cutM, wp_rng1, wp_rng2, wp_negM, wp_revM, wp_dispM, wp_pnil, wp_pcons, wp_sortSetM, wp_run, wpF_ok, wpR_ok, wpR_bad, isB_b, isV_s, isS_s, isDic_d, wpF_ret, wpF_own, ob_l, ob_f, List.set_cons_zero, List.set_cons_succ, List.getElem?_cons_zero, List.getElem?_cons_succ, toAs, toA, toDs, toD, Bool.not_true, Bool.not_false, reduceIte, Bool.false_eq_true, if_false, if_true, wp_ixL, atI_nat, hz, hz2, List.length_cons, List.length_nil, o_lt_pair]
      refine ⟨by decide, by decide, ?_⟩
      split
      · rw [List.getElem?_map, List.getElem?_eq_getElem hjl]
        show _ ∧ _
        refine ⟨by omega, by rw [List.length_append, List.length_singleton]; omega, ⟨lo ++ [ss[j]], by rw [List.map_append, hlo]; rfl, fun s hs => ?_⟩, (by first | rfl | trivial), (by first | rfl | trivial)⟩
        rcases List.mem_append.mp hs with z | z
        · exact hlo2 s z
        · rw [List.mem_singleton] at z; rw [z]; exact List.getElem_mem hjl
      · exact ⟨by omega, by omega, ⟨lo, hlo, hlo2⟩, (by first | rfl | trivial), (by first | rfl | trivial)⟩
    · rw [List.nil_append] at ha hlo
      subst hlo; subst hT; subst hS
      rw [len_ints, Nat.zero_add, List.length_map] at ha
      rw [wp_newF]
      exact ⟨by rw [List.length_map]; omega, lo, hlo2, ha, rfl, rfl, rfl⟩
  rintro r T' S' ⟨lo, hlo, hll, rfl, rfl, rfl⟩
  refine step_set (fun r T' S'' => ∃ k : Nat, (lo = [] → k = 0) ∧ k ≤ 3 ∧ r = .v (.int k) ∧ T' = [.lst (cs.map Sc.d)] ∧ Feed (n + ss.length + 10 * i + 1) S'') ?_ ?_
  · simp only [wp_seq, wp_skip, wp_ret, wp_drop, wp_set, wp_ifS, wp_par, wp_par3, wp_unp, wp_asg, wp_dput, wp_for, wp_getV, wp_cst, wp_bin, wp_asB, wp_notM, wp_andM, wp_orM, wp_andV, wp_orV, wp_notV, wp_ifM, wp_chn, wp_nilA, wp_consA, wp_callM, wp_callF, wp_tupM, wp_lstM, wp_ownM, wp_seqM, wp_methM, wp_lcM, wp_isiM, wp_isiN, wp_partN, wp_partS, wp_cutM, wp_rng1, wp_rng2, wp_negM, wp_revM, wp_dispM, wp_pnil, wp_pcons, wp_sortSetM, wp_run, wpF_ok, wpR_ok, wpR_bad, isB_b, isV_s, isS_s, isDic_d, wpF_ret, wpF_own, ob_l, ob_f, List.set_cons_zero, List.set_cons_succ, List.getElem?_cons_zero, List.getElem?_cons_succ, toAs, toA, toDs, toD, Bool.not_true, Bool.not_false, reduceIte, Bool.false_eq_true, if_false, if_true, o_ne_nil, List.length_nil]
    refine ⟨by decide, ?_⟩
    cases lo with
    | nil =>
      simp only [List.map_nil, List.isEmpty_nil, Bool.not_true, Bool.false_eq_true, if_false]
      exact ⟨0, fun _ => rfl, by decide, (by first | rfl | trivial), (by first | rfl | trivial), f.mono (by omega)⟩
    | cons a r =>
      simp only [List.map_cons, List.isEmpty_cons, Bool.not_false, if_true]
      refine draw_wp f (by omega) (m := 4) (by decide) (by decide) fun k S2 hk2 f2 => ?_
      exact ⟨k, (fun z => by cases z), by omega, (by first | rfl | trivial), (by first | rfl | trivial), f2⟩
  rintro r T' S' ⟨k, hk0, hk3, rfl, rfl, f1⟩
  refine step_set (fun r T' S'' => ∃ us : List Str, (∀ s ∈ us, s ∈ ss) ∧ us.length ≤ 3 ∧ r = .v (.tuple (us.map .str)) ∧ T' = [.lst (cs.map Sc.d)] ∧ Feed (n + ss.length + 10 * i + 4) S'') ?_ ?_
  · simp only [wp_seq, wp_skip, wp_ret, wp_drop, wp_set, wp_ifS, wp_par, wp_par3, wp_unp, wp_asg, wp_dput, wp_for, wp_getV, wp_cst, wp_bin, wp_asB, wp_notM, wp_andM, wp_orM, wp_andV, wp_orV, wp_notV, wp_ifM, wp_chn, wp_nilA, wp_consA, wp_callM, wp_callF, wp_tupM, wp_lstM, wp_ownM, wp_seqM, wp_methM, wp_lcM, wp_isiM, wp_isiN, wp_partN, wp_partS, wp_cutM, wp_rng1, wp_rng2, wp_negM, wp_revM, wp_dispM, wp_pnil, wp_pcons, wp_sortSetM, wp_run, wpF_ok, wpR_ok, wpR_bad, isB_b, isV_s, isS_s, isDic_d, wpF_ret, wpF_own, ob_l, ob_f, List.set_cons_zero, List.set_cons_succ, List.getElem?_cons_zero, List.getElem?_cons_succ, toAs, toA, toDs, toD, Bool.not_true, Bool.not_false, reduceIte, Bool.false_eq_true, if_false, if_true, wipeV]
    refine ⟨_, rfl, by omega, ?_⟩
    have et : ((k : Nat) : Int).toNat = k := by omega
    rw [et]
    refine texts_wp (ss := lo) rfl rfl (by decide) (by decide) hk0 (by omega) f1 (by omega) fun ys S2 hy1 hy2 f2 => ?_
    rw [wp_newF]
    refine ⟨by rw [List.length_map]; omega, ys.map .str, ys, rfl, strsD_map ys, by omega, ?_⟩
    obtain ⟨e1, e2⟩ := sortSet_ok (ss := ss) fun y hy => hlo y (hy2 y hy)
    rw [wp_tupleL]
    exact ⟨_, e1, by omega, rfl, rfl, f2.mono (by omega)⟩
  rintro r T' S' ⟨us, hus, hul, rfl, rfl, f2⟩
  refine step_set (fun r T' S'' => ∃ sp : List Str, (∀ s ∈ sp, s ∈ tt) ∧ sp.length ≤ 3 ∧ r = .v (.tuple (sp.map .str)) ∧ T' = [.lst (cs.map Sc.d)] ∧ Feed (n + ss.length + 10 * i + 7) S'') ?_ ?_
  · simp only [wp_seq, wp_skip, wp_ret, wp_drop, wp_set, wp_ifS, wp_par, wp_par3, wp_unp, wp_asg, wp_dput, wp_for, wp_getV, wp_cst, wp_bin, wp_asB, wp_notM, wp_andM, wp_orM, wp_andV, wp_orV, wp_notV, wp_ifM, wp_chn, wp_nilA, wp_consA, wp_callM, wp_callF, wp_tupM, wp_lstM, wp_ownM, wp_seqM, wp_methM, wp_lcM, wp_isiM, wp_isiN, wp_partN, wp_partS, wp_cutM, wp_rng1, wp_rng2, wp_negM, wp_revM, wp_dispM, wp_pnil, wp_pcons, wp_sortSetM, wp_run, wpF_ok, wpR_ok, wpR_bad, isB_b, isV_s, isS_s, isDic_d, wpF_ret, wpF_own, ob_l, ob_f, List.set_cons_zero, List.set_cons_succ, List.getElem?_cons_zero, List.getElem?_cons_succ, toAs, toA, toDs, toD, Bool.not_true, Bool.not_false, reduceIte, Bool.false_eq_true, if_false, if_true, wipeV]
    refine draw_wp f2 (by omega) (m := 3) (by decide) (by decide) fun k2 S2 hk2 f3 => ?_
    refine ⟨_, rfl, by omega, ?_⟩
    have et : ((k2 : Nat) : Int).toNat = k2 := by omega
    rw [et]
    refine texts_wp (ss := tt) rfl rfl (by decide) (by decide) (fun z => (ht0 z).elim) (by omega) f3 (by omega) fun ys S2 hy1 hy2 f4 => ?_
    rw [wp_newF]
    refine ⟨by rw [List.length_map]; omega, ys.map .str, ys, rfl, strsD_map ys, by omega, ?_⟩
    obtain ⟨e1, e2⟩ := sortSet_ok (ss := tt) hy2
    rw [wp_tupleL]
    exact ⟨_, e1, by omega, rfl, rfl, f4.mono (by omega)⟩
  rintro r T' S' ⟨sp, hsp, hspl, rfl, rfl, f3⟩
  refine step_set (fun r T' S'' => ∃ b : Bool, r = .v (.bool b) ∧ T' = [.lst (cs.map Sc.d)] ∧ Feed (n + ss.length + 10 * i + 8) S'') ?_ ?_
  · simp only [wp_seq, wp_skip, wp_ret, wp_drop, wp_set, wp_ifS, wp_par, wp_par3, wp_unp, wp_asg, wp_dput, wp_for, wp_getV, wp_cst, wp_bin, wp_asB, wp_notM, wp_andM, wp_orM, wp_andV, wp_orV, wp_notV, wp_ifM, wp_chn, wp_nilA, wp_consA, wp_callM, wp_callF, wp_tupM, wp_lstM, wp_ownM, wp_seqM, wp_methM, wp_lcM, wp_isiM, wp_isiN, wp_partN, wp_partS, wp_cutM, wp_rng1, wp_rng2, wp_negM, wp_revM, wp_dispM, wp_pnil, wp_pcons, wp_sortSetM, wp_run, wpF_ok, wpR_ok, wpR_bad, isB_b, isV_s, isS_s, isDic_d, wpF_ret, wpF_own, ob_l, ob_f, List.set_cons_zero, List.set_cons_succ, List.getElem?_cons_zero, List.getElem?_cons_succ, toAs, toA, toDs, toD, Bool.not_true, Bool.not_false, reduceIte, Bool.false_eq_true, if_false, if_true]
    refine draw_wp f3 (by omega) (m := 3) (by decide) (by decide) fun k2 S2 hk2 f4 => ?_
    rw [o_gt_int, wpR_ok]
    exact ⟨_, rfl, rfl, f4⟩
  rintro r T' S' ⟨b, rfl, rfl, f4⟩
  simp only [wp_seq, wp_skip, wp_ret, wp_drop, wp_set, wp_ifS, wp_par, wp_par3, wp_unp, wp_asg, wp_dput, wp_for, wp_getV, wp_cst, wp_bin, wp_asB, wp_notM, wp_andM, wp_orM, wp_andV, wp_orV, wp_notV, wp_ifM, wp_chn, wp_nilA, wp_consA, wp_callM, wp_callF, wp_tupM, wp_lstM, wp_ownM, wp_seqM, wp_methM, wp_lcM, wp_isiM, wp_isiN, wp_partN, wp_partS, wp_cutM, wp_rng1, wp_rng2, wp_negM, wp_revM, wp_dispM, wp_pnil, wp_pcons, wp_sortSetM, wp_run, wpF_ok, wpR_ok, wpR_bad, isB_b, isV_s, isS_s, isDic_d, wpF_ret, wpF_own, ob_l, ob_f, List.set_cons_zero, List.set_cons_succ, List.getElem?_cons_zero, List.getElem?_cons_succ, toAs, toA, toDs, toD, Bool.not_true, Bool.not_false, reduceIte, Bool.false_eq_true, if_false, if_true]
  have hp := pool_list (xs := tt.map PyData.str) (by simpa using ht0) (by rw [List.length_map]; omega)
  refine ⟨rfl, ?_⟩
  refine hp _ _ _ f4 (by omega) fun x S2 hx f5 => ?_
  obtain ⟨tg, htg, rfl⟩ := List.mem_map.mp hx
  simp only [wp_seq, wp_skip, wp_ret, wp_drop, wp_set, wp_ifS, wp_par, wp_par3, wp_unp, wp_asg, wp_dput, wp_for, wp_getV, wp_cst, wp_bin, wp_asB, wp_notM, wp_andM, wp_orM, wp_andV, wp_orV, wp_notV, wp_ifM, wp_chn, wp_nilA, wp_consA, wp_callM, wp_callF, wp_tupM, wp_lstM, wp_ownM, wp_seqM, wp_methM, wp_lcM, wp_isiM, wp_isiN, wp_partN, wp_partS, wp_cutM, wp_rng1, wp_rng2, wp_negM, wp_revM, wp_dispM, wp_pnil, wp_pcons, wp_sortSetM, wp_run, wpF_ok, wpR_ok, wpR_bad, isB_b, isV_s, isS_s, isDic_d, wpF_ret, wpF_own, ob_l, ob_f, List.set_cons_zero, List.set_cons_succ, List.getElem?_cons_zero, List.getElem?_cons_succ, toAs, toA, toDs, toD, Bool.not_true, Bool.not_false, reduceIte, Bool.false_eq_true, if_false, if_true, appendR, wpR_ite, List.length_cons, List.length_nil]
  have hcl : cs.length = i := by
    have := congrArg List.length hcs
    rw [List.length_map, List.length_take] at this
    omega
  refine ⟨by decide, by rw [List.length_map]; omega, ?_⟩
  refine ⟨_, _, _, _, _, _, _, _, _, cs ++ [⟨ss[i], tg, sp, b, us⟩], rfl, by rw [List.map_append]; rfl, ?_, fun c hc => ?_, f5.mono (by omega)⟩
  · rw [List.map_append, hcs, List.take_succ, hsi]
    rfl
  · rcases List.mem_append.mp hc with z | z
    · exact hok c z
    · rw [List.mem_singleton] at z
      subst z
      exact ⟨List.getElem_mem hi, htg, hsp, hus, hspl, hul⟩
theorem sources_wp {n : Nat} {ss tt : List Str} {S : Sto} {Q : Rv → Sto → Prop} (f : Feed n S) (hn : n < 800000000) (hl : ss.length ≤ 100) (ht0 : tt ≠ []) (ht : tt.length ≤ 100)
    (h : ∀ (cs : List Sc) S', cs.map (·.nm) = ss → (∀ c ∈ cs, c.Ok ss tt) → Feed (n + 2000) S' → Q (.v (.tuple (cs.map Sc.d))) S') : wpF (f__law_sources [.loc 0, .v (.list (ss.map .str)), .v (.list (tt.map .str))] S) Q := by
  show wpF (fnRun (m__law_sources [some (.loc 0), some (.v (.list (ss.map .str))), some (.v (.list (tt.map .str))), none, none, none, none, none, none, none, none, none, none, none] [] S)) _
  rw [wp_run]
  unfold m__law_sources
  refine step_mid (fun ρ' T' S' => ∃ keys : List Int, keys.length = ss.length ∧ SrcI n ss tt keys 0 ρ' T' S') ?_ ?_
  · rw [wp_unp]
    simp only [wp_seq, wp_skip, wp_ret, wp_drop, wp_set, wp_ifS, wp_par, wp_par3, wp_unp, wp_asg, wp_dput, wp_for, wp_getV, wp_cst, wp_bin, wp_asB, wp_notM, wp_andM, wp_orM, wp_andV, wp_orV, wp_notV, wp_ifM, wp_chn, wp_nilA, wp_consA, wp_callM, wp_callF, wp_tupM, wp_lstM, wp_ownM, wp_seqM, wp_methM, wp_lcM, wp_isiM, wp_isiN, wp_partN, wp_partS, wp_cutM, wp_rng1, wp_rng2, wp_negM, wp_revM, wp_dispM, wp_pnil, wp_pcons, wp_sortSetM, wp_run, wpF_ok, wpR_ok, wpR_bad, isB_b, isV_s, isS_s, isDic_d, wpF_ret, wpF_own, ob_l, ob_f, List.set_cons_zero, List.set_cons_succ, List.getElem?_cons_zero, List.getElem?_cons_succ, toAs, toA, toDs, toD, Bool.not_true, Bool.not_false, reduceIte, Bool.false_eq_true, if_false, if_true, o_add_int, o_sub_int, o_lt_int, o_gt_int, o_le_int, o_ge_int, o_eq_int, o_ne_int, o_eq_nil, o_ne_nil, o_eq_nilT, o_eq_bool, o_ne_bool, o_lt_str, o_ge_str, wp_ixT, wp_ixL, wp_ixS, wp_lenT, wp_lenL, wp_lenS, o_in_sign, wp_newF, wp_newT, wp_itemsV, wp_itemsT, wp_itemsS, wp_cutT, wp_cutLi, wp_cutSt, wp_zipTT, atI_0, atI_1, atI_2, atI_3, atI_4, wipeV]
    refine wp_comp (fun k acc T' S' => k ≤ ss.length ∧ T' = [] ∧ (∃ ks : List Int, acc = ks.map .int ∧ ks.length = k) ∧ Feed (n + k) S') _ 0 [] _ _ ⟨Nat.zero_le _, rfl, ⟨[], rfl, rfl⟩, f⟩ (fun j e acc T' S' he ⟨hj, hT, ⟨ks, hks, hkl⟩, hf⟩ => ?_) fun rs T' S' ⟨hj, hT, ⟨ks, hks, hkl⟩, hf⟩ => ?_
    · have hjl := lt_of_get he
      rw [List.length_map] at hjl
      subst hT
      show wpR (yesM _ [] S') _
      unfold yesM
      rw [wpR_ok, if_pos rfl]
      simp only [wp_seq, wp_skip, wp_ret, wp_drop, wp_set, wp_ifS, wp_par, wp_par3, wp_unp, wp_asg, wp_dput, wp_for, wp_getV, wp_cst, wp_bin, wp_asB, wp_notM, wp_andM, wp_orM, wp_andV, wp_orV, wp_notV, wp_ifM, wp_chn, wp_nilA, wp_consA, wp_callM, wp_callF, wp_tupM, wp_lstM, wp_ownM, wp_seqM, wp_methM, wp_lcM, wp_isiM, wp_isiN, wp_partN, wp_partS, wp_cutM, wp_rng1, wp_rng2, wp_negM, wp_revM, wp_dispM, wp_pnil, wp_pcons, wp_sortSetM, wp_run, wpF_ok, wpR_ok, wpR_bad, isB_b, isV_s, isS_s, isDic_d, wpF_ret, wpF_own, ob_l, ob_f, List.set_cons_zero, List.set_cons_succ, List.getElem?_cons_zero, List.getElem?_cons_succ, toAs, toA, toDs, toD, Bool.not_true, Bool.not_false, reduceIte, Bool.false_eq_true, if_false, if_true]
      refine draw_wp hf (by omega) (m := 100) (by decide) (by decide) fun d S2 hd f2 => ?_
      exact ⟨by omega, rfl, ⟨ks ++ [(d : Int)], by rw [List.map_append, hks]; rfl, by rw [List.length_append, hkl]; rfl⟩, f2⟩
    · rw [List.nil_append] at hks
      subst hks; subst hT
      rw [List.length_map, Nat.zero_add] at hkl hf
      refine ⟨by rw [List.length_map]; omega, ?_⟩
      exact ⟨by decide, rfl, ks, hkl, none, none, none, none, none, none, none, none, none, [], rfl, rfl, rfl, (by intro c hc; cases hc), hf.mono (by omega)⟩
  rintro ρ T S' ⟨keys, hk, hI⟩
  refine step_mid (SrcI n ss tt keys ss.length) ?_ ?_
  · rw [wp_for]
    obtain ⟨x3, x6, x7, x8, x9, x10, x11, x12, x13, cs, rfl, rfl, hcs, hok, f1⟩ := id hI
    refine wp_enumL ?_
    simp only [wp_seq, wp_skip, wp_ret, wp_drop, wp_set, wp_ifS, wp_par, wp_par3, wp_unp, wp_asg, wp_dput, wp_for, wp_getV, wp_cst, wp_bin, wp_asB, wp_notM, wp_andM, wp_orM, wp_andV, wp_orV, wp_notV, wp_ifM, wp_chn, wp_nilA, wp_consA, wp_callM, wp_callF, wp_tupM, wp_lstM, wp_ownM, wp_seqM, wp_methM, wp_lcM, wp_isiM, wp_isiN, wp_partN, wp_partS, wp_cutM, wp_rng1, wp_rng2, wp_negM, wp_revM, wp_dispM, wp_pnil, wp_pcons, wp_sortSetM, wp_run, wpF_ok, wpR_ok, wpR_bad, isB_b, isV_s, isS_s, isDic_d, wpF_ret, wpF_own, ob_l, ob_f, List.set_cons_zero, List.set_cons_succ, List.getElem?_cons_zero, List.getElem?_cons_succ, toAs, toA, toDs, toD, Bool.not_true, Bool.not_false, reduceIte, Bool.false_eq_true, if_false, if_true]
    refine ⟨_, rfl, ?_⟩
    have le : (enumD (ss.map PyData.str)).length = ss.length := by unfold enumD; rw [List.length_mapIdx, List.length_map]
    refine wp_forD (SrcI n ss tt keys) _ 0 _ _ _ hI (fun i d ρ T S hd hI => ?_) fun ρ T S hI => ?_
    · have hi := lt_of_get hd
      rw [le] at hi
      rw [Nat.zero_add] at hI ⊢
      exact src_turn hk hi hl ht0 ht (by omega) hd hI rfl
    · rw [le, Nat.zero_add] at hI
      exact hI
  rintro ρ T S' ⟨x3, x6, x7, x8, x9, x10, x11, x12, x13, cs, rfl, rfl, hcs, hok, f1⟩
  simp only [wp_seq, wp_skip, wp_ret, wp_drop, wp_set, wp_ifS, wp_par, wp_par3, wp_unp, wp_asg, wp_dput, wp_for, wp_getV, wp_cst, wp_bin, wp_asB, wp_notM, wp_andM, wp_orM, wp_andV, wp_orV, wp_notV, wp_ifM, wp_chn, wp_nilA, wp_consA, wp_callM, wp_callF, wp_tupM, wp_lstM, wp_ownM, wp_seqM, wp_methM, wp_lcM, wp_isiM, wp_isiN, wp_partN, wp_partS, wp_cutM, wp_rng1, wp_rng2, wp_negM, wp_revM, wp_dispM, wp_pnil, wp_pcons, wp_sortSetM, wp_run, wpF_ok, wpR_ok, wpR_bad, isB_b, isV_s, isS_s, isDic_d, wpF_ret, wpF_own, ob_l, ob_f, List.set_cons_zero, List.set_cons_succ, List.getElem?_cons_zero, List.getElem?_cons_succ, toAs, toA, toDs, toD, Bool.not_true, Bool.not_false, reduceIte, Bool.false_eq_true, if_false, if_true]
  show wpR (Res.ok (Rv.v (.tuple (cs.map Sc.d))) _ _) _
  rw [wpR_ok, wpF_ret]
  rw [List.take_of_length_le (Nat.le_refl _)] at hcs
  exact h cs _ hcs hok (f1.mono (by omega))
end RB.Law

end

/-! text KBuild -/
section
set_option Elab.async false
set_option linter.all false
set_option maxRecDepth 100000
set_option maxHeartbeats 4000000
namespace RB.Law
open PySem PySem.Spec PyProof.Rows L2 RB
theorem ten6 : (10 : Int) ^ (6 : Int).toNat = ((1000000 : Nat) : Int) := by decide
theorem weight_wp {n : Nat} {S : Sto} {Q : Rv → Sto → Prop} (f : Feed n S) (hn : n < 900000000) (h : ∀ (w : Int) S', 1 ≤ w → w < 10 ^ 60 → Feed (n + 3) S' → Q (.v (.int w)) S') : wpF (f__law_weight [.loc 0] S) Q := by
  show wpF (fnRun (m__law_weight [some (.loc 0), none] [] S)) _
  rw [wp_run]
  unfold m__law_weight
  refine step_set (fun r T' S' => ∃ way : Nat, way < 4 ∧ r = .v (.int way) ∧ T' = [] ∧ Feed (n + 1) S') ?_ ?_
  · simp only [wp_seq, wp_skip, wp_ret, wp_drop, wp_set, wp_ifS, wp_par, wp_par3, wp_unp, wp_asg, wp_dput, wp_for, wp_getV, wp_cst, wp_bin, wp_asB, wp_notM, wp_andM, wp_orM, wp_andV, wp_orV, wp_notV, wp_ifM, wp_chn, wp_nilA, wp_consA, wp_callM, wp_callF, wp_tupM, wp_lstM, wp_ownM, wp_seqM, wp_methM, wp_lcM, wp_isiM, wp_isiN, wp_partN, wp_partS, wp_cutM, wp_rng1, wp_rng2, wp_negM, wp_revM, wp_dispM, wp_pnil, wp_pcons, wp_sortSetM, wp_run, wpF_ok, wpR_ok, wpR_bad, isB_b, isV_s, isS_s, isDic_d, wpF_ret, wpF_own, ob_l, ob_f, List.set_cons_zero, List.set_cons_succ, List.getElem?_cons_zero, List.getElem?_cons_succ, toAs, toA, toDs, toD, Bool.not_true, Bool.not_false, reduceIte, Bool.false_eq_true, if_false, if_true]
    refine draw_wp f (by omega) (m := 4) (by decide) (by decide) fun way S1 hw f1 => ?_
    exact ⟨way, hw, (by first | rfl | trivial), (by first | rfl | trivial), f1⟩
  rintro r T' S' ⟨way, hw, rfl, rfl, f1⟩
  refine step_if (fun b T' S'' => b = decide ((way : Int) = 0) ∧ T' = [] ∧ S'' = S') ?_ ?_ ?_
  · simp only [wp_seq, wp_skip, wp_ret, wp_drop, wp_set, wp_ifS, wp_par, wp_par3, wp_unp, wp_asg, wp_dput, wp_for, wp_getV, wp_cst, wp_bin, wp_asB, wp_notM, wp_andM, wp_orM, wp_andV, wp_orV, wp_notV, wp_ifM, wp_chn, wp_nilA, wp_consA, wp_callM, wp_callF, wp_tupM, wp_lstM, wp_ownM, wp_seqM, wp_methM, wp_lcM, wp_isiM, wp_isiN, wp_partN, wp_partS, wp_cutM, wp_rng1, wp_rng2, wp_negM, wp_revM, wp_dispM, wp_pnil, wp_pcons, wp_sortSetM, wp_run, wpF_ok, wpR_ok, wpR_bad, isB_b, isV_s, isS_s, isDic_d, wpF_ret, wpF_own, ob_l, ob_f, List.set_cons_zero, List.set_cons_succ, List.getElem?_cons_zero, List.getElem?_cons_succ, toAs, toA, toDs, toD, Bool.not_true, Bool.not_false, reduceIte, Bool.false_eq_true, if_false, if_true, o_eq_int]
    and_intros <;> first | rfl | trivial
  · rintro T' S'' ⟨_, rfl, rfl⟩
    refine step_ret ?_
    simp only [wp_seq, wp_skip, wp_ret, wp_drop, wp_set, wp_ifS, wp_par, wp_par3, wp_unp, wp_asg, wp_dput, wp_for, wp_getV, wp_cst, wp_bin, wp_asB, wp_notM, wp_andM, wp_orM, wp_andV, wp_orV, wp_notV, wp_ifM, wp_chn, wp_nilA, wp_consA, wp_callM, wp_callF, wp_tupM, wp_lstM, wp_ownM, wp_seqM, wp_methM, wp_lcM, wp_isiM, wp_isiN, wp_partN, wp_partS, wp_cutM, wp_rng1, wp_rng2, wp_negM, wp_revM, wp_dispM, wp_pnil, wp_pcons, wp_sortSetM, wp_run, wpF_ok, wpR_ok, wpR_bad, isB_b, isV_s, isS_s, isDic_d, wpF_ret, wpF_own, ob_l, ob_f, List.set_cons_zero, List.set_cons_succ, List.getElem?_cons_zero, List.getElem?_cons_succ, toAs, toA, toDs, toD, Bool.not_true, Bool.not_false, reduceIte, Bool.false_eq_true, if_false, if_true, o_pow_int _ _ 10 6 (by decide), o_pow_int _ _ 10 53 (by decide), ten6]
    refine draw_wp f1 (by omega) (by decide) (by decide) fun a S2 ha f2 => ?_
    have e53 : (10 : Int) ^ (53 : Int).toNat = 10 ^ 53 := rfl
    rw [e53, o_mul_small _ _ (a : Int) (10 ^ 53) (by
      have : (1000000 : Nat) < 2 ^ 400 := by decide +kernel
      omega) (by decide +kernel), wpR_ok, o_add_int, wpR_ok]
    refine draw_wp f2 (by omega) (by decide) (by decide) fun b S3 hb f3 => ?_
    rw [o_add_int, wpR_ok, wpF_ret]
    have ea : (a : Int) * 10 ^ 53 ≤ 999999 * 10 ^ 53 := Int.mul_le_mul_of_nonneg_right (by omega) (by decide)
    have eb : 0 ≤ (a : Int) * 10 ^ 53 := Int.mul_nonneg (by omega) (by decide)
    have e60 : (999999 : Int) * 10 ^ 53 + 1000001 < 10 ^ 60 := by decide +kernel
    generalize (a : Int) * 10 ^ 53 = z at ea eb ⊢
    generalize (999999 : Int) * 10 ^ 53 = y at ea e60
    exact h _ _ (by omega) (by omega) (f3.mono (by omega))
  · rintro T' S'' ⟨e, rfl, rfl⟩
    have hw0 : way ≠ 0 := fun z => by subst z; simp at e
    refine step_skip ?_
    simp only [wp_seq, wp_skip, wp_ret, wp_drop, wp_set, wp_ifS, wp_par, wp_par3, wp_unp, wp_asg, wp_dput, wp_for, wp_getV, wp_cst, wp_bin, wp_asB, wp_notM, wp_andM, wp_orM, wp_andV, wp_orV, wp_notV, wp_ifM, wp_chn, wp_nilA, wp_consA, wp_callM, wp_callF, wp_tupM, wp_lstM, wp_ownM, wp_seqM, wp_methM, wp_lcM, wp_isiM, wp_isiN, wp_partN, wp_partS, wp_cutM, wp_rng1, wp_rng2, wp_negM, wp_revM, wp_dispM, wp_pnil, wp_pcons, wp_sortSetM, wp_run, wpF_ok, wpR_ok, wpR_bad, isB_b, isV_s, isS_s, isDic_d, wpF_ret, wpF_own, ob_l, ob_f, List.set_cons_zero, List.set_cons_succ, List.getElem?_cons_zero, List.getElem?_cons_succ, toAs, toA, toDs, toD, Bool.not_true, Bool.not_false, reduceIte, Bool.false_eq_true, if_false, if_true, o_sub_int, wp_ixL, List.length_cons, List.length_nil]
    refine ⟨by decide, ?_⟩
    have e1 : ((way : Int) - 1) = ((way - 1 : Nat) : Int) := by omega
    rw [e1, atI_nat]
    have small : ∀ k : Nat, k < 3 → ∃ m : Nat, 0 < m ∧ m ≤ 1200 ∧ ([.int 3, .int 12, .int 1200] : List D)[k]? = some (.int (m : Int)) := fun k hk => by
      match k, hk with
      | 0, _ => exact ⟨3, by decide, by decide, rfl⟩
      | 1, _ => exact ⟨12, by decide, by decide, rfl⟩
      | 2, _ => exact ⟨1200, by decide, by decide, rfl⟩
    obtain ⟨m, hm0, hm1, hm⟩ := small (way - 1) (by omega)
    rw [hm]
    simp only [wp_seq, wp_skip, wp_ret, wp_drop, wp_set, wp_ifS, wp_par, wp_par3, wp_unp, wp_asg, wp_dput, wp_for, wp_getV, wp_cst, wp_bin, wp_asB, wp_notM, wp_andM, wp_orM, wp_andV, wp_orV, wp_notV, wp_ifM, wp_chn, wp_nilA, wp_consA, wp_callM, wp_callF, wp_tupM, wp_lstM, wp_ownM, wp_seqM, wp_methM, wp_lcM, wp_isiM, wp_isiN, wp_partN, wp_partS, wp_cutM, wp_rng1, wp_rng2, wp_negM, wp_revM, wp_dispM, wp_pnil, wp_pcons, wp_sortSetM, wp_run, wpF_ok, wpR_ok, wpR_bad, isB_b, isV_s, isS_s, isDic_d, wpF_ret, wpF_own, ob_l, ob_f, List.set_cons_zero, List.set_cons_succ, List.getElem?_cons_zero, List.getElem?_cons_succ, toAs, toA, toDs, toD, Bool.not_true, Bool.not_false, reduceIte, Bool.false_eq_true, if_false, if_true]
    refine draw_wp f1 (by omega) hm0 (by omega) fun a S2 ha f2 => ?_
    rw [o_add_int, wpR_ok, wpF_ret]
    have e60 : (2000 : Int) < 10 ^ 60 := by decide +kernel
    exact h _ _ (by omega) (Int.lt_trans (by omega) e60) (f2.mono (by omega))
/-- a build of the drawn book -/
structure Bd where
  p : Str
  k : Option Str
  s : Str
  g : List Str
  o : Str
def optD : Option Str → D
  | none => .none
  | some x => .str x
def Bd.d (b : Bd) : D := .tuple [.str b.p, optD b.k, .str b.s, .tuple (b.g.map .str), .str b.o]
def prtD (p : Str × Int) : D := .tuple [.str p.1, .int p.2]
structure Bd.Ok (b : Bd) (ss fo bl : List Str) : Prop where
  p : b.p ∈ fo
  k : ∀ x, b.k = some x → x ∈ bl
  s : b.s ∈ ss
  g : ∀ x ∈ b.g, x ∈ bl
  o : b.o ∈ bl
  lg : b.g.length ≤ 3
theorem build_wp {n : Nat} {S : Sto} {Q : Rv → Sto → Prop} {cs : List Sc} {ps : List (Str × Int)} {ss tt bl : List Str} (f : Feed n S) (hn : n < 900000000) (hc0 : cs ≠ []) (hcl : cs.length ≤ 1000) (hp0 : ps ≠ []) (hpl : ps.length ≤ 1000) (hok : ∀ c ∈ cs, c.Ok ss tt) (hb0 : bl ≠ []) (hbl : bl.length ≤ 1000)
    (h : ∀ (b : Bd) S', b.Ok ss (ps.map (·.1)) bl → Feed (n + 8) S' → Q (.v b.d) S') : wpF (f__law_build [.loc 0, .v (.tuple [.tuple (cs.map Sc.d), .tuple (ps.map prtD)]), .v (.list (bl.map .str))] S) Q := by
  show wpF (fnRun (m__law_build [some (.loc 0), some (.v (.tuple [.tuple (cs.map Sc.d), .tuple (ps.map prtD)])), some (.v (.list (bl.map .str))), none, none, none, none] [] S)) _
  have pc := pool_tup (xs := cs.map Sc.d) (by simpa using hc0) (by rw [List.length_map]; omega)
  have pp := pool_tup (xs := ps.map prtD) (by simpa using hp0) (by rw [List.length_map]; omega)
  have pb := pool_list (xs := bl.map PyData.str) (by simpa using hb0) (by rw [List.length_map]; omega)
  rw [wp_run]
  unfold m__law_build
  refine step_mid (fun ρ' T' S' => ∃ c ∈ cs, ∃ p ∈ ps, ρ' = [some (.loc 0), some (.v (.tuple [.tuple (cs.map Sc.d), .tuple (ps.map prtD)])), some (.v (.list (bl.map .str))), some (.v c.d), some (.v (prtD p)), none, none] ∧ T' = [] ∧ Feed (n + 2) S') ?_ ?_
  · rw [wp_par]
    simp only [wp_seq, wp_skip, wp_ret, wp_drop, wp_set, wp_ifS, wp_par, wp_par3, wp_unp, wp_asg, wp_dput, wp_for, wp_getV, wp_cst, wp_bin, wp_asB, wp_notM, wp_andM, wp_orM, wp_andV, wp_orV, wp_notV, wp_ifM, wp_chn, wp_nilA, wp_consA, wp_callM, wp_callF, wp_tupM, wp_lstM, wp_ownM, wp_seqM, wp_methM, wp_lcM, wp_isiM, wp_isiN, wp_partN, wp_partS, wp_cutM, wp_rng1, wp_rng2, wp_negM, wp_revM, wp_dispM, wp_pnil, wp_pcons, wp_sortSetM, wp_run, wpF_ok, wpR_ok, wpR_bad, isB_b, isV_s, isS_s, isDic_d, wpF_ret, wpF_own, ob_l, ob_f, List.set_cons_zero, List.set_cons_succ, List.getElem?_cons_zero, List.getElem?_cons_succ, toAs, toA, toDs, toD, Bool.not_true, Bool.not_false, reduceIte, Bool.false_eq_true, if_false, if_true, wp_ixT, atI_0, atI_1]
    refine pc _ _ _ f (by omega) fun x S1 hx f1 => ?_
    refine pp _ _ _ f1 (by omega) fun y S2 hy f2 => ?_
    obtain ⟨c, hc, rfl⟩ := List.mem_map.mp hx
    obtain ⟨p, hp, rfl⟩ := List.mem_map.mp hy
    exact ⟨_, _, (by first | rfl | trivial), c, hc, p, hp, (by first | rfl | trivial), (by first | rfl | trivial), f2⟩
  rintro ρ T S' ⟨c, hc, p, hp, rfl, rfl, f2⟩
  have ok := hok c hc
  refine step_if (fun b T' S' => T' = [] ∧ Feed (n + 3) S') ?_ ?_ ?_
  · simp only [wp_seq, wp_skip, wp_ret, wp_drop, wp_set, wp_ifS, wp_par, wp_par3, wp_unp, wp_asg, wp_dput, wp_for, wp_getV, wp_cst, wp_bin, wp_asB, wp_notM, wp_andM, wp_orM, wp_andV, wp_orV, wp_notV, wp_ifM, wp_chn, wp_nilA, wp_consA, wp_callM, wp_callF, wp_tupM, wp_lstM, wp_ownM, wp_seqM, wp_methM, wp_lcM, wp_isiM, wp_isiN, wp_partN, wp_partS, wp_cutM, wp_rng1, wp_rng2, wp_negM, wp_revM, wp_dispM, wp_pnil, wp_pcons, wp_sortSetM, wp_run, wpF_ok, wpR_ok, wpR_bad, isB_b, isV_s, isS_s, isDic_d, wpF_ret, wpF_own, ob_l, ob_f, List.set_cons_zero, List.set_cons_succ, List.getElem?_cons_zero, List.getElem?_cons_succ, toAs, toA, toDs, toD, Bool.not_true, Bool.not_false, reduceIte, Bool.false_eq_true, if_false, if_true]
    refine draw_wp f2 (by omega) (m := 4) (by decide) (by decide) fun k S3 hk f3 => ?_
    rw [o_eq_int, wpR_ok, isB_b]
    exact ⟨rfl, f3⟩
  · rintro T' S' ⟨rfl, f3⟩
    refine step_ret ?_
    simp only [wp_seq, wp_skip, wp_ret, wp_drop, wp_set, wp_ifS, wp_par, wp_par3, wp_unp, wp_asg, wp_dput, wp_for, wp_getV, wp_cst, wp_bin, wp_asB, wp_notM, wp_andM, wp_orM, wp_andV, wp_orV, wp_notV, wp_ifM, wp_chn, wp_nilA, wp_consA, wp_callM, wp_callF, wp_tupM, wp_lstM, wp_ownM, wp_seqM, wp_methM, wp_lcM, wp_isiM, wp_isiN, wp_partN, wp_partS, wp_cutM, wp_rng1, wp_rng2, wp_negM, wp_revM, wp_dispM, wp_pnil, wp_pcons, wp_sortSetM, wp_run, wpF_ok, wpR_ok, wpR_bad, isB_b, isV_s, isS_s, isDic_d, wpF_ret, wpF_own, ob_l, ob_f, List.set_cons_zero, List.set_cons_succ, List.getElem?_cons_zero, List.getElem?_cons_succ, toAs, toA, toDs, toD, Bool.not_true, Bool.not_false, reduceIte, Bool.false_eq_true, if_false, if_true, Sc.d, prtD, wp_ixT, atI_0, List.length_nil]
    refine ⟨by decide, ?_⟩
    refine pb _ _ _ f3 (by omega) fun x S4 hx f4 => ?_
    obtain ⟨o, ho, rfl⟩ := List.mem_map.mp hx
    simp only [wp_seq, wp_skip, wp_ret, wp_drop, wp_set, wp_ifS, wp_par, wp_par3, wp_unp, wp_asg, wp_dput, wp_for, wp_getV, wp_cst, wp_bin, wp_asB, wp_notM, wp_andM, wp_orM, wp_andV, wp_orV, wp_notV, wp_ifM, wp_chn, wp_nilA, wp_consA, wp_callM, wp_callF, wp_tupM, wp_lstM, wp_ownM, wp_seqM, wp_methM, wp_lcM, wp_isiM, wp_isiN, wp_partN, wp_partS, wp_cutM, wp_rng1, wp_rng2, wp_negM, wp_revM, wp_dispM, wp_pnil, wp_pcons, wp_sortSetM, wp_run, wpF_ok, wpR_ok, wpR_bad, isB_b, isV_s, isS_s, isDic_d, wpF_ret, wpF_own, ob_l, ob_f, List.set_cons_zero, List.set_cons_succ, List.getElem?_cons_zero, List.getElem?_cons_succ, toAs, toA, toDs, toD, Bool.not_true, Bool.not_false, reduceIte, Bool.false_eq_true, if_false, if_true, List.length_cons, List.length_nil]
    exact ⟨by decide, h ⟨p.1, none, c.nm, [], o⟩ _ ⟨List.mem_map.mpr ⟨p, hp, rfl⟩, (by intro x hx; cases hx), ok.nm, (by intro x hx; cases hx), ho, Nat.zero_le _⟩ (f4.mono (by omega))⟩
  · rintro T' S' ⟨rfl, f3⟩
    refine step_skip ?_
    refine step_set (fun r T' S' => ∃ g : List Str, g.length ≤ 3 ∧ (∀ x ∈ g, x ∈ bl) ∧ r = .v (.tuple (g.map .str)) ∧ T' = [] ∧ Feed (n + 6) S') ?_ ?_
    · simp only [wp_seq, wp_skip, wp_ret, wp_drop, wp_set, wp_ifS, wp_par, wp_par3, wp_unp, wp_asg, wp_dput, wp_for, wp_getV, wp_cst, wp_bin, wp_asB, wp_notM, wp_andM, wp_orM, wp_andV, wp_orV, wp_notV, wp_ifM, wp_chn, wp_nilA, wp_consA, wp_callM, wp_callF, wp_tupM, wp_lstM, wp_ownM, wp_seqM, wp_methM, wp_lcM, wp_isiM, wp_isiN, wp_partN, wp_partS, wp_cutM, wp_rng1, wp_rng2, wp_negM, wp_revM, wp_dispM, wp_pnil, wp_pcons, wp_sortSetM, wp_run, wpF_ok, wpR_ok, wpR_bad, isB_b, isV_s, isS_s, isDic_d, wpF_ret, wpF_own, ob_l, ob_f, List.set_cons_zero, List.set_cons_succ, List.getElem?_cons_zero, List.getElem?_cons_succ, toAs, toA, toDs, toD, Bool.not_true, Bool.not_false, reduceIte, Bool.false_eq_true, if_false, if_true, Sc.d, wp_ixT, atI_4, wp_itemsT, wipeV]
      refine picks_wp pb rfl rfl (by decide) (by decide) f3 (by rw [List.length_map]; have := ok.lus; omega) fun rs S4 hl4 hr4 f4 => ?_
      rw [List.length_map] at hl4 f4
      have hlus := ok.lus
      have ex : ∀ rs : List D, (∀ r ∈ rs, r ∈ bl.map PyData.str) → ∃ ys : List Str, rs = ys.map .str ∧ ∀ y ∈ ys, y ∈ bl := by
        intro rs
        induction rs with
        | nil => exact fun _ => ⟨[], rfl, by intro y hy; cases hy⟩
        | cons x rs ih =>
          intro h
          obtain ⟨ys, e, hy⟩ := ih fun r hr => h r (List.mem_cons_of_mem _ hr)
          obtain ⟨s, hs', e2⟩ := List.mem_map.mp (h x List.mem_cons_self)
          refine ⟨s :: ys, by rw [List.map_cons, e, e2], fun y hy' => ?_⟩
          rcases List.mem_cons.mp hy' with z | z
          · rw [z]; exact hs'
          · exact hy y z
      obtain ⟨ys, rfl, hy⟩ := ex rs hr4
      rw [List.length_map] at hl4
      rw [wp_newF]
      refine ⟨by rw [List.length_map]; omega, ?_⟩
      rw [wp_tupleL]
      exact ⟨ys, by omega, hy, rfl, rfl, f4.mono (by omega)⟩
    rintro r T' S' ⟨g, hg, hgb, rfl, rfl, f4⟩
    simp only [wp_seq, wp_skip, wp_ret, wp_drop, wp_set, wp_ifS, wp_par, wp_par3, wp_unp, wp_asg, wp_dput, wp_for, wp_getV, wp_cst, wp_bin, wp_asB, wp_notM, wp_andM, wp_orM, wp_andV, wp_orV, wp_notV, wp_ifM, wp_chn, wp_nilA, wp_consA, wp_callM, wp_callF, wp_tupM, wp_lstM, wp_ownM, wp_seqM, wp_methM, wp_lcM, wp_isiM, wp_isiN, wp_partN, wp_partS, wp_cutM, wp_rng1, wp_rng2, wp_negM, wp_revM, wp_dispM, wp_pnil, wp_pcons, wp_sortSetM, wp_run, wpF_ok, wpR_ok, wpR_bad, isB_b, isV_s, isS_s, isDic_d, wpF_ret, wpF_own, ob_l, ob_f, List.set_cons_zero, List.set_cons_succ, List.getElem?_cons_zero, List.getElem?_cons_succ, toAs, toA, toDs, toD, Bool.not_true, Bool.not_false, reduceIte, Bool.false_eq_true, if_false, if_true, Sc.d, prtD, wp_ixT, atI_0]
    refine pb _ _ _ f4 (by omega) fun x S5 hx f5 => ?_
    refine pb _ _ _ f5 (by omega) fun y S6 hy f6 => ?_
    obtain ⟨k, hk, rfl⟩ := List.mem_map.mp hx
    obtain ⟨o, ho, rfl⟩ := List.mem_map.mp hy
    simp only [wp_seq, wp_skip, wp_ret, wp_drop, wp_set, wp_ifS, wp_par, wp_par3, wp_unp, wp_asg, wp_dput, wp_for, wp_getV, wp_cst, wp_bin, wp_asB, wp_notM, wp_andM, wp_orM, wp_andV, wp_orV, wp_notV, wp_ifM, wp_chn, wp_nilA, wp_consA, wp_callM, wp_callF, wp_tupM, wp_lstM, wp_ownM, wp_seqM, wp_methM, wp_lcM, wp_isiM, wp_isiN, wp_partN, wp_partS, wp_cutM, wp_rng1, wp_rng2, wp_negM, wp_revM, wp_dispM, wp_pnil, wp_pcons, wp_sortSetM, wp_run, wpF_ok, wpR_ok, wpR_bad, isB_b, isV_s, isS_s, isDic_d, wpF_ret, wpF_own, ob_l, ob_f, List.set_cons_zero, List.set_cons_succ, List.getElem?_cons_zero, List.getElem?_cons_succ, toAs, toA, toDs, toD, Bool.not_true, Bool.not_false, reduceIte, Bool.false_eq_true, if_false, if_true, List.length_cons, List.length_nil]
    exact ⟨by decide, h ⟨p.1, some k, c.nm, g, o⟩ _ ⟨List.mem_map.mpr ⟨p, hp, rfl⟩, (by intro x hx; cases hx; exact hk), ok.nm, hgb, ho, hg⟩ (f6.mono (by omega))⟩
end RB.Law

end

/-! text KBook -/
section
set_option Elab.async false
set_option linter.all false
set_option maxRecDepth 100000
set_option maxHeartbeats 4000000
namespace RB.Law
open PySem PySem.Spec PyProof.Rows L2 RB
/-! ### sorted texts -/
theorem sortD_strs (ss : List Str) : sortD (ss.map .str) = (sortS ss).map .str := by
  unfold sortD sortS
  refine (List.map_mergeSort (r := leS) (s := leD) (f := PyData.str) (l := ss) fun a _ b _ => ?_).symm
  exact (congrFun (congrFun dataLe_leS a) b).symm
theorem sortOk_strs (ss : List Str) (h : ss.length ≤ 16777216) : sortOk (ss.map .str) = true := by
  unfold sortOk allAlike
  simp only [Bool.and_eq_true, decide_eq_true_eq, List.length_map, h, and_true, Bool.or_eq_true]
  refine ⟨⟨?_, .inr ?_⟩, ?_⟩
  · simp [List.all_map, PySem.W.alike, List.all_eq_true]
  · simp [List.all_map, notTup, List.all_eq_true]
  · simp [List.all_map, PyData.depth, List.all_eq_true]
theorem wp_sortedS {Q : Rv → Sto → Sto → Prop} (T S : Sto) (ss : List Str) (h : ss.length ≤ 16777216) : wpR (c_sorted [.v (.list (ss.map .str))] T S) Q = Q (.v (.list ((sortS ss).map .str))) T S := by
  show wpR (if sortOk (ss.map .str) = true then .ok (.v (.list (sortD (ss.map .str)))) T S else .bad) Q = _
  rw [if_pos (sortOk_strs ss h), wpR_ok, sortD_strs]
theorem ix_small (is : List Int) (lo hi : Nat) (h : is.all (fun i => decide ((lo : Int) ≤ i) && decide (i ≤ (hi : Int))) = true) {d : Nat} (hd : d < is.length) : ∃ v : Nat, lo ≤ v ∧ v ≤ hi ∧ atI (is.map PyData.int) (d : Int) = some (.int (v : Int)) := by
  rw [atI_nat, List.getElem?_map, List.getElem?_eq_getElem hd]
  have := List.all_eq_true.mp h _ (List.getElem_mem hd)
  simp only [Bool.and_eq_true, decide_eq_true_eq] at this
  exact ⟨is[d].toNat, by omega, by omega, by show some (PyData.int is[d]) = _; congr 2; omega⟩
/-- names(feed, table[draw(feed, k)]) -/
theorem tab_names {ρ : Vn} {n k lo hi : Nat} {T S : Sto} {Q : Rv → Sto → Sto → Prop} (is : List Int) {me : EM Rv} (h0 : ρ[0]? = some (some (.loc 0))) (f : Feed n S) (hn : n < 800000000) (hk : is.length = k) (hk0 : 0 < k) (hk1 : k < 1000) (hh : hi ≤ 7) (hb : is.all (fun i => decide ((lo : Int) ≤ i) && decide (i ≤ (hi : Int))) = true)
    (he : ∀ T S Q, wpR (me ρ T S) Q = Q (.v (.list (is.map .int))) T S)
    (hQ : ∀ (ss : List Str) S', lo ≤ ss.length → ss.length ≤ hi → ss.Nodup → (∀ s ∈ ss, nameS s = true) → Feed (n + 101) S' → Q (.v (.list (ss.map .str))) T S') :
    wpR (callM (callF f__law_names) (consA (getV 0) (consA (bin o_ix me (callM (callF f__law_draw) (consA (getV 0) (consA (cst (.int (k : Int))) nilA)))) nilA)) ρ T S) Q := by
  simp only [wp_seq, wp_skip, wp_ret, wp_drop, wp_set, wp_ifS, wp_par, wp_par3, wp_unp, wp_asg, wp_dput, wp_for, wp_getV, wp_cst, wp_bin, wp_asB, wp_notM, wp_andM, wp_orM, wp_andV, wp_orV, wp_notV, wp_ifM, wp_chn, wp_nilA, wp_consA, wp_callM, wp_callF, wp_tupM, wp_lstM, wp_ownM, wp_seqM, wp_methM, wp_lcM, wp_isiM, wp_isiN, wp_partN, wp_partS, wp_cutM, wp_rng1, wp_rng2, wp_negM, wp_revM, wp_dispM, wp_pnil, wp_pcons, wp_sortSetM, wp_run, wpF_ok, wpR_ok, wpR_bad, isB_b, isV_s, isS_s, isDic_d, wpF_ret, wpF_own, ob_l, ob_f, List.set_cons_zero, List.set_cons_succ, List.getElem?_cons_zero, List.getElem?_cons_succ, toAs, toA, toDs, toD, Bool.not_true, Bool.not_false, reduceIte, Bool.false_eq_true, if_false, if_true, h0, he]
  refine draw_wp f (by omega) hk0 (by omega) fun d S1 hd f1 => ?_
  obtain ⟨v, h1, h2, e⟩ := ix_small is lo hi hb (by omega : d < is.length)
  rw [wp_ixL, e]
  simp only [wp_seq, wp_skip, wp_ret, wp_drop, wp_set, wp_ifS, wp_par, wp_par3, wp_unp, wp_asg, wp_dput, wp_for, wp_getV, wp_cst, wp_bin, wp_asB, wp_notM, wp_andM, wp_orM, wp_andV, wp_orV, wp_notV, wp_ifM, wp_chn, wp_nilA, wp_consA, wp_callM, wp_callF, wp_tupM, wp_lstM, wp_ownM, wp_seqM, wp_methM, wp_lcM, wp_isiM, wp_isiN, wp_partN, wp_partS, wp_cutM, wp_rng1, wp_rng2, wp_negM, wp_revM, wp_dispM, wp_pnil, wp_pcons, wp_sortSetM, wp_run, wpF_ok, wpR_ok, wpR_bad, isB_b, isV_s, isS_s, isDic_d, wpF_ret, wpF_own, ob_l, ob_f, List.set_cons_zero, List.set_cons_succ, List.getElem?_cons_zero, List.getElem?_cons_succ, toAs, toA, toDs, toD, Bool.not_true, Bool.not_false, reduceIte, Bool.false_eq_true, if_false, if_true]
  refine names_wp f1 (by omega) (by omega) fun ss S2 hl nd hnm f2 => ?_
  exact hQ ss S2 (by omega) (by omega) nd hnm (f2.mono (by omega))
theorem look_own0 (n : Nat) (T S : Sto) (xs : List D) (h : T[n]? = some (.lst xs)) : look (.own n) T S = some (.list xs) := by
  show (obList T[n]?).map PyData.list = _
  rw [h]; rfl
/-! ### the pairs -/
def prD (p : Str × Str) : D := .tuple [.str p.1, .str p.2]
def PairI (n : Nat) (ss : List Str) (r2 r3 r4 r5 : Option Rv) (i : Nat) (ρ : Vn) (T S : Sto) : Prop :=
  ∃ (x8 x12 : Option Rv) (ps : List (Str × Str)), ρ = [some (.loc 0), some (.v (.list (ss.map .str))), r2, r3, r4, r5, some (.own 0), some (.own 1), x8, none, none, none, x12] ∧ T = [.lst (ps.map prD), .lst []] ∧ ps.length ≤ 10 * i ∧ (∀ p ∈ ps, p.1 ∈ ss ∧ p.2 ∈ ss) ∧ Feed (n + 10 * i) S
theorem pair_turn {n : Nat} {ss : List Str} {r2 r3 r4 r5 : Option Rv} {i : Nat} {ρ : Vn} {T S : Sto} {R : Rv → Sto → Sto → Prop} (hl : ss.length ≤ 10) (hi : i < ss.length) (hn : n < 900000000) (hI : PairI n ss r2 r3 r4 r5 i ρ T S) :
    isS (tgName 8 (.int (i : Int)) ρ) fun ρ' => wpO ((dropS (methM isL extendR (getV 6) (consA (lcM false (seqM (cutM (getV 1) (some (bin o_add (getV 8) (cst (.int (1))))) none)) (tgName 12) (asB (bin o_eq (callM (callF f__law_draw) (consA (getV 0) (consA (cst (.int (3))) nilA))) (cst (.int (0))))) (tupM (consA (bin o_ix (getV 1) (getV 8)) (consA (getV 12) nilA))) [12]) nilA))) ρ' T S) (PairI n ss r2 r3 r4 r5 (i + 1)) R := by
  obtain ⟨x8, x12, ps, rfl, rfl, hpl, hps, f⟩ := hI
  show wpO (dropS _ [some (.loc 0), some (.v (.list (ss.map .str))), r2, r3, r4, r5, some (.own 0), some (.own 1), some (.v (.int (i : Int))), none, none, none, x12] _ _) _ _
  simp only [wp_seq, wp_skip, wp_ret, wp_drop, wp_set, wp_ifS, wp_par, wp_par3, wp_unp, wp_asg, wp_dput, wp_for, wp_getV, wp_cst, wp_bin, wp_asB, wp_notM, wp_andM, wp_orM, wp_andV, wp_orV, wp_notV, wp_ifM, wp_chn, wp_nilA, wp_consA, wp_callM, wp_callF, wp_tupM, wp_lstM, wp_ownM, wp_seqM, wp_methM, wp_lcM, wp_isiM, wp_isiN, wp_partN, wp_partS, wp_cutM, wp_rng1, wp_rng2, wp_negM, wp_revM, wp_dispM, wp_pnil, wp_pcons, wp_sortSetM, wp_run, wpF_ok, wpR_ok, wpR_bad, isB_b, isV_s, isS_s, isDic_d, wpF_ret, wpF_own, ob_l, ob_f, List.set_cons_zero, List.set_cons_succ, List.getElem?_cons_zero, List.getElem?_cons_succ, toAs, toA, toDs, toD, Bool.not_true, Bool.not_false, reduceIte, Bool.false_eq_true, if_false, if_true, o_add_int]
  refine ⟨rfl, _, rfl, ?_⟩
  rw [wp_cutLi]
  have e1 : ((i : Int) + 1) = ((i + 1 : Nat) : Int) := by omega
  rw [e1, cut_suf _ _ (by rw [List.length_map]; omega), ← List.map_drop, wp_itemsV]
  simp only [wipeV, List.set_cons_zero, List.set_cons_succ]
  refine wp_comp (fun k acc T' S' => T' = [.lst (ps.map prD), .lst []] ∧ (∃ qs : List (Str × Str), acc = qs.map prD ∧ qs.length ≤ k ∧ ∀ p ∈ qs, p.1 ∈ ss ∧ p.2 ∈ ss) ∧ Feed (n + 10 * i + k) S') _ 0 [] _ _ ⟨rfl, ⟨[], rfl, Nat.le_refl _, by intro p hp; cases hp⟩, f⟩ (fun k e acc T' S' he ⟨hT, ⟨qs, hqs, hql, hq⟩, hf⟩ => ?_) fun rs T' S' ⟨hT, ⟨qs, hqs, hql, hq⟩, hf⟩ => ?_
  · have hkl := lt_of_get he
    rw [List.length_map, List.length_drop] at hkl
    have hm : e ∈ (ss.drop (i + 1)).map PyData.str := List.mem_of_getElem? he
    obtain ⟨s, hs, rfl⟩ := List.mem_map.mp hm
    have hs : s ∈ ss := List.mem_of_mem_drop hs
    subst hT
    show wpR (asB _ [some (.loc 0), some (.v (.list (ss.map .str))), r2, r3, r4, r5, some (.own 0), some (.own 1), some (.v (.int (i : Int))), none, none, none, some (.v (.str s))] _ _) _
    simp only [wp_seq, wp_skip, wp_ret, wp_drop, wp_set, wp_ifS, wp_par, wp_par3, wp_unp, wp_asg, wp_dput, wp_for, wp_getV, wp_cst, wp_bin, wp_asB, wp_notM, wp_andM, wp_orM, wp_andV, wp_orV, wp_notV, wp_ifM, wp_chn, wp_nilA, wp_consA, wp_callM, wp_callF, wp_tupM, wp_lstM, wp_ownM, wp_seqM, wp_methM, wp_lcM, wp_isiM, wp_isiN, wp_partN, wp_partS, wp_cutM, wp_rng1, wp_rng2, wp_negM, wp_revM, wp_dispM, wp_pnil, wp_pcons, wp_sortSetM, wp_run, wpF_ok, wpR_ok, wpR_bad, isB_b, isV_s, isS_s, isDic_d, wpF_ret, wpF_own, ob_l, ob_f, List.set_cons_zero, List.set_cons_succ, List.getElem?_cons_zero, List.getElem?_cons_succ, toAs, toA, toDs, toD, Bool.not_true, Bool.not_false, reduceIte, Bool.false_eq_true, if_false, if_true]
    refine draw_wp hf (by omega) (m := 3) (by decide) (by decide) fun d S2 hd f2 => ?_
    rw [o_eq_int, wpR_ok, isB_b]
    split
    · rw [wp_ixL, atI_nat, List.getElem?_map, List.getElem?_eq_getElem hi]
      simp only [wp_seq, wp_skip, wp_ret, wp_drop, wp_set, wp_ifS, wp_par, wp_par3, wp_unp, wp_asg, wp_dput, wp_for, wp_getV, wp_cst, wp_bin, wp_asB, wp_notM, wp_andM, wp_orM, wp_andV, wp_orV, wp_notV, wp_ifM, wp_chn, wp_nilA, wp_consA, wp_callM, wp_callF, wp_tupM, wp_lstM, wp_ownM, wp_seqM, wp_methM, wp_lcM, wp_isiM, wp_isiN, wp_partN, wp_partS, wp_cutM, wp_rng1, wp_rng2, wp_negM, wp_revM, wp_dispM, wp_pnil, wp_pcons, wp_sortSetM, wp_run, wpF_ok, wpR_ok, wpR_bad, isB_b, isV_s, isS_s, isDic_d, wpF_ret, wpF_own, ob_l, ob_f, List.set_cons_zero, List.set_cons_succ, List.getElem?_cons_zero, List.getElem?_cons_succ, toAs, toA, toDs, toD, Bool.not_true, Bool.not_false, reduceIte, Bool.false_eq_true, if_false, if_true, Option.map, List.length_cons, List.length_nil]
      refine ⟨by decide, by first | rfl | trivial, ⟨qs ++ [(ss[i], s)], by rw [List.map_append, hqs]; rfl, by rw [List.length_append, List.length_singleton]; omega, fun p hp => ?_⟩, f2⟩
      rcases List.mem_append.mp hp with z | z
      · exact hq p z
      · rw [List.mem_singleton] at z; rw [z]; exact ⟨List.getElem_mem hi, hs⟩
    · exact ⟨rfl, ⟨qs, hqs, by omega, hq⟩, f2⟩
  · rw [List.nil_append] at hqs
    subst hqs; subst hT
    rw [Nat.zero_add, List.length_map, List.length_drop] at hql hf
    rw [wp_newF]
    simp only [extendR, lstOf, wpR_ite, wp_seq, wp_skip, wp_ret, wp_drop, wp_set, wp_ifS, wp_par, wp_par3, wp_unp, wp_asg, wp_dput, wp_for, wp_getV, wp_cst, wp_bin, wp_asB, wp_notM, wp_andM, wp_orM, wp_andV, wp_orV, wp_notV, wp_ifM, wp_chn, wp_nilA, wp_consA, wp_callM, wp_callF, wp_tupM, wp_lstM, wp_ownM, wp_seqM, wp_methM, wp_lcM, wp_isiM, wp_isiN, wp_partN, wp_partS, wp_cutM, wp_rng1, wp_rng2, wp_negM, wp_revM, wp_dispM, wp_pnil, wp_pcons, wp_sortSetM, wp_run, wpF_ok, wpR_ok, wpR_bad, isB_b, isV_s, isS_s, isDic_d, wpF_ret, wpF_own, ob_l, ob_f, List.set_cons_zero, List.set_cons_succ, List.getElem?_cons_zero, List.getElem?_cons_succ, toAs, toA, toDs, toD, Bool.not_true, Bool.not_false, reduceIte, Bool.false_eq_true, if_false, if_true, List.length_map]
    refine ⟨by omega, by omega, _, _, ps ++ qs, rfl, by rw [List.map_append], by rw [List.length_append]; omega, fun p hp => ?_, hf.mono (by omega)⟩
    rcases List.mem_append.mp hp with z | z
    · exact hps p z
    · exact hq p z
/-! ### the builds -/
theorem depth_bd (b : Bd) : b.d.depth ≤ 2 := by
  have e : PyData.depthAll (b.g.map PyData.str) = 0 := depth_strs b.g
  unfold Bd.d
  cases b.k <;> simp [PyData.depth, PyData.depthAll, optD, e]
def BldI (n : Nat) (ss fo bl : List Str) (cs : List Sc) (ps : List (Str × Int)) (prs : List (Str × Str)) (r2 r4 r8 r9 r12 : Option Rv) (i : Nat) (ρ : Vn) (T S : Sto) : Prop :=
  ∃ (x10 x11 : Option Rv) (bs : List Bd), ρ = [some (.loc 0), some (.v (.list (ss.map .str))), r2, some (.v (.list (bl.map .str))), r4, some (.v (.tuple [.tuple (cs.map Sc.d), .tuple (ps.map prtD)])), some (.own 0), some (.own 1), r8, r9, x10, x11, r12] ∧
    T = [.lst (prs.map prD), .lst (bs.map Bd.d)] ∧ bs.length ≤ i ∧ (∀ b ∈ bs, b.Ok ss fo bl) ∧ Feed (n + 8 * i) S
theorem bld_turn {n : Nat} {ss fo tt bl : List Str} {cs : List Sc} {ps : List (Str × Int)} {prs : List (Str × Str)} {r2 r4 r8 r9 r12 : Option Rv} {i : Nat} {d : D} {ρ : Vn} {T S : Sto} {R : Rv → Sto → Sto → Prop} (hi : i < 1000) (hn : n < 800000000) (hc0 : cs ≠ []) (hcl : cs.length ≤ 1000) (hp0 : ps ≠ []) (hpl : ps.length ≤ 1000) (hok : ∀ c ∈ cs, c.Ok ss tt) (hb0 : bl ≠ []) (hbl : bl.length ≤ 1000) (hfo : ps.map (·.1) = fo)
    (hI : BldI n ss fo bl cs ps prs r2 r4 r8 r9 r12 i ρ T S) :
    isS (tgName 10 d ρ) fun ρ' => wpO ((seqS (setS 11 (callM (callF f__law_build) (consA (getV 0) (consA (getV 5) (consA (getV 3) nilA)))))
    (ifS (asB (bin (o_in true) (getV 11) (getV 7))) (dropS (methM isL appendR (getV 7) (consA (getV 11) nilA))) skipS)) ρ' T S) (BldI n ss fo bl cs ps prs r2 r4 r8 r9 r12 (i + 1)) R := by
  obtain ⟨x10, x11, bs, rfl, rfl, hbs, hbo, f⟩ := hI
  show wpO (seqS _ _ [some (.loc 0), some (.v (.list (ss.map .str))), r2, some (.v (.list (bl.map .str))), r4, some (.v (.tuple [.tuple (cs.map Sc.d), .tuple (ps.map prtD)])), some (.own 0), some (.own 1), r8, r9, some (.v d), x11, r12] _ _) _ _
  refine step_set (fun r T' S' => ∃ b : Bd, b.Ok ss fo bl ∧ r = .v b.d ∧ T' = [.lst (prs.map prD), .lst (bs.map Bd.d)] ∧ Feed (n + 8 * i + 8) S') ?_ ?_
  · simp only [wp_seq, wp_skip, wp_ret, wp_drop, wp_set, wp_ifS, wp_par, wp_par3, wp_unp, wp_asg, wp_dput, wp_for, wp_getV, wp_cst, wp_bin, wp_asB, wp_notM, wp_andM, wp_orM, wp_andV, wp_orV, wp_notV, wp_ifM, wp_chn, wp_nilA, wp_consA, wp_callM, wp_callF, wp_tupM, wp_lstM, wp_ownM, wp_seqM, wp_methM, wp_lcM, wp_isiM, wp_isiN, wp_partN, wp_partS, wp_cutM, wp_rng1, wp_rng2, wp_negM, wp_revM, wp_dispM, wp_pnil, wp_pcons, wp_sortSetM, wp_run, wpF_ok, wpR_ok, wpR_bad, isB_b, isV_s, isS_s, isDic_d, wpF_ret, wpF_own, ob_l, ob_f, List.set_cons_zero, List.set_cons_succ, List.getElem?_cons_zero, List.getElem?_cons_succ, toAs, toA, toDs, toD, Bool.not_true, Bool.not_false, reduceIte, Bool.false_eq_true, if_false, if_true]
    refine build_wp f (by omega) hc0 hcl hp0 hpl hok hb0 hbl fun b S1 hb f1 => ?_
    rw [hfo] at hb
    exact ⟨b, hb, (by first | rfl | trivial), (by first | rfl | trivial), f1⟩
  rintro r T' S' ⟨b, hb, rfl, rfl, f1⟩
  rw [wp_ifS]
  simp only [wp_asB, wp_bin, wp_getV, List.set_cons_zero, List.set_cons_succ, List.getElem?_cons_zero, List.getElem?_cons_succ, isV_s]
  have e : o_in true (.v b.d) (.own 1) [.lst (prs.map prD), .lst (bs.map Bd.d)] S' = .ok (.v (.bool (!(bs.map Bd.d).any fun y => PyData.eqv y b.d))) [.lst (prs.map prD), .lst (bs.map Bd.d)] S' := by
    show (if min (PyData.depthAll (bs.map Bd.d)) b.d.depth ≤ 60 then _ else _) = _
    rw [if_pos (by have := depth_bd b; omega)]
    rfl
  rw [e, wpR_ok, isB_b]
  split
  · simp only [wp_seq, wp_skip, wp_ret, wp_drop, wp_set, wp_ifS, wp_par, wp_par3, wp_unp, wp_asg, wp_dput, wp_for, wp_getV, wp_cst, wp_bin, wp_asB, wp_notM, wp_andM, wp_orM, wp_andV, wp_orV, wp_notV, wp_ifM, wp_chn, wp_nilA, wp_consA, wp_callM, wp_callF, wp_tupM, wp_lstM, wp_ownM, wp_seqM, wp_methM, wp_lcM, wp_isiM, wp_isiN, wp_partN, wp_partS, wp_cutM, wp_rng1, wp_rng2, wp_negM, wp_revM, wp_dispM, wp_pnil, wp_pcons, wp_sortSetM, wp_run, wpF_ok, wpR_ok, wpR_bad, isB_b, isV_s, isS_s, isDic_d, wpF_ret, wpF_own, ob_l, ob_f, List.set_cons_zero, List.set_cons_succ, List.getElem?_cons_zero, List.getElem?_cons_succ, toAs, toA, toDs, toD, Bool.not_true, Bool.not_false, reduceIte, Bool.false_eq_true, if_false, if_true, appendR, wpR_ite]
    refine ⟨rfl, by rw [List.length_map]; omega, _, _, bs ++ [b], rfl, by rw [List.map_append]; rfl, by rw [List.length_append, List.length_singleton]; omega, fun x hx => ?_, f1.mono (by omega)⟩
    rcases List.mem_append.mp hx with z | z
    · exact hbo x z
    · rw [List.mem_singleton] at z; rw [z]; exact hb
  · rw [wp_skip]
    exact ⟨_, _, bs, rfl, rfl, by omega, hbo, f1.mono (by omega)⟩
end RB.Law

end

/-! text KBook2 -/
section
set_option Elab.async false
set_option linter.all false
set_option maxRecDepth 100000
set_option maxHeartbeats 4000000
namespace RB.Law
open PySem PySem.Spec PyProof.Rows L2 RB
/-- the drawn book -/
structure Book where
  cs : List Sc
  ps : List (Str × Int)
  prs : List (Str × Str)
  bs : List Bd
  ss : List Str
  fo : List Str
  bl : List Str
  tt : List Str
def Book.d (B : Book) : D := .tuple [.tuple (B.cs.map Sc.d), .tuple (B.ps.map prtD), .tuple (B.prs.map prD), .tuple (B.bs.map Bd.d)]
structure Book.Ok (B : Book) : Prop where
  ls : B.ss.length ≤ 6
  lf : B.fo.length ≤ 5
  nss : ∀ s ∈ B.ss, nameS s = true
  nfo : ∀ s ∈ B.fo, nameS s = true
  nbl : ∀ s ∈ B.bl, nameS s = true
  ntt : ∀ s ∈ B.tt, nameS s = true
  dss : B.ss.Nodup
  dfo : B.fo.Nodup
  sss : B.ss.Pairwise (fun a b => leS a b = true)
  sfo : B.fo.Pairwise (fun a b => leS a b = true)
  cnm : B.cs.map (·.nm) = B.ss
  cok : ∀ c ∈ B.cs, c.Ok B.ss B.tt
  pnm : B.ps.map (·.1) = B.fo
  pw : ∀ p ∈ B.ps, 1 ≤ p.2 ∧ p.2 < 10 ^ 60
  prs : ∀ p ∈ B.prs, p.1 ∈ B.ss ∧ p.2 ∈ B.ss
  bok : ∀ b ∈ B.bs, b.Ok B.ss B.fo B.bl
  lpr : B.prs.length ≤ 60
  lbs : B.bs.length ≤ 16
theorem wp_tupleO {Q : Rv → Sto → Sto → Prop} (T S : Sto) (n : Nat) (xs : List D) (h : T[n]? = some (.lst xs)) : wpR (c_tuple [.own n] T S) Q = Q (.v (.tuple xs)) T S := by
  show wpR (match look (.own n) T S with
    | some (.list xs) => .ok (.v (.tuple xs)) T S
    | some (.tuple xs) => .ok (.v (.tuple xs)) T S
    | _ => .bad) Q = _
  rw [look_own0 n T S xs h]
  exact wpR_ok _ _ _ _
theorem wp_listT {Q : Rv → Sto → Sto → Prop} (T S : Sto) (xs : List D) : wpR (c_list false [.v (.tuple xs)] T S) Q = Q (.v (.list xs)) T S := wpR_ok _ _ _ _
theorem o_add_lists (T S : Sto) (xs ys : List D) (h : xs.length + ys.length ≤ 16777216) : o_add (.v (.list xs)) (.v (.list ys)) T S = .ok (.v (.list (xs ++ ys))) T S := by
  show (if xs.length + ys.length ≤ 16777216 then _ else _) = _
  rw [if_pos h]
theorem o_add_tups (T S : Sto) (xs ys : List D) (h : xs.length + ys.length ≤ 16777216) : o_add (.v (.tuple xs)) (.v (.tuple ys)) T S = .ok (.v (.tuple (xs ++ ys))) T S := by
  show (if xs.length + ys.length ≤ 16777216 then _ else _) = _
  rw [if_pos h]
theorem perm_names {ss : List Str} (nd : ss.Nodup) (hn : ∀ s ∈ ss, nameS s = true) : (sortS ss).Nodup ∧ (∀ s ∈ sortS ss, nameS s = true) ∧ (sortS ss).length = ss.length :=
  ⟨(sortS_perm ss).nodup_iff.mpr nd, fun s hs => hn s ((sortS_perm ss).mem_iff.mp hs), (sortS_perm ss).length_eq⟩
theorem book_wp {n : Nat} {S : Sto} {Q : Rv → Sto → Prop} (f : Feed n S) (hn : n < 700000000) (h : ∀ (B : Book) S', B.Ok → Feed (n + 20000) S' → Q (.v B.d) S') : wpF (f__law_book [.loc 0] S) Q := by
  show wpF (fnRun (m__law_book [some (.loc 0), none, none, none, none, none, none, none, none, none, none, none, none] [] S)) _
  rw [wp_run]
  unfold m__law_book
  -- the names
  refine step_set (fun r T' S' => ∃ ss : List Str, ss.length ≤ 6 ∧ ss.Nodup ∧ (∀ s ∈ ss, nameS s = true) ∧ ss.Pairwise (fun a b => leS a b = true) ∧ r = .v (.list (ss.map .str)) ∧ T' = [] ∧ Feed (n + 101) S') ?_ ?_
  · rw [wp_callM, wp_consA]
    refine tab_names (k := 8) (lo := 0) (hi := 6) [2, 3, 1, 4, 2, 6, 0, 3] rfl f (by omega) rfl (by decide) (by decide) (by decide) (by decide) (fun T S Q => ?_) fun ss S1 _ hl nd hnm f1 => ?_
    · simp only [wp_seq, wp_skip, wp_ret, wp_drop, wp_set, wp_ifS, wp_par, wp_par3, wp_unp, wp_asg, wp_dput, wp_for, wp_getV, wp_cst, wp_bin, wp_asB, wp_notM, wp_andM, wp_orM, wp_andV, wp_orV, wp_notV, wp_ifM, wp_chn, wp_nilA, wp_consA, wp_callM, wp_callF, wp_tupM, wp_lstM, wp_ownM, wp_seqM, wp_methM, wp_lcM, wp_isiM, wp_isiN, wp_partN, wp_partS, wp_cutM, wp_rng1, wp_rng2, wp_negM, wp_revM, wp_dispM, wp_pnil, wp_pcons, wp_sortSetM, wp_run, wpF_ok, wpR_ok, wpR_bad, isB_b, isV_s, isS_s, isDic_d, wpF_ret, wpF_own, ob_l, ob_f, List.set_cons_zero, List.set_cons_succ, List.getElem?_cons_zero, List.getElem?_cons_succ, toAs, toA, toDs, toD, Bool.not_true, Bool.not_false, reduceIte, Bool.false_eq_true, if_false, if_true, List.length_cons, List.length_nil]
      exact propext ⟨fun h => h.2, fun h => ⟨by decide, h⟩⟩
    · rw [wp_nilA, wp_sortedS _ _ _ (by omega)]
      obtain ⟨a1, a2, a3⟩ := perm_names nd hnm
      exact ⟨_, by omega, a1, a2, sortS_pw ss, rfl, rfl, f1⟩
  rintro r T' S' ⟨ss, hls, dss, nss, sss, rfl, rfl, f1⟩
  refine step_set (fun r T' S' => ∃ fo : List Str, fo.length ≤ 5 ∧ fo.Nodup ∧ (∀ s ∈ fo, nameS s = true) ∧ fo.Pairwise (fun a b => leS a b = true) ∧ r = .v (.list (fo.map .str)) ∧ T' = [] ∧ Feed (n + 202) S') ?_ ?_
  · rw [wp_callM, wp_consA]
    refine tab_names (k := 8) (lo := 0) (hi := 5) [2, 3, 1, 5, 2, 0, 4, 3] rfl f1 (by omega) rfl (by decide) (by decide) (by decide) (by decide) (fun T S Q => ?_) fun ss S1 _ hl nd hnm f1 => ?_
    · simp only [wp_seq, wp_skip, wp_ret, wp_drop, wp_set, wp_ifS, wp_par, wp_par3, wp_unp, wp_asg, wp_dput, wp_for, wp_getV, wp_cst, wp_bin, wp_asB, wp_notM, wp_andM, wp_orM, wp_andV, wp_orV, wp_notV, wp_ifM, wp_chn, wp_nilA, wp_consA, wp_callM, wp_callF, wp_tupM, wp_lstM, wp_ownM, wp_seqM, wp_methM, wp_lcM, wp_isiM, wp_isiN, wp_partN, wp_partS, wp_cutM, wp_rng1, wp_rng2, wp_negM, wp_revM, wp_dispM, wp_pnil, wp_pcons, wp_sortSetM, wp_run, wpF_ok, wpR_ok, wpR_bad, isB_b, isV_s, isS_s, isDic_d, wpF_ret, wpF_own, ob_l, ob_f, List.set_cons_zero, List.set_cons_succ, List.getElem?_cons_zero, List.getElem?_cons_succ, toAs, toA, toDs, toD, Bool.not_true, Bool.not_false, reduceIte, Bool.false_eq_true, if_false, if_true, List.length_cons, List.length_nil]
      exact propext ⟨fun h => h.2, fun h => ⟨by decide, h⟩⟩
    · rw [wp_nilA, wp_sortedS _ _ _ (by omega)]
      obtain ⟨a1, a2, a3⟩ := perm_names nd hnm
      exact ⟨_, by omega, a1, a2, sortS_pw ss, rfl, rfl, f1.mono (by omega)⟩
  rintro r T' S' ⟨fo, hlf, dfo, nfo, sfo, rfl, rfl, f2⟩
  refine step_set (fun r T' S' => ∃ bl : List Str, 1 ≤ bl.length ∧ bl.length ≤ 7 ∧ (∀ s ∈ bl, nameS s = true) ∧ r = .v (.list (bl.map .str)) ∧ T' = [] ∧ Feed (n + 303) S') ?_ ?_
  · refine tab_names (k := 4) (lo := 1) (hi := 7) [3, 5, 1, 7] rfl f2 (by omega) rfl (by decide) (by decide) (by decide) (by decide) (fun T S Q => ?_) fun ss S1 h1 hl nd hnm f1 => ?_
    · simp only [wp_seq, wp_skip, wp_ret, wp_drop, wp_set, wp_ifS, wp_par, wp_par3, wp_unp, wp_asg, wp_dput, wp_for, wp_getV, wp_cst, wp_bin, wp_asB, wp_notM, wp_andM, wp_orM, wp_andV, wp_orV, wp_notV, wp_ifM, wp_chn, wp_nilA, wp_consA, wp_callM, wp_callF, wp_tupM, wp_lstM, wp_ownM, wp_seqM, wp_methM, wp_lcM, wp_isiM, wp_isiN, wp_partN, wp_partS, wp_cutM, wp_rng1, wp_rng2, wp_negM, wp_revM, wp_dispM, wp_pnil, wp_pcons, wp_sortSetM, wp_run, wpF_ok, wpR_ok, wpR_bad, isB_b, isV_s, isS_s, isDic_d, wpF_ret, wpF_own, ob_l, ob_f, List.set_cons_zero, List.set_cons_succ, List.getElem?_cons_zero, List.getElem?_cons_succ, toAs, toA, toDs, toD, Bool.not_true, Bool.not_false, reduceIte, Bool.false_eq_true, if_false, if_true, List.length_cons, List.length_nil]
      exact propext ⟨fun h => h.2, fun h => ⟨by decide, h⟩⟩
    · exact ⟨ss, h1, hl, hnm, rfl, rfl, f1.mono (by omega)⟩
  rintro r T' S' ⟨bl0, hb1, hb2, nb0, rfl, rfl, f3⟩
  simp only [List.set_cons_zero, List.set_cons_succ]
  refine step_mid (fun ρ' T' S' => ∃ bl : List Str, bl ≠ [] ∧ bl.length ≤ 18 ∧ (∀ s ∈ bl, nameS s = true) ∧ ρ' = [some (.loc 0), some (.v (.list (ss.map .str))), some (.v (.list (fo.map .str))), some (.v (.list (bl.map .str))), none, none, none, none, none, none, none, none, none] ∧ T' = [] ∧ Feed (n + 304) S') ?_ ?_
  · rw [wp_ifS]
    simp only [wp_asB, wp_bin, wp_callM, wp_consA, wp_nilA, wp_getV, wp_cst, wp_callF, List.getElem?_cons_zero, List.getElem?_cons_succ, isV_s, toAs, toA, isS_s]
    refine draw_wp f3 (by omega) (m := 4) (by decide) (by decide) fun k S4 hk f4 => ?_
    rw [o_eq_int, wpR_ok, isB_b]
    split
    · simp only [wp_set, wp_bin, wp_getV, List.set_cons_zero, List.set_cons_succ, List.getElem?_cons_zero, List.getElem?_cons_succ, isV_s]
      rw [o_add_lists _ _ _ _ (by rw [List.length_map, List.length_map]; omega), wpR_ok, o_add_lists _ _ _ _ (by rw [List.length_append, List.length_map, List.length_map, List.length_map]; omega), wpR_ok]
      refine ⟨bl0 ++ ss ++ fo, fun z => ?_, by rw [List.length_append, List.length_append]; omega, fun s hs => ?_, by rw [List.map_append, List.map_append], rfl, f4⟩
      · have := congrArg List.length z
        rw [List.length_append, List.length_append, List.length_nil] at this
        omega
      · rcases List.mem_append.mp hs with z | z
        · rcases List.mem_append.mp z with z | z
          · exact nb0 s z
          · exact nss s z
        · exact nfo s z
    · rw [wp_skip]
      exact ⟨bl0, fun z => by rw [z] at hb1; simp at hb1, by omega, nb0, rfl, rfl, f4⟩
  rintro ρ T S' ⟨bl, hbl0, hbl, nbl, rfl, rfl, f4⟩
  refine step_set (fun r T' S' => ∃ (cs : List Sc) (tt : List Str), cs.map (·.nm) = ss ∧ (∀ c ∈ cs, c.Ok ss tt) ∧ (∀ s ∈ tt, nameS s = true) ∧ r = .v (.tuple (cs.map Sc.d)) ∧ T' = [] ∧ Feed (n + 2500) S') ?_ ?_
  · simp only [wp_seq, wp_skip, wp_ret, wp_drop, wp_set, wp_ifS, wp_par, wp_par3, wp_unp, wp_asg, wp_dput, wp_for, wp_getV, wp_cst, wp_bin, wp_asB, wp_notM, wp_andM, wp_orM, wp_andV, wp_orV, wp_notV, wp_ifM, wp_chn, wp_nilA, wp_consA, wp_callM, wp_callF, wp_tupM, wp_lstM, wp_ownM, wp_seqM, wp_methM, wp_lcM, wp_isiM, wp_isiN, wp_partN, wp_partS, wp_cutM, wp_rng1, wp_rng2, wp_negM, wp_revM, wp_dispM, wp_pnil, wp_pcons, wp_sortSetM, wp_run, wpF_ok, wpR_ok, wpR_bad, isB_b, isV_s, isS_s, isDic_d, wpF_ret, wpF_own, ob_l, ob_f, List.set_cons_zero, List.set_cons_succ, List.getElem?_cons_zero, List.getElem?_cons_succ, toAs, toA, toDs, toD, Bool.not_true, Bool.not_false, reduceIte, Bool.false_eq_true, if_false, if_true]
    refine draw_wp f4 (by omega) (m := 3) (by decide) (by decide) fun k S5 hk f5 => ?_
    rw [o_add_int, wpR_ok]
    have ek : (1 : Int) + (k : Int) = ((1 + k : Nat) : Int) := by omega
    simp only [ek, wp_seq, wp_skip, wp_ret, wp_drop, wp_set, wp_ifS, wp_par, wp_par3, wp_unp, wp_asg, wp_dput, wp_for, wp_getV, wp_cst, wp_bin, wp_asB, wp_notM, wp_andM, wp_orM, wp_andV, wp_orV, wp_notV, wp_ifM, wp_chn, wp_nilA, wp_consA, wp_callM, wp_callF, wp_tupM, wp_lstM, wp_ownM, wp_seqM, wp_methM, wp_lcM, wp_isiM, wp_isiN, wp_partN, wp_partS, wp_cutM, wp_rng1, wp_rng2, wp_negM, wp_revM, wp_dispM, wp_pnil, wp_pcons, wp_sortSetM, wp_run, wpF_ok, wpR_ok, wpR_bad, isB_b, isV_s, isS_s, isDic_d, wpF_ret, wpF_own, ob_l, ob_f, List.set_cons_zero, List.set_cons_succ, List.getElem?_cons_zero, List.getElem?_cons_succ, toAs, toA, toDs, toD, Bool.not_true, Bool.not_false, reduceIte, Bool.false_eq_true, if_false, if_true]
    refine names_wp f5 (by omega) (by omega) fun tt S6 htl _ ntt f6 => ?_
    simp only [wp_seq, wp_skip, wp_ret, wp_drop, wp_set, wp_ifS, wp_par, wp_par3, wp_unp, wp_asg, wp_dput, wp_for, wp_getV, wp_cst, wp_bin, wp_asB, wp_notM, wp_andM, wp_orM, wp_andV, wp_orV, wp_notV, wp_ifM, wp_chn, wp_nilA, wp_consA, wp_callM, wp_callF, wp_tupM, wp_lstM, wp_ownM, wp_seqM, wp_methM, wp_lcM, wp_isiM, wp_isiN, wp_partN, wp_partS, wp_cutM, wp_rng1, wp_rng2, wp_negM, wp_revM, wp_dispM, wp_pnil, wp_pcons, wp_sortSetM, wp_run, wpF_ok, wpR_ok, wpR_bad, isB_b, isV_s, isS_s, isDic_d, wpF_ret, wpF_own, ob_l, ob_f, List.set_cons_zero, List.set_cons_succ, List.getElem?_cons_zero, List.getElem?_cons_succ, toAs, toA, toDs, toD, Bool.not_true, Bool.not_false, reduceIte, Bool.false_eq_true, if_false, if_true]
    refine sources_wp f6 (by omega) (by omega) (fun z => by rw [z] at htl; simp at htl; omega) (by omega) fun cs S7 hcs hco f7 => ?_
    exact ⟨cs, tt, hcs, hco, ntt, (by first | rfl | trivial), (by first | rfl | trivial), f7.mono (by omega)⟩
  rintro r T' S' ⟨cs, tt, hcs, hco, ntt, rfl, rfl, f5⟩
  refine step_set (fun r T' S' => ∃ ps : List (Str × Int), ps.map (·.1) = fo ∧ (∀ p ∈ ps, 1 ≤ p.2 ∧ p.2 < 10 ^ 60) ∧ r = .v (.tuple [.tuple (cs.map Sc.d), .tuple (ps.map prtD)]) ∧ T' = [] ∧ Feed (n + 2520) S') ?_ ?_
  · simp only [wp_seq, wp_skip, wp_ret, wp_drop, wp_set, wp_ifS, wp_par, wp_par3, wp_unp, wp_asg, wp_dput, wp_for, wp_getV, wp_cst, wp_bin, wp_asB, wp_notM, wp_andM, wp_orM, wp_andV, wp_orV, wp_notV, wp_ifM, wp_chn, wp_nilA, wp_consA, wp_callM, wp_callF, wp_tupM, wp_lstM, wp_ownM, wp_seqM, wp_methM, wp_lcM, wp_isiM, wp_isiN, wp_partN, wp_partS, wp_cutM, wp_rng1, wp_rng2, wp_negM, wp_revM, wp_dispM, wp_pnil, wp_pcons, wp_sortSetM, wp_run, wpF_ok, wpR_ok, wpR_bad, isB_b, isV_s, isS_s, isDic_d, wpF_ret, wpF_own, ob_l, ob_f, List.set_cons_zero, List.set_cons_succ, List.getElem?_cons_zero, List.getElem?_cons_succ, toAs, toA, toDs, toD, Bool.not_true, Bool.not_false, reduceIte, Bool.false_eq_true, if_false, if_true, wp_itemsV, wipeV]
    refine wp_comp (fun k acc T' S' => k ≤ fo.length ∧ T' = [] ∧ (∃ ps : List (Str × Int), acc = ps.map prtD ∧ ps.map (·.1) = fo.take k ∧ ∀ p ∈ ps, 1 ≤ p.2 ∧ p.2 < 10 ^ 60) ∧ Feed (n + 2500 + 3 * k) S') _ 0 [] _ _ ⟨Nat.zero_le _, rfl, ⟨[], rfl, rfl, by intro p hp; cases hp⟩, f5⟩ (fun j e acc T' S' he ⟨hj, hT, ⟨ps, hps, hpt, hpw⟩, hf⟩ => ?_) fun rs T' S' ⟨hj, hT, ⟨ps, hps, hpt, hpw⟩, hf⟩ => ?_
    · have hjl := lt_of_get he
      rw [List.length_map] at hjl
      rw [List.getElem?_map, List.getElem?_eq_getElem hjl] at he
      have ee : e = .str fo[j] := by simpa using he.symm
      subst ee; subst hT
      show wpR (yesM _ [] S') _
      unfold yesM
      rw [wpR_ok, if_pos rfl]
      simp only [wp_seq, wp_skip, wp_ret, wp_drop, wp_set, wp_ifS, wp_par, wp_par3, wp_unp, wp_asg, wp_dput, wp_for, wp_getV, wp_cst, wp_bin, wp_asB, wp_notM, wp_andM, wp_orM, wp_andV, wp_orV, wp_notV, wp_ifM, wp_chn, wp_nilA, wp_consA, wp_callM, wp_callF, wp_tupM, wp_lstM, wp_ownM, wp_seqM, wp_methM, wp_lcM, wp_isiM, wp_isiN, wp_partN, wp_partS, wp_cutM, wp_rng1, wp_rng2, wp_negM, wp_revM, wp_dispM, wp_pnil, wp_pcons, wp_sortSetM, wp_run, wpF_ok, wpR_ok, wpR_bad, isB_b, isV_s, isS_s, isDic_d, wpF_ret, wpF_own, ob_l, ob_f, List.set_cons_zero, List.set_cons_succ, List.getElem?_cons_zero, List.getElem?_cons_succ, toAs, toA, toDs, toD, Bool.not_true, Bool.not_false, reduceIte, Bool.false_eq_true, if_false, if_true]
      rw [Nat.zero_add] at hf
      refine weight_wp hf (by omega) fun w S2 w1 w2 f2 => ?_
      simp only [wp_seq, wp_skip, wp_ret, wp_drop, wp_set, wp_ifS, wp_par, wp_par3, wp_unp, wp_asg, wp_dput, wp_for, wp_getV, wp_cst, wp_bin, wp_asB, wp_notM, wp_andM, wp_orM, wp_andV, wp_orV, wp_notV, wp_ifM, wp_chn, wp_nilA, wp_consA, wp_callM, wp_callF, wp_tupM, wp_lstM, wp_ownM, wp_seqM, wp_methM, wp_lcM, wp_isiM, wp_isiN, wp_partN, wp_partS, wp_cutM, wp_rng1, wp_rng2, wp_negM, wp_revM, wp_dispM, wp_pnil, wp_pcons, wp_sortSetM, wp_run, wpF_ok, wpR_ok, wpR_bad, isB_b, isV_s, isS_s, isDic_d, wpF_ret, wpF_own, ob_l, ob_f, List.set_cons_zero, List.set_cons_succ, List.getElem?_cons_zero, List.getElem?_cons_succ, toAs, toA, toDs, toD, Bool.not_true, Bool.not_false, reduceIte, Bool.false_eq_true, if_false, if_true, List.length_cons, List.length_nil]
      refine ⟨by decide, by omega, (by first | rfl | trivial), ⟨ps ++ [(fo[j], w)], by rw [List.map_append, hps]; rfl, ?_, fun p hp => ?_⟩, f2.mono (by omega)⟩
      · rw [List.map_append, hpt, Nat.zero_add, List.take_succ, List.getElem?_eq_getElem hjl]; rfl
      · rcases List.mem_append.mp hp with z | z
        · exact hpw p z
        · rw [List.mem_singleton] at z; rw [z]; exact ⟨w1, w2⟩
    · rw [List.nil_append] at hps
      subst hps; subst hT
      rw [List.length_map, Nat.zero_add, List.take_of_length_le (Nat.le_refl _)] at hpt
      rw [List.length_map, Nat.zero_add] at hf
      have hpl : ps.length = fo.length := by rw [← hpt, List.length_map]
      rw [wp_newF]
      refine ⟨by rw [List.length_map]; omega, ?_⟩
      rw [wp_tupleL]
      simp only [wp_seq, wp_skip, wp_ret, wp_drop, wp_set, wp_ifS, wp_par, wp_par3, wp_unp, wp_asg, wp_dput, wp_for, wp_getV, wp_cst, wp_bin, wp_asB, wp_notM, wp_andM, wp_orM, wp_andV, wp_orV, wp_notV, wp_ifM, wp_chn, wp_nilA, wp_consA, wp_callM, wp_callF, wp_tupM, wp_lstM, wp_ownM, wp_seqM, wp_methM, wp_lcM, wp_isiM, wp_isiN, wp_partN, wp_partS, wp_cutM, wp_rng1, wp_rng2, wp_negM, wp_revM, wp_dispM, wp_pnil, wp_pcons, wp_sortSetM, wp_run, wpF_ok, wpR_ok, wpR_bad, isB_b, isV_s, isS_s, isDic_d, wpF_ret, wpF_own, ob_l, ob_f, List.set_cons_zero, List.set_cons_succ, List.getElem?_cons_zero, List.getElem?_cons_succ, toAs, toA, toDs, toD, Bool.not_true, Bool.not_false, reduceIte, Bool.false_eq_true, if_false, if_true, List.length_cons, List.length_nil]
      exact ⟨by decide, ps, hpt, hpw, (by first | rfl | trivial), (by first | rfl | trivial), hf.mono (by omega)⟩
  rintro r T' S' ⟨ps, hpt, hpw, rfl, rfl, f6⟩
  have hpl : ps.length ≤ 5 := by rw [← List.length_map (f := fun p : Str × Int => p.1), hpt]; exact hlf
  have hcl : cs.length ≤ 6 := by rw [← List.length_map (f := Sc.nm), hcs]; exact hls
  simp only [List.set_cons_zero, List.set_cons_succ]
  refine step_mid (PairI (n + 2520) ss (some (.v (.list (fo.map .str)))) (some (.v (.list (bl.map .str)))) (some (.v (.tuple (cs.map Sc.d)))) (some (.v (.tuple [.tuple (cs.map Sc.d), .tuple (ps.map prtD)]))) 0) ?_ ?_
  · rw [wp_par]
    simp only [wp_seq, wp_skip, wp_ret, wp_drop, wp_set, wp_ifS, wp_par, wp_par3, wp_unp, wp_asg, wp_dput, wp_for, wp_getV, wp_cst, wp_bin, wp_asB, wp_notM, wp_andM, wp_orM, wp_andV, wp_orV, wp_notV, wp_ifM, wp_chn, wp_nilA, wp_consA, wp_callM, wp_callF, wp_tupM, wp_lstM, wp_ownM, wp_seqM, wp_methM, wp_lcM, wp_isiM, wp_isiN, wp_partN, wp_partS, wp_cutM, wp_rng1, wp_rng2, wp_negM, wp_revM, wp_dispM, wp_pnil, wp_pcons, wp_sortSetM, wp_run, wpF_ok, wpR_ok, wpR_bad, isB_b, isV_s, isS_s, isDic_d, wpF_ret, wpF_own, ob_l, ob_f, List.set_cons_zero, List.set_cons_succ, List.getElem?_cons_zero, List.getElem?_cons_succ, toAs, toA, toDs, toD, Bool.not_true, Bool.not_false, reduceIte, Bool.false_eq_true, if_false, if_true, List.length_nil]
    refine ⟨by decide, by decide, _, _, rfl, ?_⟩
    exact ⟨none, none, [], rfl, rfl, Nat.zero_le _, (by intro p hp; cases hp), f6⟩
  rintro ρ T S' hI
  refine step_mid (PairI (n + 2520) ss (some (.v (.list (fo.map .str)))) (some (.v (.list (bl.map .str)))) (some (.v (.tuple (cs.map Sc.d)))) (some (.v (.tuple [.tuple (cs.map Sc.d), .tuple (ps.map prtD)]))) ss.length) ?_ ?_
  · rw [wp_for]
    obtain ⟨x8, x12, qs, rfl, rfl, h1, h2, h3⟩ := id hI
    simp only [wp_seq, wp_skip, wp_ret, wp_drop, wp_set, wp_ifS, wp_par, wp_par3, wp_unp, wp_asg, wp_dput, wp_for, wp_getV, wp_cst, wp_bin, wp_asB, wp_notM, wp_andM, wp_orM, wp_andV, wp_orV, wp_notV, wp_ifM, wp_chn, wp_nilA, wp_consA, wp_callM, wp_callF, wp_tupM, wp_lstM, wp_ownM, wp_seqM, wp_methM, wp_lcM, wp_isiM, wp_isiN, wp_partN, wp_partS, wp_cutM, wp_rng1, wp_rng2, wp_negM, wp_revM, wp_dispM, wp_pnil, wp_pcons, wp_sortSetM, wp_run, wpF_ok, wpR_ok, wpR_bad, isB_b, isV_s, isS_s, isDic_d, wpF_ret, wpF_own, ob_l, ob_f, List.set_cons_zero, List.set_cons_succ, List.getElem?_cons_zero, List.getElem?_cons_succ, toAs, toA, toDs, toD, Bool.not_true, Bool.not_false, reduceIte, Bool.false_eq_true, if_false, if_true, wp_lenL, List.length_map]
    refine ⟨_, rfl, by omega, ?_⟩
    have et : ((ss.length : Nat) : Int).toNat = ss.length := by omega
    rw [et]
    refine wp_forD (PairI (n + 2520) ss _ _ _ _) _ 0 _ _ _ hI (fun i d ρ T S hd hI => ?_) fun ρ T S hI => ?_
    · have hi := lt_of_get hd
      rw [len_ints] at hi
      have ee : d = .int (i : Int) := by
        unfold intsD at hd
        rw [List.getElem?_map, List.getElem?_range hi] at hd
        simpa using hd.symm
      subst ee
      rw [Nat.zero_add] at hI ⊢
      exact pair_turn (by omega) hi (by omega) hI
    · rw [len_ints, Nat.zero_add] at hI
      exact hI
  rintro ρ T S' ⟨x8, x12, prs, rfl, rfl, hprl, hprs, f7⟩
  refine step_set (fun r T' S' => ∃ m : Nat, m ≤ 16 ∧ r = .v (.int m) ∧ T' = [.lst (prs.map prD), .lst []] ∧ Feed (n + 2600) S') ?_ ?_
  · simp only [wp_seq, wp_skip, wp_ret, wp_drop, wp_set, wp_ifS, wp_par, wp_par3, wp_unp, wp_asg, wp_dput, wp_for, wp_getV, wp_cst, wp_bin, wp_asB, wp_notM, wp_andM, wp_orM, wp_andV, wp_orV, wp_notV, wp_ifM, wp_chn, wp_nilA, wp_consA, wp_callM, wp_callF, wp_tupM, wp_lstM, wp_ownM, wp_seqM, wp_methM, wp_lcM, wp_isiM, wp_isiN, wp_partN, wp_partS, wp_cutM, wp_rng1, wp_rng2, wp_negM, wp_revM, wp_dispM, wp_pnil, wp_pcons, wp_sortSetM, wp_run, wpF_ok, wpR_ok, wpR_bad, isB_b, isV_s, isS_s, isDic_d, wpF_ret, wpF_own, ob_l, ob_f, List.set_cons_zero, List.set_cons_succ, List.getElem?_cons_zero, List.getElem?_cons_succ, toAs, toA, toDs, toD, Bool.not_true, Bool.not_false, reduceIte, Bool.false_eq_true, if_false, if_true, List.length_cons, List.length_nil]
    refine ⟨by decide, ?_⟩
    refine draw_wp f7 (by omega) (m := 8) (by decide) (by decide) fun k S8 hk f8 => ?_
    obtain ⟨v, _, hv, e⟩ := ix_small [4, 6, 2, 9, 16, 0, 5, 3] 0 16 (by decide) (show k < _ from hk)
    rw [wp_ixL]
    have e' : atI ([.int 4, .int 6, .int 2, .int 9, .int 16, .int 0, .int 5, .int 3] : List D) (k : Int) = some (.int (v : Int)) := e
    rw [e']
    exact ⟨v, hv, (by first | rfl | trivial), (by first | rfl | trivial), f8.mono (by omega)⟩
  rintro r T' S' ⟨m, hm, rfl, rfl, f8⟩
  simp only [List.set_cons_zero, List.set_cons_succ]
  refine step_mid (fun ρ' T' S' => ∃ k, k ≤ 16 ∧ BldI (n + 2600) ss fo bl cs ps prs (some (.v (.list (fo.map .str)))) (some (.v (.tuple (cs.map Sc.d)))) x8 (some (.v (.int m))) x12 k ρ' T' S') ?_ ?_
  · rw [wp_for]
    refine wpR_mono (Q := fun ds T'' S'' => ∃ k : Nat, k ≤ 16 ∧ (k = 0 ∨ (ss ≠ [] ∧ fo ≠ [])) ∧ ds = intsD 0 k ∧ T'' = [.lst (prs.map prD), .lst []] ∧ S'' = S') ?_ ?_
    · simp only [wp_seq, wp_skip, wp_ret, wp_drop, wp_set, wp_ifS, wp_par, wp_par3, wp_unp, wp_asg, wp_dput, wp_for, wp_getV, wp_cst, wp_bin, wp_asB, wp_notM, wp_andM, wp_orM, wp_andV, wp_orV, wp_notV, wp_ifM, wp_chn, wp_nilA, wp_consA, wp_callM, wp_callF, wp_tupM, wp_lstM, wp_ownM, wp_seqM, wp_methM, wp_lcM, wp_isiM, wp_isiN, wp_partN, wp_partS, wp_cutM, wp_rng1, wp_rng2, wp_negM, wp_revM, wp_dispM, wp_pnil, wp_pcons, wp_sortSetM, wp_run, wpF_ok, wpR_ok, wpR_bad, isB_b, isV_s, isS_s, isDic_d, wpF_ret, wpF_own, ob_l, ob_f, List.set_cons_zero, List.set_cons_succ, List.getElem?_cons_zero, List.getElem?_cons_succ, toAs, toA, toDs, toD, Bool.not_true, Bool.not_false, reduceIte, Bool.false_eq_true, if_false, if_true, o_ne_nil, List.length_nil]
      refine ⟨by decide, ?_⟩
      cases hss : ss with
      | nil =>
        simp only [List.map_nil, List.isEmpty_nil, Bool.not_true, Bool.false_eq_true, if_false]
        exact ⟨0, (by first | rfl | trivial), by decide, 0, by decide, .inl rfl, rfl, (by first | rfl | trivial), (by first | rfl | trivial)⟩
      | cons a r =>
        simp only [List.map_cons, List.isEmpty_cons, Bool.not_false, if_true]
        refine ⟨by decide, ?_⟩
        cases hfo : fo with
        | nil =>
          simp only [List.map_nil, List.isEmpty_nil, Bool.not_true, Bool.false_eq_true, if_false]
          exact ⟨0, (by first | rfl | trivial), by decide, 0, by decide, .inl rfl, rfl, (by first | rfl | trivial), (by first | rfl | trivial)⟩
        | cons b r2 =>
          simp only [List.map_cons, List.isEmpty_cons, Bool.not_false, if_true]
          refine ⟨m, (by first | rfl | trivial), by omega, m, hm, .inr ⟨by simp, by simp⟩, ?_, (by first | rfl | trivial), (by first | rfl | trivial)⟩
          rw [Int.toNat_natCast]
    rintro ds T'' S'' ⟨k, hk, hne, rfl, rfl, rfl⟩
    have I0 : BldI (n + 2600) ss fo bl cs ps prs (some (.v (.list (fo.map .str)))) (some (.v (.tuple (cs.map Sc.d)))) x8 (some (.v (.int m))) x12 0 [some (.loc 0), some (.v (.list (ss.map .str))), some (.v (.list (fo.map .str))), some (.v (.list (bl.map .str))), some (.v (.tuple (cs.map Sc.d))), some (.v (.tuple [.tuple (cs.map Sc.d), .tuple (ps.map prtD)])), some (.own 0), some (.own 1), x8, some (.v (.int m)), none, none, x12] [.lst (prs.map prD), .lst []] S'' :=
      ⟨none, none, [], rfl, rfl, Nat.zero_le _, (by intro b hb; cases hb), f8⟩
    refine wp_forD (BldI (n + 2600) ss fo bl cs ps prs (some (.v (.list (fo.map .str)))) (some (.v (.tuple (cs.map Sc.d)))) x8 (some (.v (.int m))) x12) _ 0 _ _ _ I0 (fun i d ρ T S hd hI => ?_) fun ρ T S hI => ?_
    · have hi := lt_of_get hd
      rw [len_ints] at hi
      have hne : ss ≠ [] ∧ fo ≠ [] := hne.resolve_left (by omega)
      rw [Nat.zero_add] at hI ⊢
      exact bld_turn (by omega) (by omega) (fun z => by rw [z] at hcs; exact hne.1 hcs.symm) (by omega) (fun z => by rw [z] at hpt; exact hne.2 hpt.symm) (by omega) hco hbl0 (by omega) hpt hI
    · rw [len_ints, Nat.zero_add] at hI
      exact ⟨k, hk, hI⟩
  rintro ρ T S' ⟨k, hk, x10, x11, bs, rfl, rfl, hbs, hbo, f9⟩
  simp only [wp_seq, wp_skip, wp_ret, wp_drop, wp_set, wp_ifS, wp_par, wp_par3, wp_unp, wp_asg, wp_dput, wp_for, wp_getV, wp_cst, wp_bin, wp_asB, wp_notM, wp_andM, wp_orM, wp_andV, wp_orV, wp_notV, wp_ifM, wp_chn, wp_nilA, wp_consA, wp_callM, wp_callF, wp_tupM, wp_lstM, wp_ownM, wp_seqM, wp_methM, wp_lcM, wp_isiM, wp_isiN, wp_partN, wp_partS, wp_cutM, wp_rng1, wp_rng2, wp_negM, wp_revM, wp_dispM, wp_pnil, wp_pcons, wp_sortSetM, wp_run, wpF_ok, wpR_ok, wpR_bad, isB_b, isV_s, isS_s, isDic_d, wpF_ret, wpF_own, ob_l, ob_f, List.set_cons_zero, List.set_cons_succ, List.getElem?_cons_zero, List.getElem?_cons_succ, toAs, toA, toDs, toD, Bool.not_true, Bool.not_false, reduceIte, Bool.false_eq_true, if_false, if_true]
  rw [wp_tupleO _ _ 0 _ rfl]
  simp only [wp_seq, wp_skip, wp_ret, wp_drop, wp_set, wp_ifS, wp_par, wp_par3, wp_unp, wp_asg, wp_dput, wp_for, wp_getV, wp_cst, wp_bin, wp_asB, wp_notM, wp_andM, wp_orM, wp_andV, wp_orV, wp_notV, wp_ifM, wp_chn, wp_nilA, wp_consA, wp_callM, wp_callF, wp_tupM, wp_lstM, wp_ownM, wp_seqM, wp_methM, wp_lcM, wp_isiM, wp_isiN, wp_partN, wp_partS, wp_cutM, wp_rng1, wp_rng2, wp_negM, wp_revM, wp_dispM, wp_pnil, wp_pcons, wp_sortSetM, wp_run, wpF_ok, wpR_ok, wpR_bad, isB_b, isV_s, isS_s, isDic_d, wpF_ret, wpF_own, ob_l, ob_f, List.set_cons_zero, List.set_cons_succ, List.getElem?_cons_zero, List.getElem?_cons_succ, toAs, toA, toDs, toD, Bool.not_true, Bool.not_false, reduceIte, Bool.false_eq_true, if_false, if_true]
  rw [wp_tupleO _ _ 1 _ rfl]
  simp only [wp_seq, wp_skip, wp_ret, wp_drop, wp_set, wp_ifS, wp_par, wp_par3, wp_unp, wp_asg, wp_dput, wp_for, wp_getV, wp_cst, wp_bin, wp_asB, wp_notM, wp_andM, wp_orM, wp_andV, wp_orV, wp_notV, wp_ifM, wp_chn, wp_nilA, wp_consA, wp_callM, wp_callF, wp_tupM, wp_lstM, wp_ownM, wp_seqM, wp_methM, wp_lcM, wp_isiM, wp_isiN, wp_partN, wp_partS, wp_cutM, wp_rng1, wp_rng2, wp_negM, wp_revM, wp_dispM, wp_pnil, wp_pcons, wp_sortSetM, wp_run, wpF_ok, wpR_ok, wpR_bad, isB_b, isV_s, isS_s, isDic_d, wpF_ret, wpF_own, ob_l, ob_f, List.set_cons_zero, List.set_cons_succ, List.getElem?_cons_zero, List.getElem?_cons_succ, toAs, toA, toDs, toD, Bool.not_true, Bool.not_false, reduceIte, Bool.false_eq_true, if_false, if_true, List.length_cons, List.length_nil]
  refine ⟨by decide, ?_⟩
  rw [o_add_tups _ _ _ _ (by simp), wpR_ok, wpF_ret]
  exact h ⟨cs, ps, prs, bs, ss, fo, bl, tt⟩ _ ⟨hls, hlf, nss, nfo, nbl, ntt, dss, dfo, sss, sfo, hcs, hco, hpt, hpw, hprs, hbo, (by show prs.length ≤ 60; omega), (by show bs.length ≤ 16; omega)⟩ (f9.mono (by omega))
end RB.Law

end

/-! text KOdd -/
section
set_option Elab.async false
set_option linter.all false
set_option maxRecDepth 100000
set_option maxHeartbeats 4000000
namespace RB.Law
open PySem PySem.Spec PyProof.Rows L2 RB
/-! ### the feed -/
theorem feed_eq (ns : List Int) : ∃ cells : List Int, f__law_feed [.scr ns] [] = .ok (.loc 0) [.dic (feedKV cells 0 0 0)] := by
  have e0 : ∀ T S : Sto, cutR (.scr ns) none (some 63) T S = .ok (.v (.list ((cutL ns none (some 63)).map .int))) T S := fun T S => by
    show Res.ok (Rv.v (.list (cutL (ns.map .int) none (some 63)))) T S = _
    have : cutL (ns.map PyData.int) none (some 63) = (cutL ns none (some 63)).map .int := by
      unfold cutL
      rw [List.length_map, ← List.map_drop, ← List.map_take]
    rw [this]
  have hl : (cutL ns none (some 63)).length ≤ 63 := by
    unfold cutL
    have : HT.sIx ns.length ns.length (some 63) = min 63 ns.length := HT.sIx_nat _ _ 63
    rw [List.length_take, this]
    omega
  refine ⟨cutL ns none (some 63), ?_⟩
  apply wpF_eq
  show wpF (fnRun (m__law_feed [some (.scr ns), none] [] [])) _
  simp only [m__law_feed, wp_seq, wp_skip, wp_ret, wp_drop, wp_set, wp_ifS, wp_par, wp_par3, wp_unp, wp_asg, wp_dput, wp_for, wp_getV, wp_cst, wp_bin, wp_asB, wp_notM, wp_andM, wp_orM, wp_andV, wp_orV, wp_notV, wp_ifM, wp_chn, wp_nilA, wp_consA, wp_callM, wp_callF, wp_tupM, wp_lstM, wp_ownM, wp_seqM, wp_methM, wp_lcM, wp_isiM, wp_isiN, wp_partN, wp_partS, wp_cutM, wp_rng1, wp_rng2, wp_negM, wp_revM, wp_dispM, wp_pnil, wp_pcons, wp_sortSetM, wp_run, wpF_ok, wpR_ok, wpR_bad, isB_b, isV_s, isS_s, isDic_d, wpF_ret, wpF_own, ob_l, ob_f, List.set_cons_zero, List.set_cons_succ, List.getElem?_cons_zero, List.getElem?_cons_succ, toAs, toA, toDs, toD, Bool.not_true, Bool.not_false, reduceIte, Bool.false_eq_true, if_false, if_true]
  refine ⟨63, rfl, ?_⟩
  rw [e0, wpR_ok, wp_itemsV]
  simp only [wipeV, List.set_cons_zero, List.set_cons_succ]
  rw [comp_map fun d => d]
  · rw [wpR_ok, wp_newF, List.map_id']
    refine ⟨by rw [List.length_map]; omega, ?_⟩
    simp only [wp_seq, wp_skip, wp_ret, wp_drop, wp_set, wp_ifS, wp_par, wp_par3, wp_unp, wp_asg, wp_dput, wp_for, wp_getV, wp_cst, wp_bin, wp_asB, wp_notM, wp_andM, wp_orM, wp_andV, wp_orV, wp_notV, wp_ifM, wp_chn, wp_nilA, wp_consA, wp_callM, wp_callF, wp_tupM, wp_lstM, wp_ownM, wp_seqM, wp_methM, wp_lcM, wp_isiM, wp_isiN, wp_partN, wp_partS, wp_cutM, wp_rng1, wp_rng2, wp_negM, wp_revM, wp_dispM, wp_pnil, wp_pcons, wp_sortSetM, wp_run, wpF_ok, wpR_ok, wpR_bad, isB_b, isV_s, isS_s, isDic_d, wpF_ret, wpF_own, ob_l, ob_f, List.set_cons_zero, List.set_cons_succ, List.getElem?_cons_zero, List.getElem?_cons_succ, toAs, toA, toDs, toD, Bool.not_true, Bool.not_false, reduceIte, Bool.false_eq_true, if_false, if_true]
    refine ⟨_, rfl, _, rfl, _, rfl, _, rfl, (by show 4 ≤ 15; decide), ?_⟩
    refine ⟨(by first | rfl | trivial), ?_⟩
    kernel_rfl
  · intro d hd
    obtain ⟨i, _, rfl⟩ := List.mem_map.mp hd
    apply wpR_eq
    simp only [wp_seq, wp_skip, wp_ret, wp_drop, wp_set, wp_ifS, wp_par, wp_par3, wp_unp, wp_asg, wp_dput, wp_for, wp_getV, wp_cst, wp_bin, wp_asB, wp_notM, wp_andM, wp_orM, wp_andV, wp_orV, wp_notV, wp_ifM, wp_chn, wp_nilA, wp_consA, wp_callM, wp_callF, wp_tupM, wp_lstM, wp_ownM, wp_seqM, wp_methM, wp_lcM, wp_isiM, wp_isiN, wp_partN, wp_partS, wp_cutM, wp_rng1, wp_rng2, wp_negM, wp_revM, wp_dispM, wp_pnil, wp_pcons, wp_sortSetM, wp_run, wpF_ok, wpR_ok, wpR_bad, isB_b, isV_s, isS_s, isDic_d, wpF_ret, wpF_own, ob_l, ob_f, List.set_cons_zero, List.set_cons_succ, List.getElem?_cons_zero, List.getElem?_cons_succ, toAs, toA, toDs, toD, Bool.not_true, Bool.not_false, reduceIte, Bool.false_eq_true, if_false, if_true, wp_int]
    and_intros <;> first | rfl | trivial
/-! ### odd things -/
def oddL : List D := [.none, .bool true, .bool false, .int 0, .int 1, .int (-1), .int 2, .int (10 ^ 59), .str (Str.ofString ""), .str (Str.ofString "a"), .str (Str.ofString "b9"), .str (Str.ofString "9a"), .str (Str.ofString "A"), .str (Str.ofString "abcdefgh"), .str (Str.ofString "abcdefghi"),
  .str (Str.ofString "a b"), .str (Str.ofString "-"), .str (Str.ofString "a-"), .tuple [], .tuple [.str (Str.ofString "a")], .tuple [.str (Str.ofString "a"), .str (Str.ofString "b")], .tuple [.str (Str.ofString "b"), .str (Str.ofString "a")], .tuple [.str (Str.ofString "a"), .str (Str.ofString "a")], .list [], .list [.str (Str.ofString "a")], .tuple [.int 1], .tuple [.tuple []],
  .tuple [.str (Str.ofString "a"), .int 1], .tuple [.str (Str.ofString "a"), .bool true], .tuple [.str (Str.ofString "a"), .int 0], .str (Str.ofString "a\n"), .str (Str.ofString "a_b"), .str (Str.ofString "a,b"), .tuple [.str (Str.ofString "a"), .none], .tuple [.str (Str.ofString "a"), .str (Str.ofString "b"), .str (Str.ofString "c")],
  .tuple [.tuple [.str (Str.ofString "a"), .str (Str.ofString "b")]], .str (Str.ofString "0"), .str (Str.ofString "zzzzzzzz"), .tuple [.str (Str.ofString "zzzzzzzz")], .list [.tuple []]]
theorem odd_ok : oddL.all (okN 3) = true := by decide +kernel
theorem odd_wp {n : Nat} {S : Sto} {Q : Rv → Sto → Prop} (f : Feed n S) (hn : n < 900000000) (h : ∀ d S', okN 3 d = true → Feed (n + 1) S' → Q (.v d) S') : wpF (f__law_odd [.loc 0] S) Q := by
  show wpF (fnRun (m__law_odd [some (.loc 0), none] [] S)) _
  rw [wp_run]
  unfold m__law_odd
  refine step_set (fun r T' S' => r = .own 0 ∧ T' = [.lst (oddL.take 15)] ∧ S' = S) ?_ ?_
  · simp only [wp_seq, wp_skip, wp_ret, wp_drop, wp_set, wp_ifS, wp_par, wp_par3, wp_unp, wp_asg, wp_dput, wp_for, wp_getV, wp_cst, wp_bin, wp_asB, wp_notM, wp_andM, wp_orM, wp_andV, wp_orV, wp_notV, wp_ifM, wp_chn, wp_nilA, wp_consA, wp_callM, wp_callF, wp_tupM, wp_lstM, wp_ownM, wp_seqM, wp_methM, wp_lcM, wp_isiM, wp_isiN, wp_partN, wp_partS, wp_cutM, wp_rng1, wp_rng2, wp_negM, wp_revM, wp_dispM, wp_pnil, wp_pcons, wp_sortSetM, wp_run, wpF_ok, wpR_ok, wpR_bad, isB_b, isV_s, isS_s, isDic_d, wpF_ret, wpF_own, ob_l, ob_f, List.set_cons_zero, List.set_cons_succ, List.getElem?_cons_zero, List.getElem?_cons_succ, toAs, toA, toDs, toD, Bool.not_true, Bool.not_false, reduceIte, Bool.false_eq_true, if_false, if_true, o_pow_int _ _ 10 59 (by decide)]
    refine ⟨_, rfl, (by decide), ?_⟩
    and_intros <;> first | rfl | trivial
  rintro r T' S' ⟨rfl, rfl, rfl⟩
  refine step_drop (fun r T' S'' => T' = [.lst (oddL.take 27)] ∧ S'' = S') ?_ ?_
  · simp only [wp_seq, wp_skip, wp_ret, wp_drop, wp_set, wp_ifS, wp_par, wp_par3, wp_unp, wp_asg, wp_dput, wp_for, wp_getV, wp_cst, wp_bin, wp_asB, wp_notM, wp_andM, wp_orM, wp_andV, wp_orV, wp_notV, wp_ifM, wp_chn, wp_nilA, wp_consA, wp_callM, wp_callF, wp_tupM, wp_lstM, wp_ownM, wp_seqM, wp_methM, wp_lcM, wp_isiM, wp_isiN, wp_partN, wp_partS, wp_cutM, wp_rng1, wp_rng2, wp_negM, wp_revM, wp_dispM, wp_pnil, wp_pcons, wp_sortSetM, wp_run, wpF_ok, wpR_ok, wpR_bad, isB_b, isV_s, isS_s, isDic_d, wpF_ret, wpF_own, ob_l, ob_f, List.set_cons_zero, List.set_cons_succ, List.getElem?_cons_zero, List.getElem?_cons_succ, toAs, toA, toDs, toD, Bool.not_true, Bool.not_false, reduceIte, Bool.false_eq_true, if_false, if_true, extendR, lstOf, wpR_ite]
    and_intros <;> first | rfl | trivial | decide
  rintro r T' S'' ⟨rfl, rfl⟩
  refine step_drop (fun r T' S' => T' = [.lst (oddL.take 35)] ∧ S' = S'') ?_ ?_
  · simp only [wp_seq, wp_skip, wp_ret, wp_drop, wp_set, wp_ifS, wp_par, wp_par3, wp_unp, wp_asg, wp_dput, wp_for, wp_getV, wp_cst, wp_bin, wp_asB, wp_notM, wp_andM, wp_orM, wp_andV, wp_orV, wp_notV, wp_ifM, wp_chn, wp_nilA, wp_consA, wp_callM, wp_callF, wp_tupM, wp_lstM, wp_ownM, wp_seqM, wp_methM, wp_lcM, wp_isiM, wp_isiN, wp_partN, wp_partS, wp_cutM, wp_rng1, wp_rng2, wp_negM, wp_revM, wp_dispM, wp_pnil, wp_pcons, wp_sortSetM, wp_run, wpF_ok, wpR_ok, wpR_bad, isB_b, isV_s, isS_s, isDic_d, wpF_ret, wpF_own, ob_l, ob_f, List.set_cons_zero, List.set_cons_succ, List.getElem?_cons_zero, List.getElem?_cons_succ, toAs, toA, toDs, toD, Bool.not_true, Bool.not_false, reduceIte, Bool.false_eq_true, if_false, if_true, extendR, lstOf, wpR_ite]
    and_intros <;> first | rfl | trivial | decide
  rintro r T' S' ⟨rfl, rfl⟩
  simp only [wp_seq, wp_skip, wp_ret, wp_drop, wp_set, wp_ifS, wp_par, wp_par3, wp_unp, wp_asg, wp_dput, wp_for, wp_getV, wp_cst, wp_bin, wp_asB, wp_notM, wp_andM, wp_orM, wp_andV, wp_orV, wp_notV, wp_ifM, wp_chn, wp_nilA, wp_consA, wp_callM, wp_callF, wp_tupM, wp_lstM, wp_ownM, wp_seqM, wp_methM, wp_lcM, wp_isiM, wp_isiN, wp_partN, wp_partS, wp_cutM, wp_rng1, wp_rng2, wp_negM, wp_revM, wp_dispM, wp_pnil, wp_pcons, wp_sortSetM, wp_run, wpF_ok, wpR_ok, wpR_bad, isB_b, isV_s, isS_s, isDic_d, wpF_ret, wpF_own, ob_l, ob_f, List.set_cons_zero, List.set_cons_succ, List.getElem?_cons_zero, List.getElem?_cons_succ, toAs, toA, toDs, toD, Bool.not_true, Bool.not_false, reduceIte, Bool.false_eq_true, if_false, if_true]
  repeat (refine ⟨(by decide), ?_⟩)
  have e : ∀ S : Sto, o_add (.own 0) (.v (.list (oddL.drop 35))) [.lst (oddL.take 35)] S = .ok (.v (.list oddL)) [.lst (oddL.take 35)] S := fun S => by kernel_rfl
  refine wpR_mono (Q := fun r T' S'' => r = .v (.list oddL) ∧ T' = [.lst (oddL.take 35)] ∧ S'' = S') ?_ ?_
  · have e2 : wpR (o_add (.own 0) (.v (.list (oddL.drop 35))) [.lst (oddL.take 35)] S') fun r T' S'' => r = .v (.list oddL) ∧ T' = [.lst (oddL.take 35)] ∧ S'' = S' := by
      rw [e, wpR_ok]; exact ⟨rfl, rfl, rfl⟩
    exact e2
  rintro r T' S'' ⟨rfl, rfl, rfl⟩
  simp only [wp_seq, wp_skip, wp_ret, wp_drop, wp_set, wp_ifS, wp_par, wp_par3, wp_unp, wp_asg, wp_dput, wp_for, wp_getV, wp_cst, wp_bin, wp_asB, wp_notM, wp_andM, wp_orM, wp_andV, wp_orV, wp_notV, wp_ifM, wp_chn, wp_nilA, wp_consA, wp_callM, wp_callF, wp_tupM, wp_lstM, wp_ownM, wp_seqM, wp_methM, wp_lcM, wp_isiM, wp_isiN, wp_partN, wp_partS, wp_cutM, wp_rng1, wp_rng2, wp_negM, wp_revM, wp_dispM, wp_pnil, wp_pcons, wp_sortSetM, wp_run, wpF_ok, wpR_ok, wpR_bad, isB_b, isV_s, isS_s, isDic_d, wpF_ret, wpF_own, ob_l, ob_f, List.set_cons_zero, List.set_cons_succ, List.getElem?_cons_zero, List.getElem?_cons_succ, toAs, toA, toDs, toD, Bool.not_true, Bool.not_false, reduceIte, Bool.false_eq_true, if_false, if_true]
  refine pool_list (xs := oddL) (by decide +kernel) (by decide +kernel) _ _ _ f (by omega) fun x S2 hx f2 => ?_
  rw [wpF_ret]
  exact h x S2 (List.all_eq_true.mp odd_ok x hx) f2
end RB.Law

end

/-! text KFix -/
section
set_option Elab.async false
set_option linter.all false
set_option maxRecDepth 100000
set_option maxHeartbeats 4000000
namespace RB.Law
open PySem PySem.Spec PyProof.Rows L2 RB
def listOfF (r : FRes) : List D := match r with
  | .ok (.v (.list xs)) _ => xs
  | _ => []
def fixedL : List D := listOfF (f__law_fixed [] [])
def fixedB : List D := listOfF (f__law_fixed_books [] [])
theorem fixed_eq (S : Sto) : f__law_fixed [] S = .ok (.v (.list fixedL)) S := by kernel_rfl
theorem fixed_books_eq (S : Sto) : f__law_fixed_books [] S = .ok (.v (.list fixedB)) S := by kernel_rfl
theorem fixed_ok : fixedL.all (okN 40) = true := by decide +kernel
theorem fixed_books_ok : fixedB.all (okN 40) = true := by decide +kernel
theorem fixed_len : fixedL.length + fixedB.length ≤ 1000 := by decide +kernel
end RB.Law

end

/-! text KBent -/
section
set_option Elab.async false
set_option linter.all false
set_option maxRecDepth 100000
set_option maxHeartbeats 4000000
namespace RB
open PySem PySem.Spec PyProof.Rows L2
/-- as okN, with room to grow -/
def okI : Nat → D → Bool
  | _, .none => true
  | _, .bool _ => true
  | _, .int _ => true
  | _, .str x => decide (x.length ≤ 100)
  | n + 1, .tuple xs => decide (xs.length ≤ 1000) && xs.all (okI n)
  | n + 1, .list xs => decide (xs.length ≤ 1000) && xs.all (okI n)
  | _, _ => false
theorem okN_mono : ∀ {n m : Nat} {d : D}, n ≤ m → okN n d = true → okN m d = true
  | n, m, .none, _, _ => by cases m <;> rfl
  | n, m, .bool _, _, _ => by cases m <;> rfl
  | n, m, .int _, _, _ => by cases m <;> rfl
  | n, m, .str x, _, h => by have := okN_str h; cases m <;> exact decide_eq_true this
  | n, m, .tuple xs, e, h => by
    obtain ⟨hl, k, rfl, hx⟩ := okN_tup h
    obtain ⟨j, rfl⟩ : ∃ j, m = j + 1 := ⟨m - 1, by omega⟩
    show (decide (xs.length ≤ 100000) && xs.all (okN j)) = true
    rw [Bool.and_eq_true, decide_eq_true_eq, List.all_eq_true]
    exact ⟨hl, fun x hx' => okN_mono (by omega) (hx x hx')⟩
  | n, m, .list xs, e, h => by
    obtain ⟨hl, k, rfl, hx⟩ := okN_lst h
    obtain ⟨j, rfl⟩ : ∃ j, m = j + 1 := ⟨m - 1, by omega⟩
    show (decide (xs.length ≤ 100000) && xs.all (okN j)) = true
    rw [Bool.and_eq_true, decide_eq_true_eq, List.all_eq_true]
    exact ⟨hl, fun x hx' => okN_mono (by omega) (hx x hx')⟩
  | n, m, .dict _, _, h => by cases n <;> cases h
theorem okI_tup {n : Nat} {xs : List D} (h : okI n (.tuple xs) = true) : xs.length ≤ 1000 ∧ ∃ k, n = k + 1 ∧ ∀ x ∈ xs, okI k x = true := by
  cases n with
  | zero => cases h
  | succ k =>
    have h : (decide (xs.length ≤ 1000) && xs.all (okI k)) = true := h
    rw [Bool.and_eq_true, decide_eq_true_eq, List.all_eq_true] at h
    exact ⟨h.1, k, rfl, h.2⟩
theorem okI_lst {n : Nat} {xs : List D} (h : okI n (.list xs) = true) : xs.length ≤ 1000 ∧ ∃ k, n = k + 1 ∧ ∀ x ∈ xs, okI k x = true := by
  cases n with
  | zero => cases h
  | succ k =>
    have h : (decide (xs.length ≤ 1000) && xs.all (okI k)) = true := h
    rw [Bool.and_eq_true, decide_eq_true_eq, List.all_eq_true] at h
    exact ⟨h.1, k, rfl, h.2⟩
theorem okI_str {n : Nat} {x : Str} (h : okI n (.str x) = true) : x.length ≤ 100 := by
  cases n <;> simpa [okI] using h
theorem okI_N : ∀ {n : Nat} {d : D}, okI n d = true → okN n d = true
  | n, .none, _ => by cases n <;> rfl
  | n, .bool _, _ => by cases n <;> rfl
  | n, .int _, _ => by cases n <;> rfl
  | n, .str x, h => by have := okI_str h; cases n <;> exact decide_eq_true (by omega)
  | n, .tuple xs, h => by
    obtain ⟨hl, k, rfl, hx⟩ := okI_tup h
    show (decide (xs.length ≤ 100000) && xs.all (okN k)) = true
    rw [Bool.and_eq_true, decide_eq_true_eq, List.all_eq_true]
    exact ⟨by omega, fun x hx' => okI_N (hx x hx')⟩
  | n, .list xs, h => by
    obtain ⟨hl, k, rfl, hx⟩ := okI_lst h
    show (decide (xs.length ≤ 100000) && xs.all (okN k)) = true
    rw [Bool.and_eq_true, decide_eq_true_eq, List.all_eq_true]
    exact ⟨by omega, fun x hx' => okI_N (hx x hx')⟩
  | n, .dict _, h => by cases n <;> cases h
theorem okN_tupI {n : Nat} {xs : List D} (hl : xs.length ≤ 100000) (h : ∀ x ∈ xs, okN n x = true) : okN (n + 1) (.tuple xs) = true := by
  show (decide (xs.length ≤ 100000) && xs.all (okN n)) = true
  rw [Bool.and_eq_true, decide_eq_true_eq, List.all_eq_true]
  exact ⟨hl, h⟩
theorem okN_lstI {n : Nat} {xs : List D} (hl : xs.length ≤ 100000) (h : ∀ x ∈ xs, okN n x = true) : okN (n + 1) (.list xs) = true := by
  show (decide (xs.length ≤ 100000) && xs.all (okN n)) = true
  rw [Bool.and_eq_true, decide_eq_true_eq, List.all_eq_true]
  exact ⟨hl, h⟩
theorem cutL_sub {α : Type} {xs : List α} {lo hi : Option Int} {x : α} (h : x ∈ cutL xs lo hi) : x ∈ xs := List.mem_of_mem_drop (List.mem_of_mem_take h)
theorem cutL_len {α : Type} (xs : List α) (lo hi : Option Int) : (cutL xs lo hi).length ≤ xs.length := by
  unfold cutL
  rw [List.length_take, List.length_drop]
  omega
end RB

end

/-! text KBent2 -/
section
set_option Elab.async false
set_option linter.all false
set_option maxRecDepth 100000
set_option maxHeartbeats 4000000
namespace RB.Law
open PySem PySem.Spec PyProof.Rows L2 RB
theorem addB_int (T S : Sto) (i j : Int) : o_addB (.v (.int i)) (.v (.int j)) T S = .ok (.v (.int (i + j))) T S := rfl
theorem addB_tup (T S : Sto) (xs ys : List D) (h : xs.length + ys.length ≤ 16777216) : o_addB (.v (.tuple xs)) (.v (.tuple ys)) T S = .ok (.v (.tuple (xs ++ ys))) T S := o_add_tups T S xs ys h
theorem addB_str (T S : Sto) (x y : Str) (h : x.length + y.length ≤ 16777216) : o_addB (.v (.str x)) (.v (.str y)) T S = .ok (.v (.str (x ++ y))) T S := by
  show (if x.length + y.length ≤ 16777216 then _ else _) = _
  rw [if_pos h]
def Bent (f : FM) (k : Nat) : Prop := ∀ (d : D) (n : Nat) (S : Sto) (Q : Rv → Sto → Prop), okI k d = true → Feed n S → n + 100 * (k + 1) < 800000000 → (∀ d' S', okN (k + 3) d' = true → Feed (n + 4 * (k + 1)) S' → Q (.v d') S') → wpF (f [.loc 0, .v d] S) Q
/-- what is bent at its own level: a tuple -/
theorem bent_tup {F : Nat → FM} {m k : Nat} {xs : List D} {n : Nat} {S : Sto} {Q : Rv → Sto → Prop} (hx : okI (k + 1) (.tuple xs) = true) (ih : Bent (F m) k) (f : Feed n S) (hn : n + 100 * (k + 2) < 800000000)
    (h : ∀ d' S', okN (k + 4) d' = true → Feed (n + 4 * (k + 2)) S' → Q (.v d') S') : wpF (fnRun (m__law_bent F m [some (.loc 0), some (.v (.tuple xs)), none, none, none, none, none] [] S)) Q := by
  obtain ⟨hl, k', ek, hxs⟩ := okI_tup hx
  have ek : k = k' := by omega
  subst ek
  have hxN : ∀ x ∈ xs, okN (k + 3) x = true := fun x hx' => okN_mono (by omega) (okI_N (hxs x hx'))
  rw [wp_run]
  unfold m__law_bent
  refine step_set (fun r T' S' => r = .v (.int xs.length) ∧ T' = [] ∧ S' = S) ?_ ?_
  · simp only [wp_seq, wp_skip, wp_ret, wp_drop, wp_set, wp_ifS, wp_par, wp_par3, wp_unp, wp_asg, wp_dput, wp_for, wp_getV, wp_cst, wp_bin, wp_asB, wp_notM, wp_andM, wp_orM, wp_andV, wp_orV, wp_notV, wp_ifM, wp_chn, wp_nilA, wp_consA, wp_callM, wp_callF, wp_tupM, wp_lstM, wp_ownM, wp_seqM, wp_methM, wp_lcM, wp_isiM, wp_isiN, wp_partN, wp_partS, wp_cutM, wp_rng1, wp_rng2, wp_negM, wp_revM, wp_dispM, wp_pnil, wp_pcons, wp_sortSetM, wp_run, wpF_ok, wpR_ok, wpR_bad, isB_b, isV_s, isS_s, isDic_d, wpF_ret, wpF_own, ob_l, ob_f, List.set_cons_zero, List.set_cons_succ, List.getElem?_cons_zero, List.getElem?_cons_succ, toAs, toA, toDs, toD, Bool.not_true, Bool.not_false, reduceIte, Bool.false_eq_true, if_false, if_true, tyR, tyD, wp_lenT]
    and_intros <;> first | rfl | trivial
  rintro r T' S' ⟨rfl, rfl, rfl⟩
  simp only [List.set_cons_zero, List.set_cons_succ]
  refine step_if (fun b T' S'' => T' = [] ∧ Feed (n + 1) S'' ∧ (b = true → 0 < xs.length)) ?_ ?_ ?_
  · simp only [wp_seq, wp_skip, wp_ret, wp_drop, wp_set, wp_ifS, wp_par, wp_par3, wp_unp, wp_asg, wp_dput, wp_for, wp_getV, wp_cst, wp_bin, wp_asB, wp_notM, wp_andM, wp_orM, wp_andV, wp_orV, wp_notV, wp_ifM, wp_chn, wp_nilA, wp_consA, wp_callM, wp_callF, wp_tupM, wp_lstM, wp_ownM, wp_seqM, wp_methM, wp_lcM, wp_isiM, wp_isiN, wp_partN, wp_partS, wp_cutM, wp_rng1, wp_rng2, wp_negM, wp_revM, wp_dispM, wp_pnil, wp_pcons, wp_sortSetM, wp_run, wpF_ok, wpR_ok, wpR_bad, isB_b, isV_s, isS_s, isDic_d, wpF_ret, wpF_own, ob_l, ob_f, List.set_cons_zero, List.set_cons_succ, List.getElem?_cons_zero, List.getElem?_cons_succ, toAs, toA, toDs, toD, Bool.not_true, Bool.not_false, reduceIte, Bool.false_eq_true, if_false, if_true, tyR, tyD, Ty.isa, decide_true, o_gt_int]
    by_cases h0 : (0 : Int) < (xs.length : Int)
    · rw [decide_eq_true h0, if_pos rfl]
      refine draw_wp f (by omega) (m := 4) (by decide) (by decide) fun d S1 hd f1 => ?_
      rw [o_gt_int, wpR_ok, isB_b]
      exact ⟨(by first | rfl | trivial), f1, fun _ => by omega⟩
    · rw [decide_eq_false h0, if_neg (by decide)]
      exact ⟨(by first | rfl | trivial), f.mono (by omega), fun e => by cases e⟩
  · rintro T' S'' ⟨rfl, f1, h0⟩
    have h0 := h0 rfl
    refine step_assoc (step_set (fun r T' S' => ∃ j : Nat, j < xs.length ∧ r = .v (.int j) ∧ T' = [] ∧ Feed (n + 2) S') ?_ ?_)
    · simp only [wp_seq, wp_skip, wp_ret, wp_drop, wp_set, wp_ifS, wp_par, wp_par3, wp_unp, wp_asg, wp_dput, wp_for, wp_getV, wp_cst, wp_bin, wp_asB, wp_notM, wp_andM, wp_orM, wp_andV, wp_orV, wp_notV, wp_ifM, wp_chn, wp_nilA, wp_consA, wp_callM, wp_callF, wp_tupM, wp_lstM, wp_ownM, wp_seqM, wp_methM, wp_lcM, wp_isiM, wp_isiN, wp_partN, wp_partS, wp_cutM, wp_rng1, wp_rng2, wp_negM, wp_revM, wp_dispM, wp_pnil, wp_pcons, wp_sortSetM, wp_run, wpF_ok, wpR_ok, wpR_bad, isB_b, isV_s, isS_s, isDic_d, wpF_ret, wpF_own, ob_l, ob_f, List.set_cons_zero, List.set_cons_succ, List.getElem?_cons_zero, List.getElem?_cons_succ, toAs, toA, toDs, toD, Bool.not_true, Bool.not_false, reduceIte, Bool.false_eq_true, if_false, if_true]
      refine draw_wp f1 (by omega) h0 (by omega) fun d S1 hd f2 => ?_
      exact ⟨d, hd, (by first | rfl | trivial), (by first | rfl | trivial), f2⟩
    rintro r T' S1 ⟨j, hj, rfl, rfl, f2⟩
    refine step_ret ?_
    simp only [wp_seq, wp_skip, wp_ret, wp_drop, wp_set, wp_ifS, wp_par, wp_par3, wp_unp, wp_asg, wp_dput, wp_for, wp_getV, wp_cst, wp_bin, wp_asB, wp_notM, wp_andM, wp_orM, wp_andV, wp_orV, wp_notV, wp_ifM, wp_chn, wp_nilA, wp_consA, wp_callM, wp_callF, wp_tupM, wp_lstM, wp_ownM, wp_seqM, wp_methM, wp_lcM, wp_isiM, wp_isiN, wp_partN, wp_partS, wp_cutM, wp_rng1, wp_rng2, wp_negM, wp_revM, wp_dispM, wp_pnil, wp_pcons, wp_sortSetM, wp_run, wpF_ok, wpR_ok, wpR_bad, isB_b, isV_s, isS_s, isDic_d, wpF_ret, wpF_own, ob_l, ob_f, List.set_cons_zero, List.set_cons_succ, List.getElem?_cons_zero, List.getElem?_cons_succ, toAs, toA, toDs, toD, Bool.not_true, Bool.not_false, reduceIte, Bool.false_eq_true, if_false, if_true, wp_cutT]
    refine ⟨_, rfl, ?_⟩
    rw [wp_ixT, atI_nat, List.getElem?_eq_getElem hj]
    simp only [wp_seq, wp_skip, wp_ret, wp_drop, wp_set, wp_ifS, wp_par, wp_par3, wp_unp, wp_asg, wp_dput, wp_for, wp_getV, wp_cst, wp_bin, wp_asB, wp_notM, wp_andM, wp_orM, wp_andV, wp_orV, wp_notV, wp_ifM, wp_chn, wp_nilA, wp_consA, wp_callM, wp_callF, wp_tupM, wp_lstM, wp_ownM, wp_seqM, wp_methM, wp_lcM, wp_isiM, wp_isiN, wp_partN, wp_partS, wp_cutM, wp_rng1, wp_rng2, wp_negM, wp_revM, wp_dispM, wp_pnil, wp_pcons, wp_sortSetM, wp_run, wpF_ok, wpR_ok, wpR_bad, isB_b, isV_s, isS_s, isDic_d, wpF_ret, wpF_own, ob_l, ob_f, List.set_cons_zero, List.set_cons_succ, List.getElem?_cons_zero, List.getElem?_cons_succ, toAs, toA, toDs, toD, Bool.not_true, Bool.not_false, reduceIte, Bool.false_eq_true, if_false, if_true]
    refine ih _ _ _ _ (hxs _ (List.getElem_mem hj)) f2 (by omega) fun d' S2 hd' f3 => ?_
    have l1 := cutL_len xs none (some (j : Int))
    have l2 := cutL_len xs (some ((j : Int) + 1)) none
    simp only [wp_seq, wp_skip, wp_ret, wp_drop, wp_set, wp_ifS, wp_par, wp_par3, wp_unp, wp_asg, wp_dput, wp_for, wp_getV, wp_cst, wp_bin, wp_asB, wp_notM, wp_andM, wp_orM, wp_andV, wp_orV, wp_notV, wp_ifM, wp_chn, wp_nilA, wp_consA, wp_callM, wp_callF, wp_tupM, wp_lstM, wp_ownM, wp_seqM, wp_methM, wp_lcM, wp_isiM, wp_isiN, wp_partN, wp_partS, wp_cutM, wp_rng1, wp_rng2, wp_negM, wp_revM, wp_dispM, wp_pnil, wp_pcons, wp_sortSetM, wp_run, wpF_ok, wpR_ok, wpR_bad, isB_b, isV_s, isS_s, isDic_d, wpF_ret, wpF_own, ob_l, ob_f, List.set_cons_zero, List.set_cons_succ, List.getElem?_cons_zero, List.getElem?_cons_succ, toAs, toA, toDs, toD, Bool.not_true, Bool.not_false, reduceIte, Bool.false_eq_true, if_false, if_true, List.length_cons, List.length_nil]
    refine ⟨by decide, ?_⟩
    rw [addB_tup _ _ _ _ (by rw [List.length_singleton]; omega), wpR_ok]
    simp only [addB_int, wp_seq, wp_skip, wp_ret, wp_drop, wp_set, wp_ifS, wp_par, wp_par3, wp_unp, wp_asg, wp_dput, wp_for, wp_getV, wp_cst, wp_bin, wp_asB, wp_notM, wp_andM, wp_orM, wp_andV, wp_orV, wp_notV, wp_ifM, wp_chn, wp_nilA, wp_consA, wp_callM, wp_callF, wp_tupM, wp_lstM, wp_ownM, wp_seqM, wp_methM, wp_lcM, wp_isiM, wp_isiN, wp_partN, wp_partS, wp_cutM, wp_rng1, wp_rng2, wp_negM, wp_revM, wp_dispM, wp_pnil, wp_pcons, wp_sortSetM, wp_run, wpF_ok, wpR_ok, wpR_bad, isB_b, isV_s, isS_s, isDic_d, wpF_ret, wpF_own, ob_l, ob_f, List.set_cons_zero, List.set_cons_succ, List.getElem?_cons_zero, List.getElem?_cons_succ, toAs, toA, toDs, toD, Bool.not_true, Bool.not_false, reduceIte, Bool.false_eq_true, if_false, if_true]
    refine ⟨_, rfl, ?_⟩
    rw [addB_tup _ _ _ _ (by rw [List.length_append, List.length_singleton]; omega), wpR_ok, wpF_ret]
    refine h _ _ (okN_tupI (by rw [List.length_append, List.length_append, List.length_singleton]; omega) fun x hx' => ?_) (f3.mono (by omega))
    rcases List.mem_append.mp hx' with z | z
    · rcases List.mem_append.mp z with z | z
      · exact hxN x (cutL_sub z)
      · rw [List.mem_singleton] at z; subst z; exact hd'
    · exact hxN x (cutL_sub z)
  · rintro T' S'' ⟨rfl, f1, _⟩
    refine step_skip ?_
    refine step_mid (fun ρ' T' S' => ∃ (way j : Nat), way < 7 ∧ j < xs.length + 1 ∧ ρ' = [some (.loc 0), some (.v (.tuple xs)), some (.v (.int xs.length)), some (.v (.int j)), some (.v (.int way)), none, none] ∧ T' = [] ∧ Feed (n + 3) S') ?_ ?_
    · rw [wp_par]
      simp only [wp_seq, wp_skip, wp_ret, wp_drop, wp_set, wp_ifS, wp_par, wp_par3, wp_unp, wp_asg, wp_dput, wp_for, wp_getV, wp_cst, wp_bin, wp_asB, wp_notM, wp_andM, wp_orM, wp_andV, wp_orV, wp_notV, wp_ifM, wp_chn, wp_nilA, wp_consA, wp_callM, wp_callF, wp_tupM, wp_lstM, wp_ownM, wp_seqM, wp_methM, wp_lcM, wp_isiM, wp_isiN, wp_partN, wp_partS, wp_cutM, wp_rng1, wp_rng2, wp_negM, wp_revM, wp_dispM, wp_pnil, wp_pcons, wp_sortSetM, wp_run, wpF_ok, wpR_ok, wpR_bad, isB_b, isV_s, isS_s, isDic_d, wpF_ret, wpF_own, ob_l, ob_f, List.set_cons_zero, List.set_cons_succ, List.getElem?_cons_zero, List.getElem?_cons_succ, toAs, toA, toDs, toD, Bool.not_true, Bool.not_false, reduceIte, Bool.false_eq_true, if_false, if_true]
      refine draw_wp f1 (by omega) (m := 7) (by decide) (by decide) fun way S1 hw f2 => ?_
      simp only [addB_int, wp_seq, wp_skip, wp_ret, wp_drop, wp_set, wp_ifS, wp_par, wp_par3, wp_unp, wp_asg, wp_dput, wp_for, wp_getV, wp_cst, wp_bin, wp_asB, wp_notM, wp_andM, wp_orM, wp_andV, wp_orV, wp_notV, wp_ifM, wp_chn, wp_nilA, wp_consA, wp_callM, wp_callF, wp_tupM, wp_lstM, wp_ownM, wp_seqM, wp_methM, wp_lcM, wp_isiM, wp_isiN, wp_partN, wp_partS, wp_cutM, wp_rng1, wp_rng2, wp_negM, wp_revM, wp_dispM, wp_pnil, wp_pcons, wp_sortSetM, wp_run, wpF_ok, wpR_ok, wpR_bad, isB_b, isV_s, isS_s, isDic_d, wpF_ret, wpF_own, ob_l, ob_f, List.set_cons_zero, List.set_cons_succ, List.getElem?_cons_zero, List.getElem?_cons_succ, toAs, toA, toDs, toD, Bool.not_true, Bool.not_false, reduceIte, Bool.false_eq_true, if_false, if_true]
      have e1 : ((xs.length : Int) + 1) = ((xs.length + 1 : Nat) : Int) := by omega
      rw [e1]
      refine draw_wp f2 (by omega) (by omega) (by omega) fun j S2 hj f3 => ?_
      exact ⟨_, _, (by first | rfl | trivial), way, j, hw, hj, (by first | rfl | trivial), (by first | rfl | trivial), f3⟩
    rintro ρ T S1 ⟨way, j, hw, hj, rfl, rfl, f2⟩
    refine step_if (fun b T' S' => b = decide ((way : Int) = 3) ∧ T' = [] ∧ S' = S1) ?_ ?_ ?_
    · simp only [wp_seq, wp_skip, wp_ret, wp_drop, wp_set, wp_ifS, wp_par, wp_par3, wp_unp, wp_asg, wp_dput, wp_for, wp_getV, wp_cst, wp_bin, wp_asB, wp_notM, wp_andM, wp_orM, wp_andV, wp_orV, wp_notV, wp_ifM, wp_chn, wp_nilA, wp_consA, wp_callM, wp_callF, wp_tupM, wp_lstM, wp_ownM, wp_seqM, wp_methM, wp_lcM, wp_isiM, wp_isiN, wp_partN, wp_partS, wp_cutM, wp_rng1, wp_rng2, wp_negM, wp_revM, wp_dispM, wp_pnil, wp_pcons, wp_sortSetM, wp_run, wpF_ok, wpR_ok, wpR_bad, isB_b, isV_s, isS_s, isDic_d, wpF_ret, wpF_own, ob_l, ob_f, List.set_cons_zero, List.set_cons_succ, List.getElem?_cons_zero, List.getElem?_cons_succ, toAs, toA, toDs, toD, Bool.not_true, Bool.not_false, reduceIte, Bool.false_eq_true, if_false, if_true, tyR, tyD, Ty.isa, decide_true, o_eq_int]
      and_intros <;> first | rfl | trivial
    · rintro T' S' ⟨_, rfl, rfl⟩
      refine step_ret ?_
      simp only [wp_seq, wp_skip, wp_ret, wp_drop, wp_set, wp_ifS, wp_par, wp_par3, wp_unp, wp_asg, wp_dput, wp_for, wp_getV, wp_cst, wp_bin, wp_asB, wp_notM, wp_andM, wp_orM, wp_andV, wp_orV, wp_notV, wp_ifM, wp_chn, wp_nilA, wp_consA, wp_callM, wp_callF, wp_tupM, wp_lstM, wp_ownM, wp_seqM, wp_methM, wp_lcM, wp_isiM, wp_isiN, wp_partN, wp_partS, wp_cutM, wp_rng1, wp_rng2, wp_negM, wp_revM, wp_dispM, wp_pnil, wp_pcons, wp_sortSetM, wp_run, wpF_ok, wpR_ok, wpR_bad, isB_b, isV_s, isS_s, isDic_d, wpF_ret, wpF_own, ob_l, ob_f, List.set_cons_zero, List.set_cons_succ, List.getElem?_cons_zero, List.getElem?_cons_succ, toAs, toA, toDs, toD, Bool.not_true, Bool.not_false, reduceIte, Bool.false_eq_true, if_false, if_true, wp_listT]
      exact h _ _ (okN_lstI (by omega) hxN) (f2.mono (by omega))
    · rintro T' S' ⟨h3, rfl, rfl⟩
      refine step_skip ?_
      refine step_if (fun b T' S'' => b = decide ((way : Int) < 3) ∧ T' = [] ∧ S'' = S') ?_ ?_ ?_
      · simp only [wp_seq, wp_skip, wp_ret, wp_drop, wp_set, wp_ifS, wp_par, wp_par3, wp_unp, wp_asg, wp_dput, wp_for, wp_getV, wp_cst, wp_bin, wp_asB, wp_notM, wp_andM, wp_orM, wp_andV, wp_orV, wp_notV, wp_ifM, wp_chn, wp_nilA, wp_consA, wp_callM, wp_callF, wp_tupM, wp_lstM, wp_ownM, wp_seqM, wp_methM, wp_lcM, wp_isiM, wp_isiN, wp_partN, wp_partS, wp_cutM, wp_rng1, wp_rng2, wp_negM, wp_revM, wp_dispM, wp_pnil, wp_pcons, wp_sortSetM, wp_run, wpF_ok, wpR_ok, wpR_bad, isB_b, isV_s, isS_s, isDic_d, wpF_ret, wpF_own, ob_l, ob_f, List.set_cons_zero, List.set_cons_succ, List.getElem?_cons_zero, List.getElem?_cons_succ, toAs, toA, toDs, toD, Bool.not_true, Bool.not_false, reduceIte, Bool.false_eq_true, if_false, if_true, tyR, tyD, Ty.isa, decide_true, o_lt_int]
        and_intros <;> first | rfl | trivial
      · rintro T' S2 ⟨hlt, rfl, rfl⟩
        have hw3 : way < 3 := by have := of_decide_eq_true hlt.symm; omega
        refine step_assoc (step_set (fun r T' S'' => ∃ a b c : List D, r = .v (.list [.tuple a, .tuple b, .tuple c]) ∧ (∀ y ∈ [a, b, c], y.length ≤ 2000 ∧ ∀ x ∈ y, x ∈ xs) ∧ T' = [] ∧ S'' = S2) ?_ ?_)
        · have l1 := cutL_len xs (some (j : Int)) (some ((j : Int) + 1))
          have l2 := cutL_len xs (some ((j : Int) + 1)) (some ((j : Int) + 2))
          simp only [wp_seq, wp_skip, wp_ret, wp_drop, wp_set, wp_ifS, wp_par, wp_par3, wp_unp, wp_asg, wp_dput, wp_for, wp_getV, wp_cst, wp_bin, wp_asB, wp_notM, wp_andM, wp_orM, wp_andV, wp_orV, wp_notV, wp_ifM, wp_chn, wp_nilA, wp_consA, wp_callM, wp_callF, wp_tupM, wp_lstM, wp_ownM, wp_seqM, wp_methM, wp_lcM, wp_isiM, wp_isiN, wp_partN, wp_partS, wp_cutM, wp_rng1, wp_rng2, wp_negM, wp_revM, wp_dispM, wp_pnil, wp_pcons, wp_sortSetM, wp_run, wpF_ok, wpR_ok, wpR_bad, isB_b, isV_s, isS_s, isDic_d, wpF_ret, wpF_own, ob_l, ob_f, List.set_cons_zero, List.set_cons_succ, List.getElem?_cons_zero, List.getElem?_cons_succ, toAs, toA, toDs, toD, Bool.not_true, Bool.not_false, reduceIte, Bool.false_eq_true, if_false, if_true, addB_int, wp_cutT, List.length_nil]
          refine ⟨by decide, _, rfl, _, rfl, _, rfl, _, rfl, ?_⟩
          rw [addB_tup _ _ _ _ (by omega), wpR_ok]
          refine ⟨_, rfl, _, rfl, _, rfl, _, rfl, ?_⟩
          rw [addB_tup _ _ _ _ (by omega), wpR_ok]
          simp only [wp_seq, wp_skip, wp_ret, wp_drop, wp_set, wp_ifS, wp_par, wp_par3, wp_unp, wp_asg, wp_dput, wp_for, wp_getV, wp_cst, wp_bin, wp_asB, wp_notM, wp_andM, wp_orM, wp_andV, wp_orV, wp_notV, wp_ifM, wp_chn, wp_nilA, wp_consA, wp_callM, wp_callF, wp_tupM, wp_lstM, wp_ownM, wp_seqM, wp_methM, wp_lcM, wp_isiM, wp_isiN, wp_partN, wp_partS, wp_cutM, wp_rng1, wp_rng2, wp_negM, wp_revM, wp_dispM, wp_pnil, wp_pcons, wp_sortSetM, wp_run, wpF_ok, wpR_ok, wpR_bad, isB_b, isV_s, isS_s, isDic_d, wpF_ret, wpF_own, ob_l, ob_f, List.set_cons_zero, List.set_cons_succ, List.getElem?_cons_zero, List.getElem?_cons_succ, toAs, toA, toDs, toD, Bool.not_true, Bool.not_false, reduceIte, Bool.false_eq_true, if_false, if_true, List.length_cons, List.length_nil]
          refine ⟨by decide, _, _, _, rfl, ?_, (by first | rfl | trivial), (by first | rfl | trivial)⟩
          intro y hy
          simp only [List.mem_cons, List.not_mem_nil, or_false] at hy
          rcases hy with rfl | rfl | rfl
          · exact ⟨Nat.zero_le _, by intro x hx; cases hx⟩
          · exact ⟨by rw [List.length_append]; omega, fun x hx => (List.mem_append.mp hx).elim cutL_sub cutL_sub⟩
          · exact ⟨by rw [List.length_append]; omega, fun x hx => (List.mem_append.mp hx).elim cutL_sub cutL_sub⟩
        rintro r T' S3 ⟨a, b, c, rfl, habc, rfl, rfl⟩
        refine step_ret ?_
        have mid : ∃ y : List D, y.length ≤ 2000 ∧ (∀ x ∈ y, x ∈ xs) ∧ atI ([.tuple a, .tuple b, .tuple c] : List D) (way : Int) = some (.tuple y) := by
          rw [atI_nat]
          match way, hw3 with
          | 0, _ => exact ⟨a, (habc a (by simp)).1, (habc a (by simp)).2, rfl⟩
          | 1, _ => exact ⟨b, (habc b (by simp)).1, (habc b (by simp)).2, rfl⟩
          | 2, _ => exact ⟨c, (habc c (by simp)).1, (habc c (by simp)).2, rfl⟩
        have off : ∃ z : Int, atI ([.int 1, .int 1, .int 2] : List D) (way : Int) = some (.int z) := by
          rw [atI_nat]
          match way, hw3 with
          | 0, _ => exact ⟨1, rfl⟩
          | 1, _ => exact ⟨1, rfl⟩
          | 2, _ => exact ⟨2, rfl⟩
        obtain ⟨y, hy1, hy2, ey⟩ := mid
        obtain ⟨z, ez⟩ := off
        have l1 := cutL_len xs none (some (j : Int))
        have l2 := cutL_len xs (some ((j : Int) + z)) none
        simp only [wp_seq, wp_skip, wp_ret, wp_drop, wp_set, wp_ifS, wp_par, wp_par3, wp_unp, wp_asg, wp_dput, wp_for, wp_getV, wp_cst, wp_bin, wp_asB, wp_notM, wp_andM, wp_orM, wp_andV, wp_orV, wp_notV, wp_ifM, wp_chn, wp_nilA, wp_consA, wp_callM, wp_callF, wp_tupM, wp_lstM, wp_ownM, wp_seqM, wp_methM, wp_lcM, wp_isiM, wp_isiN, wp_partN, wp_partS, wp_cutM, wp_rng1, wp_rng2, wp_negM, wp_revM, wp_dispM, wp_pnil, wp_pcons, wp_sortSetM, wp_run, wpF_ok, wpR_ok, wpR_bad, isB_b, isV_s, isS_s, isDic_d, wpF_ret, wpF_own, ob_l, ob_f, List.set_cons_zero, List.set_cons_succ, List.getElem?_cons_zero, List.getElem?_cons_succ, toAs, toA, toDs, toD, Bool.not_true, Bool.not_false, reduceIte, Bool.false_eq_true, if_false, if_true, wp_cutT, wp_ixL, ey, ez, List.length_cons, List.length_nil]
        refine ⟨_, rfl, ?_⟩
        rw [addB_tup _ _ _ _ (by omega), wpR_ok]
        refine ⟨by decide, ?_⟩
        simp only [addB_int, wp_seq, wp_skip, wp_ret, wp_drop, wp_set, wp_ifS, wp_par, wp_par3, wp_unp, wp_asg, wp_dput, wp_for, wp_getV, wp_cst, wp_bin, wp_asB, wp_notM, wp_andM, wp_orM, wp_andV, wp_orV, wp_notV, wp_ifM, wp_chn, wp_nilA, wp_consA, wp_callM, wp_callF, wp_tupM, wp_lstM, wp_ownM, wp_seqM, wp_methM, wp_lcM, wp_isiM, wp_isiN, wp_partN, wp_partS, wp_cutM, wp_rng1, wp_rng2, wp_negM, wp_revM, wp_dispM, wp_pnil, wp_pcons, wp_sortSetM, wp_run, wpF_ok, wpR_ok, wpR_bad, isB_b, isV_s, isS_s, isDic_d, wpF_ret, wpF_own, ob_l, ob_f, List.set_cons_zero, List.set_cons_succ, List.getElem?_cons_zero, List.getElem?_cons_succ, toAs, toA, toDs, toD, Bool.not_true, Bool.not_false, reduceIte, Bool.false_eq_true, if_false, if_true, wp_cutT]
        refine ⟨_, rfl, ?_⟩
        rw [addB_tup _ _ _ _ (by rw [List.length_append]; omega), wpR_ok, wpF_ret]
        refine h _ _ (okN_tupI (by rw [List.length_append, List.length_append]; omega) fun x hx' => ?_) (f2.mono (by omega))
        rcases List.mem_append.mp hx' with z | z
        · rcases List.mem_append.mp z with z | z
          · exact hxN x (cutL_sub z)
          · exact hxN x (hy2 x z)
        · exact hxN x (cutL_sub z)
      · rintro T' S2 ⟨_, rfl, rfl⟩
        refine step_skip ?_
        refine step_if (fun b T' S'' => b = false ∧ T' = [] ∧ S'' = S2) ?_ ?_ ?_
        · simp only [wp_seq, wp_skip, wp_ret, wp_drop, wp_set, wp_ifS, wp_par, wp_par3, wp_unp, wp_asg, wp_dput, wp_for, wp_getV, wp_cst, wp_bin, wp_asB, wp_notM, wp_andM, wp_orM, wp_andV, wp_orV, wp_notV, wp_ifM, wp_chn, wp_nilA, wp_consA, wp_callM, wp_callF, wp_tupM, wp_lstM, wp_ownM, wp_seqM, wp_methM, wp_lcM, wp_isiM, wp_isiN, wp_partN, wp_partS, wp_cutM, wp_rng1, wp_rng2, wp_negM, wp_revM, wp_dispM, wp_pnil, wp_pcons, wp_sortSetM, wp_run, wpF_ok, wpR_ok, wpR_bad, isB_b, isV_s, isS_s, isDic_d, wpF_ret, wpF_own, ob_l, ob_f, List.set_cons_zero, List.set_cons_succ, List.getElem?_cons_zero, List.getElem?_cons_succ, toAs, toA, toDs, toD, Bool.not_true, Bool.not_false, reduceIte, Bool.false_eq_true, if_false, if_true, tyR, tyD, Ty.isa]
          and_intros <;> first | rfl | trivial | decide
        · rintro T' S' ⟨z, _⟩
          cases z
        · rintro T' S3 ⟨_, rfl, rfl⟩
          refine step_skip ?_
          refine step_if (fun b T' S'' => b = false ∧ T' = [] ∧ S'' = S3) ?_ ?_ ?_
          · simp only [wp_seq, wp_skip, wp_ret, wp_drop, wp_set, wp_ifS, wp_par, wp_par3, wp_unp, wp_asg, wp_dput, wp_for, wp_getV, wp_cst, wp_bin, wp_asB, wp_notM, wp_andM, wp_orM, wp_andV, wp_orV, wp_notV, wp_ifM, wp_chn, wp_nilA, wp_consA, wp_callM, wp_callF, wp_tupM, wp_lstM, wp_ownM, wp_seqM, wp_methM, wp_lcM, wp_isiM, wp_isiN, wp_partN, wp_partS, wp_cutM, wp_rng1, wp_rng2, wp_negM, wp_revM, wp_dispM, wp_pnil, wp_pcons, wp_sortSetM, wp_run, wpF_ok, wpR_ok, wpR_bad, isB_b, isV_s, isS_s, isDic_d, wpF_ret, wpF_own, ob_l, ob_f, List.set_cons_zero, List.set_cons_succ, List.getElem?_cons_zero, List.getElem?_cons_succ, toAs, toA, toDs, toD, Bool.not_true, Bool.not_false, reduceIte, Bool.false_eq_true, if_false, if_true, tyR, tyD, Ty.isa]
            and_intros <;> first | rfl | trivial | decide
          · rintro T' S' ⟨z, _⟩
            cases z
          · rintro T' S4 ⟨_, rfl, rfl⟩
            refine step_skip ?_
            simp only [wp_seq, wp_skip, wp_ret, wp_drop, wp_set, wp_ifS, wp_par, wp_par3, wp_unp, wp_asg, wp_dput, wp_for, wp_getV, wp_cst, wp_bin, wp_asB, wp_notM, wp_andM, wp_orM, wp_andV, wp_orV, wp_notV, wp_ifM, wp_chn, wp_nilA, wp_consA, wp_callM, wp_callF, wp_tupM, wp_lstM, wp_ownM, wp_seqM, wp_methM, wp_lcM, wp_isiM, wp_isiN, wp_partN, wp_partS, wp_cutM, wp_rng1, wp_rng2, wp_negM, wp_revM, wp_dispM, wp_pnil, wp_pcons, wp_sortSetM, wp_run, wpF_ok, wpR_ok, wpR_bad, isB_b, isV_s, isS_s, isDic_d, wpF_ret, wpF_own, ob_l, ob_f, List.set_cons_zero, List.set_cons_succ, List.getElem?_cons_zero, List.getElem?_cons_succ, toAs, toA, toDs, toD, Bool.not_true, Bool.not_false, reduceIte, Bool.false_eq_true, if_false, if_true]
            refine odd_wp f2 (by omega) fun d' S5 hd' f3 => ?_
            rw [wpF_ret]
            exact h _ _ (okN_mono (by omega) hd') (f3.mono (by omega))
end RB.Law

end

/-! text KBent3 -/
section
set_option Elab.async false
set_option linter.all false
set_option maxRecDepth 100000
set_option maxHeartbeats 4000000
namespace RB.Law
open PySem PySem.Spec PyProof.Rows L2 RB
theorem tup_of' {d : D} (h : isTuple d = true) : ∃ xs, d = .tuple xs := by
  cases d <;> first | exact ⟨_, rfl⟩ | cases h
theorem addB_bool (T S : Sto) (b : Bool) (j : Int) : o_addB (.v (.bool b)) (.v (.int j)) T S = .ok (.v (.int (b2i b + j))) T S := rfl
theorem gtB_bool (T S : Sto) (b : Bool) (j : Int) : o_gtB (.v (.bool b)) (.v (.int j)) T S = .ok (.v (.bool (decide (b2i b > j)))) T S := rfl
theorem gtB_int (T S : Sto) (i j : Int) : o_gtB (.v (.int i)) (.v (.int j)) T S = .ok (.v (.bool (decide (j < i)))) T S := o_gt_int T S i j
def szO : D → Nat
  | .str x => x.length
  | _ => 0
def bentSigns : List D := [.str (Str.ofString "a"), .str (Str.ofString "z"), .str (Str.ofString "0"), .str (Str.ofString "9"), .str (Str.ofString "A"), .str (Str.ofString "_"), .str (Str.ofString " "), .str (Str.ofString "-"), .str (Str.ofString "")]
theorem bentSigns_ok : ∀ x ∈ bentSigns, ∃ s : Str, x = .str s ∧ s.length ≤ 1 := by
  have h : bentSigns.all (fun x => match x with | .str s => decide (s.length ≤ 1) | _ => false) = true := by decide +kernel
  intro x hx
  have := List.all_eq_true.mp h x hx
  cases x <;> first | exact ⟨_, rfl, of_decide_eq_true this⟩ | cases this
theorem bent_other {F : Nat → FM} {m k : Nat} {d : D} {n : Nat} {S : Sto} {Q : Rv → Sto → Prop} (hd : okI k d = true) (ht : isTuple d = false) (f : Feed n S) (hn : n + 100 * (k + 1) < 800000000)
    (h : ∀ d' S', okN (k + 3) d' = true → Feed (n + 4 * (k + 1)) S' → Q (.v d') S') : wpF (fnRun (m__law_bent F m [some (.loc 0), some (.v d), none, none, none, none, none] [] S)) Q := by
  have hN := okI_N hd
  rw [wp_run]
  unfold m__law_bent
  refine step_set (fun r T' S' => r = .v (.int (szO d)) ∧ T' = [] ∧ S' = S) ?_ ?_
  · simp only [wp_seq, wp_skip, wp_ret, wp_drop, wp_set, wp_ifS, wp_par, wp_par3, wp_unp, wp_asg, wp_dput, wp_for, wp_getV, wp_cst, wp_bin, wp_asB, wp_notM, wp_andM, wp_orM, wp_andV, wp_orV, wp_notV, wp_ifM, wp_chn, wp_nilA, wp_consA, wp_callM, wp_callF, wp_tupM, wp_lstM, wp_ownM, wp_seqM, wp_methM, wp_lcM, wp_isiM, wp_isiN, wp_partN, wp_partS, wp_cutM, wp_rng1, wp_rng2, wp_negM, wp_revM, wp_dispM, wp_pnil, wp_pcons, wp_sortSetM, wp_run, wpF_ok, wpR_ok, wpR_bad, isB_b, isV_s, isS_s, isDic_d, wpF_ret, wpF_own, ob_l, ob_f, List.set_cons_zero, List.set_cons_succ, List.getElem?_cons_zero, List.getElem?_cons_succ, toAs, toA, toDs, toD, Bool.not_true, Bool.not_false, reduceIte, Bool.false_eq_true, if_false, if_true, tyR_ok' hN]
    cases d with
    | str x => have := okI_str hd; simp [tyO, tyD, Ty.isa, szO, wp_seq, wp_skip, wp_ret, wp_drop, wp_set, wp_ifS, wp_par, wp_par3, wp_unp, wp_asg, wp_dput, wp_for, wp_getV, wp_cst, wp_bin, wp_asB, wp_notM, wp_andM, wp_orM, wp_andV, wp_orV, wp_notV, wp_ifM, wp_chn, wp_nilA, wp_consA, wp_callM, wp_callF, wp_tupM, wp_lstM, wp_ownM, wp_seqM, wp_methM, wp_lcM, wp_isiM, wp_isiN, wp_partN, wp_partS, wp_cutM, wp_rng1, wp_rng2, wp_negM, wp_revM, wp_dispM, wp_pnil, wp_pcons, wp_sortSetM, wp_run, wpF_ok, wpR_ok, wpR_bad, isB_b, isV_s, isS_s, isDic_d, wpF_ret, wpF_own, ob_l, ob_f, List.set_cons_zero, List.set_cons_succ, List.getElem?_cons_zero, List.getElem?_cons_succ, toAs, toA, toDs, toD, Bool.not_true, Bool.not_false, reduceIte, Bool.false_eq_true, if_false, if_true, wp_lenS]; omega
    | tuple xs => cases ht
    | dict z => cases k <;> cases hd
    | _ => simp [tyO, tyD, Ty.isa, szO, wp_seq, wp_skip, wp_ret, wp_drop, wp_set, wp_ifS, wp_par, wp_par3, wp_unp, wp_asg, wp_dput, wp_for, wp_getV, wp_cst, wp_bin, wp_asB, wp_notM, wp_andM, wp_orM, wp_andV, wp_orV, wp_notV, wp_ifM, wp_chn, wp_nilA, wp_consA, wp_callM, wp_callF, wp_tupM, wp_lstM, wp_ownM, wp_seqM, wp_methM, wp_lcM, wp_isiM, wp_isiN, wp_partN, wp_partS, wp_cutM, wp_rng1, wp_rng2, wp_negM, wp_revM, wp_dispM, wp_pnil, wp_pcons, wp_sortSetM, wp_run, wpF_ok, wpR_ok, wpR_bad, isB_b, isV_s, isS_s, isDic_d, wpF_ret, wpF_own, ob_l, ob_f, List.set_cons_zero, List.set_cons_succ, List.getElem?_cons_zero, List.getElem?_cons_succ, toAs, toA, toDs, toD, Bool.not_true, Bool.not_false, reduceIte, Bool.false_eq_true, if_false, if_true]
  rintro r T' S' ⟨rfl, rfl, rfl⟩
  simp only [List.set_cons_zero, List.set_cons_succ]
  refine step_if (fun b T' S'' => b = false ∧ T' = [] ∧ S'' = S') ?_ ?_ ?_
  · simp only [wp_seq, wp_skip, wp_ret, wp_drop, wp_set, wp_ifS, wp_par, wp_par3, wp_unp, wp_asg, wp_dput, wp_for, wp_getV, wp_cst, wp_bin, wp_asB, wp_notM, wp_andM, wp_orM, wp_andV, wp_orV, wp_notV, wp_ifM, wp_chn, wp_nilA, wp_consA, wp_callM, wp_callF, wp_tupM, wp_lstM, wp_ownM, wp_seqM, wp_methM, wp_lcM, wp_isiM, wp_isiN, wp_partN, wp_partS, wp_cutM, wp_rng1, wp_rng2, wp_negM, wp_revM, wp_dispM, wp_pnil, wp_pcons, wp_sortSetM, wp_run, wpF_ok, wpR_ok, wpR_bad, isB_b, isV_s, isS_s, isDic_d, wpF_ret, wpF_own, ob_l, ob_f, List.set_cons_zero, List.set_cons_succ, List.getElem?_cons_zero, List.getElem?_cons_succ, toAs, toA, toDs, toD, Bool.not_true, Bool.not_false, reduceIte, Bool.false_eq_true, if_false, if_true, tyR_ok' hN, isa_tuple hN, ht]
    and_intros <;> first | rfl | trivial
  · rintro T' S' ⟨z, _⟩; cases z
  rintro T' S'' ⟨_, rfl, rfl⟩
  refine step_skip ?_
  have hz : szO d ≤ 100 := by
    cases d with
    | str x => exact okI_str hd
    | _ => exact Nat.zero_le _
  refine step_mid (fun ρ' T' S' => ∃ (way j : Nat), way < 7 ∧ j < szO d + 1 ∧ ρ' = [some (.loc 0), some (.v d), some (.v (.int (szO d))), some (.v (.int j)), some (.v (.int way)), none, none] ∧ T' = [] ∧ Feed (n + 2) S') ?_ ?_
  · rw [wp_par]
    simp only [wp_seq, wp_skip, wp_ret, wp_drop, wp_set, wp_ifS, wp_par, wp_par3, wp_unp, wp_asg, wp_dput, wp_for, wp_getV, wp_cst, wp_bin, wp_asB, wp_notM, wp_andM, wp_orM, wp_andV, wp_orV, wp_notV, wp_ifM, wp_chn, wp_nilA, wp_consA, wp_callM, wp_callF, wp_tupM, wp_lstM, wp_ownM, wp_seqM, wp_methM, wp_lcM, wp_isiM, wp_isiN, wp_partN, wp_partS, wp_cutM, wp_rng1, wp_rng2, wp_negM, wp_revM, wp_dispM, wp_pnil, wp_pcons, wp_sortSetM, wp_run, wpF_ok, wpR_ok, wpR_bad, isB_b, isV_s, isS_s, isDic_d, wpF_ret, wpF_own, ob_l, ob_f, List.set_cons_zero, List.set_cons_succ, List.getElem?_cons_zero, List.getElem?_cons_succ, toAs, toA, toDs, toD, Bool.not_true, Bool.not_false, reduceIte, Bool.false_eq_true, if_false, if_true]
    refine draw_wp f (by omega) (m := 7) (by decide) (by decide) fun way S1 hw f2 => ?_
    simp only [addB_int, wp_seq, wp_skip, wp_ret, wp_drop, wp_set, wp_ifS, wp_par, wp_par3, wp_unp, wp_asg, wp_dput, wp_for, wp_getV, wp_cst, wp_bin, wp_asB, wp_notM, wp_andM, wp_orM, wp_andV, wp_orV, wp_notV, wp_ifM, wp_chn, wp_nilA, wp_consA, wp_callM, wp_callF, wp_tupM, wp_lstM, wp_ownM, wp_seqM, wp_methM, wp_lcM, wp_isiM, wp_isiN, wp_partN, wp_partS, wp_cutM, wp_rng1, wp_rng2, wp_negM, wp_revM, wp_dispM, wp_pnil, wp_pcons, wp_sortSetM, wp_run, wpF_ok, wpR_ok, wpR_bad, isB_b, isV_s, isS_s, isDic_d, wpF_ret, wpF_own, ob_l, ob_f, List.set_cons_zero, List.set_cons_succ, List.getElem?_cons_zero, List.getElem?_cons_succ, toAs, toA, toDs, toD, Bool.not_true, Bool.not_false, reduceIte, Bool.false_eq_true, if_false, if_true]
    have e1 : ((szO d : Int) + 1) = ((szO d + 1 : Nat) : Int) := by omega
    rw [e1]
    refine draw_wp f2 (by omega) (by omega) (by omega) fun j S2 hj f3 => ?_
    exact ⟨_, _, (by first | rfl | trivial), way, j, hw, hj, (by first | rfl | trivial), (by first | rfl | trivial), f3⟩
  rintro ρ T S1 ⟨way, j, hw, hj, rfl, rfl, f2⟩
  refine step_if (fun b T' S'' => b = false ∧ T' = [] ∧ S'' = S1) ?_ ?_ ?_
  · simp only [wp_seq, wp_skip, wp_ret, wp_drop, wp_set, wp_ifS, wp_par, wp_par3, wp_unp, wp_asg, wp_dput, wp_for, wp_getV, wp_cst, wp_bin, wp_asB, wp_notM, wp_andM, wp_orM, wp_andV, wp_orV, wp_notV, wp_ifM, wp_chn, wp_nilA, wp_consA, wp_callM, wp_callF, wp_tupM, wp_lstM, wp_ownM, wp_seqM, wp_methM, wp_lcM, wp_isiM, wp_isiN, wp_partN, wp_partS, wp_cutM, wp_rng1, wp_rng2, wp_negM, wp_revM, wp_dispM, wp_pnil, wp_pcons, wp_sortSetM, wp_run, wpF_ok, wpR_ok, wpR_bad, isB_b, isV_s, isS_s, isDic_d, wpF_ret, wpF_own, ob_l, ob_f, List.set_cons_zero, List.set_cons_succ, List.getElem?_cons_zero, List.getElem?_cons_succ, toAs, toA, toDs, toD, Bool.not_true, Bool.not_false, reduceIte, Bool.false_eq_true, if_false, if_true, tyR_ok' hN, isa_tuple hN, ht]
    and_intros <;> first | rfl | trivial
  · rintro T' S' ⟨z, _⟩; cases z
  rintro T' S2 ⟨_, rfl, rfl⟩
  refine step_skip ?_
  refine step_if (fun b T' S'' => b = false ∧ T' = [] ∧ S'' = S2) ?_ ?_ ?_
  · simp only [wp_seq, wp_skip, wp_ret, wp_drop, wp_set, wp_ifS, wp_par, wp_par3, wp_unp, wp_asg, wp_dput, wp_for, wp_getV, wp_cst, wp_bin, wp_asB, wp_notM, wp_andM, wp_orM, wp_andV, wp_orV, wp_notV, wp_ifM, wp_chn, wp_nilA, wp_consA, wp_callM, wp_callF, wp_tupM, wp_lstM, wp_ownM, wp_seqM, wp_methM, wp_lcM, wp_isiM, wp_isiN, wp_partN, wp_partS, wp_cutM, wp_rng1, wp_rng2, wp_negM, wp_revM, wp_dispM, wp_pnil, wp_pcons, wp_sortSetM, wp_run, wpF_ok, wpR_ok, wpR_bad, isB_b, isV_s, isS_s, isDic_d, wpF_ret, wpF_own, ob_l, ob_f, List.set_cons_zero, List.set_cons_succ, List.getElem?_cons_zero, List.getElem?_cons_succ, toAs, toA, toDs, toD, Bool.not_true, Bool.not_false, reduceIte, Bool.false_eq_true, if_false, if_true, tyR_ok' hN, isa_tuple hN, ht]
    and_intros <;> first | rfl | trivial
  · rintro T' S' ⟨z, _⟩; cases z
  rintro T' S3 ⟨_, rfl, rfl⟩
  refine step_skip ?_
  refine step_if (fun b T' S'' => (b = true → isStr d = true) ∧ T' = [] ∧ S'' = S3) ?_ ?_ ?_
  · simp only [wp_seq, wp_skip, wp_ret, wp_drop, wp_set, wp_ifS, wp_par, wp_par3, wp_unp, wp_asg, wp_dput, wp_for, wp_getV, wp_cst, wp_bin, wp_asB, wp_notM, wp_andM, wp_orM, wp_andV, wp_orV, wp_notV, wp_ifM, wp_chn, wp_nilA, wp_consA, wp_callM, wp_callF, wp_tupM, wp_lstM, wp_ownM, wp_seqM, wp_methM, wp_lcM, wp_isiM, wp_isiN, wp_partN, wp_partS, wp_cutM, wp_rng1, wp_rng2, wp_negM, wp_revM, wp_dispM, wp_pnil, wp_pcons, wp_sortSetM, wp_run, wpF_ok, wpR_ok, wpR_bad, isB_b, isV_s, isS_s, isDic_d, wpF_ret, wpF_own, ob_l, ob_f, List.set_cons_zero, List.set_cons_succ, List.getElem?_cons_zero, List.getElem?_cons_succ, toAs, toA, toDs, toD, Bool.not_true, Bool.not_false, reduceIte, Bool.false_eq_true, if_false, if_true, tyR_ok' hN, isa_str hN]
    cases isStr d with
    | false => simp
    | true => simp only [wp_seq, wp_skip, wp_ret, wp_drop, wp_set, wp_ifS, wp_par, wp_par3, wp_unp, wp_asg, wp_dput, wp_for, wp_getV, wp_cst, wp_bin, wp_asB, wp_notM, wp_andM, wp_orM, wp_andV, wp_orV, wp_notV, wp_ifM, wp_chn, wp_nilA, wp_consA, wp_callM, wp_callF, wp_tupM, wp_lstM, wp_ownM, wp_seqM, wp_methM, wp_lcM, wp_isiM, wp_isiN, wp_partN, wp_partS, wp_cutM, wp_rng1, wp_rng2, wp_negM, wp_revM, wp_dispM, wp_pnil, wp_pcons, wp_sortSetM, wp_run, wpF_ok, wpR_ok, wpR_bad, isB_b, isV_s, isS_s, isDic_d, wpF_ret, wpF_own, ob_l, ob_f, List.set_cons_zero, List.set_cons_succ, List.getElem?_cons_zero, List.getElem?_cons_succ, toAs, toA, toDs, toD, Bool.not_true, Bool.not_false, reduceIte, Bool.false_eq_true, if_false, if_true, o_lt_int]; exact ⟨fun _ => (by first | rfl | trivial), (by first | rfl | trivial), (by first | rfl | trivial)⟩
  · rintro T' S4 ⟨hs, rfl, rfl⟩
    have hs := hs rfl
    obtain ⟨x, rfl⟩ : ∃ x, d = .str x := by cases d <;> first | exact ⟨_, rfl⟩ | cases hs
    have hx := okI_str hd
    refine step_assoc (step_set (fun r T' S' => ∃ s : Str, s.length ≤ 1 ∧ r = .v (.str s) ∧ T' = [] ∧ Feed (n + 3) S') ?_ ?_)
    · simp only [wp_seq, wp_skip, wp_ret, wp_drop, wp_set, wp_ifS, wp_par, wp_par3, wp_unp, wp_asg, wp_dput, wp_for, wp_getV, wp_cst, wp_bin, wp_asB, wp_notM, wp_andM, wp_orM, wp_andV, wp_orV, wp_notV, wp_ifM, wp_chn, wp_nilA, wp_consA, wp_callM, wp_callF, wp_tupM, wp_lstM, wp_ownM, wp_seqM, wp_methM, wp_lcM, wp_isiM, wp_isiN, wp_partN, wp_partS, wp_cutM, wp_rng1, wp_rng2, wp_negM, wp_revM, wp_dispM, wp_pnil, wp_pcons, wp_sortSetM, wp_run, wpF_ok, wpR_ok, wpR_bad, isB_b, isV_s, isS_s, isDic_d, wpF_ret, wpF_own, ob_l, ob_f, List.set_cons_zero, List.set_cons_succ, List.getElem?_cons_zero, List.getElem?_cons_succ, toAs, toA, toDs, toD, Bool.not_true, Bool.not_false, reduceIte, Bool.false_eq_true, if_false, if_true, List.length_cons, List.length_nil]
      refine ⟨by decide, ?_⟩
      refine pool_list (xs := bentSigns) (by simp [bentSigns]) (by simp [bentSigns]) _ _ _ f2 (by omega) fun y S5 hy f3 => ?_
      obtain ⟨s, rfl, hs'⟩ := bentSigns_ok y hy
      exact ⟨s, hs', (by first | rfl | trivial), (by first | rfl | trivial), f3⟩
    rintro r T' S5 ⟨s, hs1, rfl, rfl, f3⟩
    refine step_ret ?_
    have hx2 : x.length ≤ 16777216 := by omega
    have l1 : ∀ lo hi, (cutS x lo hi).length ≤ 100 := fun lo hi => Nat.le_trans (cutL_len (TL.tl x) lo hi) hx
    have q1 := l1 none (some (j : Int))
    have q2 := l1 (some ((j : Int) + (way : Int) % 2)) none
    simp only [wp_seq, wp_skip, wp_ret, wp_drop, wp_set, wp_ifS, wp_par, wp_par3, wp_unp, wp_asg, wp_dput, wp_for, wp_getV, wp_cst, wp_bin, wp_asB, wp_notM, wp_andM, wp_orM, wp_andV, wp_orV, wp_notV, wp_ifM, wp_chn, wp_nilA, wp_consA, wp_callM, wp_callF, wp_tupM, wp_lstM, wp_ownM, wp_seqM, wp_methM, wp_lcM, wp_isiM, wp_isiN, wp_partN, wp_partS, wp_cutM, wp_rng1, wp_rng2, wp_negM, wp_revM, wp_dispM, wp_pnil, wp_pcons, wp_sortSetM, wp_run, wpF_ok, wpR_ok, wpR_bad, isB_b, isV_s, isS_s, isDic_d, wpF_ret, wpF_own, ob_l, ob_f, List.set_cons_zero, List.set_cons_succ, List.getElem?_cons_zero, List.getElem?_cons_succ, toAs, toA, toDs, toD, Bool.not_true, Bool.not_false, reduceIte, Bool.false_eq_true, if_false, if_true, wp_cutSt, hx2, true_and, wp_int, o_mod_int _ _ _ 2 (by decide), addB_int]
    refine ⟨_, rfl, ?_⟩
    rw [addB_str _ _ _ _ (by omega), wpR_ok]
    refine ⟨_, rfl, ?_⟩
    have e3 : (cutS x none (some (j : Int)) ++ s).length = (cutS x none (some (j : Int))).length + s.length := by
      show (TL.tl (cutS x none (some (j : Int)) ++ s)).length = _
      rw [TL.tl_append, List.length_append]; rfl
    rw [addB_str _ _ _ _ (by omega), wpR_ok, wpF_ret]
    refine h _ _ ?_ (f3.mono (by omega))
    show okN (k + 3) (.str _) = true
    refine decide_eq_true ?_
    have e4 : (cutS x none (some (j : Int)) ++ s ++ cutS x (some ((j : Int) + (way : Int) % 2)) none).length = (cutS x none (some (j : Int)) ++ s).length + (cutS x (some ((j : Int) + (way : Int) % 2)) none).length := by
      show (TL.tl (_ ++ _)).length = _
      rw [TL.tl_append, List.length_append]; rfl
    omega
  rintro T' S4 ⟨_, rfl, rfl⟩
  refine step_skip ?_
  refine step_if (fun b T' S'' => (b = true → isIntB d = true ∧ way < 3) ∧ T' = [] ∧ S'' = S4) ?_ ?_ ?_
  · simp only [wp_seq, wp_skip, wp_ret, wp_drop, wp_set, wp_ifS, wp_par, wp_par3, wp_unp, wp_asg, wp_dput, wp_for, wp_getV, wp_cst, wp_bin, wp_asB, wp_notM, wp_andM, wp_orM, wp_andV, wp_orV, wp_notV, wp_ifM, wp_chn, wp_nilA, wp_consA, wp_callM, wp_callF, wp_tupM, wp_lstM, wp_ownM, wp_seqM, wp_methM, wp_lcM, wp_isiM, wp_isiN, wp_partN, wp_partS, wp_cutM, wp_rng1, wp_rng2, wp_negM, wp_revM, wp_dispM, wp_pnil, wp_pcons, wp_sortSetM, wp_run, wpF_ok, wpR_ok, wpR_bad, isB_b, isV_s, isS_s, isDic_d, wpF_ret, wpF_own, ob_l, ob_f, List.set_cons_zero, List.set_cons_succ, List.getElem?_cons_zero, List.getElem?_cons_succ, toAs, toA, toDs, toD, Bool.not_true, Bool.not_false, reduceIte, Bool.false_eq_true, if_false, if_true, tyR_ok' hN, isa_int hN]
    cases isIntB d with
    | false => simp
    | true => simp only [wp_seq, wp_skip, wp_ret, wp_drop, wp_set, wp_ifS, wp_par, wp_par3, wp_unp, wp_asg, wp_dput, wp_for, wp_getV, wp_cst, wp_bin, wp_asB, wp_notM, wp_andM, wp_orM, wp_andV, wp_orV, wp_notV, wp_ifM, wp_chn, wp_nilA, wp_consA, wp_callM, wp_callF, wp_tupM, wp_lstM, wp_ownM, wp_seqM, wp_methM, wp_lcM, wp_isiM, wp_isiN, wp_partN, wp_partS, wp_cutM, wp_rng1, wp_rng2, wp_negM, wp_revM, wp_dispM, wp_pnil, wp_pcons, wp_sortSetM, wp_run, wpF_ok, wpR_ok, wpR_bad, isB_b, isV_s, isS_s, isDic_d, wpF_ret, wpF_own, ob_l, ob_f, List.set_cons_zero, List.set_cons_succ, List.getElem?_cons_zero, List.getElem?_cons_succ, toAs, toA, toDs, toD, Bool.not_true, Bool.not_false, reduceIte, Bool.false_eq_true, if_false, if_true, o_lt_int]; exact ⟨fun z => ⟨(by first | rfl | trivial), by have := of_decide_eq_true z; omega⟩, (by first | rfl | trivial), (by first | rfl | trivial)⟩
  · rintro T' S5 ⟨hs, rfl, rfl⟩
    obtain ⟨hs, hw3⟩ := hs rfl
    refine step_ret ?_
    have fin : ∀ (a c : D), (∀ q, okN q a = true) → (∀ q, okN q c = true) → ∃ y, atI ([a, .int 0, c] : List D) (way : Int) = some y ∧ okN (k + 3) y = true := fun a c ha hc => by
      rw [atI_nat]
      match way, hw3 with
      | 0, _ => exact ⟨a, rfl, ha _⟩
      | 1, _ => exact ⟨_, rfl, rfl⟩
      | 2, _ => exact ⟨c, rfl, hc _⟩
    cases d with
    | int i =>
      simp only [wp_seq, wp_skip, wp_ret, wp_drop, wp_set, wp_ifS, wp_par, wp_par3, wp_unp, wp_asg, wp_dput, wp_for, wp_getV, wp_cst, wp_bin, wp_asB, wp_notM, wp_andM, wp_orM, wp_andV, wp_orV, wp_notV, wp_ifM, wp_chn, wp_nilA, wp_consA, wp_callM, wp_callF, wp_tupM, wp_lstM, wp_ownM, wp_seqM, wp_methM, wp_lcM, wp_isiM, wp_isiN, wp_partN, wp_partS, wp_cutM, wp_rng1, wp_rng2, wp_negM, wp_revM, wp_dispM, wp_pnil, wp_pcons, wp_sortSetM, wp_run, wpF_ok, wpR_ok, wpR_bad, isB_b, isV_s, isS_s, isDic_d, wpF_ret, wpF_own, ob_l, ob_f, List.set_cons_zero, List.set_cons_succ, List.getElem?_cons_zero, List.getElem?_cons_succ, toAs, toA, toDs, toD, Bool.not_true, Bool.not_false, reduceIte, Bool.false_eq_true, if_false, if_true, addB_int, gtB_int, List.length_cons, List.length_nil]
      refine ⟨by decide, ?_⟩
      obtain ⟨y, ey, hy⟩ := fin (.int (i + 1)) (.bool (decide (0 < i))) (fun q => by cases q <;> rfl) (fun q => by cases q <;> rfl)
      rw [wp_ixL, ey, isS_s, wpF_ret]
      exact h _ _ hy (f2.mono (by omega))
    | bool b =>
      simp only [wp_seq, wp_skip, wp_ret, wp_drop, wp_set, wp_ifS, wp_par, wp_par3, wp_unp, wp_asg, wp_dput, wp_for, wp_getV, wp_cst, wp_bin, wp_asB, wp_notM, wp_andM, wp_orM, wp_andV, wp_orV, wp_notV, wp_ifM, wp_chn, wp_nilA, wp_consA, wp_callM, wp_callF, wp_tupM, wp_lstM, wp_ownM, wp_seqM, wp_methM, wp_lcM, wp_isiM, wp_isiN, wp_partN, wp_partS, wp_cutM, wp_rng1, wp_rng2, wp_negM, wp_revM, wp_dispM, wp_pnil, wp_pcons, wp_sortSetM, wp_run, wpF_ok, wpR_ok, wpR_bad, isB_b, isV_s, isS_s, isDic_d, wpF_ret, wpF_own, ob_l, ob_f, List.set_cons_zero, List.set_cons_succ, List.getElem?_cons_zero, List.getElem?_cons_succ, toAs, toA, toDs, toD, Bool.not_true, Bool.not_false, reduceIte, Bool.false_eq_true, if_false, if_true, addB_bool, gtB_bool, List.length_cons, List.length_nil]
      refine ⟨by decide, ?_⟩
      obtain ⟨y, ey, hy⟩ := fin (.int (b2i b + 1)) (.bool (decide (b2i b > 0))) (fun q => by cases q <;> rfl) (fun q => by cases q <;> rfl)
      rw [wp_ixL, ey, isS_s, wpF_ret]
      exact h _ _ hy (f2.mono (by omega))
    | _ => cases hs
  rintro T' S5 ⟨_, rfl, rfl⟩
  refine step_skip ?_
  simp only [wp_seq, wp_skip, wp_ret, wp_drop, wp_set, wp_ifS, wp_par, wp_par3, wp_unp, wp_asg, wp_dput, wp_for, wp_getV, wp_cst, wp_bin, wp_asB, wp_notM, wp_andM, wp_orM, wp_andV, wp_orV, wp_notV, wp_ifM, wp_chn, wp_nilA, wp_consA, wp_callM, wp_callF, wp_tupM, wp_lstM, wp_ownM, wp_seqM, wp_methM, wp_lcM, wp_isiM, wp_isiN, wp_partN, wp_partS, wp_cutM, wp_rng1, wp_rng2, wp_negM, wp_revM, wp_dispM, wp_pnil, wp_pcons, wp_sortSetM, wp_run, wpF_ok, wpR_ok, wpR_bad, isB_b, isV_s, isS_s, isDic_d, wpF_ret, wpF_own, ob_l, ob_f, List.set_cons_zero, List.set_cons_succ, List.getElem?_cons_zero, List.getElem?_cons_succ, toAs, toA, toDs, toD, Bool.not_true, Bool.not_false, reduceIte, Bool.false_eq_true, if_false, if_true]
  refine odd_wp f2 (by omega) fun d' S6 hd' f3 => ?_
  rw [wpF_ret]
  exact h _ _ (okN_mono (by omega) hd') (f3.mono (by omega))
theorem bent_all : ∀ k, Bent (F__law_bent (k + 1)) k
  | 0 => fun d n S Q hd f hn h => by
    show wpF (fnRun (m__law_bent (fun _ => F__law_bent 0) 0 [some (.loc 0), some (.v d), none, none, none, none, none] [] S)) Q
    refine bent_other hd ?_ f hn h
    cases d <;> first | rfl | cases hd
  | k + 1 => fun d n S Q hd f hn h => by
    show wpF (fnRun (m__law_bent (fun _ => F__law_bent (k + 1)) (k + 1) [some (.loc 0), some (.v d), none, none, none, none, none] [] S)) Q
    cases ht : isTuple d with
    | false => exact bent_other hd ht f hn h
    | true =>
      obtain ⟨xs, rfl⟩ := tup_of' ht
      exact bent_tup (F := fun _ => F__law_bent (k + 1)) (m := k + 1) hd (bent_all k) f hn h
end RB.Law

end

/-! text K01law -/
section
set_option Elab.async false
set_option linter.all false
set_option maxRecDepth 100000
set_option maxHeartbeats 4000000
namespace RB.Law
open PySem PySem.Spec PyProof.Rows L2 RB
theorem okI_tupI {n : Nat} {xs : List D} (hl : xs.length ≤ 1000) (h : ∀ x ∈ xs, okI n x = true) : okI (n + 1) (.tuple xs) = true := by
  show (decide (xs.length ≤ 1000) && xs.all (okI n)) = true
  rw [Bool.and_eq_true, decide_eq_true_eq, List.all_eq_true]
  exact ⟨hl, h⟩
theorem okI_name {k : Nat} {s : Str} (h : nameS s = true) : okI k (.str s) = true := by
  have hl : s.length ≤ 8 := ((nameS_iff s).mp h).len
  cases k <;> exact decide_eq_true (by omega)
theorem okI_names {k : Nat} {ss : List Str} (hl : ss.length ≤ 1000) (h : ∀ s ∈ ss, nameS s = true) : okI (k + 1) (.tuple (ss.map .str)) = true := by
  refine okI_tupI (by rw [List.length_map]; exact hl) fun x hx => ?_
  obtain ⟨s, hs, rfl⟩ := List.mem_map.mp hx
  exact okI_name (h s hs)
/-- a row of the book: a tuple of at most five things -/
def Row (d : D) : Prop := ∃ xs, d = .tuple xs ∧ xs.length ≤ 5 ∧ ∀ x ∈ xs, okI 4 x = true
theorem row_ok {d : D} (h : Row d) : okI 5 d = true := by
  obtain ⟨xs, rfl, hl, hx⟩ := h
  exact okI_tupI (by omega) hx
theorem rows5 {a b c d e : D} (ha : okI 4 a = true) (hb : okI 4 b = true) (hc : okI 4 c = true) (hd : okI 4 d = true) (he : okI 4 e = true) : Row (.tuple [a, b, c, d, e]) := by
  refine ⟨_, rfl, by simp, fun x hx => ?_⟩
  simp only [List.mem_cons, List.not_mem_nil, or_false] at hx
  rcases hx with rfl | rfl | rfl | rfl | rfl <;> assumption
theorem rows2 {a b : D} (ha : okI 4 a = true) (hb : okI 4 b = true) : Row (.tuple [a, b]) := by
  refine ⟨_, rfl, by simp, fun x hx => ?_⟩
  simp only [List.mem_cons, List.not_mem_nil, or_false] at hx
  rcases hx with rfl | rfl <;> assumption
/-- the parts of the drawn book: four rows of rows -/
theorem book_parts {B : Book} (h : B.Ok) : ∃ parts : List (List D), B.d = .tuple (parts.map .tuple) ∧ parts.length = 4 ∧ ∀ p ∈ parts, p.length ≤ 60 ∧ ∀ x ∈ p, Row x := by
  refine ⟨[B.cs.map Sc.d, B.ps.map prtD, B.prs.map prD, B.bs.map Bd.d], rfl, rfl, fun p hp => ?_⟩
  have lc : B.cs.length ≤ 6 := by rw [← List.length_map (f := Sc.nm), h.cnm]; exact h.ls
  have lp : B.ps.length ≤ 5 := by rw [← List.length_map (f := fun p : Str × Int => p.1), h.pnm]; exact h.lf
  have l1 := h.lpr
  have l2 := h.lbs
  simp only [List.mem_cons, List.not_mem_nil, or_false] at hp
  rcases hp with rfl | rfl | rfl | rfl
  · refine ⟨by rw [List.length_map]; omega, fun x hx => ?_⟩
    obtain ⟨c, hc, rfl⟩ := List.mem_map.mp hx
    have ok := h.cok c hc
    have := ok.lsp
    have := ok.lus
    exact rows5 (okI_name (h.nss _ ok.nm)) (okI_name (h.ntt _ ok.tg)) (okI_names (by omega) fun s hs => h.ntt s (ok.sp s hs)) rfl (okI_names (by omega) fun s hs => h.nss s (ok.us s hs))
  · refine ⟨by rw [List.length_map]; omega, fun x hx => ?_⟩
    obtain ⟨c, hc, rfl⟩ := List.mem_map.mp hx
    exact rows2 (okI_name (h.nfo _ (by rw [← h.pnm]; exact List.mem_map.mpr ⟨c, hc, rfl⟩))) rfl
  · refine ⟨by rw [List.length_map]; omega, fun x hx => ?_⟩
    obtain ⟨c, hc, rfl⟩ := List.mem_map.mp hx
    exact rows2 (okI_name (h.nss _ (h.prs c hc).1)) (okI_name (h.nss _ (h.prs c hc).2))
  · refine ⟨by rw [List.length_map]; omega, fun x hx => ?_⟩
    obtain ⟨c, hc, rfl⟩ := List.mem_map.mp hx
    have ok := h.bok c hc
    have := ok.lg
    refine rows5 (okI_name (h.nfo _ ok.p)) ?_ (okI_name (h.nss _ ok.s)) (okI_names (by omega) fun s hs => h.nbl s (ok.g s hs)) (okI_name (h.nbl _ ok.o))
    cases e : c.k with
    | none => rfl
    | some x => exact okI_name (h.nbl _ (ok.k x e))
end RB.Law

end

/-! text K01law2 -/
section
set_option Elab.async false
set_option linter.all false
set_option maxRecDepth 100000
set_option maxHeartbeats 4000000
namespace RB.Law
open PySem PySem.Spec PyProof.Rows L2 RB
theorem okI_mono : ∀ {n m : Nat} {d : D}, n ≤ m → okI n d = true → okI m d = true
  | n, m, .none, _, _ => by cases m <;> rfl
  | n, m, .bool _, _, _ => by cases m <;> rfl
  | n, m, .int _, _, _ => by cases m <;> rfl
  | n, m, .str x, _, h => by have := okI_str h; cases m <;> exact decide_eq_true this
  | n, m, .tuple xs, e, h => by
    obtain ⟨hl, k, rfl, hx⟩ := okI_tup h
    obtain ⟨j, rfl⟩ : ∃ j, m = j + 1 := ⟨m - 1, by omega⟩
    exact okI_tupI hl fun x hx' => okI_mono (by omega) (hx x hx')
  | n, m, .list xs, e, h => by
    obtain ⟨hl, k, rfl, hx⟩ := okI_lst h
    obtain ⟨j, rfl⟩ : ∃ j, m = j + 1 := ⟨m - 1, by omega⟩
    show (decide (xs.length ≤ 1000) && xs.all (okI j)) = true
    rw [Bool.and_eq_true, decide_eq_true_eq, List.all_eq_true]
    exact ⟨hl, fun x hx' => okI_mono (by omega) (hx x hx')⟩
  | n, m, .dict _, _, h => by cases n <;> cases h
/-- the parts, between two turns of the outer loop -/
def PartI (m : Nat) (ns : List Int) (wh : D) (i : Nat) (ρ : Vn) (T S : Sto) : Prop :=
  ∃ (x4 x5 : Option Rv) (xs : List D), ρ = [some (.scr ns), some (.loc 0), some (.v wh), some (.own 0), x4, x5, none, none, none, none] ∧ T = [.lst xs] ∧ xs ≠ [] ∧ xs.length ≤ 1 + i ∧ (∀ x ∈ xs, okI 7 x = true) ∧ Feed m S
theorem part_turn {m : Nat} {ns : List Int} {wh : D} {i : Nat} {p : List D} {ρ : Vn} {T S : Sto} {R : Rv → Sto → Sto → Prop} (hi : i < 100000) (hp : p.length ≤ 60) (hr : ∀ x ∈ p, Row x) (hI : PartI m ns wh i ρ T S) :
    isS (tgName 4 (.tuple p) ρ) fun ρ' => wpO ((seqS (dropS (methM isL appendR (getV 3) (consA (getV 4) nilA)))
    (forS (seqM (getV 4)) (tgName 5) (dropS (methM isL extendR (getV 3) (consA (bin o_add (lstM (consA (getV 5) nilA)) (callM (c_list false) (consA (getV 5) nilA))) nilA))))) ρ' T S) (PartI m ns wh (i + 1000)) R := by
  obtain ⟨x4, x5, xs, rfl, rfl, hx0, hxl, hx, f⟩ := hI
  show wpO (seqS _ _ [some (.scr ns), some (.loc 0), some (.v wh), some (.own 0), some (.v (.tuple p)), x5, none, none, none, none] _ _) _ _
  refine step_drop (fun r T' S' => T' = [.lst (xs ++ [.tuple p])] ∧ S' = S) ?_ ?_
  · simp only [wp_seq, wp_skip, wp_ret, wp_drop, wp_set, wp_ifS, wp_par, wp_par3, wp_unp, wp_asg, wp_dput, wp_for, wp_getV, wp_cst, wp_bin, wp_asB, wp_notM, wp_andM, wp_orM, wp_andV, wp_orV, wp_notV, wp_ifM, wp_chn, wp_nilA, wp_consA, wp_callM, wp_callF, wp_tupM, wp_lstM, wp_ownM, wp_seqM, wp_methM, wp_lcM, wp_isiM, wp_isiN, wp_partN, wp_partS, wp_cutM, wp_rng1, wp_rng2, wp_negM, wp_revM, wp_dispM, wp_pnil, wp_pcons, wp_sortSetM, wp_run, wpF_ok, wpR_ok, wpR_bad, isB_b, isV_s, isS_s, isDic_d, wpF_ret, wpF_own, ob_l, ob_f, List.set_cons_zero, List.set_cons_succ, List.getElem?_cons_zero, List.getElem?_cons_succ, toAs, toA, toDs, toD, Bool.not_true, Bool.not_false, reduceIte, Bool.false_eq_true, if_false, if_true, appendR, wpR_ite]
    refine ⟨rfl, by omega, ?_⟩
    and_intros <;> first | rfl | trivial
  rintro r T' S' ⟨rfl, rfl⟩
  rw [wp_for]
  simp only [wp_seq, wp_skip, wp_ret, wp_drop, wp_set, wp_ifS, wp_par, wp_par3, wp_unp, wp_asg, wp_dput, wp_for, wp_getV, wp_cst, wp_bin, wp_asB, wp_notM, wp_andM, wp_orM, wp_andV, wp_orV, wp_notV, wp_ifM, wp_chn, wp_nilA, wp_consA, wp_callM, wp_callF, wp_tupM, wp_lstM, wp_ownM, wp_seqM, wp_methM, wp_lcM, wp_isiM, wp_isiN, wp_partN, wp_partS, wp_cutM, wp_rng1, wp_rng2, wp_negM, wp_revM, wp_dispM, wp_pnil, wp_pcons, wp_sortSetM, wp_run, wpF_ok, wpR_ok, wpR_bad, isB_b, isV_s, isS_s, isDic_d, wpF_ret, wpF_own, ob_l, ob_f, List.set_cons_zero, List.set_cons_succ, List.getElem?_cons_zero, List.getElem?_cons_succ, toAs, toA, toDs, toD, Bool.not_true, Bool.not_false, reduceIte, Bool.false_eq_true, if_false, if_true, wp_itemsT]
  refine wp_forD (fun j ρ' T' S'' => ∃ (x5 : Option Rv) (ys : List D), ρ' = [some (.scr ns), some (.loc 0), some (.v wh), some (.own 0), some (.v (.tuple p)), x5, none, none, none, none] ∧ T' = [.lst ys] ∧ ys ≠ [] ∧ ys.length ≤ 2 + i + 6 * j ∧ (∀ x ∈ ys, okI 7 x = true) ∧ Feed m S'') _ 0 _ _ _
    ⟨x5, xs ++ [.tuple p], rfl, rfl, by simp, by rw [List.length_append, List.length_singleton]; omega, fun x hx' => ?_, f⟩ (fun j d ρ T S hd ⟨x5, ys, e1, e2, h0, hl, hy, f1⟩ => ?_) fun ρ T S ⟨x5, ys, e1, e2, h0, hl, hy, f1⟩ => ?_
  · rcases List.mem_append.mp hx' with z | z
    · exact hx x z
    · rw [List.mem_singleton] at z
      rw [z]
      exact okI_mono (by decide) (okI_tupI (by omega) fun y hy => row_ok (hr y hy))
  · subst e1; subst e2
    have hj := lt_of_get hd
    have hrow := hr d (List.mem_of_getElem? hd)
    obtain ⟨zs, rfl, hzl, hz⟩ := id hrow
    show wpO (dropS _ [some (.scr ns), some (.loc 0), some (.v wh), some (.own 0), some (.v (.tuple p)), some (.v (.tuple zs)), none, none, none, none] _ _) _ _
    simp only [wp_seq, wp_skip, wp_ret, wp_drop, wp_set, wp_ifS, wp_par, wp_par3, wp_unp, wp_asg, wp_dput, wp_for, wp_getV, wp_cst, wp_bin, wp_asB, wp_notM, wp_andM, wp_orM, wp_andV, wp_orV, wp_notV, wp_ifM, wp_chn, wp_nilA, wp_consA, wp_callM, wp_callF, wp_tupM, wp_lstM, wp_ownM, wp_seqM, wp_methM, wp_lcM, wp_isiM, wp_isiN, wp_partN, wp_partS, wp_cutM, wp_rng1, wp_rng2, wp_negM, wp_revM, wp_dispM, wp_pnil, wp_pcons, wp_sortSetM, wp_run, wpF_ok, wpR_ok, wpR_bad, isB_b, isV_s, isS_s, isDic_d, wpF_ret, wpF_own, ob_l, ob_f, List.set_cons_zero, List.set_cons_succ, List.getElem?_cons_zero, List.getElem?_cons_succ, toAs, toA, toDs, toD, Bool.not_true, Bool.not_false, reduceIte, Bool.false_eq_true, if_false, if_true, wp_listT, List.length_cons, List.length_nil]
    refine ⟨rfl, by decide, ?_⟩
    rw [o_add_lists _ _ _ _ (by rw [List.length_singleton]; omega), wpR_ok]
    simp only [extendR, lstOf, wpR_ite, wp_seq, wp_skip, wp_ret, wp_drop, wp_set, wp_ifS, wp_par, wp_par3, wp_unp, wp_asg, wp_dput, wp_for, wp_getV, wp_cst, wp_bin, wp_asB, wp_notM, wp_andM, wp_orM, wp_andV, wp_orV, wp_notV, wp_ifM, wp_chn, wp_nilA, wp_consA, wp_callM, wp_callF, wp_tupM, wp_lstM, wp_ownM, wp_seqM, wp_methM, wp_lcM, wp_isiM, wp_isiN, wp_partN, wp_partS, wp_cutM, wp_rng1, wp_rng2, wp_negM, wp_revM, wp_dispM, wp_pnil, wp_pcons, wp_sortSetM, wp_run, wpF_ok, wpR_ok, wpR_bad, isB_b, isV_s, isS_s, isDic_d, wpF_ret, wpF_own, ob_l, ob_f, List.set_cons_zero, List.set_cons_succ, List.getElem?_cons_zero, List.getElem?_cons_succ, toAs, toA, toDs, toD, Bool.not_true, Bool.not_false, reduceIte, Bool.false_eq_true, if_false, if_true, List.length_append, List.length_cons, List.length_nil]
    refine ⟨by omega, _, _, rfl, rfl, by simp, by rw [List.length_append, List.length_append, List.length_singleton]; omega, fun x hx' => ?_, f1⟩
    rcases List.mem_append.mp hx' with z | z
    · exact hy x z
    · rcases List.mem_append.mp z with z | z
      · rw [List.mem_singleton] at z; rw [z]; exact okI_mono (by decide) (row_ok hrow)
      · exact okI_mono (by decide) (hz x z)
  · subst e1; subst e2
    rw [Nat.zero_add] at hl
    exact ⟨_, _, ys, rfl, rfl, h0, by omega, hy, f1⟩
end RB.Law

end

/-! text K01law3 -/
section
set_option Elab.async false
set_option linter.all false
set_option maxRecDepth 100000
set_option maxHeartbeats 4000000
namespace RB.Law
open PySem PySem.Spec PyProof.Rows L2 RB
/-- a comprehension whose element draws from the feed -/
theorem comp_feed {g : TgM} {elt : EM Rv} {ρ : Vn} {ds : List D} {T S : Sto} {n c : Nat} {Q : List D → Sto → Sto → Prop} (J : Sto → Prop) (P : D → Prop) (f : Feed n S) (hJ : J T)
    (he : ∀ d ∈ ds, ∀ m T' S', m ≤ n + c * ds.length → J T' → Feed m S' → isS (g d ρ) fun ρ' => wpR (elt ρ' T' S') fun r T2 S2 => ∃ x, r = .v x ∧ J T2 ∧ P x ∧ Feed (m + c) S2)
    (hQ : ∀ rs T' S', rs.length = ds.length → (∀ r ∈ rs, P r) → J T' → Feed (n + c * ds.length) S' → Q rs T' S') :
    wpR (compD g yesM elt ρ ds T S) Q := by
  refine wp_comp (fun k acc T' S' => k ≤ ds.length ∧ acc.length = k ∧ (∀ r ∈ acc, P r) ∧ J T' ∧ Feed (n + c * k) S') ds 0 [] T S ⟨Nat.zero_le _, rfl, (by intro r h; cases h), hJ, f⟩ (fun k d acc T' S' hd ⟨hk, hl, ha, hT, hf⟩ => ?_) fun rs T' S' ⟨hk, hl, ha, hT, hf⟩ => ?_
  · have hlt := lt_of_get hd
    have h1 := he d (List.mem_of_getElem? hd) _ T' S' (Nat.add_le_add_left (Nat.mul_le_mul_left c hk) n) hT hf
    cases e : g d ρ with
    | none => rw [e] at h1; exact h1.elim
    | some ρ' =>
      rw [e, isS_s] at h1
      rw [isS_s]
      unfold yesM
      rw [wpR_ok, if_pos rfl]
      refine wpR_mono h1 fun r T2 S2 ⟨x, hr, hJ2, hP, hf2⟩ => ?_
      subst hr
      simp only [toD, isS_s]
      refine ⟨by omega, by rw [List.length_append, hl]; rfl, fun r hr => ?_, hJ2, hf2.mono ?_⟩
      · rcases List.mem_append.mp hr with z | z
        · exact ha r z
        · rw [List.mem_singleton] at z; subst z; exact hP
      · rw [Nat.zero_add, Nat.mul_succ]; omega
  · rw [List.nil_append] at hl ha
    rw [Nat.zero_add] at hl hf
    exact hQ rs T' S' hl ha hT hf
/-- the own list, read or not -/
def OwnL (xs : List D) (T : Sto) : Prop := T = [.lst xs] ∨ T = [.frz xs]
theorem own_pick {xs : List D} (h0 : xs ≠ []) (h1 : xs.length < 1073741824) {T S : Sto} {n : Nat} {ρ : Vn} {i j k : Nat} {d : D} (hT : OwnL xs T) (f : Feed n S) (hn : n < 1000000000) (hi : ρ[i]? = some (some (.loc 0))) (hj : ρ[j]? = some (some (.own 0))) (hki : k ≠ i) (hkj : k ≠ j) :
    isS (tgName k d ρ) fun ρ' => wpR ((callM (callF f__law_pick) (consA (getV i) (consA (getV j) nilA))) ρ' T S) fun r T2 S2 => ∃ x, r = .v x ∧ OwnL xs T2 ∧ x ∈ xs ∧ Feed (n + 1) S2 := by
  show wpR (callM (callF f__law_pick) (consA (getV i) (consA (getV j) nilA)) (ρ.set k (some (.v d))) T S) _
  rw [wp_callM, wp_consA, wp_getV, List.getElem?_set_ne hki, hi, isV_s, wp_consA, wp_getV, List.getElem?_set_ne hkj, hj, isV_s, wp_nilA, wp_callF]
  rcases hT with rfl | rfl
  · simp only [toAs, toA, List.getElem?_cons_zero, isS_s]
    exact pool_list h0 h1 n S _ f hn fun x S' hx hf => ⟨x, rfl, .inr rfl, hx, hf⟩
  · simp only [toAs, toA, List.getElem?_cons_zero, isS_s]
    exact pool_list h0 h1 n S _ f hn fun x S' hx hf => ⟨x, rfl, .inr rfl, hx, hf⟩
theorem bent_call {ρ : Vn} {T S : Sto} {n i j : Nat} {d : D} (hd : okI 7 d = true) (f : Feed n S) (hn : n < 700000000) (hi : ρ[i]? = some (some (.loc 0))) (hj : ρ[j]? = some (some (.v d))) :
    wpR ((callM (callF (F__law_bent 8)) (consA (getV i) (consA (getV j) nilA))) ρ T S) fun r T2 S2 => ∃ x, r = .v x ∧ T2 = T ∧ okN 40 x = true ∧ Feed (n + 32) S2 := by
  rw [wp_callM, wp_consA, wp_getV, hi, isV_s, wp_consA, wp_getV, hj, isV_s, wp_nilA, wp_callF]
  simp only [toAs, toA, isS_s]
  exact bent_all 7 d n S _ hd f (by omega) fun x S' hx hf => ⟨x, (by first | rfl | trivial), (by first | rfl | trivial), okN_mono (by decide) hx, hf⟩
theorem whole_ok {B : Book} (h : B.Ok) : okI 7 B.d = true := by
  obtain ⟨parts, e, hl, hp⟩ := book_parts h
  rw [e]
  refine okI_tupI (by rw [List.length_map]; omega) fun x hx => ?_
  obtain ⟨p, hp', rfl⟩ := List.mem_map.mp hx
  have := (hp p hp').1
  exact okI_tupI (by omega) fun y hy => row_ok ((hp p hp').2 y hy)
theorem whole_tup {B : Book} (h : B.Ok) : ∃ xs, B.d = .tuple xs ∧ xs.length = 4 ∧ ∀ x ∈ xs, okI 7 x = true := by
  obtain ⟨parts, e, hl, hp⟩ := book_parts h
  refine ⟨_, e, by rw [List.length_map]; exact hl, fun x hx => ?_⟩
  obtain ⟨p, hp', rfl⟩ := List.mem_map.mp hx
  have := (hp p hp').1
  exact okI_mono (by decide) (okI_tupI (by omega) fun y hy => row_ok ((hp p hp').2 y hy))
/-- extend of the own list 1, by a plain list -/
theorem ext_own {xs ys : List D} {a : Ob} {T S : Sto} {Q : Rv → Sto → Sto → Prop} (h : xs.length + ys.length ≤ 16777216) (hQ : Q (.v .none) [a, .lst (xs ++ ys)] S) : wpR (extendR (.own 1) [.v (.list ys)] [a, .lst xs] S) Q := by
  show wpR (if xs.length + ys.length ≤ 16777216 then Res.ok (Rv.v .none) [a, .lst (xs ++ ys)] S else .bad) Q
  rw [if_pos h, wpR_ok]
  exact hQ
/-- the things, as they grow -/
def ThingI (m : Nat) (k : Nat) (T S : Sto) : Prop := ∃ (a : Ob) (xs : List D), T = [a, .lst xs] ∧ xs.length ≤ k ∧ (∀ x ∈ xs, okN 40 x = true) ∧ Feed m S
end RB.Law

end

/-! text K01law4 -/
section
set_option Elab.async false
set_option linter.all false
set_option maxRecDepth 100000
set_option maxHeartbeats 4000000
namespace RB.Law
open PySem PySem.Spec PyProof.Rows L2 RB
theorem law_wp (ns : List Int) : wpF (f_law [.scr ns] []) fun r _ => r = .v (.bool true) := by
  show wpF (fnRun (m_law [some (.scr ns), none, none, none, none, none, none, none, none, none] [] [])) _
  rw [wp_run]
  unfold m_law
  -- the feed
  refine step_set (fun r T' S' => r = .loc 0 ∧ T' = [] ∧ Feed 0 S') ?_ ?_
  · obtain ⟨cells, e⟩ := feed_eq ns
    simp only [wp_seq, wp_skip, wp_ret, wp_drop, wp_set, wp_ifS, wp_par, wp_par3, wp_unp, wp_asg, wp_dput, wp_for, wp_getV, wp_cst, wp_bin, wp_asB, wp_notM, wp_andM, wp_orM, wp_andV, wp_orV, wp_notV, wp_ifM, wp_chn, wp_nilA, wp_consA, wp_callM, wp_callF, wp_tupM, wp_lstM, wp_ownM, wp_seqM, wp_methM, wp_lcM, wp_isiM, wp_isiN, wp_partN, wp_partS, wp_cutM, wp_rng1, wp_rng2, wp_negM, wp_revM, wp_dispM, wp_pnil, wp_pcons, wp_sortSetM, wp_run, wpF_ok, wpR_ok, wpR_bad, isB_b, isV_s, isS_s, isDic_d, wpF_ret, wpF_own, ob_l, ob_f, List.set_cons_zero, List.set_cons_succ, List.getElem?_cons_zero, List.getElem?_cons_succ, toAs, toA, toDs, toD, Bool.not_true, Bool.not_false, reduceIte, Bool.false_eq_true, if_false, if_true, e]
    exact ⟨(by first | rfl | trivial), (by first | rfl | trivial), cells, 0, 0, 0, rfl, by decide, by decide, by decide, by decide⟩
  rintro r T S ⟨rfl, rfl, f⟩
  -- the book
  refine step_set (fun r T' S' => ∃ B : Book, B.Ok ∧ r = .v B.d ∧ T' = [] ∧ Feed 20000 S') ?_ ?_
  · simp only [wp_seq, wp_skip, wp_ret, wp_drop, wp_set, wp_ifS, wp_par, wp_par3, wp_unp, wp_asg, wp_dput, wp_for, wp_getV, wp_cst, wp_bin, wp_asB, wp_notM, wp_andM, wp_orM, wp_andV, wp_orV, wp_notV, wp_ifM, wp_chn, wp_nilA, wp_consA, wp_callM, wp_callF, wp_tupM, wp_lstM, wp_ownM, wp_seqM, wp_methM, wp_lcM, wp_isiM, wp_isiN, wp_partN, wp_partS, wp_cutM, wp_rng1, wp_rng2, wp_negM, wp_revM, wp_dispM, wp_pnil, wp_pcons, wp_sortSetM, wp_run, wpF_ok, wpR_ok, wpR_bad, isB_b, isV_s, isS_s, isDic_d, wpF_ret, wpF_own, ob_l, ob_f, List.set_cons_zero, List.set_cons_succ, List.getElem?_cons_zero, List.getElem?_cons_succ, toAs, toA, toDs, toD, Bool.not_true, Bool.not_false, reduceIte, Bool.false_eq_true, if_false, if_true]
    exact book_wp f (by decide) fun B S' hB hf => ⟨B, hB, rfl, (by first | rfl | trivial), hf.mono (by decide)⟩
  rintro r T S ⟨B, hB, rfl, rfl, f⟩
  have hwh := whole_ok hB
  obtain ⟨parts, ep, lp, hp⟩ := book_parts hB
  generalize B.d = wh at *
  -- the parts
  refine step_set (fun r T' S' => r = .own 0 ∧ T' = [.lst [wh]] ∧ Feed 20000 S') ?_ ?_
  · simp only [wp_seq, wp_skip, wp_ret, wp_drop, wp_set, wp_ifS, wp_par, wp_par3, wp_unp, wp_asg, wp_dput, wp_for, wp_getV, wp_cst, wp_bin, wp_asB, wp_notM, wp_andM, wp_orM, wp_andV, wp_orV, wp_notV, wp_ifM, wp_chn, wp_nilA, wp_consA, wp_callM, wp_callF, wp_tupM, wp_lstM, wp_ownM, wp_seqM, wp_methM, wp_lcM, wp_isiM, wp_isiN, wp_partN, wp_partS, wp_cutM, wp_rng1, wp_rng2, wp_negM, wp_revM, wp_dispM, wp_pnil, wp_pcons, wp_sortSetM, wp_run, wpF_ok, wpR_ok, wpR_bad, isB_b, isV_s, isS_s, isDic_d, wpF_ret, wpF_own, ob_l, ob_f, List.set_cons_zero, List.set_cons_succ, List.getElem?_cons_zero, List.getElem?_cons_succ, toAs, toA, toDs, toD, Bool.not_true, Bool.not_false, reduceIte, Bool.false_eq_true, if_false, if_true]
    exact ⟨by simp, (by first | rfl | trivial), (by first | rfl | trivial), f⟩
  rintro r T S ⟨rfl, rfl, f⟩
  refine step_mid (PartI 20000 ns wh 4000) ?_ ?_
  · rw [wp_for]
    simp only [wp_seq, wp_skip, wp_ret, wp_drop, wp_set, wp_ifS, wp_par, wp_par3, wp_unp, wp_asg, wp_dput, wp_for, wp_getV, wp_cst, wp_bin, wp_asB, wp_notM, wp_andM, wp_orM, wp_andV, wp_orV, wp_notV, wp_ifM, wp_chn, wp_nilA, wp_consA, wp_callM, wp_callF, wp_tupM, wp_lstM, wp_ownM, wp_seqM, wp_methM, wp_lcM, wp_isiM, wp_isiN, wp_partN, wp_partS, wp_cutM, wp_rng1, wp_rng2, wp_negM, wp_revM, wp_dispM, wp_pnil, wp_pcons, wp_sortSetM, wp_run, wpF_ok, wpR_ok, wpR_bad, isB_b, isV_s, isS_s, isDic_d, wpF_ret, wpF_own, ob_l, ob_f, List.set_cons_zero, List.set_cons_succ, List.getElem?_cons_zero, List.getElem?_cons_succ, toAs, toA, toDs, toD, Bool.not_true, Bool.not_false, reduceIte, Bool.false_eq_true, if_false, if_true, ep, wp_itemsT]
    rw [← ep]
    refine wp_forD (fun j ρ' T' S'' => j ≤ 4 ∧ PartI 20000 ns wh (1000 * j) ρ' T' S'') _ 0 _ _ _ ⟨by decide, none, none, [wh], rfl, rfl, by simp, by simp, fun x hx => ?_, f⟩ (fun j d ρ T S hd ⟨hj, hI⟩ => ?_) fun ρ T S ⟨hj, hI⟩ => ?_
    · rw [List.mem_singleton] at hx; rw [hx]; exact hwh
    · obtain ⟨p, hp', rfl⟩ := List.mem_map.mp (List.mem_of_getElem? hd)
      have hj4 := lt_of_get hd
      rw [List.length_map, lp] at hj4
      have h := part_turn (R := fun r T S => wpF (retR r T S) fun r _ => r = .v (.bool true)) (i := 1000 * (0 + j)) (by omega) (hp p hp').1 (hp p hp').2 hI
      have e : 1000 * (0 + j) + 1000 = 1000 * (0 + j + 1) := by omega
      rw [e] at h
      show wpO _ _ _
      refine wpO_mono (show wpO _ _ _ from h) (fun ρ T S h => ⟨by omega, h⟩) fun _ _ _ h => h
    · rw [List.length_map, lp] at hI
      exact hI
  rintro ρ T S ⟨x4, x5, xs, rfl, rfl, hx0, hxl, hx, f⟩
  -- what is picked
  refine step_set (fun r T' S' => ∃ ps : List D, r = .v (.list ps) ∧ ps.length = 40 ∧ (∀ x ∈ ps, okI 7 x = true) ∧ (∃ a, T' = [a]) ∧ Feed 20040 S') ?_ ?_
  · simp only [wp_seq, wp_skip, wp_ret, wp_drop, wp_set, wp_ifS, wp_par, wp_par3, wp_unp, wp_asg, wp_dput, wp_for, wp_getV, wp_cst, wp_bin, wp_asB, wp_notM, wp_andM, wp_orM, wp_andV, wp_orV, wp_notV, wp_ifM, wp_chn, wp_nilA, wp_consA, wp_callM, wp_callF, wp_tupM, wp_lstM, wp_ownM, wp_seqM, wp_methM, wp_lcM, wp_isiM, wp_isiN, wp_partN, wp_partS, wp_cutM, wp_rng1, wp_rng2, wp_negM, wp_revM, wp_dispM, wp_pnil, wp_pcons, wp_sortSetM, wp_run, wpF_ok, wpR_ok, wpR_bad, isB_b, isV_s, isS_s, isDic_d, wpF_ret, wpF_own, ob_l, ob_f, List.set_cons_zero, List.set_cons_succ, List.getElem?_cons_zero, List.getElem?_cons_succ, toAs, toA, toDs, toD, Bool.not_true, Bool.not_false, reduceIte, Bool.false_eq_true, if_false, if_true, o_add_int, o_sub_int, o_lt_int, o_gt_int, o_le_int, o_ge_int, o_eq_int, o_ne_int, o_eq_nil, o_ne_nil, o_eq_nilT, o_eq_bool, o_ne_bool, o_lt_str, o_ge_str, wp_ixT, wp_ixL, wp_ixS, wp_lenT, wp_lenL, wp_lenS, o_in_sign, wp_newF, wp_newT, wp_itemsV, wp_itemsT, wp_itemsS, wp_cutT, wp_cutLi, wp_cutSt, wp_zipTT, atI_0, atI_1, atI_2, atI_3, atI_4]
    refine ⟨40, (by first | rfl | trivial), by decide, ?_⟩
    refine comp_feed (n := 20000) (c := 1) (OwnL xs) (· ∈ xs) f (.inl rfl) (fun d hd m T' S' hm hJ hf => ?_) fun rs T' S' hl hr hJ hf => ?_
    · rw [len_ints] at hm
      exact own_pick hx0 (by omega) hJ hf (by omega) rfl rfl (by decide) (by decide)
    · rw [len_ints] at hl hf
      exact ⟨by omega, rs, rfl, hl, fun x h => hx x (hr x h), hJ.elim (fun h => ⟨_, h⟩) (fun h => ⟨_, h⟩), hf⟩
  rintro r T S ⟨ps, rfl, lps, hps, ⟨a, rfl⟩, f⟩
  -- the things
  refine step_set (fun r T' S' => r = .own 1 ∧ ThingI 30000 84 T' S') ?_ ?_
  · simp only [wp_seq, wp_skip, wp_ret, wp_drop, wp_set, wp_ifS, wp_par, wp_par3, wp_unp, wp_asg, wp_dput, wp_for, wp_getV, wp_cst, wp_bin, wp_asB, wp_notM, wp_andM, wp_orM, wp_andV, wp_orV, wp_notV, wp_ifM, wp_chn, wp_nilA, wp_consA, wp_callM, wp_callF, wp_tupM, wp_lstM, wp_ownM, wp_seqM, wp_methM, wp_lcM, wp_isiM, wp_isiN, wp_partN, wp_partS, wp_cutM, wp_rng1, wp_rng2, wp_negM, wp_revM, wp_dispM, wp_pnil, wp_pcons, wp_sortSetM, wp_run, wpF_ok, wpR_ok, wpR_bad, isB_b, isV_s, isS_s, isDic_d, wpF_ret, wpF_own, ob_l, ob_f, List.set_cons_zero, List.set_cons_succ, List.getElem?_cons_zero, List.getElem?_cons_succ, toAs, toA, toDs, toD, Bool.not_true, Bool.not_false, reduceIte, Bool.false_eq_true, if_false, if_true, o_add_int, o_sub_int, o_lt_int, o_gt_int, o_le_int, o_ge_int, o_eq_int, o_ne_int, o_eq_nil, o_ne_nil, o_eq_nilT, o_eq_bool, o_ne_bool, o_lt_str, o_ge_str, wp_ixT, wp_ixL, wp_ixS, wp_lenT, wp_lenL, wp_lenS, o_in_sign, wp_newF, wp_newT, wp_itemsV, wp_itemsT, wp_itemsS, wp_cutT, wp_cutLi, wp_cutSt, wp_zipTT, atI_0, atI_1, atI_2, atI_3, atI_4, ep, wp_listT]
    rw [o_add_lists _ _ _ _ (by rw [List.length_map]; omega), wpR_ok]
    refine comp_feed (n := 20040) (c := 32) (fun T' => T' = [a]) (okN 40 · = true) f rfl (fun d hd m T' S' hm hJ hf => ?_) fun rs T' S' hl hr hJ hf => ?_
    · subst hJ
      rw [lps] at hm
      exact bent_call (hps d hd) hf (by omega) rfl rfl
    · subst hJ
      rw [lps] at hl hf
      refine ⟨by omega, ?_⟩
      show wpR (if (parts.map PyData.tuple ++ ps).length + rs.length ≤ 16777216 then Res.ok (Rv.own 1) [a, Ob.lst ((parts.map PyData.tuple ++ ps) ++ rs)] S' else Res.bad) _
      rw [if_pos (by rw [List.length_append, List.length_map]; omega), wpR_ok]
      refine ⟨rfl, a, _, rfl, by rw [List.length_append, List.length_append, List.length_map]; omega, fun x hx' => ?_, hf.mono (by decide)⟩
      rcases List.mem_append.mp hx' with z | z
      · rcases List.mem_append.mp z with z | z
        · obtain ⟨p, hp', rfl⟩ := List.mem_map.mp z
          have := (hp p hp').1
          exact okN_mono (by decide) (okI_N (okI_tupI (by omega) fun y hy => row_ok ((hp p hp').2 y hy)))
        · exact okN_mono (by decide) (okI_N (hps x z))
      · exact hr x z
  rintro r T S ⟨rfl, a1, xs1, rfl, hl1, hx1, f⟩
  -- the book, bent
  refine step_drop (fun r T' S' => ThingI 40000 97 T' S') ?_ ?_
  · simp only [wp_seq, wp_skip, wp_ret, wp_drop, wp_set, wp_ifS, wp_par, wp_par3, wp_unp, wp_asg, wp_dput, wp_for, wp_getV, wp_cst, wp_bin, wp_asB, wp_notM, wp_andM, wp_orM, wp_andV, wp_orV, wp_notV, wp_ifM, wp_chn, wp_nilA, wp_consA, wp_callM, wp_callF, wp_tupM, wp_lstM, wp_ownM, wp_seqM, wp_methM, wp_lcM, wp_isiM, wp_isiN, wp_partN, wp_partS, wp_cutM, wp_rng1, wp_rng2, wp_negM, wp_revM, wp_dispM, wp_pnil, wp_pcons, wp_sortSetM, wp_run, wpF_ok, wpR_ok, wpR_bad, isB_b, isV_s, isS_s, isDic_d, wpF_ret, wpF_own, ob_l, ob_f, List.set_cons_zero, List.set_cons_succ, List.getElem?_cons_zero, List.getElem?_cons_succ, toAs, toA, toDs, toD, Bool.not_true, Bool.not_false, reduceIte, Bool.false_eq_true, if_false, if_true, o_add_int, o_sub_int, o_lt_int, o_gt_int, o_le_int, o_ge_int, o_eq_int, o_ne_int, o_eq_nil, o_ne_nil, o_eq_nilT, o_eq_bool, o_ne_bool, o_lt_str, o_ge_str, wp_ixT, wp_ixL, wp_ixS, wp_lenT, wp_lenL, wp_lenS, o_in_sign, wp_newF, wp_newT, wp_itemsV, wp_itemsT, wp_itemsS, wp_cutT, wp_cutLi, wp_cutSt, wp_zipTT, atI_0, atI_1, atI_2, atI_3, atI_4, List.length_cons, List.length_nil]
    refine ⟨rfl, by decide, 12, (by first | rfl | trivial), by decide, ?_⟩
    refine comp_feed (n := 30000) (c := 32) (fun T' => T' = [a1, .lst xs1]) (okN 40 · = true) f rfl (fun d hd m T' S' hm hJ hf => ?_) fun rs T' S' hl hr hJ hf => ?_
    · subst hJ
      rw [len_ints] at hm
      exact bent_call hwh hf (by omega) rfl rfl
    · subst hJ
      rw [len_ints] at hl hf
      refine ⟨by omega, ?_⟩
      rw [o_add_lists _ _ _ _ (by rw [List.length_singleton]; omega), wpR_ok]
      refine ext_own (T := []) (by rw [List.length_append, List.length_singleton]; omega) ⟨a1, _, rfl, by rw [List.length_append, List.length_append, List.length_singleton]; omega, fun x hx' => ?_, hf.mono (by decide)⟩
      rcases List.mem_append.mp hx' with z | z
      · exact hx1 x z
      · rcases List.mem_append.mp z with z | z
        · rw [List.mem_singleton] at z; rw [z]; exact okN_mono (by decide) (okI_N hwh)
        · exact hr x z
  rintro r T S ⟨a2, xs2, rfl, hl2, hx2, f⟩
  -- odd ones
  refine step_drop (fun r T' S' => ThingI 50000 110 T' S') ?_ ?_
  · simp only [wp_seq, wp_skip, wp_ret, wp_drop, wp_set, wp_ifS, wp_par, wp_par3, wp_unp, wp_asg, wp_dput, wp_for, wp_getV, wp_cst, wp_bin, wp_asB, wp_notM, wp_andM, wp_orM, wp_andV, wp_orV, wp_notV, wp_ifM, wp_chn, wp_nilA, wp_consA, wp_callM, wp_callF, wp_tupM, wp_lstM, wp_ownM, wp_seqM, wp_methM, wp_lcM, wp_isiM, wp_isiN, wp_partN, wp_partS, wp_cutM, wp_rng1, wp_rng2, wp_negM, wp_revM, wp_dispM, wp_pnil, wp_pcons, wp_sortSetM, wp_run, wpF_ok, wpR_ok, wpR_bad, isB_b, isV_s, isS_s, isDic_d, wpF_ret, wpF_own, ob_l, ob_f, List.set_cons_zero, List.set_cons_succ, List.getElem?_cons_zero, List.getElem?_cons_succ, toAs, toA, toDs, toD, Bool.not_true, Bool.not_false, reduceIte, Bool.false_eq_true, if_false, if_true, o_add_int, o_sub_int, o_lt_int, o_gt_int, o_le_int, o_ge_int, o_eq_int, o_ne_int, o_eq_nil, o_ne_nil, o_eq_nilT, o_eq_bool, o_ne_bool, o_lt_str, o_ge_str, wp_ixT, wp_ixL, wp_ixS, wp_lenT, wp_lenL, wp_lenS, o_in_sign, wp_newF, wp_newT, wp_itemsV, wp_itemsT, wp_itemsS, wp_cutT, wp_cutLi, wp_cutSt, wp_zipTT, atI_0, atI_1, atI_2, atI_3, atI_4, List.length_cons, List.length_nil]
    refine ⟨rfl, 6, (by first | rfl | trivial), by decide, ?_⟩
    refine comp_feed (n := 40000) (c := 1) (fun T' => T' = [a2, .lst xs2]) (okN 40 · = true) f rfl (fun d hd m T' S' hm hJ hf => ?_) fun rs T' S' hl hr hJ hf => ?_
    · subst hJ
      rw [len_ints] at hm
      show wpR (callM (callF f__law_odd) (consA (getV 1) nilA) _ _ _) _
      rw [wp_callM, wp_consA, wp_getV]
      show wpR (nilA _ _ _) _
      rw [wp_nilA, wp_callF]
      simp only [toAs, toA, isS_s]
      exact odd_wp hf (by omega) fun d S' hd hf => ⟨d, (by first | rfl | trivial), (by first | rfl | trivial), okN_mono (by decide) hd, hf⟩
    · subst hJ
      rw [len_ints] at hl hf
      refine ⟨by omega, ?_⟩
      refine ext_own (T := []) (by omega) ⟨a2, _, rfl, by rw [List.length_append]; omega, fun x hx' => ?_, hf.mono (by decide)⟩
      rcases List.mem_append.mp hx' with z | z
      · exact hx2 x z
      · exact hr x z
  rintro r T S ⟨a3, xs3, rfl, hl3, hx3, f⟩
  -- fixed ones
  refine step_drop (fun r T' S' => ThingI 50000 1110 T' S') ?_ ?_
  · simp only [wp_seq, wp_skip, wp_ret, wp_drop, wp_set, wp_ifS, wp_par, wp_par3, wp_unp, wp_asg, wp_dput, wp_for, wp_getV, wp_cst, wp_bin, wp_asB, wp_notM, wp_andM, wp_orM, wp_andV, wp_orV, wp_notV, wp_ifM, wp_chn, wp_nilA, wp_consA, wp_callM, wp_callF, wp_tupM, wp_lstM, wp_ownM, wp_seqM, wp_methM, wp_lcM, wp_isiM, wp_isiN, wp_partN, wp_partS, wp_cutM, wp_rng1, wp_rng2, wp_negM, wp_revM, wp_dispM, wp_pnil, wp_pcons, wp_sortSetM, wp_run, wpF_ok, wpR_ok, wpR_bad, isB_b, isV_s, isS_s, isDic_d, wpF_ret, wpF_own, ob_l, ob_f, List.set_cons_zero, List.set_cons_succ, List.getElem?_cons_zero, List.getElem?_cons_succ, toAs, toA, toDs, toD, Bool.not_true, Bool.not_false, reduceIte, Bool.false_eq_true, if_false, if_true, fixed_eq, fixed_books_eq]
    refine ⟨rfl, ?_⟩
    have hfl := fixed_len
    rw [o_add_lists _ _ _ _ (by omega), wpR_ok]
    refine ext_own (T := []) (by rw [List.length_append]; omega) ⟨a3, _, rfl, by rw [List.length_append, List.length_append]; omega, fun x hx' => ?_, f⟩
    rcases List.mem_append.mp hx' with z | z
    · exact hx3 x z
    · rcases List.mem_append.mp z with z | z
      · exact List.all_eq_true.mp fixed_ok x z
      · exact List.all_eq_true.mp fixed_books_ok x z
  rintro r T S ⟨a4, xs4, rfl, hl4, hx4, f⟩
  -- the answer
  rw [wp_ret, wp_bin, wp_lcM, wp_seqM, wp_getV]
  show wpR (itemsR (.own 1) [a4, .lst xs4] S) _
  show wpR (Res.ok xs4 [a4, .frz xs4] S) _
  rw [wpR_ok, comp_not (p := fun _ => true) (by simp [wipeV]) fun d hd => right_eq _ (hx4 d hd)]
  rw [wpR_ok, wp_newF]
  have e : xs4.filter (fun d => !(fun _ => true) d) = [] := by simp
  rw [e]
  refine ⟨by simp, ?_⟩
  simp only [wp_seq, wp_skip, wp_ret, wp_drop, wp_set, wp_ifS, wp_par, wp_par3, wp_unp, wp_asg, wp_dput, wp_for, wp_getV, wp_cst, wp_bin, wp_asB, wp_notM, wp_andM, wp_orM, wp_andV, wp_orV, wp_notV, wp_ifM, wp_chn, wp_nilA, wp_consA, wp_callM, wp_callF, wp_tupM, wp_lstM, wp_ownM, wp_seqM, wp_methM, wp_lcM, wp_isiM, wp_isiN, wp_partN, wp_partS, wp_cutM, wp_rng1, wp_rng2, wp_negM, wp_revM, wp_dispM, wp_pnil, wp_pcons, wp_sortSetM, wp_run, wpF_ok, wpR_ok, wpR_bad, isB_b, isV_s, isS_s, isDic_d, wpF_ret, wpF_own, ob_l, ob_f, List.set_cons_zero, List.set_cons_succ, List.getElem?_cons_zero, List.getElem?_cons_succ, toAs, toA, toDs, toD, Bool.not_true, Bool.not_false, reduceIte, Bool.false_eq_true, if_false, if_true, o_eq_nil, List.length_nil]
  exact ⟨by decide, (by first | rfl | trivial)⟩
theorem law_true (ns : List Int) (h : ns.length ≤ 63) : ∃ S', f_law [.scr ns] [] = .ok (.v (.bool true)) S' := by
  have h := law_wp ns
  cases e : f_law [.scr ns] [] with
  | ok r S' => rw [e, wpF_ok] at h; rw [h]; exact ⟨S', rfl⟩
  | exn x S' => rw [e, wpF_def] at h; exact h.elim
  | bad => rw [e, wpF_def] at h; exact h.elim
end RB.Law

end

/-! text K01all_head -/
section
set_option Elab.async false
set_option linter.all false
set_option maxRecDepth 100000
set_option maxHeartbeats 0
namespace RB.Law
open PySem PySem.Spec PyProof.Rows L2 RB
def fnL_0 : List He.DefD := [dd "is_integer" s_is_integer, dd "is_number" s_is_number, dd "is_weight" s_is_weight, dd "is_name" s_is_name, dd "is_tuple_of" s_is_tuple_of, dd "are_names" s_are_names, dd "is_rising" s_is_rising, dd "is_set" s_is_set, dd "is_name_pair" s_is_name_pair, dd "is_fact" s_is_fact, dd "is_source" s_is_source, dd "is_party" s_is_party, dd "is_build" s_is_build, dd "is_form" s_is_form, dd "is_book" s_is_book, dd "_law_feed" s__law_feed, dd "_law_draw" s__law_draw, dd "_law_pick" s__law_pick, dd "_law_names" s__law_names, dd "_law_sources" s__law_sources, dd "_law_weight" s__law_weight, dd "_law_build" s__law_build, dd "_law_book" s__law_book, dd "_law_is_number" s__law_is_number, dd "_law_is_name" s__law_is_name, dd "_law_are_names" s__law_are_names, dd "_law_is_set" s__law_is_set, dd "_law_is_source" s__law_is_source, dd "_law_is_party" s__law_is_party, dd "_law_is_build" s__law_is_build, dd "_law_is_pair" s__law_is_pair, dd "_law_is_four" s__law_is_four, dd "_law_is_book" s__law_is_book, dd "_law_odd" s__law_odd, dd "_law_bent" s__law_bent, dd "_law_fixed" s__law_fixed]
def fnL_1 : List He.DefD := [dd "_law_fixed_books" s__law_fixed_books, dd "_law_right" s__law_right, dd "law" s_law]
def fnL : List He.DefD := fnL_0 ++ fnL_1
def faL_0 : List He.Fa := [.glo "is_integer", .glo "is_number", .glo "is_weight", .glo "is_name", .glo "is_tuple_of", .glo "are_names", .glo "is_rising", .glo "is_set", .glo "is_name_pair", .glo "is_fact", .glo "is_source", .glo "is_party", .glo "is_build", .glo "is_form", .glo "is_book", .glo "_law_feed", .glo "_law_draw", .glo "_law_pick", .glo "_law_names", .glo "_law_sources", .glo "_law_weight", .glo "_law_build", .glo "_law_book", .glo "_law_is_number", .glo "_law_is_name", .glo "_law_are_names", .glo "_law_is_set", .glo "_law_is_source", .glo "_law_is_party", .glo "_law_is_build", .glo "_law_is_pair", .glo "_law_is_four", .glo "_law_is_book", .glo "_law_odd", .glo "_law_bent", .glo "_law_fixed"]
def faL_1 : List He.Fa := [.glo "_law_fixed_books", .glo "_law_right", .glo "law", .free "all", .free "bool", .free "enumerate", .free "int", .free "isinstance", .free "len", .free "list", .free "range", .free "set", .free "sorted", .free "str", .free "tuple", .free "zip", .str "DIGITS" "0123456789", .str "LETTERS" "abcdefghijklmnopqrstuvwxyz", .int "LONGEST_NAME" (8)]
def faL : List He.Fa := faL_0 ++ faL_1
def loose_0 : List Str := [Str.ofString "LETTERS", Str.ofString "DIGITS", Str.ofString "LONGEST_NAME", Str.ofString "is_integer", Str.ofString "is_number", Str.ofString "is_weight", Str.ofString "is_name", Str.ofString "is_tuple_of", Str.ofString "are_names", Str.ofString "is_rising", Str.ofString "is_set", Str.ofString "is_name_pair", Str.ofString "is_fact", Str.ofString "is_source", Str.ofString "is_party", Str.ofString "is_build", Str.ofString "is_form", Str.ofString "is_book", Str.ofString "_law_feed", Str.ofString "_law_draw", Str.ofString "_law_pick", Str.ofString "_law_names", Str.ofString "_law_sources", Str.ofString "_law_weight", Str.ofString "_law_build", Str.ofString "_law_book", Str.ofString "_law_is_number", Str.ofString "_law_is_name", Str.ofString "_law_are_names", Str.ofString "_law_is_set", Str.ofString "_law_is_source", Str.ofString "_law_is_party", Str.ofString "_law_is_build", Str.ofString "_law_is_pair", Str.ofString "_law_is_four", Str.ofString "_law_is_book"]
def loose_1 : List Str := [Str.ofString "_law_odd", Str.ofString "_law_bent", Str.ofString "_law_fixed", Str.ofString "_law_fixed_books", Str.ofString "_law_right"]
def loose : List Str := loose_0 ++ loose_1
abbrev R : PySem.W.OpenRow := PySem.W.OpenLaw.row PySem.Challenge.rw_rebuiltby_k01_kinds
abbrev hk : PySem.W.Hook := He.hookD 4 faL fnL
def ob (s : PySem.W.SharedT) : He.AlD := He.obsDG 4 faL fnL (HandSHeadRun.getT s)
theorem ob_eq (s : PySem.W.SharedT) : ob s = hk.obs s.abs := He.obsDG_eq (HandSHeadRun.getT_eq s)
theorem run (w : World) : HandSHeadRun.RunEq R (PySem.W.view R.prog [43]) hk ob 6000 loose w := by
  intro os
  kernel_rfl
theorem facts {P : Program} {w : World} {K : PySem.W.Frag} {h : Heap} {mg : Str → Option Value} {f : Addr} (X : K.In h) (G : h.Ns mainGlobals mg) (hfa : mg ("law" : Str) = some (.ref f)) (c : He.SaysD faL fnL K) :
    ∃ fd : FuncData, (∀ (s : Shared) (v : Value), BindsTo s fd ⟨[v], []⟩ [("_law_script", v)]) ∧ ∀ base : Heap, K.In base → base.Ns mainGlobals mg → FnOk P w K mg base (L2.CX P w) 12 f fd ["_law_script"] (spF (fun _ => none) K 1 f_law) := by
  obtain ⟨fd0, F0⟩ := c.def_ 0 (d := dd "is_integer" s_is_integer) rfl
  have g0 := He.glo_ok X G (c.fact 0 (f := .glo "is_integer") rfl)
  obtain ⟨fd1, F1⟩ := c.def_ 1 (d := dd "is_number" s_is_number) rfl
  have g1 := He.glo_ok X G (c.fact 1 (f := .glo "is_number") rfl)
  obtain ⟨fd2, F2⟩ := c.def_ 2 (d := dd "is_weight" s_is_weight) rfl
  have g2 := He.glo_ok X G (c.fact 2 (f := .glo "is_weight") rfl)
  obtain ⟨fd3, F3⟩ := c.def_ 3 (d := dd "is_name" s_is_name) rfl
  have g3 := He.glo_ok X G (c.fact 3 (f := .glo "is_name") rfl)
  obtain ⟨fd4, F4⟩ := c.def_ 4 (d := dd "is_tuple_of" s_is_tuple_of) rfl
  have g4 := He.glo_ok X G (c.fact 4 (f := .glo "is_tuple_of") rfl)
  obtain ⟨fd5, F5⟩ := c.def_ 5 (d := dd "are_names" s_are_names) rfl
  have g5 := He.glo_ok X G (c.fact 5 (f := .glo "are_names") rfl)
  obtain ⟨fd6, F6⟩ := c.def_ 6 (d := dd "is_rising" s_is_rising) rfl
  have g6 := He.glo_ok X G (c.fact 6 (f := .glo "is_rising") rfl)
  obtain ⟨fd7, F7⟩ := c.def_ 7 (d := dd "is_set" s_is_set) rfl
  have g7 := He.glo_ok X G (c.fact 7 (f := .glo "is_set") rfl)
  obtain ⟨fd8, F8⟩ := c.def_ 8 (d := dd "is_name_pair" s_is_name_pair) rfl
  have g8 := He.glo_ok X G (c.fact 8 (f := .glo "is_name_pair") rfl)
  obtain ⟨fd9, F9⟩ := c.def_ 9 (d := dd "is_fact" s_is_fact) rfl
  have g9 := He.glo_ok X G (c.fact 9 (f := .glo "is_fact") rfl)
  obtain ⟨fd10, F10⟩ := c.def_ 10 (d := dd "is_source" s_is_source) rfl
  have g10 := He.glo_ok X G (c.fact 10 (f := .glo "is_source") rfl)
  obtain ⟨fd11, F11⟩ := c.def_ 11 (d := dd "is_party" s_is_party) rfl
  have g11 := He.glo_ok X G (c.fact 11 (f := .glo "is_party") rfl)
  obtain ⟨fd12, F12⟩ := c.def_ 12 (d := dd "is_build" s_is_build) rfl
  have g12 := He.glo_ok X G (c.fact 12 (f := .glo "is_build") rfl)
  obtain ⟨fd13, F13⟩ := c.def_ 13 (d := dd "is_form" s_is_form) rfl
  have g13 := He.glo_ok X G (c.fact 13 (f := .glo "is_form") rfl)
  obtain ⟨fd14, F14⟩ := c.def_ 14 (d := dd "is_book" s_is_book) rfl
  have g14 := He.glo_ok X G (c.fact 14 (f := .glo "is_book") rfl)
  obtain ⟨fd15, F15⟩ := c.def_ 15 (d := dd "_law_feed" s__law_feed) rfl
  have g15 := He.glo_ok X G (c.fact 15 (f := .glo "_law_feed") rfl)
  obtain ⟨fd16, F16⟩ := c.def_ 16 (d := dd "_law_draw" s__law_draw) rfl
  have g16 := He.glo_ok X G (c.fact 16 (f := .glo "_law_draw") rfl)
  obtain ⟨fd17, F17⟩ := c.def_ 17 (d := dd "_law_pick" s__law_pick) rfl
  have g17 := He.glo_ok X G (c.fact 17 (f := .glo "_law_pick") rfl)
  obtain ⟨fd18, F18⟩ := c.def_ 18 (d := dd "_law_names" s__law_names) rfl
  have g18 := He.glo_ok X G (c.fact 18 (f := .glo "_law_names") rfl)
  obtain ⟨fd19, F19⟩ := c.def_ 19 (d := dd "_law_sources" s__law_sources) rfl
  have g19 := He.glo_ok X G (c.fact 19 (f := .glo "_law_sources") rfl)
  obtain ⟨fd20, F20⟩ := c.def_ 20 (d := dd "_law_weight" s__law_weight) rfl
  have g20 := He.glo_ok X G (c.fact 20 (f := .glo "_law_weight") rfl)
  obtain ⟨fd21, F21⟩ := c.def_ 21 (d := dd "_law_build" s__law_build) rfl
  have g21 := He.glo_ok X G (c.fact 21 (f := .glo "_law_build") rfl)
  obtain ⟨fd22, F22⟩ := c.def_ 22 (d := dd "_law_book" s__law_book) rfl
  have g22 := He.glo_ok X G (c.fact 22 (f := .glo "_law_book") rfl)
  obtain ⟨fd23, F23⟩ := c.def_ 23 (d := dd "_law_is_number" s__law_is_number) rfl
  have g23 := He.glo_ok X G (c.fact 23 (f := .glo "_law_is_number") rfl)
  obtain ⟨fd24, F24⟩ := c.def_ 24 (d := dd "_law_is_name" s__law_is_name) rfl
  have g24 := He.glo_ok X G (c.fact 24 (f := .glo "_law_is_name") rfl)
  obtain ⟨fd25, F25⟩ := c.def_ 25 (d := dd "_law_are_names" s__law_are_names) rfl
  have g25 := He.glo_ok X G (c.fact 25 (f := .glo "_law_are_names") rfl)
  obtain ⟨fd26, F26⟩ := c.def_ 26 (d := dd "_law_is_set" s__law_is_set) rfl
  have g26 := He.glo_ok X G (c.fact 26 (f := .glo "_law_is_set") rfl)
  obtain ⟨fd27, F27⟩ := c.def_ 27 (d := dd "_law_is_source" s__law_is_source) rfl
  have g27 := He.glo_ok X G (c.fact 27 (f := .glo "_law_is_source") rfl)
  obtain ⟨fd28, F28⟩ := c.def_ 28 (d := dd "_law_is_party" s__law_is_party) rfl
  have g28 := He.glo_ok X G (c.fact 28 (f := .glo "_law_is_party") rfl)
  obtain ⟨fd29, F29⟩ := c.def_ 29 (d := dd "_law_is_build" s__law_is_build) rfl
  have g29 := He.glo_ok X G (c.fact 29 (f := .glo "_law_is_build") rfl)
  obtain ⟨fd30, F30⟩ := c.def_ 30 (d := dd "_law_is_pair" s__law_is_pair) rfl
  have g30 := He.glo_ok X G (c.fact 30 (f := .glo "_law_is_pair") rfl)
  obtain ⟨fd31, F31⟩ := c.def_ 31 (d := dd "_law_is_four" s__law_is_four) rfl
  have g31 := He.glo_ok X G (c.fact 31 (f := .glo "_law_is_four") rfl)
  obtain ⟨fd32, F32⟩ := c.def_ 32 (d := dd "_law_is_book" s__law_is_book) rfl
  have g32 := He.glo_ok X G (c.fact 32 (f := .glo "_law_is_book") rfl)
  obtain ⟨fd33, F33⟩ := c.def_ 33 (d := dd "_law_odd" s__law_odd) rfl
  have g33 := He.glo_ok X G (c.fact 33 (f := .glo "_law_odd") rfl)
  obtain ⟨fd34, F34⟩ := c.def_ 34 (d := dd "_law_bent" s__law_bent) rfl
  have g34 := He.glo_ok X G (c.fact 34 (f := .glo "_law_bent") rfl)
  obtain ⟨fd35, F35⟩ := c.def_ 35 (d := dd "_law_fixed" s__law_fixed) rfl
  have g35 := He.glo_ok X G (c.fact 35 (f := .glo "_law_fixed") rfl)
  obtain ⟨fd36, F36⟩ := c.def_ 36 (d := dd "_law_fixed_books" s__law_fixed_books) rfl
  have g36 := He.glo_ok X G (c.fact 36 (f := .glo "_law_fixed_books") rfl)
  obtain ⟨fd37, F37⟩ := c.def_ 37 (d := dd "_law_right" s__law_right) rfl
  have g37 := He.glo_ok X G (c.fact 37 (f := .glo "_law_right") rfl)
  obtain ⟨fd38, F38⟩ := c.def_ 38 (d := dd "law" s_law) rfl
  have g38 := He.glo_ok X G (c.fact 38 (f := .glo "law") rfl)
  have e := hfa.symm.trans g38
  cases e
  have B : Bt mg := { n_all := He.free_ok X G (c.fact 39 (f := .free "all") rfl), n_bool := He.free_ok X G (c.fact 40 (f := .free "bool") rfl), n_enumerate := He.free_ok X G (c.fact 41 (f := .free "enumerate") rfl), n_int := He.free_ok X G (c.fact 42 (f := .free "int") rfl), n_isinstance := He.free_ok X G (c.fact 43 (f := .free "isinstance") rfl), n_len := He.free_ok X G (c.fact 44 (f := .free "len") rfl), n_list := He.free_ok X G (c.fact 45 (f := .free "list") rfl), n_range := He.free_ok X G (c.fact 46 (f := .free "range") rfl), n_set := He.free_ok X G (c.fact 47 (f := .free "set") rfl), n_sorted := He.free_ok X G (c.fact 48 (f := .free "sorted") rfl), n_str := He.free_ok X G (c.fact 49 (f := .free "str") rfl), n_tuple := He.free_ok X G (c.fact 50 (f := .free "tuple") rfl), n_zip := He.free_ok X G (c.fact 51 (f := .free "zip") rfl) }
  have C : Ct mg := { n_ := trivial, k_DIGITS := He.str_ok X G (c.fact 52 (f := .str "DIGITS" "0123456789") rfl), k_LETTERS := He.str_ok X G (c.fact 53 (f := .str "LETTERS" "abcdefghijklmnopqrstuvwxyz") rfl), k_LONGEST_NAME := He.int_ok X G (c.fact 54 (f := .int "LONGEST_NAME" (8)) rfl) }
  have b := FunD.bindsA (ps := ["_law_script"]) F38 fun _ _ _ _ _ _ us hl => match us, hl with | [_], _ => rfl
  refine ⟨fd38, fun s v => b s [v] rfl, fun base _ _ => ?_⟩
  have D_is_integer : Dfn P w K mg base (fun _ => none) "is_integer" 1 1 f_is_integer := ok_is_integer (fun_of F0) g0 B C 
  have D_is_number : Dfn P w K mg base (fun _ => none) "is_number" 2 1 f_is_number := ok_is_number (fun_of F1) g1 B C D_is_integer
  have D_is_weight : Dfn P w K mg base (fun _ => none) "is_weight" 2 1 f_is_weight := ok_is_weight (fun_of F2) g2 B C D_is_integer
  have D_is_name : Dfn P w K mg base (fun _ => none) "is_name" 1 1 f_is_name := ok_is_name (fun_of F3) g3 B C 
  have D_is_tuple_of : Dfn P w K mg base (fun _ => none) "is_tuple_of" 1 2 f_is_tuple_of := ok_is_tuple_of (fun_of F4) g4 B C 
  have D_are_names : Dfn P w K mg base (fun _ => none) "are_names" 2 1 f_are_names := ok_are_names (fun_of F5) g5 B C D_is_name
  have D_is_rising : Dfn P w K mg base (fun _ => none) "is_rising" 1 1 f_is_rising := ok_is_rising (fun_of F6) g6 B C 
  have D_is_set : Dfn P w K mg base (fun _ => none) "is_set" 3 1 f_is_set := ok_is_set (fun_of F7) g7 B C D_are_names D_is_rising
  have D_is_name_pair : Dfn P w K mg base (fun _ => none) "is_name_pair" 3 1 f_is_name_pair := ok_is_name_pair (fun_of F8) g8 B C D_are_names
  have D_is_fact : Dfn P w K mg base (fun _ => none) "is_fact" 4 1 f_is_fact := ok_is_fact (fun_of F9) g9 B C D_is_name_pair
  have D_is_source : Dfn P w K mg base (fun _ => none) "is_source" 4 1 f_is_source := ok_is_source (fun_of F10) g10 B C D_is_name D_is_set D_is_tuple_of
  have D_is_party : Dfn P w K mg base (fun _ => none) "is_party" 3 1 f_is_party := ok_is_party (fun_of F11) g11 B C D_is_name D_is_tuple_of D_is_weight
  have D_is_build : Dfn P w K mg base (fun _ => none) "is_build" 3 1 f_is_build := ok_is_build (fun_of F12) g12 B C D_are_names D_is_name D_is_tuple_of
  have D_is_form : Dfn P w K mg base (fun _ => none) "is_form" 2 1 f_is_form := ok_is_form (fun_of F13) g13 B C D_is_tuple_of
  have D_is_book : Dfn P w K mg base (fun _ => none) "is_book" 5 1 f_is_book := ok_is_book (fun_of F14) g14 B C D_is_build D_is_form D_is_name_pair D_is_party D_is_source
  have D__law_feed : Dfn P w K mg base (fun _ => none) "_law_feed" 1 1 f__law_feed := ok__law_feed (fun_of F15) g15 B C 
  have D__law_draw : Dfn P w K mg base (fun _ => none) "_law_draw" 1 2 f__law_draw := ok__law_draw (fun_of F16) g16 B C 
  have D__law_pick : Dfn P w K mg base (fun _ => none) "_law_pick" 2 2 f__law_pick := ok__law_pick (fun_of F17) g17 B C D__law_draw
  have D__law_names : Dfn P w K mg base (fun _ => none) "_law_names" 3 2 f__law_names := ok__law_names (fun_of F18) g18 B C D__law_draw D__law_pick
  have D__law_sources : Dfn P w K mg base (fun _ => none) "_law_sources" 3 3 f__law_sources := ok__law_sources (fun_of F19) g19 B C D__law_draw D__law_pick
  have D__law_weight : Dfn P w K mg base (fun _ => none) "_law_weight" 2 1 f__law_weight := ok__law_weight (fun_of F20) g20 B C D__law_draw
  have D__law_build : Dfn P w K mg base (fun _ => none) "_law_build" 3 3 f__law_build := ok__law_build (fun_of F21) g21 B C D__law_draw D__law_pick
  have D__law_book : Dfn P w K mg base (fun _ => none) "_law_book" 4 1 f__law_book := ok__law_book (fun_of F22) g22 B C D__law_build D__law_draw D__law_names D__law_sources D__law_weight
  have D__law_is_number : Dfn P w K mg base (fun _ => none) "_law_is_number" 1 1 f__law_is_number := ok__law_is_number (fun_of F23) g23 B C 
  have D__law_is_name : Dfn P w K mg base (fun _ => none) "_law_is_name" 1 1 f__law_is_name := ok__law_is_name (fun_of F24) g24 B C 
  have D__law_are_names : Dfn P w K mg base (fun _ => none) "_law_are_names" 2 1 f__law_are_names := ok__law_are_names (fun_of F25) g25 B C D__law_is_name
  have D__law_is_set : Dfn P w K mg base (fun _ => none) "_law_is_set" 3 1 f__law_is_set := ok__law_is_set (fun_of F26) g26 B C D__law_are_names
  have D__law_is_source : Dfn P w K mg base (fun _ => none) "_law_is_source" 4 1 f__law_is_source := ok__law_is_source (fun_of F27) g27 B C D__law_are_names D__law_is_set
  have D__law_is_party : Dfn P w K mg base (fun _ => none) "_law_is_party" 2 1 f__law_is_party := ok__law_is_party (fun_of F28) g28 B C D__law_is_name D__law_is_number
  have D__law_is_build : Dfn P w K mg base (fun _ => none) "_law_is_build" 3 1 f__law_is_build := ok__law_is_build (fun_of F29) g29 B C D__law_are_names D__law_is_name
  have D__law_is_pair : Dfn P w K mg base (fun _ => none) "_law_is_pair" 3 1 f__law_is_pair := ok__law_is_pair (fun_of F30) g30 B C D__law_are_names
  have D__law_is_four : Dfn P w K mg base (fun _ => none) "_law_is_four" 1 1 f__law_is_four := ok__law_is_four (fun_of F31) g31 B C 
  have D__law_is_book : Dfn P w K mg base (fun _ => none) "_law_is_book" 5 1 f__law_is_book := ok__law_is_book (fun_of F32) g32 B C D__law_is_build D__law_is_four D__law_is_pair D__law_is_party D__law_is_source
  have D__law_odd : Dfn P w K mg base (fun _ => none) "_law_odd" 3 1 f__law_odd := ok__law_odd (fun_of F33) g33 B C D__law_pick
  have D__law_bent : Dfn P w K mg base (fun _ => none) "_law_bent" 11 2 (F__law_bent 8) := ok__law_bent (fun_of F34) g34 B C D__law_draw D__law_odd D__law_pick 8
  have D__law_fixed : Dfn P w K mg base (fun _ => none) "_law_fixed" 1 0 f__law_fixed := ok__law_fixed (fun_of F35) g35 B C 
  have D__law_fixed_books : Dfn P w K mg base (fun _ => none) "_law_fixed_books" 1 0 f__law_fixed_books := ok__law_fixed_books (fun_of F36) g36 B C 
  have D__law_right : Dfn P w K mg base (fun _ => none) "_law_right" 6 1 f__law_right := ok__law_right (fun_of F37) g37 B C D__law_is_book D__law_is_build D__law_is_name D__law_is_number D__law_is_pair D__law_is_party D__law_is_set D__law_is_source D_is_book D_is_build D_is_fact D_is_integer D_is_name D_is_number D_is_party D_is_set D_is_source
  exact okF_law (fun_of F38) g38 B C D__law_bent D__law_book D__law_feed D__law_fixed D__law_fixed_books D__law_odd D__law_pick D__law_right
end RB.Law
open PySem PySem.W PySem.Calls PyProof.Rows
theorem PySem.Challenge.cw_rebuiltby_k01_kinds_holds : PySem.Challenge.rw_rebuiltby_k01_kinds.Holds := by
  w_on; o_law
  refine HandSHeadRun.head_any (r := OpenLaw.row PySem.Challenge.rw_rebuiltby_k01_kinds) (q := view (OpenLaw.row PySem.Challenge.rw_rebuiltby_k01_kinds).prog [43]) (H := RB.Law.hk) (ob := RB.Law.ob) (M := 6000) (loose := RB.Law.loose) (d := HandSHeadRun.topDef (OpenLaw.row PySem.Challenge.rw_rebuiltby_k01_kinds).prog 43) (kwd := []) RB.Law.ob_eq
    (by kernel_rfl) (fun s => by kernel_rfl) RB.Law.run (by kernel_rfl) (by kernel_rfl) (by kernel_rfl) (by rfl) (by first | assumption | decide +kernel) (by decide +kernel) ⟨rfl, rfl, rfl, rfl, rfl, by decide +kernel⟩ ?hw ?hc
  case hw => w_witness2
  case hc =>
    refine RB.walk_ofW (l := PySem.Challenge.rw_rebuiltby_k01_kinds) (n := 63) (k := 12) (x := "_law_script") (CX := fun w => L2.CX (PySem.Challenge.rw_rebuiltby_k01_kinds).prog w) rfl (by decide) (by kernel_rfl) ⟨rfl, by decide, by decide⟩ ?F (fun w => RB.cx_none _ w)
    intro w mg fa h Y G hmg0
    obtain ⟨K, KX, c⟩ := Y
    have hmg : mg ("law" : PySem.Str) = some (.ref fa) := by
      have e : (HandSHeadRun.topDef (OpenLaw.row PySem.Challenge.rw_rebuiltby_k01_kinds).prog 43).name = ("law" : PySem.Str) := by kernel_rfl
      rw [← e]
      exact hmg0
    obtain ⟨fd, hb, hF⟩ := RB.Law.facts (P := (PySem.Challenge.rw_rebuiltby_k01_kinds).prog) (w := w) KX G hmg c
    exact ⟨K, fd, _, KX, hb, fun H a ns hl _ hS => RB.spF_true (RB.Law.law_true ns hl) hS, hF⟩

end
