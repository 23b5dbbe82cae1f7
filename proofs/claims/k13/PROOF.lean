import PyProof.Rows.All
import Wide.All
import OpenK.AllK
import Wide.FinOn
import HandS.ForMost
import HandS.IsInst
import HandS.Codes
import HandS.EndBits
import HandS.Wide
import HandS.TupAny
import KE.LtData
import HandS.Deep
import HandS.Steps
import PyProof.ReprRoads
import PyProof.ReprLen
import PyProof.StrLawsRepr
import PyProof.Rows.RuleB_bool
import KE.KUnpackStar
import HandS.Iter
import KE.GoesEnum
import HandS.Bytes
import KE.KStrBytes
import HandS.TupMul
import PyProof.EqAt
import HandS.Style
import HandS.Strs
import HandS.SetFor
import HandS.SortInts
import HandS.Conv
import PySem.Challenge.RW_steadypages_k13_what_is_a_view
set_option Elab.async false
set_option linter.all false
set_option maxRecDepth 100000
set_option maxHeartbeats 4000000
/-! DL: a data layer over HandS: values as PyData, statements and expressions as wp over data. -/
namespace DL
open PySem PySem.Spec PyProof.Rows L2

abbrev D := PyData
abbrev EK := D → Prop
def keyD : Key → D
  | .inl i => .int i
  | .inr x => .str x

mutual
inductive Rp (K : PySem.W.Frag) (H : Hp) : V → D → Prop
  | non : Rp K H .non .none
  | bl (b : Bool) : Rp K H (.bl b) (.bool b)
  | int (i : Int) : Rp K H (.int i) (.int i)
  | str (x : Str) : Rp K H (.str x) (.str x)
  | lst {a : Addr} {xs : List V} {ds : List D} : H a = some (.lst xs) → xs.length ≤ sizeLine → RpAll K H xs ds → Rp K H (.ref a) (.list ds)
  | tup {a : Addr} {xs : List V} {ds : List D} : SqT K H a xs → xs.length ≤ sizeLine → RpAll K H xs ds → Rp K H (.ref a) (.tuple ds)
  | dct {a : Addr} {kvs : List (Key × V)} {es : List (D × D)} : H a = some (.dK kvs) → RpKvs K H kvs es → Rp K H (.ref a) (.dict es)
inductive RpAll (K : PySem.W.Frag) (H : Hp) : List V → List D → Prop
  | nil : RpAll K H [] []
  | cons {v : V} {vs : List V} {d : D} {ds : List D} : Rp K H v d → RpAll K H vs ds → RpAll K H (v :: vs) (d :: ds)
inductive RpKvs (K : PySem.W.Frag) (H : Hp) : List (Key × V) → List (D × D) → Prop
  | nil : RpKvs K H [] []
  | cons {k : Key} {v : V} {kvs : List (Key × V)} {d : D} {es : List (D × D)} : Rp K H v d → RpKvs K H kvs es → RpKvs K H ((k, v) :: kvs) ((keyD k, d) :: es)
end

theorem Same.seqT {K : PySem.W.Frag} {H H' : Hp} {a : Addr} {xs : List V} (e : Same H H') (h : SqT K H a xs) : SqT K H' a xs := by
  rcases h with (h | ⟨o, h⟩) | h
  · exact .inl (.inl (e _ _ h))
  · exact .inl (.inr ⟨o, e _ _ h⟩)
  · exact .inr h

section
variable {K : PySem.W.Frag} {H H' : Hp}
mutual
theorem Rp.mono (e : Same H H') : ∀ {v : V} {d : D}, Rp K H v d → Rp K H' v d
  | _, _, .non => .non
  | _, _, .bl b => .bl b
  | _, _, .int i => .int i
  | _, _, .str x => .str x
  | _, _, .lst h z r => .lst (e _ _ h) z (RpAll.mono e r)
  | _, _, .tup h z r => .tup (Same.seqT e h) z (RpAll.mono e r)
  | _, _, .dct h r => .dct (e _ _ h) (RpKvs.mono e r)
theorem RpAll.mono (e : Same H H') : ∀ {vs : List V} {ds : List D}, RpAll K H vs ds → RpAll K H' vs ds
  | _, _, .nil => .nil
  | _, _, .cons r t => .cons (Rp.mono e r) (RpAll.mono e t)
theorem RpKvs.mono (e : Same H H') : ∀ {vs : List (Key × V)} {ds : List (D × D)}, RpKvs K H vs ds → RpKvs K H' vs ds
  | _, _, .nil => .nil
  | _, _, .cons r t => .cons (Rp.mono e r) (RpKvs.mono e t)
end
theorem RpAll.length : ∀ {vs : List V} {ds : List D}, RpAll K H vs ds → vs.length = ds.length
  | _, _, .nil => rfl
  | _, _, .cons _ t => by rw [List.length_cons, List.length_cons, RpAll.length t]
theorem RpAll.append : ∀ {vs ws : List V} {ds es : List D}, RpAll K H vs ds → RpAll K H ws es → RpAll K H (vs ++ ws) (ds ++ es)
  | _, _, _, _, .nil, s => s
  | _, _, _, _, .cons r t, s => .cons r (RpAll.append t s)
theorem RpAll.get : ∀ {vs : List V} {ds : List D} {i : Nat} {v : V}, RpAll K H vs ds → vs[i]? = some v → ∃ d, ds[i]? = some d ∧ Rp K H v d
  | _, _, _, _, .nil, e => by simp at e
  | _, _, 0, _, .cons r _, e => by simp at e; subst e; exact ⟨_, rfl, r⟩
  | _, _, i + 1, v, .cons _ t, e => by
    obtain ⟨u, h1, h2⟩ := RpAll.get (i := i) (v := v) t (by simpa using e)
    exact ⟨u, by simpa using h1, h2⟩
theorem RpAll.getD : ∀ {vs : List V} {ds : List D} {i : Nat} {d : D}, RpAll K H vs ds → ds[i]? = some d → ∃ v, vs[i]? = some v ∧ Rp K H v d
  | _, _, _, _, .nil, e => by simp at e
  | _, _, 0, _, .cons r _, e => by simp at e; subst e; exact ⟨_, rfl, r⟩
  | _, _, i + 1, v, .cons _ t, e => by
    obtain ⟨u, h1, h2⟩ := RpAll.getD (i := i) (d := v) t (by simpa using e)
    exact ⟨u, by simpa using h1, h2⟩
theorem RpAll.take : ∀ {vs : List V} {ds : List D} (n : Nat), RpAll K H vs ds → RpAll K H (vs.take n) (ds.take n)
  | _, _, 0, _ => .nil
  | _, _, _ + 1, .nil => .nil
  | _, _, n + 1, .cons r t => .cons r (RpAll.take n t)
theorem RpAll.drop : ∀ {vs : List V} {ds : List D} (n : Nat), RpAll K H vs ds → RpAll K H (vs.drop n) (ds.drop n)
  | _, _, 0, r => r
  | _, _, _ + 1, .nil => .nil
  | _, _, n + 1, .cons _ t => RpAll.drop n t
end

/-! ### hiding -/
def hid (A : List Addr) (H : Hp) : Hp := fun b => if b ∈ A then none else H b
theorem hid_in {A : List Addr} {H : Hp} {b : Addr} (h : b ∈ A) : hid A H b = none := if_pos h
theorem hid_out {A : List Addr} {H : Hp} {b : Addr} (h : b ∉ A) : hid A H b = H b := if_neg h
theorem hid_some {A : List Addr} {H : Hp} {b : Addr} {o : HO} (h : hid A H b = some o) : b ∉ A ∧ H b = some o := by
  by_cases hb : b ∈ A
  · rw [hid_in hb] at h; cases h
  · rw [hid_out hb] at h; exact ⟨hb, h⟩
theorem hid_of {A : List Addr} {H : Hp} {b : Addr} {o : HO} (hb : b ∉ A) (h : H b = some o) : hid A H b = some o := by rw [hid_out hb]; exact h
theorem hid_mono {A : List Addr} {H H' : Hp} (e : Same H H') : Same (hid A H) (hid A H') := fun b o h => by
  obtain ⟨h1, h2⟩ := hid_some h
  exact hid_of h1 (e b o h2)
theorem hid_sub {A C : List Addr} {H : Hp} (s : ∀ b ∈ C, b ∈ A) : Same (hid A H) (hid C H) := fun b o h => by
  obtain ⟨h1, h2⟩ := hid_some h
  exact hid_of (fun z => h1 (s b z)) h2
theorem hid_le {A : List Addr} {H : Hp} : Same (hid A H) H := fun b o h => (hid_some h).2
theorem same_new {H : Hp} {p : Addr} {o : HO} (h : H p = none) : Same H (upd H p o) := fun b u e => by
  rw [upd_ne (ne_of_none e h)]
  exact e
/-- what is hidden more was not there, or was hidden -/
theorem hid_more {A C : List Addr} {H H' : Hp} (e : Same H H') (s : ∀ b ∈ C, b ∈ A ∨ H b = none) : Same (hid A H) (hid C H') := fun b o h => by
  obtain ⟨h1, h2⟩ := hid_some h
  refine hid_of (fun z => ?_) (e b o h2)
  rcases s b z with z | z
  · exact h1 z
  · rw [z] at h2; cases h2
theorem hid_upd {A : List Addr} {H : Hp} {a : Addr} {o : HO} (h : a ∈ A) : hid A (upd H a o) = hid A H := by
  funext b
  by_cases hb : b ∈ A
  · rw [hid_in hb, hid_in hb]
  · rw [hid_out hb, hid_out hb, upd_ne (fun z => hb (by rw [z]; exact h))]

/-! ### the tape, known by its form alone -/
def tapeKv (d m : Int) : List (Key × V) := [(.inr "digits", .int d), (.inr "mixed", .int m)]
def TapeP (P : Program) (w : World) (a : Addr) : Heap → Prop := fun h => ∃ d m : Int, 0 ≤ d ∧ Builtin.Int.intBits d ≤ 1048576 ∧ 0 ≤ m ∧ m < 4294967296 ∧ ObjOk P w (fun _ => none) h a (.dK (tapeKv d m))
abbrev TapeO (P : Program) (w : World) (a : Addr) : HO := .ext (TapeP P w a)

/-- the script: locked, or an object of the written part -/
def ScrL (K : PySem.W.Frag) (H : Hp) (a : Addr) (xs : List V) : Prop := (∃ o, H a = some (.frz o (.lst xs))) ∨
  ∃ (o : Obj) (its : Array Value) (n : Nat), K.lookup a = some o ∧ o.cls = .type "list" ∧ o.dict = none ∧ o.data = .seq its n ∧ its.size ≤ sizeLine ∧ Vals xs its.toList
theorem ScrL.seq {K : PySem.W.Frag} {H : Hp} {a : Addr} {xs : List V} (h : ScrL K H a xs) : SqL K H a xs := by
  rcases h with ⟨o, h⟩ | h
  · exact .inl (.inr ⟨o, h⟩)
  · exact .inr h
theorem ScrL.mono {K : PySem.W.Frag} {H H' : Hp} {a : Addr} {xs : List V} (e : Same H H') (h : ScrL K H a xs) : ScrL K H' a xs := by
  rcases h with ⟨o, h⟩ | h
  · exact .inl ⟨o, e _ _ h⟩
  · exact .inr h
theorem ScrL.of {K : PySem.W.Frag} {H : Hp} {a : Addr} {xs : List V} (o : Only H) (h : SqL K H a xs) : ScrL K H a xs := by
  rcases h with (h | ⟨ob, h⟩) | h
  · rcases o a with z | ⟨_, _, z⟩
    · rw [h] at z; cases z
    · rw [h] at z; cases z
  · exact .inl ⟨ob, h⟩
  · exact .inr h
/-! ### the state of a def's body over data -/
/-- a slot: not known, data, a list of the body's own (nobody else has it), the tape -/
inductive SV where
  | un
  | dat (d : D)
  | own (ds : List D)
  | tape
  | scr (ns : List Int)
structure Fm where
  H0 : Hp
  B : List Addr
section
variable (P : Program) (w : World) (K : PySem.W.Frag)
def SlotR (C : List Addr) (A : List Addr) (H : Hp) (so : Option (Option V)) : SV → Prop
  | .un => True
  | .dat d => ∃ v, so = some (some v) ∧ Rp K (hid C H) v d
  | .own ds => ∃ a xs, so = some (some (.ref a)) ∧ a ∈ A ∧ H a = some (.lst xs) ∧ xs.length ≤ sizeLine ∧ RpAll K (hid C H) xs ds
  | .tape => ∃ a, so = some (some (.ref a)) ∧ H a = some (TapeO P w a)
  | .scr ns => ∃ a, so = some (some (.ref a)) ∧ ScrL K H a (ns.map V.int)
structure Ctx (F : Fm) (A : List Addr) (H : Hp) (σ : L2.St) (ω : List SV) : Prop where
  same : Same F.H0 H
  new : ∀ a ∈ A, F.H0 a = none
  held : ∀ a ∈ A, H a ≠ none
  old : ∀ b ∈ F.B, F.H0 b ≠ none
  len : σ.length = ω.length
  sl : ∀ (i : Nat) (s : SV), ω[i]? = some s → SlotR P w K (A ++ F.B) A H σ[i]? s
  dist : ∀ (i j : Nat) (ds es : List D) (a : Addr), i ≠ j → ω[i]? = some (.own ds) → ω[j]? = some (.own es) → σ[i]? = some (some (.ref a)) → σ[j]? = some (some (.ref a)) → False
end
section
variable {P : Program} {w : World} {K : PySem.W.Frag} {F : Fm} {A : List Addr} {H H' : Hp} {σ : L2.St} {ω : List SV}
theorem SlotR.mono {C : List Addr} {so : Option (Option V)} {s : SV} (e : Same H H') (h : SlotR P w K C A H so s) : SlotR P w K C A H' so s := by
  cases s with
  | un => trivial
  | dat d => obtain ⟨v, h1, h2⟩ := h; exact ⟨v, h1, h2.mono (hid_mono e)⟩
  | own ds => obtain ⟨a, xs, h1, h2, h3, h4, h5⟩ := h; exact ⟨a, xs, h1, h2, e _ _ h3, h4, h5.mono (hid_mono e)⟩
  | tape => obtain ⟨a, h1, h2⟩ := h; exact ⟨a, h1, e _ _ h2⟩
  | scr ns => obtain ⟨a, h1, h2⟩ := h; exact ⟨a, h1, h2.mono e⟩
theorem Same.some' {H H' : Hp} (e : Same H H') {a : Addr} (h : H a ≠ none) : H' a ≠ none := by
  cases q : H a with
  | none => exact absurd q h
  | some o => rw [e a o q]; intro z; cases z
theorem Ctx.mono (c : Ctx P w K F A H σ ω) (e : Same H H') : Ctx P w K F A H' σ ω :=
  ⟨c.same.trans e, c.new, fun a ha => Same.some' e (c.held a ha), c.old, c.len, fun i s h => (c.sl i s h).mono e, c.dist⟩
theorem Ctx.fresh (c : Ctx P w K F A H σ ω) {p : Addr} (h : H p = none) : p ∉ A ++ F.B := fun z => by
  rcases List.mem_append.mp z with z | z
  · exact c.held p z h
  · exact Same.some' c.same (c.old p z) h
/-- a new address is hidden too -/
theorem Ctx.hide (c : Ctx P w K F A H σ ω) (e : Same H H') {p : Addr} (h : H p = none) (hp : H' p ≠ none) : Ctx P w K F (p :: A) H' σ ω := by
  have hs : Same (hid (A ++ F.B) H) (hid ((p :: A) ++ F.B) H') := hid_more e fun b hb => by
    rw [List.cons_append] at hb
    rcases List.mem_cons.mp hb with z | z
    · exact .inr (z ▸ h)
    · exact .inl z
  refine ⟨c.same.trans e, fun a ha => ?_, fun a ha => ?_, c.old, c.len, fun i s hi => ?_, c.dist⟩
  · rcases List.mem_cons.mp ha with z | z
    · rw [z]; exact c.same.free h
    · exact c.new a z
  · rcases List.mem_cons.mp ha with z | z
    · rw [z]; exact hp
    · exact Same.some' e (c.held a z)
  · have q := c.sl i s hi
    cases s with
    | un => trivial
    | dat d => obtain ⟨v, h1, h2⟩ := q; exact ⟨v, h1, h2.mono hs⟩
    | own ds => obtain ⟨a, xs, h1, h2, h3, h4, h5⟩ := q; exact ⟨a, xs, h1, List.mem_cons_of_mem _ h2, e _ _ h3, h4, h5.mono hs⟩
    | tape => obtain ⟨a, h1, h2⟩ := q; exact ⟨a, h1, e _ _ h2⟩
    | scr ns => obtain ⟨a, h1, h2⟩ := q; exact ⟨a, h1, h2.mono e⟩
/-- the frame anew, at this heap: what is not the body's own stays from here on -/
def refocus (F : Fm) (A : List Addr) (H : Hp) : Fm := ⟨hid A H, F.B⟩
theorem Ctx.refocus (c : Ctx P w K F A H σ ω) : Ctx P w K (refocus F A H) A H σ ω :=
  ⟨hid_le, fun a ha => hid_in ha, c.held, fun b hb => by
    have h1 : b ∉ A := fun z => c.old b hb (c.new b z)
    show hid A H b ≠ none
    rw [hid_out h1]
    exact Same.some' c.same (c.old b hb), c.len, c.sl, c.dist⟩
theorem Ctx.unfocus {A' : List Addr} {σ' : L2.St} {ω' : List SV} (c : Ctx P w K F A H σ ω) (c' : Ctx P w K (DL.refocus F A H) A' H' σ' ω') : Ctx P w K F A' H' σ' ω' := by
  have back : ∀ b, hid A H b = none → F.H0 b = none := fun b hb => by
    by_cases z : b ∈ A
    · exact c.new b z
    · rw [hid_out z] at hb; exact c.same.free hb
  refine ⟨fun b o h => c'.same b o ?_, fun a ha => back a (c'.new a ha), c'.held, c.old, c'.len, c'.sl, c'.dist⟩
  refine hid_of (fun z => ?_) (c.same b o h)
  rw [c.new b z] at h; cases h
theorem Ctx.focus_hid {A' : List Addr} {σ' : L2.St} {ω' : List SV} (c : Ctx P w K F A H σ ω) (c' : Ctx P w K (DL.refocus F A H) A' H' σ' ω') : Same (hid (A ++ F.B) H) (hid (A' ++ F.B) H') := fun b o h => by
  obtain ⟨h1, h2⟩ := hid_some h
  have n1 : b ∉ A := fun z => h1 (List.mem_append_left _ z)
  have n2 : b ∉ F.B := fun z => h1 (List.mem_append_right _ z)
  have e : hid A H b = some o := hid_of n1 h2
  refine hid_of (fun z => ?_) (c'.same b o e)
  rcases List.mem_append.mp z with z | z
  · have q := c'.new b z
    rw [show (DL.refocus F A H).H0 b = hid A H b from rfl, e] at q; cases q
  · exact n2 z
/-- a slot gets data -/
theorem Ctx.set (c : Ctx P w K F A H σ ω) {i : Nat} {v : V} {d : D} (r : Rp K (hid (A ++ F.B) H) v d) : Ctx P w K F A H (σ.set i (some v)) (ω.set i (.dat d)) := by
  refine ⟨c.same, c.new, c.held, c.old, by simpa using c.len, fun j s hj => ?_, fun j k ds es a hjk h1 h2 h3 h4 => ?_⟩
  · by_cases e : i = j
    · subst e
      have hi : i < ω.length := by
        have := (List.getElem?_eq_some_iff.mp hj).1
        simpa using this
      rw [List.getElem?_set_self hi] at hj
      cases hj
      exact ⟨v, by rw [List.getElem?_set_self (by rw [c.len]; exact hi)], r⟩
    · rw [List.getElem?_set_ne e] at hj
      rw [List.getElem?_set_ne e]
      exact c.sl j s hj
  · have n1 : i ≠ j := fun e => by
      subst e
      have hi : i < ω.length := by simpa using (List.getElem?_eq_some_iff.mp h1).1
      rw [List.getElem?_set_self hi] at h1; cases h1
    have n2 : i ≠ k := fun e => by
      subst e
      have hi : i < ω.length := by simpa using (List.getElem?_eq_some_iff.mp h2).1
      rw [List.getElem?_set_self hi] at h2; cases h2
    rw [List.getElem?_set_ne n1] at h1 h3
    rw [List.getElem?_set_ne n2] at h2 h4
    exact c.dist j k ds es a hjk h1 h2 h3 h4
/-- a slot is forgotten -/
theorem Ctx.wipe1 (c : Ctx P w K F A H σ ω) {i : Nat} {so : Option V} : Ctx P w K F A H (σ.set i so) (ω.set i .un) := by
  refine ⟨c.same, c.new, c.held, c.old, by simpa using c.len, fun j s hj => ?_, fun j k ds es a hjk h1 h2 h3 h4 => ?_⟩
  · by_cases e : i = j
    · subst e
      have hi : i < ω.length := by
        have := (List.getElem?_eq_some_iff.mp hj).1
        simpa using this
      rw [List.getElem?_set_self hi] at hj
      cases hj
      trivial
    · rw [List.getElem?_set_ne e] at hj
      rw [List.getElem?_set_ne e]
      exact c.sl j s hj
  · have n1 : i ≠ j := fun e => by
      subst e
      have hi : i < ω.length := by simpa using (List.getElem?_eq_some_iff.mp h1).1
      rw [List.getElem?_set_self hi] at h1; cases h1
    have n2 : i ≠ k := fun e => by
      subst e
      have hi : i < ω.length := by simpa using (List.getElem?_eq_some_iff.mp h2).1
      rw [List.getElem?_set_self hi] at h2; cases h2
    rw [List.getElem?_set_ne n1] at h1 h3
    rw [List.getElem?_set_ne n2] at h2 h4
    exact c.dist j k ds es a hjk h1 h2 h3 h4
/-- a slot gets the tape -/
theorem Ctx.setTape (c : Ctx P w K F A H σ ω) {i : Nat} {a : Addr} (r : H a = some (TapeO P w a)) : Ctx P w K F A H (σ.set i (some (.ref a))) (ω.set i .tape) := by
  refine ⟨c.same, c.new, c.held, c.old, by simpa using c.len, fun j s hj => ?_, fun j k ds es b hjk h1 h2 h3 h4 => ?_⟩
  · by_cases e : i = j
    · subst e
      have hi : i < ω.length := by simpa using (List.getElem?_eq_some_iff.mp hj).1
      rw [List.getElem?_set_self hi] at hj
      cases hj
      exact ⟨a, by rw [List.getElem?_set_self (by rw [c.len]; exact hi)], r⟩
    · rw [List.getElem?_set_ne e] at hj
      rw [List.getElem?_set_ne e]
      exact c.sl j s hj
  · have n1 : i ≠ j := fun e => by
      subst e
      have hi : i < ω.length := by simpa using (List.getElem?_eq_some_iff.mp h1).1
      rw [List.getElem?_set_self hi] at h1; cases h1
    have n2 : i ≠ k := fun e => by
      subst e
      have hi : i < ω.length := by simpa using (List.getElem?_eq_some_iff.mp h2).1
      rw [List.getElem?_set_self hi] at h2; cases h2
    rw [List.getElem?_set_ne n1] at h1 h3
    rw [List.getElem?_set_ne n2] at h2 h4
    exact c.dist j k ds es b hjk h1 h2 h3 h4
/-- a slot gets a new list of the body's own: p is already hidden -/
theorem Ctx.setOwn (c : Ctx P w K F A H σ ω) {i : Nat} {p : Addr} {xs : List V} {ds : List D} (hp : p ∈ A) (ho : H p = some (.lst xs)) (hz : xs.length ≤ sizeLine) (r : RpAll K (hid (A ++ F.B) H) xs ds)
    (hn : ∀ j es, j ≠ i → ω[j]? = some (.own es) → σ[j]? ≠ some (some (.ref p))) : Ctx P w K F A H (σ.set i (some (.ref p))) (ω.set i (.own ds)) := by
  refine ⟨c.same, c.new, c.held, c.old, by simpa using c.len, fun j s hj => ?_, fun j k ds' es a hjk h1 h2 h3 h4 => ?_⟩
  · by_cases e : i = j
    · subst e
      have hi : i < ω.length := by simpa using (List.getElem?_eq_some_iff.mp hj).1
      rw [List.getElem?_set_self hi] at hj
      cases hj
      exact ⟨p, xs, by rw [List.getElem?_set_self (by rw [c.len]; exact hi)], hp, ho, hz, r⟩
    · rw [List.getElem?_set_ne e] at hj
      rw [List.getElem?_set_ne e]
      exact c.sl j s hj
  · by_cases e1 : i = j
    · subst e1
      have hi : i < ω.length := by simpa using (List.getElem?_eq_some_iff.mp h1).1
      rw [List.getElem?_set_self (by rw [c.len]; exact hi)] at h3
      cases h3
      rw [List.getElem?_set_ne hjk] at h2 h4
      exact hn k es (fun z => hjk z.symm) h2 h4
    · by_cases e2 : i = k
      · subst e2
        have hi : i < ω.length := by simpa using (List.getElem?_eq_some_iff.mp h2).1
        rw [List.getElem?_set_self (by rw [c.len]; exact hi)] at h4
        cases h4
        rw [List.getElem?_set_ne e1] at h1 h3
        exact hn j ds' (fun z => e1 z.symm) h1 h3
      · rw [List.getElem?_set_ne e1] at h1 h3
        rw [List.getElem?_set_ne e2] at h2 h4
        exact c.dist j k ds' es a hjk h1 h2 h3 h4
end
end DL
/-! DL: judgements over data, expressions. -/
namespace DL
open PySem PySem.Spec PyProof.Rows L2

abbrev DE := List SV → EK → Prop
abbrev DT := List SV → (Bool → Prop) → Prop
abbrev DD := List SV → (List D → Prop) → Prop
abbrev DA := List SV → (List SV → Prop) → Prop
/-- an argument: data, or the tape -/
def ArgR (P : Program) (w : World) (K : PySem.W.Frag) (C : List Addr) (H : Hp) (v : V) : SV → Prop
  | .dat d => Rp K (hid C H) v d
  | .tape => ∃ a, v = .ref a ∧ H a = some (TapeO P w a)
  | .scr ns => ∃ a, v = .ref a ∧ ScrL K H a (ns.map V.int)
  | _ => False
abbrev Args (P : Program) (w : World) (K : PySem.W.Frag) (C : List Addr) (H : Hp) : List V → List SV → Prop := Paired (ArgR P w K C H)

section
variable (P : Program) (w : World) (K : PySem.W.Frag)
def LE (de : DE) : TE := fun σ H Q => ∃ (F : Fm) (A : List Addr) (ω : List SV) (R : EK), Ctx P w K F A H σ ω ∧ de ω R ∧ ∀ d, R d → ∀ v H', Same H H' → Rp K (hid (A ++ F.B) H') v d → Q v H'
def LT (dt : DT) : TT := fun σ H Q => ∃ (F : Fm) (A : List Addr) (ω : List SV) (R : Bool → Prop), Ctx P w K F A H σ ω ∧ dt ω R ∧ ∀ b, R b → ∀ H', Same H H' → Q b H'
def LD (n : Nat) (da : DD) : TA := fun σ H Q => ∃ (F : Fm) (A : List Addr) (ω : List SV) (R : List D → Prop), Ctx P w K F A H σ ω ∧ da ω R ∧ ∀ ds, R ds → ds.length = n → ∀ vs H', Same H H' → RpAll K (hid (A ++ F.B) H') vs ds → Q vs H'
def LA (n : Nat) (da : DA) : TA := fun σ H Q => ∃ (F : Fm) (A : List Addr) (ω : List SV) (R : List SV → Prop), Ctx P w K F A H σ ω ∧ da ω R ∧ ∀ svs, R svs → svs.length = n → ∀ vs H', Same H H' → Args P w K (A ++ F.B) H' vs svs → Q vs H'
end

theorem PE.imp {X : Cx} {e : Expr} {t t' : TE} (h : PE X e t) (i : ∀ σ H Q, t' σ H Q → t σ H Q) : PE X e t' := ⟨fun pins s σ H Q I q => h.run pins s σ H Q I (i σ H Q q)⟩
theorem PT.imp {X : Cx} {e : Expr} {t t' : TT} (h : PT X e t) (i : ∀ σ H Q, t' σ H Q → t σ H Q) : PT X e t' := ⟨fun pins s σ H Q I q => h.run pins s σ H Q I (i σ H Q q)⟩
theorem PW.imp {X : Cx} {e : Expr} {t t' : TT} (h : PW X e t) (i : ∀ σ H Q, t' σ H Q → t σ H Q) : PW X e t' := ⟨fun wh pins s σ H Q I q => h.run wh pins s σ H Q I (i σ H Q q)⟩
theorem PA.imp {X : Cx} {e : List Expr} {t t' : TA} (h : PA X e t) (i : ∀ σ H Q, t' σ H Q → t σ H Q) : PA X e t' := ⟨fun pos pins s σ H Q I q => h.run pos pins s σ H Q I (i σ H Q q)⟩
theorem PS.imp {X : Cx} {e : Stmt} {t t' : TS} (h : PS X e t) (i : ∀ D σ H, t' D σ H → t D σ H) : PS X e t' := ⟨fun pins s σ H D I q => h.run pins s σ H D I (i D σ H q)⟩
theorem PSs.imp {X : Cx} {e : List Stmt} {t t' : TS} (h : PSs X e t) (i : ∀ D σ H, t' D σ H → t D σ H) : PSs X e t' := ⟨fun pins s σ H D I q => h.run pins s σ H D I (i D σ H q)⟩

/-! ### new objects -/
section
variable {K : PySem.W.Frag} {C : List Addr} {H H' : Hp} {p : Addr} {xs : List V} {ds : List D}
theorem rp_tup_new (hC : p ∉ C) (h : H p = none) (z : xs.length ≤ sizeLine) (r : RpAll K (hid C H) xs ds) : Rp K (hid C (upd H p (.tup xs))) (.ref p) (.tuple ds) :=
  .tup (SqT.of (hid_of hC upd_same)) z (r.mono (hid_mono (same_new h)))
theorem rp_lst_new (hC : p ∉ C) (h : H p = none) (z : xs.length ≤ sizeLine) (r : RpAll K (hid C H) xs ds) : Rp K (hid C (upd H p (.lst xs))) (.ref p) (.list ds) :=
  .lst (hid_of hC upd_same) z (r.mono (hid_mono (same_new h)))
theorem SqT.out (h : SqT K (hid C H) p xs) : SqT K H p xs := Same.seqT hid_le h
end

/-! ### names, constants -/
section
variable {P : Program} {w : World} {X : Cx} {pos : Pos}
def dVar (i : Nat) : DE := fun ω Q => match ω[i]? with
  | some (.dat d) => Q d
  | _ => False
def dC (d : D) : DE := fun _ Q => Q d
theorem e_var {i : Nat} {x : Str} (hN : X.N[i]? = some x) (hv : Vis X.env.scope x) (hd : (x == ("__debug__" : Str)) = false := by decide) (hcd : (x == ("__classdict__" : Str)) = false := by decide) : PE X (.Name x pos) (LE P w X.K (dVar i)) := by
  refine PE.imp (pe_var hN hv hd hcd) fun σ H Q h => ?_
  obtain ⟨F, A, ω, R, c, h, k⟩ := h
  unfold dVar at h
  split at h
  · rename_i d e
    obtain ⟨v, h1, h2⟩ := c.sl i _ e
    exact ⟨v, h1, k d h v H (Same.refl H) h2⟩
  · exact h.elim
theorem e_int {i j} : PE X (.Constant (.int i) j pos) (LE P w X.K (dC (.int i))) := PE.imp pe_int fun _ H _ ⟨_, _, _, _, _, h, k⟩ => k _ h _ H (Same.refl H) (.int i)
theorem e_bl {i j} : PE X (.Constant (.bool i) j pos) (LE P w X.K (dC (.bool i))) := PE.imp pe_bl fun _ H _ ⟨_, _, _, _, _, h, k⟩ => k _ h _ H (Same.refl H) (.bl i)
theorem e_non {j} : PE X (.Constant .none j pos) (LE P w X.K (dC .none)) := PE.imp pe_non fun _ H _ ⟨_, _, _, _, _, h, k⟩ => k _ h _ H (Same.refl H) .non
theorem e_str {i j} : PE X (.Constant (.str i) j pos) (LE P w X.K (dC (.str i))) := PE.imp pe_str fun _ H _ ⟨_, _, _, _, _, h, k⟩ => k _ h _ H (Same.refl H) (.str i)
/-- a module's constant: an object of the written part, or a plain value -/
structure Glo (K : PySem.W.Frag) (mg : Str → Option Value) (x : Str) (d : D) : Prop where
  ex : ∃ (v : V) (u : Value), mg x = some u ∧ RelV v u ∧ ∀ H, Rp K H v d
theorem e_glob {x : Str} {d : D} (hg : Gl X x) (g : Glo X.K X.mg x d) (hd : (x == ("__debug__" : Str)) = false := by decide) : PE X (.Name x pos) (LE P w X.K (dC d)) := by
  obtain ⟨v, u, h1, h2, h3⟩ := g.ex
  exact PE.imp (pe_glob hg h1 h2 hd) fun _ H _ ⟨_, _, _, _, _, h, k⟩ => k _ h _ H (Same.refl H) (h3 _)

/-! ### operators -/
def dOp (f : D → D → EK → Prop) (a b : DE) : DE := fun ω Q => a ω fun x => b ω fun y => f x y Q
def dUn (f : D → EK → Prop) (a : DE) : DE := fun ω Q => a ω fun x => f x Q
def Sim2 (K : PySem.W.Frag) (r : R2) (f : D → D → EK → Prop) : Prop := ∀ (C : List Addr) (H : Hp) (x y : V) (dx dy : D) (R : EK) (Q : VK), (∀ p, H p = none → p ∉ C) → Rp K (hid C H) x dx → Rp K (hid C H) y dy → f dx dy R →
  (∀ d, R d → ∀ v H', Same H H' → Rp K (hid C H') v d → Q v H') → r x y H Q
def Sim1 (K : PySem.W.Frag) (r : V → Hp → VK → Prop) (f : D → EK → Prop) : Prop := ∀ (C : List Addr) (H : Hp) (x : V) (dx : D) (R : EK) (Q : VK), (∀ p, H p = none → p ∉ C) → Rp K (hid C H) x dx → f dx R →
  (∀ d, R d → ∀ v H', Same H H' → Rp K (hid C H') v d → Q v H') → r x H Q
def SimC (K : PySem.W.Frag) (r : List V → Hp → VK → Prop) (f : List D → EK → Prop) : Prop := ∀ (C : List Addr) (H : Hp) (xs : List V) (ds : List D) (R : EK) (Q : VK), (∀ p, H p = none → p ∉ C) → RpAll K (hid C H) xs ds → f ds R →
  (∀ d, R d → ∀ v H', Same H H' → Rp K (hid C H') v d → Q v H') → r xs H Q
theorem Sim2.or {K : PySem.W.Frag} {r r' : R2} {f f' : D → D → EK → Prop} (h : Sim2 K r f) (h' : Sim2 K r' f') : Sim2 K (fun x y H Q => r x y H Q ∨ r' x y H Q) (fun x y R => f x y R ∨ f' x y R) := by
  intro C H x y dx dy R Q hC rx ry hf k
  rcases hf with hf | hf
  · exact .inl (h C H x y dx dy R Q hC rx ry hf k)
  · exact .inr (h' C H x y dx dy R Q hC rx ry hf k)
theorem tOp_of {r : R2} {f : D → D → EK → Prop} {da db : DE} {K : PySem.W.Frag} (s : Sim2 K r f) {σ : L2.St} {H : Hp} {Q : VK} (h : LE P w K (dOp f da db) σ H Q) : tOp r (LE P w K da) (LE P w K db) σ H Q := by
  obtain ⟨F, A, ω, R, c, h, k⟩ := h
  refine ⟨F, A, ω, _, c, h, fun x hx v H1 e1 r1 => ?_⟩
  have c1 := c.mono e1
  refine ⟨F, A, ω, _, c1, hx, fun y hy u H2 e2 r2 => ?_⟩
  exact s (A ++ F.B) H2 v u x y R Q (fun p hp => (c1.mono e2).fresh hp) (r1.mono (hid_mono e2)) r2 hy fun d hd v' H' e' r' => k d hd v' H' ((e1.trans e2).trans e') r'
variable {a b c : Expr} {da db dc : DE}
theorem e_op {op : Operator} {r : R2} {f : D → D → EK → Prop} (ho : OpR X (binaryOp op) r) (s : Sim2 X.K r f) (ha : PE X a (LE P w X.K da)) (hb : PE X b (LE P w X.K db)) : PE X (.BinOp a op b pos) (LE P w X.K (dOp f da db)) :=
  PE.imp (pe_op ho ha hb) fun _ _ _ h => tOp_of s h
theorem e_un {op : UnaryOp} {r : V → Hp → VK → Prop} {f : D → EK → Prop} (ho : UnR X (unaryOp op) r) (s : Sim1 X.K r f) (ha : PE X a (LE P w X.K da)) : PE X (.UnaryOp op a pos) (LE P w X.K (dUn f da)) :=
  PE.imp (pe_un ho ha) fun σ H Q ⟨F, A, ω, R, c, h, k⟩ => ⟨F, A, ω, _, c, h, fun x hx v H1 e1 r1 => s (A ++ F.B) H1 v x R Q (fun p hp => (c.mono e1).fresh hp) r1 hx fun d hd v' H' e' r' => k d hd v' H' (e1.trans e') r'⟩
theorem e_cmp {op : CmpOp} {r : R2} {f : D → D → EK → Prop} (ho : OpR X (compareOp op) r) (s : Sim2 X.K r f) (ha : PE X a (LE P w X.K da)) (hb : PE X b (LE P w X.K db)) (hm : behindInMarks op b = false) : PE X (.Compare a [op] [b] pos) (LE P w X.K (dOp f da db)) :=
  PE.imp (pe_cmpR ho ha hb hm) fun _ _ _ h => tOp_of s h
/-- a value as a test -/
def dTest (a : DE) : DT := fun ω Q => a ω fun d => match d with
  | .bool b => Q b
  | _ => False
theorem tTest_of {K : PySem.W.Frag} {σ : L2.St} {H : Hp} {Q : Bool → Hp → Prop} {t : TE} (hi : ∀ σ H Q, LE P w K da σ H Q → t σ H Q) (h : LT P w K (dTest da) σ H Q) : tTest t σ H Q := by
  obtain ⟨F, A, ω, R, c, h, k⟩ := h
  refine hi _ _ _ ⟨F, A, ω, _, c, h, fun x hx v H1 e1 r1 => ?_⟩
  cases x with
  | bool b => cases r1; exact ⟨b, rfl, k b hx H1 e1⟩
  | _ => exact False.elim hx
theorem t_cmp {op : CmpOp} {r : R2} {f : D → D → EK → Prop} (ho : OpR X (compareOp op) r) (s : Sim2 X.K r f) (ha : PE X a (LE P w X.K da)) (hb : PE X b (LE P w X.K db)) (hm : behindInMarks op b = false) : PT X (.Compare a [op] [b] pos) (LT P w X.K (dTest (dOp f da db))) :=
  PT.imp (pt_cmpR ho ha hb hm) fun _ _ _ h => tTest_of (fun _ _ _ z => tOp_of s z) h
def dChain (f f' : D → D → EK → Prop) (a b c : DE) : DE := fun ω Q => a ω fun x => b ω fun y => f x y fun z => match z with
  | .bool true => c ω fun u => f' y u Q
  | .bool false => Q (.bool false)
  | _ => False
theorem tChain_of {r r' : R2} {f f' : D → D → EK → Prop} {K : PySem.W.Frag} (s : Sim2 K r f) (s' : Sim2 K r' f') {σ : L2.St} {H : Hp} {Q : VK} (h : LE P w K (dChain f f' da db dc) σ H Q) : tChain r r' (LE P w K da) (LE P w K db) (LE P w K dc) σ H Q := by
  obtain ⟨F, A, ω, R, c, h, k⟩ := h
  refine ⟨F, A, ω, _, c, h, fun x hx v H1 e1 r1 => ?_⟩
  have c1 := c.mono e1
  refine ⟨F, A, ω, _, c1, hx, fun y hy u H2 e2 r2 => ?_⟩
  have c2 := c1.mono e2
  refine s (A ++ F.B) H2 v u x y _ _ (fun p hp => c2.fresh hp) (r1.mono (hid_mono e2)) r2 hy fun z hz v3 H3 e3 r3 => ?_
  have e13 := (e1.trans e2).trans e3
  cases z with
  | bool t =>
    cases r3
    cases t with
    | true =>
      refine ⟨true, rfl, ?_⟩
      rw [if_pos rfl]
      refine ⟨F, A, ω, _, c.mono e13, hz, fun u4 h4 v4 H4 e4 r4 => ?_⟩
      exact s' (A ++ F.B) H4 u v4 y u4 R Q (fun p hp => (c.mono (e13.trans e4)).fresh hp) (r2.mono (hid_mono (e3.trans e4))) r4 h4 fun d hd v' H' e' r' => k d hd v' H' ((e13.trans e4).trans e') r'
    | false =>
      refine ⟨false, rfl, ?_⟩
      rw [if_neg Bool.false_ne_true]
      exact k _ hz _ H3 e13 (.bl false)
  | _ => exact False.elim hz
theorem e_chain {op op' : CmpOp} {r r' : R2} {f f' : D → D → EK → Prop} (ho : OpR X (compareOp op) r) (ho' : OpR X (compareOp op') r') (s : Sim2 X.K r f) (s' : Sim2 X.K r' f') (ha : PE X a (LE P w X.K da)) (hb : PE X b (LE P w X.K db)) (hc : PE X c (LE P w X.K dc))
    (hm : lastMarks [op, op'] [b, c] = false := by with_unfolding_all rfl) : PE X (.Compare a [op, op'] [b, c] pos) (LE P w X.K (dChain f f' da db dc)) :=
  PE.imp (pe_chain ho ho' ha hb hc hm) fun _ _ _ h => tChain_of s s' h
theorem t_chain {op op' : CmpOp} {r r' : R2} {f f' : D → D → EK → Prop} (ho : OpR X (compareOp op) r) (ho' : OpR X (compareOp op') r') (s : Sim2 X.K r f) (s' : Sim2 X.K r' f') (ha : PE X a (LE P w X.K da)) (hb : PE X b (LE P w X.K db)) (hc : PE X c (LE P w X.K dc))
    (hm : lastMarks [op, op'] [b, c] = false := by with_unfolding_all rfl) : PT X (.Compare a [op, op'] [b, c] pos) (LT P w X.K (dTest (dChain f f' da db dc))) :=
  PT.imp (pt_chain ho ho' ha hb hc hm) fun _ _ _ h => tTest_of (fun _ _ _ z => tChain_of s s' z) h
/-- a call, a name ..: a value that is a bool -/
theorem t_val {e : Expr} (h : PE X e (LE P w X.K da)) (he : ∀ whole, isTrue e X.env whole = (do let v ← whole; standAt e.pos; holding [v] (truthy v)) := by intro _; rfl) : PT X e (LT P w X.K (dTest da)) :=
  PT.imp (pt_val h he) fun _ _ _ h => tTest_of (fun _ _ _ z => z) h

/-! ### and, or, not, if -/
variable {tA tB : DT} {rest : List Expr}
def dAnd (t u : DT) : DT := fun ω Q => t ω fun c => if c = true then u ω Q else Q false
def dOr (t u : DT) : DT := fun ω Q => t ω fun c => if c = true then Q true else u ω Q
def dNot (t : DT) : DT := fun ω Q => t ω fun c => Q (!c)
theorem w_and1 (ha : PT X a (LT P w X.K tA)) : PW X (.BoolOp .And [a] pos) (LT P w X.K tA) := pw_and1 ha
theorem w_or1 (ha : PT X a (LT P w X.K tA)) : PW X (.BoolOp .Or [a] pos) (LT P w X.K tA) := pw_or1 ha
theorem w_and (ha : PT X a (LT P w X.K tA)) (hb : PW X (.BoolOp .And (b :: rest) pos) (LT P w X.K tB)) : PW X (.BoolOp .And (a :: b :: rest) pos) (LT P w X.K (dAnd tA tB)) :=
  PW.imp (pw_and ha hb) fun σ H Q ⟨F, A, ω, R, c, h, k⟩ => ⟨F, A, ω, _, c, h, fun x hx H1 e1 => by
    cases x with
    | true => exact ⟨F, A, ω, R, c.mono e1, hx, fun y hy H2 e2 => k y hy H2 (e1.trans e2)⟩
    | false => exact k false hx H1 e1⟩
theorem w_or (ha : PT X a (LT P w X.K tA)) (hb : PW X (.BoolOp .Or (b :: rest) pos) (LT P w X.K tB)) : PW X (.BoolOp .Or (a :: b :: rest) pos) (LT P w X.K (dOr tA tB)) :=
  PW.imp (pw_or ha hb) fun σ H Q ⟨F, A, ω, R, c, h, k⟩ => ⟨F, A, ω, _, c, h, fun x hx H1 e1 => by
    cases x with
    | true => exact k true hx H1 e1
    | false => exact ⟨F, A, ω, R, c.mono e1, hx, fun y hy H2 e2 => k y hy H2 (e1.trans e2)⟩⟩
theorem t_not (ha : PT X a (LT P w X.K tA)) : PT X (.UnaryOp .Not a pos) (LT P w X.K (dNot tA)) :=
  PT.imp (pt_not ha) fun σ H Q ⟨F, A, ω, R, c, h, k⟩ => ⟨F, A, ω, _, c, h, fun x hx H1 e1 => k _ hx H1 e1⟩
/-- .. as values: all but the last are bools -/
def dAndV (a b : DE) : DE := fun ω Q => a ω fun x => match x with
  | .bool true => b ω Q
  | .bool false => Q (.bool false)
  | _ => False
def dOrV (a b : DE) : DE := fun ω Q => a ω fun x => match x with
  | .bool true => Q (.bool true)
  | .bool false => b ω Q
  | _ => False
def dNotV (a : DE) : DE := fun ω Q => a ω fun x => match x with
  | .bool b => Q (.bool (!b))
  | _ => False
theorem e_one {op} (h : PE X a (LE P w X.K da)) : PE X (.BoolOp op [a] pos) (LE P w X.K da) := pe_one h
theorem e_and (ha : PE X a (LE P w X.K da)) (hb : PE X (.BoolOp .And (b :: rest) pos) (LE P w X.K db)) : PE X (.BoolOp .And (a :: b :: rest) pos) (LE P w X.K (dAndV da db)) :=
  PE.imp (pe_and ha hb) fun σ H Q ⟨F, A, ω, R, c, h, k⟩ => ⟨F, A, ω, _, c, h, fun x hx v H1 e1 r1 => by
    cases x with
    | bool t =>
      cases r1
      cases t with
      | true => exact ⟨true, rfl, F, A, ω, R, c.mono e1, hx, fun y hy v2 H2 e2 r2 => k y hy v2 H2 (e1.trans e2) r2⟩
      | false => exact ⟨false, rfl, k _ hx _ H1 e1 (.bl false)⟩
    | _ => exact False.elim hx⟩
theorem e_or (ha : PE X a (LE P w X.K da)) (hb : PE X (.BoolOp .Or (b :: rest) pos) (LE P w X.K db)) : PE X (.BoolOp .Or (a :: b :: rest) pos) (LE P w X.K (dOrV da db)) :=
  PE.imp (pe_or ha hb) fun σ H Q ⟨F, A, ω, R, c, h, k⟩ => ⟨F, A, ω, _, c, h, fun x hx v H1 e1 r1 => by
    cases x with
    | bool t =>
      cases r1
      cases t with
      | true => exact ⟨true, rfl, k _ hx _ H1 e1 (.bl true)⟩
      | false => exact ⟨false, rfl, F, A, ω, R, c.mono e1, hx, fun y hy v2 H2 e2 r2 => k y hy v2 H2 (e1.trans e2) r2⟩
    | _ => exact False.elim hx⟩
theorem e_not (ha : PE X a (LE P w X.K da)) : PE X (.UnaryOp .Not a pos) (LE P w X.K (dNotV da)) :=
  PE.imp (pe_not ha) fun σ H Q ⟨F, A, ω, R, c, h, k⟩ => ⟨F, A, ω, _, c, h, fun x hx v H1 e1 r1 => by
    cases x with
    | bool t => cases r1; exact ⟨t, rfl, k _ hx _ H1 e1 (.bl _)⟩
    | _ => exact False.elim hx⟩
def dIf (t : DT) (a b : DE) : DE := fun ω Q => t ω fun c => if c = true then a ω Q else b ω Q
theorem e_if {c : Expr} (hc : PT X c (LT P w X.K tA)) (ha : PE X a (LE P w X.K da)) (hb : PE X b (LE P w X.K db)) : PE X (.IfExp c a b pos) (LE P w X.K (dIf tA da db)) :=
  PE.imp (pe_ifExp hc ha hb) fun σ H Q ⟨F, A, ω, R, c, h, k⟩ => ⟨F, A, ω, _, c, h, fun x hx H1 e1 => by
    cases x with
    | true => exact ⟨F, A, ω, R, c.mono e1, hx, fun y hy v2 H2 e2 r2 => k y hy v2 H2 (e1.trans e2) r2⟩
    | false => exact ⟨F, A, ω, R, c.mono e1, hx, fun y hy v2 H2 e2 r2 => k y hy v2 H2 (e1.trans e2) r2⟩⟩

/-! ### lists of expressions -/
def dNil : DD := fun _ Q => Q []
def dCons (a : DE) (r : DD) : DD := fun ω Q => a ω fun x => r ω fun xs => Q (x :: xs)
theorem d_nil : PA X [] (LD P w X.K 0 dNil) := PA.imp pa_nil fun σ H Q ⟨_, _, _, _, _, h, k⟩ => k [] h rfl [] H (Same.refl H) .nil
theorem d_cons {e : Expr} {es : List Expr} {n : Nat} {dr : DD} (ha : PE X e (LE P w X.K da)) (hr : PA X es (LD P w X.K n dr)) (hs : starEach (e :: es) X.env = (false, eval e X.env) :: starEach es X.env := by rfl) : PA X (e :: es) (LD P w X.K (n + 1) (dCons da dr)) :=
  PA.imp (pa_cons ha hr hs) fun σ H Q ⟨F, A, ω, R, c, h, k⟩ => ⟨F, A, ω, _, c, h, fun x hx v H1 e1 r1 => ⟨F, A, ω, _, c.mono e1, hx, fun ys hy hl vs H2 e2 r2 =>
    k (x :: ys) hy (by rw [List.length_cons, hl]) (v :: vs) H2 (e1.trans e2) (.cons (r1.mono (hid_mono e2)) r2)⟩⟩
def aNil : DA := fun _ Q => Q []
def aCons (a : DE) (r : DA) : DA := fun ω Q => a ω fun x => r ω fun xs => Q (.dat x :: xs)
/-- the tape, the script: a name's slot as it is -/
def aSlot (i : Nat) (r : DA) : DA := fun ω Q => match ω[i]? with
  | some .tape => r ω fun xs => Q (.tape :: xs)
  | some (.scr ns) => r ω fun xs => Q (.scr ns :: xs)
  | _ => False
theorem ArgR.mono {K : PySem.W.Frag} {C : List Addr} {H H' : Hp} (e : Same H H') {v : V} : ∀ {s : SV}, ArgR P w K C H v s → ArgR P w K C H' v s
  | .dat d, h => Rp.mono (hid_mono e) h
  | .tape, ⟨a, h1, h2⟩ => ⟨a, h1, e _ _ h2⟩
  | .scr ns, ⟨a, h1, h2⟩ => ⟨a, h1, h2.mono e⟩
  | .un, h => h.elim
  | .own _, h => h.elim
theorem a_nil : PA X [] (LA P w X.K 0 aNil) := PA.imp pa_nil fun σ H Q ⟨_, _, _, _, _, h, k⟩ => k [] h rfl [] H (Same.refl H) .nil
theorem a_cons {e : Expr} {es : List Expr} {n : Nat} {dr : DA} (ha : PE X e (LE P w X.K da)) (hr : PA X es (LA P w X.K n dr)) (hs : starEach (e :: es) X.env = (false, eval e X.env) :: starEach es X.env := by rfl) : PA X (e :: es) (LA P w X.K (n + 1) (aCons da dr)) :=
  PA.imp (pa_cons ha hr hs) fun σ H Q ⟨F, A, ω, R, c, h, k⟩ => ⟨F, A, ω, _, c, h, fun x hx v H1 e1 r1 => ⟨F, A, ω, _, c.mono e1, hx, fun ys hy hl vs H2 e2 r2 =>
    k (.dat x :: ys) hy (by rw [List.length_cons, hl]) (v :: vs) H2 (e1.trans e2) (.cons (r1.mono (hid_mono e2)) r2)⟩⟩
theorem a_slot {i : Nat} {x : Str} {es : List Expr} {n : Nat} {dr : DA} (hN : X.N[i]? = some x) (hv : Vis X.env.scope x) (hr : PA X es (LA P w X.K n dr)) (hs : starEach (.Name x pos :: es) X.env = (false, eval (.Name x pos) X.env) :: starEach es X.env := by rfl)
    (hd : (x == ("__debug__" : Str)) = false := by decide) (hcd : (x == ("__classdict__" : Str)) = false := by decide) : PA X (.Name x pos :: es) (LA P w X.K (n + 1) (aSlot i dr)) := by
  refine PA.imp (pa_cons (pe_var hN hv hd hcd) hr hs) fun σ H Q h => ?_
  obtain ⟨F, A, ω, R, c, h, k⟩ := h
  unfold aSlot at h
  split at h
  · rename_i e
    obtain ⟨a, h1, h2⟩ := c.sl i _ e
    exact ⟨_, h1, F, A, ω, _, c, h, fun ys hy hl vs H2 e2 r2 => k _ hy (by rw [List.length_cons, hl]) _ H2 e2 (.cons ⟨a, rfl, e2 _ _ h2⟩ r2)⟩
  · rename_i ns e
    obtain ⟨a, h1, h2⟩ := c.sl i _ e
    exact ⟨_, h1, F, A, ω, _, c, h, fun ys hy hl vs H2 e2 r2 => k _ hy (by rw [List.length_cons, hl]) _ H2 e2 (.cons ⟨a, rfl, h2.mono e2⟩ r2)⟩
  · exact h.elim

/-! ### displays -/
def dTup (a : DD) : DE := fun ω Q => a ω fun ds => Q (.tuple ds)
def dLst (a : DD) : DE := fun ω Q => a ω fun ds => Q (.list ds)
theorem e_tup {es : List Expr} {k : Nat} {n : Nat} {dr : DD} (h : PA X es (LD P w X.K n dr)) (hn : n ≤ sizeLine := by decide) : PE X (.Tuple es k pos) (LE P w X.K (dTup dr)) :=
  PE.imp (pe_tup h) fun σ H Q ⟨F, A, ω, R, c, h, k⟩ => ⟨F, A, ω, _, c, h, fun ds hd hl vs H1 e1 r1 => ⟨by rw [r1.length, hl]; exact hn, fun p hp =>
    k _ hd _ _ (e1.trans (same_new hp)) (rp_tup_new ((c.mono e1).fresh hp) hp (by rw [r1.length, hl]; exact hn) r1)⟩⟩
theorem e_lst {es : List Expr} {n : Nat} {dr : DD} (h : PA X es (LD P w X.K n dr)) (hn : n ≤ sizeLine := by decide) : PE X (.List es pos) (LE P w X.K (dLst dr)) :=
  PE.imp (pe_lst h) fun σ H Q ⟨F, A, ω, R, c, h, k⟩ => ⟨F, A, ω, _, c, h, fun ds hd hl vs H1 e1 r1 => ⟨by rw [r1.length, hl]; exact hn, fun p hp =>
    k _ hd _ _ (e1.trans (same_new hp)) (rp_lst_new ((c.mono e1).fresh hp) hp (by rw [r1.length, hl]; exact hn) r1)⟩⟩
/-- {} -/
theorem e_dct0 : PE X (.Dict [] [] pos) (LE P w X.K (dC (.dict []))) :=
  PE.imp pe_dnewK fun σ H Q ⟨F, A, ω, R, c, h, k⟩ p hp => k _ h _ _ (same_new hp) (.dct (hid_of (c.fresh hp) upd_same) .nil)

/-! ### calls of built-ins by name -/
def dCall (f : List D → EK → Prop) (a : DD) : DE := fun ω Q => a ω fun ds => f ds Q
theorem tCB_of {K : PySem.W.Frag} {r : List V → Hp → VK → Prop} {f : List D → EK → Prop} {n : Nat} {dr : DD} (s : SimC K r f) {σ : L2.St} {H : Hp} {Q : VK} (h : LE P w K (dCall f dr) σ H Q) : tCB r (LD P w K n dr) σ H Q := by
  obtain ⟨F, A, ω, R, c, h, k⟩ := h
  exact ⟨F, A, ω, _, c, h, fun ds hd hl vs H1 e1 r1 => s (A ++ F.B) H1 vs ds R Q (fun p hp => (c.mono e1).fresh hp) r1 hd fun d hd' v' H' e' r' => k d hd' v' H' (e1.trans e') r'⟩
theorem e_callB {x : Str} {p : Pos} {e : Expr} {es : List Expr} {id : String} {r : List V → Hp → VK → Prop} {f : List D → EK → Prop} {n : Nat} {dr : DD} (hc : CallR X (.builtin id) r) (s : SimC X.K r f) (hg : Gl X x) (hm : X.mg x = none) (hv : bootBuiltins x = some (.builtin id)) (ha : PA X (e :: es) (LD P w X.K n dr))
    (hd : (x == ("__debug__" : Str)) = false := by decide) (hn : x ≠ "__name__" := by decide) (he : starEach (e :: es) X.env = (false, eval e X.env) :: starEach es X.env := by rfl) (hpl : (backTo pos (starEach es X.env)).any (·.1) = false := by rfl) :
    PE X (.Call (.Name x p) (e :: es) [] pos) (LE P w X.K (dCall f dr)) := by
  refine PE.imp (pe_callB hc hg hm hv ha (hn := hn) (hdb := hd) (he := he) (hpl := hpl)) fun _ _ _ h => tCB_of s h
theorem e_callTy {x : Str} {p : Pos} {e : Expr} {es : List Expr} {T : String} {r : List V → Hp → VK → Prop} {f : List D → EK → Prop} {n : Nat} {dr : DD} (hc : CallR X (.type T) r) (s : SimC X.K r f) (hg : Gl X x) (hm : X.mg x = none) (hv : bootBuiltins x = some (.type T)) (ha : PA X (e :: es) (LD P w X.K n dr))
    (hd : (x == ("__debug__" : Str)) = false := by decide) (hn : x ≠ "__name__" := by decide) (he : starEach (e :: es) X.env = (false, eval e X.env) :: starEach es X.env := by rfl) (hpl : (backTo pos (starEach es X.env)).any (·.1) = false := by rfl) :
    PE X (.Call (.Name x p) (e :: es) [] pos) (LE P w X.K (dCall f dr)) := by
  refine PE.imp (pe_callTy hc hg hm hv ha (hn := hn) (hdb := hd) (he := he) (hpl := hpl)) fun _ _ _ h => tCB_of s h
end
end DL
/-! DL: the operators and built-ins by what they do to data. -/
namespace DL
open PySem PySem.Spec PyProof.Rows L2

structure OpD (X : Cx) (op : Operator) (f : D → D → EK → Prop) : Prop where
  ex : ∃ r : R2, OpR X (binaryOp op) r ∧ Sim2 X.K r f
structure CmD (X : Cx) (op : CmpOp) (f : D → D → EK → Prop) : Prop where
  ex : ∃ r : R2, OpR X (compareOp op) r ∧ Sim2 X.K r f
structure UnD (X : Cx) (op : UnaryOp) (f : D → EK → Prop) : Prop where
  ex : ∃ r : V → Hp → VK → Prop, UnR X (unaryOp op) r ∧ Sim1 X.K r f
structure CbD (X : Cx) (u : Value) (f : List D → EK → Prop) : Prop where
  ex : ∃ r : List V → Hp → VK → Prop, CallR X u r ∧ SimC X.K r f
section
variable {P : Program} {w : World} {X : Cx} {pos : Pos} {a b c : Expr} {da db dc : DE} {f f' : D → D → EK → Prop}
theorem e_bin {op : Operator} (o : OpD X op f) (ha : PE X a (LE P w X.K da)) (hb : PE X b (LE P w X.K db)) : PE X (.BinOp a op b pos) (LE P w X.K (dOp f da db)) := by
  obtain ⟨r, h1, h2⟩ := o.ex
  exact e_op h1 h2 ha hb
theorem e_unD {op : UnaryOp} {f : D → EK → Prop} (o : UnD X op f) (ha : PE X a (LE P w X.K da)) : PE X (.UnaryOp op a pos) (LE P w X.K (dUn f da)) := by
  obtain ⟨r, h1, h2⟩ := o.ex
  exact e_un h1 h2 ha
theorem e_cmpD {op : CmpOp} (o : CmD X op f) (ha : PE X a (LE P w X.K da)) (hb : PE X b (LE P w X.K db)) (hm : behindInMarks op b = false := by first | exact nomark _ | rfl | with_unfolding_all rfl) : PE X (.Compare a [op] [b] pos) (LE P w X.K (dOp f da db)) := by
  obtain ⟨r, h1, h2⟩ := o.ex
  exact e_cmp h1 h2 ha hb hm
theorem t_cmpD {op : CmpOp} (o : CmD X op f) (ha : PE X a (LE P w X.K da)) (hb : PE X b (LE P w X.K db)) (hm : behindInMarks op b = false := by first | exact nomark _ | rfl | with_unfolding_all rfl) : PT X (.Compare a [op] [b] pos) (LT P w X.K (dTest (dOp f da db))) := by
  obtain ⟨r, h1, h2⟩ := o.ex
  exact t_cmp h1 h2 ha hb hm
theorem e_chainD {op op' : CmpOp} (o : CmD X op f) (o' : CmD X op' f') (ha : PE X a (LE P w X.K da)) (hb : PE X b (LE P w X.K db)) (hc : PE X c (LE P w X.K dc)) (hm : lastMarks [op, op'] [b, c] = false := by with_unfolding_all rfl) : PE X (.Compare a [op, op'] [b, c] pos) (LE P w X.K (dChain f f' da db dc)) := by
  obtain ⟨r, h1, h2⟩ := o.ex
  obtain ⟨r', h1', h2'⟩ := o'.ex
  exact e_chain h1 h1' h2 h2' ha hb hc hm
theorem t_chainD {op op' : CmpOp} (o : CmD X op f) (o' : CmD X op' f') (ha : PE X a (LE P w X.K da)) (hb : PE X b (LE P w X.K db)) (hc : PE X c (LE P w X.K dc)) (hm : lastMarks [op, op'] [b, c] = false := by with_unfolding_all rfl) : PT X (.Compare a [op, op'] [b, c] pos) (LT P w X.K (dTest (dChain f f' da db dc))) := by
  obtain ⟨r, h1, h2⟩ := o.ex
  obtain ⟨r', h1', h2'⟩ := o'.ex
  exact t_chain h1 h1' h2 h2' ha hb hc hm
theorem e_cbB {x : Str} {p : Pos} {e : Expr} {es : List Expr} {id : String} {f : List D → EK → Prop} {n : Nat} {dr : DD} (o : CbD X (.builtin id) f) (hm : X.mg x = none) (hv : bootBuiltins x = some (.builtin id)) (ha : PA X (e :: es) (LD P w X.K n dr)) (hg : Gl X x := by rfl)
    (hd : (x == ("__debug__" : Str)) = false := by decide) (hn : x ≠ "__name__" := by decide) (he : starEach (e :: es) X.env = (false, eval e X.env) :: starEach es X.env := by rfl) (hpl : (backTo pos (starEach es X.env)).any (·.1) = false := by rfl) :
    PE X (.Call (.Name x p) (e :: es) [] pos) (LE P w X.K (dCall f dr)) := by
  obtain ⟨r, h1, h2⟩ := o.ex
  exact e_callB h1 h2 hg hm hv ha (hd := hd) (hn := hn) (he := he) (hpl := hpl)
theorem e_cbT {x : Str} {p : Pos} {e : Expr} {es : List Expr} {T : String} {f : List D → EK → Prop} {n : Nat} {dr : DD} (o : CbD X (.type T) f) (hm : X.mg x = none) (hv : bootBuiltins x = some (.type T)) (ha : PA X (e :: es) (LD P w X.K n dr)) (hg : Gl X x := by rfl)
    (hd : (x == ("__debug__" : Str)) = false := by decide) (hn : x ≠ "__name__" := by decide) (he : starEach (e :: es) X.env = (false, eval e X.env) :: starEach es X.env := by rfl) (hpl : (backTo pos (starEach es X.env)).any (·.1) = false := by rfl) :
    PE X (.Call (.Name x p) (e :: es) [] pos) (LE P w X.K (dCall f dr)) := by
  obtain ⟨r, h1, h2⟩ := o.ex
  exact e_callTy h1 h2 hg hm hv ha (hd := hd) (hn := hn) (he := he) (hpl := hpl)
end

/-! ### arithmetic -/
def fAdd : D → D → EK → Prop
  | .int i, .int j, Q => Q (.int (i + j))
  | .str s, .str t, Q => s.length + t.length ≤ sizeLine ∧ Q (.str (s ++ t))
  | .tuple xs, .tuple ys, Q => xs.length + ys.length ≤ sizeLine ∧ Q (.tuple (xs ++ ys))
  | .list xs, .list ys, Q => xs.length + ys.length ≤ sizeLine ∧ Q (.list (xs ++ ys))
  | _, _, _ => False
/-- a function of two ints -/
def fI (g : Int → Int → D) : D → D → EK → Prop
  | .int i, .int j, Q => Q (g i j)
  | _, _, _ => False
def fIc (C : Int → Int → Prop) (g : Int → Int → D) : D → D → EK → Prop
  | .int i, .int j, Q => C i j ∧ Q (g i j)
  | _, _, _ => False
/-- ints or texts, by their order -/
def fIS (g : Int → Int → Bool) (h : Str → Str → Bool) : D → D → EK → Prop
  | .int i, .int j, Q => Q (.bool (g i j))
  | .str i, .str j, Q => Q (.bool (h i j))
  | _, _, _ => False
section
variable {X : Cx} {K : PySem.W.Frag}
theorem sim_I {g : Int → Int → Int} : Sim2 K (rI0 fun i j => .int (g i j)) (fI fun i j => .int (g i j)) := by
  intro C H x y dx dy R Q hC rx ry hf k
  cases rx with
  | int i => cases ry with
    | int j => exact ⟨i, j, rfl, rfl, k _ hf _ H (Same.refl H) (.int _)⟩
    | _ => exact hf.elim
  | _ => exact hf.elim
theorem sim_Ic {C : Int → Int → Prop} {g : Int → Int → Int} : Sim2 K (rI C fun i j => .int (g i j)) (fIc C fun i j => .int (g i j)) := by
  intro C H x y dx dy R Q hC rx ry hf k
  cases rx with
  | int i => cases ry with
    | int j => exact ⟨i, j, rfl, rfl, hf.1, k _ hf.2 _ H (Same.refl H) (.int _)⟩
    | _ => exact hf.elim
  | _ => exact hf.elim
theorem oAdd : OpD X .Add fAdd := by
  refine ⟨_, ((op_add.or op_add_str).or (op_catA.or op_cat)), ?_⟩
  intro C H x y dx dy R Q hC rx ry hf k
  cases rx with
  | int i => cases ry with
    | int j => exact .inl (.inl ⟨i, j, rfl, rfl, k _ hf _ H (Same.refl H) (.int _)⟩)
    | _ => exact False.elim hf
  | str i => cases ry with
    | str j => exact .inl (.inr ⟨i, j, rfl, rfl, hf.1, k _ hf.2 _ H (Same.refl H) (.str _)⟩)
    | _ => exact False.elim hf
  | tup h1 z1 r1 => cases ry with
    | tup h2 z2 r2 =>
      rename_i a xs ds b ys es
      obtain ⟨hz, hR⟩ : ds.length + es.length ≤ sizeLine ∧ R (.tuple (ds ++ es)) := hf
      refine .inr (.inl ⟨a, b, xs, ys, rfl, rfl, SqT.out h1, SqT.out h2, by rw [r1.length, r2.length]; exact hz, fun e => ?_, fun _ e => ?_, fun _ _ p hp => ?_⟩)
      · subst e
        cases r1
        exact k _ hR _ H (Same.refl H) (.tup h2 z2 r2)
      · subst e
        cases r2
        rw [List.append_nil] at hR
        exact k _ hR _ H (Same.refl H) (.tup h1 z1 r1)
      · exact k _ hR _ _ (same_new hp) (rp_tup_new (hC p hp) hp (by rw [List.length_append, r1.length, r2.length]; exact hz) (r1.append r2))
    | _ => exact False.elim hf
  | lst h1 z1 r1 => cases ry with
    | lst h2 z2 r2 =>
      rename_i a xs ds b ys es
      obtain ⟨hz, hR⟩ : ds.length + es.length ≤ sizeLine ∧ R (.list (ds ++ es)) := hf
      refine .inr (.inr ⟨a, b, xs, ys, rfl, rfl, hid_le _ _ h1, hid_le _ _ h2, by rw [r1.length, r2.length]; exact hz, fun p hp => ?_⟩)
      exact k _ hR _ _ (same_new hp) (rp_lst_new (hC p hp) hp (by rw [List.length_append, r1.length, r2.length]; exact hz) (r1.append r2))
    | _ => exact False.elim hf
  | non => exact False.elim hf
  | bl => exact False.elim hf
  | dct => exact False.elim hf
theorem oSub : OpD X .Sub (fI fun i j => .int (i - j)) := ⟨_, op_sub, sim_I⟩
theorem oMod : OpD X .Mod (fIc (fun _ j => 0 < j) fun i j => .int (i % j)) := ⟨_, op_mod, sim_Ic⟩
theorem oDiv : OpD X .FloorDiv (fIc CDivW fun i j => .int (i / j)) := ⟨_, op_fdivW, sim_Ic⟩
/-- a power that is small enough for the machine -/
def CPowB (i j : Int) : Prop := 0 ≤ j ∧ (Builtin.Int.intBits i : Int) * j ≤ 2 ^ 27
theorem op_powB : OpR X (binaryOp .Pow) (rI CPowB fun i j => .int (i ^ j.toNat)) := opI fun _ _ _ _ _ _ _ hc q => PyProof.Rows.pow_int hc.1 hc.2 q
theorem oPow : OpD X .Pow (fIc CPowB fun i j => .int (i ^ j.toNat)) := ⟨_, op_powB, sim_Ic⟩
/-- a product that the machine makes; a text, a list repeated -/
def fMul : D → D → EK → Prop
  | .int i, .int j, Q => IntMulOk i j ∧ Q (.int (i * j))
  | .str s, .int n, Q => MulOk s n ∧ Q (.str (Txt.mul s n))
  | .list xs, .int n, Q => (-(2 ^ 63) ≤ n ∧ n < 2 ^ 63 ∧ xs.length * n.toNat ≤ sizeLine) ∧ Q (.list (List.replicate n.toNat xs).flatten)
  | _, _, _ => False
theorem op_mulB : OpR X (binaryOp .Mult) (rI IntMulOk fun i j => .int (i * j)) := opI fun _ _ _ _ _ _ _ hc q => mul_int q hc
theorem op_mulS : OpR X (binaryOp .Mult) (fun x y H Q => ∃ (s : Str) (n : Int), x = .str s ∧ y = .int n ∧ MulOk s n ∧ Q (.str (Txt.mul s n)) H) := by
  intro pins s σ H x y v u Q I rx ry h
  obtain ⟨i, j, rfl, rfl, hz, q⟩ := h
  obtain ⟨t, rfl⟩ := rx
  obtain ⟨t', rfl⟩ := ry
  exact SB.mul hz fun t' k => ⟨.str _, H, I.tok _, ⟨_, rfl⟩, q⟩
theorem RpAll.rep {H : Hp} {vs : List V} {ds : List D} (r : RpAll K H vs ds) : ∀ n : Nat, RpAll K H (List.replicate n vs).flatten (List.replicate n ds).flatten
  | 0 => .nil
  | n + 1 => by
    rw [List.replicate_succ, List.replicate_succ, List.flatten_cons, List.flatten_cons]
    exact r.append (RpAll.rep r n)
theorem flat_len {α : Type} (xs : List α) (n : Nat) : (List.replicate n xs).flatten.length = xs.length * n := by
  induction n with
  | zero => rfl
  | succ n ih => rw [List.replicate_succ, List.flatten_cons, List.length_append, ih, Nat.mul_succ, Nat.add_comm]
theorem oMul : OpD X .Mult fMul := by
  refine ⟨_, ((op_mulB.or op_mulS).or op_rep), ?_⟩
  intro C H x y dx dy R Q hC rx ry hf k
  cases rx with
  | int i => cases ry with
    | int j => exact .inl (.inl ⟨i, j, rfl, rfl, hf.1, k _ hf.2 _ H (Same.refl H) (.int _)⟩)
    | _ => exact False.elim hf
  | str i => cases ry with
    | int j => exact .inl (.inr ⟨i, j, rfl, rfl, hf.1, k _ hf.2 _ H (Same.refl H) (.str _)⟩)
    | _ => exact False.elim hf
  | lst h1 z1 r1 => cases ry with
    | int j =>
      rename_i a xs ds
      obtain ⟨⟨q1, q2, q3⟩, hR⟩ : (-(2 ^ 63) ≤ j ∧ j < 2 ^ 63 ∧ ds.length * j.toNat ≤ sizeLine) ∧ R (.list (List.replicate j.toNat ds).flatten) := hf
      refine .inr ⟨a, j, xs, rfl, rfl, hid_le _ _ h1, q1, q2, by rw [r1.length]; exact q3, fun p hp => ?_⟩
      exact k _ hR _ _ (same_new hp) (rp_lst_new (hC p hp) hp (by rw [flat_len, r1.length]; exact q3) (r1.rep _))
    | _ => exact False.elim hf
  | tup => exact False.elim hf
  | non => exact False.elim hf
  | bl => exact False.elim hf
  | dct => exact False.elim hf
def fNeg : D → EK → Prop
  | .int i, Q => Q (.int (-i))
  | _, _ => False
theorem oNeg : UnD X .USub fNeg := by
  refine ⟨_, un_neg, ?_⟩
  intro C H x dx R Q hC rx hf k
  cases rx with
  | int i => exact ⟨i, rfl, k _ hf _ H (Same.refl H) (.int _)⟩
  | _ => exact False.elim hf

/-! ### comparisons -/
def strLt (i j : Str) : Bool := decide (i.cps.toList < j.cps.toList)
theorem sim_IS {g : Int → Int → Bool} {h : Str → Str → Bool} {r r' : R2} (h1 : r = rI0 fun i j => .bl (g i j)) (h2 : r' = fun x y H Q => ∃ i j, x = .str i ∧ y = .str j ∧ Q (.bl (h i j)) H) : Sim2 K (fun x y H Q => r x y H Q ∨ r' x y H Q) (fIS g h) := by
  subst h1 h2
  intro C H x y dx dy R Q hC rx ry hf k
  cases rx with
  | int i => cases ry with
    | int j => exact .inl ⟨i, j, rfl, rfl, k _ hf _ H (Same.refl H) (.bl _)⟩
    | _ => exact False.elim hf
  | str i => cases ry with
    | str j => exact .inr ⟨i, j, rfl, rfl, k _ hf _ H (Same.refl H) (.bl _)⟩
    | _ => exact False.elim hf
  | _ => exact False.elim hf
theorem oLt : CmD X .Lt (fIS (fun i j => decide (i < j)) strLt) := ⟨_, op_lt.or op_lt_str, sim_IS rfl rfl⟩
theorem oLe : CmD X .LtE (fIS (fun i j => decide (i ≤ j)) fun i j => !strLt j i) := ⟨_, op_le.or op_le_str, sim_IS rfl rfl⟩
theorem oGt : CmD X .Gt (fIS (fun i j => decide (j < i)) fun i j => strLt j i) := ⟨_, op_gt.or op_gt_str, sim_IS rfl rfl⟩
theorem oGe : CmD X .GtE (fIS (fun i j => decide (j ≤ i)) fun i j => !strLt i j) := ⟨_, op_ge.or op_ge_str, sim_IS rfl rfl⟩
/-- is None -/
def isNon : D → Bool
  | .none => true
  | _ => false
def fIsN : D → D → EK → Prop := fun x y Q => y = .none ∧ Q (.bool (isNon x))
def fNotN : D → D → EK → Prop := fun x y Q => y = .none ∧ Q (.bool (!isNon x))
theorem rp_non {H : Hp} {v : V} {d : D} (r : Rp K H v d) : decide (v = .non) = isNon d := by
  cases r <;> rfl
theorem oIs : CmD X .Is fIsN := by
  refine ⟨_, op_isN, ?_⟩
  intro C H x y dx dy R Q hC rx ry hf k
  obtain ⟨rfl, hR⟩ := hf
  cases ry
  exact ⟨rfl, by rw [rp_non rx]; exact k _ hR _ H (Same.refl H) (.bl _)⟩
theorem oIsNot : CmD X .IsNot fNotN := by
  refine ⟨_, op_notN, ?_⟩
  intro C H x y dx dy R Q hC rx ry hf k
  obtain ⟨rfl, hR⟩ := hf
  cases ry
  exact ⟨rfl, by rw [rp_non rx]; exact k _ hR _ H (Same.refl H) (.bl _)⟩
/-- ==: two plain values, or data that can be laid -/
def plainD : D → Bool
  | .none | .bool _ | .int _ | .str _ => true
  | _ => false
def scalD : D → D → Bool
  | .none, .none | .none, .int _ | .int _, .none | .none, .bool _ | .bool _, .none | .none, .str _ | .str _, .none => true
  | .int _, .int _ | .bool _, .bool _ | .str _, .str _ => true
  | .int _, .str _ | .str _, .int _ | .bool _, .str _ | .str _, .bool _ => true
  | _, _ => false
def okEq (x y : D) : Bool := scalD x y || (SeqAt.shaped x && SeqAt.shaped y)
def fEq : D → D → EK → Prop := fun x y Q => okEq x y = true ∧ Q (.bool (PyData.eqv x y))
def fNe : D → D → EK → Prop := fun x y Q => okEq x y = true ∧ Q (.bool (!PyData.eqv x y))
mutual
theorem rp_dp {H : Hp} : ∀ (d : D) {v : V}, d.canLay0 = true → Rp K H v d → Dp K H v d
  | .none, _, _, .non => .non
  | .bool _, _, _, .bl b => .bl b
  | .int _, _, _, .int b => .int b
  | .str _, _, _, .str b => .str b
  | .list ds, _, h, .lst e z r => .lst (SqL.of e) (rp_dpAll ds (by simpa [PyData.canLay0] using h) r)
  | .tuple ds, _, h, .tup e z r => .tup e (rp_dpAll ds (by simpa [PyData.canLay0] using h) r)
  | .dict _, _, h, .dct _ _ => by simp [PyData.canLay0] at h
theorem rp_dpAll {H : Hp} : ∀ (ds : List D) {vs : List V}, PyData.canLayAll0 ds = true → RpAll K H vs ds → DpAll K H vs ds
  | [], _, _, .nil => .nil
  | d :: ds, _, h, .cons r t => by
    simp only [PyData.canLayAll0, Bool.and_eq_true] at h
    exact .cons (rp_dp d h.1 r) (rp_dpAll ds h.2 t)
end
theorem scal_of {H : Hp} {x y : V} {dx dy : D} (rx : Rp K H x dx) (ry : Rp K H y dy) (h : scalD dx dy = true) : scal x y = true ∧ decide (x = y) = PyData.eqv dx dy := by
  cases rx <;> cases ry <;> first
    | exact absurd h Bool.false_ne_true
    | exact ⟨rfl, rfl⟩
    | exact ⟨rfl, dec_int⟩
    | exact ⟨rfl, dec_bl⟩
    | (refine ⟨rfl, ?_⟩; show decide _ = (_ == _); rw [Bool.beq_eq_decide_eq]; simp; done)
    | (refine ⟨rfl, ?_⟩; simp [PyData.eqv]; done)
theorem oEq (hu : X.A.units + 64 < cLine) : CmD X .Eq fEq := by
  refine ⟨_, op_eq.or (op_eqD hu), ?_⟩
  intro C H x y dx dy R Q hC rx ry hf k
  obtain ⟨h1, hR⟩ := hf
  unfold okEq at h1
  rw [Bool.or_eq_true] at h1
  rcases h1 with h1 | h1
  · obtain ⟨e1, e2⟩ := scal_of rx ry h1
    exact .inl ⟨e1, by rw [e2]; exact k _ hR _ H (Same.refl H) (.bl _)⟩
  · rw [Bool.and_eq_true] at h1
    exact .inr ⟨dx, dy, rp_dp dx (SeqAt.canLay_of_shaped h1.1) (rx.mono hid_le), rp_dp dy (SeqAt.canLay_of_shaped h1.2) (ry.mono hid_le), h1.1, h1.2, k _ hR _ H (Same.refl H) (.bl _)⟩
theorem oNe (hu : X.A.units + 64 < cLine) : CmD X .NotEq fNe := by
  refine ⟨_, op_ne.or (op_neD hu), ?_⟩
  intro C H x y dx dy R Q hC rx ry hf k
  obtain ⟨h1, hR⟩ := hf
  unfold okEq at h1
  rw [Bool.or_eq_true] at h1
  rcases h1 with h1 | h1
  · obtain ⟨e1, e2⟩ := scal_of rx ry h1
    exact .inl ⟨e1, by rw [e2]; exact k _ hR _ H (Same.refl H) (.bl _)⟩
  · rw [Bool.and_eq_true] at h1
    exact .inr ⟨dx, dy, rp_dp dx (SeqAt.canLay_of_shaped h1.1) (rx.mono hid_le), rp_dp dy (SeqAt.canLay_of_shaped h1.2) (ry.mono hid_le), h1.1, h1.2, k _ hR _ H (Same.refl H) (.bl _)⟩
/-- in a list or tuple of plain values; a text in a text -/
def inD (x : D) (ys : List D) : Bool := ys.any fun y => PyData.eqv y x
def fIn (neg : Bool) : D → D → EK → Prop
  | x, .tuple ys, Q => (plainD x = true ∧ ys.all plainD = true) ∧ Q (.bool (if neg then !inD x ys else inD x ys))
  | x, .list ys, Q => (plainD x = true ∧ ys.all plainD = true) ∧ Q (.bool (if neg then !inD x ys else inD x ys))
  | .str i, .str j, Q => Q (.bool (if neg then (Builtin.Str.occurrences j i 0 j.length 1).isEmpty else !(Builtin.Str.occurrences j i 0 j.length 1).isEmpty))
  | _, _, _ => False
theorem flat_of {H : Hp} {v : V} {d : D} (r : Rp K H v d) (h : plainD d = true) : flatV v = true := by
  cases r <;> first | rfl | exact absurd h Bool.false_ne_true
theorem eqV_of {H : Hp} {x y : V} {dx dy : D} (rx : Rp K H x dx) (ry : Rp K H y dy) (hx : plainD dx = true) (hy : plainD dy = true) : eqV x y = PyData.eqv dx dy := by
  cases rx <;> cases ry <;> first | exact absurd hx Bool.false_ne_true | exact absurd hy Bool.false_ne_true | rfl
theorem flats_of {H : Hp} : ∀ {vs : List V} {ds : List D}, RpAll K H vs ds → ds.all plainD = true → vs.all flatV = true
  | _, _, .nil, _ => rfl
  | _, _, .cons r t, h => by
    rw [List.all_cons, Bool.and_eq_true] at h ⊢
    exact ⟨flat_of r h.1, flats_of t h.2⟩
theorem inV_of {H : Hp} {x : V} {dx : D} (rx : Rp K H x dx) (hx : plainD dx = true) : ∀ {vs : List V} {ds : List D}, RpAll K H vs ds → ds.all plainD = true → inV x vs = inD dx ds
  | _, _, .nil, _ => rfl
  | _, _, .cons r t, h => by
    rw [List.all_cons, Bool.and_eq_true] at h
    have ih := inV_of rx hx t h.2
    unfold inV inD at ih ⊢
    rw [List.any_cons, List.any_cons, ih, eqV_of r rx h.1 hx]
theorem sim_In (neg : Bool) {rS : R2} (hS : rS = fun x y H Q => ∃ i j, x = .str i ∧ y = .str j ∧ Q (.bl (if neg then (Builtin.Str.occurrences j i 0 j.length 1).isEmpty else !(Builtin.Str.occurrences j i 0 j.length 1).isEmpty)) H) : Sim2 K (fun x y H Q => rIn K neg x y H Q ∨ rS x y H Q) (fIn neg) := by
  subst hS
  intro C H x y dx dy R Q hC rx ry hf k
  cases ry with
  | tup h1 z1 r1 =>
    rename_i a xs ds
    obtain ⟨⟨q1, q2⟩, hR⟩ : (plainD dx = true ∧ ds.all plainD = true) ∧ R (.bool (if neg then !inD dx ds else inD dx ds)) := by cases dx <;> exact hf
    refine .inl ⟨a, xs, rfl, .inr (SqT.out h1), flat_of rx q1, flats_of r1 q2, ?_⟩
    rw [inV_of rx q1 r1 q2]
    exact k _ hR _ H (Same.refl H) (.bl _)
  | lst h1 z1 r1 =>
    rename_i a xs ds
    obtain ⟨⟨q1, q2⟩, hR⟩ : (plainD dx = true ∧ ds.all plainD = true) ∧ R (.bool (if neg then !inD dx ds else inD dx ds)) := by cases dx <;> exact hf
    refine .inl ⟨a, xs, rfl, .inl (SqL.of (hid_le _ _ h1)), flat_of rx q1, flats_of r1 q2, ?_⟩
    rw [inV_of rx q1 r1 q2]
    exact k _ hR _ H (Same.refl H) (.bl _)
  | str j => cases rx with
    | str i => exact .inr ⟨i, j, rfl, rfl, k _ hf _ H (Same.refl H) (.bl _)⟩
    | _ => exact False.elim hf
  | _ => cases rx <;> exact False.elim hf
theorem oIn : CmD X .In (fIn false) := ⟨_, op_in_seq.or op_in_str, sim_In false rfl⟩
theorem oNotIn : CmD X .NotIn (fIn true) := by
  refine ⟨_, op_notIn_seq.or op_notIn_str, sim_In true ?_⟩
  funext x y H Q
  simp
end
end DL
/-! DL: isinstance, len, subscripts, slices, list, tuple, max, min; own calls; statements, loops, comprehensions. -/
namespace DL
open PySem PySem.Spec PyProof.Rows L2

/-! ### isinstance -/
inductive Ty where
  | int | bool | str | tuple | list | dict
inductive TK where
  | none | bool | int | str | list | tuple | dict
def Ty.nm : Ty → String
  | .int => "int" | .bool => "bool" | .str => "str" | .tuple => "tuple" | .list => "list" | .dict => "dict"
def TK.nm : TK → String
  | .none => "NoneType" | .bool => "bool" | .int => "int" | .str => "str" | .list => "list" | .tuple => "tuple" | .dict => "dict"
def kindD : D → TK
  | .none => .none | .bool _ => .bool | .int _ => .int | .str _ => .str | .list _ => .list | .tuple _ => .tuple | .dict _ => .dict
def isTyK : Ty → TK → Bool
  | .int, .int => true | .int, .bool => true | .bool, .bool => true | .str, .str => true | .tuple, .tuple => true | .list, .list => true | .dict, .dict => true
  | _, _ => false
def isTy (T : Ty) (d : D) : Bool := isTyK T (kindD d)
theorem kit_all : ∀ (T : Ty) (t : TK), kitB t.nm T.nm = some (isTyK T t) := by
  intro T t
  cases T <;> cases t <;> decide +kernel
section
variable {K : PySem.W.Frag} {H : Hp}
theorem rp_ty {v : V} {d : D} (r : Rp K H v d) : TyX K H v (.type (kindD d).nm) := by
  cases r with
  | non => exact .base .non
  | bl b => exact .base (.bl b)
  | int b => exact .base (.int b)
  | str b => exact .base (.str b)
  | lst e z r => exact .base (.lst e)
  | tup e z r =>
    rcases e with (e | ⟨o, e⟩) | ⟨o, its, n, e, c, _⟩
    · exact .base (.tup e)
    · exact .fTuple e
    · exact .kTuple e c
  | dct e r => exact .base (.dK e)
end
section
variable {P : Program} {w : World} {X : Cx} {pos : Pos} {a b c : Expr} {da db dc : DE}
def dIsI (T : Ty) (a : DE) : DE := fun ω Q => a ω fun d => Q (.bool (isTy T d))
theorem e_isi {T : Ty} {T' : Str} {p p' : Pos} (hm : X.mg "isinstance" = none) (hmT : X.mg T' = none) (hvT : bootBuiltins T' = some (.type T.nm)) (ha : PE X a (LE P w X.K da)) (hg : Gl X "isinstance" := by rfl) (hgT : Gl X T' := by rfl)
    (hn : T' ≠ "__name__" := by decide) (hdT : (T' == ("__debug__" : Str)) = false := by decide)
    (he : starEach [a, .Name T' p'] X.env = (false, eval a X.env) :: starEach [.Name T' p'] X.env := by rfl) (he2 : starEach [.Name T' p'] X.env = (false, eval (.Name T' p') X.env) :: starEach [] X.env := by rfl)
    (hpl : (backTo pos (starEach [.Name T' p'] X.env)).any (·.1) = false := by rfl) :
    PE X (.Call (.Name "isinstance" p) [a, .Name T' p'] [] pos) (LE P w X.K (dIsI T da)) := by
  refine PE.imp (pe_callB call_isi hg hm (by decide +kernel) (pa_cons ha (pa_cons (pe_bltn (v := .ty T.nm) hgT hmT hvT rfl hn hdT) pa_nil he2) he) (he := he) (hpl := hpl)) fun σ H Q h => ?_
  obtain ⟨F, A, ω, R, c, h, k⟩ := h
  refine ⟨F, A, ω, _, c, h, fun x hx v H1 e1 r1 => ?_⟩
  exact ⟨v, .ty T.nm, _, .type T.nm, _, rfl, .ty _, rp_ty (r1.mono hid_le), kit_ty (kit_all T (kindD x)), k _ hx _ H1 e1 (.bl _)⟩

/-! ### len and the like -/
def fLen : List D → EK → Prop
  | [.str s], Q => s.length ≤ sizeLine ∧ Q (.int s.length)
  | [.list xs], Q => Q (.int xs.length)
  | [.tuple xs], Q => Q (.int xs.length)
  | _, _ => False
theorem RpAll.one {K : PySem.W.Frag} {H : Hp} {xs : List V} {d : D} (r : RpAll K H xs [d]) : ∃ v, xs = [v] ∧ Rp K H v d := by
  cases r with
  | cons r t => cases t; exact ⟨_, rfl, r⟩
theorem RpAll.two {K : PySem.W.Frag} {H : Hp} {xs : List V} {d e : D} (r : RpAll K H xs [d, e]) : ∃ v u, xs = [v, u] ∧ Rp K H v d ∧ Rp K H u e := by
  cases r with
  | cons r t => cases t with
    | cons r2 t2 => cases t2; exact ⟨_, _, rfl, r, r2⟩
theorem bLen : CbD X (.builtin "len") fLen := by
  refine ⟨_, call_len, ?_⟩
  intro C H xs ds R Q hC r hf k
  match ds, hf with
  | [.str s], hf =>
    obtain ⟨v, rfl, r1⟩ := r.one
    cases r1
    exact ⟨.str s, _, rfl, ⟨hf.1, rfl⟩, k _ hf.2 _ H (Same.refl H) (.int _)⟩
  | [.list ys], hf =>
    obtain ⟨v, rfl, r1⟩ := r.one
    cases r1 with
    | lst e z q => exact ⟨_, _, rfl, .inl ⟨_, SqL.of (hid_le _ _ e), rfl⟩, by rw [q.length]; exact k _ hf _ H (Same.refl H) (.int _)⟩
  | [.tuple ys], hf =>
    obtain ⟨v, rfl, r1⟩ := r.one
    cases r1 with
    | tup e z q => exact ⟨_, _, rfl, .inr ⟨_, SqT.out e, rfl⟩, by rw [q.length]; exact k _ hf _ H (Same.refl H) (.int _)⟩
def fMax2 : List D → EK → Prop
  | [.int i, .int j], Q => Q (.int (if j > i then j else i))
  | _, _ => False
def fMin2 : List D → EK → Prop
  | [.int i, .int j], Q => Q (.int (if j < i then j else i))
  | _, _ => False
theorem bMax2 (hc : X.calm = true) : CbD X (.builtin "max") fMax2 := by
  refine ⟨_, call_max2 hc, ?_⟩
  intro C H xs ds R Q hC r hf k
  match ds, hf with
  | [.int i, .int j], hf =>
    obtain ⟨v, u, rfl, r1, r2⟩ := r.two
    cases r1; cases r2
    exact ⟨i, j, rfl, k _ hf _ H (Same.refl H) (.int _)⟩
theorem bMin2 (hc : X.calm = true) : CbD X (.builtin "min") fMin2 := by
  refine ⟨_, call_min2 hc, ?_⟩
  intro C H xs ds R Q hC r hf k
  match ds, hf with
  | [.int i, .int j], hf =>
    obtain ⟨v, u, rfl, r1, r2⟩ := r.two
    cases r1; cases r2
    exact ⟨i, j, rfl, k _ hf _ H (Same.refl H) (.int _)⟩
def fInt1 : List D → EK → Prop
  | [.int i], Q => Q (.int i)
  | [.bool b], Q => Q (.int (if b then 1 else 0))
  | _, _ => False
theorem bInt1 : CbD X (.type "int") fInt1 := by
  refine ⟨_, call_int1, ?_⟩
  intro C H xs ds R Q hC r hf k
  match ds, hf with
  | [.int i], hf =>
    obtain ⟨v, rfl, r1⟩ := r.one
    cases r1
    exact .inl ⟨i, rfl, k _ hf _ H (Same.refl H) (.int _)⟩
  | [.bool i], hf =>
    obtain ⟨v, rfl, r1⟩ := r.one
    cases r1
    exact .inr ⟨i, rfl, k _ hf _ H (Same.refl H) (.int _)⟩
/-- the signs of a text, each as a text -/
def signs (s : Str) : List Str := s.cps.toList.map fun c => ⟨#[c]⟩
theorem call_list_strs (hc : X.calm = true) : CallR X (.type "list") (fun xs H Q => ∃ s : Str, xs = [.str s] ∧ s.length ≤ sizeLine ∧ ∀ p, H p = none → Q (.ref p) (upd H p (.lst ((signs s).map V.str)))) := by
  intro pins s σ H xs us Q I r h
  obtain ⟨x, rfl, hz, q⟩ := h
  obtain ⟨u, rfl, t, rfl⟩ := vals1 r
  refine PySem.call_list_str (I.ok.hd hc) x t (fun h' tk acc c' hk ho hi => ?_) hz
  have hl : acc.size = x.cps.size := hi.1
  have hv : Vals ((signs x).map V.str) acc.toList := by
    have key : ∀ (n : Nat) (ls : List Nat) (us : List Value), ls.length = us.length → (∀ (i c : Nat), ls[i]? = some c → ∃ u, us[i]? = some (Value.str ⟨#[c]⟩ u)) → Vals ((ls.map fun c => (⟨#[c]⟩ : Str)).map V.str) us := by
      intro n ls
      induction ls with
      | nil => intro us hl _; cases us with
        | nil => exact .nil
        | cons _ _ => simp at hl
      | cons c ls ih => intro us hl h; cases us with
        | nil => simp at hl
        | cons u us =>
          obtain ⟨t, ht⟩ := h 0 c rfl
          simp at ht
          subst ht
          exact .cons ⟨t, rfl⟩ (ih us (by simpa using hl) fun i c hc => h (i + 1) c (by simpa using hc))
    refine key 0 x.cps.toList acc.toList (by simp [hl]) fun i c hc => ?_
    have hi2 : i < acc.size := by
      have := (List.getElem?_eq_some_iff.mp hc).1
      simpa [hl] using this
    obtain ⟨c', u, e1, e2⟩ := hi.2 i acc[i] (by simp [hi2])
    have e3 : x.cps[i]? = some c := by simpa using hc
    rw [e3] at e1
    cases e1
    exact ⟨u, by simp [hi2, e2]⟩
  have hf : H s.heap.objs.size = none := I.hok.fresh (Nat.le_refl _)
  refine ⟨.ref s.heap.objs.size, upd H s.heap.objs.size (.lst ((signs x).map V.str)), I.laid (t' := tk) hk (Nat.le_refl _) ⟨?_, acc.toList, c', hv, ?_⟩, rfl, q _ hf⟩
  · simp [signs]; exact hz
  · simpa using ho
theorem rp_strs {K : PySem.W.Frag} {H : Hp} : ∀ ss : List Str, RpAll K H (ss.map V.str) (ss.map PyData.str)
  | [] => .nil
  | s :: ss => .cons (.str s) (rp_strs ss)
def fList : List D → EK → Prop
  | [.list xs], Q => Q (.list xs)
  | [.tuple xs], Q => Q (.list xs)
  | [.str s], Q => s.length ≤ sizeLine ∧ Q (.list ((signs s).map PyData.str))
  | _, _ => False
theorem bList (hc : X.calm = true) : CbD X (.type "list") fList := by
  refine ⟨_, call_list_of.or (call_list_strs hc), ?_⟩
  intro C H xs ds R Q hC r hf k
  match ds, hf with
  | [.list ys], hf =>
    obtain ⟨v, rfl, r1⟩ := r.one
    cases r1 with
    | lst e z q => exact .inl ⟨_, _, rfl, .inl (SqL.of (hid_le _ _ e)), fun p hp => k _ hf _ _ (same_new hp) (rp_lst_new (hC p hp) hp z q)⟩
  | [.tuple ys], hf =>
    obtain ⟨v, rfl, r1⟩ := r.one
    cases r1 with
    | tup e z q => exact .inl ⟨_, _, rfl, .inr (SqT.out e), fun p hp => k _ hf _ _ (same_new hp) (rp_lst_new (hC p hp) hp z q)⟩
  | [.str s], hf =>
    obtain ⟨v, rfl, r1⟩ := r.one
    cases r1
    exact .inr ⟨s, rfl, hf.1, fun p hp => k _ hf.2 _ _ (same_new hp) (rp_lst_new (hC p hp) hp (by rw [List.length_map, show (signs s).length = s.length by simp [signs, Str.length]]; exact hf.1) (rp_strs _))⟩
def fTuple : List D → EK → Prop
  | [.list xs], Q => Q (.tuple xs)
  | [.tuple xs], Q => Q (.tuple xs)
  | _, _ => False
theorem bTuple : CbD X (.type "tuple") fTuple := by
  refine ⟨_, call_tuple_of.or call_tupleT, ?_⟩
  intro C H xs ds R Q hC r hf k
  match ds, hf with
  | [.list ys], hf =>
    obtain ⟨v, rfl, r1⟩ := r.one
    cases r1 with
    | lst e z q => exact .inl ⟨_, _, rfl, .inl ⟨SqL.of (hid_le _ _ e), fun p hp => k _ hf _ _ (same_new hp) (rp_tup_new (hC p hp) hp z q)⟩⟩
  | [.tuple ys], hf =>
    obtain ⟨v, rfl, r1⟩ := r.one
    cases r1 with
    | tup e z q => exact .inr ⟨_, _, rfl, SqT.out e, k _ hf _ H (Same.refl H) (.tup e z q)⟩

/-! ### subscripts, slices -/
def fIx : D → D → EK → Prop
  | .list xs, .int i, Q => match atI xs i with | some d => Q d | none => False
  | .tuple xs, .int i, Q => match atI xs i with | some d => Q d | none => False
  | .str z, .int i, Q => z.length ≤ sizeLine ∧ match atI z.cps.toList i with | some c => Q (.str ⟨#[c]⟩) | none => False
  | _, _, _ => False
theorem at_of {K : PySem.W.Frag} {H : Hp} {vs : List V} {ds : List D} {i : Int} {d : D} (r : RpAll K H vs ds) (h : atI ds i = some d) : ∃ v, atI vs i = some v ∧ Rp K H v d := by
  unfold atI at h ⊢
  rw [r.length]
  cases e : ixN ds.length i with
  | none => rw [e] at h; cases h
  | some j =>
    rw [e] at h
    exact r.getD h
theorem e_ix (ha : PE X a (LE P w X.K da)) (hb : PE X b (LE P w X.K db)) (hs : PlainIx b := by intro _ _; rfl) : PE X (.Subscript a b pos) (LE P w X.K (dOp fIx da db)) := by
  refine PE.imp (pe_ix ix_seq ha hb hs) fun _ _ _ h => tOp_of ?_ h
  intro C H x y dx dy R Q hC rx ry hf k
  cases rx with
  | lst e z q => cases ry with
    | int i =>
      rename_i p xs ds
      have hf' : (match atI ds i with | some d => R d | none => False) := hf
      cases e1 : atI ds i with
      | none => rw [e1] at hf'; exact hf'.elim
      | some d =>
        rw [e1] at hf'
        obtain ⟨v, e2, r2⟩ := at_of q e1
        exact .inl ⟨_, xs, i, v, rfl, rfl, SqL.of (hid_le _ _ e), e2, k _ hf' _ H (Same.refl H) r2⟩
    | _ => exact False.elim hf
  | tup e z q => cases ry with
    | int i =>
      rename_i p xs ds
      have hf' : (match atI ds i with | some d => R d | none => False) := hf
      cases e1 : atI ds i with
      | none => rw [e1] at hf'; exact hf'.elim
      | some d =>
        rw [e1] at hf'
        obtain ⟨v, e2, r2⟩ := at_of q e1
        exact .inr (.inl ⟨_, xs, i, v, rfl, rfl, SqT.out e, e2, k _ hf' _ H (Same.refl H) r2⟩)
    | _ => exact False.elim hf
  | str z => cases ry with
    | int i =>
      have hf' : z.length ≤ sizeLine ∧ (match atI z.cps.toList i with | some c => R (.str ⟨#[c]⟩) | none => False) := hf
      cases e1 : atI z.cps.toList i with
      | none => rw [e1] at hf'; exact hf'.2.elim
      | some c =>
        rw [e1] at hf'
        exact .inr (.inr ⟨z, i, c, rfl, rfl, hf'.1, e1, k _ hf'.2 _ H (Same.refl H) (.str _)⟩)
    | _ => exact False.elim hf
  | _ => exact False.elim hf
abbrev DO := List SV → (Option Int → Prop) → Prop
def LO (P : Program) (w : World) (K : PySem.W.Frag) (d : DO) : TO := fun σ H Q => ∃ (F : Fm) (A : List Addr) (ω : List SV) (R : Option Int → Prop), Ctx P w K F A H σ ω ∧ d ω R ∧ ∀ o, R o → ∀ H', Same H H' → Q o H'
theorem PO.imp {e : Option Expr} {t t' : TO} (h : PO X e t) (i : ∀ σ H Q, t' σ H Q → t σ H Q) : PO X e t' := ⟨fun pins s σ H Q I q => h.run pins s σ H Q I (i σ H Q q)⟩
def oNo : DO := fun _ Q => Q none
def oSome (a : DE) : DO := fun ω Q => a ω fun d => match d with
  | .int i => Q (some i)
  | _ => False
theorem o_no : PO X none (LO P w X.K oNo) := PO.imp po_none fun σ H Q ⟨_, _, _, _, _, h, k⟩ => k none h H (Same.refl H)
theorem o_some (ha : PE X a (LE P w X.K da)) : PO X (some a) (LO P w X.K (oSome da)) := PO.imp (po_some ha) fun σ H Q ⟨F, A, ω, R, c, h, k⟩ => ⟨F, A, ω, _, c, h, fun x hx v H1 e1 r1 => by
  cases x with
  | int i => cases r1; exact ⟨i, rfl, k _ hx H1 e1⟩
  | _ => exact False.elim hx⟩
def cutL {α : Type} (xs : List α) (lo hi : Option Int) : List α := (xs.drop (HT.sIx xs.length 0 lo)).take (HT.sIx xs.length xs.length hi - HT.sIx xs.length 0 lo)
def fSl : D → Option Int → Option Int → EK → Prop
  | .list xs, lo, hi, Q => Q (.list (cutL xs lo hi))
  | .tuple xs, lo, hi, Q => Q (.tuple (cutL xs lo hi))
  | .str z, lo, hi, Q => z.length ≤ sizeLine ∧ Q (.str (cutS z lo hi))
  | _, _, _, _ => False
def dSl (a : DE) (lo hi : DO) : DE := fun ω Q => a ω fun x => lo ω fun l => hi ω fun h => fSl x l h Q
theorem cut_of {K : PySem.W.Frag} {H : Hp} {vs : List V} {ds : List D} {lo hi : Option Int} (r : RpAll K H vs ds) : RpAll K H (cutV vs lo hi) (cutL ds lo hi) := by
  unfold cutV cutL
  rw [r.length]
  exact (r.drop _).take _
theorem cut_whole {α : Type} {xs : List α} {lo hi : Option Int} (h : HT.sIx xs.length 0 lo = 0 ∧ HT.sIx xs.length xs.length hi = xs.length) : cutL xs lo hi = xs := by
  unfold cutL
  rw [h.1, h.2, List.drop_zero, Nat.sub_zero, List.take_length]
theorem e_sl {lo hi : Option Expr} {dl dh : DO} {p2 : Pos} (ha : PE X a (LE P w X.K da)) (hl : PO X lo (LO P w X.K dl)) (hh : PO X hi (LO P w X.K dh)) : PE X (.Subscript a (.Slice lo hi none p2) pos) (LE P w X.K (dSl da dl dh)) := by
  refine PE.imp (pe_slice (sl_list.or (sl_str.or sl_tupA)) ha hl hh) fun σ H Q h => ?_
  obtain ⟨F, A, ω, R, c, h, k⟩ := h
  refine ⟨F, A, ω, _, c, h, fun x hx v H1 e1 r1 => ⟨F, A, ω, _, c.mono e1, hx, fun l hl' H2 e2 => ⟨F, A, ω, _, (c.mono e1).mono e2, hl', fun u hu H3 e3 => ?_⟩⟩⟩
  have e13 := (e1.trans e2).trans e3
  have r3 := r1.mono (hid_mono (e2.trans e3))
  cases r3 with
  | lst e z q => exact .inl ⟨_, _, rfl, SqL.of (hid_le _ _ e), fun p hp => k _ hu _ _ (e13.trans (same_new hp)) (rp_lst_new ((c.mono e13).fresh hp) hp (Nat.le_trans (cutV_length _ _ _) z) (cut_of q))⟩
  | str s => exact .inr (.inl ⟨s, rfl, hu.1, k _ hu.2 _ H3 e13 (.str _)⟩)
  | tup e z q =>
    rename_i p xs ds
    refine .inr (.inr ⟨_, _, rfl, SqT.out e, fun hw => ?_, fun _ p hp => k _ hu _ _ (e13.trans (same_new hp)) (rp_tup_new ((c.mono e13).fresh hp) hp (Nat.le_trans (cutV_length _ _ _) z) (cut_of q))⟩)
    refine k _ hu _ H3 e13 (.tup e z ?_)
    rw [cut_whole (xs := ds) (by rw [← q.length]; exact hw)]
    exact q
  | _ => exact False.elim hu

/-! ### calls of the text's own defs -/
def spD (P : Program) (w : World) (K : PySem.W.Frag) (n : Nat) (m : List SV → EK → Prop) : Sp := fun vs H Q _ => ∃ (svs : List SV) (B : List Addr) (R : EK), Args P w K B H vs svs ∧ vs.length = n ∧ (∀ b ∈ B, H b ≠ none) ∧ m svs R ∧ ∀ d, R d → ∀ v H', Same H H' → Rp K (hid B H') v d → Q v H'
def dFn (m : List SV → EK → Prop) (a : DA) : DE := fun ω Q => a ω fun svs => m svs Q
theorem e_fn {x : Str} {p : Pos} {e : Expr} {es : List Expr} {k j n : Nat} {m : List SV → EK → Prop} {dr : DA} (cl : C8.Cal X.prog X.w X.K X.mg X.base k x (spD P w X.K n m) []) (hr : Room j X.A) (ha : PA X (e :: es) (LA P w X.K n dr)) (hk : k ≤ j := by decide) (hg : Gl X x := by rfl)
    (hdb : (x == ("__debug__" : Str)) = false := by decide) (he : starEach (e :: es) X.env = (false, eval e X.env) :: starEach es X.env := by rfl) (hpl : (backTo pos (starEach es X.env)).any (·.1) = false := by rfl) :
    PE X (.Call (.Name x p) (e :: es) [] pos) (LE P w X.K (dFn m dr)) := by
  refine PE.imp (C8.pe_c cl hr hk hg ha (hdb := hdb) (he := he) (hpl := hpl)) fun σ H Q ⟨F, A, ω, R, c, h, k⟩ => ⟨F, A, ω, _, c, h, fun svs hs hl vs H1 e1 r1 => ?_⟩
  have c1 := c.mono e1
  refine ⟨svs, A ++ F.B, R, by rw [List.append_nil]; exact r1, by rw [List.append_nil, Paired.length r1, hl], fun b hb => ?_, hs, fun d hd v H' e' r' => k d hd v H' (e1.trans e') r'⟩
  exact fun z => c1.fresh z hb
end
end DL
/-! DL: statements, loops, comprehensions, a def's promise. -/
namespace DL
open PySem PySem.Spec PyProof.Rows L2

structure DEnds where
  nx : List SV → Prop
  rt : EK
  bk : List SV → Prop
  ct : List SV → Prop
abbrev DS := DEnds → List SV → Prop
abbrev DI := List SV → (List D → Prop) → Prop
structure Low (P : Program) (w : World) (K : PySem.W.Frag) (F : Fm) (R : DEnds) (E : Ends) : Prop where
  nx : ∀ ω, R.nx ω → ∀ σ H A, Ctx P w K F A H σ ω → E.nx σ H
  rt : ∀ d, R.rt d → ∀ v H, Same F.H0 H → Rp K (hid F.B H) v d → E.rt v H
  bk : ∀ ω, R.bk ω → ∀ σ H A, Ctx P w K F A H σ ω → E.bk σ H
  ct : ∀ ω, R.ct ω → ∀ σ H A, Ctx P w K F A H σ ω → E.ct σ H
def LS (P : Program) (w : World) (K : PySem.W.Frag) (ds : DS) : TS := fun E σ H => ∃ (F : Fm) (A : List Addr) (ω : List SV) (R : DEnds), Ctx P w K F A H σ ω ∧ ds R ω ∧ Low P w K F R E

section
variable {P : Program} {w : World} {X : Cx} {pos : Pos} {e : Expr} {de : DE} {st : Stmt} {rest : List Stmt} {d1 d2 : DS}
def dSkip : DS := fun R ω => R.nx ω
def dSeq (a b : DS) : DS := fun R ω => a { R with nx := fun ω' => b R ω' } ω
theorem s_nil : PSs X [] (LS P w X.K dSkip) := PSs.imp pss_nil fun E σ H ⟨F, A, ω, R, c, h, l⟩ => l.nx ω h σ H A c
theorem s_cons (h1 : PS X st (LS P w X.K d1)) (h2 : PSs X rest (LS P w X.K d2)) : PSs X (st :: rest) (LS P w X.K (dSeq d1 d2)) :=
  PSs.imp (pss_cons h1 h2) fun E σ H ⟨F, A, ω, R, c, h, l⟩ => ⟨F, A, ω, _, c, h, ⟨fun ω' h' σ' H' A' c' => ⟨F, A', ω', R, c', h', l⟩, l.rt, l.bk, l.ct⟩⟩
theorem s_one (h1 : PS X st (LS P w X.K d1)) : PSs X [st] (LS P w X.K d1) := pss_one h1
theorem s_pass : PS X (.Pass pos) (LS P w X.K dSkip) := PS.imp ps_pass fun E σ H ⟨F, A, ω, R, c, h, l⟩ => l.nx ω h σ H A c
def dBrk : DS := fun R ω => R.bk ω
def dCnt : DS := fun R ω => R.ct ω
theorem s_brk : PS X (.Break pos) (LS P w X.K dBrk) := PS.imp ps_break fun E σ H ⟨F, A, ω, R, c, h, l⟩ => l.bk ω h σ H A c
theorem s_cnt : PS X (.Continue pos) (LS P w X.K dCnt) := PS.imp ps_continue fun E σ H ⟨F, A, ω, R, c, h, l⟩ => l.ct ω h σ H A c
def dNever : DS := fun _ _ => False
theorem s_never : PS X st (LS P w X.K dNever) := PS.imp ps_never fun E σ H ⟨F, A, ω, R, c, h, l⟩ => h
def dExp (a : DE) : DS := fun R ω => a ω fun _ => R.nx ω
theorem s_exp (he : PE X e (LE P w X.K de)) (hs : swapsWith e none pos.line X.env = pure false := by rfl) : PS X (.Expr e pos) (LS P w X.K (dExp de)) :=
  PS.imp (ps_expr he hs) fun E σ H ⟨F, A, ω, R, c, h, l⟩ => ⟨F, A, ω, _, c, h, fun x hx v H1 e1 r1 => l.nx ω hx σ H1 A (c.mono e1)⟩
def dRet (a : DE) : DS := fun R ω => a ω R.rt
theorem Ctx.back {K : PySem.W.Frag} {F : Fm} {A : List Addr} {H : Hp} {σ : L2.St} {ω : List SV} (c : Ctx P w K F A H σ ω) {v : V} {d : D} (r : Rp K (hid (A ++ F.B) H) v d) : Rp K (hid F.B H) v d :=
  r.mono (hid_sub fun b hb => List.mem_append_right _ hb)
theorem s_ret (he : PE X e (LE P w X.K de)) : PS X (.Return (some e) pos) (LS P w X.K (dRet de)) :=
  PS.imp (ps_ret he) fun E σ H ⟨F, A, ω, R, c, h, l⟩ => ⟨F, A, ω, _, c, h, fun x hx v H1 e1 r1 => l.rt x hx v H1 (c.same.trans e1) ((c.mono e1).back r1)⟩
def dRetN : DS := fun R _ => R.rt .none
theorem s_retN : PS X (.Return none pos) (LS P w X.K dRetN) := PS.imp ps_retN fun E σ H ⟨F, A, ω, R, c, h, l⟩ => l.rt _ h _ H c.same .non
def dIfS (t : DT) (a b : DS) : DS := fun R ω => t ω fun c => if c = true then a R ω else b R ω
theorem s_if {c : Expr} {a b : List Stmt} {dt : DT} (hc : PT X c (LT P w X.K dt)) (ha : PSs X a (LS P w X.K d1)) (hb : PSs X b (LS P w X.K d2)) : PS X (.If c a b pos) (LS P w X.K (dIfS dt d1 d2)) :=
  PS.imp (ps_if hc ha hb) fun E σ H ⟨F, A, ω, R, c, h, l⟩ => ⟨F, A, ω, _, c, h, fun x hx H1 e1 => by
    cases x with
    | true => exact ⟨F, A, ω, R, c.mono e1, hx, l⟩
    | false => exact ⟨F, A, ω, R, c.mono e1, hx, l⟩⟩
def dSet (i : Nat) (a : DE) : DS := fun R ω => a ω fun d => R.nx (ω.set i (.dat d))
theorem s_set {i : Nat} {x : Str} {pos' : Pos} (hN : X.N.Nodup) (hi : X.N[i]? = some x) (hx : Loc X.env.scope x) (he : PE X e (LE P w X.K de)) (hs : swapsWith e (some (.Name x pos')) pos.line X.env = pure false := by rfl)
    (hf : X.fn x = true ∨ X.env.scope.names.lookup x = some .local := by first | exact .inl rfl | exact .inr rfl | assumption) : PS X (.Assign [.Name x pos'] e pos) (LS P w X.K (dSet i de)) :=
  PS.imp (ps_set hN hi hx he hs hf) fun E σ H ⟨F, A, ω, R, c, h, l⟩ => ⟨F, A, ω, _, c, h, fun d hd v H1 e1 r1 => l.nx _ hd _ H1 A ((c.mono e1).set r1)⟩

/-! ### targets -/
abbrev DG := D → List SV → (List SV → Prop) → Prop
def LG (P : Program) (w : World) (K : PySem.W.Frag) (vs : List Nat) (g : DG) : TG := fun v σ H Q => ∃ (F : Fm) (A : List Addr) (ω : List SV) (d : D) (R : List SV → Prop), Ctx P w K F A H σ ω ∧ Rp K (hid (A ++ F.B) H) v d ∧ g d ω R ∧ ∀ ω', R ω' → ∀ σ', wipe σ' vs = wipe σ vs → Ctx P w K F A H σ' ω' → Q σ' H
def LGs (P : Program) (w : World) (K : PySem.W.Frag) (vs : List Nat) (g : List D → List SV → (List SV → Prop) → Prop) : TGs := fun us σ H Q => ∃ (F : Fm) (A : List Addr) (ω : List SV) (ds : List D) (R : List SV → Prop), Ctx P w K F A H σ ω ∧ RpAll K (hid (A ++ F.B) H) us ds ∧ g ds ω R ∧ ∀ ω', R ω' → ∀ σ', wipe σ' vs = wipe σ vs → Ctx P w K F A H σ' ω' → Q σ' H
theorem PG.imp {e : Expr} {t t' : TG} (h : PG X e t) (i : ∀ v σ H Q, t' v σ H Q → t v σ H Q) : PG X e t' := ⟨fun pins s σ H v u Q I r q => h.run pins s σ H v u Q I r (i v σ H Q q)⟩
theorem PGs.imp {e : List Expr} {t t' : TGs} (h : PGs X e t) (i : ∀ v σ H Q, t' v σ H Q → t v σ H Q) : PGs X e t' := ⟨fun pins s σ H v u Q I r q => h.run pins s σ H v u Q I r (i v σ H Q q)⟩
theorem wipe_set {σ : L2.St} {i : Nat} {x : Option V} : ∀ {vs : List Nat}, i ∈ vs → wipe (σ.set i x) vs = wipe σ vs
  | [], h => by cases h
  | v :: vs, h => by
    unfold wipe
    by_cases hv : v = i
    · subst hv
      by_cases hm : v ∈ vs
      · rw [wipe_set hm]
      · have key : ∀ ws : List Nat, (wipe (σ.set v x) ws).set v none = (wipe σ ws).set v none := by
          intro ws
          induction ws with
          | nil => show (σ.set v x).set v none = σ.set v none; rw [List.set_set]
          | cons u ws ih =>
            show ((wipe (σ.set v x) ws).set u none).set v none = ((wipe σ ws).set u none).set v none
            by_cases hu : u = v
            · subst hu; rw [List.set_set, List.set_set, ih]
            · rw [List.set_comm _ _ hu, ih, List.set_comm _ _ (Ne.symm hu)]
        exact key vs
    · have hm : i ∈ vs := by
        rcases List.mem_cons.mp h with z | z
        · exact absurd z.symm hv
        · exact z
      rw [wipe_set hm]
def gN (i : Nat) : DG := fun d ω Q => Q (ω.set i (.dat d))
theorem g_nm {i : Nat} {x : Str} {vs : List Nat} (hN : X.N.Nodup) (hi : X.N[i]? = some x) (hx : Loc X.env.scope x) (hv : i ∈ vs) (hf : X.fn x = true ∨ X.env.scope.names.lookup x = some .local := by first | exact .inl rfl | exact .inr rfl | assumption) : PG X (.Name x pos) (LG P w X.K vs (gN i)) :=
  PG.imp (pg_name hN hi hx hf) fun v σ H Q ⟨F, A, ω, d, R, c, r, h, k⟩ => k _ h _ (wipe_set hv) (c.set r)
def gNil' : List D → List SV → (List SV → Prop) → Prop := fun ds ω Q => ds = [] ∧ Q ω
def gCons' (g : DG) (r : List D → List SV → (List SV → Prop) → Prop) : List D → List SV → (List SV → Prop) → Prop := fun ds ω Q => match ds with
  | [] => False
  | d :: ds => g d ω fun ω' => r ds ω' Q
theorem gs_nil {vs : List Nat} : PGs X [] (LGs P w X.K vs gNil') := PGs.imp pgs_nil fun us σ H Q ⟨F, A, ω, ds, R, c, r, ⟨h1, h2⟩, k⟩ => by
  subst h1
  cases r
  exact ⟨rfl, k _ h2 σ rfl c⟩
theorem gs_cons {vs : List Nat} {es : List Expr} {g : DG} {gs : List D → List SV → (List SV → Prop) → Prop} (h1 : PG X e (LG P w X.K vs g)) (h2 : PGs X es (LGs P w X.K vs gs)) (hs : (assignEach (e :: es) X.env).map (·.2) = assign e X.env :: (assignEach es X.env).map (·.2) := by rfl) : PGs X (e :: es) (LGs P w X.K vs (gCons' g gs)) :=
  PGs.imp (pgs_cons h1 h2 hs) fun us σ H Q ⟨F, A, ω, ds, R, c, r, h, k⟩ => by
    cases r with
    | nil => exact False.elim h
    | cons r t =>
      refine ⟨_, _, rfl, F, A, ω, _, _, c, r, h, fun ω' h' σ' hw c' => ⟨F, A, ω', _, R, c', t, h', fun ω2 h2' σ2 hw2 c2 => k ω2 h2' σ2 (hw2.trans hw) c2⟩⟩
def gT (gs : List D → List SV → (List SV → Prop) → Prop) (n : Nat) : DG := fun d ω Q => match d with
  | .tuple ds => ds.length = n ∧ gs ds ω Q
  | _ => False
theorem g_tp {vs : List Nat} {es : List Expr} {k n : Nat} {gs : List D → List SV → (List SV → Prop) → Prop} (hc : X.calm = true) (h : PGs X es (LGs P w X.K vs gs)) (hn : (assignEach es X.env).length = n := by rfl) (hst : (assignEach es X.env).findIdx? (·.1) = none := by rfl) : PG X (.Tuple es k pos) (LG P w X.K vs (gT gs n)) :=
  PG.imp (pg_tup hc h hn hst) fun v σ H Q ⟨F, A, ω, d, R, c, r, h, k⟩ => by
    cases r with
    | tup e z q => exact ⟨_, _, rfl, SqT.out e, by rw [q.length]; exact h.1, F, A, ω, _, R, c, q, h.2, k⟩
    | _ => exact False.elim h
/-- a, b = e -/
def dAsg (g : DG) (a : DE) : DS := fun R ω => a ω fun d => g d ω R.nx
theorem s_asg {tg : Expr} {vs : List Nat} {g : DG} (he : PE X e (LE P w X.K de)) (hg : PG X tg (LG P w X.K vs g)) (hs : swapsWithSole [tg] e pos.line X.env = pure false := by rfl) (hw : swappedStores [tg] e X.env = pure none := by rfl)
    (h1 : (assignEach [tg] X.env).map (·.2) = [assign tg X.env] := by rfl) : PS X (.Assign [tg] e pos) (LS P w X.K (dAsg g de)) :=
  PS.imp (ps_asg he hg hs hw h1) fun E σ H ⟨F, A, ω, R, c, h, l⟩ => ⟨F, A, ω, _, c, h, fun d hd v H1 e1 r1 => ⟨F, A, ω, d, R.nx, c.mono e1, r1, hd, fun ω' h' σ' _ c' => l.nx ω' h' σ' H1 A c'⟩⟩

/-! ### what is walked -/
structure IterOf (K : PySem.W.Frag) (C : List Addr) (H : Hp) (J : It) (ds : List D) : Prop where
  go : ∀ C' H', Same (hid C H) (hid C' H') → ∀ i, i < ds.length → J.go i H'
  yld : ∀ C' H', Same (hid C H) (hid C' H') → (∀ p, H' p = none → p ∉ C') → ∀ i x H3, i < ds.length → J.yld i H' x H3 → Same H' H3 ∧ ∃ d, ds[i]? = some d ∧ Rp K (hid C' H3) x d
  stop : ∀ C' H', Same (hid C H) (hid C' H') → J.stop ds.length H'
def LI (P : Program) (w : World) (K : PySem.W.Frag) (di : DI) : TI := fun σ H Q => ∃ (F : Fm) (A : List Addr) (ω : List SV) (R : List D → Prop), Ctx P w K F A H σ ω ∧ di ω R ∧ ∀ ds, R ds → ∀ J H', Same H H' → IterOf K (A ++ F.B) H' J ds → Q J H'
theorem PI.imp {tg iter : Expr} {t t' : TI} (h : PI X tg iter t) (i : ∀ σ H Q, t' σ H Q → t σ H Q) : PI X tg iter t' := ⟨fun pins s σ H R I q => h.run pins s σ H R I (i σ H R q)⟩
/-- a list, a tuple, a text -/
def iSeq (K : PySem.W.Frag) (tl : TE) : TI := fun σ H R => tl σ H fun x H1 => (∃ a xs, x = .ref a ∧ SqL K H1 a xs ∧ R (Itl K a) H1) ∨ (∃ a xs, x = .ref a ∧ SqT K H1 a xs ∧ R (Itt K a) H1) ∨ (∃ z, x = .str z ∧ R (Its z) H1)
theorem pi_seq {tg l : Expr} {tl : TE} (hl : PE X l tl) : PI X tg l (iSeq X.K tl) := by
  refine ⟨fun pins s σ H R I h => ?_⟩
  refine thn (hl.run pins s σ H _ I h) fun v s1 ⟨x, H1, I1, r1, q1⟩ => ?_
  rcases q1 with ⟨a, xs, e, hq, q⟩ | ⟨a, xs, e, hq, q⟩ | ⟨z, e, q⟩
  · subst e
    cases r1
    obtain ⟨its, rv, p, hz⟩ := I1.list hq
    refine wpAny_pyIter_list p.isList ?_
    refine ⟨s1.heap.objs.size, [s1.heap.objs.size], _, _, H1, rfl, I1.kept (t' := s1.toks) fun b o e => Heap.get?_push_of_some _ e, turn_list a _, ⟨_, Heap.get?_push_size _ rfl, rfl, rfl⟩, fun b hb => ?_, q⟩
    have e : b = s1.heap.objs.size := by simpa using hb
    subst e
    exact I1.fpOk (Nat.le_refl _) (I1.hok.fresh (Nat.le_refl _))
  · subst e
    cases r1
    obtain ⟨its, rv, p, hz⟩ := I1.tuple hq
    refine wpAny_pyIter_tuple (show s1.heap.IsTuple a its.toArray from p) ?_
    refine ⟨s1.heap.objs.size, [s1.heap.objs.size], _, _, H1, rfl, I1.kept (t' := s1.toks) fun b o e => Heap.get?_push_of_some _ e, turn_tuple a _, ⟨_, Heap.get?_push_size _ rfl, rfl, rfl⟩, fun b hb => ?_, q⟩
    have e : b = s1.heap.objs.size := by simpa using hb
    subst e
    exact I1.fpOk (Nat.le_refl _) (I1.hok.fresh (Nat.le_refl _))
  · subst e
    obtain ⟨t, rfl⟩ := r1
    cases ha : z.cps.all (· < 128)
    · exact wpAny_pyIter_wide ha (pi_one (tk := s1.toks) I1 _ (turn_str _ z t "str_iterator" (.inr rfl)) ⟨_, Heap.get?_push_size _ rfl, rfl, rfl⟩ q)
    · exact wpAny_pyIter_ascii ha (pi_one (tk := s1.toks) I1 _ (turn_str _ z t "str_ascii_iterator" (.inl rfl)) ⟨_, Heap.get?_push_size _ rfl, rfl, rfl⟩ q)
theorem iter_list {K : PySem.W.Frag} {C : List Addr} {H : Hp} {a : Addr} {xs : List V} {ds : List D} (h : hid C H a = some (.lst xs)) (r : RpAll K (hid C H) xs ds) : IterOf K C H (Itl K a) ds where
  go := fun C' H' e i hi => by
    have h' : SqL K H' a xs := SqL.of (hid_le _ _ (e _ _ h))
    have hl := r.length
    exact ⟨xs, xs[i]'(by omega), h', by simp⟩
  yld := fun C' H' e _ i x H3 hi y => by
    obtain ⟨rfl, y⟩ := y
    have h' : SqL K H3 a xs := SqL.of (hid_le _ _ (e _ _ h))
    obtain ⟨d, h1, h2⟩ := r.get (y xs h')
    exact ⟨Same.refl _, d, h1, h2.mono e⟩
  stop := fun C' H' e => ⟨xs, SqL.of (hid_le _ _ (e _ _ h)), Nat.le_of_eq r.length⟩
theorem iter_tup {K : PySem.W.Frag} {C : List Addr} {H : Hp} {a : Addr} {xs : List V} {ds : List D} (h : SqT K (hid C H) a xs) (r : RpAll K (hid C H) xs ds) : IterOf K C H (Itt K a) ds where
  go := fun C' H' e i hi => by
    have h' : SqT K H' a xs := SqT.out (Same.seqT e h)
    have hl := r.length
    exact ⟨xs, xs[i]'(by omega), h', by simp⟩
  yld := fun C' H' e _ i x H3 hi y => by
    obtain ⟨rfl, y⟩ := y
    have h' : SqT K H3 a xs := SqT.out (Same.seqT e h)
    obtain ⟨d, h1, h2⟩ := r.get (y xs h')
    exact ⟨Same.refl _, d, h1, h2.mono e⟩
  stop := fun C' H' e => ⟨xs, SqT.out (Same.seqT e h), Nat.le_of_eq r.length⟩
theorem iter_str {K : PySem.W.Frag} {C : List Addr} {H : Hp} {z : Str} : IterOf K C H (Its z) ((signs z).map PyData.str) where
  go := fun C' H' e i hi => by
    have : i < z.cps.size := by simpa [signs] using hi
    exact this
  yld := fun C' H' e _ i x H3 hi y => by
    obtain ⟨rfl, c, h1, rfl⟩ := y
    refine ⟨Same.refl _, .str ⟨#[c]⟩, ?_, .str _⟩
    have h2 : z.cps.toList[i]? = some c := by simpa using h1
    simp [signs, h1]
  stop := fun C' H' e => by
    show z.cps.size ≤ _
    simp [signs]
/-- the items of data -/
def itemsD : D → (List D → Prop) → Prop
  | .list ds, Q => Q ds
  | .tuple ds, Q => Q ds
  | .str z, Q => z.length ≤ sizeLine ∧ Q ((signs z).map PyData.str)
  | _, _ => False
def iData (a : DE) : DI := fun ω Q => a ω fun d => itemsD d fun ds => ds.length ≤ sizeLine → Q ds
theorem i_data {tg l : Expr} (hl : PE X l (LE P w X.K de)) : PI X tg l (LI P w X.K (iData de)) := by
  refine PI.imp (pi_seq hl) fun σ H Q ⟨F, A, ω, R, c, h, k⟩ => ⟨F, A, ω, _, c, h, fun d hd v H1 e1 r1 => ?_⟩
  cases r1 with
  | lst e z q =>
    have hd' : _ ≤ sizeLine → R _ := hd
    exact .inl ⟨_, _, rfl, SqL.of (hid_le _ _ e), k _ (hd' (by rw [← q.length]; exact z)) _ H1 e1 (iter_list e q)⟩
  | tup e z q =>
    have hd' : _ ≤ sizeLine → R _ := hd
    exact .inr (.inl ⟨_, _, rfl, SqT.out e, k _ (hd' (by rw [← q.length]; exact z)) _ H1 e1 (iter_tup e q)⟩)
  | str z =>
    have hd' : z.length ≤ sizeLine ∧ (((signs z).map PyData.str).length ≤ sizeLine → R ((signs z).map PyData.str)) := hd
    have hl : ((signs z).map PyData.str).length ≤ sizeLine := by simp [signs]; exact hd'.1
    exact .inr (.inr ⟨z, rfl, k _ (hd'.2 hl) _ H1 e1 iter_str⟩)
  | _ => exact False.elim hd
/-- lo, lo + 1, .. -/
def rangeD (lo : Int) (n : Nat) : List D := (List.range n).map fun i : Nat => PyData.int (lo + (i : Int))
theorem iter_range {K : PySem.W.Frag} {C : List Addr} {H : Hp} {lo : Int} {n : Nat} : IterOf K C H (Itr lo n) (rangeD lo n) where
  go := fun C' H' e i hi => by
    show i < n
    simpa [rangeD] using hi
  yld := fun C' H' e _ i x H3 hi y => by
    obtain ⟨rfl, rfl⟩ := y
    have hi' : i < n := by simpa [rangeD] using hi
    exact ⟨Same.refl _, .int (lo + (i : Int)), by simp [rangeD, hi'], .int _⟩
  stop := fun C' H' e => by
    show n ≤ _
    simp [rangeD]
def iRg1 (a : DE) : DI := fun ω Q => a ω fun d => match d with
  | .int j => -(2 ^ 62) ≤ j ∧ j ≤ 16777216 ∧ Q (rangeD 0 j.toNat)
  | _ => False
theorem i_range1 {tg a : Expr} {p : Pos} (hm : X.mg "range" = none) (ha : PE X a (LE P w X.K de)) (hg : Gl X "range" := by rfl) (hs : starEach [a] X.env = [(false, eval a X.env)] := by rfl) : PI X tg (.Call (.Name "range" p) [a] [] pos) (LI P w X.K (iRg1 de)) := by
  refine PI.imp (pi_range1 hg hm (pa_cons ha pa_nil hs) hs) fun σ H Q ⟨F, A, ω, R, c, h, k⟩ => ⟨F, A, ω, _, c, h, fun d hd v H1 e1 r1 => ?_⟩
  cases r1 with
  | int j =>
    have hd' : -(2 ^ 62) ≤ j ∧ j ≤ 16777216 ∧ R (rangeD 0 j.toNat) := hd
    exact ⟨j, rfl, hd'.1, by omega, k _ hd'.2.2 _ H1 e1 iter_range⟩
  | _ => exact False.elim hd
def iRg2 (a b : DE) : DI := fun ω Q => a ω fun d => b ω fun d2 => match d, d2 with
  | .int i, .int j => (-(2 ^ 61) ≤ i ∧ i < 2 ^ 61 ∧ -(2 ^ 61) ≤ j ∧ j - i ≤ 16777216) ∧ Q (rangeD i (j - i).toNat)
  | _, _ => False
theorem i_range2 {tg a b : Expr} {p : Pos} {db : DE} (hm : X.mg "range" = none) (ha : PE X a (LE P w X.K de)) (hb : PE X b (LE P w X.K db)) (hg : Gl X "range" := by rfl) (hs : starEach [a, b] X.env = [(false, eval a X.env), (false, eval b X.env)] := by rfl) (hs2 : starEach [b] X.env = [(false, eval b X.env)] := by rfl) :
    PI X tg (.Call (.Name "range" p) [a, b] [] pos) (LI P w X.K (iRg2 de db)) := by
  refine PI.imp (pi_range2 hg hm (pa_cons ha (pa_cons hb pa_nil hs2) (by rw [hs, hs2])) hs hs2) fun σ H Q ⟨F, A, ω, R, c, h, k⟩ => ⟨F, A, ω, _, c, h, fun d hd v H1 e1 r1 => ⟨F, A, ω, _, c.mono e1, hd, fun d2 hd2 v2 H2 e2 r2 => ?_⟩⟩
  cases r1 with
  | int i => cases r2 with
    | int j =>
      have hd' : (-(2 ^ 61) ≤ i ∧ i < 2 ^ 61 ∧ -(2 ^ 61) ≤ j ∧ j - i ≤ 16777216) ∧ R (rangeD i (j - i).toNat) := hd2
      exact ⟨i, j, rfl, ⟨by omega, by omega, by omega, by omega⟩, k _ hd'.2 _ H2 (e1.trans e2) iter_range⟩
    | _ => exact False.elim hd2
  | _ => exact False.elim hd2

/-! ### for -/
def dLoop (g : DG) (b : DS) (R : DEnds) : List D → List SV → Prop
  | [], ω => R.nx ω
  | d :: ds, ω => g d ω fun ω1 => b { nx := dLoop g b R ds, rt := R.rt, bk := R.nx, ct := dLoop g b R ds } ω1
def dFor (di : DI) (g : DG) (b : DS) : DS := fun R ω => di ω fun ds => dLoop g b R ds ω
theorem refocus_le {K : PySem.W.Frag} {F : Fm} {A : List Addr} {H : Hp} {σ : L2.St} {ω : List SV} (c : Ctx P w K F A H σ ω) : Same F.H0 (refocus F A H).H0 := fun b o h => by
  refine hid_of (fun z => ?_) (c.same b o h)
  rw [c.new b z] at h; cases h
theorem s_for {tg iter : Expr} {body : List Stmt} {di : DI} {vs : List Nat} {g : DG} {db : DS} (hp : PassesOwn (model X.prog X.w) X.A X.env X.xe) (hc : X.calm = true) (hi : PI X tg iter (LI P w X.K di)) (hg : PG X tg (LG P w X.K vs g)) (hb : PSs X body (LS P w X.K db))
    (hs : ∀ x, foldedSetIterable iter X.env x = pure x := by intro _; rfl) : PS X (.For tg iter body [] pos) (LS P w X.K (dFor di g db)) := by
  refine PS.imp (ps_for hp hc hi hg hb hs) fun E σ H ⟨F, A, ω, R, c, h, low⟩ => ⟨F, A, ω, _, c, h, fun ds hds J H1 e1 it => ?_⟩
  have c1 := c.mono e1
  refine ⟨fun i m σ' H' => m = ds.length - i ∧ i ≤ ds.length ∧ ∃ A' ω', Ctx P w X.K (refocus F A H1) A' H' σ' ω' ∧ dLoop g db R (ds.drop i) ω', ⟨ds.length, by simp, Nat.zero_le _, A, ω, c1.refocus, hds⟩, ?_⟩
  rintro i m σ' H' ⟨rfl, hi, A', ω', c', hl⟩
  have foc : Same (hid (A ++ F.B) H1) (hid (A' ++ F.B) H') := c1.focus_hid c'
  by_cases hlt : i < ds.length
  · right
    refine ⟨it.go _ _ foc i hlt, fun σ2 H2 => ∃ A2 ω2, Ctx P w X.K (refocus F A H1) A2 H2 σ2 ω2 ∧ dLoop g db R (ds.drop (i + 1)) ω2, fun σ2 H2 ⟨A2, ω2, c2, h2⟩ => ⟨_, by omega, rfl, by omega, A2, ω2, c2, h2⟩, fun x H2 y => ?_⟩
    obtain ⟨e2, d, hd, r⟩ := it.yld (A' ++ F.B) H' foc (fun p hp => c'.fresh hp) i x H2 hlt y
    have hdrop : ds.drop i = d :: ds.drop (i + 1) := by
      obtain ⟨hj, he⟩ := List.getElem?_eq_some_iff.mp hd
      rw [← he]
      exact List.drop_eq_getElem_cons hj
    rw [hdrop] at hl
    have c2 := c'.mono e2
    refine ⟨refocus F A H1, A', ω', d, _, c2, r, hl, fun ω3 h3 σ3 _ c3 => ⟨refocus F A H1, A', ω3, _, c3, h3, ⟨fun ω4 h4 σ4 H4 A4 c4 => ⟨A4, ω4, c4, h4⟩, fun d4 h4 v4 H4 s4 r4 => low.rt d4 h4 v4 H4 ((refocus_le c1).trans s4) r4, fun ω4 h4 σ4 H4 A4 c4 => low.nx ω4 h4 σ4 H4 A4 (c1.unfocus c4), fun ω4 h4 σ4 H4 A4 c4 => ⟨A4, ω4, c4, h4⟩⟩⟩⟩
  · left
    have e : i = ds.length := by omega
    subst e
    rw [List.drop_length] at hl
    exact ⟨it.stop _ _ foc, low.nx ω' hl σ' H' A' (c1.unfocus c')⟩

/-! ### comprehensions -/
def wipeD (ω : List SV) : List Nat → List SV
  | [] => ω
  | v :: vs => (wipeD ω vs).set v .un
theorem Ctx.wipe {K : PySem.W.Frag} {F : Fm} {A : List Addr} {H : Hp} {σ : L2.St} {ω : List SV} (c : Ctx P w K F A H σ ω) : ∀ vs : List Nat, Ctx P w K F A H (wipe σ vs) (wipeD ω vs)
  | [] => c
  | v :: vs => (Ctx.wipe c vs).wipe1
theorem wipe_wipe {σ : L2.St} {vs : List Nat} : ∀ us : List Nat, (∀ u ∈ us, u ∈ vs) → wipe (wipe σ us) vs = wipe σ vs
  | [], _ => rfl
  | u :: us, h => by
    show wipe ((wipe σ us).set u none) vs = wipe σ vs
    rw [wipe_set (h u List.mem_cons_self), wipe_wipe us fun x hx => h x (List.mem_cons_of_mem _ hx)]
def dYes : DT := fun _ Q => Q true
def dLcL (g : DG) (t : DT) (el : DE) (ω : List SV) : List D → List D → (List D → Prop) → Prop
  | [], acc, Q => Q acc
  | d :: ds, acc, Q => g d ω fun ω1 => t ω1 fun b => if b = true then el ω1 fun x => dLcL g t el ω ds (acc ++ [x]) Q else dLcL g t el ω ds acc Q
abbrev DF := List SV → (List D → Prop) → Prop
def fLc (di : DI) (g : DG) (t : DT) (el : DE) (vs : List Nat) : DF := fun ω Q => di ω fun ds => ds.length ≤ sizeLine ∧ dLcL g t el (wipeD ω vs) ds [] Q
def dNew (f : DF) : DE := fun ω Q => f ω fun ds => Q (.list ds)
/-- an expression that gives a new list -/
def LF (P : Program) (w : World) (K : PySem.W.Frag) (df : DF) : TE := fun σ H Q => ∃ (F : Fm) (A : List Addr) (ω : List SV) (R : List D → Prop), Ctx P w K F A H σ ω ∧ df ω R ∧ ∀ ds, R ds → ∀ p xs H', H p = none → Same H H' → H' p = some (.lst xs) → xs.length ≤ sizeLine → RpAll K (hid (p :: A ++ F.B) H') xs ds → Q (.ref p) H'
theorem e_new {df : DF} (h : PE X e (LF P w X.K df)) : PE X e (LE P w X.K (dNew df)) :=
  PE.imp h fun σ H Q ⟨F, A, ω, R, c, h, k⟩ => ⟨F, A, ω, _, c, h, fun ds hd p xs H' hp e1 ho hz r => k _ hd _ H' e1 (.lst (hid_of (c.fresh hp) ho) hz (r.mono (hid_sub fun b hb => List.mem_cons_of_mem _ hb)))⟩
theorem LTs.nil : PTs X [] (LT P w X.K dYes) := ⟨fun pins s σ H Q I ⟨F, A, ω, R, c, h, k⟩ => pts_nil.run pins s σ H Q I (k true h H (Same.refl H))⟩
theorem LTs.one {c : Expr} {dt : DT} (h : PT X c (LT P w X.K dt)) : PTs X [c] (LT P w X.K dt) := pts_one h
theorem lc_read {K : PySem.W.Frag} {di : DI} {g : DG} {t : DT} {el : DE} {vs : List Nat} {σ : L2.St} {H : Hp} {Q : VK} {F : Fm} {A : List Addr} {ω : List SV} {R : List D → Prop} (c : Ctx P w K F A H σ ω) (h : fLc di g t el vs ω R)
    (k : ∀ ds, R ds → ∀ p xs H', H p = none → Same H H' → H' p = some (.lst xs) → xs.length ≤ sizeLine → RpAll K (hid (p :: A ++ F.B) H') xs ds → Q (.ref p) H') : tLc (LI P w K di) (LG P w K vs g) (LT P w K t) (LE P w K el) vs σ H Q := by
  refine ⟨F, A, ω, _, c, h, fun ds hds J H1 e1 it => ?_⟩
  obtain ⟨hz, hl⟩ := hds
  have c1 := c.mono e1
  intro p hp
  refine ⟨fun i m H' => m = ds.length - i ∧ i ≤ ds.length ∧ Same H1 H' ∧ ∃ acc xs, H' p = some (.lst xs) ∧ acc.length ≤ i ∧ RpAll K (hid (p :: A ++ F.B) H') xs acc ∧ dLcL g t el (wipeD ω vs) (ds.drop i) acc R, ⟨ds.length, by simp, Nat.zero_le _, same_new hp, [], [], upd_same, Nat.le_refl _, .nil, hl⟩, ?_⟩
  rintro i m H' ⟨rfl, hi, e2, acc, xs, ho, hacc, hr, hl⟩
  have cp : Ctx P w K F (p :: A) H' σ ω := c1.hide e2 hp (by rw [ho]; intro z; cases z)
  have foc : Same (hid (A ++ F.B) H1) (hid (p :: A ++ F.B) H') := hid_more e2 fun b hb => by
    rcases List.mem_cons.mp hb with z | z
    · exact .inr (z ▸ hp)
    · exact .inl z
  by_cases hlt : i < ds.length
  · right
    refine ⟨it.go _ _ foc i hlt, fun H2 => Same H1 H2 ∧ ∃ acc xs, H2 p = some (.lst xs) ∧ acc.length ≤ i + 1 ∧ RpAll K (hid (p :: A ++ F.B) H2) xs acc ∧ dLcL g t el (wipeD ω vs) (ds.drop (i + 1)) acc R, fun H2 h2 => ⟨_, by omega, rfl, by omega, h2⟩, fun x H2 y => ?_⟩
    obtain ⟨e3, d, hd, r⟩ := it.yld (p :: A ++ F.B) H' foc (fun q hq => cp.fresh hq) i x H2 hlt y
    have hdrop : ds.drop i = d :: ds.drop (i + 1) := by
      obtain ⟨hj, he⟩ := List.getElem?_eq_some_iff.mp hd
      rw [← he]
      exact List.drop_eq_getElem_cons hj
    rw [hdrop] at hl
    have c2 : Ctx P w K F (p :: A) H2 (wipe σ vs) (wipeD ω vs) := (cp.mono e3).wipe _
    have wf : Same (hid (A ++ F.B) H1) (hid (p :: A ++ F.B) H2) := foc.trans (hid_mono e3)
    refine ⟨F, p :: A, _, d, _, c2, r, hl, fun ω3 h3 σ3 hw c3 => ⟨hw.trans (wipe_wipe _ fun _ h => h), F, p :: A, ω3, _, c3, h3, fun b hb H3 e4 => ?_⟩⟩
    have ho3 : H3 p = some (.lst xs) := e4 _ _ (e3 _ _ ho)
    have hr3 : RpAll K (hid (p :: A ++ F.B) H3) xs acc := hr.mono (hid_mono (e3.trans e4))
    cases b with
    | true =>
      rw [if_pos rfl] at hb
      refine iteT ?_
      refine ⟨F, p :: A, ω3, _, c3.mono e4, hb, fun y hy v H4 e5 r5 => ?_⟩
      have ho4 : H4 p = some (.lst xs) := e5 _ _ ho3
      have hr4 := hr3.mono (hid_mono e5)
      have hlen := hr4.length
      refine ⟨xs, ho4, by omega, fun b o hb => ?_, acc ++ [y], xs ++ [v], upd_same, by simp; omega, ?_, hy⟩
      · rw [upd_ne (ne_of_none hb hp)]
        exact (((e2.trans e3).trans e4).trans e5) b o hb
      · rw [hid_upd (by simp)]
        exact hr4.append (.cons r5 .nil)
    | false =>
      rw [if_neg Bool.false_ne_true] at hb
      refine iteF ?_
      exact ⟨(e2.trans e3).trans e4, acc, xs, ho3, by omega, hr3, hb⟩
  · left
    have e : i = ds.length := by omega
    subst e
    rw [List.drop_length] at hl
    exact ⟨it.stop _ _ foc, k acc hl p xs H' (e1.free hp) (e1.trans e2) ho (by have := hr.length; omega) hr⟩
theorem f_lc {elt tg iter : Expr} {ifs : List Expr} {scope : Scope} {own : List (Str × Nat)} {di : DI} {g : DG} {t : DT} {el : DE} (hc : X.calm = true) (hN : X.N.Nodup) (hi : PI X tg iter (LI P w X.K di)) (ok : BlkOk X.N X.env.scope scope own)
    (hg : ∀ (s : Shared) (H : Hp) (C : Addr) (cl : List (Str × Addr)) (fp : List Addr), PG (X.blk s H scope (compEnvC scope cl C X.env) fp) tg (LG P w X.K (own.map (·.2)) g))
    (ht : ∀ (s : Shared) (H : Hp) (C : Addr) (cl : List (Str × Addr)) (fp : List Addr), PTs (X.blk s H scope (compEnvC scope cl C X.env) fp) ifs (LT P w X.K t))
    (he : ∀ (s : Shared) (H : Hp) (C : Addr) (cl : List (Str × Addr)) (fp : List Addr), PE (X.blk s H scope (compEnvC scope cl C X.env) fp) elt (LE P w X.K el)) (hs : ∀ x, foldedSetIterable iter X.env x = pure x := by intro _; rfl) :
    PE X (.ListComp elt [⟨tg, iter, ifs, 0⟩] scope pos) (LF P w X.K (fLc di g t el (own.map (·.2)))) := by
  exact PE.imp (pe_lc hc hN hi ok hg ht he hs) fun σ H Q ⟨F, A, ω, R, c, h, k⟩ => lc_read c h k
/-- y = [..]: the list stays with everybody -/
theorem s_lc {i : Nat} {y : Str} {py : Pos} {elt tg iter : Expr} {ifs : List Expr} {scope : Scope} {own : List (Str × Nat)} {spos : Pos} {di : DI} {g : DG} {t : DT} {el : DE} (hN : X.N.Nodup) (hy : X.N[i]? = some y) (hyl : X.env.scope.names.lookup y = some .local)
    (hsw : swapsWith (.ListComp elt [⟨tg, iter, ifs, 0⟩] scope pos) (some (.Name y py)) spos.line X.env = pure true) (hc : X.calm = true) (hN' : X.N.Nodup) (hi : PI X tg iter (LI P w X.K di)) (ok : BlkOk X.N X.env.scope scope own)
    (hg : ∀ (s : Shared) (H : Hp) (C : Addr) (cl : List (Str × Addr)) (fp : List Addr), PG (X.blk s H scope (compEnvC scope cl C X.env) fp) tg (LG P w X.K (own.map (·.2)) g))
    (ht : ∀ (s : Shared) (H : Hp) (C : Addr) (cl : List (Str × Addr)) (fp : List Addr), PTs (X.blk s H scope (compEnvC scope cl C X.env) fp) ifs (LT P w X.K t))
    (he : ∀ (s : Shared) (H : Hp) (C : Addr) (cl : List (Str × Addr)) (fp : List Addr), PE (X.blk s H scope (compEnvC scope cl C X.env) fp) elt (LE P w X.K el)) (hs : ∀ x, foldedSetIterable iter X.env x = pure x := by intro _; rfl) :
    PS X (.Assign [.Name y py] (.ListComp elt [⟨tg, iter, ifs, 0⟩] scope pos) spos) (LS P w X.K (dSet i (dNew (fLc di g t el (own.map (·.2)))))) := by
  refine PS.imp (ps_setLc hc hN hy hyl hsw hi ok hg ht he hs) fun E σ H ⟨F, A, ω, R, c, h, l⟩ => ?_
  refine lc_read c h fun ds hd p xs H' hp e1 ho hz r => ?_
  exact l.nx _ hd _ H' A ((c.mono e1).set (.lst (hid_of (c.fresh hp) ho) hz (r.mono (hid_sub fun b hb => List.mem_cons_of_mem _ hb))))
end
end DL
/-! DL: a def's promise over data; the tape hidden; lists of the body's own. -/
namespace DL
open PySem PySem.Spec PyProof.Rows L2

/-- what a body does with its arguments, over data -/
def fnD (ds : DS) (n : Nat) : List SV → EK → Prop := fun svs Q => ds { nx := fun _ => Q .none, rt := Q, bk := fun _ => False, ct := fun _ => False } (svs ++ List.replicate n .un)
section
variable {P : Program} {w : World} {K : PySem.W.Frag} {mg : Str → Option Value} {base : Heap}
theorem args_slot {C : List Addr} {H : Hp} : ∀ {vs : List V} {svs : List SV}, Args P w K C H vs svs → ∀ (rest : List (Option V)) (more : List SV), (∀ s ∈ more, s = .un) → ∀ (i : Nat) (s : SV), (svs ++ more)[i]? = some s → SlotR P w K C [] H (vs.map some ++ rest)[i]? s
  | _, _, .nil, rest, more, hm, i, s, h => by
    rw [List.nil_append] at h
    rw [hm s (List.mem_of_getElem? h)]
    trivial
  | _, _, .cons r t, rest, more, hm, 0, s, h => by
    simp at h
    subst h
    rename_i v sv _ _
    cases sv with
    | un => trivial
    | dat d => exact ⟨v, rfl, r⟩
    | own ds => exact False.elim r
    | tape => obtain ⟨a, rfl, h⟩ := r; exact ⟨a, rfl, h⟩
    | scr ns => obtain ⟨a, rfl, h⟩ := r; exact ⟨a, rfl, h⟩
  | _, _, .cons r t, rest, more, hm, i + 1, s, h => args_slot t rest more hm i s (by simpa using h)
theorem args_own {C : List Addr} {H : Hp} : ∀ {vs : List V} {svs : List SV}, Args P w K C H vs svs → ∀ (i : Nat) (ds : List D), svs[i]? ≠ some (.own ds)
  | _, _, .nil, i, ds, h => by simp at h
  | _, _, .cons r t, 0, ds, h => by
    simp at h
    subst h
    exact r
  | _, _, .cons r t, i + 1, ds, h => args_own t i ds (by simpa using h)
theorem start_ctx {H : Hp} {B : List Addr} {vs : List V} {svs : List SV} {N : List Str} (hB : ∀ b ∈ B, H b ≠ none) (r : Args P w K B H vs svs) : Ctx P w K ⟨H, B⟩ [] H (start N vs) (svs ++ List.replicate (N.length - vs.length) .un) := by
  refine ⟨Same.refl H, (fun _ h => nomatch h), (fun _ h => nomatch h), hB, ?_, fun i s h => ?_, fun i j ds es a hij h1 h2 _ _ => ?_⟩
  · have := Paired.length r
    simp [L2.start, this]
  · exact args_slot r _ _ (fun s hs => (List.mem_replicate.mp hs).2) i s h
  · by_cases hi : i < svs.length
    · rw [List.getElem?_append_left hi] at h1
      exact args_own r i ds h1
    · rw [List.getElem?_append_right (by omega)] at h1
      have := (List.mem_replicate.mp (List.mem_of_getElem? h1)).2
      cases this
theorem fn_ok {x qual : Str} {st : Stmt} {f : Addr} {fd : FuncData} {N ps : List Str} {k : Nat} {ds : DS} (F : Fun K x qual st f fd) (S : FnScope N ps (defScope st))
    (body : ∀ (cdv : Value) (A : Around) (outer : List Env) (s : Shared) (H : Hp) (E : XK), Room k (A.deeper (envOfC qual (defScope st) s.heap.objs.size f cdv)) → PSs (cxOf CX0 P w K mg base N qual (defScope st) f cdv A outer s H E).nox (defBody st) (LS P w K ds)) :
    FnOk P w K mg base CX0 (k + 1) f fd ps (spD P w K ps.length (fnD ds (N.length - ps.length))) := by
  refine F.ok S (fun vs H Q E h => ?_) (fun cdv A outer s H vs Q E hr h => ⟨_, body cdv A outer s H E hr, ?_⟩)
  · obtain ⟨_, _, _, _, hl, _⟩ := h
    exact hl
  · obtain ⟨svs, B, R, args, hl, hB, hm, k⟩ := h
    refine ⟨⟨H, B⟩, [], _, _, start_ctx hB args, by rw [hl]; exact hm, ⟨fun ω h σ H' A c => k _ h _ _ c.same .non, fun d hd v H' s r => k d hd v H' s r, fun _ h => False.elim h, fun _ h => False.elim h⟩⟩
/-- a def of the text by its name -/
structure DefAt (K : PySem.W.Frag) (mg : Str → Option Value) (x : Str) (st : Stmt) : Prop where
  ex : ∃ (f : Addr) (fd : FuncData), Fun K x x st f fd ∧ mg x = some (.ref f)
/-- how positional arguments bind -/
def BindsN (x : Str) (st : Stmt) (ps : List Str) : Prop := ∀ (kV doc pm : Value) (an : Option Addr) (cdv ct : Value) (us : List Value), us.length = ps.length → bindArgs (PySem.W.fnOf x x (defArgs st) (defBody st) (defScope st) .none kV doc pm an cdv ct) ⟨us, []⟩ = pure (ps.zip us)
theorem cal_of {x : Str} {st : Stmt} {ps : List Str} {k : Nat} {sp : Sp} (Df : DefAt K mg x st) (b : BindsN x st ps) (h : ∀ f fd, Fun K x x st f fd → FnOk P w K mg base CX0 k f fd ps sp) : C8.Cal P w K mg base k x sp [] := by
  obtain ⟨f, fd, F, hm⟩ := Df.ex
  exact ⟨f, fd, ps, [], h f fd F, hm, F.kp, F.binds b, .nil⟩
theorem cal_imp {x : Str} {k : Nat} {n : Nat} {m m' : List SV → EK → Prop} (c : C8.Cal P w K mg base k x (spD P w K n m) []) (h : ∀ svs R, svs.length = n → m' svs R → m svs R) : C8.Cal P w K mg base k x (spD P w K n m') [] := by
  obtain ⟨f, fd, ps, ds, F, h1, h2, h3, h4⟩ := c.ex
  refine ⟨f, fd, ps, ds, F.imp fun vs H Q E ⟨svs, B, R, a, hl, hB, hm, k⟩ => ⟨svs, B, R, a, hl, hB, h svs R (by rw [← Paired.length a]; exact hl) hm, k⟩, h1, h2, h3, h4⟩
theorem cal_mono {x : Str} {j k : Nat} {sp : Sp} (c : C8.Cal P w K mg base j x sp []) (h : j ≤ k) : C8.Cal P w K mg base k x sp [] := by
  obtain ⟨f, fd, ps, ds, F, h1⟩ := c.ex
  exact ⟨f, fd, ps, ds, F.mono h, h1⟩

/-! ### the tape: a dict whose two numbers are known by their bounds alone -/
def TapeB (d m : Int) : Prop := 0 ≤ d ∧ Builtin.Int.intBits d ≤ 1048576 ∧ 0 ≤ m ∧ m < 4294967296
theorem tape_open {H : Hp} {h : Heap} {a : Addr} (ok : HOk P w H h) (e : H a = some (TapeO P w a)) : ∃ d m, TapeB d m ∧ HOk P w (upd H a (.dK (tapeKv d m))) h := by
  obtain ⟨⟨d, m, h1, h2, h3, h4, o⟩, ⟨ob, eb⟩, _⟩ := ok a _ e
  exact ⟨d, m, ⟨h1, h2, h3, h4⟩, ok.write (by rw [e]; trivial) (.inl rfl) (fun b u _ q => q) ⟨ob, eb⟩ o⟩
theorem tape_shut {H : Hp} {h : Heap} {a : Addr} {d m : Int} (ok : HOk P w H h) (e : H a = some (.dK (tapeKv d m))) (b : TapeB d m) : HOk P w (upd H a (TapeO P w a)) h := by
  have o : ObjOk P w H h a (.dK (tapeKv d m)) := ok a _ e
  have hb : ∃ u, h.get? a = some u := by
    obtain ⟨_, _, _, _, o, _, _, e, _⟩ := o
    exact ⟨o, e⟩
  refine ok.write (by rw [e]; trivial) (.inl rfl) (fun b u _ q => q) hb ⟨⟨d, m, b.1, b.2.1, b.2.2.1, b.2.2.2, o⟩, hb, fun h1 h2 ⟨d, m, z1, z2, z3, z4, o⟩ k => ⟨d, m, z1, z2, z3, z4, ?_⟩⟩
  refine o.stay (fun b u hb q => ?_) (fun b q => nomatch q) (fun b xs q => nomatch q)
  rcases hb with z | z
  · subst z; exact k u q
  · cases z
theorem upd_back {H : Hp} {a : Addr} {o u : HO} (e : H a = some o) : upd (upd H a u) a o = H := by
  rw [upd_upd]
  funext b
  by_cases hb : b = a
  · rw [hb, upd_same, e]
  · rw [upd_ne hb]
theorem tape_view {k : Nat} {f : Addr} {fd : FuncData} {ps : List Str} {sp : Sp} (F : FnOk P w K mg base CX0 k f fd ps sp) : FnOk P w K mg base CX0 k f fd ps (fun vs H Q E => ∃ a, vs.length = ps.length ∧ H a = some (TapeO P w a) ∧
    ∀ d m, TapeB d m → sp vs (upd H a (.dK (tapeKv d m))) (fun v H' => ∃ d' m', TapeB d' m' ∧ H' = upd H a (.dK (tapeKv d' m')) ∧ Q v H) E) := by
  refine ⟨fun vs H Q E ⟨a, hl, _⟩ => hl, fun A outer s H args us vs Q E hr e0 hb hv ⟨a, hl, ha, hs⟩ => ?_⟩
  obtain ⟨d, m, hB, ok⟩ := tape_open e0.hok ha
  have hne : ∀ b, H b = none → b ≠ a := fun b n z => by rw [z, ha] at n; cases n
  have hob : ∃ u, s.heap.get? a = some u := by
    obtain ⟨_, h2, _⟩ := e0.hok a _ ha
    exact h2
  have e1 : Env0 P w K mg base A outer s (upd H a (.dK (tapeKv d m))) := ⟨e0.frames, e0.mod, fun b o q => ⟨(e0.bs b o q).1, by rw [upd_ne (hne b (e0.bs b o q).2)]; exact (e0.bs b o q).2⟩, e0.bsz, e0.funs, fun b q => by rw [upd_ne (hne b (e0.frf b q))]; exact e0.frf b q, ok, e0.bare⟩
  refine codeAny_mono (F.run A outer s _ args us vs _ E hr e1 hb hv (hs d m hB)) fun r s' h => ?_
  cases r with
  | error e => exact False.elim h
  | ok fl =>
    cases fl with
    | next => exact False.elim h
    | brk => exact False.elim h
    | cont => exact False.elim h
    | ret u =>
      obtain ⟨v, H', os, bare, un, hok', r', d', m', hB', rfl, q⟩ := h
      have ok2 := tape_shut (a := a) hok' upd_same hB'
      have u1 : Un (frs outer) [] H (upd H a (.dK (tapeKv d m))) s.heap s.heap := Un.write (e := a) (by rw [ha]; trivial) (.inl rfl) (fun b u _ q => q) hob
      have hob' : ∃ u, s'.heap.get? a = some u := by
        obtain ⟨_, _, _, _, o, _, _, e, _⟩ := hok' a _ upd_same
        exact ⟨o, e⟩
      have u2 : Un (frs outer) [] (upd H a (.dK (tapeKv d' m'))) (upd (upd H a (.dK (tapeKv d' m'))) a (TapeO P w a)) s'.heap s'.heap := Un.write (e := a) (by rw [upd_same]; trivial) (.inl rfl) (fun b u _ q => q) hob'
      rw [upd_back ha] at ok2 u2
      exact ⟨v, H, os, bare, (u1.trans un).trans u2, ok2, r', q⟩
theorem tape_make {k : Nat} {f : Addr} {fd : FuncData} {ps : List Str} {sp : Sp} (F : FnOk P w K mg base CX0 k f fd ps sp) : FnOk P w K mg base CX0 k f fd ps (fun vs H Q E => sp vs H (fun v H' => ∃ p d m, v = .ref p ∧ TapeB d m ∧ H' p = some (.dK (tapeKv d m)) ∧ Q v (upd H' p (TapeO P w p))) E) := by
  refine ⟨fun vs H Q E h => F.len _ _ _ _ h, fun A outer s H args us vs Q E hr e0 hb hv hs => ?_⟩
  refine codeAny_mono (F.run A outer s _ args us vs _ E hr e0 hb hv hs) fun r s' h => ?_
  cases r with
  | error e => exact False.elim h
  | ok fl =>
    cases fl with
    | next => exact False.elim h
    | brk => exact False.elim h
    | cont => exact False.elim h
    | ret u =>
      obtain ⟨v, H', os, bare, un, hok', r', p, d, m, rfl, hB, hp, q⟩ := h
      have ok2 := tape_shut hok' hp hB
      have hob' : ∃ u, s'.heap.get? p = some u := by
        obtain ⟨_, _, _, _, o, _, _, e, _⟩ := hok' p _ hp
        exact ⟨o, e⟩
      have u2 : Un (frs outer) [] H' (upd H' p (TapeO P w p)) s'.heap s'.heap := Un.write (e := p) (by rw [hp]; trivial) (.inl rfl) (fun b u _ q => q) hob'
      exact ⟨_, _, os, bare, un.trans u2, ok2, r', q⟩
/-- a pick: any number from 0 to n - 1 -/
def mPick : List SV → EK → Prop
  | [.tape, .dat (.int n)], Q => (0 < n ∧ n ≤ 2 ^ 62) ∧ ∀ r : Int, 0 ≤ r → r < n → Q (.int r)
  | _, _ => False
def spPick0 : Sp := fun vs H Q _ => ∃ (a : Addr) (d m n : Int), vs = [.ref a, .int n] ∧ H a = some (.dK (tapeKv d m)) ∧ TapeB d m ∧ 0 < n ∧ n ≤ 2 ^ 62 ∧ ∀ r d' m' : Int, 0 ≤ r → r < n → TapeB d' m' → Q (.int r) (upd H a (.dK (tapeKv d' m')))
theorem pick_of {k : Nat} {f : Addr} {fd : FuncData} {ps : List Str} (F : FnOk P w K mg base CX0 k f fd ps spPick0) (hp : ps.length = 2) : FnOk P w K mg base CX0 k f fd ps (spD P w K 2 mPick) := by
  refine (tape_view F).imp fun vs H Q E ⟨svs, B, R, a, hl, hB, hm, k⟩ => ?_
  match svs, a, hm with
  | [.tape, .dat (.int n)], a, ⟨⟨h0, h1⟩, hm⟩ =>
    cases a with
    | cons a1 a2 =>
    cases a2 with
    | cons r a3 =>
    cases a3
    obtain ⟨p, rfl, ht⟩ := a1
    cases r
    refine ⟨p, by rw [hp]; rfl, ht, fun d m hb => ⟨p, d, m, n, rfl, upd_same, hb, h0, h1, fun r d' m' z0 z1 hb' => ⟨d', m', hb', by rw [upd_upd], k _ (hm r z0 z1) _ H (Same.refl H) (.int r)⟩⟩⟩
end

/-! ### lists of the body's own -/
section
variable {P : Program} {w : World} {X : Cx} {pos : Pos} {e : Expr} {de : DE} {df : DF}
def dOwn (i : Nat) (f : DF) : DS := fun R ω => f ω fun ds => R.nx (ω.set i (.own ds))
theorem s_own {i : Nat} {x : Str} {pos' : Pos} (hN : X.N.Nodup) (hi : X.N[i]? = some x) (hx : Loc X.env.scope x) (he : PE X e (LF P w X.K df)) (hs : swapsWith e (some (.Name x pos')) pos.line X.env = pure false := by rfl)
    (hf : X.fn x = true ∨ X.env.scope.names.lookup x = some .local := by first | exact .inl rfl | exact .inr rfl | assumption) : PS X (.Assign [.Name x pos'] e pos) (LS P w X.K (dOwn i df)) :=
  PS.imp (ps_set hN hi hx he hs hf) fun E σ H ⟨F, A, ω, R, c, h, l⟩ => ⟨F, A, ω, _, c, h, fun ds hd p xs H1 hp e1 ho hz r => by
    have c1 := c.hide e1 hp (by rw [ho]; intro z; cases z)
    refine l.nx _ hd _ H1 (p :: A) (c1.setOwn List.mem_cons_self ho hz r fun j es _ hj z => ?_)
    obtain ⟨a, ys, h1, h2, _⟩ := c.sl j _ hj
    rw [z] at h1
    cases h1
    exact c.held p h2 hp⟩
def fLst (a : DD) : DF := fun ω Q => a ω Q
theorem f_lst {es : List Expr} {n : Nat} {dr : DD} (h : PA X es (LD P w X.K n dr)) (hn : n ≤ sizeLine := by decide) : PE X (.List es pos) (LF P w X.K (fLst dr)) :=
  PE.imp (pe_lst h) fun σ H Q ⟨F, A, ω, R, c, h, k⟩ => ⟨F, A, ω, _, c, h, fun ds hd hl vs H1 e1 r1 => ⟨by rw [r1.length, hl]; exact hn, fun p hp =>
    k _ hd p vs _ (e1.free hp) (e1.trans (same_new hp)) upd_same (by rw [r1.length, hl]; exact hn) (r1.mono (hid_more (same_new hp) fun b hb => by
      rcases List.mem_cons.mp hb with z | z
      · exact .inr (z ▸ hp)
      · exact .inl z))⟩⟩
/-- xs.append(e) -/
def dApp (i : Nat) (a : DE) : DS := fun R ω => match ω[i]? with
  | some (.own ds) => a ω fun d => ds.length < sizeLine ∧ R.nx (ω.set i (.own (ds ++ [d])))
  | _ => False
theorem Ctx.putOwn {K : PySem.W.Frag} {F : Fm} {A : List Addr} {H : Hp} {σ : L2.St} {ω : List SV} (c : Ctx P w K F A H σ ω) {i : Nat} {p : Addr} {xs : List V} {ds ds' : List D} (hi : ω[i]? = some (.own ds)) (hp : σ[i]? = some (some (.ref p))) (hA : p ∈ A) (hz : xs.length ≤ sizeLine) (r : RpAll K (hid (A ++ F.B) H) xs ds') (hm : Mut (H p)) :
    Ctx P w K F A (upd H p (.lst xs)) σ (ω.set i (.own ds')) := by
  have hid' : hid (A ++ F.B) (upd H p (.lst xs)) = hid (A ++ F.B) H := hid_upd (List.mem_append_left _ hA)
  have hiL : i < ω.length := (List.getElem?_eq_some_iff.mp hi).1
  refine ⟨fun b o h => ?_, c.new, fun a ha => ?_, c.old, by simpa using c.len, fun j s hj => ?_, fun j k ds1 es a hjk h1 h2 h3 h4 => ?_⟩
  · rw [upd_ne (fun z => by rw [z, c.new p hA] at h; cases h)]
    exact c.same b o h
  · by_cases z : a = p
    · rw [z, upd_same]; intro q; cases q
    · rw [upd_ne z]; exact c.held a ha
  · by_cases e : i = j
    · subst e
      rw [List.getElem?_set_self hiL] at hj
      cases hj
      exact ⟨p, xs, hp, hA, upd_same, hz, by rw [hid']; exact r⟩
    · rw [List.getElem?_set_ne e] at hj
      have q := c.sl j s hj
      cases s with
      | un => trivial
      | dat d => obtain ⟨v, q1, q2⟩ := q; exact ⟨v, q1, by rw [hid']; exact q2⟩
      | own es =>
        obtain ⟨a, ys, q1, q2, q3, q4, q5⟩ := q
        have n : a ≠ p := fun z => c.dist i j ds es p e hi hj hp (z ▸ q1)
        exact ⟨a, ys, q1, q2, by rw [upd_ne n]; exact q3, q4, by rw [hid']; exact q5⟩
      | tape =>
        obtain ⟨a, q1, q2⟩ := q
        obtain ⟨p', xs', r1, r2, r3, _⟩ := c.sl i _ hi
        rw [hp] at r1
        cases r1
        exact ⟨a, q1, by rw [upd_ne (fun z => by rw [z, r3] at q2; cases q2)]; exact q2⟩
      | scr ns =>
        obtain ⟨a, q1, q2⟩ := q
        refine ⟨a, q1, ?_⟩
        rcases q2 with ⟨o, q2⟩ | q2
        · exact .inl ⟨o, by rw [upd_ne (fun z => by rw [z] at q2; rw [q2] at hm; exact hm)]; exact q2⟩
        · exact .inr q2
  · have key : ∀ (j : Nat) (ds1 : List D), (ω.set i (.own ds'))[j]? = some (.own ds1) → ∃ ds2, ω[j]? = some (.own ds2) := fun j ds1 h => by
      by_cases e : i = j
      · subst e; exact ⟨ds, hi⟩
      · rw [List.getElem?_set_ne e] at h; exact ⟨ds1, h⟩
    obtain ⟨d1, k1⟩ := key j ds1 h1
    obtain ⟨d2, k2⟩ := key k es h2
    exact c.dist j k d1 d2 a hjk k1 k2 h3 h4
end
end DL
namespace DL
open PySem PySem.Spec PyProof.Rows L2
section
variable {P : Program} {w : World} {X : Cx} {pos : Pos} {e : Expr} {de : DE}
/-- i: the list's slot -/
theorem s_app {i : Nat} {x : Str} {np apos p2 : Pos} (hN : X.N[i]? = some x) (hv : Vis X.env.scope x) (he : PE X e (LE P w X.K de))
    (hs : swapsWith (.Call (.Attribute (.Name x np) "append" apos) [e] [] p2) none pos.line X.env = pure false := by rfl)
    (hd : (x == ("__debug__" : Str)) = false := by decide) (hcd : (x == ("__classdict__" : Str)) = false := by decide)
    (hbase : attributeBase (.Name x np) "append" X.env (eval (.Name x np) X.env) = eval (.Name x np) X.env := by rfl)
    (hfew : ((backTo p2 (starEach [e] X.env)).all (fun x => !x.1) && (backToKw p2 (keywordEach [] X.env)).all (fun x => x.1.isSome)
      && decide (([e] : List Expr).length + ([] : List Keyword).length + (if ([] : List Keyword).isEmpty then 0 else 1) < 30)) = true := by rfl)
    (hline : (apos.endLine == p2.line) = true := by rfl) (hst : starEach [e] X.env = (false, eval e X.env) :: starEach [] X.env := by rfl) (hplain : (backTo p2 (starEach [] X.env)).any (·.1) = false := by rfl) :
    PS X (.Expr (.Call (.Attribute (.Name x np) "append" apos) [e] [] p2) pos) (LS P w X.K (dApp i de)) := by
  refine PS.imp (ps_expr (pe_bm PySem.F.plainAttrs_list PySem.F.slot_list_append PySem.F.type_list_append mt_append (pe_var hN hv hd hcd) (pa_cons he pa_nil hst) hbase hfew hline hst hplain) hs) fun E σ H ⟨F, A, ω, R, c, h, l⟩ => ?_
  unfold dApp at h
  split at h
  · rename_i ds hi
    obtain ⟨p, xs, h1, h2, h3, h4, h5⟩ := c.sl i _ hi
    refine ⟨_, h1, .inl ⟨rfl, _, SqL.of h3⟩, F, A, ω, _, c, h, fun d hd v H1 e1 r1 => ?_⟩
    have c1 := c.mono e1
    have h3' := e1 _ _ h3
    have hl := h5.length
    refine ⟨p, xs, v, rfl, rfl, h3', by omega, ?_⟩
    exact l.nx _ hd.2 _ _ A (c1.putOwn hi h1 h2 (by simp; omega) ((h5.mono (hid_mono e1)).append (.cons r1 .nil)) (by rw [h3']; trivial))
  · exact h.elim
end
end DL
/-! DL: short words for the printed derivations; reads of own lists and of the script; join. -/
namespace DL
open PySem PySem.Spec PyProof.Rows L2
section
variable {P : Program} {w : World} {X : Cx} {pos : Pos} {e a b c : Expr} {de da db : DE} {df : DF}
/-- the name that stands in the i-th slot -/
theorem ev (i : Nat) {x : Str} (hN : X.N[i]? = some x := by rfl) (hv : Vis X.env.scope x := by first | exact Or.inl rfl | exact Or.inr (Or.inl rfl) | exact Or.inr (Or.inr rfl)) (hd : (x == ("__debug__" : Str)) = false := by decide) (hcd : (x == ("__classdict__" : Str)) = false := by decide) : PE X (.Name x pos) (LE P w X.K (dVar i)) := e_var hN hv hd hcd
theorem asl (i : Nat) {x : Str} {es : List Expr} {n : Nat} {dr : DA} (hr : PA X es (LA P w X.K n dr)) (hN : X.N[i]? = some x := by rfl) (hv : Vis X.env.scope x := by first | exact Or.inl rfl | exact Or.inr (Or.inl rfl) | exact Or.inr (Or.inr rfl)) (hs : starEach (.Name x pos :: es) X.env = (false, eval (.Name x pos) X.env) :: starEach es X.env := by rfl)
    (hd : (x == ("__debug__" : Str)) = false := by decide) (hcd : (x == ("__classdict__" : Str)) = false := by decide) : PA X (.Name x pos :: es) (LA P w X.K (n + 1) (aSlot i dr)) := a_slot hN hv hr hs hd hcd
/-- one of an own list -/
def dIxOwn (i : Nat) (b : DE) : DE := fun ω Q => match ω[i]? with
  | some (.own ds) => b ω fun y => fIx (.list ds) y Q
  | _ => False
theorem e_ixOwn (i : Nat) {x : Str} {np : Pos} (hb : PE X b (LE P w X.K db)) (hs : PlainIx b := by intro _ _; rfl) (hN : X.N[i]? = some x := by rfl) (hv : Vis X.env.scope x := by first | exact Or.inl rfl | exact Or.inr (Or.inl rfl) | exact Or.inr (Or.inr rfl)) (hd : (x == ("__debug__" : Str)) = false := by decide) (hcd : (x == ("__classdict__" : Str)) = false := by decide) : PE X (.Subscript (.Name x np) b pos) (LE P w X.K (dIxOwn i db)) := by
  refine PE.imp (pe_ix ix_seq (pe_var hN hv hd hcd) hb hs) fun σ H Q ⟨F, A, ω, R, c, h, k⟩ => ?_
  unfold dIxOwn at h
  split at h
  · rename_i ds hi
    obtain ⟨p, xs, h1, h2, h3, h4, h5⟩ := c.sl i _ hi
    refine ⟨_, h1, F, A, ω, _, c, h, fun y hy v H1 e1 r1 => ?_⟩
    cases r1 with
    | int j =>
      have hf : (match atI ds j with | some d => R d | none => False) := hy
      cases ej : atI ds j with
      | none => rw [ej] at hf; exact hf.elim
      | some d =>
        rw [ej] at hf
        obtain ⟨u, e2, r2⟩ := at_of (h5.mono (hid_mono e1)) ej
        exact .inl ⟨_, xs, j, u, rfl, rfl, SqL.of (e1 _ _ h3), e2, k _ hf _ H1 e1 r2⟩
    | _ => exact False.elim hy
  · exact h.elim
def dLenOwn (i : Nat) : DE := fun ω Q => match ω[i]? with
  | some (.own ds) => Q (.int ds.length)
  | _ => False
theorem e_lenOwn (i : Nat) {x : Str} {np p : Pos} (hm : X.mg "len" = none) (hN : X.N[i]? = some x := by rfl) (hv : Vis X.env.scope x := by first | exact Or.inl rfl | exact Or.inr (Or.inl rfl) | exact Or.inr (Or.inr rfl)) (hg : Gl X "len" := by rfl) (hd : (x == ("__debug__" : Str)) = false := by decide) (hcd : (x == ("__classdict__" : Str)) = false := by decide)
    (he : starEach [.Name x np] X.env = (false, eval (.Name x np) X.env) :: starEach [] X.env := by rfl) (hpl : (backTo pos (starEach [] X.env)).any (·.1) = false := by rfl) : PE X (.Call (.Name "len" p) [.Name x np] [] pos) (LE P w X.K (dLenOwn i)) := by
  refine PE.imp (pe_callB call_len_seq hg hm PySem.boot_len (pa_cons (pe_var hN hv hd hcd) pa_nil he) (he := he) (hpl := hpl)) fun σ H Q ⟨F, A, ω, R, c, h, k⟩ => ?_
  unfold dLenOwn at h
  split at h
  · rename_i ds hi
    obtain ⟨p, xs, h1, h2, h3, h4, h5⟩ := c.sl i _ hi
    exact ⟨_, h1, p, xs, rfl, .inl (SqL.of h3), by rw [h5.length]; exact k _ h _ H (Same.refl H) (.int _)⟩
  · exact h.elim
/-- return of an own list -/
def dRetOwn (i : Nat) : DS := fun R ω => match ω[i]? with
  | some (.own ds) => R.rt (.list ds)
  | _ => False
theorem s_retOwn (i : Nat) {x : Str} {np : Pos} (hN : X.N[i]? = some x := by rfl) (hv : Vis X.env.scope x := by first | exact Or.inl rfl | exact Or.inr (Or.inl rfl) | exact Or.inr (Or.inr rfl)) (hd : (x == ("__debug__" : Str)) = false := by decide) (hcd : (x == ("__classdict__" : Str)) = false := by decide) : PS X (.Return (some (.Name x np)) pos) (LS P w X.K (dRetOwn i)) := by
  refine PS.imp (ps_ret (pe_var hN hv hd hcd)) fun E σ H ⟨F, A, ω, R, c, h, l⟩ => ?_
  unfold dRetOwn at h
  split at h
  · rename_i ds hi
    obtain ⟨p, xs, h1, h2, h3, h4, h5⟩ := c.sl i _ hi
    refine ⟨_, h1, l.rt _ h _ H c.same (.lst (hid_of (fun z => c.old p z (c.new p h2)) h3) h4 (h5.mono (hid_sub fun b hb => List.mem_append_right _ hb)))⟩
  · exact h.elim
/-- len of the script -/
def dLenScr (i : Nat) : DE := fun ω Q => match ω[i]? with
  | some (.scr ns) => Q (.int ns.length)
  | _ => False
theorem e_lenScr (i : Nat) {x : Str} {np p : Pos} (hm : X.mg "len" = none) (hN : X.N[i]? = some x := by rfl) (hv : Vis X.env.scope x := by first | exact Or.inl rfl | exact Or.inr (Or.inl rfl) | exact Or.inr (Or.inr rfl)) (hg : Gl X "len" := by rfl) (hd : (x == ("__debug__" : Str)) = false := by decide) (hcd : (x == ("__classdict__" : Str)) = false := by decide)
    (he : starEach [.Name x np] X.env = (false, eval (.Name x np) X.env) :: starEach [] X.env := by rfl) (hpl : (backTo pos (starEach [] X.env)).any (·.1) = false := by rfl) : PE X (.Call (.Name "len" p) [.Name x np] [] pos) (LE P w X.K (dLenScr i)) := by
  refine PE.imp (pe_callB call_len_seq hg hm PySem.boot_len (pa_cons (pe_var hN hv hd hcd) pa_nil he) (he := he) (hpl := hpl)) fun σ H Q ⟨F, A, ω, R, c, h, k⟩ => ?_
  unfold dLenScr at h
  split at h
  · rename_i ns hi
    obtain ⟨p, h1, h2⟩ := c.sl i _ hi
    have hl : (ns.map V.int).length = ns.length := List.length_map ..
    exact ⟨_, h1, p, _, rfl, .inl h2.seq, by rw [hl]; exact k _ h _ H (Same.refl H) (.int _)⟩
  · exact h.elim
/-- sep.join(texts) -/
def fJoin (z : Str) : D → EK → Prop
  | .list ds, Q => ∃ ss : List Str, ds = ss.map PyData.str ∧ (ss.map (·.length)).sum + ss.length * z.length ≤ 16777216 ∧ Q (.str (Txt.join z ss))
  | _, _ => False
def dJoin (a b : DE) : DE := fun ω Q => a ω fun x => match x with
  | .str z => b ω fun y => fJoin z y Q
  | _ => False
theorem strs_of {K : PySem.W.Frag} {H : Hp} : ∀ {ss : List Str} {vs : List V}, RpAll K H vs (ss.map PyData.str) → vs = ss.map V.str
  | [], _, .nil => rfl
  | s :: ss, _, .cons r t => by
    cases r
    rw [strs_of t]
    rfl
theorem e_join {apos : Pos} (ha : PE X a (LE P w X.K da)) (hb : PE X b (LE P w X.K db)) (hs : starEach [b] X.env = [(false, eval b X.env)] := by rfl) (hbase : attributeBase a "join" X.env (eval a X.env) = eval a X.env := by rfl) (hline : (apos.endLine == pos.line) = true := by rfl) :
    PE X (.Call (.Attribute a "join" apos) [b] [] pos) (LE P w X.K (dJoin da db)) := by
  refine PE.imp (pe_join ha hb hs hbase hline) fun σ H Q ⟨F, A, ω, R, c, h, k⟩ => ⟨F, A, ω, _, c, h, fun x hx v H1 e1 r1 => ?_⟩
  cases r1 with
  | str z =>
    refine ⟨⟨z, rfl⟩, F, A, ω, _, c.mono e1, hx, fun y hy u H2 e2 r2 => ?_⟩
    cases r2 with
    | lst ho hz q =>
      obtain ⟨ss, rfl, hl, hR⟩ := hy
      have e := strs_of q
      subst e
      exact ⟨z, _, ss, rfl, rfl, .inl (SqL.of (hid_le _ _ ho)), hl, k _ hR _ H2 (e1.trans e2) (.str _)⟩
    | _ => exact False.elim hy
  | _ => exact False.elim hx
/-- tape = _law_tape(script, start): what it must get -/
def mTape : List SV → Prop → Prop
  | [.scr ns, .dat (.int i)], Q => (0 ≤ i ∧ i ≤ 1000 ∧ ns.length ≤ 63 ∧ ∀ z ∈ ns, Builtin.Int.intBits z ≤ 1048576) ∧ Q
  | _, _ => False
def spTape (P : Program) (w : World) (K : PySem.W.Frag) : Sp := fun vs H Q _ => ∃ (svs : List SV) (R : Prop), Args P w K [] H vs svs ∧ vs.length = 2 ∧ mTape svs R ∧ (R → ∀ p H', H p = none → Same H H' → H' p = some (TapeO P w p) → Q (.ref p) H')
def dTape (i : Nat) (a : DA) : DS := fun R ω => a ω fun svs => mTape svs (R.nx (ω.set i .tape))
theorem ArgR.free {K : PySem.W.Frag} {C : List Addr} {H : Hp} {v : V} : ∀ {s : SV}, ArgR P w K C H v s → ArgR P w K [] H v s
  | .dat d, h => Rp.mono (hid_sub (C := []) (fun b hb => by simp at hb)) h
  | .tape, h => h
  | .scr ns, h => h
  | .un, h => h
  | .own _, h => h
theorem Args.free {K : PySem.W.Frag} {C : List Addr} {H : Hp} : ∀ {vs : List V} {ss : List SV}, Args P w K C H vs ss → Args P w K [] H vs ss
  | _, _, .nil => .nil
  | _, _, .cons r t => .cons r.free (Args.free t)
theorem s_tape {i : Nat} {x f : Str} {pos' p p2 : Pos} {e1 e2 : Expr} {k j : Nat} {dr : DA} (cl : C8.Cal X.prog X.w X.K X.mg X.base k f (spTape P w X.K) []) (hr : Room j X.A) (hN : X.N.Nodup) (hi : X.N[i]? = some x) (hx : Loc X.env.scope x) (ha : PA X [e1, e2] (LA P w X.K 2 dr)) (hk : k ≤ j := by decide) (hg : Gl X f := by rfl)
    (hdb : (f == ("__debug__" : Str)) = false := by decide) (he : starEach [e1, e2] X.env = (false, eval e1 X.env) :: starEach [e2] X.env := by rfl) (hpl : (backTo p2 (starEach [e2] X.env)).any (·.1) = false := by rfl)
    (hs : swapsWith (.Call (.Name f p) [e1, e2] [] p2) (some (.Name x pos')) pos.line X.env = pure false := by rfl)
    (hf : X.fn x = true ∨ X.env.scope.names.lookup x = some .local := by first | exact .inl rfl | exact .inr rfl | assumption) :
    PS X (.Assign [.Name x pos'] (.Call (.Name f p) [e1, e2] [] p2) pos) (LS P w X.K (dTape i dr)) := by
  refine PS.imp (ps_set hN hi hx (C8.pe_c cl hr hk hg ha (hdb := hdb) (he := he) (hpl := hpl)) hs hf) fun E σ H ⟨F, A, ω, R, c, h, l⟩ => ⟨F, A, ω, _, c, h, fun svs hs hl vs H1 e1 r1 => ?_⟩
  refine ⟨svs, _, by rw [List.append_nil]; exact Args.free r1, by rw [List.append_nil, Paired.length r1, hl], hs, fun hR p H' hp e' ho => ?_⟩
  exact l.nx _ hR _ H' A ((c.mono (e1.trans e')).setTape ho)
end
end DL
/-! DL: names of the built-ins; short words for operators. -/
namespace DL
open PySem PySem.Spec PyProof.Rows L2
abbrev fSub : D → D → EK → Prop := fI fun i j => .int (i - j)
abbrev fMod : D → D → EK → Prop := fIc (fun _ j => 0 < j) fun i j => .int (i % j)
abbrev fDiv : D → D → EK → Prop := fIc CDivW fun i j => .int (i / j)
abbrev fPow : D → D → EK → Prop := fIc CPowB fun i j => .int (i ^ j.toNat)
abbrev fLe : D → D → EK → Prop := fIS (fun i j => decide (i ≤ j)) fun i j => !strLt j i
abbrev fGt : D → D → EK → Prop := fIS (fun i j => decide (j < i)) fun i j => strLt j i
abbrev fGe : D → D → EK → Prop := fIS (fun i j => decide (j ≤ i)) fun i j => !strLt i j
theorem bo_len : bootBuiltins "len" = some (.builtin "len") := by decide +kernel
theorem bo_isinstance : bootBuiltins "isinstance" = some (.builtin "isinstance") := by decide +kernel
theorem bo_max : bootBuiltins "max" = some (.builtin "max") := by decide +kernel
theorem bo_min : bootBuiltins "min" = some (.builtin "min") := by decide +kernel
theorem bo_repr : bootBuiltins "repr" = some (.builtin "repr") := by decide +kernel
theorem bo_sorted : bootBuiltins "sorted" = some (.builtin "sorted") := by decide +kernel
theorem bo_all : bootBuiltins "all" = some (.builtin "all") := by decide +kernel
theorem bo_any : bootBuiltins "any" = some (.builtin "any") := by decide +kernel
theorem bo_sum : bootBuiltins "sum" = some (.builtin "sum") := by decide +kernel
theorem bo_int : bootBuiltins "int" = some (.type "int") := by decide +kernel
theorem bo_str : bootBuiltins "str" = some (.type "str") := by decide +kernel
theorem bo_bool : bootBuiltins "bool" = some (.type "bool") := by decide +kernel
theorem bo_list : bootBuiltins "list" = some (.type "list") := by decide +kernel
theorem bo_tuple : bootBuiltins "tuple" = some (.type "tuple") := by decide +kernel
theorem bo_dict : bootBuiltins "dict" = some (.type "dict") := by decide +kernel
theorem bo_set : bootBuiltins "set" = some (.type "set") := by decide +kernel
end DL
/-! DL: facts for the proofs of _law_tape and _law_pick. -/
namespace DL
open PySem PySem.Spec PyProof.Rows L2
theorem dne : ¬ (("digits" : Str) = "mixed") := by decide +kernel
theorem mne : ¬ (("mixed" : Str) = "digits") := by decide +kernel
section
variable {H : Hp} {a : Addr} {d m : Int}
theorem dg_digits (h : H a = some (.dK (tapeKv d m))) : DGet H a (.str "digits") (some (.int d)) := DGet.k (k := Sum.inr "digits") h
theorem dg_mixed (h : H a = some (.dK (tapeKv d m))) : DGet H a (.str "mixed") (some (.int m)) := by
  have := DGet.k (k := Sum.inr "mixed") h
  rw [show valV (tapeKv d m) (Sum.inr "mixed" : Key) = some (.int m) from by simp [tapeKv, valV, List.find?_cons, dne]] at this
  exact this
theorem put_digits (x : Int) : putK (tapeKv d m) (Sum.inr "digits" : Key) (.int x) = tapeKv x m := by
  simp [putK, tapeKv, mne]
theorem put_mixed (x : Int) : putK (tapeKv d m) (Sum.inr "mixed" : Key) (.int x) = tapeKv d x := by
  simp [putK, tapeKv, dne]
theorem dp_digits (x : Int) (h : H a = some (.dK (tapeKv d m))) : DPut H a (.str "digits") (.int x) (upd H a (.dK (tapeKv x m))) := by
  have := DPut.k (k := Sum.inr "digits") (v := V.int x) h (by show 2 < sizeLine; decide)
  rw [put_digits] at this
  exact this
theorem dp_mixed (x : Int) (h : H a = some (.dK (tapeKv d m))) : DPut H a (.str "mixed") (.int x) (upd H a (.dK (tapeKv d x))) := by
  have := DPut.k (k := Sum.inr "mixed") (v := V.int x) h (by show 2 < sizeLine; decide)
  rw [put_mixed] at this
  exact this
end
open Builtin.Int in
theorem bits_le_iff {x : Int} {n : Nat} (hn : 0 < n) : intBits x ≤ n ↔ x.natAbs < 2 ^ n := by
  unfold intBits
  by_cases h : x = 0
  · subst h
    simp
    exact Nat.pow_pos (by decide)
  · have hx : (x == 0) = false := by simpa using h
    rw [hx, if_neg Bool.false_ne_true]
    have h0 : x.natAbs ≠ 0 := by omega
    rw [Nat.succ_le_iff, Nat.log2_lt h0]
open Builtin.Int in
theorem bits_mono {x y : Int} (h0 : 0 ≤ x) (h : x ≤ y) {n : Nat} (hn : 0 < n) (hy : intBits y ≤ n) : intBits x ≤ n := by
  rw [bits_le_iff hn] at hy ⊢
  omega
theorem mulOk_of {x y : Int} (h : Builtin.Int.intBits x + Builtin.Int.intBits y ≤ 134217728) : IntMulOk x y := by
  unfold IntMulOk
  intro z
  rw [Bool.and_eq_true] at z
  have z2 := z.2
  unfold Builtin.Int.intTooBig at z2
  have z3 := of_decide_eq_true z2
  rw [show bitsLine = 134217728 by decide] at z3
  omega
/-- the tape's mixing of one cell is small enough for the machine -/
theorem mix_ok {m c : Int} (h0 : 0 ≤ m) (h1 : m < 4294967296) (hc : Builtin.Int.intBits c ≤ 1048576) : IntMulOk m 30011 ∧ IntMulOk c c ∧ CPowB (m * 30011 + c * c + 7) 2 ∧ 0 ≤ (m * 30011 + c * c + 7) ^ 2 % 2147483563 + 2 ∧ (m * 30011 + c * c + 7) ^ 2 % 2147483563 + 2 < 4294967296 := by
  have hm : Builtin.Int.intBits m ≤ 32 := (bits_le_iff (by decide)).mpr (by omega)
  refine ⟨mulOk_of (by have : Builtin.Int.intBits 30011 ≤ 15 := (bits_le_iff (by decide)).mpr (by decide); omega), mulOk_of (by omega), ⟨by decide, ?_⟩, ?_, ?_⟩
  · have hcc : (c * c).natAbs < 2 ^ 2097152 := by
      rw [Int.natAbs_mul, show (2097152 : Nat) = 1048576 + 1048576 from rfl, Nat.pow_add]
      exact Nat.mul_lt_mul'' ((bits_le_iff (by decide)).mp hc) ((bits_le_iff (by decide)).mp hc)
    have hb : Builtin.Int.intBits (m * 30011 + c * c + 7) ≤ 2097153 := by
      refine (bits_le_iff (by decide)).mpr ?_
      have e : (2 : Nat) ^ 2097153 = 2 ^ 2097152 + 2 ^ 2097152 := by rw [Nat.pow_succ]; omega
      have g : (2 : Nat) ^ 64 ≤ 2 ^ 2097152 := Nat.pow_le_pow_right (by decide) (by decide)
      have g2 : (2 : Nat) ^ 64 = 18446744073709551616 := by decide
      generalize c * c = y at *
      generalize (2 : Nat) ^ 2097152 = z at *
      generalize (2 : Nat) ^ 2097153 = z2 at *
      omega
    omega
  · have := Int.emod_nonneg ((m * 30011 + c * c + 7) ^ 2) (show (2147483563 : Int) ≠ 0 by decide)
    omega
  · have := Int.emod_lt_of_pos ((m * 30011 + c * c + 7) ^ 2) (show (0 : Int) < 2147483563 by decide)
    omega
end DL
/-! DL: < of tuples: the first place that differs decides, what stands behind it is not looked at. -/
namespace PySem.SeqAt
open AutoSeq1 (wpAny_loadPart')
open MeetsSeq MeetsSeq2 MeetsSeq3 SeqRoads2
theorem my_ltAt (l b : Addr) (items items2 : Array Value) (n n2 : Nat) (dd dd2 : Option Addr) (sl sl2 : Array (Option Value)) (e r : Nat → Bool) :
    Meets (Builtin.«tuple.__lt__» ⟨[.ref l, .ref b], []⟩)
      (fun A R s => s.heap.get? l = some { cls := .type "tuple", dict := dd, data := .seq items n, slots := sl } ∧ s.heap.get? b = some { cls := .type "tuple", dict := dd2, data := .seq items2 n2, slots := sl2 } ∧
        (∀ j (h1 : j < items.size) (h2 : j < items2.size), (∀ i, i < j → e i = true) → EqAt A.in1 s items[j] items2[j] (e j)) ∧ (∀ j (h1 : j < items.size) (h2 : j < items2.size), (∀ i, i < j → e i = true) → e j = false → RcLt A.in1 s items[j] items2[j] (r j)) ∧
        R (.ok (.ret (.bool (firstLt e r (decide (items.size < items2.size)) (List.range (min items.size items2.size)))))) s) :=
  .of_wp fun prog w A R s h => by
    obtain ⟨hp, g, d, tk, os⟩ := s; obtain ⟨hl, hb, he, hr, h⟩ := h
    have f2 := AutoSeq1.sub_tuple_tuple
    have hZ : (items.toList.zip items2.toList).length = min items.size items2.size := by simp
    wp_walk using wpAny_loadPart' hl, wpAny_loadPart' hb, wpAny_forIn_list _ (fun rest b s' => b.1 = none ∧ s' = ⟨hp, g, d, tk, os⟩ ∧ ∃ i, rest = (items.toList.zip items2.toList).drop i ∧ (∀ k, k < i → e k = true) ∧
      R (.ok (.ret (.bool (firstLt e r (decide (items.size < items2.size)) ((List.range (min items.size items2.size)).drop i))))) ⟨hp, g, d, tk, os⟩) _
    case turn =>
      rintro ⟨y, x⟩ rest b s' ⟨hb', rfl, i, hz, hk, hR⟩
      have hlt : i < (items.toList.zip items2.toList).length := by
        rcases Nat.lt_or_ge i (items.toList.zip items2.toList).length with h' | h'
        · exact h'
        · rw [List.drop_of_length_le h'] at hz; cases hz
      have hm : i < min items.size items2.size := hZ ▸ hlt
      have h1 : i < items.size := Nat.lt_of_lt_of_le hm (Nat.min_le_left _ _)
      have h2 : i < items2.size := Nat.lt_of_lt_of_le hm (Nat.min_le_right _ _)
      rw [List.drop_eq_getElem_cons hlt] at hz
      injection hz with hyx hrest
      have hy : y = items[i] := by have := congrArg Prod.fst hyx; simpa using this
      have hx : x = items2[i] := by have := congrArg Prod.snd hyx; simpa using this
      subst hy hx
      have hd : (List.range (min items.size items2.size)).drop i = i :: (List.range (min items.size items2.size)).drop (i + 1) := by simp [List.drop_eq_getElem_cons, hm]
      rw [hd] at hR
      refine wpAny_bind (he i h1 h2 hk prog w _ _ ?_)
      cases hy : e i with
      | true =>
        rw [firstLt_yes hy] at hR
        wp_walk
        exact ⟨rfl, rfl, i + 1, hrest, fun k hk' => by
          rcases Nat.lt_or_ge k i with z | z
          · exact hk k z
          · have : k = i := by omega
            rw [this]; exact hy, hR⟩
      | false =>
        rw [firstLt_no hy] at hR
        rw [if_pos (by rfl)]
        refine wpAny_bind (wpAny_rule ?_)
        refine wpAny_bind (hr i h1 h2 hk hy prog w _ _ ?_)
        wp_walk
        exact ⟨_, rfl, hR⟩
    case fin =>
      rintro ⟨b1, b2⟩ s' ⟨hb', rfl, i, hz, hk, hR⟩
      simp only at hb'
      subst hb'
      have hge : min items.size items2.size ≤ i := by
        rcases Nat.lt_or_ge i (items.toList.zip items2.toList).length with h' | h'
        · rw [List.drop_eq_getElem_cons h'] at hz; cases hz
        · exact hZ ▸ h'
      rw [List.drop_of_length_le (by simpa using hge)] at hR
      wp_walk
      exact ⟨_, rfl, by simpa [Builtin.Tuple.tupleCompareSizes, firstLt] using hR⟩
    case h =>
      exact ⟨rfl, rfl, 0, rfl, fun k hk => absurd hk (Nat.not_lt_zero _), by simpa using h⟩
theorem RcLt.mine {A : Around} {s : Shared} {l b : Addr} {items items2 : Array Value} {e r : Nat → Bool} (hl : s.heap.IsTuple l items) (hb : s.heap.IsTuple b items2) (hu : A.units < cLine)
    (he : ∀ j (h1 : j < items.size) (h2 : j < items2.size), (∀ i, i < j → e i = true) → EqAt A.in1 s items[j] items2[j] (e j)) (hr : ∀ j (h1 : j < items.size) (h2 : j < items2.size), (∀ i, i < j → e i = true) → e j = false → RcLt A.in1 s items[j] items2[j] (r j)) :
    RcLt A s (.ref l) (.ref b) (firstLt e r (decide (items.size < items2.size)) (List.range (min items.size items2.size))) := fun prog w E Q h => by
  obtain ⟨⟨cls, dd, data, sl⟩, ho, hc, n, hd⟩ := id hl
  obtain ⟨⟨cls2, dd2, data2, sl2⟩, ho2, hc2, n2, hd2⟩ := id hb
  simp only at hc hd hc2 hd2
  subst hc hd hc2 hd2
  exact richCompare_meets_room (op := .Lt) ⟨_, ho, rfl⟩ ⟨_, ho2, rfl⟩ F.slot_tuple_lt F.entry_tuple_lt (F.args_tuple_lt_2 _ _) (my_ltAt l b items items2 n n2 dd dd2 sl sl2 e r)
    ⟨ho, ho2, he, hr, show Value.bool (firstLt e r (decide (items.size < items2.size)) (List.range (min items.size items2.size))) ≠ Value.notImplemented ∧ Q (.bool (firstLt e r (decide (items.size < items2.size)) (List.range (min items.size items2.size)))) s from ⟨(fun x => nomatch x), h⟩⟩ hu
end PySem.SeqAt

namespace DL
open PySem PySem.Spec PyProof.Rows L2 PySem.SeqAt
mutual
/-- x < y, where Python can say it -/
def ltD : D → D → Option Bool
  | .int i, .int j => some (decide (i < j))
  | .str x, .str y => some (strLt x y)
  | .tuple xs, .tuple ys => ltAll xs ys
  | _, _ => none
def ltAll : List D → List D → Option Bool
  | [], [] => some false
  | [], _ :: _ => some true
  | _ :: _, [] => some false
  | x :: xs, y :: ys => if PyData.eqv x y = true then ltAll xs ys else ltD x y
end
/-- where the first place that differs stands, its items can be compared -/
theorem ltAll_first : ∀ (xs ys : List D) (k : Bool), ltAll xs ys = some k →
    firstLt (pairEq xs ys) (fun j => (ltD (xs.getD j .none) (ys.getD j .none)).getD false) (decide (xs.length < ys.length)) (List.range (min xs.length ys.length)) = k ∧
    ∀ j, j < xs.length → j < ys.length → (∀ i, i < j → pairEq xs ys i = true) → pairEq xs ys j = false → ∃ b, ltD (xs.getD j .none) (ys.getD j .none) = some b
  | [], [], k, h => by
    rw [ltAll] at h
    cases h
    exact ⟨by simp [firstLt], fun j h => absurd h (Nat.not_lt_zero _)⟩
  | [], y :: ys, k, h => by
    rw [ltAll] at h
    cases h
    exact ⟨by simp [firstLt], fun j h => absurd h (Nat.not_lt_zero _)⟩
  | x :: xs, [], k, h => by
    rw [ltAll] at h
    cases h
    exact ⟨by simp [firstLt], fun j _ h => absurd h (Nat.not_lt_zero _)⟩
  | x :: xs, y :: ys, k, h => by
    rw [ltAll] at h
    have em : min (x :: xs).length (y :: ys).length = min xs.length ys.length + 1 := by
      rw [List.length_cons, List.length_cons]
      omega
    have ed : decide ((x :: xs).length < (y :: ys).length) = decide (xs.length < ys.length) := by
      rw [List.length_cons, List.length_cons]
      exact decide_eq_decide.mpr (by omega)
    rw [em, ed, List.range_succ_eq_map]
    cases hx : PyData.eqv x y with
    | true =>
      rw [if_pos hx] at h
      obtain ⟨h1, h2⟩ := ltAll_first xs ys k h
      refine ⟨?_, fun j j1 j2 hk hj => ?_⟩
      · rw [firstLt_yes (show pairEq (x :: xs) (y :: ys) 0 = true from hx), PySem.W.firstLt_map]
        exact h1
      · cases j with
        | zero => rw [show pairEq (x :: xs) (y :: ys) 0 = true from hx] at hj; cases hj
        | succ j => exact h2 j (by simpa using j1) (by simpa using j2) (fun i hi => hk (i + 1) (by omega)) hj
    | false =>
      rw [if_neg (by rw [hx]; exact Bool.false_ne_true)] at h
      refine ⟨?_, fun j j1 j2 hk hj => ?_⟩
      · rw [firstLt_no (show pairEq (x :: xs) (y :: ys) 0 = false from hx)]
        show (ltD x y).getD false = k
        rw [h]
        rfl
      · cases j with
        | zero => exact ⟨k, h⟩
        | succ j => exact absurd (hk 0 (by omega)) (by rw [show pairEq (x :: xs) (y :: ys) 0 = false from hx]; exact Bool.false_ne_true)
mutual
theorem rcLt_reads : ∀ (da db : D) (A : Around) (s : Shared) (a b : Value) (as bs : List Addr) (k : Bool), Reads s.heap a da as → Reads s.heap b db bs → da.canLay0 = true → db.canLay0 = true → ltD da db = some k → A.units + min da.depth db.depth < cLine → RcLt A s a b k
  | .int x, db, A, s, a, b, as, bs, k, ra, rb, ha, hb, h, hu => by
    cases db with
    | int y =>
      rw [ltD] at h
      cases h
      have := PySem.W.rcLt_alike (.int x) (.int y) A s a b as bs ra rb (by simp [PySem.W.alike]) (by intro z; cases z) hu
      rw [PySem.W.dataLt_int] at this
      exact this
    | _ => simp [ltD] at h
  | .str x, db, A, s, a, b, as, bs, k, ra, rb, ha, hb, h, hu => by
    cases db with
    | str y =>
      rw [ltD] at h
      cases h
      have := PySem.W.rcLt_alike (.str x) (.str y) A s a b as bs ra rb (by simp [PySem.W.alike]) (by intro z; cases z) hu
      rw [PySem.W.dataLt_str] at this
      exact this
    | _ => simp [ltD] at h
  | .tuple xs, db, A, s, a, b, as, bs, k, ra, rb, ha, hb, h, hu => by
    cases db with
    | tuple ys =>
      rw [ltD] at h
      have ha' : PyData.canLayAll0 xs = true := by simpa [PyData.canLay0] using ha
      have hb' : PyData.canLayAll0 ys = true := by simpa [PyData.canLay0] using hb
      cases ra with
      | @tuple l o vs n _ as₁ h1 h2 h3 h4 =>
        cases rb with
        | @tuple l' o' vs' n' _ bs₁ k1 k2 k3 k4 =>
          have n1 : vs.size = xs.length := by simpa using ReadsAll.length _ _ _ h4
          have n2 : vs'.size = ys.length := by simpa using ReadsAll.length _ _ _ k4
          obtain ⟨e1, e2⟩ := ltAll_first xs ys k h
          rw [← e1, ← n1, ← n2]
          refine RcLt.mine ⟨_, h1, h2, _, h3⟩ ⟨_, k1, k2, _, k3⟩ (room_here hu) (fun j j1 j2 _ => ?_) fun j j1 j2 hk hj => ?_
          · have := eqAt_readsAll xs ys A.in1 s vs.toList vs'.toList _ _ h4 k4 ha' hb' (room_in hu) j (by simpa using j1) (by simpa using j2)
            simpa using this
          · obtain ⟨b, hb2⟩ := e2 j (by omega) (by omega) hk hj
            have := rcLt_readsAll xs ys A.in1 s vs.toList vs'.toList _ _ h4 k4 ha' hb' (room_in hu) j b (by simpa using j1) (by simpa using j2) hb2
            rw [hb2]
            simpa using this
    | _ => simp [ltD] at h
  | .none, db, _, _, _, _, _, _, _, _, _, _, _, h, _ => by simp [ltD] at h
  | .bool _, db, _, _, _, _, _, _, _, _, _, _, _, h, _ => by simp [ltD] at h
  | .list _, db, _, _, _, _, _, _, _, _, _, _, _, h, _ => by simp [ltD] at h
  | .dict _, db, _, _, _, _, _, _, _, _, _, _, _, h, _ => by simp [ltD] at h
theorem rcLt_readsAll : ∀ (xs ys : List D) (A : Around) (s : Shared) (vs ws : List Value) (as bs : List Addr), ReadsAll s.heap vs xs as → ReadsAll s.heap ws ys bs → PyData.canLayAll0 xs = true → PyData.canLayAll0 ys = true →
    A.units + min (PyData.depthAll xs) (PyData.depthAll ys) < cLine → ∀ (j : Nat) (b : Bool) (h1 : j < vs.length) (h2 : j < ws.length), ltD (xs.getD j .none) (ys.getD j .none) = some b → RcLt A s vs[j] ws[j] b
  | [], _, _, _, _, _, _, _, ra, _, _, _, _, j, _, h1, _, _ => by cases ra; exact absurd h1 (Nat.not_lt_zero _)
  | _ :: _, [], _, _, _, _, _, _, _, rb, _, _, _, j, _, _, h2, _ => by cases rb; exact absurd h2 (Nat.not_lt_zero _)
  | x :: xs, y :: ys, A, s, _, _, _, _, ra, rb, ha, hb, hu, j, b, h1, h2, hj => by
    have ha' : x.canLay0 = true ∧ PyData.canLayAll0 xs = true := by simpa [PyData.canLayAll0] using ha
    have hb' : y.canLay0 = true ∧ PyData.canLayAll0 ys = true := by simpa [PyData.canLayAll0] using hb
    cases ra with
    | cons r rs =>
      cases rb with
      | cons r' rs' =>
        cases j with
        | zero => exact rcLt_reads x y A s _ _ _ _ b r r' ha'.1 hb'.1 hj (room_head hu)
        | succ j => exact rcLt_readsAll xs ys A s _ _ _ _ rs rs' ha'.2 hb'.2 (room_tail hu) j b (Nat.lt_of_succ_lt_succ h1) (Nat.lt_of_succ_lt_succ h2) hj
end
section
variable {X : Cx}
def rLtD (K : PySem.W.Frag) : R2 := fun x y H Q => ∃ d e k, Dp K H x d ∧ Dp K H y e ∧ shaped d = true ∧ shaped e = true ∧ ltD d e = some k ∧ Q (.bl k) H
theorem op_ltD (hu : X.A.units + 64 < cLine) : OpR X (compareOp .Lt) (rLtD X.K) := by
  intro pins s σ H x y v u Q I rx ry h
  obtain ⟨d, e, k, hd, he, sd, se, hk, q⟩ := h
  obtain ⟨as, r1⟩ := Dp.reads I d x v hd rx
  obtain ⟨bs, r2⟩ := Dp.reads I e y u he ry
  exact rcLt_reads d e X.A s v u as bs k r1 r2 (canLay_of_shaped sd) (canLay_of_shaped se) hk (room_of_shaped sd hu) _ _ _ _ ⟨.bl _, H, I, rfl, q⟩
/-- ints and texts; tuples that can be laid, as far as Python can say it -/
def fLt : D → D → EK → Prop
  | .int i, .int j, Q => Q (.bool (decide (i < j)))
  | .str i, .str j, Q => Q (.bool (strLt i j))
  | .tuple xs, .tuple ys, Q => (shaped (.tuple xs) = true ∧ shaped (.tuple ys) = true) ∧ match ltAll xs ys with
    | some k => Q (.bool k)
    | none => False
  | _, _, _ => False
theorem oLt' (hu : X.A.units + 64 < cLine) : CmD X .Lt fLt := by
  refine ⟨_, (op_lt.or op_lt_str).or (op_ltD hu), ?_⟩
  intro C H x y dx dy R Q hC rx ry hf k
  match dx, dy, hf with
  | .int i, .int j, hf => cases rx; cases ry; exact .inl (.inl ⟨i, j, rfl, rfl, k _ hf _ H (Same.refl H) (.bl _)⟩)
  | .str i, .str j, hf => cases rx; cases ry; exact .inl (.inr ⟨i, j, rfl, rfl, k _ hf _ H (Same.refl H) (.bl _)⟩)
  | .tuple xs, .tuple ys, hf =>
    obtain ⟨⟨h1, h2⟩, hR⟩ := hf
    cases e : ltAll xs ys with
    | none => rw [e] at hR; exact hR.elim
    | some b =>
      rw [e] at hR
      exact .inr ⟨.tuple xs, .tuple ys, b, rp_dp _ (canLay_of_shaped h1) (rx.mono hid_le), rp_dp _ (canLay_of_shaped h2) (ry.mono hid_le), h1, h2, by rw [ltD]; exact e, k _ hR _ H (Same.refl H) (.bl _)⟩
end
end DL
/-! DL: what the mirrors mean, for simp; loops and comprehensions by invariants. -/
namespace DL
open PySem PySem.Spec PyProof.Rows L2 PySem.SeqAt
section
variable {ω : List SV} {Q : EK} {R : DEnds} {QB : Bool → Prop} {QD : List D → Prop} {QA : List SV → Prop}
@[simp] theorem x_fnD (ds : DS) (n : Nat) (svs : List SV) : fnD ds n svs Q = ds { nx := fun _ => Q .none, rt := Q, bk := fun _ => False, ct := fun _ => False } (svs ++ List.replicate n .un) := rfl
@[simp] theorem x_skip : dSkip R ω = R.nx ω := rfl
@[simp] theorem x_seq (a b : DS) : dSeq a b R ω = a { R with nx := fun ω' => b R ω' } ω := rfl
@[simp] theorem x_brk : dBrk R ω = R.bk ω := rfl
@[simp] theorem x_cnt : dCnt R ω = R.ct ω := rfl
@[simp] theorem x_exp (a : DE) : dExp a R ω = a ω fun _ => R.nx ω := rfl
@[simp] theorem x_ret (a : DE) : dRet a R ω = a ω R.rt := rfl
@[simp] theorem x_retN : dRetN R ω = R.rt .none := rfl
@[simp] theorem x_ifS (t : DT) (a b : DS) : dIfS t a b R ω = t ω fun c => if c = true then a R ω else b R ω := rfl
@[simp] theorem x_set (i : Nat) (a : DE) : dSet i a R ω = a ω fun d => R.nx (ω.set i (.dat d)) := rfl
@[simp] theorem x_asg (g : DG) (a : DE) : dAsg g a R ω = a ω fun d => g d ω R.nx := rfl
@[simp] theorem x_own (i : Nat) (f : DF) : dOwn i f R ω = f ω fun ds => R.nx (ω.set i (.own ds)) := rfl
@[simp] theorem x_fLst (a : DD) : fLst a ω QD = a ω QD := rfl
@[simp] theorem x_tape (i : Nat) (a : DA) : dTape i a R ω = a ω fun svs => mTape svs (R.nx (ω.set i .tape)) := rfl
@[simp] theorem x_C (d : D) : dC d ω Q = Q d := rfl
@[simp] theorem x_op (f : D → D → EK → Prop) (a b : DE) : dOp f a b ω Q = a ω fun x => b ω fun y => f x y Q := rfl
@[simp] theorem x_un (f : D → EK → Prop) (a : DE) : dUn f a ω Q = a ω fun x => f x Q := rfl
@[simp] theorem x_test (a : DE) : dTest a ω QB = a ω fun d => match d with | .bool b => QB b | _ => False := rfl
@[simp] theorem x_and (t u : DT) : dAnd t u ω QB = t ω fun c => if c = true then u ω QB else QB false := rfl
@[simp] theorem x_or (t u : DT) : dOr t u ω QB = t ω fun c => if c = true then QB true else u ω QB := rfl
@[simp] theorem x_not (t : DT) : dNot t ω QB = t ω fun c => QB (!c) := rfl
@[simp] theorem x_if (t : DT) (a b : DE) : dIf t a b ω Q = t ω fun c => if c = true then a ω Q else b ω Q := rfl
@[simp] theorem x_dnil : dNil ω QD = QD [] := rfl
@[simp] theorem x_dcons (a : DE) (r : DD) : dCons a r ω QD = a ω fun x => r ω fun xs => QD (x :: xs) := rfl
@[simp] theorem x_anil : aNil ω QA = QA [] := rfl
@[simp] theorem x_acons (a : DE) (r : DA) : aCons a r ω QA = a ω fun x => r ω fun xs => QA (.dat x :: xs) := rfl
@[simp] theorem x_tup (a : DD) : dTup a ω Q = a ω fun ds => Q (.tuple ds) := rfl
@[simp] theorem x_lst (a : DD) : dLst a ω Q = a ω fun ds => Q (.list ds) := rfl
@[simp] theorem x_call (f : List D → EK → Prop) (a : DD) : dCall f a ω Q = a ω fun ds => f ds Q := rfl
@[simp] theorem x_fn (m : List SV → EK → Prop) (a : DA) : dFn m a ω Q = a ω fun svs => m svs Q := rfl
@[simp] theorem x_isi (T : Ty) (a : DE) : dIsI T a ω Q = a ω fun d => Q (.bool (isTy T d)) := rfl
@[simp] theorem x_new (f : DF) : dNew f ω Q = f ω fun ds => Q (.list ds) := rfl
@[simp] theorem x_gN (i : Nat) (d : D) (Qn : List SV → Prop) : gN i d ω Qn = Qn (ω.set i (.dat d)) := rfl
@[simp] theorem x_yes : dYes ω QB = QB true := rfl
@[simp] theorem x_for (di : DI) (g : DG) (b : DS) : dFor di g b R ω = di ω fun ds => dLoop g b R ds ω := rfl
@[simp] theorem x_iData (a : DE) (QI : List D → Prop) : iData a ω QI = a ω fun d => itemsD d fun ds => ds.length ≤ sizeLine → QI ds := rfl
@[simp] theorem x_iRg1 (a : DE) (QI : List D → Prop) : iRg1 a ω QI = a ω fun d => match d with | .int j => -(2 ^ 62) ≤ j ∧ j ≤ 16777216 ∧ QI (rangeD 0 j.toNat) | _ => False := rfl
@[simp] theorem x_oNo (QO : Option Int → Prop) : oNo ω QO = QO none := rfl
@[simp] theorem x_oSome (a : DE) (QO : Option Int → Prop) : oSome a ω QO = a ω fun d => match d with | .int i => QO (some i) | _ => False := rfl
@[simp] theorem x_sl (a : DE) (lo hi : DO) : dSl a lo hi ω Q = a ω fun x => lo ω fun l => hi ω fun h => fSl x l h Q := rfl
end
theorem v_dat {ω : List SV} {i : Nat} {d : D} {Q : EK} (h : ω[i]? = some (.dat d)) : dVar i ω Q = Q d := by unfold dVar; rw [h]
/-- a loop by an invariant -/
theorem loop_inv {g : DG} {b : DS} {R : DEnds} (I : List SV → Prop) : ∀ (ds : List D), (∀ d ∈ ds, ∀ ω, I ω → ∀ N : List SV → Prop, (∀ ω', I ω' → N ω') → g d ω fun ω1 => b { nx := N, rt := R.rt, bk := R.nx, ct := N } ω1) → (∀ ω, I ω → R.nx ω) → ∀ ω, I ω → dLoop g b R ds ω
  | [], _, hn, ω, h => hn ω h
  | d :: ds, hb, hn, ω, h => hb d List.mem_cons_self ω h _ fun ω' h' => loop_inv I ds (fun d hd => hb d (List.mem_cons_of_mem _ hd)) hn ω' h'
/-- .. over the items in their order: the invariant knows what has been taken -/
theorem loop_pre {g : DG} {b : DS} {R : DEnds} (I : List D → List SV → Prop) : ∀ (ds pre : List D), (∀ p d r, pre ++ ds = p ++ d :: r → ∀ ω, I p ω → ∀ N : List SV → Prop, (∀ ω', I (p ++ [d]) ω' → N ω') → g d ω fun ω1 => b { nx := N, rt := R.rt, bk := R.nx, ct := N } ω1) → (∀ ω, I (pre ++ ds) ω → R.nx ω) → ∀ ω, I pre ω → dLoop g b R ds ω
  | [], pre, _, hn, ω, h => hn ω (by rw [List.append_nil]; exact h)
  | d :: ds, pre, hb, hn, ω, h => hb pre d ds rfl ω h _ fun ω' h' => loop_pre I ds (pre ++ [d]) (fun p d' r e => hb p d' r (by rw [← e]; simp)) (fun ω h => hn ω (by simpa using h)) ω' h'
/-- a comprehension without tests: each item has P -/
theorem lc_all {g : DG} {el : DE} {ω : List SV} (P : D → Prop) {Q : List D → Prop} : ∀ (ds acc : List D), (∀ d ∈ ds, ∀ N : EK, (∀ x, P x → N x) → g d ω fun ω1 => el ω1 N) → (∀ xs, xs.length = ds.length → (∀ x ∈ xs, P x) → Q (acc ++ xs)) → dLcL g dYes el ω ds acc Q
  | [], acc, _, hq => by
    have := hq [] rfl (fun x h => absurd h (by simp))
    rw [List.append_nil] at this
    exact this
  | d :: ds, acc, he, hq => he d List.mem_cons_self _ fun x hx => lc_all P ds (acc ++ [x]) (fun d hd => he d (List.mem_cons_of_mem _ hd)) fun xs hl hp => by
    rw [List.append_assoc]
    exact hq ([x] ++ xs) (by simp [hl, Nat.add_comm]) fun y hy => by
      rcases List.mem_append.mp hy with z | z
      · rw [List.mem_singleton.mp z]; exact hx
      · exact hp y z
/-- .. whose item is a function of the walked one -/
theorem lc_map {g : DG} {el : DE} {ω : List SV} (f : D → D) {Q : List D → Prop} : ∀ (ds acc : List D), (∀ d ∈ ds, ∀ N : EK, N (f d) → g d ω fun ω1 => el ω1 N) → Q (acc ++ ds.map f) → dLcL g dYes el ω ds acc Q
  | [], acc, _, hq => by
    rw [List.map_nil, List.append_nil] at hq
    exact hq
  | d :: ds, acc, he, hq => he d List.mem_cons_self _ (lc_map f ds (acc ++ [f d]) (fun d hd => he d (List.mem_cons_of_mem _ hd)) (by rw [List.append_assoc]; exact hq))
/-! ### what a def is given -/
def mD1 (f : D → EK → Prop) : List SV → EK → Prop
  | [.dat d0], Q => f d0 Q
  | _, _ => False
theorem mD1_elim {f : D → EK → Prop} {svs : List SV} {R : EK} (h : mD1 f svs R) : ∃ d0 : D, svs = [SV.dat d0] ∧ f d0 R := by
  unfold mD1 at h
  split at h
  · exact ⟨_, rfl, h⟩
  · exact h.elim
@[simp] theorem x_mD1 {f : D → EK → Prop} {R : EK} {d0 : D} : mD1 f [.dat d0] R = f d0 R := rfl
def mD2 (f : D → D → EK → Prop) : List SV → EK → Prop
  | [.dat d0, .dat d1], Q => f d0 d1 Q
  | _, _ => False
theorem mD2_elim {f : D → D → EK → Prop} {svs : List SV} {R : EK} (h : mD2 f svs R) : ∃ d0 d1 : D, svs = [SV.dat d0, SV.dat d1] ∧ f d0 d1 R := by
  unfold mD2 at h
  split at h
  · exact ⟨_, _, rfl, h⟩
  · exact h.elim
@[simp] theorem x_mD2 {f : D → D → EK → Prop} {R : EK} {d0 d1 : D} : mD2 f [.dat d0, .dat d1] R = f d0 d1 R := rfl
def mD3 (f : D → D → D → EK → Prop) : List SV → EK → Prop
  | [.dat d0, .dat d1, .dat d2], Q => f d0 d1 d2 Q
  | _, _ => False
theorem mD3_elim {f : D → D → D → EK → Prop} {svs : List SV} {R : EK} (h : mD3 f svs R) : ∃ d0 d1 d2 : D, svs = [SV.dat d0, SV.dat d1, SV.dat d2] ∧ f d0 d1 d2 R := by
  unfold mD3 at h
  split at h
  · exact ⟨_, _, _, rfl, h⟩
  · exact h.elim
@[simp] theorem x_mD3 {f : D → D → D → EK → Prop} {R : EK} {d0 d1 d2 : D} : mD3 f [.dat d0, .dat d1, .dat d2] R = f d0 d1 d2 R := rfl
def mD4 (f : D → D → D → D → EK → Prop) : List SV → EK → Prop
  | [.dat d0, .dat d1, .dat d2, .dat d3], Q => f d0 d1 d2 d3 Q
  | _, _ => False
theorem mD4_elim {f : D → D → D → D → EK → Prop} {svs : List SV} {R : EK} (h : mD4 f svs R) : ∃ d0 d1 d2 d3 : D, svs = [SV.dat d0, SV.dat d1, SV.dat d2, SV.dat d3] ∧ f d0 d1 d2 d3 R := by
  unfold mD4 at h
  split at h
  · exact ⟨_, _, _, _, rfl, h⟩
  · exact h.elim
@[simp] theorem x_mD4 {f : D → D → D → D → EK → Prop} {R : EK} {d0 d1 d2 d3 : D} : mD4 f [.dat d0, .dat d1, .dat d2, .dat d3] R = f d0 d1 d2 d3 R := rfl
def mD5 (f : D → D → D → D → D → EK → Prop) : List SV → EK → Prop
  | [.dat d0, .dat d1, .dat d2, .dat d3, .dat d4], Q => f d0 d1 d2 d3 d4 Q
  | _, _ => False
theorem mD5_elim {f : D → D → D → D → D → EK → Prop} {svs : List SV} {R : EK} (h : mD5 f svs R) : ∃ d0 d1 d2 d3 d4 : D, svs = [SV.dat d0, SV.dat d1, SV.dat d2, SV.dat d3, SV.dat d4] ∧ f d0 d1 d2 d3 d4 R := by
  unfold mD5 at h
  split at h
  · exact ⟨_, _, _, _, _, rfl, h⟩
  · exact h.elim
@[simp] theorem x_mD5 {f : D → D → D → D → D → EK → Prop} {R : EK} {d0 d1 d2 d3 d4 : D} : mD5 f [.dat d0, .dat d1, .dat d2, .dat d3, .dat d4] R = f d0 d1 d2 d3 d4 R := rfl
def mT0 (f : EK → Prop) : List SV → EK → Prop
  | [.tape], Q => f  Q
  | _, _ => False
theorem mT0_elim {f : EK → Prop} {svs : List SV} {R : EK} (h : mT0 f svs R) : svs = [SV.tape] ∧ f  R := by
  unfold mT0 at h
  split at h
  · exact ⟨rfl, h⟩
  · exact h.elim
@[simp] theorem x_mT0 {f : EK → Prop} {R : EK} : mT0 f [.tape] R = f  R := rfl
def mT1 (f : D → EK → Prop) : List SV → EK → Prop
  | [.tape, .dat d0], Q => f d0 Q
  | _, _ => False
theorem mT1_elim {f : D → EK → Prop} {svs : List SV} {R : EK} (h : mT1 f svs R) : ∃ d0 : D, svs = [SV.tape, SV.dat d0] ∧ f d0 R := by
  unfold mT1 at h
  split at h
  · exact ⟨_, rfl, h⟩
  · exact h.elim
@[simp] theorem x_mT1 {f : D → EK → Prop} {R : EK} {d0 : D} : mT1 f [.tape, .dat d0] R = f d0 R := rfl
def mT2 (f : D → D → EK → Prop) : List SV → EK → Prop
  | [.tape, .dat d0, .dat d1], Q => f d0 d1 Q
  | _, _ => False
theorem mT2_elim {f : D → D → EK → Prop} {svs : List SV} {R : EK} (h : mT2 f svs R) : ∃ d0 d1 : D, svs = [SV.tape, SV.dat d0, SV.dat d1] ∧ f d0 d1 R := by
  unfold mT2 at h
  split at h
  · exact ⟨_, _, rfl, h⟩
  · exact h.elim
@[simp] theorem x_mT2 {f : D → D → EK → Prop} {R : EK} {d0 d1 : D} : mT2 f [.tape, .dat d0, .dat d1] R = f d0 d1 R := rfl
def mT3 (f : D → D → D → EK → Prop) : List SV → EK → Prop
  | [.tape, .dat d0, .dat d1, .dat d2], Q => f d0 d1 d2 Q
  | _, _ => False
theorem mT3_elim {f : D → D → D → EK → Prop} {svs : List SV} {R : EK} (h : mT3 f svs R) : ∃ d0 d1 d2 : D, svs = [SV.tape, SV.dat d0, SV.dat d1, SV.dat d2] ∧ f d0 d1 d2 R := by
  unfold mT3 at h
  split at h
  · exact ⟨_, _, _, rfl, h⟩
  · exact h.elim
@[simp] theorem x_mT3 {f : D → D → D → EK → Prop} {R : EK} {d0 d1 d2 : D} : mT3 f [.tape, .dat d0, .dat d1, .dat d2] R = f d0 d1 d2 R := rfl
def mT4 (f : D → D → D → D → EK → Prop) : List SV → EK → Prop
  | [.tape, .dat d0, .dat d1, .dat d2, .dat d3], Q => f d0 d1 d2 d3 Q
  | _, _ => False
theorem mT4_elim {f : D → D → D → D → EK → Prop} {svs : List SV} {R : EK} (h : mT4 f svs R) : ∃ d0 d1 d2 d3 : D, svs = [SV.tape, SV.dat d0, SV.dat d1, SV.dat d2, SV.dat d3] ∧ f d0 d1 d2 d3 R := by
  unfold mT4 at h
  split at h
  · exact ⟨_, _, _, _, rfl, h⟩
  · exact h.elim
@[simp] theorem x_mT4 {f : D → D → D → D → EK → Prop} {R : EK} {d0 d1 d2 d3 : D} : mT4 f [.tape, .dat d0, .dat d1, .dat d2, .dat d3] R = f d0 d1 d2 d3 R := rfl
end DL
/-! DL: what operators do with plain values, for simp. -/
namespace DL
open PySem PySem.Spec PyProof.Rows L2 PySem.SeqAt
section
variable {ω : List SV} {Q : EK} {i j : Int} {s t : Str} {b c : Bool} {x y : D} {xs ys : List D}
theorem str_beq (s t : Str) : (s == t) = decide (s = t) := by
  by_cases h : s = t
  · subst h; simp
  · simp [h]
@[simp] theorem x_eqI : fEq (.int i) (.int j) Q = Q (.bool (decide (i = j))) := by
  have e : (i == j) = decide (i = j) := rfl
  simp [fEq, okEq, scalD, PyData.eqv, e]
@[simp] theorem x_eqS : fEq (.str s) (.str t) Q = Q (.bool (decide (s = t))) := by
  simp [fEq, okEq, scalD, PyData.eqv, str_beq]
@[simp] theorem x_eqB : fEq (.bool b) (.bool c) Q = Q (.bool (b == c)) := by
  simp [fEq, okEq, scalD, PyData.eqv]
@[simp] theorem x_eqIS : fEq (.int i) (.str t) Q = Q (.bool false) := by simp [fEq, okEq, scalD, PyData.eqv]
@[simp] theorem x_eqSI : fEq (.str t) (.int i) Q = Q (.bool false) := by simp [fEq, okEq, scalD, PyData.eqv]
@[simp] theorem x_eqNN : fEq .none .none Q = Q (.bool true) := by simp [fEq, okEq, scalD, PyData.eqv]
@[simp] theorem x_eqNI : fEq .none (.int i) Q = Q (.bool false) := by simp [fEq, okEq, scalD, PyData.eqv]
@[simp] theorem x_eqIN : fEq (.int i) .none Q = Q (.bool false) := by simp [fEq, okEq, scalD, PyData.eqv]
@[simp] theorem x_eqNS : fEq .none (.str s) Q = Q (.bool false) := by simp [fEq, okEq, scalD, PyData.eqv]
@[simp] theorem x_eqSN : fEq (.str s) .none Q = Q (.bool false) := by simp [fEq, okEq, scalD, PyData.eqv]
@[simp] theorem x_neI : fNe (.int i) (.int j) Q = Q (.bool (!decide (i = j))) := by
  have e : (i == j) = decide (i = j) := rfl
  simp [fNe, okEq, scalD, PyData.eqv, e]
@[simp] theorem x_neS : fNe (.str s) (.str t) Q = Q (.bool (!decide (s = t))) := by
  simp [fNe, okEq, scalD, PyData.eqv, str_beq]
@[simp] theorem x_neB : fNe (.bool b) (.bool c) Q = Q (.bool (b != c)) := by
  simp [fNe, okEq, scalD, PyData.eqv, bne]
@[simp] theorem x_ltI : fLt (.int i) (.int j) Q = Q (.bool (decide (i < j))) := rfl
@[simp] theorem x_ltS : fLt (.str s) (.str t) Q = Q (.bool (strLt s t)) := rfl
@[simp] theorem x_leI : fLe (.int i) (.int j) Q = Q (.bool (decide (i ≤ j))) := rfl
@[simp] theorem x_leS : fLe (.str s) (.str t) Q = Q (.bool (!strLt t s)) := rfl
@[simp] theorem x_gtI : fGt (.int i) (.int j) Q = Q (.bool (decide (j < i))) := rfl
@[simp] theorem x_gtS : fGt (.str s) (.str t) Q = Q (.bool (strLt t s)) := rfl
@[simp] theorem x_geI : fGe (.int i) (.int j) Q = Q (.bool (decide (j ≤ i))) := rfl
@[simp] theorem x_geS : fGe (.str s) (.str t) Q = Q (.bool (!strLt s t)) := rfl
@[simp] theorem x_isN : fIsN x .none Q = Q (.bool (isNon x)) := by simp [fIsN]
@[simp] theorem x_notN : fNotN x .none Q = Q (.bool (!isNon x)) := by simp [fNotN]
@[simp] theorem x_nonN : isNon .none = true := rfl
@[simp] theorem x_nonI : isNon (.int i) = false := rfl
@[simp] theorem x_nonB : isNon (.bool b) = false := rfl
@[simp] theorem x_nonS : isNon (.str s) = false := rfl
@[simp] theorem x_nonT : isNon (.tuple xs) = false := rfl
@[simp] theorem x_nonL : isNon (.list xs) = false := rfl
@[simp] theorem x_addI : fAdd (.int i) (.int j) Q = Q (.int (i + j)) := rfl
@[simp] theorem x_addS : fAdd (.str s) (.str t) Q = (s.length + t.length ≤ sizeLine ∧ Q (.str (s ++ t))) := rfl
@[simp] theorem x_addT : fAdd (.tuple xs) (.tuple ys) Q = (xs.length + ys.length ≤ sizeLine ∧ Q (.tuple (xs ++ ys))) := rfl
@[simp] theorem x_addL : fAdd (.list xs) (.list ys) Q = (xs.length + ys.length ≤ sizeLine ∧ Q (.list (xs ++ ys))) := rfl
@[simp] theorem x_subI : fSub (.int i) (.int j) Q = Q (.int (i - j)) := rfl
@[simp] theorem x_negI : fNeg (.int i) Q = Q (.int (-i)) := rfl
@[simp] theorem x_mulI : fMul (.int i) (.int j) Q = (IntMulOk i j ∧ Q (.int (i * j))) := rfl
@[simp] theorem x_mulS : fMul (.str s) (.int j) Q = (MulOk s j ∧ Q (.str (Txt.mul s j))) := rfl
@[simp] theorem x_mulL : fMul (.list xs) (.int j) Q = ((-(2 ^ 63) ≤ j ∧ j < 2 ^ 63 ∧ xs.length * j.toNat ≤ sizeLine) ∧ Q (.list (List.replicate j.toNat xs).flatten)) := rfl
@[simp] theorem x_modI : fMod (.int i) (.int j) Q = (0 < j ∧ Q (.int (i % j))) := rfl
@[simp] theorem x_divI : fDiv (.int i) (.int j) Q = (CDivW i j ∧ Q (.int (i / j))) := rfl
@[simp] theorem x_powI : fPow (.int i) (.int j) Q = (CPowB i j ∧ Q (.int (i ^ j.toNat))) := rfl
@[simp] theorem x_lenL : fLen [.list xs] Q = Q (.int xs.length) := rfl
@[simp] theorem x_lenT : fLen [.tuple xs] Q = Q (.int xs.length) := rfl
@[simp] theorem x_lenS : fLen [.str s] Q = (s.length ≤ sizeLine ∧ Q (.int s.length)) := rfl
@[simp] theorem x_max2 : fMax2 [.int i, .int j] Q = Q (.int (if j > i then j else i)) := rfl
@[simp] theorem x_min2 : fMin2 [.int i, .int j] Q = Q (.int (if j < i then j else i)) := rfl
@[simp] theorem x_int1I : fInt1 [.int i] Q = Q (.int i) := rfl
@[simp] theorem x_int1B : fInt1 [.bool b] Q = Q (.int (if b then 1 else 0)) := rfl
@[simp] theorem x_listL : fList [.list xs] Q = Q (.list xs) := rfl
@[simp] theorem x_listT : fList [.tuple xs] Q = Q (.list xs) := rfl
@[simp] theorem x_listS : fList [.str s] Q = (s.length ≤ sizeLine ∧ Q (.list ((signs s).map PyData.str))) := rfl
@[simp] theorem x_itL (QI : List D → Prop) : itemsD (.list xs) QI = QI xs := rfl
@[simp] theorem x_itT (QI : List D → Prop) : itemsD (.tuple xs) QI = QI xs := rfl
@[simp] theorem x_itS (QI : List D → Prop) : itemsD (.str s) QI = (s.length ≤ sizeLine ∧ QI ((signs s).map PyData.str)) := rfl
theorem at_n {α : Type} (l : List α) (n : Nat) : atI l (n : Int) = l[n]? := by
  unfold atI ixN
  rw [if_pos (by omega)]
  by_cases h : n < l.length
  · rw [if_pos (by omega)]
    simp
  · rw [if_neg (by omega)]
    simp
    omega
theorem at0 {α : Type} (a : α) (l : List α) : atI (a :: l) 0 = some a := (at_n (a :: l) 0).trans (by simp)
@[simp] theorem x_ixL0 : fIx (.list (x :: xs)) (.int 0) Q = Q x := by show (match atI (x :: xs) 0 with | some d => Q d | none => False) = _; rw [at0]
@[simp] theorem x_ixT0 : fIx (.tuple (x :: xs)) (.int 0) Q = Q x := by show (match atI (x :: xs) 0 with | some d => Q d | none => False) = _; rw [at0]
theorem ixT (n : Nat) : fIx (.tuple xs) (.int n) Q = match xs[n]? with | some d => Q d | none => False := by
  show (match atI xs n with | some d => Q d | none => False) = _
  rw [at_n]
theorem ixL (n : Nat) : fIx (.list xs) (.int n) Q = match xs[n]? with | some d => Q d | none => False := by
  show (match atI xs n with | some d => Q d | none => False) = _
  rw [at_n]
@[simp] theorem x_ixT1 {x0 : D} : fIx (.tuple (x0 :: x :: xs)) (.int 1) Q = Q x := ixT 1
@[simp] theorem x_ixL1 {x0 : D} : fIx (.list (x0 :: x :: xs)) (.int 1) Q = Q x := ixL 1
@[simp] theorem x_ixT2 {x0 x1 : D} : fIx (.tuple (x0 :: x1 :: x :: xs)) (.int 2) Q = Q x := ixT 2
@[simp] theorem x_ixL2 {x0 x1 : D} : fIx (.list (x0 :: x1 :: x :: xs)) (.int 2) Q = Q x := ixL 2
@[simp] theorem x_ixT3 {x0 x1 x2 : D} : fIx (.tuple (x0 :: x1 :: x2 :: x :: xs)) (.int 3) Q = Q x := ixT 3
@[simp] theorem x_ixT4 {x0 x1 x2 x3 : D} : fIx (.tuple (x0 :: x1 :: x2 :: x3 :: x :: xs)) (.int 4) Q = Q x := ixT 4
@[simp] theorem x_ixT5 {x0 x1 x2 x3 x4 : D} : fIx (.tuple (x0 :: x1 :: x2 :: x3 :: x4 :: x :: xs)) (.int 5) Q = Q x := ixT 5
@[simp] theorem x_lc (di : DI) (g : DG) (tt : DT) (el : DE) (vs : List Nat) (QD : List D → Prop) : fLc di g tt el vs ω QD = di ω fun ds => ds.length ≤ sizeLine ∧ dLcL g tt el (wipeD ω vs) ds [] QD := rfl
@[simp] theorem x_wipe0 : wipeD ω [] = ω := rfl
@[simp] theorem x_wipe1 {v : Nat} : wipeD ω [v] = ω.set v .un := rfl
@[simp] theorem x_join (a e : DE) : dJoin a e ω Q = a ω fun z => match z with
  | .str z => e ω fun y => fJoin z y Q
  | _ => False := rfl
@[simp] theorem x_gT (gs : List D → List SV → (List SV → Prop) → Prop) (n : Nat) (Qn : List SV → Prop) : gT gs n (.tuple xs) ω Qn = (xs.length = n ∧ gs xs ω Qn) := rfl
@[simp] theorem x_gsN (Qn : List SV → Prop) : gNil' [] ω Qn = Qn ω := by simp [gNil']
@[simp] theorem x_gsC (g : DG) (r : List D → List SV → (List SV → Prop) → Prop) (Qn : List SV → Prop) : gCons' g r (x :: xs) ω Qn = g x ω fun ω' => r xs ω' Qn := rfl
@[simp] theorem x_notV (a : DE) : dNotV a ω Q = a ω fun z => match z with
  | .bool b => Q (.bool (!b))
  | _ => False := rfl
@[simp] theorem x_andV (a e : DE) : dAndV a e ω Q = a ω fun z => match z with
  | .bool true => e ω Q
  | .bool false => Q (.bool false)
  | _ => False := rfl
@[simp] theorem x_orV (a e : DE) : dOrV a e ω Q = a ω fun z => match z with
  | .bool true => Q (.bool true)
  | .bool false => e ω Q
  | _ => False := rfl
@[simp] theorem x_chain (f f' : D → D → EK → Prop) (a e k : DE) : dChain f f' a e k ω Q = a ω fun x => e ω fun y => f x y fun z => match z with
  | .bool true => k ω fun u => f' y u Q
  | .bool false => Q (.bool false)
  | _ => False := rfl
@[simp] theorem x_tape1 (ns : List Int) (P : Prop) : mTape [.scr ns, .dat (.int i)] P = ((0 ≤ i ∧ i ≤ 1000 ∧ ns.length ≤ 63 ∧ ∀ z ∈ ns, Builtin.Int.intBits z ≤ 1048576) ∧ P) := rfl
end
/-! ### texts -/
/-- a sign that is printed -/
def prt (c : Nat) : Bool := decide (32 ≤ c) && decide (c < 127)
/-- a string of at most n printed signs -/
def strB (n : Nat) (s : Str) : Prop := s.cps.all prt = true ∧ s.length ≤ n
theorem strB.at {n : Nat} {s : Str} (h : strB n s) : ∀ c ∈ s.cps.toList, 32 ≤ c ∧ c < 127 := fun c hc => by
  have := (Array.all_eq_true_iff_forall_mem.mp h.1) c (Array.mem_toList_iff.mp hc)
  simpa [prt] using this
theorem strB.so {n : Nat} {s : Str} (h : strB n s) : PyData.strOk s = true := by
  refine Array.all_eq_true_iff_forall_mem.mpr fun c hc => ?_
  have := h.at c (Array.mem_toList_iff.mpr hc)
  exact decide_eq_true (by omega)
theorem strB.mono {n m : Nat} {s : Str} (h : strB n s) (hm : n ≤ m := by decide) : strB m s := ⟨h.1, Nat.le_trans h.2 hm⟩
theorem strB.add {n m : Nat} {s t : Str} (h : strB n s) (h' : strB m t) : strB (n + m) (s ++ t) := by
  refine ⟨?_, ?_⟩
  · show (s.cps ++ t.cps).all prt = true
    rw [Array.all_append]
    simp only [Bool.and_eq_true]
    exact ⟨h.1, h'.1⟩
  · show (s.cps ++ t.cps).size ≤ n + m
    rw [Array.size_append]
    exact Nat.add_le_add h.2 h'.2
theorem signs_len (s : Str) : (signs s).length = s.length := by
  unfold signs Str.length
  rw [List.length_map, Array.length_toList]
theorem signs_B {s t : Str} (h : t ∈ signs s) (hs : s.cps.all prt = true) : strB 1 t := by
  unfold signs at h
  obtain ⟨n, hn, rfl⟩ := List.mem_map.mp h
  refine ⟨?_, Nat.le_refl _⟩
  have := (Array.all_eq_true_iff_forall_mem.mp hs) n (Array.mem_toList_iff.mp hn)
  show (#[n] : Array Nat).all prt = true
  simpa using this
theorem join_eq_ (y : Str) (parts : List Str) : Txt.join y parts = Str.join y parts := PySem.StrLaws.glued_eq_join y parts
theorem join_B {n : Nat} {z : Str} (hz : z.length = 0) : ∀ {ss : List Str}, (∀ s ∈ ss, strB n s) → strB (ss.length * n) (Txt.join z ss)
  | [], _ => by
    rw [join_eq_]
    show strB _ Str.empty
    exact ⟨by decide +kernel, Nat.zero_le _⟩
  | [s], h => by
    have := h s (by simp)
    rw [join_eq_]
    show strB ((0 + 1) * n) s
    rw [Nat.zero_add, Nat.one_mul]
    exact this
  | s :: s' :: r, h => by
    have h1 := h s (by simp)
    have h2 := join_B hz (ss := s' :: r) fun x hx => h x (List.mem_cons_of_mem _ hx)
    have hz' : strB 0 z := ⟨by
      have : z.cps = #[] := Array.eq_empty_of_size_eq_zero hz
      show z.cps.all _ = true
      rw [this]; decide +kernel, by omega⟩
    have := (h1.add hz').add h2
    rw [join_eq_] at this
    rw [join_eq_]
    refine ⟨this.1, Nat.le_trans this.2 ?_⟩
    simp only [List.length_cons]
    rw [Nat.add_mul (r.length + 1) 1 n]
    omega
theorem strs_of_all {n : Nat} : ∀ {ds : List D}, (∀ x ∈ ds, ∃ s, x = .str s ∧ strB n s) → ∃ ss : List Str, ds = ss.map PyData.str ∧ ∀ s ∈ ss, strB n s
  | [], _ => ⟨[], rfl, fun s h => absurd h (by simp)⟩
  | d :: ds, h => by
    obtain ⟨s, rfl, hs⟩ := h d (by simp)
    obtain ⟨ss, rfl, hss⟩ := strs_of_all (ds := ds) fun x hx => h x (List.mem_cons_of_mem _ hx)
    exact ⟨s :: ss, rfl, fun x hx => by rcases List.mem_cons.mp hx with e | e; · rw [e]; exact hs
                                        · exact hss x e⟩
theorem sum_B {n : Nat} : ∀ {ss : List Str}, (∀ s ∈ ss, strB n s) → (ss.map (·.length)).sum ≤ ss.length * n
  | [], _ => by simp
  | s :: ss, h => by
    have h1 := (h s (by simp)).2
    have h2 := sum_B (ss := ss) fun x hx => h x (List.mem_cons_of_mem _ hx)
    simp only [List.map_cons, List.sum_cons, List.length_cons]
    rw [Nat.add_mul]
    omega
/-- "".join of short texts -/
theorem join_of {n m : Nat} {z : Str} {ds : List D} {Q : EK} (hz : z.length = 0) (h : ∀ x ∈ ds, ∃ s, x = .str s ∧ strB n s) (hl : ds.length ≤ m) (hm : m * n ≤ 16777216) (k : ∀ t, strB (m * n) t → Q (.str t)) : fJoin z (.list ds) Q := by
  obtain ⟨ss, rfl, hss⟩ := strs_of_all h
  rw [List.length_map] at hl
  have h1 := sum_B hss
  have h2 : ss.length * n ≤ m * n := Nat.mul_le_mul_right n hl
  refine ⟨ss, rfl, by rw [hz]; omega, k _ ?_⟩
  have := join_B hz hss
  exact ⟨this.1, by have := this.2; omega⟩
theorem le_size {n : Nat} (h : n ≤ 16777216) : n ≤ sizeLine := by rw [sizeLine_eq]; exact h
theorem range_len {lo : Int} {n : Nat} : (rangeD lo n).length = n := by simp [rangeD]
theorem range_mem {lo : Int} {n : Nat} {d : D} (h : d ∈ rangeD lo n) : ∃ i : Int, d = .int i ∧ lo ≤ i ∧ i < lo + n := by
  unfold rangeD at h
  obtain ⟨k, hk, rfl⟩ := List.mem_map.mp h
  have := List.mem_range.mp hk
  exact ⟨_, rfl, by omega, by omega⟩
theorem strB_of {n : Nat} {s : Str} (h : (s.cps.all prt && decide (s.length ≤ n)) = true) : strB n s := by
  simp only [Bool.and_eq_true, decide_eq_true_eq] at h
  exact h
/-- text times number -/
theorem mulS_ok {s : Str} {n : Int} (h : (!(decide (n < -(2 ^ 63 : Int)) || decide (n ≥ 2 ^ 63)) && (decide (n < 1) || (n == 1 || s.length == 0) || (!decide ((s.length : Int) > (2 ^ 63 - 1) / n) && !PySem.Builtin.Str.tooLong (s.length * n.toNat)))) = true) : MulOk s n := by
  simp only [Bool.and_eq_true, Bool.not_eq_true', Bool.or_eq_true, decide_eq_true_eq] at h
  refine ⟨h.1, fun a b => ?_, fun a b => ?_⟩
  all_goals
    rcases h.2 with (c | c) | c
    · exact absurd c a
    · rcases c with c | c <;> rw [c] at b <;> simp at b
    · first | exact of_decide_eq_false c.1 | exact c.2
section
variable {Q : EK} {l : List SV} {a0 a1 a2 a3 a4 a5 a6 a7 a8 a9 a10 a11 a12 a13 a14 a15 : SV} {d : D} {ds : List D} {ns : List Int} {QA : List SV → Prop} {R : DEnds}
@[simp] theorem x_v0 : dVar 0 (.dat d :: l) Q = Q d := rfl
@[simp] theorem x_st0 (r : DA) : aSlot 0 r (.tape :: l) QA = r (.tape :: l) fun xs => QA (.tape :: xs) := rfl
@[simp] theorem x_ap0 (a : DE) : dApp 0 a R (.own ds :: l) = a (.own ds :: l) fun d => ds.length < sizeLine ∧ R.nx (List.set (.own ds :: l) 0 (.own (ds ++ [d]))) := rfl
@[simp] theorem x_io0 (b : DE) : dIxOwn 0 b (.own ds :: l) Q = b (.own ds :: l) fun y => fIx (.list ds) y Q := rfl
@[simp] theorem x_lo0 : dLenOwn 0 (.own ds :: l) Q = Q (.int ds.length) := rfl
@[simp] theorem x_ro0 : dRetOwn 0 R (.own ds :: l) = R.rt (.list ds) := rfl
@[simp] theorem x_v1 : dVar 1 (a0 :: .dat d :: l) Q = Q d := rfl
@[simp] theorem x_st1 (r : DA) : aSlot 1 r (a0 :: .tape :: l) QA = r (a0 :: .tape :: l) fun xs => QA (.tape :: xs) := rfl
@[simp] theorem x_ap1 (a : DE) : dApp 1 a R (a0 :: .own ds :: l) = a (a0 :: .own ds :: l) fun d => ds.length < sizeLine ∧ R.nx (List.set (a0 :: .own ds :: l) 1 (.own (ds ++ [d]))) := rfl
@[simp] theorem x_io1 (b : DE) : dIxOwn 1 b (a0 :: .own ds :: l) Q = b (a0 :: .own ds :: l) fun y => fIx (.list ds) y Q := rfl
@[simp] theorem x_lo1 : dLenOwn 1 (a0 :: .own ds :: l) Q = Q (.int ds.length) := rfl
@[simp] theorem x_ro1 : dRetOwn 1 R (a0 :: .own ds :: l) = R.rt (.list ds) := rfl
@[simp] theorem x_v2 : dVar 2 (a0 :: a1 :: .dat d :: l) Q = Q d := rfl
@[simp] theorem x_st2 (r : DA) : aSlot 2 r (a0 :: a1 :: .tape :: l) QA = r (a0 :: a1 :: .tape :: l) fun xs => QA (.tape :: xs) := rfl
@[simp] theorem x_ap2 (a : DE) : dApp 2 a R (a0 :: a1 :: .own ds :: l) = a (a0 :: a1 :: .own ds :: l) fun d => ds.length < sizeLine ∧ R.nx (List.set (a0 :: a1 :: .own ds :: l) 2 (.own (ds ++ [d]))) := rfl
@[simp] theorem x_io2 (b : DE) : dIxOwn 2 b (a0 :: a1 :: .own ds :: l) Q = b (a0 :: a1 :: .own ds :: l) fun y => fIx (.list ds) y Q := rfl
@[simp] theorem x_lo2 : dLenOwn 2 (a0 :: a1 :: .own ds :: l) Q = Q (.int ds.length) := rfl
@[simp] theorem x_ro2 : dRetOwn 2 R (a0 :: a1 :: .own ds :: l) = R.rt (.list ds) := rfl
@[simp] theorem x_v3 : dVar 3 (a0 :: a1 :: a2 :: .dat d :: l) Q = Q d := rfl
@[simp] theorem x_st3 (r : DA) : aSlot 3 r (a0 :: a1 :: a2 :: .tape :: l) QA = r (a0 :: a1 :: a2 :: .tape :: l) fun xs => QA (.tape :: xs) := rfl
@[simp] theorem x_ap3 (a : DE) : dApp 3 a R (a0 :: a1 :: a2 :: .own ds :: l) = a (a0 :: a1 :: a2 :: .own ds :: l) fun d => ds.length < sizeLine ∧ R.nx (List.set (a0 :: a1 :: a2 :: .own ds :: l) 3 (.own (ds ++ [d]))) := rfl
@[simp] theorem x_io3 (b : DE) : dIxOwn 3 b (a0 :: a1 :: a2 :: .own ds :: l) Q = b (a0 :: a1 :: a2 :: .own ds :: l) fun y => fIx (.list ds) y Q := rfl
@[simp] theorem x_lo3 : dLenOwn 3 (a0 :: a1 :: a2 :: .own ds :: l) Q = Q (.int ds.length) := rfl
@[simp] theorem x_ro3 : dRetOwn 3 R (a0 :: a1 :: a2 :: .own ds :: l) = R.rt (.list ds) := rfl
@[simp] theorem x_v4 : dVar 4 (a0 :: a1 :: a2 :: a3 :: .dat d :: l) Q = Q d := rfl
@[simp] theorem x_st4 (r : DA) : aSlot 4 r (a0 :: a1 :: a2 :: a3 :: .tape :: l) QA = r (a0 :: a1 :: a2 :: a3 :: .tape :: l) fun xs => QA (.tape :: xs) := rfl
@[simp] theorem x_ap4 (a : DE) : dApp 4 a R (a0 :: a1 :: a2 :: a3 :: .own ds :: l) = a (a0 :: a1 :: a2 :: a3 :: .own ds :: l) fun d => ds.length < sizeLine ∧ R.nx (List.set (a0 :: a1 :: a2 :: a3 :: .own ds :: l) 4 (.own (ds ++ [d]))) := rfl
@[simp] theorem x_io4 (b : DE) : dIxOwn 4 b (a0 :: a1 :: a2 :: a3 :: .own ds :: l) Q = b (a0 :: a1 :: a2 :: a3 :: .own ds :: l) fun y => fIx (.list ds) y Q := rfl
@[simp] theorem x_lo4 : dLenOwn 4 (a0 :: a1 :: a2 :: a3 :: .own ds :: l) Q = Q (.int ds.length) := rfl
@[simp] theorem x_ro4 : dRetOwn 4 R (a0 :: a1 :: a2 :: a3 :: .own ds :: l) = R.rt (.list ds) := rfl
@[simp] theorem x_v5 : dVar 5 (a0 :: a1 :: a2 :: a3 :: a4 :: .dat d :: l) Q = Q d := rfl
@[simp] theorem x_st5 (r : DA) : aSlot 5 r (a0 :: a1 :: a2 :: a3 :: a4 :: .tape :: l) QA = r (a0 :: a1 :: a2 :: a3 :: a4 :: .tape :: l) fun xs => QA (.tape :: xs) := rfl
@[simp] theorem x_ap5 (a : DE) : dApp 5 a R (a0 :: a1 :: a2 :: a3 :: a4 :: .own ds :: l) = a (a0 :: a1 :: a2 :: a3 :: a4 :: .own ds :: l) fun d => ds.length < sizeLine ∧ R.nx (List.set (a0 :: a1 :: a2 :: a3 :: a4 :: .own ds :: l) 5 (.own (ds ++ [d]))) := rfl
@[simp] theorem x_io5 (b : DE) : dIxOwn 5 b (a0 :: a1 :: a2 :: a3 :: a4 :: .own ds :: l) Q = b (a0 :: a1 :: a2 :: a3 :: a4 :: .own ds :: l) fun y => fIx (.list ds) y Q := rfl
@[simp] theorem x_lo5 : dLenOwn 5 (a0 :: a1 :: a2 :: a3 :: a4 :: .own ds :: l) Q = Q (.int ds.length) := rfl
@[simp] theorem x_ro5 : dRetOwn 5 R (a0 :: a1 :: a2 :: a3 :: a4 :: .own ds :: l) = R.rt (.list ds) := rfl
@[simp] theorem x_v6 : dVar 6 (a0 :: a1 :: a2 :: a3 :: a4 :: a5 :: .dat d :: l) Q = Q d := rfl
@[simp] theorem x_st6 (r : DA) : aSlot 6 r (a0 :: a1 :: a2 :: a3 :: a4 :: a5 :: .tape :: l) QA = r (a0 :: a1 :: a2 :: a3 :: a4 :: a5 :: .tape :: l) fun xs => QA (.tape :: xs) := rfl
@[simp] theorem x_ap6 (a : DE) : dApp 6 a R (a0 :: a1 :: a2 :: a3 :: a4 :: a5 :: .own ds :: l) = a (a0 :: a1 :: a2 :: a3 :: a4 :: a5 :: .own ds :: l) fun d => ds.length < sizeLine ∧ R.nx (List.set (a0 :: a1 :: a2 :: a3 :: a4 :: a5 :: .own ds :: l) 6 (.own (ds ++ [d]))) := rfl
@[simp] theorem x_io6 (b : DE) : dIxOwn 6 b (a0 :: a1 :: a2 :: a3 :: a4 :: a5 :: .own ds :: l) Q = b (a0 :: a1 :: a2 :: a3 :: a4 :: a5 :: .own ds :: l) fun y => fIx (.list ds) y Q := rfl
@[simp] theorem x_lo6 : dLenOwn 6 (a0 :: a1 :: a2 :: a3 :: a4 :: a5 :: .own ds :: l) Q = Q (.int ds.length) := rfl
@[simp] theorem x_ro6 : dRetOwn 6 R (a0 :: a1 :: a2 :: a3 :: a4 :: a5 :: .own ds :: l) = R.rt (.list ds) := rfl
@[simp] theorem x_v7 : dVar 7 (a0 :: a1 :: a2 :: a3 :: a4 :: a5 :: a6 :: .dat d :: l) Q = Q d := rfl
@[simp] theorem x_st7 (r : DA) : aSlot 7 r (a0 :: a1 :: a2 :: a3 :: a4 :: a5 :: a6 :: .tape :: l) QA = r (a0 :: a1 :: a2 :: a3 :: a4 :: a5 :: a6 :: .tape :: l) fun xs => QA (.tape :: xs) := rfl
@[simp] theorem x_ap7 (a : DE) : dApp 7 a R (a0 :: a1 :: a2 :: a3 :: a4 :: a5 :: a6 :: .own ds :: l) = a (a0 :: a1 :: a2 :: a3 :: a4 :: a5 :: a6 :: .own ds :: l) fun d => ds.length < sizeLine ∧ R.nx (List.set (a0 :: a1 :: a2 :: a3 :: a4 :: a5 :: a6 :: .own ds :: l) 7 (.own (ds ++ [d]))) := rfl
@[simp] theorem x_io7 (b : DE) : dIxOwn 7 b (a0 :: a1 :: a2 :: a3 :: a4 :: a5 :: a6 :: .own ds :: l) Q = b (a0 :: a1 :: a2 :: a3 :: a4 :: a5 :: a6 :: .own ds :: l) fun y => fIx (.list ds) y Q := rfl
@[simp] theorem x_lo7 : dLenOwn 7 (a0 :: a1 :: a2 :: a3 :: a4 :: a5 :: a6 :: .own ds :: l) Q = Q (.int ds.length) := rfl
@[simp] theorem x_ro7 : dRetOwn 7 R (a0 :: a1 :: a2 :: a3 :: a4 :: a5 :: a6 :: .own ds :: l) = R.rt (.list ds) := rfl
@[simp] theorem x_v8 : dVar 8 (a0 :: a1 :: a2 :: a3 :: a4 :: a5 :: a6 :: a7 :: .dat d :: l) Q = Q d := rfl
@[simp] theorem x_st8 (r : DA) : aSlot 8 r (a0 :: a1 :: a2 :: a3 :: a4 :: a5 :: a6 :: a7 :: .tape :: l) QA = r (a0 :: a1 :: a2 :: a3 :: a4 :: a5 :: a6 :: a7 :: .tape :: l) fun xs => QA (.tape :: xs) := rfl
@[simp] theorem x_ap8 (a : DE) : dApp 8 a R (a0 :: a1 :: a2 :: a3 :: a4 :: a5 :: a6 :: a7 :: .own ds :: l) = a (a0 :: a1 :: a2 :: a3 :: a4 :: a5 :: a6 :: a7 :: .own ds :: l) fun d => ds.length < sizeLine ∧ R.nx (List.set (a0 :: a1 :: a2 :: a3 :: a4 :: a5 :: a6 :: a7 :: .own ds :: l) 8 (.own (ds ++ [d]))) := rfl
@[simp] theorem x_io8 (b : DE) : dIxOwn 8 b (a0 :: a1 :: a2 :: a3 :: a4 :: a5 :: a6 :: a7 :: .own ds :: l) Q = b (a0 :: a1 :: a2 :: a3 :: a4 :: a5 :: a6 :: a7 :: .own ds :: l) fun y => fIx (.list ds) y Q := rfl
@[simp] theorem x_lo8 : dLenOwn 8 (a0 :: a1 :: a2 :: a3 :: a4 :: a5 :: a6 :: a7 :: .own ds :: l) Q = Q (.int ds.length) := rfl
@[simp] theorem x_ro8 : dRetOwn 8 R (a0 :: a1 :: a2 :: a3 :: a4 :: a5 :: a6 :: a7 :: .own ds :: l) = R.rt (.list ds) := rfl
@[simp] theorem x_v9 : dVar 9 (a0 :: a1 :: a2 :: a3 :: a4 :: a5 :: a6 :: a7 :: a8 :: .dat d :: l) Q = Q d := rfl
@[simp] theorem x_st9 (r : DA) : aSlot 9 r (a0 :: a1 :: a2 :: a3 :: a4 :: a5 :: a6 :: a7 :: a8 :: .tape :: l) QA = r (a0 :: a1 :: a2 :: a3 :: a4 :: a5 :: a6 :: a7 :: a8 :: .tape :: l) fun xs => QA (.tape :: xs) := rfl
@[simp] theorem x_ap9 (a : DE) : dApp 9 a R (a0 :: a1 :: a2 :: a3 :: a4 :: a5 :: a6 :: a7 :: a8 :: .own ds :: l) = a (a0 :: a1 :: a2 :: a3 :: a4 :: a5 :: a6 :: a7 :: a8 :: .own ds :: l) fun d => ds.length < sizeLine ∧ R.nx (List.set (a0 :: a1 :: a2 :: a3 :: a4 :: a5 :: a6 :: a7 :: a8 :: .own ds :: l) 9 (.own (ds ++ [d]))) := rfl
@[simp] theorem x_io9 (b : DE) : dIxOwn 9 b (a0 :: a1 :: a2 :: a3 :: a4 :: a5 :: a6 :: a7 :: a8 :: .own ds :: l) Q = b (a0 :: a1 :: a2 :: a3 :: a4 :: a5 :: a6 :: a7 :: a8 :: .own ds :: l) fun y => fIx (.list ds) y Q := rfl
@[simp] theorem x_lo9 : dLenOwn 9 (a0 :: a1 :: a2 :: a3 :: a4 :: a5 :: a6 :: a7 :: a8 :: .own ds :: l) Q = Q (.int ds.length) := rfl
@[simp] theorem x_ro9 : dRetOwn 9 R (a0 :: a1 :: a2 :: a3 :: a4 :: a5 :: a6 :: a7 :: a8 :: .own ds :: l) = R.rt (.list ds) := rfl
@[simp] theorem x_v10 : dVar 10 (a0 :: a1 :: a2 :: a3 :: a4 :: a5 :: a6 :: a7 :: a8 :: a9 :: .dat d :: l) Q = Q d := rfl
@[simp] theorem x_st10 (r : DA) : aSlot 10 r (a0 :: a1 :: a2 :: a3 :: a4 :: a5 :: a6 :: a7 :: a8 :: a9 :: .tape :: l) QA = r (a0 :: a1 :: a2 :: a3 :: a4 :: a5 :: a6 :: a7 :: a8 :: a9 :: .tape :: l) fun xs => QA (.tape :: xs) := rfl
@[simp] theorem x_ap10 (a : DE) : dApp 10 a R (a0 :: a1 :: a2 :: a3 :: a4 :: a5 :: a6 :: a7 :: a8 :: a9 :: .own ds :: l) = a (a0 :: a1 :: a2 :: a3 :: a4 :: a5 :: a6 :: a7 :: a8 :: a9 :: .own ds :: l) fun d => ds.length < sizeLine ∧ R.nx (List.set (a0 :: a1 :: a2 :: a3 :: a4 :: a5 :: a6 :: a7 :: a8 :: a9 :: .own ds :: l) 10 (.own (ds ++ [d]))) := rfl
@[simp] theorem x_io10 (b : DE) : dIxOwn 10 b (a0 :: a1 :: a2 :: a3 :: a4 :: a5 :: a6 :: a7 :: a8 :: a9 :: .own ds :: l) Q = b (a0 :: a1 :: a2 :: a3 :: a4 :: a5 :: a6 :: a7 :: a8 :: a9 :: .own ds :: l) fun y => fIx (.list ds) y Q := rfl
@[simp] theorem x_lo10 : dLenOwn 10 (a0 :: a1 :: a2 :: a3 :: a4 :: a5 :: a6 :: a7 :: a8 :: a9 :: .own ds :: l) Q = Q (.int ds.length) := rfl
@[simp] theorem x_ro10 : dRetOwn 10 R (a0 :: a1 :: a2 :: a3 :: a4 :: a5 :: a6 :: a7 :: a8 :: a9 :: .own ds :: l) = R.rt (.list ds) := rfl
@[simp] theorem x_v11 : dVar 11 (a0 :: a1 :: a2 :: a3 :: a4 :: a5 :: a6 :: a7 :: a8 :: a9 :: a10 :: .dat d :: l) Q = Q d := rfl
@[simp] theorem x_st11 (r : DA) : aSlot 11 r (a0 :: a1 :: a2 :: a3 :: a4 :: a5 :: a6 :: a7 :: a8 :: a9 :: a10 :: .tape :: l) QA = r (a0 :: a1 :: a2 :: a3 :: a4 :: a5 :: a6 :: a7 :: a8 :: a9 :: a10 :: .tape :: l) fun xs => QA (.tape :: xs) := rfl
@[simp] theorem x_ap11 (a : DE) : dApp 11 a R (a0 :: a1 :: a2 :: a3 :: a4 :: a5 :: a6 :: a7 :: a8 :: a9 :: a10 :: .own ds :: l) = a (a0 :: a1 :: a2 :: a3 :: a4 :: a5 :: a6 :: a7 :: a8 :: a9 :: a10 :: .own ds :: l) fun d => ds.length < sizeLine ∧ R.nx (List.set (a0 :: a1 :: a2 :: a3 :: a4 :: a5 :: a6 :: a7 :: a8 :: a9 :: a10 :: .own ds :: l) 11 (.own (ds ++ [d]))) := rfl
@[simp] theorem x_io11 (b : DE) : dIxOwn 11 b (a0 :: a1 :: a2 :: a3 :: a4 :: a5 :: a6 :: a7 :: a8 :: a9 :: a10 :: .own ds :: l) Q = b (a0 :: a1 :: a2 :: a3 :: a4 :: a5 :: a6 :: a7 :: a8 :: a9 :: a10 :: .own ds :: l) fun y => fIx (.list ds) y Q := rfl
@[simp] theorem x_lo11 : dLenOwn 11 (a0 :: a1 :: a2 :: a3 :: a4 :: a5 :: a6 :: a7 :: a8 :: a9 :: a10 :: .own ds :: l) Q = Q (.int ds.length) := rfl
@[simp] theorem x_ro11 : dRetOwn 11 R (a0 :: a1 :: a2 :: a3 :: a4 :: a5 :: a6 :: a7 :: a8 :: a9 :: a10 :: .own ds :: l) = R.rt (.list ds) := rfl
@[simp] theorem x_v12 : dVar 12 (a0 :: a1 :: a2 :: a3 :: a4 :: a5 :: a6 :: a7 :: a8 :: a9 :: a10 :: a11 :: .dat d :: l) Q = Q d := rfl
@[simp] theorem x_v13 : dVar 13 (a0 :: a1 :: a2 :: a3 :: a4 :: a5 :: a6 :: a7 :: a8 :: a9 :: a10 :: a11 :: a12 :: .dat d :: l) Q = Q d := rfl
@[simp] theorem x_v14 : dVar 14 (a0 :: a1 :: a2 :: a3 :: a4 :: a5 :: a6 :: a7 :: a8 :: a9 :: a10 :: a11 :: a12 :: a13 :: .dat d :: l) Q = Q d := rfl
@[simp] theorem x_v15 : dVar 15 (a0 :: a1 :: a2 :: a3 :: a4 :: a5 :: a6 :: a7 :: a8 :: a9 :: a10 :: a11 :: a12 :: a13 :: a14 :: .dat d :: l) Q = Q d := rfl
@[simp] theorem x_ss0 (r : DA) : aSlot 0 r (.scr ns :: l) QA = r (.scr ns :: l) fun xs => QA (.scr ns :: xs) := rfl
@[simp] theorem x_ls0 : dLenScr 0 (.scr ns :: l) Q = Q (.int ns.length) := rfl
theorem loop0 {g : DG} {b : DS} {ω : List SV} : dLoop g b R [] ω = R.nx ω := rfl
theorem loop1 {g : DG} {b : DS} {ω : List SV} {ds : List D} : dLoop g b R (d :: ds) ω = g d ω fun ω1 => b { nx := fun ω' => dLoop g b R ds ω', rt := R.rt, bk := fun ω' => R.nx ω', ct := fun ω' => dLoop g b R ds ω' } ω1 := rfl
end
theorem strLt_swap {s t : Str} (h : s ≠ t) : strLt t s = !strLt s t := by
  unfold strLt
  by_cases a : s.cps.toList < t.cps.toList <;> by_cases b : t.cps.toList < s.cps.toList
  · exact absurd b (List.lt_asymm a)
  · simp [a, b]
  · simp [a, b]
  · refine absurd ?_ h
    have e := List.le_antisymm (List.not_lt.mp b) (List.not_lt.mp a)
    cases s; cases t
    simp only [Str.mk.injEq]
    exact Array.toList_inj.mp e
theorem strLt_irr {s : Str} : strLt s s = false := by
  unfold strLt
  simp
end DL
/-! DL: the same promises, made only where nothing stands under a repr: repr of containers wants it. -/
namespace DL
open PySem PySem.Spec PyProof.Rows L2
section
variable {P : Program} {w : World} {K : PySem.W.Frag} {mg : Str → Option Value} {base : Heap}
/-- FnOk, where no repr is open below -/
structure FnG (P : Program) (w : World) (K : PySem.W.Frag) (mg : Str → Option Value) (base : Heap) (k : Nat) (f : Addr) (fd : FuncData) (ps : List Str) (sp : Sp) : Prop where
  n : ∀ vs H Q E, sp vs H Q E → vs.length = ps.length
  go : ∀ (A : Around) (o : List Env) (s : Shared) (H : Hp) (ar : PySem.Args) (us : List Value) (vs : List V) (Q : VK) (E : XK), Room k A → A.guards = some [] → Env0 P w K mg base A o s H →
    BindsTo s fd ar (ps.zip us) → Vals vs us → sp vs H Q E → codeAny (model P w) A (.call (.ref f) ar) (CR CX0 o P w H s Q E) s
theorem FnG.up {j k : Nat} {f : Addr} {fd : FuncData} {ps : List Str} {sp : Sp} (F : FnG P w K mg base j f fd ps sp) (h : j ≤ k) : FnG P w K mg base k f fd ps sp :=
  ⟨F.n, fun A o s H ar us vs Q E hr hg e hb hv q => F.go A o s H ar us vs Q E (hr.mono h) hg e hb hv q⟩
theorem FnG.weak {k : Nat} {f : Addr} {fd : FuncData} {ps : List Str} {sp sp' : Sp} (F : FnG P w K mg base k f fd ps sp) (h : ∀ vs H Q E, sp' vs H Q E → sp vs H Q E) : FnG P w K mg base k f fd ps sp' :=
  ⟨fun vs H Q E q => F.n vs H Q E (h vs H Q E q), fun A o s H ar us vs Q E hr hg e hb hv q => F.go A o s H ar us vs Q E hr hg e hb hv (h vs H Q E q)⟩
theorem fnG {k : Nat} {f : Addr} {fd : FuncData} {ps : List Str} {sp : Sp} (F : FnOk P w K mg base CX0 k f fd ps sp) : FnG P w K mg base k f fd ps sp :=
  ⟨F.len, fun A o s H ar us vs Q E hr _ e hb hv q => F.run A o s H ar us vs Q E hr e hb hv q⟩
structure CalG (P : Program) (w : World) (K : PySem.W.Frag) (mg : Str → Option Value) (base : Heap) (k : Nat) (x : Str) (sp : Sp) : Prop where
  ex : ∃ (f : Addr) (fd : FuncData) (ps : List Str), FnG P w K mg base k f fd ps sp ∧ mg x = some (.ref f) ∧ PySem.W.keepIn K (.ref f) = true ∧ Binds K fd ps []
theorem calG {k : Nat} {x : Str} {sp : Sp} (c : C8.Cal P w K mg base k x sp []) : CalG P w K mg base k x sp := by
  obtain ⟨f, fd, ps, ds, F, hm, kp, b, d⟩ := c.ex
  cases d
  exact ⟨f, fd, ps, fnG F, hm, kp, b⟩
theorem CalG.up {j k : Nat} {x : Str} {sp : Sp} (c : CalG P w K mg base j x sp) (h : j ≤ k) : CalG P w K mg base k x sp := by
  obtain ⟨f, fd, ps, F, r⟩ := c.ex
  exact ⟨f, fd, ps, F.up h, r⟩
theorem CalG.imp {x : Str} {k n : Nat} {m m' : List SV → EK → Prop} (c : CalG P w K mg base k x (spD P w K n m)) (h : ∀ svs R, svs.length = n → m' svs R → m svs R) : CalG P w K mg base k x (spD P w K n m') := by
  obtain ⟨f, fd, ps, F, r⟩ := c.ex
  exact ⟨f, fd, ps, F.weak fun vs H Q E ⟨svs, B, R, a, hl, hB, hm, q⟩ => ⟨svs, B, R, a, hl, hB, h svs R (by rw [← Paired.length a]; exact hl) hm, q⟩, r⟩
/-- a def's body, walked at one call -/
theorem fnG_of {x qual : Str} {st : Stmt} {f : Addr} {fd : FuncData} {N ps : List Str} {k : Nat} {sp : Sp} (F : Fun K x qual st f fd) (S : FnScope N ps (defScope st)) (hn : ∀ vs H Q E, sp vs H Q E → vs.length = ps.length)
    (body : ∀ (cdv : Value) (A : Around) (o : List Env) (s : Shared) (H : Hp) (vs : List V) (Q : VK) (E : XK), Room k (A.deeper (envOfC qual (defScope st) s.heap.objs.size f cdv)) → A.guards = some [] → sp vs H Q E →
      ∃ t, PSs (cxOf CX0 P w K mg base N qual (defScope st) f cdv A o s H E).nox (defBody st) t ∧ t { nx := fun _ H' => Q .non H', rt := Q } (start N vs) H) : FnG P w K mg base (k + 1) f fd ps sp := by
  obtain ⟨oc, od, kV, doc, pm, an, cdv, ct, osl, rfl, lk, hcd⟩ := F.ex
  refine ⟨hn, fun A o s H ar us vs Q E hr hg e0 hb rv q => ?_⟩
  have old : ∀ b ob, base.get? b = some ob → s.heap.get? b = some ob := fun b ob z => (e0.bs b ob z).1
  have names : ∀ y ∈ ps.zip us, (defScope st).names.lookup y.1 = some .local ∨ ((defScope st).names.lookup y.1 = some .cell ∧ ((cellsFrom (s.heap.objs.size + 1) (defScope st).names []).lookup y.1).isSome = true) := by
    rintro ⟨y, v⟩ hy
    rcases S.par y (List.of_mem_zip hy).1 with z | z
    · exact .inl z
    · exact .inr ⟨z, PySem.W.cellsFrom_some _ _ _ (.inl z)⟩
  have KX : K.In s.heap := e0.mod.kin.keeps old
  refine codeAny_call_function hr.depth (KX _ _ lk) rfl S.co S.gen rfl (PySem.W.codeRec_of KX hcd) (hb _ _ _ _ (wpAny_newFunctionEnv_cells S.kind names fun env ee s1 x => ?_))
  subst ee
  refine ⟨(e0.mod.nolimit.keeps old).keeps x.toInCall.keep, codeAny_func ?_⟩
  obtain ⟨t, ht, hq⟩ := body cdv A o s H vs Q E (hr.deeper _) hg q
  refine wpAny_mono (ht.nox.run [] s1 (start N vs) H _ (inv_start S hr.hd e0 (hn _ _ _ _ q) rv x) hq) (fun fl s' h => ?_) fun _ _ h => h
  match fl, h with
  | .ret u, ⟨v, σ', H', J, r1, r2⟩ => exact ⟨v, H', J.os, J.bare, J.base, J.hok, r1, r2⟩
  | .next, ⟨σ', H', J, r2⟩ => exact ⟨V.non, H', J.os, J.bare, J.base, J.hok, rfl, r2⟩
  | .brk, ⟨_, _, _, z⟩ => exact z.elim
  | .cont, ⟨_, _, _, z⟩ => exact z.elim
theorem fn_okG {x qual : Str} {st : Stmt} {f : Addr} {fd : FuncData} {N ps : List Str} {k : Nat} {ds : DS} (F : Fun K x qual st f fd) (S : FnScope N ps (defScope st))
    (body : ∀ (cdv : Value) (A : Around) (outer : List Env) (s : Shared) (H : Hp) (E : XK), Room k (A.deeper (envOfC qual (defScope st) s.heap.objs.size f cdv)) → A.guards = some [] → PSs (cxOf CX0 P w K mg base N qual (defScope st) f cdv A outer s H E).nox (defBody st) (LS P w K ds)) :
    FnG P w K mg base (k + 1) f fd ps (spD P w K ps.length (fnD ds (N.length - ps.length))) := by
  refine fnG_of F S (fun vs H Q E ⟨_, _, _, _, hl, _⟩ => hl) (fun cdv A outer s H vs Q E hr hg h => ⟨_, body cdv A outer s H E hr hg, ?_⟩)
  obtain ⟨svs, B, R, args, hl, hB, hm, k⟩ := h
  exact ⟨⟨H, B⟩, [], _, _, start_ctx hB args, by rw [hl]; exact hm, ⟨fun ω h σ H' A c => k _ h _ _ c.same .non, fun d hd v H' s r => k d hd v H' s r, fun _ h => False.elim h, fun _ h => False.elim h⟩⟩
theorem calG_of {x : Str} {st : Stmt} {ps : List Str} {k : Nat} {sp : Sp} (Df : DefAt K mg x st) (b : BindsN x st ps) (h : ∀ f fd, Fun K x x st f fd → FnG P w K mg base k f fd ps sp) : CalG P w K mg base k x sp := by
  obtain ⟨f, fd, F, hm⟩ := Df.ex
  exact ⟨f, fd, ps, h f fd F, hm, F.kp, F.binds b⟩
end
section
variable {P : Program} {w : World} {X : Cx} {pos : Pos}
theorem e_fnG {x : Str} {p : Pos} {e : Expr} {es : List Expr} {k j n : Nat} {m : List SV → EK → Prop} {dr : DA} (cl : CalG X.prog X.w X.K X.mg X.base k x (spD P w X.K n m)) (hr : Room j X.A) (hgd : X.A.guards = some []) (ha : PA X (e :: es) (LA P w X.K n dr)) (hk : k ≤ j := by decide) (hg : Gl X x := by rfl)
    (hdb : (x == ("__debug__" : Str)) = false := by decide) (he : starEach (e :: es) X.env = (false, eval e X.env) :: starEach es X.env := by rfl) (hpl : (backTo pos (starEach es X.env)).any (·.1) = false := by rfl) :
    PE X (.Call (.Name x p) (e :: es) [] pos) (LE P w X.K (dFn m dr)) := by
  obtain ⟨f, fd, ps, F, hm, kp, b⟩ := cl.ex
  refine ⟨fun pins s σ H Q I h => wpAny_Call_Name_kw (ld_glob I hg hm ?_ hdb)⟩
  obtain ⟨F', A, ω, R, c, h, k⟩ := h
  refine PySem.W.callWith_K (h₀ := X.base) I.ok.mod.kin kp (thn (ha.run pos pins s σ H _ I ⟨F', A, ω, _, c, h, fun svs hs hl vs H1 e1 r1 => (⟨svs, hs, hl, e1, r1⟩ : ∃ svs : List SV, m svs R ∧ svs.length = n ∧ Same H H1 ∧ Args P w X.K (A ++ F'.B) H1 vs svs)⟩) fun us s1 ⟨vs, H1, I1, rv, svs, hs, hl, e1, r1⟩ => ⟨I1.kIn, ?_⟩) he hpl
  have c1 := c.mono e1
  have q : spD P w X.K n m (vs ++ []) H1 Q E0 := ⟨svs, A ++ F'.B, R, by rw [List.append_nil]; exact r1, by rw [List.append_nil, Paired.length r1, hl], fun b hb z => c1.fresh z hb, hs, fun d hd v H' e' r' => k d hd v H' (e1.trans e') r'⟩
  rw [List.append_nil] at q
  refine wpAny_call (codeAny_mono (F.go X.A X.stack s1 H1 ⟨us, []⟩ us vs Q E0 (hr.mono hk) hgd I1.env0 (by simpa using b s1 us I1.kIn (by rw [List.append_nil, ← rv.length]; exact F.n _ _ _ _ q)) rv q) fun r s' hq => ?_)
  match r, hq with
  | .ok (.ret u), hq => exact I1.after hq
end
/-! ### the end -/
section
variable {P : Program} {w : World} {K : PySem.W.Frag} {mg mb : Str → Option Value} {s₁ : Shared} {a : Addr} {vs : List Value} {ns : List Int}
/-- the abstract heap that knows the script alone -/
def scriptH (K : PySem.W.Frag) (a : Addr) (vs : List Value) (ns : List Int) : Hp := fun b => if b = a ∧ K.lookup a = none then some (.frz { cls := .type "list", data := .seq vs.toArray } (.lst (ns.map V.int))) else none
theorem scriptH_only {b : Addr} {u : HO} (h : scriptH K a vs ns b = some u) : b = a ∧ K.lookup a = none ∧ u = .frz { cls := .type "list", data := .seq vs.toArray } (.lst (ns.map V.int)) := by
  unfold scriptH at h
  split at h
  · rename_i z; exact ⟨z.1, z.2, (Option.some.inj h).symm⟩
  · cases h
theorem law_callG {k : Nat} {fa : Addr} {fd : FuncData} {x : Str} {sp : Sp} (KX : K.In s₁.heap) (hns : s₁.heap.Ns mainGlobals mg) (hb : s₁.heap.Ns builtinsNs mb) (hbb : ∀ x : Str, x ≠ "__name__" → mb x = bootBuiltins x) (hlim : s₁.heap.NoLimit) (hg : s₁.gens = #[])
    (ha : s₁.heap.get? a = some { cls := .type "list", data := .seq vs.toArray }) (hi : IntsAre vs ns) (hl : ns.length ≤ sizeLine) (hr : Room k callerA)
    (F : ∀ base : Heap, K.In base → base.Ns mainGlobals mg → FnG P w K mg base k fa fd [x] sp) (hbind : ∀ (s : Shared) (u : Value), BindsTo s fd ⟨[u], []⟩ [(x, u)])
    (hsp : ∀ H : Hp, Only H → SqL K H a (ns.map V.int) → sp [.ref a] H (fun v _ => v = .bl true) fun _ _ _ => False) :
    codeAny (model P w) callerA (.call (.ref fa) ⟨[.ref a], []⟩) (fun r s' => r = .ok (.ret (.bool true)) ∧ OldK s₁.heap s'.heap ∧ s'.os = s₁.os ∧ AllBare s'.gens) s₁ := by
  have rv := vals_ints hi
  let H := scriptH K a vs ns
  have H_of : ∀ {b : Addr} {u : HO}, H b = some u → b = a ∧ K.lookup a = none ∧ u = .frz { cls := .type "list", data := .seq vs.toArray } (.lst (ns.map V.int)) := fun h => scriptH_only h
  have no : ∀ {b : Addr} {ob : Obj}, s₁.heap.get? b = some ob → (b = a → False) → H b = none := fun {b ob} e n => by
    cases z : H b with
    | none => rfl
    | some u => exact (n (H_of z).1).elim
  have dict_ne : ∀ {b : Addr} {ob : Obj} {es : Array DictEntry} {ep : Nat}, s₁.heap.get? b = some ob → ob.data = .dict es ep → b = a → False := fun {b ob es ep} e d z => by
    subst z
    rw [ha] at e
    cases e
    cases d
  have ns_of : ∀ {b : Addr} {m : Str → Option Value}, s₁.heap.Ns b m → (hidT s₁.heap H).Ns b m := fun {b m} ⟨ob, es, ep, e, d, r⟩ => ⟨ob, es, ep, hidT_get e (no e (dict_ne e d)), d, r⟩
  have kin : K.In (hidT s₁.heap H) := fun b ob e => hidT_get (KX b ob e) (by
    cases z : H b with
    | none => rfl
    | some u =>
      obtain ⟨rfl, n, _⟩ := H_of z
      rw [n] at e
      cases e)
  have sq : SqL K H a (ns.map V.int) := by
    cases hk : K.lookup a with
    | none => exact .inl (.inr ⟨{ cls := .type "list", data := .seq vs.toArray }, if_pos ⟨rfl, hk⟩⟩)
    | some ob =>
      have e := KX a ob hk
      rw [ha] at e
      cases e
      exact .inr ⟨_, vs.toArray, _, hk, rfl, rfl, rfl, by rw [List.size_toArray, hi.length]; exact hl, by simpa using rv⟩
  have hok : HOk P w H s₁.heap := fun b u z => by
    obtain ⟨rfl, _, rfl⟩ := H_of z
    exact ⟨ha, by rw [List.length_map]; exact hl, vs, _, rv, ha⟩
  have only : Only H := fun b => by
    cases z : H b with
    | none => exact .inl rfl
    | some u =>
      obtain ⟨_, _, rfl⟩ := H_of z
      exact .inr ⟨_, _, rfl⟩
  obtain ⟨mc, l1, l2⟩ := hlim
  have e0 : Env0 P w K mg (hidT s₁.heap H) callerA [] s₁ H :=
    ⟨rfl, ⟨kin, ns_of hns, ⟨mb, ns_of hb, hbb⟩, ⟨mc, ns_of l1, l2⟩⟩, fun b ob e => of_hidT e, Nat.le_of_eq (hidT_size _ _), trivial, fun b z => absurd z (List.not_mem_nil), hok, .of_eq hg⟩
  refine codeAny_mono ((F _ kin (ns_of hns)).go callerA [] s₁ H ⟨[.ref a], []⟩ [.ref a] [.ref a] _ _ hr rfl e0 (hbind s₁ (.ref a)) (.cons rfl .nil) (hsp H only sq)) fun r s' h => ?_
  match r, h with
  | .error e, h => exact h.elim
  | .ok (.ret u), ⟨v, H', os, bare, un, hok', r', (q : v = .bl true)⟩ =>
    subst q
    obtain rfl : u = Value.bool true := r'
    refine ⟨rfl, OldK.of_keep fun b ob e => ?_, os, bare⟩
    cases q : H b with
    | none => exact un.keep b ob e q (fun z => absurd z (List.not_mem_nil)) (List.not_mem_nil)
    | some u =>
      obtain ⟨rfl, _, rfl⟩ := H_of q
      rw [ha] at e
      cases e
      exact (hok' _ _ (un.frzs _ _ _ q)).1
theorem walkG {l : PySem.W.OpenLaw} {n k : Nat} {q : Program} {loose : List Str} {XP : (Str → Option Value) → Heap → Prop} {YP : World → Heap → Prop} {d : DefRec} {K : Params → PySem.W.Frag} {sp : World → Sp} {x : Str} (hn : l.most = some n) (hn2 : n ≤ sizeLine) (hdf : d.params.defaults = []) (hr : Room k callerA)
    (hY : ∀ (w : World) (h : Heap), YP w h → (K w.params).In h)
    (F : ∀ (w : World) (mg : Str → Option Value) (fa : Addr) (h : Heap), (K w.params).In h → h.Ns mainGlobals mg → mg d.name = some (.ref fa) →
      ∃ fd : FuncData, (∀ (s : Shared) (u : Value), BindsTo s fd ⟨[u], []⟩ [(x, u)]) ∧ ∀ base : Heap, (K w.params).In base → base.Ns mainGlobals mg → FnG l.prog w (K w.params) mg base k fa fd [x] (sp w))
    (hsp : ∀ (w : World) (H : Hp) (a : Addr) (ns : List Int), ns.length ≤ n → (∀ z ∈ ns, Builtin.Int.intBits z ≤ 1048576) → Only H → SqL (K w.params) H a (ns.map V.int) → sp w [.ref a] H (fun v _ => v = .bl true) fun _ _ _ => False) :
    PySem.W.WalkO q loose XP YP l.row.toRowW d [] (fun f vs => PySem.call f vs) :=
  Att.attach_callB hn hdf fun w s₀ s₁ mg mb fa o pm cd doc a vs ns G Y ho hd hcd hmg hobj hints hlen hbits hg => by
    obtain ⟨fd, hb, hF⟩ := F w mg fa _ (hY w _ Y) G.T.g hmg
    exact law_callG (hY w _ Y) G.T.g G.T.b G.T.builtins G.T.nolimit hg hobj hints (Nat.le_trans hlen hn2) hr hF hb fun H hO hS => hsp w H a ns hlen hbits hO hS
end
end DL
/-! DL: repr; bool minus bool; in over deep data; any, all; startswith; two stores at once; own lists read as data. -/
namespace DL
open PySem PySem.Spec PyProof.Rows L2
section
variable {X : Cx} {K : PySem.W.Frag}
/-! ### repr -/
mutual
/-- no dict in it but the empty one -/
def edict : D → Bool
  | .none | .bool _ | .int _ | .str _ => true
  | .list xs => edictAll xs
  | .tuple xs => edictAll xs
  | .dict [] => true
  | .dict (_ :: _) => false
def edictAll : List D → Bool
  | [] => true
  | x :: xs => edict x && edictAll xs
end
mutual
theorem edict_lay : ∀ d : D, d.canLay0 = true → edict d = true
  | .none, _ | .bool _, _ | .int _, _ | .str _, _ => by simp [edict]
  | .list xs, h => by simpa [edict] using edict_layAll xs (by simpa [PyData.canLay0] using h)
  | .tuple xs, h => by simpa [edict] using edict_layAll xs (by simpa [PyData.canLay0] using h)
  | .dict _, h => by simp [PyData.canLay0] at h
theorem edict_layAll : ∀ ds : List D, PyData.canLayAll0 ds = true → edictAll ds = true
  | [], _ => rfl
  | x :: xs, h => by
    have h' : x.canLay0 = true ∧ PyData.canLayAll0 xs = true := by simpa [PyData.canLayAll0] using h
    simp [edictAll, edict_lay x h'.1, edict_layAll xs h'.2]
end
def reprOk (d : D) : Bool := edict d && decide (d.depth ≤ 64) && d.showable && decide (d.shown.length ≤ sizeLine)
def fRepr : List D → EK → Prop
  | [d], Q => reprOk d = true ∧ Q (.str d.shown)
  | _, _ => False
def rReprD (K : PySem.W.Frag) : List V → Hp → VK → Prop := fun xs H Q => ∃ x d, xs = [x] ∧ Rp K H x d ∧ reprOk d = true ∧ Q (.str d.shown) H
section
variable {pins : List (Addr × Obj)} {σ : L2.St} {H : Hp} {s : Shared}
/-- an empty dict, as the heap has it -/
theorem dict0_at (I : Inv X pins σ H s) {a : Addr} {kvs : List (Key × V)} (e : H a = some (.dK kvs)) (r : RpKvs X.K H kvs []) : (a == sysModules) = false ∧ ∃ o n, s.heap.get? a = some o ∧ o.cls = .type "dict" ∧ o.data = .dict #[] n := by
  cases r
  obtain ⟨_, sy, vs, kv, o, es, ep, q1, q2, q3, _, q4, _⟩ := I.hok a _ e
  cases kv
  have e0 : es.toList = [] := by
    cases h : es.toList with
    | nil => rfl
    | cons x l => rw [h] at q4; cases q4
  have e1 : es = #[] := Array.toList_eq_nil_iff.mp e0
  subst e1
  exact ⟨sy, o, ep, q1, q2.1, q3⟩
mutual
theorem rp_reads (I : Inv X pins σ H s) : ∀ (d : D) (v : V) (u : Value), edict d = true → Rp X.K H v d → RelV v u → ∃ as, Reads s.heap u d as
  | .none, _, _, _, .non, r => by cases r; exact ⟨_, .none⟩
  | .bool b, _, _, _, .bl _, r => by cases r; exact ⟨_, .bool b⟩
  | .int i, _, _, _, .int _, r => by obtain ⟨t, rfl⟩ := r; exact ⟨_, .int i t⟩
  | .str x, _, _, _, .str _, r => by obtain ⟨t, rfl⟩ := r; exact ⟨_, .str x t⟩
  | .list ds, _, _, h, .lst e z q, r => by
    cases r
    obtain ⟨its, rv, ⟨o, n, ho, hc, _, hd⟩, _⟩ := I.list (SqL.of e)
    obtain ⟨as, w⟩ := rp_readsAll I ds _ its (by simpa [edict] using h) q rv
    exact ⟨_, .list ho hc hd w⟩
  | .tuple ds, _, _, h, .tup e z q, r => by
    cases r
    obtain ⟨its, rv, ⟨o, ho, hc, n, hd⟩, _⟩ := I.tuple e
    obtain ⟨as, w⟩ := rp_readsAll I ds _ its (by simpa [edict] using h) q rv
    exact ⟨_, .tuple ho hc hd w⟩
  | .dict [], _, _, _, .dct e q, r => by
    cases r
    obtain ⟨_, o, n, h1, h2, h3⟩ := dict0_at I e q
    exact ⟨_, .dict h1 h2 h3 .nil .nil⟩
  | .dict (_ :: _), _, _, h, _, _ => by simp [edict] at h
theorem rp_readsAll (I : Inv X pins σ H s) : ∀ (ds : List D) (vs : List V) (us : List Value), edictAll ds = true → RpAll X.K H vs ds → Vals vs us → ∃ as, ReadsAll s.heap us ds as
  | [], _, _, _, .nil, .nil => ⟨_, .nil⟩
  | d :: ds, _, _, h, .cons q1 q2, .cons r1 r2 => by
    have h' : edict d = true ∧ edictAll ds = true := by simpa [edictAll] using h
    obtain ⟨as, w1⟩ := rp_reads I d _ _ h'.1 q1 r1
    obtain ⟨bs, w2⟩ := rp_readsAll I ds _ _ h'.2 q2 r2
    exact ⟨_, .cons w1 w2⟩
end
mutual
/-- its repr under a repr -/
theorem rp_show {prog : Program} {w : World} (I : Inv X pins σ H s) : ∀ (d : D) (v : V) (u : Value), edict d = true → d.showable = true → d.shown.length ≤ sizeLine → Rp X.K H v d → RelV v u → ∃ bs, ReadAtMost s.heap d.depth bs ∧ ReprK prog w bs s.heap d.depth u d.shown
  | .none, _, _, _, _, _, .non, r => by cases r; exact ⟨[], (fun _ h => nomatch h), by simp only [PyData.shown]; exact .of_is ReprIs.none _ _ _⟩
  | .bool b, _, _, _, _, _, .bl _, r => by cases r; exact ⟨[], (fun _ h => nomatch h), by simp only [PyData.shown]; exact .of_is (ReprIs.bool b) _ _ _⟩
  | .int i, _, _, _, hs, _, .int _, r => by obtain ⟨t, rfl⟩ := r; exact ⟨[], (fun _ h => nomatch h), by simp only [PyData.shown]; exact .of_is (ReprIs.int t (by simpa [PyData.showable] using hs)) _ _ _⟩
  | .str x, _, _, _, _, hz, .str _, r => by obtain ⟨t, rfl⟩ := r; exact ⟨[], (fun _ h => nomatch h), by simp only [PyData.shown]; exact .of_is (ReprIs.str x t (by simpa only [PyData.shown] using hz)) _ _ _⟩
  | .list ds, _, _, h, hs, hz, .lst e z q, r => by
    cases r
    obtain ⟨its, rv, ⟨o, n, ho, hc, _, hd⟩, _⟩ := I.list (SqL.of e)
    have hz2 : (listText (PyData.shownAll ds)).length ≤ sizeLine := by simpa only [PyData.shown] using hz
    obtain ⟨as, w0⟩ := rp_readsAll I ds _ its (by simpa [edict] using h) q rv
    obtain ⟨bs, b1, b2⟩ := rp_showAll (prog := prog) (w := w) I ds _ its (by simpa [edict] using h) (by simpa [PyData.showable] using hs) (fun t ht => Nat.le_trans (listText_mem_le ht) hz2) q rv
    have rd : Reads s.heap _ (.list ds) _ := .list ho hc hd w0
    have na := not_mem_of_deeper rd (by simp only [PyData.depth]; omega) b1
    refine ⟨_ :: bs, ReadAtMost.cons rd (by simp only [PyData.depth]; omega) b1, ?_⟩
    simp only [PyData.depth, PyData.shown]
    cases its with
    | nil =>
      cases w0
      simp only [PyData.shownAll, listText_nil]
      exact ReprK.listEmpty ho hc hd
    | cons x l => exact ReprK.list ho hc hd na (by simpa using b2.length_eq) fun i y z => b2.item i y (by simpa using z)
  | .tuple ds, _, _, h, hs, hz, .tup e z q, r => by
    cases r
    obtain ⟨its, rv, ⟨o, ho, hc, n, hd⟩, _⟩ := I.tuple e
    have hz2 : (tupleText (PyData.shownAll ds)).length ≤ sizeLine := by simpa only [PyData.shown] using hz
    obtain ⟨as, w0⟩ := rp_readsAll I ds _ its (by simpa [edict] using h) q rv
    obtain ⟨bs, b1, b2⟩ := rp_showAll (prog := prog) (w := w) I ds _ its (by simpa [edict] using h) (by simpa [PyData.showable] using hs) (fun t ht => Nat.le_trans (tupleText_mem_le ht) hz2) q rv
    have rd : Reads s.heap _ (.tuple ds) _ := .tuple ho hc hd w0
    have na := not_mem_of_deeper rd (by simp only [PyData.depth]; omega) b1
    refine ⟨_ :: bs, ReadAtMost.cons rd (by simp only [PyData.depth]; omega) b1, ?_⟩
    simp only [PyData.depth, PyData.shown]
    exact ReprK.tuple ho hc hd na b2
  | .dict [], _, _, _, _, _, .dct e q, r => by
    cases r
    obtain ⟨sy, o, n, h1, h2, h3⟩ := dict0_at I e q
    have rd : Reads s.heap _ (.dict []) _ := .dict h1 h2 h3 .nil .nil
    refine ⟨[_], ReadAtMost.cons rd (Nat.le_refl _) (fun _ h => nomatch h), ?_⟩
    have k := ReprK.dict (prog := prog) (w := w) (as := []) (h₀ := s.heap) (d := 0) h1 h2 h3 sy (List.not_mem_nil) .nil
    simpa [PyData.depth, PyData.depthKv, PyData.shown, PyData.shownKv] using k
  | .dict (_ :: _), _, _, h, _, _, _, _ => by simp [edict] at h
theorem rp_showAll {prog : Program} {w : World} (I : Inv X pins σ H s) : ∀ (ds : List D) (vs : List V) (us : List Value), edictAll ds = true → PyData.showableAll ds = true → (∀ t ∈ PyData.shownAll ds, t.length ≤ sizeLine) → RpAll X.K H vs ds → Vals vs us →
    ∃ bs, ReadAtMost s.heap (PyData.depthAll ds) bs ∧ ReprAllK prog w bs s.heap (PyData.depthAll ds) us (PyData.shownAll ds)
  | [], _, _, _, _, _, .nil, .nil => ⟨[], (fun _ h => nomatch h), by simp only [PyData.shownAll]; exact .nil⟩
  | d :: ds, _, _, h, hs, hz, .cons q1 q2, .cons r1 r2 => by
    have h' : edict d = true ∧ edictAll ds = true := by simpa [edictAll] using h
    have s' : d.showable = true ∧ PyData.showableAll ds = true := by simpa [PyData.showableAll] using hs
    obtain ⟨b1, m1, k1⟩ := rp_show (prog := prog) (w := w) I d _ _ h'.1 s'.1 (hz _ (by simp [PyData.shownAll])) q1 r1
    obtain ⟨b2, m2, k2⟩ := rp_showAll (prog := prog) (w := w) I ds _ _ h'.2 s'.2 (fun t ht => hz t (by simp [PyData.shownAll, ht])) q2 r2
    refine ⟨b1 ++ b2, fun b hm => ?_, ?_⟩
    · simp only [PyData.depthAll]
      rcases List.mem_append.mp hm with z | z
      · obtain ⟨d', as', x, y⟩ := m1 b z
        exact ⟨d', as', x, by omega⟩
      · obtain ⟨d', as', x, y⟩ := m2 b z
        exact ⟨d', as', x, by omega⟩
    · simp only [PyData.depthAll, PyData.shownAll]
      exact .cons ((k1.more fun b z => List.mem_append_left _ z).level_le (by omega)) (k2.more_le (fun b z => List.mem_append_right _ z) (by omega))
end
end
theorem call_reprD {k : Nat} (hr : Room k X.A) (hgd : X.A.guards = some []) : CallR X (.builtin "repr") (rReprD X.K) := by
  intro pins s σ H xs us Q I r h
  obtain ⟨x, d, rfl, hd, ok, q⟩ := h
  simp only [reprOk, Bool.and_eq_true, decide_eq_true_eq] at ok
  obtain ⟨⟨⟨ed, dep⟩, sh⟩, sz⟩ := ok
  have un := hr.un
  cases r with
  | cons r rr =>
    cases rr
    rename_i u
    have fin : ∀ (h' : Heap) (t : Tok) (tk : Nat), (∀ b o, s.heap.get? b = some o → h'.get? b = some o) → EP X pins σ Q (.str d.shown t) { s with heap := h', toks := tk } := fun h' t tk hk => ⟨.str _, H, I.kept (t' := tk) hk, ⟨_, rfl⟩, q⟩
    cases hd with
    | non => cases r; exact PySem.P.repr_of_none ⟨.str _, H, I.tok _, ⟨_, rfl⟩, q⟩
    | bl b => cases r; exact PySem.P.repr_of_bool ⟨.str _, H, I.tok _, ⟨_, rfl⟩, q⟩
    | int i =>
      obtain ⟨t, rfl⟩ := r
      exact PySem.P.repr_of_int (by simpa [PyData.showable] using sh) ⟨.str _, H, I.tok _, ⟨_, rfl⟩, q⟩
    | str z =>
      obtain ⟨t, rfl⟩ := r
      exact PySem.P.repr_of_str ⟨.str _, H, I.tok _, ⟨_, rfl⟩, q⟩ (hsz := sz)
    | lst e z w =>
      rename_i a vs ds
      cases r
      obtain ⟨its, rv, ⟨o, n, ho, hc, _, hd⟩, _⟩ := I.list (SqL.of e)
      have hz2 : (listText (PyData.shownAll ds)).length ≤ sizeLine := by simpa only [PyData.shown] using sz
      obtain ⟨as, w0⟩ := rp_readsAll I ds _ its (by simpa [edict] using ed) w rv
      obtain ⟨bs, b1, b2⟩ := rp_showAll (prog := X.prog) (w := X.w) I ds _ its (by simpa [edict] using ed) (by simpa [PyData.showable] using sh) (fun t ht => Nat.le_trans (listText_mem_le ht) hz2) w rv
      have rd : Reads s.heap (.ref a) (.list ds) _ := .list ho hc hd w0
      have na := not_mem_of_deeper rd (by simp only [PyData.depth]; omega) b1
      simp only [PyData.depth] at dep
      refine call_repr_slot (by omega) ⟨o, ho, hc⟩ F.slot_list_repr.toG ?_
      cases its with
      | nil =>
        cases w0
        refine call_list_repr_empty ⟨o, ho, hc⟩ ho hd ⟨_, _, rfl, ?_⟩
        have := fin s.heap s.toks (s.toks + 1) fun _ _ e => e
        simpa only [PyData.shown, PyData.shownAll, listText_nil] using this
      | cons x l =>
        refine call_list_reprK ho hc hd na (by simpa using b2.length_eq) (fun i y z => b2.item i y (by simpa using z)) (g := []) hgd (fun b _ => Clear.nil b) (by show X.A.units + 1 + _ < _; omega) (fun _ _ e => e) (fun h' t tk hk => ⟨_, _, rfl, ?_⟩) (hsz := hz2)
        have := fin h' t tk hk
        simpa only [PyData.shown] using this
    | tup e z w =>
      rename_i a vs ds
      cases r
      obtain ⟨its, rv, ⟨o, ho, hc, n, hd⟩, _⟩ := I.tuple e
      have hz2 : (tupleText (PyData.shownAll ds)).length ≤ sizeLine := by simpa only [PyData.shown] using sz
      obtain ⟨as, w0⟩ := rp_readsAll I ds _ its (by simpa [edict] using ed) w rv
      obtain ⟨bs, b1, b2⟩ := rp_showAll (prog := X.prog) (w := X.w) I ds _ its (by simpa [edict] using ed) (by simpa [PyData.showable] using sh) (fun t ht => Nat.le_trans (tupleText_mem_le ht) hz2) w rv
      have rd : Reads s.heap (.ref a) (.tuple ds) _ := .tuple ho hc hd w0
      have na := not_mem_of_deeper rd (by simp only [PyData.depth]; omega) b1
      simp only [PyData.depth] at dep
      refine call_repr_slot (by omega) ⟨o, ho, hc⟩ F.slot_tuple_repr (call_tuple_reprK ho hc hd na b2 (g := []) hgd (fun b _ => Clear.nil b) (by show X.A.units + 1 + _ < _; omega) (fun _ _ e => e) (fun h' t tk hk => ⟨_, _, rfl, ?_⟩) (hsz := hz2))
      have := fin h' t tk hk
      simpa only [PyData.shown] using this
    | dct e w =>
      rename_i a kvs es
      cases r
      cases es with
      | cons x l => simp [edict] at ed
      | nil =>
        obtain ⟨sy, o, n, h1, h2, h3⟩ := dict0_at I e w
        refine call_repr_slot (by omega) ⟨o, h1, h2⟩ F.slot_dict_repr (call_dict_reprK (as := []) (d := 0) h1 h2 h3 sy (List.not_mem_nil) .nil (g := []) hgd (fun b _ => Clear.nil b) (by show X.A.units + 1 + _ < _; omega) (fun _ _ e => e) (fun h' t tk hk => ⟨_, _, rfl, ?_⟩) (hsz := le_size (by decide +kernel)))
        have := fin h' t tk hk
        simpa only [PyData.shown, PyData.shownKv] using this
theorem bRepr {k : Nat} (hr : Room k X.A) (hgd : X.A.guards = some []) : CbD X (.builtin "repr") fRepr := by
  refine ⟨_, call_reprD hr hgd, ?_⟩
  intro C H xs ds R Q hC r hf kk
  match ds, hf with
  | [d], hf =>
    obtain ⟨ok, hR⟩ := hf
    cases r with
    | cons r rr =>
      cases rr
      exact ⟨_, d, rfl, r.mono hid_le, ok, kk _ hR _ H (Same.refl H) (.str _)⟩
/-! ### - of bools; in -/
def fSubB : D → D → EK → Prop
  | .int i, .int j, Q => Q (.int (i - j))
  | .bool a, .bool b, Q => Q (.int ((if a = true then 1 else 0) - (if b = true then 1 else 0)))
  | _, _, _ => False
theorem op_subB : OpR X (binaryOp .Sub) (fun x y H Q => ∃ a b : Bool, x = .bl a ∧ y = .bl b ∧ Q (.int ((if a = true then 1 else 0) - (if b = true then 1 else 0))) H) := by
  intro pins s σ H x y v u Q I rx ry h
  obtain ⟨a, b, rfl, rfl, q⟩ := h
  cases rx
  cases ry
  exact PyProof.Rows.sub_bool ⟨.int _, H, I.tok _, ⟨_, rfl⟩, q⟩
theorem oSubB : OpD X .Sub fSubB := by
  refine ⟨_, op_sub.or op_subB, ?_⟩
  intro C H x y dx dy R Q hC rx ry hf k
  match dx, dy, hf with
  | .int i, .int j, hf => cases rx; cases ry; exact .inl ⟨i, j, rfl, rfl, k _ hf _ H (Same.refl H) (.int _)⟩
  | .bool i, .bool j, hf => cases rx; cases ry; exact .inr ⟨i, j, rfl, rfl, k _ hf _ H (Same.refl H) (.int _)⟩
/-- in, with deep items of a list, too -/
def fInS (neg : Bool) : D → D → EK → Prop := fun x y Q => (∃ ys, y = .list ys ∧ SeqAt.shaped x = true ∧ SeqAt.shaped (.list ys) = true ∧ Q (.bool (if neg then !inD x ys else inD x ys))) ∨ fIn neg x y Q
theorem sim_InS (neg : Bool) {r r' : R2} (h : Sim2 K r (fIn neg)) (hr' : r' = fun x y H Q => ∃ d ds, Dp K H x d ∧ Dp K H y (.list ds) ∧ SeqAt.shaped d = true ∧ SeqAt.shaped (.list ds) = true ∧ Q (.bl (if neg then !inD d ds else inD d ds)) H) : Sim2 K (fun x y H Q => r' x y H Q ∨ r x y H Q) (fInS neg) := by
  subst hr'
  intro C H x y dx dy R Q hC rx ry hf k
  rcases hf with ⟨ys, rfl, h1, h2, hR⟩ | hf
  · exact .inl ⟨dx, ys, rp_dp dx (SeqAt.canLay_of_shaped h1) (rx.mono hid_le), rp_dp _ (SeqAt.canLay_of_shaped h2) (ry.mono hid_le), h1, h2, k _ hR _ H (Same.refl H) (.bl _)⟩
  · exact .inr (h C H x y dx dy R Q hC rx ry hf k)
theorem oInS {k : Nat} (hr : Room k X.A) : CmD X .In (fInS false) := by
  obtain ⟨r, h1, h2⟩ := (oIn (X := X)).ex
  exact ⟨_, (op_inD (by have := hr.un; omega)).or h1, sim_InS false h2 rfl⟩
theorem oNotInS {k : Nat} (hr : Room k X.A) : CmD X .NotIn (fInS true) := by
  obtain ⟨r, h1, h2⟩ := (oNotIn (X := X)).ex
  exact ⟨_, (op_notInD (by have := hr.un; omega)).or h1, sim_InS true h2 rfl⟩
/-! ### any, all -/
def fAny : List D → EK → Prop
  | [.list ds], Q => ∃ bs : List Bool, ds = bs.map PyData.bool ∧ Q (.bool (bs.any id))
  | _, _ => False
def fAll : List D → EK → Prop
  | [.list ds], Q => ∃ bs : List Bool, ds = bs.map PyData.bool ∧ Q (.bool (bs.all id))
  | _, _ => False
theorem bools_of {H : Hp} : ∀ {bs : List Bool} {vs : List V}, RpAll K H vs (bs.map PyData.bool) → vs = bs.map V.bl
  | [], _, .nil => rfl
  | b :: bs, _, .cons r t => by
    cases r
    rw [bools_of t]
    rfl
theorem bAny (hc : X.calm = true) : CbD X (.builtin "any") fAny := by
  refine ⟨_, cr_any hc, ?_⟩
  intro C H xs ds R Q hC r hf k
  match ds, hf with
  | [.list ds], ⟨bs, e, hR⟩ =>
    cases r with
    | cons r rr =>
      cases rr
      cases r with
      | lst ho hz q =>
        rw [e] at q
        have e2 := bools_of q
        subst e2
        exact ⟨_, bs, rfl, SqL.of (hid_le _ _ ho), k _ hR _ H (Same.refl H) (.bl _)⟩
theorem bAll (hc : X.calm = true) : CbD X (.builtin "all") fAll := by
  refine ⟨_, cr_all hc, ?_⟩
  intro C H xs ds R Q hC r hf k
  match ds, hf with
  | [.list ds], ⟨bs, e, hR⟩ =>
    cases r with
    | cons r rr =>
      cases rr
      cases r with
      | lst ho hz q =>
        rw [e] at q
        have e2 := bools_of q
        subst e2
        exact ⟨_, bs, rfl, SqL.of (hid_le _ _ ho), k _ hR _ H (Same.refl H) (.bl _)⟩
end
section
variable {P : Program} {w : World} {X : Cx} {pos : Pos} {a b e : Expr} {de da db : DE}
/-! ### a method of a text with one text -/
def dM1 (f : D → D → EK → Prop) (a b : DE) : DE := fun ω Q => a ω fun x => match x with
  | .str z => b ω fun y => f (.str z) y Q
  | _ => False
def fSw : D → D → EK → Prop
  | .str z, .str y, Q => Q (.bool (Txt.startswith z y))
  | _, _, _ => False
theorem e_sw {apos : Pos} (ha : PE X a (LE P w X.K da)) (hb : PE X b (LE P w X.K db)) (hs : starEach [b] X.env = [(false, eval b X.env)] := by rfl) (hbase : attributeBase a "startswith" X.env (eval a X.env) = eval a X.env := by rfl) (hline : (apos.endLine == pos.line) = true := by rfl) :
    PE X (.Call (.Attribute a "startswith" apos) [b] [] pos) (LE P w X.K (dM1 fSw da db)) := by
  refine PE.imp (pe_m1 F.slot_str_startswith F.type_str_startswith mt_startswith ha hb hs hbase hline) fun σ H Q ⟨F, A, ω, R, c, h, k⟩ => ⟨F, A, ω, _, c, h, fun x hx v H1 e1 r1 => ?_⟩
  have c1 := c.mono e1
  cases r1 with
  | str z =>
    refine ⟨⟨z, rfl⟩, F, A, ω, _, c1, hx, fun y hy u H2 e2 r2 => ?_⟩
    cases r2 with
    | str y => exact ⟨z, y, rfl, rfl, k _ hy _ H2 (e1.trans e2) (.bl _)⟩
    | _ => exact False.elim hy
  | _ => exact False.elim hx
/-! ### x, y = a, b of plain names -/
def dPar (i j : Nat) (a : DD) : DS := fun R ω => a ω fun ds => match ds with
  | [x, y] => R.nx ((ω.set i (.dat x)).set j (.dat y))
  | _ => False
theorem s_par {i j k2 : Nat} {x y : Str} {da : DD} {px py pt : Pos} {kt pt2} (hc : X.calm = true) (hN : X.N.Nodup) (hi : X.N[i]? = some x) (hj : X.N[j]? = some y) (hx : X.env.scope.names.lookup x = some .local) (hy : X.env.scope.names.lookup y = some .local) (ha : PA X [a, b] (LD P w X.K 2 da)) (hij : i ≠ j := by decide)
    (hw : swappedStores [.Tuple [.Name x px, .Name y py] kt pt] (.Tuple [a, b] k2 pt2) X.env = pure (some [x, y]) := by rfl)
    (hs : swapsWithSole [.Tuple [.Name x px, .Name y py] kt pt] (.Tuple [a, b] k2 pt2) pos.line X.env = pure false := by rfl) :
    PS X (.Assign [.Tuple [.Name x px, .Name y py] kt pt] (.Tuple [a, b] k2 pt2) pos) (LS P w X.K (dPar i j da)) := by
  refine PS.imp (ps_par hc hN hi hj hij hx hy ha hw hs) fun E σ H ⟨F, A, ω, R, c, h, l⟩ => ⟨F, A, ω, _, c, h, fun ds hd hl vs H1 e1 r => ?_⟩
  match ds, hl, hd, r with
  | [x, y], _, hd, .cons r1 (.cons r2 .nil) => exact ⟨_, _, rfl, l.nx _ hd _ H1 A (((c.mono e1).set r1).set r2)⟩
/-! ### an own list read as data -/
theorem freeze {K : PySem.W.Frag} {F : Fm} {A : List Addr} {H : Hp} {σ : L2.St} {ω : List SV} {i : Nat} {ds : List D} (c : Ctx P w K F A H σ ω) (h : ω[i]? = some (.own ds)) : ∃ A', (∀ a ∈ A', a ∈ A) ∧ Ctx P w K F A' H σ (ω.set i (.dat (.list ds))) := by
  obtain ⟨p, xs, h1, h2, h3, h4, h5⟩ := c.sl i _ h
  have hi : i < ω.length := (List.getElem?_eq_some_iff.mp h).1
  refine ⟨A.filter (· ≠ p), fun a ha => (List.mem_filter.mp ha).1, c.same, fun a ha => c.new a (List.mem_filter.mp ha).1, fun a ha => c.held a (List.mem_filter.mp ha).1, c.old, by simpa using c.len, fun j s hj => ?_, fun j k es fs a hjk e1 e2 e3 e4 => ?_⟩
  · have sub : ∀ b ∈ A.filter (· ≠ p) ++ F.B, b ∈ A ++ F.B := fun b hb => by
      rcases List.mem_append.mp hb with z | z
      · exact List.mem_append_left _ (List.mem_filter.mp z).1
      · exact List.mem_append_right _ z
    by_cases e : i = j
    · subst e
      rw [List.getElem?_set_self hi] at hj
      cases hj
      have np : p ∉ A.filter (· ≠ p) ++ F.B := fun z => by
        rcases List.mem_append.mp z with z | z
        · simpa using (List.mem_filter.mp z).2
        · exact c.old p z (c.new p h2)
      exact ⟨_, h1, .lst (hid_of np h3) h4 (h5.mono (hid_sub sub))⟩
    · rw [List.getElem?_set_ne e] at hj
      have q := c.sl j s hj
      cases s with
      | un => exact q
      | dat d => obtain ⟨v, q1, q2⟩ := q; exact ⟨v, q1, q2.mono (hid_sub sub)⟩
      | own es =>
        obtain ⟨a, ys, q1, q2, q3, q4, q5⟩ := q
        refine ⟨a, ys, q1, List.mem_filter.mpr ⟨q2, ?_⟩, q3, q4, q5.mono (hid_sub sub)⟩
        refine decide_eq_true (p := ¬ a = p) fun z => ?_
        subst z
        exact c.dist i j ds es a e h hj h1 q1
      | tape => exact q
      | scr ns => exact q
  · have n1 : i ≠ j := fun z => by
      subst z
      rw [List.getElem?_set_self hi] at e1
      cases e1
    have n2 : i ≠ k := fun z => by
      subst z
      rw [List.getElem?_set_self hi] at e2
      cases e2
    rw [List.getElem?_set_ne n1] at e1
    rw [List.getElem?_set_ne n2] at e2
    exact c.dist j k es fs a hjk e1 e2 e3 e4
/-- from here on the list is data -/
def dFrz (i : Nat) (b : DS) : DS := fun R ω => match ω[i]? with
  | some (.own ds) => b R (ω.set i (.dat (.list ds)))
  | some (.dat _) => b R ω
  | _ => False
theorem s_frz {s : Stmt} (i : Nat) {d : DS} (h : PS X s (LS P w X.K d)) : PS X s (LS P w X.K (dFrz i d)) := by
  refine PS.imp h fun E σ H ⟨F, A, ω, R, c, h, l⟩ => ?_
  unfold dFrz at h
  split at h
  · rename_i ds hi
    obtain ⟨A', _, c'⟩ := freeze c hi
    exact ⟨F, A', _, R, c', h, l⟩
  · exact ⟨F, A, ω, R, c, h, l⟩
  · exact h.elim
/-- an expression reads the list; what it gives does not hold it -/
def dPeek (i : Nat) (a : DE) : DE := fun ω Q => match ω[i]? with
  | some (.own ds) => a (ω.set i (.dat (.list ds))) fun x => plainD x = true ∧ Q x
  | some (.dat _) => a ω Q
  | _ => False
theorem rp_plain {K : PySem.W.Frag} {H H' : Hp} {v : V} {d : D} (r : Rp K H v d) (h : plainD d = true) : Rp K H' v d := by
  cases r with
  | non => exact .non
  | bl b => exact .bl b
  | int b => exact .int b
  | str b => exact .str b
  | _ => exact absurd h Bool.false_ne_true
theorem e_peek (i : Nat) (h : PE X e (LE P w X.K de)) : PE X e (LE P w X.K (dPeek i de)) := by
  refine PE.imp h fun σ H Q ⟨F, A, ω, R, c, h, k⟩ => ?_
  unfold dPeek at h
  split at h
  · rename_i ds hi
    obtain ⟨A', _, c'⟩ := freeze c hi
    exact ⟨F, A', _, _, c', h, fun d hd v H1 e1 r1 => k d hd.2 v H1 e1 (rp_plain r1 hd.1)⟩
  · exact ⟨F, A, ω, R, c, h, k⟩
  · exact h.elim
def dPeekT (i : Nat) (a : DT) : DT := fun ω Q => match ω[i]? with
  | some (.own ds) => a (ω.set i (.dat (.list ds))) Q
  | some (.dat _) => a ω Q
  | _ => False
theorem t_peek (i : Nat) {dt : DT} (h : PT X e (LT P w X.K dt)) : PT X e (LT P w X.K (dPeekT i dt)) := by
  refine PT.imp h fun σ H Q ⟨F, A, ω, R, c, h, k⟩ => ?_
  unfold dPeekT at h
  split at h
  · rename_i ds hi
    obtain ⟨A', _, c'⟩ := freeze c hi
    exact ⟨F, A', _, _, c', h, k⟩
  · exact ⟨F, A, ω, R, c, h, k⟩
  · exact h.elim
end
/-! ### how long a text of data may be -/
structure RB (k n : Nat) (d : D) : Prop where
  lay : d.canLay0 = true
  dep : d.depth ≤ k
  sh : d.showable = true
  len : d.shown.length ≤ n
theorem RB.ok {k n : Nat} {d : D} (r : RB k n d) (hk : k ≤ 64) (hn : n ≤ 16777216) : reprOk d = true := by
  have h1 := edict_lay d r.lay
  have h3 : d.depth ≤ 64 := Nat.le_trans r.dep hk
  have h2 : d.shown.length ≤ sizeLine := le_size (Nat.le_trans r.len hn)
  simp [reprOk, h1, h3, r.sh, h2]
theorem RB.shaped {k n : Nat} {d : D} (r : RB k n d) (hk : k ≤ 64) : SeqAt.shaped d = true := by
  unfold SeqAt.shaped
  rw [r.lay]
  simpa using Nat.le_trans r.dep hk
theorem RB.mono {k n k' n' : Nat} {d : D} (r : RB k n d) (hk : k ≤ k') (hn : n ≤ n') : RB k' n' d := ⟨r.lay, Nat.le_trans r.dep hk, r.sh, Nat.le_trans r.len hn⟩
theorem RB.non : RB 0 4 .none := ⟨rfl, by simp [PyData.depth], rfl, by decide +kernel⟩
theorem RB.bl (b : Bool) : RB 0 5 (.bool b) := ⟨rfl, by simp [PyData.depth], rfl, by cases b <;> decide +kernel⟩
theorem RB.int {i : Int} {k : Nat} (hk : 0 < k) (hk' : k ≤ 1920) (h : i.natAbs.log2 < k) : RB 0 (k + 1) (.int i) :=
  ⟨rfl, by simp [PyData.depth], by simp [PyData.showable]; omega, by
    show (Str.ofString (toString i)).length ≤ k + 1
    rw [PySem.ofString_length]
    exact int_text_length_le hk h⟩
theorem RB.str {n : Nat} {s : Str} (h : strB n s) : RB 0 (10 * n + 2) (.str s) := by
  refine ⟨h.so, by simp [PyData.depth], rfl, ?_⟩
  have h1 : ∀ c ∈ s.cps.toList, c < 16 ^ 8 := fun c hc => by
    have := h.at c hc
    omega
  have := PySem.StrLaws.reprText_len s h1
  have h2 := h.2
  show (reprText s).length ≤ _
  omega
theorem RB.all {k n : Nat} : ∀ {xs : List D}, (∀ x ∈ xs, RB k n x) → PyData.canLayAll0 xs = true ∧ PyData.depthAll xs ≤ k ∧ PyData.showableAll xs = true ∧ ((PyData.shownAll xs).map (·.length)).sum ≤ xs.length * n ∧ (PyData.shownAll xs).length = xs.length
  | [], _ => ⟨rfl, by simp [PyData.depthAll], rfl, by simp [PyData.shownAll], by simp [PyData.shownAll]⟩
  | x :: xs, h => by
    obtain ⟨h1, h2, h3, h4, h5⟩ := RB.all (xs := xs) fun y hy => h y (List.mem_cons_of_mem _ hy)
    have hx := h x List.mem_cons_self
    refine ⟨by simp [PyData.canLayAll0, hx.lay, h1], ?_, by simp [PyData.showableAll, hx.sh, h3], ?_, by simp [PyData.shownAll, h5]⟩
    · have := hx.dep
      simp only [PyData.depthAll]
      omega
    · have := hx.len
      simp only [PyData.shownAll, List.map_cons, List.sum_cons, List.length_cons]
      rw [Nat.add_mul]
      omega
theorem RB.tup {k n m : Nat} {xs : List D} (h : ∀ x ∈ xs, RB k n x) (hm : xs.length ≤ m) : RB (k + 1) (m * (n + 2) + 3) (.tuple xs) := by
  obtain ⟨h1, h2, h3, h4, h5⟩ := RB.all h
  have hl := tupleText_len_le (PyData.shownAll xs)
  rw [h5] at hl
  have e : xs.length * n + 2 * xs.length = xs.length * (n + 2) := by rw [Nat.mul_add]; omega
  have e2 : xs.length * (n + 2) ≤ m * (n + 2) := Nat.mul_le_mul_right _ hm
  refine ⟨by simpa [PyData.canLay0] using h1, by simp only [PyData.depth]; omega, by simpa [PyData.showable] using h3, ?_⟩
  show (tupleText (PyData.shownAll xs)).length ≤ _
  omega
theorem RB.lst {k n m : Nat} {xs : List D} (h : ∀ x ∈ xs, RB k n x) (hm : xs.length ≤ m) : RB (k + 1) (m * (n + 2) + 3) (.list xs) := by
  obtain ⟨h1, h2, h3, h4, h5⟩ := RB.all h
  have hl := listText_len_le (PyData.shownAll xs)
  rw [h5] at hl
  have e : xs.length * n + 2 * xs.length = xs.length * (n + 2) := by rw [Nat.mul_add]; omega
  have e2 : xs.length * (n + 2) ≤ m * (n + 2) := Nat.mul_le_mul_right _ hm
  refine ⟨by simpa [PyData.canLay0] using h1, by simp only [PyData.depth]; omega, by simpa [PyData.showable] using h3, ?_⟩
  show (listText (PyData.shownAll xs)).length ≤ _
  omega
end DL
/-! DL: a, *b = a tuple. -/
namespace DL
open PySem PySem.Spec PyProof.Rows L2
section
variable {prog : Program} {w : World} {A : Around} {E : Value → Shared → Prop} {s : Shared}
theorem star_items {t : Addr} {items : Array Value} {n : Nat} {Q : List Value → Shared → Prop} (hh : A.handled = none) (ht : IsTup s.heap t items) (hn : n ≤ items.size) (hz : items.size ≤ sizeLine)
    (hQ : ∀ (h' : Heap) (tk : Nat) (D : Addr), (∀ b o, s.heap.get? b = some o → h'.get? b = some o) → s.heap.get? D = none → h'.get? D = some { cls := .type "list", data := .seq (items.toList.drop n).toArray } → Q (items.toList.take n ++ [.ref D]) { s with heap := h', toks := tk }) :
    wpAny (model prog w) A (unpackItems (.ref t) (n + 1) (some n)) Q E s := by
  have apart : t ≠ s.heap.objs.size := by obtain ⟨o, ho, _⟩ := ht; exact Nat.ne_of_lt (Heap.lt_size ho)
  unfold unpackItems notIterableAtAll
  refine wpAny_bind (wpAny_bind (wpAny_specialOf ht.typeIs slot_tuple_iter.lookup (wpAny_pure ?_)))
  simp only [Bool.false_eq_true, if_false]
  refine wpAny_bind (wpAny_holding (iter_tuple ht (wpAny_bind (wpAny_holding (draw_tuple apart n 0 _ _ ⟨_, Heap.get?_push_size _ rfl, rfl, rfl⟩ (ht.push _) (by omega) fun h1 it1 sb1 => ?_)))))
  have t1 : IsTup h1 t items := (ht.push _).extBut sb1.extBut apart
  rw [Nat.zero_add] at it1
  rw [List.drop_zero]
  have len1 : (items.toList.take n).length = n := by rw [List.length_take, Array.length_toList]; omega
  rw [if_neg (show ¬ ((items.toList.take n).length < n) by omega)]
  have li : s.heap.objs.size < h1.objs.size := by obtain ⟨o, z, _⟩ := it1; exact Heap.lt_size z
  have lt : t < h1.objs.size := by obtain ⟨o, z, _⟩ := t1; exact Heap.lt_size z
  refine wpAny_bind (wpAny_holding (PySem.W.kun_collect (s := { s with heap := h1 }) (T := "tuple_iterator") (.inr (.inr (.inr rfl))) (Walks.tuple (A := A.in1) hh s.heap.objs.size t apart items) (fun j u st => st.1.typeIs) hn ⟨it1, t1⟩ li lt (fun h2 tk k2 => ?_) hz))
  have e0 : n + 1 - 1 - n = 0 := by omega
  rw [e0, if_neg (Nat.not_lt_zero _), Nat.sub_zero, List.take_length, List.drop_length]
  have keep2 : ∀ b o, s.heap.get? b = some o → h2.get? b = some o := fun b o e => k2 b o (Nat.ne_of_lt (Heap.lt_size e)) (sb1.extBut b o (Nat.ne_of_lt (Heap.lt_size e)) (Heap.get?_push_of_some _ e))
  have no2 : s.heap.get? h2.objs.size = none := by
    cases z : s.heap.get? h2.objs.size with
    | none => rfl
    | some ob => exact absurd (Heap.lt_size (keep2 _ _ z)) (Nat.lt_irrefl _)
  refine wpAny_bind (wpAny_newList ?_ (by rw [List.length_drop, Array.length_toList]; omega))
  refine wpAny_pure ?_
  rw [List.append_nil]
  exact hQ _ tk h2.objs.size (fun b o e => Heap.get?_push_of_some _ (keep2 b o e)) no2 (Heap.get?_push_size _ rfl)
end
theorem obj_there {P : Program} {w : World} {H : Hp} {h : Heap} {a : Addr} : ∀ {o : HO}, ObjOk P w H h a o → ∃ u, h.get? a = some u
  | .lst xs, ⟨_, _, _, _, e⟩ => ⟨_, e⟩
  | .tup xs, ⟨_, _, _, p⟩ => by obtain ⟨o, e, _⟩ := p; exact ⟨_, e⟩
  | .dK kvs, ⟨_, _, _, _, o, _, _, e, _⟩ => ⟨_, e⟩
  | .dT kvs, ⟨_, _, _, _, o, _, _, e, _⟩ => ⟨_, e⟩
  | .set S n, ⟨o, _, _, _, e, _⟩ => ⟨_, e⟩
  | .ins C dx fs, ⟨_, _, _, e, _⟩ => ⟨_, e⟩
  | .own y, ⟨_, e⟩ => ⟨_, e⟩
  | .xd fs, ⟨_, ⟨_, _, _, e, _⟩, _⟩ => ⟨_, e⟩
  | .rng lo hi, ⟨_, _, _, e⟩ => ⟨_, e⟩
  | .frz ob u, ⟨e, _⟩ => ⟨_, e⟩
  | .tbl ps, x => ⟨_, (show h.get? a = some _ from x)⟩
  | .met f y, x => ⟨_, (show h.get? a = some _ from x)⟩
  | .ext φ, ⟨_, ⟨_, e⟩, _⟩ => ⟨_, e⟩
theorem inv_new {X : Cx} {pins : List (Addr × Obj)} {σ : L2.St} {H : Hp} {s : Shared} {h' : Heap} {a : Addr} {o : HO} {t' : Nat} (I : Inv X pins σ H s) (k : ∀ b u, s.heap.get? b = some u → h'.get? b = some u) (hp : s.heap.get? a = none)
    (new : ObjOk X.prog X.w (upd H a o) h' a o) : H a = none ∧ Inv X pins σ (upd H a o) { s with heap := h', toks := t' } := by
  have hn : H a = none := by
    cases z : H a with
    | none => rfl
    | some u =>
      obtain ⟨ob, e⟩ := obj_there (I.hok a u z)
      rw [hp] at e
      cases e
  have ne : ∀ {b : Addr} {u : Obj}, s.heap.get? b = some u → b ≠ a := fun {b u} q z => by rw [z, hp] at q; cases q
  refine ⟨hn, I.un ⟨fun b u q _ _ _ => k b u q, fun b u q _ _ _ => ⟨u.slots, k b u q⟩, fun b u q n _ => by rw [upd_ne (ne q)]; exact n, fun b u q _ => ⟨u, k b u q⟩, fun b xs q => ?_, fun b u xs q => ?_, fun b ps q => ⟨#[], ?_⟩⟩ fun b u e => ?_⟩
  · rw [upd_ne (ne_of_none q hn)]; exact q
  · rw [upd_ne (ne_of_none q hn)]; exact q
  · rw [upd_ne (ne_of_none q hn), q]; simp
  · by_cases hb : b = a
    · subst hb; rw [upd_same] at e; cases e; exact new
    · rw [upd_ne hb] at e
      exact (I.hok b u e).stay (fun c v _ q => k c v q) (fun c q => by rw [upd_ne (ne_of_none q hn)]; exact q) fun c xs q => by rw [upd_ne (ne_of_none q hn)]; exact q
section
variable {P : Program} {w : World} {X : Cx} {pos : Pos}
/-- (a, .., *b) = a tuple: b is a new list of what is left -/
def gStar (K : PySem.W.Frag) (n : Nat) (t : TGs) : TG := fun v σ H Q => ∃ a xs, v = .ref a ∧ SqT K H a xs ∧ n ≤ xs.length ∧ ∀ p, H p = none → t (xs.take n ++ [.ref p]) σ (upd H p (.lst (xs.drop n))) Q
theorem pg_star {es fs : List Expr} {k n : Nat} {t : TGs} (hc : X.calm = true) (h : PGs X fs t) (hl : (assignEach es X.env).length = n + 1 := by rfl) (hst : (assignEach es X.env).findIdx? (·.1) = some n := by rfl) (hm : (assignEach es X.env).map (·.2) = (assignEach fs X.env).map (·.2) := by rfl) :
    PG X (.Tuple es k pos) (gStar X.K n t) := by
  refine ⟨fun pins s σ H v u Q I r hw => ?_⟩
  obtain ⟨a, xs, rfl, hq, hn, hw⟩ := hw
  cases r
  obtain ⟨its, rv, ht, hz⟩ := I.tuple hq
  rw [assign_Tuple]
  refine wpAny_bind (wpAny_standAt ?_)
  unfold unpack
  rw [hl, hst, hm]
  have le : n ≤ its.toArray.size := by rw [List.size_toArray, ← rv.length]; exact hn
  refine wpAny_bind (wpAny_holding (star_items (I.ok.hd hc) ht le (by rw [List.size_toArray, ← rv.length]; exact hz) fun h' tk D keep hD e => ?_))
  obtain ⟨n0, I1⟩ := inv_new (t' := tk) (o := .lst (xs.drop n)) I keep hD ⟨by rw [List.length_drop]; omega, its.drop n, 0, rv.drop n, by simpa using e⟩
  exact h.run pins _ σ _ (xs.take n ++ [.ref D]) _ Q I1 (by simpa using (rv.take n).append (.cons (by rfl) .nil)) (hw D n0)
def gSt (gs : List D → List SV → (List SV → Prop) → Prop) (n : Nat) : DG := fun d ω Q => match d with
  | .tuple ds => n ≤ ds.length ∧ gs (ds.take n ++ [.list (ds.drop n)]) ω Q
  | _ => False
theorem RpAll.tak {K : PySem.W.Frag} {H : Hp} : ∀ {vs : List V} {ds : List D} (n : Nat), RpAll K H vs ds → RpAll K H (vs.take n) (ds.take n)
  | _, _, 0, _ => .nil
  | _, _, _ + 1, .nil => .nil
  | _, _, n + 1, .cons r t => .cons r (RpAll.tak n t)
theorem RpAll.app {K : PySem.W.Frag} {H : Hp} : ∀ {vs us : List V} {ds es : List D}, RpAll K H vs ds → RpAll K H us es → RpAll K H (vs ++ us) (ds ++ es)
  | _, _, _, _, .nil, h => h
  | _, _, _, _, .cons r t, h => .cons r (RpAll.app t h)
theorem s_star {vs : List Nat} {es fs : List Expr} {e : Expr} {k n : Nat} {de : DE} {tpos : Pos} {gs : List D → List SV → (List SV → Prop) → Prop} (hc : X.calm = true) (he : PE X e (LE P w X.K de)) (h : PGs X fs (LGs P w X.K vs gs)) (hl : (assignEach es X.env).length = n + 1 := by rfl) (hst : (assignEach es X.env).findIdx? (·.1) = some n := by rfl) (hm : (assignEach es X.env).map (·.2) = (assignEach fs X.env).map (·.2) := by rfl)
    (hs : swapsWithSole [.Tuple es k tpos] e pos.line X.env = pure false := by rfl) (hw : swappedStores [.Tuple es k tpos] e X.env = pure none := by rfl) (h1 : (assignEach [.Tuple es k tpos] X.env).map (·.2) = [assign (.Tuple es k tpos) X.env] := by rfl) :
    PS X (.Assign [.Tuple es k tpos] e pos) (LS P w X.K (dAsg (gSt gs n) de)) :=
  PS.imp (ps_asg he (pg_star hc h hl hst hm) hs hw h1) fun E σ H ⟨F, A, ω, R, c, h, l⟩ => ⟨F, A, ω, _, c, h, fun d hd v H1 e1 r1 => by
    have c1 := c.mono e1
    cases r1 with
    | tup e z q =>
      rename_i a xs ds
      refine ⟨_, _, rfl, SqT.out e, by rw [q.length]; exact hd.1, fun p hp => ?_⟩
      have e2 : Same H1 (upd H1 p (.lst (List.drop n xs))) := same_new hp
      have q1 := q.mono (hid_mono (A := A ++ F.B) e2)
      exact ⟨F, A, ω, _, R.nx, c1.mono e2, (q1.tak n).app (.cons (.lst (hid_of (c1.fresh hp) upd_same) (by rw [List.length_drop]; omega) (q1.drop n)) .nil), hd.2, fun ω' h' σ' _ c' => l.nx ω' h' σ' _ A c'⟩
    | _ => exact False.elim hd⟩
end
/-- what a def promises for itself one call deeper -/
def mrec (m : Nat → List SV → EK → Prop) : Nat → List SV → EK → Prop
  | 0 => fun _ _ => False
  | n + 1 => m n
theorem calG_false {P : Program} {w : World} {K : PySem.W.Frag} {mg : Str → Option Value} {base : Heap} {x : Str} {st : Stmt} {ps : List Str} {k n : Nat} (Df : DefAt K mg x st) (b : BindsN x st ps) : CalG P w K mg base k x (spD P w K n (fun _ _ => False)) := by
  obtain ⟨f, fd, F, hm⟩ := Df.ex
  exact ⟨f, fd, ps, ⟨fun vs H Q E ⟨_, _, _, _, _, _, z, _⟩ => z.elim, fun A o s H ar us vs Q E _ _ _ _ _ ⟨_, _, _, _, _, _, z, _⟩ => z.elim⟩, hm, F.kp, F.binds b⟩
section
variable {Q : EK} {i j : Int} {b c : Bool} {s t : Str} {x y : D} {xs ys : List D} {ω : List SV} {R : DEnds}
@[simp] theorem x_subII : fSubB (.int i) (.int j) Q = Q (.int (i - j)) := rfl
@[simp] theorem x_subBB : fSubB (.bool b) (.bool c) Q = Q (.int ((if b = true then 1 else 0) - (if c = true then 1 else 0))) := rfl
@[simp] theorem x_repr : fRepr [x] Q = (reprOk x = true ∧ Q (.str x.shown)) := rfl
@[simp] theorem x_sw : fSw (.str s) (.str t) Q = Q (.bool (Txt.startswith s t)) := rfl
@[simp] theorem x_M1 (f : D → D → EK → Prop) (a e : DE) : dM1 f a e ω Q = a ω fun x => match x with
  | .str z => e ω fun y => f (.str z) y Q
  | _ => False := rfl
@[simp] theorem x_par (i j : Nat) (a : DD) : dPar i j a R ω = a ω fun ds => match ds with
  | [x, y] => R.nx ((ω.set i (.dat x)).set j (.dat y))
  | _ => False := rfl
@[simp] theorem x_gSt1 (gs : List D → List SV → (List SV → Prop) → Prop) (Qn : List SV → Prop) : gSt gs 1 (.tuple (x :: xs)) ω Qn = gs [x, .list xs] ω Qn := by
  show (1 ≤ (x :: xs).length ∧ _) = _
  simp
@[simp] theorem x_gSt3 {x1 x2 : D} (gs : List D → List SV → (List SV → Prop) → Prop) (Qn : List SV → Prop) : gSt gs 3 (.tuple (x :: x1 :: x2 :: xs)) ω Qn = gs [x, x1, x2, .list xs] ω Qn := by
  show (3 ≤ (x :: x1 :: x2 :: xs).length ∧ _) = _
  simp
end
section
variable {Q : EK} {QB : Bool → Prop} {l : List SV} {a0 a1 a2 a3 a4 a5 a6 a7 a8 a9 a10 a11 : SV} {d : D} {ds : List D} {R : DEnds}
@[simp] theorem x_fo0 (b : DS) : dFrz 0 b R (.own ds :: l) = b R (.dat (.list ds) :: l) := rfl
@[simp] theorem x_fd0 (b : DS) : dFrz 0 b R (.dat d :: l) = b R (.dat d :: l) := rfl
@[simp] theorem x_po0 (a : DE) : dPeek 0 a (.own ds :: l) Q = a (.dat (.list ds) :: l) fun x => plainD x = true ∧ Q x := rfl
@[simp] theorem x_pt0 (a : DT) : dPeekT 0 a (.own ds :: l) QB = a (.dat (.list ds) :: l) QB := rfl
@[simp] theorem x_fo1 (b : DS) : dFrz 1 b R (a0 :: .own ds :: l) = b R (a0 :: .dat (.list ds) :: l) := rfl
@[simp] theorem x_fd1 (b : DS) : dFrz 1 b R (a0 :: .dat d :: l) = b R (a0 :: .dat d :: l) := rfl
@[simp] theorem x_po1 (a : DE) : dPeek 1 a (a0 :: .own ds :: l) Q = a (a0 :: .dat (.list ds) :: l) fun x => plainD x = true ∧ Q x := rfl
@[simp] theorem x_pt1 (a : DT) : dPeekT 1 a (a0 :: .own ds :: l) QB = a (a0 :: .dat (.list ds) :: l) QB := rfl
@[simp] theorem x_fo2 (b : DS) : dFrz 2 b R (a0 :: a1 :: .own ds :: l) = b R (a0 :: a1 :: .dat (.list ds) :: l) := rfl
@[simp] theorem x_fd2 (b : DS) : dFrz 2 b R (a0 :: a1 :: .dat d :: l) = b R (a0 :: a1 :: .dat d :: l) := rfl
@[simp] theorem x_po2 (a : DE) : dPeek 2 a (a0 :: a1 :: .own ds :: l) Q = a (a0 :: a1 :: .dat (.list ds) :: l) fun x => plainD x = true ∧ Q x := rfl
@[simp] theorem x_pt2 (a : DT) : dPeekT 2 a (a0 :: a1 :: .own ds :: l) QB = a (a0 :: a1 :: .dat (.list ds) :: l) QB := rfl
@[simp] theorem x_fo3 (b : DS) : dFrz 3 b R (a0 :: a1 :: a2 :: .own ds :: l) = b R (a0 :: a1 :: a2 :: .dat (.list ds) :: l) := rfl
@[simp] theorem x_fd3 (b : DS) : dFrz 3 b R (a0 :: a1 :: a2 :: .dat d :: l) = b R (a0 :: a1 :: a2 :: .dat d :: l) := rfl
@[simp] theorem x_po3 (a : DE) : dPeek 3 a (a0 :: a1 :: a2 :: .own ds :: l) Q = a (a0 :: a1 :: a2 :: .dat (.list ds) :: l) fun x => plainD x = true ∧ Q x := rfl
@[simp] theorem x_pt3 (a : DT) : dPeekT 3 a (a0 :: a1 :: a2 :: .own ds :: l) QB = a (a0 :: a1 :: a2 :: .dat (.list ds) :: l) QB := rfl
@[simp] theorem x_fo4 (b : DS) : dFrz 4 b R (a0 :: a1 :: a2 :: a3 :: .own ds :: l) = b R (a0 :: a1 :: a2 :: a3 :: .dat (.list ds) :: l) := rfl
@[simp] theorem x_fd4 (b : DS) : dFrz 4 b R (a0 :: a1 :: a2 :: a3 :: .dat d :: l) = b R (a0 :: a1 :: a2 :: a3 :: .dat d :: l) := rfl
@[simp] theorem x_po4 (a : DE) : dPeek 4 a (a0 :: a1 :: a2 :: a3 :: .own ds :: l) Q = a (a0 :: a1 :: a2 :: a3 :: .dat (.list ds) :: l) fun x => plainD x = true ∧ Q x := rfl
@[simp] theorem x_pt4 (a : DT) : dPeekT 4 a (a0 :: a1 :: a2 :: a3 :: .own ds :: l) QB = a (a0 :: a1 :: a2 :: a3 :: .dat (.list ds) :: l) QB := rfl
@[simp] theorem x_fo5 (b : DS) : dFrz 5 b R (a0 :: a1 :: a2 :: a3 :: a4 :: .own ds :: l) = b R (a0 :: a1 :: a2 :: a3 :: a4 :: .dat (.list ds) :: l) := rfl
@[simp] theorem x_fd5 (b : DS) : dFrz 5 b R (a0 :: a1 :: a2 :: a3 :: a4 :: .dat d :: l) = b R (a0 :: a1 :: a2 :: a3 :: a4 :: .dat d :: l) := rfl
@[simp] theorem x_po5 (a : DE) : dPeek 5 a (a0 :: a1 :: a2 :: a3 :: a4 :: .own ds :: l) Q = a (a0 :: a1 :: a2 :: a3 :: a4 :: .dat (.list ds) :: l) fun x => plainD x = true ∧ Q x := rfl
@[simp] theorem x_pt5 (a : DT) : dPeekT 5 a (a0 :: a1 :: a2 :: a3 :: a4 :: .own ds :: l) QB = a (a0 :: a1 :: a2 :: a3 :: a4 :: .dat (.list ds) :: l) QB := rfl
@[simp] theorem x_fo6 (b : DS) : dFrz 6 b R (a0 :: a1 :: a2 :: a3 :: a4 :: a5 :: .own ds :: l) = b R (a0 :: a1 :: a2 :: a3 :: a4 :: a5 :: .dat (.list ds) :: l) := rfl
@[simp] theorem x_fd6 (b : DS) : dFrz 6 b R (a0 :: a1 :: a2 :: a3 :: a4 :: a5 :: .dat d :: l) = b R (a0 :: a1 :: a2 :: a3 :: a4 :: a5 :: .dat d :: l) := rfl
@[simp] theorem x_po6 (a : DE) : dPeek 6 a (a0 :: a1 :: a2 :: a3 :: a4 :: a5 :: .own ds :: l) Q = a (a0 :: a1 :: a2 :: a3 :: a4 :: a5 :: .dat (.list ds) :: l) fun x => plainD x = true ∧ Q x := rfl
@[simp] theorem x_pt6 (a : DT) : dPeekT 6 a (a0 :: a1 :: a2 :: a3 :: a4 :: a5 :: .own ds :: l) QB = a (a0 :: a1 :: a2 :: a3 :: a4 :: a5 :: .dat (.list ds) :: l) QB := rfl
@[simp] theorem x_fo7 (b : DS) : dFrz 7 b R (a0 :: a1 :: a2 :: a3 :: a4 :: a5 :: a6 :: .own ds :: l) = b R (a0 :: a1 :: a2 :: a3 :: a4 :: a5 :: a6 :: .dat (.list ds) :: l) := rfl
@[simp] theorem x_fd7 (b : DS) : dFrz 7 b R (a0 :: a1 :: a2 :: a3 :: a4 :: a5 :: a6 :: .dat d :: l) = b R (a0 :: a1 :: a2 :: a3 :: a4 :: a5 :: a6 :: .dat d :: l) := rfl
@[simp] theorem x_po7 (a : DE) : dPeek 7 a (a0 :: a1 :: a2 :: a3 :: a4 :: a5 :: a6 :: .own ds :: l) Q = a (a0 :: a1 :: a2 :: a3 :: a4 :: a5 :: a6 :: .dat (.list ds) :: l) fun x => plainD x = true ∧ Q x := rfl
@[simp] theorem x_pt7 (a : DT) : dPeekT 7 a (a0 :: a1 :: a2 :: a3 :: a4 :: a5 :: a6 :: .own ds :: l) QB = a (a0 :: a1 :: a2 :: a3 :: a4 :: a5 :: a6 :: .dat (.list ds) :: l) QB := rfl
@[simp] theorem x_fo8 (b : DS) : dFrz 8 b R (a0 :: a1 :: a2 :: a3 :: a4 :: a5 :: a6 :: a7 :: .own ds :: l) = b R (a0 :: a1 :: a2 :: a3 :: a4 :: a5 :: a6 :: a7 :: .dat (.list ds) :: l) := rfl
@[simp] theorem x_fd8 (b : DS) : dFrz 8 b R (a0 :: a1 :: a2 :: a3 :: a4 :: a5 :: a6 :: a7 :: .dat d :: l) = b R (a0 :: a1 :: a2 :: a3 :: a4 :: a5 :: a6 :: a7 :: .dat d :: l) := rfl
@[simp] theorem x_po8 (a : DE) : dPeek 8 a (a0 :: a1 :: a2 :: a3 :: a4 :: a5 :: a6 :: a7 :: .own ds :: l) Q = a (a0 :: a1 :: a2 :: a3 :: a4 :: a5 :: a6 :: a7 :: .dat (.list ds) :: l) fun x => plainD x = true ∧ Q x := rfl
@[simp] theorem x_pt8 (a : DT) : dPeekT 8 a (a0 :: a1 :: a2 :: a3 :: a4 :: a5 :: a6 :: a7 :: .own ds :: l) QB = a (a0 :: a1 :: a2 :: a3 :: a4 :: a5 :: a6 :: a7 :: .dat (.list ds) :: l) QB := rfl
@[simp] theorem x_fo9 (b : DS) : dFrz 9 b R (a0 :: a1 :: a2 :: a3 :: a4 :: a5 :: a6 :: a7 :: a8 :: .own ds :: l) = b R (a0 :: a1 :: a2 :: a3 :: a4 :: a5 :: a6 :: a7 :: a8 :: .dat (.list ds) :: l) := rfl
@[simp] theorem x_fd9 (b : DS) : dFrz 9 b R (a0 :: a1 :: a2 :: a3 :: a4 :: a5 :: a6 :: a7 :: a8 :: .dat d :: l) = b R (a0 :: a1 :: a2 :: a3 :: a4 :: a5 :: a6 :: a7 :: a8 :: .dat d :: l) := rfl
@[simp] theorem x_po9 (a : DE) : dPeek 9 a (a0 :: a1 :: a2 :: a3 :: a4 :: a5 :: a6 :: a7 :: a8 :: .own ds :: l) Q = a (a0 :: a1 :: a2 :: a3 :: a4 :: a5 :: a6 :: a7 :: a8 :: .dat (.list ds) :: l) fun x => plainD x = true ∧ Q x := rfl
@[simp] theorem x_pt9 (a : DT) : dPeekT 9 a (a0 :: a1 :: a2 :: a3 :: a4 :: a5 :: a6 :: a7 :: a8 :: .own ds :: l) QB = a (a0 :: a1 :: a2 :: a3 :: a4 :: a5 :: a6 :: a7 :: a8 :: .dat (.list ds) :: l) QB := rfl
@[simp] theorem x_fo10 (b : DS) : dFrz 10 b R (a0 :: a1 :: a2 :: a3 :: a4 :: a5 :: a6 :: a7 :: a8 :: a9 :: .own ds :: l) = b R (a0 :: a1 :: a2 :: a3 :: a4 :: a5 :: a6 :: a7 :: a8 :: a9 :: .dat (.list ds) :: l) := rfl
@[simp] theorem x_fd10 (b : DS) : dFrz 10 b R (a0 :: a1 :: a2 :: a3 :: a4 :: a5 :: a6 :: a7 :: a8 :: a9 :: .dat d :: l) = b R (a0 :: a1 :: a2 :: a3 :: a4 :: a5 :: a6 :: a7 :: a8 :: a9 :: .dat d :: l) := rfl
@[simp] theorem x_po10 (a : DE) : dPeek 10 a (a0 :: a1 :: a2 :: a3 :: a4 :: a5 :: a6 :: a7 :: a8 :: a9 :: .own ds :: l) Q = a (a0 :: a1 :: a2 :: a3 :: a4 :: a5 :: a6 :: a7 :: a8 :: a9 :: .dat (.list ds) :: l) fun x => plainD x = true ∧ Q x := rfl
@[simp] theorem x_pt10 (a : DT) : dPeekT 10 a (a0 :: a1 :: a2 :: a3 :: a4 :: a5 :: a6 :: a7 :: a8 :: a9 :: .own ds :: l) QB = a (a0 :: a1 :: a2 :: a3 :: a4 :: a5 :: a6 :: a7 :: a8 :: a9 :: .dat (.list ds) :: l) QB := rfl
@[simp] theorem x_fo11 (b : DS) : dFrz 11 b R (a0 :: a1 :: a2 :: a3 :: a4 :: a5 :: a6 :: a7 :: a8 :: a9 :: a10 :: .own ds :: l) = b R (a0 :: a1 :: a2 :: a3 :: a4 :: a5 :: a6 :: a7 :: a8 :: a9 :: a10 :: .dat (.list ds) :: l) := rfl
@[simp] theorem x_fd11 (b : DS) : dFrz 11 b R (a0 :: a1 :: a2 :: a3 :: a4 :: a5 :: a6 :: a7 :: a8 :: a9 :: a10 :: .dat d :: l) = b R (a0 :: a1 :: a2 :: a3 :: a4 :: a5 :: a6 :: a7 :: a8 :: a9 :: a10 :: .dat d :: l) := rfl
@[simp] theorem x_po11 (a : DE) : dPeek 11 a (a0 :: a1 :: a2 :: a3 :: a4 :: a5 :: a6 :: a7 :: a8 :: a9 :: a10 :: .own ds :: l) Q = a (a0 :: a1 :: a2 :: a3 :: a4 :: a5 :: a6 :: a7 :: a8 :: a9 :: a10 :: .dat (.list ds) :: l) fun x => plainD x = true ∧ Q x := rfl
@[simp] theorem x_pt11 (a : DT) : dPeekT 11 a (a0 :: a1 :: a2 :: a3 :: a4 :: a5 :: a6 :: a7 :: a8 :: a9 :: a10 :: .own ds :: l) QB = a (a0 :: a1 :: a2 :: a3 :: a4 :: a5 :: a6 :: a7 :: a8 :: a9 :: a10 :: .dat (.list ds) :: l) QB := rfl
@[simp] theorem x_plI {i : Int} : plainD (.int i) = true := rfl
@[simp] theorem x_plB {b : Bool} : plainD (.bool b) = true := rfl
@[simp] theorem x_plS {b : Str} : plainD (.str b) = true := rfl
end
section
variable {Q : EK} {s a b c : Str} {xs : List D} {x : D} {neg : Bool}
theorem inS_plain {neg : Bool} (hx : plainD x = true) (hy : xs.all plainD = true) : fInS neg x (.tuple xs) Q = Q (.bool (if neg then !inD x xs else inD x xs)) := by
  refine propext ⟨fun h => ?_, fun h => .inr ?_⟩
  · rcases h with ⟨ys, e, _⟩ | h
    · cases e
    · have h' : (plainD x = true ∧ xs.all plainD = true) ∧ Q (.bool (if neg then !inD x xs else inD x xs)) := by cases x <;> exact h
      exact h'.2
  · have h' : (plainD x = true ∧ xs.all plainD = true) ∧ Q (.bool (if neg then !inD x xs else inD x xs)) := ⟨⟨hx, hy⟩, h⟩
    cases x <;> exact h'
@[simp] theorem x_in2 : fInS false (.str s) (.tuple [.str a, .str b]) Q = Q (.bool (decide (a = s) || decide (b = s))) := by
  rw [inS_plain rfl rfl]
  simp [inD, PyData.eqv, str_beq]
@[simp] theorem x_in3 : fInS false (.str s) (.tuple [.str a, .str b, .str c]) Q = Q (.bool (decide (a = s) || (decide (b = s) || decide (c = s)))) := by
  rw [inS_plain rfl rfl]
  simp [inD, PyData.eqv, str_beq]
theorem inS_plainL {neg : Bool} (hx : plainD x = true) (hy : xs.all plainD = true) (h : Q (.bool (if neg then !inD x xs else inD x xs))) : fInS neg x (.list xs) Q := by
  have h' : (plainD x = true ∧ xs.all plainD = true) ∧ Q (.bool (if neg then !inD x xs else inD x xs)) := ⟨⟨hx, hy⟩, h⟩
  refine .inr ?_
  cases x <;> exact h'
theorem inS_deep {neg : Bool} (hx : SeqAt.shaped x = true) (hy : SeqAt.shaped (.list xs) = true) (h : Q (.bool (if neg then !inD x xs else inD x xs))) : fInS neg x (.list xs) Q := .inl ⟨xs, rfl, hx, hy, h⟩
theorem cut1 {α : Type} (x : α) (xs : List α) : cutL (x :: xs) (some 1) none = xs := by
  unfold cutL
  have e1 : HT.sIx (x :: xs).length 0 (some 1) = 1 := by
    have := HT.sIx_nat (x :: xs).length 0 1
    rw [show ((1 : Nat) : Int) = 1 from rfl] at this
    rw [this]
    simp
  rw [e1, HT.sIx_none]
  simp
@[simp] theorem x_sl1T : fSl (.tuple (x :: xs)) (some 1) none Q = Q (.tuple xs) := by
  show Q (.tuple (cutL (x :: xs) (some 1) none)) = _
  rw [cut1]
@[simp] theorem x_sl1L : fSl (.list (x :: xs)) (some 1) none Q = Q (.list xs) := by
  show Q (.list (cutL (x :: xs) (some 1) none)) = _
  rw [cut1]
@[simp] theorem x_slS (lo hi : Option Int) : fSl (.str s) lo hi Q = (s.length ≤ sizeLine ∧ Q (.str (cutS s lo hi))) := rfl
@[simp] theorem x_tuL : fTuple [.list xs] Q = Q (.tuple xs) := rfl
@[simp] theorem x_tuT : fTuple [.tuple xs] Q = Q (.tuple xs) := rfl
end
end DL
/-! DL: enumerate over tuples. -/
namespace DL
open PySem PySem.Spec PyProof.Rows L2
/-- enumerate(v) begins, v told by how its iterator begins -/
theorem meets_enum1 {v : Value} {ob : Obj} {Z : Heap → Prop} (B : Begins v ob Z) :
    Meets (Builtin.«enumerate.__new__» ⟨[.type "enumerate", v], []⟩) (fun _ R s => Z s.heap ∧
      R (.ok (.ret (.ref (s.heap.push ob).objs.size))) { s with heap := (s.heap.push ob).push { cls := .type "enumerate", data := .fields #[.none, .bool false, .ref s.heap.objs.size, rawInt 0, .none, .none] } }) :=
  .of_wp fun prog w A R s h => by
    obtain ⟨h0, g, d, tk, os⟩ := s
    obtain ⟨hz, h⟩ := h
    have sub := sub_enumerate
    have it : ∀ {A' : Around} {E : Value → Shared → Prop} {Q : Value → Shared → Prop}, Q (.ref h0.objs.size) ⟨h0.push ob, g, d, tk, os⟩ → wpAny (model prog w) A' (pyIter v) Q E ⟨h0, g, d, tk, os⟩ :=
      fun q => B.iter prog w _ _ ⟨h0, g, d, tk, os⟩ _ hz q
    wp_walk using it
    refine wpAny_stack_any fun st => wpAny_pure ?_
    split
    · rename_i c _ _ _ _ _
      cases (c == Value.type "enumerate") <;> (wp_walk using it; exact ⟨_, rfl, h⟩)
    · wp_walk using it
      exact ⟨_, rfl, h⟩
theorem call_enum1 {prog : Program} {w : World} {A : Around} {E : Value → Shared → Prop} {s : Shared} {v : Value} {ob : Obj} {Z : Heap → Prop} {Q : Value → Shared → Prop} (B : Begins v ob Z) (hz : Z s.heap)
    (h : ∀ h' : Heap, IsEnum h' (s.heap.objs.size + 1) s.heap.objs.size 0 .none → h'.get? s.heap.objs.size = some ob → (∀ b o, s.heap.get? b = some o → h'.get? b = some o) → Q (.ref (s.heap.objs.size + 1)) { s with heap := h' }) :
    wpAny (model prog w) A (call (.type "enumerate") [v]) Q E s := by
  refine callType_new F.called_enumerate (by decide) (F.typeCall_enumerate_1 _) (F.newCall_enumerate_1 _) (fun obj => F.args_object_init_2 obj _) F.entry_enumerate_new (meets_enum1 B) ⟨hz, ?_⟩
  have sz : (s.heap.push ob).objs.size = s.heap.objs.size + 1 := Heap.size_push ..
  show _ ∧ _
  rw [sz]
  have en := Heap.get?_push_size (s.heap.push ob) (o := { cls := .type "enumerate", data := .fields #[.none, .bool false, .ref s.heap.objs.size, rawInt 0, .none, .none] }) rfl
  rw [sz] at en
  exact ⟨⟨_, en, rfl⟩, h _ en (Heap.get?_push_of_some _ (Heap.get?_push_size _ B.free)) fun b o z => Heap.get?_push_of_some _ (Heap.get?_push_of_some _ z)⟩
/-- the tuple at a, each item in a new pair with its place -/
def IteT (K : PySem.W.Frag) (a : Addr) : It :=
  ⟨fun i H => ∃ (xs : List V) (x : V), SqT K H a xs ∧ xs[i]? = some x, fun i H v H' => ∃ T x, v = .ref T ∧ H T = none ∧ H' = upd H T (.tup [.int (i : Nat), x]) ∧ ∀ xs, SqT K H a xs → xs[i]? = some x, fun i H => ∃ xs : List V, SqT K H a xs ∧ xs.length = i⟩
theorem turn_enumT {P : Program} {w : World} {K : PySem.W.Frag} {elts : List Expr} {kk : Nat} {tpos : Pos} (a e it : Addr) :
    Turn P w K (.Tuple elts kk tpos) (IteT K a) [e, it] e (fun i h => (∃ old, IsEnum h e it ((i : Nat) : Int) old) ∧ h.IsTupleIter it a i ∧ e ≠ it ∧ a ≠ it ∧ a ≠ e) where
  mem := by simp
  obj := fun i h st b hb => by
    obtain ⟨⟨old, he⟩, ⟨o, ho, hc, hd⟩, _⟩ := st
    rcases List.mem_cons.mp hb with z | z
    · rw [z]; exact ⟨_, he, fun v q => nomatch q⟩
    · rw [List.mem_singleton.mp z]; exact ⟨o, ho, fun v q => by rw [hd] at q; cases q⟩
  keep := fun i h h' st k => let ⟨⟨old, he⟩, hi, hne⟩ := st; ⟨⟨old, k e (by simp) _ he⟩, hi.at fun o q => k it (by simp) o q, hne⟩
  item := by
    intro X hP hw hK hc i pins s σ H E I hf st hg
    subst hP hw hK
    obtain ⟨⟨old, he⟩, hit, hne, hai, hae⟩ := st
    obtain ⟨xs, x, hq, hx⟩ := hg
    obtain ⟨its, rv, p, hz⟩ := I.tuple hq
    obtain ⟨u, hu, ru⟩ := rv.get hx
    have hel : e < s.heap.objs.size := Heap.lt_size he
    have hil : it < s.heap.objs.size := by obtain ⟨_, q, _⟩ := hit; exact Heap.lt_size q
    have hlt : i < its.toArray.size := by
      have := (List.getElem?_eq_some_iff.mp hu).1
      simpa using this
    refine wpAny_pyNext_enum_itemD (Draws.tuple (A := X.A.in1) (I.ok.hd hc) it a hai its.toArray) he ⟨hit, p⟩ hlt hne (by simp [hne, Ne.symm hae]) fun y h' tk hy ho st' hT hsz hk => ?_
    obtain rfl : u = y := by
      have e1 : its.toArray[i]? = some u := by simpa using hu
      rw [e1] at hy
      exact Option.some.inj hy
    refine ⟨_, rfl, wpAny_letOwnedTupleGo_enum (s := { s with heap := h', toks := tk + 1 }) ho fun h'' he' sb => ?_⟩
    have hT2 : h''.get? s.heap.objs.size = some { cls := .type "tuple", data := .seq #[.int i tk, u] } := (sb.2 _ (Nat.ne_of_gt hel)).trans hT
    have new : ObjOk X.prog X.w (upd H s.heap.objs.size (.tup [.int (i : Nat), x])) h'' s.heap.objs.size (.tup [.int (i : Nat), x]) :=
      ⟨by show 2 ≤ sizeLine; decide, [.int i tk, u], .cons ⟨_, rfl⟩ (.cons ru .nil), ⟨_, hT2, rfl, _, rfl⟩⟩
    have I1 : Inv X pins σ (upd H s.heap.objs.size (.tup [.int (i : Nat), x])) { s with heap := h'', toks := tk + 1 } :=
      I.turnedNew (ch := [e, it]) (fun b ob hb q => (sb.2 b (fun z => hb (by simp [z]))).trans (hk b ob (fun z => hb (by simp [z])) (fun z => hb (by simp [z])) q)) hf (Nat.le_refl _) new
    refine ⟨.ref s.heap.objs.size, _, I1, rfl, ⟨_, x, rfl, I.hok.fresh (Nat.le_refl _), rfl, fun ys hy => by rw [I.tuple_inj hy hq]; exact hx⟩, ⟨⟨u, ?_⟩, st'.1.at fun o q => (sb.2 it (Ne.symm hne)).trans q, hne, hai, hae⟩, fun b hb => ?_⟩
    · have e1 : ((i + 1 : Nat) : Int) = (i : Int) + 1 := by omega
      rw [e1]; exact he'
    · have hb' : b < s.heap.objs.size := by
        rcases List.mem_cons.mp hb with z | z
        · rw [z]; exact hel
        · rw [List.mem_singleton.mp z]; exact hil
      rw [upd_ne (Nat.ne_of_lt hb')]
      exact (hf b hb).1
  done := by
    intro X hP hw hK hc i pins s σ H E I hf st hg
    subst hP hw hK
    obtain ⟨⟨old, he⟩, hit, hne, hai, hae⟩ := st
    obtain ⟨xs, hq, hx⟩ := hg
    obtain ⟨its, rv, p, hz⟩ := I.tuple hq
    obtain ⟨f0, f1, f2, f3, f4, f5⟩ := hf it (by simp)
    have hl := rv.length
    have e0 : its.toArray.size = i := by simp; omega
    exact wpAny_pyNext_enum_endD (Draws.tuple (A := X.A.in1) (I.ok.hd hc) it a hai its.toArray) he ⟨by rw [e0]; exact hit, p⟩ fun h' eb => ⟨rfl, I.turned (t' := s.toks) (fun b o hb q => eb b o hb q) f0 f1 f3 f4 f5⟩
  self := fun A i s Q E st h => let ⟨⟨_, he⟩, _⟩ := st; wpAny_pyIter_enum he h
def iEnumT (K : PySem.W.Frag) (ta : TA) : TI := fun σ H R => ta σ H fun vs H1 => ∃ a xs, vs = [.ref a] ∧ SqT K H1 a xs ∧ R (IteT K a) H1
theorem pi_enumT {X : Cx} {e : Expr} {ta : TA} {p pos tpos : Pos} {elts : List Expr} {kk : Nat} (hg : Gl X "enumerate") (hm : X.mg "enumerate" = none) (ha : PA X [e] ta) (hs : starEach [e] X.env = [(false, eval e X.env)] := by rfl) :
    PI X (.Tuple elts kk tpos) (.Call (.Name "enumerate" p) [e] [] pos) (iEnumT X.K ta) := by
  refine ⟨fun pins s σ H R I h => Call_ (ld_blt I hg hm boot_enumerate (PyProof.Rows.callWith_type1 (thn (ha.run pos pins s σ H _ I h) fun us s1 ⟨vs, H1, I1, r1, q1⟩ => ?_) hs rfl))⟩
  obtain ⟨a, xs, rfl, hq, q⟩ := q1
  cases r1 with
  | cons r rr =>
    cases rr
    cases r
    obtain ⟨its, rv, p', hz⟩ := I1.tuple hq
    have al : a < s1.heap.objs.size := by obtain ⟨o, z, _⟩ := p'; exact Heap.lt_size z
    refine call_enum1 (begins_tuple a its.toArray) p' fun h' he hit hk => wpAny_pyIter_enum he ?_
    refine ⟨s1.heap.objs.size + 1, [s1.heap.objs.size + 1, s1.heap.objs.size], _, _, H1, rfl, I1.kept (t' := s1.toks) hk, turn_enumT a (s1.heap.objs.size + 1) s1.heap.objs.size, ⟨⟨.none, he⟩, ⟨_, hit, rfl, rfl⟩, Nat.succ_ne_self _, Nat.ne_of_lt al, Nat.ne_of_lt (Nat.lt_succ_of_lt al)⟩, fun b hb => ?_, q⟩
    have le : s1.heap.objs.size ≤ b := by
      rcases List.mem_cons.mp hb with z | z
      · rw [z]; exact Nat.le_succ _
      · rw [List.mem_singleton.mp z]; exact Nat.le_refl _
    have I2 : Inv X pins σ H1 { s1 with heap := h' } := I1.kept (t' := s1.toks) hk
    exact I1.fpOk le (I1.hok.fresh le)
/-- pairs of a place and an item -/
def enumD (ds : List D) : List D := ds.zipIdx.map fun p => .tuple [.int (p.2 : Int), p.1]
def iEnumD (a : DE) : DI := fun ω Q => a ω fun d => match d with
  | .tuple ds => ds.length ≤ sizeLine → Q (enumD ds)
  | _ => False
theorem enum_at {ds : List D} {i : Nat} {d : D} (h : ds[i]? = some d) : (enumD ds)[i]? = some (.tuple [.int (i : Int), d]) := by
  unfold enumD
  rw [List.getElem?_map, List.getElem?_zipIdx, h]
  simp
theorem enum_len {ds : List D} : (enumD ds).length = ds.length := by simp [enumD]
theorem rp_at {K : PySem.W.Frag} {H : Hp} : ∀ {vs : List V} {ds : List D} {i : Nat} {x : V}, RpAll K H vs ds → vs[i]? = some x → ∃ d, ds[i]? = some d ∧ Rp K H x d
  | _, _, 0, x, .cons r _, h => by
    simp at h
    subst h
    exact ⟨_, by simp, r⟩
  | _, _, i + 1, x, .cons _ t, h => by
    obtain ⟨d, h1, h2⟩ := rp_at (i := i) t (by simpa using h)
    exact ⟨d, by simpa using h1, h2⟩
theorem iter_enumT {K : PySem.W.Frag} {C : List Addr} {H : Hp} {a : Addr} {vs : List V} {ds : List D} (e : SqT K (hid C H) a vs) (q : RpAll K (hid C H) vs ds) : IterOf K C H (IteT K a) (enumD ds) where
  go := fun C' H' s i hi => by
    have hl := q.length
    rw [enum_len] at hi
    have hlt : i < vs.length := by omega
    exact ⟨vs, vs[i]'hlt, SqT.out (Same.seqT s e), by simp [hlt]⟩
  yld := fun C' H' s hC i x H3 hi y => by
    obtain ⟨T, x0, rfl, hT, rfl, hx⟩ := y
    have q' := q.mono s
    obtain ⟨d, h1, h2⟩ := rp_at q' (hx vs (SqT.out (Same.seqT s e)))
    have sn : Same H' (upd H' T (.tup [.int (i : Int), x0])) := same_new hT
    refine ⟨sn, _, enum_at h1, ?_⟩
    exact .tup (.of (hid_of (hC T hT) upd_same)) (by show 2 ≤ sizeLine; decide) (.cons (.int _) (.cons (h2.mono (hid_mono sn)) .nil))
  stop := fun C' H' s => ⟨vs, SqT.out (Same.seqT s e), by rw [enum_len]; exact q.length⟩
theorem i_enumT {P : Program} {w : World} {X : Cx} {e : Expr} {de : DE} {p pos tpos : Pos} {elts : List Expr} {kk : Nat} (hm : X.mg "enumerate" = none) (ha : PE X e (LE P w X.K de)) (hg : Gl X "enumerate" := by rfl) (hs : starEach [e] X.env = [(false, eval e X.env)] := by rfl) :
    PI X (.Tuple elts kk tpos) (.Call (.Name "enumerate" p) [e] [] pos) (LI P w X.K (iEnumD de)) := by
  refine PI.imp (pi_enumT hg hm (pa_cons ha pa_nil hs) hs) fun σ H Q ⟨F, A, ω, R, c, h, k⟩ => ⟨F, A, ω, _, c, h, fun d hd v H1 e1 r1 => ?_⟩
  cases r1 with
  | tup e z q =>
    have hd' : _ ≤ sizeLine → R _ := hd
    exact ⟨_, _, rfl, SqT.out e, k _ (hd' (by rw [← q.length]; exact z)) _ H1 e1 (iter_enumT e q)⟩
  | _ => exact False.elim hd
end DL
/-! DL: the signs of an ascii text as numbers. -/
namespace DL
open PySem PySem.Spec PyProof.Rows L2
section
open PySem.Builtin PySem.Builtin._codecs
theorem road_ascii (id : String) (self : Value) (x : Str) : encodeRoad id self x "ascii" none = (do mkBytes (← encodeNarrow id asciiCodec none self x)) := by
  unfold encodeRoad
  have e : (normalName (Str.ofString "ascii")).toString = "ascii" := by decide +kernel
  rw [e]
  first | rfl | simp
theorem codec_ascii (id f w : String) (u : Tok) : Builtin.Str.codecArg id f w (some (.str "ascii" u)) = pure (some (Str.ofString "ascii")) := by
  unfold Builtin.Str.codecArg
  show (do let n ← Builtin.Str.strArg id f w (.str "ascii" u); _) = _
  have e1 : (Str.ofString "ascii").cps.any (· ≥ 128) = false := by decide +kernel
  have e2 : (Str.ofString "ascii").cps.contains 0 = false := by decide +kernel
  have e3 : Builtin.Str.strArg id f w (.str "ascii" u) = pure (Str.ofString "ascii") := rfl
  rw [e3]
  simp only [pure_bind, e1, e2]
  rfl
theorem encode_ascii_tree (x : Str) (t u : Tok) : «str.encode» ⟨[.str x t, .str "ascii" u], []⟩ = (do ret (← encodeRoad "str.encode" (.str x t) x (Str.ofString "ascii") none)) := by
  have e : «str.encode» ⟨[.str x t, .str "ascii" u], []⟩ = (do
    let encoding := (← Builtin.Str.codecArg "str.encode" "encode" "'encoding'" (some (.str "ascii" u))).getD "utf-8"
    let errors ← Builtin.Str.codecArg "str.encode" "encode" "'errors'" none
    ret (← encodeRoad "str.encode" (.str x t) x encoding errors)) := rfl
  rw [e, codec_ascii]
  rfl
theorem fold_ascii : ∀ (l : List Nat) (acc : Array UInt8), l.foldl (fun acc y => acc ++ (asciiCodec.bytesOf y).toArray) acc = acc ++ (l.map Nat.toUInt8).toArray
  | [], acc => by simp
  | c :: r, acc => by
    rw [List.foldl_cons, fold_ascii r, List.map_cons]
    apply Array.toList_inj.mp
    show _ = _
    simp [asciiCodec]
theorem bad_ascii {c : Nat} (h : c < 128) : asciiCodec.bad c = false := decide_eq_false (by omega)
theorem wp_ascii {M : Model} {A : Around} {E : Value → Shared → Prop} {s : Shared} {x : Str} {id : String} {self : Value} {Q : Array UInt8 → Shared → Prop} (ha : PySem.W.KSb.Asc x) (hz : x.length ≤ 16777216) (h : Q (PySem.W.KSb.enc x) s) :
    wpAny M A (encodeNarrow id asciiCodec none self x) Q E s := by
  have none0 : ¬ ((#[] : Array UInt8).size > sizeLine) := Nat.not_lt.mpr (Nat.zero_le _)
  have none1 : ¬ ((PySem.W.KSb.enc x).size > sizeLine) := by rw [PySem.W.KSb.enc_size, sizeLine_eq]; omega
  have all : ((x.cps.extract 0 x.cps.size).extract 0 x.cps.size).foldl (fun acc y => acc ++ (asciiCodec.bytesOf y).toArray) #[] = PySem.W.KSb.enc x := by
    rw [PySem.W.KSb.whole_extract, PySem.W.KSb.whole_extract, ← Array.foldl_toList, fold_ascii, Array.empty_append]
    rfl
  have find : x.cps.findIdx? asciiCodec.bad = none := by
    rw [Array.findIdx?_eq_none_iff]
    exact fun c hc => by rw [bad_ascii (ha c (Array.mem_toList_iff.mpr hc))]
  unfold encodeNarrow
  refine wpAny_bind ?_
  rw [PySem.W.KPc.range_list]
  cases hn : x.length with
  | zero =>
    have e : PySem.W.KSb.enc x = #[] := Array.eq_empty_of_size_eq_zero (by rw [PySem.W.KSb.enc_size, hn])
    rw [e] at h
    show wpAny M A (forIn ([] : List Nat) _ _) _ E s
    rw [List.forIn_nil]
    exact wpAny_pure (wpAny_pure h)
  | succ n =>
    have pos : 0 < x.cps.size := by show 0 < x.length; omega
    have get0 : x.cps[0]? = some (x.cps[0]'pos) := Array.getElem?_eq_getElem pos
    have ok0 : asciiCodec.bad (x.cps[0]'pos) = false := bad_ascii (ha _ (Array.mem_toList_iff.mpr (Array.getElem_mem pos)))
    have clean : (((x.cps.extract 0 x.cps.size).findIdx? asciiCodec.bad).getD (x.cps.extract 0 x.cps.size).size) = x.cps.size := by
      rw [PySem.W.KSb.whole_extract, find]
      rfl
    rw [List.range'_succ]
    refine PySem.W.KPc.turn (wpAny_ite (PySem.W.KBy.ite_no none0 ?_))
    try dsimp only
    rw [get0]
    try dsimp only
    refine wpAny_ite (PySem.W.KBc.ite_yes (by rw [ok0]; rfl) ?_)
    rw [clean, all]
    try dsimp only
    refine wpAny_pure ?_
    cases n with
    | zero =>
      show wpAny M A (forIn ([] : List Nat) _ _) _ E s
      rw [List.forIn_nil]
      exact wpAny_pure (wpAny_pure h)
    | succ m =>
      have past : x.cps[0 + x.cps.size]? = none := Array.getElem?_eq_none (by omega)
      rw [List.range'_succ]
      refine PySem.W.KPc.turn (wpAny_ite (PySem.W.KBy.ite_no none1 ?_))
      try dsimp only
      rw [past]
      try dsimp only
      exact wpAny_pure (wpAny_pure h)
theorem meets_ascii {x : Str} {t u : Tok} (ha : PySem.W.KSb.Asc x) (hz : x.length ≤ 16777216) : Meets («str.encode» ⟨[.str x t, .str "ascii" u], []⟩) (fun _ R s => ∀ t' k, R (.ok (.ret (.bytes (PySem.W.KSb.enc x) t'))) { s with toks := k }) := by
  refine .of_wp fun prog w A R s h => ?_
  rw [encode_ascii_tree, road_ascii]
  refine wpAny_bind (wpAny_bind (wp_ascii ha hz (wpAny_mkBytes ?_ (by rw [PySem.W.KSb.enc_size, sizeLine_eq]; exact hz))))
  exact wpAny_pure ⟨_, rfl, h _ _⟩
end
theorem mt_ascii {X : Cx} : MtR X "str.encode" (fun x xs H Q => ∃ a, x = .str a ∧ xs = [.str "ascii"] ∧ PySem.W.KSb.Asc a ∧ a.length ≤ 16777216 ∧ Q (.byt (PySem.W.KSb.enc a)) H) := by
  intro pins s σ H x xs v us Q I rx rxs h
  obtain ⟨a, rfl, rfl, ha, hz, q⟩ := h
  obtain ⟨t, rfl⟩ := rx
  cases rxs with
  | cons r rr =>
    cases rr
    obtain ⟨u, rfl⟩ := r
    exact call_meets F.slot_str_encode (typeIs_str s a t) F.entry_str_encode (F.args_str_encode_2 _ _) (meets_ascii ha hz) fun t' k => ⟨.byt _, H, I.tok k, ⟨_, rfl⟩, q⟩
section
variable {P : Program} {w : World} {X : Cx} {pos : Pos} {e : Expr} {de : DE}
/-- what a text's ascii bytes are -/
def codesD (x : Str) : List D := x.cps.toList.map fun c : Nat => .int (c : Int)
def iAsc (a : DE) : DI := fun ω Q => a ω fun d => match d with
  | .str x => PySem.W.KSb.Asc x ∧ x.length ≤ sizeLine ∧ Q (codesD x)
  | _ => False
theorem enc_at {x : Str} (ha : PySem.W.KSb.Asc x) {i : Nat} {c : UInt8} (h : (PySem.W.KSb.enc x)[i]? = some c) : (codesD x)[i]? = some (.int ((c.toNat : Nat) : Int)) := by
  unfold codesD
  unfold PySem.W.KSb.enc at h
  rw [List.getElem?_toArray, List.getElem?_map] at h
  rw [List.getElem?_map]
  cases e : x.cps.toList[i]? with
  | none => rw [e] at h; cases h
  | some n =>
    rw [e] at h
    have h' : n.toUInt8 = c := by simpa using h
    subst h'
    have n1 := ha n (List.mem_of_getElem? e)
    have e2 : n.toUInt8.toNat = n := by
      show n % 256 = n
      omega
    simp [e2]
theorem enc_len {x : Str} : (codesD x).length = (PySem.W.KSb.enc x).size := by
  rw [PySem.W.KSb.enc_size]
  show (x.cps.toList.map _).length = x.cps.size
  rw [List.length_map, Array.length_toList]
theorem iter_asc {K : PySem.W.Frag} {C : List Addr} {H : Hp} {x : Str} (ha : PySem.W.KSb.Asc x) : IterOf K C H (Itb (PySem.W.KSb.enc x)) (codesD x) where
  go := fun C' H' e i hi => by
    rw [enc_len] at hi
    exact hi
  yld := fun C' H' e _ i v H3 hi y => by
    obtain ⟨rfl, c, h1, rfl⟩ := y
    exact ⟨Same.refl _, _, enc_at ha h1, .int _⟩
  stop := fun C' H' e => Nat.le_of_eq enc_len.symm
theorem i_asc {tg : Expr} {apos cpos p2 : Pos} {k : Nat} (he : PE X e (LE P w X.K de)) (hs : starEach [.Constant (.str "ascii") k p2] X.env = [(false, eval (.Constant (.str "ascii") k p2) X.env)] := by rfl) (hbase : attributeBase e "encode" X.env (eval e X.env) = eval e X.env := by rfl) (hline : (apos.endLine == cpos.line) = true := by rfl) :
    PI X tg (.Call (.Attribute e "encode" apos) [.Constant (.str "ascii") k p2] [] cpos) (LI P w X.K (iAsc de)) := by
  refine PI.imp (pi_byt (pe_m1 F.slot_str_encode F.type_str_encode mt_ascii he pe_str hs hbase hline)) fun σ H Q ⟨F, A, ω, R, c, h, kk⟩ => ⟨F, A, ω, _, c, h, fun d hd v H1 e1 r1 => ?_⟩
  cases r1 with
  | str x =>
    obtain ⟨h1, h2, h3⟩ := hd
    exact ⟨⟨x, rfl⟩, x, rfl, rfl, h1, by rw [sizeLine_eq] at h2; exact h2, _, rfl, kk _ h3 _ H1 e1 (iter_asc h1)⟩
  | _ => exact False.elim hd
end
section
variable {Q : List D → Prop} {ω : List SV} {ds : List D}
@[simp] theorem x_enumD (a : DE) : iEnumD a ω Q = a ω fun d => match d with
  | .tuple ds => ds.length ≤ sizeLine → Q (enumD ds)
  | _ => False := rfl
@[simp] theorem x_iAsc (a : DE) : iAsc a ω Q = a ω fun d => match d with
  | .str x => PySem.W.KSb.Asc x ∧ x.length ≤ sizeLine ∧ Q (codesD x)
  | _ => False := rfl
end
end DL
/-! DL: own[k] = e; tuple * number. -/
namespace DL
open PySem PySem.Spec PyProof.Rows L2
section
variable {P : Program} {w : World} {X : Cx} {pos : Pos} {a b e : Expr} {de da db : DE}
def dPut (i : Nat) (b a : DE) : DS := fun R ω => a ω fun d => match ω[i]? with
  | some (.own ds) => b ω fun k => match k with
    | .int j => (0 ≤ j ∧ j < ds.length) ∧ R.nx (ω.set i (.own (ds.set j.toNat d)))
    | _ => False
  | _ => False
theorem RpAll.put {K : PySem.W.Frag} {H : Hp} {x : V} {d : D} (hx : Rp K H x d) : ∀ {vs : List V} {ds : List D} (j : Nat), RpAll K H vs ds → RpAll K H (vs.set j x) (ds.set j d)
  | _, _, _, .nil => .nil
  | _, _, 0, .cons _ t => .cons hx t
  | _, _, j + 1, .cons r t => .cons r (RpAll.put hx j t)
theorem s_put {i : Nat} {x : Str} {np tpos : Pos} (hN : X.N[i]? = some x) (hv : Vis X.env.scope x) (hb : PE X b (LE P w X.K db)) (he : PE X e (LE P w X.K de)) (hd : (x == ("__debug__" : Str)) = false := by decide) (hcd : (x == ("__classdict__" : Str)) = false := by decide)
    (ha : ∀ v, assign (.Subscript (.Name x np) b tpos) X.env v = (do
      let ov ← holding [v] (eval (.Name x np) X.env)
      let iv ← holding [v, ov] (eval b X.env)
      standAt tpos
      holding [v, ov, iv] (setItem ov iv v)
      release [v, ov, iv] []) := by intro _; rfl)
    (hs : swapsWithSole [.Subscript (.Name x np) b tpos] e pos.line X.env = pure false := by rfl) (hw : swappedStores [.Subscript (.Name x np) b tpos] e X.env = pure none := by rfl)
    (h1 : (assignEach [.Subscript (.Name x np) b tpos] X.env).map (·.2) = [assign (.Subscript (.Name x np) b tpos) X.env] := by rfl) :
    PS X (.Assign [.Subscript (.Name x np) b tpos] e pos) (LS P w X.K (dPut i db de)) := by
  refine PS.imp (ps_asg he (pg_sub (pe_var hN hv hd hcd) hb set_list ha) hs hw h1) fun E σ H ⟨F, A, ω, R, c, h, l⟩ => ⟨F, A, ω, _, c, h, fun d hd v H1 e1 r1 => ?_⟩
  have c1 := c.mono e1
  split at hd
  · rename_i ds hi
    obtain ⟨p, xs, q1, q2, q3, q4, q5⟩ := c1.sl i _ hi
    refine ⟨_, q1, F, A, ω, _, c1, hd, fun k hk u H2 e2 r2 => ?_⟩
    cases r2 with
    | int j =>
      obtain ⟨⟨j0, j1⟩, hR⟩ := hk
      have q3' := e2 _ _ q3
      have hl := q5.length
      refine ⟨p, xs, j, j.toNat, rfl, rfl, q3', by unfold ixN; rw [if_pos j0, if_pos (by omega)], ?_⟩
      exact l.nx _ hR _ _ A ((c1.mono e2).putOwn hi q1 q2 (by rw [List.length_set]; exact q4) (RpAll.put (r1.mono (hid_mono e2)) j.toNat (q5.mono (hid_mono e2))) (by rw [q3']; trivial))
    | _ => exact False.elim hk
  · exact hd.elim
end
section
variable {X : Cx}
/-- == with an empty tuple or list: whatever the items are -/
theorem op_eq0 (hu : X.A.units + 64 < cLine) : OpR X (compareOp .Eq) (fun x y H Q => ∃ a b xs, x = .ref a ∧ y = .ref b ∧ ((SqT X.K H a xs ∧ SqT X.K H b []) ∨ (SqL X.K H a xs ∧ SqL X.K H b [])) ∧ Q (.bl xs.isEmpty) H) := by
  intro pins s σ H x y v u Q I rx ry h
  obtain ⟨a, b, xs, rfl, rfl, hs, q⟩ := h
  cases rx
  cases ry
  have fin : ∀ k : Bool, k = xs.isEmpty → EP X pins σ Q (.bool k) s := fun k hk => by subst hk; exact ⟨.bl _, H, I, rfl, q⟩
  rcases hs with ⟨h1, h2⟩ | ⟨h1, h2⟩
  · obtain ⟨its, rv, p1, _⟩ := I.tuple h1
    obtain ⟨its2, rv2, p2, _⟩ := I.tuple h2
    cases rv2
    refine SeqAt.eq_tupleAt (e := fun _ => true) p1 p2 (by omega) (fun j _ h => absurd h (by simp)) (fin _ ?_)
    have := rv.length
    cases xs <;> cases its <;> simp_all
  · obtain ⟨its, rv, p1, _⟩ := I.list h1
    obtain ⟨its2, rv2, p2, _⟩ := I.list h2
    cases rv2
    cases its with
    | nil =>
      cases rv
      exact SeqAt.eq_listAt (e := fun _ => true) p1.isList p2.isList rfl (by omega) (fun j _ h => absurd h (by simp)) (fin _ rfl)
    | cons z l =>
      cases rv
      exact SeqAt.eq_list_lengthsAt p1.isList p2.isList (by simp) (by omega) (fin _ rfl)
def fEqE : D → D → EK → Prop
  | .tuple xs, .tuple [], Q => Q (.bool xs.isEmpty)
  | .list xs, .list [], Q => Q (.bool xs.isEmpty)
  | _, _, _ => False
theorem oEqE (hu : X.A.units + 64 < cLine) : CmD X .Eq fEqE := by
  refine ⟨_, op_eq0 hu, ?_⟩
  intro C H x y dx dy R Q hC rx ry hf k
  match dx, dy, hf with
  | .tuple xs, .tuple [], hf =>
    cases rx with
    | tup e z q => cases ry with
      | tup e2 z2 q2 =>
        cases q2
        refine ⟨_, _, _, rfl, rfl, .inl ⟨SqT.out e, SqT.out e2⟩, ?_⟩
        cases q <;> exact k _ hf _ H (Same.refl H) (.bl _)
  | .list xs, .list [], hf =>
    cases rx with
    | lst e z q => cases ry with
      | lst e2 z2 q2 =>
        cases q2
        refine ⟨_, _, _, rfl, rfl, .inr ⟨SqL.of (hid_le _ _ e), SqL.of (hid_le _ _ e2)⟩, ?_⟩
        cases q <;> exact k _ hf _ H (Same.refl H) (.bl _)
/-- tuple * number -/
def fMulT : D → D → EK → Prop
  | .tuple xs, .int k, Q => (xs ≠ [] ∧ 2 ≤ k ∧ k ≤ 1000 ∧ xs.length ≤ 1000) ∧ Q (.tuple (List.replicate k.toNat xs).flatten)
  | _, _, _ => False
theorem oMulT : OpD X .Mult fMulT := by
  refine ⟨_, op_repT, ?_⟩
  intro C H x y dx dy R Q hC rx ry hf k
  match dx, dy, hf with
  | .tuple ds, .int n, ⟨⟨h1, h2, h3, h4⟩, hR⟩ =>
    cases ry
    cases rx with
    | tup e z q =>
      rename_i a xs
      have hl := q.length
      refine ⟨_, n, _, rfl, rfl, SqT.out e, ?_, h2, h3, by omega, fun p hp => ?_⟩
      · intro z
        subst z
        cases q
        exact h1 rfl
      · have sn : Same H (upd H p (.tup (List.replicate n.toNat xs).flatten)) := same_new hp
        refine k _ hR _ _ sn (.tup (.inl (.inl (hid_of (hC p hp) upd_same))) ?_ ((q.mono (hid_mono sn)).rep n.toNat))
        rw [List.length_flatten]
        simp
        have : xs.length * n.toNat ≤ 1000 * 1000 := Nat.mul_le_mul (by omega) (by omega)
        rw [Nat.mul_comm] at this
        rw [sizeLine_eq]
        omega
section
variable {Q : EK} {xs : List D} {k : Int}
@[simp] theorem x_eq0T : fEqE (.tuple xs) (.tuple []) Q = Q (.bool xs.isEmpty) := rfl
@[simp] theorem x_eq0L : fEqE (.list xs) (.list []) Q = Q (.bool xs.isEmpty) := rfl
@[simp] theorem x_mulT : fMulT (.tuple xs) (.int k) Q = ((xs ≠ [] ∧ 2 ≤ k ∧ k ≤ 1000 ∧ xs.length ≤ 1000) ∧ Q (.tuple (List.replicate k.toNat xs).flatten)) := rfl
end
end
section
variable {l : List SV} {a0 a1 a2 a3 a4 a5 a6 a7 a8 a9 a10 a11 : SV} {ds : List D} {R : DEnds}
@[simp] theorem x_pu0 (b a : DE) : dPut 0 b a R (.own ds :: l) = a (.own ds :: l) fun d => b (.own ds :: l) fun k => match k with
  | .int j => (0 ≤ j ∧ j < ds.length) ∧ R.nx (List.set (.own ds :: l) 0 (.own (ds.set j.toNat d)))
  | _ => False := rfl
@[simp] theorem x_pu1 (b a : DE) : dPut 1 b a R (a0 :: .own ds :: l) = a (a0 :: .own ds :: l) fun d => b (a0 :: .own ds :: l) fun k => match k with
  | .int j => (0 ≤ j ∧ j < ds.length) ∧ R.nx (List.set (a0 :: .own ds :: l) 1 (.own (ds.set j.toNat d)))
  | _ => False := rfl
@[simp] theorem x_pu2 (b a : DE) : dPut 2 b a R (a0 :: a1 :: .own ds :: l) = a (a0 :: a1 :: .own ds :: l) fun d => b (a0 :: a1 :: .own ds :: l) fun k => match k with
  | .int j => (0 ≤ j ∧ j < ds.length) ∧ R.nx (List.set (a0 :: a1 :: .own ds :: l) 2 (.own (ds.set j.toNat d)))
  | _ => False := rfl
@[simp] theorem x_pu3 (b a : DE) : dPut 3 b a R (a0 :: a1 :: a2 :: .own ds :: l) = a (a0 :: a1 :: a2 :: .own ds :: l) fun d => b (a0 :: a1 :: a2 :: .own ds :: l) fun k => match k with
  | .int j => (0 ≤ j ∧ j < ds.length) ∧ R.nx (List.set (a0 :: a1 :: a2 :: .own ds :: l) 3 (.own (ds.set j.toNat d)))
  | _ => False := rfl
@[simp] theorem x_pu4 (b a : DE) : dPut 4 b a R (a0 :: a1 :: a2 :: a3 :: .own ds :: l) = a (a0 :: a1 :: a2 :: a3 :: .own ds :: l) fun d => b (a0 :: a1 :: a2 :: a3 :: .own ds :: l) fun k => match k with
  | .int j => (0 ≤ j ∧ j < ds.length) ∧ R.nx (List.set (a0 :: a1 :: a2 :: a3 :: .own ds :: l) 4 (.own (ds.set j.toNat d)))
  | _ => False := rfl
@[simp] theorem x_pu5 (b a : DE) : dPut 5 b a R (a0 :: a1 :: a2 :: a3 :: a4 :: .own ds :: l) = a (a0 :: a1 :: a2 :: a3 :: a4 :: .own ds :: l) fun d => b (a0 :: a1 :: a2 :: a3 :: a4 :: .own ds :: l) fun k => match k with
  | .int j => (0 ≤ j ∧ j < ds.length) ∧ R.nx (List.set (a0 :: a1 :: a2 :: a3 :: a4 :: .own ds :: l) 5 (.own (ds.set j.toNat d)))
  | _ => False := rfl
@[simp] theorem x_pu6 (b a : DE) : dPut 6 b a R (a0 :: a1 :: a2 :: a3 :: a4 :: a5 :: .own ds :: l) = a (a0 :: a1 :: a2 :: a3 :: a4 :: a5 :: .own ds :: l) fun d => b (a0 :: a1 :: a2 :: a3 :: a4 :: a5 :: .own ds :: l) fun k => match k with
  | .int j => (0 ≤ j ∧ j < ds.length) ∧ R.nx (List.set (a0 :: a1 :: a2 :: a3 :: a4 :: a5 :: .own ds :: l) 6 (.own (ds.set j.toNat d)))
  | _ => False := rfl
@[simp] theorem x_pu7 (b a : DE) : dPut 7 b a R (a0 :: a1 :: a2 :: a3 :: a4 :: a5 :: a6 :: .own ds :: l) = a (a0 :: a1 :: a2 :: a3 :: a4 :: a5 :: a6 :: .own ds :: l) fun d => b (a0 :: a1 :: a2 :: a3 :: a4 :: a5 :: a6 :: .own ds :: l) fun k => match k with
  | .int j => (0 ≤ j ∧ j < ds.length) ∧ R.nx (List.set (a0 :: a1 :: a2 :: a3 :: a4 :: a5 :: a6 :: .own ds :: l) 7 (.own (ds.set j.toNat d)))
  | _ => False := rfl
@[simp] theorem x_pu8 (b a : DE) : dPut 8 b a R (a0 :: a1 :: a2 :: a3 :: a4 :: a5 :: a6 :: a7 :: .own ds :: l) = a (a0 :: a1 :: a2 :: a3 :: a4 :: a5 :: a6 :: a7 :: .own ds :: l) fun d => b (a0 :: a1 :: a2 :: a3 :: a4 :: a5 :: a6 :: a7 :: .own ds :: l) fun k => match k with
  | .int j => (0 ≤ j ∧ j < ds.length) ∧ R.nx (List.set (a0 :: a1 :: a2 :: a3 :: a4 :: a5 :: a6 :: a7 :: .own ds :: l) 8 (.own (ds.set j.toNat d)))
  | _ => False := rfl
@[simp] theorem x_pu9 (b a : DE) : dPut 9 b a R (a0 :: a1 :: a2 :: a3 :: a4 :: a5 :: a6 :: a7 :: a8 :: .own ds :: l) = a (a0 :: a1 :: a2 :: a3 :: a4 :: a5 :: a6 :: a7 :: a8 :: .own ds :: l) fun d => b (a0 :: a1 :: a2 :: a3 :: a4 :: a5 :: a6 :: a7 :: a8 :: .own ds :: l) fun k => match k with
  | .int j => (0 ≤ j ∧ j < ds.length) ∧ R.nx (List.set (a0 :: a1 :: a2 :: a3 :: a4 :: a5 :: a6 :: a7 :: a8 :: .own ds :: l) 9 (.own (ds.set j.toNat d)))
  | _ => False := rfl
@[simp] theorem x_pu10 (b a : DE) : dPut 10 b a R (a0 :: a1 :: a2 :: a3 :: a4 :: a5 :: a6 :: a7 :: a8 :: a9 :: .own ds :: l) = a (a0 :: a1 :: a2 :: a3 :: a4 :: a5 :: a6 :: a7 :: a8 :: a9 :: .own ds :: l) fun d => b (a0 :: a1 :: a2 :: a3 :: a4 :: a5 :: a6 :: a7 :: a8 :: a9 :: .own ds :: l) fun k => match k with
  | .int j => (0 ≤ j ∧ j < ds.length) ∧ R.nx (List.set (a0 :: a1 :: a2 :: a3 :: a4 :: a5 :: a6 :: a7 :: a8 :: a9 :: .own ds :: l) 10 (.own (ds.set j.toNat d)))
  | _ => False := rfl
@[simp] theorem x_pu11 (b a : DE) : dPut 11 b a R (a0 :: a1 :: a2 :: a3 :: a4 :: a5 :: a6 :: a7 :: a8 :: a9 :: a10 :: .own ds :: l) = a (a0 :: a1 :: a2 :: a3 :: a4 :: a5 :: a6 :: a7 :: a8 :: a9 :: a10 :: .own ds :: l) fun d => b (a0 :: a1 :: a2 :: a3 :: a4 :: a5 :: a6 :: a7 :: a8 :: a9 :: a10 :: .own ds :: l) fun k => match k with
  | .int j => (0 ≤ j ∧ j < ds.length) ∧ R.nx (List.set (a0 :: a1 :: a2 :: a3 :: a4 :: a5 :: a6 :: a7 :: a8 :: a9 :: a10 :: .own ds :: l) 11 (.own (ds.set j.toNat d)))
  | _ => False := rfl
end
end DL
/-! DL: is, is not, of bools. -/
namespace DL
open PySem PySem.Spec PyProof.Rows L2
section
variable {X : Cx}
def fIsB (neg : Bool) : D → D → EK → Prop
  | .bool a, .bool b, Q => Q (.bool (if neg then !decide (a = b) else decide (a = b)))
  | _, _, _ => False
theorem oIsB : CmD X .Is (fIsB false) := by
  refine ⟨_, op_isBl, ?_⟩
  intro C H x y dx dy R Q hC rx ry hf k
  match dx, dy, hf with
  | .bool a, .bool b, hf =>
    cases rx
    cases ry
    exact ⟨a, b, rfl, rfl, k _ hf _ H (Same.refl H) (.bl _)⟩
theorem oNotB : CmD X .IsNot (fIsB true) := by
  refine ⟨_, op_notBl, ?_⟩
  intro C H x y dx dy R Q hC rx ry hf k
  match dx, dy, hf with
  | .bool a, .bool b, hf =>
    cases rx
    cases ry
    exact ⟨a, b, rfl, rfl, k _ hf _ H (Same.refl H) (.bl _)⟩
section
variable {Q : EK} {a b : Bool} {neg : Bool}
@[simp] theorem x_isB : fIsB false (.bool a) (.bool b) Q = Q (.bool (decide (a = b))) := rfl
@[simp] theorem x_isNB : fIsB true (.bool a) (.bool b) Q = Q (.bool (!decide (a = b))) := rfl
end
end
@[simp] theorem x_nonD {es : List (D × D)} : isNon (.dict es) = false := rfl
/-- a comprehension that keeps the walked items of which f holds -/
theorem lc_filter {g : DG} {t : DT} {el : DE} {ω : List SV} {Q : List D → Prop} (f : D → Bool) : ∀ (ds acc : List D), (∀ d ∈ ds, ∀ (N : EK) (Z : Prop), (if f d = true then N d else Z) → g d ω fun ω1 => t ω1 fun b => if b = true then el ω1 N else Z) → Q (acc ++ ds.filter f) → dLcL g t el ω ds acc Q
  | [], acc, _, hq => by
    rw [List.filter_nil, List.append_nil] at hq
    exact hq
  | d :: ds, acc, he, hq => he d List.mem_cons_self _ _ (by
    have ht := fun d hd => he d (List.mem_cons_of_mem _ hd)
    cases e : f d
    · rw [List.filter_cons_of_neg (by simp [e])] at hq
      simp only [Bool.false_eq_true, if_false]
      exact lc_filter f ds acc ht hq
    · rw [List.filter_cons_of_pos e] at hq
      simp only [if_true]
      exact lc_filter f ds (acc ++ [d]) ht (by simpa using hq))
section
variable {Q : EK} {s a b c d : Str}
@[simp] theorem x_in4 : fInS false (.str s) (.tuple [.str a, .str b, .str c, .str d]) Q = Q (.bool (decide (a = s) || (decide (b = s) || (decide (c = s) || decide (d = s))))) := by
  rw [inS_plain rfl rfl]
  simp [inD, PyData.eqv, str_beq]
@[simp] theorem x_nin4 : fInS true (.str s) (.tuple [.str a, .str b, .str c, .str d]) Q = Q (.bool (!(decide (a = s) || (decide (b = s) || (decide (c = s) || decide (d = s)))))) := by
  rw [inS_plain rfl rfl]
  simp [inD, PyData.eqv, str_beq]
@[simp] theorem x_nin2 : fInS true (.str s) (.tuple [.str a, .str b]) Q = Q (.bool (!(decide (a = s) || decide (b = s)))) := by
  rw [inS_plain rfl rfl]
  simp [inD, PyData.eqv, str_beq]
end
end DL
/-! DL: len(set(xs)) of ints and texts; sorted(set(xs)) of ints. -/
namespace DL
open PySem PySem.Spec PyProof.Rows L2

/-! ### the distinct ones, as they are met -/
def addU {α : Type} [DecidableEq α] (acc : List α) (x : α) : List α := if x ∈ acc then acc else acc ++ [x]
def uniq {α : Type} [DecidableEq α] (xs : List α) : List α := xs.foldl addU []
section
variable {α : Type} [DecidableEq α]
theorem uniq_snoc (xs : List α) (x : α) : uniq (xs ++ [x]) = addU (uniq xs) x := by
  unfold uniq
  rw [List.foldl_append]
  rfl
theorem uniq_ind {P : List α → List α → Prop} (h0 : P [] []) (h1 : ∀ xs u x, P xs u → P (xs ++ [x]) (addU u x)) (xs : List α) : P xs (uniq xs) := by
  have : ∀ n, ∀ xs : List α, xs.length = n → P xs (uniq xs) := by
    intro n
    induction n with
    | zero => intro xs h; rw [List.length_eq_zero_iff.mp h]; exact h0
    | succ n ih =>
      intro xs h
      have e : xs = xs.dropLast ++ [xs.getLast (by intro z; rw [z] at h; cases h)] := (List.dropLast_concat_getLast _).symm
      rw [e, uniq_snoc]
      exact h1 _ _ _ (ih _ (by rw [List.length_dropLast]; omega))
  exact this _ xs rfl
theorem uniq_mem {xs : List α} : ∀ {k : α}, k ∈ uniq xs ↔ k ∈ xs := by
  refine uniq_ind (P := fun xs u => ∀ {k : α}, k ∈ u ↔ k ∈ xs) (by simp) (fun xs u x ih k => ?_) xs
  unfold addU
  split
  · rename_i h
    rw [List.mem_append, ih, List.mem_singleton]
    constructor
    · exact .inl
    · rintro (z | z)
      · exact z
      · rw [z]; exact ih.mp h
  · rw [List.mem_append, List.mem_append, ih]
theorem uniq_nodup (xs : List α) : (uniq xs).Nodup := by
  refine uniq_ind (P := fun _ u => u.Nodup) List.nodup_nil (fun xs u x ih => ?_) xs
  unfold addU
  split
  · exact ih
  · rename_i h
    rw [List.nodup_append]
    exact ⟨ih, by simp, fun a ha b hb => by rw [List.mem_singleton.mp hb]; exact fun z => h (z ▸ ha)⟩
theorem uniq_le (xs : List α) : (uniq xs).length ≤ xs.length := by
  refine uniq_ind (P := fun xs u => u.length ≤ xs.length) (Nat.le_refl _) (fun xs u x ih => ?_) xs
  unfold addU
  split
  · simp; omega
  · simp; exact ih
theorem uniq_eq_iff (xs : List α) : (uniq xs).length = xs.length ↔ xs.Nodup := by
  refine (uniq_ind (P := fun xs u => (∀ k, k ∈ u ↔ k ∈ xs) ∧ u.length ≤ xs.length ∧ (u.length = xs.length ↔ xs.Nodup)) ⟨by simp, Nat.le_refl _, by simp⟩ (fun xs u x ih => ?_) xs).2.2
  obtain ⟨h1, h2, h3⟩ := ih
  have nd : (xs ++ [x]).Nodup ↔ xs.Nodup ∧ x ∉ xs := by
    rw [List.nodup_append]
    constructor
    · rintro ⟨a, _, b⟩
      exact ⟨a, fun z => b x z x (by simp) rfl⟩
    · rintro ⟨a, b⟩
      exact ⟨a, by simp, fun p hp q hq => by rw [List.mem_singleton.mp hq]; exact fun z => b (z ▸ hp)⟩
  unfold addU
  rw [nd]
  split
  · rename_i h
    refine ⟨fun k => ?_, by simp; omega, ?_⟩
    · rw [List.mem_append, List.mem_singleton, h1]
      constructor
      · exact .inl
      · rintro (z | z)
        · exact z
        · rw [z]; exact (h1 x).mp h
    · simp only [List.length_append, List.length_cons, List.length_nil]
      constructor
      · intro z; omega
      · intro z; exact absurd ((h1 x).mp h) z.2
  · rename_i h
    refine ⟨fun k => by rw [List.mem_append, List.mem_append, h1], by simp; exact h2, ?_⟩
    simp only [List.length_append, List.length_cons, List.length_nil]
    rw [← h3]
    constructor
    · intro z; exact ⟨by omega, fun y => h ((h1 x).mpr y)⟩
    · intro z; omega
end

/-! ### set(xs) of keys -/
instance memKey (k : Key) (ks : List Key) : Decidable (k ∈ ks) := @List.instDecidableMemOfLawfulBEq _ instBEqOfDecidableEq inferInstance k ks
theorem setOf_same {P : Program} {w : World} {h : Heap} {a : Addr} {S S' : Key → Bool} {n n' : Nat} (x : h.SetOf (mixKind P w) a S n) (e : ∀ k, S k = S' k) (en : n = n') : h.SetOf (mixKind P w) a S' n' := by
  rw [← show S = S' from funext e, ← en]; exact x
theorem setOf_stays {P : Program} {w : World} {h h' : Heap} {a : Addr} {S : Key → Bool} {n : Nat} (x : h.SetOf (mixKind P w) a S n) (k : ∀ o, h.get? a = some o → h'.get? a = some o) : h'.SetOf (mixKind P w) a S n := by
  obtain ⟨o, es, ep, t, ho, r⟩ := x
  exact ⟨o, es, ep, t, k o ho, r⟩
def keysAre : List Value → List Key → Prop := Paired fun u k => keyIs k u = true
theorem keysAre.at : ∀ {us : List Value} {ks : List Key} {i : Nat} {u : Value}, keysAre us ks → us[i]? = some u → ∃ k, ks[i]? = some k ∧ keyIs k u = true
  | _, _, _, _, .nil, h => by simp at h
  | _, _, 0, _, .cons r _, h => by simp at h; subst h; exact ⟨_, rfl, r⟩
  | _, _, i + 1, u, .cons _ t, h => by
    obtain ⟨k, h1, h2⟩ := keysAre.at (i := i) (u := u) t (by simpa using h)
    exact ⟨k, by simpa using h1, h2⟩
theorem keysAre.len : ∀ {us : List Value} {ks : List Key}, keysAre us ks → us.length = ks.length
  | _, _, .nil => rfl
  | _, _, .cons _ t => by rw [List.length_cons, List.length_cons, keysAre.len t]
section
variable {P : Program} {w : World} {A : Around} {R : Result → Shared → Prop} {I : Addr} {fp wr : List Addr} {G : Array GenState → Array GenState → Prop} {n : Nat} {Pv : Nat → Value → Prop} {St : Nat → Shared → Prop}
theorem keys_loop (W : WalksS P w A.in1 I fp wr G n Pv St) (S : Addr) (hS0 : S ∉ fp) (ks : List Key) (hn : n = ks.length) (hb : ks.length + 1 < scanBound) (hval : ∀ i v, Pv i v → ∃ k, ks[i]? = some k ∧ keyIs k v = true) :
    ∀ (m i : Nat) (s : Shared), n - i = m → i ≤ n → St i s → s.heap.SetOf (mixKind P w) S (fun k => decide (k ∈ ks.take i)) (uniq (ks.take i)).length →
      (∀ s', Moved (S :: wr) G s s' → s'.heap.SetOf (mixKind P w) S (fun k => decide (k ∈ ks)) (uniq ks).length → R (.ok (.ret .none)) s') →
      codeAny (model P w) A (.builtin "set.update.loop" ⟨[.ref S, .ref I], []⟩) R s := by
  have nS : S ∉ wr := fun h => hS0 (W.sub _ h)
  have sub : ∀ b ∈ wr, b ∈ S :: wr := fun b z => List.mem_cons_of_mem _ z
  have carry : ∀ {h h' : Heap} {f : Key → Bool} {c : Nat}, h.SetOf (mixKind P w) S f c → (∀ o, h.get? S = some o → h'.get? S = some o) → h'.SetOf (mixKind P w) S f c := fun R k => setOf_stays R k
  intro m
  induction m with
  | zero =>
    intro i s e hi hst hs hR
    obtain rfl : i = n := by omega
    refine codeAny_builtin PyProof.Rows.F.entry_set_update_loop ?_
    rw [Around.under_plainId PyProof.Rows.F.plain_set_update_loop _]
    show wpAny _ A.in1 (pyNext (.ref I) >>= _) _ _ s
    refine wpAny_bind (W.done s _ _ hst fun s' mv => ?_)
    have et : ks.take i = ks := List.take_of_length_le (by omega)
    rw [et] at hs
    exact wpAny_pure (hR s' (mv.mono sub) (carry hs fun o q => mv.heap S o nS q))
  | succ m ih =>
    intro i s e hi hst hs hR
    have lt : i < n := by omega
    refine codeAny_builtin PyProof.Rows.F.entry_set_update_loop ?_
    rw [Around.under_plainId PyProof.Rows.F.plain_set_update_loop _]
    show wpAny _ A.in1 (pyNext (.ref I) >>= _) _ _ s
    refine wpAny_bind (W.item i s _ _ lt hst fun v s' hP hst' mv => ?_)
    obtain ⟨k, hk, kv⟩ := hval i v hP
    have hs1 := carry (h' := s'.heap) hs fun o q => mv.heap S o nS q
    have sc : v.scannable = true := by
      rcases keyIs_shape kv with ⟨_, _, _, rfl⟩ | ⟨_, _, _, rfl⟩ <;> rfl
    show wpAny _ A.in1 (holding [v] (setAdd S v) >>= _) _ _ s'
    refine wpAny_bind (wpAny_holding ?_)
    unfold setAdd
    refine wpAny_holding (wpAny_bind ((mixKind P w).pyHash (k := k) kv ?_))
    have few : (uniq (ks.take i)).length + 1 < scanBound := by
      have h1 := uniq_le (ks.take i)
      have h2 : (ks.take i).length ≤ ks.length := by rw [List.length_take]; omega
      omega
    refine wpAny_setAddHashed_of (knd := mixKind P w) (s := { s' with toks := s'.toks + 1 }) kv sc hs1 few fun h' sb hs2 => ?_
    have et : ks.take (i + 1) = ks.take i ++ [k] := by rw [List.take_add_one, hk]; rfl
    have hs3 : h'.SetOf (mixKind P w) S (fun k' => decide (k' ∈ ks.take (i + 1))) (uniq (ks.take (i + 1))).length := by
      rw [et, uniq_snoc]
      refine setOf_same hs2 (fun k' => ?_) ?_
      · by_cases z : k' = k <;> simp [z]
      · unfold addU
        by_cases z : k ∈ ks.take i
        · rw [if_pos (decide_eq_true z), if_pos (uniq_mem.mpr z)]
        · rw [if_neg (by simpa using z), if_neg (fun q => z (uniq_mem.mp q))]
          simp
    refine wpAny_pure ⟨plainId_quiet PyProof.Rows.F.plain_set_update_loop _, ih (i + 1) _ (by omega) lt (W.frame _ s' _ _ hst' (Nat.le_succ _) fun b hb o q => ?_) hs3 fun s'' mv2 hs4 => ?_⟩
    · rw [sb.2 b (fun z : b = S => hS0 (z ▸ hb))]; exact q
    · refine hR s'' (Moved.trans W.gtrans ((mv.mono sub).then_heap (Nat.le_succ _) fun b o hb q => ?_) mv2) hs4
      rw [sb.2 b (fun z : b = S => hb (z ▸ List.mem_cons_self))]; exact q
end
section
variable {P : Program} {w : World} {A : Around} {E : Value → Shared → Prop} {s : Shared}
abbrev newSet (w : World) : Obj := { cls := .type "set", dict := none, data := .set #[] 0 (.fresh 0 0 (!w.params.followText "set-order")) }
theorem set_of {l : Addr} {items : Array Value} {Q : Value → Shared → Prop} (J : Heap → Prop) (hh : A.handled = none) (hl : s.heap.IsList l items ∨ s.heap.IsTuple l items)
    (loop : ∀ (A0 : Around) (R : Result → Shared → Prop) (I : Addr) (fp wr : List Addr) (St : Nat → Shared → Prop) (s0 : Shared), WalksS P w A0.in1 I fp wr (fun a b => b = a) items.size (fun i v => items[i]? = some v) St → s.heap.objs.size ∉ fp →
      s0.heap.get? s.heap.objs.size = some { cls := .type "set", dict := none, data := .set #[] 0 (.fresh 0 0 (!w.params.followText "set-order")) } → St 0 s0 →
      (∀ s', Moved (s.heap.objs.size :: wr) (fun a b => b = a) s0 s' → J s'.heap → R (.ok (.ret .none)) s') → codeAny (model P w) A0 (.builtin "set.update.loop" ⟨[.ref s.heap.objs.size, .ref I], []⟩) R s0)
    (h : ∀ (h' : Heap) (tk : Nat), J h' → (∀ b o, b < s.heap.objs.size → s.heap.get? b = some o → h'.get? b = some o) → Q (.ref s.heap.objs.size) { s with heap := h', toks := tk }) :
    wpAny (model P w) A (call (.type "set") [.ref l]) Q E s := by
  obtain ⟨c, tl, mro⟩ := PySem.F.called_set.mro
  have q1 := PySem.F.called_set.made
  have q2 := PySem.F.called_set.sub
  refine wpAny_call (codeAny_of_tree ?_)
  show wpAny _ _ (callAny (.type "set") _) _ _ _
  refine wpAny_pure ⟨Code.quiet_builtin _ (by decide +kernel), codeAny_builtin PySem.F.entry_type_call ?_⟩
  rw [Around.under_plain (weight_type_call_type "set" [.ref l] []) rfl]
  have q3 := PySem.F.called_set.notType
  have q4 := PySem.F.called_set.canCreate
  have q5 := PySem.F.typeCall_set_1 (.ref l)
  repeat (any_goals (first | assumption | wp_step))
  refine codeAny_mono (code_set_led1 (.ref l) (E := E) (Q₁ := fun ob s₁ => ob = .ref s.heap.objs.size ∧ s₁ = { s with heap := s.heap.push { cls := .type "set", dict := none, data := .set #[] 0 (.fresh 0 0 (!w.params.followText "set-order")) } }) ⟨rfl, rfl⟩) fun r s₁ hr => ?_
  cases r with
  | error e => exact hr
  | ok fl =>
    cases fl with
    | ret ob =>
      obtain ⟨rfl, rfl⟩ := hr
      have gS : (s.heap.push ({ cls := .type "set", dict := none, data := .set #[] 0 (.fresh 0 0 (!w.params.followText "set-order")) } : Obj)).get? s.heap.objs.size = some ({ cls := .type "set", dict := none, data := .set #[] 0 (.fresh 0 0 (!w.params.followText "set-order")) } : Obj) := Heap.get?_push_size _ rfl
      have tS : Shared.TypeIs { s with heap := s.heap.push ({ cls := .type "set", dict := none, data := .set #[] 0 (.fresh 0 0 (!w.params.followText "set-order")) } : Obj) } (.ref s.heap.objs.size) "set" := ⟨_, gS, rfl⟩
      have q6 := PySem.F.called_set.init.lookup
      have q7 := PySem.F.called_set.init.bind (.ref s.heap.objs.size)
      repeat (any_goals (first | assumption | wp_step))
      refine codeAny_mono (codeAny_call_builtin (R := wants (fun r s₂ => r = .none ∧ ∃ h' tk, s₂ = { s with heap := h', toks := tk } ∧ J h' ∧
          (∀ b o, b < s.heap.objs.size → s.heap.get? b = some o → h'.get? b = some o)) E) PySem.F.called_set.init.plain PySem.F.entry_set_init (check_set_init_1 tS ?_)) fun r₂ s₂ hr₂ => ?_
      · have fin : ∀ (s' : Shared) (it : Obj) (tk : Nat), Moved [s.heap.objs.size, (s.heap.push ({ cls := .type "set", dict := none, data := .set #[] 0 (.fresh 0 0 (!w.params.followText "set-order")) } : Obj)).objs.size] (fun a b => b = a) { s with heap := (s.heap.push ({ cls := .type "set", dict := none, data := .set #[] 0 (.fresh 0 0 (!w.params.followText "set-order")) } : Obj)).push it, toks := tk } s' → J s'.heap →
            ∃ h' tk, s' = { s with heap := h', toks := tk } ∧ J h' ∧ (∀ b o, b < s.heap.objs.size → s.heap.get? b = some o → h'.get? b = some o) := fun s' it tk mv hs => by
          obtain ⟨h', g', d', tk', os'⟩ := s'
          have e1 := mv.gens
          have e2 : d' = s.drawn := mv.drawn
          have e3 : os' = s.os := mv.os
          simp only at e1
          subst e1; subst e2; subst e3
          refine ⟨h', tk', rfl, hs, fun b o hb e => ?_⟩
          refine mv.heap b o ?_ (Heap.get?_push_of_some _ (Heap.get?_push_of_some _ e))
          rw [Heap.size_push]
          simp only [List.mem_cons, List.not_mem_nil, or_false, not_or]
          exact ⟨Nat.ne_of_lt hb, Nat.ne_of_lt (Nat.lt_succ_of_lt hb)⟩
        have hh3 : A.in1.in1.in1.handled = none := by simp [hh]
        have lt : l < s.heap.objs.size := by
          rcases hl with ⟨o, e, _⟩ | ⟨o, e, _⟩ <;> exact Heap.lt_size e
        have nI : l ≠ (s.heap.push ({ cls := .type "set", dict := none, data := .set #[] 0 (.fresh 0 0 (!w.params.followText "set-order")) } : Obj)).objs.size := by
          rw [Heap.size_push]; exact Nat.ne_of_lt (Nat.lt_succ_of_lt lt)
        have nf : s.heap.objs.size ∉ [(s.heap.push ({ cls := .type "set", dict := none, data := .set #[] 0 (.fresh 0 0 (!w.params.followText "set-order")) } : Obj)).objs.size, l] := by
          rw [Heap.size_push]
          simp only [List.mem_cons, List.not_mem_nil, or_false, not_or]
          exact ⟨Nat.ne_of_lt (Nat.lt_succ_self _), Nat.ne_of_gt lt⟩
        rcases hl with hl | hl
        · obtain ⟨⟨ocls, od, odata, osl⟩, ho, hc, nl, hd⟩ := hl
          simp only at hc hd
          subst hc; subst hd
          have ho' : (s.heap.push ({ cls := .type "set", dict := none, data := .set #[] 0 (.fresh 0 0 (!w.params.followText "set-order")) } : Obj)).get? l = some { cls := .type "list", dict := od, data := .seq items nl, slots := osl } := Heap.get?_push_of_some _ ho
          have z1 := PySem.F.sub_list_set
          have z2 := PySem.F.sub_list_frozenset
          have z3 : (Value.type "list" == Value.type "dict") = false := by decide
          have hl1 : (s.heap.push ({ cls := .type "set", dict := none, data := .set #[] 0 (.fresh 0 0 (!w.params.followText "set-order")) } : Obj)).IsList l items := ⟨_, ho', rfl, nl, rfl⟩
          unfold Builtin.«set.__init__» noKeywords Builtin.Frozenset.updateFrom
          generalize hPI : pyIter = PI
          wp_walk
          subst hPI
          refine wpAny_pyIter_list hl1 ?_
          refine wpAny_bind (wpAny_runValue ?_)
          refine loop _ _ _ _ _ _ _ ((Walks.list hh3 _ l nI items).toS) nf (Heap.get?_push_of_some _ gS) ⟨⟨_, Heap.get?_push_size _ rfl, rfl, rfl⟩, (hl1.push _)⟩ fun s' mv hs => ?_
          obtain ⟨h', tk', rfl, hs', hk⟩ := fin s' _ _ mv hs
          show wpAny _ _ _ _ _ _
          refine wpAny_pure ?_
          show wpAny _ _ (ret Value.none) _ _ _
          exact wpAny_pure ⟨rfl, h', tk', rfl, hs', hk⟩
        · obtain ⟨⟨ocls, od, odata, osl⟩, ho, hc, nl, hd⟩ := hl
          simp only at hc hd
          subst hc; subst hd
          have ho' : (s.heap.push ({ cls := .type "set", dict := none, data := .set #[] 0 (.fresh 0 0 (!w.params.followText "set-order")) } : Obj)).get? l = some { cls := .type "tuple", dict := od, data := .seq items nl, slots := osl } := Heap.get?_push_of_some _ ho
          have z1 := PySem.F.sub_tuple_set
          have z2 := PySem.F.sub_tuple_frozenset
          have z3 : (Value.type "tuple" == Value.type "dict") = false := by decide
          have hl1 : (s.heap.push ({ cls := .type "set", dict := none, data := .set #[] 0 (.fresh 0 0 (!w.params.followText "set-order")) } : Obj)).IsTuple l items := ⟨_, ho', rfl, nl, rfl⟩
          unfold Builtin.«set.__init__» noKeywords Builtin.Frozenset.updateFrom
          generalize hPI : pyIter = PI
          wp_walk
          subst hPI
          refine wpAny_pyIter_tuple hl1 ?_
          refine wpAny_bind (wpAny_runValue ?_)
          refine loop _ _ _ _ _ _ _ ((Walks.tuple hh3 _ l nI items).toS) nf (Heap.get?_push_of_some _ gS) ⟨⟨_, Heap.get?_push_size _ rfl, rfl, rfl⟩, (hl1.push _)⟩ fun s' mv hs => ?_
          obtain ⟨h', tk', rfl, hs', hk⟩ := fin s' _ _ mv hs
          show wpAny _ _ _ _ _ _
          refine wpAny_pure ?_
          show wpAny _ _ (ret Value.none) _ _ _
          exact wpAny_pure ⟨rfl, h', tk', rfl, hs', hk⟩
      · cases r₂ with
        | error e => exact hr₂
        | ok fl₂ =>
          cases fl₂ with
          | ret r =>
            obtain ⟨rfl, h', tk, rfl, hs, hk⟩ := hr₂
            repeat (any_goals (first | assumption | wp_step))
            exact h _ _ hs hk
          | _ => exact hr₂.elim
    | _ => exact hr.elim
theorem set_of_keys {l : Addr} {items : Array Value} {ks : List Key} {Q : Value → Shared → Prop} (hh : A.handled = none) (hl : s.heap.IsList l items ∨ s.heap.IsTuple l items) (hi : keysAre items.toList ks) (hb : ks.length + 1 < scanBound)
    (h : ∀ (h' : Heap) (tk : Nat), h'.SetOf (mixKind P w) s.heap.objs.size (fun k => decide (k ∈ ks)) (uniq ks).length → (∀ b o, b < s.heap.objs.size → s.heap.get? b = some o → h'.get? b = some o) → Q (.ref s.heap.objs.size) { s with heap := h', toks := tk }) :
    wpAny (model P w) A (call (.type "set") [.ref l]) Q E s := by
  have isz : items.size = ks.length := by
    have := hi.len
    rwa [Array.length_toList] at this
  refine set_of (fun h' => h'.SetOf (mixKind P w) s.heap.objs.size (fun k => decide (k ∈ ks)) (uniq ks).length) hh hl (fun A0 R I fp wr St s0 W nf g st k => ?_) h
  exact keys_loop W _ nf ks isz hb (fun i v hv => hi.at (by rw [Array.getElem?_toList]; exact hv)) (items.size - 0) 0 s0 rfl (Nat.zero_le _) st ⟨_, #[], 0, _, g, ⟨rfl, rfl, rfl⟩, rfl, (fun e he => by simp at he), (fun k => by simp), (by decide), (by rfl), rfl⟩ k
theorem set_of_ints {l : Addr} {items : Array Value} {ns : List Int} {Q : Value → Shared → Prop} (hh : A.handled = none) (hl : s.heap.IsList l items ∨ s.heap.IsTuple l items) (hi : IntsAre items.toList ns) (hb : ns.length + 1 < scanBound)
    (h : ∀ (h' : Heap) (tk : Nat), (∃ c, c ≤ items.size ∧ SetR w h' s.heap.objs.size (fun k => decide (k ∈ ns)) c) → (∀ b o, b < s.heap.objs.size → s.heap.get? b = some o → h'.get? b = some o) → Q (.ref s.heap.objs.size) { s with heap := h', toks := tk }) :
    wpAny (model P w) A (call (.type "set") [.ref l]) Q E s := by
  have isz : items.size = ns.length := by
    have := IntsAre.length hi
    rwa [Array.length_toList] at this
  refine set_of (fun h' => ∃ c, c ≤ items.size ∧ SetR w h' s.heap.objs.size (fun k => decide (k ∈ ns)) c) hh hl (fun A0 R I fp wr St s0 W nf g st k => ?_) h
  refine set_update_ints W _ nf ns isz hb (fun i v hv => ?_) (items.size - 0) 0 s0 rfl (Nat.zero_le _) st ⟨0, Nat.le_refl 0, setR_new_at g⟩ fun s' c mv hc hs => k s' mv ⟨c, hc, hs⟩
  have lt : i < ns.length := by rw [← isz]; exact (Array.getElem?_eq_some_iff.mp hv).1
  obtain ⟨t, e⟩ := PyProof.Rows.IntsAre.int_at hi i v (by rw [Array.getElem?_toList]; exact hv)
  refine ⟨ns[i], t, List.getElem?_eq_getElem lt, ?_⟩
  rw [e, List.getD_eq_getElem?_getD, List.getElem?_eq_getElem lt] <;> rfl
end

/-- sorted(s) of a set of ints, of any size -/
theorem sort_set {P : Program} {w : World} {A : Around} {E : Value → Shared → Prop} {s : Shared} {a : Addr} {S : Int → Bool} {n : Nat} {Q : Value → Shared → Prop} (R : SetR w s.heap a S n) (hh : A.handled = none) (hn : n ≤ 16777216)
    (k : ∀ s' p (out : Array Value) (c : Nat) (ns : List Int), (∀ b o, s.heap.get? b = some o → s'.heap.get? b = some o) → s'.gens = s.gens → s'.os = s.os → s.heap.objs.size ≤ p →
      s'.heap.get? p = some (seqObj "list" out c) → IntsAre out.toList ns → ns.Pairwise (· < ·) → (∀ i, i ∈ ns ↔ S i = true) → ns.length = n → Q (.ref p) s') :
    wpAny (model P w) A (call (.builtin "sorted") [.ref a]) Q E s := by
  obtain ⟨o, es, ep, t, ho, ex, hd, g, nd, mem, few, fits, sz, pl, led⟩ := R
  refine Calls.call_function_entry kind_sorted plain_sorted entry_sorted (args_sorted1 _) ?_
  unfold Builtin.«sorted»
  refine wpAny_bind (m := checkCount "sorted" 1 1 _) (wpAny_pure ?_)
  refine wpAny_bind (collect_set (A := A.in1) hh ⟨o, ho, ex.1, hd⟩ fits few pl led fun s1 vs keep lo gn os pm => ?_)
  have lv : vs.length = n := by rw [pm.length_eq, List.length_map, Array.length_toList]; exact sz
  have iv : IntsAre vs (vs.map Builtin.Re.reRawOf) := ints_of vs fun v hv => by
    obtain ⟨e, he, q⟩ := List.mem_map.mp (pm.mem_iff.mp hv)
    obtain ⟨i, tk, h1, _⟩ := g e he
    exact ⟨i, tk, by rw [← q]; exact h1⟩
  have pk : (vs.map Builtin.Re.reRawOf).Perm (es.toList.map keyOf) := by
    have q := pm.map Builtin.Re.reRawOf
    rwa [List.map_map] at q
  have zv : vs.length ≤ sizeLine := by rw [lv, sizeLine_eq]; exact hn
  refine wpAny_bind (wpAny_newList ?_ zv)
  have oL : (s1.heap.push (seqObj "list" vs.toArray 0)).get? s1.heap.objs.size = some (seqObj "list" vs.toArray 0) := Heap.get?_push_size _ rfl
  refine wpAny_bind (wpAny_holding (wpAny_call_entry slot_list_sort ⟨_, oL, rfl⟩ entry_list_sort (SrtO.list_sort_ord SrtO.swo_int oL zv (fun h2 => SrtO.ints_sortable iv h2) fun out hs hb => ⟨_, rfl, ?_⟩) (args_list_sort _)))
  obtain ⟨h1, h2, h3⟩ := SrtO.ints_out iv hs hb
  obtain ⟨c, hc⟩ := sortedHeap_at (vs := vs) (out := out.toArray) oL
  have pn := h2.trans pk
  refine wpAny_pure ⟨_, rfl, k _ s1.heap.objs.size out.toArray c _ (fun b u e => ?_) gn os lo hc (by simpa using h1) (lt_of_le_nodup _ h3 (pn.nodup_iff.mpr nd)) (fun i => by rw [pn.mem_iff, ← mem i]) ?_⟩
  · have q := keep b u e
    have lt := Heap.lt_size q
    show (sortedHeap (s1.heap.push (seqObj "list" vs.toArray 0)) s1.heap.objs.size vs out.toArray).get? b = some u
    rw [sortedHeap_old (Nat.ne_of_lt lt) (by rw [size_push']; exact Nat.lt_succ_of_lt lt)]
    exact Heap.get?_push_of_some _ q
  · rw [pn.length_eq, List.length_map, Array.length_toList]; exact sz

/-! ### over data -/
theorem keys_of {K : PySem.W.Frag} {H : Hp} : ∀ {ks : List Key} {vs : List V} {us : List Value}, RpAll K H vs (ks.map keyD) → Vals vs us → keysAre us ks
  | [], _, _, .nil, .nil => .nil
  | .inl i :: ks, _, _, .cons r t, .cons q p => by
    cases r
    obtain ⟨tk, rfl⟩ := q
    exact .cons (keyIs_int _ _) (keys_of t p)
  | .inr x :: ks, _, _, .cons r t, .cons q p => by
    cases r
    obtain ⟨tk, rfl⟩ := q
    exact .cons (keyIs_str _ _) (keys_of t p)
theorem ints_of_rp {K : PySem.W.Frag} {H : Hp} : ∀ {ns : List Int} {vs : List V} {us : List Value}, RpAll K H vs (ns.map PyData.int) → Vals vs us → IntsAre us ns
  | [], _, _, .nil, .nil => .nil
  | i :: ns, _, _, .cons r t, .cons q p => by
    cases r
    obtain ⟨tk, rfl⟩ := q
    exact .cons _ _ (ints_of_rp t p)
/-- len(set(..)) -/
def fLenSet (d : D) (Q : EK) : Prop := ∃ ks : List Key, (d = .list (ks.map keyD) ∨ d = .tuple (ks.map keyD)) ∧ ks.length ≤ 4000 ∧ Q (.int (uniq ks).length)
/-- sorted(set(..)) -/
def fSortSet (d : D) (Q : EK) : Prop := ∃ ns : List Int, (d = .list (ns.map PyData.int) ∨ d = .tuple (ns.map PyData.int)) ∧ ns.length ≤ 4000 ∧ ∀ ms : List Int, ms.Pairwise (· < ·) → (∀ k, k ∈ ms ↔ k ∈ ns) → Q (.list (ms.map PyData.int))
theorem rp_ints {K : PySem.W.Frag} {H : Hp} : ∀ ns : List Int, RpAll K H (ns.map V.int) (ns.map PyData.int)
  | [] => .nil
  | i :: ns => .cons (.int i) (rp_ints ns)
theorem seq_at {K : PySem.W.Frag} {H : Hp} {v : V} {d : D} {ds : List D} (r : Rp K H v d) (hd : d = .list ds ∨ d = .tuple ds) : ∃ a vs, v = .ref a ∧ (SqL K H a vs ∨ SqT K H a vs) ∧ RpAll K H vs ds := by
  rcases hd with rfl | rfl
  · cases r with
    | lst e z q => exact ⟨_, _, rfl, .inl (SqL.of e), q⟩
  · cases r with
    | tup e z q => exact ⟨_, _, rfl, .inr e, q⟩
section
variable {P : Program} {w : World} {X : Cx} {pos : Pos} {a : Expr} {da : DE}
theorem seq_items {pins : List (Addr × Obj)} {σ : L2.St} {H : Hp} {s : Shared} {l : Addr} {vs : List V} (I : Inv X pins σ H s) (h : SqL X.K H l vs ∨ SqT X.K H l vs) : ∃ its : List Value, Vals vs its ∧ (s.heap.IsList l its.toArray ∨ s.heap.IsTuple l its.toArray) := by
  rcases h with h | h
  · obtain ⟨its, r, p, _⟩ := I.list h
    exact ⟨its, r, .inl p.isList⟩
  · obtain ⟨its, r, p, _⟩ := I.tuple h
    exact ⟨its, r, .inr (show s.heap.IsTuple l its.toArray from p)⟩
theorem e_lenSet {p p2 q : Pos} (hm : X.mg "len" = none) (hm2 : X.mg "set" = none) (hc : X.calm = true) (ha : PE X a (LE P w X.K da)) (hg : Gl X "len" := by rfl) (hg2 : Gl X "set" := by rfl) (na : starEach [a] X.env = (false, eval a X.env) :: starEach [] X.env := by rfl) :
    PE X (.Call (.Name "len" p) [.Call (.Name "set" p2) [a] [] q] [] pos) (LE P w X.K (dUn fLenSet da)) := by
  refine ⟨fun pins s σ H Q I h => ?_⟩
  obtain ⟨F, A, ω, R, c, h, k⟩ := h
  refine Call_ (ld_blt I hg hm PySem.boot_len ?_)
  refine PyProof.Rows.callWith_builtin1 (PyProof.Rows.args_cons ?_ rfl) rfl rfl
  refine Call_ (ld_blt I hg2 hm2 PyProof.Rows.boot_set ?_)
  refine PyProof.Rows.callWith_type1 (PyProof.Rows.args_cons (thn (ha.run pins s σ H _ I ⟨F, A, ω, _, c, h, fun d hd v H1 e1 r1 => (⟨d, hd, e1, r1⟩ : ∃ d, fLenSet d R ∧ Same H H1 ∧ Rp X.K (hid (A ++ F.B) H1) v d)⟩) fun v s1 ⟨x, H1, I1, r1, d, hd, e1, rp⟩ => PyProof.Rows.args_nil ?_) na) na rfl
  obtain ⟨ks, hd, hl, hR⟩ := hd
  obtain ⟨l, vs, rfl, hq, hv⟩ := seq_at (rp.mono hid_le) hd
  cases r1
  obtain ⟨its, rv, hi⟩ := seq_items I1 hq
  refine set_of_keys (I1.ok.hd hc) hi (keys_of hv (by simpa using rv)) (by unfold scanBound; omega) fun h' tk hS hk => ?_
  obtain ⟨o, es, ep, t, ho, hex, hdt, _, _, _, hf, hn⟩ := hS
  have I2 : Inv X pins σ H1 { s1 with heap := h', toks := tk } := I1.kept fun b o e => hk b o (Heap.lt_size e) e
  have hu := uniq_le ks
  refine PyProof.Rows.args_nil ?_
  exact call_len_set ho hex hdt hf (by rw [hn]; omega) ⟨.int (uniq ks).length, H1, I2.tok _, ⟨_, by rw [hn]⟩, k _ hR _ H1 e1 (.int _)⟩
theorem e_sortSet {p p2 q : Pos} (hm : X.mg "sorted" = none) (hm2 : X.mg "set" = none) (hc : X.calm = true) (ha : PE X a (LE P w X.K da)) (hg : Gl X "sorted" := by rfl) (hg2 : Gl X "set" := by rfl) (na : starEach [a] X.env = (false, eval a X.env) :: starEach [] X.env := by rfl) :
    PE X (.Call (.Name "sorted" p) [.Call (.Name "set" p2) [a] [] q] [] pos) (LE P w X.K (dUn fSortSet da)) := by
  refine ⟨fun pins s σ H Q I h => ?_⟩
  obtain ⟨F, A, ω, R, c, h, k⟩ := h
  refine Call_ (ld_blt I hg hm bo_sorted ?_)
  refine PyProof.Rows.callWith_builtin1 (PyProof.Rows.args_cons ?_ rfl) rfl rfl
  refine Call_ (ld_blt I hg2 hm2 PyProof.Rows.boot_set ?_)
  refine PyProof.Rows.callWith_type1 (PyProof.Rows.args_cons (thn (ha.run pins s σ H _ I ⟨F, A, ω, _, c, h, fun d hd v H1 e1 r1 => (⟨d, hd, e1, r1⟩ : ∃ d, fSortSet d R ∧ Same H H1 ∧ Rp X.K (hid (A ++ F.B) H1) v d)⟩) fun v s1 ⟨x, H1, I1, r1, d, hd, e1, rp⟩ => PyProof.Rows.args_nil ?_) na) na rfl
  obtain ⟨ns, hd, hl, hR⟩ := hd
  obtain ⟨l, vs, rfl, hq, hv⟩ := seq_at (rp.mono hid_le) hd
  cases r1
  obtain ⟨its, rv, hi⟩ := seq_items I1 hq
  have iz : its.length = ns.length := by rw [← rv.length, hv.length, List.length_map]
  refine set_of_ints (I1.ok.hd hc) hi (ints_of_rp hv (by simpa using rv)) (by unfold scanBound; omega) fun h' tk ⟨cc, hcc, hS⟩ hk => ?_
  have I2 : Inv X pins σ H1 { s1 with heap := h', toks := tk } := I1.kept fun b o e => hk b o (Heap.lt_size e) e
  rw [List.size_toArray] at hcc
  refine PyProof.Rows.args_nil ?_
  refine sort_set hS (I2.ok.hd hc) (by omega) fun s' p out c' ms kk g o hp hg2 hi2 hs hm3 hl3 => ?_
  have few : (ms.map V.int).length ≤ sizeLine := by rw [List.length_map, hl3, sizeLine_eq]; omega
  have hn : H1 p = none := I2.hok.fresh hp
  have J := I2.call (ch := []) (h' := s'.heap) (g' := s'.gens) (d' := s'.drawn) (t' := s'.toks) (Un.laid kk hp hn) (I2.hok.laid (o := .lst (ms.map V.int)) kk hp ⟨few, out.toList, c', vals_of_ints hi2, hg2⟩) (by rw [g]; exact I2.bare) (fun _ z => nomatch z)
  have e : s' = { s1 with heap := s'.heap, gens := s'.gens, drawn := s'.drawn, toks := s'.toks } := by
    cases s'
    cases s1
    simp only at o
    subst o
    rfl
  rw [e]
  refine ⟨.ref p, _, J, rfl, k _ (hR ms hs fun k => (hm3 k).trans (by simp)) _ _ (e1.trans (same_new hn)) ?_⟩
  exact rp_lst_new ((c.mono e1).fresh hn) hn few (rp_ints ms)
end
end DL
/-! DL: tuple(range(n)), list(range(n)), xs.count(x) of texts. -/
namespace DL
open PySem PySem.Spec PyProof.Rows L2
theorem rg_rp {K : PySem.W.Frag} {H : Hp} (a b : Int) : RpAll K H (rgV a b) (rangeD a (b - a).toNat) := by
  unfold rgV rangeD
  have : ∀ l : List Nat, RpAll K H (l.map fun i => V.int (a + (i : Nat))) (l.map fun i : Nat => PyData.int (a + (i : Int))) := by
    intro l
    induction l with
    | nil => exact .nil
    | cons x l ih => exact .cons (.int _) ih
  exact this _
def fTupRg (d : D) (Q : EK) : Prop := match d with
  | .int n => 0 ≤ n ∧ n ≤ 16777216 ∧ Q (.tuple (rangeD 0 n.toNat))
  | _ => False
def fLstRg (d : D) (Q : EK) : Prop := match d with
  | .int n => 0 ≤ n ∧ n ≤ 16777216 ∧ Q (.list (rangeD 0 n.toNat))
  | _ => False
section
variable {P : Program} {w : World} {X : Cx} {pos : Pos} {a : Expr} {da : DE}
theorem rg_few {n : Int} (h : n ≤ 16777216) : (rgV 0 n).length ≤ sizeLine := by rw [rgV_length, sizeLine_eq]; omega
theorem e_tupRg {p p2 q : Pos} (hm : X.mg "tuple" = none) (hm2 : X.mg "range" = none) (hc : X.calm = true) (ha : PE X a (LE P w X.K da)) (hg : Gl X "tuple" := by rfl) (hg2 : Gl X "range" := by rfl) (na : starEach [a] X.env = (false, eval a X.env) :: starEach [] X.env := by rfl)
    (na2 : starEach [.Call (.Name "range" p2) [a] [] q] X.env = (false, eval (.Call (.Name "range" p2) [a] [] q) X.env) :: starEach [] X.env := by rfl) :
    PE X (.Call (.Name "tuple" p) [.Call (.Name "range" p2) [a] [] q] [] pos) (LE P w X.K (dUn fTupRg da)) := by
  refine PE.imp (pe_tupRg hc hg hm (prg_1 hg2 hm2 ha na) na2) fun σ H Q ⟨F, A, ω, R, c, h, k⟩ => ⟨F, A, ω, _, c, h, fun x hx v H1 e1 r1 => ?_⟩
  cases r1 with
  | int n =>
    obtain ⟨h0, h1, hR⟩ : 0 ≤ n ∧ n ≤ 16777216 ∧ R (.tuple (rangeD 0 n.toNat)) := hx
    refine ⟨n, rfl, RgOk.of_le (by omega) h1 (by omega) h0, fun p hp => k _ hR _ _ (e1.trans (same_new hp)) ?_⟩
    have := rg_rp (K := X.K) (H := hid (A ++ F.B) H1) 0 n
    rw [Int.sub_zero] at this
    exact rp_tup_new ((c.mono e1).fresh hp) hp (rg_few h1) this
  | _ => exact False.elim hx
theorem e_lstRg {p p2 q : Pos} (hm : X.mg "list" = none) (hm2 : X.mg "range" = none) (hc : X.calm = true) (ha : PE X a (LE P w X.K da)) (hg : Gl X "list" := by rfl) (hg2 : Gl X "range" := by rfl) (na : starEach [a] X.env = (false, eval a X.env) :: starEach [] X.env := by rfl)
    (na2 : starEach [.Call (.Name "range" p2) [a] [] q] X.env = (false, eval (.Call (.Name "range" p2) [a] [] q) X.env) :: starEach [] X.env := by rfl) :
    PE X (.Call (.Name "list" p) [.Call (.Name "range" p2) [a] [] q] [] pos) (LE P w X.K (dUn fLstRg da)) := by
  refine PE.imp (pe_listRg hc hg hm (prg_1 hg2 hm2 ha na) na2) fun σ H Q ⟨F, A, ω, R, c, h, k⟩ => ⟨F, A, ω, _, c, h, fun x hx v H1 e1 r1 => ?_⟩
  cases r1 with
  | int n =>
    obtain ⟨h0, h1, hR⟩ : 0 ≤ n ∧ n ≤ 16777216 ∧ R (.list (rangeD 0 n.toNat)) := hx
    refine ⟨n, rfl, RgOk.of_le (by omega) h1 (by omega) h0, fun p hp => k _ hR _ _ (e1.trans (same_new hp)) ?_⟩
    have := rg_rp (K := X.K) (H := hid (A ++ F.B) H1) 0 n
    rw [Int.sub_zero] at this
    exact rp_lst_new ((c.mono e1).fresh hp) hp (rg_few h1) this
  | _ => exact False.elim hx
end
section
variable {Q : EK} {n : Int}
@[simp] theorem x_tupRg : fTupRg (.int n) Q = (0 ≤ n ∧ n ≤ 16777216 ∧ Q (.tuple (rangeD 0 n.toNat))) := rfl
@[simp] theorem x_lstRg : fLstRg (.int n) Q = (0 ≤ n ∧ n ≤ 16777216 ∧ Q (.list (rangeD 0 n.toNat))) := rfl
end
theorem lenSet_ints {ns : List Int} {Q : EK} {d : D} (hd : d = .list (ns.map PyData.int) ∨ d = .tuple (ns.map PyData.int)) (hl : ns.length ≤ 4000) (h : Q (.int (uniq ns).length)) : fLenSet d Q := by
  have inj : ∀ (xs : List Int), (uniq (xs.map Sum.inl : List Key)) = (uniq xs).map Sum.inl := fun xs => by
    refine uniq_ind (P := fun xs u => uniq (xs.map Sum.inl : List Key) = u.map Sum.inl) rfl (fun xs u x ih => ?_) xs
    rw [List.map_append, List.map_singleton, uniq_snoc, ih]
    unfold addU
    have e : ((Sum.inl x : Key) ∈ u.map Sum.inl) ↔ x ∈ u := by simp
    by_cases z : x ∈ u
    · rw [if_pos z, if_pos (e.mpr z)]
    · rw [if_neg z, if_neg (fun q => z (e.mp q))]; simp
  refine ⟨ns.map Sum.inl, ?_, by simpa using hl, ?_⟩
  · have e : (ns.map Sum.inl : List Key).map keyD = ns.map PyData.int := by simp [List.map_map, Function.comp_def, keyD]
    rw [e]; exact hd
  · rw [inj, List.length_map]; exact h
theorem lenSet_strs {ns : List Str} {Q : EK} {d : D} (hd : d = .list (ns.map PyData.str) ∨ d = .tuple (ns.map PyData.str)) (hl : ns.length ≤ 4000) (h : Q (.int (uniq ns).length)) : fLenSet d Q := by
  have inj : ∀ (xs : List Str), (uniq (xs.map Sum.inr : List Key)) = (uniq xs).map Sum.inr := fun xs => by
    refine uniq_ind (P := fun xs u => uniq (xs.map Sum.inr : List Key) = u.map Sum.inr) rfl (fun xs u x ih => ?_) xs
    rw [List.map_append, List.map_singleton, uniq_snoc, ih]
    unfold addU
    have e : ((Sum.inr x : Key) ∈ u.map Sum.inr) ↔ x ∈ u := by simp
    by_cases z : x ∈ u
    · rw [if_pos z, if_pos (e.mpr z)]
    · rw [if_neg z, if_neg (fun q => z (e.mp q))]; simp
  refine ⟨ns.map Sum.inr, ?_, by simpa using hl, ?_⟩
  · have e : (ns.map Sum.inr : List Key).map keyD = ns.map PyData.str := by simp [List.map_map, Function.comp_def, keyD]
    rw [e]; exact hd
  · rw [inj, List.length_map]; exact h
end DL
namespace My
open PySem PySem.Spec L2 DL
def topS (i : Nat) : Stmt := PySem.Challenge.pw_steadypages_k13_what_is_a_view.main.body.getD i (.Pass ⟨0, 0, 0, 0⟩)
abbrev s_is_integer : Stmt := topS 3
abbrev N_is_integer : List Str := ["value"]
abbrev s_is_printable : Stmt := topS 4
abbrev N_is_printable : List Str := ["value", "sign"]
abbrev s_is_text : Stmt := topS 5
abbrev N_is_text : List Str := ["value"]
abbrev s_is_value : Stmt := topS 6
abbrev N_is_value : List Str := ["value"]
abbrev s_is_choice : Stmt := topS 11
abbrev N_is_choice : List Str := ["value", "part"]
abbrev s_is_test : Stmt := topS 12
abbrev N_is_test : List Str := ["value", "width", "kind", "column", "operand"]
abbrev s_is_within : Stmt := topS 13
abbrev N_is_within : List Str := ["value", "width", "depth", "kind", "parts", "part"]
abbrev s_is_condition : Stmt := topS 14
abbrev N_is_condition : List Str := ["value", "width"]
abbrev s_is_order : Stmt := topS 17
abbrev N_is_order : List Str := ["value", "width", "pair"]
abbrev s_is_shown : Stmt := topS 18
abbrev N_is_shown : List Str := ["value", "width", "column"]
abbrev s_is_view : Stmt := topS 19
abbrev N_is_view : List Str := ["value", "width", "condition", "order", "shown"]
abbrev s_law_tape : Stmt := topS 21
abbrev N_law_tape : List Str := ["script", "start", "mixed", "cell", "digits"]
abbrev s_law_pick : Stmt := topS 22
abbrev N_law_pick : List Str := ["tape", "size", "found"]
abbrev s_law_one_of : Stmt := topS 23
abbrev N_law_one_of : List Str := ["tape", "items"]
abbrev s_law_value : Stmt := topS 24
abbrev N_law_value : List Str := ["tape", "signs", "turn", "some"]
abbrev s_law_test : Stmt := topS 26
abbrev N_law_test : List Str := ["tape", "width", "column", "kind", "many", "turn"]
abbrev s_law_condition : Stmt := topS 27
abbrev N_law_condition : List Str := ["tape", "width", "depth", "kind", "parts"]
abbrev s_law_view : Stmt := topS 28
abbrev N_law_view : List Str := ["tape", "width", "condition", "order", "turn", "column", "pair", "shown"]
abbrev s_law_column : Stmt := topS 29
abbrev N_law_column : List Str := ["thing", "width"]
abbrev s_law_due : Stmt := topS 30
abbrev N_law_due : List Str := ["thing", "width", "order", "shown", "columns", "pair", "column", "k"]
abbrev s_law_thing : Stmt := topS 31
abbrev N_law_thing : List Str := ["tape", "some"]
abbrev s_law_bent : Stmt := topS 32
abbrev N_law_bent : List Str := ["tape", "thing", "at", "way"]
abbrev s_law_right : Stmt := topS 33
abbrev N_law_right : List Str := ["thing", "width", "kept", "told"]
abbrev s_law : Stmt := topS 34
abbrev N_law : List Str := ["script", "start", "tape", "width", "order", "column", "view", "turn", "bent", "thing"]
def g_LIMIT : D := (.int 1000000000)
@[simp] theorem x_g_LIMIT : g_LIMIT = (.int 1000000000) := rfl
def g_MAX_CHOICES : D := (.int 8)
@[simp] theorem x_g_MAX_CHOICES : g_MAX_CHOICES = (.int 8) := rfl
def g_MAX_DEPTH : D := (.int 8)
@[simp] theorem x_g_MAX_DEPTH : g_MAX_DEPTH = (.int 8) := rfl
def g_MAX_ORDER : D := (.int 4)
@[simp] theorem x_g_MAX_ORDER : g_MAX_ORDER = (.int 4) := rfl
def g_MAX_TEXT : D := (.int 20)
@[simp] theorem x_g_MAX_TEXT : g_MAX_TEXT = (.int 20) := rfl
def g_TESTS : D := (.tuple [(.str "equal"), (.str "less"), (.str "starts"), (.str "one_of")])
@[simp] theorem x_g_TESTS : g_TESTS = (.tuple [(.str "equal"), (.str "less"), (.str "starts"), (.str "one_of")]) := rfl
def isInt : D → Bool
  | .int _ => true
  | _ => false
def rankD : D → Int
  | .none => 0
  | .int _ => 1
  | _ => 2
def codeD (d : D) : D := .tuple [.int (rankD d), match d with | .none => .int 0 | d => d]
/-- a value whose text, if it is one, is short and well made -/
def valOk : D → Prop
  | .none => True
  | .int _ => True
  | .str s => PyData.strOk s = true ∧ s.length ≤ 1000
  | _ => False
/-- -1, 0 or 1: the order of the document -/
def cmpD : D → D → Int
  | .none, .none => 0
  | .none, _ => -1
  | _, .none => 1
  | .int i, .int j => if i = j then 0 else if i < j then -1 else 1
  | .int _, _ => -1
  | _, .int _ => 1
  | .str s, .str t => if s = t then 0 else if strLt s t = true then -1 else 1
  | _, _ => 0
def codeL (d : D) : List D := [.int (rankD d), match d with | .none => .int 0 | d => d]
theorem code_shaped (d : D) (h : valOk d) : SeqAt.shaped (codeD d) = true := by
  cases d <;> simp_all [valOk, codeD, SeqAt.shaped, PyData.canLay0, PyData.canLayAll0, PyData.depth, PyData.depthAll]
theorem code_cmp (x y : D) (hx : valOk x) (hy : valOk y) : ∃ k, ltAll (codeL x) (codeL y) = some k ∧ (if PyData.eqvAll (codeL x) (codeL y) = true then 0 else if k = true then -1 else 1 : Int) = cmpD x y := by
  cases x <;> cases y <;> first | exact hx.elim | exact hy.elim | skip
  case int.int i j =>
    by_cases e : i = j <;> by_cases l : i < j <;> simp [codeL, rankD, ltAll, ltD, PyData.eqv, PyData.eqvAll, cmpD, e, l]
  case str.str i j =>
    by_cases e : i = j <;> by_cases l : strLt i j = true <;> simp [codeL, rankD, ltAll, ltD, PyData.eqv, PyData.eqvAll, cmpD, e, l]
  all_goals simp [codeL, rankD, ltAll, ltD, PyData.eqv, PyData.eqvAll, cmpD]
theorem cmp_swap (x y : D) : cmpD y x = 0 - cmpD x y := by
  cases x <;> cases y <;> try rfl
  case int.int i j =>
    simp only [cmpD]
    by_cases e : i = j
    · simp [e]
    · have e' : ¬ j = i := fun h => e h.symm
      by_cases l : i < j
      · simp [e, e', l, show ¬ j < i by omega]
      · simp [e, e', l, show j < i by omega]
  case str.str s t =>
    simp only [cmpD]
    by_cases e : s = t
    · simp [e]
    · have e' : ¬ t = s := fun h => e h.symm
      rw [strLt_swap e]
      cases strLt s t <;> simp [e, e']
/-- a value with a text of at most n signs -/
def valB (n : Nat) : D → Prop
  | .none => True
  | .int i => i.natAbs.log2 < 64
  | .str s => strB n s
  | _ => False
theorem valB.ok {n : Nat} {d : D} (h : valB n d) (hn : n ≤ 1000 := by decide) : valOk d := by
  cases d <;> first | trivial | exact ⟨strB.so (n := n) h, Nat.le_trans h.2 hn⟩ | exact h.elim
theorem valB_mono {n m : Nat} {d : D} (h : n ≤ m) (q : valB n d) : valB m d := by
  cases d <;> first | exact q | exact ⟨q.1, Nat.le_trans q.2 h⟩
theorem valB.rb {n : Nat} {d : D} (h : valB n d) : RB 0 (10 * n + 67) d := by
  cases d with
  | none => exact RB.non.mono (Nat.le_refl _) (by omega)
  | int i => exact (RB.int (k := 64) (by decide) (by decide) h).mono (Nat.le_refl _) (by omega)
  | str s => exact (RB.str h).mono (Nat.le_refl _) (by omega)
  | _ => exact h.elim
theorem code_cmp2 (x y : D) (hx : valOk x) (hy : valOk y) : ltAll (codeL x) (codeL y) = some (decide (cmpD x y < 0)) ∧ PyData.eqvAll (codeL x) (codeL y) = decide (cmpD x y = 0) := by
  cases x <;> cases y <;> first | exact hx.elim | exact hy.elim | skip
  case int.int i j =>
    by_cases e : i = j <;> by_cases l : i < j <;> simp [codeL, rankD, ltAll, ltD, PyData.eqv, PyData.eqvAll, cmpD, e, l]
  case str.str i j =>
    by_cases e : i = j
    · subst e
      simp [codeL, rankD, ltAll, ltD, PyData.eqv, PyData.eqvAll, cmpD, strLt_irr]
    · by_cases l : strLt i j = true <;> simp [codeL, rankD, ltAll, ltD, PyData.eqv, PyData.eqvAll, cmpD, e, l]
  all_goals simp [codeL, rankD, ltAll, ltD, PyData.eqv, PyData.eqvAll, cmpD]
theorem valB_str {n : Nat} {s : Str} (h : (s.cps.all prt && decide (s.length ≤ n)) = true) : valB n (.str s) := strB_of h
theorem valB_int {n : Nat} {i : Int} (h : decide (i.natAbs.log2 < 64) = true) : valB n (.int i) := of_decide_eq_true (p := i.natAbs.log2 < 64) h
theorem eq_code {x y : D} {Q : EK} (hx : valOk x) (hy : valOk y) (h : Q (.bool (decide (cmpD x y = 0)))) : fEq (.tuple (codeL x)) (.tuple (codeL y)) Q := by
  have h1 : SeqAt.shaped (.tuple (codeL x)) = true := code_shaped x hx
  have h2 : SeqAt.shaped (.tuple (codeL y)) = true := code_shaped y hy
  refine ⟨by simp [okEq, h1, h2], ?_⟩
  show Q (.bool (PyData.eqvAll (codeL x) (codeL y)))
  rw [(code_cmp2 x y hx hy).2]
  exact h
theorem ne_code {x y : D} {Q : EK} (hx : valOk x) (hy : valOk y) (h : Q (.bool (!decide (cmpD x y = 0)))) : fNe (.tuple (codeL x)) (.tuple (codeL y)) Q := by
  have h1 : SeqAt.shaped (.tuple (codeL x)) = true := code_shaped x hx
  have h2 : SeqAt.shaped (.tuple (codeL y)) = true := code_shaped y hy
  refine ⟨by simp [okEq, h1, h2], ?_⟩
  show Q (.bool (!PyData.eqvAll (codeL x) (codeL y)))
  rw [(code_cmp2 x y hx hy).2]
  exact h
theorem lt_code {x y : D} {Q : EK} (hx : valOk x) (hy : valOk y) (h : Q (.bool (decide (cmpD x y < 0)))) : fLt (.tuple (codeL x)) (.tuple (codeL y)) Q := by
  refine ⟨⟨code_shaped x hx, code_shaped y hy⟩, ?_⟩
  rw [(code_cmp2 x y hx hy).1]
  exact h
theorem shaped_list {k : Nat} {xs : List D} (hk : k + 1 ≤ 64) (h : ∀ x ∈ xs, x.canLay0 = true ∧ x.depth ≤ k) : SeqAt.shaped (.list xs) = true := by
  have : ∀ ys : List D, (∀ x ∈ ys, x.canLay0 = true ∧ x.depth ≤ k) → PyData.canLayAll0 ys = true ∧ PyData.depthAll ys ≤ k := by
    intro ys
    induction ys with
    | nil => exact fun _ => ⟨rfl, by simp [PyData.depthAll]⟩
    | cons y ys ih =>
      intro h
      obtain ⟨h1, h2⟩ := ih fun x hx => h x (List.mem_cons_of_mem _ hx)
      obtain ⟨h3, h4⟩ := h y List.mem_cons_self
      exact ⟨by simp [PyData.canLayAll0, h3, h1], by simp only [PyData.depthAll]; omega⟩
  obtain ⟨h1, h2⟩ := this xs h
  simp [SeqAt.shaped, PyData.canLay0, PyData.depth, h1]
  omega
theorem code_lay {x : D} (hx : valOk x) : (PyData.tuple (codeL x)).canLay0 = true ∧ (PyData.tuple (codeL x)).depth ≤ 1 := by
  cases x <;> first | exact hx.elim | skip
  all_goals simp_all [valOk, codeL, PyData.canLay0, PyData.canLayAll0, PyData.depth, PyData.depthAll]
theorem in_code {x : D} {vs : List D} {Q : EK} (hx : valOk x) (hv : ∀ v ∈ vs, valOk v) (h : Q (.bool (vs.any fun v => decide (cmpD x v = 0)))) : fInS false (.tuple (codeL x)) (.list (vs.map fun v => .tuple (codeL v))) Q := by
  refine inS_deep (code_shaped x hx) (shaped_list (k := 1) (by decide) fun y hy => ?_) ?_
  · obtain ⟨v, hv', rfl⟩ := List.mem_map.mp hy
    exact code_lay (hv v hv')
  · have e : inD (.tuple (codeL x)) (vs.map fun v => .tuple (codeL v)) = vs.any fun v => decide (cmpD x v = 0) := by
      unfold inD
      rw [List.any_map]
      have : ∀ v ∈ vs, ((fun y => PyData.eqv y (.tuple (codeL x))) ∘ fun v => .tuple (codeL v)) v = decide (cmpD x v = 0) := fun v hv' => by
        show PyData.eqvAll (codeL v) (codeL x) = _
        rw [(code_cmp2 v x (hv v hv') hx).2, cmp_swap x v]
        by_cases e : cmpD x v = 0
        · simp [e]
        · have : ¬ (0 - cmpD x v = 0) := by omega
          simp [e, this]
      clear h
      induction vs with
      | nil => rfl
      | cons v vs ih =>
        simp only [List.any_cons]
        rw [this v List.mem_cons_self, ih (fun v hv' => hv v (List.mem_cons_of_mem _ hv')) (fun v hv' => this v (List.mem_cons_of_mem _ hv'))]
    show Q (.bool (inD _ _))
    rw [e]
    exact h
theorem ofS_inj (a b : String) : (Str.ofString a = Str.ofString b) = (a = b) := by
  refine propext ⟨fun h => ?_, fun h => by rw [h]⟩
  rw [Str.ofString_eq_toList, Str.ofString_eq_toList] at h
  have h1 := Array.toList_inj.mpr (Str.mk.inj h)
  simp only [List.toArray] at h1
  have h2 : a.toList = b.toList := by
    have inj : ∀ l m : List Char, l.map Char.toNat = m.map Char.toNat → l = m := fun l m e => List.map_inj_right (f := Char.toNat) (fun x y z => Char.ext (UInt32.toNat_inj.mp z)) |>.mp e
    exact inj _ _ (by simpa using h1)
  exact String.toList_inj.mp h2
/-- a condition -/
inductive CT
  | all
  | eq (c : Nat) (v : D)
  | lt (c : Nat) (v : D)
  | st (c : Nat) (s : Str)
  | one (c : Nat) (vs : List D)
  | not (a : CT)
  | and (a b : CT)
  | or (a b : CT)
def CT.d : CT → D
  | .all => .tuple [.str "all"]
  | .eq c v => .tuple [.str "equal", .int c, v]
  | .lt c v => .tuple [.str "less", .int c, v]
  | .st c s => .tuple [.str "starts", .int c, .str s]
  | .one c vs => .tuple [.str "one_of", .int c, .tuple vs]
  | .not a => .tuple [.str "not", a.d]
  | .and a b => .tuple [.str "and", a.d, b.d]
  | .or a b => .tuple [.str "or", a.d, b.d]
def CT.ok (n w : Nat) : CT → Prop
  | .all => True
  | .eq c v => c < w ∧ valB n v
  | .lt c v => c < w ∧ valB n v
  | .st c s => c < w ∧ strB n s
  | .one c vs => c < w ∧ (0 < vs.length ∧ vs.length ≤ 8) ∧ ∀ v ∈ vs, valB n v
  | .not a => a.ok n w
  | .and a b => a.ok n w ∧ b.ok n w
  | .or a b => a.ok n w ∧ b.ok n w
def CT.dep : CT → Nat
  | .not a => a.dep + 1
  | .and a b => max a.dep b.dep + 1
  | .or a b => max a.dep b.dep + 1
  | _ => 0
def startsD (x : D) (s : Str) : Bool := match x with
  | .str z => Txt.startswith z s
  | _ => false
def CT.sat (vals : List D) : CT → Bool
  | .all => true
  | .eq c v => decide (cmpD (vals.getD c .none) v = 0)
  | .lt c v => decide (cmpD (vals.getD c .none) v < 0)
  | .st c s => startsD (vals.getD c .none) s
  | .one c vs => vs.any fun v => decide (cmpD (vals.getD c .none) v = 0)
  | .not a => !a.sat vals
  | .and a b => a.sat vals && b.sat vals
  | .or a b => a.sat vals || b.sat vals
theorem ix_get {ds : List D} {c : Nat} {Q : EK} (h : c < ds.length) (q : Q (ds.getD c .none)) : fIx (.tuple ds) (.int c) Q := by
  rw [ixT, List.getElem?_eq_getElem h]
  simpa [List.getD, List.getElem?_eq_getElem h] using q
theorem getD_mem {ds : List D} {c : Nat} (h : c < ds.length) : ds.getD c .none ∈ ds := by
  simp [List.getD, List.getElem?_eq_getElem h]
theorem starts_cut (z s : Str) : (cutS z none (some (s.length : Int)) = s) = (Txt.startswith z s = true) := by
  unfold cutS Txt.startswith
  rw [PySem.StrLaws.subAt_eq, HT.sIx_none, HT.sIx_nat]
  simp only [List.drop_zero, Nat.sub_zero, Nat.zero_add, Bool.and_eq_true, decide_eq_true_eq]
  have hz : z.length = z.cps.toList.length := (Array.length_toList).symm
  have hs : s.length = s.cps.toList.length := (Array.length_toList).symm
  refine propext ⟨fun h => ?_, fun ⟨h1, h2⟩ => ?_⟩
  · have e : z.cps.toList.take (min s.length z.length) = s.cps.toList := by
      have := congrArg (fun x : Str => x.cps.toList) h
      simpa using this
    have l := congrArg List.length e
    rw [List.length_take, ← hz, ← hs] at l
    refine ⟨by omega, ?_⟩
    rw [Nat.min_eq_left (by omega)] at e
    simpa using e
  · rw [Nat.min_eq_left h1]
    have e : z.cps.toList.take s.length = s.cps.toList := by simpa using h2
    rw [e]
theorem all1 {P : D → Prop} {a : D} (ha : P a) : ∀ x ∈ [a], P x := fun x hx => by
  simp only [List.mem_cons, List.not_mem_nil, or_false] at hx
  subst hx
  exact ha
theorem all2 {P : D → Prop} {a b : D} (ha : P a) (hb : P b) : ∀ x ∈ [a, b], P x := fun x hx => by
  simp only [List.mem_cons, List.not_mem_nil, or_false] at hx
  rcases hx with e | e <;> subst e
  · exact ha
  · exact hb
theorem all3 {P : D → Prop} {a b c : D} (ha : P a) (hb : P b) (hc : P c) : ∀ x ∈ [a, b, c], P x := fun x hx => by
  simp only [List.mem_cons, List.not_mem_nil, or_false] at hx
  rcases hx with e | e | e <;> subst e
  · exact ha
  · exact hb
  · exact hc
theorem CT.mono {n m w : Nat} (h : n ≤ m) : ∀ {c : CT}, c.ok n w → c.ok m w
  | .all, _ => trivial
  | .eq c v, q => ⟨q.1, valB_mono h q.2⟩
  | .lt c v, q => ⟨q.1, valB_mono h q.2⟩
  | .st c s, q => ⟨q.1, q.2.1, Nat.le_trans q.2.2 h⟩
  | .one c vs, q => ⟨q.1, q.2.1, fun v hv => valB_mono h (q.2.2 v hv)⟩
  | .not a, q => CT.mono (c := a) h q
  | .and a b, q => ⟨CT.mono (c := a) h q.1, CT.mono (c := b) h q.2⟩
  | .or a b, q => ⟨CT.mono (c := a) h q.1, CT.mono (c := b) h q.2⟩
theorem log_small {i : Int} (h : i.natAbs < 2 ^ 63) : i.natAbs.log2 < 64 := by
  by_cases z : i.natAbs = 0
  · rw [z]; decide
  · exact (Nat.log2_lt z).mpr (by omega)
theorem CT.rb {w : Nat} (hw : w ≤ 1000) : ∀ {c : CT}, c.ok 20 w → RB (c.dep + 2) (7000 * 4 ^ c.dep) c.d := by
  have word : ∀ {s : Str}, strB 20 s → RB 2 1700 (.str s) := fun h => (RB.str h).mono (by omega) (by omega)
  have num : ∀ {c : Nat}, c < w → RB 1 1650 (.int c) := fun {c} h => (RB.int (i := (c : Int)) (k := 64) (by decide) (by decide) (log_small (by omega))).mono (by omega) (by omega)
  have leaf : ∀ {xs : List D}, xs.length ≤ 3 → (∀ x ∈ xs, RB 1 1650 x) → RB 2 7000 (.tuple xs) := fun hl h => (RB.tup h hl).mono (by omega) (by omega)
  have up : ∀ {k : Nat} {xs : List D}, xs.length ≤ 3 → (∀ x ∈ xs, RB (k + 2) (7000 * 4 ^ k) x) → RB (k + 1 + 2) (7000 * 4 ^ (k + 1)) (.tuple xs) := fun {k xs} hl h => by
    have p : 0 < 4 ^ k := Nat.pow_pos (by decide)
    exact (RB.tup h hl).mono (by omega) (by rw [Nat.pow_succ]; omega)
  have nm : ∀ {k : Nat} {s : Str}, strB 20 s → RB (k + 2) (7000 * 4 ^ k) (.str s) := fun {k s} h => by
    have p : 0 < 4 ^ k := Nat.pow_pos (by decide)
    exact (RB.str h).mono (by omega) (by omega)
  have lv : ∀ {v : D}, valB 20 v → RB 1 1650 v := fun h => h.rb.mono (by omega) (by omega)
  have kw : ∀ {s : Str}, (s.cps.all prt && decide (s.length ≤ 20)) = true → RB 1 1650 (.str s) := fun h => (RB.str (strB_of h)).mono (by omega) (by omega)
  intro c
  induction c with
  | all =>
    intro h
    exact leaf (by simp) (all1 (kw (by decide +kernel)))
  | eq c v =>
    intro h
    refine leaf (by simp) (all3 (kw (by decide +kernel)) (num h.1) (lv h.2))
  | lt c v =>
    intro h
    refine leaf (by simp) (all3 (kw (by decide +kernel)) (num h.1) (lv h.2))
  | st c s =>
    intro h
    refine leaf (by simp) (all3 (kw (by decide +kernel)) (num h.1) ((RB.str h.2).mono (by omega) (by omega)))
  | one c vs =>
    intro h
    have hv : RB 1 (8 * (200 + 67 + 2) + 3) (.tuple vs) := (RB.tup (k := 0) (n := 10 * 20 + 67) (m := 8) (fun v hv => (h.2.2 v hv).rb) h.2.1.2)
    refine (RB.tup (k := 1) (n := 2155) (m := 3) (all3 ((kw (by decide +kernel)).mono (by omega) (by omega)) ((num h.1).mono (by omega) (by omega)) hv) (by simp)).mono (by show 2 ≤ 0 + 2; omega) (by show _ ≤ 7000 * 4 ^ 0; decide)
  | not a ih =>
    intro h
    refine up (k := a.dep) (by simp) (all2 (nm (strB_of (by decide +kernel))) (ih h))
  | and a b iha ihb =>
    intro h
    have pa : 4 ^ a.dep ≤ 4 ^ max a.dep b.dep := Nat.pow_le_pow_right (by decide) (by omega)
    have pb : 4 ^ b.dep ≤ 4 ^ max a.dep b.dep := Nat.pow_le_pow_right (by decide) (by omega)
    refine up (k := max a.dep b.dep) (by simp) (all3 (nm (strB_of (by decide +kernel))) ((iha h.1).mono (by omega) (by omega)) ((ihb h.2).mono (by omega) (by omega)))
  | or a b iha ihb =>
    intro h
    have pa : 4 ^ a.dep ≤ 4 ^ max a.dep b.dep := Nat.pow_le_pow_right (by decide) (by omega)
    have pb : 4 ^ b.dep ≤ 4 ^ max a.dep b.dep := Nat.pow_le_pow_right (by decide) (by omega)
    refine up (k := max a.dep b.dep) (by simp) (all3 (nm (strB_of (by decide +kernel))) ((iha h.1).mono (by omega) (by omega)) ((ihb h.2).mono (by omega) (by omega)))
/-- an item of the order of a view -/
def ordD (p : Nat × Bool) : D := .tuple [.int p.1, .bool p.2]
structure VT where
  cond : CT
  order : List (Nat × Bool)
  shown : List Nat
def VT.ordL (v : VT) : List D := v.order.map ordD
def VT.shL (v : VT) : List D := v.shown.map fun c : Nat => .int (c : Int)
def VT.d (v : VT) : D := .tuple [v.cond.d, .tuple v.ordL, .tuple v.shL]
structure VT.ok (w : Nat) (v : VT) : Prop where
  c : v.cond.ok 20 w
  dep : v.cond.dep ≤ 2
  ol : v.order.length ≤ 4
  o : ∀ p ∈ v.order, p.1 < w
  on : (v.order.map (·.1)).Nodup
  s : ∀ c ∈ v.shown, c < w
  sl : v.shown.length ≤ w
  ss : v.shown.Pairwise (· < ·)
def keyL (v : VT) (num : D) (ds : List D) : List D := v.order.map (fun p => ds.getD p.1 .none) ++ [num]
def VT.shV (v : VT) (ds : List D) : List D := v.shown.map fun c => ds.getD c .none
/-- a comprehension with a test: some of the items -/
theorem lc_sub {g : DG} {t : DT} {el : DE} {ω : List SV} {Q : List D → Prop} : ∀ (ds acc : List D), (∀ d ∈ ds, ∀ (N : EK) (Z : Prop), N d → Z → g d ω fun ω1 => t ω1 fun b => if b = true then el ω1 N else Z) → (∀ xs, xs.Sublist ds → Q (acc ++ xs)) → dLcL g t el ω ds acc Q
  | [], acc, _, hq => by
    have := hq [] (List.Sublist.refl _)
    rw [List.append_nil] at this
    exact this
  | d :: ds, acc, he, hq => he d List.mem_cons_self _ _ (lc_sub ds (acc ++ [d]) (fun d hd => he d (List.mem_cons_of_mem _ hd)) fun xs hs => by
      rw [List.append_assoc]
      exact hq _ (hs.cons₂ d)) (lc_sub ds acc (fun d hd => he d (List.mem_cons_of_mem _ hd)) fun xs hs => hq _ (hs.cons d))
theorem range_map (n : Nat) : rangeD 0 n = (List.range n).map fun c => .int (c : Int) := by
  unfold rangeD
  apply List.map_congr_left
  intro a _
  rw [Int.zero_add]
theorem sub_range {n : Nat} {xs : List D} (h : xs.Sublist (rangeD 0 n)) : ∃ cs : List Nat, xs = cs.map (fun c => .int (c : Int)) ∧ cs.Pairwise (· < ·) ∧ (∀ c ∈ cs, c < n) ∧ cs.length ≤ n := by
  rw [range_map] at h
  obtain ⟨cs, hc, rfl⟩ := List.sublist_map_iff.mp h
  exact ⟨cs, rfl, List.pairwise_lt_range.sublist hc, fun c hm => List.mem_range.mp (hc.subset hm), by simpa using hc.length_le⟩
theorem inD_ord (c : Nat) : ∀ o : List (Nat × Bool), inD (.int c) (o.map fun p => .int (p.1 : Int)) = decide (c ∈ o.map (·.1))
  | [] => by simp [inD]
  | p :: o => by
    have ih := inD_ord c o
    unfold inD at ih ⊢
    rw [List.map_cons, List.any_cons, ih]
    show (((p.1 : Int) == (c : Int)) || _) = _
    by_cases e : p.1 = c
    · subst e; simp
    · have : ¬ ((p.1 : Int) = (c : Int)) := by omega
      have e' : ¬ c = p.1 := fun z => e z.symm
      simp [this, e']
/-- the columns of an order, read off -/
theorem ord_cols {ω : List SV} {Q : List D → Prop} {g : DG} {el : DE} (o : List (Nat × Bool)) (f : Nat × Bool → D) (he : ∀ p ∈ o, ∀ N : EK, N (f p) → g (ordD p) ω fun ω1 => el ω1 N) (hq : Q (o.map f)) : ∀ acc, acc = [] → dLcL g dYes el ω (o.map ordD) acc Q := by
  have gen : ∀ (o' : List (Nat × Bool)) (acc : List D), (∀ p ∈ o', ∀ N : EK, N (f p) → g (ordD p) ω fun ω1 => el ω1 N) → Q (acc ++ o'.map f) → dLcL g dYes el ω (o'.map ordD) acc Q := by
    intro o'
    induction o' with
    | nil =>
      intro acc _ h
      rw [List.map_nil, List.append_nil] at h
      exact h
    | cons p o' ih =>
      intro acc he h
      exact he p List.mem_cons_self _ (ih (acc ++ [f p]) (fun p hp => he p (List.mem_cons_of_mem _ hp)) (by simpa using h))
  rintro _ rfl
  exact gen o [] he (by simpa using hq)
theorem vt_ix0 {v : VT} {Q : EK} : fIx v.d (.int 0) Q = Q v.cond.d := x_ixT0
theorem vt_ix1 {v : VT} {Q : EK} : fIx v.d (.int 1) Q = Q (.tuple v.ordL) := x_ixT1
theorem vt_ix2 {v : VT} {Q : EK} : fIx v.d (.int 2) Q = Q (.tuple v.shL) := x_ixT2
theorem keyL_len {v : VT} {num : D} {ds : List D} : (keyL v num ds).length = v.order.length + 1 := by simp [keyL]
theorem key_mem {v : VT} {num x : D} {ds : List D} (ok : v.ok ds.length) (h : x ∈ keyL v num ds) : x ∈ ds ∨ x = num := by
  unfold keyL at h
  rcases List.mem_append.mp h with h | h
  · obtain ⟨p, hp, rfl⟩ := List.mem_map.mp h
    exact .inl (getD_mem (ok.o p hp))
  · exact .inr (List.mem_singleton.mp h)
theorem shV_mem {v : VT} {x : D} {ds : List D} (ok : v.ok ds.length) (h : x ∈ v.shV ds) : x ∈ ds := by
  unfold VT.shV at h
  obtain ⟨c, hc, rfl⟩ := List.mem_map.mp h
  exact getD_mem (ok.s c hc)
theorem VT.rb {w : Nat} {v : VT} (ok : v.ok w) (hw : w ≤ 100) : RB 5 400000 v.d := by
  have rc := CT.rb (by omega) ok.c
  have p4 : 4 ^ v.cond.dep ≤ 4 ^ 2 := Nat.pow_le_pow_right (by decide) ok.dep
  have num : ∀ {c : Nat}, c < w → RB 0 65 (.int c) := fun {c} h => RB.int (i := (c : Int)) (k := 64) (by decide) (by decide) (log_small (by omega))
  have ro : RB 2 (4 * (2 * (65 + 2) + 3 + 2) + 3) (.tuple v.ordL) := by
    refine RB.tup (fun x hx => ?_) (by simpa [VT.ordL] using ok.ol)
    obtain ⟨p, hp, rfl⟩ := List.mem_map.mp hx
    exact RB.tup (all2 (num (ok.o p hp)) ((RB.bl p.2).mono (by omega) (by omega))) (by simp)
  have rs : RB 1 (100 * (65 + 2) + 3) (.tuple v.shL) := by
    refine RB.tup (fun x hx => ?_) (by have := ok.sl; simp [VT.shL]; omega)
    obtain ⟨c, hc, rfl⟩ := List.mem_map.mp hx
    exact num (ok.s c hc)
  exact (RB.tup (k := 4) (n := 112000) (m := 3) (all3 (rc.mono (by have := ok.dep; omega) (by omega)) (ro.mono (by omega) (by omega)) (rs.mono (by omega) (by omega))) (by simp)).mono (by omega) (by omega)
mutual
/-- texts well made, ints of a few words, dicts empty -/
def wellB : D → Bool
  | .none | .bool _ => true
  | .int i => decide (i.natAbs.log2 < 256)
  | .str s => PyData.strOk s
  | .list xs => wellAll xs
  | .tuple xs => wellAll xs
  | .dict xs => xs.isEmpty
def wellAll : List D → Bool
  | [] => true
  | x :: xs => wellB x && wellAll xs
end
mutual
/-- room for its text -/
def szD : D → Nat
  | .none => 4
  | .bool _ => 5
  | .int _ => 258
  | .str s => 10 * s.length + 2
  | .list xs => szAll xs + 3
  | .tuple xs => szAll xs + 3
  | .dict _ => 2
def szAll : List D → Nat
  | [] => 0
  | x :: xs => szD x + 2 + szAll xs
end
theorem sz_mem : ∀ {xs : List D} {x : D}, x ∈ xs → szD x + 2 ≤ szAll xs
  | y :: xs, x, h => by
    rcases List.mem_cons.mp h with e | e
    · subst e; simp only [szAll]; omega
    · have := sz_mem e
      simp only [szAll]; omega
theorem sz_len : ∀ xs : List D, 2 * xs.length ≤ szAll xs
  | [] => by simp
  | x :: xs => by have := sz_len xs; simp only [szAll, List.length_cons]; omega
theorem well_mem : ∀ {xs : List D} {x : D}, wellAll xs = true → x ∈ xs → wellB x = true
  | y :: xs, x, h, hx => by
    have h' : wellB y = true ∧ wellAll xs = true := by simpa [wellAll] using h
    rcases List.mem_cons.mp hx with e | e
    · subst e; exact h'.1
    · exact well_mem h'.2 e
def textB (s : Str) : Bool := s.cps.toList.all prt && decide (s.length ≤ 20)
/-- what the document calls a value -/
def valueB : D → Bool
  | .none => true
  | .int i => decide (-1000000000 ≤ i) && decide (i ≤ 1000000000)
  | .str s => textB s
  | _ => false
def choiceB : D → Bool
  | .tuple xs => (decide (1 ≤ xs.length) && decide (xs.length ≤ 8)) && xs.all valueB
  | _ => false
def colB (w : Int) : D → Bool
  | .int i => decide (0 ≤ i) && decide (i < w)
  | _ => false
def operB (k : Str) (o : D) : Bool :=
  if k = "starts" then (match o with | .str s => textB s && !decide (s = "") | _ => false) else if k = "one_of" then choiceB o else valueB o
/-- a condition's form -/
def withinB (w : Int) : Nat → D → Bool
  | n + 1, .tuple (.str k :: ps) =>
    if k = "equal" ∨ k = "less" ∨ k = "starts" ∨ k = "one_of" then (match ps with | [c, o] => colB w c && operB k o | _ => false)
    else if k = "not" then (match ps with | [p] => withinB w n p | _ => false)
    else if k = "and" ∨ k = "or" then (match ps with | [p, q] => withinB w n p && withinB w n q | _ => false)
    else decide (k = "all") && ps.isEmpty
  | _, _ => false
theorem sign_le (c : Nat) : ((!strLt (⟨#[c]⟩ : Str) " ") && (!strLt "~" (⟨#[c]⟩ : Str))) = prt c := by
  have e1 : (Str.ofString " ").cps.toList = [32] := by decide +kernel
  have e2 : (Str.ofString "~").cps.toList = [126] := by decide +kernel
  unfold strLt prt
  rw [e1, e2]
  by_cases h1 : 32 ≤ c <;> by_cases h2 : c < 127 <;> simp [List.cons_lt_cons_iff, h1, h2] <;> omega
theorem str_small {s : Str} {d : D} (h : szD d ≤ 1000000) : d = .str s → s.length ≤ 100000 := fun e => by
  subst e
  simp only [szD] at h
  omega
theorem nin_false (bs : List Bool) {Q : EK} (h : Q (.bool (bs.all id))) : fInS true (.bool false) (.list (bs.map PyData.bool)) Q := by
  refine inS_plainL rfl (by simp [List.all_map, plainD, Function.comp_def]) ?_
  have e : inD (.bool false) (bs.map PyData.bool) = !(bs.all id) := by
    clear h
    induction bs with
    | nil => rfl
    | cons b bs ih =>
      unfold inD at ih ⊢
      rw [List.map_cons, List.any_cons]
      have e0 : PyData.eqv (.bool b) (.bool false) = !b := by cases b <;> decide
      rw [e0, ih, List.all_cons, Bool.not_and]
      rfl
  simpa [e] using h
theorem in3_iff {s a b c : Str} : (decide (a = s) || (decide (b = s) || decide (c = s))) = decide (s = a ∨ s = b ∨ s = c) := by
  rw [Bool.eq_iff_iff]
  simp only [Bool.or_eq_true, decide_eq_true_eq]
  exact or_congr eq_comm (or_congr eq_comm eq_comm)
theorem values_due {R : EK} {g : DG} {xs : List D} {ω : List SV} {el : DE} (hz : szAll xs ≤ 1000000) (hel : ∀ d ∈ xs, ∀ N : EK, (∀ s, d = .str s → s.length ≤ 100000) ∧ N (.bool (valueB d)) → g d ω fun ω1 => el ω1 N) (h : R (.bool (xs.all valueB))) : dLcL g dYes el ω xs [] fun ds => fInS true (.bool false) (.list ds) R := by
  refine lc_map (fun d => .bool (valueB d)) _ [] (fun d hd N hN => hel d hd N ⟨fun s e => str_small (by have := sz_mem hd; omega) e, hN⟩) ?_
  have := nin_false (xs.map valueB) (Q := R) (by simpa [List.all_map, Function.comp_def] using h)
  simpa [List.map_map, Function.comp_def] using this
theorem colB_due {w : Int} {c : D} : (match c with | .int i => decide (0 ≤ i) && decide (i ≤ w - 1) | _ => false) = colB w c := by
  cases c with
  | int i =>
    have : decide (i ≤ w - 1) = decide (i < w) := decide_eq_decide.mpr (by omega)
    simp only [colB, this]
  | _ => rfl
theorem cut_to {α : Type} (xs : List α) (k : Nat) : cutL xs none (some (k : Int)) = xs.take k := by
  unfold cutL
  rw [HT.sIx_none, HT.sIx_nat]
  simp
theorem cut_from {α : Type} (xs : List α) (k : Nat) : cutL xs (some (k : Int)) none = xs.drop k := by
  unfold cutL
  rw [HT.sIx_none, HT.sIx_nat]
  by_cases h : k ≤ xs.length
  · rw [Nat.min_eq_left h, List.take_of_length_le (by simp)]
  · rw [List.drop_eq_nil_of_le (show xs.length ≤ k by omega)]
    simp; omega
theorem sz_app : ∀ xs ys : List D, szAll (xs ++ ys) = szAll xs + szAll ys
  | [], ys => by simp [szAll]
  | x :: xs, ys => by
    have := sz_app xs ys
    simp only [List.cons_append, szAll]
    omega
theorem well_all : ∀ {xs : List D}, (∀ x ∈ xs, wellB x = true) → wellAll xs = true
  | [], _ => rfl
  | x :: xs, h => by
    have := well_all (xs := xs) fun y hy => h y (List.mem_cons_of_mem _ hy)
    simp [wellAll, this, h x List.mem_cons_self]
theorem depth_all {k : Nat} : ∀ {xs : List D}, (∀ x ∈ xs, x.depth ≤ k) → PyData.depthAll xs ≤ k
  | [], _ => by simp [PyData.depthAll]
  | x :: xs, h => by
    have h1 := depth_all (xs := xs) fun y hy => h y (List.mem_cons_of_mem _ hy)
    have h2 := h x List.mem_cons_self
    simp only [PyData.depthAll]
    omega
theorem depth_mem : ∀ {xs : List D} {x : D}, x ∈ xs → x.depth ≤ PyData.depthAll xs
  | y :: xs, x, h => by
    rcases List.mem_cons.mp h with e | e
    · subst e; simp only [PyData.depthAll]; omega
    · have := depth_mem e
      simp only [PyData.depthAll]; omega
mutual
theorem wellOk : ∀ d : D, wellB d = true → edict d = true ∧ d.showable = true ∧ d.shown.length ≤ szD d
  | .none, _ => ⟨rfl, rfl, by decide +kernel⟩
  | .bool b, _ => ⟨rfl, rfl, by cases b <;> decide +kernel⟩
  | .int i, h => by
    have h' : i.natAbs.log2 < 256 := of_decide_eq_true h
    have r := RB.int (i := i) (k := 256) (by decide) (by decide) h'
    have := r.len
    exact ⟨rfl, r.sh, by simp only [szD]; omega⟩
  | .str s, h => by
    have h0 : PyData.strOk s = true := h
    have h1 : ∀ c ∈ s.cps.toList, c < 16 ^ 8 := fun c hc => by
      simp only [PyData.strOk, ← Array.all_toList, List.all_eq_true, decide_eq_true_eq] at h0
      have := h0 c hc
      omega
    have := PySem.StrLaws.reprText_len s h1
    refine ⟨rfl, rfl, ?_⟩
    show (reprText s).length ≤ 10 * s.length + 2
    omega
  | .list xs, h => by
    obtain ⟨h1, h3, h4, h5⟩ := wellOkAll xs h
    have hl := listText_len_le (PyData.shownAll xs)
    rw [h5] at hl
    refine ⟨by simpa [edict] using h1, by simpa [PyData.showable] using h3, ?_⟩
    show (listText (PyData.shownAll xs)).length ≤ szAll xs + 3
    omega
  | .tuple xs, h => by
    obtain ⟨h1, h3, h4, h5⟩ := wellOkAll xs h
    have hl := tupleText_len_le (PyData.shownAll xs)
    rw [h5] at hl
    refine ⟨by simpa [edict] using h1, by simpa [PyData.showable] using h3, ?_⟩
    show (tupleText (PyData.shownAll xs)).length ≤ szAll xs + 3
    omega
  | .dict [], _ => ⟨rfl, rfl, by decide +kernel⟩
  | .dict (_ :: _), h => by cases h
theorem wellOkAll : ∀ xs : List D, wellAll xs = true → edictAll xs = true ∧ PyData.showableAll xs = true ∧ ((PyData.shownAll xs).map (·.length)).sum + 2 * xs.length ≤ szAll xs ∧ (PyData.shownAll xs).length = xs.length
  | [], _ => ⟨rfl, rfl, by simp [PyData.shownAll, szAll], by simp [PyData.shownAll]⟩
  | x :: xs, h => by
    have h' : wellB x = true ∧ wellAll xs = true := by simpa [wellAll] using h
    obtain ⟨a1, a2, a3⟩ := wellOk x h'.1
    obtain ⟨h1, h3, h4, h5⟩ := wellOkAll xs h'.2
    refine ⟨by simp [edictAll, a1, h1], by simp [PyData.showableAll, a2, h3], ?_, by simp [PyData.shownAll, h5]⟩
    simp only [PyData.shownAll, List.map_cons, List.sum_cons, List.length_cons, szAll]
    omega
end
theorem well_repr {d : D} (h : wellB d = true) (hz : szD d ≤ 1000000) (hd : d.depth ≤ 64) : reprOk d = true := by
  obtain ⟨h1, h2, h3⟩ := wellOk d h
  have h4 : d.shown.length ≤ sizeLine := le_size (by omega)
  simp [reprOk, h1, h2, hd, h4]
structure Gd (m k : Nat) (d : D) : Prop where
  w : wellB d = true
  s : szD d ≤ m
  d : d.depth ≤ k
theorem Gd.mono {m k m' k' : Nat} {d : D} (g : Gd m k d) (hm : m ≤ m') (hk : k ≤ k') : Gd m' k' d := ⟨g.w, Nat.le_trans g.s hm, Nat.le_trans g.d hk⟩
theorem Gd.of {m k : Nat} {xs : List D} (hm : szAll xs + 3 ≤ m) (hk : ∀ x ∈ xs, x.depth + 1 ≤ k) (hw : ∀ x ∈ xs, wellB x = true) (hk0 : 1 ≤ k) : Gd m k (.tuple xs) := by
  refine ⟨show wellAll xs = true from well_all hw, hm, ?_⟩
  have e : (PyData.tuple xs).depth = PyData.depthAll xs + 1 := by simp only [PyData.depth]
  have := depth_all (k := k - 1) (xs := xs) fun x hx => by have := hk x hx; omega
  omega
theorem Gd.str {n : Nat} {s : Str} (h : strB n s) : Gd (10 * n + 2) 0 (.str s) := ⟨h.so, by have := h.2; simp only [szD]; omega, by simp [PyData.depth]⟩
theorem Gd.val {d : D} (h : valB 20 d) : Gd 260 0 d := by
  cases d with
  | none => exact ⟨rfl, by decide, by simp [PyData.depth]⟩
  | int i =>
    have h' : i.natAbs.log2 < 64 := h
    exact ⟨decide_eq_true (by omega), by simp [szD], by simp [PyData.depth]⟩
  | str s => exact (Gd.str (n := 20) h).mono (by omega) (by omega)
  | _ => exact h.elim
theorem Gd.lit {s : Str} (h : (s.cps.all prt && decide (s.length ≤ 6)) = true) : Gd 62 0 (.str s) := by
  simp only [Bool.and_eq_true, decide_eq_true_eq] at h
  exact (Gd.str (n := 6) ⟨h.1, h.2⟩).mono (by omega) (by omega)
theorem Gd.all : Gd 67 1 (.tuple [.str "all"]) := ⟨by decide +kernel, by decide +kernel, by decide +kernel⟩
theorem Gd.col {c : Nat} (h : c < 100) : Gd 258 0 (.int (c : Int)) := ⟨decide_eq_true (by
  have : ((c : Int)).natAbs = c := by simp
  rw [this]
  have := Nat.log2_le_self c
  omega), by simp [szD], by simp [PyData.depth]⟩
theorem Gd.t2 {m k : Nat} {a d : D} (ga : Gd 62 0 a) (g : Gd m k d) : Gd (m + 100) (k + 1) (.tuple [a, d]) := by
  refine Gd.of ?_ (all2 (by have := ga.d; omega) (by have := g.d; omega)) (all2 ga.w g.w) (by omega)
  have h1 := ga.s
  have h2 := g.s
  simp only [szAll]
  omega
theorem Gd.t3 {m1 m2 k : Nat} {a d e : D} (ga : Gd 62 0 a) (g : Gd m1 k d) (g2 : Gd m2 k e) : Gd (m1 + m2 + 100) (k + 1) (.tuple [a, d, e]) := by
  refine Gd.of ?_ (all3 (by have := ga.d; omega) (by have := g.d; omega) (by have := g2.d; omega)) (all3 ga.w g.w g2.w) (by omega)
  have h1 := ga.s
  have h2 := g.s
  have h3 := g2.s
  simp only [szAll]
  omega
theorem Gd.tup2 {m k : Nat} {d : D} (g : Gd m k d) : Gd (m + 200) (k + 1) (.tuple [.str "not", d]) := (Gd.t2 (Gd.lit (by decide +kernel)) g).mono (by omega) (by omega)
theorem lit_andor {s : Str} (hs : s = "and" ∨ s = "or") : Gd 62 0 (.str s) := by
  rcases hs with h | h <;> subst h <;> exact Gd.lit (by decide +kernel)
theorem Gd.tup3a {m k : Nat} {d : D} (s : Str) (hs : s = "and" ∨ s = "or") (g : Gd m k d) (hk : 1 ≤ k) : Gd (m + 200) (k + 1) (.tuple [.str s, .tuple [.str "all"], d]) := (Gd.t3 (lit_andor hs) (Gd.all.mono (Nat.le_refl _) hk) g).mono (by omega) (by omega)
theorem Gd.tup3b {m k : Nat} {d : D} (s : Str) (hs : s = "and" ∨ s = "or") (g : Gd m k d) (hk : 1 ≤ k) : Gd (m + 200) (k + 1) (.tuple [.str s, d, .tuple [.str "all"]]) := (Gd.t3 (lit_andor hs) g (Gd.all.mono (Nat.le_refl _) hk)).mono (by omega) (by omega)
theorem sz_bound {m : Nat} : ∀ {xs : List D}, (∀ x ∈ xs, szD x ≤ m) → szAll xs ≤ xs.length * (m + 2)
  | [], _ => by simp [szAll]
  | x :: xs, h => by
    have h1 := sz_bound (xs := xs) fun y hy => h y (List.mem_cons_of_mem _ hy)
    have h2 := h x List.mem_cons_self
    simp only [szAll, List.length_cons]
    rw [Nat.add_mul]
    omega
theorem CT.good {w : Nat} : ∀ {c : CT} (n : Nat), c.ok 20 w → c.dep ≤ n → w ≤ 100 → Gd (2600 * 4 ^ n) (n + 2) c.d := by
  intro c
  have base : ∀ n : Nat, 2600 ≤ 2600 * 4 ^ n := fun n => Nat.le_mul_of_pos_right _ (Nat.pow_pos (by decide))
  induction c with
  | all => exact fun n _ _ _ => Gd.all.mono (Nat.le_trans (by decide) (base n)) (by omega)
  | eq c v => exact fun n ok _ hw => (Gd.t3 (Gd.lit (by decide +kernel)) (Gd.col (by have := ok.1; omega)) (Gd.val ok.2)).mono (Nat.le_trans (by decide) (base n)) (by omega)
  | lt c v => exact fun n ok _ hw => (Gd.t3 (Gd.lit (by decide +kernel)) (Gd.col (by have := ok.1; omega)) (Gd.val ok.2)).mono (Nat.le_trans (by decide) (base n)) (by omega)
  | st c v => exact fun n ok _ hw => (Gd.t3 (Gd.lit (by decide +kernel)) (Gd.col (by have := ok.1; omega)) (Gd.str ok.2)).mono (Nat.le_trans (by decide) (base n)) (by omega)
  | one c vs =>
    intro n ok _ hw
    obtain ⟨oc, ⟨l0, l1⟩, hv⟩ := ok
    have gv : Gd 2099 1 (.tuple vs) := Gd.of (by
      have := sz_bound (m := 260) (xs := vs) fun x hx => (Gd.val (hv x hx)).s
      omega) (fun x hx => by have := (Gd.val (hv x hx)).d; omega) (fun x hx => (Gd.val (hv x hx)).w) (by omega)
    exact (Gd.t3 (Gd.lit (by decide +kernel)) ((Gd.col (by omega)).mono (Nat.le_refl _) (by omega)) gv).mono (Nat.le_trans (by decide) (base n)) (by omega)
  | not a iha =>
    intro n ok hd hw
    have hd' : a.dep + 1 ≤ n := hd
    obtain ⟨n, rfl⟩ : ∃ m, n = m + 1 := ⟨n - 1, by omega⟩
    have b := base n
    exact (iha n ok (by omega) hw).tup2.mono (by rw [Nat.pow_succ]; omega) (by omega)
  | and a b iha ihb =>
    intro n ok hd hw
    have hd' : max a.dep b.dep + 1 ≤ n := hd
    obtain ⟨n, rfl⟩ : ∃ m, n = m + 1 := ⟨n - 1, by omega⟩
    have bb := base n
    exact (Gd.t3 (lit_andor (.inl rfl)) (iha n ok.1 (by omega) hw) (ihb n ok.2 (by omega) hw)).mono (by rw [Nat.pow_succ]; omega) (by omega)
  | or a b iha ihb =>
    intro n ok hd hw
    have hd' : max a.dep b.dep + 1 ≤ n := hd
    obtain ⟨n, rfl⟩ : ∃ m, n = m + 1 := ⟨n - 1, by omega⟩
    have bb := base n
    exact (Gd.t3 (lit_andor (.inr rfl)) (iha n ok.1 (by omega) hw) (ihb n ok.2 (by omega) hw)).mono (by rw [Nat.pow_succ]; omega) (by omega)
def fstD : D → D
  | .tuple (c :: _) => c
  | _ => .none
def pairB (w : Int) : D → Bool
  | .tuple [c, .bool _] => colB w c
  | _ => false
def colI : D → Int
  | .int i => i
  | _ => 0
def colsOf (xs : List D) : List Int := xs.map fun p => colI (fstD p)
def orderB (w : Int) : D → Bool
  | .tuple xs => decide (xs.length ≤ 4) && (xs.all (pairB w) && decide (colsOf xs).Nodup)
  | _ => false
/-- ints that ascend -/
def ascB : List Int → Bool
  | a :: b :: l => decide (a < b) && ascB (b :: l)
  | _ => true
def shownB (w : Int) : D → Bool
  | .tuple xs => xs.all (colB w) && ascB (xs.map colI)
  | _ => false
def viewB (w : Int) : D → Bool
  | .tuple [c, o, s] => withinB w 8 c && (orderB w o && shownB w s)
  | _ => false
theorem pair_col {w : Int} {p : D} (h : pairB w p = true) : ∃ (i : Int) (b : Bool), p = .tuple [.int i, .bool b] ∧ 0 ≤ i ∧ i < w := by
  unfold pairB at h
  split at h
  · rename_i c b
    unfold colB at h
    split at h
    · rename_i i
      simp only [Bool.and_eq_true, decide_eq_true_eq] at h
      exact ⟨i, b, rfl, h.1, h.2⟩
    · cases h
  · cases h
theorem col_int {w : Int} {c : D} (h : colB w c = true) : ∃ i : Int, c = .int i ∧ 0 ≤ i ∧ i < w := by
  unfold colB at h
  split at h
  · rename_i i
    simp only [Bool.and_eq_true, decide_eq_true_eq] at h
    exact ⟨i, rfl, h.1, h.2⟩
  · cases h
theorem cols_ints {w : Int} : ∀ {xs : List D}, xs.all (colB w) = true → xs = (xs.map colI).map PyData.int
  | [], _ => rfl
  | x :: xs, h => by
    rw [List.all_cons, Bool.and_eq_true] at h
    obtain ⟨i, rfl, _⟩ := col_int h.1
    rw [List.map_cons, List.map_cons, ← cols_ints h.2]
    rfl
theorem asc_iff : ∀ l : List Int, ascB l = true ↔ l.Pairwise (· < ·)
  | [] => by simp [ascB]
  | [a] => by simp [ascB]
  | a :: b :: l => by
    have ih := asc_iff (b :: l)
    rw [show ascB (a :: b :: l) = (decide (a < b) && ascB (b :: l)) from rfl, Bool.and_eq_true, decide_eq_true_eq, ih, List.pairwise_cons (l := b :: l)]
    constructor
    · rintro ⟨h1, h2⟩
      refine ⟨fun x hx => ?_, h2⟩
      rcases List.mem_cons.mp hx with e | e
      · subst e; exact h1
      · have := (List.pairwise_cons.mp h2).1 x e
        omega
    · rintro ⟨h1, h2⟩
      exact ⟨h1 b List.mem_cons_self, h2⟩
theorem asc_uniq : ∀ {l m : List Int}, l.Pairwise (· < ·) → m.Pairwise (· < ·) → (∀ k, k ∈ l ↔ k ∈ m) → l = m
  | [], [], _, _, _ => rfl
  | [], b :: m, _, _, h => absurd ((h b).mpr List.mem_cons_self) (by simp)
  | a :: l, [], _, _, h => absurd ((h a).mp List.mem_cons_self) (by simp)
  | a :: l, b :: m, hl, hm, h => by
    obtain ⟨l1, l2⟩ := List.pairwise_cons.mp hl
    obtain ⟨m1, m2⟩ := List.pairwise_cons.mp hm
    have e : a = b := by
      rcases List.mem_cons.mp ((h a).mp List.mem_cons_self) with z | z
      · exact z
      · rcases List.mem_cons.mp ((h b).mpr List.mem_cons_self) with y | y
        · exact y.symm
        · have h1 := m1 a z
          have h2 := l1 b y
          omega
    subst e
    rw [asc_uniq l2 m2 fun k => ?_]
    constructor
    · intro hk
      rcases List.mem_cons.mp ((h k).mp (List.mem_cons_of_mem _ hk)) with z | z
      · have := l1 k hk; omega
      · exact z
    · intro hk
      rcases List.mem_cons.mp ((h k).mpr (List.mem_cons_of_mem _ hk)) with z | z
      · have := m1 k hk; omega
      · exact z
theorem ints_shaped (l : List Int) : SeqAt.shaped (.list (l.map PyData.int)) = true := by
  refine shaped_list (k := 0) (by decide) fun x hx => ?_
  obtain ⟨i, _, rfl⟩ := List.mem_map.mp hx
  exact ⟨rfl, Nat.le_refl _⟩
theorem ints_eqv : ∀ l m : List Int, PyData.eqvAll (l.map PyData.int) (m.map PyData.int) = decide (l = m)
  | [], [] => rfl
  | [], b :: m => by simp [PyData.eqvAll]
  | a :: l, [] => by simp [PyData.eqvAll]
  | a :: l, b :: m => by
    have e : (a == b) = decide (a = b) := rfl
    simp only [List.map_cons, PyData.eqvAll, ints_eqv l m, PyData.eqv, e]
    by_cases h1 : a = b <;> by_cases h2 : l = m <;> simp [h1, h2]
theorem eq_ints {l m : List Int} {Q : EK} (h : Q (.bool (decide (l = m)))) : fEq (.list (l.map PyData.int)) (.list (m.map PyData.int)) Q := by
  refine ⟨by simp [okEq, ints_shaped], ?_⟩
  show Q (.bool (PyData.eqvAll _ _))
  rw [ints_eqv]
  exact h
/-- a loop that is left with False at the first item that does not pass -/
theorem loop_all {g : DG} {b : DS} {R : DEnds} (f : D → Bool) (I : List D → List SV → Prop) : ∀ (ds pre : List D), (∀ p d r, pre ++ ds = p ++ d :: r → p.all f = true → ∀ ω, I p ω → ∀ N : List SV → Prop, (f d = true → ∀ ω', I (p ++ [d]) ω' → N ω') → (f d = false → R.rt (.bool false)) → g d ω fun ω1 => b { nx := N, rt := R.rt, bk := R.nx, ct := N } ω1) → pre.all f = true →
    ((pre ++ ds).all f = true → ∀ ω, I (pre ++ ds) ω → R.nx ω) → ((pre ++ ds).all f = false → R.rt (.bool false)) → ∀ ω, I pre ω → dLoop g b R ds ω
  | [], pre, _, hp, hn, _, ω, h => hn (by rw [List.append_nil]; exact hp) ω (by rw [List.append_nil]; exact h)
  | d :: ds, pre, hb, hp, hn, hf, ω, h => by
    refine hb pre d ds rfl hp ω h _ (fun hd ω' h' => ?_) fun hd => hf (by simp [hd])
    exact loop_all f I ds (pre ++ [d]) (fun p d' r e => hb p d' r (by rw [← e]; simp)) (by simp [hp, hd]) (fun a ω h => hn (by simpa using a) ω (by simpa using h)) (fun a => hf (by simpa using a)) ω' h'
/-- a loop that carries a state and may be left with False -/
def runD {S : Type} (step : S → D → Option S) : S → List D → Option S
  | s, [] => some s
  | s, d :: ds => match step s d with
    | some s' => runD step s' ds
    | none => none
theorem loop_run {S : Type} {g : DG} {b : DS} {R : DEnds} (step : S → D → Option S) (I : S → Nat → List SV → Prop) : ∀ (ds : List D) (s : S) (n : Nat), (∀ d ∈ ds, ∀ s m ω, m < n + ds.length → I s m ω → ∀ N : List SV → Prop, (∀ s', step s d = some s' → ∀ ω', I s' (m + 1) ω' → N ω') → (step s d = none → R.rt (.bool false)) → g d ω fun ω1 => b { nx := N, rt := R.rt, bk := R.nx, ct := N } ω1) →
    (∀ s', runD step s ds = some s' → ∀ ω, I s' (n + ds.length) ω → R.nx ω) → (runD step s ds = none → R.rt (.bool false)) → ∀ ω, I s n ω → dLoop g b R ds ω
  | [], s, n, _, hn, _, ω, h => hn s rfl ω h
  | d :: ds, s, n, hb, hn, hf, ω, h => by
    have el : n + 1 + ds.length = n + (d :: ds).length := by simp; omega
    refine hb d List.mem_cons_self s n ω (by rw [← el]; omega) h _ (fun s' hs ω' h' => ?_) fun hs => hf (by simp [runD, hs])
    exact loop_run step I ds s' (n + 1) (fun d hd => by rw [el]; exact hb d (List.mem_cons_of_mem _ hd)) (fun s2 hr => by rw [el]; exact hn s2 (by simp [runD, hs, hr])) (fun hr => hf (by simp [runD, hs, hr])) ω' h'
theorem well_lt {xs : List D} (h : szAll xs ≤ 1000000) : xs.length ≤ 500000 := by have := sz_len xs; omega
theorem int_len : ∀ {ns : List Int}, 260 * ns.length ≤ szAll (ns.map PyData.int)
  | [] => by simp [szAll]
  | n :: ns => by
    have := int_len (ns := ns)
    simp only [List.map_cons, szAll, szD, List.length_cons]
    omega
structure Txt (K : PySem.W.Frag) (mg : Str → Option Value) : Prop where
  b_all : mg "all" = none
  b_bool : mg "bool" = none
  b_int : mg "int" = none
  b_isinstance : mg "isinstance" = none
  b_len : mg "len" = none
  b_list : mg "list" = none
  b_max : mg "max" = none
  b_min : mg "min" = none
  b_range : mg "range" = none
  b_repr : mg "repr" = none
  b_set : mg "set" = none
  b_sorted : mg "sorted" = none
  b_str : mg "str" = none
  b_tuple : mg "tuple" = none
  f_is_integer : DefAt K mg "is_integer" s_is_integer
  f_is_printable : DefAt K mg "is_printable" s_is_printable
  f_is_text : DefAt K mg "is_text" s_is_text
  f_is_value : DefAt K mg "is_value" s_is_value
  f_is_choice : DefAt K mg "is_choice" s_is_choice
  f_is_test : DefAt K mg "is_test" s_is_test
  f_is_within : DefAt K mg "is_within" s_is_within
  f_is_condition : DefAt K mg "is_condition" s_is_condition
  f_is_order : DefAt K mg "is_order" s_is_order
  f_is_shown : DefAt K mg "is_shown" s_is_shown
  f_is_view : DefAt K mg "is_view" s_is_view
  f_law_tape : DefAt K mg "_law_tape" s_law_tape
  f_law_pick : DefAt K mg "_law_pick" s_law_pick
  f_law_one_of : DefAt K mg "_law_one_of" s_law_one_of
  f_law_value : DefAt K mg "_law_value" s_law_value
  f_law_test : DefAt K mg "_law_test" s_law_test
  f_law_condition : DefAt K mg "_law_condition" s_law_condition
  f_law_view : DefAt K mg "_law_view" s_law_view
  f_law_column : DefAt K mg "_law_column" s_law_column
  f_law_due : DefAt K mg "_law_due" s_law_due
  f_law_thing : DefAt K mg "_law_thing" s_law_thing
  f_law_bent : DefAt K mg "_law_bent" s_law_bent
  f_law_right : DefAt K mg "_law_right" s_law_right
  f_law : DefAt K mg "law" s_law
  g_LIMIT : Glo K mg "LIMIT" g_LIMIT
  g_MAX_CHOICES : Glo K mg "MAX_CHOICES" g_MAX_CHOICES
  g_MAX_DEPTH : Glo K mg "MAX_DEPTH" g_MAX_DEPTH
  g_MAX_ORDER : Glo K mg "MAX_ORDER" g_MAX_ORDER
  g_MAX_TEXT : Glo K mg "MAX_TEXT" g_MAX_TEXT
  g_TESTS : Glo K mg "TESTS" g_TESTS
section
variable {P : Program} {w : World} {K : PySem.W.Frag} {mg : Str → Option Value} {base : Heap}
theorem sc_is_integer : FnScope N_is_integer ["value"] (defScope s_is_integer) := ⟨rfl, rfl, rfl, by decide +kernel, rfl, by decide +kernel, by decide +kernel⟩
def b_is_integer : DS := (dRet (dAndV (dIsI .int (dVar 0)) (dNotV (dIsI .bool (dVar 0)))))
abbrev m_is_integer : List SV → EK → Prop := mD1 fun d Q => Q (.bool (isInt d))
theorem spec_is_integer (svs : List SV) (R : EK) (_ : svs.length = 1) (h : m_is_integer svs R) : fnD b_is_integer 0 svs R := by
  obtain ⟨d, rfl, h⟩ := mD1_elim h
  cases d <;> simpa [b_is_integer, dAndV, dNotV, dVar, isTy, isTyK, kindD, isInt] using h
theorem ok_is_integer (T : Txt K mg) {f : Addr} {fd : FuncData} (F : Fun K "is_integer" "is_integer" s_is_integer f fd) : FnG P w K mg base 1 f fd ["value"] (spD P w K 1 (fnD b_is_integer 0)) :=
  fn_okG F sc_is_integer fun cdv A outer s H E hr hgd => by
    have hu := hr.units
    exact (s_one (s_ret (e_and (e_isi (T := .int) T.b_isinstance T.b_int bo_int (ev 0)) (e_one (e_not (e_isi (T := .bool) T.b_isinstance T.b_bool bo_bool (ev 0)))))))
theorem cal_is_integer (T : Txt K mg) : CalG P w K mg base 1 "is_integer" (spD P w K 1 m_is_integer) :=
  CalG.imp (calG_of T.f_is_integer (show BindsN "is_integer" s_is_integer ["value"] from fun _ _ _ _ _ _ us hl => match us, hl with | [_], _ => rfl) fun _ _ F => ok_is_integer T F) spec_is_integer
theorem sc_is_printable : FnScope N_is_printable ["value"] (defScope s_is_printable) := ⟨rfl, rfl, rfl, by decide +kernel, rfl, by decide +kernel, by decide +kernel⟩
def b_is_printable : DS := (dRet (dAndV (dIsI .str (dVar 0)) (dCall fAll (dCons (dNew (fLc (iData (dVar 0)) (gN 1) dYes (dChain fLe fLe (dC (.str " ")) (dVar 1) (dC (.str "~"))) [1])) dNil))))
abbrev m_is_printable : List SV → EK → Prop := mD1 fun d Q => (∀ s, d = .str s → s.length ≤ 100000) ∧ Q (.bool (match d with | .str s => s.cps.toList.all prt | _ => false))
theorem spec_is_printable (svs : List SV) (R : EK) (_ : svs.length = 1) (h : m_is_printable svs R) : fnD b_is_printable 1 svs R := by
  obtain ⟨d, rfl, hl, h⟩ := mD1_elim h
  cases d with
  | str s =>
    have hs := hl s rfl
    simp only [b_is_printable, ↓x_fnD, ↓x_skip, ↓x_seq, ↓x_brk, ↓x_cnt, ↓x_exp, ↓x_ret, ↓x_retN, ↓x_ifS, ↓x_set, ↓x_asg, ↓x_own, ↓x_fLst, ↓x_tape, ↓x_C, ↓x_op, ↓x_un, ↓x_test, ↓x_and, ↓x_or, ↓x_not, ↓x_if, ↓x_dnil, ↓x_dcons, ↓x_anil, ↓x_acons, ↓x_tup, ↓x_lst, ↓x_call, ↓x_fn, ↓x_isi, ↓x_new, ↓x_gN, ↓x_yes, ↓x_for, ↓x_iData, ↓x_iRg1, ↓x_oNo, ↓x_oSome, ↓x_sl, ↓x_mD1, ↓x_mD2, ↓x_mD3, ↓x_mD4, ↓x_mD5, ↓x_mT0, ↓x_mT1, ↓x_mT2, ↓x_mT3, ↓x_mT4, ↓x_eqI, ↓x_eqS, ↓x_eqB, ↓x_eqIS, ↓x_eqSI, ↓x_eqNN, ↓x_eqNI, ↓x_eqIN, ↓x_eqNS, ↓x_eqSN, ↓x_neI, ↓x_neS, ↓x_neB, ↓x_ltI, ↓x_ltS, ↓x_leI, ↓x_leS, ↓x_gtI, ↓x_gtS, ↓x_geI, ↓x_geS, ↓x_isN, ↓x_notN, ↓x_nonN, ↓x_nonI, ↓x_nonB, ↓x_nonS, ↓x_nonT, ↓x_nonL, ↓x_addI, ↓x_addS, ↓x_addT, ↓x_addL, ↓x_subI, ↓x_negI, ↓x_mulI, ↓x_mulS, ↓x_mulL, ↓x_modI, ↓x_divI, ↓x_powI, ↓x_lenL, ↓x_lenT, ↓x_lenS, ↓x_max2, ↓x_min2, ↓x_int1I, ↓x_int1B, ↓x_listL, ↓x_listT, ↓x_listS, ↓x_itL, ↓x_itT, ↓x_itS, ↓x_ixL0, ↓x_ixT0, ↓x_ixT1, ↓x_ixL1, ↓x_ixT2, ↓x_ixL2, ↓x_ixT3, ↓x_ixT4, ↓x_ixT5, ↓x_lc, ↓x_wipe0, ↓x_wipe1, ↓x_join, ↓x_gT, ↓x_gsN, ↓x_gsC, ↓x_notV, ↓x_andV, ↓x_orV, ↓x_chain, ↓x_tape1, ↓x_v0, ↓x_st0, ↓x_ap0, ↓x_io0, ↓x_lo0, ↓x_ro0, ↓x_v1, ↓x_st1, ↓x_ap1, ↓x_io1, ↓x_lo1, ↓x_ro1, ↓x_v2, ↓x_st2, ↓x_ap2, ↓x_io2, ↓x_lo2, ↓x_ro2, ↓x_v3, ↓x_st3, ↓x_ap3, ↓x_io3, ↓x_lo3, ↓x_ro3, ↓x_v4, ↓x_st4, ↓x_ap4, ↓x_io4, ↓x_lo4, ↓x_ro4, ↓x_v5, ↓x_st5, ↓x_ap5, ↓x_io5, ↓x_lo5, ↓x_ro5, ↓x_v6, ↓x_st6, ↓x_ap6, ↓x_io6, ↓x_lo6, ↓x_ro6, ↓x_v7, ↓x_st7, ↓x_ap7, ↓x_io7, ↓x_lo7, ↓x_ro7, ↓x_v8, ↓x_st8, ↓x_ap8, ↓x_io8, ↓x_lo8, ↓x_ro8, ↓x_v9, ↓x_st9, ↓x_ap9, ↓x_io9, ↓x_lo9, ↓x_ro9, ↓x_v10, ↓x_st10, ↓x_ap10, ↓x_io10, ↓x_lo10, ↓x_ro10, ↓x_v11, ↓x_st11, ↓x_ap11, ↓x_io11, ↓x_lo11, ↓x_ro11, ↓x_v12, ↓x_v13, ↓x_v14, ↓x_v15, ↓x_ss0, ↓x_ls0, ↓x_subII, ↓x_subBB, ↓x_repr, ↓x_sw, ↓x_M1, ↓x_par, ↓x_gSt1, ↓x_gSt3, ↓x_fo0, ↓x_fd0, ↓x_po0, ↓x_pt0, ↓x_fo1, ↓x_fd1, ↓x_po1, ↓x_pt1, ↓x_fo2, ↓x_fd2, ↓x_po2, ↓x_pt2, ↓x_fo3, ↓x_fd3, ↓x_po3, ↓x_pt3, ↓x_fo4, ↓x_fd4, ↓x_po4, ↓x_pt4, ↓x_fo5, ↓x_fd5, ↓x_po5, ↓x_pt5, ↓x_fo6, ↓x_fd6, ↓x_po6, ↓x_pt6, ↓x_fo7, ↓x_fd7, ↓x_po7, ↓x_pt7, ↓x_fo8, ↓x_fd8, ↓x_po8, ↓x_pt8, ↓x_fo9, ↓x_fd9, ↓x_po9, ↓x_pt9, ↓x_fo10, ↓x_fd10, ↓x_po10, ↓x_pt10, ↓x_fo11, ↓x_fd11, ↓x_po11, ↓x_pt11, ↓x_plI, ↓x_plB, ↓x_plS, ↓x_in2, ↓x_in3, ↓x_sl1T, ↓x_sl1L, ↓x_slS, ↓x_tuL, ↓x_tuT, ↓x_enumD, ↓x_iAsc, ↓x_eq0T, ↓x_eq0L, ↓x_mulT, ↓x_pu0, ↓x_pu1, ↓x_pu2, ↓x_pu3, ↓x_pu4, ↓x_pu5, ↓x_pu6, ↓x_pu7, ↓x_pu8, ↓x_pu9, ↓x_pu10, ↓x_pu11, ↓x_isB, ↓x_isNB, ↓x_nonD, ↓x_in4, ↓x_nin4, ↓x_nin2, ↓x_tupRg, ↓x_lstRg, ↓x_g_LIMIT, ↓x_g_MAX_CHOICES, ↓x_g_MAX_DEPTH, ↓x_g_MAX_ORDER, ↓x_g_MAX_TEXT, ↓x_g_TESTS, List.cons_append, List.nil_append, List.replicate_succ, List.replicate_zero, List.set_cons_zero, List.set_cons_succ, List.getElem?_cons_zero, List.getElem?_cons_succ, decide_eq_true_eq, Bool.false_eq_true, Bool.true_eq_false, ↓reduceIte, Bool.not_true, Bool.not_false, decide_true, decide_false, isTy, isTyK, kindD, PySem.sizeLine_eq, List.length_cons, List.length_nil, true_and, and_true, true_implies, Bool.not_eq_true', decide_eq_false_iff_not, Nat.reduceAdd, Nat.reduceLeDiff, Nat.reduceLT, Int.reduceAdd, Int.reduceSub, Int.reduceLT, Int.reduceLE, Int.reduceNeg, Int.reduceEq, Nat.reduceEqDiff, not_true_eq_false, not_false_eq_true]
    refine ⟨by omega, fun _ => ⟨by simp [signs_len]; omega, ?_⟩⟩
    refine lc_map (fun d => match d with | .str c => .bool ((!strLt c " ") && (!strLt "~" c)) | d => d) _ [] (fun d hd N hN => ?_) ?_
    · obtain ⟨c, _, rfl⟩ := List.mem_map.mp hd
      simp only [↓x_fnD, ↓x_skip, ↓x_seq, ↓x_brk, ↓x_cnt, ↓x_exp, ↓x_ret, ↓x_retN, ↓x_ifS, ↓x_set, ↓x_asg, ↓x_own, ↓x_fLst, ↓x_tape, ↓x_C, ↓x_op, ↓x_un, ↓x_test, ↓x_and, ↓x_or, ↓x_not, ↓x_if, ↓x_dnil, ↓x_dcons, ↓x_anil, ↓x_acons, ↓x_tup, ↓x_lst, ↓x_call, ↓x_fn, ↓x_isi, ↓x_new, ↓x_gN, ↓x_yes, ↓x_for, ↓x_iData, ↓x_iRg1, ↓x_oNo, ↓x_oSome, ↓x_sl, ↓x_mD1, ↓x_mD2, ↓x_mD3, ↓x_mD4, ↓x_mD5, ↓x_mT0, ↓x_mT1, ↓x_mT2, ↓x_mT3, ↓x_mT4, ↓x_eqI, ↓x_eqS, ↓x_eqB, ↓x_eqIS, ↓x_eqSI, ↓x_eqNN, ↓x_eqNI, ↓x_eqIN, ↓x_eqNS, ↓x_eqSN, ↓x_neI, ↓x_neS, ↓x_neB, ↓x_ltI, ↓x_ltS, ↓x_leI, ↓x_leS, ↓x_gtI, ↓x_gtS, ↓x_geI, ↓x_geS, ↓x_isN, ↓x_notN, ↓x_nonN, ↓x_nonI, ↓x_nonB, ↓x_nonS, ↓x_nonT, ↓x_nonL, ↓x_addI, ↓x_addS, ↓x_addT, ↓x_addL, ↓x_subI, ↓x_negI, ↓x_mulI, ↓x_mulS, ↓x_mulL, ↓x_modI, ↓x_divI, ↓x_powI, ↓x_lenL, ↓x_lenT, ↓x_lenS, ↓x_max2, ↓x_min2, ↓x_int1I, ↓x_int1B, ↓x_listL, ↓x_listT, ↓x_listS, ↓x_itL, ↓x_itT, ↓x_itS, ↓x_ixL0, ↓x_ixT0, ↓x_ixT1, ↓x_ixL1, ↓x_ixT2, ↓x_ixL2, ↓x_ixT3, ↓x_ixT4, ↓x_ixT5, ↓x_lc, ↓x_wipe0, ↓x_wipe1, ↓x_join, ↓x_gT, ↓x_gsN, ↓x_gsC, ↓x_notV, ↓x_andV, ↓x_orV, ↓x_chain, ↓x_tape1, ↓x_v0, ↓x_st0, ↓x_ap0, ↓x_io0, ↓x_lo0, ↓x_ro0, ↓x_v1, ↓x_st1, ↓x_ap1, ↓x_io1, ↓x_lo1, ↓x_ro1, ↓x_v2, ↓x_st2, ↓x_ap2, ↓x_io2, ↓x_lo2, ↓x_ro2, ↓x_v3, ↓x_st3, ↓x_ap3, ↓x_io3, ↓x_lo3, ↓x_ro3, ↓x_v4, ↓x_st4, ↓x_ap4, ↓x_io4, ↓x_lo4, ↓x_ro4, ↓x_v5, ↓x_st5, ↓x_ap5, ↓x_io5, ↓x_lo5, ↓x_ro5, ↓x_v6, ↓x_st6, ↓x_ap6, ↓x_io6, ↓x_lo6, ↓x_ro6, ↓x_v7, ↓x_st7, ↓x_ap7, ↓x_io7, ↓x_lo7, ↓x_ro7, ↓x_v8, ↓x_st8, ↓x_ap8, ↓x_io8, ↓x_lo8, ↓x_ro8, ↓x_v9, ↓x_st9, ↓x_ap9, ↓x_io9, ↓x_lo9, ↓x_ro9, ↓x_v10, ↓x_st10, ↓x_ap10, ↓x_io10, ↓x_lo10, ↓x_ro10, ↓x_v11, ↓x_st11, ↓x_ap11, ↓x_io11, ↓x_lo11, ↓x_ro11, ↓x_v12, ↓x_v13, ↓x_v14, ↓x_v15, ↓x_ss0, ↓x_ls0, ↓x_subII, ↓x_subBB, ↓x_repr, ↓x_sw, ↓x_M1, ↓x_par, ↓x_gSt1, ↓x_gSt3, ↓x_fo0, ↓x_fd0, ↓x_po0, ↓x_pt0, ↓x_fo1, ↓x_fd1, ↓x_po1, ↓x_pt1, ↓x_fo2, ↓x_fd2, ↓x_po2, ↓x_pt2, ↓x_fo3, ↓x_fd3, ↓x_po3, ↓x_pt3, ↓x_fo4, ↓x_fd4, ↓x_po4, ↓x_pt4, ↓x_fo5, ↓x_fd5, ↓x_po5, ↓x_pt5, ↓x_fo6, ↓x_fd6, ↓x_po6, ↓x_pt6, ↓x_fo7, ↓x_fd7, ↓x_po7, ↓x_pt7, ↓x_fo8, ↓x_fd8, ↓x_po8, ↓x_pt8, ↓x_fo9, ↓x_fd9, ↓x_po9, ↓x_pt9, ↓x_fo10, ↓x_fd10, ↓x_po10, ↓x_pt10, ↓x_fo11, ↓x_fd11, ↓x_po11, ↓x_pt11, ↓x_plI, ↓x_plB, ↓x_plS, ↓x_in2, ↓x_in3, ↓x_sl1T, ↓x_sl1L, ↓x_slS, ↓x_tuL, ↓x_tuT, ↓x_enumD, ↓x_iAsc, ↓x_eq0T, ↓x_eq0L, ↓x_mulT, ↓x_pu0, ↓x_pu1, ↓x_pu2, ↓x_pu3, ↓x_pu4, ↓x_pu5, ↓x_pu6, ↓x_pu7, ↓x_pu8, ↓x_pu9, ↓x_pu10, ↓x_pu11, ↓x_isB, ↓x_isNB, ↓x_nonD, ↓x_in4, ↓x_nin4, ↓x_nin2, ↓x_tupRg, ↓x_lstRg, ↓x_g_LIMIT, ↓x_g_MAX_CHOICES, ↓x_g_MAX_DEPTH, ↓x_g_MAX_ORDER, ↓x_g_MAX_TEXT, ↓x_g_TESTS, List.cons_append, List.nil_append, List.replicate_succ, List.replicate_zero, List.set_cons_zero, List.set_cons_succ, List.getElem?_cons_zero, List.getElem?_cons_succ, decide_eq_true_eq, Bool.false_eq_true, Bool.true_eq_false, ↓reduceIte, Bool.not_true, Bool.not_false, decide_true, decide_false, isTy, isTyK, kindD, PySem.sizeLine_eq, List.length_cons, List.length_nil, true_and, and_true, true_implies, Bool.not_eq_true', decide_eq_false_iff_not, Nat.reduceAdd, Nat.reduceLeDiff, Nat.reduceLT, Int.reduceAdd, Int.reduceSub, Int.reduceLT, Int.reduceLE, Int.reduceNeg, Int.reduceEq, Nat.reduceEqDiff, not_true_eq_false, not_false_eq_true]
      cases e : strLt c (Str.ofString " ") <;> simpa [e] using hN
    · refine ⟨s.cps.toList.map prt, ?_, by simpa [List.all_map, Function.comp_def] using h⟩
      unfold signs
      simp only [List.nil_append, List.map_map]
      apply List.map_congr_left
      intro c _
      show PyData.bool _ = PyData.bool _
      rw [← sign_le c]
  | _ =>
    simp only [b_is_printable, ↓x_fnD, ↓x_skip, ↓x_seq, ↓x_brk, ↓x_cnt, ↓x_exp, ↓x_ret, ↓x_retN, ↓x_ifS, ↓x_set, ↓x_asg, ↓x_own, ↓x_fLst, ↓x_tape, ↓x_C, ↓x_op, ↓x_un, ↓x_test, ↓x_and, ↓x_or, ↓x_not, ↓x_if, ↓x_dnil, ↓x_dcons, ↓x_anil, ↓x_acons, ↓x_tup, ↓x_lst, ↓x_call, ↓x_fn, ↓x_isi, ↓x_new, ↓x_gN, ↓x_yes, ↓x_for, ↓x_iData, ↓x_iRg1, ↓x_oNo, ↓x_oSome, ↓x_sl, ↓x_mD1, ↓x_mD2, ↓x_mD3, ↓x_mD4, ↓x_mD5, ↓x_mT0, ↓x_mT1, ↓x_mT2, ↓x_mT3, ↓x_mT4, ↓x_eqI, ↓x_eqS, ↓x_eqB, ↓x_eqIS, ↓x_eqSI, ↓x_eqNN, ↓x_eqNI, ↓x_eqIN, ↓x_eqNS, ↓x_eqSN, ↓x_neI, ↓x_neS, ↓x_neB, ↓x_ltI, ↓x_ltS, ↓x_leI, ↓x_leS, ↓x_gtI, ↓x_gtS, ↓x_geI, ↓x_geS, ↓x_isN, ↓x_notN, ↓x_nonN, ↓x_nonI, ↓x_nonB, ↓x_nonS, ↓x_nonT, ↓x_nonL, ↓x_addI, ↓x_addS, ↓x_addT, ↓x_addL, ↓x_subI, ↓x_negI, ↓x_mulI, ↓x_mulS, ↓x_mulL, ↓x_modI, ↓x_divI, ↓x_powI, ↓x_lenL, ↓x_lenT, ↓x_lenS, ↓x_max2, ↓x_min2, ↓x_int1I, ↓x_int1B, ↓x_listL, ↓x_listT, ↓x_listS, ↓x_itL, ↓x_itT, ↓x_itS, ↓x_ixL0, ↓x_ixT0, ↓x_ixT1, ↓x_ixL1, ↓x_ixT2, ↓x_ixL2, ↓x_ixT3, ↓x_ixT4, ↓x_ixT5, ↓x_lc, ↓x_wipe0, ↓x_wipe1, ↓x_join, ↓x_gT, ↓x_gsN, ↓x_gsC, ↓x_notV, ↓x_andV, ↓x_orV, ↓x_chain, ↓x_tape1, ↓x_v0, ↓x_st0, ↓x_ap0, ↓x_io0, ↓x_lo0, ↓x_ro0, ↓x_v1, ↓x_st1, ↓x_ap1, ↓x_io1, ↓x_lo1, ↓x_ro1, ↓x_v2, ↓x_st2, ↓x_ap2, ↓x_io2, ↓x_lo2, ↓x_ro2, ↓x_v3, ↓x_st3, ↓x_ap3, ↓x_io3, ↓x_lo3, ↓x_ro3, ↓x_v4, ↓x_st4, ↓x_ap4, ↓x_io4, ↓x_lo4, ↓x_ro4, ↓x_v5, ↓x_st5, ↓x_ap5, ↓x_io5, ↓x_lo5, ↓x_ro5, ↓x_v6, ↓x_st6, ↓x_ap6, ↓x_io6, ↓x_lo6, ↓x_ro6, ↓x_v7, ↓x_st7, ↓x_ap7, ↓x_io7, ↓x_lo7, ↓x_ro7, ↓x_v8, ↓x_st8, ↓x_ap8, ↓x_io8, ↓x_lo8, ↓x_ro8, ↓x_v9, ↓x_st9, ↓x_ap9, ↓x_io9, ↓x_lo9, ↓x_ro9, ↓x_v10, ↓x_st10, ↓x_ap10, ↓x_io10, ↓x_lo10, ↓x_ro10, ↓x_v11, ↓x_st11, ↓x_ap11, ↓x_io11, ↓x_lo11, ↓x_ro11, ↓x_v12, ↓x_v13, ↓x_v14, ↓x_v15, ↓x_ss0, ↓x_ls0, ↓x_subII, ↓x_subBB, ↓x_repr, ↓x_sw, ↓x_M1, ↓x_par, ↓x_gSt1, ↓x_gSt3, ↓x_fo0, ↓x_fd0, ↓x_po0, ↓x_pt0, ↓x_fo1, ↓x_fd1, ↓x_po1, ↓x_pt1, ↓x_fo2, ↓x_fd2, ↓x_po2, ↓x_pt2, ↓x_fo3, ↓x_fd3, ↓x_po3, ↓x_pt3, ↓x_fo4, ↓x_fd4, ↓x_po4, ↓x_pt4, ↓x_fo5, ↓x_fd5, ↓x_po5, ↓x_pt5, ↓x_fo6, ↓x_fd6, ↓x_po6, ↓x_pt6, ↓x_fo7, ↓x_fd7, ↓x_po7, ↓x_pt7, ↓x_fo8, ↓x_fd8, ↓x_po8, ↓x_pt8, ↓x_fo9, ↓x_fd9, ↓x_po9, ↓x_pt9, ↓x_fo10, ↓x_fd10, ↓x_po10, ↓x_pt10, ↓x_fo11, ↓x_fd11, ↓x_po11, ↓x_pt11, ↓x_plI, ↓x_plB, ↓x_plS, ↓x_in2, ↓x_in3, ↓x_sl1T, ↓x_sl1L, ↓x_slS, ↓x_tuL, ↓x_tuT, ↓x_enumD, ↓x_iAsc, ↓x_eq0T, ↓x_eq0L, ↓x_mulT, ↓x_pu0, ↓x_pu1, ↓x_pu2, ↓x_pu3, ↓x_pu4, ↓x_pu5, ↓x_pu6, ↓x_pu7, ↓x_pu8, ↓x_pu9, ↓x_pu10, ↓x_pu11, ↓x_isB, ↓x_isNB, ↓x_nonD, ↓x_in4, ↓x_nin4, ↓x_nin2, ↓x_tupRg, ↓x_lstRg, ↓x_g_LIMIT, ↓x_g_MAX_CHOICES, ↓x_g_MAX_DEPTH, ↓x_g_MAX_ORDER, ↓x_g_MAX_TEXT, ↓x_g_TESTS, List.cons_append, List.nil_append, List.replicate_succ, List.replicate_zero, List.set_cons_zero, List.set_cons_succ, List.getElem?_cons_zero, List.getElem?_cons_succ, decide_eq_true_eq, Bool.false_eq_true, Bool.true_eq_false, ↓reduceIte, Bool.not_true, Bool.not_false, decide_true, decide_false, isTy, isTyK, kindD, PySem.sizeLine_eq, List.length_cons, List.length_nil, true_and, and_true, true_implies, Bool.not_eq_true', decide_eq_false_iff_not, Nat.reduceAdd, Nat.reduceLeDiff, Nat.reduceLT, Int.reduceAdd, Int.reduceSub, Int.reduceLT, Int.reduceLE, Int.reduceNeg, Int.reduceEq, Nat.reduceEqDiff, not_true_eq_false, not_false_eq_true]
    exact h
theorem ok_is_printable (T : Txt K mg) {f : Addr} {fd : FuncData} (F : Fun K "is_printable" "is_printable" s_is_printable f fd) : FnG P w K mg base 1 f fd ["value"] (spD P w K 1 (fnD b_is_printable 1)) :=
  fn_okG F sc_is_printable fun cdv A outer s H E hr hgd => by
    have hu := hr.units
    exact (s_one (s_ret (e_and (e_isi (T := .str) T.b_isinstance T.b_str bo_str (ev 0)) (e_one (e_cbB (bAll rfl) T.b_all bo_all (d_cons (e_new (f_lc (own := [("sign", 1)]) rfl sc_is_printable.nd (i_data (ev 0)) (blkOk_by (N := N_is_printable) (sc := defScope s_is_printable) (by decide +kernel)) (fun _ _ _ _ _ => (g_nm (vs := [1]) sc_is_printable.nd rfl (by first | exact Or.inl rfl | exact Or.inr rfl) (by decide))) (fun _ _ _ _ _ => LTs.nil) (fun _ _ _ _ _ => (e_chainD oLe oLe e_str (ev 1) e_str)))) d_nil))))))
theorem cal_is_printable (T : Txt K mg) : CalG P w K mg base 1 "is_printable" (spD P w K 1 m_is_printable) :=
  CalG.imp (calG_of T.f_is_printable (show BindsN "is_printable" s_is_printable ["value"] from fun _ _ _ _ _ _ us hl => match us, hl with | [_], _ => rfl) fun _ _ F => ok_is_printable T F) spec_is_printable
theorem sc_is_text : FnScope N_is_text ["value"] (defScope s_is_text) := ⟨rfl, rfl, rfl, by decide +kernel, rfl, by decide +kernel, by decide +kernel⟩
def b_is_text : DS := (dRet (dAndV (dFn m_is_printable (aCons (dVar 0) aNil)) (dOp fLe (dCall fLen (dCons (dVar 0) dNil)) (dC g_MAX_TEXT))))
abbrev m_is_text : List SV → EK → Prop := mD1 fun d Q => (∀ s, d = .str s → s.length ≤ 100000) ∧ Q (.bool (match d with | .str s => textB s | _ => false))
theorem spec_is_text (svs : List SV) (R : EK) (_ : svs.length = 1) (h : m_is_text svs R) : fnD b_is_text 0 svs R := by
  obtain ⟨d, rfl, hl, h⟩ := mD1_elim h
  simp only [b_is_text, ↓x_fnD, ↓x_skip, ↓x_seq, ↓x_brk, ↓x_cnt, ↓x_exp, ↓x_ret, ↓x_retN, ↓x_ifS, ↓x_set, ↓x_asg, ↓x_own, ↓x_fLst, ↓x_tape, ↓x_C, ↓x_op, ↓x_un, ↓x_test, ↓x_and, ↓x_or, ↓x_not, ↓x_if, ↓x_dnil, ↓x_dcons, ↓x_anil, ↓x_acons, ↓x_tup, ↓x_lst, ↓x_call, ↓x_fn, ↓x_isi, ↓x_new, ↓x_gN, ↓x_yes, ↓x_for, ↓x_iData, ↓x_iRg1, ↓x_oNo, ↓x_oSome, ↓x_sl, ↓x_mD1, ↓x_mD2, ↓x_mD3, ↓x_mD4, ↓x_mD5, ↓x_mT0, ↓x_mT1, ↓x_mT2, ↓x_mT3, ↓x_mT4, ↓x_eqI, ↓x_eqS, ↓x_eqB, ↓x_eqIS, ↓x_eqSI, ↓x_eqNN, ↓x_eqNI, ↓x_eqIN, ↓x_eqNS, ↓x_eqSN, ↓x_neI, ↓x_neS, ↓x_neB, ↓x_ltI, ↓x_ltS, ↓x_leI, ↓x_leS, ↓x_gtI, ↓x_gtS, ↓x_geI, ↓x_geS, ↓x_isN, ↓x_notN, ↓x_nonN, ↓x_nonI, ↓x_nonB, ↓x_nonS, ↓x_nonT, ↓x_nonL, ↓x_addI, ↓x_addS, ↓x_addT, ↓x_addL, ↓x_subI, ↓x_negI, ↓x_mulI, ↓x_mulS, ↓x_mulL, ↓x_modI, ↓x_divI, ↓x_powI, ↓x_lenL, ↓x_lenT, ↓x_lenS, ↓x_max2, ↓x_min2, ↓x_int1I, ↓x_int1B, ↓x_listL, ↓x_listT, ↓x_listS, ↓x_itL, ↓x_itT, ↓x_itS, ↓x_ixL0, ↓x_ixT0, ↓x_ixT1, ↓x_ixL1, ↓x_ixT2, ↓x_ixL2, ↓x_ixT3, ↓x_ixT4, ↓x_ixT5, ↓x_lc, ↓x_wipe0, ↓x_wipe1, ↓x_join, ↓x_gT, ↓x_gsN, ↓x_gsC, ↓x_notV, ↓x_andV, ↓x_orV, ↓x_chain, ↓x_tape1, ↓x_v0, ↓x_st0, ↓x_ap0, ↓x_io0, ↓x_lo0, ↓x_ro0, ↓x_v1, ↓x_st1, ↓x_ap1, ↓x_io1, ↓x_lo1, ↓x_ro1, ↓x_v2, ↓x_st2, ↓x_ap2, ↓x_io2, ↓x_lo2, ↓x_ro2, ↓x_v3, ↓x_st3, ↓x_ap3, ↓x_io3, ↓x_lo3, ↓x_ro3, ↓x_v4, ↓x_st4, ↓x_ap4, ↓x_io4, ↓x_lo4, ↓x_ro4, ↓x_v5, ↓x_st5, ↓x_ap5, ↓x_io5, ↓x_lo5, ↓x_ro5, ↓x_v6, ↓x_st6, ↓x_ap6, ↓x_io6, ↓x_lo6, ↓x_ro6, ↓x_v7, ↓x_st7, ↓x_ap7, ↓x_io7, ↓x_lo7, ↓x_ro7, ↓x_v8, ↓x_st8, ↓x_ap8, ↓x_io8, ↓x_lo8, ↓x_ro8, ↓x_v9, ↓x_st9, ↓x_ap9, ↓x_io9, ↓x_lo9, ↓x_ro9, ↓x_v10, ↓x_st10, ↓x_ap10, ↓x_io10, ↓x_lo10, ↓x_ro10, ↓x_v11, ↓x_st11, ↓x_ap11, ↓x_io11, ↓x_lo11, ↓x_ro11, ↓x_v12, ↓x_v13, ↓x_v14, ↓x_v15, ↓x_ss0, ↓x_ls0, ↓x_subII, ↓x_subBB, ↓x_repr, ↓x_sw, ↓x_M1, ↓x_par, ↓x_gSt1, ↓x_gSt3, ↓x_fo0, ↓x_fd0, ↓x_po0, ↓x_pt0, ↓x_fo1, ↓x_fd1, ↓x_po1, ↓x_pt1, ↓x_fo2, ↓x_fd2, ↓x_po2, ↓x_pt2, ↓x_fo3, ↓x_fd3, ↓x_po3, ↓x_pt3, ↓x_fo4, ↓x_fd4, ↓x_po4, ↓x_pt4, ↓x_fo5, ↓x_fd5, ↓x_po5, ↓x_pt5, ↓x_fo6, ↓x_fd6, ↓x_po6, ↓x_pt6, ↓x_fo7, ↓x_fd7, ↓x_po7, ↓x_pt7, ↓x_fo8, ↓x_fd8, ↓x_po8, ↓x_pt8, ↓x_fo9, ↓x_fd9, ↓x_po9, ↓x_pt9, ↓x_fo10, ↓x_fd10, ↓x_po10, ↓x_pt10, ↓x_fo11, ↓x_fd11, ↓x_po11, ↓x_pt11, ↓x_plI, ↓x_plB, ↓x_plS, ↓x_in2, ↓x_in3, ↓x_sl1T, ↓x_sl1L, ↓x_slS, ↓x_tuL, ↓x_tuT, ↓x_enumD, ↓x_iAsc, ↓x_eq0T, ↓x_eq0L, ↓x_mulT, ↓x_pu0, ↓x_pu1, ↓x_pu2, ↓x_pu3, ↓x_pu4, ↓x_pu5, ↓x_pu6, ↓x_pu7, ↓x_pu8, ↓x_pu9, ↓x_pu10, ↓x_pu11, ↓x_isB, ↓x_isNB, ↓x_nonD, ↓x_in4, ↓x_nin4, ↓x_nin2, ↓x_tupRg, ↓x_lstRg, ↓x_g_LIMIT, ↓x_g_MAX_CHOICES, ↓x_g_MAX_DEPTH, ↓x_g_MAX_ORDER, ↓x_g_MAX_TEXT, ↓x_g_TESTS, List.cons_append, List.nil_append, List.replicate_succ, List.replicate_zero, List.set_cons_zero, List.set_cons_succ, List.getElem?_cons_zero, List.getElem?_cons_succ, decide_eq_true_eq, Bool.false_eq_true, Bool.true_eq_false, ↓reduceIte, Bool.not_true, Bool.not_false, decide_true, decide_false, isTy, isTyK, kindD, PySem.sizeLine_eq, List.length_cons, List.length_nil, true_and, and_true, true_implies, Bool.not_eq_true', decide_eq_false_iff_not, Nat.reduceAdd, Nat.reduceLeDiff, Nat.reduceLT, Int.reduceAdd, Int.reduceSub, Int.reduceLT, Int.reduceLE, Int.reduceNeg, Int.reduceEq, Nat.reduceEqDiff, not_true_eq_false, not_false_eq_true]
  refine ⟨hl, ?_⟩
  cases d with
  | str s =>
    have hs := hl s rfl
    have h' : R (.bool (textB s)) := h
    unfold textB at h'
    simp only [↓x_fnD, ↓x_skip, ↓x_seq, ↓x_brk, ↓x_cnt, ↓x_exp, ↓x_ret, ↓x_retN, ↓x_ifS, ↓x_set, ↓x_asg, ↓x_own, ↓x_fLst, ↓x_tape, ↓x_C, ↓x_op, ↓x_un, ↓x_test, ↓x_and, ↓x_or, ↓x_not, ↓x_if, ↓x_dnil, ↓x_dcons, ↓x_anil, ↓x_acons, ↓x_tup, ↓x_lst, ↓x_call, ↓x_fn, ↓x_isi, ↓x_new, ↓x_gN, ↓x_yes, ↓x_for, ↓x_iData, ↓x_iRg1, ↓x_oNo, ↓x_oSome, ↓x_sl, ↓x_mD1, ↓x_mD2, ↓x_mD3, ↓x_mD4, ↓x_mD5, ↓x_mT0, ↓x_mT1, ↓x_mT2, ↓x_mT3, ↓x_mT4, ↓x_eqI, ↓x_eqS, ↓x_eqB, ↓x_eqIS, ↓x_eqSI, ↓x_eqNN, ↓x_eqNI, ↓x_eqIN, ↓x_eqNS, ↓x_eqSN, ↓x_neI, ↓x_neS, ↓x_neB, ↓x_ltI, ↓x_ltS, ↓x_leI, ↓x_leS, ↓x_gtI, ↓x_gtS, ↓x_geI, ↓x_geS, ↓x_isN, ↓x_notN, ↓x_nonN, ↓x_nonI, ↓x_nonB, ↓x_nonS, ↓x_nonT, ↓x_nonL, ↓x_addI, ↓x_addS, ↓x_addT, ↓x_addL, ↓x_subI, ↓x_negI, ↓x_mulI, ↓x_mulS, ↓x_mulL, ↓x_modI, ↓x_divI, ↓x_powI, ↓x_lenL, ↓x_lenT, ↓x_lenS, ↓x_max2, ↓x_min2, ↓x_int1I, ↓x_int1B, ↓x_listL, ↓x_listT, ↓x_listS, ↓x_itL, ↓x_itT, ↓x_itS, ↓x_ixL0, ↓x_ixT0, ↓x_ixT1, ↓x_ixL1, ↓x_ixT2, ↓x_ixL2, ↓x_ixT3, ↓x_ixT4, ↓x_ixT5, ↓x_lc, ↓x_wipe0, ↓x_wipe1, ↓x_join, ↓x_gT, ↓x_gsN, ↓x_gsC, ↓x_notV, ↓x_andV, ↓x_orV, ↓x_chain, ↓x_tape1, ↓x_v0, ↓x_st0, ↓x_ap0, ↓x_io0, ↓x_lo0, ↓x_ro0, ↓x_v1, ↓x_st1, ↓x_ap1, ↓x_io1, ↓x_lo1, ↓x_ro1, ↓x_v2, ↓x_st2, ↓x_ap2, ↓x_io2, ↓x_lo2, ↓x_ro2, ↓x_v3, ↓x_st3, ↓x_ap3, ↓x_io3, ↓x_lo3, ↓x_ro3, ↓x_v4, ↓x_st4, ↓x_ap4, ↓x_io4, ↓x_lo4, ↓x_ro4, ↓x_v5, ↓x_st5, ↓x_ap5, ↓x_io5, ↓x_lo5, ↓x_ro5, ↓x_v6, ↓x_st6, ↓x_ap6, ↓x_io6, ↓x_lo6, ↓x_ro6, ↓x_v7, ↓x_st7, ↓x_ap7, ↓x_io7, ↓x_lo7, ↓x_ro7, ↓x_v8, ↓x_st8, ↓x_ap8, ↓x_io8, ↓x_lo8, ↓x_ro8, ↓x_v9, ↓x_st9, ↓x_ap9, ↓x_io9, ↓x_lo9, ↓x_ro9, ↓x_v10, ↓x_st10, ↓x_ap10, ↓x_io10, ↓x_lo10, ↓x_ro10, ↓x_v11, ↓x_st11, ↓x_ap11, ↓x_io11, ↓x_lo11, ↓x_ro11, ↓x_v12, ↓x_v13, ↓x_v14, ↓x_v15, ↓x_ss0, ↓x_ls0, ↓x_subII, ↓x_subBB, ↓x_repr, ↓x_sw, ↓x_M1, ↓x_par, ↓x_gSt1, ↓x_gSt3, ↓x_fo0, ↓x_fd0, ↓x_po0, ↓x_pt0, ↓x_fo1, ↓x_fd1, ↓x_po1, ↓x_pt1, ↓x_fo2, ↓x_fd2, ↓x_po2, ↓x_pt2, ↓x_fo3, ↓x_fd3, ↓x_po3, ↓x_pt3, ↓x_fo4, ↓x_fd4, ↓x_po4, ↓x_pt4, ↓x_fo5, ↓x_fd5, ↓x_po5, ↓x_pt5, ↓x_fo6, ↓x_fd6, ↓x_po6, ↓x_pt6, ↓x_fo7, ↓x_fd7, ↓x_po7, ↓x_pt7, ↓x_fo8, ↓x_fd8, ↓x_po8, ↓x_pt8, ↓x_fo9, ↓x_fd9, ↓x_po9, ↓x_pt9, ↓x_fo10, ↓x_fd10, ↓x_po10, ↓x_pt10, ↓x_fo11, ↓x_fd11, ↓x_po11, ↓x_pt11, ↓x_plI, ↓x_plB, ↓x_plS, ↓x_in2, ↓x_in3, ↓x_sl1T, ↓x_sl1L, ↓x_slS, ↓x_tuL, ↓x_tuT, ↓x_enumD, ↓x_iAsc, ↓x_eq0T, ↓x_eq0L, ↓x_mulT, ↓x_pu0, ↓x_pu1, ↓x_pu2, ↓x_pu3, ↓x_pu4, ↓x_pu5, ↓x_pu6, ↓x_pu7, ↓x_pu8, ↓x_pu9, ↓x_pu10, ↓x_pu11, ↓x_isB, ↓x_isNB, ↓x_nonD, ↓x_in4, ↓x_nin4, ↓x_nin2, ↓x_tupRg, ↓x_lstRg, ↓x_g_LIMIT, ↓x_g_MAX_CHOICES, ↓x_g_MAX_DEPTH, ↓x_g_MAX_ORDER, ↓x_g_MAX_TEXT, ↓x_g_TESTS, List.cons_append, List.nil_append, List.replicate_succ, List.replicate_zero, List.set_cons_zero, List.set_cons_succ, List.getElem?_cons_zero, List.getElem?_cons_succ, decide_eq_true_eq, Bool.false_eq_true, Bool.true_eq_false, ↓reduceIte, Bool.not_true, Bool.not_false, decide_true, decide_false, isTy, isTyK, kindD, PySem.sizeLine_eq, List.length_cons, List.length_nil, true_and, and_true, true_implies, Bool.not_eq_true', decide_eq_false_iff_not, Nat.reduceAdd, Nat.reduceLeDiff, Nat.reduceLT, Int.reduceAdd, Int.reduceSub, Int.reduceLT, Int.reduceLE, Int.reduceNeg, Int.reduceEq, Nat.reduceEqDiff, not_true_eq_false, not_false_eq_true]
    cases e : s.cps.toList.all prt
    · rw [e] at h'
      simp only [↓x_fnD, ↓x_skip, ↓x_seq, ↓x_brk, ↓x_cnt, ↓x_exp, ↓x_ret, ↓x_retN, ↓x_ifS, ↓x_set, ↓x_asg, ↓x_own, ↓x_fLst, ↓x_tape, ↓x_C, ↓x_op, ↓x_un, ↓x_test, ↓x_and, ↓x_or, ↓x_not, ↓x_if, ↓x_dnil, ↓x_dcons, ↓x_anil, ↓x_acons, ↓x_tup, ↓x_lst, ↓x_call, ↓x_fn, ↓x_isi, ↓x_new, ↓x_gN, ↓x_yes, ↓x_for, ↓x_iData, ↓x_iRg1, ↓x_oNo, ↓x_oSome, ↓x_sl, ↓x_mD1, ↓x_mD2, ↓x_mD3, ↓x_mD4, ↓x_mD5, ↓x_mT0, ↓x_mT1, ↓x_mT2, ↓x_mT3, ↓x_mT4, ↓x_eqI, ↓x_eqS, ↓x_eqB, ↓x_eqIS, ↓x_eqSI, ↓x_eqNN, ↓x_eqNI, ↓x_eqIN, ↓x_eqNS, ↓x_eqSN, ↓x_neI, ↓x_neS, ↓x_neB, ↓x_ltI, ↓x_ltS, ↓x_leI, ↓x_leS, ↓x_gtI, ↓x_gtS, ↓x_geI, ↓x_geS, ↓x_isN, ↓x_notN, ↓x_nonN, ↓x_nonI, ↓x_nonB, ↓x_nonS, ↓x_nonT, ↓x_nonL, ↓x_addI, ↓x_addS, ↓x_addT, ↓x_addL, ↓x_subI, ↓x_negI, ↓x_mulI, ↓x_mulS, ↓x_mulL, ↓x_modI, ↓x_divI, ↓x_powI, ↓x_lenL, ↓x_lenT, ↓x_lenS, ↓x_max2, ↓x_min2, ↓x_int1I, ↓x_int1B, ↓x_listL, ↓x_listT, ↓x_listS, ↓x_itL, ↓x_itT, ↓x_itS, ↓x_ixL0, ↓x_ixT0, ↓x_ixT1, ↓x_ixL1, ↓x_ixT2, ↓x_ixL2, ↓x_ixT3, ↓x_ixT4, ↓x_ixT5, ↓x_lc, ↓x_wipe0, ↓x_wipe1, ↓x_join, ↓x_gT, ↓x_gsN, ↓x_gsC, ↓x_notV, ↓x_andV, ↓x_orV, ↓x_chain, ↓x_tape1, ↓x_v0, ↓x_st0, ↓x_ap0, ↓x_io0, ↓x_lo0, ↓x_ro0, ↓x_v1, ↓x_st1, ↓x_ap1, ↓x_io1, ↓x_lo1, ↓x_ro1, ↓x_v2, ↓x_st2, ↓x_ap2, ↓x_io2, ↓x_lo2, ↓x_ro2, ↓x_v3, ↓x_st3, ↓x_ap3, ↓x_io3, ↓x_lo3, ↓x_ro3, ↓x_v4, ↓x_st4, ↓x_ap4, ↓x_io4, ↓x_lo4, ↓x_ro4, ↓x_v5, ↓x_st5, ↓x_ap5, ↓x_io5, ↓x_lo5, ↓x_ro5, ↓x_v6, ↓x_st6, ↓x_ap6, ↓x_io6, ↓x_lo6, ↓x_ro6, ↓x_v7, ↓x_st7, ↓x_ap7, ↓x_io7, ↓x_lo7, ↓x_ro7, ↓x_v8, ↓x_st8, ↓x_ap8, ↓x_io8, ↓x_lo8, ↓x_ro8, ↓x_v9, ↓x_st9, ↓x_ap9, ↓x_io9, ↓x_lo9, ↓x_ro9, ↓x_v10, ↓x_st10, ↓x_ap10, ↓x_io10, ↓x_lo10, ↓x_ro10, ↓x_v11, ↓x_st11, ↓x_ap11, ↓x_io11, ↓x_lo11, ↓x_ro11, ↓x_v12, ↓x_v13, ↓x_v14, ↓x_v15, ↓x_ss0, ↓x_ls0, ↓x_subII, ↓x_subBB, ↓x_repr, ↓x_sw, ↓x_M1, ↓x_par, ↓x_gSt1, ↓x_gSt3, ↓x_fo0, ↓x_fd0, ↓x_po0, ↓x_pt0, ↓x_fo1, ↓x_fd1, ↓x_po1, ↓x_pt1, ↓x_fo2, ↓x_fd2, ↓x_po2, ↓x_pt2, ↓x_fo3, ↓x_fd3, ↓x_po3, ↓x_pt3, ↓x_fo4, ↓x_fd4, ↓x_po4, ↓x_pt4, ↓x_fo5, ↓x_fd5, ↓x_po5, ↓x_pt5, ↓x_fo6, ↓x_fd6, ↓x_po6, ↓x_pt6, ↓x_fo7, ↓x_fd7, ↓x_po7, ↓x_pt7, ↓x_fo8, ↓x_fd8, ↓x_po8, ↓x_pt8, ↓x_fo9, ↓x_fd9, ↓x_po9, ↓x_pt9, ↓x_fo10, ↓x_fd10, ↓x_po10, ↓x_pt10, ↓x_fo11, ↓x_fd11, ↓x_po11, ↓x_pt11, ↓x_plI, ↓x_plB, ↓x_plS, ↓x_in2, ↓x_in3, ↓x_sl1T, ↓x_sl1L, ↓x_slS, ↓x_tuL, ↓x_tuT, ↓x_enumD, ↓x_iAsc, ↓x_eq0T, ↓x_eq0L, ↓x_mulT, ↓x_pu0, ↓x_pu1, ↓x_pu2, ↓x_pu3, ↓x_pu4, ↓x_pu5, ↓x_pu6, ↓x_pu7, ↓x_pu8, ↓x_pu9, ↓x_pu10, ↓x_pu11, ↓x_isB, ↓x_isNB, ↓x_nonD, ↓x_in4, ↓x_nin4, ↓x_nin2, ↓x_tupRg, ↓x_lstRg, ↓x_g_LIMIT, ↓x_g_MAX_CHOICES, ↓x_g_MAX_DEPTH, ↓x_g_MAX_ORDER, ↓x_g_MAX_TEXT, ↓x_g_TESTS, List.cons_append, List.nil_append, List.replicate_succ, List.replicate_zero, List.set_cons_zero, List.set_cons_succ, List.getElem?_cons_zero, List.getElem?_cons_succ, decide_eq_true_eq, Bool.false_eq_true, Bool.true_eq_false, ↓reduceIte, Bool.not_true, Bool.not_false, decide_true, decide_false, isTy, isTyK, kindD, PySem.sizeLine_eq, List.length_cons, List.length_nil, true_and, and_true, true_implies, Bool.not_eq_true', decide_eq_false_iff_not, Nat.reduceAdd, Nat.reduceLeDiff, Nat.reduceLT, Int.reduceAdd, Int.reduceSub, Int.reduceLT, Int.reduceLE, Int.reduceNeg, Int.reduceEq, Nat.reduceEqDiff, not_true_eq_false, not_false_eq_true]
      exact h'
    · rw [e] at h'
      simp only [↓x_fnD, ↓x_skip, ↓x_seq, ↓x_brk, ↓x_cnt, ↓x_exp, ↓x_ret, ↓x_retN, ↓x_ifS, ↓x_set, ↓x_asg, ↓x_own, ↓x_fLst, ↓x_tape, ↓x_C, ↓x_op, ↓x_un, ↓x_test, ↓x_and, ↓x_or, ↓x_not, ↓x_if, ↓x_dnil, ↓x_dcons, ↓x_anil, ↓x_acons, ↓x_tup, ↓x_lst, ↓x_call, ↓x_fn, ↓x_isi, ↓x_new, ↓x_gN, ↓x_yes, ↓x_for, ↓x_iData, ↓x_iRg1, ↓x_oNo, ↓x_oSome, ↓x_sl, ↓x_mD1, ↓x_mD2, ↓x_mD3, ↓x_mD4, ↓x_mD5, ↓x_mT0, ↓x_mT1, ↓x_mT2, ↓x_mT3, ↓x_mT4, ↓x_eqI, ↓x_eqS, ↓x_eqB, ↓x_eqIS, ↓x_eqSI, ↓x_eqNN, ↓x_eqNI, ↓x_eqIN, ↓x_eqNS, ↓x_eqSN, ↓x_neI, ↓x_neS, ↓x_neB, ↓x_ltI, ↓x_ltS, ↓x_leI, ↓x_leS, ↓x_gtI, ↓x_gtS, ↓x_geI, ↓x_geS, ↓x_isN, ↓x_notN, ↓x_nonN, ↓x_nonI, ↓x_nonB, ↓x_nonS, ↓x_nonT, ↓x_nonL, ↓x_addI, ↓x_addS, ↓x_addT, ↓x_addL, ↓x_subI, ↓x_negI, ↓x_mulI, ↓x_mulS, ↓x_mulL, ↓x_modI, ↓x_divI, ↓x_powI, ↓x_lenL, ↓x_lenT, ↓x_lenS, ↓x_max2, ↓x_min2, ↓x_int1I, ↓x_int1B, ↓x_listL, ↓x_listT, ↓x_listS, ↓x_itL, ↓x_itT, ↓x_itS, ↓x_ixL0, ↓x_ixT0, ↓x_ixT1, ↓x_ixL1, ↓x_ixT2, ↓x_ixL2, ↓x_ixT3, ↓x_ixT4, ↓x_ixT5, ↓x_lc, ↓x_wipe0, ↓x_wipe1, ↓x_join, ↓x_gT, ↓x_gsN, ↓x_gsC, ↓x_notV, ↓x_andV, ↓x_orV, ↓x_chain, ↓x_tape1, ↓x_v0, ↓x_st0, ↓x_ap0, ↓x_io0, ↓x_lo0, ↓x_ro0, ↓x_v1, ↓x_st1, ↓x_ap1, ↓x_io1, ↓x_lo1, ↓x_ro1, ↓x_v2, ↓x_st2, ↓x_ap2, ↓x_io2, ↓x_lo2, ↓x_ro2, ↓x_v3, ↓x_st3, ↓x_ap3, ↓x_io3, ↓x_lo3, ↓x_ro3, ↓x_v4, ↓x_st4, ↓x_ap4, ↓x_io4, ↓x_lo4, ↓x_ro4, ↓x_v5, ↓x_st5, ↓x_ap5, ↓x_io5, ↓x_lo5, ↓x_ro5, ↓x_v6, ↓x_st6, ↓x_ap6, ↓x_io6, ↓x_lo6, ↓x_ro6, ↓x_v7, ↓x_st7, ↓x_ap7, ↓x_io7, ↓x_lo7, ↓x_ro7, ↓x_v8, ↓x_st8, ↓x_ap8, ↓x_io8, ↓x_lo8, ↓x_ro8, ↓x_v9, ↓x_st9, ↓x_ap9, ↓x_io9, ↓x_lo9, ↓x_ro9, ↓x_v10, ↓x_st10, ↓x_ap10, ↓x_io10, ↓x_lo10, ↓x_ro10, ↓x_v11, ↓x_st11, ↓x_ap11, ↓x_io11, ↓x_lo11, ↓x_ro11, ↓x_v12, ↓x_v13, ↓x_v14, ↓x_v15, ↓x_ss0, ↓x_ls0, ↓x_subII, ↓x_subBB, ↓x_repr, ↓x_sw, ↓x_M1, ↓x_par, ↓x_gSt1, ↓x_gSt3, ↓x_fo0, ↓x_fd0, ↓x_po0, ↓x_pt0, ↓x_fo1, ↓x_fd1, ↓x_po1, ↓x_pt1, ↓x_fo2, ↓x_fd2, ↓x_po2, ↓x_pt2, ↓x_fo3, ↓x_fd3, ↓x_po3, ↓x_pt3, ↓x_fo4, ↓x_fd4, ↓x_po4, ↓x_pt4, ↓x_fo5, ↓x_fd5, ↓x_po5, ↓x_pt5, ↓x_fo6, ↓x_fd6, ↓x_po6, ↓x_pt6, ↓x_fo7, ↓x_fd7, ↓x_po7, ↓x_pt7, ↓x_fo8, ↓x_fd8, ↓x_po8, ↓x_pt8, ↓x_fo9, ↓x_fd9, ↓x_po9, ↓x_pt9, ↓x_fo10, ↓x_fd10, ↓x_po10, ↓x_pt10, ↓x_fo11, ↓x_fd11, ↓x_po11, ↓x_pt11, ↓x_plI, ↓x_plB, ↓x_plS, ↓x_in2, ↓x_in3, ↓x_sl1T, ↓x_sl1L, ↓x_slS, ↓x_tuL, ↓x_tuT, ↓x_enumD, ↓x_iAsc, ↓x_eq0T, ↓x_eq0L, ↓x_mulT, ↓x_pu0, ↓x_pu1, ↓x_pu2, ↓x_pu3, ↓x_pu4, ↓x_pu5, ↓x_pu6, ↓x_pu7, ↓x_pu8, ↓x_pu9, ↓x_pu10, ↓x_pu11, ↓x_isB, ↓x_isNB, ↓x_nonD, ↓x_in4, ↓x_nin4, ↓x_nin2, ↓x_tupRg, ↓x_lstRg, ↓x_g_LIMIT, ↓x_g_MAX_CHOICES, ↓x_g_MAX_DEPTH, ↓x_g_MAX_ORDER, ↓x_g_MAX_TEXT, ↓x_g_TESTS, List.cons_append, List.nil_append, List.replicate_succ, List.replicate_zero, List.set_cons_zero, List.set_cons_succ, List.getElem?_cons_zero, List.getElem?_cons_succ, decide_eq_true_eq, Bool.false_eq_true, Bool.true_eq_false, ↓reduceIte, Bool.not_true, Bool.not_false, decide_true, decide_false, isTy, isTyK, kindD, PySem.sizeLine_eq, List.length_cons, List.length_nil, true_and, and_true, true_implies, Bool.not_eq_true', decide_eq_false_iff_not, Nat.reduceAdd, Nat.reduceLeDiff, Nat.reduceLT, Int.reduceAdd, Int.reduceSub, Int.reduceLT, Int.reduceLE, Int.reduceNeg, Int.reduceEq, Nat.reduceEqDiff, not_true_eq_false, not_false_eq_true]
      refine ⟨by omega, ?_⟩
      have e2 : decide ((s.length : Int) ≤ 20) = decide (s.length ≤ 20) := by
        by_cases z : s.length ≤ 20
        · rw [decide_eq_true z, decide_eq_true (by omega)]
        · rw [decide_eq_false z, decide_eq_false (by omega)]
      show R (.bool (decide ((s.length : Int) ≤ 20)))
      rw [e2]
      exact h'
  | _ =>
    simp only [↓x_fnD, ↓x_skip, ↓x_seq, ↓x_brk, ↓x_cnt, ↓x_exp, ↓x_ret, ↓x_retN, ↓x_ifS, ↓x_set, ↓x_asg, ↓x_own, ↓x_fLst, ↓x_tape, ↓x_C, ↓x_op, ↓x_un, ↓x_test, ↓x_and, ↓x_or, ↓x_not, ↓x_if, ↓x_dnil, ↓x_dcons, ↓x_anil, ↓x_acons, ↓x_tup, ↓x_lst, ↓x_call, ↓x_fn, ↓x_isi, ↓x_new, ↓x_gN, ↓x_yes, ↓x_for, ↓x_iData, ↓x_iRg1, ↓x_oNo, ↓x_oSome, ↓x_sl, ↓x_mD1, ↓x_mD2, ↓x_mD3, ↓x_mD4, ↓x_mD5, ↓x_mT0, ↓x_mT1, ↓x_mT2, ↓x_mT3, ↓x_mT4, ↓x_eqI, ↓x_eqS, ↓x_eqB, ↓x_eqIS, ↓x_eqSI, ↓x_eqNN, ↓x_eqNI, ↓x_eqIN, ↓x_eqNS, ↓x_eqSN, ↓x_neI, ↓x_neS, ↓x_neB, ↓x_ltI, ↓x_ltS, ↓x_leI, ↓x_leS, ↓x_gtI, ↓x_gtS, ↓x_geI, ↓x_geS, ↓x_isN, ↓x_notN, ↓x_nonN, ↓x_nonI, ↓x_nonB, ↓x_nonS, ↓x_nonT, ↓x_nonL, ↓x_addI, ↓x_addS, ↓x_addT, ↓x_addL, ↓x_subI, ↓x_negI, ↓x_mulI, ↓x_mulS, ↓x_mulL, ↓x_modI, ↓x_divI, ↓x_powI, ↓x_lenL, ↓x_lenT, ↓x_lenS, ↓x_max2, ↓x_min2, ↓x_int1I, ↓x_int1B, ↓x_listL, ↓x_listT, ↓x_listS, ↓x_itL, ↓x_itT, ↓x_itS, ↓x_ixL0, ↓x_ixT0, ↓x_ixT1, ↓x_ixL1, ↓x_ixT2, ↓x_ixL2, ↓x_ixT3, ↓x_ixT4, ↓x_ixT5, ↓x_lc, ↓x_wipe0, ↓x_wipe1, ↓x_join, ↓x_gT, ↓x_gsN, ↓x_gsC, ↓x_notV, ↓x_andV, ↓x_orV, ↓x_chain, ↓x_tape1, ↓x_v0, ↓x_st0, ↓x_ap0, ↓x_io0, ↓x_lo0, ↓x_ro0, ↓x_v1, ↓x_st1, ↓x_ap1, ↓x_io1, ↓x_lo1, ↓x_ro1, ↓x_v2, ↓x_st2, ↓x_ap2, ↓x_io2, ↓x_lo2, ↓x_ro2, ↓x_v3, ↓x_st3, ↓x_ap3, ↓x_io3, ↓x_lo3, ↓x_ro3, ↓x_v4, ↓x_st4, ↓x_ap4, ↓x_io4, ↓x_lo4, ↓x_ro4, ↓x_v5, ↓x_st5, ↓x_ap5, ↓x_io5, ↓x_lo5, ↓x_ro5, ↓x_v6, ↓x_st6, ↓x_ap6, ↓x_io6, ↓x_lo6, ↓x_ro6, ↓x_v7, ↓x_st7, ↓x_ap7, ↓x_io7, ↓x_lo7, ↓x_ro7, ↓x_v8, ↓x_st8, ↓x_ap8, ↓x_io8, ↓x_lo8, ↓x_ro8, ↓x_v9, ↓x_st9, ↓x_ap9, ↓x_io9, ↓x_lo9, ↓x_ro9, ↓x_v10, ↓x_st10, ↓x_ap10, ↓x_io10, ↓x_lo10, ↓x_ro10, ↓x_v11, ↓x_st11, ↓x_ap11, ↓x_io11, ↓x_lo11, ↓x_ro11, ↓x_v12, ↓x_v13, ↓x_v14, ↓x_v15, ↓x_ss0, ↓x_ls0, ↓x_subII, ↓x_subBB, ↓x_repr, ↓x_sw, ↓x_M1, ↓x_par, ↓x_gSt1, ↓x_gSt3, ↓x_fo0, ↓x_fd0, ↓x_po0, ↓x_pt0, ↓x_fo1, ↓x_fd1, ↓x_po1, ↓x_pt1, ↓x_fo2, ↓x_fd2, ↓x_po2, ↓x_pt2, ↓x_fo3, ↓x_fd3, ↓x_po3, ↓x_pt3, ↓x_fo4, ↓x_fd4, ↓x_po4, ↓x_pt4, ↓x_fo5, ↓x_fd5, ↓x_po5, ↓x_pt5, ↓x_fo6, ↓x_fd6, ↓x_po6, ↓x_pt6, ↓x_fo7, ↓x_fd7, ↓x_po7, ↓x_pt7, ↓x_fo8, ↓x_fd8, ↓x_po8, ↓x_pt8, ↓x_fo9, ↓x_fd9, ↓x_po9, ↓x_pt9, ↓x_fo10, ↓x_fd10, ↓x_po10, ↓x_pt10, ↓x_fo11, ↓x_fd11, ↓x_po11, ↓x_pt11, ↓x_plI, ↓x_plB, ↓x_plS, ↓x_in2, ↓x_in3, ↓x_sl1T, ↓x_sl1L, ↓x_slS, ↓x_tuL, ↓x_tuT, ↓x_enumD, ↓x_iAsc, ↓x_eq0T, ↓x_eq0L, ↓x_mulT, ↓x_pu0, ↓x_pu1, ↓x_pu2, ↓x_pu3, ↓x_pu4, ↓x_pu5, ↓x_pu6, ↓x_pu7, ↓x_pu8, ↓x_pu9, ↓x_pu10, ↓x_pu11, ↓x_isB, ↓x_isNB, ↓x_nonD, ↓x_in4, ↓x_nin4, ↓x_nin2, ↓x_tupRg, ↓x_lstRg, ↓x_g_LIMIT, ↓x_g_MAX_CHOICES, ↓x_g_MAX_DEPTH, ↓x_g_MAX_ORDER, ↓x_g_MAX_TEXT, ↓x_g_TESTS, List.cons_append, List.nil_append, List.replicate_succ, List.replicate_zero, List.set_cons_zero, List.set_cons_succ, List.getElem?_cons_zero, List.getElem?_cons_succ, decide_eq_true_eq, Bool.false_eq_true, Bool.true_eq_false, ↓reduceIte, Bool.not_true, Bool.not_false, decide_true, decide_false, isTy, isTyK, kindD, PySem.sizeLine_eq, List.length_cons, List.length_nil, true_and, and_true, true_implies, Bool.not_eq_true', decide_eq_false_iff_not, Nat.reduceAdd, Nat.reduceLeDiff, Nat.reduceLT, Int.reduceAdd, Int.reduceSub, Int.reduceLT, Int.reduceLE, Int.reduceNeg, Int.reduceEq, Nat.reduceEqDiff, not_true_eq_false, not_false_eq_true]
    exact h
theorem ok_is_text (T : Txt K mg) {f : Addr} {fd : FuncData} (F : Fun K "is_text" "is_text" s_is_text f fd) : FnG P w K mg base 2 f fd ["value"] (spD P w K 1 (fnD b_is_text 0)) :=
  fn_okG F sc_is_text fun cdv A outer s H E hr hgd => by
    have hu := hr.units
    exact (s_one (s_ret (e_and (e_fnG (cal_is_printable T) hr hgd (a_cons (ev 0) a_nil) ) (e_one (e_cmpD oLe (e_cbB bLen T.b_len bo_len (d_cons (ev 0) d_nil)) (e_glob rfl T.g_MAX_TEXT))))))
theorem cal_is_text (T : Txt K mg) : CalG P w K mg base 2 "is_text" (spD P w K 1 m_is_text) :=
  CalG.imp (calG_of T.f_is_text (show BindsN "is_text" s_is_text ["value"] from fun _ _ _ _ _ _ us hl => match us, hl with | [_], _ => rfl) fun _ _ F => ok_is_text T F) spec_is_text
theorem sc_is_value : FnScope N_is_value ["value"] (defScope s_is_value) := ⟨rfl, rfl, rfl, by decide +kernel, rfl, by decide +kernel, by decide +kernel⟩
def b_is_value : DS := (dSeq (dIfS (dTest (dFn m_is_integer (aCons (dVar 0) aNil))) (dRet (dChain fLe fLe (dUn fNeg (dC g_LIMIT)) (dVar 0) (dC g_LIMIT))) dSkip)
    (dRet (dOrV (dOp fIsN (dVar 0) (dC .none)) (dFn m_is_text (aCons (dVar 0) aNil)))))
abbrev m_is_value : List SV → EK → Prop := mD1 fun d Q => (∀ s, d = .str s → s.length ≤ 100000) ∧ Q (.bool (valueB d))
theorem spec_is_value (svs : List SV) (R : EK) (_ : svs.length = 1) (h : m_is_value svs R) : fnD b_is_value 0 svs R := by
  obtain ⟨d, rfl, hl, h⟩ := mD1_elim h
  cases d with
  | int i =>
    have h' : R (.bool (decide (-1000000000 ≤ i) && decide (i ≤ 1000000000))) := h
    simp only [b_is_value, isInt, ↓x_fnD, ↓x_skip, ↓x_seq, ↓x_brk, ↓x_cnt, ↓x_exp, ↓x_ret, ↓x_retN, ↓x_ifS, ↓x_set, ↓x_asg, ↓x_own, ↓x_fLst, ↓x_tape, ↓x_C, ↓x_op, ↓x_un, ↓x_test, ↓x_and, ↓x_or, ↓x_not, ↓x_if, ↓x_dnil, ↓x_dcons, ↓x_anil, ↓x_acons, ↓x_tup, ↓x_lst, ↓x_call, ↓x_fn, ↓x_isi, ↓x_new, ↓x_gN, ↓x_yes, ↓x_for, ↓x_iData, ↓x_iRg1, ↓x_oNo, ↓x_oSome, ↓x_sl, ↓x_mD1, ↓x_mD2, ↓x_mD3, ↓x_mD4, ↓x_mD5, ↓x_mT0, ↓x_mT1, ↓x_mT2, ↓x_mT3, ↓x_mT4, ↓x_eqI, ↓x_eqS, ↓x_eqB, ↓x_eqIS, ↓x_eqSI, ↓x_eqNN, ↓x_eqNI, ↓x_eqIN, ↓x_eqNS, ↓x_eqSN, ↓x_neI, ↓x_neS, ↓x_neB, ↓x_ltI, ↓x_ltS, ↓x_leI, ↓x_leS, ↓x_gtI, ↓x_gtS, ↓x_geI, ↓x_geS, ↓x_isN, ↓x_notN, ↓x_nonN, ↓x_nonI, ↓x_nonB, ↓x_nonS, ↓x_nonT, ↓x_nonL, ↓x_addI, ↓x_addS, ↓x_addT, ↓x_addL, ↓x_subI, ↓x_negI, ↓x_mulI, ↓x_mulS, ↓x_mulL, ↓x_modI, ↓x_divI, ↓x_powI, ↓x_lenL, ↓x_lenT, ↓x_lenS, ↓x_max2, ↓x_min2, ↓x_int1I, ↓x_int1B, ↓x_listL, ↓x_listT, ↓x_listS, ↓x_itL, ↓x_itT, ↓x_itS, ↓x_ixL0, ↓x_ixT0, ↓x_ixT1, ↓x_ixL1, ↓x_ixT2, ↓x_ixL2, ↓x_ixT3, ↓x_ixT4, ↓x_ixT5, ↓x_lc, ↓x_wipe0, ↓x_wipe1, ↓x_join, ↓x_gT, ↓x_gsN, ↓x_gsC, ↓x_notV, ↓x_andV, ↓x_orV, ↓x_chain, ↓x_tape1, ↓x_v0, ↓x_st0, ↓x_ap0, ↓x_io0, ↓x_lo0, ↓x_ro0, ↓x_v1, ↓x_st1, ↓x_ap1, ↓x_io1, ↓x_lo1, ↓x_ro1, ↓x_v2, ↓x_st2, ↓x_ap2, ↓x_io2, ↓x_lo2, ↓x_ro2, ↓x_v3, ↓x_st3, ↓x_ap3, ↓x_io3, ↓x_lo3, ↓x_ro3, ↓x_v4, ↓x_st4, ↓x_ap4, ↓x_io4, ↓x_lo4, ↓x_ro4, ↓x_v5, ↓x_st5, ↓x_ap5, ↓x_io5, ↓x_lo5, ↓x_ro5, ↓x_v6, ↓x_st6, ↓x_ap6, ↓x_io6, ↓x_lo6, ↓x_ro6, ↓x_v7, ↓x_st7, ↓x_ap7, ↓x_io7, ↓x_lo7, ↓x_ro7, ↓x_v8, ↓x_st8, ↓x_ap8, ↓x_io8, ↓x_lo8, ↓x_ro8, ↓x_v9, ↓x_st9, ↓x_ap9, ↓x_io9, ↓x_lo9, ↓x_ro9, ↓x_v10, ↓x_st10, ↓x_ap10, ↓x_io10, ↓x_lo10, ↓x_ro10, ↓x_v11, ↓x_st11, ↓x_ap11, ↓x_io11, ↓x_lo11, ↓x_ro11, ↓x_v12, ↓x_v13, ↓x_v14, ↓x_v15, ↓x_ss0, ↓x_ls0, ↓x_subII, ↓x_subBB, ↓x_repr, ↓x_sw, ↓x_M1, ↓x_par, ↓x_gSt1, ↓x_gSt3, ↓x_fo0, ↓x_fd0, ↓x_po0, ↓x_pt0, ↓x_fo1, ↓x_fd1, ↓x_po1, ↓x_pt1, ↓x_fo2, ↓x_fd2, ↓x_po2, ↓x_pt2, ↓x_fo3, ↓x_fd3, ↓x_po3, ↓x_pt3, ↓x_fo4, ↓x_fd4, ↓x_po4, ↓x_pt4, ↓x_fo5, ↓x_fd5, ↓x_po5, ↓x_pt5, ↓x_fo6, ↓x_fd6, ↓x_po6, ↓x_pt6, ↓x_fo7, ↓x_fd7, ↓x_po7, ↓x_pt7, ↓x_fo8, ↓x_fd8, ↓x_po8, ↓x_pt8, ↓x_fo9, ↓x_fd9, ↓x_po9, ↓x_pt9, ↓x_fo10, ↓x_fd10, ↓x_po10, ↓x_pt10, ↓x_fo11, ↓x_fd11, ↓x_po11, ↓x_pt11, ↓x_plI, ↓x_plB, ↓x_plS, ↓x_in2, ↓x_in3, ↓x_sl1T, ↓x_sl1L, ↓x_slS, ↓x_tuL, ↓x_tuT, ↓x_enumD, ↓x_iAsc, ↓x_eq0T, ↓x_eq0L, ↓x_mulT, ↓x_pu0, ↓x_pu1, ↓x_pu2, ↓x_pu3, ↓x_pu4, ↓x_pu5, ↓x_pu6, ↓x_pu7, ↓x_pu8, ↓x_pu9, ↓x_pu10, ↓x_pu11, ↓x_isB, ↓x_isNB, ↓x_nonD, ↓x_in4, ↓x_nin4, ↓x_nin2, ↓x_tupRg, ↓x_lstRg, ↓x_g_LIMIT, ↓x_g_MAX_CHOICES, ↓x_g_MAX_DEPTH, ↓x_g_MAX_ORDER, ↓x_g_MAX_TEXT, ↓x_g_TESTS, List.cons_append, List.nil_append, List.replicate_succ, List.replicate_zero, List.set_cons_zero, List.set_cons_succ, List.getElem?_cons_zero, List.getElem?_cons_succ, decide_eq_true_eq, Bool.false_eq_true, Bool.true_eq_false, ↓reduceIte, Bool.not_true, Bool.not_false, decide_true, decide_false, isTy, isTyK, kindD, PySem.sizeLine_eq, List.length_cons, List.length_nil, true_and, and_true, true_implies, Bool.not_eq_true', decide_eq_false_iff_not, Nat.reduceAdd, Nat.reduceLeDiff, Nat.reduceLT, Int.reduceAdd, Int.reduceSub, Int.reduceLT, Int.reduceLE, Int.reduceNeg, Int.reduceEq, Nat.reduceEqDiff, not_true_eq_false, not_false_eq_true]
    cases e : decide (-1000000000 ≤ i) <;> rw [e] at h' <;> simpa using h'
  | str s =>
    simp only [b_is_value, isInt, ↓x_fnD, ↓x_skip, ↓x_seq, ↓x_brk, ↓x_cnt, ↓x_exp, ↓x_ret, ↓x_retN, ↓x_ifS, ↓x_set, ↓x_asg, ↓x_own, ↓x_fLst, ↓x_tape, ↓x_C, ↓x_op, ↓x_un, ↓x_test, ↓x_and, ↓x_or, ↓x_not, ↓x_if, ↓x_dnil, ↓x_dcons, ↓x_anil, ↓x_acons, ↓x_tup, ↓x_lst, ↓x_call, ↓x_fn, ↓x_isi, ↓x_new, ↓x_gN, ↓x_yes, ↓x_for, ↓x_iData, ↓x_iRg1, ↓x_oNo, ↓x_oSome, ↓x_sl, ↓x_mD1, ↓x_mD2, ↓x_mD3, ↓x_mD4, ↓x_mD5, ↓x_mT0, ↓x_mT1, ↓x_mT2, ↓x_mT3, ↓x_mT4, ↓x_eqI, ↓x_eqS, ↓x_eqB, ↓x_eqIS, ↓x_eqSI, ↓x_eqNN, ↓x_eqNI, ↓x_eqIN, ↓x_eqNS, ↓x_eqSN, ↓x_neI, ↓x_neS, ↓x_neB, ↓x_ltI, ↓x_ltS, ↓x_leI, ↓x_leS, ↓x_gtI, ↓x_gtS, ↓x_geI, ↓x_geS, ↓x_isN, ↓x_notN, ↓x_nonN, ↓x_nonI, ↓x_nonB, ↓x_nonS, ↓x_nonT, ↓x_nonL, ↓x_addI, ↓x_addS, ↓x_addT, ↓x_addL, ↓x_subI, ↓x_negI, ↓x_mulI, ↓x_mulS, ↓x_mulL, ↓x_modI, ↓x_divI, ↓x_powI, ↓x_lenL, ↓x_lenT, ↓x_lenS, ↓x_max2, ↓x_min2, ↓x_int1I, ↓x_int1B, ↓x_listL, ↓x_listT, ↓x_listS, ↓x_itL, ↓x_itT, ↓x_itS, ↓x_ixL0, ↓x_ixT0, ↓x_ixT1, ↓x_ixL1, ↓x_ixT2, ↓x_ixL2, ↓x_ixT3, ↓x_ixT4, ↓x_ixT5, ↓x_lc, ↓x_wipe0, ↓x_wipe1, ↓x_join, ↓x_gT, ↓x_gsN, ↓x_gsC, ↓x_notV, ↓x_andV, ↓x_orV, ↓x_chain, ↓x_tape1, ↓x_v0, ↓x_st0, ↓x_ap0, ↓x_io0, ↓x_lo0, ↓x_ro0, ↓x_v1, ↓x_st1, ↓x_ap1, ↓x_io1, ↓x_lo1, ↓x_ro1, ↓x_v2, ↓x_st2, ↓x_ap2, ↓x_io2, ↓x_lo2, ↓x_ro2, ↓x_v3, ↓x_st3, ↓x_ap3, ↓x_io3, ↓x_lo3, ↓x_ro3, ↓x_v4, ↓x_st4, ↓x_ap4, ↓x_io4, ↓x_lo4, ↓x_ro4, ↓x_v5, ↓x_st5, ↓x_ap5, ↓x_io5, ↓x_lo5, ↓x_ro5, ↓x_v6, ↓x_st6, ↓x_ap6, ↓x_io6, ↓x_lo6, ↓x_ro6, ↓x_v7, ↓x_st7, ↓x_ap7, ↓x_io7, ↓x_lo7, ↓x_ro7, ↓x_v8, ↓x_st8, ↓x_ap8, ↓x_io8, ↓x_lo8, ↓x_ro8, ↓x_v9, ↓x_st9, ↓x_ap9, ↓x_io9, ↓x_lo9, ↓x_ro9, ↓x_v10, ↓x_st10, ↓x_ap10, ↓x_io10, ↓x_lo10, ↓x_ro10, ↓x_v11, ↓x_st11, ↓x_ap11, ↓x_io11, ↓x_lo11, ↓x_ro11, ↓x_v12, ↓x_v13, ↓x_v14, ↓x_v15, ↓x_ss0, ↓x_ls0, ↓x_subII, ↓x_subBB, ↓x_repr, ↓x_sw, ↓x_M1, ↓x_par, ↓x_gSt1, ↓x_gSt3, ↓x_fo0, ↓x_fd0, ↓x_po0, ↓x_pt0, ↓x_fo1, ↓x_fd1, ↓x_po1, ↓x_pt1, ↓x_fo2, ↓x_fd2, ↓x_po2, ↓x_pt2, ↓x_fo3, ↓x_fd3, ↓x_po3, ↓x_pt3, ↓x_fo4, ↓x_fd4, ↓x_po4, ↓x_pt4, ↓x_fo5, ↓x_fd5, ↓x_po5, ↓x_pt5, ↓x_fo6, ↓x_fd6, ↓x_po6, ↓x_pt6, ↓x_fo7, ↓x_fd7, ↓x_po7, ↓x_pt7, ↓x_fo8, ↓x_fd8, ↓x_po8, ↓x_pt8, ↓x_fo9, ↓x_fd9, ↓x_po9, ↓x_pt9, ↓x_fo10, ↓x_fd10, ↓x_po10, ↓x_pt10, ↓x_fo11, ↓x_fd11, ↓x_po11, ↓x_pt11, ↓x_plI, ↓x_plB, ↓x_plS, ↓x_in2, ↓x_in3, ↓x_sl1T, ↓x_sl1L, ↓x_slS, ↓x_tuL, ↓x_tuT, ↓x_enumD, ↓x_iAsc, ↓x_eq0T, ↓x_eq0L, ↓x_mulT, ↓x_pu0, ↓x_pu1, ↓x_pu2, ↓x_pu3, ↓x_pu4, ↓x_pu5, ↓x_pu6, ↓x_pu7, ↓x_pu8, ↓x_pu9, ↓x_pu10, ↓x_pu11, ↓x_isB, ↓x_isNB, ↓x_nonD, ↓x_in4, ↓x_nin4, ↓x_nin2, ↓x_tupRg, ↓x_lstRg, ↓x_g_LIMIT, ↓x_g_MAX_CHOICES, ↓x_g_MAX_DEPTH, ↓x_g_MAX_ORDER, ↓x_g_MAX_TEXT, ↓x_g_TESTS, List.cons_append, List.nil_append, List.replicate_succ, List.replicate_zero, List.set_cons_zero, List.set_cons_succ, List.getElem?_cons_zero, List.getElem?_cons_succ, decide_eq_true_eq, Bool.false_eq_true, Bool.true_eq_false, ↓reduceIte, Bool.not_true, Bool.not_false, decide_true, decide_false, isTy, isTyK, kindD, PySem.sizeLine_eq, List.length_cons, List.length_nil, true_and, and_true, true_implies, Bool.not_eq_true', decide_eq_false_iff_not, Nat.reduceAdd, Nat.reduceLeDiff, Nat.reduceLT, Int.reduceAdd, Int.reduceSub, Int.reduceLT, Int.reduceLE, Int.reduceNeg, Int.reduceEq, Nat.reduceEqDiff, not_true_eq_false, not_false_eq_true]
    exact ⟨hl, h⟩
  | none =>
    simp only [b_is_value, isInt, ↓x_fnD, ↓x_skip, ↓x_seq, ↓x_brk, ↓x_cnt, ↓x_exp, ↓x_ret, ↓x_retN, ↓x_ifS, ↓x_set, ↓x_asg, ↓x_own, ↓x_fLst, ↓x_tape, ↓x_C, ↓x_op, ↓x_un, ↓x_test, ↓x_and, ↓x_or, ↓x_not, ↓x_if, ↓x_dnil, ↓x_dcons, ↓x_anil, ↓x_acons, ↓x_tup, ↓x_lst, ↓x_call, ↓x_fn, ↓x_isi, ↓x_new, ↓x_gN, ↓x_yes, ↓x_for, ↓x_iData, ↓x_iRg1, ↓x_oNo, ↓x_oSome, ↓x_sl, ↓x_mD1, ↓x_mD2, ↓x_mD3, ↓x_mD4, ↓x_mD5, ↓x_mT0, ↓x_mT1, ↓x_mT2, ↓x_mT3, ↓x_mT4, ↓x_eqI, ↓x_eqS, ↓x_eqB, ↓x_eqIS, ↓x_eqSI, ↓x_eqNN, ↓x_eqNI, ↓x_eqIN, ↓x_eqNS, ↓x_eqSN, ↓x_neI, ↓x_neS, ↓x_neB, ↓x_ltI, ↓x_ltS, ↓x_leI, ↓x_leS, ↓x_gtI, ↓x_gtS, ↓x_geI, ↓x_geS, ↓x_isN, ↓x_notN, ↓x_nonN, ↓x_nonI, ↓x_nonB, ↓x_nonS, ↓x_nonT, ↓x_nonL, ↓x_addI, ↓x_addS, ↓x_addT, ↓x_addL, ↓x_subI, ↓x_negI, ↓x_mulI, ↓x_mulS, ↓x_mulL, ↓x_modI, ↓x_divI, ↓x_powI, ↓x_lenL, ↓x_lenT, ↓x_lenS, ↓x_max2, ↓x_min2, ↓x_int1I, ↓x_int1B, ↓x_listL, ↓x_listT, ↓x_listS, ↓x_itL, ↓x_itT, ↓x_itS, ↓x_ixL0, ↓x_ixT0, ↓x_ixT1, ↓x_ixL1, ↓x_ixT2, ↓x_ixL2, ↓x_ixT3, ↓x_ixT4, ↓x_ixT5, ↓x_lc, ↓x_wipe0, ↓x_wipe1, ↓x_join, ↓x_gT, ↓x_gsN, ↓x_gsC, ↓x_notV, ↓x_andV, ↓x_orV, ↓x_chain, ↓x_tape1, ↓x_v0, ↓x_st0, ↓x_ap0, ↓x_io0, ↓x_lo0, ↓x_ro0, ↓x_v1, ↓x_st1, ↓x_ap1, ↓x_io1, ↓x_lo1, ↓x_ro1, ↓x_v2, ↓x_st2, ↓x_ap2, ↓x_io2, ↓x_lo2, ↓x_ro2, ↓x_v3, ↓x_st3, ↓x_ap3, ↓x_io3, ↓x_lo3, ↓x_ro3, ↓x_v4, ↓x_st4, ↓x_ap4, ↓x_io4, ↓x_lo4, ↓x_ro4, ↓x_v5, ↓x_st5, ↓x_ap5, ↓x_io5, ↓x_lo5, ↓x_ro5, ↓x_v6, ↓x_st6, ↓x_ap6, ↓x_io6, ↓x_lo6, ↓x_ro6, ↓x_v7, ↓x_st7, ↓x_ap7, ↓x_io7, ↓x_lo7, ↓x_ro7, ↓x_v8, ↓x_st8, ↓x_ap8, ↓x_io8, ↓x_lo8, ↓x_ro8, ↓x_v9, ↓x_st9, ↓x_ap9, ↓x_io9, ↓x_lo9, ↓x_ro9, ↓x_v10, ↓x_st10, ↓x_ap10, ↓x_io10, ↓x_lo10, ↓x_ro10, ↓x_v11, ↓x_st11, ↓x_ap11, ↓x_io11, ↓x_lo11, ↓x_ro11, ↓x_v12, ↓x_v13, ↓x_v14, ↓x_v15, ↓x_ss0, ↓x_ls0, ↓x_subII, ↓x_subBB, ↓x_repr, ↓x_sw, ↓x_M1, ↓x_par, ↓x_gSt1, ↓x_gSt3, ↓x_fo0, ↓x_fd0, ↓x_po0, ↓x_pt0, ↓x_fo1, ↓x_fd1, ↓x_po1, ↓x_pt1, ↓x_fo2, ↓x_fd2, ↓x_po2, ↓x_pt2, ↓x_fo3, ↓x_fd3, ↓x_po3, ↓x_pt3, ↓x_fo4, ↓x_fd4, ↓x_po4, ↓x_pt4, ↓x_fo5, ↓x_fd5, ↓x_po5, ↓x_pt5, ↓x_fo6, ↓x_fd6, ↓x_po6, ↓x_pt6, ↓x_fo7, ↓x_fd7, ↓x_po7, ↓x_pt7, ↓x_fo8, ↓x_fd8, ↓x_po8, ↓x_pt8, ↓x_fo9, ↓x_fd9, ↓x_po9, ↓x_pt9, ↓x_fo10, ↓x_fd10, ↓x_po10, ↓x_pt10, ↓x_fo11, ↓x_fd11, ↓x_po11, ↓x_pt11, ↓x_plI, ↓x_plB, ↓x_plS, ↓x_in2, ↓x_in3, ↓x_sl1T, ↓x_sl1L, ↓x_slS, ↓x_tuL, ↓x_tuT, ↓x_enumD, ↓x_iAsc, ↓x_eq0T, ↓x_eq0L, ↓x_mulT, ↓x_pu0, ↓x_pu1, ↓x_pu2, ↓x_pu3, ↓x_pu4, ↓x_pu5, ↓x_pu6, ↓x_pu7, ↓x_pu8, ↓x_pu9, ↓x_pu10, ↓x_pu11, ↓x_isB, ↓x_isNB, ↓x_nonD, ↓x_in4, ↓x_nin4, ↓x_nin2, ↓x_tupRg, ↓x_lstRg, ↓x_g_LIMIT, ↓x_g_MAX_CHOICES, ↓x_g_MAX_DEPTH, ↓x_g_MAX_ORDER, ↓x_g_MAX_TEXT, ↓x_g_TESTS, List.cons_append, List.nil_append, List.replicate_succ, List.replicate_zero, List.set_cons_zero, List.set_cons_succ, List.getElem?_cons_zero, List.getElem?_cons_succ, decide_eq_true_eq, Bool.false_eq_true, Bool.true_eq_false, ↓reduceIte, Bool.not_true, Bool.not_false, decide_true, decide_false, isTy, isTyK, kindD, PySem.sizeLine_eq, List.length_cons, List.length_nil, true_and, and_true, true_implies, Bool.not_eq_true', decide_eq_false_iff_not, Nat.reduceAdd, Nat.reduceLeDiff, Nat.reduceLT, Int.reduceAdd, Int.reduceSub, Int.reduceLT, Int.reduceLE, Int.reduceNeg, Int.reduceEq, Nat.reduceEqDiff, not_true_eq_false, not_false_eq_true]
    exact h
  | _ =>
    simp only [b_is_value, isInt, ↓x_fnD, ↓x_skip, ↓x_seq, ↓x_brk, ↓x_cnt, ↓x_exp, ↓x_ret, ↓x_retN, ↓x_ifS, ↓x_set, ↓x_asg, ↓x_own, ↓x_fLst, ↓x_tape, ↓x_C, ↓x_op, ↓x_un, ↓x_test, ↓x_and, ↓x_or, ↓x_not, ↓x_if, ↓x_dnil, ↓x_dcons, ↓x_anil, ↓x_acons, ↓x_tup, ↓x_lst, ↓x_call, ↓x_fn, ↓x_isi, ↓x_new, ↓x_gN, ↓x_yes, ↓x_for, ↓x_iData, ↓x_iRg1, ↓x_oNo, ↓x_oSome, ↓x_sl, ↓x_mD1, ↓x_mD2, ↓x_mD3, ↓x_mD4, ↓x_mD5, ↓x_mT0, ↓x_mT1, ↓x_mT2, ↓x_mT3, ↓x_mT4, ↓x_eqI, ↓x_eqS, ↓x_eqB, ↓x_eqIS, ↓x_eqSI, ↓x_eqNN, ↓x_eqNI, ↓x_eqIN, ↓x_eqNS, ↓x_eqSN, ↓x_neI, ↓x_neS, ↓x_neB, ↓x_ltI, ↓x_ltS, ↓x_leI, ↓x_leS, ↓x_gtI, ↓x_gtS, ↓x_geI, ↓x_geS, ↓x_isN, ↓x_notN, ↓x_nonN, ↓x_nonI, ↓x_nonB, ↓x_nonS, ↓x_nonT, ↓x_nonL, ↓x_addI, ↓x_addS, ↓x_addT, ↓x_addL, ↓x_subI, ↓x_negI, ↓x_mulI, ↓x_mulS, ↓x_mulL, ↓x_modI, ↓x_divI, ↓x_powI, ↓x_lenL, ↓x_lenT, ↓x_lenS, ↓x_max2, ↓x_min2, ↓x_int1I, ↓x_int1B, ↓x_listL, ↓x_listT, ↓x_listS, ↓x_itL, ↓x_itT, ↓x_itS, ↓x_ixL0, ↓x_ixT0, ↓x_ixT1, ↓x_ixL1, ↓x_ixT2, ↓x_ixL2, ↓x_ixT3, ↓x_ixT4, ↓x_ixT5, ↓x_lc, ↓x_wipe0, ↓x_wipe1, ↓x_join, ↓x_gT, ↓x_gsN, ↓x_gsC, ↓x_notV, ↓x_andV, ↓x_orV, ↓x_chain, ↓x_tape1, ↓x_v0, ↓x_st0, ↓x_ap0, ↓x_io0, ↓x_lo0, ↓x_ro0, ↓x_v1, ↓x_st1, ↓x_ap1, ↓x_io1, ↓x_lo1, ↓x_ro1, ↓x_v2, ↓x_st2, ↓x_ap2, ↓x_io2, ↓x_lo2, ↓x_ro2, ↓x_v3, ↓x_st3, ↓x_ap3, ↓x_io3, ↓x_lo3, ↓x_ro3, ↓x_v4, ↓x_st4, ↓x_ap4, ↓x_io4, ↓x_lo4, ↓x_ro4, ↓x_v5, ↓x_st5, ↓x_ap5, ↓x_io5, ↓x_lo5, ↓x_ro5, ↓x_v6, ↓x_st6, ↓x_ap6, ↓x_io6, ↓x_lo6, ↓x_ro6, ↓x_v7, ↓x_st7, ↓x_ap7, ↓x_io7, ↓x_lo7, ↓x_ro7, ↓x_v8, ↓x_st8, ↓x_ap8, ↓x_io8, ↓x_lo8, ↓x_ro8, ↓x_v9, ↓x_st9, ↓x_ap9, ↓x_io9, ↓x_lo9, ↓x_ro9, ↓x_v10, ↓x_st10, ↓x_ap10, ↓x_io10, ↓x_lo10, ↓x_ro10, ↓x_v11, ↓x_st11, ↓x_ap11, ↓x_io11, ↓x_lo11, ↓x_ro11, ↓x_v12, ↓x_v13, ↓x_v14, ↓x_v15, ↓x_ss0, ↓x_ls0, ↓x_subII, ↓x_subBB, ↓x_repr, ↓x_sw, ↓x_M1, ↓x_par, ↓x_gSt1, ↓x_gSt3, ↓x_fo0, ↓x_fd0, ↓x_po0, ↓x_pt0, ↓x_fo1, ↓x_fd1, ↓x_po1, ↓x_pt1, ↓x_fo2, ↓x_fd2, ↓x_po2, ↓x_pt2, ↓x_fo3, ↓x_fd3, ↓x_po3, ↓x_pt3, ↓x_fo4, ↓x_fd4, ↓x_po4, ↓x_pt4, ↓x_fo5, ↓x_fd5, ↓x_po5, ↓x_pt5, ↓x_fo6, ↓x_fd6, ↓x_po6, ↓x_pt6, ↓x_fo7, ↓x_fd7, ↓x_po7, ↓x_pt7, ↓x_fo8, ↓x_fd8, ↓x_po8, ↓x_pt8, ↓x_fo9, ↓x_fd9, ↓x_po9, ↓x_pt9, ↓x_fo10, ↓x_fd10, ↓x_po10, ↓x_pt10, ↓x_fo11, ↓x_fd11, ↓x_po11, ↓x_pt11, ↓x_plI, ↓x_plB, ↓x_plS, ↓x_in2, ↓x_in3, ↓x_sl1T, ↓x_sl1L, ↓x_slS, ↓x_tuL, ↓x_tuT, ↓x_enumD, ↓x_iAsc, ↓x_eq0T, ↓x_eq0L, ↓x_mulT, ↓x_pu0, ↓x_pu1, ↓x_pu2, ↓x_pu3, ↓x_pu4, ↓x_pu5, ↓x_pu6, ↓x_pu7, ↓x_pu8, ↓x_pu9, ↓x_pu10, ↓x_pu11, ↓x_isB, ↓x_isNB, ↓x_nonD, ↓x_in4, ↓x_nin4, ↓x_nin2, ↓x_tupRg, ↓x_lstRg, ↓x_g_LIMIT, ↓x_g_MAX_CHOICES, ↓x_g_MAX_DEPTH, ↓x_g_MAX_ORDER, ↓x_g_MAX_TEXT, ↓x_g_TESTS, List.cons_append, List.nil_append, List.replicate_succ, List.replicate_zero, List.set_cons_zero, List.set_cons_succ, List.getElem?_cons_zero, List.getElem?_cons_succ, decide_eq_true_eq, Bool.false_eq_true, Bool.true_eq_false, ↓reduceIte, Bool.not_true, Bool.not_false, decide_true, decide_false, isTy, isTyK, kindD, PySem.sizeLine_eq, List.length_cons, List.length_nil, true_and, and_true, true_implies, Bool.not_eq_true', decide_eq_false_iff_not, Nat.reduceAdd, Nat.reduceLeDiff, Nat.reduceLT, Int.reduceAdd, Int.reduceSub, Int.reduceLT, Int.reduceLE, Int.reduceNeg, Int.reduceEq, Nat.reduceEqDiff, not_true_eq_false, not_false_eq_true]
    exact ⟨hl, h⟩
theorem ok_is_value (T : Txt K mg) {f : Addr} {fd : FuncData} (F : Fun K "is_value" "is_value" s_is_value f fd) : FnG P w K mg base 3 f fd ["value"] (spD P w K 1 (fnD b_is_value 0)) :=
  fn_okG F sc_is_value fun cdv A outer s H E hr hgd => by
    have hu := hr.units
    exact (s_cons (s_if (t_val (e_fnG (cal_is_integer T) hr hgd (a_cons (ev 0) a_nil) )) (s_one (s_ret (e_chainD oLe oLe (e_unD oNeg (e_glob rfl T.g_LIMIT)) (ev 0) (e_glob rfl T.g_LIMIT)))) s_nil)
      (s_one (s_ret (e_or (e_cmpD oIs (ev 0) e_non) (e_one (e_fnG (cal_is_text T) hr hgd (a_cons (ev 0) a_nil) ))))))
theorem cal_is_value (T : Txt K mg) : CalG P w K mg base 3 "is_value" (spD P w K 1 m_is_value) :=
  CalG.imp (calG_of T.f_is_value (show BindsN "is_value" s_is_value ["value"] from fun _ _ _ _ _ _ us hl => match us, hl with | [_], _ => rfl) fun _ _ F => ok_is_value T F) spec_is_value
theorem sc_is_choice : FnScope N_is_choice ["value"] (defScope s_is_choice) := ⟨rfl, rfl, rfl, by decide +kernel, rfl, by decide +kernel, by decide +kernel⟩
def b_is_choice : DS := (dSeq (dIfS (dOr (dNot (dTest (dIsI .tuple (dVar 0)))) (dNot (dTest (dChain fLe fLe (dC (.int 1)) (dCall fLen (dCons (dVar 0) dNil)) (dC g_MAX_CHOICES))))) (dRet (dC (.bool false))) dSkip)
    (dRet (dCall fAll (dCons (dNew (fLc (iData (dVar 0)) (gN 1) dYes (dFn m_is_value (aCons (dVar 1) aNil)) [1])) dNil))))
abbrev m_is_choice : List SV → EK → Prop := mD1 fun d Q => szD d ≤ 1000000 ∧ Q (.bool (choiceB d))
theorem spec_is_choice (svs : List SV) (R : EK) (_ : svs.length = 1) (h : m_is_choice svs R) : fnD b_is_choice 1 svs R := by
  obtain ⟨d, rfl, hz, hQ⟩ := mD1_elim h
  cases d with
  | tuple xs =>
    have h' : R (.bool ((decide (1 ≤ xs.length) && decide (xs.length ≤ 8)) && xs.all valueB)) := hQ
    have hl := sz_len xs
    have hz' : szAll xs + 3 ≤ 1000000 := hz
    simp only [b_is_choice, ↓x_fnD, ↓x_skip, ↓x_seq, ↓x_brk, ↓x_cnt, ↓x_exp, ↓x_ret, ↓x_retN, ↓x_ifS, ↓x_set, ↓x_asg, ↓x_own, ↓x_fLst, ↓x_tape, ↓x_C, ↓x_op, ↓x_un, ↓x_test, ↓x_and, ↓x_or, ↓x_not, ↓x_if, ↓x_dnil, ↓x_dcons, ↓x_anil, ↓x_acons, ↓x_tup, ↓x_lst, ↓x_call, ↓x_fn, ↓x_isi, ↓x_new, ↓x_gN, ↓x_yes, ↓x_for, ↓x_iData, ↓x_iRg1, ↓x_oNo, ↓x_oSome, ↓x_sl, ↓x_mD1, ↓x_mD2, ↓x_mD3, ↓x_mD4, ↓x_mD5, ↓x_mT0, ↓x_mT1, ↓x_mT2, ↓x_mT3, ↓x_mT4, ↓x_eqI, ↓x_eqS, ↓x_eqB, ↓x_eqIS, ↓x_eqSI, ↓x_eqNN, ↓x_eqNI, ↓x_eqIN, ↓x_eqNS, ↓x_eqSN, ↓x_neI, ↓x_neS, ↓x_neB, ↓x_ltI, ↓x_ltS, ↓x_leI, ↓x_leS, ↓x_gtI, ↓x_gtS, ↓x_geI, ↓x_geS, ↓x_isN, ↓x_notN, ↓x_nonN, ↓x_nonI, ↓x_nonB, ↓x_nonS, ↓x_nonT, ↓x_nonL, ↓x_addI, ↓x_addS, ↓x_addT, ↓x_addL, ↓x_subI, ↓x_negI, ↓x_mulI, ↓x_mulS, ↓x_mulL, ↓x_modI, ↓x_divI, ↓x_powI, ↓x_lenL, ↓x_lenT, ↓x_lenS, ↓x_max2, ↓x_min2, ↓x_int1I, ↓x_int1B, ↓x_listL, ↓x_listT, ↓x_listS, ↓x_itL, ↓x_itT, ↓x_itS, ↓x_ixL0, ↓x_ixT0, ↓x_ixT1, ↓x_ixL1, ↓x_ixT2, ↓x_ixL2, ↓x_ixT3, ↓x_ixT4, ↓x_ixT5, ↓x_lc, ↓x_wipe0, ↓x_wipe1, ↓x_join, ↓x_gT, ↓x_gsN, ↓x_gsC, ↓x_notV, ↓x_andV, ↓x_orV, ↓x_chain, ↓x_tape1, ↓x_v0, ↓x_st0, ↓x_ap0, ↓x_io0, ↓x_lo0, ↓x_ro0, ↓x_v1, ↓x_st1, ↓x_ap1, ↓x_io1, ↓x_lo1, ↓x_ro1, ↓x_v2, ↓x_st2, ↓x_ap2, ↓x_io2, ↓x_lo2, ↓x_ro2, ↓x_v3, ↓x_st3, ↓x_ap3, ↓x_io3, ↓x_lo3, ↓x_ro3, ↓x_v4, ↓x_st4, ↓x_ap4, ↓x_io4, ↓x_lo4, ↓x_ro4, ↓x_v5, ↓x_st5, ↓x_ap5, ↓x_io5, ↓x_lo5, ↓x_ro5, ↓x_v6, ↓x_st6, ↓x_ap6, ↓x_io6, ↓x_lo6, ↓x_ro6, ↓x_v7, ↓x_st7, ↓x_ap7, ↓x_io7, ↓x_lo7, ↓x_ro7, ↓x_v8, ↓x_st8, ↓x_ap8, ↓x_io8, ↓x_lo8, ↓x_ro8, ↓x_v9, ↓x_st9, ↓x_ap9, ↓x_io9, ↓x_lo9, ↓x_ro9, ↓x_v10, ↓x_st10, ↓x_ap10, ↓x_io10, ↓x_lo10, ↓x_ro10, ↓x_v11, ↓x_st11, ↓x_ap11, ↓x_io11, ↓x_lo11, ↓x_ro11, ↓x_v12, ↓x_v13, ↓x_v14, ↓x_v15, ↓x_ss0, ↓x_ls0, ↓x_subII, ↓x_subBB, ↓x_repr, ↓x_sw, ↓x_M1, ↓x_par, ↓x_gSt1, ↓x_gSt3, ↓x_fo0, ↓x_fd0, ↓x_po0, ↓x_pt0, ↓x_fo1, ↓x_fd1, ↓x_po1, ↓x_pt1, ↓x_fo2, ↓x_fd2, ↓x_po2, ↓x_pt2, ↓x_fo3, ↓x_fd3, ↓x_po3, ↓x_pt3, ↓x_fo4, ↓x_fd4, ↓x_po4, ↓x_pt4, ↓x_fo5, ↓x_fd5, ↓x_po5, ↓x_pt5, ↓x_fo6, ↓x_fd6, ↓x_po6, ↓x_pt6, ↓x_fo7, ↓x_fd7, ↓x_po7, ↓x_pt7, ↓x_fo8, ↓x_fd8, ↓x_po8, ↓x_pt8, ↓x_fo9, ↓x_fd9, ↓x_po9, ↓x_pt9, ↓x_fo10, ↓x_fd10, ↓x_po10, ↓x_pt10, ↓x_fo11, ↓x_fd11, ↓x_po11, ↓x_pt11, ↓x_plI, ↓x_plB, ↓x_plS, ↓x_in2, ↓x_in3, ↓x_sl1T, ↓x_sl1L, ↓x_slS, ↓x_tuL, ↓x_tuT, ↓x_enumD, ↓x_iAsc, ↓x_eq0T, ↓x_eq0L, ↓x_mulT, ↓x_pu0, ↓x_pu1, ↓x_pu2, ↓x_pu3, ↓x_pu4, ↓x_pu5, ↓x_pu6, ↓x_pu7, ↓x_pu8, ↓x_pu9, ↓x_pu10, ↓x_pu11, ↓x_isB, ↓x_isNB, ↓x_nonD, ↓x_in4, ↓x_nin4, ↓x_nin2, ↓x_tupRg, ↓x_lstRg, ↓x_g_LIMIT, ↓x_g_MAX_CHOICES, ↓x_g_MAX_DEPTH, ↓x_g_MAX_ORDER, ↓x_g_MAX_TEXT, ↓x_g_TESTS, List.cons_append, List.nil_append, List.replicate_succ, List.replicate_zero, List.set_cons_zero, List.set_cons_succ, List.getElem?_cons_zero, List.getElem?_cons_succ, decide_eq_true_eq, Bool.false_eq_true, Bool.true_eq_false, ↓reduceIte, Bool.not_true, Bool.not_false, decide_true, decide_false, isTy, isTyK, kindD, PySem.sizeLine_eq, List.length_cons, List.length_nil, true_and, and_true, true_implies, Bool.not_eq_true', decide_eq_false_iff_not, Nat.reduceAdd, Nat.reduceLeDiff, Nat.reduceLT, Int.reduceAdd, Int.reduceSub, Int.reduceLT, Int.reduceLE, Int.reduceNeg, Int.reduceEq, Nat.reduceEqDiff, not_true_eq_false, not_false_eq_true]
    by_cases e1 : 1 ≤ xs.length
    · rw [decide_eq_true (show (1 : Int) ≤ (xs.length : Int) by omega)]
      rw [decide_eq_true e1] at h'
      by_cases e2 : xs.length ≤ 8
      · rw [decide_eq_true e2] at h'
        have e3 : (xs.length : Int) ≤ 8 := by omega
        simp only [e3, ↓x_fnD, ↓x_skip, ↓x_seq, ↓x_brk, ↓x_cnt, ↓x_exp, ↓x_ret, ↓x_retN, ↓x_ifS, ↓x_set, ↓x_asg, ↓x_own, ↓x_fLst, ↓x_tape, ↓x_C, ↓x_op, ↓x_un, ↓x_test, ↓x_and, ↓x_or, ↓x_not, ↓x_if, ↓x_dnil, ↓x_dcons, ↓x_anil, ↓x_acons, ↓x_tup, ↓x_lst, ↓x_call, ↓x_fn, ↓x_isi, ↓x_new, ↓x_gN, ↓x_yes, ↓x_for, ↓x_iData, ↓x_iRg1, ↓x_oNo, ↓x_oSome, ↓x_sl, ↓x_mD1, ↓x_mD2, ↓x_mD3, ↓x_mD4, ↓x_mD5, ↓x_mT0, ↓x_mT1, ↓x_mT2, ↓x_mT3, ↓x_mT4, ↓x_eqI, ↓x_eqS, ↓x_eqB, ↓x_eqIS, ↓x_eqSI, ↓x_eqNN, ↓x_eqNI, ↓x_eqIN, ↓x_eqNS, ↓x_eqSN, ↓x_neI, ↓x_neS, ↓x_neB, ↓x_ltI, ↓x_ltS, ↓x_leI, ↓x_leS, ↓x_gtI, ↓x_gtS, ↓x_geI, ↓x_geS, ↓x_isN, ↓x_notN, ↓x_nonN, ↓x_nonI, ↓x_nonB, ↓x_nonS, ↓x_nonT, ↓x_nonL, ↓x_addI, ↓x_addS, ↓x_addT, ↓x_addL, ↓x_subI, ↓x_negI, ↓x_mulI, ↓x_mulS, ↓x_mulL, ↓x_modI, ↓x_divI, ↓x_powI, ↓x_lenL, ↓x_lenT, ↓x_lenS, ↓x_max2, ↓x_min2, ↓x_int1I, ↓x_int1B, ↓x_listL, ↓x_listT, ↓x_listS, ↓x_itL, ↓x_itT, ↓x_itS, ↓x_ixL0, ↓x_ixT0, ↓x_ixT1, ↓x_ixL1, ↓x_ixT2, ↓x_ixL2, ↓x_ixT3, ↓x_ixT4, ↓x_ixT5, ↓x_lc, ↓x_wipe0, ↓x_wipe1, ↓x_join, ↓x_gT, ↓x_gsN, ↓x_gsC, ↓x_notV, ↓x_andV, ↓x_orV, ↓x_chain, ↓x_tape1, ↓x_v0, ↓x_st0, ↓x_ap0, ↓x_io0, ↓x_lo0, ↓x_ro0, ↓x_v1, ↓x_st1, ↓x_ap1, ↓x_io1, ↓x_lo1, ↓x_ro1, ↓x_v2, ↓x_st2, ↓x_ap2, ↓x_io2, ↓x_lo2, ↓x_ro2, ↓x_v3, ↓x_st3, ↓x_ap3, ↓x_io3, ↓x_lo3, ↓x_ro3, ↓x_v4, ↓x_st4, ↓x_ap4, ↓x_io4, ↓x_lo4, ↓x_ro4, ↓x_v5, ↓x_st5, ↓x_ap5, ↓x_io5, ↓x_lo5, ↓x_ro5, ↓x_v6, ↓x_st6, ↓x_ap6, ↓x_io6, ↓x_lo6, ↓x_ro6, ↓x_v7, ↓x_st7, ↓x_ap7, ↓x_io7, ↓x_lo7, ↓x_ro7, ↓x_v8, ↓x_st8, ↓x_ap8, ↓x_io8, ↓x_lo8, ↓x_ro8, ↓x_v9, ↓x_st9, ↓x_ap9, ↓x_io9, ↓x_lo9, ↓x_ro9, ↓x_v10, ↓x_st10, ↓x_ap10, ↓x_io10, ↓x_lo10, ↓x_ro10, ↓x_v11, ↓x_st11, ↓x_ap11, ↓x_io11, ↓x_lo11, ↓x_ro11, ↓x_v12, ↓x_v13, ↓x_v14, ↓x_v15, ↓x_ss0, ↓x_ls0, ↓x_subII, ↓x_subBB, ↓x_repr, ↓x_sw, ↓x_M1, ↓x_par, ↓x_gSt1, ↓x_gSt3, ↓x_fo0, ↓x_fd0, ↓x_po0, ↓x_pt0, ↓x_fo1, ↓x_fd1, ↓x_po1, ↓x_pt1, ↓x_fo2, ↓x_fd2, ↓x_po2, ↓x_pt2, ↓x_fo3, ↓x_fd3, ↓x_po3, ↓x_pt3, ↓x_fo4, ↓x_fd4, ↓x_po4, ↓x_pt4, ↓x_fo5, ↓x_fd5, ↓x_po5, ↓x_pt5, ↓x_fo6, ↓x_fd6, ↓x_po6, ↓x_pt6, ↓x_fo7, ↓x_fd7, ↓x_po7, ↓x_pt7, ↓x_fo8, ↓x_fd8, ↓x_po8, ↓x_pt8, ↓x_fo9, ↓x_fd9, ↓x_po9, ↓x_pt9, ↓x_fo10, ↓x_fd10, ↓x_po10, ↓x_pt10, ↓x_fo11, ↓x_fd11, ↓x_po11, ↓x_pt11, ↓x_plI, ↓x_plB, ↓x_plS, ↓x_in2, ↓x_in3, ↓x_sl1T, ↓x_sl1L, ↓x_slS, ↓x_tuL, ↓x_tuT, ↓x_enumD, ↓x_iAsc, ↓x_eq0T, ↓x_eq0L, ↓x_mulT, ↓x_pu0, ↓x_pu1, ↓x_pu2, ↓x_pu3, ↓x_pu4, ↓x_pu5, ↓x_pu6, ↓x_pu7, ↓x_pu8, ↓x_pu9, ↓x_pu10, ↓x_pu11, ↓x_isB, ↓x_isNB, ↓x_nonD, ↓x_in4, ↓x_nin4, ↓x_nin2, ↓x_tupRg, ↓x_lstRg, ↓x_g_LIMIT, ↓x_g_MAX_CHOICES, ↓x_g_MAX_DEPTH, ↓x_g_MAX_ORDER, ↓x_g_MAX_TEXT, ↓x_g_TESTS, List.cons_append, List.nil_append, List.replicate_succ, List.replicate_zero, List.set_cons_zero, List.set_cons_succ, List.getElem?_cons_zero, List.getElem?_cons_succ, decide_eq_true_eq, Bool.false_eq_true, Bool.true_eq_false, ↓reduceIte, Bool.not_true, Bool.not_false, decide_true, decide_false, isTy, isTyK, kindD, PySem.sizeLine_eq, List.length_cons, List.length_nil, true_and, and_true, true_implies, Bool.not_eq_true', decide_eq_false_iff_not, Nat.reduceAdd, Nat.reduceLeDiff, Nat.reduceLT, Int.reduceAdd, Int.reduceSub, Int.reduceLT, Int.reduceLE, Int.reduceNeg, Int.reduceEq, Nat.reduceEqDiff, not_true_eq_false, not_false_eq_true]
        refine fun _ => ⟨by omega, lc_map (fun d => .bool (valueB d)) _ [] (fun d hd N hN => ?_) ?_⟩
        · simp only [↓x_fnD, ↓x_skip, ↓x_seq, ↓x_brk, ↓x_cnt, ↓x_exp, ↓x_ret, ↓x_retN, ↓x_ifS, ↓x_set, ↓x_asg, ↓x_own, ↓x_fLst, ↓x_tape, ↓x_C, ↓x_op, ↓x_un, ↓x_test, ↓x_and, ↓x_or, ↓x_not, ↓x_if, ↓x_dnil, ↓x_dcons, ↓x_anil, ↓x_acons, ↓x_tup, ↓x_lst, ↓x_call, ↓x_fn, ↓x_isi, ↓x_new, ↓x_gN, ↓x_yes, ↓x_for, ↓x_iData, ↓x_iRg1, ↓x_oNo, ↓x_oSome, ↓x_sl, ↓x_mD1, ↓x_mD2, ↓x_mD3, ↓x_mD4, ↓x_mD5, ↓x_mT0, ↓x_mT1, ↓x_mT2, ↓x_mT3, ↓x_mT4, ↓x_eqI, ↓x_eqS, ↓x_eqB, ↓x_eqIS, ↓x_eqSI, ↓x_eqNN, ↓x_eqNI, ↓x_eqIN, ↓x_eqNS, ↓x_eqSN, ↓x_neI, ↓x_neS, ↓x_neB, ↓x_ltI, ↓x_ltS, ↓x_leI, ↓x_leS, ↓x_gtI, ↓x_gtS, ↓x_geI, ↓x_geS, ↓x_isN, ↓x_notN, ↓x_nonN, ↓x_nonI, ↓x_nonB, ↓x_nonS, ↓x_nonT, ↓x_nonL, ↓x_addI, ↓x_addS, ↓x_addT, ↓x_addL, ↓x_subI, ↓x_negI, ↓x_mulI, ↓x_mulS, ↓x_mulL, ↓x_modI, ↓x_divI, ↓x_powI, ↓x_lenL, ↓x_lenT, ↓x_lenS, ↓x_max2, ↓x_min2, ↓x_int1I, ↓x_int1B, ↓x_listL, ↓x_listT, ↓x_listS, ↓x_itL, ↓x_itT, ↓x_itS, ↓x_ixL0, ↓x_ixT0, ↓x_ixT1, ↓x_ixL1, ↓x_ixT2, ↓x_ixL2, ↓x_ixT3, ↓x_ixT4, ↓x_ixT5, ↓x_lc, ↓x_wipe0, ↓x_wipe1, ↓x_join, ↓x_gT, ↓x_gsN, ↓x_gsC, ↓x_notV, ↓x_andV, ↓x_orV, ↓x_chain, ↓x_tape1, ↓x_v0, ↓x_st0, ↓x_ap0, ↓x_io0, ↓x_lo0, ↓x_ro0, ↓x_v1, ↓x_st1, ↓x_ap1, ↓x_io1, ↓x_lo1, ↓x_ro1, ↓x_v2, ↓x_st2, ↓x_ap2, ↓x_io2, ↓x_lo2, ↓x_ro2, ↓x_v3, ↓x_st3, ↓x_ap3, ↓x_io3, ↓x_lo3, ↓x_ro3, ↓x_v4, ↓x_st4, ↓x_ap4, ↓x_io4, ↓x_lo4, ↓x_ro4, ↓x_v5, ↓x_st5, ↓x_ap5, ↓x_io5, ↓x_lo5, ↓x_ro5, ↓x_v6, ↓x_st6, ↓x_ap6, ↓x_io6, ↓x_lo6, ↓x_ro6, ↓x_v7, ↓x_st7, ↓x_ap7, ↓x_io7, ↓x_lo7, ↓x_ro7, ↓x_v8, ↓x_st8, ↓x_ap8, ↓x_io8, ↓x_lo8, ↓x_ro8, ↓x_v9, ↓x_st9, ↓x_ap9, ↓x_io9, ↓x_lo9, ↓x_ro9, ↓x_v10, ↓x_st10, ↓x_ap10, ↓x_io10, ↓x_lo10, ↓x_ro10, ↓x_v11, ↓x_st11, ↓x_ap11, ↓x_io11, ↓x_lo11, ↓x_ro11, ↓x_v12, ↓x_v13, ↓x_v14, ↓x_v15, ↓x_ss0, ↓x_ls0, ↓x_subII, ↓x_subBB, ↓x_repr, ↓x_sw, ↓x_M1, ↓x_par, ↓x_gSt1, ↓x_gSt3, ↓x_fo0, ↓x_fd0, ↓x_po0, ↓x_pt0, ↓x_fo1, ↓x_fd1, ↓x_po1, ↓x_pt1, ↓x_fo2, ↓x_fd2, ↓x_po2, ↓x_pt2, ↓x_fo3, ↓x_fd3, ↓x_po3, ↓x_pt3, ↓x_fo4, ↓x_fd4, ↓x_po4, ↓x_pt4, ↓x_fo5, ↓x_fd5, ↓x_po5, ↓x_pt5, ↓x_fo6, ↓x_fd6, ↓x_po6, ↓x_pt6, ↓x_fo7, ↓x_fd7, ↓x_po7, ↓x_pt7, ↓x_fo8, ↓x_fd8, ↓x_po8, ↓x_pt8, ↓x_fo9, ↓x_fd9, ↓x_po9, ↓x_pt9, ↓x_fo10, ↓x_fd10, ↓x_po10, ↓x_pt10, ↓x_fo11, ↓x_fd11, ↓x_po11, ↓x_pt11, ↓x_plI, ↓x_plB, ↓x_plS, ↓x_in2, ↓x_in3, ↓x_sl1T, ↓x_sl1L, ↓x_slS, ↓x_tuL, ↓x_tuT, ↓x_enumD, ↓x_iAsc, ↓x_eq0T, ↓x_eq0L, ↓x_mulT, ↓x_pu0, ↓x_pu1, ↓x_pu2, ↓x_pu3, ↓x_pu4, ↓x_pu5, ↓x_pu6, ↓x_pu7, ↓x_pu8, ↓x_pu9, ↓x_pu10, ↓x_pu11, ↓x_isB, ↓x_isNB, ↓x_nonD, ↓x_in4, ↓x_nin4, ↓x_nin2, ↓x_tupRg, ↓x_lstRg, ↓x_g_LIMIT, ↓x_g_MAX_CHOICES, ↓x_g_MAX_DEPTH, ↓x_g_MAX_ORDER, ↓x_g_MAX_TEXT, ↓x_g_TESTS, List.cons_append, List.nil_append, List.replicate_succ, List.replicate_zero, List.set_cons_zero, List.set_cons_succ, List.getElem?_cons_zero, List.getElem?_cons_succ, decide_eq_true_eq, Bool.false_eq_true, Bool.true_eq_false, ↓reduceIte, Bool.not_true, Bool.not_false, decide_true, decide_false, isTy, isTyK, kindD, PySem.sizeLine_eq, List.length_cons, List.length_nil, true_and, and_true, true_implies, Bool.not_eq_true', decide_eq_false_iff_not, Nat.reduceAdd, Nat.reduceLeDiff, Nat.reduceLT, Int.reduceAdd, Int.reduceSub, Int.reduceLT, Int.reduceLE, Int.reduceNeg, Int.reduceEq, Nat.reduceEqDiff, not_true_eq_false, not_false_eq_true]
          exact ⟨fun s e => str_small (by have := sz_mem hd; omega) e, hN⟩
        · exact ⟨xs.map valueB, by simp [List.map_map, Function.comp_def], by simpa [List.all_map, Function.comp_def] using h'⟩
      · rw [decide_eq_false e2] at h'
        have e3 : ¬ (xs.length : Int) ≤ 8 := by omega
        simp only [e3, ↓x_fnD, ↓x_skip, ↓x_seq, ↓x_brk, ↓x_cnt, ↓x_exp, ↓x_ret, ↓x_retN, ↓x_ifS, ↓x_set, ↓x_asg, ↓x_own, ↓x_fLst, ↓x_tape, ↓x_C, ↓x_op, ↓x_un, ↓x_test, ↓x_and, ↓x_or, ↓x_not, ↓x_if, ↓x_dnil, ↓x_dcons, ↓x_anil, ↓x_acons, ↓x_tup, ↓x_lst, ↓x_call, ↓x_fn, ↓x_isi, ↓x_new, ↓x_gN, ↓x_yes, ↓x_for, ↓x_iData, ↓x_iRg1, ↓x_oNo, ↓x_oSome, ↓x_sl, ↓x_mD1, ↓x_mD2, ↓x_mD3, ↓x_mD4, ↓x_mD5, ↓x_mT0, ↓x_mT1, ↓x_mT2, ↓x_mT3, ↓x_mT4, ↓x_eqI, ↓x_eqS, ↓x_eqB, ↓x_eqIS, ↓x_eqSI, ↓x_eqNN, ↓x_eqNI, ↓x_eqIN, ↓x_eqNS, ↓x_eqSN, ↓x_neI, ↓x_neS, ↓x_neB, ↓x_ltI, ↓x_ltS, ↓x_leI, ↓x_leS, ↓x_gtI, ↓x_gtS, ↓x_geI, ↓x_geS, ↓x_isN, ↓x_notN, ↓x_nonN, ↓x_nonI, ↓x_nonB, ↓x_nonS, ↓x_nonT, ↓x_nonL, ↓x_addI, ↓x_addS, ↓x_addT, ↓x_addL, ↓x_subI, ↓x_negI, ↓x_mulI, ↓x_mulS, ↓x_mulL, ↓x_modI, ↓x_divI, ↓x_powI, ↓x_lenL, ↓x_lenT, ↓x_lenS, ↓x_max2, ↓x_min2, ↓x_int1I, ↓x_int1B, ↓x_listL, ↓x_listT, ↓x_listS, ↓x_itL, ↓x_itT, ↓x_itS, ↓x_ixL0, ↓x_ixT0, ↓x_ixT1, ↓x_ixL1, ↓x_ixT2, ↓x_ixL2, ↓x_ixT3, ↓x_ixT4, ↓x_ixT5, ↓x_lc, ↓x_wipe0, ↓x_wipe1, ↓x_join, ↓x_gT, ↓x_gsN, ↓x_gsC, ↓x_notV, ↓x_andV, ↓x_orV, ↓x_chain, ↓x_tape1, ↓x_v0, ↓x_st0, ↓x_ap0, ↓x_io0, ↓x_lo0, ↓x_ro0, ↓x_v1, ↓x_st1, ↓x_ap1, ↓x_io1, ↓x_lo1, ↓x_ro1, ↓x_v2, ↓x_st2, ↓x_ap2, ↓x_io2, ↓x_lo2, ↓x_ro2, ↓x_v3, ↓x_st3, ↓x_ap3, ↓x_io3, ↓x_lo3, ↓x_ro3, ↓x_v4, ↓x_st4, ↓x_ap4, ↓x_io4, ↓x_lo4, ↓x_ro4, ↓x_v5, ↓x_st5, ↓x_ap5, ↓x_io5, ↓x_lo5, ↓x_ro5, ↓x_v6, ↓x_st6, ↓x_ap6, ↓x_io6, ↓x_lo6, ↓x_ro6, ↓x_v7, ↓x_st7, ↓x_ap7, ↓x_io7, ↓x_lo7, ↓x_ro7, ↓x_v8, ↓x_st8, ↓x_ap8, ↓x_io8, ↓x_lo8, ↓x_ro8, ↓x_v9, ↓x_st9, ↓x_ap9, ↓x_io9, ↓x_lo9, ↓x_ro9, ↓x_v10, ↓x_st10, ↓x_ap10, ↓x_io10, ↓x_lo10, ↓x_ro10, ↓x_v11, ↓x_st11, ↓x_ap11, ↓x_io11, ↓x_lo11, ↓x_ro11, ↓x_v12, ↓x_v13, ↓x_v14, ↓x_v15, ↓x_ss0, ↓x_ls0, ↓x_subII, ↓x_subBB, ↓x_repr, ↓x_sw, ↓x_M1, ↓x_par, ↓x_gSt1, ↓x_gSt3, ↓x_fo0, ↓x_fd0, ↓x_po0, ↓x_pt0, ↓x_fo1, ↓x_fd1, ↓x_po1, ↓x_pt1, ↓x_fo2, ↓x_fd2, ↓x_po2, ↓x_pt2, ↓x_fo3, ↓x_fd3, ↓x_po3, ↓x_pt3, ↓x_fo4, ↓x_fd4, ↓x_po4, ↓x_pt4, ↓x_fo5, ↓x_fd5, ↓x_po5, ↓x_pt5, ↓x_fo6, ↓x_fd6, ↓x_po6, ↓x_pt6, ↓x_fo7, ↓x_fd7, ↓x_po7, ↓x_pt7, ↓x_fo8, ↓x_fd8, ↓x_po8, ↓x_pt8, ↓x_fo9, ↓x_fd9, ↓x_po9, ↓x_pt9, ↓x_fo10, ↓x_fd10, ↓x_po10, ↓x_pt10, ↓x_fo11, ↓x_fd11, ↓x_po11, ↓x_pt11, ↓x_plI, ↓x_plB, ↓x_plS, ↓x_in2, ↓x_in3, ↓x_sl1T, ↓x_sl1L, ↓x_slS, ↓x_tuL, ↓x_tuT, ↓x_enumD, ↓x_iAsc, ↓x_eq0T, ↓x_eq0L, ↓x_mulT, ↓x_pu0, ↓x_pu1, ↓x_pu2, ↓x_pu3, ↓x_pu4, ↓x_pu5, ↓x_pu6, ↓x_pu7, ↓x_pu8, ↓x_pu9, ↓x_pu10, ↓x_pu11, ↓x_isB, ↓x_isNB, ↓x_nonD, ↓x_in4, ↓x_nin4, ↓x_nin2, ↓x_tupRg, ↓x_lstRg, ↓x_g_LIMIT, ↓x_g_MAX_CHOICES, ↓x_g_MAX_DEPTH, ↓x_g_MAX_ORDER, ↓x_g_MAX_TEXT, ↓x_g_TESTS, List.cons_append, List.nil_append, List.replicate_succ, List.replicate_zero, List.set_cons_zero, List.set_cons_succ, List.getElem?_cons_zero, List.getElem?_cons_succ, decide_eq_true_eq, Bool.false_eq_true, Bool.true_eq_false, ↓reduceIte, Bool.not_true, Bool.not_false, decide_true, decide_false, isTy, isTyK, kindD, PySem.sizeLine_eq, List.length_cons, List.length_nil, true_and, and_true, true_implies, Bool.not_eq_true', decide_eq_false_iff_not, Nat.reduceAdd, Nat.reduceLeDiff, Nat.reduceLT, Int.reduceAdd, Int.reduceSub, Int.reduceLT, Int.reduceLE, Int.reduceNeg, Int.reduceEq, Nat.reduceEqDiff, not_true_eq_false, not_false_eq_true]
        simpa using h'
    · rw [decide_eq_false (show ¬ (1 : Int) ≤ (xs.length : Int) by omega)]
      rw [decide_eq_false e1] at h'
      simpa using h'
  | _ =>
    simp only [b_is_choice, ↓x_fnD, ↓x_skip, ↓x_seq, ↓x_brk, ↓x_cnt, ↓x_exp, ↓x_ret, ↓x_retN, ↓x_ifS, ↓x_set, ↓x_asg, ↓x_own, ↓x_fLst, ↓x_tape, ↓x_C, ↓x_op, ↓x_un, ↓x_test, ↓x_and, ↓x_or, ↓x_not, ↓x_if, ↓x_dnil, ↓x_dcons, ↓x_anil, ↓x_acons, ↓x_tup, ↓x_lst, ↓x_call, ↓x_fn, ↓x_isi, ↓x_new, ↓x_gN, ↓x_yes, ↓x_for, ↓x_iData, ↓x_iRg1, ↓x_oNo, ↓x_oSome, ↓x_sl, ↓x_mD1, ↓x_mD2, ↓x_mD3, ↓x_mD4, ↓x_mD5, ↓x_mT0, ↓x_mT1, ↓x_mT2, ↓x_mT3, ↓x_mT4, ↓x_eqI, ↓x_eqS, ↓x_eqB, ↓x_eqIS, ↓x_eqSI, ↓x_eqNN, ↓x_eqNI, ↓x_eqIN, ↓x_eqNS, ↓x_eqSN, ↓x_neI, ↓x_neS, ↓x_neB, ↓x_ltI, ↓x_ltS, ↓x_leI, ↓x_leS, ↓x_gtI, ↓x_gtS, ↓x_geI, ↓x_geS, ↓x_isN, ↓x_notN, ↓x_nonN, ↓x_nonI, ↓x_nonB, ↓x_nonS, ↓x_nonT, ↓x_nonL, ↓x_addI, ↓x_addS, ↓x_addT, ↓x_addL, ↓x_subI, ↓x_negI, ↓x_mulI, ↓x_mulS, ↓x_mulL, ↓x_modI, ↓x_divI, ↓x_powI, ↓x_lenL, ↓x_lenT, ↓x_lenS, ↓x_max2, ↓x_min2, ↓x_int1I, ↓x_int1B, ↓x_listL, ↓x_listT, ↓x_listS, ↓x_itL, ↓x_itT, ↓x_itS, ↓x_ixL0, ↓x_ixT0, ↓x_ixT1, ↓x_ixL1, ↓x_ixT2, ↓x_ixL2, ↓x_ixT3, ↓x_ixT4, ↓x_ixT5, ↓x_lc, ↓x_wipe0, ↓x_wipe1, ↓x_join, ↓x_gT, ↓x_gsN, ↓x_gsC, ↓x_notV, ↓x_andV, ↓x_orV, ↓x_chain, ↓x_tape1, ↓x_v0, ↓x_st0, ↓x_ap0, ↓x_io0, ↓x_lo0, ↓x_ro0, ↓x_v1, ↓x_st1, ↓x_ap1, ↓x_io1, ↓x_lo1, ↓x_ro1, ↓x_v2, ↓x_st2, ↓x_ap2, ↓x_io2, ↓x_lo2, ↓x_ro2, ↓x_v3, ↓x_st3, ↓x_ap3, ↓x_io3, ↓x_lo3, ↓x_ro3, ↓x_v4, ↓x_st4, ↓x_ap4, ↓x_io4, ↓x_lo4, ↓x_ro4, ↓x_v5, ↓x_st5, ↓x_ap5, ↓x_io5, ↓x_lo5, ↓x_ro5, ↓x_v6, ↓x_st6, ↓x_ap6, ↓x_io6, ↓x_lo6, ↓x_ro6, ↓x_v7, ↓x_st7, ↓x_ap7, ↓x_io7, ↓x_lo7, ↓x_ro7, ↓x_v8, ↓x_st8, ↓x_ap8, ↓x_io8, ↓x_lo8, ↓x_ro8, ↓x_v9, ↓x_st9, ↓x_ap9, ↓x_io9, ↓x_lo9, ↓x_ro9, ↓x_v10, ↓x_st10, ↓x_ap10, ↓x_io10, ↓x_lo10, ↓x_ro10, ↓x_v11, ↓x_st11, ↓x_ap11, ↓x_io11, ↓x_lo11, ↓x_ro11, ↓x_v12, ↓x_v13, ↓x_v14, ↓x_v15, ↓x_ss0, ↓x_ls0, ↓x_subII, ↓x_subBB, ↓x_repr, ↓x_sw, ↓x_M1, ↓x_par, ↓x_gSt1, ↓x_gSt3, ↓x_fo0, ↓x_fd0, ↓x_po0, ↓x_pt0, ↓x_fo1, ↓x_fd1, ↓x_po1, ↓x_pt1, ↓x_fo2, ↓x_fd2, ↓x_po2, ↓x_pt2, ↓x_fo3, ↓x_fd3, ↓x_po3, ↓x_pt3, ↓x_fo4, ↓x_fd4, ↓x_po4, ↓x_pt4, ↓x_fo5, ↓x_fd5, ↓x_po5, ↓x_pt5, ↓x_fo6, ↓x_fd6, ↓x_po6, ↓x_pt6, ↓x_fo7, ↓x_fd7, ↓x_po7, ↓x_pt7, ↓x_fo8, ↓x_fd8, ↓x_po8, ↓x_pt8, ↓x_fo9, ↓x_fd9, ↓x_po9, ↓x_pt9, ↓x_fo10, ↓x_fd10, ↓x_po10, ↓x_pt10, ↓x_fo11, ↓x_fd11, ↓x_po11, ↓x_pt11, ↓x_plI, ↓x_plB, ↓x_plS, ↓x_in2, ↓x_in3, ↓x_sl1T, ↓x_sl1L, ↓x_slS, ↓x_tuL, ↓x_tuT, ↓x_enumD, ↓x_iAsc, ↓x_eq0T, ↓x_eq0L, ↓x_mulT, ↓x_pu0, ↓x_pu1, ↓x_pu2, ↓x_pu3, ↓x_pu4, ↓x_pu5, ↓x_pu6, ↓x_pu7, ↓x_pu8, ↓x_pu9, ↓x_pu10, ↓x_pu11, ↓x_isB, ↓x_isNB, ↓x_nonD, ↓x_in4, ↓x_nin4, ↓x_nin2, ↓x_tupRg, ↓x_lstRg, ↓x_g_LIMIT, ↓x_g_MAX_CHOICES, ↓x_g_MAX_DEPTH, ↓x_g_MAX_ORDER, ↓x_g_MAX_TEXT, ↓x_g_TESTS, List.cons_append, List.nil_append, List.replicate_succ, List.replicate_zero, List.set_cons_zero, List.set_cons_succ, List.getElem?_cons_zero, List.getElem?_cons_succ, decide_eq_true_eq, Bool.false_eq_true, Bool.true_eq_false, ↓reduceIte, Bool.not_true, Bool.not_false, decide_true, decide_false, isTy, isTyK, kindD, PySem.sizeLine_eq, List.length_cons, List.length_nil, true_and, and_true, true_implies, Bool.not_eq_true', decide_eq_false_iff_not, Nat.reduceAdd, Nat.reduceLeDiff, Nat.reduceLT, Int.reduceAdd, Int.reduceSub, Int.reduceLT, Int.reduceLE, Int.reduceNeg, Int.reduceEq, Nat.reduceEqDiff, not_true_eq_false, not_false_eq_true]
    exact hQ
theorem ok_is_choice (T : Txt K mg) {f : Addr} {fd : FuncData} (F : Fun K "is_choice" "is_choice" s_is_choice f fd) : FnG P w K mg base 4 f fd ["value"] (spD P w K 1 (fnD b_is_choice 1)) :=
  fn_okG F sc_is_choice fun cdv A outer s H E hr hgd => by
    have hu := hr.units
    exact (s_cons (s_if (PW.pt (w_or (t_not (t_val (e_isi (T := .tuple) T.b_isinstance T.b_tuple bo_tuple (ev 0)))) (w_or1 (t_not (t_chainD oLe oLe e_int (e_cbB bLen T.b_len bo_len (d_cons (ev 0) d_nil)) (e_glob rfl T.g_MAX_CHOICES)))))) (s_one (s_ret e_bl)) s_nil)
      (s_one (s_ret (e_cbB (bAll rfl) T.b_all bo_all (d_cons (e_new (f_lc (own := [("part", 1)]) rfl sc_is_choice.nd (i_data (ev 0)) (blkOk_by (N := N_is_choice) (sc := defScope s_is_choice) (by decide +kernel)) (fun _ _ _ _ _ => (g_nm (vs := [1]) sc_is_choice.nd rfl (by first | exact Or.inl rfl | exact Or.inr rfl) (by decide))) (fun _ _ _ _ _ => LTs.nil) (fun _ _ _ _ _ => (e_fnG (cal_is_value T) hr hgd (a_cons (ev 1) a_nil) )))) d_nil)))))
theorem cal_is_choice (T : Txt K mg) : CalG P w K mg base 4 "is_choice" (spD P w K 1 m_is_choice) :=
  CalG.imp (calG_of T.f_is_choice (show BindsN "is_choice" s_is_choice ["value"] from fun _ _ _ _ _ _ us hl => match us, hl with | [_], _ => rfl) fun _ _ F => ok_is_choice T F) spec_is_choice
theorem sc_is_test : FnScope N_is_test ["value", "width"] (defScope s_is_test) := ⟨rfl, rfl, rfl, by decide +kernel, rfl, by decide +kernel, by decide +kernel⟩
def b_is_test : DS := (dSeq (dAsg (gT (gCons' (gN 2) (gCons' (gN 3) (gCons' (gN 4) gNil'))) 3) (dVar 0))
    (dSeq (dIfS (dOr (dNot (dTest (dFn m_is_integer (aCons (dVar 3) aNil)))) (dNot (dTest (dChain fLe fLt (dC (.int 0)) (dVar 3) (dVar 1))))) (dRet (dC (.bool false))) dSkip)
    (dSeq (dIfS (dTest (dOp fEq (dVar 2) (dC (.str "starts")))) (dRet (dAndV (dFn m_is_text (aCons (dVar 4) aNil)) (dOp fNe (dVar 4) (dC (.str ""))))) dSkip)
    (dRet (dIf (dTest (dOp fEq (dVar 2) (dC (.str "one_of")))) (dFn m_is_choice (aCons (dVar 4) aNil)) (dFn m_is_value (aCons (dVar 4) aNil)))))))
abbrev m_is_test : List SV → EK → Prop := mD2 fun x y Q => ∃ (w : Int) (k : Str) (c o : D), x = .tuple [.str k, c, o] ∧ y = .int w ∧ szD x ≤ 1000000 ∧ Q (.bool (colB w c && operB k o))
theorem spec_is_test (svs : List SV) (R : EK) (_ : svs.length = 2) (h : m_is_test svs R) : fnD b_is_test 3 svs R := by
  obtain ⟨x, y, rfl, w, k, c, o, rfl, rfl, hz, hQ⟩ := mD2_elim h
  have hzo : szD o ≤ 1000000 := by
    have : szD o + 2 ≤ _ := sz_mem (show o ∈ [PyData.str k, c, o] by simp)
    simp only [szD] at hz
    omega
  have hso := fun s (e : o = .str s) => str_small hzo e
  simp only [b_is_test, ↓x_fnD, ↓x_skip, ↓x_seq, ↓x_brk, ↓x_cnt, ↓x_exp, ↓x_ret, ↓x_retN, ↓x_ifS, ↓x_set, ↓x_asg, ↓x_own, ↓x_fLst, ↓x_tape, ↓x_C, ↓x_op, ↓x_un, ↓x_test, ↓x_and, ↓x_or, ↓x_not, ↓x_if, ↓x_dnil, ↓x_dcons, ↓x_anil, ↓x_acons, ↓x_tup, ↓x_lst, ↓x_call, ↓x_fn, ↓x_isi, ↓x_new, ↓x_gN, ↓x_yes, ↓x_for, ↓x_iData, ↓x_iRg1, ↓x_oNo, ↓x_oSome, ↓x_sl, ↓x_mD1, ↓x_mD2, ↓x_mD3, ↓x_mD4, ↓x_mD5, ↓x_mT0, ↓x_mT1, ↓x_mT2, ↓x_mT3, ↓x_mT4, ↓x_eqI, ↓x_eqS, ↓x_eqB, ↓x_eqIS, ↓x_eqSI, ↓x_eqNN, ↓x_eqNI, ↓x_eqIN, ↓x_eqNS, ↓x_eqSN, ↓x_neI, ↓x_neS, ↓x_neB, ↓x_ltI, ↓x_ltS, ↓x_leI, ↓x_leS, ↓x_gtI, ↓x_gtS, ↓x_geI, ↓x_geS, ↓x_isN, ↓x_notN, ↓x_nonN, ↓x_nonI, ↓x_nonB, ↓x_nonS, ↓x_nonT, ↓x_nonL, ↓x_addI, ↓x_addS, ↓x_addT, ↓x_addL, ↓x_subI, ↓x_negI, ↓x_mulI, ↓x_mulS, ↓x_mulL, ↓x_modI, ↓x_divI, ↓x_powI, ↓x_lenL, ↓x_lenT, ↓x_lenS, ↓x_max2, ↓x_min2, ↓x_int1I, ↓x_int1B, ↓x_listL, ↓x_listT, ↓x_listS, ↓x_itL, ↓x_itT, ↓x_itS, ↓x_ixL0, ↓x_ixT0, ↓x_ixT1, ↓x_ixL1, ↓x_ixT2, ↓x_ixL2, ↓x_ixT3, ↓x_ixT4, ↓x_ixT5, ↓x_lc, ↓x_wipe0, ↓x_wipe1, ↓x_join, ↓x_gT, ↓x_gsN, ↓x_gsC, ↓x_notV, ↓x_andV, ↓x_orV, ↓x_chain, ↓x_tape1, ↓x_v0, ↓x_st0, ↓x_ap0, ↓x_io0, ↓x_lo0, ↓x_ro0, ↓x_v1, ↓x_st1, ↓x_ap1, ↓x_io1, ↓x_lo1, ↓x_ro1, ↓x_v2, ↓x_st2, ↓x_ap2, ↓x_io2, ↓x_lo2, ↓x_ro2, ↓x_v3, ↓x_st3, ↓x_ap3, ↓x_io3, ↓x_lo3, ↓x_ro3, ↓x_v4, ↓x_st4, ↓x_ap4, ↓x_io4, ↓x_lo4, ↓x_ro4, ↓x_v5, ↓x_st5, ↓x_ap5, ↓x_io5, ↓x_lo5, ↓x_ro5, ↓x_v6, ↓x_st6, ↓x_ap6, ↓x_io6, ↓x_lo6, ↓x_ro6, ↓x_v7, ↓x_st7, ↓x_ap7, ↓x_io7, ↓x_lo7, ↓x_ro7, ↓x_v8, ↓x_st8, ↓x_ap8, ↓x_io8, ↓x_lo8, ↓x_ro8, ↓x_v9, ↓x_st9, ↓x_ap9, ↓x_io9, ↓x_lo9, ↓x_ro9, ↓x_v10, ↓x_st10, ↓x_ap10, ↓x_io10, ↓x_lo10, ↓x_ro10, ↓x_v11, ↓x_st11, ↓x_ap11, ↓x_io11, ↓x_lo11, ↓x_ro11, ↓x_v12, ↓x_v13, ↓x_v14, ↓x_v15, ↓x_ss0, ↓x_ls0, ↓x_subII, ↓x_subBB, ↓x_repr, ↓x_sw, ↓x_M1, ↓x_par, ↓x_gSt1, ↓x_gSt3, ↓x_fo0, ↓x_fd0, ↓x_po0, ↓x_pt0, ↓x_fo1, ↓x_fd1, ↓x_po1, ↓x_pt1, ↓x_fo2, ↓x_fd2, ↓x_po2, ↓x_pt2, ↓x_fo3, ↓x_fd3, ↓x_po3, ↓x_pt3, ↓x_fo4, ↓x_fd4, ↓x_po4, ↓x_pt4, ↓x_fo5, ↓x_fd5, ↓x_po5, ↓x_pt5, ↓x_fo6, ↓x_fd6, ↓x_po6, ↓x_pt6, ↓x_fo7, ↓x_fd7, ↓x_po7, ↓x_pt7, ↓x_fo8, ↓x_fd8, ↓x_po8, ↓x_pt8, ↓x_fo9, ↓x_fd9, ↓x_po9, ↓x_pt9, ↓x_fo10, ↓x_fd10, ↓x_po10, ↓x_pt10, ↓x_fo11, ↓x_fd11, ↓x_po11, ↓x_pt11, ↓x_plI, ↓x_plB, ↓x_plS, ↓x_in2, ↓x_in3, ↓x_sl1T, ↓x_sl1L, ↓x_slS, ↓x_tuL, ↓x_tuT, ↓x_enumD, ↓x_iAsc, ↓x_eq0T, ↓x_eq0L, ↓x_mulT, ↓x_pu0, ↓x_pu1, ↓x_pu2, ↓x_pu3, ↓x_pu4, ↓x_pu5, ↓x_pu6, ↓x_pu7, ↓x_pu8, ↓x_pu9, ↓x_pu10, ↓x_pu11, ↓x_isB, ↓x_isNB, ↓x_nonD, ↓x_in4, ↓x_nin4, ↓x_nin2, ↓x_tupRg, ↓x_lstRg, ↓x_g_LIMIT, ↓x_g_MAX_CHOICES, ↓x_g_MAX_DEPTH, ↓x_g_MAX_ORDER, ↓x_g_MAX_TEXT, ↓x_g_TESTS, List.cons_append, List.nil_append, List.replicate_succ, List.replicate_zero, List.set_cons_zero, List.set_cons_succ, List.getElem?_cons_zero, List.getElem?_cons_succ, decide_eq_true_eq, Bool.false_eq_true, Bool.true_eq_false, ↓reduceIte, Bool.not_true, Bool.not_false, decide_true, decide_false, isTy, isTyK, kindD, PySem.sizeLine_eq, List.length_cons, List.length_nil, true_and, and_true, true_implies, Bool.not_eq_true', decide_eq_false_iff_not, Nat.reduceAdd, Nat.reduceLeDiff, Nat.reduceLT, Int.reduceAdd, Int.reduceSub, Int.reduceLT, Int.reduceLE, Int.reduceNeg, Int.reduceEq, Nat.reduceEqDiff, not_true_eq_false, not_false_eq_true]
  cases c with
  | int i =>
    have h' : R (.bool ((decide (0 ≤ i) && decide (i < w)) && operB k o)) := hQ
    simp only [isInt, ↓x_fnD, ↓x_skip, ↓x_seq, ↓x_brk, ↓x_cnt, ↓x_exp, ↓x_ret, ↓x_retN, ↓x_ifS, ↓x_set, ↓x_asg, ↓x_own, ↓x_fLst, ↓x_tape, ↓x_C, ↓x_op, ↓x_un, ↓x_test, ↓x_and, ↓x_or, ↓x_not, ↓x_if, ↓x_dnil, ↓x_dcons, ↓x_anil, ↓x_acons, ↓x_tup, ↓x_lst, ↓x_call, ↓x_fn, ↓x_isi, ↓x_new, ↓x_gN, ↓x_yes, ↓x_for, ↓x_iData, ↓x_iRg1, ↓x_oNo, ↓x_oSome, ↓x_sl, ↓x_mD1, ↓x_mD2, ↓x_mD3, ↓x_mD4, ↓x_mD5, ↓x_mT0, ↓x_mT1, ↓x_mT2, ↓x_mT3, ↓x_mT4, ↓x_eqI, ↓x_eqS, ↓x_eqB, ↓x_eqIS, ↓x_eqSI, ↓x_eqNN, ↓x_eqNI, ↓x_eqIN, ↓x_eqNS, ↓x_eqSN, ↓x_neI, ↓x_neS, ↓x_neB, ↓x_ltI, ↓x_ltS, ↓x_leI, ↓x_leS, ↓x_gtI, ↓x_gtS, ↓x_geI, ↓x_geS, ↓x_isN, ↓x_notN, ↓x_nonN, ↓x_nonI, ↓x_nonB, ↓x_nonS, ↓x_nonT, ↓x_nonL, ↓x_addI, ↓x_addS, ↓x_addT, ↓x_addL, ↓x_subI, ↓x_negI, ↓x_mulI, ↓x_mulS, ↓x_mulL, ↓x_modI, ↓x_divI, ↓x_powI, ↓x_lenL, ↓x_lenT, ↓x_lenS, ↓x_max2, ↓x_min2, ↓x_int1I, ↓x_int1B, ↓x_listL, ↓x_listT, ↓x_listS, ↓x_itL, ↓x_itT, ↓x_itS, ↓x_ixL0, ↓x_ixT0, ↓x_ixT1, ↓x_ixL1, ↓x_ixT2, ↓x_ixL2, ↓x_ixT3, ↓x_ixT4, ↓x_ixT5, ↓x_lc, ↓x_wipe0, ↓x_wipe1, ↓x_join, ↓x_gT, ↓x_gsN, ↓x_gsC, ↓x_notV, ↓x_andV, ↓x_orV, ↓x_chain, ↓x_tape1, ↓x_v0, ↓x_st0, ↓x_ap0, ↓x_io0, ↓x_lo0, ↓x_ro0, ↓x_v1, ↓x_st1, ↓x_ap1, ↓x_io1, ↓x_lo1, ↓x_ro1, ↓x_v2, ↓x_st2, ↓x_ap2, ↓x_io2, ↓x_lo2, ↓x_ro2, ↓x_v3, ↓x_st3, ↓x_ap3, ↓x_io3, ↓x_lo3, ↓x_ro3, ↓x_v4, ↓x_st4, ↓x_ap4, ↓x_io4, ↓x_lo4, ↓x_ro4, ↓x_v5, ↓x_st5, ↓x_ap5, ↓x_io5, ↓x_lo5, ↓x_ro5, ↓x_v6, ↓x_st6, ↓x_ap6, ↓x_io6, ↓x_lo6, ↓x_ro6, ↓x_v7, ↓x_st7, ↓x_ap7, ↓x_io7, ↓x_lo7, ↓x_ro7, ↓x_v8, ↓x_st8, ↓x_ap8, ↓x_io8, ↓x_lo8, ↓x_ro8, ↓x_v9, ↓x_st9, ↓x_ap9, ↓x_io9, ↓x_lo9, ↓x_ro9, ↓x_v10, ↓x_st10, ↓x_ap10, ↓x_io10, ↓x_lo10, ↓x_ro10, ↓x_v11, ↓x_st11, ↓x_ap11, ↓x_io11, ↓x_lo11, ↓x_ro11, ↓x_v12, ↓x_v13, ↓x_v14, ↓x_v15, ↓x_ss0, ↓x_ls0, ↓x_subII, ↓x_subBB, ↓x_repr, ↓x_sw, ↓x_M1, ↓x_par, ↓x_gSt1, ↓x_gSt3, ↓x_fo0, ↓x_fd0, ↓x_po0, ↓x_pt0, ↓x_fo1, ↓x_fd1, ↓x_po1, ↓x_pt1, ↓x_fo2, ↓x_fd2, ↓x_po2, ↓x_pt2, ↓x_fo3, ↓x_fd3, ↓x_po3, ↓x_pt3, ↓x_fo4, ↓x_fd4, ↓x_po4, ↓x_pt4, ↓x_fo5, ↓x_fd5, ↓x_po5, ↓x_pt5, ↓x_fo6, ↓x_fd6, ↓x_po6, ↓x_pt6, ↓x_fo7, ↓x_fd7, ↓x_po7, ↓x_pt7, ↓x_fo8, ↓x_fd8, ↓x_po8, ↓x_pt8, ↓x_fo9, ↓x_fd9, ↓x_po9, ↓x_pt9, ↓x_fo10, ↓x_fd10, ↓x_po10, ↓x_pt10, ↓x_fo11, ↓x_fd11, ↓x_po11, ↓x_pt11, ↓x_plI, ↓x_plB, ↓x_plS, ↓x_in2, ↓x_in3, ↓x_sl1T, ↓x_sl1L, ↓x_slS, ↓x_tuL, ↓x_tuT, ↓x_enumD, ↓x_iAsc, ↓x_eq0T, ↓x_eq0L, ↓x_mulT, ↓x_pu0, ↓x_pu1, ↓x_pu2, ↓x_pu3, ↓x_pu4, ↓x_pu5, ↓x_pu6, ↓x_pu7, ↓x_pu8, ↓x_pu9, ↓x_pu10, ↓x_pu11, ↓x_isB, ↓x_isNB, ↓x_nonD, ↓x_in4, ↓x_nin4, ↓x_nin2, ↓x_tupRg, ↓x_lstRg, ↓x_g_LIMIT, ↓x_g_MAX_CHOICES, ↓x_g_MAX_DEPTH, ↓x_g_MAX_ORDER, ↓x_g_MAX_TEXT, ↓x_g_TESTS, List.cons_append, List.nil_append, List.replicate_succ, List.replicate_zero, List.set_cons_zero, List.set_cons_succ, List.getElem?_cons_zero, List.getElem?_cons_succ, decide_eq_true_eq, Bool.false_eq_true, Bool.true_eq_false, ↓reduceIte, Bool.not_true, Bool.not_false, decide_true, decide_false, isTy, isTyK, kindD, PySem.sizeLine_eq, List.length_cons, List.length_nil, true_and, and_true, true_implies, Bool.not_eq_true', decide_eq_false_iff_not, Nat.reduceAdd, Nat.reduceLeDiff, Nat.reduceLT, Int.reduceAdd, Int.reduceSub, Int.reduceLT, Int.reduceLE, Int.reduceNeg, Int.reduceEq, Nat.reduceEqDiff, not_true_eq_false, not_false_eq_true]
    by_cases e1 : 0 ≤ i
    · rw [decide_eq_true e1] at h' ⊢
      by_cases e2 : i < w
      · rw [decide_eq_true e2] at h'
        simp only [e2, ↓x_fnD, ↓x_skip, ↓x_seq, ↓x_brk, ↓x_cnt, ↓x_exp, ↓x_ret, ↓x_retN, ↓x_ifS, ↓x_set, ↓x_asg, ↓x_own, ↓x_fLst, ↓x_tape, ↓x_C, ↓x_op, ↓x_un, ↓x_test, ↓x_and, ↓x_or, ↓x_not, ↓x_if, ↓x_dnil, ↓x_dcons, ↓x_anil, ↓x_acons, ↓x_tup, ↓x_lst, ↓x_call, ↓x_fn, ↓x_isi, ↓x_new, ↓x_gN, ↓x_yes, ↓x_for, ↓x_iData, ↓x_iRg1, ↓x_oNo, ↓x_oSome, ↓x_sl, ↓x_mD1, ↓x_mD2, ↓x_mD3, ↓x_mD4, ↓x_mD5, ↓x_mT0, ↓x_mT1, ↓x_mT2, ↓x_mT3, ↓x_mT4, ↓x_eqI, ↓x_eqS, ↓x_eqB, ↓x_eqIS, ↓x_eqSI, ↓x_eqNN, ↓x_eqNI, ↓x_eqIN, ↓x_eqNS, ↓x_eqSN, ↓x_neI, ↓x_neS, ↓x_neB, ↓x_ltI, ↓x_ltS, ↓x_leI, ↓x_leS, ↓x_gtI, ↓x_gtS, ↓x_geI, ↓x_geS, ↓x_isN, ↓x_notN, ↓x_nonN, ↓x_nonI, ↓x_nonB, ↓x_nonS, ↓x_nonT, ↓x_nonL, ↓x_addI, ↓x_addS, ↓x_addT, ↓x_addL, ↓x_subI, ↓x_negI, ↓x_mulI, ↓x_mulS, ↓x_mulL, ↓x_modI, ↓x_divI, ↓x_powI, ↓x_lenL, ↓x_lenT, ↓x_lenS, ↓x_max2, ↓x_min2, ↓x_int1I, ↓x_int1B, ↓x_listL, ↓x_listT, ↓x_listS, ↓x_itL, ↓x_itT, ↓x_itS, ↓x_ixL0, ↓x_ixT0, ↓x_ixT1, ↓x_ixL1, ↓x_ixT2, ↓x_ixL2, ↓x_ixT3, ↓x_ixT4, ↓x_ixT5, ↓x_lc, ↓x_wipe0, ↓x_wipe1, ↓x_join, ↓x_gT, ↓x_gsN, ↓x_gsC, ↓x_notV, ↓x_andV, ↓x_orV, ↓x_chain, ↓x_tape1, ↓x_v0, ↓x_st0, ↓x_ap0, ↓x_io0, ↓x_lo0, ↓x_ro0, ↓x_v1, ↓x_st1, ↓x_ap1, ↓x_io1, ↓x_lo1, ↓x_ro1, ↓x_v2, ↓x_st2, ↓x_ap2, ↓x_io2, ↓x_lo2, ↓x_ro2, ↓x_v3, ↓x_st3, ↓x_ap3, ↓x_io3, ↓x_lo3, ↓x_ro3, ↓x_v4, ↓x_st4, ↓x_ap4, ↓x_io4, ↓x_lo4, ↓x_ro4, ↓x_v5, ↓x_st5, ↓x_ap5, ↓x_io5, ↓x_lo5, ↓x_ro5, ↓x_v6, ↓x_st6, ↓x_ap6, ↓x_io6, ↓x_lo6, ↓x_ro6, ↓x_v7, ↓x_st7, ↓x_ap7, ↓x_io7, ↓x_lo7, ↓x_ro7, ↓x_v8, ↓x_st8, ↓x_ap8, ↓x_io8, ↓x_lo8, ↓x_ro8, ↓x_v9, ↓x_st9, ↓x_ap9, ↓x_io9, ↓x_lo9, ↓x_ro9, ↓x_v10, ↓x_st10, ↓x_ap10, ↓x_io10, ↓x_lo10, ↓x_ro10, ↓x_v11, ↓x_st11, ↓x_ap11, ↓x_io11, ↓x_lo11, ↓x_ro11, ↓x_v12, ↓x_v13, ↓x_v14, ↓x_v15, ↓x_ss0, ↓x_ls0, ↓x_subII, ↓x_subBB, ↓x_repr, ↓x_sw, ↓x_M1, ↓x_par, ↓x_gSt1, ↓x_gSt3, ↓x_fo0, ↓x_fd0, ↓x_po0, ↓x_pt0, ↓x_fo1, ↓x_fd1, ↓x_po1, ↓x_pt1, ↓x_fo2, ↓x_fd2, ↓x_po2, ↓x_pt2, ↓x_fo3, ↓x_fd3, ↓x_po3, ↓x_pt3, ↓x_fo4, ↓x_fd4, ↓x_po4, ↓x_pt4, ↓x_fo5, ↓x_fd5, ↓x_po5, ↓x_pt5, ↓x_fo6, ↓x_fd6, ↓x_po6, ↓x_pt6, ↓x_fo7, ↓x_fd7, ↓x_po7, ↓x_pt7, ↓x_fo8, ↓x_fd8, ↓x_po8, ↓x_pt8, ↓x_fo9, ↓x_fd9, ↓x_po9, ↓x_pt9, ↓x_fo10, ↓x_fd10, ↓x_po10, ↓x_pt10, ↓x_fo11, ↓x_fd11, ↓x_po11, ↓x_pt11, ↓x_plI, ↓x_plB, ↓x_plS, ↓x_in2, ↓x_in3, ↓x_sl1T, ↓x_sl1L, ↓x_slS, ↓x_tuL, ↓x_tuT, ↓x_enumD, ↓x_iAsc, ↓x_eq0T, ↓x_eq0L, ↓x_mulT, ↓x_pu0, ↓x_pu1, ↓x_pu2, ↓x_pu3, ↓x_pu4, ↓x_pu5, ↓x_pu6, ↓x_pu7, ↓x_pu8, ↓x_pu9, ↓x_pu10, ↓x_pu11, ↓x_isB, ↓x_isNB, ↓x_nonD, ↓x_in4, ↓x_nin4, ↓x_nin2, ↓x_tupRg, ↓x_lstRg, ↓x_g_LIMIT, ↓x_g_MAX_CHOICES, ↓x_g_MAX_DEPTH, ↓x_g_MAX_ORDER, ↓x_g_MAX_TEXT, ↓x_g_TESTS, List.cons_append, List.nil_append, List.replicate_succ, List.replicate_zero, List.set_cons_zero, List.set_cons_succ, List.getElem?_cons_zero, List.getElem?_cons_succ, decide_eq_true_eq, Bool.false_eq_true, Bool.true_eq_false, ↓reduceIte, Bool.not_true, Bool.not_false, decide_true, decide_false, isTy, isTyK, kindD, PySem.sizeLine_eq, List.length_cons, List.length_nil, true_and, and_true, true_implies, Bool.not_eq_true', decide_eq_false_iff_not, Nat.reduceAdd, Nat.reduceLeDiff, Nat.reduceLT, Int.reduceAdd, Int.reduceSub, Int.reduceLT, Int.reduceLE, Int.reduceNeg, Int.reduceEq, Nat.reduceEqDiff, not_true_eq_false, not_false_eq_true]
        unfold operB at h'
        by_cases k1 : k = "starts"
        · have k1' : k = Str.ofString "starts" := k1
          rw [if_pos k1] at h'
          rw [if_pos k1']
          refine ⟨hso, ?_⟩
          cases o with
          | str t =>
            have h2 : R (.bool (textB t && !decide (t = ""))) := h'
            simp only [↓x_fnD, ↓x_skip, ↓x_seq, ↓x_brk, ↓x_cnt, ↓x_exp, ↓x_ret, ↓x_retN, ↓x_ifS, ↓x_set, ↓x_asg, ↓x_own, ↓x_fLst, ↓x_tape, ↓x_C, ↓x_op, ↓x_un, ↓x_test, ↓x_and, ↓x_or, ↓x_not, ↓x_if, ↓x_dnil, ↓x_dcons, ↓x_anil, ↓x_acons, ↓x_tup, ↓x_lst, ↓x_call, ↓x_fn, ↓x_isi, ↓x_new, ↓x_gN, ↓x_yes, ↓x_for, ↓x_iData, ↓x_iRg1, ↓x_oNo, ↓x_oSome, ↓x_sl, ↓x_mD1, ↓x_mD2, ↓x_mD3, ↓x_mD4, ↓x_mD5, ↓x_mT0, ↓x_mT1, ↓x_mT2, ↓x_mT3, ↓x_mT4, ↓x_eqI, ↓x_eqS, ↓x_eqB, ↓x_eqIS, ↓x_eqSI, ↓x_eqNN, ↓x_eqNI, ↓x_eqIN, ↓x_eqNS, ↓x_eqSN, ↓x_neI, ↓x_neS, ↓x_neB, ↓x_ltI, ↓x_ltS, ↓x_leI, ↓x_leS, ↓x_gtI, ↓x_gtS, ↓x_geI, ↓x_geS, ↓x_isN, ↓x_notN, ↓x_nonN, ↓x_nonI, ↓x_nonB, ↓x_nonS, ↓x_nonT, ↓x_nonL, ↓x_addI, ↓x_addS, ↓x_addT, ↓x_addL, ↓x_subI, ↓x_negI, ↓x_mulI, ↓x_mulS, ↓x_mulL, ↓x_modI, ↓x_divI, ↓x_powI, ↓x_lenL, ↓x_lenT, ↓x_lenS, ↓x_max2, ↓x_min2, ↓x_int1I, ↓x_int1B, ↓x_listL, ↓x_listT, ↓x_listS, ↓x_itL, ↓x_itT, ↓x_itS, ↓x_ixL0, ↓x_ixT0, ↓x_ixT1, ↓x_ixL1, ↓x_ixT2, ↓x_ixL2, ↓x_ixT3, ↓x_ixT4, ↓x_ixT5, ↓x_lc, ↓x_wipe0, ↓x_wipe1, ↓x_join, ↓x_gT, ↓x_gsN, ↓x_gsC, ↓x_notV, ↓x_andV, ↓x_orV, ↓x_chain, ↓x_tape1, ↓x_v0, ↓x_st0, ↓x_ap0, ↓x_io0, ↓x_lo0, ↓x_ro0, ↓x_v1, ↓x_st1, ↓x_ap1, ↓x_io1, ↓x_lo1, ↓x_ro1, ↓x_v2, ↓x_st2, ↓x_ap2, ↓x_io2, ↓x_lo2, ↓x_ro2, ↓x_v3, ↓x_st3, ↓x_ap3, ↓x_io3, ↓x_lo3, ↓x_ro3, ↓x_v4, ↓x_st4, ↓x_ap4, ↓x_io4, ↓x_lo4, ↓x_ro4, ↓x_v5, ↓x_st5, ↓x_ap5, ↓x_io5, ↓x_lo5, ↓x_ro5, ↓x_v6, ↓x_st6, ↓x_ap6, ↓x_io6, ↓x_lo6, ↓x_ro6, ↓x_v7, ↓x_st7, ↓x_ap7, ↓x_io7, ↓x_lo7, ↓x_ro7, ↓x_v8, ↓x_st8, ↓x_ap8, ↓x_io8, ↓x_lo8, ↓x_ro8, ↓x_v9, ↓x_st9, ↓x_ap9, ↓x_io9, ↓x_lo9, ↓x_ro9, ↓x_v10, ↓x_st10, ↓x_ap10, ↓x_io10, ↓x_lo10, ↓x_ro10, ↓x_v11, ↓x_st11, ↓x_ap11, ↓x_io11, ↓x_lo11, ↓x_ro11, ↓x_v12, ↓x_v13, ↓x_v14, ↓x_v15, ↓x_ss0, ↓x_ls0, ↓x_subII, ↓x_subBB, ↓x_repr, ↓x_sw, ↓x_M1, ↓x_par, ↓x_gSt1, ↓x_gSt3, ↓x_fo0, ↓x_fd0, ↓x_po0, ↓x_pt0, ↓x_fo1, ↓x_fd1, ↓x_po1, ↓x_pt1, ↓x_fo2, ↓x_fd2, ↓x_po2, ↓x_pt2, ↓x_fo3, ↓x_fd3, ↓x_po3, ↓x_pt3, ↓x_fo4, ↓x_fd4, ↓x_po4, ↓x_pt4, ↓x_fo5, ↓x_fd5, ↓x_po5, ↓x_pt5, ↓x_fo6, ↓x_fd6, ↓x_po6, ↓x_pt6, ↓x_fo7, ↓x_fd7, ↓x_po7, ↓x_pt7, ↓x_fo8, ↓x_fd8, ↓x_po8, ↓x_pt8, ↓x_fo9, ↓x_fd9, ↓x_po9, ↓x_pt9, ↓x_fo10, ↓x_fd10, ↓x_po10, ↓x_pt10, ↓x_fo11, ↓x_fd11, ↓x_po11, ↓x_pt11, ↓x_plI, ↓x_plB, ↓x_plS, ↓x_in2, ↓x_in3, ↓x_sl1T, ↓x_sl1L, ↓x_slS, ↓x_tuL, ↓x_tuT, ↓x_enumD, ↓x_iAsc, ↓x_eq0T, ↓x_eq0L, ↓x_mulT, ↓x_pu0, ↓x_pu1, ↓x_pu2, ↓x_pu3, ↓x_pu4, ↓x_pu5, ↓x_pu6, ↓x_pu7, ↓x_pu8, ↓x_pu9, ↓x_pu10, ↓x_pu11, ↓x_isB, ↓x_isNB, ↓x_nonD, ↓x_in4, ↓x_nin4, ↓x_nin2, ↓x_tupRg, ↓x_lstRg, ↓x_g_LIMIT, ↓x_g_MAX_CHOICES, ↓x_g_MAX_DEPTH, ↓x_g_MAX_ORDER, ↓x_g_MAX_TEXT, ↓x_g_TESTS, List.cons_append, List.nil_append, List.replicate_succ, List.replicate_zero, List.set_cons_zero, List.set_cons_succ, List.getElem?_cons_zero, List.getElem?_cons_succ, decide_eq_true_eq, Bool.false_eq_true, Bool.true_eq_false, ↓reduceIte, Bool.not_true, Bool.not_false, decide_true, decide_false, isTy, isTyK, kindD, PySem.sizeLine_eq, List.length_cons, List.length_nil, true_and, and_true, true_implies, Bool.not_eq_true', decide_eq_false_iff_not, Nat.reduceAdd, Nat.reduceLeDiff, Nat.reduceLT, Int.reduceAdd, Int.reduceSub, Int.reduceLT, Int.reduceLE, Int.reduceNeg, Int.reduceEq, Nat.reduceEqDiff, not_true_eq_false, not_false_eq_true]
            cases e3 : textB t <;> rw [e3] at h2 <;> simp only [↓x_fnD, ↓x_skip, ↓x_seq, ↓x_brk, ↓x_cnt, ↓x_exp, ↓x_ret, ↓x_retN, ↓x_ifS, ↓x_set, ↓x_asg, ↓x_own, ↓x_fLst, ↓x_tape, ↓x_C, ↓x_op, ↓x_un, ↓x_test, ↓x_and, ↓x_or, ↓x_not, ↓x_if, ↓x_dnil, ↓x_dcons, ↓x_anil, ↓x_acons, ↓x_tup, ↓x_lst, ↓x_call, ↓x_fn, ↓x_isi, ↓x_new, ↓x_gN, ↓x_yes, ↓x_for, ↓x_iData, ↓x_iRg1, ↓x_oNo, ↓x_oSome, ↓x_sl, ↓x_mD1, ↓x_mD2, ↓x_mD3, ↓x_mD4, ↓x_mD5, ↓x_mT0, ↓x_mT1, ↓x_mT2, ↓x_mT3, ↓x_mT4, ↓x_eqI, ↓x_eqS, ↓x_eqB, ↓x_eqIS, ↓x_eqSI, ↓x_eqNN, ↓x_eqNI, ↓x_eqIN, ↓x_eqNS, ↓x_eqSN, ↓x_neI, ↓x_neS, ↓x_neB, ↓x_ltI, ↓x_ltS, ↓x_leI, ↓x_leS, ↓x_gtI, ↓x_gtS, ↓x_geI, ↓x_geS, ↓x_isN, ↓x_notN, ↓x_nonN, ↓x_nonI, ↓x_nonB, ↓x_nonS, ↓x_nonT, ↓x_nonL, ↓x_addI, ↓x_addS, ↓x_addT, ↓x_addL, ↓x_subI, ↓x_negI, ↓x_mulI, ↓x_mulS, ↓x_mulL, ↓x_modI, ↓x_divI, ↓x_powI, ↓x_lenL, ↓x_lenT, ↓x_lenS, ↓x_max2, ↓x_min2, ↓x_int1I, ↓x_int1B, ↓x_listL, ↓x_listT, ↓x_listS, ↓x_itL, ↓x_itT, ↓x_itS, ↓x_ixL0, ↓x_ixT0, ↓x_ixT1, ↓x_ixL1, ↓x_ixT2, ↓x_ixL2, ↓x_ixT3, ↓x_ixT4, ↓x_ixT5, ↓x_lc, ↓x_wipe0, ↓x_wipe1, ↓x_join, ↓x_gT, ↓x_gsN, ↓x_gsC, ↓x_notV, ↓x_andV, ↓x_orV, ↓x_chain, ↓x_tape1, ↓x_v0, ↓x_st0, ↓x_ap0, ↓x_io0, ↓x_lo0, ↓x_ro0, ↓x_v1, ↓x_st1, ↓x_ap1, ↓x_io1, ↓x_lo1, ↓x_ro1, ↓x_v2, ↓x_st2, ↓x_ap2, ↓x_io2, ↓x_lo2, ↓x_ro2, ↓x_v3, ↓x_st3, ↓x_ap3, ↓x_io3, ↓x_lo3, ↓x_ro3, ↓x_v4, ↓x_st4, ↓x_ap4, ↓x_io4, ↓x_lo4, ↓x_ro4, ↓x_v5, ↓x_st5, ↓x_ap5, ↓x_io5, ↓x_lo5, ↓x_ro5, ↓x_v6, ↓x_st6, ↓x_ap6, ↓x_io6, ↓x_lo6, ↓x_ro6, ↓x_v7, ↓x_st7, ↓x_ap7, ↓x_io7, ↓x_lo7, ↓x_ro7, ↓x_v8, ↓x_st8, ↓x_ap8, ↓x_io8, ↓x_lo8, ↓x_ro8, ↓x_v9, ↓x_st9, ↓x_ap9, ↓x_io9, ↓x_lo9, ↓x_ro9, ↓x_v10, ↓x_st10, ↓x_ap10, ↓x_io10, ↓x_lo10, ↓x_ro10, ↓x_v11, ↓x_st11, ↓x_ap11, ↓x_io11, ↓x_lo11, ↓x_ro11, ↓x_v12, ↓x_v13, ↓x_v14, ↓x_v15, ↓x_ss0, ↓x_ls0, ↓x_subII, ↓x_subBB, ↓x_repr, ↓x_sw, ↓x_M1, ↓x_par, ↓x_gSt1, ↓x_gSt3, ↓x_fo0, ↓x_fd0, ↓x_po0, ↓x_pt0, ↓x_fo1, ↓x_fd1, ↓x_po1, ↓x_pt1, ↓x_fo2, ↓x_fd2, ↓x_po2, ↓x_pt2, ↓x_fo3, ↓x_fd3, ↓x_po3, ↓x_pt3, ↓x_fo4, ↓x_fd4, ↓x_po4, ↓x_pt4, ↓x_fo5, ↓x_fd5, ↓x_po5, ↓x_pt5, ↓x_fo6, ↓x_fd6, ↓x_po6, ↓x_pt6, ↓x_fo7, ↓x_fd7, ↓x_po7, ↓x_pt7, ↓x_fo8, ↓x_fd8, ↓x_po8, ↓x_pt8, ↓x_fo9, ↓x_fd9, ↓x_po9, ↓x_pt9, ↓x_fo10, ↓x_fd10, ↓x_po10, ↓x_pt10, ↓x_fo11, ↓x_fd11, ↓x_po11, ↓x_pt11, ↓x_plI, ↓x_plB, ↓x_plS, ↓x_in2, ↓x_in3, ↓x_sl1T, ↓x_sl1L, ↓x_slS, ↓x_tuL, ↓x_tuT, ↓x_enumD, ↓x_iAsc, ↓x_eq0T, ↓x_eq0L, ↓x_mulT, ↓x_pu0, ↓x_pu1, ↓x_pu2, ↓x_pu3, ↓x_pu4, ↓x_pu5, ↓x_pu6, ↓x_pu7, ↓x_pu8, ↓x_pu9, ↓x_pu10, ↓x_pu11, ↓x_isB, ↓x_isNB, ↓x_nonD, ↓x_in4, ↓x_nin4, ↓x_nin2, ↓x_tupRg, ↓x_lstRg, ↓x_g_LIMIT, ↓x_g_MAX_CHOICES, ↓x_g_MAX_DEPTH, ↓x_g_MAX_ORDER, ↓x_g_MAX_TEXT, ↓x_g_TESTS, List.cons_append, List.nil_append, List.replicate_succ, List.replicate_zero, List.set_cons_zero, List.set_cons_succ, List.getElem?_cons_zero, List.getElem?_cons_succ, decide_eq_true_eq, Bool.false_eq_true, Bool.true_eq_false, ↓reduceIte, Bool.not_true, Bool.not_false, decide_true, decide_false, isTy, isTyK, kindD, PySem.sizeLine_eq, List.length_cons, List.length_nil, true_and, and_true, true_implies, Bool.not_eq_true', decide_eq_false_iff_not, Nat.reduceAdd, Nat.reduceLeDiff, Nat.reduceLT, Int.reduceAdd, Int.reduceSub, Int.reduceLT, Int.reduceLE, Int.reduceNeg, Int.reduceEq, Nat.reduceEqDiff, not_true_eq_false, not_false_eq_true]
            · exact h2
            · simpa using h2
          | _ =>
            simp only [↓x_fnD, ↓x_skip, ↓x_seq, ↓x_brk, ↓x_cnt, ↓x_exp, ↓x_ret, ↓x_retN, ↓x_ifS, ↓x_set, ↓x_asg, ↓x_own, ↓x_fLst, ↓x_tape, ↓x_C, ↓x_op, ↓x_un, ↓x_test, ↓x_and, ↓x_or, ↓x_not, ↓x_if, ↓x_dnil, ↓x_dcons, ↓x_anil, ↓x_acons, ↓x_tup, ↓x_lst, ↓x_call, ↓x_fn, ↓x_isi, ↓x_new, ↓x_gN, ↓x_yes, ↓x_for, ↓x_iData, ↓x_iRg1, ↓x_oNo, ↓x_oSome, ↓x_sl, ↓x_mD1, ↓x_mD2, ↓x_mD3, ↓x_mD4, ↓x_mD5, ↓x_mT0, ↓x_mT1, ↓x_mT2, ↓x_mT3, ↓x_mT4, ↓x_eqI, ↓x_eqS, ↓x_eqB, ↓x_eqIS, ↓x_eqSI, ↓x_eqNN, ↓x_eqNI, ↓x_eqIN, ↓x_eqNS, ↓x_eqSN, ↓x_neI, ↓x_neS, ↓x_neB, ↓x_ltI, ↓x_ltS, ↓x_leI, ↓x_leS, ↓x_gtI, ↓x_gtS, ↓x_geI, ↓x_geS, ↓x_isN, ↓x_notN, ↓x_nonN, ↓x_nonI, ↓x_nonB, ↓x_nonS, ↓x_nonT, ↓x_nonL, ↓x_addI, ↓x_addS, ↓x_addT, ↓x_addL, ↓x_subI, ↓x_negI, ↓x_mulI, ↓x_mulS, ↓x_mulL, ↓x_modI, ↓x_divI, ↓x_powI, ↓x_lenL, ↓x_lenT, ↓x_lenS, ↓x_max2, ↓x_min2, ↓x_int1I, ↓x_int1B, ↓x_listL, ↓x_listT, ↓x_listS, ↓x_itL, ↓x_itT, ↓x_itS, ↓x_ixL0, ↓x_ixT0, ↓x_ixT1, ↓x_ixL1, ↓x_ixT2, ↓x_ixL2, ↓x_ixT3, ↓x_ixT4, ↓x_ixT5, ↓x_lc, ↓x_wipe0, ↓x_wipe1, ↓x_join, ↓x_gT, ↓x_gsN, ↓x_gsC, ↓x_notV, ↓x_andV, ↓x_orV, ↓x_chain, ↓x_tape1, ↓x_v0, ↓x_st0, ↓x_ap0, ↓x_io0, ↓x_lo0, ↓x_ro0, ↓x_v1, ↓x_st1, ↓x_ap1, ↓x_io1, ↓x_lo1, ↓x_ro1, ↓x_v2, ↓x_st2, ↓x_ap2, ↓x_io2, ↓x_lo2, ↓x_ro2, ↓x_v3, ↓x_st3, ↓x_ap3, ↓x_io3, ↓x_lo3, ↓x_ro3, ↓x_v4, ↓x_st4, ↓x_ap4, ↓x_io4, ↓x_lo4, ↓x_ro4, ↓x_v5, ↓x_st5, ↓x_ap5, ↓x_io5, ↓x_lo5, ↓x_ro5, ↓x_v6, ↓x_st6, ↓x_ap6, ↓x_io6, ↓x_lo6, ↓x_ro6, ↓x_v7, ↓x_st7, ↓x_ap7, ↓x_io7, ↓x_lo7, ↓x_ro7, ↓x_v8, ↓x_st8, ↓x_ap8, ↓x_io8, ↓x_lo8, ↓x_ro8, ↓x_v9, ↓x_st9, ↓x_ap9, ↓x_io9, ↓x_lo9, ↓x_ro9, ↓x_v10, ↓x_st10, ↓x_ap10, ↓x_io10, ↓x_lo10, ↓x_ro10, ↓x_v11, ↓x_st11, ↓x_ap11, ↓x_io11, ↓x_lo11, ↓x_ro11, ↓x_v12, ↓x_v13, ↓x_v14, ↓x_v15, ↓x_ss0, ↓x_ls0, ↓x_subII, ↓x_subBB, ↓x_repr, ↓x_sw, ↓x_M1, ↓x_par, ↓x_gSt1, ↓x_gSt3, ↓x_fo0, ↓x_fd0, ↓x_po0, ↓x_pt0, ↓x_fo1, ↓x_fd1, ↓x_po1, ↓x_pt1, ↓x_fo2, ↓x_fd2, ↓x_po2, ↓x_pt2, ↓x_fo3, ↓x_fd3, ↓x_po3, ↓x_pt3, ↓x_fo4, ↓x_fd4, ↓x_po4, ↓x_pt4, ↓x_fo5, ↓x_fd5, ↓x_po5, ↓x_pt5, ↓x_fo6, ↓x_fd6, ↓x_po6, ↓x_pt6, ↓x_fo7, ↓x_fd7, ↓x_po7, ↓x_pt7, ↓x_fo8, ↓x_fd8, ↓x_po8, ↓x_pt8, ↓x_fo9, ↓x_fd9, ↓x_po9, ↓x_pt9, ↓x_fo10, ↓x_fd10, ↓x_po10, ↓x_pt10, ↓x_fo11, ↓x_fd11, ↓x_po11, ↓x_pt11, ↓x_plI, ↓x_plB, ↓x_plS, ↓x_in2, ↓x_in3, ↓x_sl1T, ↓x_sl1L, ↓x_slS, ↓x_tuL, ↓x_tuT, ↓x_enumD, ↓x_iAsc, ↓x_eq0T, ↓x_eq0L, ↓x_mulT, ↓x_pu0, ↓x_pu1, ↓x_pu2, ↓x_pu3, ↓x_pu4, ↓x_pu5, ↓x_pu6, ↓x_pu7, ↓x_pu8, ↓x_pu9, ↓x_pu10, ↓x_pu11, ↓x_isB, ↓x_isNB, ↓x_nonD, ↓x_in4, ↓x_nin4, ↓x_nin2, ↓x_tupRg, ↓x_lstRg, ↓x_g_LIMIT, ↓x_g_MAX_CHOICES, ↓x_g_MAX_DEPTH, ↓x_g_MAX_ORDER, ↓x_g_MAX_TEXT, ↓x_g_TESTS, List.cons_append, List.nil_append, List.replicate_succ, List.replicate_zero, List.set_cons_zero, List.set_cons_succ, List.getElem?_cons_zero, List.getElem?_cons_succ, decide_eq_true_eq, Bool.false_eq_true, Bool.true_eq_false, ↓reduceIte, Bool.not_true, Bool.not_false, decide_true, decide_false, isTy, isTyK, kindD, PySem.sizeLine_eq, List.length_cons, List.length_nil, true_and, and_true, true_implies, Bool.not_eq_true', decide_eq_false_iff_not, Nat.reduceAdd, Nat.reduceLeDiff, Nat.reduceLT, Int.reduceAdd, Int.reduceSub, Int.reduceLT, Int.reduceLE, Int.reduceNeg, Int.reduceEq, Nat.reduceEqDiff, not_true_eq_false, not_false_eq_true]
            exact h'
        · have k1' : ¬ k = Str.ofString "starts" := k1
          rw [if_neg k1] at h'
          rw [if_neg k1']
          by_cases k2 : k = "one_of"
          · have k2' : k = Str.ofString "one_of" := k2
            rw [if_pos k2] at h'
            rw [if_pos k2']
            exact ⟨hzo, h'⟩
          · have k2' : ¬ k = Str.ofString "one_of" := k2
            rw [if_neg k2] at h'
            rw [if_neg k2']
            exact ⟨hso, h'⟩
      · rw [decide_eq_false e2] at h'
        simp only [e2, ↓x_fnD, ↓x_skip, ↓x_seq, ↓x_brk, ↓x_cnt, ↓x_exp, ↓x_ret, ↓x_retN, ↓x_ifS, ↓x_set, ↓x_asg, ↓x_own, ↓x_fLst, ↓x_tape, ↓x_C, ↓x_op, ↓x_un, ↓x_test, ↓x_and, ↓x_or, ↓x_not, ↓x_if, ↓x_dnil, ↓x_dcons, ↓x_anil, ↓x_acons, ↓x_tup, ↓x_lst, ↓x_call, ↓x_fn, ↓x_isi, ↓x_new, ↓x_gN, ↓x_yes, ↓x_for, ↓x_iData, ↓x_iRg1, ↓x_oNo, ↓x_oSome, ↓x_sl, ↓x_mD1, ↓x_mD2, ↓x_mD3, ↓x_mD4, ↓x_mD5, ↓x_mT0, ↓x_mT1, ↓x_mT2, ↓x_mT3, ↓x_mT4, ↓x_eqI, ↓x_eqS, ↓x_eqB, ↓x_eqIS, ↓x_eqSI, ↓x_eqNN, ↓x_eqNI, ↓x_eqIN, ↓x_eqNS, ↓x_eqSN, ↓x_neI, ↓x_neS, ↓x_neB, ↓x_ltI, ↓x_ltS, ↓x_leI, ↓x_leS, ↓x_gtI, ↓x_gtS, ↓x_geI, ↓x_geS, ↓x_isN, ↓x_notN, ↓x_nonN, ↓x_nonI, ↓x_nonB, ↓x_nonS, ↓x_nonT, ↓x_nonL, ↓x_addI, ↓x_addS, ↓x_addT, ↓x_addL, ↓x_subI, ↓x_negI, ↓x_mulI, ↓x_mulS, ↓x_mulL, ↓x_modI, ↓x_divI, ↓x_powI, ↓x_lenL, ↓x_lenT, ↓x_lenS, ↓x_max2, ↓x_min2, ↓x_int1I, ↓x_int1B, ↓x_listL, ↓x_listT, ↓x_listS, ↓x_itL, ↓x_itT, ↓x_itS, ↓x_ixL0, ↓x_ixT0, ↓x_ixT1, ↓x_ixL1, ↓x_ixT2, ↓x_ixL2, ↓x_ixT3, ↓x_ixT4, ↓x_ixT5, ↓x_lc, ↓x_wipe0, ↓x_wipe1, ↓x_join, ↓x_gT, ↓x_gsN, ↓x_gsC, ↓x_notV, ↓x_andV, ↓x_orV, ↓x_chain, ↓x_tape1, ↓x_v0, ↓x_st0, ↓x_ap0, ↓x_io0, ↓x_lo0, ↓x_ro0, ↓x_v1, ↓x_st1, ↓x_ap1, ↓x_io1, ↓x_lo1, ↓x_ro1, ↓x_v2, ↓x_st2, ↓x_ap2, ↓x_io2, ↓x_lo2, ↓x_ro2, ↓x_v3, ↓x_st3, ↓x_ap3, ↓x_io3, ↓x_lo3, ↓x_ro3, ↓x_v4, ↓x_st4, ↓x_ap4, ↓x_io4, ↓x_lo4, ↓x_ro4, ↓x_v5, ↓x_st5, ↓x_ap5, ↓x_io5, ↓x_lo5, ↓x_ro5, ↓x_v6, ↓x_st6, ↓x_ap6, ↓x_io6, ↓x_lo6, ↓x_ro6, ↓x_v7, ↓x_st7, ↓x_ap7, ↓x_io7, ↓x_lo7, ↓x_ro7, ↓x_v8, ↓x_st8, ↓x_ap8, ↓x_io8, ↓x_lo8, ↓x_ro8, ↓x_v9, ↓x_st9, ↓x_ap9, ↓x_io9, ↓x_lo9, ↓x_ro9, ↓x_v10, ↓x_st10, ↓x_ap10, ↓x_io10, ↓x_lo10, ↓x_ro10, ↓x_v11, ↓x_st11, ↓x_ap11, ↓x_io11, ↓x_lo11, ↓x_ro11, ↓x_v12, ↓x_v13, ↓x_v14, ↓x_v15, ↓x_ss0, ↓x_ls0, ↓x_subII, ↓x_subBB, ↓x_repr, ↓x_sw, ↓x_M1, ↓x_par, ↓x_gSt1, ↓x_gSt3, ↓x_fo0, ↓x_fd0, ↓x_po0, ↓x_pt0, ↓x_fo1, ↓x_fd1, ↓x_po1, ↓x_pt1, ↓x_fo2, ↓x_fd2, ↓x_po2, ↓x_pt2, ↓x_fo3, ↓x_fd3, ↓x_po3, ↓x_pt3, ↓x_fo4, ↓x_fd4, ↓x_po4, ↓x_pt4, ↓x_fo5, ↓x_fd5, ↓x_po5, ↓x_pt5, ↓x_fo6, ↓x_fd6, ↓x_po6, ↓x_pt6, ↓x_fo7, ↓x_fd7, ↓x_po7, ↓x_pt7, ↓x_fo8, ↓x_fd8, ↓x_po8, ↓x_pt8, ↓x_fo9, ↓x_fd9, ↓x_po9, ↓x_pt9, ↓x_fo10, ↓x_fd10, ↓x_po10, ↓x_pt10, ↓x_fo11, ↓x_fd11, ↓x_po11, ↓x_pt11, ↓x_plI, ↓x_plB, ↓x_plS, ↓x_in2, ↓x_in3, ↓x_sl1T, ↓x_sl1L, ↓x_slS, ↓x_tuL, ↓x_tuT, ↓x_enumD, ↓x_iAsc, ↓x_eq0T, ↓x_eq0L, ↓x_mulT, ↓x_pu0, ↓x_pu1, ↓x_pu2, ↓x_pu3, ↓x_pu4, ↓x_pu5, ↓x_pu6, ↓x_pu7, ↓x_pu8, ↓x_pu9, ↓x_pu10, ↓x_pu11, ↓x_isB, ↓x_isNB, ↓x_nonD, ↓x_in4, ↓x_nin4, ↓x_nin2, ↓x_tupRg, ↓x_lstRg, ↓x_g_LIMIT, ↓x_g_MAX_CHOICES, ↓x_g_MAX_DEPTH, ↓x_g_MAX_ORDER, ↓x_g_MAX_TEXT, ↓x_g_TESTS, List.cons_append, List.nil_append, List.replicate_succ, List.replicate_zero, List.set_cons_zero, List.set_cons_succ, List.getElem?_cons_zero, List.getElem?_cons_succ, decide_eq_true_eq, Bool.false_eq_true, Bool.true_eq_false, ↓reduceIte, Bool.not_true, Bool.not_false, decide_true, decide_false, isTy, isTyK, kindD, PySem.sizeLine_eq, List.length_cons, List.length_nil, true_and, and_true, true_implies, Bool.not_eq_true', decide_eq_false_iff_not, Nat.reduceAdd, Nat.reduceLeDiff, Nat.reduceLT, Int.reduceAdd, Int.reduceSub, Int.reduceLT, Int.reduceLE, Int.reduceNeg, Int.reduceEq, Nat.reduceEqDiff, not_true_eq_false, not_false_eq_true]
        simpa using h'
    · rw [decide_eq_false e1] at h' ⊢
      simpa using h'
  | _ =>
    simp only [isInt, ↓x_fnD, ↓x_skip, ↓x_seq, ↓x_brk, ↓x_cnt, ↓x_exp, ↓x_ret, ↓x_retN, ↓x_ifS, ↓x_set, ↓x_asg, ↓x_own, ↓x_fLst, ↓x_tape, ↓x_C, ↓x_op, ↓x_un, ↓x_test, ↓x_and, ↓x_or, ↓x_not, ↓x_if, ↓x_dnil, ↓x_dcons, ↓x_anil, ↓x_acons, ↓x_tup, ↓x_lst, ↓x_call, ↓x_fn, ↓x_isi, ↓x_new, ↓x_gN, ↓x_yes, ↓x_for, ↓x_iData, ↓x_iRg1, ↓x_oNo, ↓x_oSome, ↓x_sl, ↓x_mD1, ↓x_mD2, ↓x_mD3, ↓x_mD4, ↓x_mD5, ↓x_mT0, ↓x_mT1, ↓x_mT2, ↓x_mT3, ↓x_mT4, ↓x_eqI, ↓x_eqS, ↓x_eqB, ↓x_eqIS, ↓x_eqSI, ↓x_eqNN, ↓x_eqNI, ↓x_eqIN, ↓x_eqNS, ↓x_eqSN, ↓x_neI, ↓x_neS, ↓x_neB, ↓x_ltI, ↓x_ltS, ↓x_leI, ↓x_leS, ↓x_gtI, ↓x_gtS, ↓x_geI, ↓x_geS, ↓x_isN, ↓x_notN, ↓x_nonN, ↓x_nonI, ↓x_nonB, ↓x_nonS, ↓x_nonT, ↓x_nonL, ↓x_addI, ↓x_addS, ↓x_addT, ↓x_addL, ↓x_subI, ↓x_negI, ↓x_mulI, ↓x_mulS, ↓x_mulL, ↓x_modI, ↓x_divI, ↓x_powI, ↓x_lenL, ↓x_lenT, ↓x_lenS, ↓x_max2, ↓x_min2, ↓x_int1I, ↓x_int1B, ↓x_listL, ↓x_listT, ↓x_listS, ↓x_itL, ↓x_itT, ↓x_itS, ↓x_ixL0, ↓x_ixT0, ↓x_ixT1, ↓x_ixL1, ↓x_ixT2, ↓x_ixL2, ↓x_ixT3, ↓x_ixT4, ↓x_ixT5, ↓x_lc, ↓x_wipe0, ↓x_wipe1, ↓x_join, ↓x_gT, ↓x_gsN, ↓x_gsC, ↓x_notV, ↓x_andV, ↓x_orV, ↓x_chain, ↓x_tape1, ↓x_v0, ↓x_st0, ↓x_ap0, ↓x_io0, ↓x_lo0, ↓x_ro0, ↓x_v1, ↓x_st1, ↓x_ap1, ↓x_io1, ↓x_lo1, ↓x_ro1, ↓x_v2, ↓x_st2, ↓x_ap2, ↓x_io2, ↓x_lo2, ↓x_ro2, ↓x_v3, ↓x_st3, ↓x_ap3, ↓x_io3, ↓x_lo3, ↓x_ro3, ↓x_v4, ↓x_st4, ↓x_ap4, ↓x_io4, ↓x_lo4, ↓x_ro4, ↓x_v5, ↓x_st5, ↓x_ap5, ↓x_io5, ↓x_lo5, ↓x_ro5, ↓x_v6, ↓x_st6, ↓x_ap6, ↓x_io6, ↓x_lo6, ↓x_ro6, ↓x_v7, ↓x_st7, ↓x_ap7, ↓x_io7, ↓x_lo7, ↓x_ro7, ↓x_v8, ↓x_st8, ↓x_ap8, ↓x_io8, ↓x_lo8, ↓x_ro8, ↓x_v9, ↓x_st9, ↓x_ap9, ↓x_io9, ↓x_lo9, ↓x_ro9, ↓x_v10, ↓x_st10, ↓x_ap10, ↓x_io10, ↓x_lo10, ↓x_ro10, ↓x_v11, ↓x_st11, ↓x_ap11, ↓x_io11, ↓x_lo11, ↓x_ro11, ↓x_v12, ↓x_v13, ↓x_v14, ↓x_v15, ↓x_ss0, ↓x_ls0, ↓x_subII, ↓x_subBB, ↓x_repr, ↓x_sw, ↓x_M1, ↓x_par, ↓x_gSt1, ↓x_gSt3, ↓x_fo0, ↓x_fd0, ↓x_po0, ↓x_pt0, ↓x_fo1, ↓x_fd1, ↓x_po1, ↓x_pt1, ↓x_fo2, ↓x_fd2, ↓x_po2, ↓x_pt2, ↓x_fo3, ↓x_fd3, ↓x_po3, ↓x_pt3, ↓x_fo4, ↓x_fd4, ↓x_po4, ↓x_pt4, ↓x_fo5, ↓x_fd5, ↓x_po5, ↓x_pt5, ↓x_fo6, ↓x_fd6, ↓x_po6, ↓x_pt6, ↓x_fo7, ↓x_fd7, ↓x_po7, ↓x_pt7, ↓x_fo8, ↓x_fd8, ↓x_po8, ↓x_pt8, ↓x_fo9, ↓x_fd9, ↓x_po9, ↓x_pt9, ↓x_fo10, ↓x_fd10, ↓x_po10, ↓x_pt10, ↓x_fo11, ↓x_fd11, ↓x_po11, ↓x_pt11, ↓x_plI, ↓x_plB, ↓x_plS, ↓x_in2, ↓x_in3, ↓x_sl1T, ↓x_sl1L, ↓x_slS, ↓x_tuL, ↓x_tuT, ↓x_enumD, ↓x_iAsc, ↓x_eq0T, ↓x_eq0L, ↓x_mulT, ↓x_pu0, ↓x_pu1, ↓x_pu2, ↓x_pu3, ↓x_pu4, ↓x_pu5, ↓x_pu6, ↓x_pu7, ↓x_pu8, ↓x_pu9, ↓x_pu10, ↓x_pu11, ↓x_isB, ↓x_isNB, ↓x_nonD, ↓x_in4, ↓x_nin4, ↓x_nin2, ↓x_tupRg, ↓x_lstRg, ↓x_g_LIMIT, ↓x_g_MAX_CHOICES, ↓x_g_MAX_DEPTH, ↓x_g_MAX_ORDER, ↓x_g_MAX_TEXT, ↓x_g_TESTS, List.cons_append, List.nil_append, List.replicate_succ, List.replicate_zero, List.set_cons_zero, List.set_cons_succ, List.getElem?_cons_zero, List.getElem?_cons_succ, decide_eq_true_eq, Bool.false_eq_true, Bool.true_eq_false, ↓reduceIte, Bool.not_true, Bool.not_false, decide_true, decide_false, isTy, isTyK, kindD, PySem.sizeLine_eq, List.length_cons, List.length_nil, true_and, and_true, true_implies, Bool.not_eq_true', decide_eq_false_iff_not, Nat.reduceAdd, Nat.reduceLeDiff, Nat.reduceLT, Int.reduceAdd, Int.reduceSub, Int.reduceLT, Int.reduceLE, Int.reduceNeg, Int.reduceEq, Nat.reduceEqDiff, not_true_eq_false, not_false_eq_true]
    exact hQ
theorem ok_is_test (T : Txt K mg) {f : Addr} {fd : FuncData} (F : Fun K "is_test" "is_test" s_is_test f fd) : FnG P w K mg base 5 f fd ["value", "width"] (spD P w K 2 (fnD b_is_test 3)) :=
  fn_okG F sc_is_test fun cdv A outer s H E hr hgd => by
    have hu := hr.units
    exact (s_cons (s_asg (ev 0) (g_tp (vs := [2, 3, 4]) rfl (gs_cons (g_nm (vs := [2, 3, 4]) sc_is_test.nd rfl (by first | exact Or.inl rfl | exact Or.inr rfl) (by decide)) (gs_cons (g_nm (vs := [2, 3, 4]) sc_is_test.nd rfl (by first | exact Or.inl rfl | exact Or.inr rfl) (by decide)) (gs_cons (g_nm (vs := [2, 3, 4]) sc_is_test.nd rfl (by first | exact Or.inl rfl | exact Or.inr rfl) (by decide)) gs_nil)))))
      (s_cons (s_if (PW.pt (w_or (t_not (t_val (e_fnG (cal_is_integer T) hr hgd (a_cons (ev 3) a_nil) ))) (w_or1 (t_not (t_chainD oLe (oLt' hu) e_int (ev 3) (ev 1)))))) (s_one (s_ret e_bl)) s_nil)
      (s_cons (s_if (t_cmpD (oEq hu) (ev 2) e_str) (s_one (s_ret (e_and (e_fnG (cal_is_text T) hr hgd (a_cons (ev 4) a_nil) ) (e_one (e_cmpD (oNe hu) (ev 4) e_str))))) s_nil)
      (s_one (s_ret (e_if (t_cmpD (oEq hu) (ev 2) e_str) (e_fnG (cal_is_choice T) hr hgd (a_cons (ev 4) a_nil) ) (e_fnG (cal_is_value T) hr hgd (a_cons (ev 4) a_nil) )))))))
theorem cal_is_test (T : Txt K mg) : CalG P w K mg base 5 "is_test" (spD P w K 2 m_is_test) :=
  CalG.imp (calG_of T.f_is_test (show BindsN "is_test" s_is_test ["value", "width"] from fun _ _ _ _ _ _ us hl => match us, hl with | [_, _], _ => rfl) fun _ _ F => ok_is_test T F) spec_is_test
theorem sc_is_within : FnScope N_is_within ["value", "width", "depth"] (defScope s_is_within) := ⟨rfl, rfl, rfl, by decide +kernel, rfl, by decide +kernel, by decide +kernel⟩
def b_is_within (mr : List SV → EK → Prop) : DS := (dSeq (dIfS (dOr (dTest (dOp fEq (dVar 2) (dC (.int 0)))) (dOr (dNot (dTest (dIsI .tuple (dVar 0)))) (dOr (dTest (dOp fEqE (dVar 0) (dTup dNil))) (dNot (dTest (dIsI .str (dOp fIx (dVar 0) (dC (.int 0))))))))) (dRet (dC (.bool false))) dSkip)
    (dSeq (dAsg (gSt (gCons' (gN 3) (gCons' (gN 4) gNil')) 1) (dVar 0))
    (dSeq (dIfS (dTest (dOp (fInS false) (dVar 3) (dC g_TESTS))) (dRet (dAndV (dOp fEq (dCall fLen (dCons (dVar 4) dNil)) (dC (.int 2))) (dFn m_is_test (aCons (dVar 0) (aCons (dVar 1) aNil))))) dSkip)
    (dSeq (dIfS (dTest (dOp fEq (dVar 3) (dC (.str "not")))) (dRet (dAndV (dOp fEq (dCall fLen (dCons (dVar 4) dNil)) (dC (.int 1))) (dFn mr (aCons (dOp fIx (dVar 4) (dC (.int 0))) (aCons (dVar 1) (aCons (dOp fSubB (dVar 2) (dC (.int 1))) aNil)))))) dSkip)
    (dSeq (dIfS (dTest (dOp (fInS false) (dVar 3) (dTup (dCons (dC (.str "and")) (dCons (dC (.str "or")) dNil))))) (dRet (dAndV (dOp fEq (dCall fLen (dCons (dVar 4) dNil)) (dC (.int 2))) (dCall fAll (dCons (dNew (fLc (iData (dVar 4)) (gN 5) dYes (dFn mr (aCons (dVar 5) (aCons (dVar 1) (aCons (dOp fSubB (dVar 2) (dC (.int 1))) aNil)))) [5])) dNil)))) dSkip)
    (dRet (dAndV (dOp fEq (dVar 3) (dC (.str "all"))) (dOp fEqE (dVar 4) (dLst dNil)))))))))
-- depth 8
abbrev m_is_within : Nat → List SV → EK → Prop := fun n => mD3 fun x y z Q => ∃ (w : Int) (k : Nat), y = .int w ∧ z = .int k ∧ k ≤ n ∧ n ≤ 20 ∧ szD x ≤ 1000000 ∧ Q (.bool (withinB w k x))
theorem within_bad {w : Int} {k : Nat} {d : D} (h : ∀ s ps, d ≠ .tuple (.str s :: ps)) : withinB w k d = false := by
  unfold withinB
  split
  · exact absurd rfl (h _ _)
  · rfl
theorem within_str {w : Int} {n : Nat} {k : Str} {ps : List D} : withinB w (n + 1) (.tuple (.str k :: ps)) =
    if k = "equal" ∨ k = "less" ∨ k = "starts" ∨ k = "one_of" then (match ps with | [c, o] => colB w c && operB k o | _ => false)
    else if k = "not" then (match ps with | [p] => withinB w n p | _ => false)
    else if k = "and" ∨ k = "or" then (match ps with | [p, q] => withinB w n p && withinB w n q | _ => false)
    else decide (k = "all") && ps.isEmpty := rfl
theorem in4_iff {s a b c d : Str} : (decide (a = s) || (decide (b = s) || (decide (c = s) || decide (d = s)))) = decide (s = a ∨ s = b ∨ s = c ∨ s = d) := by
  rw [Bool.eq_iff_iff]
  simp only [Bool.or_eq_true, decide_eq_true_eq]
  exact or_congr eq_comm (or_congr eq_comm (or_congr eq_comm eq_comm))
theorem in2_iff {s a b : Str} : (decide (a = s) || decide (b = s)) = decide (s = a ∨ s = b) := by
  rw [Bool.eq_iff_iff]
  simp only [Bool.or_eq_true, decide_eq_true_eq]
  exact or_congr eq_comm eq_comm
theorem spec_is_within (n : Nat) (svs : List SV) (R : EK) (_ : svs.length = 3) (h : m_is_within n svs R) : fnD (b_is_within (mrec m_is_within n)) 3 svs R := by
  obtain ⟨x, y, z, rfl, w, k, rfl, rfl, hk, hn, hz, hQ⟩ := mD3_elim h
  cases k with
  | zero =>
    have e : withinB w 0 x = false := by
      unfold withinB
      rfl
    rw [e] at hQ
    show fnD (b_is_within (mrec m_is_within n)) 3 [.dat x, .dat (.int w), .dat (.int 0)] R
    simp only [b_is_within, ↓x_fnD, ↓x_skip, ↓x_seq, ↓x_brk, ↓x_cnt, ↓x_exp, ↓x_ret, ↓x_retN, ↓x_ifS, ↓x_set, ↓x_asg, ↓x_own, ↓x_fLst, ↓x_tape, ↓x_C, ↓x_op, ↓x_un, ↓x_test, ↓x_and, ↓x_or, ↓x_not, ↓x_if, ↓x_dnil, ↓x_dcons, ↓x_anil, ↓x_acons, ↓x_tup, ↓x_lst, ↓x_call, ↓x_fn, ↓x_isi, ↓x_new, ↓x_gN, ↓x_yes, ↓x_for, ↓x_iData, ↓x_iRg1, ↓x_oNo, ↓x_oSome, ↓x_sl, ↓x_mD1, ↓x_mD2, ↓x_mD3, ↓x_mD4, ↓x_mD5, ↓x_mT0, ↓x_mT1, ↓x_mT2, ↓x_mT3, ↓x_mT4, ↓x_eqI, ↓x_eqS, ↓x_eqB, ↓x_eqIS, ↓x_eqSI, ↓x_eqNN, ↓x_eqNI, ↓x_eqIN, ↓x_eqNS, ↓x_eqSN, ↓x_neI, ↓x_neS, ↓x_neB, ↓x_ltI, ↓x_ltS, ↓x_leI, ↓x_leS, ↓x_gtI, ↓x_gtS, ↓x_geI, ↓x_geS, ↓x_isN, ↓x_notN, ↓x_nonN, ↓x_nonI, ↓x_nonB, ↓x_nonS, ↓x_nonT, ↓x_nonL, ↓x_addI, ↓x_addS, ↓x_addT, ↓x_addL, ↓x_subI, ↓x_negI, ↓x_mulI, ↓x_mulS, ↓x_mulL, ↓x_modI, ↓x_divI, ↓x_powI, ↓x_lenL, ↓x_lenT, ↓x_lenS, ↓x_max2, ↓x_min2, ↓x_int1I, ↓x_int1B, ↓x_listL, ↓x_listT, ↓x_listS, ↓x_itL, ↓x_itT, ↓x_itS, ↓x_ixL0, ↓x_ixT0, ↓x_ixT1, ↓x_ixL1, ↓x_ixT2, ↓x_ixL2, ↓x_ixT3, ↓x_ixT4, ↓x_ixT5, ↓x_lc, ↓x_wipe0, ↓x_wipe1, ↓x_join, ↓x_gT, ↓x_gsN, ↓x_gsC, ↓x_notV, ↓x_andV, ↓x_orV, ↓x_chain, ↓x_tape1, ↓x_v0, ↓x_st0, ↓x_ap0, ↓x_io0, ↓x_lo0, ↓x_ro0, ↓x_v1, ↓x_st1, ↓x_ap1, ↓x_io1, ↓x_lo1, ↓x_ro1, ↓x_v2, ↓x_st2, ↓x_ap2, ↓x_io2, ↓x_lo2, ↓x_ro2, ↓x_v3, ↓x_st3, ↓x_ap3, ↓x_io3, ↓x_lo3, ↓x_ro3, ↓x_v4, ↓x_st4, ↓x_ap4, ↓x_io4, ↓x_lo4, ↓x_ro4, ↓x_v5, ↓x_st5, ↓x_ap5, ↓x_io5, ↓x_lo5, ↓x_ro5, ↓x_v6, ↓x_st6, ↓x_ap6, ↓x_io6, ↓x_lo6, ↓x_ro6, ↓x_v7, ↓x_st7, ↓x_ap7, ↓x_io7, ↓x_lo7, ↓x_ro7, ↓x_v8, ↓x_st8, ↓x_ap8, ↓x_io8, ↓x_lo8, ↓x_ro8, ↓x_v9, ↓x_st9, ↓x_ap9, ↓x_io9, ↓x_lo9, ↓x_ro9, ↓x_v10, ↓x_st10, ↓x_ap10, ↓x_io10, ↓x_lo10, ↓x_ro10, ↓x_v11, ↓x_st11, ↓x_ap11, ↓x_io11, ↓x_lo11, ↓x_ro11, ↓x_v12, ↓x_v13, ↓x_v14, ↓x_v15, ↓x_ss0, ↓x_ls0, ↓x_subII, ↓x_subBB, ↓x_repr, ↓x_sw, ↓x_M1, ↓x_par, ↓x_gSt1, ↓x_gSt3, ↓x_fo0, ↓x_fd0, ↓x_po0, ↓x_pt0, ↓x_fo1, ↓x_fd1, ↓x_po1, ↓x_pt1, ↓x_fo2, ↓x_fd2, ↓x_po2, ↓x_pt2, ↓x_fo3, ↓x_fd3, ↓x_po3, ↓x_pt3, ↓x_fo4, ↓x_fd4, ↓x_po4, ↓x_pt4, ↓x_fo5, ↓x_fd5, ↓x_po5, ↓x_pt5, ↓x_fo6, ↓x_fd6, ↓x_po6, ↓x_pt6, ↓x_fo7, ↓x_fd7, ↓x_po7, ↓x_pt7, ↓x_fo8, ↓x_fd8, ↓x_po8, ↓x_pt8, ↓x_fo9, ↓x_fd9, ↓x_po9, ↓x_pt9, ↓x_fo10, ↓x_fd10, ↓x_po10, ↓x_pt10, ↓x_fo11, ↓x_fd11, ↓x_po11, ↓x_pt11, ↓x_plI, ↓x_plB, ↓x_plS, ↓x_in2, ↓x_in3, ↓x_sl1T, ↓x_sl1L, ↓x_slS, ↓x_tuL, ↓x_tuT, ↓x_enumD, ↓x_iAsc, ↓x_eq0T, ↓x_eq0L, ↓x_mulT, ↓x_pu0, ↓x_pu1, ↓x_pu2, ↓x_pu3, ↓x_pu4, ↓x_pu5, ↓x_pu6, ↓x_pu7, ↓x_pu8, ↓x_pu9, ↓x_pu10, ↓x_pu11, ↓x_isB, ↓x_isNB, ↓x_nonD, ↓x_in4, ↓x_nin4, ↓x_nin2, ↓x_tupRg, ↓x_lstRg, ↓x_g_LIMIT, ↓x_g_MAX_CHOICES, ↓x_g_MAX_DEPTH, ↓x_g_MAX_ORDER, ↓x_g_MAX_TEXT, ↓x_g_TESTS, List.cons_append, List.nil_append, List.replicate_succ, List.replicate_zero, List.set_cons_zero, List.set_cons_succ, List.getElem?_cons_zero, List.getElem?_cons_succ, decide_eq_true_eq, Bool.false_eq_true, Bool.true_eq_false, ↓reduceIte, Bool.not_true, Bool.not_false, decide_true, decide_false, isTy, isTyK, kindD, PySem.sizeLine_eq, List.length_cons, List.length_nil, true_and, and_true, true_implies, Bool.not_eq_true', decide_eq_false_iff_not, Nat.reduceAdd, Nat.reduceLeDiff, Nat.reduceLT, Int.reduceAdd, Int.reduceSub, Int.reduceLT, Int.reduceLE, Int.reduceNeg, Int.reduceEq, Nat.reduceEqDiff, not_true_eq_false, not_false_eq_true]
    exact hQ
  | succ k =>
  obtain ⟨n, rfl⟩ : ∃ m, n = m + 1 := ⟨n - 1, by omega⟩
  have e0 : ¬ ((k + 1 : Nat) : Int) = 0 := by omega
  have e1 : ((k + 1 : Nat) : Int) - 1 = (k : Int) := by omega
  cases x with
  | tuple xs =>
    have hz' : szAll xs + 3 ≤ 1000000 := hz
    have hl := sz_len xs
    cases xs with
    | nil =>
      rw [within_bad (by simp)] at hQ
      simp only [b_is_within, e0, ↓x_fnD, ↓x_skip, ↓x_seq, ↓x_brk, ↓x_cnt, ↓x_exp, ↓x_ret, ↓x_retN, ↓x_ifS, ↓x_set, ↓x_asg, ↓x_own, ↓x_fLst, ↓x_tape, ↓x_C, ↓x_op, ↓x_un, ↓x_test, ↓x_and, ↓x_or, ↓x_not, ↓x_if, ↓x_dnil, ↓x_dcons, ↓x_anil, ↓x_acons, ↓x_tup, ↓x_lst, ↓x_call, ↓x_fn, ↓x_isi, ↓x_new, ↓x_gN, ↓x_yes, ↓x_for, ↓x_iData, ↓x_iRg1, ↓x_oNo, ↓x_oSome, ↓x_sl, ↓x_mD1, ↓x_mD2, ↓x_mD3, ↓x_mD4, ↓x_mD5, ↓x_mT0, ↓x_mT1, ↓x_mT2, ↓x_mT3, ↓x_mT4, ↓x_eqI, ↓x_eqS, ↓x_eqB, ↓x_eqIS, ↓x_eqSI, ↓x_eqNN, ↓x_eqNI, ↓x_eqIN, ↓x_eqNS, ↓x_eqSN, ↓x_neI, ↓x_neS, ↓x_neB, ↓x_ltI, ↓x_ltS, ↓x_leI, ↓x_leS, ↓x_gtI, ↓x_gtS, ↓x_geI, ↓x_geS, ↓x_isN, ↓x_notN, ↓x_nonN, ↓x_nonI, ↓x_nonB, ↓x_nonS, ↓x_nonT, ↓x_nonL, ↓x_addI, ↓x_addS, ↓x_addT, ↓x_addL, ↓x_subI, ↓x_negI, ↓x_mulI, ↓x_mulS, ↓x_mulL, ↓x_modI, ↓x_divI, ↓x_powI, ↓x_lenL, ↓x_lenT, ↓x_lenS, ↓x_max2, ↓x_min2, ↓x_int1I, ↓x_int1B, ↓x_listL, ↓x_listT, ↓x_listS, ↓x_itL, ↓x_itT, ↓x_itS, ↓x_ixL0, ↓x_ixT0, ↓x_ixT1, ↓x_ixL1, ↓x_ixT2, ↓x_ixL2, ↓x_ixT3, ↓x_ixT4, ↓x_ixT5, ↓x_lc, ↓x_wipe0, ↓x_wipe1, ↓x_join, ↓x_gT, ↓x_gsN, ↓x_gsC, ↓x_notV, ↓x_andV, ↓x_orV, ↓x_chain, ↓x_tape1, ↓x_v0, ↓x_st0, ↓x_ap0, ↓x_io0, ↓x_lo0, ↓x_ro0, ↓x_v1, ↓x_st1, ↓x_ap1, ↓x_io1, ↓x_lo1, ↓x_ro1, ↓x_v2, ↓x_st2, ↓x_ap2, ↓x_io2, ↓x_lo2, ↓x_ro2, ↓x_v3, ↓x_st3, ↓x_ap3, ↓x_io3, ↓x_lo3, ↓x_ro3, ↓x_v4, ↓x_st4, ↓x_ap4, ↓x_io4, ↓x_lo4, ↓x_ro4, ↓x_v5, ↓x_st5, ↓x_ap5, ↓x_io5, ↓x_lo5, ↓x_ro5, ↓x_v6, ↓x_st6, ↓x_ap6, ↓x_io6, ↓x_lo6, ↓x_ro6, ↓x_v7, ↓x_st7, ↓x_ap7, ↓x_io7, ↓x_lo7, ↓x_ro7, ↓x_v8, ↓x_st8, ↓x_ap8, ↓x_io8, ↓x_lo8, ↓x_ro8, ↓x_v9, ↓x_st9, ↓x_ap9, ↓x_io9, ↓x_lo9, ↓x_ro9, ↓x_v10, ↓x_st10, ↓x_ap10, ↓x_io10, ↓x_lo10, ↓x_ro10, ↓x_v11, ↓x_st11, ↓x_ap11, ↓x_io11, ↓x_lo11, ↓x_ro11, ↓x_v12, ↓x_v13, ↓x_v14, ↓x_v15, ↓x_ss0, ↓x_ls0, ↓x_subII, ↓x_subBB, ↓x_repr, ↓x_sw, ↓x_M1, ↓x_par, ↓x_gSt1, ↓x_gSt3, ↓x_fo0, ↓x_fd0, ↓x_po0, ↓x_pt0, ↓x_fo1, ↓x_fd1, ↓x_po1, ↓x_pt1, ↓x_fo2, ↓x_fd2, ↓x_po2, ↓x_pt2, ↓x_fo3, ↓x_fd3, ↓x_po3, ↓x_pt3, ↓x_fo4, ↓x_fd4, ↓x_po4, ↓x_pt4, ↓x_fo5, ↓x_fd5, ↓x_po5, ↓x_pt5, ↓x_fo6, ↓x_fd6, ↓x_po6, ↓x_pt6, ↓x_fo7, ↓x_fd7, ↓x_po7, ↓x_pt7, ↓x_fo8, ↓x_fd8, ↓x_po8, ↓x_pt8, ↓x_fo9, ↓x_fd9, ↓x_po9, ↓x_pt9, ↓x_fo10, ↓x_fd10, ↓x_po10, ↓x_pt10, ↓x_fo11, ↓x_fd11, ↓x_po11, ↓x_pt11, ↓x_plI, ↓x_plB, ↓x_plS, ↓x_in2, ↓x_in3, ↓x_sl1T, ↓x_sl1L, ↓x_slS, ↓x_tuL, ↓x_tuT, ↓x_enumD, ↓x_iAsc, ↓x_eq0T, ↓x_eq0L, ↓x_mulT, ↓x_pu0, ↓x_pu1, ↓x_pu2, ↓x_pu3, ↓x_pu4, ↓x_pu5, ↓x_pu6, ↓x_pu7, ↓x_pu8, ↓x_pu9, ↓x_pu10, ↓x_pu11, ↓x_isB, ↓x_isNB, ↓x_nonD, ↓x_in4, ↓x_nin4, ↓x_nin2, ↓x_tupRg, ↓x_lstRg, ↓x_g_LIMIT, ↓x_g_MAX_CHOICES, ↓x_g_MAX_DEPTH, ↓x_g_MAX_ORDER, ↓x_g_MAX_TEXT, ↓x_g_TESTS, List.cons_append, List.nil_append, List.replicate_succ, List.replicate_zero, List.set_cons_zero, List.set_cons_succ, List.getElem?_cons_zero, List.getElem?_cons_succ, decide_eq_true_eq, Bool.false_eq_true, Bool.true_eq_false, ↓reduceIte, Bool.not_true, Bool.not_false, decide_true, decide_false, isTy, isTyK, kindD, PySem.sizeLine_eq, List.length_cons, List.length_nil, true_and, and_true, true_implies, Bool.not_eq_true', decide_eq_false_iff_not, Nat.reduceAdd, Nat.reduceLeDiff, Nat.reduceLT, Int.reduceAdd, Int.reduceSub, Int.reduceLT, Int.reduceLE, Int.reduceNeg, Int.reduceEq, Nat.reduceEqDiff, not_true_eq_false, not_false_eq_true]
      simpa using hQ
    | cons p ps =>
      cases p with
      | str s =>
        have hl' : 2 * (ps.length + 1) ≤ szAll (PyData.str s :: ps) := hl
        rw [within_str] at hQ
        simp only [b_is_within, e0, e1, ↓x_fnD, ↓x_skip, ↓x_seq, ↓x_brk, ↓x_cnt, ↓x_exp, ↓x_ret, ↓x_retN, ↓x_ifS, ↓x_set, ↓x_asg, ↓x_own, ↓x_fLst, ↓x_tape, ↓x_C, ↓x_op, ↓x_un, ↓x_test, ↓x_and, ↓x_or, ↓x_not, ↓x_if, ↓x_dnil, ↓x_dcons, ↓x_anil, ↓x_acons, ↓x_tup, ↓x_lst, ↓x_call, ↓x_fn, ↓x_isi, ↓x_new, ↓x_gN, ↓x_yes, ↓x_for, ↓x_iData, ↓x_iRg1, ↓x_oNo, ↓x_oSome, ↓x_sl, ↓x_mD1, ↓x_mD2, ↓x_mD3, ↓x_mD4, ↓x_mD5, ↓x_mT0, ↓x_mT1, ↓x_mT2, ↓x_mT3, ↓x_mT4, ↓x_eqI, ↓x_eqS, ↓x_eqB, ↓x_eqIS, ↓x_eqSI, ↓x_eqNN, ↓x_eqNI, ↓x_eqIN, ↓x_eqNS, ↓x_eqSN, ↓x_neI, ↓x_neS, ↓x_neB, ↓x_ltI, ↓x_ltS, ↓x_leI, ↓x_leS, ↓x_gtI, ↓x_gtS, ↓x_geI, ↓x_geS, ↓x_isN, ↓x_notN, ↓x_nonN, ↓x_nonI, ↓x_nonB, ↓x_nonS, ↓x_nonT, ↓x_nonL, ↓x_addI, ↓x_addS, ↓x_addT, ↓x_addL, ↓x_subI, ↓x_negI, ↓x_mulI, ↓x_mulS, ↓x_mulL, ↓x_modI, ↓x_divI, ↓x_powI, ↓x_lenL, ↓x_lenT, ↓x_lenS, ↓x_max2, ↓x_min2, ↓x_int1I, ↓x_int1B, ↓x_listL, ↓x_listT, ↓x_listS, ↓x_itL, ↓x_itT, ↓x_itS, ↓x_ixL0, ↓x_ixT0, ↓x_ixT1, ↓x_ixL1, ↓x_ixT2, ↓x_ixL2, ↓x_ixT3, ↓x_ixT4, ↓x_ixT5, ↓x_lc, ↓x_wipe0, ↓x_wipe1, ↓x_join, ↓x_gT, ↓x_gsN, ↓x_gsC, ↓x_notV, ↓x_andV, ↓x_orV, ↓x_chain, ↓x_tape1, ↓x_v0, ↓x_st0, ↓x_ap0, ↓x_io0, ↓x_lo0, ↓x_ro0, ↓x_v1, ↓x_st1, ↓x_ap1, ↓x_io1, ↓x_lo1, ↓x_ro1, ↓x_v2, ↓x_st2, ↓x_ap2, ↓x_io2, ↓x_lo2, ↓x_ro2, ↓x_v3, ↓x_st3, ↓x_ap3, ↓x_io3, ↓x_lo3, ↓x_ro3, ↓x_v4, ↓x_st4, ↓x_ap4, ↓x_io4, ↓x_lo4, ↓x_ro4, ↓x_v5, ↓x_st5, ↓x_ap5, ↓x_io5, ↓x_lo5, ↓x_ro5, ↓x_v6, ↓x_st6, ↓x_ap6, ↓x_io6, ↓x_lo6, ↓x_ro6, ↓x_v7, ↓x_st7, ↓x_ap7, ↓x_io7, ↓x_lo7, ↓x_ro7, ↓x_v8, ↓x_st8, ↓x_ap8, ↓x_io8, ↓x_lo8, ↓x_ro8, ↓x_v9, ↓x_st9, ↓x_ap9, ↓x_io9, ↓x_lo9, ↓x_ro9, ↓x_v10, ↓x_st10, ↓x_ap10, ↓x_io10, ↓x_lo10, ↓x_ro10, ↓x_v11, ↓x_st11, ↓x_ap11, ↓x_io11, ↓x_lo11, ↓x_ro11, ↓x_v12, ↓x_v13, ↓x_v14, ↓x_v15, ↓x_ss0, ↓x_ls0, ↓x_subII, ↓x_subBB, ↓x_repr, ↓x_sw, ↓x_M1, ↓x_par, ↓x_gSt1, ↓x_gSt3, ↓x_fo0, ↓x_fd0, ↓x_po0, ↓x_pt0, ↓x_fo1, ↓x_fd1, ↓x_po1, ↓x_pt1, ↓x_fo2, ↓x_fd2, ↓x_po2, ↓x_pt2, ↓x_fo3, ↓x_fd3, ↓x_po3, ↓x_pt3, ↓x_fo4, ↓x_fd4, ↓x_po4, ↓x_pt4, ↓x_fo5, ↓x_fd5, ↓x_po5, ↓x_pt5, ↓x_fo6, ↓x_fd6, ↓x_po6, ↓x_pt6, ↓x_fo7, ↓x_fd7, ↓x_po7, ↓x_pt7, ↓x_fo8, ↓x_fd8, ↓x_po8, ↓x_pt8, ↓x_fo9, ↓x_fd9, ↓x_po9, ↓x_pt9, ↓x_fo10, ↓x_fd10, ↓x_po10, ↓x_pt10, ↓x_fo11, ↓x_fd11, ↓x_po11, ↓x_pt11, ↓x_plI, ↓x_plB, ↓x_plS, ↓x_in2, ↓x_in3, ↓x_sl1T, ↓x_sl1L, ↓x_slS, ↓x_tuL, ↓x_tuT, ↓x_enumD, ↓x_iAsc, ↓x_eq0T, ↓x_eq0L, ↓x_mulT, ↓x_pu0, ↓x_pu1, ↓x_pu2, ↓x_pu3, ↓x_pu4, ↓x_pu5, ↓x_pu6, ↓x_pu7, ↓x_pu8, ↓x_pu9, ↓x_pu10, ↓x_pu11, ↓x_isB, ↓x_isNB, ↓x_nonD, ↓x_in4, ↓x_nin4, ↓x_nin2, ↓x_tupRg, ↓x_lstRg, ↓x_g_LIMIT, ↓x_g_MAX_CHOICES, ↓x_g_MAX_DEPTH, ↓x_g_MAX_ORDER, ↓x_g_MAX_TEXT, ↓x_g_TESTS, List.cons_append, List.nil_append, List.replicate_succ, List.replicate_zero, List.set_cons_zero, List.set_cons_succ, List.getElem?_cons_zero, List.getElem?_cons_succ, decide_eq_true_eq, Bool.false_eq_true, Bool.true_eq_false, ↓reduceIte, Bool.not_true, Bool.not_false, decide_true, decide_false, isTy, isTyK, kindD, PySem.sizeLine_eq, List.length_cons, List.length_nil, true_and, and_true, true_implies, Bool.not_eq_true', decide_eq_false_iff_not, Nat.reduceAdd, Nat.reduceLeDiff, Nat.reduceLT, Int.reduceAdd, Int.reduceSub, Int.reduceLT, Int.reduceLE, Int.reduceNeg, Int.reduceEq, Nat.reduceEqDiff, not_true_eq_false, not_false_eq_true, List.isEmpty_cons, Bool.false_eq_true, Bool.true_eq_false, if_false]
        rw [in4_iff, in2_iff]
        simp only [decide_eq_true_eq]
        by_cases k1 : s = "equal" ∨ s = "less" ∨ s = "starts" ∨ s = "one_of"
        · rw [if_pos k1] at hQ ⊢
          rcases ps with _ | ⟨c, _ | ⟨o, _ | ⟨e, ps⟩⟩⟩
          · exact hQ
          · exact hQ
          · exact ⟨w, s, c, o, rfl, rfl, hz, hQ⟩
          · rw [decide_eq_false (by simp only [List.length_cons]; omega)]
            exact hQ
        rw [if_neg k1] at hQ ⊢
        by_cases k2 : s = "not"
        · rw [if_pos k2] at hQ ⊢
          rcases ps with _ | ⟨c, _ | ⟨o, ps⟩⟩
          · exact hQ
          · have hc : szD c + 2 ≤ _ := sz_mem (show c ∈ [PyData.str s, c] by simp)
            simp only [List.length_cons, List.length_nil, ↓x_fnD, ↓x_skip, ↓x_seq, ↓x_brk, ↓x_cnt, ↓x_exp, ↓x_ret, ↓x_retN, ↓x_ifS, ↓x_set, ↓x_asg, ↓x_own, ↓x_fLst, ↓x_tape, ↓x_C, ↓x_op, ↓x_un, ↓x_test, ↓x_and, ↓x_or, ↓x_not, ↓x_if, ↓x_dnil, ↓x_dcons, ↓x_anil, ↓x_acons, ↓x_tup, ↓x_lst, ↓x_call, ↓x_fn, ↓x_isi, ↓x_new, ↓x_gN, ↓x_yes, ↓x_for, ↓x_iData, ↓x_iRg1, ↓x_oNo, ↓x_oSome, ↓x_sl, ↓x_mD1, ↓x_mD2, ↓x_mD3, ↓x_mD4, ↓x_mD5, ↓x_mT0, ↓x_mT1, ↓x_mT2, ↓x_mT3, ↓x_mT4, ↓x_eqI, ↓x_eqS, ↓x_eqB, ↓x_eqIS, ↓x_eqSI, ↓x_eqNN, ↓x_eqNI, ↓x_eqIN, ↓x_eqNS, ↓x_eqSN, ↓x_neI, ↓x_neS, ↓x_neB, ↓x_ltI, ↓x_ltS, ↓x_leI, ↓x_leS, ↓x_gtI, ↓x_gtS, ↓x_geI, ↓x_geS, ↓x_isN, ↓x_notN, ↓x_nonN, ↓x_nonI, ↓x_nonB, ↓x_nonS, ↓x_nonT, ↓x_nonL, ↓x_addI, ↓x_addS, ↓x_addT, ↓x_addL, ↓x_subI, ↓x_negI, ↓x_mulI, ↓x_mulS, ↓x_mulL, ↓x_modI, ↓x_divI, ↓x_powI, ↓x_lenL, ↓x_lenT, ↓x_lenS, ↓x_max2, ↓x_min2, ↓x_int1I, ↓x_int1B, ↓x_listL, ↓x_listT, ↓x_listS, ↓x_itL, ↓x_itT, ↓x_itS, ↓x_ixL0, ↓x_ixT0, ↓x_ixT1, ↓x_ixL1, ↓x_ixT2, ↓x_ixL2, ↓x_ixT3, ↓x_ixT4, ↓x_ixT5, ↓x_lc, ↓x_wipe0, ↓x_wipe1, ↓x_join, ↓x_gT, ↓x_gsN, ↓x_gsC, ↓x_notV, ↓x_andV, ↓x_orV, ↓x_chain, ↓x_tape1, ↓x_v0, ↓x_st0, ↓x_ap0, ↓x_io0, ↓x_lo0, ↓x_ro0, ↓x_v1, ↓x_st1, ↓x_ap1, ↓x_io1, ↓x_lo1, ↓x_ro1, ↓x_v2, ↓x_st2, ↓x_ap2, ↓x_io2, ↓x_lo2, ↓x_ro2, ↓x_v3, ↓x_st3, ↓x_ap3, ↓x_io3, ↓x_lo3, ↓x_ro3, ↓x_v4, ↓x_st4, ↓x_ap4, ↓x_io4, ↓x_lo4, ↓x_ro4, ↓x_v5, ↓x_st5, ↓x_ap5, ↓x_io5, ↓x_lo5, ↓x_ro5, ↓x_v6, ↓x_st6, ↓x_ap6, ↓x_io6, ↓x_lo6, ↓x_ro6, ↓x_v7, ↓x_st7, ↓x_ap7, ↓x_io7, ↓x_lo7, ↓x_ro7, ↓x_v8, ↓x_st8, ↓x_ap8, ↓x_io8, ↓x_lo8, ↓x_ro8, ↓x_v9, ↓x_st9, ↓x_ap9, ↓x_io9, ↓x_lo9, ↓x_ro9, ↓x_v10, ↓x_st10, ↓x_ap10, ↓x_io10, ↓x_lo10, ↓x_ro10, ↓x_v11, ↓x_st11, ↓x_ap11, ↓x_io11, ↓x_lo11, ↓x_ro11, ↓x_v12, ↓x_v13, ↓x_v14, ↓x_v15, ↓x_ss0, ↓x_ls0, ↓x_subII, ↓x_subBB, ↓x_repr, ↓x_sw, ↓x_M1, ↓x_par, ↓x_gSt1, ↓x_gSt3, ↓x_fo0, ↓x_fd0, ↓x_po0, ↓x_pt0, ↓x_fo1, ↓x_fd1, ↓x_po1, ↓x_pt1, ↓x_fo2, ↓x_fd2, ↓x_po2, ↓x_pt2, ↓x_fo3, ↓x_fd3, ↓x_po3, ↓x_pt3, ↓x_fo4, ↓x_fd4, ↓x_po4, ↓x_pt4, ↓x_fo5, ↓x_fd5, ↓x_po5, ↓x_pt5, ↓x_fo6, ↓x_fd6, ↓x_po6, ↓x_pt6, ↓x_fo7, ↓x_fd7, ↓x_po7, ↓x_pt7, ↓x_fo8, ↓x_fd8, ↓x_po8, ↓x_pt8, ↓x_fo9, ↓x_fd9, ↓x_po9, ↓x_pt9, ↓x_fo10, ↓x_fd10, ↓x_po10, ↓x_pt10, ↓x_fo11, ↓x_fd11, ↓x_po11, ↓x_pt11, ↓x_plI, ↓x_plB, ↓x_plS, ↓x_in2, ↓x_in3, ↓x_sl1T, ↓x_sl1L, ↓x_slS, ↓x_tuL, ↓x_tuT, ↓x_enumD, ↓x_iAsc, ↓x_eq0T, ↓x_eq0L, ↓x_mulT, ↓x_pu0, ↓x_pu1, ↓x_pu2, ↓x_pu3, ↓x_pu4, ↓x_pu5, ↓x_pu6, ↓x_pu7, ↓x_pu8, ↓x_pu9, ↓x_pu10, ↓x_pu11, ↓x_isB, ↓x_isNB, ↓x_nonD, ↓x_in4, ↓x_nin4, ↓x_nin2, ↓x_tupRg, ↓x_lstRg, ↓x_g_LIMIT, ↓x_g_MAX_CHOICES, ↓x_g_MAX_DEPTH, ↓x_g_MAX_ORDER, ↓x_g_MAX_TEXT, ↓x_g_TESTS, List.cons_append, List.nil_append, List.replicate_succ, List.replicate_zero, List.set_cons_zero, List.set_cons_succ, List.getElem?_cons_zero, List.getElem?_cons_succ, decide_eq_true_eq, Bool.false_eq_true, Bool.true_eq_false, ↓reduceIte, Bool.not_true, Bool.not_false, decide_true, decide_false, isTy, isTyK, kindD, PySem.sizeLine_eq, List.length_cons, List.length_nil, true_and, and_true, true_implies, Bool.not_eq_true', decide_eq_false_iff_not, Nat.reduceAdd, Nat.reduceLeDiff, Nat.reduceLT, Int.reduceAdd, Int.reduceSub, Int.reduceLT, Int.reduceLE, Int.reduceNeg, Int.reduceEq, Nat.reduceEqDiff, not_true_eq_false, not_false_eq_true]
            exact ⟨w, k, rfl, rfl, by omega, by omega, by omega, hQ⟩
          · rw [decide_eq_false (by simp only [List.length_cons]; omega)]
            exact hQ
        rw [if_neg k2] at hQ ⊢
        by_cases k3 : s = "and" ∨ s = "or"
        · rw [if_pos k3] at hQ ⊢
          rcases ps with _ | ⟨c, _ | ⟨o, _ | ⟨e, ps⟩⟩⟩
          · exact hQ
          · exact hQ
          · have hc : szD c + 2 ≤ _ := sz_mem (show c ∈ [PyData.str s, c, o] by simp)
            have ho : szD o + 2 ≤ _ := sz_mem (show o ∈ [PyData.str s, c, o] by simp)
            simp only [List.length_cons, List.length_nil, ↓x_fnD, ↓x_skip, ↓x_seq, ↓x_brk, ↓x_cnt, ↓x_exp, ↓x_ret, ↓x_retN, ↓x_ifS, ↓x_set, ↓x_asg, ↓x_own, ↓x_fLst, ↓x_tape, ↓x_C, ↓x_op, ↓x_un, ↓x_test, ↓x_and, ↓x_or, ↓x_not, ↓x_if, ↓x_dnil, ↓x_dcons, ↓x_anil, ↓x_acons, ↓x_tup, ↓x_lst, ↓x_call, ↓x_fn, ↓x_isi, ↓x_new, ↓x_gN, ↓x_yes, ↓x_for, ↓x_iData, ↓x_iRg1, ↓x_oNo, ↓x_oSome, ↓x_sl, ↓x_mD1, ↓x_mD2, ↓x_mD3, ↓x_mD4, ↓x_mD5, ↓x_mT0, ↓x_mT1, ↓x_mT2, ↓x_mT3, ↓x_mT4, ↓x_eqI, ↓x_eqS, ↓x_eqB, ↓x_eqIS, ↓x_eqSI, ↓x_eqNN, ↓x_eqNI, ↓x_eqIN, ↓x_eqNS, ↓x_eqSN, ↓x_neI, ↓x_neS, ↓x_neB, ↓x_ltI, ↓x_ltS, ↓x_leI, ↓x_leS, ↓x_gtI, ↓x_gtS, ↓x_geI, ↓x_geS, ↓x_isN, ↓x_notN, ↓x_nonN, ↓x_nonI, ↓x_nonB, ↓x_nonS, ↓x_nonT, ↓x_nonL, ↓x_addI, ↓x_addS, ↓x_addT, ↓x_addL, ↓x_subI, ↓x_negI, ↓x_mulI, ↓x_mulS, ↓x_mulL, ↓x_modI, ↓x_divI, ↓x_powI, ↓x_lenL, ↓x_lenT, ↓x_lenS, ↓x_max2, ↓x_min2, ↓x_int1I, ↓x_int1B, ↓x_listL, ↓x_listT, ↓x_listS, ↓x_itL, ↓x_itT, ↓x_itS, ↓x_ixL0, ↓x_ixT0, ↓x_ixT1, ↓x_ixL1, ↓x_ixT2, ↓x_ixL2, ↓x_ixT3, ↓x_ixT4, ↓x_ixT5, ↓x_lc, ↓x_wipe0, ↓x_wipe1, ↓x_join, ↓x_gT, ↓x_gsN, ↓x_gsC, ↓x_notV, ↓x_andV, ↓x_orV, ↓x_chain, ↓x_tape1, ↓x_v0, ↓x_st0, ↓x_ap0, ↓x_io0, ↓x_lo0, ↓x_ro0, ↓x_v1, ↓x_st1, ↓x_ap1, ↓x_io1, ↓x_lo1, ↓x_ro1, ↓x_v2, ↓x_st2, ↓x_ap2, ↓x_io2, ↓x_lo2, ↓x_ro2, ↓x_v3, ↓x_st3, ↓x_ap3, ↓x_io3, ↓x_lo3, ↓x_ro3, ↓x_v4, ↓x_st4, ↓x_ap4, ↓x_io4, ↓x_lo4, ↓x_ro4, ↓x_v5, ↓x_st5, ↓x_ap5, ↓x_io5, ↓x_lo5, ↓x_ro5, ↓x_v6, ↓x_st6, ↓x_ap6, ↓x_io6, ↓x_lo6, ↓x_ro6, ↓x_v7, ↓x_st7, ↓x_ap7, ↓x_io7, ↓x_lo7, ↓x_ro7, ↓x_v8, ↓x_st8, ↓x_ap8, ↓x_io8, ↓x_lo8, ↓x_ro8, ↓x_v9, ↓x_st9, ↓x_ap9, ↓x_io9, ↓x_lo9, ↓x_ro9, ↓x_v10, ↓x_st10, ↓x_ap10, ↓x_io10, ↓x_lo10, ↓x_ro10, ↓x_v11, ↓x_st11, ↓x_ap11, ↓x_io11, ↓x_lo11, ↓x_ro11, ↓x_v12, ↓x_v13, ↓x_v14, ↓x_v15, ↓x_ss0, ↓x_ls0, ↓x_subII, ↓x_subBB, ↓x_repr, ↓x_sw, ↓x_M1, ↓x_par, ↓x_gSt1, ↓x_gSt3, ↓x_fo0, ↓x_fd0, ↓x_po0, ↓x_pt0, ↓x_fo1, ↓x_fd1, ↓x_po1, ↓x_pt1, ↓x_fo2, ↓x_fd2, ↓x_po2, ↓x_pt2, ↓x_fo3, ↓x_fd3, ↓x_po3, ↓x_pt3, ↓x_fo4, ↓x_fd4, ↓x_po4, ↓x_pt4, ↓x_fo5, ↓x_fd5, ↓x_po5, ↓x_pt5, ↓x_fo6, ↓x_fd6, ↓x_po6, ↓x_pt6, ↓x_fo7, ↓x_fd7, ↓x_po7, ↓x_pt7, ↓x_fo8, ↓x_fd8, ↓x_po8, ↓x_pt8, ↓x_fo9, ↓x_fd9, ↓x_po9, ↓x_pt9, ↓x_fo10, ↓x_fd10, ↓x_po10, ↓x_pt10, ↓x_fo11, ↓x_fd11, ↓x_po11, ↓x_pt11, ↓x_plI, ↓x_plB, ↓x_plS, ↓x_in2, ↓x_in3, ↓x_sl1T, ↓x_sl1L, ↓x_slS, ↓x_tuL, ↓x_tuT, ↓x_enumD, ↓x_iAsc, ↓x_eq0T, ↓x_eq0L, ↓x_mulT, ↓x_pu0, ↓x_pu1, ↓x_pu2, ↓x_pu3, ↓x_pu4, ↓x_pu5, ↓x_pu6, ↓x_pu7, ↓x_pu8, ↓x_pu9, ↓x_pu10, ↓x_pu11, ↓x_isB, ↓x_isNB, ↓x_nonD, ↓x_in4, ↓x_nin4, ↓x_nin2, ↓x_tupRg, ↓x_lstRg, ↓x_g_LIMIT, ↓x_g_MAX_CHOICES, ↓x_g_MAX_DEPTH, ↓x_g_MAX_ORDER, ↓x_g_MAX_TEXT, ↓x_g_TESTS, List.cons_append, List.nil_append, List.replicate_succ, List.replicate_zero, List.set_cons_zero, List.set_cons_succ, List.getElem?_cons_zero, List.getElem?_cons_succ, decide_eq_true_eq, Bool.false_eq_true, Bool.true_eq_false, ↓reduceIte, Bool.not_true, Bool.not_false, decide_true, decide_false, isTy, isTyK, kindD, PySem.sizeLine_eq, List.length_cons, List.length_nil, true_and, and_true, true_implies, Bool.not_eq_true', decide_eq_false_iff_not, Nat.reduceAdd, Nat.reduceLeDiff, Nat.reduceLT, Int.reduceAdd, Int.reduceSub, Int.reduceLT, Int.reduceLE, Int.reduceNeg, Int.reduceEq, Nat.reduceEqDiff, not_true_eq_false, not_false_eq_true]
            show dLcL _ _ _ _ _ _ _
            refine lc_map (fun d => .bool (withinB w k d)) _ [] (fun d hd N hN => ?_) ?_
            · have hd' : szD d + 2 ≤ szAll [PyData.str s, c, o] := sz_mem (List.mem_cons_of_mem _ hd)
              simp only [e1, ↓x_fnD, ↓x_skip, ↓x_seq, ↓x_brk, ↓x_cnt, ↓x_exp, ↓x_ret, ↓x_retN, ↓x_ifS, ↓x_set, ↓x_asg, ↓x_own, ↓x_fLst, ↓x_tape, ↓x_C, ↓x_op, ↓x_un, ↓x_test, ↓x_and, ↓x_or, ↓x_not, ↓x_if, ↓x_dnil, ↓x_dcons, ↓x_anil, ↓x_acons, ↓x_tup, ↓x_lst, ↓x_call, ↓x_fn, ↓x_isi, ↓x_new, ↓x_gN, ↓x_yes, ↓x_for, ↓x_iData, ↓x_iRg1, ↓x_oNo, ↓x_oSome, ↓x_sl, ↓x_mD1, ↓x_mD2, ↓x_mD3, ↓x_mD4, ↓x_mD5, ↓x_mT0, ↓x_mT1, ↓x_mT2, ↓x_mT3, ↓x_mT4, ↓x_eqI, ↓x_eqS, ↓x_eqB, ↓x_eqIS, ↓x_eqSI, ↓x_eqNN, ↓x_eqNI, ↓x_eqIN, ↓x_eqNS, ↓x_eqSN, ↓x_neI, ↓x_neS, ↓x_neB, ↓x_ltI, ↓x_ltS, ↓x_leI, ↓x_leS, ↓x_gtI, ↓x_gtS, ↓x_geI, ↓x_geS, ↓x_isN, ↓x_notN, ↓x_nonN, ↓x_nonI, ↓x_nonB, ↓x_nonS, ↓x_nonT, ↓x_nonL, ↓x_addI, ↓x_addS, ↓x_addT, ↓x_addL, ↓x_subI, ↓x_negI, ↓x_mulI, ↓x_mulS, ↓x_mulL, ↓x_modI, ↓x_divI, ↓x_powI, ↓x_lenL, ↓x_lenT, ↓x_lenS, ↓x_max2, ↓x_min2, ↓x_int1I, ↓x_int1B, ↓x_listL, ↓x_listT, ↓x_listS, ↓x_itL, ↓x_itT, ↓x_itS, ↓x_ixL0, ↓x_ixT0, ↓x_ixT1, ↓x_ixL1, ↓x_ixT2, ↓x_ixL2, ↓x_ixT3, ↓x_ixT4, ↓x_ixT5, ↓x_lc, ↓x_wipe0, ↓x_wipe1, ↓x_join, ↓x_gT, ↓x_gsN, ↓x_gsC, ↓x_notV, ↓x_andV, ↓x_orV, ↓x_chain, ↓x_tape1, ↓x_v0, ↓x_st0, ↓x_ap0, ↓x_io0, ↓x_lo0, ↓x_ro0, ↓x_v1, ↓x_st1, ↓x_ap1, ↓x_io1, ↓x_lo1, ↓x_ro1, ↓x_v2, ↓x_st2, ↓x_ap2, ↓x_io2, ↓x_lo2, ↓x_ro2, ↓x_v3, ↓x_st3, ↓x_ap3, ↓x_io3, ↓x_lo3, ↓x_ro3, ↓x_v4, ↓x_st4, ↓x_ap4, ↓x_io4, ↓x_lo4, ↓x_ro4, ↓x_v5, ↓x_st5, ↓x_ap5, ↓x_io5, ↓x_lo5, ↓x_ro5, ↓x_v6, ↓x_st6, ↓x_ap6, ↓x_io6, ↓x_lo6, ↓x_ro6, ↓x_v7, ↓x_st7, ↓x_ap7, ↓x_io7, ↓x_lo7, ↓x_ro7, ↓x_v8, ↓x_st8, ↓x_ap8, ↓x_io8, ↓x_lo8, ↓x_ro8, ↓x_v9, ↓x_st9, ↓x_ap9, ↓x_io9, ↓x_lo9, ↓x_ro9, ↓x_v10, ↓x_st10, ↓x_ap10, ↓x_io10, ↓x_lo10, ↓x_ro10, ↓x_v11, ↓x_st11, ↓x_ap11, ↓x_io11, ↓x_lo11, ↓x_ro11, ↓x_v12, ↓x_v13, ↓x_v14, ↓x_v15, ↓x_ss0, ↓x_ls0, ↓x_subII, ↓x_subBB, ↓x_repr, ↓x_sw, ↓x_M1, ↓x_par, ↓x_gSt1, ↓x_gSt3, ↓x_fo0, ↓x_fd0, ↓x_po0, ↓x_pt0, ↓x_fo1, ↓x_fd1, ↓x_po1, ↓x_pt1, ↓x_fo2, ↓x_fd2, ↓x_po2, ↓x_pt2, ↓x_fo3, ↓x_fd3, ↓x_po3, ↓x_pt3, ↓x_fo4, ↓x_fd4, ↓x_po4, ↓x_pt4, ↓x_fo5, ↓x_fd5, ↓x_po5, ↓x_pt5, ↓x_fo6, ↓x_fd6, ↓x_po6, ↓x_pt6, ↓x_fo7, ↓x_fd7, ↓x_po7, ↓x_pt7, ↓x_fo8, ↓x_fd8, ↓x_po8, ↓x_pt8, ↓x_fo9, ↓x_fd9, ↓x_po9, ↓x_pt9, ↓x_fo10, ↓x_fd10, ↓x_po10, ↓x_pt10, ↓x_fo11, ↓x_fd11, ↓x_po11, ↓x_pt11, ↓x_plI, ↓x_plB, ↓x_plS, ↓x_in2, ↓x_in3, ↓x_sl1T, ↓x_sl1L, ↓x_slS, ↓x_tuL, ↓x_tuT, ↓x_enumD, ↓x_iAsc, ↓x_eq0T, ↓x_eq0L, ↓x_mulT, ↓x_pu0, ↓x_pu1, ↓x_pu2, ↓x_pu3, ↓x_pu4, ↓x_pu5, ↓x_pu6, ↓x_pu7, ↓x_pu8, ↓x_pu9, ↓x_pu10, ↓x_pu11, ↓x_isB, ↓x_isNB, ↓x_nonD, ↓x_in4, ↓x_nin4, ↓x_nin2, ↓x_tupRg, ↓x_lstRg, ↓x_g_LIMIT, ↓x_g_MAX_CHOICES, ↓x_g_MAX_DEPTH, ↓x_g_MAX_ORDER, ↓x_g_MAX_TEXT, ↓x_g_TESTS, List.cons_append, List.nil_append, List.replicate_succ, List.replicate_zero, List.set_cons_zero, List.set_cons_succ, List.getElem?_cons_zero, List.getElem?_cons_succ, decide_eq_true_eq, Bool.false_eq_true, Bool.true_eq_false, ↓reduceIte, Bool.not_true, Bool.not_false, decide_true, decide_false, isTy, isTyK, kindD, PySem.sizeLine_eq, List.length_cons, List.length_nil, true_and, and_true, true_implies, Bool.not_eq_true', decide_eq_false_iff_not, Nat.reduceAdd, Nat.reduceLeDiff, Nat.reduceLT, Int.reduceAdd, Int.reduceSub, Int.reduceLT, Int.reduceLE, Int.reduceNeg, Int.reduceEq, Nat.reduceEqDiff, not_true_eq_false, not_false_eq_true]
              exact ⟨w, k, rfl, rfl, by omega, by omega, by omega, hN⟩
            · exact ⟨[withinB w k c, withinB w k o], rfl, by simpa using hQ⟩
          · rw [decide_eq_false (by simp only [List.length_cons]; omega)]
            exact hQ
        rw [if_neg k3] at hQ ⊢
        cases e3 : decide (s = "all") <;> rw [e3] at hQ
        · exact hQ
        · simpa using hQ
      | _ =>
        rw [within_bad (by simp)] at hQ
        simp only [b_is_within, e0, ↓x_fnD, ↓x_skip, ↓x_seq, ↓x_brk, ↓x_cnt, ↓x_exp, ↓x_ret, ↓x_retN, ↓x_ifS, ↓x_set, ↓x_asg, ↓x_own, ↓x_fLst, ↓x_tape, ↓x_C, ↓x_op, ↓x_un, ↓x_test, ↓x_and, ↓x_or, ↓x_not, ↓x_if, ↓x_dnil, ↓x_dcons, ↓x_anil, ↓x_acons, ↓x_tup, ↓x_lst, ↓x_call, ↓x_fn, ↓x_isi, ↓x_new, ↓x_gN, ↓x_yes, ↓x_for, ↓x_iData, ↓x_iRg1, ↓x_oNo, ↓x_oSome, ↓x_sl, ↓x_mD1, ↓x_mD2, ↓x_mD3, ↓x_mD4, ↓x_mD5, ↓x_mT0, ↓x_mT1, ↓x_mT2, ↓x_mT3, ↓x_mT4, ↓x_eqI, ↓x_eqS, ↓x_eqB, ↓x_eqIS, ↓x_eqSI, ↓x_eqNN, ↓x_eqNI, ↓x_eqIN, ↓x_eqNS, ↓x_eqSN, ↓x_neI, ↓x_neS, ↓x_neB, ↓x_ltI, ↓x_ltS, ↓x_leI, ↓x_leS, ↓x_gtI, ↓x_gtS, ↓x_geI, ↓x_geS, ↓x_isN, ↓x_notN, ↓x_nonN, ↓x_nonI, ↓x_nonB, ↓x_nonS, ↓x_nonT, ↓x_nonL, ↓x_addI, ↓x_addS, ↓x_addT, ↓x_addL, ↓x_subI, ↓x_negI, ↓x_mulI, ↓x_mulS, ↓x_mulL, ↓x_modI, ↓x_divI, ↓x_powI, ↓x_lenL, ↓x_lenT, ↓x_lenS, ↓x_max2, ↓x_min2, ↓x_int1I, ↓x_int1B, ↓x_listL, ↓x_listT, ↓x_listS, ↓x_itL, ↓x_itT, ↓x_itS, ↓x_ixL0, ↓x_ixT0, ↓x_ixT1, ↓x_ixL1, ↓x_ixT2, ↓x_ixL2, ↓x_ixT3, ↓x_ixT4, ↓x_ixT5, ↓x_lc, ↓x_wipe0, ↓x_wipe1, ↓x_join, ↓x_gT, ↓x_gsN, ↓x_gsC, ↓x_notV, ↓x_andV, ↓x_orV, ↓x_chain, ↓x_tape1, ↓x_v0, ↓x_st0, ↓x_ap0, ↓x_io0, ↓x_lo0, ↓x_ro0, ↓x_v1, ↓x_st1, ↓x_ap1, ↓x_io1, ↓x_lo1, ↓x_ro1, ↓x_v2, ↓x_st2, ↓x_ap2, ↓x_io2, ↓x_lo2, ↓x_ro2, ↓x_v3, ↓x_st3, ↓x_ap3, ↓x_io3, ↓x_lo3, ↓x_ro3, ↓x_v4, ↓x_st4, ↓x_ap4, ↓x_io4, ↓x_lo4, ↓x_ro4, ↓x_v5, ↓x_st5, ↓x_ap5, ↓x_io5, ↓x_lo5, ↓x_ro5, ↓x_v6, ↓x_st6, ↓x_ap6, ↓x_io6, ↓x_lo6, ↓x_ro6, ↓x_v7, ↓x_st7, ↓x_ap7, ↓x_io7, ↓x_lo7, ↓x_ro7, ↓x_v8, ↓x_st8, ↓x_ap8, ↓x_io8, ↓x_lo8, ↓x_ro8, ↓x_v9, ↓x_st9, ↓x_ap9, ↓x_io9, ↓x_lo9, ↓x_ro9, ↓x_v10, ↓x_st10, ↓x_ap10, ↓x_io10, ↓x_lo10, ↓x_ro10, ↓x_v11, ↓x_st11, ↓x_ap11, ↓x_io11, ↓x_lo11, ↓x_ro11, ↓x_v12, ↓x_v13, ↓x_v14, ↓x_v15, ↓x_ss0, ↓x_ls0, ↓x_subII, ↓x_subBB, ↓x_repr, ↓x_sw, ↓x_M1, ↓x_par, ↓x_gSt1, ↓x_gSt3, ↓x_fo0, ↓x_fd0, ↓x_po0, ↓x_pt0, ↓x_fo1, ↓x_fd1, ↓x_po1, ↓x_pt1, ↓x_fo2, ↓x_fd2, ↓x_po2, ↓x_pt2, ↓x_fo3, ↓x_fd3, ↓x_po3, ↓x_pt3, ↓x_fo4, ↓x_fd4, ↓x_po4, ↓x_pt4, ↓x_fo5, ↓x_fd5, ↓x_po5, ↓x_pt5, ↓x_fo6, ↓x_fd6, ↓x_po6, ↓x_pt6, ↓x_fo7, ↓x_fd7, ↓x_po7, ↓x_pt7, ↓x_fo8, ↓x_fd8, ↓x_po8, ↓x_pt8, ↓x_fo9, ↓x_fd9, ↓x_po9, ↓x_pt9, ↓x_fo10, ↓x_fd10, ↓x_po10, ↓x_pt10, ↓x_fo11, ↓x_fd11, ↓x_po11, ↓x_pt11, ↓x_plI, ↓x_plB, ↓x_plS, ↓x_in2, ↓x_in3, ↓x_sl1T, ↓x_sl1L, ↓x_slS, ↓x_tuL, ↓x_tuT, ↓x_enumD, ↓x_iAsc, ↓x_eq0T, ↓x_eq0L, ↓x_mulT, ↓x_pu0, ↓x_pu1, ↓x_pu2, ↓x_pu3, ↓x_pu4, ↓x_pu5, ↓x_pu6, ↓x_pu7, ↓x_pu8, ↓x_pu9, ↓x_pu10, ↓x_pu11, ↓x_isB, ↓x_isNB, ↓x_nonD, ↓x_in4, ↓x_nin4, ↓x_nin2, ↓x_tupRg, ↓x_lstRg, ↓x_g_LIMIT, ↓x_g_MAX_CHOICES, ↓x_g_MAX_DEPTH, ↓x_g_MAX_ORDER, ↓x_g_MAX_TEXT, ↓x_g_TESTS, List.cons_append, List.nil_append, List.replicate_succ, List.replicate_zero, List.set_cons_zero, List.set_cons_succ, List.getElem?_cons_zero, List.getElem?_cons_succ, decide_eq_true_eq, Bool.false_eq_true, Bool.true_eq_false, ↓reduceIte, Bool.not_true, Bool.not_false, decide_true, decide_false, isTy, isTyK, kindD, PySem.sizeLine_eq, List.length_cons, List.length_nil, true_and, and_true, true_implies, Bool.not_eq_true', decide_eq_false_iff_not, Nat.reduceAdd, Nat.reduceLeDiff, Nat.reduceLT, Int.reduceAdd, Int.reduceSub, Int.reduceLT, Int.reduceLE, Int.reduceNeg, Int.reduceEq, Nat.reduceEqDiff, not_true_eq_false, not_false_eq_true]
        simpa using hQ
  | _ =>
    rw [within_bad (by simp)] at hQ
    simp only [b_is_within, e0, ↓x_fnD, ↓x_skip, ↓x_seq, ↓x_brk, ↓x_cnt, ↓x_exp, ↓x_ret, ↓x_retN, ↓x_ifS, ↓x_set, ↓x_asg, ↓x_own, ↓x_fLst, ↓x_tape, ↓x_C, ↓x_op, ↓x_un, ↓x_test, ↓x_and, ↓x_or, ↓x_not, ↓x_if, ↓x_dnil, ↓x_dcons, ↓x_anil, ↓x_acons, ↓x_tup, ↓x_lst, ↓x_call, ↓x_fn, ↓x_isi, ↓x_new, ↓x_gN, ↓x_yes, ↓x_for, ↓x_iData, ↓x_iRg1, ↓x_oNo, ↓x_oSome, ↓x_sl, ↓x_mD1, ↓x_mD2, ↓x_mD3, ↓x_mD4, ↓x_mD5, ↓x_mT0, ↓x_mT1, ↓x_mT2, ↓x_mT3, ↓x_mT4, ↓x_eqI, ↓x_eqS, ↓x_eqB, ↓x_eqIS, ↓x_eqSI, ↓x_eqNN, ↓x_eqNI, ↓x_eqIN, ↓x_eqNS, ↓x_eqSN, ↓x_neI, ↓x_neS, ↓x_neB, ↓x_ltI, ↓x_ltS, ↓x_leI, ↓x_leS, ↓x_gtI, ↓x_gtS, ↓x_geI, ↓x_geS, ↓x_isN, ↓x_notN, ↓x_nonN, ↓x_nonI, ↓x_nonB, ↓x_nonS, ↓x_nonT, ↓x_nonL, ↓x_addI, ↓x_addS, ↓x_addT, ↓x_addL, ↓x_subI, ↓x_negI, ↓x_mulI, ↓x_mulS, ↓x_mulL, ↓x_modI, ↓x_divI, ↓x_powI, ↓x_lenL, ↓x_lenT, ↓x_lenS, ↓x_max2, ↓x_min2, ↓x_int1I, ↓x_int1B, ↓x_listL, ↓x_listT, ↓x_listS, ↓x_itL, ↓x_itT, ↓x_itS, ↓x_ixL0, ↓x_ixT0, ↓x_ixT1, ↓x_ixL1, ↓x_ixT2, ↓x_ixL2, ↓x_ixT3, ↓x_ixT4, ↓x_ixT5, ↓x_lc, ↓x_wipe0, ↓x_wipe1, ↓x_join, ↓x_gT, ↓x_gsN, ↓x_gsC, ↓x_notV, ↓x_andV, ↓x_orV, ↓x_chain, ↓x_tape1, ↓x_v0, ↓x_st0, ↓x_ap0, ↓x_io0, ↓x_lo0, ↓x_ro0, ↓x_v1, ↓x_st1, ↓x_ap1, ↓x_io1, ↓x_lo1, ↓x_ro1, ↓x_v2, ↓x_st2, ↓x_ap2, ↓x_io2, ↓x_lo2, ↓x_ro2, ↓x_v3, ↓x_st3, ↓x_ap3, ↓x_io3, ↓x_lo3, ↓x_ro3, ↓x_v4, ↓x_st4, ↓x_ap4, ↓x_io4, ↓x_lo4, ↓x_ro4, ↓x_v5, ↓x_st5, ↓x_ap5, ↓x_io5, ↓x_lo5, ↓x_ro5, ↓x_v6, ↓x_st6, ↓x_ap6, ↓x_io6, ↓x_lo6, ↓x_ro6, ↓x_v7, ↓x_st7, ↓x_ap7, ↓x_io7, ↓x_lo7, ↓x_ro7, ↓x_v8, ↓x_st8, ↓x_ap8, ↓x_io8, ↓x_lo8, ↓x_ro8, ↓x_v9, ↓x_st9, ↓x_ap9, ↓x_io9, ↓x_lo9, ↓x_ro9, ↓x_v10, ↓x_st10, ↓x_ap10, ↓x_io10, ↓x_lo10, ↓x_ro10, ↓x_v11, ↓x_st11, ↓x_ap11, ↓x_io11, ↓x_lo11, ↓x_ro11, ↓x_v12, ↓x_v13, ↓x_v14, ↓x_v15, ↓x_ss0, ↓x_ls0, ↓x_subII, ↓x_subBB, ↓x_repr, ↓x_sw, ↓x_M1, ↓x_par, ↓x_gSt1, ↓x_gSt3, ↓x_fo0, ↓x_fd0, ↓x_po0, ↓x_pt0, ↓x_fo1, ↓x_fd1, ↓x_po1, ↓x_pt1, ↓x_fo2, ↓x_fd2, ↓x_po2, ↓x_pt2, ↓x_fo3, ↓x_fd3, ↓x_po3, ↓x_pt3, ↓x_fo4, ↓x_fd4, ↓x_po4, ↓x_pt4, ↓x_fo5, ↓x_fd5, ↓x_po5, ↓x_pt5, ↓x_fo6, ↓x_fd6, ↓x_po6, ↓x_pt6, ↓x_fo7, ↓x_fd7, ↓x_po7, ↓x_pt7, ↓x_fo8, ↓x_fd8, ↓x_po8, ↓x_pt8, ↓x_fo9, ↓x_fd9, ↓x_po9, ↓x_pt9, ↓x_fo10, ↓x_fd10, ↓x_po10, ↓x_pt10, ↓x_fo11, ↓x_fd11, ↓x_po11, ↓x_pt11, ↓x_plI, ↓x_plB, ↓x_plS, ↓x_in2, ↓x_in3, ↓x_sl1T, ↓x_sl1L, ↓x_slS, ↓x_tuL, ↓x_tuT, ↓x_enumD, ↓x_iAsc, ↓x_eq0T, ↓x_eq0L, ↓x_mulT, ↓x_pu0, ↓x_pu1, ↓x_pu2, ↓x_pu3, ↓x_pu4, ↓x_pu5, ↓x_pu6, ↓x_pu7, ↓x_pu8, ↓x_pu9, ↓x_pu10, ↓x_pu11, ↓x_isB, ↓x_isNB, ↓x_nonD, ↓x_in4, ↓x_nin4, ↓x_nin2, ↓x_tupRg, ↓x_lstRg, ↓x_g_LIMIT, ↓x_g_MAX_CHOICES, ↓x_g_MAX_DEPTH, ↓x_g_MAX_ORDER, ↓x_g_MAX_TEXT, ↓x_g_TESTS, List.cons_append, List.nil_append, List.replicate_succ, List.replicate_zero, List.set_cons_zero, List.set_cons_succ, List.getElem?_cons_zero, List.getElem?_cons_succ, decide_eq_true_eq, Bool.false_eq_true, Bool.true_eq_false, ↓reduceIte, Bool.not_true, Bool.not_false, decide_true, decide_false, isTy, isTyK, kindD, PySem.sizeLine_eq, List.length_cons, List.length_nil, true_and, and_true, true_implies, Bool.not_eq_true', decide_eq_false_iff_not, Nat.reduceAdd, Nat.reduceLeDiff, Nat.reduceLT, Int.reduceAdd, Int.reduceSub, Int.reduceLT, Int.reduceLE, Int.reduceNeg, Int.reduceEq, Nat.reduceEqDiff, not_true_eq_false, not_false_eq_true]
    simpa using hQ
theorem ok_is_within (T : Txt K mg) (n : Nat) (ih : CalG P w K mg base (5 + n) "is_within" (spD P w K 3 (mrec m_is_within n))) {f : Addr} {fd : FuncData} (F : Fun K "is_within" "is_within" s_is_within f fd) : FnG P w K mg base (5 + n + 1) f fd ["value", "width", "depth"] (spD P w K 3 (fnD (b_is_within (mrec m_is_within n)) 3)) :=
  fn_okG F sc_is_within fun cdv A outer s H E hr hgd => by
    have hu := hr.units
    exact (s_cons (s_if (PW.pt (w_or (t_cmpD (oEq hu) (ev 2) e_int) (w_or (t_not (t_val (e_isi (T := .tuple) T.b_isinstance T.b_tuple bo_tuple (ev 0)))) (w_or (t_cmpD (oEqE hu) (ev 0) (e_tup d_nil)) (w_or1 (t_not (t_val (e_isi (T := .str) T.b_isinstance T.b_str bo_str (e_ix (ev 0) e_int))))))))) (s_one (s_ret e_bl)) s_nil)
      (s_cons (s_star (vs := [3, 4]) (n := 1) rfl (ev 0) (gs_cons (g_nm (vs := [3, 4]) sc_is_within.nd rfl (by first | exact Or.inl rfl | exact Or.inr rfl) (by decide)) (gs_cons (g_nm (vs := [3, 4]) sc_is_within.nd rfl (by first | exact Or.inl rfl | exact Or.inr rfl) (by decide)) gs_nil)))
      (s_cons (s_if (t_cmpD (oInS hr) (ev 3) (e_glob rfl T.g_TESTS)) (s_one (s_ret (e_and (e_cmpD (oEq hu) (e_cbB bLen T.b_len bo_len (d_cons (ev 4) d_nil)) e_int) (e_one (e_fnG (cal_is_test T) hr hgd (a_cons (ev 0) (a_cons (ev 1) a_nil)) (hk := by omega)))))) s_nil)
      (s_cons (s_if (t_cmpD (oEq hu) (ev 3) e_str) (s_one (s_ret (e_and (e_cmpD (oEq hu) (e_cbB bLen T.b_len bo_len (d_cons (ev 4) d_nil)) e_int) (e_one (e_fnG ih hr hgd (a_cons (e_ix (ev 4) e_int) (a_cons (ev 1) (a_cons (e_bin oSubB (ev 2) e_int) a_nil))) (hk := Nat.le_refl _)))))) s_nil)
      (s_cons (s_if (t_cmpD (oInS hr) (ev 3) (e_tup (d_cons e_str (d_cons e_str d_nil)))) (s_one (s_ret (e_and (e_cmpD (oEq hu) (e_cbB bLen T.b_len bo_len (d_cons (ev 4) d_nil)) e_int) (e_one (e_cbB (bAll rfl) T.b_all bo_all (d_cons (e_new (f_lc (own := [("part", 5)]) rfl sc_is_within.nd (i_data (ev 4)) (blkOk_by (N := N_is_within) (sc := defScope s_is_within) (by decide +kernel)) (fun _ _ _ _ _ => (g_nm (vs := [5]) sc_is_within.nd rfl (by first | exact Or.inl rfl | exact Or.inr rfl) (by decide))) (fun _ _ _ _ _ => LTs.nil) (fun _ _ _ _ _ => (e_fnG ih hr hgd (a_cons (ev 5) (a_cons (ev 1) (a_cons (e_bin oSubB (ev 2) e_int) a_nil))) (hk := Nat.le_refl _))))) d_nil)))))) s_nil)
      (s_one (s_ret (e_and (e_cmpD (oEq hu) (ev 3) e_str) (e_one (e_cmpD (oEqE hu) (ev 4) (e_lst d_nil)))))))))))
theorem cr_is_within (T : Txt K mg) : ∀ n, CalG P w K mg base (5 + n) "is_within" (spD P w K 3 (mrec m_is_within n))
  | 0 => calG_false T.f_is_within (show BindsN "is_within" s_is_within ["value", "width", "depth"] from fun _ _ _ _ _ _ us hl => match us, hl with | [_, _, _], _ => rfl)
  | n + 1 => CalG.imp (calG_of T.f_is_within (show BindsN "is_within" s_is_within ["value", "width", "depth"] from fun _ _ _ _ _ _ us hl => match us, hl with | [_, _, _], _ => rfl) fun _ _ F => ok_is_within T n (cr_is_within T n) F) (spec_is_within n)
theorem cal_is_within (T : Txt K mg) (n : Nat) : CalG P w K mg base (5 + n + 1) "is_within" (spD P w K 3 (m_is_within n)) := cr_is_within T (n + 1)
theorem sc_is_condition : FnScope N_is_condition ["value", "width"] (defScope s_is_condition) := ⟨rfl, rfl, rfl, by decide +kernel, rfl, by decide +kernel, by decide +kernel⟩
def b_is_condition : DS := (dRet (dFn (m_is_within 8) (aCons (dVar 0) (aCons (dVar 1) (aCons (dC g_MAX_DEPTH) aNil)))))
abbrev m_is_condition : List SV → EK → Prop := mD2 fun x y Q => ∃ (w : Int), y = .int w ∧ szD x ≤ 1000000 ∧ Q (.bool (withinB w 8 x))
theorem spec_is_condition (svs : List SV) (R : EK) (_ : svs.length = 2) (h : m_is_condition svs R) : fnD b_is_condition 0 svs R := by
  obtain ⟨x, y, rfl, w, rfl, hz, hQ⟩ := mD2_elim h
  simp only [b_is_condition, ↓x_fnD, ↓x_skip, ↓x_seq, ↓x_brk, ↓x_cnt, ↓x_exp, ↓x_ret, ↓x_retN, ↓x_ifS, ↓x_set, ↓x_asg, ↓x_own, ↓x_fLst, ↓x_tape, ↓x_C, ↓x_op, ↓x_un, ↓x_test, ↓x_and, ↓x_or, ↓x_not, ↓x_if, ↓x_dnil, ↓x_dcons, ↓x_anil, ↓x_acons, ↓x_tup, ↓x_lst, ↓x_call, ↓x_fn, ↓x_isi, ↓x_new, ↓x_gN, ↓x_yes, ↓x_for, ↓x_iData, ↓x_iRg1, ↓x_oNo, ↓x_oSome, ↓x_sl, ↓x_mD1, ↓x_mD2, ↓x_mD3, ↓x_mD4, ↓x_mD5, ↓x_mT0, ↓x_mT1, ↓x_mT2, ↓x_mT3, ↓x_mT4, ↓x_eqI, ↓x_eqS, ↓x_eqB, ↓x_eqIS, ↓x_eqSI, ↓x_eqNN, ↓x_eqNI, ↓x_eqIN, ↓x_eqNS, ↓x_eqSN, ↓x_neI, ↓x_neS, ↓x_neB, ↓x_ltI, ↓x_ltS, ↓x_leI, ↓x_leS, ↓x_gtI, ↓x_gtS, ↓x_geI, ↓x_geS, ↓x_isN, ↓x_notN, ↓x_nonN, ↓x_nonI, ↓x_nonB, ↓x_nonS, ↓x_nonT, ↓x_nonL, ↓x_addI, ↓x_addS, ↓x_addT, ↓x_addL, ↓x_subI, ↓x_negI, ↓x_mulI, ↓x_mulS, ↓x_mulL, ↓x_modI, ↓x_divI, ↓x_powI, ↓x_lenL, ↓x_lenT, ↓x_lenS, ↓x_max2, ↓x_min2, ↓x_int1I, ↓x_int1B, ↓x_listL, ↓x_listT, ↓x_listS, ↓x_itL, ↓x_itT, ↓x_itS, ↓x_ixL0, ↓x_ixT0, ↓x_ixT1, ↓x_ixL1, ↓x_ixT2, ↓x_ixL2, ↓x_ixT3, ↓x_ixT4, ↓x_ixT5, ↓x_lc, ↓x_wipe0, ↓x_wipe1, ↓x_join, ↓x_gT, ↓x_gsN, ↓x_gsC, ↓x_notV, ↓x_andV, ↓x_orV, ↓x_chain, ↓x_tape1, ↓x_v0, ↓x_st0, ↓x_ap0, ↓x_io0, ↓x_lo0, ↓x_ro0, ↓x_v1, ↓x_st1, ↓x_ap1, ↓x_io1, ↓x_lo1, ↓x_ro1, ↓x_v2, ↓x_st2, ↓x_ap2, ↓x_io2, ↓x_lo2, ↓x_ro2, ↓x_v3, ↓x_st3, ↓x_ap3, ↓x_io3, ↓x_lo3, ↓x_ro3, ↓x_v4, ↓x_st4, ↓x_ap4, ↓x_io4, ↓x_lo4, ↓x_ro4, ↓x_v5, ↓x_st5, ↓x_ap5, ↓x_io5, ↓x_lo5, ↓x_ro5, ↓x_v6, ↓x_st6, ↓x_ap6, ↓x_io6, ↓x_lo6, ↓x_ro6, ↓x_v7, ↓x_st7, ↓x_ap7, ↓x_io7, ↓x_lo7, ↓x_ro7, ↓x_v8, ↓x_st8, ↓x_ap8, ↓x_io8, ↓x_lo8, ↓x_ro8, ↓x_v9, ↓x_st9, ↓x_ap9, ↓x_io9, ↓x_lo9, ↓x_ro9, ↓x_v10, ↓x_st10, ↓x_ap10, ↓x_io10, ↓x_lo10, ↓x_ro10, ↓x_v11, ↓x_st11, ↓x_ap11, ↓x_io11, ↓x_lo11, ↓x_ro11, ↓x_v12, ↓x_v13, ↓x_v14, ↓x_v15, ↓x_ss0, ↓x_ls0, ↓x_subII, ↓x_subBB, ↓x_repr, ↓x_sw, ↓x_M1, ↓x_par, ↓x_gSt1, ↓x_gSt3, ↓x_fo0, ↓x_fd0, ↓x_po0, ↓x_pt0, ↓x_fo1, ↓x_fd1, ↓x_po1, ↓x_pt1, ↓x_fo2, ↓x_fd2, ↓x_po2, ↓x_pt2, ↓x_fo3, ↓x_fd3, ↓x_po3, ↓x_pt3, ↓x_fo4, ↓x_fd4, ↓x_po4, ↓x_pt4, ↓x_fo5, ↓x_fd5, ↓x_po5, ↓x_pt5, ↓x_fo6, ↓x_fd6, ↓x_po6, ↓x_pt6, ↓x_fo7, ↓x_fd7, ↓x_po7, ↓x_pt7, ↓x_fo8, ↓x_fd8, ↓x_po8, ↓x_pt8, ↓x_fo9, ↓x_fd9, ↓x_po9, ↓x_pt9, ↓x_fo10, ↓x_fd10, ↓x_po10, ↓x_pt10, ↓x_fo11, ↓x_fd11, ↓x_po11, ↓x_pt11, ↓x_plI, ↓x_plB, ↓x_plS, ↓x_in2, ↓x_in3, ↓x_sl1T, ↓x_sl1L, ↓x_slS, ↓x_tuL, ↓x_tuT, ↓x_enumD, ↓x_iAsc, ↓x_eq0T, ↓x_eq0L, ↓x_mulT, ↓x_pu0, ↓x_pu1, ↓x_pu2, ↓x_pu3, ↓x_pu4, ↓x_pu5, ↓x_pu6, ↓x_pu7, ↓x_pu8, ↓x_pu9, ↓x_pu10, ↓x_pu11, ↓x_isB, ↓x_isNB, ↓x_nonD, ↓x_in4, ↓x_nin4, ↓x_nin2, ↓x_tupRg, ↓x_lstRg, ↓x_g_LIMIT, ↓x_g_MAX_CHOICES, ↓x_g_MAX_DEPTH, ↓x_g_MAX_ORDER, ↓x_g_MAX_TEXT, ↓x_g_TESTS, List.cons_append, List.nil_append, List.replicate_succ, List.replicate_zero, List.set_cons_zero, List.set_cons_succ, List.getElem?_cons_zero, List.getElem?_cons_succ, decide_eq_true_eq, Bool.false_eq_true, Bool.true_eq_false, ↓reduceIte, Bool.not_true, Bool.not_false, decide_true, decide_false, isTy, isTyK, kindD, PySem.sizeLine_eq, List.length_cons, List.length_nil, true_and, and_true, true_implies, Bool.not_eq_true', decide_eq_false_iff_not, Nat.reduceAdd, Nat.reduceLeDiff, Nat.reduceLT, Int.reduceAdd, Int.reduceSub, Int.reduceLT, Int.reduceLE, Int.reduceNeg, Int.reduceEq, Nat.reduceEqDiff, not_true_eq_false, not_false_eq_true]
  first | exact ⟨w, 8, rfl, rfl, hz, hQ⟩ | exact ⟨w, 8, rfl, rfl, by omega, hz, hQ⟩
theorem ok_is_condition (T : Txt K mg) {f : Addr} {fd : FuncData} (F : Fun K "is_condition" "is_condition" s_is_condition f fd) : FnG P w K mg base 15 f fd ["value", "width"] (spD P w K 2 (fnD b_is_condition 0)) :=
  fn_okG F sc_is_condition fun cdv A outer s H E hr hgd => by
    have hu := hr.units
    exact (s_one (s_ret (e_fnG (cal_is_within T 8) hr hgd (a_cons (ev 0) (a_cons (ev 1) (a_cons (e_glob rfl T.g_MAX_DEPTH) a_nil))) )))
theorem cal_is_condition (T : Txt K mg) : CalG P w K mg base 15 "is_condition" (spD P w K 2 m_is_condition) :=
  CalG.imp (calG_of T.f_is_condition (show BindsN "is_condition" s_is_condition ["value", "width"] from fun _ _ _ _ _ _ us hl => match us, hl with | [_, _], _ => rfl) fun _ _ F => ok_is_condition T F) spec_is_condition
theorem sc_is_order : FnScope N_is_order ["value", "width"] (defScope s_is_order) := ⟨rfl, rfl, rfl, by decide +kernel, rfl, by decide +kernel, by decide +kernel⟩
def b_is_order : DS := (dSeq (dIfS (dOr (dNot (dTest (dIsI .tuple (dVar 0)))) (dTest (dOp fGt (dCall fLen (dCons (dVar 0) dNil)) (dC g_MAX_ORDER)))) (dRet (dC (.bool false))) dSkip)
    (dSeq (dFor (iData (dVar 0)) (gN 2) (dSeq (dIfS (dOr (dNot (dTest (dIsI .tuple (dVar 2)))) (dOr (dTest (dOp fNe (dCall fLen (dCons (dVar 2) dNil)) (dC (.int 2)))) (dNot (dTest (dIsI .bool (dOp fIx (dVar 2) (dC (.int 1)))))))) (dRet (dC (.bool false))) dSkip)
    (dIfS (dOr (dNot (dTest (dFn m_is_integer (aCons (dOp fIx (dVar 2) (dC (.int 0))) aNil)))) (dNot (dTest (dChain fLe fLt (dC (.int 0)) (dOp fIx (dVar 2) (dC (.int 0))) (dVar 1))))) (dRet (dC (.bool false))) dSkip)))
    (dRet (dOp fEq (dUn fLenSet (dNew (fLc (iData (dVar 0)) (gN 2) dYes (dOp fIx (dVar 2) (dC (.int 0))) [2]))) (dCall fLen (dCons (dVar 0) dNil))))))
abbrev m_is_order : List SV → EK → Prop := mD2 fun x y Q => ∃ w : Int, y = .int w ∧ szD x ≤ 1000000 ∧ Q (.bool (orderB w x))
theorem spec_is_order (svs : List SV) (R : EK) (_ : svs.length = 2) (h : m_is_order svs R) : fnD b_is_order 1 svs R := by
  obtain ⟨x, y, rfl, w, rfl, hz, hQ⟩ := mD2_elim h
  cases x with
  | tuple xs =>
    have h' : R (.bool (decide (xs.length ≤ 4) && (xs.all (pairB w) && decide (colsOf xs).Nodup))) := hQ
    have hz' : szAll xs + 3 ≤ 1000000 := hz
    have hl := well_lt (xs := xs) (by omega)
    simp only [b_is_order, ↓x_fnD, ↓x_skip, ↓x_seq, ↓x_brk, ↓x_cnt, ↓x_exp, ↓x_ret, ↓x_retN, ↓x_ifS, ↓x_set, ↓x_asg, ↓x_own, ↓x_fLst, ↓x_tape, ↓x_C, ↓x_op, ↓x_un, ↓x_test, ↓x_and, ↓x_or, ↓x_not, ↓x_if, ↓x_dnil, ↓x_dcons, ↓x_anil, ↓x_acons, ↓x_tup, ↓x_lst, ↓x_call, ↓x_fn, ↓x_isi, ↓x_new, ↓x_gN, ↓x_yes, ↓x_for, ↓x_iData, ↓x_iRg1, ↓x_oNo, ↓x_oSome, ↓x_sl, ↓x_mD1, ↓x_mD2, ↓x_mD3, ↓x_mD4, ↓x_mD5, ↓x_mT0, ↓x_mT1, ↓x_mT2, ↓x_mT3, ↓x_mT4, ↓x_eqI, ↓x_eqS, ↓x_eqB, ↓x_eqIS, ↓x_eqSI, ↓x_eqNN, ↓x_eqNI, ↓x_eqIN, ↓x_eqNS, ↓x_eqSN, ↓x_neI, ↓x_neS, ↓x_neB, ↓x_ltI, ↓x_ltS, ↓x_leI, ↓x_leS, ↓x_gtI, ↓x_gtS, ↓x_geI, ↓x_geS, ↓x_isN, ↓x_notN, ↓x_nonN, ↓x_nonI, ↓x_nonB, ↓x_nonS, ↓x_nonT, ↓x_nonL, ↓x_addI, ↓x_addS, ↓x_addT, ↓x_addL, ↓x_subI, ↓x_negI, ↓x_mulI, ↓x_mulS, ↓x_mulL, ↓x_modI, ↓x_divI, ↓x_powI, ↓x_lenL, ↓x_lenT, ↓x_lenS, ↓x_max2, ↓x_min2, ↓x_int1I, ↓x_int1B, ↓x_listL, ↓x_listT, ↓x_listS, ↓x_itL, ↓x_itT, ↓x_itS, ↓x_ixL0, ↓x_ixT0, ↓x_ixT1, ↓x_ixL1, ↓x_ixT2, ↓x_ixL2, ↓x_ixT3, ↓x_ixT4, ↓x_ixT5, ↓x_lc, ↓x_wipe0, ↓x_wipe1, ↓x_join, ↓x_gT, ↓x_gsN, ↓x_gsC, ↓x_notV, ↓x_andV, ↓x_orV, ↓x_chain, ↓x_tape1, ↓x_v0, ↓x_st0, ↓x_ap0, ↓x_io0, ↓x_lo0, ↓x_ro0, ↓x_v1, ↓x_st1, ↓x_ap1, ↓x_io1, ↓x_lo1, ↓x_ro1, ↓x_v2, ↓x_st2, ↓x_ap2, ↓x_io2, ↓x_lo2, ↓x_ro2, ↓x_v3, ↓x_st3, ↓x_ap3, ↓x_io3, ↓x_lo3, ↓x_ro3, ↓x_v4, ↓x_st4, ↓x_ap4, ↓x_io4, ↓x_lo4, ↓x_ro4, ↓x_v5, ↓x_st5, ↓x_ap5, ↓x_io5, ↓x_lo5, ↓x_ro5, ↓x_v6, ↓x_st6, ↓x_ap6, ↓x_io6, ↓x_lo6, ↓x_ro6, ↓x_v7, ↓x_st7, ↓x_ap7, ↓x_io7, ↓x_lo7, ↓x_ro7, ↓x_v8, ↓x_st8, ↓x_ap8, ↓x_io8, ↓x_lo8, ↓x_ro8, ↓x_v9, ↓x_st9, ↓x_ap9, ↓x_io9, ↓x_lo9, ↓x_ro9, ↓x_v10, ↓x_st10, ↓x_ap10, ↓x_io10, ↓x_lo10, ↓x_ro10, ↓x_v11, ↓x_st11, ↓x_ap11, ↓x_io11, ↓x_lo11, ↓x_ro11, ↓x_v12, ↓x_v13, ↓x_v14, ↓x_v15, ↓x_ss0, ↓x_ls0, ↓x_subII, ↓x_subBB, ↓x_repr, ↓x_sw, ↓x_M1, ↓x_par, ↓x_gSt1, ↓x_gSt3, ↓x_fo0, ↓x_fd0, ↓x_po0, ↓x_pt0, ↓x_fo1, ↓x_fd1, ↓x_po1, ↓x_pt1, ↓x_fo2, ↓x_fd2, ↓x_po2, ↓x_pt2, ↓x_fo3, ↓x_fd3, ↓x_po3, ↓x_pt3, ↓x_fo4, ↓x_fd4, ↓x_po4, ↓x_pt4, ↓x_fo5, ↓x_fd5, ↓x_po5, ↓x_pt5, ↓x_fo6, ↓x_fd6, ↓x_po6, ↓x_pt6, ↓x_fo7, ↓x_fd7, ↓x_po7, ↓x_pt7, ↓x_fo8, ↓x_fd8, ↓x_po8, ↓x_pt8, ↓x_fo9, ↓x_fd9, ↓x_po9, ↓x_pt9, ↓x_fo10, ↓x_fd10, ↓x_po10, ↓x_pt10, ↓x_fo11, ↓x_fd11, ↓x_po11, ↓x_pt11, ↓x_plI, ↓x_plB, ↓x_plS, ↓x_in2, ↓x_in3, ↓x_sl1T, ↓x_sl1L, ↓x_slS, ↓x_tuL, ↓x_tuT, ↓x_enumD, ↓x_iAsc, ↓x_eq0T, ↓x_eq0L, ↓x_mulT, ↓x_pu0, ↓x_pu1, ↓x_pu2, ↓x_pu3, ↓x_pu4, ↓x_pu5, ↓x_pu6, ↓x_pu7, ↓x_pu8, ↓x_pu9, ↓x_pu10, ↓x_pu11, ↓x_isB, ↓x_isNB, ↓x_nonD, ↓x_in4, ↓x_nin4, ↓x_nin2, ↓x_tupRg, ↓x_lstRg, ↓x_g_LIMIT, ↓x_g_MAX_CHOICES, ↓x_g_MAX_DEPTH, ↓x_g_MAX_ORDER, ↓x_g_MAX_TEXT, ↓x_g_TESTS, List.cons_append, List.nil_append, List.replicate_succ, List.replicate_zero, List.set_cons_zero, List.set_cons_succ, List.getElem?_cons_zero, List.getElem?_cons_succ, decide_eq_true_eq, Bool.false_eq_true, Bool.true_eq_false, ↓reduceIte, Bool.not_true, Bool.not_false, decide_true, decide_false, isTy, isTyK, kindD, PySem.sizeLine_eq, List.length_cons, List.length_nil, true_and, and_true, true_implies, Bool.not_eq_true', decide_eq_false_iff_not, Nat.reduceAdd, Nat.reduceLeDiff, Nat.reduceLT, Int.reduceAdd, Int.reduceSub, Int.reduceLT, Int.reduceLE, Int.reduceNeg, Int.reduceEq, Nat.reduceEqDiff, not_true_eq_false, not_false_eq_true]
    by_cases e4 : xs.length ≤ 4
    · rw [decide_eq_true e4, Bool.true_and] at h'
      have e5 : ¬ (4 : Int) < (xs.length : Int) := by omega
      simp only [e5, ↓x_fnD, ↓x_skip, ↓x_seq, ↓x_brk, ↓x_cnt, ↓x_exp, ↓x_ret, ↓x_retN, ↓x_ifS, ↓x_set, ↓x_asg, ↓x_own, ↓x_fLst, ↓x_tape, ↓x_C, ↓x_op, ↓x_un, ↓x_test, ↓x_and, ↓x_or, ↓x_not, ↓x_if, ↓x_dnil, ↓x_dcons, ↓x_anil, ↓x_acons, ↓x_tup, ↓x_lst, ↓x_call, ↓x_fn, ↓x_isi, ↓x_new, ↓x_gN, ↓x_yes, ↓x_for, ↓x_iData, ↓x_iRg1, ↓x_oNo, ↓x_oSome, ↓x_sl, ↓x_mD1, ↓x_mD2, ↓x_mD3, ↓x_mD4, ↓x_mD5, ↓x_mT0, ↓x_mT1, ↓x_mT2, ↓x_mT3, ↓x_mT4, ↓x_eqI, ↓x_eqS, ↓x_eqB, ↓x_eqIS, ↓x_eqSI, ↓x_eqNN, ↓x_eqNI, ↓x_eqIN, ↓x_eqNS, ↓x_eqSN, ↓x_neI, ↓x_neS, ↓x_neB, ↓x_ltI, ↓x_ltS, ↓x_leI, ↓x_leS, ↓x_gtI, ↓x_gtS, ↓x_geI, ↓x_geS, ↓x_isN, ↓x_notN, ↓x_nonN, ↓x_nonI, ↓x_nonB, ↓x_nonS, ↓x_nonT, ↓x_nonL, ↓x_addI, ↓x_addS, ↓x_addT, ↓x_addL, ↓x_subI, ↓x_negI, ↓x_mulI, ↓x_mulS, ↓x_mulL, ↓x_modI, ↓x_divI, ↓x_powI, ↓x_lenL, ↓x_lenT, ↓x_lenS, ↓x_max2, ↓x_min2, ↓x_int1I, ↓x_int1B, ↓x_listL, ↓x_listT, ↓x_listS, ↓x_itL, ↓x_itT, ↓x_itS, ↓x_ixL0, ↓x_ixT0, ↓x_ixT1, ↓x_ixL1, ↓x_ixT2, ↓x_ixL2, ↓x_ixT3, ↓x_ixT4, ↓x_ixT5, ↓x_lc, ↓x_wipe0, ↓x_wipe1, ↓x_join, ↓x_gT, ↓x_gsN, ↓x_gsC, ↓x_notV, ↓x_andV, ↓x_orV, ↓x_chain, ↓x_tape1, ↓x_v0, ↓x_st0, ↓x_ap0, ↓x_io0, ↓x_lo0, ↓x_ro0, ↓x_v1, ↓x_st1, ↓x_ap1, ↓x_io1, ↓x_lo1, ↓x_ro1, ↓x_v2, ↓x_st2, ↓x_ap2, ↓x_io2, ↓x_lo2, ↓x_ro2, ↓x_v3, ↓x_st3, ↓x_ap3, ↓x_io3, ↓x_lo3, ↓x_ro3, ↓x_v4, ↓x_st4, ↓x_ap4, ↓x_io4, ↓x_lo4, ↓x_ro4, ↓x_v5, ↓x_st5, ↓x_ap5, ↓x_io5, ↓x_lo5, ↓x_ro5, ↓x_v6, ↓x_st6, ↓x_ap6, ↓x_io6, ↓x_lo6, ↓x_ro6, ↓x_v7, ↓x_st7, ↓x_ap7, ↓x_io7, ↓x_lo7, ↓x_ro7, ↓x_v8, ↓x_st8, ↓x_ap8, ↓x_io8, ↓x_lo8, ↓x_ro8, ↓x_v9, ↓x_st9, ↓x_ap9, ↓x_io9, ↓x_lo9, ↓x_ro9, ↓x_v10, ↓x_st10, ↓x_ap10, ↓x_io10, ↓x_lo10, ↓x_ro10, ↓x_v11, ↓x_st11, ↓x_ap11, ↓x_io11, ↓x_lo11, ↓x_ro11, ↓x_v12, ↓x_v13, ↓x_v14, ↓x_v15, ↓x_ss0, ↓x_ls0, ↓x_subII, ↓x_subBB, ↓x_repr, ↓x_sw, ↓x_M1, ↓x_par, ↓x_gSt1, ↓x_gSt3, ↓x_fo0, ↓x_fd0, ↓x_po0, ↓x_pt0, ↓x_fo1, ↓x_fd1, ↓x_po1, ↓x_pt1, ↓x_fo2, ↓x_fd2, ↓x_po2, ↓x_pt2, ↓x_fo3, ↓x_fd3, ↓x_po3, ↓x_pt3, ↓x_fo4, ↓x_fd4, ↓x_po4, ↓x_pt4, ↓x_fo5, ↓x_fd5, ↓x_po5, ↓x_pt5, ↓x_fo6, ↓x_fd6, ↓x_po6, ↓x_pt6, ↓x_fo7, ↓x_fd7, ↓x_po7, ↓x_pt7, ↓x_fo8, ↓x_fd8, ↓x_po8, ↓x_pt8, ↓x_fo9, ↓x_fd9, ↓x_po9, ↓x_pt9, ↓x_fo10, ↓x_fd10, ↓x_po10, ↓x_pt10, ↓x_fo11, ↓x_fd11, ↓x_po11, ↓x_pt11, ↓x_plI, ↓x_plB, ↓x_plS, ↓x_in2, ↓x_in3, ↓x_sl1T, ↓x_sl1L, ↓x_slS, ↓x_tuL, ↓x_tuT, ↓x_enumD, ↓x_iAsc, ↓x_eq0T, ↓x_eq0L, ↓x_mulT, ↓x_pu0, ↓x_pu1, ↓x_pu2, ↓x_pu3, ↓x_pu4, ↓x_pu5, ↓x_pu6, ↓x_pu7, ↓x_pu8, ↓x_pu9, ↓x_pu10, ↓x_pu11, ↓x_isB, ↓x_isNB, ↓x_nonD, ↓x_in4, ↓x_nin4, ↓x_nin2, ↓x_tupRg, ↓x_lstRg, ↓x_g_LIMIT, ↓x_g_MAX_CHOICES, ↓x_g_MAX_DEPTH, ↓x_g_MAX_ORDER, ↓x_g_MAX_TEXT, ↓x_g_TESTS, List.cons_append, List.nil_append, List.replicate_succ, List.replicate_zero, List.set_cons_zero, List.set_cons_succ, List.getElem?_cons_zero, List.getElem?_cons_succ, decide_eq_true_eq, Bool.false_eq_true, Bool.true_eq_false, ↓reduceIte, Bool.not_true, Bool.not_false, decide_true, decide_false, isTy, isTyK, kindD, PySem.sizeLine_eq, List.length_cons, List.length_nil, true_and, and_true, true_implies, Bool.not_eq_true', decide_eq_false_iff_not, Nat.reduceAdd, Nat.reduceLeDiff, Nat.reduceLT, Int.reduceAdd, Int.reduceSub, Int.reduceLT, Int.reduceLE, Int.reduceNeg, Int.reduceEq, Nat.reduceEqDiff, not_true_eq_false, not_false_eq_true]
      intro hs
      refine loop_all (pairB w) (fun _ ω => ∃ a, ω = [.dat (.tuple xs), .dat (.int w), a]) xs [] (fun p d r e hp ω hω N hN hF => ?_) rfl (fun ha ω hω => ?_) (fun ha => ?_) _ ⟨_, rfl⟩
      · obtain ⟨a, rfl⟩ := hω
        have hd : d ∈ xs := by
          have : d ∈ p ++ d :: r := by simp
          rw [← e] at this
          simpa using this
        have hzd := sz_mem hd
        cases d with
        | tuple ys =>
          have hzy : szAll ys + 3 + 2 ≤ szAll xs := hzd
          have hly := well_lt (xs := ys) (by omega)
          rcases ys with _ | ⟨c, _ | ⟨b, _ | ⟨z, ys⟩⟩⟩
          · simp only [↓x_fnD, ↓x_skip, ↓x_seq, ↓x_brk, ↓x_cnt, ↓x_exp, ↓x_ret, ↓x_retN, ↓x_ifS, ↓x_set, ↓x_asg, ↓x_own, ↓x_fLst, ↓x_tape, ↓x_C, ↓x_op, ↓x_un, ↓x_test, ↓x_and, ↓x_or, ↓x_not, ↓x_if, ↓x_dnil, ↓x_dcons, ↓x_anil, ↓x_acons, ↓x_tup, ↓x_lst, ↓x_call, ↓x_fn, ↓x_isi, ↓x_new, ↓x_gN, ↓x_yes, ↓x_for, ↓x_iData, ↓x_iRg1, ↓x_oNo, ↓x_oSome, ↓x_sl, ↓x_mD1, ↓x_mD2, ↓x_mD3, ↓x_mD4, ↓x_mD5, ↓x_mT0, ↓x_mT1, ↓x_mT2, ↓x_mT3, ↓x_mT4, ↓x_eqI, ↓x_eqS, ↓x_eqB, ↓x_eqIS, ↓x_eqSI, ↓x_eqNN, ↓x_eqNI, ↓x_eqIN, ↓x_eqNS, ↓x_eqSN, ↓x_neI, ↓x_neS, ↓x_neB, ↓x_ltI, ↓x_ltS, ↓x_leI, ↓x_leS, ↓x_gtI, ↓x_gtS, ↓x_geI, ↓x_geS, ↓x_isN, ↓x_notN, ↓x_nonN, ↓x_nonI, ↓x_nonB, ↓x_nonS, ↓x_nonT, ↓x_nonL, ↓x_addI, ↓x_addS, ↓x_addT, ↓x_addL, ↓x_subI, ↓x_negI, ↓x_mulI, ↓x_mulS, ↓x_mulL, ↓x_modI, ↓x_divI, ↓x_powI, ↓x_lenL, ↓x_lenT, ↓x_lenS, ↓x_max2, ↓x_min2, ↓x_int1I, ↓x_int1B, ↓x_listL, ↓x_listT, ↓x_listS, ↓x_itL, ↓x_itT, ↓x_itS, ↓x_ixL0, ↓x_ixT0, ↓x_ixT1, ↓x_ixL1, ↓x_ixT2, ↓x_ixL2, ↓x_ixT3, ↓x_ixT4, ↓x_ixT5, ↓x_lc, ↓x_wipe0, ↓x_wipe1, ↓x_join, ↓x_gT, ↓x_gsN, ↓x_gsC, ↓x_notV, ↓x_andV, ↓x_orV, ↓x_chain, ↓x_tape1, ↓x_v0, ↓x_st0, ↓x_ap0, ↓x_io0, ↓x_lo0, ↓x_ro0, ↓x_v1, ↓x_st1, ↓x_ap1, ↓x_io1, ↓x_lo1, ↓x_ro1, ↓x_v2, ↓x_st2, ↓x_ap2, ↓x_io2, ↓x_lo2, ↓x_ro2, ↓x_v3, ↓x_st3, ↓x_ap3, ↓x_io3, ↓x_lo3, ↓x_ro3, ↓x_v4, ↓x_st4, ↓x_ap4, ↓x_io4, ↓x_lo4, ↓x_ro4, ↓x_v5, ↓x_st5, ↓x_ap5, ↓x_io5, ↓x_lo5, ↓x_ro5, ↓x_v6, ↓x_st6, ↓x_ap6, ↓x_io6, ↓x_lo6, ↓x_ro6, ↓x_v7, ↓x_st7, ↓x_ap7, ↓x_io7, ↓x_lo7, ↓x_ro7, ↓x_v8, ↓x_st8, ↓x_ap8, ↓x_io8, ↓x_lo8, ↓x_ro8, ↓x_v9, ↓x_st9, ↓x_ap9, ↓x_io9, ↓x_lo9, ↓x_ro9, ↓x_v10, ↓x_st10, ↓x_ap10, ↓x_io10, ↓x_lo10, ↓x_ro10, ↓x_v11, ↓x_st11, ↓x_ap11, ↓x_io11, ↓x_lo11, ↓x_ro11, ↓x_v12, ↓x_v13, ↓x_v14, ↓x_v15, ↓x_ss0, ↓x_ls0, ↓x_subII, ↓x_subBB, ↓x_repr, ↓x_sw, ↓x_M1, ↓x_par, ↓x_gSt1, ↓x_gSt3, ↓x_fo0, ↓x_fd0, ↓x_po0, ↓x_pt0, ↓x_fo1, ↓x_fd1, ↓x_po1, ↓x_pt1, ↓x_fo2, ↓x_fd2, ↓x_po2, ↓x_pt2, ↓x_fo3, ↓x_fd3, ↓x_po3, ↓x_pt3, ↓x_fo4, ↓x_fd4, ↓x_po4, ↓x_pt4, ↓x_fo5, ↓x_fd5, ↓x_po5, ↓x_pt5, ↓x_fo6, ↓x_fd6, ↓x_po6, ↓x_pt6, ↓x_fo7, ↓x_fd7, ↓x_po7, ↓x_pt7, ↓x_fo8, ↓x_fd8, ↓x_po8, ↓x_pt8, ↓x_fo9, ↓x_fd9, ↓x_po9, ↓x_pt9, ↓x_fo10, ↓x_fd10, ↓x_po10, ↓x_pt10, ↓x_fo11, ↓x_fd11, ↓x_po11, ↓x_pt11, ↓x_plI, ↓x_plB, ↓x_plS, ↓x_in2, ↓x_in3, ↓x_sl1T, ↓x_sl1L, ↓x_slS, ↓x_tuL, ↓x_tuT, ↓x_enumD, ↓x_iAsc, ↓x_eq0T, ↓x_eq0L, ↓x_mulT, ↓x_pu0, ↓x_pu1, ↓x_pu2, ↓x_pu3, ↓x_pu4, ↓x_pu5, ↓x_pu6, ↓x_pu7, ↓x_pu8, ↓x_pu9, ↓x_pu10, ↓x_pu11, ↓x_isB, ↓x_isNB, ↓x_nonD, ↓x_in4, ↓x_nin4, ↓x_nin2, ↓x_tupRg, ↓x_lstRg, ↓x_g_LIMIT, ↓x_g_MAX_CHOICES, ↓x_g_MAX_DEPTH, ↓x_g_MAX_ORDER, ↓x_g_MAX_TEXT, ↓x_g_TESTS, List.cons_append, List.nil_append, List.replicate_succ, List.replicate_zero, List.set_cons_zero, List.set_cons_succ, List.getElem?_cons_zero, List.getElem?_cons_succ, decide_eq_true_eq, Bool.false_eq_true, Bool.true_eq_false, ↓reduceIte, Bool.not_true, Bool.not_false, decide_true, decide_false, isTy, isTyK, kindD, PySem.sizeLine_eq, List.length_cons, List.length_nil, true_and, and_true, true_implies, Bool.not_eq_true', decide_eq_false_iff_not, Nat.reduceAdd, Nat.reduceLeDiff, Nat.reduceLT, Int.reduceAdd, Int.reduceSub, Int.reduceLT, Int.reduceLE, Int.reduceNeg, Int.reduceEq, Nat.reduceEqDiff, not_true_eq_false, not_false_eq_true]
            exact hF rfl
          · simp only [↓x_fnD, ↓x_skip, ↓x_seq, ↓x_brk, ↓x_cnt, ↓x_exp, ↓x_ret, ↓x_retN, ↓x_ifS, ↓x_set, ↓x_asg, ↓x_own, ↓x_fLst, ↓x_tape, ↓x_C, ↓x_op, ↓x_un, ↓x_test, ↓x_and, ↓x_or, ↓x_not, ↓x_if, ↓x_dnil, ↓x_dcons, ↓x_anil, ↓x_acons, ↓x_tup, ↓x_lst, ↓x_call, ↓x_fn, ↓x_isi, ↓x_new, ↓x_gN, ↓x_yes, ↓x_for, ↓x_iData, ↓x_iRg1, ↓x_oNo, ↓x_oSome, ↓x_sl, ↓x_mD1, ↓x_mD2, ↓x_mD3, ↓x_mD4, ↓x_mD5, ↓x_mT0, ↓x_mT1, ↓x_mT2, ↓x_mT3, ↓x_mT4, ↓x_eqI, ↓x_eqS, ↓x_eqB, ↓x_eqIS, ↓x_eqSI, ↓x_eqNN, ↓x_eqNI, ↓x_eqIN, ↓x_eqNS, ↓x_eqSN, ↓x_neI, ↓x_neS, ↓x_neB, ↓x_ltI, ↓x_ltS, ↓x_leI, ↓x_leS, ↓x_gtI, ↓x_gtS, ↓x_geI, ↓x_geS, ↓x_isN, ↓x_notN, ↓x_nonN, ↓x_nonI, ↓x_nonB, ↓x_nonS, ↓x_nonT, ↓x_nonL, ↓x_addI, ↓x_addS, ↓x_addT, ↓x_addL, ↓x_subI, ↓x_negI, ↓x_mulI, ↓x_mulS, ↓x_mulL, ↓x_modI, ↓x_divI, ↓x_powI, ↓x_lenL, ↓x_lenT, ↓x_lenS, ↓x_max2, ↓x_min2, ↓x_int1I, ↓x_int1B, ↓x_listL, ↓x_listT, ↓x_listS, ↓x_itL, ↓x_itT, ↓x_itS, ↓x_ixL0, ↓x_ixT0, ↓x_ixT1, ↓x_ixL1, ↓x_ixT2, ↓x_ixL2, ↓x_ixT3, ↓x_ixT4, ↓x_ixT5, ↓x_lc, ↓x_wipe0, ↓x_wipe1, ↓x_join, ↓x_gT, ↓x_gsN, ↓x_gsC, ↓x_notV, ↓x_andV, ↓x_orV, ↓x_chain, ↓x_tape1, ↓x_v0, ↓x_st0, ↓x_ap0, ↓x_io0, ↓x_lo0, ↓x_ro0, ↓x_v1, ↓x_st1, ↓x_ap1, ↓x_io1, ↓x_lo1, ↓x_ro1, ↓x_v2, ↓x_st2, ↓x_ap2, ↓x_io2, ↓x_lo2, ↓x_ro2, ↓x_v3, ↓x_st3, ↓x_ap3, ↓x_io3, ↓x_lo3, ↓x_ro3, ↓x_v4, ↓x_st4, ↓x_ap4, ↓x_io4, ↓x_lo4, ↓x_ro4, ↓x_v5, ↓x_st5, ↓x_ap5, ↓x_io5, ↓x_lo5, ↓x_ro5, ↓x_v6, ↓x_st6, ↓x_ap6, ↓x_io6, ↓x_lo6, ↓x_ro6, ↓x_v7, ↓x_st7, ↓x_ap7, ↓x_io7, ↓x_lo7, ↓x_ro7, ↓x_v8, ↓x_st8, ↓x_ap8, ↓x_io8, ↓x_lo8, ↓x_ro8, ↓x_v9, ↓x_st9, ↓x_ap9, ↓x_io9, ↓x_lo9, ↓x_ro9, ↓x_v10, ↓x_st10, ↓x_ap10, ↓x_io10, ↓x_lo10, ↓x_ro10, ↓x_v11, ↓x_st11, ↓x_ap11, ↓x_io11, ↓x_lo11, ↓x_ro11, ↓x_v12, ↓x_v13, ↓x_v14, ↓x_v15, ↓x_ss0, ↓x_ls0, ↓x_subII, ↓x_subBB, ↓x_repr, ↓x_sw, ↓x_M1, ↓x_par, ↓x_gSt1, ↓x_gSt3, ↓x_fo0, ↓x_fd0, ↓x_po0, ↓x_pt0, ↓x_fo1, ↓x_fd1, ↓x_po1, ↓x_pt1, ↓x_fo2, ↓x_fd2, ↓x_po2, ↓x_pt2, ↓x_fo3, ↓x_fd3, ↓x_po3, ↓x_pt3, ↓x_fo4, ↓x_fd4, ↓x_po4, ↓x_pt4, ↓x_fo5, ↓x_fd5, ↓x_po5, ↓x_pt5, ↓x_fo6, ↓x_fd6, ↓x_po6, ↓x_pt6, ↓x_fo7, ↓x_fd7, ↓x_po7, ↓x_pt7, ↓x_fo8, ↓x_fd8, ↓x_po8, ↓x_pt8, ↓x_fo9, ↓x_fd9, ↓x_po9, ↓x_pt9, ↓x_fo10, ↓x_fd10, ↓x_po10, ↓x_pt10, ↓x_fo11, ↓x_fd11, ↓x_po11, ↓x_pt11, ↓x_plI, ↓x_plB, ↓x_plS, ↓x_in2, ↓x_in3, ↓x_sl1T, ↓x_sl1L, ↓x_slS, ↓x_tuL, ↓x_tuT, ↓x_enumD, ↓x_iAsc, ↓x_eq0T, ↓x_eq0L, ↓x_mulT, ↓x_pu0, ↓x_pu1, ↓x_pu2, ↓x_pu3, ↓x_pu4, ↓x_pu5, ↓x_pu6, ↓x_pu7, ↓x_pu8, ↓x_pu9, ↓x_pu10, ↓x_pu11, ↓x_isB, ↓x_isNB, ↓x_nonD, ↓x_in4, ↓x_nin4, ↓x_nin2, ↓x_tupRg, ↓x_lstRg, ↓x_g_LIMIT, ↓x_g_MAX_CHOICES, ↓x_g_MAX_DEPTH, ↓x_g_MAX_ORDER, ↓x_g_MAX_TEXT, ↓x_g_TESTS, List.cons_append, List.nil_append, List.replicate_succ, List.replicate_zero, List.set_cons_zero, List.set_cons_succ, List.getElem?_cons_zero, List.getElem?_cons_succ, decide_eq_true_eq, Bool.false_eq_true, Bool.true_eq_false, ↓reduceIte, Bool.not_true, Bool.not_false, decide_true, decide_false, isTy, isTyK, kindD, PySem.sizeLine_eq, List.length_cons, List.length_nil, true_and, and_true, true_implies, Bool.not_eq_true', decide_eq_false_iff_not, Nat.reduceAdd, Nat.reduceLeDiff, Nat.reduceLT, Int.reduceAdd, Int.reduceSub, Int.reduceLT, Int.reduceLE, Int.reduceNeg, Int.reduceEq, Nat.reduceEqDiff, not_true_eq_false, not_false_eq_true]
            exact hF rfl
          · simp only [↓x_fnD, ↓x_skip, ↓x_seq, ↓x_brk, ↓x_cnt, ↓x_exp, ↓x_ret, ↓x_retN, ↓x_ifS, ↓x_set, ↓x_asg, ↓x_own, ↓x_fLst, ↓x_tape, ↓x_C, ↓x_op, ↓x_un, ↓x_test, ↓x_and, ↓x_or, ↓x_not, ↓x_if, ↓x_dnil, ↓x_dcons, ↓x_anil, ↓x_acons, ↓x_tup, ↓x_lst, ↓x_call, ↓x_fn, ↓x_isi, ↓x_new, ↓x_gN, ↓x_yes, ↓x_for, ↓x_iData, ↓x_iRg1, ↓x_oNo, ↓x_oSome, ↓x_sl, ↓x_mD1, ↓x_mD2, ↓x_mD3, ↓x_mD4, ↓x_mD5, ↓x_mT0, ↓x_mT1, ↓x_mT2, ↓x_mT3, ↓x_mT4, ↓x_eqI, ↓x_eqS, ↓x_eqB, ↓x_eqIS, ↓x_eqSI, ↓x_eqNN, ↓x_eqNI, ↓x_eqIN, ↓x_eqNS, ↓x_eqSN, ↓x_neI, ↓x_neS, ↓x_neB, ↓x_ltI, ↓x_ltS, ↓x_leI, ↓x_leS, ↓x_gtI, ↓x_gtS, ↓x_geI, ↓x_geS, ↓x_isN, ↓x_notN, ↓x_nonN, ↓x_nonI, ↓x_nonB, ↓x_nonS, ↓x_nonT, ↓x_nonL, ↓x_addI, ↓x_addS, ↓x_addT, ↓x_addL, ↓x_subI, ↓x_negI, ↓x_mulI, ↓x_mulS, ↓x_mulL, ↓x_modI, ↓x_divI, ↓x_powI, ↓x_lenL, ↓x_lenT, ↓x_lenS, ↓x_max2, ↓x_min2, ↓x_int1I, ↓x_int1B, ↓x_listL, ↓x_listT, ↓x_listS, ↓x_itL, ↓x_itT, ↓x_itS, ↓x_ixL0, ↓x_ixT0, ↓x_ixT1, ↓x_ixL1, ↓x_ixT2, ↓x_ixL2, ↓x_ixT3, ↓x_ixT4, ↓x_ixT5, ↓x_lc, ↓x_wipe0, ↓x_wipe1, ↓x_join, ↓x_gT, ↓x_gsN, ↓x_gsC, ↓x_notV, ↓x_andV, ↓x_orV, ↓x_chain, ↓x_tape1, ↓x_v0, ↓x_st0, ↓x_ap0, ↓x_io0, ↓x_lo0, ↓x_ro0, ↓x_v1, ↓x_st1, ↓x_ap1, ↓x_io1, ↓x_lo1, ↓x_ro1, ↓x_v2, ↓x_st2, ↓x_ap2, ↓x_io2, ↓x_lo2, ↓x_ro2, ↓x_v3, ↓x_st3, ↓x_ap3, ↓x_io3, ↓x_lo3, ↓x_ro3, ↓x_v4, ↓x_st4, ↓x_ap4, ↓x_io4, ↓x_lo4, ↓x_ro4, ↓x_v5, ↓x_st5, ↓x_ap5, ↓x_io5, ↓x_lo5, ↓x_ro5, ↓x_v6, ↓x_st6, ↓x_ap6, ↓x_io6, ↓x_lo6, ↓x_ro6, ↓x_v7, ↓x_st7, ↓x_ap7, ↓x_io7, ↓x_lo7, ↓x_ro7, ↓x_v8, ↓x_st8, ↓x_ap8, ↓x_io8, ↓x_lo8, ↓x_ro8, ↓x_v9, ↓x_st9, ↓x_ap9, ↓x_io9, ↓x_lo9, ↓x_ro9, ↓x_v10, ↓x_st10, ↓x_ap10, ↓x_io10, ↓x_lo10, ↓x_ro10, ↓x_v11, ↓x_st11, ↓x_ap11, ↓x_io11, ↓x_lo11, ↓x_ro11, ↓x_v12, ↓x_v13, ↓x_v14, ↓x_v15, ↓x_ss0, ↓x_ls0, ↓x_subII, ↓x_subBB, ↓x_repr, ↓x_sw, ↓x_M1, ↓x_par, ↓x_gSt1, ↓x_gSt3, ↓x_fo0, ↓x_fd0, ↓x_po0, ↓x_pt0, ↓x_fo1, ↓x_fd1, ↓x_po1, ↓x_pt1, ↓x_fo2, ↓x_fd2, ↓x_po2, ↓x_pt2, ↓x_fo3, ↓x_fd3, ↓x_po3, ↓x_pt3, ↓x_fo4, ↓x_fd4, ↓x_po4, ↓x_pt4, ↓x_fo5, ↓x_fd5, ↓x_po5, ↓x_pt5, ↓x_fo6, ↓x_fd6, ↓x_po6, ↓x_pt6, ↓x_fo7, ↓x_fd7, ↓x_po7, ↓x_pt7, ↓x_fo8, ↓x_fd8, ↓x_po8, ↓x_pt8, ↓x_fo9, ↓x_fd9, ↓x_po9, ↓x_pt9, ↓x_fo10, ↓x_fd10, ↓x_po10, ↓x_pt10, ↓x_fo11, ↓x_fd11, ↓x_po11, ↓x_pt11, ↓x_plI, ↓x_plB, ↓x_plS, ↓x_in2, ↓x_in3, ↓x_sl1T, ↓x_sl1L, ↓x_slS, ↓x_tuL, ↓x_tuT, ↓x_enumD, ↓x_iAsc, ↓x_eq0T, ↓x_eq0L, ↓x_mulT, ↓x_pu0, ↓x_pu1, ↓x_pu2, ↓x_pu3, ↓x_pu4, ↓x_pu5, ↓x_pu6, ↓x_pu7, ↓x_pu8, ↓x_pu9, ↓x_pu10, ↓x_pu11, ↓x_isB, ↓x_isNB, ↓x_nonD, ↓x_in4, ↓x_nin4, ↓x_nin2, ↓x_tupRg, ↓x_lstRg, ↓x_g_LIMIT, ↓x_g_MAX_CHOICES, ↓x_g_MAX_DEPTH, ↓x_g_MAX_ORDER, ↓x_g_MAX_TEXT, ↓x_g_TESTS, List.cons_append, List.nil_append, List.replicate_succ, List.replicate_zero, List.set_cons_zero, List.set_cons_succ, List.getElem?_cons_zero, List.getElem?_cons_succ, decide_eq_true_eq, Bool.false_eq_true, Bool.true_eq_false, ↓reduceIte, Bool.not_true, Bool.not_false, decide_true, decide_false, isTy, isTyK, kindD, PySem.sizeLine_eq, List.length_cons, List.length_nil, true_and, and_true, true_implies, Bool.not_eq_true', decide_eq_false_iff_not, Nat.reduceAdd, Nat.reduceLeDiff, Nat.reduceLT, Int.reduceAdd, Int.reduceSub, Int.reduceLT, Int.reduceLE, Int.reduceNeg, Int.reduceEq, Nat.reduceEqDiff, not_true_eq_false, not_false_eq_true]
            cases b with
            | bool b =>
              simp only [↓x_fnD, ↓x_skip, ↓x_seq, ↓x_brk, ↓x_cnt, ↓x_exp, ↓x_ret, ↓x_retN, ↓x_ifS, ↓x_set, ↓x_asg, ↓x_own, ↓x_fLst, ↓x_tape, ↓x_C, ↓x_op, ↓x_un, ↓x_test, ↓x_and, ↓x_or, ↓x_not, ↓x_if, ↓x_dnil, ↓x_dcons, ↓x_anil, ↓x_acons, ↓x_tup, ↓x_lst, ↓x_call, ↓x_fn, ↓x_isi, ↓x_new, ↓x_gN, ↓x_yes, ↓x_for, ↓x_iData, ↓x_iRg1, ↓x_oNo, ↓x_oSome, ↓x_sl, ↓x_mD1, ↓x_mD2, ↓x_mD3, ↓x_mD4, ↓x_mD5, ↓x_mT0, ↓x_mT1, ↓x_mT2, ↓x_mT3, ↓x_mT4, ↓x_eqI, ↓x_eqS, ↓x_eqB, ↓x_eqIS, ↓x_eqSI, ↓x_eqNN, ↓x_eqNI, ↓x_eqIN, ↓x_eqNS, ↓x_eqSN, ↓x_neI, ↓x_neS, ↓x_neB, ↓x_ltI, ↓x_ltS, ↓x_leI, ↓x_leS, ↓x_gtI, ↓x_gtS, ↓x_geI, ↓x_geS, ↓x_isN, ↓x_notN, ↓x_nonN, ↓x_nonI, ↓x_nonB, ↓x_nonS, ↓x_nonT, ↓x_nonL, ↓x_addI, ↓x_addS, ↓x_addT, ↓x_addL, ↓x_subI, ↓x_negI, ↓x_mulI, ↓x_mulS, ↓x_mulL, ↓x_modI, ↓x_divI, ↓x_powI, ↓x_lenL, ↓x_lenT, ↓x_lenS, ↓x_max2, ↓x_min2, ↓x_int1I, ↓x_int1B, ↓x_listL, ↓x_listT, ↓x_listS, ↓x_itL, ↓x_itT, ↓x_itS, ↓x_ixL0, ↓x_ixT0, ↓x_ixT1, ↓x_ixL1, ↓x_ixT2, ↓x_ixL2, ↓x_ixT3, ↓x_ixT4, ↓x_ixT5, ↓x_lc, ↓x_wipe0, ↓x_wipe1, ↓x_join, ↓x_gT, ↓x_gsN, ↓x_gsC, ↓x_notV, ↓x_andV, ↓x_orV, ↓x_chain, ↓x_tape1, ↓x_v0, ↓x_st0, ↓x_ap0, ↓x_io0, ↓x_lo0, ↓x_ro0, ↓x_v1, ↓x_st1, ↓x_ap1, ↓x_io1, ↓x_lo1, ↓x_ro1, ↓x_v2, ↓x_st2, ↓x_ap2, ↓x_io2, ↓x_lo2, ↓x_ro2, ↓x_v3, ↓x_st3, ↓x_ap3, ↓x_io3, ↓x_lo3, ↓x_ro3, ↓x_v4, ↓x_st4, ↓x_ap4, ↓x_io4, ↓x_lo4, ↓x_ro4, ↓x_v5, ↓x_st5, ↓x_ap5, ↓x_io5, ↓x_lo5, ↓x_ro5, ↓x_v6, ↓x_st6, ↓x_ap6, ↓x_io6, ↓x_lo6, ↓x_ro6, ↓x_v7, ↓x_st7, ↓x_ap7, ↓x_io7, ↓x_lo7, ↓x_ro7, ↓x_v8, ↓x_st8, ↓x_ap8, ↓x_io8, ↓x_lo8, ↓x_ro8, ↓x_v9, ↓x_st9, ↓x_ap9, ↓x_io9, ↓x_lo9, ↓x_ro9, ↓x_v10, ↓x_st10, ↓x_ap10, ↓x_io10, ↓x_lo10, ↓x_ro10, ↓x_v11, ↓x_st11, ↓x_ap11, ↓x_io11, ↓x_lo11, ↓x_ro11, ↓x_v12, ↓x_v13, ↓x_v14, ↓x_v15, ↓x_ss0, ↓x_ls0, ↓x_subII, ↓x_subBB, ↓x_repr, ↓x_sw, ↓x_M1, ↓x_par, ↓x_gSt1, ↓x_gSt3, ↓x_fo0, ↓x_fd0, ↓x_po0, ↓x_pt0, ↓x_fo1, ↓x_fd1, ↓x_po1, ↓x_pt1, ↓x_fo2, ↓x_fd2, ↓x_po2, ↓x_pt2, ↓x_fo3, ↓x_fd3, ↓x_po3, ↓x_pt3, ↓x_fo4, ↓x_fd4, ↓x_po4, ↓x_pt4, ↓x_fo5, ↓x_fd5, ↓x_po5, ↓x_pt5, ↓x_fo6, ↓x_fd6, ↓x_po6, ↓x_pt6, ↓x_fo7, ↓x_fd7, ↓x_po7, ↓x_pt7, ↓x_fo8, ↓x_fd8, ↓x_po8, ↓x_pt8, ↓x_fo9, ↓x_fd9, ↓x_po9, ↓x_pt9, ↓x_fo10, ↓x_fd10, ↓x_po10, ↓x_pt10, ↓x_fo11, ↓x_fd11, ↓x_po11, ↓x_pt11, ↓x_plI, ↓x_plB, ↓x_plS, ↓x_in2, ↓x_in3, ↓x_sl1T, ↓x_sl1L, ↓x_slS, ↓x_tuL, ↓x_tuT, ↓x_enumD, ↓x_iAsc, ↓x_eq0T, ↓x_eq0L, ↓x_mulT, ↓x_pu0, ↓x_pu1, ↓x_pu2, ↓x_pu3, ↓x_pu4, ↓x_pu5, ↓x_pu6, ↓x_pu7, ↓x_pu8, ↓x_pu9, ↓x_pu10, ↓x_pu11, ↓x_isB, ↓x_isNB, ↓x_nonD, ↓x_in4, ↓x_nin4, ↓x_nin2, ↓x_tupRg, ↓x_lstRg, ↓x_g_LIMIT, ↓x_g_MAX_CHOICES, ↓x_g_MAX_DEPTH, ↓x_g_MAX_ORDER, ↓x_g_MAX_TEXT, ↓x_g_TESTS, List.cons_append, List.nil_append, List.replicate_succ, List.replicate_zero, List.set_cons_zero, List.set_cons_succ, List.getElem?_cons_zero, List.getElem?_cons_succ, decide_eq_true_eq, Bool.false_eq_true, Bool.true_eq_false, ↓reduceIte, Bool.not_true, Bool.not_false, decide_true, decide_false, isTy, isTyK, kindD, PySem.sizeLine_eq, List.length_cons, List.length_nil, true_and, and_true, true_implies, Bool.not_eq_true', decide_eq_false_iff_not, Nat.reduceAdd, Nat.reduceLeDiff, Nat.reduceLT, Int.reduceAdd, Int.reduceSub, Int.reduceLT, Int.reduceLE, Int.reduceNeg, Int.reduceEq, Nat.reduceEqDiff, not_true_eq_false, not_false_eq_true]
              cases c with
              | int i =>
                simp only [isInt, ↓x_fnD, ↓x_skip, ↓x_seq, ↓x_brk, ↓x_cnt, ↓x_exp, ↓x_ret, ↓x_retN, ↓x_ifS, ↓x_set, ↓x_asg, ↓x_own, ↓x_fLst, ↓x_tape, ↓x_C, ↓x_op, ↓x_un, ↓x_test, ↓x_and, ↓x_or, ↓x_not, ↓x_if, ↓x_dnil, ↓x_dcons, ↓x_anil, ↓x_acons, ↓x_tup, ↓x_lst, ↓x_call, ↓x_fn, ↓x_isi, ↓x_new, ↓x_gN, ↓x_yes, ↓x_for, ↓x_iData, ↓x_iRg1, ↓x_oNo, ↓x_oSome, ↓x_sl, ↓x_mD1, ↓x_mD2, ↓x_mD3, ↓x_mD4, ↓x_mD5, ↓x_mT0, ↓x_mT1, ↓x_mT2, ↓x_mT3, ↓x_mT4, ↓x_eqI, ↓x_eqS, ↓x_eqB, ↓x_eqIS, ↓x_eqSI, ↓x_eqNN, ↓x_eqNI, ↓x_eqIN, ↓x_eqNS, ↓x_eqSN, ↓x_neI, ↓x_neS, ↓x_neB, ↓x_ltI, ↓x_ltS, ↓x_leI, ↓x_leS, ↓x_gtI, ↓x_gtS, ↓x_geI, ↓x_geS, ↓x_isN, ↓x_notN, ↓x_nonN, ↓x_nonI, ↓x_nonB, ↓x_nonS, ↓x_nonT, ↓x_nonL, ↓x_addI, ↓x_addS, ↓x_addT, ↓x_addL, ↓x_subI, ↓x_negI, ↓x_mulI, ↓x_mulS, ↓x_mulL, ↓x_modI, ↓x_divI, ↓x_powI, ↓x_lenL, ↓x_lenT, ↓x_lenS, ↓x_max2, ↓x_min2, ↓x_int1I, ↓x_int1B, ↓x_listL, ↓x_listT, ↓x_listS, ↓x_itL, ↓x_itT, ↓x_itS, ↓x_ixL0, ↓x_ixT0, ↓x_ixT1, ↓x_ixL1, ↓x_ixT2, ↓x_ixL2, ↓x_ixT3, ↓x_ixT4, ↓x_ixT5, ↓x_lc, ↓x_wipe0, ↓x_wipe1, ↓x_join, ↓x_gT, ↓x_gsN, ↓x_gsC, ↓x_notV, ↓x_andV, ↓x_orV, ↓x_chain, ↓x_tape1, ↓x_v0, ↓x_st0, ↓x_ap0, ↓x_io0, ↓x_lo0, ↓x_ro0, ↓x_v1, ↓x_st1, ↓x_ap1, ↓x_io1, ↓x_lo1, ↓x_ro1, ↓x_v2, ↓x_st2, ↓x_ap2, ↓x_io2, ↓x_lo2, ↓x_ro2, ↓x_v3, ↓x_st3, ↓x_ap3, ↓x_io3, ↓x_lo3, ↓x_ro3, ↓x_v4, ↓x_st4, ↓x_ap4, ↓x_io4, ↓x_lo4, ↓x_ro4, ↓x_v5, ↓x_st5, ↓x_ap5, ↓x_io5, ↓x_lo5, ↓x_ro5, ↓x_v6, ↓x_st6, ↓x_ap6, ↓x_io6, ↓x_lo6, ↓x_ro6, ↓x_v7, ↓x_st7, ↓x_ap7, ↓x_io7, ↓x_lo7, ↓x_ro7, ↓x_v8, ↓x_st8, ↓x_ap8, ↓x_io8, ↓x_lo8, ↓x_ro8, ↓x_v9, ↓x_st9, ↓x_ap9, ↓x_io9, ↓x_lo9, ↓x_ro9, ↓x_v10, ↓x_st10, ↓x_ap10, ↓x_io10, ↓x_lo10, ↓x_ro10, ↓x_v11, ↓x_st11, ↓x_ap11, ↓x_io11, ↓x_lo11, ↓x_ro11, ↓x_v12, ↓x_v13, ↓x_v14, ↓x_v15, ↓x_ss0, ↓x_ls0, ↓x_subII, ↓x_subBB, ↓x_repr, ↓x_sw, ↓x_M1, ↓x_par, ↓x_gSt1, ↓x_gSt3, ↓x_fo0, ↓x_fd0, ↓x_po0, ↓x_pt0, ↓x_fo1, ↓x_fd1, ↓x_po1, ↓x_pt1, ↓x_fo2, ↓x_fd2, ↓x_po2, ↓x_pt2, ↓x_fo3, ↓x_fd3, ↓x_po3, ↓x_pt3, ↓x_fo4, ↓x_fd4, ↓x_po4, ↓x_pt4, ↓x_fo5, ↓x_fd5, ↓x_po5, ↓x_pt5, ↓x_fo6, ↓x_fd6, ↓x_po6, ↓x_pt6, ↓x_fo7, ↓x_fd7, ↓x_po7, ↓x_pt7, ↓x_fo8, ↓x_fd8, ↓x_po8, ↓x_pt8, ↓x_fo9, ↓x_fd9, ↓x_po9, ↓x_pt9, ↓x_fo10, ↓x_fd10, ↓x_po10, ↓x_pt10, ↓x_fo11, ↓x_fd11, ↓x_po11, ↓x_pt11, ↓x_plI, ↓x_plB, ↓x_plS, ↓x_in2, ↓x_in3, ↓x_sl1T, ↓x_sl1L, ↓x_slS, ↓x_tuL, ↓x_tuT, ↓x_enumD, ↓x_iAsc, ↓x_eq0T, ↓x_eq0L, ↓x_mulT, ↓x_pu0, ↓x_pu1, ↓x_pu2, ↓x_pu3, ↓x_pu4, ↓x_pu5, ↓x_pu6, ↓x_pu7, ↓x_pu8, ↓x_pu9, ↓x_pu10, ↓x_pu11, ↓x_isB, ↓x_isNB, ↓x_nonD, ↓x_in4, ↓x_nin4, ↓x_nin2, ↓x_tupRg, ↓x_lstRg, ↓x_g_LIMIT, ↓x_g_MAX_CHOICES, ↓x_g_MAX_DEPTH, ↓x_g_MAX_ORDER, ↓x_g_MAX_TEXT, ↓x_g_TESTS, List.cons_append, List.nil_append, List.replicate_succ, List.replicate_zero, List.set_cons_zero, List.set_cons_succ, List.getElem?_cons_zero, List.getElem?_cons_succ, decide_eq_true_eq, Bool.false_eq_true, Bool.true_eq_false, ↓reduceIte, Bool.not_true, Bool.not_false, decide_true, decide_false, isTy, isTyK, kindD, PySem.sizeLine_eq, List.length_cons, List.length_nil, true_and, and_true, true_implies, Bool.not_eq_true', decide_eq_false_iff_not, Nat.reduceAdd, Nat.reduceLeDiff, Nat.reduceLT, Int.reduceAdd, Int.reduceSub, Int.reduceLT, Int.reduceLE, Int.reduceNeg, Int.reduceEq, Nat.reduceEqDiff, not_true_eq_false, not_false_eq_true]
                by_cases i0 : 0 ≤ i
                · simp only [i0, ↓x_fnD, ↓x_skip, ↓x_seq, ↓x_brk, ↓x_cnt, ↓x_exp, ↓x_ret, ↓x_retN, ↓x_ifS, ↓x_set, ↓x_asg, ↓x_own, ↓x_fLst, ↓x_tape, ↓x_C, ↓x_op, ↓x_un, ↓x_test, ↓x_and, ↓x_or, ↓x_not, ↓x_if, ↓x_dnil, ↓x_dcons, ↓x_anil, ↓x_acons, ↓x_tup, ↓x_lst, ↓x_call, ↓x_fn, ↓x_isi, ↓x_new, ↓x_gN, ↓x_yes, ↓x_for, ↓x_iData, ↓x_iRg1, ↓x_oNo, ↓x_oSome, ↓x_sl, ↓x_mD1, ↓x_mD2, ↓x_mD3, ↓x_mD4, ↓x_mD5, ↓x_mT0, ↓x_mT1, ↓x_mT2, ↓x_mT3, ↓x_mT4, ↓x_eqI, ↓x_eqS, ↓x_eqB, ↓x_eqIS, ↓x_eqSI, ↓x_eqNN, ↓x_eqNI, ↓x_eqIN, ↓x_eqNS, ↓x_eqSN, ↓x_neI, ↓x_neS, ↓x_neB, ↓x_ltI, ↓x_ltS, ↓x_leI, ↓x_leS, ↓x_gtI, ↓x_gtS, ↓x_geI, ↓x_geS, ↓x_isN, ↓x_notN, ↓x_nonN, ↓x_nonI, ↓x_nonB, ↓x_nonS, ↓x_nonT, ↓x_nonL, ↓x_addI, ↓x_addS, ↓x_addT, ↓x_addL, ↓x_subI, ↓x_negI, ↓x_mulI, ↓x_mulS, ↓x_mulL, ↓x_modI, ↓x_divI, ↓x_powI, ↓x_lenL, ↓x_lenT, ↓x_lenS, ↓x_max2, ↓x_min2, ↓x_int1I, ↓x_int1B, ↓x_listL, ↓x_listT, ↓x_listS, ↓x_itL, ↓x_itT, ↓x_itS, ↓x_ixL0, ↓x_ixT0, ↓x_ixT1, ↓x_ixL1, ↓x_ixT2, ↓x_ixL2, ↓x_ixT3, ↓x_ixT4, ↓x_ixT5, ↓x_lc, ↓x_wipe0, ↓x_wipe1, ↓x_join, ↓x_gT, ↓x_gsN, ↓x_gsC, ↓x_notV, ↓x_andV, ↓x_orV, ↓x_chain, ↓x_tape1, ↓x_v0, ↓x_st0, ↓x_ap0, ↓x_io0, ↓x_lo0, ↓x_ro0, ↓x_v1, ↓x_st1, ↓x_ap1, ↓x_io1, ↓x_lo1, ↓x_ro1, ↓x_v2, ↓x_st2, ↓x_ap2, ↓x_io2, ↓x_lo2, ↓x_ro2, ↓x_v3, ↓x_st3, ↓x_ap3, ↓x_io3, ↓x_lo3, ↓x_ro3, ↓x_v4, ↓x_st4, ↓x_ap4, ↓x_io4, ↓x_lo4, ↓x_ro4, ↓x_v5, ↓x_st5, ↓x_ap5, ↓x_io5, ↓x_lo5, ↓x_ro5, ↓x_v6, ↓x_st6, ↓x_ap6, ↓x_io6, ↓x_lo6, ↓x_ro6, ↓x_v7, ↓x_st7, ↓x_ap7, ↓x_io7, ↓x_lo7, ↓x_ro7, ↓x_v8, ↓x_st8, ↓x_ap8, ↓x_io8, ↓x_lo8, ↓x_ro8, ↓x_v9, ↓x_st9, ↓x_ap9, ↓x_io9, ↓x_lo9, ↓x_ro9, ↓x_v10, ↓x_st10, ↓x_ap10, ↓x_io10, ↓x_lo10, ↓x_ro10, ↓x_v11, ↓x_st11, ↓x_ap11, ↓x_io11, ↓x_lo11, ↓x_ro11, ↓x_v12, ↓x_v13, ↓x_v14, ↓x_v15, ↓x_ss0, ↓x_ls0, ↓x_subII, ↓x_subBB, ↓x_repr, ↓x_sw, ↓x_M1, ↓x_par, ↓x_gSt1, ↓x_gSt3, ↓x_fo0, ↓x_fd0, ↓x_po0, ↓x_pt0, ↓x_fo1, ↓x_fd1, ↓x_po1, ↓x_pt1, ↓x_fo2, ↓x_fd2, ↓x_po2, ↓x_pt2, ↓x_fo3, ↓x_fd3, ↓x_po3, ↓x_pt3, ↓x_fo4, ↓x_fd4, ↓x_po4, ↓x_pt4, ↓x_fo5, ↓x_fd5, ↓x_po5, ↓x_pt5, ↓x_fo6, ↓x_fd6, ↓x_po6, ↓x_pt6, ↓x_fo7, ↓x_fd7, ↓x_po7, ↓x_pt7, ↓x_fo8, ↓x_fd8, ↓x_po8, ↓x_pt8, ↓x_fo9, ↓x_fd9, ↓x_po9, ↓x_pt9, ↓x_fo10, ↓x_fd10, ↓x_po10, ↓x_pt10, ↓x_fo11, ↓x_fd11, ↓x_po11, ↓x_pt11, ↓x_plI, ↓x_plB, ↓x_plS, ↓x_in2, ↓x_in3, ↓x_sl1T, ↓x_sl1L, ↓x_slS, ↓x_tuL, ↓x_tuT, ↓x_enumD, ↓x_iAsc, ↓x_eq0T, ↓x_eq0L, ↓x_mulT, ↓x_pu0, ↓x_pu1, ↓x_pu2, ↓x_pu3, ↓x_pu4, ↓x_pu5, ↓x_pu6, ↓x_pu7, ↓x_pu8, ↓x_pu9, ↓x_pu10, ↓x_pu11, ↓x_isB, ↓x_isNB, ↓x_nonD, ↓x_in4, ↓x_nin4, ↓x_nin2, ↓x_tupRg, ↓x_lstRg, ↓x_g_LIMIT, ↓x_g_MAX_CHOICES, ↓x_g_MAX_DEPTH, ↓x_g_MAX_ORDER, ↓x_g_MAX_TEXT, ↓x_g_TESTS, List.cons_append, List.nil_append, List.replicate_succ, List.replicate_zero, List.set_cons_zero, List.set_cons_succ, List.getElem?_cons_zero, List.getElem?_cons_succ, decide_eq_true_eq, Bool.false_eq_true, Bool.true_eq_false, ↓reduceIte, Bool.not_true, Bool.not_false, decide_true, decide_false, isTy, isTyK, kindD, PySem.sizeLine_eq, List.length_cons, List.length_nil, true_and, and_true, true_implies, Bool.not_eq_true', decide_eq_false_iff_not, Nat.reduceAdd, Nat.reduceLeDiff, Nat.reduceLT, Int.reduceAdd, Int.reduceSub, Int.reduceLT, Int.reduceLE, Int.reduceNeg, Int.reduceEq, Nat.reduceEqDiff, not_true_eq_false, not_false_eq_true]
                  by_cases i1 : i < w
                  · simp only [i1, ↓x_fnD, ↓x_skip, ↓x_seq, ↓x_brk, ↓x_cnt, ↓x_exp, ↓x_ret, ↓x_retN, ↓x_ifS, ↓x_set, ↓x_asg, ↓x_own, ↓x_fLst, ↓x_tape, ↓x_C, ↓x_op, ↓x_un, ↓x_test, ↓x_and, ↓x_or, ↓x_not, ↓x_if, ↓x_dnil, ↓x_dcons, ↓x_anil, ↓x_acons, ↓x_tup, ↓x_lst, ↓x_call, ↓x_fn, ↓x_isi, ↓x_new, ↓x_gN, ↓x_yes, ↓x_for, ↓x_iData, ↓x_iRg1, ↓x_oNo, ↓x_oSome, ↓x_sl, ↓x_mD1, ↓x_mD2, ↓x_mD3, ↓x_mD4, ↓x_mD5, ↓x_mT0, ↓x_mT1, ↓x_mT2, ↓x_mT3, ↓x_mT4, ↓x_eqI, ↓x_eqS, ↓x_eqB, ↓x_eqIS, ↓x_eqSI, ↓x_eqNN, ↓x_eqNI, ↓x_eqIN, ↓x_eqNS, ↓x_eqSN, ↓x_neI, ↓x_neS, ↓x_neB, ↓x_ltI, ↓x_ltS, ↓x_leI, ↓x_leS, ↓x_gtI, ↓x_gtS, ↓x_geI, ↓x_geS, ↓x_isN, ↓x_notN, ↓x_nonN, ↓x_nonI, ↓x_nonB, ↓x_nonS, ↓x_nonT, ↓x_nonL, ↓x_addI, ↓x_addS, ↓x_addT, ↓x_addL, ↓x_subI, ↓x_negI, ↓x_mulI, ↓x_mulS, ↓x_mulL, ↓x_modI, ↓x_divI, ↓x_powI, ↓x_lenL, ↓x_lenT, ↓x_lenS, ↓x_max2, ↓x_min2, ↓x_int1I, ↓x_int1B, ↓x_listL, ↓x_listT, ↓x_listS, ↓x_itL, ↓x_itT, ↓x_itS, ↓x_ixL0, ↓x_ixT0, ↓x_ixT1, ↓x_ixL1, ↓x_ixT2, ↓x_ixL2, ↓x_ixT3, ↓x_ixT4, ↓x_ixT5, ↓x_lc, ↓x_wipe0, ↓x_wipe1, ↓x_join, ↓x_gT, ↓x_gsN, ↓x_gsC, ↓x_notV, ↓x_andV, ↓x_orV, ↓x_chain, ↓x_tape1, ↓x_v0, ↓x_st0, ↓x_ap0, ↓x_io0, ↓x_lo0, ↓x_ro0, ↓x_v1, ↓x_st1, ↓x_ap1, ↓x_io1, ↓x_lo1, ↓x_ro1, ↓x_v2, ↓x_st2, ↓x_ap2, ↓x_io2, ↓x_lo2, ↓x_ro2, ↓x_v3, ↓x_st3, ↓x_ap3, ↓x_io3, ↓x_lo3, ↓x_ro3, ↓x_v4, ↓x_st4, ↓x_ap4, ↓x_io4, ↓x_lo4, ↓x_ro4, ↓x_v5, ↓x_st5, ↓x_ap5, ↓x_io5, ↓x_lo5, ↓x_ro5, ↓x_v6, ↓x_st6, ↓x_ap6, ↓x_io6, ↓x_lo6, ↓x_ro6, ↓x_v7, ↓x_st7, ↓x_ap7, ↓x_io7, ↓x_lo7, ↓x_ro7, ↓x_v8, ↓x_st8, ↓x_ap8, ↓x_io8, ↓x_lo8, ↓x_ro8, ↓x_v9, ↓x_st9, ↓x_ap9, ↓x_io9, ↓x_lo9, ↓x_ro9, ↓x_v10, ↓x_st10, ↓x_ap10, ↓x_io10, ↓x_lo10, ↓x_ro10, ↓x_v11, ↓x_st11, ↓x_ap11, ↓x_io11, ↓x_lo11, ↓x_ro11, ↓x_v12, ↓x_v13, ↓x_v14, ↓x_v15, ↓x_ss0, ↓x_ls0, ↓x_subII, ↓x_subBB, ↓x_repr, ↓x_sw, ↓x_M1, ↓x_par, ↓x_gSt1, ↓x_gSt3, ↓x_fo0, ↓x_fd0, ↓x_po0, ↓x_pt0, ↓x_fo1, ↓x_fd1, ↓x_po1, ↓x_pt1, ↓x_fo2, ↓x_fd2, ↓x_po2, ↓x_pt2, ↓x_fo3, ↓x_fd3, ↓x_po3, ↓x_pt3, ↓x_fo4, ↓x_fd4, ↓x_po4, ↓x_pt4, ↓x_fo5, ↓x_fd5, ↓x_po5, ↓x_pt5, ↓x_fo6, ↓x_fd6, ↓x_po6, ↓x_pt6, ↓x_fo7, ↓x_fd7, ↓x_po7, ↓x_pt7, ↓x_fo8, ↓x_fd8, ↓x_po8, ↓x_pt8, ↓x_fo9, ↓x_fd9, ↓x_po9, ↓x_pt9, ↓x_fo10, ↓x_fd10, ↓x_po10, ↓x_pt10, ↓x_fo11, ↓x_fd11, ↓x_po11, ↓x_pt11, ↓x_plI, ↓x_plB, ↓x_plS, ↓x_in2, ↓x_in3, ↓x_sl1T, ↓x_sl1L, ↓x_slS, ↓x_tuL, ↓x_tuT, ↓x_enumD, ↓x_iAsc, ↓x_eq0T, ↓x_eq0L, ↓x_mulT, ↓x_pu0, ↓x_pu1, ↓x_pu2, ↓x_pu3, ↓x_pu4, ↓x_pu5, ↓x_pu6, ↓x_pu7, ↓x_pu8, ↓x_pu9, ↓x_pu10, ↓x_pu11, ↓x_isB, ↓x_isNB, ↓x_nonD, ↓x_in4, ↓x_nin4, ↓x_nin2, ↓x_tupRg, ↓x_lstRg, ↓x_g_LIMIT, ↓x_g_MAX_CHOICES, ↓x_g_MAX_DEPTH, ↓x_g_MAX_ORDER, ↓x_g_MAX_TEXT, ↓x_g_TESTS, List.cons_append, List.nil_append, List.replicate_succ, List.replicate_zero, List.set_cons_zero, List.set_cons_succ, List.getElem?_cons_zero, List.getElem?_cons_succ, decide_eq_true_eq, Bool.false_eq_true, Bool.true_eq_false, ↓reduceIte, Bool.not_true, Bool.not_false, decide_true, decide_false, isTy, isTyK, kindD, PySem.sizeLine_eq, List.length_cons, List.length_nil, true_and, and_true, true_implies, Bool.not_eq_true', decide_eq_false_iff_not, Nat.reduceAdd, Nat.reduceLeDiff, Nat.reduceLT, Int.reduceAdd, Int.reduceSub, Int.reduceLT, Int.reduceLE, Int.reduceNeg, Int.reduceEq, Nat.reduceEqDiff, not_true_eq_false, not_false_eq_true]
                    exact hN (by simp [pairB, colB, i0, i1]) _ ⟨_, rfl⟩
                  · simp only [i1, ↓x_fnD, ↓x_skip, ↓x_seq, ↓x_brk, ↓x_cnt, ↓x_exp, ↓x_ret, ↓x_retN, ↓x_ifS, ↓x_set, ↓x_asg, ↓x_own, ↓x_fLst, ↓x_tape, ↓x_C, ↓x_op, ↓x_un, ↓x_test, ↓x_and, ↓x_or, ↓x_not, ↓x_if, ↓x_dnil, ↓x_dcons, ↓x_anil, ↓x_acons, ↓x_tup, ↓x_lst, ↓x_call, ↓x_fn, ↓x_isi, ↓x_new, ↓x_gN, ↓x_yes, ↓x_for, ↓x_iData, ↓x_iRg1, ↓x_oNo, ↓x_oSome, ↓x_sl, ↓x_mD1, ↓x_mD2, ↓x_mD3, ↓x_mD4, ↓x_mD5, ↓x_mT0, ↓x_mT1, ↓x_mT2, ↓x_mT3, ↓x_mT4, ↓x_eqI, ↓x_eqS, ↓x_eqB, ↓x_eqIS, ↓x_eqSI, ↓x_eqNN, ↓x_eqNI, ↓x_eqIN, ↓x_eqNS, ↓x_eqSN, ↓x_neI, ↓x_neS, ↓x_neB, ↓x_ltI, ↓x_ltS, ↓x_leI, ↓x_leS, ↓x_gtI, ↓x_gtS, ↓x_geI, ↓x_geS, ↓x_isN, ↓x_notN, ↓x_nonN, ↓x_nonI, ↓x_nonB, ↓x_nonS, ↓x_nonT, ↓x_nonL, ↓x_addI, ↓x_addS, ↓x_addT, ↓x_addL, ↓x_subI, ↓x_negI, ↓x_mulI, ↓x_mulS, ↓x_mulL, ↓x_modI, ↓x_divI, ↓x_powI, ↓x_lenL, ↓x_lenT, ↓x_lenS, ↓x_max2, ↓x_min2, ↓x_int1I, ↓x_int1B, ↓x_listL, ↓x_listT, ↓x_listS, ↓x_itL, ↓x_itT, ↓x_itS, ↓x_ixL0, ↓x_ixT0, ↓x_ixT1, ↓x_ixL1, ↓x_ixT2, ↓x_ixL2, ↓x_ixT3, ↓x_ixT4, ↓x_ixT5, ↓x_lc, ↓x_wipe0, ↓x_wipe1, ↓x_join, ↓x_gT, ↓x_gsN, ↓x_gsC, ↓x_notV, ↓x_andV, ↓x_orV, ↓x_chain, ↓x_tape1, ↓x_v0, ↓x_st0, ↓x_ap0, ↓x_io0, ↓x_lo0, ↓x_ro0, ↓x_v1, ↓x_st1, ↓x_ap1, ↓x_io1, ↓x_lo1, ↓x_ro1, ↓x_v2, ↓x_st2, ↓x_ap2, ↓x_io2, ↓x_lo2, ↓x_ro2, ↓x_v3, ↓x_st3, ↓x_ap3, ↓x_io3, ↓x_lo3, ↓x_ro3, ↓x_v4, ↓x_st4, ↓x_ap4, ↓x_io4, ↓x_lo4, ↓x_ro4, ↓x_v5, ↓x_st5, ↓x_ap5, ↓x_io5, ↓x_lo5, ↓x_ro5, ↓x_v6, ↓x_st6, ↓x_ap6, ↓x_io6, ↓x_lo6, ↓x_ro6, ↓x_v7, ↓x_st7, ↓x_ap7, ↓x_io7, ↓x_lo7, ↓x_ro7, ↓x_v8, ↓x_st8, ↓x_ap8, ↓x_io8, ↓x_lo8, ↓x_ro8, ↓x_v9, ↓x_st9, ↓x_ap9, ↓x_io9, ↓x_lo9, ↓x_ro9, ↓x_v10, ↓x_st10, ↓x_ap10, ↓x_io10, ↓x_lo10, ↓x_ro10, ↓x_v11, ↓x_st11, ↓x_ap11, ↓x_io11, ↓x_lo11, ↓x_ro11, ↓x_v12, ↓x_v13, ↓x_v14, ↓x_v15, ↓x_ss0, ↓x_ls0, ↓x_subII, ↓x_subBB, ↓x_repr, ↓x_sw, ↓x_M1, ↓x_par, ↓x_gSt1, ↓x_gSt3, ↓x_fo0, ↓x_fd0, ↓x_po0, ↓x_pt0, ↓x_fo1, ↓x_fd1, ↓x_po1, ↓x_pt1, ↓x_fo2, ↓x_fd2, ↓x_po2, ↓x_pt2, ↓x_fo3, ↓x_fd3, ↓x_po3, ↓x_pt3, ↓x_fo4, ↓x_fd4, ↓x_po4, ↓x_pt4, ↓x_fo5, ↓x_fd5, ↓x_po5, ↓x_pt5, ↓x_fo6, ↓x_fd6, ↓x_po6, ↓x_pt6, ↓x_fo7, ↓x_fd7, ↓x_po7, ↓x_pt7, ↓x_fo8, ↓x_fd8, ↓x_po8, ↓x_pt8, ↓x_fo9, ↓x_fd9, ↓x_po9, ↓x_pt9, ↓x_fo10, ↓x_fd10, ↓x_po10, ↓x_pt10, ↓x_fo11, ↓x_fd11, ↓x_po11, ↓x_pt11, ↓x_plI, ↓x_plB, ↓x_plS, ↓x_in2, ↓x_in3, ↓x_sl1T, ↓x_sl1L, ↓x_slS, ↓x_tuL, ↓x_tuT, ↓x_enumD, ↓x_iAsc, ↓x_eq0T, ↓x_eq0L, ↓x_mulT, ↓x_pu0, ↓x_pu1, ↓x_pu2, ↓x_pu3, ↓x_pu4, ↓x_pu5, ↓x_pu6, ↓x_pu7, ↓x_pu8, ↓x_pu9, ↓x_pu10, ↓x_pu11, ↓x_isB, ↓x_isNB, ↓x_nonD, ↓x_in4, ↓x_nin4, ↓x_nin2, ↓x_tupRg, ↓x_lstRg, ↓x_g_LIMIT, ↓x_g_MAX_CHOICES, ↓x_g_MAX_DEPTH, ↓x_g_MAX_ORDER, ↓x_g_MAX_TEXT, ↓x_g_TESTS, List.cons_append, List.nil_append, List.replicate_succ, List.replicate_zero, List.set_cons_zero, List.set_cons_succ, List.getElem?_cons_zero, List.getElem?_cons_succ, decide_eq_true_eq, Bool.false_eq_true, Bool.true_eq_false, ↓reduceIte, Bool.not_true, Bool.not_false, decide_true, decide_false, isTy, isTyK, kindD, PySem.sizeLine_eq, List.length_cons, List.length_nil, true_and, and_true, true_implies, Bool.not_eq_true', decide_eq_false_iff_not, Nat.reduceAdd, Nat.reduceLeDiff, Nat.reduceLT, Int.reduceAdd, Int.reduceSub, Int.reduceLT, Int.reduceLE, Int.reduceNeg, Int.reduceEq, Nat.reduceEqDiff, not_true_eq_false, not_false_eq_true]
                    exact hF (by simp [pairB, colB, i1])
                · simp only [i0, ↓x_fnD, ↓x_skip, ↓x_seq, ↓x_brk, ↓x_cnt, ↓x_exp, ↓x_ret, ↓x_retN, ↓x_ifS, ↓x_set, ↓x_asg, ↓x_own, ↓x_fLst, ↓x_tape, ↓x_C, ↓x_op, ↓x_un, ↓x_test, ↓x_and, ↓x_or, ↓x_not, ↓x_if, ↓x_dnil, ↓x_dcons, ↓x_anil, ↓x_acons, ↓x_tup, ↓x_lst, ↓x_call, ↓x_fn, ↓x_isi, ↓x_new, ↓x_gN, ↓x_yes, ↓x_for, ↓x_iData, ↓x_iRg1, ↓x_oNo, ↓x_oSome, ↓x_sl, ↓x_mD1, ↓x_mD2, ↓x_mD3, ↓x_mD4, ↓x_mD5, ↓x_mT0, ↓x_mT1, ↓x_mT2, ↓x_mT3, ↓x_mT4, ↓x_eqI, ↓x_eqS, ↓x_eqB, ↓x_eqIS, ↓x_eqSI, ↓x_eqNN, ↓x_eqNI, ↓x_eqIN, ↓x_eqNS, ↓x_eqSN, ↓x_neI, ↓x_neS, ↓x_neB, ↓x_ltI, ↓x_ltS, ↓x_leI, ↓x_leS, ↓x_gtI, ↓x_gtS, ↓x_geI, ↓x_geS, ↓x_isN, ↓x_notN, ↓x_nonN, ↓x_nonI, ↓x_nonB, ↓x_nonS, ↓x_nonT, ↓x_nonL, ↓x_addI, ↓x_addS, ↓x_addT, ↓x_addL, ↓x_subI, ↓x_negI, ↓x_mulI, ↓x_mulS, ↓x_mulL, ↓x_modI, ↓x_divI, ↓x_powI, ↓x_lenL, ↓x_lenT, ↓x_lenS, ↓x_max2, ↓x_min2, ↓x_int1I, ↓x_int1B, ↓x_listL, ↓x_listT, ↓x_listS, ↓x_itL, ↓x_itT, ↓x_itS, ↓x_ixL0, ↓x_ixT0, ↓x_ixT1, ↓x_ixL1, ↓x_ixT2, ↓x_ixL2, ↓x_ixT3, ↓x_ixT4, ↓x_ixT5, ↓x_lc, ↓x_wipe0, ↓x_wipe1, ↓x_join, ↓x_gT, ↓x_gsN, ↓x_gsC, ↓x_notV, ↓x_andV, ↓x_orV, ↓x_chain, ↓x_tape1, ↓x_v0, ↓x_st0, ↓x_ap0, ↓x_io0, ↓x_lo0, ↓x_ro0, ↓x_v1, ↓x_st1, ↓x_ap1, ↓x_io1, ↓x_lo1, ↓x_ro1, ↓x_v2, ↓x_st2, ↓x_ap2, ↓x_io2, ↓x_lo2, ↓x_ro2, ↓x_v3, ↓x_st3, ↓x_ap3, ↓x_io3, ↓x_lo3, ↓x_ro3, ↓x_v4, ↓x_st4, ↓x_ap4, ↓x_io4, ↓x_lo4, ↓x_ro4, ↓x_v5, ↓x_st5, ↓x_ap5, ↓x_io5, ↓x_lo5, ↓x_ro5, ↓x_v6, ↓x_st6, ↓x_ap6, ↓x_io6, ↓x_lo6, ↓x_ro6, ↓x_v7, ↓x_st7, ↓x_ap7, ↓x_io7, ↓x_lo7, ↓x_ro7, ↓x_v8, ↓x_st8, ↓x_ap8, ↓x_io8, ↓x_lo8, ↓x_ro8, ↓x_v9, ↓x_st9, ↓x_ap9, ↓x_io9, ↓x_lo9, ↓x_ro9, ↓x_v10, ↓x_st10, ↓x_ap10, ↓x_io10, ↓x_lo10, ↓x_ro10, ↓x_v11, ↓x_st11, ↓x_ap11, ↓x_io11, ↓x_lo11, ↓x_ro11, ↓x_v12, ↓x_v13, ↓x_v14, ↓x_v15, ↓x_ss0, ↓x_ls0, ↓x_subII, ↓x_subBB, ↓x_repr, ↓x_sw, ↓x_M1, ↓x_par, ↓x_gSt1, ↓x_gSt3, ↓x_fo0, ↓x_fd0, ↓x_po0, ↓x_pt0, ↓x_fo1, ↓x_fd1, ↓x_po1, ↓x_pt1, ↓x_fo2, ↓x_fd2, ↓x_po2, ↓x_pt2, ↓x_fo3, ↓x_fd3, ↓x_po3, ↓x_pt3, ↓x_fo4, ↓x_fd4, ↓x_po4, ↓x_pt4, ↓x_fo5, ↓x_fd5, ↓x_po5, ↓x_pt5, ↓x_fo6, ↓x_fd6, ↓x_po6, ↓x_pt6, ↓x_fo7, ↓x_fd7, ↓x_po7, ↓x_pt7, ↓x_fo8, ↓x_fd8, ↓x_po8, ↓x_pt8, ↓x_fo9, ↓x_fd9, ↓x_po9, ↓x_pt9, ↓x_fo10, ↓x_fd10, ↓x_po10, ↓x_pt10, ↓x_fo11, ↓x_fd11, ↓x_po11, ↓x_pt11, ↓x_plI, ↓x_plB, ↓x_plS, ↓x_in2, ↓x_in3, ↓x_sl1T, ↓x_sl1L, ↓x_slS, ↓x_tuL, ↓x_tuT, ↓x_enumD, ↓x_iAsc, ↓x_eq0T, ↓x_eq0L, ↓x_mulT, ↓x_pu0, ↓x_pu1, ↓x_pu2, ↓x_pu3, ↓x_pu4, ↓x_pu5, ↓x_pu6, ↓x_pu7, ↓x_pu8, ↓x_pu9, ↓x_pu10, ↓x_pu11, ↓x_isB, ↓x_isNB, ↓x_nonD, ↓x_in4, ↓x_nin4, ↓x_nin2, ↓x_tupRg, ↓x_lstRg, ↓x_g_LIMIT, ↓x_g_MAX_CHOICES, ↓x_g_MAX_DEPTH, ↓x_g_MAX_ORDER, ↓x_g_MAX_TEXT, ↓x_g_TESTS, List.cons_append, List.nil_append, List.replicate_succ, List.replicate_zero, List.set_cons_zero, List.set_cons_succ, List.getElem?_cons_zero, List.getElem?_cons_succ, decide_eq_true_eq, Bool.false_eq_true, Bool.true_eq_false, ↓reduceIte, Bool.not_true, Bool.not_false, decide_true, decide_false, isTy, isTyK, kindD, PySem.sizeLine_eq, List.length_cons, List.length_nil, true_and, and_true, true_implies, Bool.not_eq_true', decide_eq_false_iff_not, Nat.reduceAdd, Nat.reduceLeDiff, Nat.reduceLT, Int.reduceAdd, Int.reduceSub, Int.reduceLT, Int.reduceLE, Int.reduceNeg, Int.reduceEq, Nat.reduceEqDiff, not_true_eq_false, not_false_eq_true]
                  exact hF (by simp [pairB, colB, i0])
              | _ =>
                simp only [isInt, ↓x_fnD, ↓x_skip, ↓x_seq, ↓x_brk, ↓x_cnt, ↓x_exp, ↓x_ret, ↓x_retN, ↓x_ifS, ↓x_set, ↓x_asg, ↓x_own, ↓x_fLst, ↓x_tape, ↓x_C, ↓x_op, ↓x_un, ↓x_test, ↓x_and, ↓x_or, ↓x_not, ↓x_if, ↓x_dnil, ↓x_dcons, ↓x_anil, ↓x_acons, ↓x_tup, ↓x_lst, ↓x_call, ↓x_fn, ↓x_isi, ↓x_new, ↓x_gN, ↓x_yes, ↓x_for, ↓x_iData, ↓x_iRg1, ↓x_oNo, ↓x_oSome, ↓x_sl, ↓x_mD1, ↓x_mD2, ↓x_mD3, ↓x_mD4, ↓x_mD5, ↓x_mT0, ↓x_mT1, ↓x_mT2, ↓x_mT3, ↓x_mT4, ↓x_eqI, ↓x_eqS, ↓x_eqB, ↓x_eqIS, ↓x_eqSI, ↓x_eqNN, ↓x_eqNI, ↓x_eqIN, ↓x_eqNS, ↓x_eqSN, ↓x_neI, ↓x_neS, ↓x_neB, ↓x_ltI, ↓x_ltS, ↓x_leI, ↓x_leS, ↓x_gtI, ↓x_gtS, ↓x_geI, ↓x_geS, ↓x_isN, ↓x_notN, ↓x_nonN, ↓x_nonI, ↓x_nonB, ↓x_nonS, ↓x_nonT, ↓x_nonL, ↓x_addI, ↓x_addS, ↓x_addT, ↓x_addL, ↓x_subI, ↓x_negI, ↓x_mulI, ↓x_mulS, ↓x_mulL, ↓x_modI, ↓x_divI, ↓x_powI, ↓x_lenL, ↓x_lenT, ↓x_lenS, ↓x_max2, ↓x_min2, ↓x_int1I, ↓x_int1B, ↓x_listL, ↓x_listT, ↓x_listS, ↓x_itL, ↓x_itT, ↓x_itS, ↓x_ixL0, ↓x_ixT0, ↓x_ixT1, ↓x_ixL1, ↓x_ixT2, ↓x_ixL2, ↓x_ixT3, ↓x_ixT4, ↓x_ixT5, ↓x_lc, ↓x_wipe0, ↓x_wipe1, ↓x_join, ↓x_gT, ↓x_gsN, ↓x_gsC, ↓x_notV, ↓x_andV, ↓x_orV, ↓x_chain, ↓x_tape1, ↓x_v0, ↓x_st0, ↓x_ap0, ↓x_io0, ↓x_lo0, ↓x_ro0, ↓x_v1, ↓x_st1, ↓x_ap1, ↓x_io1, ↓x_lo1, ↓x_ro1, ↓x_v2, ↓x_st2, ↓x_ap2, ↓x_io2, ↓x_lo2, ↓x_ro2, ↓x_v3, ↓x_st3, ↓x_ap3, ↓x_io3, ↓x_lo3, ↓x_ro3, ↓x_v4, ↓x_st4, ↓x_ap4, ↓x_io4, ↓x_lo4, ↓x_ro4, ↓x_v5, ↓x_st5, ↓x_ap5, ↓x_io5, ↓x_lo5, ↓x_ro5, ↓x_v6, ↓x_st6, ↓x_ap6, ↓x_io6, ↓x_lo6, ↓x_ro6, ↓x_v7, ↓x_st7, ↓x_ap7, ↓x_io7, ↓x_lo7, ↓x_ro7, ↓x_v8, ↓x_st8, ↓x_ap8, ↓x_io8, ↓x_lo8, ↓x_ro8, ↓x_v9, ↓x_st9, ↓x_ap9, ↓x_io9, ↓x_lo9, ↓x_ro9, ↓x_v10, ↓x_st10, ↓x_ap10, ↓x_io10, ↓x_lo10, ↓x_ro10, ↓x_v11, ↓x_st11, ↓x_ap11, ↓x_io11, ↓x_lo11, ↓x_ro11, ↓x_v12, ↓x_v13, ↓x_v14, ↓x_v15, ↓x_ss0, ↓x_ls0, ↓x_subII, ↓x_subBB, ↓x_repr, ↓x_sw, ↓x_M1, ↓x_par, ↓x_gSt1, ↓x_gSt3, ↓x_fo0, ↓x_fd0, ↓x_po0, ↓x_pt0, ↓x_fo1, ↓x_fd1, ↓x_po1, ↓x_pt1, ↓x_fo2, ↓x_fd2, ↓x_po2, ↓x_pt2, ↓x_fo3, ↓x_fd3, ↓x_po3, ↓x_pt3, ↓x_fo4, ↓x_fd4, ↓x_po4, ↓x_pt4, ↓x_fo5, ↓x_fd5, ↓x_po5, ↓x_pt5, ↓x_fo6, ↓x_fd6, ↓x_po6, ↓x_pt6, ↓x_fo7, ↓x_fd7, ↓x_po7, ↓x_pt7, ↓x_fo8, ↓x_fd8, ↓x_po8, ↓x_pt8, ↓x_fo9, ↓x_fd9, ↓x_po9, ↓x_pt9, ↓x_fo10, ↓x_fd10, ↓x_po10, ↓x_pt10, ↓x_fo11, ↓x_fd11, ↓x_po11, ↓x_pt11, ↓x_plI, ↓x_plB, ↓x_plS, ↓x_in2, ↓x_in3, ↓x_sl1T, ↓x_sl1L, ↓x_slS, ↓x_tuL, ↓x_tuT, ↓x_enumD, ↓x_iAsc, ↓x_eq0T, ↓x_eq0L, ↓x_mulT, ↓x_pu0, ↓x_pu1, ↓x_pu2, ↓x_pu3, ↓x_pu4, ↓x_pu5, ↓x_pu6, ↓x_pu7, ↓x_pu8, ↓x_pu9, ↓x_pu10, ↓x_pu11, ↓x_isB, ↓x_isNB, ↓x_nonD, ↓x_in4, ↓x_nin4, ↓x_nin2, ↓x_tupRg, ↓x_lstRg, ↓x_g_LIMIT, ↓x_g_MAX_CHOICES, ↓x_g_MAX_DEPTH, ↓x_g_MAX_ORDER, ↓x_g_MAX_TEXT, ↓x_g_TESTS, List.cons_append, List.nil_append, List.replicate_succ, List.replicate_zero, List.set_cons_zero, List.set_cons_succ, List.getElem?_cons_zero, List.getElem?_cons_succ, decide_eq_true_eq, Bool.false_eq_true, Bool.true_eq_false, ↓reduceIte, Bool.not_true, Bool.not_false, decide_true, decide_false, isTy, isTyK, kindD, PySem.sizeLine_eq, List.length_cons, List.length_nil, true_and, and_true, true_implies, Bool.not_eq_true', decide_eq_false_iff_not, Nat.reduceAdd, Nat.reduceLeDiff, Nat.reduceLT, Int.reduceAdd, Int.reduceSub, Int.reduceLT, Int.reduceLE, Int.reduceNeg, Int.reduceEq, Nat.reduceEqDiff, not_true_eq_false, not_false_eq_true]
                exact hF rfl
            | _ =>
              simp only [↓x_fnD, ↓x_skip, ↓x_seq, ↓x_brk, ↓x_cnt, ↓x_exp, ↓x_ret, ↓x_retN, ↓x_ifS, ↓x_set, ↓x_asg, ↓x_own, ↓x_fLst, ↓x_tape, ↓x_C, ↓x_op, ↓x_un, ↓x_test, ↓x_and, ↓x_or, ↓x_not, ↓x_if, ↓x_dnil, ↓x_dcons, ↓x_anil, ↓x_acons, ↓x_tup, ↓x_lst, ↓x_call, ↓x_fn, ↓x_isi, ↓x_new, ↓x_gN, ↓x_yes, ↓x_for, ↓x_iData, ↓x_iRg1, ↓x_oNo, ↓x_oSome, ↓x_sl, ↓x_mD1, ↓x_mD2, ↓x_mD3, ↓x_mD4, ↓x_mD5, ↓x_mT0, ↓x_mT1, ↓x_mT2, ↓x_mT3, ↓x_mT4, ↓x_eqI, ↓x_eqS, ↓x_eqB, ↓x_eqIS, ↓x_eqSI, ↓x_eqNN, ↓x_eqNI, ↓x_eqIN, ↓x_eqNS, ↓x_eqSN, ↓x_neI, ↓x_neS, ↓x_neB, ↓x_ltI, ↓x_ltS, ↓x_leI, ↓x_leS, ↓x_gtI, ↓x_gtS, ↓x_geI, ↓x_geS, ↓x_isN, ↓x_notN, ↓x_nonN, ↓x_nonI, ↓x_nonB, ↓x_nonS, ↓x_nonT, ↓x_nonL, ↓x_addI, ↓x_addS, ↓x_addT, ↓x_addL, ↓x_subI, ↓x_negI, ↓x_mulI, ↓x_mulS, ↓x_mulL, ↓x_modI, ↓x_divI, ↓x_powI, ↓x_lenL, ↓x_lenT, ↓x_lenS, ↓x_max2, ↓x_min2, ↓x_int1I, ↓x_int1B, ↓x_listL, ↓x_listT, ↓x_listS, ↓x_itL, ↓x_itT, ↓x_itS, ↓x_ixL0, ↓x_ixT0, ↓x_ixT1, ↓x_ixL1, ↓x_ixT2, ↓x_ixL2, ↓x_ixT3, ↓x_ixT4, ↓x_ixT5, ↓x_lc, ↓x_wipe0, ↓x_wipe1, ↓x_join, ↓x_gT, ↓x_gsN, ↓x_gsC, ↓x_notV, ↓x_andV, ↓x_orV, ↓x_chain, ↓x_tape1, ↓x_v0, ↓x_st0, ↓x_ap0, ↓x_io0, ↓x_lo0, ↓x_ro0, ↓x_v1, ↓x_st1, ↓x_ap1, ↓x_io1, ↓x_lo1, ↓x_ro1, ↓x_v2, ↓x_st2, ↓x_ap2, ↓x_io2, ↓x_lo2, ↓x_ro2, ↓x_v3, ↓x_st3, ↓x_ap3, ↓x_io3, ↓x_lo3, ↓x_ro3, ↓x_v4, ↓x_st4, ↓x_ap4, ↓x_io4, ↓x_lo4, ↓x_ro4, ↓x_v5, ↓x_st5, ↓x_ap5, ↓x_io5, ↓x_lo5, ↓x_ro5, ↓x_v6, ↓x_st6, ↓x_ap6, ↓x_io6, ↓x_lo6, ↓x_ro6, ↓x_v7, ↓x_st7, ↓x_ap7, ↓x_io7, ↓x_lo7, ↓x_ro7, ↓x_v8, ↓x_st8, ↓x_ap8, ↓x_io8, ↓x_lo8, ↓x_ro8, ↓x_v9, ↓x_st9, ↓x_ap9, ↓x_io9, ↓x_lo9, ↓x_ro9, ↓x_v10, ↓x_st10, ↓x_ap10, ↓x_io10, ↓x_lo10, ↓x_ro10, ↓x_v11, ↓x_st11, ↓x_ap11, ↓x_io11, ↓x_lo11, ↓x_ro11, ↓x_v12, ↓x_v13, ↓x_v14, ↓x_v15, ↓x_ss0, ↓x_ls0, ↓x_subII, ↓x_subBB, ↓x_repr, ↓x_sw, ↓x_M1, ↓x_par, ↓x_gSt1, ↓x_gSt3, ↓x_fo0, ↓x_fd0, ↓x_po0, ↓x_pt0, ↓x_fo1, ↓x_fd1, ↓x_po1, ↓x_pt1, ↓x_fo2, ↓x_fd2, ↓x_po2, ↓x_pt2, ↓x_fo3, ↓x_fd3, ↓x_po3, ↓x_pt3, ↓x_fo4, ↓x_fd4, ↓x_po4, ↓x_pt4, ↓x_fo5, ↓x_fd5, ↓x_po5, ↓x_pt5, ↓x_fo6, ↓x_fd6, ↓x_po6, ↓x_pt6, ↓x_fo7, ↓x_fd7, ↓x_po7, ↓x_pt7, ↓x_fo8, ↓x_fd8, ↓x_po8, ↓x_pt8, ↓x_fo9, ↓x_fd9, ↓x_po9, ↓x_pt9, ↓x_fo10, ↓x_fd10, ↓x_po10, ↓x_pt10, ↓x_fo11, ↓x_fd11, ↓x_po11, ↓x_pt11, ↓x_plI, ↓x_plB, ↓x_plS, ↓x_in2, ↓x_in3, ↓x_sl1T, ↓x_sl1L, ↓x_slS, ↓x_tuL, ↓x_tuT, ↓x_enumD, ↓x_iAsc, ↓x_eq0T, ↓x_eq0L, ↓x_mulT, ↓x_pu0, ↓x_pu1, ↓x_pu2, ↓x_pu3, ↓x_pu4, ↓x_pu5, ↓x_pu6, ↓x_pu7, ↓x_pu8, ↓x_pu9, ↓x_pu10, ↓x_pu11, ↓x_isB, ↓x_isNB, ↓x_nonD, ↓x_in4, ↓x_nin4, ↓x_nin2, ↓x_tupRg, ↓x_lstRg, ↓x_g_LIMIT, ↓x_g_MAX_CHOICES, ↓x_g_MAX_DEPTH, ↓x_g_MAX_ORDER, ↓x_g_MAX_TEXT, ↓x_g_TESTS, List.cons_append, List.nil_append, List.replicate_succ, List.replicate_zero, List.set_cons_zero, List.set_cons_succ, List.getElem?_cons_zero, List.getElem?_cons_succ, decide_eq_true_eq, Bool.false_eq_true, Bool.true_eq_false, ↓reduceIte, Bool.not_true, Bool.not_false, decide_true, decide_false, isTy, isTyK, kindD, PySem.sizeLine_eq, List.length_cons, List.length_nil, true_and, and_true, true_implies, Bool.not_eq_true', decide_eq_false_iff_not, Nat.reduceAdd, Nat.reduceLeDiff, Nat.reduceLT, Int.reduceAdd, Int.reduceSub, Int.reduceLT, Int.reduceLE, Int.reduceNeg, Int.reduceEq, Nat.reduceEqDiff, not_true_eq_false, not_false_eq_true]
              exact hF (by cases c <;> rfl)
          · have e3 : ¬ ((ys.length : Int) + 1 + 1 + 1 = 2) := by omega
            simp only [↓x_fnD, ↓x_skip, ↓x_seq, ↓x_brk, ↓x_cnt, ↓x_exp, ↓x_ret, ↓x_retN, ↓x_ifS, ↓x_set, ↓x_asg, ↓x_own, ↓x_fLst, ↓x_tape, ↓x_C, ↓x_op, ↓x_un, ↓x_test, ↓x_and, ↓x_or, ↓x_not, ↓x_if, ↓x_dnil, ↓x_dcons, ↓x_anil, ↓x_acons, ↓x_tup, ↓x_lst, ↓x_call, ↓x_fn, ↓x_isi, ↓x_new, ↓x_gN, ↓x_yes, ↓x_for, ↓x_iData, ↓x_iRg1, ↓x_oNo, ↓x_oSome, ↓x_sl, ↓x_mD1, ↓x_mD2, ↓x_mD3, ↓x_mD4, ↓x_mD5, ↓x_mT0, ↓x_mT1, ↓x_mT2, ↓x_mT3, ↓x_mT4, ↓x_eqI, ↓x_eqS, ↓x_eqB, ↓x_eqIS, ↓x_eqSI, ↓x_eqNN, ↓x_eqNI, ↓x_eqIN, ↓x_eqNS, ↓x_eqSN, ↓x_neI, ↓x_neS, ↓x_neB, ↓x_ltI, ↓x_ltS, ↓x_leI, ↓x_leS, ↓x_gtI, ↓x_gtS, ↓x_geI, ↓x_geS, ↓x_isN, ↓x_notN, ↓x_nonN, ↓x_nonI, ↓x_nonB, ↓x_nonS, ↓x_nonT, ↓x_nonL, ↓x_addI, ↓x_addS, ↓x_addT, ↓x_addL, ↓x_subI, ↓x_negI, ↓x_mulI, ↓x_mulS, ↓x_mulL, ↓x_modI, ↓x_divI, ↓x_powI, ↓x_lenL, ↓x_lenT, ↓x_lenS, ↓x_max2, ↓x_min2, ↓x_int1I, ↓x_int1B, ↓x_listL, ↓x_listT, ↓x_listS, ↓x_itL, ↓x_itT, ↓x_itS, ↓x_ixL0, ↓x_ixT0, ↓x_ixT1, ↓x_ixL1, ↓x_ixT2, ↓x_ixL2, ↓x_ixT3, ↓x_ixT4, ↓x_ixT5, ↓x_lc, ↓x_wipe0, ↓x_wipe1, ↓x_join, ↓x_gT, ↓x_gsN, ↓x_gsC, ↓x_notV, ↓x_andV, ↓x_orV, ↓x_chain, ↓x_tape1, ↓x_v0, ↓x_st0, ↓x_ap0, ↓x_io0, ↓x_lo0, ↓x_ro0, ↓x_v1, ↓x_st1, ↓x_ap1, ↓x_io1, ↓x_lo1, ↓x_ro1, ↓x_v2, ↓x_st2, ↓x_ap2, ↓x_io2, ↓x_lo2, ↓x_ro2, ↓x_v3, ↓x_st3, ↓x_ap3, ↓x_io3, ↓x_lo3, ↓x_ro3, ↓x_v4, ↓x_st4, ↓x_ap4, ↓x_io4, ↓x_lo4, ↓x_ro4, ↓x_v5, ↓x_st5, ↓x_ap5, ↓x_io5, ↓x_lo5, ↓x_ro5, ↓x_v6, ↓x_st6, ↓x_ap6, ↓x_io6, ↓x_lo6, ↓x_ro6, ↓x_v7, ↓x_st7, ↓x_ap7, ↓x_io7, ↓x_lo7, ↓x_ro7, ↓x_v8, ↓x_st8, ↓x_ap8, ↓x_io8, ↓x_lo8, ↓x_ro8, ↓x_v9, ↓x_st9, ↓x_ap9, ↓x_io9, ↓x_lo9, ↓x_ro9, ↓x_v10, ↓x_st10, ↓x_ap10, ↓x_io10, ↓x_lo10, ↓x_ro10, ↓x_v11, ↓x_st11, ↓x_ap11, ↓x_io11, ↓x_lo11, ↓x_ro11, ↓x_v12, ↓x_v13, ↓x_v14, ↓x_v15, ↓x_ss0, ↓x_ls0, ↓x_subII, ↓x_subBB, ↓x_repr, ↓x_sw, ↓x_M1, ↓x_par, ↓x_gSt1, ↓x_gSt3, ↓x_fo0, ↓x_fd0, ↓x_po0, ↓x_pt0, ↓x_fo1, ↓x_fd1, ↓x_po1, ↓x_pt1, ↓x_fo2, ↓x_fd2, ↓x_po2, ↓x_pt2, ↓x_fo3, ↓x_fd3, ↓x_po3, ↓x_pt3, ↓x_fo4, ↓x_fd4, ↓x_po4, ↓x_pt4, ↓x_fo5, ↓x_fd5, ↓x_po5, ↓x_pt5, ↓x_fo6, ↓x_fd6, ↓x_po6, ↓x_pt6, ↓x_fo7, ↓x_fd7, ↓x_po7, ↓x_pt7, ↓x_fo8, ↓x_fd8, ↓x_po8, ↓x_pt8, ↓x_fo9, ↓x_fd9, ↓x_po9, ↓x_pt9, ↓x_fo10, ↓x_fd10, ↓x_po10, ↓x_pt10, ↓x_fo11, ↓x_fd11, ↓x_po11, ↓x_pt11, ↓x_plI, ↓x_plB, ↓x_plS, ↓x_in2, ↓x_in3, ↓x_sl1T, ↓x_sl1L, ↓x_slS, ↓x_tuL, ↓x_tuT, ↓x_enumD, ↓x_iAsc, ↓x_eq0T, ↓x_eq0L, ↓x_mulT, ↓x_pu0, ↓x_pu1, ↓x_pu2, ↓x_pu3, ↓x_pu4, ↓x_pu5, ↓x_pu6, ↓x_pu7, ↓x_pu8, ↓x_pu9, ↓x_pu10, ↓x_pu11, ↓x_isB, ↓x_isNB, ↓x_nonD, ↓x_in4, ↓x_nin4, ↓x_nin2, ↓x_tupRg, ↓x_lstRg, ↓x_g_LIMIT, ↓x_g_MAX_CHOICES, ↓x_g_MAX_DEPTH, ↓x_g_MAX_ORDER, ↓x_g_MAX_TEXT, ↓x_g_TESTS, List.cons_append, List.nil_append, List.replicate_succ, List.replicate_zero, List.set_cons_zero, List.set_cons_succ, List.getElem?_cons_zero, List.getElem?_cons_succ, decide_eq_true_eq, Bool.false_eq_true, Bool.true_eq_false, ↓reduceIte, Bool.not_true, Bool.not_false, decide_true, decide_false, isTy, isTyK, kindD, PySem.sizeLine_eq, List.length_cons, List.length_nil, true_and, and_true, true_implies, Bool.not_eq_true', decide_eq_false_iff_not, Nat.reduceAdd, Nat.reduceLeDiff, Nat.reduceLT, Int.reduceAdd, Int.reduceSub, Int.reduceLT, Int.reduceLE, Int.reduceNeg, Int.reduceEq, Nat.reduceEqDiff, not_true_eq_false, not_false_eq_true, List.length_cons, Int.natCast_add, Int.natCast_one, e3]
            exact hF (by cases b <;> rfl)
        | _ =>
          simp only [↓x_fnD, ↓x_skip, ↓x_seq, ↓x_brk, ↓x_cnt, ↓x_exp, ↓x_ret, ↓x_retN, ↓x_ifS, ↓x_set, ↓x_asg, ↓x_own, ↓x_fLst, ↓x_tape, ↓x_C, ↓x_op, ↓x_un, ↓x_test, ↓x_and, ↓x_or, ↓x_not, ↓x_if, ↓x_dnil, ↓x_dcons, ↓x_anil, ↓x_acons, ↓x_tup, ↓x_lst, ↓x_call, ↓x_fn, ↓x_isi, ↓x_new, ↓x_gN, ↓x_yes, ↓x_for, ↓x_iData, ↓x_iRg1, ↓x_oNo, ↓x_oSome, ↓x_sl, ↓x_mD1, ↓x_mD2, ↓x_mD3, ↓x_mD4, ↓x_mD5, ↓x_mT0, ↓x_mT1, ↓x_mT2, ↓x_mT3, ↓x_mT4, ↓x_eqI, ↓x_eqS, ↓x_eqB, ↓x_eqIS, ↓x_eqSI, ↓x_eqNN, ↓x_eqNI, ↓x_eqIN, ↓x_eqNS, ↓x_eqSN, ↓x_neI, ↓x_neS, ↓x_neB, ↓x_ltI, ↓x_ltS, ↓x_leI, ↓x_leS, ↓x_gtI, ↓x_gtS, ↓x_geI, ↓x_geS, ↓x_isN, ↓x_notN, ↓x_nonN, ↓x_nonI, ↓x_nonB, ↓x_nonS, ↓x_nonT, ↓x_nonL, ↓x_addI, ↓x_addS, ↓x_addT, ↓x_addL, ↓x_subI, ↓x_negI, ↓x_mulI, ↓x_mulS, ↓x_mulL, ↓x_modI, ↓x_divI, ↓x_powI, ↓x_lenL, ↓x_lenT, ↓x_lenS, ↓x_max2, ↓x_min2, ↓x_int1I, ↓x_int1B, ↓x_listL, ↓x_listT, ↓x_listS, ↓x_itL, ↓x_itT, ↓x_itS, ↓x_ixL0, ↓x_ixT0, ↓x_ixT1, ↓x_ixL1, ↓x_ixT2, ↓x_ixL2, ↓x_ixT3, ↓x_ixT4, ↓x_ixT5, ↓x_lc, ↓x_wipe0, ↓x_wipe1, ↓x_join, ↓x_gT, ↓x_gsN, ↓x_gsC, ↓x_notV, ↓x_andV, ↓x_orV, ↓x_chain, ↓x_tape1, ↓x_v0, ↓x_st0, ↓x_ap0, ↓x_io0, ↓x_lo0, ↓x_ro0, ↓x_v1, ↓x_st1, ↓x_ap1, ↓x_io1, ↓x_lo1, ↓x_ro1, ↓x_v2, ↓x_st2, ↓x_ap2, ↓x_io2, ↓x_lo2, ↓x_ro2, ↓x_v3, ↓x_st3, ↓x_ap3, ↓x_io3, ↓x_lo3, ↓x_ro3, ↓x_v4, ↓x_st4, ↓x_ap4, ↓x_io4, ↓x_lo4, ↓x_ro4, ↓x_v5, ↓x_st5, ↓x_ap5, ↓x_io5, ↓x_lo5, ↓x_ro5, ↓x_v6, ↓x_st6, ↓x_ap6, ↓x_io6, ↓x_lo6, ↓x_ro6, ↓x_v7, ↓x_st7, ↓x_ap7, ↓x_io7, ↓x_lo7, ↓x_ro7, ↓x_v8, ↓x_st8, ↓x_ap8, ↓x_io8, ↓x_lo8, ↓x_ro8, ↓x_v9, ↓x_st9, ↓x_ap9, ↓x_io9, ↓x_lo9, ↓x_ro9, ↓x_v10, ↓x_st10, ↓x_ap10, ↓x_io10, ↓x_lo10, ↓x_ro10, ↓x_v11, ↓x_st11, ↓x_ap11, ↓x_io11, ↓x_lo11, ↓x_ro11, ↓x_v12, ↓x_v13, ↓x_v14, ↓x_v15, ↓x_ss0, ↓x_ls0, ↓x_subII, ↓x_subBB, ↓x_repr, ↓x_sw, ↓x_M1, ↓x_par, ↓x_gSt1, ↓x_gSt3, ↓x_fo0, ↓x_fd0, ↓x_po0, ↓x_pt0, ↓x_fo1, ↓x_fd1, ↓x_po1, ↓x_pt1, ↓x_fo2, ↓x_fd2, ↓x_po2, ↓x_pt2, ↓x_fo3, ↓x_fd3, ↓x_po3, ↓x_pt3, ↓x_fo4, ↓x_fd4, ↓x_po4, ↓x_pt4, ↓x_fo5, ↓x_fd5, ↓x_po5, ↓x_pt5, ↓x_fo6, ↓x_fd6, ↓x_po6, ↓x_pt6, ↓x_fo7, ↓x_fd7, ↓x_po7, ↓x_pt7, ↓x_fo8, ↓x_fd8, ↓x_po8, ↓x_pt8, ↓x_fo9, ↓x_fd9, ↓x_po9, ↓x_pt9, ↓x_fo10, ↓x_fd10, ↓x_po10, ↓x_pt10, ↓x_fo11, ↓x_fd11, ↓x_po11, ↓x_pt11, ↓x_plI, ↓x_plB, ↓x_plS, ↓x_in2, ↓x_in3, ↓x_sl1T, ↓x_sl1L, ↓x_slS, ↓x_tuL, ↓x_tuT, ↓x_enumD, ↓x_iAsc, ↓x_eq0T, ↓x_eq0L, ↓x_mulT, ↓x_pu0, ↓x_pu1, ↓x_pu2, ↓x_pu3, ↓x_pu4, ↓x_pu5, ↓x_pu6, ↓x_pu7, ↓x_pu8, ↓x_pu9, ↓x_pu10, ↓x_pu11, ↓x_isB, ↓x_isNB, ↓x_nonD, ↓x_in4, ↓x_nin4, ↓x_nin2, ↓x_tupRg, ↓x_lstRg, ↓x_g_LIMIT, ↓x_g_MAX_CHOICES, ↓x_g_MAX_DEPTH, ↓x_g_MAX_ORDER, ↓x_g_MAX_TEXT, ↓x_g_TESTS, List.cons_append, List.nil_append, List.replicate_succ, List.replicate_zero, List.set_cons_zero, List.set_cons_succ, List.getElem?_cons_zero, List.getElem?_cons_succ, decide_eq_true_eq, Bool.false_eq_true, Bool.true_eq_false, ↓reduceIte, Bool.not_true, Bool.not_false, decide_true, decide_false, isTy, isTyK, kindD, PySem.sizeLine_eq, List.length_cons, List.length_nil, true_and, and_true, true_implies, Bool.not_eq_true', decide_eq_false_iff_not, Nat.reduceAdd, Nat.reduceLeDiff, Nat.reduceLT, Int.reduceAdd, Int.reduceSub, Int.reduceLT, Int.reduceLE, Int.reduceNeg, Int.reduceEq, Nat.reduceEqDiff, not_true_eq_false, not_false_eq_true]
          exact hF rfl
      · obtain ⟨a, rfl⟩ := hω
        rw [List.nil_append] at ha
        rw [ha, Bool.true_and] at h'
        simp only [↓x_fnD, ↓x_skip, ↓x_seq, ↓x_brk, ↓x_cnt, ↓x_exp, ↓x_ret, ↓x_retN, ↓x_ifS, ↓x_set, ↓x_asg, ↓x_own, ↓x_fLst, ↓x_tape, ↓x_C, ↓x_op, ↓x_un, ↓x_test, ↓x_and, ↓x_or, ↓x_not, ↓x_if, ↓x_dnil, ↓x_dcons, ↓x_anil, ↓x_acons, ↓x_tup, ↓x_lst, ↓x_call, ↓x_fn, ↓x_isi, ↓x_new, ↓x_gN, ↓x_yes, ↓x_for, ↓x_iData, ↓x_iRg1, ↓x_oNo, ↓x_oSome, ↓x_sl, ↓x_mD1, ↓x_mD2, ↓x_mD3, ↓x_mD4, ↓x_mD5, ↓x_mT0, ↓x_mT1, ↓x_mT2, ↓x_mT3, ↓x_mT4, ↓x_eqI, ↓x_eqS, ↓x_eqB, ↓x_eqIS, ↓x_eqSI, ↓x_eqNN, ↓x_eqNI, ↓x_eqIN, ↓x_eqNS, ↓x_eqSN, ↓x_neI, ↓x_neS, ↓x_neB, ↓x_ltI, ↓x_ltS, ↓x_leI, ↓x_leS, ↓x_gtI, ↓x_gtS, ↓x_geI, ↓x_geS, ↓x_isN, ↓x_notN, ↓x_nonN, ↓x_nonI, ↓x_nonB, ↓x_nonS, ↓x_nonT, ↓x_nonL, ↓x_addI, ↓x_addS, ↓x_addT, ↓x_addL, ↓x_subI, ↓x_negI, ↓x_mulI, ↓x_mulS, ↓x_mulL, ↓x_modI, ↓x_divI, ↓x_powI, ↓x_lenL, ↓x_lenT, ↓x_lenS, ↓x_max2, ↓x_min2, ↓x_int1I, ↓x_int1B, ↓x_listL, ↓x_listT, ↓x_listS, ↓x_itL, ↓x_itT, ↓x_itS, ↓x_ixL0, ↓x_ixT0, ↓x_ixT1, ↓x_ixL1, ↓x_ixT2, ↓x_ixL2, ↓x_ixT3, ↓x_ixT4, ↓x_ixT5, ↓x_lc, ↓x_wipe0, ↓x_wipe1, ↓x_join, ↓x_gT, ↓x_gsN, ↓x_gsC, ↓x_notV, ↓x_andV, ↓x_orV, ↓x_chain, ↓x_tape1, ↓x_v0, ↓x_st0, ↓x_ap0, ↓x_io0, ↓x_lo0, ↓x_ro0, ↓x_v1, ↓x_st1, ↓x_ap1, ↓x_io1, ↓x_lo1, ↓x_ro1, ↓x_v2, ↓x_st2, ↓x_ap2, ↓x_io2, ↓x_lo2, ↓x_ro2, ↓x_v3, ↓x_st3, ↓x_ap3, ↓x_io3, ↓x_lo3, ↓x_ro3, ↓x_v4, ↓x_st4, ↓x_ap4, ↓x_io4, ↓x_lo4, ↓x_ro4, ↓x_v5, ↓x_st5, ↓x_ap5, ↓x_io5, ↓x_lo5, ↓x_ro5, ↓x_v6, ↓x_st6, ↓x_ap6, ↓x_io6, ↓x_lo6, ↓x_ro6, ↓x_v7, ↓x_st7, ↓x_ap7, ↓x_io7, ↓x_lo7, ↓x_ro7, ↓x_v8, ↓x_st8, ↓x_ap8, ↓x_io8, ↓x_lo8, ↓x_ro8, ↓x_v9, ↓x_st9, ↓x_ap9, ↓x_io9, ↓x_lo9, ↓x_ro9, ↓x_v10, ↓x_st10, ↓x_ap10, ↓x_io10, ↓x_lo10, ↓x_ro10, ↓x_v11, ↓x_st11, ↓x_ap11, ↓x_io11, ↓x_lo11, ↓x_ro11, ↓x_v12, ↓x_v13, ↓x_v14, ↓x_v15, ↓x_ss0, ↓x_ls0, ↓x_subII, ↓x_subBB, ↓x_repr, ↓x_sw, ↓x_M1, ↓x_par, ↓x_gSt1, ↓x_gSt3, ↓x_fo0, ↓x_fd0, ↓x_po0, ↓x_pt0, ↓x_fo1, ↓x_fd1, ↓x_po1, ↓x_pt1, ↓x_fo2, ↓x_fd2, ↓x_po2, ↓x_pt2, ↓x_fo3, ↓x_fd3, ↓x_po3, ↓x_pt3, ↓x_fo4, ↓x_fd4, ↓x_po4, ↓x_pt4, ↓x_fo5, ↓x_fd5, ↓x_po5, ↓x_pt5, ↓x_fo6, ↓x_fd6, ↓x_po6, ↓x_pt6, ↓x_fo7, ↓x_fd7, ↓x_po7, ↓x_pt7, ↓x_fo8, ↓x_fd8, ↓x_po8, ↓x_pt8, ↓x_fo9, ↓x_fd9, ↓x_po9, ↓x_pt9, ↓x_fo10, ↓x_fd10, ↓x_po10, ↓x_pt10, ↓x_fo11, ↓x_fd11, ↓x_po11, ↓x_pt11, ↓x_plI, ↓x_plB, ↓x_plS, ↓x_in2, ↓x_in3, ↓x_sl1T, ↓x_sl1L, ↓x_slS, ↓x_tuL, ↓x_tuT, ↓x_enumD, ↓x_iAsc, ↓x_eq0T, ↓x_eq0L, ↓x_mulT, ↓x_pu0, ↓x_pu1, ↓x_pu2, ↓x_pu3, ↓x_pu4, ↓x_pu5, ↓x_pu6, ↓x_pu7, ↓x_pu8, ↓x_pu9, ↓x_pu10, ↓x_pu11, ↓x_isB, ↓x_isNB, ↓x_nonD, ↓x_in4, ↓x_nin4, ↓x_nin2, ↓x_tupRg, ↓x_lstRg, ↓x_g_LIMIT, ↓x_g_MAX_CHOICES, ↓x_g_MAX_DEPTH, ↓x_g_MAX_ORDER, ↓x_g_MAX_TEXT, ↓x_g_TESTS, List.cons_append, List.nil_append, List.replicate_succ, List.replicate_zero, List.set_cons_zero, List.set_cons_succ, List.getElem?_cons_zero, List.getElem?_cons_succ, decide_eq_true_eq, Bool.false_eq_true, Bool.true_eq_false, ↓reduceIte, Bool.not_true, Bool.not_false, decide_true, decide_false, isTy, isTyK, kindD, PySem.sizeLine_eq, List.length_cons, List.length_nil, true_and, and_true, true_implies, Bool.not_eq_true', decide_eq_false_iff_not, Nat.reduceAdd, Nat.reduceLeDiff, Nat.reduceLT, Int.reduceAdd, Int.reduceSub, Int.reduceLT, Int.reduceLE, Int.reduceNeg, Int.reduceEq, Nat.reduceEqDiff, not_true_eq_false, not_false_eq_true]
        refine fun _ => ⟨hs, lc_map (fun p => .int (colI (fstD p))) xs [] (fun d hd N hN => ?_) ?_⟩
        · obtain ⟨i, b, rfl, _, _⟩ := pair_col (List.all_eq_true.mp ha d hd)
          simp only [↓x_fnD, ↓x_skip, ↓x_seq, ↓x_brk, ↓x_cnt, ↓x_exp, ↓x_ret, ↓x_retN, ↓x_ifS, ↓x_set, ↓x_asg, ↓x_own, ↓x_fLst, ↓x_tape, ↓x_C, ↓x_op, ↓x_un, ↓x_test, ↓x_and, ↓x_or, ↓x_not, ↓x_if, ↓x_dnil, ↓x_dcons, ↓x_anil, ↓x_acons, ↓x_tup, ↓x_lst, ↓x_call, ↓x_fn, ↓x_isi, ↓x_new, ↓x_gN, ↓x_yes, ↓x_for, ↓x_iData, ↓x_iRg1, ↓x_oNo, ↓x_oSome, ↓x_sl, ↓x_mD1, ↓x_mD2, ↓x_mD3, ↓x_mD4, ↓x_mD5, ↓x_mT0, ↓x_mT1, ↓x_mT2, ↓x_mT3, ↓x_mT4, ↓x_eqI, ↓x_eqS, ↓x_eqB, ↓x_eqIS, ↓x_eqSI, ↓x_eqNN, ↓x_eqNI, ↓x_eqIN, ↓x_eqNS, ↓x_eqSN, ↓x_neI, ↓x_neS, ↓x_neB, ↓x_ltI, ↓x_ltS, ↓x_leI, ↓x_leS, ↓x_gtI, ↓x_gtS, ↓x_geI, ↓x_geS, ↓x_isN, ↓x_notN, ↓x_nonN, ↓x_nonI, ↓x_nonB, ↓x_nonS, ↓x_nonT, ↓x_nonL, ↓x_addI, ↓x_addS, ↓x_addT, ↓x_addL, ↓x_subI, ↓x_negI, ↓x_mulI, ↓x_mulS, ↓x_mulL, ↓x_modI, ↓x_divI, ↓x_powI, ↓x_lenL, ↓x_lenT, ↓x_lenS, ↓x_max2, ↓x_min2, ↓x_int1I, ↓x_int1B, ↓x_listL, ↓x_listT, ↓x_listS, ↓x_itL, ↓x_itT, ↓x_itS, ↓x_ixL0, ↓x_ixT0, ↓x_ixT1, ↓x_ixL1, ↓x_ixT2, ↓x_ixL2, ↓x_ixT3, ↓x_ixT4, ↓x_ixT5, ↓x_lc, ↓x_wipe0, ↓x_wipe1, ↓x_join, ↓x_gT, ↓x_gsN, ↓x_gsC, ↓x_notV, ↓x_andV, ↓x_orV, ↓x_chain, ↓x_tape1, ↓x_v0, ↓x_st0, ↓x_ap0, ↓x_io0, ↓x_lo0, ↓x_ro0, ↓x_v1, ↓x_st1, ↓x_ap1, ↓x_io1, ↓x_lo1, ↓x_ro1, ↓x_v2, ↓x_st2, ↓x_ap2, ↓x_io2, ↓x_lo2, ↓x_ro2, ↓x_v3, ↓x_st3, ↓x_ap3, ↓x_io3, ↓x_lo3, ↓x_ro3, ↓x_v4, ↓x_st4, ↓x_ap4, ↓x_io4, ↓x_lo4, ↓x_ro4, ↓x_v5, ↓x_st5, ↓x_ap5, ↓x_io5, ↓x_lo5, ↓x_ro5, ↓x_v6, ↓x_st6, ↓x_ap6, ↓x_io6, ↓x_lo6, ↓x_ro6, ↓x_v7, ↓x_st7, ↓x_ap7, ↓x_io7, ↓x_lo7, ↓x_ro7, ↓x_v8, ↓x_st8, ↓x_ap8, ↓x_io8, ↓x_lo8, ↓x_ro8, ↓x_v9, ↓x_st9, ↓x_ap9, ↓x_io9, ↓x_lo9, ↓x_ro9, ↓x_v10, ↓x_st10, ↓x_ap10, ↓x_io10, ↓x_lo10, ↓x_ro10, ↓x_v11, ↓x_st11, ↓x_ap11, ↓x_io11, ↓x_lo11, ↓x_ro11, ↓x_v12, ↓x_v13, ↓x_v14, ↓x_v15, ↓x_ss0, ↓x_ls0, ↓x_subII, ↓x_subBB, ↓x_repr, ↓x_sw, ↓x_M1, ↓x_par, ↓x_gSt1, ↓x_gSt3, ↓x_fo0, ↓x_fd0, ↓x_po0, ↓x_pt0, ↓x_fo1, ↓x_fd1, ↓x_po1, ↓x_pt1, ↓x_fo2, ↓x_fd2, ↓x_po2, ↓x_pt2, ↓x_fo3, ↓x_fd3, ↓x_po3, ↓x_pt3, ↓x_fo4, ↓x_fd4, ↓x_po4, ↓x_pt4, ↓x_fo5, ↓x_fd5, ↓x_po5, ↓x_pt5, ↓x_fo6, ↓x_fd6, ↓x_po6, ↓x_pt6, ↓x_fo7, ↓x_fd7, ↓x_po7, ↓x_pt7, ↓x_fo8, ↓x_fd8, ↓x_po8, ↓x_pt8, ↓x_fo9, ↓x_fd9, ↓x_po9, ↓x_pt9, ↓x_fo10, ↓x_fd10, ↓x_po10, ↓x_pt10, ↓x_fo11, ↓x_fd11, ↓x_po11, ↓x_pt11, ↓x_plI, ↓x_plB, ↓x_plS, ↓x_in2, ↓x_in3, ↓x_sl1T, ↓x_sl1L, ↓x_slS, ↓x_tuL, ↓x_tuT, ↓x_enumD, ↓x_iAsc, ↓x_eq0T, ↓x_eq0L, ↓x_mulT, ↓x_pu0, ↓x_pu1, ↓x_pu2, ↓x_pu3, ↓x_pu4, ↓x_pu5, ↓x_pu6, ↓x_pu7, ↓x_pu8, ↓x_pu9, ↓x_pu10, ↓x_pu11, ↓x_isB, ↓x_isNB, ↓x_nonD, ↓x_in4, ↓x_nin4, ↓x_nin2, ↓x_tupRg, ↓x_lstRg, ↓x_g_LIMIT, ↓x_g_MAX_CHOICES, ↓x_g_MAX_DEPTH, ↓x_g_MAX_ORDER, ↓x_g_MAX_TEXT, ↓x_g_TESTS, List.cons_append, List.nil_append, List.replicate_succ, List.replicate_zero, List.set_cons_zero, List.set_cons_succ, List.getElem?_cons_zero, List.getElem?_cons_succ, decide_eq_true_eq, Bool.false_eq_true, Bool.true_eq_false, ↓reduceIte, Bool.not_true, Bool.not_false, decide_true, decide_false, isTy, isTyK, kindD, PySem.sizeLine_eq, List.length_cons, List.length_nil, true_and, and_true, true_implies, Bool.not_eq_true', decide_eq_false_iff_not, Nat.reduceAdd, Nat.reduceLeDiff, Nat.reduceLT, Int.reduceAdd, Int.reduceSub, Int.reduceLT, Int.reduceLE, Int.reduceNeg, Int.reduceEq, Nat.reduceEqDiff, not_true_eq_false, not_false_eq_true]
          exact hN
        · refine lenSet_ints (ns := colsOf xs) (.inl ?_) (by simp [colsOf]; omega) ?_
          · simp [colsOf, List.map_map, Function.comp_def]
          · simp only [↓x_fnD, ↓x_skip, ↓x_seq, ↓x_brk, ↓x_cnt, ↓x_exp, ↓x_ret, ↓x_retN, ↓x_ifS, ↓x_set, ↓x_asg, ↓x_own, ↓x_fLst, ↓x_tape, ↓x_C, ↓x_op, ↓x_un, ↓x_test, ↓x_and, ↓x_or, ↓x_not, ↓x_if, ↓x_dnil, ↓x_dcons, ↓x_anil, ↓x_acons, ↓x_tup, ↓x_lst, ↓x_call, ↓x_fn, ↓x_isi, ↓x_new, ↓x_gN, ↓x_yes, ↓x_for, ↓x_iData, ↓x_iRg1, ↓x_oNo, ↓x_oSome, ↓x_sl, ↓x_mD1, ↓x_mD2, ↓x_mD3, ↓x_mD4, ↓x_mD5, ↓x_mT0, ↓x_mT1, ↓x_mT2, ↓x_mT3, ↓x_mT4, ↓x_eqI, ↓x_eqS, ↓x_eqB, ↓x_eqIS, ↓x_eqSI, ↓x_eqNN, ↓x_eqNI, ↓x_eqIN, ↓x_eqNS, ↓x_eqSN, ↓x_neI, ↓x_neS, ↓x_neB, ↓x_ltI, ↓x_ltS, ↓x_leI, ↓x_leS, ↓x_gtI, ↓x_gtS, ↓x_geI, ↓x_geS, ↓x_isN, ↓x_notN, ↓x_nonN, ↓x_nonI, ↓x_nonB, ↓x_nonS, ↓x_nonT, ↓x_nonL, ↓x_addI, ↓x_addS, ↓x_addT, ↓x_addL, ↓x_subI, ↓x_negI, ↓x_mulI, ↓x_mulS, ↓x_mulL, ↓x_modI, ↓x_divI, ↓x_powI, ↓x_lenL, ↓x_lenT, ↓x_lenS, ↓x_max2, ↓x_min2, ↓x_int1I, ↓x_int1B, ↓x_listL, ↓x_listT, ↓x_listS, ↓x_itL, ↓x_itT, ↓x_itS, ↓x_ixL0, ↓x_ixT0, ↓x_ixT1, ↓x_ixL1, ↓x_ixT2, ↓x_ixL2, ↓x_ixT3, ↓x_ixT4, ↓x_ixT5, ↓x_lc, ↓x_wipe0, ↓x_wipe1, ↓x_join, ↓x_gT, ↓x_gsN, ↓x_gsC, ↓x_notV, ↓x_andV, ↓x_orV, ↓x_chain, ↓x_tape1, ↓x_v0, ↓x_st0, ↓x_ap0, ↓x_io0, ↓x_lo0, ↓x_ro0, ↓x_v1, ↓x_st1, ↓x_ap1, ↓x_io1, ↓x_lo1, ↓x_ro1, ↓x_v2, ↓x_st2, ↓x_ap2, ↓x_io2, ↓x_lo2, ↓x_ro2, ↓x_v3, ↓x_st3, ↓x_ap3, ↓x_io3, ↓x_lo3, ↓x_ro3, ↓x_v4, ↓x_st4, ↓x_ap4, ↓x_io4, ↓x_lo4, ↓x_ro4, ↓x_v5, ↓x_st5, ↓x_ap5, ↓x_io5, ↓x_lo5, ↓x_ro5, ↓x_v6, ↓x_st6, ↓x_ap6, ↓x_io6, ↓x_lo6, ↓x_ro6, ↓x_v7, ↓x_st7, ↓x_ap7, ↓x_io7, ↓x_lo7, ↓x_ro7, ↓x_v8, ↓x_st8, ↓x_ap8, ↓x_io8, ↓x_lo8, ↓x_ro8, ↓x_v9, ↓x_st9, ↓x_ap9, ↓x_io9, ↓x_lo9, ↓x_ro9, ↓x_v10, ↓x_st10, ↓x_ap10, ↓x_io10, ↓x_lo10, ↓x_ro10, ↓x_v11, ↓x_st11, ↓x_ap11, ↓x_io11, ↓x_lo11, ↓x_ro11, ↓x_v12, ↓x_v13, ↓x_v14, ↓x_v15, ↓x_ss0, ↓x_ls0, ↓x_subII, ↓x_subBB, ↓x_repr, ↓x_sw, ↓x_M1, ↓x_par, ↓x_gSt1, ↓x_gSt3, ↓x_fo0, ↓x_fd0, ↓x_po0, ↓x_pt0, ↓x_fo1, ↓x_fd1, ↓x_po1, ↓x_pt1, ↓x_fo2, ↓x_fd2, ↓x_po2, ↓x_pt2, ↓x_fo3, ↓x_fd3, ↓x_po3, ↓x_pt3, ↓x_fo4, ↓x_fd4, ↓x_po4, ↓x_pt4, ↓x_fo5, ↓x_fd5, ↓x_po5, ↓x_pt5, ↓x_fo6, ↓x_fd6, ↓x_po6, ↓x_pt6, ↓x_fo7, ↓x_fd7, ↓x_po7, ↓x_pt7, ↓x_fo8, ↓x_fd8, ↓x_po8, ↓x_pt8, ↓x_fo9, ↓x_fd9, ↓x_po9, ↓x_pt9, ↓x_fo10, ↓x_fd10, ↓x_po10, ↓x_pt10, ↓x_fo11, ↓x_fd11, ↓x_po11, ↓x_pt11, ↓x_plI, ↓x_plB, ↓x_plS, ↓x_in2, ↓x_in3, ↓x_sl1T, ↓x_sl1L, ↓x_slS, ↓x_tuL, ↓x_tuT, ↓x_enumD, ↓x_iAsc, ↓x_eq0T, ↓x_eq0L, ↓x_mulT, ↓x_pu0, ↓x_pu1, ↓x_pu2, ↓x_pu3, ↓x_pu4, ↓x_pu5, ↓x_pu6, ↓x_pu7, ↓x_pu8, ↓x_pu9, ↓x_pu10, ↓x_pu11, ↓x_isB, ↓x_isNB, ↓x_nonD, ↓x_in4, ↓x_nin4, ↓x_nin2, ↓x_tupRg, ↓x_lstRg, ↓x_g_LIMIT, ↓x_g_MAX_CHOICES, ↓x_g_MAX_DEPTH, ↓x_g_MAX_ORDER, ↓x_g_MAX_TEXT, ↓x_g_TESTS, List.cons_append, List.nil_append, List.replicate_succ, List.replicate_zero, List.set_cons_zero, List.set_cons_succ, List.getElem?_cons_zero, List.getElem?_cons_succ, decide_eq_true_eq, Bool.false_eq_true, Bool.true_eq_false, ↓reduceIte, Bool.not_true, Bool.not_false, decide_true, decide_false, isTy, isTyK, kindD, PySem.sizeLine_eq, List.length_cons, List.length_nil, true_and, and_true, true_implies, Bool.not_eq_true', decide_eq_false_iff_not, Nat.reduceAdd, Nat.reduceLeDiff, Nat.reduceLT, Int.reduceAdd, Int.reduceSub, Int.reduceLT, Int.reduceLE, Int.reduceNeg, Int.reduceEq, Nat.reduceEqDiff, not_true_eq_false, not_false_eq_true]
            have e : ((uniq (colsOf xs)).length : Int) = (xs.length : Int) ↔ (colsOf xs).Nodup := by
              rw [← uniq_eq_iff, show (colsOf xs).length = xs.length by simp [colsOf]]
              omega
            have e' : decide (((uniq (colsOf xs)).length : Int) = (xs.length : Int)) = decide (colsOf xs).Nodup := by
              by_cases z : (colsOf xs).Nodup
              · rw [decide_eq_true z, decide_eq_true (e.mpr z)]
              · rw [decide_eq_false z, decide_eq_false (fun q => z (e.mp q))]
            rw [e']
            exact h'
      · rw [List.nil_append] at ha
        rw [ha] at h'
        exact h'
    · rw [decide_eq_false e4] at h'
      have e5 : (4 : Int) < (xs.length : Int) := by omega
      simp only [e5, ↓x_fnD, ↓x_skip, ↓x_seq, ↓x_brk, ↓x_cnt, ↓x_exp, ↓x_ret, ↓x_retN, ↓x_ifS, ↓x_set, ↓x_asg, ↓x_own, ↓x_fLst, ↓x_tape, ↓x_C, ↓x_op, ↓x_un, ↓x_test, ↓x_and, ↓x_or, ↓x_not, ↓x_if, ↓x_dnil, ↓x_dcons, ↓x_anil, ↓x_acons, ↓x_tup, ↓x_lst, ↓x_call, ↓x_fn, ↓x_isi, ↓x_new, ↓x_gN, ↓x_yes, ↓x_for, ↓x_iData, ↓x_iRg1, ↓x_oNo, ↓x_oSome, ↓x_sl, ↓x_mD1, ↓x_mD2, ↓x_mD3, ↓x_mD4, ↓x_mD5, ↓x_mT0, ↓x_mT1, ↓x_mT2, ↓x_mT3, ↓x_mT4, ↓x_eqI, ↓x_eqS, ↓x_eqB, ↓x_eqIS, ↓x_eqSI, ↓x_eqNN, ↓x_eqNI, ↓x_eqIN, ↓x_eqNS, ↓x_eqSN, ↓x_neI, ↓x_neS, ↓x_neB, ↓x_ltI, ↓x_ltS, ↓x_leI, ↓x_leS, ↓x_gtI, ↓x_gtS, ↓x_geI, ↓x_geS, ↓x_isN, ↓x_notN, ↓x_nonN, ↓x_nonI, ↓x_nonB, ↓x_nonS, ↓x_nonT, ↓x_nonL, ↓x_addI, ↓x_addS, ↓x_addT, ↓x_addL, ↓x_subI, ↓x_negI, ↓x_mulI, ↓x_mulS, ↓x_mulL, ↓x_modI, ↓x_divI, ↓x_powI, ↓x_lenL, ↓x_lenT, ↓x_lenS, ↓x_max2, ↓x_min2, ↓x_int1I, ↓x_int1B, ↓x_listL, ↓x_listT, ↓x_listS, ↓x_itL, ↓x_itT, ↓x_itS, ↓x_ixL0, ↓x_ixT0, ↓x_ixT1, ↓x_ixL1, ↓x_ixT2, ↓x_ixL2, ↓x_ixT3, ↓x_ixT4, ↓x_ixT5, ↓x_lc, ↓x_wipe0, ↓x_wipe1, ↓x_join, ↓x_gT, ↓x_gsN, ↓x_gsC, ↓x_notV, ↓x_andV, ↓x_orV, ↓x_chain, ↓x_tape1, ↓x_v0, ↓x_st0, ↓x_ap0, ↓x_io0, ↓x_lo0, ↓x_ro0, ↓x_v1, ↓x_st1, ↓x_ap1, ↓x_io1, ↓x_lo1, ↓x_ro1, ↓x_v2, ↓x_st2, ↓x_ap2, ↓x_io2, ↓x_lo2, ↓x_ro2, ↓x_v3, ↓x_st3, ↓x_ap3, ↓x_io3, ↓x_lo3, ↓x_ro3, ↓x_v4, ↓x_st4, ↓x_ap4, ↓x_io4, ↓x_lo4, ↓x_ro4, ↓x_v5, ↓x_st5, ↓x_ap5, ↓x_io5, ↓x_lo5, ↓x_ro5, ↓x_v6, ↓x_st6, ↓x_ap6, ↓x_io6, ↓x_lo6, ↓x_ro6, ↓x_v7, ↓x_st7, ↓x_ap7, ↓x_io7, ↓x_lo7, ↓x_ro7, ↓x_v8, ↓x_st8, ↓x_ap8, ↓x_io8, ↓x_lo8, ↓x_ro8, ↓x_v9, ↓x_st9, ↓x_ap9, ↓x_io9, ↓x_lo9, ↓x_ro9, ↓x_v10, ↓x_st10, ↓x_ap10, ↓x_io10, ↓x_lo10, ↓x_ro10, ↓x_v11, ↓x_st11, ↓x_ap11, ↓x_io11, ↓x_lo11, ↓x_ro11, ↓x_v12, ↓x_v13, ↓x_v14, ↓x_v15, ↓x_ss0, ↓x_ls0, ↓x_subII, ↓x_subBB, ↓x_repr, ↓x_sw, ↓x_M1, ↓x_par, ↓x_gSt1, ↓x_gSt3, ↓x_fo0, ↓x_fd0, ↓x_po0, ↓x_pt0, ↓x_fo1, ↓x_fd1, ↓x_po1, ↓x_pt1, ↓x_fo2, ↓x_fd2, ↓x_po2, ↓x_pt2, ↓x_fo3, ↓x_fd3, ↓x_po3, ↓x_pt3, ↓x_fo4, ↓x_fd4, ↓x_po4, ↓x_pt4, ↓x_fo5, ↓x_fd5, ↓x_po5, ↓x_pt5, ↓x_fo6, ↓x_fd6, ↓x_po6, ↓x_pt6, ↓x_fo7, ↓x_fd7, ↓x_po7, ↓x_pt7, ↓x_fo8, ↓x_fd8, ↓x_po8, ↓x_pt8, ↓x_fo9, ↓x_fd9, ↓x_po9, ↓x_pt9, ↓x_fo10, ↓x_fd10, ↓x_po10, ↓x_pt10, ↓x_fo11, ↓x_fd11, ↓x_po11, ↓x_pt11, ↓x_plI, ↓x_plB, ↓x_plS, ↓x_in2, ↓x_in3, ↓x_sl1T, ↓x_sl1L, ↓x_slS, ↓x_tuL, ↓x_tuT, ↓x_enumD, ↓x_iAsc, ↓x_eq0T, ↓x_eq0L, ↓x_mulT, ↓x_pu0, ↓x_pu1, ↓x_pu2, ↓x_pu3, ↓x_pu4, ↓x_pu5, ↓x_pu6, ↓x_pu7, ↓x_pu8, ↓x_pu9, ↓x_pu10, ↓x_pu11, ↓x_isB, ↓x_isNB, ↓x_nonD, ↓x_in4, ↓x_nin4, ↓x_nin2, ↓x_tupRg, ↓x_lstRg, ↓x_g_LIMIT, ↓x_g_MAX_CHOICES, ↓x_g_MAX_DEPTH, ↓x_g_MAX_ORDER, ↓x_g_MAX_TEXT, ↓x_g_TESTS, List.cons_append, List.nil_append, List.replicate_succ, List.replicate_zero, List.set_cons_zero, List.set_cons_succ, List.getElem?_cons_zero, List.getElem?_cons_succ, decide_eq_true_eq, Bool.false_eq_true, Bool.true_eq_false, ↓reduceIte, Bool.not_true, Bool.not_false, decide_true, decide_false, isTy, isTyK, kindD, PySem.sizeLine_eq, List.length_cons, List.length_nil, true_and, and_true, true_implies, Bool.not_eq_true', decide_eq_false_iff_not, Nat.reduceAdd, Nat.reduceLeDiff, Nat.reduceLT, Int.reduceAdd, Int.reduceSub, Int.reduceLT, Int.reduceLE, Int.reduceNeg, Int.reduceEq, Nat.reduceEqDiff, not_true_eq_false, not_false_eq_true]
      exact h'
  | _ =>
    simp only [b_is_order, ↓x_fnD, ↓x_skip, ↓x_seq, ↓x_brk, ↓x_cnt, ↓x_exp, ↓x_ret, ↓x_retN, ↓x_ifS, ↓x_set, ↓x_asg, ↓x_own, ↓x_fLst, ↓x_tape, ↓x_C, ↓x_op, ↓x_un, ↓x_test, ↓x_and, ↓x_or, ↓x_not, ↓x_if, ↓x_dnil, ↓x_dcons, ↓x_anil, ↓x_acons, ↓x_tup, ↓x_lst, ↓x_call, ↓x_fn, ↓x_isi, ↓x_new, ↓x_gN, ↓x_yes, ↓x_for, ↓x_iData, ↓x_iRg1, ↓x_oNo, ↓x_oSome, ↓x_sl, ↓x_mD1, ↓x_mD2, ↓x_mD3, ↓x_mD4, ↓x_mD5, ↓x_mT0, ↓x_mT1, ↓x_mT2, ↓x_mT3, ↓x_mT4, ↓x_eqI, ↓x_eqS, ↓x_eqB, ↓x_eqIS, ↓x_eqSI, ↓x_eqNN, ↓x_eqNI, ↓x_eqIN, ↓x_eqNS, ↓x_eqSN, ↓x_neI, ↓x_neS, ↓x_neB, ↓x_ltI, ↓x_ltS, ↓x_leI, ↓x_leS, ↓x_gtI, ↓x_gtS, ↓x_geI, ↓x_geS, ↓x_isN, ↓x_notN, ↓x_nonN, ↓x_nonI, ↓x_nonB, ↓x_nonS, ↓x_nonT, ↓x_nonL, ↓x_addI, ↓x_addS, ↓x_addT, ↓x_addL, ↓x_subI, ↓x_negI, ↓x_mulI, ↓x_mulS, ↓x_mulL, ↓x_modI, ↓x_divI, ↓x_powI, ↓x_lenL, ↓x_lenT, ↓x_lenS, ↓x_max2, ↓x_min2, ↓x_int1I, ↓x_int1B, ↓x_listL, ↓x_listT, ↓x_listS, ↓x_itL, ↓x_itT, ↓x_itS, ↓x_ixL0, ↓x_ixT0, ↓x_ixT1, ↓x_ixL1, ↓x_ixT2, ↓x_ixL2, ↓x_ixT3, ↓x_ixT4, ↓x_ixT5, ↓x_lc, ↓x_wipe0, ↓x_wipe1, ↓x_join, ↓x_gT, ↓x_gsN, ↓x_gsC, ↓x_notV, ↓x_andV, ↓x_orV, ↓x_chain, ↓x_tape1, ↓x_v0, ↓x_st0, ↓x_ap0, ↓x_io0, ↓x_lo0, ↓x_ro0, ↓x_v1, ↓x_st1, ↓x_ap1, ↓x_io1, ↓x_lo1, ↓x_ro1, ↓x_v2, ↓x_st2, ↓x_ap2, ↓x_io2, ↓x_lo2, ↓x_ro2, ↓x_v3, ↓x_st3, ↓x_ap3, ↓x_io3, ↓x_lo3, ↓x_ro3, ↓x_v4, ↓x_st4, ↓x_ap4, ↓x_io4, ↓x_lo4, ↓x_ro4, ↓x_v5, ↓x_st5, ↓x_ap5, ↓x_io5, ↓x_lo5, ↓x_ro5, ↓x_v6, ↓x_st6, ↓x_ap6, ↓x_io6, ↓x_lo6, ↓x_ro6, ↓x_v7, ↓x_st7, ↓x_ap7, ↓x_io7, ↓x_lo7, ↓x_ro7, ↓x_v8, ↓x_st8, ↓x_ap8, ↓x_io8, ↓x_lo8, ↓x_ro8, ↓x_v9, ↓x_st9, ↓x_ap9, ↓x_io9, ↓x_lo9, ↓x_ro9, ↓x_v10, ↓x_st10, ↓x_ap10, ↓x_io10, ↓x_lo10, ↓x_ro10, ↓x_v11, ↓x_st11, ↓x_ap11, ↓x_io11, ↓x_lo11, ↓x_ro11, ↓x_v12, ↓x_v13, ↓x_v14, ↓x_v15, ↓x_ss0, ↓x_ls0, ↓x_subII, ↓x_subBB, ↓x_repr, ↓x_sw, ↓x_M1, ↓x_par, ↓x_gSt1, ↓x_gSt3, ↓x_fo0, ↓x_fd0, ↓x_po0, ↓x_pt0, ↓x_fo1, ↓x_fd1, ↓x_po1, ↓x_pt1, ↓x_fo2, ↓x_fd2, ↓x_po2, ↓x_pt2, ↓x_fo3, ↓x_fd3, ↓x_po3, ↓x_pt3, ↓x_fo4, ↓x_fd4, ↓x_po4, ↓x_pt4, ↓x_fo5, ↓x_fd5, ↓x_po5, ↓x_pt5, ↓x_fo6, ↓x_fd6, ↓x_po6, ↓x_pt6, ↓x_fo7, ↓x_fd7, ↓x_po7, ↓x_pt7, ↓x_fo8, ↓x_fd8, ↓x_po8, ↓x_pt8, ↓x_fo9, ↓x_fd9, ↓x_po9, ↓x_pt9, ↓x_fo10, ↓x_fd10, ↓x_po10, ↓x_pt10, ↓x_fo11, ↓x_fd11, ↓x_po11, ↓x_pt11, ↓x_plI, ↓x_plB, ↓x_plS, ↓x_in2, ↓x_in3, ↓x_sl1T, ↓x_sl1L, ↓x_slS, ↓x_tuL, ↓x_tuT, ↓x_enumD, ↓x_iAsc, ↓x_eq0T, ↓x_eq0L, ↓x_mulT, ↓x_pu0, ↓x_pu1, ↓x_pu2, ↓x_pu3, ↓x_pu4, ↓x_pu5, ↓x_pu6, ↓x_pu7, ↓x_pu8, ↓x_pu9, ↓x_pu10, ↓x_pu11, ↓x_isB, ↓x_isNB, ↓x_nonD, ↓x_in4, ↓x_nin4, ↓x_nin2, ↓x_tupRg, ↓x_lstRg, ↓x_g_LIMIT, ↓x_g_MAX_CHOICES, ↓x_g_MAX_DEPTH, ↓x_g_MAX_ORDER, ↓x_g_MAX_TEXT, ↓x_g_TESTS, List.cons_append, List.nil_append, List.replicate_succ, List.replicate_zero, List.set_cons_zero, List.set_cons_succ, List.getElem?_cons_zero, List.getElem?_cons_succ, decide_eq_true_eq, Bool.false_eq_true, Bool.true_eq_false, ↓reduceIte, Bool.not_true, Bool.not_false, decide_true, decide_false, isTy, isTyK, kindD, PySem.sizeLine_eq, List.length_cons, List.length_nil, true_and, and_true, true_implies, Bool.not_eq_true', decide_eq_false_iff_not, Nat.reduceAdd, Nat.reduceLeDiff, Nat.reduceLT, Int.reduceAdd, Int.reduceSub, Int.reduceLT, Int.reduceLE, Int.reduceNeg, Int.reduceEq, Nat.reduceEqDiff, not_true_eq_false, not_false_eq_true]
    exact hQ
theorem ok_is_order (T : Txt K mg) {f : Addr} {fd : FuncData} (F : Fun K "is_order" "is_order" s_is_order f fd) : FnG P w K mg base 2 f fd ["value", "width"] (spD P w K 2 (fnD b_is_order 1)) :=
  fn_okG F sc_is_order fun cdv A outer s H E hr hgd => by
    have hu := hr.units
    exact (s_cons (s_if (PW.pt (w_or (t_not (t_val (e_isi (T := .tuple) T.b_isinstance T.b_tuple bo_tuple (ev 0)))) (w_or1 (t_cmpD oGt (e_cbB bLen T.b_len bo_len (d_cons (ev 0) d_nil)) (e_glob rfl T.g_MAX_ORDER))))) (s_one (s_ret e_bl)) s_nil)
      (s_cons (s_for PassesOwn.never rfl (i_data (ev 0)) (g_nm (vs := [2]) sc_is_order.nd rfl (by first | exact Or.inl rfl | exact Or.inr rfl) (by decide)) (s_cons (s_if (PW.pt (w_or (t_not (t_val (e_isi (T := .tuple) T.b_isinstance T.b_tuple bo_tuple (ev 2)))) (w_or (t_cmpD (oNe hu) (e_cbB bLen T.b_len bo_len (d_cons (ev 2) d_nil)) e_int) (w_or1 (t_not (t_val (e_isi (T := .bool) T.b_isinstance T.b_bool bo_bool (e_ix (ev 2) e_int)))))))) (s_one (s_ret e_bl)) s_nil)
      (s_one (s_if (PW.pt (w_or (t_not (t_val (e_fnG (cal_is_integer T) hr hgd (a_cons (e_ix (ev 2) e_int) a_nil) ))) (w_or1 (t_not (t_chainD oLe (oLt' hu) e_int (e_ix (ev 2) e_int) (ev 1)))))) (s_one (s_ret e_bl)) s_nil))))
      (s_one (s_ret (e_cmpD (oEq hu) (e_lenSet T.b_len T.b_set rfl (e_new (f_lc (own := [("pair", 2)]) rfl sc_is_order.nd (i_data (ev 0)) (blkOk_by (N := N_is_order) (sc := defScope s_is_order) (by decide +kernel)) (fun _ _ _ _ _ => (g_nm (vs := [2]) sc_is_order.nd rfl (by first | exact Or.inl rfl | exact Or.inr rfl) (by decide))) (fun _ _ _ _ _ => LTs.nil) (fun _ _ _ _ _ => (e_ix (ev 2) e_int))))) (e_cbB bLen T.b_len bo_len (d_cons (ev 0) d_nil)))))))
theorem cal_is_order (T : Txt K mg) : CalG P w K mg base 2 "is_order" (spD P w K 2 m_is_order) :=
  CalG.imp (calG_of T.f_is_order (show BindsN "is_order" s_is_order ["value", "width"] from fun _ _ _ _ _ _ us hl => match us, hl with | [_, _], _ => rfl) fun _ _ F => ok_is_order T F) spec_is_order
theorem sc_is_shown : FnScope N_is_shown ["value", "width"] (defScope s_is_shown) := ⟨rfl, rfl, rfl, by decide +kernel, rfl, by decide +kernel, by decide +kernel⟩
def b_is_shown : DS := (dSeq (dIfS (dOr (dNot (dTest (dIsI .tuple (dVar 0)))) (dNot (dTest (dCall fAll (dCons (dNew (fLc (iData (dVar 0)) (gN 2) dYes (dAndV (dFn m_is_integer (aCons (dVar 2) aNil)) (dChain fLe fLt (dC (.int 0)) (dVar 2) (dVar 1))) [2])) dNil))))) (dRet (dC (.bool false))) dSkip)
    (dRet (dOp fEq (dCall fList (dCons (dVar 0) dNil)) (dUn fSortSet (dVar 0)))))
abbrev m_is_shown : List SV → EK → Prop := mD2 fun x y Q => ∃ w : Int, y = .int w ∧ szD x ≤ 1000000 ∧ Q (.bool (shownB w x))
theorem spec_is_shown (svs : List SV) (R : EK) (_ : svs.length = 2) (h : m_is_shown svs R) : fnD b_is_shown 1 svs R := by
  obtain ⟨x, y, rfl, w, rfl, hz, hQ⟩ := mD2_elim h
  cases x with
  | tuple xs =>
    have h' : R (.bool (xs.all (colB w) && ascB (xs.map colI))) := hQ
    have hz' : szAll xs + 3 ≤ 1000000 := hz
    have hl := well_lt (xs := xs) (by omega)
    simp only [b_is_shown, ↓x_fnD, ↓x_skip, ↓x_seq, ↓x_brk, ↓x_cnt, ↓x_exp, ↓x_ret, ↓x_retN, ↓x_ifS, ↓x_set, ↓x_asg, ↓x_own, ↓x_fLst, ↓x_tape, ↓x_C, ↓x_op, ↓x_un, ↓x_test, ↓x_and, ↓x_or, ↓x_not, ↓x_if, ↓x_dnil, ↓x_dcons, ↓x_anil, ↓x_acons, ↓x_tup, ↓x_lst, ↓x_call, ↓x_fn, ↓x_isi, ↓x_new, ↓x_gN, ↓x_yes, ↓x_for, ↓x_iData, ↓x_iRg1, ↓x_oNo, ↓x_oSome, ↓x_sl, ↓x_mD1, ↓x_mD2, ↓x_mD3, ↓x_mD4, ↓x_mD5, ↓x_mT0, ↓x_mT1, ↓x_mT2, ↓x_mT3, ↓x_mT4, ↓x_eqI, ↓x_eqS, ↓x_eqB, ↓x_eqIS, ↓x_eqSI, ↓x_eqNN, ↓x_eqNI, ↓x_eqIN, ↓x_eqNS, ↓x_eqSN, ↓x_neI, ↓x_neS, ↓x_neB, ↓x_ltI, ↓x_ltS, ↓x_leI, ↓x_leS, ↓x_gtI, ↓x_gtS, ↓x_geI, ↓x_geS, ↓x_isN, ↓x_notN, ↓x_nonN, ↓x_nonI, ↓x_nonB, ↓x_nonS, ↓x_nonT, ↓x_nonL, ↓x_addI, ↓x_addS, ↓x_addT, ↓x_addL, ↓x_subI, ↓x_negI, ↓x_mulI, ↓x_mulS, ↓x_mulL, ↓x_modI, ↓x_divI, ↓x_powI, ↓x_lenL, ↓x_lenT, ↓x_lenS, ↓x_max2, ↓x_min2, ↓x_int1I, ↓x_int1B, ↓x_listL, ↓x_listT, ↓x_listS, ↓x_itL, ↓x_itT, ↓x_itS, ↓x_ixL0, ↓x_ixT0, ↓x_ixT1, ↓x_ixL1, ↓x_ixT2, ↓x_ixL2, ↓x_ixT3, ↓x_ixT4, ↓x_ixT5, ↓x_lc, ↓x_wipe0, ↓x_wipe1, ↓x_join, ↓x_gT, ↓x_gsN, ↓x_gsC, ↓x_notV, ↓x_andV, ↓x_orV, ↓x_chain, ↓x_tape1, ↓x_v0, ↓x_st0, ↓x_ap0, ↓x_io0, ↓x_lo0, ↓x_ro0, ↓x_v1, ↓x_st1, ↓x_ap1, ↓x_io1, ↓x_lo1, ↓x_ro1, ↓x_v2, ↓x_st2, ↓x_ap2, ↓x_io2, ↓x_lo2, ↓x_ro2, ↓x_v3, ↓x_st3, ↓x_ap3, ↓x_io3, ↓x_lo3, ↓x_ro3, ↓x_v4, ↓x_st4, ↓x_ap4, ↓x_io4, ↓x_lo4, ↓x_ro4, ↓x_v5, ↓x_st5, ↓x_ap5, ↓x_io5, ↓x_lo5, ↓x_ro5, ↓x_v6, ↓x_st6, ↓x_ap6, ↓x_io6, ↓x_lo6, ↓x_ro6, ↓x_v7, ↓x_st7, ↓x_ap7, ↓x_io7, ↓x_lo7, ↓x_ro7, ↓x_v8, ↓x_st8, ↓x_ap8, ↓x_io8, ↓x_lo8, ↓x_ro8, ↓x_v9, ↓x_st9, ↓x_ap9, ↓x_io9, ↓x_lo9, ↓x_ro9, ↓x_v10, ↓x_st10, ↓x_ap10, ↓x_io10, ↓x_lo10, ↓x_ro10, ↓x_v11, ↓x_st11, ↓x_ap11, ↓x_io11, ↓x_lo11, ↓x_ro11, ↓x_v12, ↓x_v13, ↓x_v14, ↓x_v15, ↓x_ss0, ↓x_ls0, ↓x_subII, ↓x_subBB, ↓x_repr, ↓x_sw, ↓x_M1, ↓x_par, ↓x_gSt1, ↓x_gSt3, ↓x_fo0, ↓x_fd0, ↓x_po0, ↓x_pt0, ↓x_fo1, ↓x_fd1, ↓x_po1, ↓x_pt1, ↓x_fo2, ↓x_fd2, ↓x_po2, ↓x_pt2, ↓x_fo3, ↓x_fd3, ↓x_po3, ↓x_pt3, ↓x_fo4, ↓x_fd4, ↓x_po4, ↓x_pt4, ↓x_fo5, ↓x_fd5, ↓x_po5, ↓x_pt5, ↓x_fo6, ↓x_fd6, ↓x_po6, ↓x_pt6, ↓x_fo7, ↓x_fd7, ↓x_po7, ↓x_pt7, ↓x_fo8, ↓x_fd8, ↓x_po8, ↓x_pt8, ↓x_fo9, ↓x_fd9, ↓x_po9, ↓x_pt9, ↓x_fo10, ↓x_fd10, ↓x_po10, ↓x_pt10, ↓x_fo11, ↓x_fd11, ↓x_po11, ↓x_pt11, ↓x_plI, ↓x_plB, ↓x_plS, ↓x_in2, ↓x_in3, ↓x_sl1T, ↓x_sl1L, ↓x_slS, ↓x_tuL, ↓x_tuT, ↓x_enumD, ↓x_iAsc, ↓x_eq0T, ↓x_eq0L, ↓x_mulT, ↓x_pu0, ↓x_pu1, ↓x_pu2, ↓x_pu3, ↓x_pu4, ↓x_pu5, ↓x_pu6, ↓x_pu7, ↓x_pu8, ↓x_pu9, ↓x_pu10, ↓x_pu11, ↓x_isB, ↓x_isNB, ↓x_nonD, ↓x_in4, ↓x_nin4, ↓x_nin2, ↓x_tupRg, ↓x_lstRg, ↓x_g_LIMIT, ↓x_g_MAX_CHOICES, ↓x_g_MAX_DEPTH, ↓x_g_MAX_ORDER, ↓x_g_MAX_TEXT, ↓x_g_TESTS, List.cons_append, List.nil_append, List.replicate_succ, List.replicate_zero, List.set_cons_zero, List.set_cons_succ, List.getElem?_cons_zero, List.getElem?_cons_succ, decide_eq_true_eq, Bool.false_eq_true, Bool.true_eq_false, ↓reduceIte, Bool.not_true, Bool.not_false, decide_true, decide_false, isTy, isTyK, kindD, PySem.sizeLine_eq, List.length_cons, List.length_nil, true_and, and_true, true_implies, Bool.not_eq_true', decide_eq_false_iff_not, Nat.reduceAdd, Nat.reduceLeDiff, Nat.reduceLT, Int.reduceAdd, Int.reduceSub, Int.reduceLT, Int.reduceLE, Int.reduceNeg, Int.reduceEq, Nat.reduceEqDiff, not_true_eq_false, not_false_eq_true]
    refine fun _ => ⟨by omega, lc_map (fun d => .bool (colB w d)) xs [] (fun d hd N hN => ?_) ?_⟩
    · cases d with
      | int i =>
        have hN' : N (.bool (decide (0 ≤ i) && decide (i < w))) := hN
        simp only [isInt, ↓x_fnD, ↓x_skip, ↓x_seq, ↓x_brk, ↓x_cnt, ↓x_exp, ↓x_ret, ↓x_retN, ↓x_ifS, ↓x_set, ↓x_asg, ↓x_own, ↓x_fLst, ↓x_tape, ↓x_C, ↓x_op, ↓x_un, ↓x_test, ↓x_and, ↓x_or, ↓x_not, ↓x_if, ↓x_dnil, ↓x_dcons, ↓x_anil, ↓x_acons, ↓x_tup, ↓x_lst, ↓x_call, ↓x_fn, ↓x_isi, ↓x_new, ↓x_gN, ↓x_yes, ↓x_for, ↓x_iData, ↓x_iRg1, ↓x_oNo, ↓x_oSome, ↓x_sl, ↓x_mD1, ↓x_mD2, ↓x_mD3, ↓x_mD4, ↓x_mD5, ↓x_mT0, ↓x_mT1, ↓x_mT2, ↓x_mT3, ↓x_mT4, ↓x_eqI, ↓x_eqS, ↓x_eqB, ↓x_eqIS, ↓x_eqSI, ↓x_eqNN, ↓x_eqNI, ↓x_eqIN, ↓x_eqNS, ↓x_eqSN, ↓x_neI, ↓x_neS, ↓x_neB, ↓x_ltI, ↓x_ltS, ↓x_leI, ↓x_leS, ↓x_gtI, ↓x_gtS, ↓x_geI, ↓x_geS, ↓x_isN, ↓x_notN, ↓x_nonN, ↓x_nonI, ↓x_nonB, ↓x_nonS, ↓x_nonT, ↓x_nonL, ↓x_addI, ↓x_addS, ↓x_addT, ↓x_addL, ↓x_subI, ↓x_negI, ↓x_mulI, ↓x_mulS, ↓x_mulL, ↓x_modI, ↓x_divI, ↓x_powI, ↓x_lenL, ↓x_lenT, ↓x_lenS, ↓x_max2, ↓x_min2, ↓x_int1I, ↓x_int1B, ↓x_listL, ↓x_listT, ↓x_listS, ↓x_itL, ↓x_itT, ↓x_itS, ↓x_ixL0, ↓x_ixT0, ↓x_ixT1, ↓x_ixL1, ↓x_ixT2, ↓x_ixL2, ↓x_ixT3, ↓x_ixT4, ↓x_ixT5, ↓x_lc, ↓x_wipe0, ↓x_wipe1, ↓x_join, ↓x_gT, ↓x_gsN, ↓x_gsC, ↓x_notV, ↓x_andV, ↓x_orV, ↓x_chain, ↓x_tape1, ↓x_v0, ↓x_st0, ↓x_ap0, ↓x_io0, ↓x_lo0, ↓x_ro0, ↓x_v1, ↓x_st1, ↓x_ap1, ↓x_io1, ↓x_lo1, ↓x_ro1, ↓x_v2, ↓x_st2, ↓x_ap2, ↓x_io2, ↓x_lo2, ↓x_ro2, ↓x_v3, ↓x_st3, ↓x_ap3, ↓x_io3, ↓x_lo3, ↓x_ro3, ↓x_v4, ↓x_st4, ↓x_ap4, ↓x_io4, ↓x_lo4, ↓x_ro4, ↓x_v5, ↓x_st5, ↓x_ap5, ↓x_io5, ↓x_lo5, ↓x_ro5, ↓x_v6, ↓x_st6, ↓x_ap6, ↓x_io6, ↓x_lo6, ↓x_ro6, ↓x_v7, ↓x_st7, ↓x_ap7, ↓x_io7, ↓x_lo7, ↓x_ro7, ↓x_v8, ↓x_st8, ↓x_ap8, ↓x_io8, ↓x_lo8, ↓x_ro8, ↓x_v9, ↓x_st9, ↓x_ap9, ↓x_io9, ↓x_lo9, ↓x_ro9, ↓x_v10, ↓x_st10, ↓x_ap10, ↓x_io10, ↓x_lo10, ↓x_ro10, ↓x_v11, ↓x_st11, ↓x_ap11, ↓x_io11, ↓x_lo11, ↓x_ro11, ↓x_v12, ↓x_v13, ↓x_v14, ↓x_v15, ↓x_ss0, ↓x_ls0, ↓x_subII, ↓x_subBB, ↓x_repr, ↓x_sw, ↓x_M1, ↓x_par, ↓x_gSt1, ↓x_gSt3, ↓x_fo0, ↓x_fd0, ↓x_po0, ↓x_pt0, ↓x_fo1, ↓x_fd1, ↓x_po1, ↓x_pt1, ↓x_fo2, ↓x_fd2, ↓x_po2, ↓x_pt2, ↓x_fo3, ↓x_fd3, ↓x_po3, ↓x_pt3, ↓x_fo4, ↓x_fd4, ↓x_po4, ↓x_pt4, ↓x_fo5, ↓x_fd5, ↓x_po5, ↓x_pt5, ↓x_fo6, ↓x_fd6, ↓x_po6, ↓x_pt6, ↓x_fo7, ↓x_fd7, ↓x_po7, ↓x_pt7, ↓x_fo8, ↓x_fd8, ↓x_po8, ↓x_pt8, ↓x_fo9, ↓x_fd9, ↓x_po9, ↓x_pt9, ↓x_fo10, ↓x_fd10, ↓x_po10, ↓x_pt10, ↓x_fo11, ↓x_fd11, ↓x_po11, ↓x_pt11, ↓x_plI, ↓x_plB, ↓x_plS, ↓x_in2, ↓x_in3, ↓x_sl1T, ↓x_sl1L, ↓x_slS, ↓x_tuL, ↓x_tuT, ↓x_enumD, ↓x_iAsc, ↓x_eq0T, ↓x_eq0L, ↓x_mulT, ↓x_pu0, ↓x_pu1, ↓x_pu2, ↓x_pu3, ↓x_pu4, ↓x_pu5, ↓x_pu6, ↓x_pu7, ↓x_pu8, ↓x_pu9, ↓x_pu10, ↓x_pu11, ↓x_isB, ↓x_isNB, ↓x_nonD, ↓x_in4, ↓x_nin4, ↓x_nin2, ↓x_tupRg, ↓x_lstRg, ↓x_g_LIMIT, ↓x_g_MAX_CHOICES, ↓x_g_MAX_DEPTH, ↓x_g_MAX_ORDER, ↓x_g_MAX_TEXT, ↓x_g_TESTS, List.cons_append, List.nil_append, List.replicate_succ, List.replicate_zero, List.set_cons_zero, List.set_cons_succ, List.getElem?_cons_zero, List.getElem?_cons_succ, decide_eq_true_eq, Bool.false_eq_true, Bool.true_eq_false, ↓reduceIte, Bool.not_true, Bool.not_false, decide_true, decide_false, isTy, isTyK, kindD, PySem.sizeLine_eq, List.length_cons, List.length_nil, true_and, and_true, true_implies, Bool.not_eq_true', decide_eq_false_iff_not, Nat.reduceAdd, Nat.reduceLeDiff, Nat.reduceLT, Int.reduceAdd, Int.reduceSub, Int.reduceLT, Int.reduceLE, Int.reduceNeg, Int.reduceEq, Nat.reduceEqDiff, not_true_eq_false, not_false_eq_true]
        by_cases i0 : 0 ≤ i
        · rw [decide_eq_true i0] at hN' ⊢
          simpa using hN'
        · rw [decide_eq_false i0] at hN' ⊢
          simpa using hN'
      | _ =>
        simp only [isInt, ↓x_fnD, ↓x_skip, ↓x_seq, ↓x_brk, ↓x_cnt, ↓x_exp, ↓x_ret, ↓x_retN, ↓x_ifS, ↓x_set, ↓x_asg, ↓x_own, ↓x_fLst, ↓x_tape, ↓x_C, ↓x_op, ↓x_un, ↓x_test, ↓x_and, ↓x_or, ↓x_not, ↓x_if, ↓x_dnil, ↓x_dcons, ↓x_anil, ↓x_acons, ↓x_tup, ↓x_lst, ↓x_call, ↓x_fn, ↓x_isi, ↓x_new, ↓x_gN, ↓x_yes, ↓x_for, ↓x_iData, ↓x_iRg1, ↓x_oNo, ↓x_oSome, ↓x_sl, ↓x_mD1, ↓x_mD2, ↓x_mD3, ↓x_mD4, ↓x_mD5, ↓x_mT0, ↓x_mT1, ↓x_mT2, ↓x_mT3, ↓x_mT4, ↓x_eqI, ↓x_eqS, ↓x_eqB, ↓x_eqIS, ↓x_eqSI, ↓x_eqNN, ↓x_eqNI, ↓x_eqIN, ↓x_eqNS, ↓x_eqSN, ↓x_neI, ↓x_neS, ↓x_neB, ↓x_ltI, ↓x_ltS, ↓x_leI, ↓x_leS, ↓x_gtI, ↓x_gtS, ↓x_geI, ↓x_geS, ↓x_isN, ↓x_notN, ↓x_nonN, ↓x_nonI, ↓x_nonB, ↓x_nonS, ↓x_nonT, ↓x_nonL, ↓x_addI, ↓x_addS, ↓x_addT, ↓x_addL, ↓x_subI, ↓x_negI, ↓x_mulI, ↓x_mulS, ↓x_mulL, ↓x_modI, ↓x_divI, ↓x_powI, ↓x_lenL, ↓x_lenT, ↓x_lenS, ↓x_max2, ↓x_min2, ↓x_int1I, ↓x_int1B, ↓x_listL, ↓x_listT, ↓x_listS, ↓x_itL, ↓x_itT, ↓x_itS, ↓x_ixL0, ↓x_ixT0, ↓x_ixT1, ↓x_ixL1, ↓x_ixT2, ↓x_ixL2, ↓x_ixT3, ↓x_ixT4, ↓x_ixT5, ↓x_lc, ↓x_wipe0, ↓x_wipe1, ↓x_join, ↓x_gT, ↓x_gsN, ↓x_gsC, ↓x_notV, ↓x_andV, ↓x_orV, ↓x_chain, ↓x_tape1, ↓x_v0, ↓x_st0, ↓x_ap0, ↓x_io0, ↓x_lo0, ↓x_ro0, ↓x_v1, ↓x_st1, ↓x_ap1, ↓x_io1, ↓x_lo1, ↓x_ro1, ↓x_v2, ↓x_st2, ↓x_ap2, ↓x_io2, ↓x_lo2, ↓x_ro2, ↓x_v3, ↓x_st3, ↓x_ap3, ↓x_io3, ↓x_lo3, ↓x_ro3, ↓x_v4, ↓x_st4, ↓x_ap4, ↓x_io4, ↓x_lo4, ↓x_ro4, ↓x_v5, ↓x_st5, ↓x_ap5, ↓x_io5, ↓x_lo5, ↓x_ro5, ↓x_v6, ↓x_st6, ↓x_ap6, ↓x_io6, ↓x_lo6, ↓x_ro6, ↓x_v7, ↓x_st7, ↓x_ap7, ↓x_io7, ↓x_lo7, ↓x_ro7, ↓x_v8, ↓x_st8, ↓x_ap8, ↓x_io8, ↓x_lo8, ↓x_ro8, ↓x_v9, ↓x_st9, ↓x_ap9, ↓x_io9, ↓x_lo9, ↓x_ro9, ↓x_v10, ↓x_st10, ↓x_ap10, ↓x_io10, ↓x_lo10, ↓x_ro10, ↓x_v11, ↓x_st11, ↓x_ap11, ↓x_io11, ↓x_lo11, ↓x_ro11, ↓x_v12, ↓x_v13, ↓x_v14, ↓x_v15, ↓x_ss0, ↓x_ls0, ↓x_subII, ↓x_subBB, ↓x_repr, ↓x_sw, ↓x_M1, ↓x_par, ↓x_gSt1, ↓x_gSt3, ↓x_fo0, ↓x_fd0, ↓x_po0, ↓x_pt0, ↓x_fo1, ↓x_fd1, ↓x_po1, ↓x_pt1, ↓x_fo2, ↓x_fd2, ↓x_po2, ↓x_pt2, ↓x_fo3, ↓x_fd3, ↓x_po3, ↓x_pt3, ↓x_fo4, ↓x_fd4, ↓x_po4, ↓x_pt4, ↓x_fo5, ↓x_fd5, ↓x_po5, ↓x_pt5, ↓x_fo6, ↓x_fd6, ↓x_po6, ↓x_pt6, ↓x_fo7, ↓x_fd7, ↓x_po7, ↓x_pt7, ↓x_fo8, ↓x_fd8, ↓x_po8, ↓x_pt8, ↓x_fo9, ↓x_fd9, ↓x_po9, ↓x_pt9, ↓x_fo10, ↓x_fd10, ↓x_po10, ↓x_pt10, ↓x_fo11, ↓x_fd11, ↓x_po11, ↓x_pt11, ↓x_plI, ↓x_plB, ↓x_plS, ↓x_in2, ↓x_in3, ↓x_sl1T, ↓x_sl1L, ↓x_slS, ↓x_tuL, ↓x_tuT, ↓x_enumD, ↓x_iAsc, ↓x_eq0T, ↓x_eq0L, ↓x_mulT, ↓x_pu0, ↓x_pu1, ↓x_pu2, ↓x_pu3, ↓x_pu4, ↓x_pu5, ↓x_pu6, ↓x_pu7, ↓x_pu8, ↓x_pu9, ↓x_pu10, ↓x_pu11, ↓x_isB, ↓x_isNB, ↓x_nonD, ↓x_in4, ↓x_nin4, ↓x_nin2, ↓x_tupRg, ↓x_lstRg, ↓x_g_LIMIT, ↓x_g_MAX_CHOICES, ↓x_g_MAX_DEPTH, ↓x_g_MAX_ORDER, ↓x_g_MAX_TEXT, ↓x_g_TESTS, List.cons_append, List.nil_append, List.replicate_succ, List.replicate_zero, List.set_cons_zero, List.set_cons_succ, List.getElem?_cons_zero, List.getElem?_cons_succ, decide_eq_true_eq, Bool.false_eq_true, Bool.true_eq_false, ↓reduceIte, Bool.not_true, Bool.not_false, decide_true, decide_false, isTy, isTyK, kindD, PySem.sizeLine_eq, List.length_cons, List.length_nil, true_and, and_true, true_implies, Bool.not_eq_true', decide_eq_false_iff_not, Nat.reduceAdd, Nat.reduceLeDiff, Nat.reduceLT, Int.reduceAdd, Int.reduceSub, Int.reduceLT, Int.reduceLE, Int.reduceNeg, Int.reduceEq, Nat.reduceEqDiff, not_true_eq_false, not_false_eq_true]
        exact hN
    · refine ⟨xs.map (colB w), by simp [List.map_map, Function.comp_def], ?_⟩
      have ea : (xs.map (colB w)).all id = xs.all (colB w) := by simp [List.all_map, Function.comp_def]
      cases e : xs.all (colB w)
      · rw [e] at h'
        simp only [ea, e, ↓x_fnD, ↓x_skip, ↓x_seq, ↓x_brk, ↓x_cnt, ↓x_exp, ↓x_ret, ↓x_retN, ↓x_ifS, ↓x_set, ↓x_asg, ↓x_own, ↓x_fLst, ↓x_tape, ↓x_C, ↓x_op, ↓x_un, ↓x_test, ↓x_and, ↓x_or, ↓x_not, ↓x_if, ↓x_dnil, ↓x_dcons, ↓x_anil, ↓x_acons, ↓x_tup, ↓x_lst, ↓x_call, ↓x_fn, ↓x_isi, ↓x_new, ↓x_gN, ↓x_yes, ↓x_for, ↓x_iData, ↓x_iRg1, ↓x_oNo, ↓x_oSome, ↓x_sl, ↓x_mD1, ↓x_mD2, ↓x_mD3, ↓x_mD4, ↓x_mD5, ↓x_mT0, ↓x_mT1, ↓x_mT2, ↓x_mT3, ↓x_mT4, ↓x_eqI, ↓x_eqS, ↓x_eqB, ↓x_eqIS, ↓x_eqSI, ↓x_eqNN, ↓x_eqNI, ↓x_eqIN, ↓x_eqNS, ↓x_eqSN, ↓x_neI, ↓x_neS, ↓x_neB, ↓x_ltI, ↓x_ltS, ↓x_leI, ↓x_leS, ↓x_gtI, ↓x_gtS, ↓x_geI, ↓x_geS, ↓x_isN, ↓x_notN, ↓x_nonN, ↓x_nonI, ↓x_nonB, ↓x_nonS, ↓x_nonT, ↓x_nonL, ↓x_addI, ↓x_addS, ↓x_addT, ↓x_addL, ↓x_subI, ↓x_negI, ↓x_mulI, ↓x_mulS, ↓x_mulL, ↓x_modI, ↓x_divI, ↓x_powI, ↓x_lenL, ↓x_lenT, ↓x_lenS, ↓x_max2, ↓x_min2, ↓x_int1I, ↓x_int1B, ↓x_listL, ↓x_listT, ↓x_listS, ↓x_itL, ↓x_itT, ↓x_itS, ↓x_ixL0, ↓x_ixT0, ↓x_ixT1, ↓x_ixL1, ↓x_ixT2, ↓x_ixL2, ↓x_ixT3, ↓x_ixT4, ↓x_ixT5, ↓x_lc, ↓x_wipe0, ↓x_wipe1, ↓x_join, ↓x_gT, ↓x_gsN, ↓x_gsC, ↓x_notV, ↓x_andV, ↓x_orV, ↓x_chain, ↓x_tape1, ↓x_v0, ↓x_st0, ↓x_ap0, ↓x_io0, ↓x_lo0, ↓x_ro0, ↓x_v1, ↓x_st1, ↓x_ap1, ↓x_io1, ↓x_lo1, ↓x_ro1, ↓x_v2, ↓x_st2, ↓x_ap2, ↓x_io2, ↓x_lo2, ↓x_ro2, ↓x_v3, ↓x_st3, ↓x_ap3, ↓x_io3, ↓x_lo3, ↓x_ro3, ↓x_v4, ↓x_st4, ↓x_ap4, ↓x_io4, ↓x_lo4, ↓x_ro4, ↓x_v5, ↓x_st5, ↓x_ap5, ↓x_io5, ↓x_lo5, ↓x_ro5, ↓x_v6, ↓x_st6, ↓x_ap6, ↓x_io6, ↓x_lo6, ↓x_ro6, ↓x_v7, ↓x_st7, ↓x_ap7, ↓x_io7, ↓x_lo7, ↓x_ro7, ↓x_v8, ↓x_st8, ↓x_ap8, ↓x_io8, ↓x_lo8, ↓x_ro8, ↓x_v9, ↓x_st9, ↓x_ap9, ↓x_io9, ↓x_lo9, ↓x_ro9, ↓x_v10, ↓x_st10, ↓x_ap10, ↓x_io10, ↓x_lo10, ↓x_ro10, ↓x_v11, ↓x_st11, ↓x_ap11, ↓x_io11, ↓x_lo11, ↓x_ro11, ↓x_v12, ↓x_v13, ↓x_v14, ↓x_v15, ↓x_ss0, ↓x_ls0, ↓x_subII, ↓x_subBB, ↓x_repr, ↓x_sw, ↓x_M1, ↓x_par, ↓x_gSt1, ↓x_gSt3, ↓x_fo0, ↓x_fd0, ↓x_po0, ↓x_pt0, ↓x_fo1, ↓x_fd1, ↓x_po1, ↓x_pt1, ↓x_fo2, ↓x_fd2, ↓x_po2, ↓x_pt2, ↓x_fo3, ↓x_fd3, ↓x_po3, ↓x_pt3, ↓x_fo4, ↓x_fd4, ↓x_po4, ↓x_pt4, ↓x_fo5, ↓x_fd5, ↓x_po5, ↓x_pt5, ↓x_fo6, ↓x_fd6, ↓x_po6, ↓x_pt6, ↓x_fo7, ↓x_fd7, ↓x_po7, ↓x_pt7, ↓x_fo8, ↓x_fd8, ↓x_po8, ↓x_pt8, ↓x_fo9, ↓x_fd9, ↓x_po9, ↓x_pt9, ↓x_fo10, ↓x_fd10, ↓x_po10, ↓x_pt10, ↓x_fo11, ↓x_fd11, ↓x_po11, ↓x_pt11, ↓x_plI, ↓x_plB, ↓x_plS, ↓x_in2, ↓x_in3, ↓x_sl1T, ↓x_sl1L, ↓x_slS, ↓x_tuL, ↓x_tuT, ↓x_enumD, ↓x_iAsc, ↓x_eq0T, ↓x_eq0L, ↓x_mulT, ↓x_pu0, ↓x_pu1, ↓x_pu2, ↓x_pu3, ↓x_pu4, ↓x_pu5, ↓x_pu6, ↓x_pu7, ↓x_pu8, ↓x_pu9, ↓x_pu10, ↓x_pu11, ↓x_isB, ↓x_isNB, ↓x_nonD, ↓x_in4, ↓x_nin4, ↓x_nin2, ↓x_tupRg, ↓x_lstRg, ↓x_g_LIMIT, ↓x_g_MAX_CHOICES, ↓x_g_MAX_DEPTH, ↓x_g_MAX_ORDER, ↓x_g_MAX_TEXT, ↓x_g_TESTS, List.cons_append, List.nil_append, List.replicate_succ, List.replicate_zero, List.set_cons_zero, List.set_cons_succ, List.getElem?_cons_zero, List.getElem?_cons_succ, decide_eq_true_eq, Bool.false_eq_true, Bool.true_eq_false, ↓reduceIte, Bool.not_true, Bool.not_false, decide_true, decide_false, isTy, isTyK, kindD, PySem.sizeLine_eq, List.length_cons, List.length_nil, true_and, and_true, true_implies, Bool.not_eq_true', decide_eq_false_iff_not, Nat.reduceAdd, Nat.reduceLeDiff, Nat.reduceLT, Int.reduceAdd, Int.reduceSub, Int.reduceLT, Int.reduceLE, Int.reduceNeg, Int.reduceEq, Nat.reduceEqDiff, not_true_eq_false, not_false_eq_true]
        exact h'
      · rw [e, Bool.true_and] at h'
        simp only [ea, e, ↓x_fnD, ↓x_skip, ↓x_seq, ↓x_brk, ↓x_cnt, ↓x_exp, ↓x_ret, ↓x_retN, ↓x_ifS, ↓x_set, ↓x_asg, ↓x_own, ↓x_fLst, ↓x_tape, ↓x_C, ↓x_op, ↓x_un, ↓x_test, ↓x_and, ↓x_or, ↓x_not, ↓x_if, ↓x_dnil, ↓x_dcons, ↓x_anil, ↓x_acons, ↓x_tup, ↓x_lst, ↓x_call, ↓x_fn, ↓x_isi, ↓x_new, ↓x_gN, ↓x_yes, ↓x_for, ↓x_iData, ↓x_iRg1, ↓x_oNo, ↓x_oSome, ↓x_sl, ↓x_mD1, ↓x_mD2, ↓x_mD3, ↓x_mD4, ↓x_mD5, ↓x_mT0, ↓x_mT1, ↓x_mT2, ↓x_mT3, ↓x_mT4, ↓x_eqI, ↓x_eqS, ↓x_eqB, ↓x_eqIS, ↓x_eqSI, ↓x_eqNN, ↓x_eqNI, ↓x_eqIN, ↓x_eqNS, ↓x_eqSN, ↓x_neI, ↓x_neS, ↓x_neB, ↓x_ltI, ↓x_ltS, ↓x_leI, ↓x_leS, ↓x_gtI, ↓x_gtS, ↓x_geI, ↓x_geS, ↓x_isN, ↓x_notN, ↓x_nonN, ↓x_nonI, ↓x_nonB, ↓x_nonS, ↓x_nonT, ↓x_nonL, ↓x_addI, ↓x_addS, ↓x_addT, ↓x_addL, ↓x_subI, ↓x_negI, ↓x_mulI, ↓x_mulS, ↓x_mulL, ↓x_modI, ↓x_divI, ↓x_powI, ↓x_lenL, ↓x_lenT, ↓x_lenS, ↓x_max2, ↓x_min2, ↓x_int1I, ↓x_int1B, ↓x_listL, ↓x_listT, ↓x_listS, ↓x_itL, ↓x_itT, ↓x_itS, ↓x_ixL0, ↓x_ixT0, ↓x_ixT1, ↓x_ixL1, ↓x_ixT2, ↓x_ixL2, ↓x_ixT3, ↓x_ixT4, ↓x_ixT5, ↓x_lc, ↓x_wipe0, ↓x_wipe1, ↓x_join, ↓x_gT, ↓x_gsN, ↓x_gsC, ↓x_notV, ↓x_andV, ↓x_orV, ↓x_chain, ↓x_tape1, ↓x_v0, ↓x_st0, ↓x_ap0, ↓x_io0, ↓x_lo0, ↓x_ro0, ↓x_v1, ↓x_st1, ↓x_ap1, ↓x_io1, ↓x_lo1, ↓x_ro1, ↓x_v2, ↓x_st2, ↓x_ap2, ↓x_io2, ↓x_lo2, ↓x_ro2, ↓x_v3, ↓x_st3, ↓x_ap3, ↓x_io3, ↓x_lo3, ↓x_ro3, ↓x_v4, ↓x_st4, ↓x_ap4, ↓x_io4, ↓x_lo4, ↓x_ro4, ↓x_v5, ↓x_st5, ↓x_ap5, ↓x_io5, ↓x_lo5, ↓x_ro5, ↓x_v6, ↓x_st6, ↓x_ap6, ↓x_io6, ↓x_lo6, ↓x_ro6, ↓x_v7, ↓x_st7, ↓x_ap7, ↓x_io7, ↓x_lo7, ↓x_ro7, ↓x_v8, ↓x_st8, ↓x_ap8, ↓x_io8, ↓x_lo8, ↓x_ro8, ↓x_v9, ↓x_st9, ↓x_ap9, ↓x_io9, ↓x_lo9, ↓x_ro9, ↓x_v10, ↓x_st10, ↓x_ap10, ↓x_io10, ↓x_lo10, ↓x_ro10, ↓x_v11, ↓x_st11, ↓x_ap11, ↓x_io11, ↓x_lo11, ↓x_ro11, ↓x_v12, ↓x_v13, ↓x_v14, ↓x_v15, ↓x_ss0, ↓x_ls0, ↓x_subII, ↓x_subBB, ↓x_repr, ↓x_sw, ↓x_M1, ↓x_par, ↓x_gSt1, ↓x_gSt3, ↓x_fo0, ↓x_fd0, ↓x_po0, ↓x_pt0, ↓x_fo1, ↓x_fd1, ↓x_po1, ↓x_pt1, ↓x_fo2, ↓x_fd2, ↓x_po2, ↓x_pt2, ↓x_fo3, ↓x_fd3, ↓x_po3, ↓x_pt3, ↓x_fo4, ↓x_fd4, ↓x_po4, ↓x_pt4, ↓x_fo5, ↓x_fd5, ↓x_po5, ↓x_pt5, ↓x_fo6, ↓x_fd6, ↓x_po6, ↓x_pt6, ↓x_fo7, ↓x_fd7, ↓x_po7, ↓x_pt7, ↓x_fo8, ↓x_fd8, ↓x_po8, ↓x_pt8, ↓x_fo9, ↓x_fd9, ↓x_po9, ↓x_pt9, ↓x_fo10, ↓x_fd10, ↓x_po10, ↓x_pt10, ↓x_fo11, ↓x_fd11, ↓x_po11, ↓x_pt11, ↓x_plI, ↓x_plB, ↓x_plS, ↓x_in2, ↓x_in3, ↓x_sl1T, ↓x_sl1L, ↓x_slS, ↓x_tuL, ↓x_tuT, ↓x_enumD, ↓x_iAsc, ↓x_eq0T, ↓x_eq0L, ↓x_mulT, ↓x_pu0, ↓x_pu1, ↓x_pu2, ↓x_pu3, ↓x_pu4, ↓x_pu5, ↓x_pu6, ↓x_pu7, ↓x_pu8, ↓x_pu9, ↓x_pu10, ↓x_pu11, ↓x_isB, ↓x_isNB, ↓x_nonD, ↓x_in4, ↓x_nin4, ↓x_nin2, ↓x_tupRg, ↓x_lstRg, ↓x_g_LIMIT, ↓x_g_MAX_CHOICES, ↓x_g_MAX_DEPTH, ↓x_g_MAX_ORDER, ↓x_g_MAX_TEXT, ↓x_g_TESTS, List.cons_append, List.nil_append, List.replicate_succ, List.replicate_zero, List.set_cons_zero, List.set_cons_succ, List.getElem?_cons_zero, List.getElem?_cons_succ, decide_eq_true_eq, Bool.false_eq_true, Bool.true_eq_false, ↓reduceIte, Bool.not_true, Bool.not_false, decide_true, decide_false, isTy, isTyK, kindD, PySem.sizeLine_eq, List.length_cons, List.length_nil, true_and, and_true, true_implies, Bool.not_eq_true', decide_eq_false_iff_not, Nat.reduceAdd, Nat.reduceLeDiff, Nat.reduceLT, Int.reduceAdd, Int.reduceSub, Int.reduceLT, Int.reduceLE, Int.reduceNeg, Int.reduceEq, Nat.reduceEqDiff, not_true_eq_false, not_false_eq_true]
        have ex := cols_ints e
        have il := int_len (ns := xs.map colI)
        rw [← ex] at il
        refine ⟨xs.map colI, .inr (by rw [← ex]), by rw [List.length_map] at il ⊢; omega, fun ms hm hk => ?_⟩
        rw [ex]
        refine eq_ints ?_
        have eq : decide (List.map colI (List.map PyData.int (List.map colI xs)) = ms) = ascB (xs.map colI) := by
          rw [← ex]
          by_cases z : (xs.map colI).Pairwise (· < ·)
          · rw [(asc_iff _).mpr z, decide_eq_true]
            exact asc_uniq z hm fun k => (hk k).symm
          · have : ascB (xs.map colI) = false := by
              cases q : ascB (xs.map colI)
              · rfl
              · exact absurd ((asc_iff _).mp q) z
            rw [this, decide_eq_false]
            intro q
            exact z (q ▸ hm)
        first | (rw [eq]; exact h') | skip
        rw [← ex] at eq
        rw [eq]
        exact h'
  | _ =>
    simp only [b_is_shown, ↓x_fnD, ↓x_skip, ↓x_seq, ↓x_brk, ↓x_cnt, ↓x_exp, ↓x_ret, ↓x_retN, ↓x_ifS, ↓x_set, ↓x_asg, ↓x_own, ↓x_fLst, ↓x_tape, ↓x_C, ↓x_op, ↓x_un, ↓x_test, ↓x_and, ↓x_or, ↓x_not, ↓x_if, ↓x_dnil, ↓x_dcons, ↓x_anil, ↓x_acons, ↓x_tup, ↓x_lst, ↓x_call, ↓x_fn, ↓x_isi, ↓x_new, ↓x_gN, ↓x_yes, ↓x_for, ↓x_iData, ↓x_iRg1, ↓x_oNo, ↓x_oSome, ↓x_sl, ↓x_mD1, ↓x_mD2, ↓x_mD3, ↓x_mD4, ↓x_mD5, ↓x_mT0, ↓x_mT1, ↓x_mT2, ↓x_mT3, ↓x_mT4, ↓x_eqI, ↓x_eqS, ↓x_eqB, ↓x_eqIS, ↓x_eqSI, ↓x_eqNN, ↓x_eqNI, ↓x_eqIN, ↓x_eqNS, ↓x_eqSN, ↓x_neI, ↓x_neS, ↓x_neB, ↓x_ltI, ↓x_ltS, ↓x_leI, ↓x_leS, ↓x_gtI, ↓x_gtS, ↓x_geI, ↓x_geS, ↓x_isN, ↓x_notN, ↓x_nonN, ↓x_nonI, ↓x_nonB, ↓x_nonS, ↓x_nonT, ↓x_nonL, ↓x_addI, ↓x_addS, ↓x_addT, ↓x_addL, ↓x_subI, ↓x_negI, ↓x_mulI, ↓x_mulS, ↓x_mulL, ↓x_modI, ↓x_divI, ↓x_powI, ↓x_lenL, ↓x_lenT, ↓x_lenS, ↓x_max2, ↓x_min2, ↓x_int1I, ↓x_int1B, ↓x_listL, ↓x_listT, ↓x_listS, ↓x_itL, ↓x_itT, ↓x_itS, ↓x_ixL0, ↓x_ixT0, ↓x_ixT1, ↓x_ixL1, ↓x_ixT2, ↓x_ixL2, ↓x_ixT3, ↓x_ixT4, ↓x_ixT5, ↓x_lc, ↓x_wipe0, ↓x_wipe1, ↓x_join, ↓x_gT, ↓x_gsN, ↓x_gsC, ↓x_notV, ↓x_andV, ↓x_orV, ↓x_chain, ↓x_tape1, ↓x_v0, ↓x_st0, ↓x_ap0, ↓x_io0, ↓x_lo0, ↓x_ro0, ↓x_v1, ↓x_st1, ↓x_ap1, ↓x_io1, ↓x_lo1, ↓x_ro1, ↓x_v2, ↓x_st2, ↓x_ap2, ↓x_io2, ↓x_lo2, ↓x_ro2, ↓x_v3, ↓x_st3, ↓x_ap3, ↓x_io3, ↓x_lo3, ↓x_ro3, ↓x_v4, ↓x_st4, ↓x_ap4, ↓x_io4, ↓x_lo4, ↓x_ro4, ↓x_v5, ↓x_st5, ↓x_ap5, ↓x_io5, ↓x_lo5, ↓x_ro5, ↓x_v6, ↓x_st6, ↓x_ap6, ↓x_io6, ↓x_lo6, ↓x_ro6, ↓x_v7, ↓x_st7, ↓x_ap7, ↓x_io7, ↓x_lo7, ↓x_ro7, ↓x_v8, ↓x_st8, ↓x_ap8, ↓x_io8, ↓x_lo8, ↓x_ro8, ↓x_v9, ↓x_st9, ↓x_ap9, ↓x_io9, ↓x_lo9, ↓x_ro9, ↓x_v10, ↓x_st10, ↓x_ap10, ↓x_io10, ↓x_lo10, ↓x_ro10, ↓x_v11, ↓x_st11, ↓x_ap11, ↓x_io11, ↓x_lo11, ↓x_ro11, ↓x_v12, ↓x_v13, ↓x_v14, ↓x_v15, ↓x_ss0, ↓x_ls0, ↓x_subII, ↓x_subBB, ↓x_repr, ↓x_sw, ↓x_M1, ↓x_par, ↓x_gSt1, ↓x_gSt3, ↓x_fo0, ↓x_fd0, ↓x_po0, ↓x_pt0, ↓x_fo1, ↓x_fd1, ↓x_po1, ↓x_pt1, ↓x_fo2, ↓x_fd2, ↓x_po2, ↓x_pt2, ↓x_fo3, ↓x_fd3, ↓x_po3, ↓x_pt3, ↓x_fo4, ↓x_fd4, ↓x_po4, ↓x_pt4, ↓x_fo5, ↓x_fd5, ↓x_po5, ↓x_pt5, ↓x_fo6, ↓x_fd6, ↓x_po6, ↓x_pt6, ↓x_fo7, ↓x_fd7, ↓x_po7, ↓x_pt7, ↓x_fo8, ↓x_fd8, ↓x_po8, ↓x_pt8, ↓x_fo9, ↓x_fd9, ↓x_po9, ↓x_pt9, ↓x_fo10, ↓x_fd10, ↓x_po10, ↓x_pt10, ↓x_fo11, ↓x_fd11, ↓x_po11, ↓x_pt11, ↓x_plI, ↓x_plB, ↓x_plS, ↓x_in2, ↓x_in3, ↓x_sl1T, ↓x_sl1L, ↓x_slS, ↓x_tuL, ↓x_tuT, ↓x_enumD, ↓x_iAsc, ↓x_eq0T, ↓x_eq0L, ↓x_mulT, ↓x_pu0, ↓x_pu1, ↓x_pu2, ↓x_pu3, ↓x_pu4, ↓x_pu5, ↓x_pu6, ↓x_pu7, ↓x_pu8, ↓x_pu9, ↓x_pu10, ↓x_pu11, ↓x_isB, ↓x_isNB, ↓x_nonD, ↓x_in4, ↓x_nin4, ↓x_nin2, ↓x_tupRg, ↓x_lstRg, ↓x_g_LIMIT, ↓x_g_MAX_CHOICES, ↓x_g_MAX_DEPTH, ↓x_g_MAX_ORDER, ↓x_g_MAX_TEXT, ↓x_g_TESTS, List.cons_append, List.nil_append, List.replicate_succ, List.replicate_zero, List.set_cons_zero, List.set_cons_succ, List.getElem?_cons_zero, List.getElem?_cons_succ, decide_eq_true_eq, Bool.false_eq_true, Bool.true_eq_false, ↓reduceIte, Bool.not_true, Bool.not_false, decide_true, decide_false, isTy, isTyK, kindD, PySem.sizeLine_eq, List.length_cons, List.length_nil, true_and, and_true, true_implies, Bool.not_eq_true', decide_eq_false_iff_not, Nat.reduceAdd, Nat.reduceLeDiff, Nat.reduceLT, Int.reduceAdd, Int.reduceSub, Int.reduceLT, Int.reduceLE, Int.reduceNeg, Int.reduceEq, Nat.reduceEqDiff, not_true_eq_false, not_false_eq_true]
    exact hQ
theorem ok_is_shown (T : Txt K mg) {f : Addr} {fd : FuncData} (F : Fun K "is_shown" "is_shown" s_is_shown f fd) : FnG P w K mg base 2 f fd ["value", "width"] (spD P w K 2 (fnD b_is_shown 1)) :=
  fn_okG F sc_is_shown fun cdv A outer s H E hr hgd => by
    have hu := hr.units
    exact (s_cons (s_if (PW.pt (w_or (t_not (t_val (e_isi (T := .tuple) T.b_isinstance T.b_tuple bo_tuple (ev 0)))) (w_or1 (t_not (t_val (e_cbB (bAll rfl) T.b_all bo_all (d_cons (e_new (f_lc (own := [("column", 2)]) rfl sc_is_shown.nd (i_data (ev 0)) (blkOk_by (N := N_is_shown) (sc := defScope s_is_shown) (by decide +kernel)) (fun _ _ _ _ _ => (g_nm (vs := [2]) sc_is_shown.nd rfl (by first | exact Or.inl rfl | exact Or.inr rfl) (by decide))) (fun _ _ _ _ _ => LTs.nil) (fun _ _ _ _ _ => (e_and (e_fnG (cal_is_integer T) hr hgd (a_cons (ev 2) a_nil) ) (e_one (e_chainD oLe (oLt' hu) e_int (ev 2) (ev 1))))))) d_nil))))))) (s_one (s_ret e_bl)) s_nil)
      (s_one (s_ret (e_cmpD (oEq hu) (e_cbT (bList rfl) T.b_list bo_list (d_cons (ev 0) d_nil)) (e_sortSet T.b_sorted T.b_set rfl (ev 0))))))
theorem cal_is_shown (T : Txt K mg) : CalG P w K mg base 2 "is_shown" (spD P w K 2 m_is_shown) :=
  CalG.imp (calG_of T.f_is_shown (show BindsN "is_shown" s_is_shown ["value", "width"] from fun _ _ _ _ _ _ us hl => match us, hl with | [_, _], _ => rfl) fun _ _ F => ok_is_shown T F) spec_is_shown
theorem sc_is_view : FnScope N_is_view ["value", "width"] (defScope s_is_view) := ⟨rfl, rfl, rfl, by decide +kernel, rfl, by decide +kernel, by decide +kernel⟩
def b_is_view : DS := (dSeq (dIfS (dOr (dNot (dTest (dIsI .tuple (dVar 0)))) (dTest (dOp fNe (dCall fLen (dCons (dVar 0) dNil)) (dC (.int 3))))) (dRet (dC (.bool false))) dSkip)
    (dSeq (dAsg (gT (gCons' (gN 2) (gCons' (gN 3) (gCons' (gN 4) gNil'))) 3) (dVar 0))
    (dRet (dAndV (dFn m_is_condition (aCons (dVar 2) (aCons (dVar 1) aNil))) (dAndV (dFn m_is_order (aCons (dVar 3) (aCons (dVar 1) aNil))) (dFn m_is_shown (aCons (dVar 4) (aCons (dVar 1) aNil))))))))
abbrev m_is_view : List SV → EK → Prop := mD2 fun x y Q => ∃ w : Int, y = .int w ∧ szD x ≤ 1000000 ∧ Q (.bool (viewB w x))
theorem spec_is_view (svs : List SV) (R : EK) (_ : svs.length = 2) (h : m_is_view svs R) : fnD b_is_view 3 svs R := by
  obtain ⟨x, y, rfl, w, rfl, hz, hQ⟩ := mD2_elim h
  cases x with
  | tuple xs =>
    have hz' : szAll xs + 3 ≤ 1000000 := hz
    have hl := well_lt (xs := xs) (by omega)
    rcases xs with _ | ⟨c, _ | ⟨o, _ | ⟨s, _ | ⟨z, xs⟩⟩⟩⟩
    · simp only [b_is_view, ↓x_fnD, ↓x_skip, ↓x_seq, ↓x_brk, ↓x_cnt, ↓x_exp, ↓x_ret, ↓x_retN, ↓x_ifS, ↓x_set, ↓x_asg, ↓x_own, ↓x_fLst, ↓x_tape, ↓x_C, ↓x_op, ↓x_un, ↓x_test, ↓x_and, ↓x_or, ↓x_not, ↓x_if, ↓x_dnil, ↓x_dcons, ↓x_anil, ↓x_acons, ↓x_tup, ↓x_lst, ↓x_call, ↓x_fn, ↓x_isi, ↓x_new, ↓x_gN, ↓x_yes, ↓x_for, ↓x_iData, ↓x_iRg1, ↓x_oNo, ↓x_oSome, ↓x_sl, ↓x_mD1, ↓x_mD2, ↓x_mD3, ↓x_mD4, ↓x_mD5, ↓x_mT0, ↓x_mT1, ↓x_mT2, ↓x_mT3, ↓x_mT4, ↓x_eqI, ↓x_eqS, ↓x_eqB, ↓x_eqIS, ↓x_eqSI, ↓x_eqNN, ↓x_eqNI, ↓x_eqIN, ↓x_eqNS, ↓x_eqSN, ↓x_neI, ↓x_neS, ↓x_neB, ↓x_ltI, ↓x_ltS, ↓x_leI, ↓x_leS, ↓x_gtI, ↓x_gtS, ↓x_geI, ↓x_geS, ↓x_isN, ↓x_notN, ↓x_nonN, ↓x_nonI, ↓x_nonB, ↓x_nonS, ↓x_nonT, ↓x_nonL, ↓x_addI, ↓x_addS, ↓x_addT, ↓x_addL, ↓x_subI, ↓x_negI, ↓x_mulI, ↓x_mulS, ↓x_mulL, ↓x_modI, ↓x_divI, ↓x_powI, ↓x_lenL, ↓x_lenT, ↓x_lenS, ↓x_max2, ↓x_min2, ↓x_int1I, ↓x_int1B, ↓x_listL, ↓x_listT, ↓x_listS, ↓x_itL, ↓x_itT, ↓x_itS, ↓x_ixL0, ↓x_ixT0, ↓x_ixT1, ↓x_ixL1, ↓x_ixT2, ↓x_ixL2, ↓x_ixT3, ↓x_ixT4, ↓x_ixT5, ↓x_lc, ↓x_wipe0, ↓x_wipe1, ↓x_join, ↓x_gT, ↓x_gsN, ↓x_gsC, ↓x_notV, ↓x_andV, ↓x_orV, ↓x_chain, ↓x_tape1, ↓x_v0, ↓x_st0, ↓x_ap0, ↓x_io0, ↓x_lo0, ↓x_ro0, ↓x_v1, ↓x_st1, ↓x_ap1, ↓x_io1, ↓x_lo1, ↓x_ro1, ↓x_v2, ↓x_st2, ↓x_ap2, ↓x_io2, ↓x_lo2, ↓x_ro2, ↓x_v3, ↓x_st3, ↓x_ap3, ↓x_io3, ↓x_lo3, ↓x_ro3, ↓x_v4, ↓x_st4, ↓x_ap4, ↓x_io4, ↓x_lo4, ↓x_ro4, ↓x_v5, ↓x_st5, ↓x_ap5, ↓x_io5, ↓x_lo5, ↓x_ro5, ↓x_v6, ↓x_st6, ↓x_ap6, ↓x_io6, ↓x_lo6, ↓x_ro6, ↓x_v7, ↓x_st7, ↓x_ap7, ↓x_io7, ↓x_lo7, ↓x_ro7, ↓x_v8, ↓x_st8, ↓x_ap8, ↓x_io8, ↓x_lo8, ↓x_ro8, ↓x_v9, ↓x_st9, ↓x_ap9, ↓x_io9, ↓x_lo9, ↓x_ro9, ↓x_v10, ↓x_st10, ↓x_ap10, ↓x_io10, ↓x_lo10, ↓x_ro10, ↓x_v11, ↓x_st11, ↓x_ap11, ↓x_io11, ↓x_lo11, ↓x_ro11, ↓x_v12, ↓x_v13, ↓x_v14, ↓x_v15, ↓x_ss0, ↓x_ls0, ↓x_subII, ↓x_subBB, ↓x_repr, ↓x_sw, ↓x_M1, ↓x_par, ↓x_gSt1, ↓x_gSt3, ↓x_fo0, ↓x_fd0, ↓x_po0, ↓x_pt0, ↓x_fo1, ↓x_fd1, ↓x_po1, ↓x_pt1, ↓x_fo2, ↓x_fd2, ↓x_po2, ↓x_pt2, ↓x_fo3, ↓x_fd3, ↓x_po3, ↓x_pt3, ↓x_fo4, ↓x_fd4, ↓x_po4, ↓x_pt4, ↓x_fo5, ↓x_fd5, ↓x_po5, ↓x_pt5, ↓x_fo6, ↓x_fd6, ↓x_po6, ↓x_pt6, ↓x_fo7, ↓x_fd7, ↓x_po7, ↓x_pt7, ↓x_fo8, ↓x_fd8, ↓x_po8, ↓x_pt8, ↓x_fo9, ↓x_fd9, ↓x_po9, ↓x_pt9, ↓x_fo10, ↓x_fd10, ↓x_po10, ↓x_pt10, ↓x_fo11, ↓x_fd11, ↓x_po11, ↓x_pt11, ↓x_plI, ↓x_plB, ↓x_plS, ↓x_in2, ↓x_in3, ↓x_sl1T, ↓x_sl1L, ↓x_slS, ↓x_tuL, ↓x_tuT, ↓x_enumD, ↓x_iAsc, ↓x_eq0T, ↓x_eq0L, ↓x_mulT, ↓x_pu0, ↓x_pu1, ↓x_pu2, ↓x_pu3, ↓x_pu4, ↓x_pu5, ↓x_pu6, ↓x_pu7, ↓x_pu8, ↓x_pu9, ↓x_pu10, ↓x_pu11, ↓x_isB, ↓x_isNB, ↓x_nonD, ↓x_in4, ↓x_nin4, ↓x_nin2, ↓x_tupRg, ↓x_lstRg, ↓x_g_LIMIT, ↓x_g_MAX_CHOICES, ↓x_g_MAX_DEPTH, ↓x_g_MAX_ORDER, ↓x_g_MAX_TEXT, ↓x_g_TESTS, List.cons_append, List.nil_append, List.replicate_succ, List.replicate_zero, List.set_cons_zero, List.set_cons_succ, List.getElem?_cons_zero, List.getElem?_cons_succ, decide_eq_true_eq, Bool.false_eq_true, Bool.true_eq_false, ↓reduceIte, Bool.not_true, Bool.not_false, decide_true, decide_false, isTy, isTyK, kindD, PySem.sizeLine_eq, List.length_cons, List.length_nil, true_and, and_true, true_implies, Bool.not_eq_true', decide_eq_false_iff_not, Nat.reduceAdd, Nat.reduceLeDiff, Nat.reduceLT, Int.reduceAdd, Int.reduceSub, Int.reduceLT, Int.reduceLE, Int.reduceNeg, Int.reduceEq, Nat.reduceEqDiff, not_true_eq_false, not_false_eq_true]
      exact hQ
    · simp only [b_is_view, ↓x_fnD, ↓x_skip, ↓x_seq, ↓x_brk, ↓x_cnt, ↓x_exp, ↓x_ret, ↓x_retN, ↓x_ifS, ↓x_set, ↓x_asg, ↓x_own, ↓x_fLst, ↓x_tape, ↓x_C, ↓x_op, ↓x_un, ↓x_test, ↓x_and, ↓x_or, ↓x_not, ↓x_if, ↓x_dnil, ↓x_dcons, ↓x_anil, ↓x_acons, ↓x_tup, ↓x_lst, ↓x_call, ↓x_fn, ↓x_isi, ↓x_new, ↓x_gN, ↓x_yes, ↓x_for, ↓x_iData, ↓x_iRg1, ↓x_oNo, ↓x_oSome, ↓x_sl, ↓x_mD1, ↓x_mD2, ↓x_mD3, ↓x_mD4, ↓x_mD5, ↓x_mT0, ↓x_mT1, ↓x_mT2, ↓x_mT3, ↓x_mT4, ↓x_eqI, ↓x_eqS, ↓x_eqB, ↓x_eqIS, ↓x_eqSI, ↓x_eqNN, ↓x_eqNI, ↓x_eqIN, ↓x_eqNS, ↓x_eqSN, ↓x_neI, ↓x_neS, ↓x_neB, ↓x_ltI, ↓x_ltS, ↓x_leI, ↓x_leS, ↓x_gtI, ↓x_gtS, ↓x_geI, ↓x_geS, ↓x_isN, ↓x_notN, ↓x_nonN, ↓x_nonI, ↓x_nonB, ↓x_nonS, ↓x_nonT, ↓x_nonL, ↓x_addI, ↓x_addS, ↓x_addT, ↓x_addL, ↓x_subI, ↓x_negI, ↓x_mulI, ↓x_mulS, ↓x_mulL, ↓x_modI, ↓x_divI, ↓x_powI, ↓x_lenL, ↓x_lenT, ↓x_lenS, ↓x_max2, ↓x_min2, ↓x_int1I, ↓x_int1B, ↓x_listL, ↓x_listT, ↓x_listS, ↓x_itL, ↓x_itT, ↓x_itS, ↓x_ixL0, ↓x_ixT0, ↓x_ixT1, ↓x_ixL1, ↓x_ixT2, ↓x_ixL2, ↓x_ixT3, ↓x_ixT4, ↓x_ixT5, ↓x_lc, ↓x_wipe0, ↓x_wipe1, ↓x_join, ↓x_gT, ↓x_gsN, ↓x_gsC, ↓x_notV, ↓x_andV, ↓x_orV, ↓x_chain, ↓x_tape1, ↓x_v0, ↓x_st0, ↓x_ap0, ↓x_io0, ↓x_lo0, ↓x_ro0, ↓x_v1, ↓x_st1, ↓x_ap1, ↓x_io1, ↓x_lo1, ↓x_ro1, ↓x_v2, ↓x_st2, ↓x_ap2, ↓x_io2, ↓x_lo2, ↓x_ro2, ↓x_v3, ↓x_st3, ↓x_ap3, ↓x_io3, ↓x_lo3, ↓x_ro3, ↓x_v4, ↓x_st4, ↓x_ap4, ↓x_io4, ↓x_lo4, ↓x_ro4, ↓x_v5, ↓x_st5, ↓x_ap5, ↓x_io5, ↓x_lo5, ↓x_ro5, ↓x_v6, ↓x_st6, ↓x_ap6, ↓x_io6, ↓x_lo6, ↓x_ro6, ↓x_v7, ↓x_st7, ↓x_ap7, ↓x_io7, ↓x_lo7, ↓x_ro7, ↓x_v8, ↓x_st8, ↓x_ap8, ↓x_io8, ↓x_lo8, ↓x_ro8, ↓x_v9, ↓x_st9, ↓x_ap9, ↓x_io9, ↓x_lo9, ↓x_ro9, ↓x_v10, ↓x_st10, ↓x_ap10, ↓x_io10, ↓x_lo10, ↓x_ro10, ↓x_v11, ↓x_st11, ↓x_ap11, ↓x_io11, ↓x_lo11, ↓x_ro11, ↓x_v12, ↓x_v13, ↓x_v14, ↓x_v15, ↓x_ss0, ↓x_ls0, ↓x_subII, ↓x_subBB, ↓x_repr, ↓x_sw, ↓x_M1, ↓x_par, ↓x_gSt1, ↓x_gSt3, ↓x_fo0, ↓x_fd0, ↓x_po0, ↓x_pt0, ↓x_fo1, ↓x_fd1, ↓x_po1, ↓x_pt1, ↓x_fo2, ↓x_fd2, ↓x_po2, ↓x_pt2, ↓x_fo3, ↓x_fd3, ↓x_po3, ↓x_pt3, ↓x_fo4, ↓x_fd4, ↓x_po4, ↓x_pt4, ↓x_fo5, ↓x_fd5, ↓x_po5, ↓x_pt5, ↓x_fo6, ↓x_fd6, ↓x_po6, ↓x_pt6, ↓x_fo7, ↓x_fd7, ↓x_po7, ↓x_pt7, ↓x_fo8, ↓x_fd8, ↓x_po8, ↓x_pt8, ↓x_fo9, ↓x_fd9, ↓x_po9, ↓x_pt9, ↓x_fo10, ↓x_fd10, ↓x_po10, ↓x_pt10, ↓x_fo11, ↓x_fd11, ↓x_po11, ↓x_pt11, ↓x_plI, ↓x_plB, ↓x_plS, ↓x_in2, ↓x_in3, ↓x_sl1T, ↓x_sl1L, ↓x_slS, ↓x_tuL, ↓x_tuT, ↓x_enumD, ↓x_iAsc, ↓x_eq0T, ↓x_eq0L, ↓x_mulT, ↓x_pu0, ↓x_pu1, ↓x_pu2, ↓x_pu3, ↓x_pu4, ↓x_pu5, ↓x_pu6, ↓x_pu7, ↓x_pu8, ↓x_pu9, ↓x_pu10, ↓x_pu11, ↓x_isB, ↓x_isNB, ↓x_nonD, ↓x_in4, ↓x_nin4, ↓x_nin2, ↓x_tupRg, ↓x_lstRg, ↓x_g_LIMIT, ↓x_g_MAX_CHOICES, ↓x_g_MAX_DEPTH, ↓x_g_MAX_ORDER, ↓x_g_MAX_TEXT, ↓x_g_TESTS, List.cons_append, List.nil_append, List.replicate_succ, List.replicate_zero, List.set_cons_zero, List.set_cons_succ, List.getElem?_cons_zero, List.getElem?_cons_succ, decide_eq_true_eq, Bool.false_eq_true, Bool.true_eq_false, ↓reduceIte, Bool.not_true, Bool.not_false, decide_true, decide_false, isTy, isTyK, kindD, PySem.sizeLine_eq, List.length_cons, List.length_nil, true_and, and_true, true_implies, Bool.not_eq_true', decide_eq_false_iff_not, Nat.reduceAdd, Nat.reduceLeDiff, Nat.reduceLT, Int.reduceAdd, Int.reduceSub, Int.reduceLT, Int.reduceLE, Int.reduceNeg, Int.reduceEq, Nat.reduceEqDiff, not_true_eq_false, not_false_eq_true]
      exact hQ
    · simp only [b_is_view, ↓x_fnD, ↓x_skip, ↓x_seq, ↓x_brk, ↓x_cnt, ↓x_exp, ↓x_ret, ↓x_retN, ↓x_ifS, ↓x_set, ↓x_asg, ↓x_own, ↓x_fLst, ↓x_tape, ↓x_C, ↓x_op, ↓x_un, ↓x_test, ↓x_and, ↓x_or, ↓x_not, ↓x_if, ↓x_dnil, ↓x_dcons, ↓x_anil, ↓x_acons, ↓x_tup, ↓x_lst, ↓x_call, ↓x_fn, ↓x_isi, ↓x_new, ↓x_gN, ↓x_yes, ↓x_for, ↓x_iData, ↓x_iRg1, ↓x_oNo, ↓x_oSome, ↓x_sl, ↓x_mD1, ↓x_mD2, ↓x_mD3, ↓x_mD4, ↓x_mD5, ↓x_mT0, ↓x_mT1, ↓x_mT2, ↓x_mT3, ↓x_mT4, ↓x_eqI, ↓x_eqS, ↓x_eqB, ↓x_eqIS, ↓x_eqSI, ↓x_eqNN, ↓x_eqNI, ↓x_eqIN, ↓x_eqNS, ↓x_eqSN, ↓x_neI, ↓x_neS, ↓x_neB, ↓x_ltI, ↓x_ltS, ↓x_leI, ↓x_leS, ↓x_gtI, ↓x_gtS, ↓x_geI, ↓x_geS, ↓x_isN, ↓x_notN, ↓x_nonN, ↓x_nonI, ↓x_nonB, ↓x_nonS, ↓x_nonT, ↓x_nonL, ↓x_addI, ↓x_addS, ↓x_addT, ↓x_addL, ↓x_subI, ↓x_negI, ↓x_mulI, ↓x_mulS, ↓x_mulL, ↓x_modI, ↓x_divI, ↓x_powI, ↓x_lenL, ↓x_lenT, ↓x_lenS, ↓x_max2, ↓x_min2, ↓x_int1I, ↓x_int1B, ↓x_listL, ↓x_listT, ↓x_listS, ↓x_itL, ↓x_itT, ↓x_itS, ↓x_ixL0, ↓x_ixT0, ↓x_ixT1, ↓x_ixL1, ↓x_ixT2, ↓x_ixL2, ↓x_ixT3, ↓x_ixT4, ↓x_ixT5, ↓x_lc, ↓x_wipe0, ↓x_wipe1, ↓x_join, ↓x_gT, ↓x_gsN, ↓x_gsC, ↓x_notV, ↓x_andV, ↓x_orV, ↓x_chain, ↓x_tape1, ↓x_v0, ↓x_st0, ↓x_ap0, ↓x_io0, ↓x_lo0, ↓x_ro0, ↓x_v1, ↓x_st1, ↓x_ap1, ↓x_io1, ↓x_lo1, ↓x_ro1, ↓x_v2, ↓x_st2, ↓x_ap2, ↓x_io2, ↓x_lo2, ↓x_ro2, ↓x_v3, ↓x_st3, ↓x_ap3, ↓x_io3, ↓x_lo3, ↓x_ro3, ↓x_v4, ↓x_st4, ↓x_ap4, ↓x_io4, ↓x_lo4, ↓x_ro4, ↓x_v5, ↓x_st5, ↓x_ap5, ↓x_io5, ↓x_lo5, ↓x_ro5, ↓x_v6, ↓x_st6, ↓x_ap6, ↓x_io6, ↓x_lo6, ↓x_ro6, ↓x_v7, ↓x_st7, ↓x_ap7, ↓x_io7, ↓x_lo7, ↓x_ro7, ↓x_v8, ↓x_st8, ↓x_ap8, ↓x_io8, ↓x_lo8, ↓x_ro8, ↓x_v9, ↓x_st9, ↓x_ap9, ↓x_io9, ↓x_lo9, ↓x_ro9, ↓x_v10, ↓x_st10, ↓x_ap10, ↓x_io10, ↓x_lo10, ↓x_ro10, ↓x_v11, ↓x_st11, ↓x_ap11, ↓x_io11, ↓x_lo11, ↓x_ro11, ↓x_v12, ↓x_v13, ↓x_v14, ↓x_v15, ↓x_ss0, ↓x_ls0, ↓x_subII, ↓x_subBB, ↓x_repr, ↓x_sw, ↓x_M1, ↓x_par, ↓x_gSt1, ↓x_gSt3, ↓x_fo0, ↓x_fd0, ↓x_po0, ↓x_pt0, ↓x_fo1, ↓x_fd1, ↓x_po1, ↓x_pt1, ↓x_fo2, ↓x_fd2, ↓x_po2, ↓x_pt2, ↓x_fo3, ↓x_fd3, ↓x_po3, ↓x_pt3, ↓x_fo4, ↓x_fd4, ↓x_po4, ↓x_pt4, ↓x_fo5, ↓x_fd5, ↓x_po5, ↓x_pt5, ↓x_fo6, ↓x_fd6, ↓x_po6, ↓x_pt6, ↓x_fo7, ↓x_fd7, ↓x_po7, ↓x_pt7, ↓x_fo8, ↓x_fd8, ↓x_po8, ↓x_pt8, ↓x_fo9, ↓x_fd9, ↓x_po9, ↓x_pt9, ↓x_fo10, ↓x_fd10, ↓x_po10, ↓x_pt10, ↓x_fo11, ↓x_fd11, ↓x_po11, ↓x_pt11, ↓x_plI, ↓x_plB, ↓x_plS, ↓x_in2, ↓x_in3, ↓x_sl1T, ↓x_sl1L, ↓x_slS, ↓x_tuL, ↓x_tuT, ↓x_enumD, ↓x_iAsc, ↓x_eq0T, ↓x_eq0L, ↓x_mulT, ↓x_pu0, ↓x_pu1, ↓x_pu2, ↓x_pu3, ↓x_pu4, ↓x_pu5, ↓x_pu6, ↓x_pu7, ↓x_pu8, ↓x_pu9, ↓x_pu10, ↓x_pu11, ↓x_isB, ↓x_isNB, ↓x_nonD, ↓x_in4, ↓x_nin4, ↓x_nin2, ↓x_tupRg, ↓x_lstRg, ↓x_g_LIMIT, ↓x_g_MAX_CHOICES, ↓x_g_MAX_DEPTH, ↓x_g_MAX_ORDER, ↓x_g_MAX_TEXT, ↓x_g_TESTS, List.cons_append, List.nil_append, List.replicate_succ, List.replicate_zero, List.set_cons_zero, List.set_cons_succ, List.getElem?_cons_zero, List.getElem?_cons_succ, decide_eq_true_eq, Bool.false_eq_true, Bool.true_eq_false, ↓reduceIte, Bool.not_true, Bool.not_false, decide_true, decide_false, isTy, isTyK, kindD, PySem.sizeLine_eq, List.length_cons, List.length_nil, true_and, and_true, true_implies, Bool.not_eq_true', decide_eq_false_iff_not, Nat.reduceAdd, Nat.reduceLeDiff, Nat.reduceLT, Int.reduceAdd, Int.reduceSub, Int.reduceLT, Int.reduceLE, Int.reduceNeg, Int.reduceEq, Nat.reduceEqDiff, not_true_eq_false, not_false_eq_true]
      exact hQ
    · have h' : R (.bool (withinB w 8 c && (orderB w o && shownB w s))) := hQ
      simp only [szAll] at hz'
      simp only [b_is_view, ↓x_fnD, ↓x_skip, ↓x_seq, ↓x_brk, ↓x_cnt, ↓x_exp, ↓x_ret, ↓x_retN, ↓x_ifS, ↓x_set, ↓x_asg, ↓x_own, ↓x_fLst, ↓x_tape, ↓x_C, ↓x_op, ↓x_un, ↓x_test, ↓x_and, ↓x_or, ↓x_not, ↓x_if, ↓x_dnil, ↓x_dcons, ↓x_anil, ↓x_acons, ↓x_tup, ↓x_lst, ↓x_call, ↓x_fn, ↓x_isi, ↓x_new, ↓x_gN, ↓x_yes, ↓x_for, ↓x_iData, ↓x_iRg1, ↓x_oNo, ↓x_oSome, ↓x_sl, ↓x_mD1, ↓x_mD2, ↓x_mD3, ↓x_mD4, ↓x_mD5, ↓x_mT0, ↓x_mT1, ↓x_mT2, ↓x_mT3, ↓x_mT4, ↓x_eqI, ↓x_eqS, ↓x_eqB, ↓x_eqIS, ↓x_eqSI, ↓x_eqNN, ↓x_eqNI, ↓x_eqIN, ↓x_eqNS, ↓x_eqSN, ↓x_neI, ↓x_neS, ↓x_neB, ↓x_ltI, ↓x_ltS, ↓x_leI, ↓x_leS, ↓x_gtI, ↓x_gtS, ↓x_geI, ↓x_geS, ↓x_isN, ↓x_notN, ↓x_nonN, ↓x_nonI, ↓x_nonB, ↓x_nonS, ↓x_nonT, ↓x_nonL, ↓x_addI, ↓x_addS, ↓x_addT, ↓x_addL, ↓x_subI, ↓x_negI, ↓x_mulI, ↓x_mulS, ↓x_mulL, ↓x_modI, ↓x_divI, ↓x_powI, ↓x_lenL, ↓x_lenT, ↓x_lenS, ↓x_max2, ↓x_min2, ↓x_int1I, ↓x_int1B, ↓x_listL, ↓x_listT, ↓x_listS, ↓x_itL, ↓x_itT, ↓x_itS, ↓x_ixL0, ↓x_ixT0, ↓x_ixT1, ↓x_ixL1, ↓x_ixT2, ↓x_ixL2, ↓x_ixT3, ↓x_ixT4, ↓x_ixT5, ↓x_lc, ↓x_wipe0, ↓x_wipe1, ↓x_join, ↓x_gT, ↓x_gsN, ↓x_gsC, ↓x_notV, ↓x_andV, ↓x_orV, ↓x_chain, ↓x_tape1, ↓x_v0, ↓x_st0, ↓x_ap0, ↓x_io0, ↓x_lo0, ↓x_ro0, ↓x_v1, ↓x_st1, ↓x_ap1, ↓x_io1, ↓x_lo1, ↓x_ro1, ↓x_v2, ↓x_st2, ↓x_ap2, ↓x_io2, ↓x_lo2, ↓x_ro2, ↓x_v3, ↓x_st3, ↓x_ap3, ↓x_io3, ↓x_lo3, ↓x_ro3, ↓x_v4, ↓x_st4, ↓x_ap4, ↓x_io4, ↓x_lo4, ↓x_ro4, ↓x_v5, ↓x_st5, ↓x_ap5, ↓x_io5, ↓x_lo5, ↓x_ro5, ↓x_v6, ↓x_st6, ↓x_ap6, ↓x_io6, ↓x_lo6, ↓x_ro6, ↓x_v7, ↓x_st7, ↓x_ap7, ↓x_io7, ↓x_lo7, ↓x_ro7, ↓x_v8, ↓x_st8, ↓x_ap8, ↓x_io8, ↓x_lo8, ↓x_ro8, ↓x_v9, ↓x_st9, ↓x_ap9, ↓x_io9, ↓x_lo9, ↓x_ro9, ↓x_v10, ↓x_st10, ↓x_ap10, ↓x_io10, ↓x_lo10, ↓x_ro10, ↓x_v11, ↓x_st11, ↓x_ap11, ↓x_io11, ↓x_lo11, ↓x_ro11, ↓x_v12, ↓x_v13, ↓x_v14, ↓x_v15, ↓x_ss0, ↓x_ls0, ↓x_subII, ↓x_subBB, ↓x_repr, ↓x_sw, ↓x_M1, ↓x_par, ↓x_gSt1, ↓x_gSt3, ↓x_fo0, ↓x_fd0, ↓x_po0, ↓x_pt0, ↓x_fo1, ↓x_fd1, ↓x_po1, ↓x_pt1, ↓x_fo2, ↓x_fd2, ↓x_po2, ↓x_pt2, ↓x_fo3, ↓x_fd3, ↓x_po3, ↓x_pt3, ↓x_fo4, ↓x_fd4, ↓x_po4, ↓x_pt4, ↓x_fo5, ↓x_fd5, ↓x_po5, ↓x_pt5, ↓x_fo6, ↓x_fd6, ↓x_po6, ↓x_pt6, ↓x_fo7, ↓x_fd7, ↓x_po7, ↓x_pt7, ↓x_fo8, ↓x_fd8, ↓x_po8, ↓x_pt8, ↓x_fo9, ↓x_fd9, ↓x_po9, ↓x_pt9, ↓x_fo10, ↓x_fd10, ↓x_po10, ↓x_pt10, ↓x_fo11, ↓x_fd11, ↓x_po11, ↓x_pt11, ↓x_plI, ↓x_plB, ↓x_plS, ↓x_in2, ↓x_in3, ↓x_sl1T, ↓x_sl1L, ↓x_slS, ↓x_tuL, ↓x_tuT, ↓x_enumD, ↓x_iAsc, ↓x_eq0T, ↓x_eq0L, ↓x_mulT, ↓x_pu0, ↓x_pu1, ↓x_pu2, ↓x_pu3, ↓x_pu4, ↓x_pu5, ↓x_pu6, ↓x_pu7, ↓x_pu8, ↓x_pu9, ↓x_pu10, ↓x_pu11, ↓x_isB, ↓x_isNB, ↓x_nonD, ↓x_in4, ↓x_nin4, ↓x_nin2, ↓x_tupRg, ↓x_lstRg, ↓x_g_LIMIT, ↓x_g_MAX_CHOICES, ↓x_g_MAX_DEPTH, ↓x_g_MAX_ORDER, ↓x_g_MAX_TEXT, ↓x_g_TESTS, List.cons_append, List.nil_append, List.replicate_succ, List.replicate_zero, List.set_cons_zero, List.set_cons_succ, List.getElem?_cons_zero, List.getElem?_cons_succ, decide_eq_true_eq, Bool.false_eq_true, Bool.true_eq_false, ↓reduceIte, Bool.not_true, Bool.not_false, decide_true, decide_false, isTy, isTyK, kindD, PySem.sizeLine_eq, List.length_cons, List.length_nil, true_and, and_true, true_implies, Bool.not_eq_true', decide_eq_false_iff_not, Nat.reduceAdd, Nat.reduceLeDiff, Nat.reduceLT, Int.reduceAdd, Int.reduceSub, Int.reduceLT, Int.reduceLE, Int.reduceNeg, Int.reduceEq, Nat.reduceEqDiff, not_true_eq_false, not_false_eq_true]
      refine ⟨w, rfl, by omega, ?_⟩
      cases e : withinB w 8 c <;> rw [e] at h'
      · exact h'
      refine ⟨w, rfl, by omega, ?_⟩
      cases e : orderB w o <;> rw [e] at h'
      · exact h'
      exact ⟨w, rfl, by omega, h'⟩
    · have e3 : ¬ ((xs.length : Int) + 1 + 1 + 1 + 1 = 3) := by omega
      simp only [b_is_view, ↓x_fnD, ↓x_skip, ↓x_seq, ↓x_brk, ↓x_cnt, ↓x_exp, ↓x_ret, ↓x_retN, ↓x_ifS, ↓x_set, ↓x_asg, ↓x_own, ↓x_fLst, ↓x_tape, ↓x_C, ↓x_op, ↓x_un, ↓x_test, ↓x_and, ↓x_or, ↓x_not, ↓x_if, ↓x_dnil, ↓x_dcons, ↓x_anil, ↓x_acons, ↓x_tup, ↓x_lst, ↓x_call, ↓x_fn, ↓x_isi, ↓x_new, ↓x_gN, ↓x_yes, ↓x_for, ↓x_iData, ↓x_iRg1, ↓x_oNo, ↓x_oSome, ↓x_sl, ↓x_mD1, ↓x_mD2, ↓x_mD3, ↓x_mD4, ↓x_mD5, ↓x_mT0, ↓x_mT1, ↓x_mT2, ↓x_mT3, ↓x_mT4, ↓x_eqI, ↓x_eqS, ↓x_eqB, ↓x_eqIS, ↓x_eqSI, ↓x_eqNN, ↓x_eqNI, ↓x_eqIN, ↓x_eqNS, ↓x_eqSN, ↓x_neI, ↓x_neS, ↓x_neB, ↓x_ltI, ↓x_ltS, ↓x_leI, ↓x_leS, ↓x_gtI, ↓x_gtS, ↓x_geI, ↓x_geS, ↓x_isN, ↓x_notN, ↓x_nonN, ↓x_nonI, ↓x_nonB, ↓x_nonS, ↓x_nonT, ↓x_nonL, ↓x_addI, ↓x_addS, ↓x_addT, ↓x_addL, ↓x_subI, ↓x_negI, ↓x_mulI, ↓x_mulS, ↓x_mulL, ↓x_modI, ↓x_divI, ↓x_powI, ↓x_lenL, ↓x_lenT, ↓x_lenS, ↓x_max2, ↓x_min2, ↓x_int1I, ↓x_int1B, ↓x_listL, ↓x_listT, ↓x_listS, ↓x_itL, ↓x_itT, ↓x_itS, ↓x_ixL0, ↓x_ixT0, ↓x_ixT1, ↓x_ixL1, ↓x_ixT2, ↓x_ixL2, ↓x_ixT3, ↓x_ixT4, ↓x_ixT5, ↓x_lc, ↓x_wipe0, ↓x_wipe1, ↓x_join, ↓x_gT, ↓x_gsN, ↓x_gsC, ↓x_notV, ↓x_andV, ↓x_orV, ↓x_chain, ↓x_tape1, ↓x_v0, ↓x_st0, ↓x_ap0, ↓x_io0, ↓x_lo0, ↓x_ro0, ↓x_v1, ↓x_st1, ↓x_ap1, ↓x_io1, ↓x_lo1, ↓x_ro1, ↓x_v2, ↓x_st2, ↓x_ap2, ↓x_io2, ↓x_lo2, ↓x_ro2, ↓x_v3, ↓x_st3, ↓x_ap3, ↓x_io3, ↓x_lo3, ↓x_ro3, ↓x_v4, ↓x_st4, ↓x_ap4, ↓x_io4, ↓x_lo4, ↓x_ro4, ↓x_v5, ↓x_st5, ↓x_ap5, ↓x_io5, ↓x_lo5, ↓x_ro5, ↓x_v6, ↓x_st6, ↓x_ap6, ↓x_io6, ↓x_lo6, ↓x_ro6, ↓x_v7, ↓x_st7, ↓x_ap7, ↓x_io7, ↓x_lo7, ↓x_ro7, ↓x_v8, ↓x_st8, ↓x_ap8, ↓x_io8, ↓x_lo8, ↓x_ro8, ↓x_v9, ↓x_st9, ↓x_ap9, ↓x_io9, ↓x_lo9, ↓x_ro9, ↓x_v10, ↓x_st10, ↓x_ap10, ↓x_io10, ↓x_lo10, ↓x_ro10, ↓x_v11, ↓x_st11, ↓x_ap11, ↓x_io11, ↓x_lo11, ↓x_ro11, ↓x_v12, ↓x_v13, ↓x_v14, ↓x_v15, ↓x_ss0, ↓x_ls0, ↓x_subII, ↓x_subBB, ↓x_repr, ↓x_sw, ↓x_M1, ↓x_par, ↓x_gSt1, ↓x_gSt3, ↓x_fo0, ↓x_fd0, ↓x_po0, ↓x_pt0, ↓x_fo1, ↓x_fd1, ↓x_po1, ↓x_pt1, ↓x_fo2, ↓x_fd2, ↓x_po2, ↓x_pt2, ↓x_fo3, ↓x_fd3, ↓x_po3, ↓x_pt3, ↓x_fo4, ↓x_fd4, ↓x_po4, ↓x_pt4, ↓x_fo5, ↓x_fd5, ↓x_po5, ↓x_pt5, ↓x_fo6, ↓x_fd6, ↓x_po6, ↓x_pt6, ↓x_fo7, ↓x_fd7, ↓x_po7, ↓x_pt7, ↓x_fo8, ↓x_fd8, ↓x_po8, ↓x_pt8, ↓x_fo9, ↓x_fd9, ↓x_po9, ↓x_pt9, ↓x_fo10, ↓x_fd10, ↓x_po10, ↓x_pt10, ↓x_fo11, ↓x_fd11, ↓x_po11, ↓x_pt11, ↓x_plI, ↓x_plB, ↓x_plS, ↓x_in2, ↓x_in3, ↓x_sl1T, ↓x_sl1L, ↓x_slS, ↓x_tuL, ↓x_tuT, ↓x_enumD, ↓x_iAsc, ↓x_eq0T, ↓x_eq0L, ↓x_mulT, ↓x_pu0, ↓x_pu1, ↓x_pu2, ↓x_pu3, ↓x_pu4, ↓x_pu5, ↓x_pu6, ↓x_pu7, ↓x_pu8, ↓x_pu9, ↓x_pu10, ↓x_pu11, ↓x_isB, ↓x_isNB, ↓x_nonD, ↓x_in4, ↓x_nin4, ↓x_nin2, ↓x_tupRg, ↓x_lstRg, ↓x_g_LIMIT, ↓x_g_MAX_CHOICES, ↓x_g_MAX_DEPTH, ↓x_g_MAX_ORDER, ↓x_g_MAX_TEXT, ↓x_g_TESTS, List.cons_append, List.nil_append, List.replicate_succ, List.replicate_zero, List.set_cons_zero, List.set_cons_succ, List.getElem?_cons_zero, List.getElem?_cons_succ, decide_eq_true_eq, Bool.false_eq_true, Bool.true_eq_false, ↓reduceIte, Bool.not_true, Bool.not_false, decide_true, decide_false, isTy, isTyK, kindD, PySem.sizeLine_eq, List.length_cons, List.length_nil, true_and, and_true, true_implies, Bool.not_eq_true', decide_eq_false_iff_not, Nat.reduceAdd, Nat.reduceLeDiff, Nat.reduceLT, Int.reduceAdd, Int.reduceSub, Int.reduceLT, Int.reduceLE, Int.reduceNeg, Int.reduceEq, Nat.reduceEqDiff, not_true_eq_false, not_false_eq_true, List.length_cons, Int.natCast_add, Int.natCast_one, e3]
      exact hQ
  | _ =>
    simp only [b_is_view, ↓x_fnD, ↓x_skip, ↓x_seq, ↓x_brk, ↓x_cnt, ↓x_exp, ↓x_ret, ↓x_retN, ↓x_ifS, ↓x_set, ↓x_asg, ↓x_own, ↓x_fLst, ↓x_tape, ↓x_C, ↓x_op, ↓x_un, ↓x_test, ↓x_and, ↓x_or, ↓x_not, ↓x_if, ↓x_dnil, ↓x_dcons, ↓x_anil, ↓x_acons, ↓x_tup, ↓x_lst, ↓x_call, ↓x_fn, ↓x_isi, ↓x_new, ↓x_gN, ↓x_yes, ↓x_for, ↓x_iData, ↓x_iRg1, ↓x_oNo, ↓x_oSome, ↓x_sl, ↓x_mD1, ↓x_mD2, ↓x_mD3, ↓x_mD4, ↓x_mD5, ↓x_mT0, ↓x_mT1, ↓x_mT2, ↓x_mT3, ↓x_mT4, ↓x_eqI, ↓x_eqS, ↓x_eqB, ↓x_eqIS, ↓x_eqSI, ↓x_eqNN, ↓x_eqNI, ↓x_eqIN, ↓x_eqNS, ↓x_eqSN, ↓x_neI, ↓x_neS, ↓x_neB, ↓x_ltI, ↓x_ltS, ↓x_leI, ↓x_leS, ↓x_gtI, ↓x_gtS, ↓x_geI, ↓x_geS, ↓x_isN, ↓x_notN, ↓x_nonN, ↓x_nonI, ↓x_nonB, ↓x_nonS, ↓x_nonT, ↓x_nonL, ↓x_addI, ↓x_addS, ↓x_addT, ↓x_addL, ↓x_subI, ↓x_negI, ↓x_mulI, ↓x_mulS, ↓x_mulL, ↓x_modI, ↓x_divI, ↓x_powI, ↓x_lenL, ↓x_lenT, ↓x_lenS, ↓x_max2, ↓x_min2, ↓x_int1I, ↓x_int1B, ↓x_listL, ↓x_listT, ↓x_listS, ↓x_itL, ↓x_itT, ↓x_itS, ↓x_ixL0, ↓x_ixT0, ↓x_ixT1, ↓x_ixL1, ↓x_ixT2, ↓x_ixL2, ↓x_ixT3, ↓x_ixT4, ↓x_ixT5, ↓x_lc, ↓x_wipe0, ↓x_wipe1, ↓x_join, ↓x_gT, ↓x_gsN, ↓x_gsC, ↓x_notV, ↓x_andV, ↓x_orV, ↓x_chain, ↓x_tape1, ↓x_v0, ↓x_st0, ↓x_ap0, ↓x_io0, ↓x_lo0, ↓x_ro0, ↓x_v1, ↓x_st1, ↓x_ap1, ↓x_io1, ↓x_lo1, ↓x_ro1, ↓x_v2, ↓x_st2, ↓x_ap2, ↓x_io2, ↓x_lo2, ↓x_ro2, ↓x_v3, ↓x_st3, ↓x_ap3, ↓x_io3, ↓x_lo3, ↓x_ro3, ↓x_v4, ↓x_st4, ↓x_ap4, ↓x_io4, ↓x_lo4, ↓x_ro4, ↓x_v5, ↓x_st5, ↓x_ap5, ↓x_io5, ↓x_lo5, ↓x_ro5, ↓x_v6, ↓x_st6, ↓x_ap6, ↓x_io6, ↓x_lo6, ↓x_ro6, ↓x_v7, ↓x_st7, ↓x_ap7, ↓x_io7, ↓x_lo7, ↓x_ro7, ↓x_v8, ↓x_st8, ↓x_ap8, ↓x_io8, ↓x_lo8, ↓x_ro8, ↓x_v9, ↓x_st9, ↓x_ap9, ↓x_io9, ↓x_lo9, ↓x_ro9, ↓x_v10, ↓x_st10, ↓x_ap10, ↓x_io10, ↓x_lo10, ↓x_ro10, ↓x_v11, ↓x_st11, ↓x_ap11, ↓x_io11, ↓x_lo11, ↓x_ro11, ↓x_v12, ↓x_v13, ↓x_v14, ↓x_v15, ↓x_ss0, ↓x_ls0, ↓x_subII, ↓x_subBB, ↓x_repr, ↓x_sw, ↓x_M1, ↓x_par, ↓x_gSt1, ↓x_gSt3, ↓x_fo0, ↓x_fd0, ↓x_po0, ↓x_pt0, ↓x_fo1, ↓x_fd1, ↓x_po1, ↓x_pt1, ↓x_fo2, ↓x_fd2, ↓x_po2, ↓x_pt2, ↓x_fo3, ↓x_fd3, ↓x_po3, ↓x_pt3, ↓x_fo4, ↓x_fd4, ↓x_po4, ↓x_pt4, ↓x_fo5, ↓x_fd5, ↓x_po5, ↓x_pt5, ↓x_fo6, ↓x_fd6, ↓x_po6, ↓x_pt6, ↓x_fo7, ↓x_fd7, ↓x_po7, ↓x_pt7, ↓x_fo8, ↓x_fd8, ↓x_po8, ↓x_pt8, ↓x_fo9, ↓x_fd9, ↓x_po9, ↓x_pt9, ↓x_fo10, ↓x_fd10, ↓x_po10, ↓x_pt10, ↓x_fo11, ↓x_fd11, ↓x_po11, ↓x_pt11, ↓x_plI, ↓x_plB, ↓x_plS, ↓x_in2, ↓x_in3, ↓x_sl1T, ↓x_sl1L, ↓x_slS, ↓x_tuL, ↓x_tuT, ↓x_enumD, ↓x_iAsc, ↓x_eq0T, ↓x_eq0L, ↓x_mulT, ↓x_pu0, ↓x_pu1, ↓x_pu2, ↓x_pu3, ↓x_pu4, ↓x_pu5, ↓x_pu6, ↓x_pu7, ↓x_pu8, ↓x_pu9, ↓x_pu10, ↓x_pu11, ↓x_isB, ↓x_isNB, ↓x_nonD, ↓x_in4, ↓x_nin4, ↓x_nin2, ↓x_tupRg, ↓x_lstRg, ↓x_g_LIMIT, ↓x_g_MAX_CHOICES, ↓x_g_MAX_DEPTH, ↓x_g_MAX_ORDER, ↓x_g_MAX_TEXT, ↓x_g_TESTS, List.cons_append, List.nil_append, List.replicate_succ, List.replicate_zero, List.set_cons_zero, List.set_cons_succ, List.getElem?_cons_zero, List.getElem?_cons_succ, decide_eq_true_eq, Bool.false_eq_true, Bool.true_eq_false, ↓reduceIte, Bool.not_true, Bool.not_false, decide_true, decide_false, isTy, isTyK, kindD, PySem.sizeLine_eq, List.length_cons, List.length_nil, true_and, and_true, true_implies, Bool.not_eq_true', decide_eq_false_iff_not, Nat.reduceAdd, Nat.reduceLeDiff, Nat.reduceLT, Int.reduceAdd, Int.reduceSub, Int.reduceLT, Int.reduceLE, Int.reduceNeg, Int.reduceEq, Nat.reduceEqDiff, not_true_eq_false, not_false_eq_true]
    exact hQ
theorem ok_is_view (T : Txt K mg) {f : Addr} {fd : FuncData} (F : Fun K "is_view" "is_view" s_is_view f fd) : FnG P w K mg base 16 f fd ["value", "width"] (spD P w K 2 (fnD b_is_view 3)) :=
  fn_okG F sc_is_view fun cdv A outer s H E hr hgd => by
    have hu := hr.units
    exact (s_cons (s_if (PW.pt (w_or (t_not (t_val (e_isi (T := .tuple) T.b_isinstance T.b_tuple bo_tuple (ev 0)))) (w_or1 (t_cmpD (oNe hu) (e_cbB bLen T.b_len bo_len (d_cons (ev 0) d_nil)) e_int)))) (s_one (s_ret e_bl)) s_nil)
      (s_cons (s_asg (ev 0) (g_tp (vs := [2, 3, 4]) rfl (gs_cons (g_nm (vs := [2, 3, 4]) sc_is_view.nd rfl (by first | exact Or.inl rfl | exact Or.inr rfl) (by decide)) (gs_cons (g_nm (vs := [2, 3, 4]) sc_is_view.nd rfl (by first | exact Or.inl rfl | exact Or.inr rfl) (by decide)) (gs_cons (g_nm (vs := [2, 3, 4]) sc_is_view.nd rfl (by first | exact Or.inl rfl | exact Or.inr rfl) (by decide)) gs_nil)))))
      (s_one (s_ret (e_and (e_fnG (cal_is_condition T) hr hgd (a_cons (ev 2) (a_cons (ev 1) a_nil)) ) (e_and (e_fnG (cal_is_order T) hr hgd (a_cons (ev 3) (a_cons (ev 1) a_nil)) ) (e_one (e_fnG (cal_is_shown T) hr hgd (a_cons (ev 4) (a_cons (ev 1) a_nil)) ))))))))
theorem cal_is_view (T : Txt K mg) : CalG P w K mg base 16 "is_view" (spD P w K 2 m_is_view) :=
  CalG.imp (calG_of T.f_is_view (show BindsN "is_view" s_is_view ["value", "width"] from fun _ _ _ _ _ _ us hl => match us, hl with | [_, _], _ => rfl) fun _ _ F => ok_is_view T F) spec_is_view
theorem sc_law_tape : FnScope N_law_tape ["script", "start"] (defScope s_law_tape) := ⟨rfl, rfl, rfl, by decide +kernel, rfl, by decide +kernel, by decide +kernel⟩
-- level 1
def spTape0 (K : PySem.W.Frag) : Sp := fun vs H Q _ => ∃ (a : Addr) (ns : List Int) (i : Int), vs = [.ref a, .int i] ∧ SqL K H a (ns.map V.int) ∧ 0 ≤ i ∧ i ≤ 1000 ∧ ns.length ≤ 63 ∧ (∀ z ∈ ns, Builtin.Int.intBits z ≤ 1048576) ∧
  ∀ p d m, H p = none → TapeB d m → Q (.ref p) (upd H p (.dK (tapeKv d m)))
theorem ok_law_tape (T : Txt K mg) {f : Addr} {fd : FuncData} (F : Fun K "_law_tape" "_law_tape" s_law_tape f fd) : FnOk P w K mg base CX0 1 f fd ["script", "start"] (spTape0 K) := by
  refine F.ok sc_law_tape (fun vs H Q E h => ?_) (fun cdv A outer s H vs Q E hr h => ?_)
  · obtain ⟨a, ns, i, rfl, _⟩ := h
    rfl
  · obtain ⟨a, ns, i, rfl, hS, i0, i1, hl, hb, k⟩ := h
    have hu := hu_of hr
    refine ⟨_, pss_cons (ps_set (i := 2) sc_law_tape.nd rfl (Or.inl rfl) (pe_op op_add pe_int (pe_op op_mulB (pv 1) pe_int)))
      (pss_cons (ps_for PassesOwn.never rfl (pi_list (pv 0)) (pg_name (i := 3) sc_law_tape.nd rfl (Or.inl rfl))
        (pss_one (ps_set (i := 2) sc_law_tape.nd rfl (Or.inl rfl) (pe_op op_add (pe_op op_mod (pe_op op_powB (pe_op op_add (pe_op op_add (pe_op op_mulB (pv 2) pe_int) (pe_op op_mulB (pv 3) (pv 3))) pe_int) pe_int) pe_int) pe_int))))
      (pss_cons (ps_set (i := 4) sc_law_tape.nd rfl (Or.inl rfl) (pe_ifExp (PW.pt (pw_and (pt_cmpR op_lt (pv 1) (pe_callB call_len_seq (by rfl) T.b_len PySem.boot_len (pa_cons (pv 0) pa_nil)) (nomark _)) (pw_and1 (pt_cmpR op_ge (pe_ix ix_list (pv 0) (pv 1) (fun _ _ => rfl)) (pe_op op_powB pe_int pe_int) (nomark _)))))
          (pe_op op_sub (pe_ix ix_list (pv 0) (pv 1) (fun _ _ => rfl)) (pe_op op_powB pe_int pe_int)) pe_int))
      (pss_one (ps_ret (pe_disp (pps_cons pe_str (pv 4) (pps_cons pe_str (pv 2) pps_nil)) (by rfl) (by rfl) (fun z => by cases z) (by decide)))))), ?_⟩
    have pw : CPowB 10 18 := ⟨by decide, by decide⟩
    refine ⟨_, rfl, _, _, rfl, rfl, mulOk_of (by have : Builtin.Int.intBits i ≤ 32 := (bits_le_iff (by decide)).mpr (by omega); have : Builtin.Int.intBits 31 ≤ 15 := (bits_le_iff (by decide)).mpr (by decide); omega), _, _, rfl, rfl, ?_⟩
    refine ⟨_, rfl, a, rfl, ⟨_, hS⟩, for_list (K := K) (a := a) (xs := ns.map V.int) (fun j σ H' => H' = H ∧ ∃ (m : Int) (v : Option V), σ = [some (.ref a), some (.int i), some (.int m), v, none] ∧ 0 ≤ m ∧ m < 4294967296)
      ⟨rfl, _, _, rfl, by omega, by omega⟩ (fun j σ H' _ ⟨e, _⟩ => by rw [e]; exact hS) ?_ ?_⟩
    · rintro j y σ H' hj ⟨rfl, m, v, rfl, m0, m1⟩
      obtain ⟨c, rfl, hc⟩ : ∃ c, y = V.int c ∧ c ∈ ns := by
        rw [List.getElem?_map] at hj
        cases e : ns[j]? with
        | none => rw [e] at hj; cases hj
        | some c => rw [e] at hj; exact ⟨c, (Option.some.inj hj).symm, List.mem_of_getElem? e⟩
      obtain ⟨q1, q2, q3, q4, q5⟩ := mix_ok m0 m1 (hb c hc)
      exact ⟨_, rfl, _, _, rfl, rfl, q1, _, rfl, _, rfl, _, _, rfl, rfl, q2, _, _, rfl, rfl, _, _, rfl, rfl, _, _, rfl, rfl, q3, _, _, rfl, rfl, (by show (0 : Int) < 2147483563; decide), _, _, rfl, rfl, rfl, _, _, rfl, q4, q5⟩
    · rintro σ H' ⟨rfl, m, v, rfl, m0, m1⟩
      have last : ∀ dg : Int, TapeB dg m → ∀ p, H' p = none → (tPairs [(tC (.str "digits"), tVar 4), (tC (.str "mixed"), tVar 2)] [some (.ref a), some (.int i), some (.int m), v, some (.int dg)] (upd H' p (.dK [])) fun ps H2 =>
          H2 p = some (.dK []) ∧ ∃ kvs : List (Key × V), ps = kvs.map (fun kv => (kV kv.1, kv.2)) ∧ kvs.length ≤ 15 ∧ Q (.ref p) (upd H2 p (.dK (mergeK [] kvs)))) := fun dg hd p hp => by
        refine ⟨_, rfl, _, rfl, upd_same, tapeKv dg m, rfl, (by show 2 ≤ 15; decide), ?_⟩
        have e : mergeK [] (tapeKv dg m) = tapeKv dg m := by simp [mergeK, tapeKv, putK, dne]
        rw [upd_upd, e]
        exact k p dg m hp hd
      refine ⟨_, rfl, _, rfl, a, _, rfl, .inl hS, _, _, rfl, rfl, _, rfl, ?_⟩
      refine ite2 (fun h1 => ?_) (fun _ => ?_)
      · have hlt : i < ((ns.map V.int).length : Int) := of_decide_eq_true h1
        rw [List.length_map] at hlt
        obtain ⟨c, hc⟩ : ∃ c, ns[i.toNat]? = some c := ⟨ns[i.toNat]'(by omega), by simp⟩
        have hcm := List.mem_of_getElem? hc
        have hat : atI (ns.map V.int) i = some (.int c) := by
          unfold atI ixN
          rw [if_pos i0, List.length_map, if_pos hlt]
          simp [hc]
        refine ⟨_, rfl, _, rfl, a, _, i, _, rfl, rfl, hS, hat, _, _, rfl, rfl, pw, _, _, rfl, rfl, _, rfl, ?_⟩
        refine ite2 (fun h2 => ?_) (fun _ => ?_)
        · have hge : (10 : Int) ^ (18 : Int).toNat ≤ c := of_decide_eq_true h2
          refine ⟨_, rfl, _, rfl, a, _, i, _, rfl, rfl, hS, hat, _, _, rfl, rfl, pw, _, _, rfl, rfl, ?_⟩
          have hp18 : (10 : Int) ^ (18 : Int).toNat = 1000000000000000000 := by decide
          exact last _ ⟨by omega, bits_mono (y := c) (by omega) (by omega) (by decide) (hb c hcm), m0, m1⟩
        · exact last 0 ⟨by decide, by decide, m0, m1⟩
      · exact last 0 ⟨by decide, by decide, m0, m1⟩
theorem cal_law_tape (T : Txt K mg) : C8.Cal P w K mg base 1 "_law_tape" (spTape P w K) [] := by
  obtain ⟨f, fd, F, hm⟩ := T.f_law_tape.ex
  refine ⟨f, fd, ["script", "start"], [], (tape_make (ok_law_tape T F)).imp fun vs H Q E ⟨svs, R, a, hl, hm, k⟩ => ?_, hm, F.kp, F.binds (fun _ _ _ _ _ _ us hl => match us, hl with | [_, _], _ => rfl), .nil⟩
  match svs, a, hm with
  | [.scr ns, .dat (.int i)], a, ⟨⟨h0, h1, h2, h3⟩, hR⟩ =>
    cases a with
    | cons a1 a2 =>
    cases a2 with
    | cons r a3 =>
    cases a3
    obtain ⟨p, rfl, hs⟩ := a1
    cases r
    exact ⟨p, ns, i, rfl, hs.seq, h0, h1, h2, h3, fun q d m hq hB => ⟨q, d, m, rfl, hB, upd_same, k hR q _ hq (by rw [upd_upd]; exact same_new hq) upd_same⟩⟩

theorem sc_law_pick : FnScope N_law_pick ["tape", "size"] (defScope s_law_pick) := ⟨rfl, rfl, rfl, by decide +kernel, rfl, by decide +kernel, by decide +kernel⟩
-- level 1
theorem ok_law_pick (T : Txt K mg) {f : Addr} {fd : FuncData} (F : Fun K "_law_pick" "_law_pick" s_law_pick f fd) : FnOk P w K mg base CX0 1 f fd ["tape", "size"] spPick0 := by
  refine F.ok sc_law_pick (fun vs H Q E h => ?_) (fun cdv A outer s H vs Q E hr h => ?_)
  · obtain ⟨a, d, m, n, rfl, _⟩ := h
    rfl
  · obtain ⟨a, d, m, n, rfl, ht, ⟨b1, b2, b3, b4⟩, h0, h1, k⟩ := h
    have hu := hu_of hr
    refine ⟨_, pss_cons (ps_if (pt_cmpR op_ge (pe_dget hu (pv 0) pe_str (fun _ _ => rfl)) (pv 1) (nomark _))
        (pss_cons (ps_set (i := 2) sc_law_pick.nd rfl (Or.inl rfl) (pe_op op_mod (pe_dget hu (pv 0) pe_str (fun _ _ => rfl)) (pv 1)))
        (pss_cons (ps_dput hu (pv 0) pe_str (pe_op op_fdivW (pe_dget hu (pv 0) pe_str (fun _ _ => rfl)) (pv 1)) rfl)
        (pss_one (ps_ret (pv 2))))) pss_nil)
      (pss_cons (ps_dput hu (pv 0) pe_str (pe_op op_mod (pe_op op_add (pe_op op_mulB (pe_dget hu (pv 0) pe_str (fun _ _ => rfl)) pe_int) pe_int) pe_int) rfl)
      (pss_one (ps_ret (pe_op op_mod (pe_op op_fdiv (pe_op op_mod (pe_op op_powB (pe_op op_mod (pe_op op_powB (pe_dget hu (pv 0) pe_str (fun _ _ => rfl)) pe_int) pe_int) pe_int) pe_int) pe_int) (pv 1))))), ?_⟩
    refine ⟨_, rfl, a, _, rfl, dg_digits ht, _, rfl, _, _, rfl, rfl, _, rfl, ?_⟩
    refine ite2 (fun hd => ?_) (fun _ => ?_)
    · have hd' : n ≤ d := of_decide_eq_true hd
      have cd : CDivW d n := wide_div (b := 64) h0 (by omega) (by decide) (by decide)
      refine ⟨_, rfl, a, _, rfl, dg_digits ht, _, rfl, _, _, rfl, rfl, h0, ?_⟩
      refine ⟨_, rfl, a, _, rfl, dg_digits ht, _, rfl, _, _, rfl, rfl, cd, _, rfl, a, _, rfl, dp_digits _ ht, ?_⟩
      have q0 : 0 ≤ d / n := Int.ediv_nonneg b1 (by omega)
      have q1 : d / n ≤ d := Int.ediv_le_self _ b1
      exact ⟨_, rfl, k _ _ _ (Int.emod_nonneg _ (by omega)) (Int.emod_lt_of_pos _ h0) ⟨q0, bits_mono q0 q1 (by decide) b2, b3, b4⟩⟩
    · have g1 : (m * 40014 + 1013) % 2147483563 < 2147483563 := Int.emod_lt_of_pos _ (by decide)
      have g0 : 0 ≤ (m * 40014 + 1013) % 2147483563 := Int.emod_nonneg _ (by decide)
      refine ⟨_, rfl, a, _, rfl, dg_mixed ht, _, _, rfl, rfl, mulOk_of (by have : Builtin.Int.intBits m ≤ 32 := (bits_le_iff (by decide)).mpr (by omega); have : Builtin.Int.intBits 40014 ≤ 32 := (bits_le_iff (by decide)).mpr (by decide); omega), _, _, rfl, rfl, _, _, rfl, rfl, (by show (0 : Int) < 2147483563; decide), _, rfl, a, _, rfl, dp_mixed _ ht, ?_⟩
      generalize (m * 40014 + 1013) % 2147483563 = x at g0 g1 ⊢
      have y1 : x ^ (2 : Int).toNat % 2147483399 < 2147483399 := Int.emod_lt_of_pos _ (by decide)
      have y0 : 0 ≤ x ^ (2 : Int).toNat % 2147483399 := Int.emod_nonneg _ (by decide)
      refine ⟨_, rfl, a, _, rfl, dg_mixed upd_same, _, _, rfl, rfl, ⟨by decide, by have : Builtin.Int.intBits x ≤ 32 := (bits_le_iff (by decide)).mpr (by omega); omega⟩, _, _, rfl, rfl, (by show (0 : Int) < 2147483399; decide), _, _, rfl, rfl, ?_⟩
      refine ⟨⟨by decide, by have : Builtin.Int.intBits (x ^ (2 : Int).toNat % 2147483399) ≤ 32 := (bits_le_iff (by decide)).mpr (by omega); omega⟩, _, _, rfl, rfl, (by show (0 : Int) < 998244353; decide), _, _, rfl, rfl, ⟨by decide, by decide⟩, _, rfl, _, _, rfl, rfl, h0, ?_⟩
      exact k _ _ _ (Int.emod_nonneg _ (by omega)) (Int.emod_lt_of_pos _ h0) ⟨b1, b2, by omega, by omega⟩
abbrev m_law_pick : List SV → EK → Prop := mPick
theorem cal_law_pick (T : Txt K mg) : CalG P w K mg base 1 "_law_pick" (spD P w K 2 m_law_pick) := by
  obtain ⟨f, fd, F, hm⟩ := T.f_law_pick.ex
  exact calG (show C8.Cal P w K mg base 1 "_law_pick" (spD P w K 2 m_law_pick) [] from ⟨f, fd, ["tape", "size"], [], pick_of (ok_law_pick T F) rfl, hm, F.kp, F.binds (fun _ _ _ _ _ _ us hl => match us, hl with | [_, _], _ => rfl), .nil⟩)

theorem sc_law_one_of : FnScope N_law_one_of ["tape", "items"] (defScope s_law_one_of) := ⟨rfl, rfl, rfl, by decide +kernel, rfl, by decide +kernel, by decide +kernel⟩
def b_law_one_of : DS := (dRet (dOp fIx (dVar 1) (dFn m_law_pick (aSlot 0 (aCons (dCall fLen (dCons (dVar 1) dNil)) aNil)))))
/-- any of the items -/
def m_law_one_of : List SV → EK → Prop
  | [.tape, .dat (.list ds)], Q => (0 < ds.length ∧ ds.length ≤ sizeLine) ∧ ∀ d ∈ ds, Q d
  | [.tape, .dat (.tuple ds)], Q => (0 < ds.length ∧ ds.length ≤ sizeLine) ∧ ∀ d ∈ ds, Q d
  | _, _ => False
@[simp] theorem x_pick {n : Int} {Q : EK} : mPick [.tape, .dat (.int n)] Q = ((0 < n ∧ n ≤ 2 ^ 62) ∧ ∀ r : Int, 0 ≤ r → r < n → Q (.int r)) := rfl
@[simp] theorem x_one_of {ds : List D} {Q : EK} : m_law_one_of [.tape, .dat (.list ds)] Q = ((0 < ds.length ∧ ds.length ≤ sizeLine) ∧ ∀ d ∈ ds, Q d) := rfl
@[simp] theorem x_one_ofT {ds : List D} {Q : EK} : m_law_one_of [.tape, .dat (.tuple ds)] Q = ((0 < ds.length ∧ ds.length ≤ sizeLine) ∧ ∀ d ∈ ds, Q d) := rfl
theorem spec_law_one_of (svs : List SV) (R : EK) (_ : svs.length = 2) (h : m_law_one_of svs R) : fnD b_law_one_of 0 svs R := by
  have key : ∀ ds : List D, 0 < ds.length → ds.length ≤ sizeLine → (∀ d ∈ ds, R d) → (0 < (ds.length : Int) ∧ (ds.length : Int) ≤ 2 ^ 62) ∧ ∀ r : Int, 0 ≤ r → r < ds.length → (match atI ds r with | some d => R d | none => False) := fun ds h0 hz h => by
    have hp := h0
    have hs : sizeLine = 16777216 := PySem.sizeLine_eq
    refine ⟨⟨by omega, by omega⟩, fun r r0 r1 => ?_⟩
    have e : atI ds r = some (ds[r.toNat]'(by omega)) := by
      unfold atI ixN
      rw [if_pos r0, if_pos r1]
      simp
    rw [e]
    exact h _ (List.getElem_mem _)
  match svs, h with
  | [.tape, .dat (.list ds)], ⟨⟨h0, hz⟩, h⟩ => exact key ds h0 hz h
  | [.tape, .dat (.tuple ds)], ⟨⟨h0, hz⟩, h⟩ => exact key ds h0 hz h
theorem ok_law_one_of (T : Txt K mg) {f : Addr} {fd : FuncData} (F : Fun K "_law_one_of" "_law_one_of" s_law_one_of f fd) : FnG P w K mg base 2 f fd ["tape", "items"] (spD P w K 2 (fnD b_law_one_of 0)) :=
  fn_okG F sc_law_one_of fun cdv A outer s H E hr hgd => by
    have hu := hr.units
    exact (s_one (s_ret (e_ix (ev 1) (e_fnG (cal_law_pick T) hr hgd (asl 0 (a_cons (e_cbB bLen T.b_len bo_len (d_cons (ev 1) d_nil)) a_nil)) ))))
theorem cal_law_one_of (T : Txt K mg) : CalG P w K mg base 2 "_law_one_of" (spD P w K 2 m_law_one_of) :=
  CalG.imp (calG_of T.f_law_one_of (show BindsN "_law_one_of" s_law_one_of ["tape", "items"] from fun _ _ _ _ _ _ us hl => match us, hl with | [_, _], _ => rfl) fun _ _ F => ok_law_one_of T F) spec_law_one_of
theorem sc_law_value : FnScope N_law_value ["tape"] (defScope s_law_value) := ⟨rfl, rfl, rfl, by decide +kernel, rfl, by decide +kernel, by decide +kernel⟩
def b_law_value : DS := (dSeq (dIfS (dTest (dOp fEq (dFn m_law_pick (aSlot 0 (aCons (dC (.int 24)) aNil))) (dC (.int 0)))) (dSeq (dSet 1 (dC (.str " !#$&'()*+,-./0123456789:;<=>?@ABCDEFGHIJKLMNOPQRSTUVWXYZ[]^_{|}~")))
    (dSeq (dSet 1 (dCall fList (dCons (dOp fAdd (dVar 1) (dC (.str "abcdefghijklmnopqrstuvwxyz"))) dNil)))
    (dRet (dJoin (dC (.str "")) (dNew (fLc (iRg1 (dOp fAdd (dC (.int 1)) (dFn m_law_pick (aSlot 0 (aCons (dC (.int 20)) aNil))))) (gN 2) dYes (dFn m_law_one_of (aSlot 0 (aCons (dVar 1) aNil))) [2])))))) dSkip)
    (dSeq (dSet 3 (dLst (dCons (dC .none) (dCons (dC (.int 0)) (dCons (dC (.int 1)) (dCons (dC (.int 2)) (dCons (dOp fSubB (dC (.int 0)) (dC (.int 1))) (dCons (dC (.int 1)) (dCons (dC (.int 2)) (dCons (dOp fPow (dC (.int 10)) (dC (.int 9))) (dCons (dOp fSubB (dC (.int 0)) (dOp fPow (dC (.int 10)) (dC (.int 9)))) (dCons (dC (.str "")) (dCons (dC (.str "a")) (dCons (dC (.str "ab")) (dCons (dC (.str "b")) (dCons (dC (.str "a b")) (dCons (dC (.str "A")) (dCons (dC (.str "~")) (dCons (dOp fMul (dC (.str "z")) (dC (.int 20))) dNil)))))))))))))))))))
    (dSeq (dSet 3 (dOp fAdd (dVar 3) (dLst (dCons (dOp fMul (dC (.str "z")) (dC (.int 19))) (dCons (dC (.str "customer one")) (dCons (dC (.str "customer two")) (dCons (dC (.str "1")) (dCons (dC (.str "-1")) (dCons (dC (.int 2)) (dCons (dC (.str "abc")) (dCons (dC (.str "abd")) dNil)))))))))))
    (dRet (dFn m_law_one_of (aSlot 0 (aCons (dVar 3) aNil)))))))
abbrev m_law_value : List SV → EK → Prop := mT0 fun Q => ∀ d, valB 20 d → Q d
theorem spec_law_value (svs : List SV) (R : EK) (_ : svs.length = 1) (h : m_law_value svs R) : fnD b_law_value 3 svs R := by
  obtain ⟨rfl, h⟩ := mT0_elim h
  have pw : CPowB 10 9 := ⟨by decide, by decide⟩
  simp only [b_law_value, ↓x_fnD, ↓x_skip, ↓x_seq, ↓x_brk, ↓x_cnt, ↓x_exp, ↓x_ret, ↓x_retN, ↓x_ifS, ↓x_set, ↓x_asg, ↓x_own, ↓x_fLst, ↓x_tape, ↓x_C, ↓x_op, ↓x_un, ↓x_test, ↓x_and, ↓x_or, ↓x_not, ↓x_if, ↓x_dnil, ↓x_dcons, ↓x_anil, ↓x_acons, ↓x_tup, ↓x_lst, ↓x_call, ↓x_fn, ↓x_isi, ↓x_new, ↓x_gN, ↓x_yes, ↓x_for, ↓x_iData, ↓x_iRg1, ↓x_oNo, ↓x_oSome, ↓x_sl, ↓x_mD1, ↓x_mD2, ↓x_mD3, ↓x_mD4, ↓x_mD5, ↓x_mT0, ↓x_mT1, ↓x_mT2, ↓x_mT3, ↓x_mT4, ↓x_eqI, ↓x_eqS, ↓x_eqB, ↓x_eqIS, ↓x_eqSI, ↓x_eqNN, ↓x_eqNI, ↓x_eqIN, ↓x_eqNS, ↓x_eqSN, ↓x_neI, ↓x_neS, ↓x_neB, ↓x_ltI, ↓x_ltS, ↓x_leI, ↓x_leS, ↓x_gtI, ↓x_gtS, ↓x_geI, ↓x_geS, ↓x_isN, ↓x_notN, ↓x_nonN, ↓x_nonI, ↓x_nonB, ↓x_nonS, ↓x_nonT, ↓x_nonL, ↓x_addI, ↓x_addS, ↓x_addT, ↓x_addL, ↓x_subI, ↓x_negI, ↓x_mulI, ↓x_mulS, ↓x_mulL, ↓x_modI, ↓x_divI, ↓x_powI, ↓x_lenL, ↓x_lenT, ↓x_lenS, ↓x_max2, ↓x_min2, ↓x_int1I, ↓x_int1B, ↓x_listL, ↓x_listT, ↓x_listS, ↓x_itL, ↓x_itT, ↓x_itS, ↓x_ixL0, ↓x_ixT0, ↓x_ixT1, ↓x_ixL1, ↓x_ixT2, ↓x_ixL2, ↓x_ixT3, ↓x_ixT4, ↓x_ixT5, ↓x_lc, ↓x_wipe0, ↓x_wipe1, ↓x_join, ↓x_gT, ↓x_gsN, ↓x_gsC, ↓x_notV, ↓x_andV, ↓x_orV, ↓x_chain, ↓x_tape1, ↓x_v0, ↓x_st0, ↓x_ap0, ↓x_io0, ↓x_lo0, ↓x_ro0, ↓x_v1, ↓x_st1, ↓x_ap1, ↓x_io1, ↓x_lo1, ↓x_ro1, ↓x_v2, ↓x_st2, ↓x_ap2, ↓x_io2, ↓x_lo2, ↓x_ro2, ↓x_v3, ↓x_st3, ↓x_ap3, ↓x_io3, ↓x_lo3, ↓x_ro3, ↓x_v4, ↓x_st4, ↓x_ap4, ↓x_io4, ↓x_lo4, ↓x_ro4, ↓x_v5, ↓x_st5, ↓x_ap5, ↓x_io5, ↓x_lo5, ↓x_ro5, ↓x_v6, ↓x_st6, ↓x_ap6, ↓x_io6, ↓x_lo6, ↓x_ro6, ↓x_v7, ↓x_st7, ↓x_ap7, ↓x_io7, ↓x_lo7, ↓x_ro7, ↓x_v8, ↓x_st8, ↓x_ap8, ↓x_io8, ↓x_lo8, ↓x_ro8, ↓x_v9, ↓x_st9, ↓x_ap9, ↓x_io9, ↓x_lo9, ↓x_ro9, ↓x_v10, ↓x_st10, ↓x_ap10, ↓x_io10, ↓x_lo10, ↓x_ro10, ↓x_v11, ↓x_st11, ↓x_ap11, ↓x_io11, ↓x_lo11, ↓x_ro11, ↓x_v12, ↓x_v13, ↓x_v14, ↓x_v15, ↓x_ss0, ↓x_ls0, ↓x_subII, ↓x_subBB, ↓x_repr, ↓x_sw, ↓x_M1, ↓x_par, ↓x_gSt1, ↓x_gSt3, ↓x_fo0, ↓x_fd0, ↓x_po0, ↓x_pt0, ↓x_fo1, ↓x_fd1, ↓x_po1, ↓x_pt1, ↓x_fo2, ↓x_fd2, ↓x_po2, ↓x_pt2, ↓x_fo3, ↓x_fd3, ↓x_po3, ↓x_pt3, ↓x_fo4, ↓x_fd4, ↓x_po4, ↓x_pt4, ↓x_fo5, ↓x_fd5, ↓x_po5, ↓x_pt5, ↓x_fo6, ↓x_fd6, ↓x_po6, ↓x_pt6, ↓x_fo7, ↓x_fd7, ↓x_po7, ↓x_pt7, ↓x_fo8, ↓x_fd8, ↓x_po8, ↓x_pt8, ↓x_fo9, ↓x_fd9, ↓x_po9, ↓x_pt9, ↓x_fo10, ↓x_fd10, ↓x_po10, ↓x_pt10, ↓x_fo11, ↓x_fd11, ↓x_po11, ↓x_pt11, ↓x_plI, ↓x_plB, ↓x_plS, ↓x_in2, ↓x_in3, ↓x_sl1T, ↓x_sl1L, ↓x_slS, ↓x_tuL, ↓x_tuT, ↓x_enumD, ↓x_iAsc, ↓x_eq0T, ↓x_eq0L, ↓x_mulT, ↓x_pu0, ↓x_pu1, ↓x_pu2, ↓x_pu3, ↓x_pu4, ↓x_pu5, ↓x_pu6, ↓x_pu7, ↓x_pu8, ↓x_pu9, ↓x_pu10, ↓x_pu11, ↓x_isB, ↓x_isNB, ↓x_nonD, ↓x_in4, ↓x_nin4, ↓x_nin2, ↓x_tupRg, ↓x_lstRg, ↓x_g_LIMIT, ↓x_g_MAX_CHOICES, ↓x_g_MAX_DEPTH, ↓x_g_MAX_ORDER, ↓x_g_MAX_TEXT, ↓x_g_TESTS, List.cons_append, List.nil_append, List.replicate_succ, List.replicate_zero, List.set_cons_zero, List.set_cons_succ, List.getElem?_cons_zero, List.getElem?_cons_succ, decide_eq_true_eq, Bool.false_eq_true, Bool.true_eq_false, ↓reduceIte, Bool.not_true, Bool.not_false, decide_true, decide_false, isTy, isTyK, kindD, PySem.sizeLine_eq, List.length_cons, List.length_nil, true_and, and_true, true_implies, Bool.not_eq_true', decide_eq_false_iff_not, Nat.reduceAdd, Nat.reduceLeDiff, Nat.reduceLT, Int.reduceAdd, Int.reduceSub, Int.reduceLT, Int.reduceLE, Int.reduceNeg, Int.reduceEq, Nat.reduceEqDiff, not_true_eq_false, not_false_eq_true, x_pick, x_one_of]
  refine ⟨by decide, fun r r0 r1 => ?_⟩
  split
  · refine ⟨by decide +kernel, by decide +kernel, by decide, fun q q0 q1 => ⟨by omega, by omega, by rw [range_len]; omega, ?_⟩⟩
    refine lc_all (fun x => ∃ s, x = .str s ∧ strB 1 s) _ _ (fun d hd N hN => ?_) fun xs hl hx => ?_
    · simp only [↓x_fnD, ↓x_skip, ↓x_seq, ↓x_brk, ↓x_cnt, ↓x_exp, ↓x_ret, ↓x_retN, ↓x_ifS, ↓x_set, ↓x_asg, ↓x_own, ↓x_fLst, ↓x_tape, ↓x_C, ↓x_op, ↓x_un, ↓x_test, ↓x_and, ↓x_or, ↓x_not, ↓x_if, ↓x_dnil, ↓x_dcons, ↓x_anil, ↓x_acons, ↓x_tup, ↓x_lst, ↓x_call, ↓x_fn, ↓x_isi, ↓x_new, ↓x_gN, ↓x_yes, ↓x_for, ↓x_iData, ↓x_iRg1, ↓x_oNo, ↓x_oSome, ↓x_sl, ↓x_mD1, ↓x_mD2, ↓x_mD3, ↓x_mD4, ↓x_mD5, ↓x_mT0, ↓x_mT1, ↓x_mT2, ↓x_mT3, ↓x_mT4, ↓x_eqI, ↓x_eqS, ↓x_eqB, ↓x_eqIS, ↓x_eqSI, ↓x_eqNN, ↓x_eqNI, ↓x_eqIN, ↓x_eqNS, ↓x_eqSN, ↓x_neI, ↓x_neS, ↓x_neB, ↓x_ltI, ↓x_ltS, ↓x_leI, ↓x_leS, ↓x_gtI, ↓x_gtS, ↓x_geI, ↓x_geS, ↓x_isN, ↓x_notN, ↓x_nonN, ↓x_nonI, ↓x_nonB, ↓x_nonS, ↓x_nonT, ↓x_nonL, ↓x_addI, ↓x_addS, ↓x_addT, ↓x_addL, ↓x_subI, ↓x_negI, ↓x_mulI, ↓x_mulS, ↓x_mulL, ↓x_modI, ↓x_divI, ↓x_powI, ↓x_lenL, ↓x_lenT, ↓x_lenS, ↓x_max2, ↓x_min2, ↓x_int1I, ↓x_int1B, ↓x_listL, ↓x_listT, ↓x_listS, ↓x_itL, ↓x_itT, ↓x_itS, ↓x_ixL0, ↓x_ixT0, ↓x_ixT1, ↓x_ixL1, ↓x_ixT2, ↓x_ixL2, ↓x_ixT3, ↓x_ixT4, ↓x_ixT5, ↓x_lc, ↓x_wipe0, ↓x_wipe1, ↓x_join, ↓x_gT, ↓x_gsN, ↓x_gsC, ↓x_notV, ↓x_andV, ↓x_orV, ↓x_chain, ↓x_tape1, ↓x_v0, ↓x_st0, ↓x_ap0, ↓x_io0, ↓x_lo0, ↓x_ro0, ↓x_v1, ↓x_st1, ↓x_ap1, ↓x_io1, ↓x_lo1, ↓x_ro1, ↓x_v2, ↓x_st2, ↓x_ap2, ↓x_io2, ↓x_lo2, ↓x_ro2, ↓x_v3, ↓x_st3, ↓x_ap3, ↓x_io3, ↓x_lo3, ↓x_ro3, ↓x_v4, ↓x_st4, ↓x_ap4, ↓x_io4, ↓x_lo4, ↓x_ro4, ↓x_v5, ↓x_st5, ↓x_ap5, ↓x_io5, ↓x_lo5, ↓x_ro5, ↓x_v6, ↓x_st6, ↓x_ap6, ↓x_io6, ↓x_lo6, ↓x_ro6, ↓x_v7, ↓x_st7, ↓x_ap7, ↓x_io7, ↓x_lo7, ↓x_ro7, ↓x_v8, ↓x_st8, ↓x_ap8, ↓x_io8, ↓x_lo8, ↓x_ro8, ↓x_v9, ↓x_st9, ↓x_ap9, ↓x_io9, ↓x_lo9, ↓x_ro9, ↓x_v10, ↓x_st10, ↓x_ap10, ↓x_io10, ↓x_lo10, ↓x_ro10, ↓x_v11, ↓x_st11, ↓x_ap11, ↓x_io11, ↓x_lo11, ↓x_ro11, ↓x_v12, ↓x_v13, ↓x_v14, ↓x_v15, ↓x_ss0, ↓x_ls0, ↓x_subII, ↓x_subBB, ↓x_repr, ↓x_sw, ↓x_M1, ↓x_par, ↓x_gSt1, ↓x_gSt3, ↓x_fo0, ↓x_fd0, ↓x_po0, ↓x_pt0, ↓x_fo1, ↓x_fd1, ↓x_po1, ↓x_pt1, ↓x_fo2, ↓x_fd2, ↓x_po2, ↓x_pt2, ↓x_fo3, ↓x_fd3, ↓x_po3, ↓x_pt3, ↓x_fo4, ↓x_fd4, ↓x_po4, ↓x_pt4, ↓x_fo5, ↓x_fd5, ↓x_po5, ↓x_pt5, ↓x_fo6, ↓x_fd6, ↓x_po6, ↓x_pt6, ↓x_fo7, ↓x_fd7, ↓x_po7, ↓x_pt7, ↓x_fo8, ↓x_fd8, ↓x_po8, ↓x_pt8, ↓x_fo9, ↓x_fd9, ↓x_po9, ↓x_pt9, ↓x_fo10, ↓x_fd10, ↓x_po10, ↓x_pt10, ↓x_fo11, ↓x_fd11, ↓x_po11, ↓x_pt11, ↓x_plI, ↓x_plB, ↓x_plS, ↓x_in2, ↓x_in3, ↓x_sl1T, ↓x_sl1L, ↓x_slS, ↓x_tuL, ↓x_tuT, ↓x_enumD, ↓x_iAsc, ↓x_eq0T, ↓x_eq0L, ↓x_mulT, ↓x_pu0, ↓x_pu1, ↓x_pu2, ↓x_pu3, ↓x_pu4, ↓x_pu5, ↓x_pu6, ↓x_pu7, ↓x_pu8, ↓x_pu9, ↓x_pu10, ↓x_pu11, ↓x_isB, ↓x_isNB, ↓x_nonD, ↓x_in4, ↓x_nin4, ↓x_nin2, ↓x_tupRg, ↓x_lstRg, ↓x_g_LIMIT, ↓x_g_MAX_CHOICES, ↓x_g_MAX_DEPTH, ↓x_g_MAX_ORDER, ↓x_g_MAX_TEXT, ↓x_g_TESTS, List.cons_append, List.nil_append, List.replicate_succ, List.replicate_zero, List.set_cons_zero, List.set_cons_succ, List.getElem?_cons_zero, List.getElem?_cons_succ, decide_eq_true_eq, Bool.false_eq_true, Bool.true_eq_false, ↓reduceIte, Bool.not_true, Bool.not_false, decide_true, decide_false, isTy, isTyK, kindD, PySem.sizeLine_eq, List.length_cons, List.length_nil, true_and, and_true, true_implies, Bool.not_eq_true', decide_eq_false_iff_not, Nat.reduceAdd, Nat.reduceLeDiff, Nat.reduceLT, Int.reduceAdd, Int.reduceSub, Int.reduceLT, Int.reduceLE, Int.reduceNeg, Int.reduceEq, Nat.reduceEqDiff, not_true_eq_false, not_false_eq_true, x_one_of, signs_len]
      rw [List.length_map, signs_len]
      refine ⟨⟨by decide +kernel, by decide +kernel⟩, fun d hd => ?_⟩
      obtain ⟨s, hs, rfl⟩ := List.mem_map.mp hd
      exact hN _ ⟨s, rfl, signs_B hs (by decide +kernel)⟩
    · rw [range_len] at hl
      refine join_of (m := 20) (by decide +kernel) hx (by simp; omega) (by decide) fun t ht => h _ ht
  · refine ⟨pw, pw, mulS_ok (by decide +kernel), mulS_ok (by decide +kernel), fun d hd => h _ ?_⟩
    simp only [List.mem_cons, List.not_mem_nil, or_false] at hd
    rcases hd with e | e | e | e | e | e | e | e | e | e | e | e | e | e | e | e | e | e | e | e | e | e | e | e | e <;> subst e <;> first | exact True.intro | exact valB_int (by decide +kernel) | exact valB_str (by decide +kernel)
theorem ok_law_value (T : Txt K mg) {f : Addr} {fd : FuncData} (F : Fun K "_law_value" "_law_value" s_law_value f fd) : FnG P w K mg base 3 f fd ["tape"] (spD P w K 1 (fnD b_law_value 3)) :=
  fn_okG F sc_law_value fun cdv A outer s H E hr hgd => by
    have hu := hr.units
    exact (s_cons (s_if (t_cmpD (oEq hu) (e_fnG (cal_law_pick T) hr hgd (asl 0 (a_cons e_int a_nil)) ) e_int) (s_cons (s_set sc_law_value.nd rfl (by first | exact Or.inl rfl | exact Or.inr rfl) e_str)
      (s_cons (s_set sc_law_value.nd rfl (by first | exact Or.inl rfl | exact Or.inr rfl) (e_cbT (bList rfl) T.b_list bo_list (d_cons (e_bin oAdd (ev 1) e_str) d_nil)))
      (s_one (s_ret (e_join e_str (e_new (f_lc (own := [("turn", 2)]) rfl sc_law_value.nd (i_range1 T.b_range (e_bin oAdd e_int (e_fnG (cal_law_pick T) hr hgd (asl 0 (a_cons e_int a_nil)) ))) (blkOk_by (N := N_law_value) (sc := defScope s_law_value) (by decide +kernel)) (fun _ _ _ _ _ => (g_nm (vs := [2]) sc_law_value.nd rfl (by first | exact Or.inl rfl | exact Or.inr rfl) (by decide))) (fun _ _ _ _ _ => LTs.nil) (fun _ _ _ _ _ => (e_fnG (cal_law_one_of T) hr hgd (asl 0 (a_cons (ev 1) a_nil)) ))))))))) s_nil)
      (s_cons (s_set sc_law_value.nd rfl (by first | exact Or.inl rfl | exact Or.inr rfl) (e_lst (d_cons e_non (d_cons e_int (d_cons e_int (d_cons e_int (d_cons (e_bin oSubB e_int e_int) (d_cons e_int (d_cons e_int (d_cons (e_bin oPow e_int e_int) (d_cons (e_bin oSubB e_int (e_bin oPow e_int e_int)) (d_cons e_str (d_cons e_str (d_cons e_str (d_cons e_str (d_cons e_str (d_cons e_str (d_cons e_str (d_cons (e_bin oMul e_str e_int) d_nil)))))))))))))))))))
      (s_cons (s_set sc_law_value.nd rfl (by first | exact Or.inl rfl | exact Or.inr rfl) (e_bin oAdd (ev 3) (e_lst (d_cons (e_bin oMul e_str e_int) (d_cons e_str (d_cons e_str (d_cons e_str (d_cons e_str (d_cons e_int (d_cons e_str (d_cons e_str d_nil)))))))))))
      (s_one (s_ret (e_fnG (cal_law_one_of T) hr hgd (asl 0 (a_cons (ev 3) a_nil)) ))))))
theorem cal_law_value (T : Txt K mg) : CalG P w K mg base 3 "_law_value" (spD P w K 1 m_law_value) :=
  CalG.imp (calG_of T.f_law_value (show BindsN "_law_value" s_law_value ["tape"] from fun _ _ _ _ _ _ us hl => match us, hl with | [_], _ => rfl) fun _ _ F => ok_law_value T F) spec_law_value
theorem sc_law_test : FnScope N_law_test ["tape", "width"] (defScope s_law_test) := ⟨rfl, rfl, rfl, by decide +kernel, rfl, by decide +kernel, by decide +kernel⟩
def b_law_test : DS := (dSeq (dPar 2 3 (dCons (dFn m_law_pick (aSlot 0 (aCons (dVar 1) aNil))) (dCons (dFn m_law_pick (aSlot 0 (aCons (dC (.int 6)) aNil))) dNil)))
    (dSeq (dIfS (dTest (dOp fEq (dVar 3) (dC (.int 0)))) (dRet (dTup (dCons (dC (.str "all")) dNil))) dSkip)
    (dSeq (dIfS (dTest (dOp fEq (dVar 3) (dC (.int 1)))) (dRet (dTup (dCons (dC (.str "equal")) (dCons (dVar 2) (dCons (dFn m_law_value (aSlot 0 aNil)) dNil))))) dSkip)
    (dSeq (dIfS (dTest (dOp fLt (dVar 3) (dC (.int 4)))) (dRet (dTup (dCons (dC (.str "less")) (dCons (dVar 2) (dCons (dFn m_law_value (aSlot 0 aNil)) dNil))))) dSkip)
    (dSeq (dIfS (dTest (dOp fEq (dVar 3) (dC (.int 4)))) (dRet (dTup (dCons (dC (.str "starts")) (dCons (dVar 2) (dCons (dFn m_law_one_of (aSlot 0 (aCons (dLst (dCons (dC (.str "a")) (dCons (dC (.str "ab")) (dCons (dC (.str "b")) (dCons (dC (.str "A")) (dCons (dC (.str " ")) (dCons (dC (.str "1")) (dCons (dC (.str "-")) (dCons (dC (.str "N")) (dCons (dC (.str "customer")) (dCons (dC (.str "abc")) dNil))))))))))) aNil))) dNil))))) dSkip)
    (dSeq (dSet 4 (dOp fAdd (dC (.int 1)) (dFn m_law_one_of (aSlot 0 (aCons (dLst (dCons (dFn m_law_pick (aSlot 0 (aCons (dC (.int 4)) aNil))) (dCons (dOp fAdd (dC (.int 4)) (dFn m_law_pick (aSlot 0 (aCons (dC (.int 4)) aNil)))) dNil))) aNil)))))
    (dRet (dTup (dCons (dC (.str "one_of")) (dCons (dVar 2) (dCons (dCall fTuple (dCons (dNew (fLc (iRg1 (dVar 4)) (gN 5) dYes (dFn m_law_value (aSlot 0 aNil)) [5])) dNil)) dNil)))))))))))
abbrev m_law_test : List SV → EK → Prop := mT1 fun d Q => ∃ w : Int, d = .int w ∧ 0 < w ∧ w ≤ 100 ∧ ∀ c : CT, c.ok 20 w.toNat → c.dep = 0 → Q c.d
theorem spec_law_test (svs : List SV) (R : EK) (_ : svs.length = 2) (h : m_law_test svs R) : fnD b_law_test 4 svs R := by
  obtain ⟨d, rfl, w, rfl, w0, w1, h⟩ := mT1_elim h
  simp only [b_law_test, ↓x_fnD, ↓x_skip, ↓x_seq, ↓x_brk, ↓x_cnt, ↓x_exp, ↓x_ret, ↓x_retN, ↓x_ifS, ↓x_set, ↓x_asg, ↓x_own, ↓x_fLst, ↓x_tape, ↓x_C, ↓x_op, ↓x_un, ↓x_test, ↓x_and, ↓x_or, ↓x_not, ↓x_if, ↓x_dnil, ↓x_dcons, ↓x_anil, ↓x_acons, ↓x_tup, ↓x_lst, ↓x_call, ↓x_fn, ↓x_isi, ↓x_new, ↓x_gN, ↓x_yes, ↓x_for, ↓x_iData, ↓x_iRg1, ↓x_oNo, ↓x_oSome, ↓x_sl, ↓x_mD1, ↓x_mD2, ↓x_mD3, ↓x_mD4, ↓x_mD5, ↓x_mT0, ↓x_mT1, ↓x_mT2, ↓x_mT3, ↓x_mT4, ↓x_eqI, ↓x_eqS, ↓x_eqB, ↓x_eqIS, ↓x_eqSI, ↓x_eqNN, ↓x_eqNI, ↓x_eqIN, ↓x_eqNS, ↓x_eqSN, ↓x_neI, ↓x_neS, ↓x_neB, ↓x_ltI, ↓x_ltS, ↓x_leI, ↓x_leS, ↓x_gtI, ↓x_gtS, ↓x_geI, ↓x_geS, ↓x_isN, ↓x_notN, ↓x_nonN, ↓x_nonI, ↓x_nonB, ↓x_nonS, ↓x_nonT, ↓x_nonL, ↓x_addI, ↓x_addS, ↓x_addT, ↓x_addL, ↓x_subI, ↓x_negI, ↓x_mulI, ↓x_mulS, ↓x_mulL, ↓x_modI, ↓x_divI, ↓x_powI, ↓x_lenL, ↓x_lenT, ↓x_lenS, ↓x_max2, ↓x_min2, ↓x_int1I, ↓x_int1B, ↓x_listL, ↓x_listT, ↓x_listS, ↓x_itL, ↓x_itT, ↓x_itS, ↓x_ixL0, ↓x_ixT0, ↓x_ixT1, ↓x_ixL1, ↓x_ixT2, ↓x_ixL2, ↓x_ixT3, ↓x_ixT4, ↓x_ixT5, ↓x_lc, ↓x_wipe0, ↓x_wipe1, ↓x_join, ↓x_gT, ↓x_gsN, ↓x_gsC, ↓x_notV, ↓x_andV, ↓x_orV, ↓x_chain, ↓x_tape1, ↓x_v0, ↓x_st0, ↓x_ap0, ↓x_io0, ↓x_lo0, ↓x_ro0, ↓x_v1, ↓x_st1, ↓x_ap1, ↓x_io1, ↓x_lo1, ↓x_ro1, ↓x_v2, ↓x_st2, ↓x_ap2, ↓x_io2, ↓x_lo2, ↓x_ro2, ↓x_v3, ↓x_st3, ↓x_ap3, ↓x_io3, ↓x_lo3, ↓x_ro3, ↓x_v4, ↓x_st4, ↓x_ap4, ↓x_io4, ↓x_lo4, ↓x_ro4, ↓x_v5, ↓x_st5, ↓x_ap5, ↓x_io5, ↓x_lo5, ↓x_ro5, ↓x_v6, ↓x_st6, ↓x_ap6, ↓x_io6, ↓x_lo6, ↓x_ro6, ↓x_v7, ↓x_st7, ↓x_ap7, ↓x_io7, ↓x_lo7, ↓x_ro7, ↓x_v8, ↓x_st8, ↓x_ap8, ↓x_io8, ↓x_lo8, ↓x_ro8, ↓x_v9, ↓x_st9, ↓x_ap9, ↓x_io9, ↓x_lo9, ↓x_ro9, ↓x_v10, ↓x_st10, ↓x_ap10, ↓x_io10, ↓x_lo10, ↓x_ro10, ↓x_v11, ↓x_st11, ↓x_ap11, ↓x_io11, ↓x_lo11, ↓x_ro11, ↓x_v12, ↓x_v13, ↓x_v14, ↓x_v15, ↓x_ss0, ↓x_ls0, ↓x_subII, ↓x_subBB, ↓x_repr, ↓x_sw, ↓x_M1, ↓x_par, ↓x_gSt1, ↓x_gSt3, ↓x_fo0, ↓x_fd0, ↓x_po0, ↓x_pt0, ↓x_fo1, ↓x_fd1, ↓x_po1, ↓x_pt1, ↓x_fo2, ↓x_fd2, ↓x_po2, ↓x_pt2, ↓x_fo3, ↓x_fd3, ↓x_po3, ↓x_pt3, ↓x_fo4, ↓x_fd4, ↓x_po4, ↓x_pt4, ↓x_fo5, ↓x_fd5, ↓x_po5, ↓x_pt5, ↓x_fo6, ↓x_fd6, ↓x_po6, ↓x_pt6, ↓x_fo7, ↓x_fd7, ↓x_po7, ↓x_pt7, ↓x_fo8, ↓x_fd8, ↓x_po8, ↓x_pt8, ↓x_fo9, ↓x_fd9, ↓x_po9, ↓x_pt9, ↓x_fo10, ↓x_fd10, ↓x_po10, ↓x_pt10, ↓x_fo11, ↓x_fd11, ↓x_po11, ↓x_pt11, ↓x_plI, ↓x_plB, ↓x_plS, ↓x_in2, ↓x_in3, ↓x_sl1T, ↓x_sl1L, ↓x_slS, ↓x_tuL, ↓x_tuT, ↓x_enumD, ↓x_iAsc, ↓x_eq0T, ↓x_eq0L, ↓x_mulT, ↓x_pu0, ↓x_pu1, ↓x_pu2, ↓x_pu3, ↓x_pu4, ↓x_pu5, ↓x_pu6, ↓x_pu7, ↓x_pu8, ↓x_pu9, ↓x_pu10, ↓x_pu11, ↓x_isB, ↓x_isNB, ↓x_nonD, ↓x_in4, ↓x_nin4, ↓x_nin2, ↓x_tupRg, ↓x_lstRg, ↓x_g_LIMIT, ↓x_g_MAX_CHOICES, ↓x_g_MAX_DEPTH, ↓x_g_MAX_ORDER, ↓x_g_MAX_TEXT, ↓x_g_TESTS, List.cons_append, List.nil_append, List.replicate_succ, List.replicate_zero, List.set_cons_zero, List.set_cons_succ, List.getElem?_cons_zero, List.getElem?_cons_succ, decide_eq_true_eq, Bool.false_eq_true, Bool.true_eq_false, ↓reduceIte, Bool.not_true, Bool.not_false, decide_true, decide_false, isTy, isTyK, kindD, PySem.sizeLine_eq, List.length_cons, List.length_nil, true_and, and_true, true_implies, Bool.not_eq_true', decide_eq_false_iff_not, Nat.reduceAdd, Nat.reduceLeDiff, Nat.reduceLT, Int.reduceAdd, Int.reduceSub, Int.reduceLT, Int.reduceLE, Int.reduceNeg, Int.reduceEq, Nat.reduceEqDiff, not_true_eq_false, not_false_eq_true, x_pick, x_one_of]
  refine ⟨⟨by omega, by omega⟩, fun c c0 c1 => ⟨by decide, fun k k0 k1 => ?_⟩⟩
  obtain ⟨c, rfl⟩ : ∃ n : Nat, c = n := ⟨c.toNat, by omega⟩
  have hc : c < w.toNat := by omega
  split
  · exact h .all trivial rfl
  split
  · exact fun d hd => h (.eq c d) ⟨hc, hd⟩ rfl
  split
  · exact fun d hd => h (.lt c d) ⟨hc, hd⟩ rfl
  split
  · intro d hd
    obtain ⟨s, rfl, hs⟩ : ∃ s, d = .str s ∧ strB 20 s := by
      simp only [List.mem_cons, List.not_mem_nil, or_false] at hd
      rcases hd with e | e | e | e | e | e | e | e | e | e <;> subst e <;> exact ⟨_, rfl, strB_of (by decide +kernel)⟩
    exact h (.st c s) ⟨hc, hs⟩ rfl
  · refine ⟨by decide, fun p p0 p1 => ⟨by decide, fun q q0 q1 d hd => ?_⟩⟩
    obtain ⟨m, rfl, m0, m1⟩ : ∃ m : Int, d = .int m ∧ 0 ≤ m ∧ m < 8 := by
      simp only [List.mem_cons, List.not_mem_nil, or_false] at hd
      rcases hd with e | e <;> subst e
      · exact ⟨_, rfl, by omega, by omega⟩
      · exact ⟨_, rfl, by omega, by omega⟩
    simp only [↓x_fnD, ↓x_skip, ↓x_seq, ↓x_brk, ↓x_cnt, ↓x_exp, ↓x_ret, ↓x_retN, ↓x_ifS, ↓x_set, ↓x_asg, ↓x_own, ↓x_fLst, ↓x_tape, ↓x_C, ↓x_op, ↓x_un, ↓x_test, ↓x_and, ↓x_or, ↓x_not, ↓x_if, ↓x_dnil, ↓x_dcons, ↓x_anil, ↓x_acons, ↓x_tup, ↓x_lst, ↓x_call, ↓x_fn, ↓x_isi, ↓x_new, ↓x_gN, ↓x_yes, ↓x_for, ↓x_iData, ↓x_iRg1, ↓x_oNo, ↓x_oSome, ↓x_sl, ↓x_mD1, ↓x_mD2, ↓x_mD3, ↓x_mD4, ↓x_mD5, ↓x_mT0, ↓x_mT1, ↓x_mT2, ↓x_mT3, ↓x_mT4, ↓x_eqI, ↓x_eqS, ↓x_eqB, ↓x_eqIS, ↓x_eqSI, ↓x_eqNN, ↓x_eqNI, ↓x_eqIN, ↓x_eqNS, ↓x_eqSN, ↓x_neI, ↓x_neS, ↓x_neB, ↓x_ltI, ↓x_ltS, ↓x_leI, ↓x_leS, ↓x_gtI, ↓x_gtS, ↓x_geI, ↓x_geS, ↓x_isN, ↓x_notN, ↓x_nonN, ↓x_nonI, ↓x_nonB, ↓x_nonS, ↓x_nonT, ↓x_nonL, ↓x_addI, ↓x_addS, ↓x_addT, ↓x_addL, ↓x_subI, ↓x_negI, ↓x_mulI, ↓x_mulS, ↓x_mulL, ↓x_modI, ↓x_divI, ↓x_powI, ↓x_lenL, ↓x_lenT, ↓x_lenS, ↓x_max2, ↓x_min2, ↓x_int1I, ↓x_int1B, ↓x_listL, ↓x_listT, ↓x_listS, ↓x_itL, ↓x_itT, ↓x_itS, ↓x_ixL0, ↓x_ixT0, ↓x_ixT1, ↓x_ixL1, ↓x_ixT2, ↓x_ixL2, ↓x_ixT3, ↓x_ixT4, ↓x_ixT5, ↓x_lc, ↓x_wipe0, ↓x_wipe1, ↓x_join, ↓x_gT, ↓x_gsN, ↓x_gsC, ↓x_notV, ↓x_andV, ↓x_orV, ↓x_chain, ↓x_tape1, ↓x_v0, ↓x_st0, ↓x_ap0, ↓x_io0, ↓x_lo0, ↓x_ro0, ↓x_v1, ↓x_st1, ↓x_ap1, ↓x_io1, ↓x_lo1, ↓x_ro1, ↓x_v2, ↓x_st2, ↓x_ap2, ↓x_io2, ↓x_lo2, ↓x_ro2, ↓x_v3, ↓x_st3, ↓x_ap3, ↓x_io3, ↓x_lo3, ↓x_ro3, ↓x_v4, ↓x_st4, ↓x_ap4, ↓x_io4, ↓x_lo4, ↓x_ro4, ↓x_v5, ↓x_st5, ↓x_ap5, ↓x_io5, ↓x_lo5, ↓x_ro5, ↓x_v6, ↓x_st6, ↓x_ap6, ↓x_io6, ↓x_lo6, ↓x_ro6, ↓x_v7, ↓x_st7, ↓x_ap7, ↓x_io7, ↓x_lo7, ↓x_ro7, ↓x_v8, ↓x_st8, ↓x_ap8, ↓x_io8, ↓x_lo8, ↓x_ro8, ↓x_v9, ↓x_st9, ↓x_ap9, ↓x_io9, ↓x_lo9, ↓x_ro9, ↓x_v10, ↓x_st10, ↓x_ap10, ↓x_io10, ↓x_lo10, ↓x_ro10, ↓x_v11, ↓x_st11, ↓x_ap11, ↓x_io11, ↓x_lo11, ↓x_ro11, ↓x_v12, ↓x_v13, ↓x_v14, ↓x_v15, ↓x_ss0, ↓x_ls0, ↓x_subII, ↓x_subBB, ↓x_repr, ↓x_sw, ↓x_M1, ↓x_par, ↓x_gSt1, ↓x_gSt3, ↓x_fo0, ↓x_fd0, ↓x_po0, ↓x_pt0, ↓x_fo1, ↓x_fd1, ↓x_po1, ↓x_pt1, ↓x_fo2, ↓x_fd2, ↓x_po2, ↓x_pt2, ↓x_fo3, ↓x_fd3, ↓x_po3, ↓x_pt3, ↓x_fo4, ↓x_fd4, ↓x_po4, ↓x_pt4, ↓x_fo5, ↓x_fd5, ↓x_po5, ↓x_pt5, ↓x_fo6, ↓x_fd6, ↓x_po6, ↓x_pt6, ↓x_fo7, ↓x_fd7, ↓x_po7, ↓x_pt7, ↓x_fo8, ↓x_fd8, ↓x_po8, ↓x_pt8, ↓x_fo9, ↓x_fd9, ↓x_po9, ↓x_pt9, ↓x_fo10, ↓x_fd10, ↓x_po10, ↓x_pt10, ↓x_fo11, ↓x_fd11, ↓x_po11, ↓x_pt11, ↓x_plI, ↓x_plB, ↓x_plS, ↓x_in2, ↓x_in3, ↓x_sl1T, ↓x_sl1L, ↓x_slS, ↓x_tuL, ↓x_tuT, ↓x_enumD, ↓x_iAsc, ↓x_eq0T, ↓x_eq0L, ↓x_mulT, ↓x_pu0, ↓x_pu1, ↓x_pu2, ↓x_pu3, ↓x_pu4, ↓x_pu5, ↓x_pu6, ↓x_pu7, ↓x_pu8, ↓x_pu9, ↓x_pu10, ↓x_pu11, ↓x_isB, ↓x_isNB, ↓x_nonD, ↓x_in4, ↓x_nin4, ↓x_nin2, ↓x_tupRg, ↓x_lstRg, ↓x_g_LIMIT, ↓x_g_MAX_CHOICES, ↓x_g_MAX_DEPTH, ↓x_g_MAX_ORDER, ↓x_g_MAX_TEXT, ↓x_g_TESTS, List.cons_append, List.nil_append, List.replicate_succ, List.replicate_zero, List.set_cons_zero, List.set_cons_succ, List.getElem?_cons_zero, List.getElem?_cons_succ, decide_eq_true_eq, Bool.false_eq_true, Bool.true_eq_false, ↓reduceIte, Bool.not_true, Bool.not_false, decide_true, decide_false, isTy, isTyK, kindD, PySem.sizeLine_eq, List.length_cons, List.length_nil, true_and, and_true, true_implies, Bool.not_eq_true', decide_eq_false_iff_not, Nat.reduceAdd, Nat.reduceLeDiff, Nat.reduceLT, Int.reduceAdd, Int.reduceSub, Int.reduceLT, Int.reduceLE, Int.reduceNeg, Int.reduceEq, Nat.reduceEqDiff, not_true_eq_false, not_false_eq_true]
    refine ⟨by omega, by omega, by rw [range_len]; omega, ?_⟩
    refine lc_all (valB 20) _ _ (fun d hd N hN => ?_) fun xs hl hx => ?_
    · simp only [↓x_fnD, ↓x_skip, ↓x_seq, ↓x_brk, ↓x_cnt, ↓x_exp, ↓x_ret, ↓x_retN, ↓x_ifS, ↓x_set, ↓x_asg, ↓x_own, ↓x_fLst, ↓x_tape, ↓x_C, ↓x_op, ↓x_un, ↓x_test, ↓x_and, ↓x_or, ↓x_not, ↓x_if, ↓x_dnil, ↓x_dcons, ↓x_anil, ↓x_acons, ↓x_tup, ↓x_lst, ↓x_call, ↓x_fn, ↓x_isi, ↓x_new, ↓x_gN, ↓x_yes, ↓x_for, ↓x_iData, ↓x_iRg1, ↓x_oNo, ↓x_oSome, ↓x_sl, ↓x_mD1, ↓x_mD2, ↓x_mD3, ↓x_mD4, ↓x_mD5, ↓x_mT0, ↓x_mT1, ↓x_mT2, ↓x_mT3, ↓x_mT4, ↓x_eqI, ↓x_eqS, ↓x_eqB, ↓x_eqIS, ↓x_eqSI, ↓x_eqNN, ↓x_eqNI, ↓x_eqIN, ↓x_eqNS, ↓x_eqSN, ↓x_neI, ↓x_neS, ↓x_neB, ↓x_ltI, ↓x_ltS, ↓x_leI, ↓x_leS, ↓x_gtI, ↓x_gtS, ↓x_geI, ↓x_geS, ↓x_isN, ↓x_notN, ↓x_nonN, ↓x_nonI, ↓x_nonB, ↓x_nonS, ↓x_nonT, ↓x_nonL, ↓x_addI, ↓x_addS, ↓x_addT, ↓x_addL, ↓x_subI, ↓x_negI, ↓x_mulI, ↓x_mulS, ↓x_mulL, ↓x_modI, ↓x_divI, ↓x_powI, ↓x_lenL, ↓x_lenT, ↓x_lenS, ↓x_max2, ↓x_min2, ↓x_int1I, ↓x_int1B, ↓x_listL, ↓x_listT, ↓x_listS, ↓x_itL, ↓x_itT, ↓x_itS, ↓x_ixL0, ↓x_ixT0, ↓x_ixT1, ↓x_ixL1, ↓x_ixT2, ↓x_ixL2, ↓x_ixT3, ↓x_ixT4, ↓x_ixT5, ↓x_lc, ↓x_wipe0, ↓x_wipe1, ↓x_join, ↓x_gT, ↓x_gsN, ↓x_gsC, ↓x_notV, ↓x_andV, ↓x_orV, ↓x_chain, ↓x_tape1, ↓x_v0, ↓x_st0, ↓x_ap0, ↓x_io0, ↓x_lo0, ↓x_ro0, ↓x_v1, ↓x_st1, ↓x_ap1, ↓x_io1, ↓x_lo1, ↓x_ro1, ↓x_v2, ↓x_st2, ↓x_ap2, ↓x_io2, ↓x_lo2, ↓x_ro2, ↓x_v3, ↓x_st3, ↓x_ap3, ↓x_io3, ↓x_lo3, ↓x_ro3, ↓x_v4, ↓x_st4, ↓x_ap4, ↓x_io4, ↓x_lo4, ↓x_ro4, ↓x_v5, ↓x_st5, ↓x_ap5, ↓x_io5, ↓x_lo5, ↓x_ro5, ↓x_v6, ↓x_st6, ↓x_ap6, ↓x_io6, ↓x_lo6, ↓x_ro6, ↓x_v7, ↓x_st7, ↓x_ap7, ↓x_io7, ↓x_lo7, ↓x_ro7, ↓x_v8, ↓x_st8, ↓x_ap8, ↓x_io8, ↓x_lo8, ↓x_ro8, ↓x_v9, ↓x_st9, ↓x_ap9, ↓x_io9, ↓x_lo9, ↓x_ro9, ↓x_v10, ↓x_st10, ↓x_ap10, ↓x_io10, ↓x_lo10, ↓x_ro10, ↓x_v11, ↓x_st11, ↓x_ap11, ↓x_io11, ↓x_lo11, ↓x_ro11, ↓x_v12, ↓x_v13, ↓x_v14, ↓x_v15, ↓x_ss0, ↓x_ls0, ↓x_subII, ↓x_subBB, ↓x_repr, ↓x_sw, ↓x_M1, ↓x_par, ↓x_gSt1, ↓x_gSt3, ↓x_fo0, ↓x_fd0, ↓x_po0, ↓x_pt0, ↓x_fo1, ↓x_fd1, ↓x_po1, ↓x_pt1, ↓x_fo2, ↓x_fd2, ↓x_po2, ↓x_pt2, ↓x_fo3, ↓x_fd3, ↓x_po3, ↓x_pt3, ↓x_fo4, ↓x_fd4, ↓x_po4, ↓x_pt4, ↓x_fo5, ↓x_fd5, ↓x_po5, ↓x_pt5, ↓x_fo6, ↓x_fd6, ↓x_po6, ↓x_pt6, ↓x_fo7, ↓x_fd7, ↓x_po7, ↓x_pt7, ↓x_fo8, ↓x_fd8, ↓x_po8, ↓x_pt8, ↓x_fo9, ↓x_fd9, ↓x_po9, ↓x_pt9, ↓x_fo10, ↓x_fd10, ↓x_po10, ↓x_pt10, ↓x_fo11, ↓x_fd11, ↓x_po11, ↓x_pt11, ↓x_plI, ↓x_plB, ↓x_plS, ↓x_in2, ↓x_in3, ↓x_sl1T, ↓x_sl1L, ↓x_slS, ↓x_tuL, ↓x_tuT, ↓x_enumD, ↓x_iAsc, ↓x_eq0T, ↓x_eq0L, ↓x_mulT, ↓x_pu0, ↓x_pu1, ↓x_pu2, ↓x_pu3, ↓x_pu4, ↓x_pu5, ↓x_pu6, ↓x_pu7, ↓x_pu8, ↓x_pu9, ↓x_pu10, ↓x_pu11, ↓x_isB, ↓x_isNB, ↓x_nonD, ↓x_in4, ↓x_nin4, ↓x_nin2, ↓x_tupRg, ↓x_lstRg, ↓x_g_LIMIT, ↓x_g_MAX_CHOICES, ↓x_g_MAX_DEPTH, ↓x_g_MAX_ORDER, ↓x_g_MAX_TEXT, ↓x_g_TESTS, List.cons_append, List.nil_append, List.replicate_succ, List.replicate_zero, List.set_cons_zero, List.set_cons_succ, List.getElem?_cons_zero, List.getElem?_cons_succ, decide_eq_true_eq, Bool.false_eq_true, Bool.true_eq_false, ↓reduceIte, Bool.not_true, Bool.not_false, decide_true, decide_false, isTy, isTyK, kindD, PySem.sizeLine_eq, List.length_cons, List.length_nil, true_and, and_true, true_implies, Bool.not_eq_true', decide_eq_false_iff_not, Nat.reduceAdd, Nat.reduceLeDiff, Nat.reduceLT, Int.reduceAdd, Int.reduceSub, Int.reduceLT, Int.reduceLE, Int.reduceNeg, Int.reduceEq, Nat.reduceEqDiff, not_true_eq_false, not_false_eq_true]
      exact hN
    · rw [range_len] at hl
      exact h (.one c xs) ⟨hc, by omega, hx⟩ rfl
theorem ok_law_test (T : Txt K mg) {f : Addr} {fd : FuncData} (F : Fun K "_law_test" "_law_test" s_law_test f fd) : FnG P w K mg base 4 f fd ["tape", "width"] (spD P w K 2 (fnD b_law_test 4)) :=
  fn_okG F sc_law_test fun cdv A outer s H E hr hgd => by
    have hu := hr.units
    exact (s_cons (s_par rfl sc_law_test.nd rfl rfl rfl rfl (d_cons (e_fnG (cal_law_pick T) hr hgd (asl 0 (a_cons (ev 1) a_nil)) ) (d_cons (e_fnG (cal_law_pick T) hr hgd (asl 0 (a_cons e_int a_nil)) ) d_nil)))
      (s_cons (s_if (t_cmpD (oEq hu) (ev 3) e_int) (s_one (s_ret (e_tup (d_cons e_str d_nil)))) s_nil)
      (s_cons (s_if (t_cmpD (oEq hu) (ev 3) e_int) (s_one (s_ret (e_tup (d_cons e_str (d_cons (ev 2) (d_cons (e_fnG (cal_law_value T) hr hgd (asl 0 a_nil) ) d_nil)))))) s_nil)
      (s_cons (s_if (t_cmpD (oLt' hu) (ev 3) e_int) (s_one (s_ret (e_tup (d_cons e_str (d_cons (ev 2) (d_cons (e_fnG (cal_law_value T) hr hgd (asl 0 a_nil) ) d_nil)))))) s_nil)
      (s_cons (s_if (t_cmpD (oEq hu) (ev 3) e_int) (s_one (s_ret (e_tup (d_cons e_str (d_cons (ev 2) (d_cons (e_fnG (cal_law_one_of T) hr hgd (asl 0 (a_cons (e_lst (d_cons e_str (d_cons e_str (d_cons e_str (d_cons e_str (d_cons e_str (d_cons e_str (d_cons e_str (d_cons e_str (d_cons e_str (d_cons e_str d_nil))))))))))) a_nil)) ) d_nil)))))) s_nil)
      (s_cons (s_set sc_law_test.nd rfl (by first | exact Or.inl rfl | exact Or.inr rfl) (e_bin oAdd e_int (e_fnG (cal_law_one_of T) hr hgd (asl 0 (a_cons (e_lst (d_cons (e_fnG (cal_law_pick T) hr hgd (asl 0 (a_cons e_int a_nil)) ) (d_cons (e_bin oAdd e_int (e_fnG (cal_law_pick T) hr hgd (asl 0 (a_cons e_int a_nil)) )) d_nil))) a_nil)) )))
      (s_one (s_ret (e_tup (d_cons e_str (d_cons (ev 2) (d_cons (e_cbT bTuple T.b_tuple bo_tuple (d_cons (e_new (f_lc (own := [("turn", 5)]) rfl sc_law_test.nd (i_range1 T.b_range (ev 4)) (blkOk_by (N := N_law_test) (sc := defScope s_law_test) (by decide +kernel)) (fun _ _ _ _ _ => (g_nm (vs := [5]) sc_law_test.nd rfl (by first | exact Or.inl rfl | exact Or.inr rfl) (by decide))) (fun _ _ _ _ _ => LTs.nil) (fun _ _ _ _ _ => (e_fnG (cal_law_value T) hr hgd (asl 0 a_nil) )))) d_nil)) d_nil))))))))))))
theorem cal_law_test (T : Txt K mg) : CalG P w K mg base 4 "_law_test" (spD P w K 2 m_law_test) :=
  CalG.imp (calG_of T.f_law_test (show BindsN "_law_test" s_law_test ["tape", "width"] from fun _ _ _ _ _ _ us hl => match us, hl with | [_, _], _ => rfl) fun _ _ F => ok_law_test T F) spec_law_test
theorem sc_law_condition : FnScope N_law_condition ["tape", "width", "depth"] (defScope s_law_condition) := ⟨rfl, rfl, rfl, by decide +kernel, rfl, by decide +kernel, by decide +kernel⟩
def b_law_condition (mr : List SV → EK → Prop) : DS := (dSeq (dSet 3 (dFn m_law_pick (aSlot 0 (aCons (dC (.int 6)) aNil))))
    (dSeq (dIfS (dOr (dTest (dOp fEq (dVar 2) (dC (.int 0)))) (dTest (dOp fLt (dVar 3) (dC (.int 2))))) (dRet (dFn m_law_test (aSlot 0 (aCons (dVar 1) aNil)))) dSkip)
    (dSeq (dIfS (dTest (dOp fEq (dVar 3) (dC (.int 2)))) (dRet (dTup (dCons (dC (.str "not")) (dCons (dFn mr (aSlot 0 (aCons (dVar 1) (aCons (dOp fSubB (dVar 2) (dC (.int 1))) aNil)))) dNil)))) dSkip)
    (dSeq (dSet 4 (dTup (dCons (dFn mr (aSlot 0 (aCons (dVar 1) (aCons (dOp fSubB (dVar 2) (dC (.int 1))) aNil)))) (dCons (dFn mr (aSlot 0 (aCons (dVar 1) (aCons (dOp fSubB (dVar 2) (dC (.int 1))) aNil)))) dNil))))
    (dRet (dOp fAdd (dTup (dCons (dFn m_law_one_of (aSlot 0 (aCons (dLst (dCons (dC (.str "and")) (dCons (dC (.str "or")) dNil))) aNil))) dNil)) (dVar 4)))))))
-- depth 9
def m_law_condition (n : Nat) : List SV → EK → Prop := mT2 fun x y Q => ∃ w k : Int, x = .int w ∧ y = .int k ∧ 0 < w ∧ w ≤ 100 ∧ 0 ≤ k ∧ k ≤ n ∧ ∀ c : CT, c.ok 20 w.toNat → c.dep ≤ k.toNat → Q c.d
theorem spec_law_condition (n : Nat) (svs : List SV) (R : EK) (_ : svs.length = 3) (h : m_law_condition n svs R) : fnD (b_law_condition (mrec m_law_condition n)) 2 svs R := by
  obtain ⟨x, y, rfl, w, k, rfl, rfl, w0, w1, k0, k1, hQ⟩ := mT2_elim h
  simp only [b_law_condition, ↓x_fnD, ↓x_skip, ↓x_seq, ↓x_brk, ↓x_cnt, ↓x_exp, ↓x_ret, ↓x_retN, ↓x_ifS, ↓x_set, ↓x_asg, ↓x_own, ↓x_fLst, ↓x_tape, ↓x_C, ↓x_op, ↓x_un, ↓x_test, ↓x_and, ↓x_or, ↓x_not, ↓x_if, ↓x_dnil, ↓x_dcons, ↓x_anil, ↓x_acons, ↓x_tup, ↓x_lst, ↓x_call, ↓x_fn, ↓x_isi, ↓x_new, ↓x_gN, ↓x_yes, ↓x_for, ↓x_iData, ↓x_iRg1, ↓x_oNo, ↓x_oSome, ↓x_sl, ↓x_mD1, ↓x_mD2, ↓x_mD3, ↓x_mD4, ↓x_mD5, ↓x_mT0, ↓x_mT1, ↓x_mT2, ↓x_mT3, ↓x_mT4, ↓x_eqI, ↓x_eqS, ↓x_eqB, ↓x_eqIS, ↓x_eqSI, ↓x_eqNN, ↓x_eqNI, ↓x_eqIN, ↓x_eqNS, ↓x_eqSN, ↓x_neI, ↓x_neS, ↓x_neB, ↓x_ltI, ↓x_ltS, ↓x_leI, ↓x_leS, ↓x_gtI, ↓x_gtS, ↓x_geI, ↓x_geS, ↓x_isN, ↓x_notN, ↓x_nonN, ↓x_nonI, ↓x_nonB, ↓x_nonS, ↓x_nonT, ↓x_nonL, ↓x_addI, ↓x_addS, ↓x_addT, ↓x_addL, ↓x_subI, ↓x_negI, ↓x_mulI, ↓x_mulS, ↓x_mulL, ↓x_modI, ↓x_divI, ↓x_powI, ↓x_lenL, ↓x_lenT, ↓x_lenS, ↓x_max2, ↓x_min2, ↓x_int1I, ↓x_int1B, ↓x_listL, ↓x_listT, ↓x_listS, ↓x_itL, ↓x_itT, ↓x_itS, ↓x_ixL0, ↓x_ixT0, ↓x_ixT1, ↓x_ixL1, ↓x_ixT2, ↓x_ixL2, ↓x_ixT3, ↓x_ixT4, ↓x_ixT5, ↓x_lc, ↓x_wipe0, ↓x_wipe1, ↓x_join, ↓x_gT, ↓x_gsN, ↓x_gsC, ↓x_notV, ↓x_andV, ↓x_orV, ↓x_chain, ↓x_tape1, ↓x_v0, ↓x_st0, ↓x_ap0, ↓x_io0, ↓x_lo0, ↓x_ro0, ↓x_v1, ↓x_st1, ↓x_ap1, ↓x_io1, ↓x_lo1, ↓x_ro1, ↓x_v2, ↓x_st2, ↓x_ap2, ↓x_io2, ↓x_lo2, ↓x_ro2, ↓x_v3, ↓x_st3, ↓x_ap3, ↓x_io3, ↓x_lo3, ↓x_ro3, ↓x_v4, ↓x_st4, ↓x_ap4, ↓x_io4, ↓x_lo4, ↓x_ro4, ↓x_v5, ↓x_st5, ↓x_ap5, ↓x_io5, ↓x_lo5, ↓x_ro5, ↓x_v6, ↓x_st6, ↓x_ap6, ↓x_io6, ↓x_lo6, ↓x_ro6, ↓x_v7, ↓x_st7, ↓x_ap7, ↓x_io7, ↓x_lo7, ↓x_ro7, ↓x_v8, ↓x_st8, ↓x_ap8, ↓x_io8, ↓x_lo8, ↓x_ro8, ↓x_v9, ↓x_st9, ↓x_ap9, ↓x_io9, ↓x_lo9, ↓x_ro9, ↓x_v10, ↓x_st10, ↓x_ap10, ↓x_io10, ↓x_lo10, ↓x_ro10, ↓x_v11, ↓x_st11, ↓x_ap11, ↓x_io11, ↓x_lo11, ↓x_ro11, ↓x_v12, ↓x_v13, ↓x_v14, ↓x_v15, ↓x_ss0, ↓x_ls0, ↓x_subII, ↓x_subBB, ↓x_repr, ↓x_sw, ↓x_M1, ↓x_par, ↓x_gSt1, ↓x_gSt3, ↓x_fo0, ↓x_fd0, ↓x_po0, ↓x_pt0, ↓x_fo1, ↓x_fd1, ↓x_po1, ↓x_pt1, ↓x_fo2, ↓x_fd2, ↓x_po2, ↓x_pt2, ↓x_fo3, ↓x_fd3, ↓x_po3, ↓x_pt3, ↓x_fo4, ↓x_fd4, ↓x_po4, ↓x_pt4, ↓x_fo5, ↓x_fd5, ↓x_po5, ↓x_pt5, ↓x_fo6, ↓x_fd6, ↓x_po6, ↓x_pt6, ↓x_fo7, ↓x_fd7, ↓x_po7, ↓x_pt7, ↓x_fo8, ↓x_fd8, ↓x_po8, ↓x_pt8, ↓x_fo9, ↓x_fd9, ↓x_po9, ↓x_pt9, ↓x_fo10, ↓x_fd10, ↓x_po10, ↓x_pt10, ↓x_fo11, ↓x_fd11, ↓x_po11, ↓x_pt11, ↓x_plI, ↓x_plB, ↓x_plS, ↓x_in2, ↓x_in3, ↓x_sl1T, ↓x_sl1L, ↓x_slS, ↓x_tuL, ↓x_tuT, ↓x_enumD, ↓x_iAsc, ↓x_eq0T, ↓x_eq0L, ↓x_mulT, ↓x_pu0, ↓x_pu1, ↓x_pu2, ↓x_pu3, ↓x_pu4, ↓x_pu5, ↓x_pu6, ↓x_pu7, ↓x_pu8, ↓x_pu9, ↓x_pu10, ↓x_pu11, ↓x_isB, ↓x_isNB, ↓x_nonD, ↓x_in4, ↓x_nin4, ↓x_nin2, ↓x_tupRg, ↓x_lstRg, ↓x_g_LIMIT, ↓x_g_MAX_CHOICES, ↓x_g_MAX_DEPTH, ↓x_g_MAX_ORDER, ↓x_g_MAX_TEXT, ↓x_g_TESTS, List.cons_append, List.nil_append, List.replicate_succ, List.replicate_zero, List.set_cons_zero, List.set_cons_succ, List.getElem?_cons_zero, List.getElem?_cons_succ, decide_eq_true_eq, Bool.false_eq_true, Bool.true_eq_false, ↓reduceIte, Bool.not_true, Bool.not_false, decide_true, decide_false, isTy, isTyK, kindD, PySem.sizeLine_eq, List.length_cons, List.length_nil, true_and, and_true, true_implies, Bool.not_eq_true', decide_eq_false_iff_not, Nat.reduceAdd, Nat.reduceLeDiff, Nat.reduceLT, Int.reduceAdd, Int.reduceSub, Int.reduceLT, Int.reduceLE, Int.reduceNeg, Int.reduceEq, Nat.reduceEqDiff, not_true_eq_false, not_false_eq_true, x_pick, x_one_of]
  refine ⟨by decide, fun r r0 r1 => ?_⟩
  split
  · exact ⟨w, rfl, w0, w1, fun c hc hd => hQ c hc (by omega)⟩
  split
  · exact ⟨w, rfl, w0, w1, fun c hc hd => hQ c hc (by omega)⟩
  have kp : 0 < k := by omega
  obtain ⟨n, rfl⟩ : ∃ m, n = m + 1 := ⟨n - 1, by omega⟩
  split
  · refine ⟨w, k - 1, rfl, rfl, w0, w1, by omega, by omega, fun c hc hd => hQ (.not c) hc ?_⟩
    show c.dep + 1 ≤ _
    omega
  · refine ⟨w, k - 1, rfl, rfl, w0, w1, by omega, by omega, fun a ha hda => ⟨w, k - 1, rfl, rfl, w0, w1, by omega, by omega, fun b hb hdb d hd => ?_⟩⟩
    have hm : max a.dep b.dep + 1 ≤ k.toNat := by omega
    simp only [List.mem_cons, List.not_mem_nil, or_false] at hd
    rcases hd with e | e <;> subst e
    · exact hQ (.and a b) ⟨ha, hb⟩ hm
    · exact hQ (.or a b) ⟨ha, hb⟩ hm
theorem ok_law_condition (T : Txt K mg) (n : Nat) (ih : CalG P w K mg base (4 + n) "_law_condition" (spD P w K 3 (mrec m_law_condition n))) {f : Addr} {fd : FuncData} (F : Fun K "_law_condition" "_law_condition" s_law_condition f fd) : FnG P w K mg base (4 + n + 1) f fd ["tape", "width", "depth"] (spD P w K 3 (fnD (b_law_condition (mrec m_law_condition n)) 2)) :=
  fn_okG F sc_law_condition fun cdv A outer s H E hr hgd => by
    have hu := hr.units
    exact (s_cons (s_set sc_law_condition.nd rfl (by first | exact Or.inl rfl | exact Or.inr rfl) (e_fnG (cal_law_pick T) hr hgd (asl 0 (a_cons e_int a_nil)) (hk := by omega)))
      (s_cons (s_if (PW.pt (w_or (t_cmpD (oEq hu) (ev 2) e_int) (w_or1 (t_cmpD (oLt' hu) (ev 3) e_int)))) (s_one (s_ret (e_fnG (cal_law_test T) hr hgd (asl 0 (a_cons (ev 1) a_nil)) (hk := by omega)))) s_nil)
      (s_cons (s_if (t_cmpD (oEq hu) (ev 3) e_int) (s_one (s_ret (e_tup (d_cons e_str (d_cons (e_fnG ih hr hgd (asl 0 (a_cons (ev 1) (a_cons (e_bin oSubB (ev 2) e_int) a_nil))) (hk := Nat.le_refl _)) d_nil))))) s_nil)
      (s_cons (s_set sc_law_condition.nd rfl (by first | exact Or.inl rfl | exact Or.inr rfl) (e_tup (d_cons (e_fnG ih hr hgd (asl 0 (a_cons (ev 1) (a_cons (e_bin oSubB (ev 2) e_int) a_nil))) (hk := Nat.le_refl _)) (d_cons (e_fnG ih hr hgd (asl 0 (a_cons (ev 1) (a_cons (e_bin oSubB (ev 2) e_int) a_nil))) (hk := Nat.le_refl _)) d_nil))))
      (s_one (s_ret (e_bin oAdd (e_tup (d_cons (e_fnG (cal_law_one_of T) hr hgd (asl 0 (a_cons (e_lst (d_cons e_str (d_cons e_str d_nil))) a_nil)) (hk := by omega)) d_nil)) (ev 4))))))))
theorem cr_law_condition (T : Txt K mg) : ∀ n, CalG P w K mg base (4 + n) "_law_condition" (spD P w K 3 (mrec m_law_condition n))
  | 0 => calG_false T.f_law_condition (show BindsN "_law_condition" s_law_condition ["tape", "width", "depth"] from fun _ _ _ _ _ _ us hl => match us, hl with | [_, _, _], _ => rfl)
  | n + 1 => CalG.imp (calG_of T.f_law_condition (show BindsN "_law_condition" s_law_condition ["tape", "width", "depth"] from fun _ _ _ _ _ _ us hl => match us, hl with | [_, _, _], _ => rfl) fun _ _ F => ok_law_condition T n (cr_law_condition T n) F) (spec_law_condition n)
theorem cal_law_condition (T : Txt K mg) (n : Nat) : CalG P w K mg base (4 + n + 1) "_law_condition" (spD P w K 3 (m_law_condition n)) := cr_law_condition T (n + 1)
theorem sc_law_view : FnScope N_law_view ["tape", "width"] (defScope s_law_view) := ⟨rfl, rfl, rfl, by decide +kernel, rfl, by decide +kernel, by decide +kernel⟩
def b_law_view : DS := (dSeq (dSet 2 (dTup (dCons (dC (.str "all")) dNil)))
    (dSeq (dIfS (dTest (dOp fEq (dFn m_law_pick (aSlot 0 (aCons (dC (.int 2)) aNil))) (dC (.int 0)))) (dSet 2 (dFn (m_law_condition 9) (aSlot 0 (aCons (dVar 1) (aCons (dC (.int 2)) aNil))))) dSkip)
    (dSeq (dOwn 3 (fLst dNil))
    (dSeq (dFor (iRg1 (dFn m_law_pick (aSlot 0 (aCons (dC (.int 7)) aNil)))) (gN 4) (dSeq (dSet 5 (dFn m_law_pick (aSlot 0 (aCons (dVar 1) aNil))))
    (dIfS (dAnd (dTest (dOp fLt (dLenOwn 3) (dC (.int 4)))) (dPeekT 3 (dTest (dOp (fInS true) (dVar 5) (dNew (fLc (iData (dVar 3)) (gN 6) dYes (dOp fIx (dVar 6) (dC (.int 0))) [6])))))) (dApp 3 (dTup (dCons (dVar 5) (dCons (dOp fEq (dFn m_law_pick (aSlot 0 (aCons (dC (.int 2)) aNil))) (dC (.int 0))) dNil)))) dSkip)))
    (dSeq (dSet 7 (dCall fTuple (dCons (dNew (fLc (iRg1 (dVar 1)) (gN 5) (dTest (dOp fGt (dFn m_law_pick (aSlot 0 (aCons (dC (.int 3)) aNil))) (dC (.int 0)))) (dVar 5) [5])) dNil)))
    (dFrz 3 (dRet (dTup (dCons (dVar 2) (dCons (dCall fTuple (dCons (dVar 3) dNil)) (dCons (dVar 7) dNil)))))))))))
abbrev m_law_view : List SV → EK → Prop := mT1 fun d Q => ∃ w : Int, d = .int w ∧ 0 < w ∧ w ≤ 100 ∧ ∀ v : VT, v.ok w.toNat → Q v.d
theorem cond_or {b : Prop} [Decidable b] {w : Int} {K : EK} (w0 : 0 < w) (w1 : w ≤ 100) (key : ∀ c : CT, c.ok 20 w.toNat → c.dep ≤ 2 → K c.d) : if b then m_law_condition 9 [.tape, .dat (.int w), .dat (.int 2)] K else K (.tuple [.str "all"]) := by
  split
  · exact ⟨w, 2, rfl, rfl, w0, w1, by decide, by decide, fun c hc hd => key c hc hd⟩
  · exact key .all trivial (by decide)
theorem spec_law_view (svs : List SV) (R : EK) (_ : svs.length = 2) (h : m_law_view svs R) : fnD b_law_view 6 svs R := by
  obtain ⟨d, rfl, w, rfl, w0, w1, h⟩ := mT1_elim h
  simp only [b_law_view, ↓x_fnD, ↓x_skip, ↓x_seq, ↓x_brk, ↓x_cnt, ↓x_exp, ↓x_ret, ↓x_retN, ↓x_ifS, ↓x_set, ↓x_asg, ↓x_own, ↓x_fLst, ↓x_tape, ↓x_C, ↓x_op, ↓x_un, ↓x_test, ↓x_and, ↓x_or, ↓x_not, ↓x_if, ↓x_dnil, ↓x_dcons, ↓x_anil, ↓x_acons, ↓x_tup, ↓x_lst, ↓x_call, ↓x_fn, ↓x_isi, ↓x_new, ↓x_gN, ↓x_yes, ↓x_for, ↓x_iData, ↓x_iRg1, ↓x_oNo, ↓x_oSome, ↓x_sl, ↓x_mD1, ↓x_mD2, ↓x_mD3, ↓x_mD4, ↓x_mD5, ↓x_mT0, ↓x_mT1, ↓x_mT2, ↓x_mT3, ↓x_mT4, ↓x_eqI, ↓x_eqS, ↓x_eqB, ↓x_eqIS, ↓x_eqSI, ↓x_eqNN, ↓x_eqNI, ↓x_eqIN, ↓x_eqNS, ↓x_eqSN, ↓x_neI, ↓x_neS, ↓x_neB, ↓x_ltI, ↓x_ltS, ↓x_leI, ↓x_leS, ↓x_gtI, ↓x_gtS, ↓x_geI, ↓x_geS, ↓x_isN, ↓x_notN, ↓x_nonN, ↓x_nonI, ↓x_nonB, ↓x_nonS, ↓x_nonT, ↓x_nonL, ↓x_addI, ↓x_addS, ↓x_addT, ↓x_addL, ↓x_subI, ↓x_negI, ↓x_mulI, ↓x_mulS, ↓x_mulL, ↓x_modI, ↓x_divI, ↓x_powI, ↓x_lenL, ↓x_lenT, ↓x_lenS, ↓x_max2, ↓x_min2, ↓x_int1I, ↓x_int1B, ↓x_listL, ↓x_listT, ↓x_listS, ↓x_itL, ↓x_itT, ↓x_itS, ↓x_ixL0, ↓x_ixT0, ↓x_ixT1, ↓x_ixL1, ↓x_ixT2, ↓x_ixL2, ↓x_ixT3, ↓x_ixT4, ↓x_ixT5, ↓x_lc, ↓x_wipe0, ↓x_wipe1, ↓x_join, ↓x_gT, ↓x_gsN, ↓x_gsC, ↓x_notV, ↓x_andV, ↓x_orV, ↓x_chain, ↓x_tape1, ↓x_v0, ↓x_st0, ↓x_ap0, ↓x_io0, ↓x_lo0, ↓x_ro0, ↓x_v1, ↓x_st1, ↓x_ap1, ↓x_io1, ↓x_lo1, ↓x_ro1, ↓x_v2, ↓x_st2, ↓x_ap2, ↓x_io2, ↓x_lo2, ↓x_ro2, ↓x_v3, ↓x_st3, ↓x_ap3, ↓x_io3, ↓x_lo3, ↓x_ro3, ↓x_v4, ↓x_st4, ↓x_ap4, ↓x_io4, ↓x_lo4, ↓x_ro4, ↓x_v5, ↓x_st5, ↓x_ap5, ↓x_io5, ↓x_lo5, ↓x_ro5, ↓x_v6, ↓x_st6, ↓x_ap6, ↓x_io6, ↓x_lo6, ↓x_ro6, ↓x_v7, ↓x_st7, ↓x_ap7, ↓x_io7, ↓x_lo7, ↓x_ro7, ↓x_v8, ↓x_st8, ↓x_ap8, ↓x_io8, ↓x_lo8, ↓x_ro8, ↓x_v9, ↓x_st9, ↓x_ap9, ↓x_io9, ↓x_lo9, ↓x_ro9, ↓x_v10, ↓x_st10, ↓x_ap10, ↓x_io10, ↓x_lo10, ↓x_ro10, ↓x_v11, ↓x_st11, ↓x_ap11, ↓x_io11, ↓x_lo11, ↓x_ro11, ↓x_v12, ↓x_v13, ↓x_v14, ↓x_v15, ↓x_ss0, ↓x_ls0, ↓x_subII, ↓x_subBB, ↓x_repr, ↓x_sw, ↓x_M1, ↓x_par, ↓x_gSt1, ↓x_gSt3, ↓x_fo0, ↓x_fd0, ↓x_po0, ↓x_pt0, ↓x_fo1, ↓x_fd1, ↓x_po1, ↓x_pt1, ↓x_fo2, ↓x_fd2, ↓x_po2, ↓x_pt2, ↓x_fo3, ↓x_fd3, ↓x_po3, ↓x_pt3, ↓x_fo4, ↓x_fd4, ↓x_po4, ↓x_pt4, ↓x_fo5, ↓x_fd5, ↓x_po5, ↓x_pt5, ↓x_fo6, ↓x_fd6, ↓x_po6, ↓x_pt6, ↓x_fo7, ↓x_fd7, ↓x_po7, ↓x_pt7, ↓x_fo8, ↓x_fd8, ↓x_po8, ↓x_pt8, ↓x_fo9, ↓x_fd9, ↓x_po9, ↓x_pt9, ↓x_fo10, ↓x_fd10, ↓x_po10, ↓x_pt10, ↓x_fo11, ↓x_fd11, ↓x_po11, ↓x_pt11, ↓x_plI, ↓x_plB, ↓x_plS, ↓x_in2, ↓x_in3, ↓x_sl1T, ↓x_sl1L, ↓x_slS, ↓x_tuL, ↓x_tuT, ↓x_enumD, ↓x_iAsc, ↓x_eq0T, ↓x_eq0L, ↓x_mulT, ↓x_pu0, ↓x_pu1, ↓x_pu2, ↓x_pu3, ↓x_pu4, ↓x_pu5, ↓x_pu6, ↓x_pu7, ↓x_pu8, ↓x_pu9, ↓x_pu10, ↓x_pu11, ↓x_isB, ↓x_isNB, ↓x_nonD, ↓x_in4, ↓x_nin4, ↓x_nin2, ↓x_tupRg, ↓x_lstRg, ↓x_g_LIMIT, ↓x_g_MAX_CHOICES, ↓x_g_MAX_DEPTH, ↓x_g_MAX_ORDER, ↓x_g_MAX_TEXT, ↓x_g_TESTS, List.cons_append, List.nil_append, List.replicate_succ, List.replicate_zero, List.set_cons_zero, List.set_cons_succ, List.getElem?_cons_zero, List.getElem?_cons_succ, decide_eq_true_eq, Bool.false_eq_true, Bool.true_eq_false, ↓reduceIte, Bool.not_true, Bool.not_false, decide_true, decide_false, isTy, isTyK, kindD, PySem.sizeLine_eq, List.length_cons, List.length_nil, true_and, and_true, true_implies, Bool.not_eq_true', decide_eq_false_iff_not, Nat.reduceAdd, Nat.reduceLeDiff, Nat.reduceLT, Int.reduceAdd, Int.reduceSub, Int.reduceLT, Int.reduceLE, Int.reduceNeg, Int.reduceEq, Nat.reduceEqDiff, not_true_eq_false, not_false_eq_true, x_pick]
  refine ⟨by decide, fun r r0 r1 => cond_or w0 w1 fun c hc hcd => ⟨by decide, fun m m0 m1 => ⟨by omega, by omega, ?_⟩⟩⟩
  refine loop_inv (fun ω => ∃ (o : List (Nat × Bool)) (a b e f : SV), ω = [.tape, .dat (.int w), .dat c.d, .own (o.map ordD), a, b, e, f] ∧ o.length ≤ 4 ∧ (∀ p ∈ o, p.1 < w.toNat) ∧ (o.map (·.1)).Nodup) _ (fun x hx ω hω N hN => ?_) (fun ω hω => ?_) _ ⟨[], _, _, _, _, rfl, by simp, by simp, by simp⟩
  · obtain ⟨o, a, b, e, f, rfl, o1, o2, o3⟩ := hω
    simp only [↓x_fnD, ↓x_skip, ↓x_seq, ↓x_brk, ↓x_cnt, ↓x_exp, ↓x_ret, ↓x_retN, ↓x_ifS, ↓x_set, ↓x_asg, ↓x_own, ↓x_fLst, ↓x_tape, ↓x_C, ↓x_op, ↓x_un, ↓x_test, ↓x_and, ↓x_or, ↓x_not, ↓x_if, ↓x_dnil, ↓x_dcons, ↓x_anil, ↓x_acons, ↓x_tup, ↓x_lst, ↓x_call, ↓x_fn, ↓x_isi, ↓x_new, ↓x_gN, ↓x_yes, ↓x_for, ↓x_iData, ↓x_iRg1, ↓x_oNo, ↓x_oSome, ↓x_sl, ↓x_mD1, ↓x_mD2, ↓x_mD3, ↓x_mD4, ↓x_mD5, ↓x_mT0, ↓x_mT1, ↓x_mT2, ↓x_mT3, ↓x_mT4, ↓x_eqI, ↓x_eqS, ↓x_eqB, ↓x_eqIS, ↓x_eqSI, ↓x_eqNN, ↓x_eqNI, ↓x_eqIN, ↓x_eqNS, ↓x_eqSN, ↓x_neI, ↓x_neS, ↓x_neB, ↓x_ltI, ↓x_ltS, ↓x_leI, ↓x_leS, ↓x_gtI, ↓x_gtS, ↓x_geI, ↓x_geS, ↓x_isN, ↓x_notN, ↓x_nonN, ↓x_nonI, ↓x_nonB, ↓x_nonS, ↓x_nonT, ↓x_nonL, ↓x_addI, ↓x_addS, ↓x_addT, ↓x_addL, ↓x_subI, ↓x_negI, ↓x_mulI, ↓x_mulS, ↓x_mulL, ↓x_modI, ↓x_divI, ↓x_powI, ↓x_lenL, ↓x_lenT, ↓x_lenS, ↓x_max2, ↓x_min2, ↓x_int1I, ↓x_int1B, ↓x_listL, ↓x_listT, ↓x_listS, ↓x_itL, ↓x_itT, ↓x_itS, ↓x_ixL0, ↓x_ixT0, ↓x_ixT1, ↓x_ixL1, ↓x_ixT2, ↓x_ixL2, ↓x_ixT3, ↓x_ixT4, ↓x_ixT5, ↓x_lc, ↓x_wipe0, ↓x_wipe1, ↓x_join, ↓x_gT, ↓x_gsN, ↓x_gsC, ↓x_notV, ↓x_andV, ↓x_orV, ↓x_chain, ↓x_tape1, ↓x_v0, ↓x_st0, ↓x_ap0, ↓x_io0, ↓x_lo0, ↓x_ro0, ↓x_v1, ↓x_st1, ↓x_ap1, ↓x_io1, ↓x_lo1, ↓x_ro1, ↓x_v2, ↓x_st2, ↓x_ap2, ↓x_io2, ↓x_lo2, ↓x_ro2, ↓x_v3, ↓x_st3, ↓x_ap3, ↓x_io3, ↓x_lo3, ↓x_ro3, ↓x_v4, ↓x_st4, ↓x_ap4, ↓x_io4, ↓x_lo4, ↓x_ro4, ↓x_v5, ↓x_st5, ↓x_ap5, ↓x_io5, ↓x_lo5, ↓x_ro5, ↓x_v6, ↓x_st6, ↓x_ap6, ↓x_io6, ↓x_lo6, ↓x_ro6, ↓x_v7, ↓x_st7, ↓x_ap7, ↓x_io7, ↓x_lo7, ↓x_ro7, ↓x_v8, ↓x_st8, ↓x_ap8, ↓x_io8, ↓x_lo8, ↓x_ro8, ↓x_v9, ↓x_st9, ↓x_ap9, ↓x_io9, ↓x_lo9, ↓x_ro9, ↓x_v10, ↓x_st10, ↓x_ap10, ↓x_io10, ↓x_lo10, ↓x_ro10, ↓x_v11, ↓x_st11, ↓x_ap11, ↓x_io11, ↓x_lo11, ↓x_ro11, ↓x_v12, ↓x_v13, ↓x_v14, ↓x_v15, ↓x_ss0, ↓x_ls0, ↓x_subII, ↓x_subBB, ↓x_repr, ↓x_sw, ↓x_M1, ↓x_par, ↓x_gSt1, ↓x_gSt3, ↓x_fo0, ↓x_fd0, ↓x_po0, ↓x_pt0, ↓x_fo1, ↓x_fd1, ↓x_po1, ↓x_pt1, ↓x_fo2, ↓x_fd2, ↓x_po2, ↓x_pt2, ↓x_fo3, ↓x_fd3, ↓x_po3, ↓x_pt3, ↓x_fo4, ↓x_fd4, ↓x_po4, ↓x_pt4, ↓x_fo5, ↓x_fd5, ↓x_po5, ↓x_pt5, ↓x_fo6, ↓x_fd6, ↓x_po6, ↓x_pt6, ↓x_fo7, ↓x_fd7, ↓x_po7, ↓x_pt7, ↓x_fo8, ↓x_fd8, ↓x_po8, ↓x_pt8, ↓x_fo9, ↓x_fd9, ↓x_po9, ↓x_pt9, ↓x_fo10, ↓x_fd10, ↓x_po10, ↓x_pt10, ↓x_fo11, ↓x_fd11, ↓x_po11, ↓x_pt11, ↓x_plI, ↓x_plB, ↓x_plS, ↓x_in2, ↓x_in3, ↓x_sl1T, ↓x_sl1L, ↓x_slS, ↓x_tuL, ↓x_tuT, ↓x_enumD, ↓x_iAsc, ↓x_eq0T, ↓x_eq0L, ↓x_mulT, ↓x_pu0, ↓x_pu1, ↓x_pu2, ↓x_pu3, ↓x_pu4, ↓x_pu5, ↓x_pu6, ↓x_pu7, ↓x_pu8, ↓x_pu9, ↓x_pu10, ↓x_pu11, ↓x_isB, ↓x_isNB, ↓x_nonD, ↓x_in4, ↓x_nin4, ↓x_nin2, ↓x_tupRg, ↓x_lstRg, ↓x_g_LIMIT, ↓x_g_MAX_CHOICES, ↓x_g_MAX_DEPTH, ↓x_g_MAX_ORDER, ↓x_g_MAX_TEXT, ↓x_g_TESTS, List.cons_append, List.nil_append, List.replicate_succ, List.replicate_zero, List.set_cons_zero, List.set_cons_succ, List.getElem?_cons_zero, List.getElem?_cons_succ, decide_eq_true_eq, Bool.false_eq_true, Bool.true_eq_false, ↓reduceIte, Bool.not_true, Bool.not_false, decide_true, decide_false, isTy, isTyK, kindD, PySem.sizeLine_eq, List.length_cons, List.length_nil, true_and, and_true, true_implies, Bool.not_eq_true', decide_eq_false_iff_not, Nat.reduceAdd, Nat.reduceLeDiff, Nat.reduceLT, Int.reduceAdd, Int.reduceSub, Int.reduceLT, Int.reduceLE, Int.reduceNeg, Int.reduceEq, Nat.reduceEqDiff, not_true_eq_false, not_false_eq_true, x_pick]
    refine ⟨⟨by omega, by omega⟩, fun q q0 q1 => ?_⟩
    obtain ⟨q, rfl⟩ : ∃ n : Nat, q = n := ⟨q.toNat, by omega⟩
    have hq : q < w.toNat := by omega
    split
    · intro _
      refine ⟨by simp; omega, ord_cols o (fun p => .int (p.1 : Int)) (fun p hp M hM => ?_) ?_ _ rfl⟩
      · simp only [ordD, ↓x_fnD, ↓x_skip, ↓x_seq, ↓x_brk, ↓x_cnt, ↓x_exp, ↓x_ret, ↓x_retN, ↓x_ifS, ↓x_set, ↓x_asg, ↓x_own, ↓x_fLst, ↓x_tape, ↓x_C, ↓x_op, ↓x_un, ↓x_test, ↓x_and, ↓x_or, ↓x_not, ↓x_if, ↓x_dnil, ↓x_dcons, ↓x_anil, ↓x_acons, ↓x_tup, ↓x_lst, ↓x_call, ↓x_fn, ↓x_isi, ↓x_new, ↓x_gN, ↓x_yes, ↓x_for, ↓x_iData, ↓x_iRg1, ↓x_oNo, ↓x_oSome, ↓x_sl, ↓x_mD1, ↓x_mD2, ↓x_mD3, ↓x_mD4, ↓x_mD5, ↓x_mT0, ↓x_mT1, ↓x_mT2, ↓x_mT3, ↓x_mT4, ↓x_eqI, ↓x_eqS, ↓x_eqB, ↓x_eqIS, ↓x_eqSI, ↓x_eqNN, ↓x_eqNI, ↓x_eqIN, ↓x_eqNS, ↓x_eqSN, ↓x_neI, ↓x_neS, ↓x_neB, ↓x_ltI, ↓x_ltS, ↓x_leI, ↓x_leS, ↓x_gtI, ↓x_gtS, ↓x_geI, ↓x_geS, ↓x_isN, ↓x_notN, ↓x_nonN, ↓x_nonI, ↓x_nonB, ↓x_nonS, ↓x_nonT, ↓x_nonL, ↓x_addI, ↓x_addS, ↓x_addT, ↓x_addL, ↓x_subI, ↓x_negI, ↓x_mulI, ↓x_mulS, ↓x_mulL, ↓x_modI, ↓x_divI, ↓x_powI, ↓x_lenL, ↓x_lenT, ↓x_lenS, ↓x_max2, ↓x_min2, ↓x_int1I, ↓x_int1B, ↓x_listL, ↓x_listT, ↓x_listS, ↓x_itL, ↓x_itT, ↓x_itS, ↓x_ixL0, ↓x_ixT0, ↓x_ixT1, ↓x_ixL1, ↓x_ixT2, ↓x_ixL2, ↓x_ixT3, ↓x_ixT4, ↓x_ixT5, ↓x_lc, ↓x_wipe0, ↓x_wipe1, ↓x_join, ↓x_gT, ↓x_gsN, ↓x_gsC, ↓x_notV, ↓x_andV, ↓x_orV, ↓x_chain, ↓x_tape1, ↓x_v0, ↓x_st0, ↓x_ap0, ↓x_io0, ↓x_lo0, ↓x_ro0, ↓x_v1, ↓x_st1, ↓x_ap1, ↓x_io1, ↓x_lo1, ↓x_ro1, ↓x_v2, ↓x_st2, ↓x_ap2, ↓x_io2, ↓x_lo2, ↓x_ro2, ↓x_v3, ↓x_st3, ↓x_ap3, ↓x_io3, ↓x_lo3, ↓x_ro3, ↓x_v4, ↓x_st4, ↓x_ap4, ↓x_io4, ↓x_lo4, ↓x_ro4, ↓x_v5, ↓x_st5, ↓x_ap5, ↓x_io5, ↓x_lo5, ↓x_ro5, ↓x_v6, ↓x_st6, ↓x_ap6, ↓x_io6, ↓x_lo6, ↓x_ro6, ↓x_v7, ↓x_st7, ↓x_ap7, ↓x_io7, ↓x_lo7, ↓x_ro7, ↓x_v8, ↓x_st8, ↓x_ap8, ↓x_io8, ↓x_lo8, ↓x_ro8, ↓x_v9, ↓x_st9, ↓x_ap9, ↓x_io9, ↓x_lo9, ↓x_ro9, ↓x_v10, ↓x_st10, ↓x_ap10, ↓x_io10, ↓x_lo10, ↓x_ro10, ↓x_v11, ↓x_st11, ↓x_ap11, ↓x_io11, ↓x_lo11, ↓x_ro11, ↓x_v12, ↓x_v13, ↓x_v14, ↓x_v15, ↓x_ss0, ↓x_ls0, ↓x_subII, ↓x_subBB, ↓x_repr, ↓x_sw, ↓x_M1, ↓x_par, ↓x_gSt1, ↓x_gSt3, ↓x_fo0, ↓x_fd0, ↓x_po0, ↓x_pt0, ↓x_fo1, ↓x_fd1, ↓x_po1, ↓x_pt1, ↓x_fo2, ↓x_fd2, ↓x_po2, ↓x_pt2, ↓x_fo3, ↓x_fd3, ↓x_po3, ↓x_pt3, ↓x_fo4, ↓x_fd4, ↓x_po4, ↓x_pt4, ↓x_fo5, ↓x_fd5, ↓x_po5, ↓x_pt5, ↓x_fo6, ↓x_fd6, ↓x_po6, ↓x_pt6, ↓x_fo7, ↓x_fd7, ↓x_po7, ↓x_pt7, ↓x_fo8, ↓x_fd8, ↓x_po8, ↓x_pt8, ↓x_fo9, ↓x_fd9, ↓x_po9, ↓x_pt9, ↓x_fo10, ↓x_fd10, ↓x_po10, ↓x_pt10, ↓x_fo11, ↓x_fd11, ↓x_po11, ↓x_pt11, ↓x_plI, ↓x_plB, ↓x_plS, ↓x_in2, ↓x_in3, ↓x_sl1T, ↓x_sl1L, ↓x_slS, ↓x_tuL, ↓x_tuT, ↓x_enumD, ↓x_iAsc, ↓x_eq0T, ↓x_eq0L, ↓x_mulT, ↓x_pu0, ↓x_pu1, ↓x_pu2, ↓x_pu3, ↓x_pu4, ↓x_pu5, ↓x_pu6, ↓x_pu7, ↓x_pu8, ↓x_pu9, ↓x_pu10, ↓x_pu11, ↓x_isB, ↓x_isNB, ↓x_nonD, ↓x_in4, ↓x_nin4, ↓x_nin2, ↓x_tupRg, ↓x_lstRg, ↓x_g_LIMIT, ↓x_g_MAX_CHOICES, ↓x_g_MAX_DEPTH, ↓x_g_MAX_ORDER, ↓x_g_MAX_TEXT, ↓x_g_TESTS, List.cons_append, List.nil_append, List.replicate_succ, List.replicate_zero, List.set_cons_zero, List.set_cons_succ, List.getElem?_cons_zero, List.getElem?_cons_succ, decide_eq_true_eq, Bool.false_eq_true, Bool.true_eq_false, ↓reduceIte, Bool.not_true, Bool.not_false, decide_true, decide_false, isTy, isTyK, kindD, PySem.sizeLine_eq, List.length_cons, List.length_nil, true_and, and_true, true_implies, Bool.not_eq_true', decide_eq_false_iff_not, Nat.reduceAdd, Nat.reduceLeDiff, Nat.reduceLT, Int.reduceAdd, Int.reduceSub, Int.reduceLT, Int.reduceLE, Int.reduceNeg, Int.reduceEq, Nat.reduceEqDiff, not_true_eq_false, not_false_eq_true]
        exact hM
      · refine inS_plainL rfl (by simp [plainD]) ?_
        rw [inD_ord]
        by_cases hm : q ∈ o.map (·.1)
        · simp only [hm, decide_true, ↓x_fnD, ↓x_skip, ↓x_seq, ↓x_brk, ↓x_cnt, ↓x_exp, ↓x_ret, ↓x_retN, ↓x_ifS, ↓x_set, ↓x_asg, ↓x_own, ↓x_fLst, ↓x_tape, ↓x_C, ↓x_op, ↓x_un, ↓x_test, ↓x_and, ↓x_or, ↓x_not, ↓x_if, ↓x_dnil, ↓x_dcons, ↓x_anil, ↓x_acons, ↓x_tup, ↓x_lst, ↓x_call, ↓x_fn, ↓x_isi, ↓x_new, ↓x_gN, ↓x_yes, ↓x_for, ↓x_iData, ↓x_iRg1, ↓x_oNo, ↓x_oSome, ↓x_sl, ↓x_mD1, ↓x_mD2, ↓x_mD3, ↓x_mD4, ↓x_mD5, ↓x_mT0, ↓x_mT1, ↓x_mT2, ↓x_mT3, ↓x_mT4, ↓x_eqI, ↓x_eqS, ↓x_eqB, ↓x_eqIS, ↓x_eqSI, ↓x_eqNN, ↓x_eqNI, ↓x_eqIN, ↓x_eqNS, ↓x_eqSN, ↓x_neI, ↓x_neS, ↓x_neB, ↓x_ltI, ↓x_ltS, ↓x_leI, ↓x_leS, ↓x_gtI, ↓x_gtS, ↓x_geI, ↓x_geS, ↓x_isN, ↓x_notN, ↓x_nonN, ↓x_nonI, ↓x_nonB, ↓x_nonS, ↓x_nonT, ↓x_nonL, ↓x_addI, ↓x_addS, ↓x_addT, ↓x_addL, ↓x_subI, ↓x_negI, ↓x_mulI, ↓x_mulS, ↓x_mulL, ↓x_modI, ↓x_divI, ↓x_powI, ↓x_lenL, ↓x_lenT, ↓x_lenS, ↓x_max2, ↓x_min2, ↓x_int1I, ↓x_int1B, ↓x_listL, ↓x_listT, ↓x_listS, ↓x_itL, ↓x_itT, ↓x_itS, ↓x_ixL0, ↓x_ixT0, ↓x_ixT1, ↓x_ixL1, ↓x_ixT2, ↓x_ixL2, ↓x_ixT3, ↓x_ixT4, ↓x_ixT5, ↓x_lc, ↓x_wipe0, ↓x_wipe1, ↓x_join, ↓x_gT, ↓x_gsN, ↓x_gsC, ↓x_notV, ↓x_andV, ↓x_orV, ↓x_chain, ↓x_tape1, ↓x_v0, ↓x_st0, ↓x_ap0, ↓x_io0, ↓x_lo0, ↓x_ro0, ↓x_v1, ↓x_st1, ↓x_ap1, ↓x_io1, ↓x_lo1, ↓x_ro1, ↓x_v2, ↓x_st2, ↓x_ap2, ↓x_io2, ↓x_lo2, ↓x_ro2, ↓x_v3, ↓x_st3, ↓x_ap3, ↓x_io3, ↓x_lo3, ↓x_ro3, ↓x_v4, ↓x_st4, ↓x_ap4, ↓x_io4, ↓x_lo4, ↓x_ro4, ↓x_v5, ↓x_st5, ↓x_ap5, ↓x_io5, ↓x_lo5, ↓x_ro5, ↓x_v6, ↓x_st6, ↓x_ap6, ↓x_io6, ↓x_lo6, ↓x_ro6, ↓x_v7, ↓x_st7, ↓x_ap7, ↓x_io7, ↓x_lo7, ↓x_ro7, ↓x_v8, ↓x_st8, ↓x_ap8, ↓x_io8, ↓x_lo8, ↓x_ro8, ↓x_v9, ↓x_st9, ↓x_ap9, ↓x_io9, ↓x_lo9, ↓x_ro9, ↓x_v10, ↓x_st10, ↓x_ap10, ↓x_io10, ↓x_lo10, ↓x_ro10, ↓x_v11, ↓x_st11, ↓x_ap11, ↓x_io11, ↓x_lo11, ↓x_ro11, ↓x_v12, ↓x_v13, ↓x_v14, ↓x_v15, ↓x_ss0, ↓x_ls0, ↓x_subII, ↓x_subBB, ↓x_repr, ↓x_sw, ↓x_M1, ↓x_par, ↓x_gSt1, ↓x_gSt3, ↓x_fo0, ↓x_fd0, ↓x_po0, ↓x_pt0, ↓x_fo1, ↓x_fd1, ↓x_po1, ↓x_pt1, ↓x_fo2, ↓x_fd2, ↓x_po2, ↓x_pt2, ↓x_fo3, ↓x_fd3, ↓x_po3, ↓x_pt3, ↓x_fo4, ↓x_fd4, ↓x_po4, ↓x_pt4, ↓x_fo5, ↓x_fd5, ↓x_po5, ↓x_pt5, ↓x_fo6, ↓x_fd6, ↓x_po6, ↓x_pt6, ↓x_fo7, ↓x_fd7, ↓x_po7, ↓x_pt7, ↓x_fo8, ↓x_fd8, ↓x_po8, ↓x_pt8, ↓x_fo9, ↓x_fd9, ↓x_po9, ↓x_pt9, ↓x_fo10, ↓x_fd10, ↓x_po10, ↓x_pt10, ↓x_fo11, ↓x_fd11, ↓x_po11, ↓x_pt11, ↓x_plI, ↓x_plB, ↓x_plS, ↓x_in2, ↓x_in3, ↓x_sl1T, ↓x_sl1L, ↓x_slS, ↓x_tuL, ↓x_tuT, ↓x_enumD, ↓x_iAsc, ↓x_eq0T, ↓x_eq0L, ↓x_mulT, ↓x_pu0, ↓x_pu1, ↓x_pu2, ↓x_pu3, ↓x_pu4, ↓x_pu5, ↓x_pu6, ↓x_pu7, ↓x_pu8, ↓x_pu9, ↓x_pu10, ↓x_pu11, ↓x_isB, ↓x_isNB, ↓x_nonD, ↓x_in4, ↓x_nin4, ↓x_nin2, ↓x_tupRg, ↓x_lstRg, ↓x_g_LIMIT, ↓x_g_MAX_CHOICES, ↓x_g_MAX_DEPTH, ↓x_g_MAX_ORDER, ↓x_g_MAX_TEXT, ↓x_g_TESTS, List.cons_append, List.nil_append, List.replicate_succ, List.replicate_zero, List.set_cons_zero, List.set_cons_succ, List.getElem?_cons_zero, List.getElem?_cons_succ, decide_eq_true_eq, Bool.false_eq_true, Bool.true_eq_false, ↓reduceIte, Bool.not_true, Bool.not_false, decide_true, decide_false, isTy, isTyK, kindD, PySem.sizeLine_eq, List.length_cons, List.length_nil, true_and, and_true, true_implies, Bool.not_eq_true', decide_eq_false_iff_not, Nat.reduceAdd, Nat.reduceLeDiff, Nat.reduceLT, Int.reduceAdd, Int.reduceSub, Int.reduceLT, Int.reduceLE, Int.reduceNeg, Int.reduceEq, Nat.reduceEqDiff, not_true_eq_false, not_false_eq_true]
          exact hN _ ⟨o, _, _, _, _, rfl, o1, o2, o3⟩
        · simp only [hm, decide_false, ↓x_fnD, ↓x_skip, ↓x_seq, ↓x_brk, ↓x_cnt, ↓x_exp, ↓x_ret, ↓x_retN, ↓x_ifS, ↓x_set, ↓x_asg, ↓x_own, ↓x_fLst, ↓x_tape, ↓x_C, ↓x_op, ↓x_un, ↓x_test, ↓x_and, ↓x_or, ↓x_not, ↓x_if, ↓x_dnil, ↓x_dcons, ↓x_anil, ↓x_acons, ↓x_tup, ↓x_lst, ↓x_call, ↓x_fn, ↓x_isi, ↓x_new, ↓x_gN, ↓x_yes, ↓x_for, ↓x_iData, ↓x_iRg1, ↓x_oNo, ↓x_oSome, ↓x_sl, ↓x_mD1, ↓x_mD2, ↓x_mD3, ↓x_mD4, ↓x_mD5, ↓x_mT0, ↓x_mT1, ↓x_mT2, ↓x_mT3, ↓x_mT4, ↓x_eqI, ↓x_eqS, ↓x_eqB, ↓x_eqIS, ↓x_eqSI, ↓x_eqNN, ↓x_eqNI, ↓x_eqIN, ↓x_eqNS, ↓x_eqSN, ↓x_neI, ↓x_neS, ↓x_neB, ↓x_ltI, ↓x_ltS, ↓x_leI, ↓x_leS, ↓x_gtI, ↓x_gtS, ↓x_geI, ↓x_geS, ↓x_isN, ↓x_notN, ↓x_nonN, ↓x_nonI, ↓x_nonB, ↓x_nonS, ↓x_nonT, ↓x_nonL, ↓x_addI, ↓x_addS, ↓x_addT, ↓x_addL, ↓x_subI, ↓x_negI, ↓x_mulI, ↓x_mulS, ↓x_mulL, ↓x_modI, ↓x_divI, ↓x_powI, ↓x_lenL, ↓x_lenT, ↓x_lenS, ↓x_max2, ↓x_min2, ↓x_int1I, ↓x_int1B, ↓x_listL, ↓x_listT, ↓x_listS, ↓x_itL, ↓x_itT, ↓x_itS, ↓x_ixL0, ↓x_ixT0, ↓x_ixT1, ↓x_ixL1, ↓x_ixT2, ↓x_ixL2, ↓x_ixT3, ↓x_ixT4, ↓x_ixT5, ↓x_lc, ↓x_wipe0, ↓x_wipe1, ↓x_join, ↓x_gT, ↓x_gsN, ↓x_gsC, ↓x_notV, ↓x_andV, ↓x_orV, ↓x_chain, ↓x_tape1, ↓x_v0, ↓x_st0, ↓x_ap0, ↓x_io0, ↓x_lo0, ↓x_ro0, ↓x_v1, ↓x_st1, ↓x_ap1, ↓x_io1, ↓x_lo1, ↓x_ro1, ↓x_v2, ↓x_st2, ↓x_ap2, ↓x_io2, ↓x_lo2, ↓x_ro2, ↓x_v3, ↓x_st3, ↓x_ap3, ↓x_io3, ↓x_lo3, ↓x_ro3, ↓x_v4, ↓x_st4, ↓x_ap4, ↓x_io4, ↓x_lo4, ↓x_ro4, ↓x_v5, ↓x_st5, ↓x_ap5, ↓x_io5, ↓x_lo5, ↓x_ro5, ↓x_v6, ↓x_st6, ↓x_ap6, ↓x_io6, ↓x_lo6, ↓x_ro6, ↓x_v7, ↓x_st7, ↓x_ap7, ↓x_io7, ↓x_lo7, ↓x_ro7, ↓x_v8, ↓x_st8, ↓x_ap8, ↓x_io8, ↓x_lo8, ↓x_ro8, ↓x_v9, ↓x_st9, ↓x_ap9, ↓x_io9, ↓x_lo9, ↓x_ro9, ↓x_v10, ↓x_st10, ↓x_ap10, ↓x_io10, ↓x_lo10, ↓x_ro10, ↓x_v11, ↓x_st11, ↓x_ap11, ↓x_io11, ↓x_lo11, ↓x_ro11, ↓x_v12, ↓x_v13, ↓x_v14, ↓x_v15, ↓x_ss0, ↓x_ls0, ↓x_subII, ↓x_subBB, ↓x_repr, ↓x_sw, ↓x_M1, ↓x_par, ↓x_gSt1, ↓x_gSt3, ↓x_fo0, ↓x_fd0, ↓x_po0, ↓x_pt0, ↓x_fo1, ↓x_fd1, ↓x_po1, ↓x_pt1, ↓x_fo2, ↓x_fd2, ↓x_po2, ↓x_pt2, ↓x_fo3, ↓x_fd3, ↓x_po3, ↓x_pt3, ↓x_fo4, ↓x_fd4, ↓x_po4, ↓x_pt4, ↓x_fo5, ↓x_fd5, ↓x_po5, ↓x_pt5, ↓x_fo6, ↓x_fd6, ↓x_po6, ↓x_pt6, ↓x_fo7, ↓x_fd7, ↓x_po7, ↓x_pt7, ↓x_fo8, ↓x_fd8, ↓x_po8, ↓x_pt8, ↓x_fo9, ↓x_fd9, ↓x_po9, ↓x_pt9, ↓x_fo10, ↓x_fd10, ↓x_po10, ↓x_pt10, ↓x_fo11, ↓x_fd11, ↓x_po11, ↓x_pt11, ↓x_plI, ↓x_plB, ↓x_plS, ↓x_in2, ↓x_in3, ↓x_sl1T, ↓x_sl1L, ↓x_slS, ↓x_tuL, ↓x_tuT, ↓x_enumD, ↓x_iAsc, ↓x_eq0T, ↓x_eq0L, ↓x_mulT, ↓x_pu0, ↓x_pu1, ↓x_pu2, ↓x_pu3, ↓x_pu4, ↓x_pu5, ↓x_pu6, ↓x_pu7, ↓x_pu8, ↓x_pu9, ↓x_pu10, ↓x_pu11, ↓x_isB, ↓x_isNB, ↓x_nonD, ↓x_in4, ↓x_nin4, ↓x_nin2, ↓x_tupRg, ↓x_lstRg, ↓x_g_LIMIT, ↓x_g_MAX_CHOICES, ↓x_g_MAX_DEPTH, ↓x_g_MAX_ORDER, ↓x_g_MAX_TEXT, ↓x_g_TESTS, List.cons_append, List.nil_append, List.replicate_succ, List.replicate_zero, List.set_cons_zero, List.set_cons_succ, List.getElem?_cons_zero, List.getElem?_cons_succ, decide_eq_true_eq, Bool.false_eq_true, Bool.true_eq_false, ↓reduceIte, Bool.not_true, Bool.not_false, decide_true, decide_false, isTy, isTyK, kindD, PySem.sizeLine_eq, List.length_cons, List.length_nil, true_and, and_true, true_implies, Bool.not_eq_true', decide_eq_false_iff_not, Nat.reduceAdd, Nat.reduceLeDiff, Nat.reduceLT, Int.reduceAdd, Int.reduceSub, Int.reduceLT, Int.reduceLE, Int.reduceNeg, Int.reduceEq, Nat.reduceEqDiff, not_true_eq_false, not_false_eq_true]
          refine ⟨by decide, fun p p0 p1 => ⟨by simp; omega, ?_⟩⟩
          have e1 : o.map ordD ++ [PyData.tuple [PyData.int q, PyData.bool (decide (p = 0))]] = (o ++ [(q, decide (p = 0))]).map ordD := by simp [ordD]
          rw [e1]
          refine hN _ ⟨o ++ [(q, decide (p = 0))], _, _, _, _, rfl, ?_, ?_, ?_⟩
          · rename_i h4 _
            simp at h4 ⊢
            omega
          · intro z hz
            rcases List.mem_append.mp hz with hz | hz
            · exact o2 z hz
            · rw [List.mem_singleton.mp hz]; exact hq
          · rw [List.map_append, List.nodup_append]
            refine ⟨o3, by simp, fun a ha b hb => ?_⟩
            simp at hb
            subst hb
            exact fun e => hm (e ▸ ha)
    · exact hN _ ⟨o, _, _, _, _, rfl, o1, o2, o3⟩
  · obtain ⟨o, a, b, e, f, rfl, o1, o2, o3⟩ := hω
    simp only [↓x_fnD, ↓x_skip, ↓x_seq, ↓x_brk, ↓x_cnt, ↓x_exp, ↓x_ret, ↓x_retN, ↓x_ifS, ↓x_set, ↓x_asg, ↓x_own, ↓x_fLst, ↓x_tape, ↓x_C, ↓x_op, ↓x_un, ↓x_test, ↓x_and, ↓x_or, ↓x_not, ↓x_if, ↓x_dnil, ↓x_dcons, ↓x_anil, ↓x_acons, ↓x_tup, ↓x_lst, ↓x_call, ↓x_fn, ↓x_isi, ↓x_new, ↓x_gN, ↓x_yes, ↓x_for, ↓x_iData, ↓x_iRg1, ↓x_oNo, ↓x_oSome, ↓x_sl, ↓x_mD1, ↓x_mD2, ↓x_mD3, ↓x_mD4, ↓x_mD5, ↓x_mT0, ↓x_mT1, ↓x_mT2, ↓x_mT3, ↓x_mT4, ↓x_eqI, ↓x_eqS, ↓x_eqB, ↓x_eqIS, ↓x_eqSI, ↓x_eqNN, ↓x_eqNI, ↓x_eqIN, ↓x_eqNS, ↓x_eqSN, ↓x_neI, ↓x_neS, ↓x_neB, ↓x_ltI, ↓x_ltS, ↓x_leI, ↓x_leS, ↓x_gtI, ↓x_gtS, ↓x_geI, ↓x_geS, ↓x_isN, ↓x_notN, ↓x_nonN, ↓x_nonI, ↓x_nonB, ↓x_nonS, ↓x_nonT, ↓x_nonL, ↓x_addI, ↓x_addS, ↓x_addT, ↓x_addL, ↓x_subI, ↓x_negI, ↓x_mulI, ↓x_mulS, ↓x_mulL, ↓x_modI, ↓x_divI, ↓x_powI, ↓x_lenL, ↓x_lenT, ↓x_lenS, ↓x_max2, ↓x_min2, ↓x_int1I, ↓x_int1B, ↓x_listL, ↓x_listT, ↓x_listS, ↓x_itL, ↓x_itT, ↓x_itS, ↓x_ixL0, ↓x_ixT0, ↓x_ixT1, ↓x_ixL1, ↓x_ixT2, ↓x_ixL2, ↓x_ixT3, ↓x_ixT4, ↓x_ixT5, ↓x_lc, ↓x_wipe0, ↓x_wipe1, ↓x_join, ↓x_gT, ↓x_gsN, ↓x_gsC, ↓x_notV, ↓x_andV, ↓x_orV, ↓x_chain, ↓x_tape1, ↓x_v0, ↓x_st0, ↓x_ap0, ↓x_io0, ↓x_lo0, ↓x_ro0, ↓x_v1, ↓x_st1, ↓x_ap1, ↓x_io1, ↓x_lo1, ↓x_ro1, ↓x_v2, ↓x_st2, ↓x_ap2, ↓x_io2, ↓x_lo2, ↓x_ro2, ↓x_v3, ↓x_st3, ↓x_ap3, ↓x_io3, ↓x_lo3, ↓x_ro3, ↓x_v4, ↓x_st4, ↓x_ap4, ↓x_io4, ↓x_lo4, ↓x_ro4, ↓x_v5, ↓x_st5, ↓x_ap5, ↓x_io5, ↓x_lo5, ↓x_ro5, ↓x_v6, ↓x_st6, ↓x_ap6, ↓x_io6, ↓x_lo6, ↓x_ro6, ↓x_v7, ↓x_st7, ↓x_ap7, ↓x_io7, ↓x_lo7, ↓x_ro7, ↓x_v8, ↓x_st8, ↓x_ap8, ↓x_io8, ↓x_lo8, ↓x_ro8, ↓x_v9, ↓x_st9, ↓x_ap9, ↓x_io9, ↓x_lo9, ↓x_ro9, ↓x_v10, ↓x_st10, ↓x_ap10, ↓x_io10, ↓x_lo10, ↓x_ro10, ↓x_v11, ↓x_st11, ↓x_ap11, ↓x_io11, ↓x_lo11, ↓x_ro11, ↓x_v12, ↓x_v13, ↓x_v14, ↓x_v15, ↓x_ss0, ↓x_ls0, ↓x_subII, ↓x_subBB, ↓x_repr, ↓x_sw, ↓x_M1, ↓x_par, ↓x_gSt1, ↓x_gSt3, ↓x_fo0, ↓x_fd0, ↓x_po0, ↓x_pt0, ↓x_fo1, ↓x_fd1, ↓x_po1, ↓x_pt1, ↓x_fo2, ↓x_fd2, ↓x_po2, ↓x_pt2, ↓x_fo3, ↓x_fd3, ↓x_po3, ↓x_pt3, ↓x_fo4, ↓x_fd4, ↓x_po4, ↓x_pt4, ↓x_fo5, ↓x_fd5, ↓x_po5, ↓x_pt5, ↓x_fo6, ↓x_fd6, ↓x_po6, ↓x_pt6, ↓x_fo7, ↓x_fd7, ↓x_po7, ↓x_pt7, ↓x_fo8, ↓x_fd8, ↓x_po8, ↓x_pt8, ↓x_fo9, ↓x_fd9, ↓x_po9, ↓x_pt9, ↓x_fo10, ↓x_fd10, ↓x_po10, ↓x_pt10, ↓x_fo11, ↓x_fd11, ↓x_po11, ↓x_pt11, ↓x_plI, ↓x_plB, ↓x_plS, ↓x_in2, ↓x_in3, ↓x_sl1T, ↓x_sl1L, ↓x_slS, ↓x_tuL, ↓x_tuT, ↓x_enumD, ↓x_iAsc, ↓x_eq0T, ↓x_eq0L, ↓x_mulT, ↓x_pu0, ↓x_pu1, ↓x_pu2, ↓x_pu3, ↓x_pu4, ↓x_pu5, ↓x_pu6, ↓x_pu7, ↓x_pu8, ↓x_pu9, ↓x_pu10, ↓x_pu11, ↓x_isB, ↓x_isNB, ↓x_nonD, ↓x_in4, ↓x_nin4, ↓x_nin2, ↓x_tupRg, ↓x_lstRg, ↓x_g_LIMIT, ↓x_g_MAX_CHOICES, ↓x_g_MAX_DEPTH, ↓x_g_MAX_ORDER, ↓x_g_MAX_TEXT, ↓x_g_TESTS, List.cons_append, List.nil_append, List.replicate_succ, List.replicate_zero, List.set_cons_zero, List.set_cons_succ, List.getElem?_cons_zero, List.getElem?_cons_succ, decide_eq_true_eq, Bool.false_eq_true, Bool.true_eq_false, ↓reduceIte, Bool.not_true, Bool.not_false, decide_true, decide_false, isTy, isTyK, kindD, PySem.sizeLine_eq, List.length_cons, List.length_nil, true_and, and_true, true_implies, Bool.not_eq_true', decide_eq_false_iff_not, Nat.reduceAdd, Nat.reduceLeDiff, Nat.reduceLT, Int.reduceAdd, Int.reduceSub, Int.reduceLT, Int.reduceLE, Int.reduceNeg, Int.reduceEq, Nat.reduceEqDiff, not_true_eq_false, not_false_eq_true, x_pick]
    refine ⟨by omega, by omega, by rw [range_len]; omega, ?_⟩
    refine lc_sub _ _ (fun d hd N Z hN hZ => ?_) fun xs hs => ?_
    · simp only [↓x_fnD, ↓x_skip, ↓x_seq, ↓x_brk, ↓x_cnt, ↓x_exp, ↓x_ret, ↓x_retN, ↓x_ifS, ↓x_set, ↓x_asg, ↓x_own, ↓x_fLst, ↓x_tape, ↓x_C, ↓x_op, ↓x_un, ↓x_test, ↓x_and, ↓x_or, ↓x_not, ↓x_if, ↓x_dnil, ↓x_dcons, ↓x_anil, ↓x_acons, ↓x_tup, ↓x_lst, ↓x_call, ↓x_fn, ↓x_isi, ↓x_new, ↓x_gN, ↓x_yes, ↓x_for, ↓x_iData, ↓x_iRg1, ↓x_oNo, ↓x_oSome, ↓x_sl, ↓x_mD1, ↓x_mD2, ↓x_mD3, ↓x_mD4, ↓x_mD5, ↓x_mT0, ↓x_mT1, ↓x_mT2, ↓x_mT3, ↓x_mT4, ↓x_eqI, ↓x_eqS, ↓x_eqB, ↓x_eqIS, ↓x_eqSI, ↓x_eqNN, ↓x_eqNI, ↓x_eqIN, ↓x_eqNS, ↓x_eqSN, ↓x_neI, ↓x_neS, ↓x_neB, ↓x_ltI, ↓x_ltS, ↓x_leI, ↓x_leS, ↓x_gtI, ↓x_gtS, ↓x_geI, ↓x_geS, ↓x_isN, ↓x_notN, ↓x_nonN, ↓x_nonI, ↓x_nonB, ↓x_nonS, ↓x_nonT, ↓x_nonL, ↓x_addI, ↓x_addS, ↓x_addT, ↓x_addL, ↓x_subI, ↓x_negI, ↓x_mulI, ↓x_mulS, ↓x_mulL, ↓x_modI, ↓x_divI, ↓x_powI, ↓x_lenL, ↓x_lenT, ↓x_lenS, ↓x_max2, ↓x_min2, ↓x_int1I, ↓x_int1B, ↓x_listL, ↓x_listT, ↓x_listS, ↓x_itL, ↓x_itT, ↓x_itS, ↓x_ixL0, ↓x_ixT0, ↓x_ixT1, ↓x_ixL1, ↓x_ixT2, ↓x_ixL2, ↓x_ixT3, ↓x_ixT4, ↓x_ixT5, ↓x_lc, ↓x_wipe0, ↓x_wipe1, ↓x_join, ↓x_gT, ↓x_gsN, ↓x_gsC, ↓x_notV, ↓x_andV, ↓x_orV, ↓x_chain, ↓x_tape1, ↓x_v0, ↓x_st0, ↓x_ap0, ↓x_io0, ↓x_lo0, ↓x_ro0, ↓x_v1, ↓x_st1, ↓x_ap1, ↓x_io1, ↓x_lo1, ↓x_ro1, ↓x_v2, ↓x_st2, ↓x_ap2, ↓x_io2, ↓x_lo2, ↓x_ro2, ↓x_v3, ↓x_st3, ↓x_ap3, ↓x_io3, ↓x_lo3, ↓x_ro3, ↓x_v4, ↓x_st4, ↓x_ap4, ↓x_io4, ↓x_lo4, ↓x_ro4, ↓x_v5, ↓x_st5, ↓x_ap5, ↓x_io5, ↓x_lo5, ↓x_ro5, ↓x_v6, ↓x_st6, ↓x_ap6, ↓x_io6, ↓x_lo6, ↓x_ro6, ↓x_v7, ↓x_st7, ↓x_ap7, ↓x_io7, ↓x_lo7, ↓x_ro7, ↓x_v8, ↓x_st8, ↓x_ap8, ↓x_io8, ↓x_lo8, ↓x_ro8, ↓x_v9, ↓x_st9, ↓x_ap9, ↓x_io9, ↓x_lo9, ↓x_ro9, ↓x_v10, ↓x_st10, ↓x_ap10, ↓x_io10, ↓x_lo10, ↓x_ro10, ↓x_v11, ↓x_st11, ↓x_ap11, ↓x_io11, ↓x_lo11, ↓x_ro11, ↓x_v12, ↓x_v13, ↓x_v14, ↓x_v15, ↓x_ss0, ↓x_ls0, ↓x_subII, ↓x_subBB, ↓x_repr, ↓x_sw, ↓x_M1, ↓x_par, ↓x_gSt1, ↓x_gSt3, ↓x_fo0, ↓x_fd0, ↓x_po0, ↓x_pt0, ↓x_fo1, ↓x_fd1, ↓x_po1, ↓x_pt1, ↓x_fo2, ↓x_fd2, ↓x_po2, ↓x_pt2, ↓x_fo3, ↓x_fd3, ↓x_po3, ↓x_pt3, ↓x_fo4, ↓x_fd4, ↓x_po4, ↓x_pt4, ↓x_fo5, ↓x_fd5, ↓x_po5, ↓x_pt5, ↓x_fo6, ↓x_fd6, ↓x_po6, ↓x_pt6, ↓x_fo7, ↓x_fd7, ↓x_po7, ↓x_pt7, ↓x_fo8, ↓x_fd8, ↓x_po8, ↓x_pt8, ↓x_fo9, ↓x_fd9, ↓x_po9, ↓x_pt9, ↓x_fo10, ↓x_fd10, ↓x_po10, ↓x_pt10, ↓x_fo11, ↓x_fd11, ↓x_po11, ↓x_pt11, ↓x_plI, ↓x_plB, ↓x_plS, ↓x_in2, ↓x_in3, ↓x_sl1T, ↓x_sl1L, ↓x_slS, ↓x_tuL, ↓x_tuT, ↓x_enumD, ↓x_iAsc, ↓x_eq0T, ↓x_eq0L, ↓x_mulT, ↓x_pu0, ↓x_pu1, ↓x_pu2, ↓x_pu3, ↓x_pu4, ↓x_pu5, ↓x_pu6, ↓x_pu7, ↓x_pu8, ↓x_pu9, ↓x_pu10, ↓x_pu11, ↓x_isB, ↓x_isNB, ↓x_nonD, ↓x_in4, ↓x_nin4, ↓x_nin2, ↓x_tupRg, ↓x_lstRg, ↓x_g_LIMIT, ↓x_g_MAX_CHOICES, ↓x_g_MAX_DEPTH, ↓x_g_MAX_ORDER, ↓x_g_MAX_TEXT, ↓x_g_TESTS, List.cons_append, List.nil_append, List.replicate_succ, List.replicate_zero, List.set_cons_zero, List.set_cons_succ, List.getElem?_cons_zero, List.getElem?_cons_succ, decide_eq_true_eq, Bool.false_eq_true, Bool.true_eq_false, ↓reduceIte, Bool.not_true, Bool.not_false, decide_true, decide_false, isTy, isTyK, kindD, PySem.sizeLine_eq, List.length_cons, List.length_nil, true_and, and_true, true_implies, Bool.not_eq_true', decide_eq_false_iff_not, Nat.reduceAdd, Nat.reduceLeDiff, Nat.reduceLT, Int.reduceAdd, Int.reduceSub, Int.reduceLT, Int.reduceLE, Int.reduceNeg, Int.reduceEq, Nat.reduceEqDiff, not_true_eq_false, not_false_eq_true, x_pick]
      refine ⟨by decide, fun p p0 p1 => ?_⟩
      split
      · exact hN
      · exact hZ
    · obtain ⟨cs, rfl, s1, s2, s3⟩ := sub_range hs
      simp only [↓x_fnD, ↓x_skip, ↓x_seq, ↓x_brk, ↓x_cnt, ↓x_exp, ↓x_ret, ↓x_retN, ↓x_ifS, ↓x_set, ↓x_asg, ↓x_own, ↓x_fLst, ↓x_tape, ↓x_C, ↓x_op, ↓x_un, ↓x_test, ↓x_and, ↓x_or, ↓x_not, ↓x_if, ↓x_dnil, ↓x_dcons, ↓x_anil, ↓x_acons, ↓x_tup, ↓x_lst, ↓x_call, ↓x_fn, ↓x_isi, ↓x_new, ↓x_gN, ↓x_yes, ↓x_for, ↓x_iData, ↓x_iRg1, ↓x_oNo, ↓x_oSome, ↓x_sl, ↓x_mD1, ↓x_mD2, ↓x_mD3, ↓x_mD4, ↓x_mD5, ↓x_mT0, ↓x_mT1, ↓x_mT2, ↓x_mT3, ↓x_mT4, ↓x_eqI, ↓x_eqS, ↓x_eqB, ↓x_eqIS, ↓x_eqSI, ↓x_eqNN, ↓x_eqNI, ↓x_eqIN, ↓x_eqNS, ↓x_eqSN, ↓x_neI, ↓x_neS, ↓x_neB, ↓x_ltI, ↓x_ltS, ↓x_leI, ↓x_leS, ↓x_gtI, ↓x_gtS, ↓x_geI, ↓x_geS, ↓x_isN, ↓x_notN, ↓x_nonN, ↓x_nonI, ↓x_nonB, ↓x_nonS, ↓x_nonT, ↓x_nonL, ↓x_addI, ↓x_addS, ↓x_addT, ↓x_addL, ↓x_subI, ↓x_negI, ↓x_mulI, ↓x_mulS, ↓x_mulL, ↓x_modI, ↓x_divI, ↓x_powI, ↓x_lenL, ↓x_lenT, ↓x_lenS, ↓x_max2, ↓x_min2, ↓x_int1I, ↓x_int1B, ↓x_listL, ↓x_listT, ↓x_listS, ↓x_itL, ↓x_itT, ↓x_itS, ↓x_ixL0, ↓x_ixT0, ↓x_ixT1, ↓x_ixL1, ↓x_ixT2, ↓x_ixL2, ↓x_ixT3, ↓x_ixT4, ↓x_ixT5, ↓x_lc, ↓x_wipe0, ↓x_wipe1, ↓x_join, ↓x_gT, ↓x_gsN, ↓x_gsC, ↓x_notV, ↓x_andV, ↓x_orV, ↓x_chain, ↓x_tape1, ↓x_v0, ↓x_st0, ↓x_ap0, ↓x_io0, ↓x_lo0, ↓x_ro0, ↓x_v1, ↓x_st1, ↓x_ap1, ↓x_io1, ↓x_lo1, ↓x_ro1, ↓x_v2, ↓x_st2, ↓x_ap2, ↓x_io2, ↓x_lo2, ↓x_ro2, ↓x_v3, ↓x_st3, ↓x_ap3, ↓x_io3, ↓x_lo3, ↓x_ro3, ↓x_v4, ↓x_st4, ↓x_ap4, ↓x_io4, ↓x_lo4, ↓x_ro4, ↓x_v5, ↓x_st5, ↓x_ap5, ↓x_io5, ↓x_lo5, ↓x_ro5, ↓x_v6, ↓x_st6, ↓x_ap6, ↓x_io6, ↓x_lo6, ↓x_ro6, ↓x_v7, ↓x_st7, ↓x_ap7, ↓x_io7, ↓x_lo7, ↓x_ro7, ↓x_v8, ↓x_st8, ↓x_ap8, ↓x_io8, ↓x_lo8, ↓x_ro8, ↓x_v9, ↓x_st9, ↓x_ap9, ↓x_io9, ↓x_lo9, ↓x_ro9, ↓x_v10, ↓x_st10, ↓x_ap10, ↓x_io10, ↓x_lo10, ↓x_ro10, ↓x_v11, ↓x_st11, ↓x_ap11, ↓x_io11, ↓x_lo11, ↓x_ro11, ↓x_v12, ↓x_v13, ↓x_v14, ↓x_v15, ↓x_ss0, ↓x_ls0, ↓x_subII, ↓x_subBB, ↓x_repr, ↓x_sw, ↓x_M1, ↓x_par, ↓x_gSt1, ↓x_gSt3, ↓x_fo0, ↓x_fd0, ↓x_po0, ↓x_pt0, ↓x_fo1, ↓x_fd1, ↓x_po1, ↓x_pt1, ↓x_fo2, ↓x_fd2, ↓x_po2, ↓x_pt2, ↓x_fo3, ↓x_fd3, ↓x_po3, ↓x_pt3, ↓x_fo4, ↓x_fd4, ↓x_po4, ↓x_pt4, ↓x_fo5, ↓x_fd5, ↓x_po5, ↓x_pt5, ↓x_fo6, ↓x_fd6, ↓x_po6, ↓x_pt6, ↓x_fo7, ↓x_fd7, ↓x_po7, ↓x_pt7, ↓x_fo8, ↓x_fd8, ↓x_po8, ↓x_pt8, ↓x_fo9, ↓x_fd9, ↓x_po9, ↓x_pt9, ↓x_fo10, ↓x_fd10, ↓x_po10, ↓x_pt10, ↓x_fo11, ↓x_fd11, ↓x_po11, ↓x_pt11, ↓x_plI, ↓x_plB, ↓x_plS, ↓x_in2, ↓x_in3, ↓x_sl1T, ↓x_sl1L, ↓x_slS, ↓x_tuL, ↓x_tuT, ↓x_enumD, ↓x_iAsc, ↓x_eq0T, ↓x_eq0L, ↓x_mulT, ↓x_pu0, ↓x_pu1, ↓x_pu2, ↓x_pu3, ↓x_pu4, ↓x_pu5, ↓x_pu6, ↓x_pu7, ↓x_pu8, ↓x_pu9, ↓x_pu10, ↓x_pu11, ↓x_isB, ↓x_isNB, ↓x_nonD, ↓x_in4, ↓x_nin4, ↓x_nin2, ↓x_tupRg, ↓x_lstRg, ↓x_g_LIMIT, ↓x_g_MAX_CHOICES, ↓x_g_MAX_DEPTH, ↓x_g_MAX_ORDER, ↓x_g_MAX_TEXT, ↓x_g_TESTS, List.cons_append, List.nil_append, List.replicate_succ, List.replicate_zero, List.set_cons_zero, List.set_cons_succ, List.getElem?_cons_zero, List.getElem?_cons_succ, decide_eq_true_eq, Bool.false_eq_true, Bool.true_eq_false, ↓reduceIte, Bool.not_true, Bool.not_false, decide_true, decide_false, isTy, isTyK, kindD, PySem.sizeLine_eq, List.length_cons, List.length_nil, true_and, and_true, true_implies, Bool.not_eq_true', decide_eq_false_iff_not, Nat.reduceAdd, Nat.reduceLeDiff, Nat.reduceLT, Int.reduceAdd, Int.reduceSub, Int.reduceLT, Int.reduceLE, Int.reduceNeg, Int.reduceEq, Nat.reduceEqDiff, not_true_eq_false, not_false_eq_true]
      exact h ⟨c, o, cs⟩ ⟨hc, hcd, o1, o2, o3, s2, s3, s1⟩
theorem ok_law_view (T : Txt K mg) {f : Addr} {fd : FuncData} (F : Fun K "_law_view" "_law_view" s_law_view f fd) : FnG P w K mg base 15 f fd ["tape", "width"] (spD P w K 2 (fnD b_law_view 6)) :=
  fn_okG F sc_law_view fun cdv A outer s H E hr hgd => by
    have hu := hr.units
    exact (s_cons (s_set sc_law_view.nd rfl (by first | exact Or.inl rfl | exact Or.inr rfl) (e_tup (d_cons e_str d_nil)))
      (s_cons (s_if (t_cmpD (oEq hu) (e_fnG (cal_law_pick T) hr hgd (asl 0 (a_cons e_int a_nil)) ) e_int) (s_one (s_set sc_law_view.nd rfl (by first | exact Or.inl rfl | exact Or.inr rfl) (e_fnG (cal_law_condition T 9) hr hgd (asl 0 (a_cons (ev 1) (a_cons e_int a_nil))) ))) s_nil)
      (s_cons (s_own sc_law_view.nd rfl (by first | exact Or.inl rfl | exact Or.inr rfl) (f_lst d_nil))
      (s_cons (s_for PassesOwn.never rfl (i_range1 T.b_range (e_fnG (cal_law_pick T) hr hgd (asl 0 (a_cons e_int a_nil)) )) (g_nm (vs := [4]) sc_law_view.nd rfl (by first | exact Or.inl rfl | exact Or.inr rfl) (by decide)) (s_cons (s_set sc_law_view.nd rfl (by first | exact Or.inl rfl | exact Or.inr rfl) (e_fnG (cal_law_pick T) hr hgd (asl 0 (a_cons (ev 1) a_nil)) ))
      (s_one (s_if (PW.pt (w_and (t_cmpD (oLt' hu) (e_lenOwn 3 T.b_len) e_int) (w_and1 (t_peek 3 (t_cmpD (oNotInS hr) (ev 5) (e_new (f_lc (own := [("pair", 6)]) rfl sc_law_view.nd (i_data (ev 3)) (blkOk_by (N := N_law_view) (sc := defScope s_law_view) (by decide +kernel)) (fun _ _ _ _ _ => (g_nm (vs := [6]) sc_law_view.nd rfl (by first | exact Or.inl rfl | exact Or.inr rfl) (by decide))) (fun _ _ _ _ _ => LTs.nil) (fun _ _ _ _ _ => (e_ix (ev 6) e_int))))))))) (s_one (s_app (i := 3) rfl (by first | exact Or.inl rfl | exact Or.inr (Or.inl rfl) | exact Or.inr (Or.inr rfl)) (e_tup (d_cons (ev 5) (d_cons (e_cmpD (oEq hu) (e_fnG (cal_law_pick T) hr hgd (asl 0 (a_cons e_int a_nil)) ) e_int) d_nil))))) s_nil))))
      (s_cons (s_set sc_law_view.nd rfl (by first | exact Or.inl rfl | exact Or.inr rfl) (e_cbT bTuple T.b_tuple bo_tuple (d_cons (e_new (f_lc (own := [("column", 5)]) rfl sc_law_view.nd (i_range1 T.b_range (ev 1)) (blkOk_by (N := N_law_view) (sc := defScope s_law_view) (by decide +kernel)) (fun _ _ _ _ _ => (g_nm (vs := [5]) sc_law_view.nd rfl (by first | exact Or.inl rfl | exact Or.inr rfl) (by decide))) (fun _ _ _ _ _ => (LTs.one (t_cmpD oGt (e_fnG (cal_law_pick T) hr hgd (asl 0 (a_cons e_int a_nil)) ) e_int))) (fun _ _ _ _ _ => (ev 5)))) d_nil)))
      (s_one (s_frz 3 (s_ret (e_tup (d_cons (ev 2) (d_cons (e_cbT bTuple T.b_tuple bo_tuple (d_cons (ev 3) d_nil)) (d_cons (ev 7) d_nil))))))))))))
theorem cal_law_view (T : Txt K mg) : CalG P w K mg base 15 "_law_view" (spD P w K 2 m_law_view) :=
  CalG.imp (calG_of T.f_law_view (show BindsN "_law_view" s_law_view ["tape", "width"] from fun _ _ _ _ _ _ us hl => match us, hl with | [_, _], _ => rfl) fun _ _ F => ok_law_view T F) spec_law_view
theorem sc_law_column : FnScope N_law_column ["thing", "width"] (defScope s_law_column) := ⟨rfl, rfl, rfl, by decide +kernel, rfl, by decide +kernel, by decide +kernel⟩
def b_law_column : DS := (dRet (dAndV (dIsI .int (dVar 0)) (dAndV (dNotV (dIsI .bool (dVar 0))) (dChain fLe fLt (dC (.int 0)) (dVar 0) (dVar 1)))))
abbrev m_law_column : List SV → EK → Prop := mD2 fun x y Q => ∃ w : Int, y = .int w ∧ Q (.bool (colB w x))
theorem spec_law_column (svs : List SV) (R : EK) (_ : svs.length = 2) (h : m_law_column svs R) : fnD b_law_column 0 svs R := by
  obtain ⟨x, y, rfl, w, rfl, hQ⟩ := mD2_elim h
  cases x with
  | int i =>
    have h' : R (.bool (decide (0 ≤ i) && decide (i < w))) := hQ
    simp only [b_law_column, ↓x_fnD, ↓x_skip, ↓x_seq, ↓x_brk, ↓x_cnt, ↓x_exp, ↓x_ret, ↓x_retN, ↓x_ifS, ↓x_set, ↓x_asg, ↓x_own, ↓x_fLst, ↓x_tape, ↓x_C, ↓x_op, ↓x_un, ↓x_test, ↓x_and, ↓x_or, ↓x_not, ↓x_if, ↓x_dnil, ↓x_dcons, ↓x_anil, ↓x_acons, ↓x_tup, ↓x_lst, ↓x_call, ↓x_fn, ↓x_isi, ↓x_new, ↓x_gN, ↓x_yes, ↓x_for, ↓x_iData, ↓x_iRg1, ↓x_oNo, ↓x_oSome, ↓x_sl, ↓x_mD1, ↓x_mD2, ↓x_mD3, ↓x_mD4, ↓x_mD5, ↓x_mT0, ↓x_mT1, ↓x_mT2, ↓x_mT3, ↓x_mT4, ↓x_eqI, ↓x_eqS, ↓x_eqB, ↓x_eqIS, ↓x_eqSI, ↓x_eqNN, ↓x_eqNI, ↓x_eqIN, ↓x_eqNS, ↓x_eqSN, ↓x_neI, ↓x_neS, ↓x_neB, ↓x_ltI, ↓x_ltS, ↓x_leI, ↓x_leS, ↓x_gtI, ↓x_gtS, ↓x_geI, ↓x_geS, ↓x_isN, ↓x_notN, ↓x_nonN, ↓x_nonI, ↓x_nonB, ↓x_nonS, ↓x_nonT, ↓x_nonL, ↓x_addI, ↓x_addS, ↓x_addT, ↓x_addL, ↓x_subI, ↓x_negI, ↓x_mulI, ↓x_mulS, ↓x_mulL, ↓x_modI, ↓x_divI, ↓x_powI, ↓x_lenL, ↓x_lenT, ↓x_lenS, ↓x_max2, ↓x_min2, ↓x_int1I, ↓x_int1B, ↓x_listL, ↓x_listT, ↓x_listS, ↓x_itL, ↓x_itT, ↓x_itS, ↓x_ixL0, ↓x_ixT0, ↓x_ixT1, ↓x_ixL1, ↓x_ixT2, ↓x_ixL2, ↓x_ixT3, ↓x_ixT4, ↓x_ixT5, ↓x_lc, ↓x_wipe0, ↓x_wipe1, ↓x_join, ↓x_gT, ↓x_gsN, ↓x_gsC, ↓x_notV, ↓x_andV, ↓x_orV, ↓x_chain, ↓x_tape1, ↓x_v0, ↓x_st0, ↓x_ap0, ↓x_io0, ↓x_lo0, ↓x_ro0, ↓x_v1, ↓x_st1, ↓x_ap1, ↓x_io1, ↓x_lo1, ↓x_ro1, ↓x_v2, ↓x_st2, ↓x_ap2, ↓x_io2, ↓x_lo2, ↓x_ro2, ↓x_v3, ↓x_st3, ↓x_ap3, ↓x_io3, ↓x_lo3, ↓x_ro3, ↓x_v4, ↓x_st4, ↓x_ap4, ↓x_io4, ↓x_lo4, ↓x_ro4, ↓x_v5, ↓x_st5, ↓x_ap5, ↓x_io5, ↓x_lo5, ↓x_ro5, ↓x_v6, ↓x_st6, ↓x_ap6, ↓x_io6, ↓x_lo6, ↓x_ro6, ↓x_v7, ↓x_st7, ↓x_ap7, ↓x_io7, ↓x_lo7, ↓x_ro7, ↓x_v8, ↓x_st8, ↓x_ap8, ↓x_io8, ↓x_lo8, ↓x_ro8, ↓x_v9, ↓x_st9, ↓x_ap9, ↓x_io9, ↓x_lo9, ↓x_ro9, ↓x_v10, ↓x_st10, ↓x_ap10, ↓x_io10, ↓x_lo10, ↓x_ro10, ↓x_v11, ↓x_st11, ↓x_ap11, ↓x_io11, ↓x_lo11, ↓x_ro11, ↓x_v12, ↓x_v13, ↓x_v14, ↓x_v15, ↓x_ss0, ↓x_ls0, ↓x_subII, ↓x_subBB, ↓x_repr, ↓x_sw, ↓x_M1, ↓x_par, ↓x_gSt1, ↓x_gSt3, ↓x_fo0, ↓x_fd0, ↓x_po0, ↓x_pt0, ↓x_fo1, ↓x_fd1, ↓x_po1, ↓x_pt1, ↓x_fo2, ↓x_fd2, ↓x_po2, ↓x_pt2, ↓x_fo3, ↓x_fd3, ↓x_po3, ↓x_pt3, ↓x_fo4, ↓x_fd4, ↓x_po4, ↓x_pt4, ↓x_fo5, ↓x_fd5, ↓x_po5, ↓x_pt5, ↓x_fo6, ↓x_fd6, ↓x_po6, ↓x_pt6, ↓x_fo7, ↓x_fd7, ↓x_po7, ↓x_pt7, ↓x_fo8, ↓x_fd8, ↓x_po8, ↓x_pt8, ↓x_fo9, ↓x_fd9, ↓x_po9, ↓x_pt9, ↓x_fo10, ↓x_fd10, ↓x_po10, ↓x_pt10, ↓x_fo11, ↓x_fd11, ↓x_po11, ↓x_pt11, ↓x_plI, ↓x_plB, ↓x_plS, ↓x_in2, ↓x_in3, ↓x_sl1T, ↓x_sl1L, ↓x_slS, ↓x_tuL, ↓x_tuT, ↓x_enumD, ↓x_iAsc, ↓x_eq0T, ↓x_eq0L, ↓x_mulT, ↓x_pu0, ↓x_pu1, ↓x_pu2, ↓x_pu3, ↓x_pu4, ↓x_pu5, ↓x_pu6, ↓x_pu7, ↓x_pu8, ↓x_pu9, ↓x_pu10, ↓x_pu11, ↓x_isB, ↓x_isNB, ↓x_nonD, ↓x_in4, ↓x_nin4, ↓x_nin2, ↓x_tupRg, ↓x_lstRg, ↓x_g_LIMIT, ↓x_g_MAX_CHOICES, ↓x_g_MAX_DEPTH, ↓x_g_MAX_ORDER, ↓x_g_MAX_TEXT, ↓x_g_TESTS, List.cons_append, List.nil_append, List.replicate_succ, List.replicate_zero, List.set_cons_zero, List.set_cons_succ, List.getElem?_cons_zero, List.getElem?_cons_succ, decide_eq_true_eq, Bool.false_eq_true, Bool.true_eq_false, ↓reduceIte, Bool.not_true, Bool.not_false, decide_true, decide_false, isTy, isTyK, kindD, PySem.sizeLine_eq, List.length_cons, List.length_nil, true_and, and_true, true_implies, Bool.not_eq_true', decide_eq_false_iff_not, Nat.reduceAdd, Nat.reduceLeDiff, Nat.reduceLT, Int.reduceAdd, Int.reduceSub, Int.reduceLT, Int.reduceLE, Int.reduceNeg, Int.reduceEq, Nat.reduceEqDiff, not_true_eq_false, not_false_eq_true]
    by_cases i0 : 0 ≤ i
    · rw [decide_eq_true i0] at h' ⊢
      simpa using h'
    · rw [decide_eq_false i0] at h' ⊢
      simpa using h'
  | _ =>
    simp only [b_law_column, ↓x_fnD, ↓x_skip, ↓x_seq, ↓x_brk, ↓x_cnt, ↓x_exp, ↓x_ret, ↓x_retN, ↓x_ifS, ↓x_set, ↓x_asg, ↓x_own, ↓x_fLst, ↓x_tape, ↓x_C, ↓x_op, ↓x_un, ↓x_test, ↓x_and, ↓x_or, ↓x_not, ↓x_if, ↓x_dnil, ↓x_dcons, ↓x_anil, ↓x_acons, ↓x_tup, ↓x_lst, ↓x_call, ↓x_fn, ↓x_isi, ↓x_new, ↓x_gN, ↓x_yes, ↓x_for, ↓x_iData, ↓x_iRg1, ↓x_oNo, ↓x_oSome, ↓x_sl, ↓x_mD1, ↓x_mD2, ↓x_mD3, ↓x_mD4, ↓x_mD5, ↓x_mT0, ↓x_mT1, ↓x_mT2, ↓x_mT3, ↓x_mT4, ↓x_eqI, ↓x_eqS, ↓x_eqB, ↓x_eqIS, ↓x_eqSI, ↓x_eqNN, ↓x_eqNI, ↓x_eqIN, ↓x_eqNS, ↓x_eqSN, ↓x_neI, ↓x_neS, ↓x_neB, ↓x_ltI, ↓x_ltS, ↓x_leI, ↓x_leS, ↓x_gtI, ↓x_gtS, ↓x_geI, ↓x_geS, ↓x_isN, ↓x_notN, ↓x_nonN, ↓x_nonI, ↓x_nonB, ↓x_nonS, ↓x_nonT, ↓x_nonL, ↓x_addI, ↓x_addS, ↓x_addT, ↓x_addL, ↓x_subI, ↓x_negI, ↓x_mulI, ↓x_mulS, ↓x_mulL, ↓x_modI, ↓x_divI, ↓x_powI, ↓x_lenL, ↓x_lenT, ↓x_lenS, ↓x_max2, ↓x_min2, ↓x_int1I, ↓x_int1B, ↓x_listL, ↓x_listT, ↓x_listS, ↓x_itL, ↓x_itT, ↓x_itS, ↓x_ixL0, ↓x_ixT0, ↓x_ixT1, ↓x_ixL1, ↓x_ixT2, ↓x_ixL2, ↓x_ixT3, ↓x_ixT4, ↓x_ixT5, ↓x_lc, ↓x_wipe0, ↓x_wipe1, ↓x_join, ↓x_gT, ↓x_gsN, ↓x_gsC, ↓x_notV, ↓x_andV, ↓x_orV, ↓x_chain, ↓x_tape1, ↓x_v0, ↓x_st0, ↓x_ap0, ↓x_io0, ↓x_lo0, ↓x_ro0, ↓x_v1, ↓x_st1, ↓x_ap1, ↓x_io1, ↓x_lo1, ↓x_ro1, ↓x_v2, ↓x_st2, ↓x_ap2, ↓x_io2, ↓x_lo2, ↓x_ro2, ↓x_v3, ↓x_st3, ↓x_ap3, ↓x_io3, ↓x_lo3, ↓x_ro3, ↓x_v4, ↓x_st4, ↓x_ap4, ↓x_io4, ↓x_lo4, ↓x_ro4, ↓x_v5, ↓x_st5, ↓x_ap5, ↓x_io5, ↓x_lo5, ↓x_ro5, ↓x_v6, ↓x_st6, ↓x_ap6, ↓x_io6, ↓x_lo6, ↓x_ro6, ↓x_v7, ↓x_st7, ↓x_ap7, ↓x_io7, ↓x_lo7, ↓x_ro7, ↓x_v8, ↓x_st8, ↓x_ap8, ↓x_io8, ↓x_lo8, ↓x_ro8, ↓x_v9, ↓x_st9, ↓x_ap9, ↓x_io9, ↓x_lo9, ↓x_ro9, ↓x_v10, ↓x_st10, ↓x_ap10, ↓x_io10, ↓x_lo10, ↓x_ro10, ↓x_v11, ↓x_st11, ↓x_ap11, ↓x_io11, ↓x_lo11, ↓x_ro11, ↓x_v12, ↓x_v13, ↓x_v14, ↓x_v15, ↓x_ss0, ↓x_ls0, ↓x_subII, ↓x_subBB, ↓x_repr, ↓x_sw, ↓x_M1, ↓x_par, ↓x_gSt1, ↓x_gSt3, ↓x_fo0, ↓x_fd0, ↓x_po0, ↓x_pt0, ↓x_fo1, ↓x_fd1, ↓x_po1, ↓x_pt1, ↓x_fo2, ↓x_fd2, ↓x_po2, ↓x_pt2, ↓x_fo3, ↓x_fd3, ↓x_po3, ↓x_pt3, ↓x_fo4, ↓x_fd4, ↓x_po4, ↓x_pt4, ↓x_fo5, ↓x_fd5, ↓x_po5, ↓x_pt5, ↓x_fo6, ↓x_fd6, ↓x_po6, ↓x_pt6, ↓x_fo7, ↓x_fd7, ↓x_po7, ↓x_pt7, ↓x_fo8, ↓x_fd8, ↓x_po8, ↓x_pt8, ↓x_fo9, ↓x_fd9, ↓x_po9, ↓x_pt9, ↓x_fo10, ↓x_fd10, ↓x_po10, ↓x_pt10, ↓x_fo11, ↓x_fd11, ↓x_po11, ↓x_pt11, ↓x_plI, ↓x_plB, ↓x_plS, ↓x_in2, ↓x_in3, ↓x_sl1T, ↓x_sl1L, ↓x_slS, ↓x_tuL, ↓x_tuT, ↓x_enumD, ↓x_iAsc, ↓x_eq0T, ↓x_eq0L, ↓x_mulT, ↓x_pu0, ↓x_pu1, ↓x_pu2, ↓x_pu3, ↓x_pu4, ↓x_pu5, ↓x_pu6, ↓x_pu7, ↓x_pu8, ↓x_pu9, ↓x_pu10, ↓x_pu11, ↓x_isB, ↓x_isNB, ↓x_nonD, ↓x_in4, ↓x_nin4, ↓x_nin2, ↓x_tupRg, ↓x_lstRg, ↓x_g_LIMIT, ↓x_g_MAX_CHOICES, ↓x_g_MAX_DEPTH, ↓x_g_MAX_ORDER, ↓x_g_MAX_TEXT, ↓x_g_TESTS, List.cons_append, List.nil_append, List.replicate_succ, List.replicate_zero, List.set_cons_zero, List.set_cons_succ, List.getElem?_cons_zero, List.getElem?_cons_succ, decide_eq_true_eq, Bool.false_eq_true, Bool.true_eq_false, ↓reduceIte, Bool.not_true, Bool.not_false, decide_true, decide_false, isTy, isTyK, kindD, PySem.sizeLine_eq, List.length_cons, List.length_nil, true_and, and_true, true_implies, Bool.not_eq_true', decide_eq_false_iff_not, Nat.reduceAdd, Nat.reduceLeDiff, Nat.reduceLT, Int.reduceAdd, Int.reduceSub, Int.reduceLT, Int.reduceLE, Int.reduceNeg, Int.reduceEq, Nat.reduceEqDiff, not_true_eq_false, not_false_eq_true]
    exact hQ
theorem ok_law_column (T : Txt K mg) {f : Addr} {fd : FuncData} (F : Fun K "_law_column" "_law_column" s_law_column f fd) : FnG P w K mg base 1 f fd ["thing", "width"] (spD P w K 2 (fnD b_law_column 0)) :=
  fn_okG F sc_law_column fun cdv A outer s H E hr hgd => by
    have hu := hr.units
    exact (s_one (s_ret (e_and (e_isi (T := .int) T.b_isinstance T.b_int bo_int (ev 0)) (e_and (e_not (e_isi (T := .bool) T.b_isinstance T.b_bool bo_bool (ev 0))) (e_one (e_chainD oLe (oLt' hu) e_int (ev 0) (ev 1)))))))
theorem cal_law_column (T : Txt K mg) : CalG P w K mg base 1 "_law_column" (spD P w K 2 m_law_column) :=
  CalG.imp (calG_of T.f_law_column (show BindsN "_law_column" s_law_column ["thing", "width"] from fun _ _ _ _ _ _ us hl => match us, hl with | [_, _], _ => rfl) fun _ _ F => ok_law_column T F) spec_law_column
theorem sc_law_due : FnScope N_law_due ["thing", "width"] (defScope s_law_due) := ⟨rfl, rfl, rfl, by decide +kernel, rfl, by decide +kernel, by decide +kernel⟩
def b_law_due : DS := (dSeq (dIfS (dOr (dNot (dTest (dIsI .tuple (dVar 0)))) (dOr (dTest (dOp fNe (dCall fLen (dCons (dVar 0) dNil)) (dC (.int 3)))) (dNot (dTest (dFn m_is_condition (aCons (dOp fIx (dVar 0) (dC (.int 0))) (aCons (dVar 1) aNil))))))) (dRet (dC (.bool false))) dSkip)
    (dSeq (dAsg (gT (gCons' (gN 2) (gCons' (gN 3) gNil')) 2) (dSl (dVar 0) (oSome (dC (.int 1))) oNo))
    (dSeq (dIfS (dOr (dNot (dTest (dIsI .tuple (dVar 2)))) (dOr (dTest (dOp fGt (dCall fLen (dCons (dVar 2) dNil)) (dC (.int 4)))) (dNot (dTest (dIsI .tuple (dVar 3)))))) (dRet (dC (.bool false))) dSkip)
    (dSeq (dOwn 4 (fLst dNil))
    (dSeq (dFor (iData (dVar 2)) (gN 5) (dSeq (dIfS (dOr (dNot (dTest (dIsI .tuple (dVar 5)))) (dOr (dTest (dOp fNe (dCall fLen (dCons (dVar 5) dNil)) (dC (.int 2)))) (dNot (dTest (dIsI .bool (dOp fIx (dVar 5) (dC (.int 1)))))))) (dRet (dC (.bool false))) dSkip)
    (dSeq (dIfS (dOr (dNot (dTest (dFn m_law_column (aCons (dOp fIx (dVar 5) (dC (.int 0))) (aCons (dVar 1) aNil))))) (dPeekT 4 (dTest (dOp (fInS false) (dOp fIx (dVar 5) (dC (.int 0))) (dVar 4))))) (dRet (dC (.bool false))) dSkip)
    (dApp 4 (dOp fIx (dVar 5) (dC (.int 0)))))))
    (dSeq (dIfS (dTest (dOp (fInS false) (dC (.bool false)) (dNew (fLc (iData (dVar 3)) (gN 6) dYes (dFn m_law_column (aCons (dVar 6) (aCons (dVar 1) aNil))) [6])))) (dRet (dC (.bool false))) dSkip)
    (dRet (dOp (fInS true) (dC (.bool false)) (dNew (fLc (iRg1 (dOp fSubB (dCall fLen (dCons (dVar 3) dNil)) (dC (.int 1)))) (gN 7) dYes (dOp fLt (dOp fIx (dVar 3) (dVar 7)) (dOp fIx (dVar 3) (dOp fAdd (dVar 7) (dC (.int 1))))) [7]))))))))))
/-- what the law's own reading of an order gives -/
theorem in_ints (i : Int) : ∀ l : List Int, inD (.int i) (l.map PyData.int) = decide (i ∈ l)
  | [] => by simp [inD]
  | j :: l => by
    have ih := in_ints i l
    unfold inD at ih ⊢
    rw [List.map_cons, List.any_cons, ih]
    have e : PyData.eqv (.int j) (.int i) = decide (j = i) := rfl
    rw [e]
    by_cases z : j = i
    · subst z; simp
    · have z' : ¬ i = j := fun q => z q.symm
      simp [z, z']
theorem inS_ints {neg : Bool} {i : Int} {l : List Int} {Q : EK} (h : Q (.bool (if neg then !decide (i ∈ l) else decide (i ∈ l)))) : fInS neg (.int i) (.list (l.map PyData.int)) Q := by
  refine inS_plainL rfl (by simp [List.all_map, plainD, Function.comp_def]) ?_
  rw [in_ints]
  exact h
theorem in_false (bs : List Bool) {Q : EK} (h : Q (.bool (!bs.all id))) : fInS false (.bool false) (.list (bs.map PyData.bool)) Q := by
  refine inS_plainL rfl (by simp [List.all_map, plainD, Function.comp_def]) ?_
  have e : inD (.bool false) (bs.map PyData.bool) = !(bs.all id) := by
    clear h
    induction bs with
    | nil => rfl
    | cons b bs ih =>
      unfold inD at ih ⊢
      rw [List.map_cons, List.any_cons]
      have e0 : PyData.eqv (.bool b) (.bool false) = !b := by cases b <;> decide
      rw [e0, ih, List.all_cons, Bool.not_and]
      rfl
  simpa [e] using h
/-- the pairs one by one, the columns before them known -/
def orderW (w : Int) : List Int → List D → Bool
  | _, [] => true
  | seen, p :: ps => (pairB w p && !decide (colI (fstD p) ∈ seen)) && orderW w (seen ++ [colI (fstD p)]) ps
theorem orderW_eq (w : Int) : ∀ (ps : List D) (seen : List Int), seen.Nodup → orderW w seen ps = (ps.all (pairB w) && decide (seen ++ colsOf ps).Nodup)
  | [], seen, h => by simp [orderW, colsOf, h]
  | p :: ps, seen, h => by
    unfold orderW
    by_cases e : colI (fstD p) ∈ seen
    · have n : ¬ (seen ++ colsOf (p :: ps)).Nodup := by
        intro z
        rw [List.nodup_append] at z
        exact z.2.2 _ e _ (by simp [colsOf]) rfl
      simp [e, n]
    · have h2 : (seen ++ [colI (fstD p)]).Nodup := by
        rw [List.nodup_append]
        refine ⟨h, by simp, fun a ha b hb => ?_⟩
        rw [List.mem_singleton.mp hb]
        exact fun z => e (z ▸ ha)
      rw [orderW_eq w ps _ h2]
      have ea : seen ++ [colI (fstD p)] ++ colsOf ps = seen ++ colsOf (p :: ps) := by simp [colsOf]
      rw [ea]
      simp [e, Bool.and_assoc]
theorem range_split {n : Nat} : ∀ {p r : List D} {d : D}, rangeD 0 n = p ++ d :: r → d = .int (p.length : Int) ∧ p.length < n := fun {p r d} e => by
  have h1 : (rangeD 0 n)[p.length]? = some d := by rw [e]; simp
  have h2 : p.length < n := by
    have := congrArg List.length e
    rw [range_len] at this
    simp at this
    omega
  refine ⟨?_, h2⟩
  unfold rangeD at h1
  rw [List.getElem?_map, List.getElem?_range h2] at h1
  simp at h1
  exact h1.symm
theorem ix_ints {l : List Int} {k : Nat} {Q : EK} (h : k < l.length) (q : Q (.int l[k])) : fIx (.tuple (l.map PyData.int)) (.int k) Q := by
  rw [ixT, List.getElem?_map, List.getElem?_eq_getElem h]
  exact q
/-- a comprehension whose items are booleans by their place -/
theorem lc_at {g : DG} {el : DE} {ω : List SV} {Q : List D → Prop} (f : Nat → D) : ∀ (n m : Nat) (acc : List D), (∀ k, m ≤ k → k < m + n → ∀ N : EK, N (f k) → g (.int (k : Int)) ω fun ω1 => el ω1 N) → Q (acc ++ (List.range' m n).map f) → dLcL g dYes el ω (rangeD m n) acc Q := by
  intro n m acc he hq
  have e : rangeD m n = (List.range' m n).map fun k : Nat => PyData.int (k : Int) := by
    unfold rangeD
    rw [List.range'_eq_map_range, List.map_map]
    apply List.map_congr_left
    intro a _
    simp
  rw [e]
  have gen : ∀ (ks : List Nat) (acc : List D), (∀ k ∈ ks, ∀ N : EK, N (f k) → g (.int (k : Int)) ω fun ω1 => el ω1 N) → Q (acc ++ ks.map f) → dLcL g dYes el ω (ks.map fun k : Nat => PyData.int (k : Int)) acc Q := by
    intro ks
    induction ks with
    | nil => intro acc _ h; rw [List.map_nil, List.append_nil] at h; exact h
    | cons k ks ih =>
      intro acc he h
      exact he k List.mem_cons_self _ (ih (acc ++ [f k]) (fun d hd => he d (List.mem_cons_of_mem _ hd)) (by rw [List.append_assoc]; exact h))
  exact gen _ acc (fun k hk => he k (by have := List.mem_range'_1.mp hk; omega) (by have := List.mem_range'_1.mp hk; omega)) hq
theorem asc_at : ∀ (l : List Int), ((List.range' 0 (l.length - 1)).map fun k => decide (l.getD k 0 < l.getD (k + 1) 0)).all id = ascB l
  | [] => rfl
  | [a] => rfl
  | a :: b :: l => by
    have ih := asc_at (b :: l)
    rw [show ascB (a :: b :: l) = (decide (a < b) && ascB (b :: l)) from rfl, ← ih]
    have e : (a :: b :: l).length - 1 = (b :: l).length - 1 + 1 := by simp
    rw [e, List.range'_succ, List.map_cons, List.all_cons]
    have e2 : List.range' (0 + 1) ((b :: l).length - 1) = (List.range' 0 ((b :: l).length - 1)).map (· + 1) := by
      rw [List.range'_eq_map_range, List.range'_eq_map_range, List.map_map]
      apply List.map_congr_left
      intro x _
      simp; omega
    rw [e2, List.map_map]
    rfl
def seenStep (w : Int) (seen : List Int) (p : D) : Option (List Int) := if (pairB w p && !decide (colI (fstD p) ∈ seen)) = true then some (seen ++ [colI (fstD p)]) else none
theorem run_seen (w : Int) : ∀ (ps : List D) (seen : List Int), runD (seenStep w) seen ps = if orderW w seen ps = true then some (seen ++ colsOf ps) else none
  | [], seen => by simp [runD, orderW, colsOf]
  | p :: ps, seen => by
    unfold runD orderW
    by_cases e : (pairB w p && !decide (colI (fstD p) ∈ seen)) = true
    · have es : seenStep w seen p = some (seen ++ [colI (fstD p)]) := if_pos e
      rw [es, e, Bool.true_and]
      show runD (seenStep w) _ ps = _
      rw [run_seen w ps]
      simp [colsOf]
    · have es : seenStep w seen p = none := if_neg e
      rw [es]
      have e' : (pairB w p && !decide (colI (fstD p) ∈ seen)) = false := by simpa using e
      rw [e', Bool.false_and]
      rfl
abbrev m_law_due : List SV → EK → Prop := mD2 fun x y Q => ∃ w : Int, y = .int w ∧ szD x ≤ 1000000 ∧ Q (.bool (viewB w x))
theorem spec_law_due (svs : List SV) (R : EK) (_ : svs.length = 2) (h : m_law_due svs R) : fnD b_law_due 6 svs R := by
  obtain ⟨x, y, rfl, w, rfl, hz, hQ⟩ := mD2_elim h
  cases x with
  | tuple xs =>
    have hz' : szAll xs + 3 ≤ 1000000 := hz
    have hl := well_lt (xs := xs) (by omega)
    rcases xs with _ | ⟨c, _ | ⟨o, _ | ⟨s, _ | ⟨z, xs⟩⟩⟩⟩
    · simp only [b_law_due, ↓x_fnD, ↓x_skip, ↓x_seq, ↓x_brk, ↓x_cnt, ↓x_exp, ↓x_ret, ↓x_retN, ↓x_ifS, ↓x_set, ↓x_asg, ↓x_own, ↓x_fLst, ↓x_tape, ↓x_C, ↓x_op, ↓x_un, ↓x_test, ↓x_and, ↓x_or, ↓x_not, ↓x_if, ↓x_dnil, ↓x_dcons, ↓x_anil, ↓x_acons, ↓x_tup, ↓x_lst, ↓x_call, ↓x_fn, ↓x_isi, ↓x_new, ↓x_gN, ↓x_yes, ↓x_for, ↓x_iData, ↓x_iRg1, ↓x_oNo, ↓x_oSome, ↓x_sl, ↓x_mD1, ↓x_mD2, ↓x_mD3, ↓x_mD4, ↓x_mD5, ↓x_mT0, ↓x_mT1, ↓x_mT2, ↓x_mT3, ↓x_mT4, ↓x_eqI, ↓x_eqS, ↓x_eqB, ↓x_eqIS, ↓x_eqSI, ↓x_eqNN, ↓x_eqNI, ↓x_eqIN, ↓x_eqNS, ↓x_eqSN, ↓x_neI, ↓x_neS, ↓x_neB, ↓x_ltI, ↓x_ltS, ↓x_leI, ↓x_leS, ↓x_gtI, ↓x_gtS, ↓x_geI, ↓x_geS, ↓x_isN, ↓x_notN, ↓x_nonN, ↓x_nonI, ↓x_nonB, ↓x_nonS, ↓x_nonT, ↓x_nonL, ↓x_addI, ↓x_addS, ↓x_addT, ↓x_addL, ↓x_subI, ↓x_negI, ↓x_mulI, ↓x_mulS, ↓x_mulL, ↓x_modI, ↓x_divI, ↓x_powI, ↓x_lenL, ↓x_lenT, ↓x_lenS, ↓x_max2, ↓x_min2, ↓x_int1I, ↓x_int1B, ↓x_listL, ↓x_listT, ↓x_listS, ↓x_itL, ↓x_itT, ↓x_itS, ↓x_ixL0, ↓x_ixT0, ↓x_ixT1, ↓x_ixL1, ↓x_ixT2, ↓x_ixL2, ↓x_ixT3, ↓x_ixT4, ↓x_ixT5, ↓x_lc, ↓x_wipe0, ↓x_wipe1, ↓x_join, ↓x_gT, ↓x_gsN, ↓x_gsC, ↓x_notV, ↓x_andV, ↓x_orV, ↓x_chain, ↓x_tape1, ↓x_v0, ↓x_st0, ↓x_ap0, ↓x_io0, ↓x_lo0, ↓x_ro0, ↓x_v1, ↓x_st1, ↓x_ap1, ↓x_io1, ↓x_lo1, ↓x_ro1, ↓x_v2, ↓x_st2, ↓x_ap2, ↓x_io2, ↓x_lo2, ↓x_ro2, ↓x_v3, ↓x_st3, ↓x_ap3, ↓x_io3, ↓x_lo3, ↓x_ro3, ↓x_v4, ↓x_st4, ↓x_ap4, ↓x_io4, ↓x_lo4, ↓x_ro4, ↓x_v5, ↓x_st5, ↓x_ap5, ↓x_io5, ↓x_lo5, ↓x_ro5, ↓x_v6, ↓x_st6, ↓x_ap6, ↓x_io6, ↓x_lo6, ↓x_ro6, ↓x_v7, ↓x_st7, ↓x_ap7, ↓x_io7, ↓x_lo7, ↓x_ro7, ↓x_v8, ↓x_st8, ↓x_ap8, ↓x_io8, ↓x_lo8, ↓x_ro8, ↓x_v9, ↓x_st9, ↓x_ap9, ↓x_io9, ↓x_lo9, ↓x_ro9, ↓x_v10, ↓x_st10, ↓x_ap10, ↓x_io10, ↓x_lo10, ↓x_ro10, ↓x_v11, ↓x_st11, ↓x_ap11, ↓x_io11, ↓x_lo11, ↓x_ro11, ↓x_v12, ↓x_v13, ↓x_v14, ↓x_v15, ↓x_ss0, ↓x_ls0, ↓x_subII, ↓x_subBB, ↓x_repr, ↓x_sw, ↓x_M1, ↓x_par, ↓x_gSt1, ↓x_gSt3, ↓x_fo0, ↓x_fd0, ↓x_po0, ↓x_pt0, ↓x_fo1, ↓x_fd1, ↓x_po1, ↓x_pt1, ↓x_fo2, ↓x_fd2, ↓x_po2, ↓x_pt2, ↓x_fo3, ↓x_fd3, ↓x_po3, ↓x_pt3, ↓x_fo4, ↓x_fd4, ↓x_po4, ↓x_pt4, ↓x_fo5, ↓x_fd5, ↓x_po5, ↓x_pt5, ↓x_fo6, ↓x_fd6, ↓x_po6, ↓x_pt6, ↓x_fo7, ↓x_fd7, ↓x_po7, ↓x_pt7, ↓x_fo8, ↓x_fd8, ↓x_po8, ↓x_pt8, ↓x_fo9, ↓x_fd9, ↓x_po9, ↓x_pt9, ↓x_fo10, ↓x_fd10, ↓x_po10, ↓x_pt10, ↓x_fo11, ↓x_fd11, ↓x_po11, ↓x_pt11, ↓x_plI, ↓x_plB, ↓x_plS, ↓x_in2, ↓x_in3, ↓x_sl1T, ↓x_sl1L, ↓x_slS, ↓x_tuL, ↓x_tuT, ↓x_enumD, ↓x_iAsc, ↓x_eq0T, ↓x_eq0L, ↓x_mulT, ↓x_pu0, ↓x_pu1, ↓x_pu2, ↓x_pu3, ↓x_pu4, ↓x_pu5, ↓x_pu6, ↓x_pu7, ↓x_pu8, ↓x_pu9, ↓x_pu10, ↓x_pu11, ↓x_isB, ↓x_isNB, ↓x_nonD, ↓x_in4, ↓x_nin4, ↓x_nin2, ↓x_tupRg, ↓x_lstRg, ↓x_g_LIMIT, ↓x_g_MAX_CHOICES, ↓x_g_MAX_DEPTH, ↓x_g_MAX_ORDER, ↓x_g_MAX_TEXT, ↓x_g_TESTS, List.cons_append, List.nil_append, List.replicate_succ, List.replicate_zero, List.set_cons_zero, List.set_cons_succ, List.getElem?_cons_zero, List.getElem?_cons_succ, decide_eq_true_eq, Bool.false_eq_true, Bool.true_eq_false, ↓reduceIte, Bool.not_true, Bool.not_false, decide_true, decide_false, isTy, isTyK, kindD, PySem.sizeLine_eq, List.length_cons, List.length_nil, true_and, and_true, true_implies, Bool.not_eq_true', decide_eq_false_iff_not, Nat.reduceAdd, Nat.reduceLeDiff, Nat.reduceLT, Int.reduceAdd, Int.reduceSub, Int.reduceLT, Int.reduceLE, Int.reduceNeg, Int.reduceEq, Nat.reduceEqDiff, not_true_eq_false, not_false_eq_true]
      exact hQ
    · simp only [b_law_due, ↓x_fnD, ↓x_skip, ↓x_seq, ↓x_brk, ↓x_cnt, ↓x_exp, ↓x_ret, ↓x_retN, ↓x_ifS, ↓x_set, ↓x_asg, ↓x_own, ↓x_fLst, ↓x_tape, ↓x_C, ↓x_op, ↓x_un, ↓x_test, ↓x_and, ↓x_or, ↓x_not, ↓x_if, ↓x_dnil, ↓x_dcons, ↓x_anil, ↓x_acons, ↓x_tup, ↓x_lst, ↓x_call, ↓x_fn, ↓x_isi, ↓x_new, ↓x_gN, ↓x_yes, ↓x_for, ↓x_iData, ↓x_iRg1, ↓x_oNo, ↓x_oSome, ↓x_sl, ↓x_mD1, ↓x_mD2, ↓x_mD3, ↓x_mD4, ↓x_mD5, ↓x_mT0, ↓x_mT1, ↓x_mT2, ↓x_mT3, ↓x_mT4, ↓x_eqI, ↓x_eqS, ↓x_eqB, ↓x_eqIS, ↓x_eqSI, ↓x_eqNN, ↓x_eqNI, ↓x_eqIN, ↓x_eqNS, ↓x_eqSN, ↓x_neI, ↓x_neS, ↓x_neB, ↓x_ltI, ↓x_ltS, ↓x_leI, ↓x_leS, ↓x_gtI, ↓x_gtS, ↓x_geI, ↓x_geS, ↓x_isN, ↓x_notN, ↓x_nonN, ↓x_nonI, ↓x_nonB, ↓x_nonS, ↓x_nonT, ↓x_nonL, ↓x_addI, ↓x_addS, ↓x_addT, ↓x_addL, ↓x_subI, ↓x_negI, ↓x_mulI, ↓x_mulS, ↓x_mulL, ↓x_modI, ↓x_divI, ↓x_powI, ↓x_lenL, ↓x_lenT, ↓x_lenS, ↓x_max2, ↓x_min2, ↓x_int1I, ↓x_int1B, ↓x_listL, ↓x_listT, ↓x_listS, ↓x_itL, ↓x_itT, ↓x_itS, ↓x_ixL0, ↓x_ixT0, ↓x_ixT1, ↓x_ixL1, ↓x_ixT2, ↓x_ixL2, ↓x_ixT3, ↓x_ixT4, ↓x_ixT5, ↓x_lc, ↓x_wipe0, ↓x_wipe1, ↓x_join, ↓x_gT, ↓x_gsN, ↓x_gsC, ↓x_notV, ↓x_andV, ↓x_orV, ↓x_chain, ↓x_tape1, ↓x_v0, ↓x_st0, ↓x_ap0, ↓x_io0, ↓x_lo0, ↓x_ro0, ↓x_v1, ↓x_st1, ↓x_ap1, ↓x_io1, ↓x_lo1, ↓x_ro1, ↓x_v2, ↓x_st2, ↓x_ap2, ↓x_io2, ↓x_lo2, ↓x_ro2, ↓x_v3, ↓x_st3, ↓x_ap3, ↓x_io3, ↓x_lo3, ↓x_ro3, ↓x_v4, ↓x_st4, ↓x_ap4, ↓x_io4, ↓x_lo4, ↓x_ro4, ↓x_v5, ↓x_st5, ↓x_ap5, ↓x_io5, ↓x_lo5, ↓x_ro5, ↓x_v6, ↓x_st6, ↓x_ap6, ↓x_io6, ↓x_lo6, ↓x_ro6, ↓x_v7, ↓x_st7, ↓x_ap7, ↓x_io7, ↓x_lo7, ↓x_ro7, ↓x_v8, ↓x_st8, ↓x_ap8, ↓x_io8, ↓x_lo8, ↓x_ro8, ↓x_v9, ↓x_st9, ↓x_ap9, ↓x_io9, ↓x_lo9, ↓x_ro9, ↓x_v10, ↓x_st10, ↓x_ap10, ↓x_io10, ↓x_lo10, ↓x_ro10, ↓x_v11, ↓x_st11, ↓x_ap11, ↓x_io11, ↓x_lo11, ↓x_ro11, ↓x_v12, ↓x_v13, ↓x_v14, ↓x_v15, ↓x_ss0, ↓x_ls0, ↓x_subII, ↓x_subBB, ↓x_repr, ↓x_sw, ↓x_M1, ↓x_par, ↓x_gSt1, ↓x_gSt3, ↓x_fo0, ↓x_fd0, ↓x_po0, ↓x_pt0, ↓x_fo1, ↓x_fd1, ↓x_po1, ↓x_pt1, ↓x_fo2, ↓x_fd2, ↓x_po2, ↓x_pt2, ↓x_fo3, ↓x_fd3, ↓x_po3, ↓x_pt3, ↓x_fo4, ↓x_fd4, ↓x_po4, ↓x_pt4, ↓x_fo5, ↓x_fd5, ↓x_po5, ↓x_pt5, ↓x_fo6, ↓x_fd6, ↓x_po6, ↓x_pt6, ↓x_fo7, ↓x_fd7, ↓x_po7, ↓x_pt7, ↓x_fo8, ↓x_fd8, ↓x_po8, ↓x_pt8, ↓x_fo9, ↓x_fd9, ↓x_po9, ↓x_pt9, ↓x_fo10, ↓x_fd10, ↓x_po10, ↓x_pt10, ↓x_fo11, ↓x_fd11, ↓x_po11, ↓x_pt11, ↓x_plI, ↓x_plB, ↓x_plS, ↓x_in2, ↓x_in3, ↓x_sl1T, ↓x_sl1L, ↓x_slS, ↓x_tuL, ↓x_tuT, ↓x_enumD, ↓x_iAsc, ↓x_eq0T, ↓x_eq0L, ↓x_mulT, ↓x_pu0, ↓x_pu1, ↓x_pu2, ↓x_pu3, ↓x_pu4, ↓x_pu5, ↓x_pu6, ↓x_pu7, ↓x_pu8, ↓x_pu9, ↓x_pu10, ↓x_pu11, ↓x_isB, ↓x_isNB, ↓x_nonD, ↓x_in4, ↓x_nin4, ↓x_nin2, ↓x_tupRg, ↓x_lstRg, ↓x_g_LIMIT, ↓x_g_MAX_CHOICES, ↓x_g_MAX_DEPTH, ↓x_g_MAX_ORDER, ↓x_g_MAX_TEXT, ↓x_g_TESTS, List.cons_append, List.nil_append, List.replicate_succ, List.replicate_zero, List.set_cons_zero, List.set_cons_succ, List.getElem?_cons_zero, List.getElem?_cons_succ, decide_eq_true_eq, Bool.false_eq_true, Bool.true_eq_false, ↓reduceIte, Bool.not_true, Bool.not_false, decide_true, decide_false, isTy, isTyK, kindD, PySem.sizeLine_eq, List.length_cons, List.length_nil, true_and, and_true, true_implies, Bool.not_eq_true', decide_eq_false_iff_not, Nat.reduceAdd, Nat.reduceLeDiff, Nat.reduceLT, Int.reduceAdd, Int.reduceSub, Int.reduceLT, Int.reduceLE, Int.reduceNeg, Int.reduceEq, Nat.reduceEqDiff, not_true_eq_false, not_false_eq_true]
      exact hQ
    · simp only [b_law_due, ↓x_fnD, ↓x_skip, ↓x_seq, ↓x_brk, ↓x_cnt, ↓x_exp, ↓x_ret, ↓x_retN, ↓x_ifS, ↓x_set, ↓x_asg, ↓x_own, ↓x_fLst, ↓x_tape, ↓x_C, ↓x_op, ↓x_un, ↓x_test, ↓x_and, ↓x_or, ↓x_not, ↓x_if, ↓x_dnil, ↓x_dcons, ↓x_anil, ↓x_acons, ↓x_tup, ↓x_lst, ↓x_call, ↓x_fn, ↓x_isi, ↓x_new, ↓x_gN, ↓x_yes, ↓x_for, ↓x_iData, ↓x_iRg1, ↓x_oNo, ↓x_oSome, ↓x_sl, ↓x_mD1, ↓x_mD2, ↓x_mD3, ↓x_mD4, ↓x_mD5, ↓x_mT0, ↓x_mT1, ↓x_mT2, ↓x_mT3, ↓x_mT4, ↓x_eqI, ↓x_eqS, ↓x_eqB, ↓x_eqIS, ↓x_eqSI, ↓x_eqNN, ↓x_eqNI, ↓x_eqIN, ↓x_eqNS, ↓x_eqSN, ↓x_neI, ↓x_neS, ↓x_neB, ↓x_ltI, ↓x_ltS, ↓x_leI, ↓x_leS, ↓x_gtI, ↓x_gtS, ↓x_geI, ↓x_geS, ↓x_isN, ↓x_notN, ↓x_nonN, ↓x_nonI, ↓x_nonB, ↓x_nonS, ↓x_nonT, ↓x_nonL, ↓x_addI, ↓x_addS, ↓x_addT, ↓x_addL, ↓x_subI, ↓x_negI, ↓x_mulI, ↓x_mulS, ↓x_mulL, ↓x_modI, ↓x_divI, ↓x_powI, ↓x_lenL, ↓x_lenT, ↓x_lenS, ↓x_max2, ↓x_min2, ↓x_int1I, ↓x_int1B, ↓x_listL, ↓x_listT, ↓x_listS, ↓x_itL, ↓x_itT, ↓x_itS, ↓x_ixL0, ↓x_ixT0, ↓x_ixT1, ↓x_ixL1, ↓x_ixT2, ↓x_ixL2, ↓x_ixT3, ↓x_ixT4, ↓x_ixT5, ↓x_lc, ↓x_wipe0, ↓x_wipe1, ↓x_join, ↓x_gT, ↓x_gsN, ↓x_gsC, ↓x_notV, ↓x_andV, ↓x_orV, ↓x_chain, ↓x_tape1, ↓x_v0, ↓x_st0, ↓x_ap0, ↓x_io0, ↓x_lo0, ↓x_ro0, ↓x_v1, ↓x_st1, ↓x_ap1, ↓x_io1, ↓x_lo1, ↓x_ro1, ↓x_v2, ↓x_st2, ↓x_ap2, ↓x_io2, ↓x_lo2, ↓x_ro2, ↓x_v3, ↓x_st3, ↓x_ap3, ↓x_io3, ↓x_lo3, ↓x_ro3, ↓x_v4, ↓x_st4, ↓x_ap4, ↓x_io4, ↓x_lo4, ↓x_ro4, ↓x_v5, ↓x_st5, ↓x_ap5, ↓x_io5, ↓x_lo5, ↓x_ro5, ↓x_v6, ↓x_st6, ↓x_ap6, ↓x_io6, ↓x_lo6, ↓x_ro6, ↓x_v7, ↓x_st7, ↓x_ap7, ↓x_io7, ↓x_lo7, ↓x_ro7, ↓x_v8, ↓x_st8, ↓x_ap8, ↓x_io8, ↓x_lo8, ↓x_ro8, ↓x_v9, ↓x_st9, ↓x_ap9, ↓x_io9, ↓x_lo9, ↓x_ro9, ↓x_v10, ↓x_st10, ↓x_ap10, ↓x_io10, ↓x_lo10, ↓x_ro10, ↓x_v11, ↓x_st11, ↓x_ap11, ↓x_io11, ↓x_lo11, ↓x_ro11, ↓x_v12, ↓x_v13, ↓x_v14, ↓x_v15, ↓x_ss0, ↓x_ls0, ↓x_subII, ↓x_subBB, ↓x_repr, ↓x_sw, ↓x_M1, ↓x_par, ↓x_gSt1, ↓x_gSt3, ↓x_fo0, ↓x_fd0, ↓x_po0, ↓x_pt0, ↓x_fo1, ↓x_fd1, ↓x_po1, ↓x_pt1, ↓x_fo2, ↓x_fd2, ↓x_po2, ↓x_pt2, ↓x_fo3, ↓x_fd3, ↓x_po3, ↓x_pt3, ↓x_fo4, ↓x_fd4, ↓x_po4, ↓x_pt4, ↓x_fo5, ↓x_fd5, ↓x_po5, ↓x_pt5, ↓x_fo6, ↓x_fd6, ↓x_po6, ↓x_pt6, ↓x_fo7, ↓x_fd7, ↓x_po7, ↓x_pt7, ↓x_fo8, ↓x_fd8, ↓x_po8, ↓x_pt8, ↓x_fo9, ↓x_fd9, ↓x_po9, ↓x_pt9, ↓x_fo10, ↓x_fd10, ↓x_po10, ↓x_pt10, ↓x_fo11, ↓x_fd11, ↓x_po11, ↓x_pt11, ↓x_plI, ↓x_plB, ↓x_plS, ↓x_in2, ↓x_in3, ↓x_sl1T, ↓x_sl1L, ↓x_slS, ↓x_tuL, ↓x_tuT, ↓x_enumD, ↓x_iAsc, ↓x_eq0T, ↓x_eq0L, ↓x_mulT, ↓x_pu0, ↓x_pu1, ↓x_pu2, ↓x_pu3, ↓x_pu4, ↓x_pu5, ↓x_pu6, ↓x_pu7, ↓x_pu8, ↓x_pu9, ↓x_pu10, ↓x_pu11, ↓x_isB, ↓x_isNB, ↓x_nonD, ↓x_in4, ↓x_nin4, ↓x_nin2, ↓x_tupRg, ↓x_lstRg, ↓x_g_LIMIT, ↓x_g_MAX_CHOICES, ↓x_g_MAX_DEPTH, ↓x_g_MAX_ORDER, ↓x_g_MAX_TEXT, ↓x_g_TESTS, List.cons_append, List.nil_append, List.replicate_succ, List.replicate_zero, List.set_cons_zero, List.set_cons_succ, List.getElem?_cons_zero, List.getElem?_cons_succ, decide_eq_true_eq, Bool.false_eq_true, Bool.true_eq_false, ↓reduceIte, Bool.not_true, Bool.not_false, decide_true, decide_false, isTy, isTyK, kindD, PySem.sizeLine_eq, List.length_cons, List.length_nil, true_and, and_true, true_implies, Bool.not_eq_true', decide_eq_false_iff_not, Nat.reduceAdd, Nat.reduceLeDiff, Nat.reduceLT, Int.reduceAdd, Int.reduceSub, Int.reduceLT, Int.reduceLE, Int.reduceNeg, Int.reduceEq, Nat.reduceEqDiff, not_true_eq_false, not_false_eq_true]
      exact hQ
    · have h' : R (.bool (withinB w 8 c && (orderB w o && shownB w s))) := hQ
      simp only [szAll] at hz'
      simp only [b_law_due, ↓x_fnD, ↓x_skip, ↓x_seq, ↓x_brk, ↓x_cnt, ↓x_exp, ↓x_ret, ↓x_retN, ↓x_ifS, ↓x_set, ↓x_asg, ↓x_own, ↓x_fLst, ↓x_tape, ↓x_C, ↓x_op, ↓x_un, ↓x_test, ↓x_and, ↓x_or, ↓x_not, ↓x_if, ↓x_dnil, ↓x_dcons, ↓x_anil, ↓x_acons, ↓x_tup, ↓x_lst, ↓x_call, ↓x_fn, ↓x_isi, ↓x_new, ↓x_gN, ↓x_yes, ↓x_for, ↓x_iData, ↓x_iRg1, ↓x_oNo, ↓x_oSome, ↓x_sl, ↓x_mD1, ↓x_mD2, ↓x_mD3, ↓x_mD4, ↓x_mD5, ↓x_mT0, ↓x_mT1, ↓x_mT2, ↓x_mT3, ↓x_mT4, ↓x_eqI, ↓x_eqS, ↓x_eqB, ↓x_eqIS, ↓x_eqSI, ↓x_eqNN, ↓x_eqNI, ↓x_eqIN, ↓x_eqNS, ↓x_eqSN, ↓x_neI, ↓x_neS, ↓x_neB, ↓x_ltI, ↓x_ltS, ↓x_leI, ↓x_leS, ↓x_gtI, ↓x_gtS, ↓x_geI, ↓x_geS, ↓x_isN, ↓x_notN, ↓x_nonN, ↓x_nonI, ↓x_nonB, ↓x_nonS, ↓x_nonT, ↓x_nonL, ↓x_addI, ↓x_addS, ↓x_addT, ↓x_addL, ↓x_subI, ↓x_negI, ↓x_mulI, ↓x_mulS, ↓x_mulL, ↓x_modI, ↓x_divI, ↓x_powI, ↓x_lenL, ↓x_lenT, ↓x_lenS, ↓x_max2, ↓x_min2, ↓x_int1I, ↓x_int1B, ↓x_listL, ↓x_listT, ↓x_listS, ↓x_itL, ↓x_itT, ↓x_itS, ↓x_ixL0, ↓x_ixT0, ↓x_ixT1, ↓x_ixL1, ↓x_ixT2, ↓x_ixL2, ↓x_ixT3, ↓x_ixT4, ↓x_ixT5, ↓x_lc, ↓x_wipe0, ↓x_wipe1, ↓x_join, ↓x_gT, ↓x_gsN, ↓x_gsC, ↓x_notV, ↓x_andV, ↓x_orV, ↓x_chain, ↓x_tape1, ↓x_v0, ↓x_st0, ↓x_ap0, ↓x_io0, ↓x_lo0, ↓x_ro0, ↓x_v1, ↓x_st1, ↓x_ap1, ↓x_io1, ↓x_lo1, ↓x_ro1, ↓x_v2, ↓x_st2, ↓x_ap2, ↓x_io2, ↓x_lo2, ↓x_ro2, ↓x_v3, ↓x_st3, ↓x_ap3, ↓x_io3, ↓x_lo3, ↓x_ro3, ↓x_v4, ↓x_st4, ↓x_ap4, ↓x_io4, ↓x_lo4, ↓x_ro4, ↓x_v5, ↓x_st5, ↓x_ap5, ↓x_io5, ↓x_lo5, ↓x_ro5, ↓x_v6, ↓x_st6, ↓x_ap6, ↓x_io6, ↓x_lo6, ↓x_ro6, ↓x_v7, ↓x_st7, ↓x_ap7, ↓x_io7, ↓x_lo7, ↓x_ro7, ↓x_v8, ↓x_st8, ↓x_ap8, ↓x_io8, ↓x_lo8, ↓x_ro8, ↓x_v9, ↓x_st9, ↓x_ap9, ↓x_io9, ↓x_lo9, ↓x_ro9, ↓x_v10, ↓x_st10, ↓x_ap10, ↓x_io10, ↓x_lo10, ↓x_ro10, ↓x_v11, ↓x_st11, ↓x_ap11, ↓x_io11, ↓x_lo11, ↓x_ro11, ↓x_v12, ↓x_v13, ↓x_v14, ↓x_v15, ↓x_ss0, ↓x_ls0, ↓x_subII, ↓x_subBB, ↓x_repr, ↓x_sw, ↓x_M1, ↓x_par, ↓x_gSt1, ↓x_gSt3, ↓x_fo0, ↓x_fd0, ↓x_po0, ↓x_pt0, ↓x_fo1, ↓x_fd1, ↓x_po1, ↓x_pt1, ↓x_fo2, ↓x_fd2, ↓x_po2, ↓x_pt2, ↓x_fo3, ↓x_fd3, ↓x_po3, ↓x_pt3, ↓x_fo4, ↓x_fd4, ↓x_po4, ↓x_pt4, ↓x_fo5, ↓x_fd5, ↓x_po5, ↓x_pt5, ↓x_fo6, ↓x_fd6, ↓x_po6, ↓x_pt6, ↓x_fo7, ↓x_fd7, ↓x_po7, ↓x_pt7, ↓x_fo8, ↓x_fd8, ↓x_po8, ↓x_pt8, ↓x_fo9, ↓x_fd9, ↓x_po9, ↓x_pt9, ↓x_fo10, ↓x_fd10, ↓x_po10, ↓x_pt10, ↓x_fo11, ↓x_fd11, ↓x_po11, ↓x_pt11, ↓x_plI, ↓x_plB, ↓x_plS, ↓x_in2, ↓x_in3, ↓x_sl1T, ↓x_sl1L, ↓x_slS, ↓x_tuL, ↓x_tuT, ↓x_enumD, ↓x_iAsc, ↓x_eq0T, ↓x_eq0L, ↓x_mulT, ↓x_pu0, ↓x_pu1, ↓x_pu2, ↓x_pu3, ↓x_pu4, ↓x_pu5, ↓x_pu6, ↓x_pu7, ↓x_pu8, ↓x_pu9, ↓x_pu10, ↓x_pu11, ↓x_isB, ↓x_isNB, ↓x_nonD, ↓x_in4, ↓x_nin4, ↓x_nin2, ↓x_tupRg, ↓x_lstRg, ↓x_g_LIMIT, ↓x_g_MAX_CHOICES, ↓x_g_MAX_DEPTH, ↓x_g_MAX_ORDER, ↓x_g_MAX_TEXT, ↓x_g_TESTS, List.cons_append, List.nil_append, List.replicate_succ, List.replicate_zero, List.set_cons_zero, List.set_cons_succ, List.getElem?_cons_zero, List.getElem?_cons_succ, decide_eq_true_eq, Bool.false_eq_true, Bool.true_eq_false, ↓reduceIte, Bool.not_true, Bool.not_false, decide_true, decide_false, isTy, isTyK, kindD, PySem.sizeLine_eq, List.length_cons, List.length_nil, true_and, and_true, true_implies, Bool.not_eq_true', decide_eq_false_iff_not, Nat.reduceAdd, Nat.reduceLeDiff, Nat.reduceLT, Int.reduceAdd, Int.reduceSub, Int.reduceLT, Int.reduceLE, Int.reduceNeg, Int.reduceEq, Nat.reduceEqDiff, not_true_eq_false, not_false_eq_true]
      refine ⟨w, rfl, by omega, ?_⟩
      cases e : withinB w 8 c <;> rw [e] at h'
      · exact h'
      rw [Bool.true_and] at h'
      cases o with
      | tuple os =>
        have h2 : R (.bool ((decide (os.length ≤ 4) && (os.all (pairB w) && decide (colsOf os).Nodup)) && shownB w s)) := h'
        have hzo : szAll os + 3 + 2 ≤ 1000000 := by simp only [szD] at hz'; omega
        simp only [↓x_fnD, ↓x_skip, ↓x_seq, ↓x_brk, ↓x_cnt, ↓x_exp, ↓x_ret, ↓x_retN, ↓x_ifS, ↓x_set, ↓x_asg, ↓x_own, ↓x_fLst, ↓x_tape, ↓x_C, ↓x_op, ↓x_un, ↓x_test, ↓x_and, ↓x_or, ↓x_not, ↓x_if, ↓x_dnil, ↓x_dcons, ↓x_anil, ↓x_acons, ↓x_tup, ↓x_lst, ↓x_call, ↓x_fn, ↓x_isi, ↓x_new, ↓x_gN, ↓x_yes, ↓x_for, ↓x_iData, ↓x_iRg1, ↓x_oNo, ↓x_oSome, ↓x_sl, ↓x_mD1, ↓x_mD2, ↓x_mD3, ↓x_mD4, ↓x_mD5, ↓x_mT0, ↓x_mT1, ↓x_mT2, ↓x_mT3, ↓x_mT4, ↓x_eqI, ↓x_eqS, ↓x_eqB, ↓x_eqIS, ↓x_eqSI, ↓x_eqNN, ↓x_eqNI, ↓x_eqIN, ↓x_eqNS, ↓x_eqSN, ↓x_neI, ↓x_neS, ↓x_neB, ↓x_ltI, ↓x_ltS, ↓x_leI, ↓x_leS, ↓x_gtI, ↓x_gtS, ↓x_geI, ↓x_geS, ↓x_isN, ↓x_notN, ↓x_nonN, ↓x_nonI, ↓x_nonB, ↓x_nonS, ↓x_nonT, ↓x_nonL, ↓x_addI, ↓x_addS, ↓x_addT, ↓x_addL, ↓x_subI, ↓x_negI, ↓x_mulI, ↓x_mulS, ↓x_mulL, ↓x_modI, ↓x_divI, ↓x_powI, ↓x_lenL, ↓x_lenT, ↓x_lenS, ↓x_max2, ↓x_min2, ↓x_int1I, ↓x_int1B, ↓x_listL, ↓x_listT, ↓x_listS, ↓x_itL, ↓x_itT, ↓x_itS, ↓x_ixL0, ↓x_ixT0, ↓x_ixT1, ↓x_ixL1, ↓x_ixT2, ↓x_ixL2, ↓x_ixT3, ↓x_ixT4, ↓x_ixT5, ↓x_lc, ↓x_wipe0, ↓x_wipe1, ↓x_join, ↓x_gT, ↓x_gsN, ↓x_gsC, ↓x_notV, ↓x_andV, ↓x_orV, ↓x_chain, ↓x_tape1, ↓x_v0, ↓x_st0, ↓x_ap0, ↓x_io0, ↓x_lo0, ↓x_ro0, ↓x_v1, ↓x_st1, ↓x_ap1, ↓x_io1, ↓x_lo1, ↓x_ro1, ↓x_v2, ↓x_st2, ↓x_ap2, ↓x_io2, ↓x_lo2, ↓x_ro2, ↓x_v3, ↓x_st3, ↓x_ap3, ↓x_io3, ↓x_lo3, ↓x_ro3, ↓x_v4, ↓x_st4, ↓x_ap4, ↓x_io4, ↓x_lo4, ↓x_ro4, ↓x_v5, ↓x_st5, ↓x_ap5, ↓x_io5, ↓x_lo5, ↓x_ro5, ↓x_v6, ↓x_st6, ↓x_ap6, ↓x_io6, ↓x_lo6, ↓x_ro6, ↓x_v7, ↓x_st7, ↓x_ap7, ↓x_io7, ↓x_lo7, ↓x_ro7, ↓x_v8, ↓x_st8, ↓x_ap8, ↓x_io8, ↓x_lo8, ↓x_ro8, ↓x_v9, ↓x_st9, ↓x_ap9, ↓x_io9, ↓x_lo9, ↓x_ro9, ↓x_v10, ↓x_st10, ↓x_ap10, ↓x_io10, ↓x_lo10, ↓x_ro10, ↓x_v11, ↓x_st11, ↓x_ap11, ↓x_io11, ↓x_lo11, ↓x_ro11, ↓x_v12, ↓x_v13, ↓x_v14, ↓x_v15, ↓x_ss0, ↓x_ls0, ↓x_subII, ↓x_subBB, ↓x_repr, ↓x_sw, ↓x_M1, ↓x_par, ↓x_gSt1, ↓x_gSt3, ↓x_fo0, ↓x_fd0, ↓x_po0, ↓x_pt0, ↓x_fo1, ↓x_fd1, ↓x_po1, ↓x_pt1, ↓x_fo2, ↓x_fd2, ↓x_po2, ↓x_pt2, ↓x_fo3, ↓x_fd3, ↓x_po3, ↓x_pt3, ↓x_fo4, ↓x_fd4, ↓x_po4, ↓x_pt4, ↓x_fo5, ↓x_fd5, ↓x_po5, ↓x_pt5, ↓x_fo6, ↓x_fd6, ↓x_po6, ↓x_pt6, ↓x_fo7, ↓x_fd7, ↓x_po7, ↓x_pt7, ↓x_fo8, ↓x_fd8, ↓x_po8, ↓x_pt8, ↓x_fo9, ↓x_fd9, ↓x_po9, ↓x_pt9, ↓x_fo10, ↓x_fd10, ↓x_po10, ↓x_pt10, ↓x_fo11, ↓x_fd11, ↓x_po11, ↓x_pt11, ↓x_plI, ↓x_plB, ↓x_plS, ↓x_in2, ↓x_in3, ↓x_sl1T, ↓x_sl1L, ↓x_slS, ↓x_tuL, ↓x_tuT, ↓x_enumD, ↓x_iAsc, ↓x_eq0T, ↓x_eq0L, ↓x_mulT, ↓x_pu0, ↓x_pu1, ↓x_pu2, ↓x_pu3, ↓x_pu4, ↓x_pu5, ↓x_pu6, ↓x_pu7, ↓x_pu8, ↓x_pu9, ↓x_pu10, ↓x_pu11, ↓x_isB, ↓x_isNB, ↓x_nonD, ↓x_in4, ↓x_nin4, ↓x_nin2, ↓x_tupRg, ↓x_lstRg, ↓x_g_LIMIT, ↓x_g_MAX_CHOICES, ↓x_g_MAX_DEPTH, ↓x_g_MAX_ORDER, ↓x_g_MAX_TEXT, ↓x_g_TESTS, List.cons_append, List.nil_append, List.replicate_succ, List.replicate_zero, List.set_cons_zero, List.set_cons_succ, List.getElem?_cons_zero, List.getElem?_cons_succ, decide_eq_true_eq, Bool.false_eq_true, Bool.true_eq_false, ↓reduceIte, Bool.not_true, Bool.not_false, decide_true, decide_false, isTy, isTyK, kindD, PySem.sizeLine_eq, List.length_cons, List.length_nil, true_and, and_true, true_implies, Bool.not_eq_true', decide_eq_false_iff_not, Nat.reduceAdd, Nat.reduceLeDiff, Nat.reduceLT, Int.reduceAdd, Int.reduceSub, Int.reduceLT, Int.reduceLE, Int.reduceNeg, Int.reduceEq, Nat.reduceEqDiff, not_true_eq_false, not_false_eq_true]
        by_cases e4 : os.length ≤ 4
        · have e5 : ¬ (4 : Int) < (os.length : Int) := by omega
          rw [decide_eq_true e4, Bool.true_and, ← List.nil_append (colsOf os), ← orderW_eq w os [] List.nodup_nil] at h2
          simp only [e5, ↓x_fnD, ↓x_skip, ↓x_seq, ↓x_brk, ↓x_cnt, ↓x_exp, ↓x_ret, ↓x_retN, ↓x_ifS, ↓x_set, ↓x_asg, ↓x_own, ↓x_fLst, ↓x_tape, ↓x_C, ↓x_op, ↓x_un, ↓x_test, ↓x_and, ↓x_or, ↓x_not, ↓x_if, ↓x_dnil, ↓x_dcons, ↓x_anil, ↓x_acons, ↓x_tup, ↓x_lst, ↓x_call, ↓x_fn, ↓x_isi, ↓x_new, ↓x_gN, ↓x_yes, ↓x_for, ↓x_iData, ↓x_iRg1, ↓x_oNo, ↓x_oSome, ↓x_sl, ↓x_mD1, ↓x_mD2, ↓x_mD3, ↓x_mD4, ↓x_mD5, ↓x_mT0, ↓x_mT1, ↓x_mT2, ↓x_mT3, ↓x_mT4, ↓x_eqI, ↓x_eqS, ↓x_eqB, ↓x_eqIS, ↓x_eqSI, ↓x_eqNN, ↓x_eqNI, ↓x_eqIN, ↓x_eqNS, ↓x_eqSN, ↓x_neI, ↓x_neS, ↓x_neB, ↓x_ltI, ↓x_ltS, ↓x_leI, ↓x_leS, ↓x_gtI, ↓x_gtS, ↓x_geI, ↓x_geS, ↓x_isN, ↓x_notN, ↓x_nonN, ↓x_nonI, ↓x_nonB, ↓x_nonS, ↓x_nonT, ↓x_nonL, ↓x_addI, ↓x_addS, ↓x_addT, ↓x_addL, ↓x_subI, ↓x_negI, ↓x_mulI, ↓x_mulS, ↓x_mulL, ↓x_modI, ↓x_divI, ↓x_powI, ↓x_lenL, ↓x_lenT, ↓x_lenS, ↓x_max2, ↓x_min2, ↓x_int1I, ↓x_int1B, ↓x_listL, ↓x_listT, ↓x_listS, ↓x_itL, ↓x_itT, ↓x_itS, ↓x_ixL0, ↓x_ixT0, ↓x_ixT1, ↓x_ixL1, ↓x_ixT2, ↓x_ixL2, ↓x_ixT3, ↓x_ixT4, ↓x_ixT5, ↓x_lc, ↓x_wipe0, ↓x_wipe1, ↓x_join, ↓x_gT, ↓x_gsN, ↓x_gsC, ↓x_notV, ↓x_andV, ↓x_orV, ↓x_chain, ↓x_tape1, ↓x_v0, ↓x_st0, ↓x_ap0, ↓x_io0, ↓x_lo0, ↓x_ro0, ↓x_v1, ↓x_st1, ↓x_ap1, ↓x_io1, ↓x_lo1, ↓x_ro1, ↓x_v2, ↓x_st2, ↓x_ap2, ↓x_io2, ↓x_lo2, ↓x_ro2, ↓x_v3, ↓x_st3, ↓x_ap3, ↓x_io3, ↓x_lo3, ↓x_ro3, ↓x_v4, ↓x_st4, ↓x_ap4, ↓x_io4, ↓x_lo4, ↓x_ro4, ↓x_v5, ↓x_st5, ↓x_ap5, ↓x_io5, ↓x_lo5, ↓x_ro5, ↓x_v6, ↓x_st6, ↓x_ap6, ↓x_io6, ↓x_lo6, ↓x_ro6, ↓x_v7, ↓x_st7, ↓x_ap7, ↓x_io7, ↓x_lo7, ↓x_ro7, ↓x_v8, ↓x_st8, ↓x_ap8, ↓x_io8, ↓x_lo8, ↓x_ro8, ↓x_v9, ↓x_st9, ↓x_ap9, ↓x_io9, ↓x_lo9, ↓x_ro9, ↓x_v10, ↓x_st10, ↓x_ap10, ↓x_io10, ↓x_lo10, ↓x_ro10, ↓x_v11, ↓x_st11, ↓x_ap11, ↓x_io11, ↓x_lo11, ↓x_ro11, ↓x_v12, ↓x_v13, ↓x_v14, ↓x_v15, ↓x_ss0, ↓x_ls0, ↓x_subII, ↓x_subBB, ↓x_repr, ↓x_sw, ↓x_M1, ↓x_par, ↓x_gSt1, ↓x_gSt3, ↓x_fo0, ↓x_fd0, ↓x_po0, ↓x_pt0, ↓x_fo1, ↓x_fd1, ↓x_po1, ↓x_pt1, ↓x_fo2, ↓x_fd2, ↓x_po2, ↓x_pt2, ↓x_fo3, ↓x_fd3, ↓x_po3, ↓x_pt3, ↓x_fo4, ↓x_fd4, ↓x_po4, ↓x_pt4, ↓x_fo5, ↓x_fd5, ↓x_po5, ↓x_pt5, ↓x_fo6, ↓x_fd6, ↓x_po6, ↓x_pt6, ↓x_fo7, ↓x_fd7, ↓x_po7, ↓x_pt7, ↓x_fo8, ↓x_fd8, ↓x_po8, ↓x_pt8, ↓x_fo9, ↓x_fd9, ↓x_po9, ↓x_pt9, ↓x_fo10, ↓x_fd10, ↓x_po10, ↓x_pt10, ↓x_fo11, ↓x_fd11, ↓x_po11, ↓x_pt11, ↓x_plI, ↓x_plB, ↓x_plS, ↓x_in2, ↓x_in3, ↓x_sl1T, ↓x_sl1L, ↓x_slS, ↓x_tuL, ↓x_tuT, ↓x_enumD, ↓x_iAsc, ↓x_eq0T, ↓x_eq0L, ↓x_mulT, ↓x_pu0, ↓x_pu1, ↓x_pu2, ↓x_pu3, ↓x_pu4, ↓x_pu5, ↓x_pu6, ↓x_pu7, ↓x_pu8, ↓x_pu9, ↓x_pu10, ↓x_pu11, ↓x_isB, ↓x_isNB, ↓x_nonD, ↓x_in4, ↓x_nin4, ↓x_nin2, ↓x_tupRg, ↓x_lstRg, ↓x_g_LIMIT, ↓x_g_MAX_CHOICES, ↓x_g_MAX_DEPTH, ↓x_g_MAX_ORDER, ↓x_g_MAX_TEXT, ↓x_g_TESTS, List.cons_append, List.nil_append, List.replicate_succ, List.replicate_zero, List.set_cons_zero, List.set_cons_succ, List.getElem?_cons_zero, List.getElem?_cons_succ, decide_eq_true_eq, Bool.false_eq_true, Bool.true_eq_false, ↓reduceIte, Bool.not_true, Bool.not_false, decide_true, decide_false, isTy, isTyK, kindD, PySem.sizeLine_eq, List.length_cons, List.length_nil, true_and, and_true, true_implies, Bool.not_eq_true', decide_eq_false_iff_not, Nat.reduceAdd, Nat.reduceLeDiff, Nat.reduceLT, Int.reduceAdd, Int.reduceSub, Int.reduceLT, Int.reduceLE, Int.reduceNeg, Int.reduceEq, Nat.reduceEqDiff, not_true_eq_false, not_false_eq_true]
          cases s with
          | tuple ss =>
            simp only [↓x_fnD, ↓x_skip, ↓x_seq, ↓x_brk, ↓x_cnt, ↓x_exp, ↓x_ret, ↓x_retN, ↓x_ifS, ↓x_set, ↓x_asg, ↓x_own, ↓x_fLst, ↓x_tape, ↓x_C, ↓x_op, ↓x_un, ↓x_test, ↓x_and, ↓x_or, ↓x_not, ↓x_if, ↓x_dnil, ↓x_dcons, ↓x_anil, ↓x_acons, ↓x_tup, ↓x_lst, ↓x_call, ↓x_fn, ↓x_isi, ↓x_new, ↓x_gN, ↓x_yes, ↓x_for, ↓x_iData, ↓x_iRg1, ↓x_oNo, ↓x_oSome, ↓x_sl, ↓x_mD1, ↓x_mD2, ↓x_mD3, ↓x_mD4, ↓x_mD5, ↓x_mT0, ↓x_mT1, ↓x_mT2, ↓x_mT3, ↓x_mT4, ↓x_eqI, ↓x_eqS, ↓x_eqB, ↓x_eqIS, ↓x_eqSI, ↓x_eqNN, ↓x_eqNI, ↓x_eqIN, ↓x_eqNS, ↓x_eqSN, ↓x_neI, ↓x_neS, ↓x_neB, ↓x_ltI, ↓x_ltS, ↓x_leI, ↓x_leS, ↓x_gtI, ↓x_gtS, ↓x_geI, ↓x_geS, ↓x_isN, ↓x_notN, ↓x_nonN, ↓x_nonI, ↓x_nonB, ↓x_nonS, ↓x_nonT, ↓x_nonL, ↓x_addI, ↓x_addS, ↓x_addT, ↓x_addL, ↓x_subI, ↓x_negI, ↓x_mulI, ↓x_mulS, ↓x_mulL, ↓x_modI, ↓x_divI, ↓x_powI, ↓x_lenL, ↓x_lenT, ↓x_lenS, ↓x_max2, ↓x_min2, ↓x_int1I, ↓x_int1B, ↓x_listL, ↓x_listT, ↓x_listS, ↓x_itL, ↓x_itT, ↓x_itS, ↓x_ixL0, ↓x_ixT0, ↓x_ixT1, ↓x_ixL1, ↓x_ixT2, ↓x_ixL2, ↓x_ixT3, ↓x_ixT4, ↓x_ixT5, ↓x_lc, ↓x_wipe0, ↓x_wipe1, ↓x_join, ↓x_gT, ↓x_gsN, ↓x_gsC, ↓x_notV, ↓x_andV, ↓x_orV, ↓x_chain, ↓x_tape1, ↓x_v0, ↓x_st0, ↓x_ap0, ↓x_io0, ↓x_lo0, ↓x_ro0, ↓x_v1, ↓x_st1, ↓x_ap1, ↓x_io1, ↓x_lo1, ↓x_ro1, ↓x_v2, ↓x_st2, ↓x_ap2, ↓x_io2, ↓x_lo2, ↓x_ro2, ↓x_v3, ↓x_st3, ↓x_ap3, ↓x_io3, ↓x_lo3, ↓x_ro3, ↓x_v4, ↓x_st4, ↓x_ap4, ↓x_io4, ↓x_lo4, ↓x_ro4, ↓x_v5, ↓x_st5, ↓x_ap5, ↓x_io5, ↓x_lo5, ↓x_ro5, ↓x_v6, ↓x_st6, ↓x_ap6, ↓x_io6, ↓x_lo6, ↓x_ro6, ↓x_v7, ↓x_st7, ↓x_ap7, ↓x_io7, ↓x_lo7, ↓x_ro7, ↓x_v8, ↓x_st8, ↓x_ap8, ↓x_io8, ↓x_lo8, ↓x_ro8, ↓x_v9, ↓x_st9, ↓x_ap9, ↓x_io9, ↓x_lo9, ↓x_ro9, ↓x_v10, ↓x_st10, ↓x_ap10, ↓x_io10, ↓x_lo10, ↓x_ro10, ↓x_v11, ↓x_st11, ↓x_ap11, ↓x_io11, ↓x_lo11, ↓x_ro11, ↓x_v12, ↓x_v13, ↓x_v14, ↓x_v15, ↓x_ss0, ↓x_ls0, ↓x_subII, ↓x_subBB, ↓x_repr, ↓x_sw, ↓x_M1, ↓x_par, ↓x_gSt1, ↓x_gSt3, ↓x_fo0, ↓x_fd0, ↓x_po0, ↓x_pt0, ↓x_fo1, ↓x_fd1, ↓x_po1, ↓x_pt1, ↓x_fo2, ↓x_fd2, ↓x_po2, ↓x_pt2, ↓x_fo3, ↓x_fd3, ↓x_po3, ↓x_pt3, ↓x_fo4, ↓x_fd4, ↓x_po4, ↓x_pt4, ↓x_fo5, ↓x_fd5, ↓x_po5, ↓x_pt5, ↓x_fo6, ↓x_fd6, ↓x_po6, ↓x_pt6, ↓x_fo7, ↓x_fd7, ↓x_po7, ↓x_pt7, ↓x_fo8, ↓x_fd8, ↓x_po8, ↓x_pt8, ↓x_fo9, ↓x_fd9, ↓x_po9, ↓x_pt9, ↓x_fo10, ↓x_fd10, ↓x_po10, ↓x_pt10, ↓x_fo11, ↓x_fd11, ↓x_po11, ↓x_pt11, ↓x_plI, ↓x_plB, ↓x_plS, ↓x_in2, ↓x_in3, ↓x_sl1T, ↓x_sl1L, ↓x_slS, ↓x_tuL, ↓x_tuT, ↓x_enumD, ↓x_iAsc, ↓x_eq0T, ↓x_eq0L, ↓x_mulT, ↓x_pu0, ↓x_pu1, ↓x_pu2, ↓x_pu3, ↓x_pu4, ↓x_pu5, ↓x_pu6, ↓x_pu7, ↓x_pu8, ↓x_pu9, ↓x_pu10, ↓x_pu11, ↓x_isB, ↓x_isNB, ↓x_nonD, ↓x_in4, ↓x_nin4, ↓x_nin2, ↓x_tupRg, ↓x_lstRg, ↓x_g_LIMIT, ↓x_g_MAX_CHOICES, ↓x_g_MAX_DEPTH, ↓x_g_MAX_ORDER, ↓x_g_MAX_TEXT, ↓x_g_TESTS, List.cons_append, List.nil_append, List.replicate_succ, List.replicate_zero, List.set_cons_zero, List.set_cons_succ, List.getElem?_cons_zero, List.getElem?_cons_succ, decide_eq_true_eq, Bool.false_eq_true, Bool.true_eq_false, ↓reduceIte, Bool.not_true, Bool.not_false, decide_true, decide_false, isTy, isTyK, kindD, PySem.sizeLine_eq, List.length_cons, List.length_nil, true_and, and_true, true_implies, Bool.not_eq_true', decide_eq_false_iff_not, Nat.reduceAdd, Nat.reduceLeDiff, Nat.reduceLT, Int.reduceAdd, Int.reduceSub, Int.reduceLT, Int.reduceLE, Int.reduceNeg, Int.reduceEq, Nat.reduceEqDiff, not_true_eq_false, not_false_eq_true]
            intro hso
            refine loop_run (seenStep w) (fun seen n ω => ∃ a5 a6 a7, seen.length = n ∧ ω = [.dat (.tuple [c, .tuple os, .tuple ss]), .dat (.int w), .dat (.tuple os), .dat (.tuple ss), .own (seen.map PyData.int), a5, a6, a7]) os [] 0 (fun d hd seen n ω hn hω N hN hF => ?_) (fun seen hr ω hω => ?_) (fun hr => ?_) _ ⟨_, _, _, rfl, rfl⟩
            · obtain ⟨a5, a6, a7, hs4, rfl⟩ := hω
              have hzd := sz_mem hd
              have gz : szD d ≤ 1000000 := by omega
              cases d with
              | tuple ys =>
                have hly := well_lt (xs := ys) (by simp only [szD] at gz; omega)
                rcases ys with _ | ⟨c, _ | ⟨b, _ | ⟨z, ys⟩⟩⟩
                · simp only [↓x_fnD, ↓x_skip, ↓x_seq, ↓x_brk, ↓x_cnt, ↓x_exp, ↓x_ret, ↓x_retN, ↓x_ifS, ↓x_set, ↓x_asg, ↓x_own, ↓x_fLst, ↓x_tape, ↓x_C, ↓x_op, ↓x_un, ↓x_test, ↓x_and, ↓x_or, ↓x_not, ↓x_if, ↓x_dnil, ↓x_dcons, ↓x_anil, ↓x_acons, ↓x_tup, ↓x_lst, ↓x_call, ↓x_fn, ↓x_isi, ↓x_new, ↓x_gN, ↓x_yes, ↓x_for, ↓x_iData, ↓x_iRg1, ↓x_oNo, ↓x_oSome, ↓x_sl, ↓x_mD1, ↓x_mD2, ↓x_mD3, ↓x_mD4, ↓x_mD5, ↓x_mT0, ↓x_mT1, ↓x_mT2, ↓x_mT3, ↓x_mT4, ↓x_eqI, ↓x_eqS, ↓x_eqB, ↓x_eqIS, ↓x_eqSI, ↓x_eqNN, ↓x_eqNI, ↓x_eqIN, ↓x_eqNS, ↓x_eqSN, ↓x_neI, ↓x_neS, ↓x_neB, ↓x_ltI, ↓x_ltS, ↓x_leI, ↓x_leS, ↓x_gtI, ↓x_gtS, ↓x_geI, ↓x_geS, ↓x_isN, ↓x_notN, ↓x_nonN, ↓x_nonI, ↓x_nonB, ↓x_nonS, ↓x_nonT, ↓x_nonL, ↓x_addI, ↓x_addS, ↓x_addT, ↓x_addL, ↓x_subI, ↓x_negI, ↓x_mulI, ↓x_mulS, ↓x_mulL, ↓x_modI, ↓x_divI, ↓x_powI, ↓x_lenL, ↓x_lenT, ↓x_lenS, ↓x_max2, ↓x_min2, ↓x_int1I, ↓x_int1B, ↓x_listL, ↓x_listT, ↓x_listS, ↓x_itL, ↓x_itT, ↓x_itS, ↓x_ixL0, ↓x_ixT0, ↓x_ixT1, ↓x_ixL1, ↓x_ixT2, ↓x_ixL2, ↓x_ixT3, ↓x_ixT4, ↓x_ixT5, ↓x_lc, ↓x_wipe0, ↓x_wipe1, ↓x_join, ↓x_gT, ↓x_gsN, ↓x_gsC, ↓x_notV, ↓x_andV, ↓x_orV, ↓x_chain, ↓x_tape1, ↓x_v0, ↓x_st0, ↓x_ap0, ↓x_io0, ↓x_lo0, ↓x_ro0, ↓x_v1, ↓x_st1, ↓x_ap1, ↓x_io1, ↓x_lo1, ↓x_ro1, ↓x_v2, ↓x_st2, ↓x_ap2, ↓x_io2, ↓x_lo2, ↓x_ro2, ↓x_v3, ↓x_st3, ↓x_ap3, ↓x_io3, ↓x_lo3, ↓x_ro3, ↓x_v4, ↓x_st4, ↓x_ap4, ↓x_io4, ↓x_lo4, ↓x_ro4, ↓x_v5, ↓x_st5, ↓x_ap5, ↓x_io5, ↓x_lo5, ↓x_ro5, ↓x_v6, ↓x_st6, ↓x_ap6, ↓x_io6, ↓x_lo6, ↓x_ro6, ↓x_v7, ↓x_st7, ↓x_ap7, ↓x_io7, ↓x_lo7, ↓x_ro7, ↓x_v8, ↓x_st8, ↓x_ap8, ↓x_io8, ↓x_lo8, ↓x_ro8, ↓x_v9, ↓x_st9, ↓x_ap9, ↓x_io9, ↓x_lo9, ↓x_ro9, ↓x_v10, ↓x_st10, ↓x_ap10, ↓x_io10, ↓x_lo10, ↓x_ro10, ↓x_v11, ↓x_st11, ↓x_ap11, ↓x_io11, ↓x_lo11, ↓x_ro11, ↓x_v12, ↓x_v13, ↓x_v14, ↓x_v15, ↓x_ss0, ↓x_ls0, ↓x_subII, ↓x_subBB, ↓x_repr, ↓x_sw, ↓x_M1, ↓x_par, ↓x_gSt1, ↓x_gSt3, ↓x_fo0, ↓x_fd0, ↓x_po0, ↓x_pt0, ↓x_fo1, ↓x_fd1, ↓x_po1, ↓x_pt1, ↓x_fo2, ↓x_fd2, ↓x_po2, ↓x_pt2, ↓x_fo3, ↓x_fd3, ↓x_po3, ↓x_pt3, ↓x_fo4, ↓x_fd4, ↓x_po4, ↓x_pt4, ↓x_fo5, ↓x_fd5, ↓x_po5, ↓x_pt5, ↓x_fo6, ↓x_fd6, ↓x_po6, ↓x_pt6, ↓x_fo7, ↓x_fd7, ↓x_po7, ↓x_pt7, ↓x_fo8, ↓x_fd8, ↓x_po8, ↓x_pt8, ↓x_fo9, ↓x_fd9, ↓x_po9, ↓x_pt9, ↓x_fo10, ↓x_fd10, ↓x_po10, ↓x_pt10, ↓x_fo11, ↓x_fd11, ↓x_po11, ↓x_pt11, ↓x_plI, ↓x_plB, ↓x_plS, ↓x_in2, ↓x_in3, ↓x_sl1T, ↓x_sl1L, ↓x_slS, ↓x_tuL, ↓x_tuT, ↓x_enumD, ↓x_iAsc, ↓x_eq0T, ↓x_eq0L, ↓x_mulT, ↓x_pu0, ↓x_pu1, ↓x_pu2, ↓x_pu3, ↓x_pu4, ↓x_pu5, ↓x_pu6, ↓x_pu7, ↓x_pu8, ↓x_pu9, ↓x_pu10, ↓x_pu11, ↓x_isB, ↓x_isNB, ↓x_nonD, ↓x_in4, ↓x_nin4, ↓x_nin2, ↓x_tupRg, ↓x_lstRg, ↓x_g_LIMIT, ↓x_g_MAX_CHOICES, ↓x_g_MAX_DEPTH, ↓x_g_MAX_ORDER, ↓x_g_MAX_TEXT, ↓x_g_TESTS, List.cons_append, List.nil_append, List.replicate_succ, List.replicate_zero, List.set_cons_zero, List.set_cons_succ, List.getElem?_cons_zero, List.getElem?_cons_succ, decide_eq_true_eq, Bool.false_eq_true, Bool.true_eq_false, ↓reduceIte, Bool.not_true, Bool.not_false, decide_true, decide_false, isTy, isTyK, kindD, PySem.sizeLine_eq, List.length_cons, List.length_nil, true_and, and_true, true_implies, Bool.not_eq_true', decide_eq_false_iff_not, Nat.reduceAdd, Nat.reduceLeDiff, Nat.reduceLT, Int.reduceAdd, Int.reduceSub, Int.reduceLT, Int.reduceLE, Int.reduceNeg, Int.reduceEq, Nat.reduceEqDiff, not_true_eq_false, not_false_eq_true]
                  exact hF (by simp [seenStep, pairB])
                · simp only [↓x_fnD, ↓x_skip, ↓x_seq, ↓x_brk, ↓x_cnt, ↓x_exp, ↓x_ret, ↓x_retN, ↓x_ifS, ↓x_set, ↓x_asg, ↓x_own, ↓x_fLst, ↓x_tape, ↓x_C, ↓x_op, ↓x_un, ↓x_test, ↓x_and, ↓x_or, ↓x_not, ↓x_if, ↓x_dnil, ↓x_dcons, ↓x_anil, ↓x_acons, ↓x_tup, ↓x_lst, ↓x_call, ↓x_fn, ↓x_isi, ↓x_new, ↓x_gN, ↓x_yes, ↓x_for, ↓x_iData, ↓x_iRg1, ↓x_oNo, ↓x_oSome, ↓x_sl, ↓x_mD1, ↓x_mD2, ↓x_mD3, ↓x_mD4, ↓x_mD5, ↓x_mT0, ↓x_mT1, ↓x_mT2, ↓x_mT3, ↓x_mT4, ↓x_eqI, ↓x_eqS, ↓x_eqB, ↓x_eqIS, ↓x_eqSI, ↓x_eqNN, ↓x_eqNI, ↓x_eqIN, ↓x_eqNS, ↓x_eqSN, ↓x_neI, ↓x_neS, ↓x_neB, ↓x_ltI, ↓x_ltS, ↓x_leI, ↓x_leS, ↓x_gtI, ↓x_gtS, ↓x_geI, ↓x_geS, ↓x_isN, ↓x_notN, ↓x_nonN, ↓x_nonI, ↓x_nonB, ↓x_nonS, ↓x_nonT, ↓x_nonL, ↓x_addI, ↓x_addS, ↓x_addT, ↓x_addL, ↓x_subI, ↓x_negI, ↓x_mulI, ↓x_mulS, ↓x_mulL, ↓x_modI, ↓x_divI, ↓x_powI, ↓x_lenL, ↓x_lenT, ↓x_lenS, ↓x_max2, ↓x_min2, ↓x_int1I, ↓x_int1B, ↓x_listL, ↓x_listT, ↓x_listS, ↓x_itL, ↓x_itT, ↓x_itS, ↓x_ixL0, ↓x_ixT0, ↓x_ixT1, ↓x_ixL1, ↓x_ixT2, ↓x_ixL2, ↓x_ixT3, ↓x_ixT4, ↓x_ixT5, ↓x_lc, ↓x_wipe0, ↓x_wipe1, ↓x_join, ↓x_gT, ↓x_gsN, ↓x_gsC, ↓x_notV, ↓x_andV, ↓x_orV, ↓x_chain, ↓x_tape1, ↓x_v0, ↓x_st0, ↓x_ap0, ↓x_io0, ↓x_lo0, ↓x_ro0, ↓x_v1, ↓x_st1, ↓x_ap1, ↓x_io1, ↓x_lo1, ↓x_ro1, ↓x_v2, ↓x_st2, ↓x_ap2, ↓x_io2, ↓x_lo2, ↓x_ro2, ↓x_v3, ↓x_st3, ↓x_ap3, ↓x_io3, ↓x_lo3, ↓x_ro3, ↓x_v4, ↓x_st4, ↓x_ap4, ↓x_io4, ↓x_lo4, ↓x_ro4, ↓x_v5, ↓x_st5, ↓x_ap5, ↓x_io5, ↓x_lo5, ↓x_ro5, ↓x_v6, ↓x_st6, ↓x_ap6, ↓x_io6, ↓x_lo6, ↓x_ro6, ↓x_v7, ↓x_st7, ↓x_ap7, ↓x_io7, ↓x_lo7, ↓x_ro7, ↓x_v8, ↓x_st8, ↓x_ap8, ↓x_io8, ↓x_lo8, ↓x_ro8, ↓x_v9, ↓x_st9, ↓x_ap9, ↓x_io9, ↓x_lo9, ↓x_ro9, ↓x_v10, ↓x_st10, ↓x_ap10, ↓x_io10, ↓x_lo10, ↓x_ro10, ↓x_v11, ↓x_st11, ↓x_ap11, ↓x_io11, ↓x_lo11, ↓x_ro11, ↓x_v12, ↓x_v13, ↓x_v14, ↓x_v15, ↓x_ss0, ↓x_ls0, ↓x_subII, ↓x_subBB, ↓x_repr, ↓x_sw, ↓x_M1, ↓x_par, ↓x_gSt1, ↓x_gSt3, ↓x_fo0, ↓x_fd0, ↓x_po0, ↓x_pt0, ↓x_fo1, ↓x_fd1, ↓x_po1, ↓x_pt1, ↓x_fo2, ↓x_fd2, ↓x_po2, ↓x_pt2, ↓x_fo3, ↓x_fd3, ↓x_po3, ↓x_pt3, ↓x_fo4, ↓x_fd4, ↓x_po4, ↓x_pt4, ↓x_fo5, ↓x_fd5, ↓x_po5, ↓x_pt5, ↓x_fo6, ↓x_fd6, ↓x_po6, ↓x_pt6, ↓x_fo7, ↓x_fd7, ↓x_po7, ↓x_pt7, ↓x_fo8, ↓x_fd8, ↓x_po8, ↓x_pt8, ↓x_fo9, ↓x_fd9, ↓x_po9, ↓x_pt9, ↓x_fo10, ↓x_fd10, ↓x_po10, ↓x_pt10, ↓x_fo11, ↓x_fd11, ↓x_po11, ↓x_pt11, ↓x_plI, ↓x_plB, ↓x_plS, ↓x_in2, ↓x_in3, ↓x_sl1T, ↓x_sl1L, ↓x_slS, ↓x_tuL, ↓x_tuT, ↓x_enumD, ↓x_iAsc, ↓x_eq0T, ↓x_eq0L, ↓x_mulT, ↓x_pu0, ↓x_pu1, ↓x_pu2, ↓x_pu3, ↓x_pu4, ↓x_pu5, ↓x_pu6, ↓x_pu7, ↓x_pu8, ↓x_pu9, ↓x_pu10, ↓x_pu11, ↓x_isB, ↓x_isNB, ↓x_nonD, ↓x_in4, ↓x_nin4, ↓x_nin2, ↓x_tupRg, ↓x_lstRg, ↓x_g_LIMIT, ↓x_g_MAX_CHOICES, ↓x_g_MAX_DEPTH, ↓x_g_MAX_ORDER, ↓x_g_MAX_TEXT, ↓x_g_TESTS, List.cons_append, List.nil_append, List.replicate_succ, List.replicate_zero, List.set_cons_zero, List.set_cons_succ, List.getElem?_cons_zero, List.getElem?_cons_succ, decide_eq_true_eq, Bool.false_eq_true, Bool.true_eq_false, ↓reduceIte, Bool.not_true, Bool.not_false, decide_true, decide_false, isTy, isTyK, kindD, PySem.sizeLine_eq, List.length_cons, List.length_nil, true_and, and_true, true_implies, Bool.not_eq_true', decide_eq_false_iff_not, Nat.reduceAdd, Nat.reduceLeDiff, Nat.reduceLT, Int.reduceAdd, Int.reduceSub, Int.reduceLT, Int.reduceLE, Int.reduceNeg, Int.reduceEq, Nat.reduceEqDiff, not_true_eq_false, not_false_eq_true]
                  exact hF (by simp [seenStep, pairB])
                · simp only [↓x_fnD, ↓x_skip, ↓x_seq, ↓x_brk, ↓x_cnt, ↓x_exp, ↓x_ret, ↓x_retN, ↓x_ifS, ↓x_set, ↓x_asg, ↓x_own, ↓x_fLst, ↓x_tape, ↓x_C, ↓x_op, ↓x_un, ↓x_test, ↓x_and, ↓x_or, ↓x_not, ↓x_if, ↓x_dnil, ↓x_dcons, ↓x_anil, ↓x_acons, ↓x_tup, ↓x_lst, ↓x_call, ↓x_fn, ↓x_isi, ↓x_new, ↓x_gN, ↓x_yes, ↓x_for, ↓x_iData, ↓x_iRg1, ↓x_oNo, ↓x_oSome, ↓x_sl, ↓x_mD1, ↓x_mD2, ↓x_mD3, ↓x_mD4, ↓x_mD5, ↓x_mT0, ↓x_mT1, ↓x_mT2, ↓x_mT3, ↓x_mT4, ↓x_eqI, ↓x_eqS, ↓x_eqB, ↓x_eqIS, ↓x_eqSI, ↓x_eqNN, ↓x_eqNI, ↓x_eqIN, ↓x_eqNS, ↓x_eqSN, ↓x_neI, ↓x_neS, ↓x_neB, ↓x_ltI, ↓x_ltS, ↓x_leI, ↓x_leS, ↓x_gtI, ↓x_gtS, ↓x_geI, ↓x_geS, ↓x_isN, ↓x_notN, ↓x_nonN, ↓x_nonI, ↓x_nonB, ↓x_nonS, ↓x_nonT, ↓x_nonL, ↓x_addI, ↓x_addS, ↓x_addT, ↓x_addL, ↓x_subI, ↓x_negI, ↓x_mulI, ↓x_mulS, ↓x_mulL, ↓x_modI, ↓x_divI, ↓x_powI, ↓x_lenL, ↓x_lenT, ↓x_lenS, ↓x_max2, ↓x_min2, ↓x_int1I, ↓x_int1B, ↓x_listL, ↓x_listT, ↓x_listS, ↓x_itL, ↓x_itT, ↓x_itS, ↓x_ixL0, ↓x_ixT0, ↓x_ixT1, ↓x_ixL1, ↓x_ixT2, ↓x_ixL2, ↓x_ixT3, ↓x_ixT4, ↓x_ixT5, ↓x_lc, ↓x_wipe0, ↓x_wipe1, ↓x_join, ↓x_gT, ↓x_gsN, ↓x_gsC, ↓x_notV, ↓x_andV, ↓x_orV, ↓x_chain, ↓x_tape1, ↓x_v0, ↓x_st0, ↓x_ap0, ↓x_io0, ↓x_lo0, ↓x_ro0, ↓x_v1, ↓x_st1, ↓x_ap1, ↓x_io1, ↓x_lo1, ↓x_ro1, ↓x_v2, ↓x_st2, ↓x_ap2, ↓x_io2, ↓x_lo2, ↓x_ro2, ↓x_v3, ↓x_st3, ↓x_ap3, ↓x_io3, ↓x_lo3, ↓x_ro3, ↓x_v4, ↓x_st4, ↓x_ap4, ↓x_io4, ↓x_lo4, ↓x_ro4, ↓x_v5, ↓x_st5, ↓x_ap5, ↓x_io5, ↓x_lo5, ↓x_ro5, ↓x_v6, ↓x_st6, ↓x_ap6, ↓x_io6, ↓x_lo6, ↓x_ro6, ↓x_v7, ↓x_st7, ↓x_ap7, ↓x_io7, ↓x_lo7, ↓x_ro7, ↓x_v8, ↓x_st8, ↓x_ap8, ↓x_io8, ↓x_lo8, ↓x_ro8, ↓x_v9, ↓x_st9, ↓x_ap9, ↓x_io9, ↓x_lo9, ↓x_ro9, ↓x_v10, ↓x_st10, ↓x_ap10, ↓x_io10, ↓x_lo10, ↓x_ro10, ↓x_v11, ↓x_st11, ↓x_ap11, ↓x_io11, ↓x_lo11, ↓x_ro11, ↓x_v12, ↓x_v13, ↓x_v14, ↓x_v15, ↓x_ss0, ↓x_ls0, ↓x_subII, ↓x_subBB, ↓x_repr, ↓x_sw, ↓x_M1, ↓x_par, ↓x_gSt1, ↓x_gSt3, ↓x_fo0, ↓x_fd0, ↓x_po0, ↓x_pt0, ↓x_fo1, ↓x_fd1, ↓x_po1, ↓x_pt1, ↓x_fo2, ↓x_fd2, ↓x_po2, ↓x_pt2, ↓x_fo3, ↓x_fd3, ↓x_po3, ↓x_pt3, ↓x_fo4, ↓x_fd4, ↓x_po4, ↓x_pt4, ↓x_fo5, ↓x_fd5, ↓x_po5, ↓x_pt5, ↓x_fo6, ↓x_fd6, ↓x_po6, ↓x_pt6, ↓x_fo7, ↓x_fd7, ↓x_po7, ↓x_pt7, ↓x_fo8, ↓x_fd8, ↓x_po8, ↓x_pt8, ↓x_fo9, ↓x_fd9, ↓x_po9, ↓x_pt9, ↓x_fo10, ↓x_fd10, ↓x_po10, ↓x_pt10, ↓x_fo11, ↓x_fd11, ↓x_po11, ↓x_pt11, ↓x_plI, ↓x_plB, ↓x_plS, ↓x_in2, ↓x_in3, ↓x_sl1T, ↓x_sl1L, ↓x_slS, ↓x_tuL, ↓x_tuT, ↓x_enumD, ↓x_iAsc, ↓x_eq0T, ↓x_eq0L, ↓x_mulT, ↓x_pu0, ↓x_pu1, ↓x_pu2, ↓x_pu3, ↓x_pu4, ↓x_pu5, ↓x_pu6, ↓x_pu7, ↓x_pu8, ↓x_pu9, ↓x_pu10, ↓x_pu11, ↓x_isB, ↓x_isNB, ↓x_nonD, ↓x_in4, ↓x_nin4, ↓x_nin2, ↓x_tupRg, ↓x_lstRg, ↓x_g_LIMIT, ↓x_g_MAX_CHOICES, ↓x_g_MAX_DEPTH, ↓x_g_MAX_ORDER, ↓x_g_MAX_TEXT, ↓x_g_TESTS, List.cons_append, List.nil_append, List.replicate_succ, List.replicate_zero, List.set_cons_zero, List.set_cons_succ, List.getElem?_cons_zero, List.getElem?_cons_succ, decide_eq_true_eq, Bool.false_eq_true, Bool.true_eq_false, ↓reduceIte, Bool.not_true, Bool.not_false, decide_true, decide_false, isTy, isTyK, kindD, PySem.sizeLine_eq, List.length_cons, List.length_nil, true_and, and_true, true_implies, Bool.not_eq_true', decide_eq_false_iff_not, Nat.reduceAdd, Nat.reduceLeDiff, Nat.reduceLT, Int.reduceAdd, Int.reduceSub, Int.reduceLT, Int.reduceLE, Int.reduceNeg, Int.reduceEq, Nat.reduceEqDiff, not_true_eq_false, not_false_eq_true]
                  cases b with
                  | bool b =>
                    simp only [↓x_fnD, ↓x_skip, ↓x_seq, ↓x_brk, ↓x_cnt, ↓x_exp, ↓x_ret, ↓x_retN, ↓x_ifS, ↓x_set, ↓x_asg, ↓x_own, ↓x_fLst, ↓x_tape, ↓x_C, ↓x_op, ↓x_un, ↓x_test, ↓x_and, ↓x_or, ↓x_not, ↓x_if, ↓x_dnil, ↓x_dcons, ↓x_anil, ↓x_acons, ↓x_tup, ↓x_lst, ↓x_call, ↓x_fn, ↓x_isi, ↓x_new, ↓x_gN, ↓x_yes, ↓x_for, ↓x_iData, ↓x_iRg1, ↓x_oNo, ↓x_oSome, ↓x_sl, ↓x_mD1, ↓x_mD2, ↓x_mD3, ↓x_mD4, ↓x_mD5, ↓x_mT0, ↓x_mT1, ↓x_mT2, ↓x_mT3, ↓x_mT4, ↓x_eqI, ↓x_eqS, ↓x_eqB, ↓x_eqIS, ↓x_eqSI, ↓x_eqNN, ↓x_eqNI, ↓x_eqIN, ↓x_eqNS, ↓x_eqSN, ↓x_neI, ↓x_neS, ↓x_neB, ↓x_ltI, ↓x_ltS, ↓x_leI, ↓x_leS, ↓x_gtI, ↓x_gtS, ↓x_geI, ↓x_geS, ↓x_isN, ↓x_notN, ↓x_nonN, ↓x_nonI, ↓x_nonB, ↓x_nonS, ↓x_nonT, ↓x_nonL, ↓x_addI, ↓x_addS, ↓x_addT, ↓x_addL, ↓x_subI, ↓x_negI, ↓x_mulI, ↓x_mulS, ↓x_mulL, ↓x_modI, ↓x_divI, ↓x_powI, ↓x_lenL, ↓x_lenT, ↓x_lenS, ↓x_max2, ↓x_min2, ↓x_int1I, ↓x_int1B, ↓x_listL, ↓x_listT, ↓x_listS, ↓x_itL, ↓x_itT, ↓x_itS, ↓x_ixL0, ↓x_ixT0, ↓x_ixT1, ↓x_ixL1, ↓x_ixT2, ↓x_ixL2, ↓x_ixT3, ↓x_ixT4, ↓x_ixT5, ↓x_lc, ↓x_wipe0, ↓x_wipe1, ↓x_join, ↓x_gT, ↓x_gsN, ↓x_gsC, ↓x_notV, ↓x_andV, ↓x_orV, ↓x_chain, ↓x_tape1, ↓x_v0, ↓x_st0, ↓x_ap0, ↓x_io0, ↓x_lo0, ↓x_ro0, ↓x_v1, ↓x_st1, ↓x_ap1, ↓x_io1, ↓x_lo1, ↓x_ro1, ↓x_v2, ↓x_st2, ↓x_ap2, ↓x_io2, ↓x_lo2, ↓x_ro2, ↓x_v3, ↓x_st3, ↓x_ap3, ↓x_io3, ↓x_lo3, ↓x_ro3, ↓x_v4, ↓x_st4, ↓x_ap4, ↓x_io4, ↓x_lo4, ↓x_ro4, ↓x_v5, ↓x_st5, ↓x_ap5, ↓x_io5, ↓x_lo5, ↓x_ro5, ↓x_v6, ↓x_st6, ↓x_ap6, ↓x_io6, ↓x_lo6, ↓x_ro6, ↓x_v7, ↓x_st7, ↓x_ap7, ↓x_io7, ↓x_lo7, ↓x_ro7, ↓x_v8, ↓x_st8, ↓x_ap8, ↓x_io8, ↓x_lo8, ↓x_ro8, ↓x_v9, ↓x_st9, ↓x_ap9, ↓x_io9, ↓x_lo9, ↓x_ro9, ↓x_v10, ↓x_st10, ↓x_ap10, ↓x_io10, ↓x_lo10, ↓x_ro10, ↓x_v11, ↓x_st11, ↓x_ap11, ↓x_io11, ↓x_lo11, ↓x_ro11, ↓x_v12, ↓x_v13, ↓x_v14, ↓x_v15, ↓x_ss0, ↓x_ls0, ↓x_subII, ↓x_subBB, ↓x_repr, ↓x_sw, ↓x_M1, ↓x_par, ↓x_gSt1, ↓x_gSt3, ↓x_fo0, ↓x_fd0, ↓x_po0, ↓x_pt0, ↓x_fo1, ↓x_fd1, ↓x_po1, ↓x_pt1, ↓x_fo2, ↓x_fd2, ↓x_po2, ↓x_pt2, ↓x_fo3, ↓x_fd3, ↓x_po3, ↓x_pt3, ↓x_fo4, ↓x_fd4, ↓x_po4, ↓x_pt4, ↓x_fo5, ↓x_fd5, ↓x_po5, ↓x_pt5, ↓x_fo6, ↓x_fd6, ↓x_po6, ↓x_pt6, ↓x_fo7, ↓x_fd7, ↓x_po7, ↓x_pt7, ↓x_fo8, ↓x_fd8, ↓x_po8, ↓x_pt8, ↓x_fo9, ↓x_fd9, ↓x_po9, ↓x_pt9, ↓x_fo10, ↓x_fd10, ↓x_po10, ↓x_pt10, ↓x_fo11, ↓x_fd11, ↓x_po11, ↓x_pt11, ↓x_plI, ↓x_plB, ↓x_plS, ↓x_in2, ↓x_in3, ↓x_sl1T, ↓x_sl1L, ↓x_slS, ↓x_tuL, ↓x_tuT, ↓x_enumD, ↓x_iAsc, ↓x_eq0T, ↓x_eq0L, ↓x_mulT, ↓x_pu0, ↓x_pu1, ↓x_pu2, ↓x_pu3, ↓x_pu4, ↓x_pu5, ↓x_pu6, ↓x_pu7, ↓x_pu8, ↓x_pu9, ↓x_pu10, ↓x_pu11, ↓x_isB, ↓x_isNB, ↓x_nonD, ↓x_in4, ↓x_nin4, ↓x_nin2, ↓x_tupRg, ↓x_lstRg, ↓x_g_LIMIT, ↓x_g_MAX_CHOICES, ↓x_g_MAX_DEPTH, ↓x_g_MAX_ORDER, ↓x_g_MAX_TEXT, ↓x_g_TESTS, List.cons_append, List.nil_append, List.replicate_succ, List.replicate_zero, List.set_cons_zero, List.set_cons_succ, List.getElem?_cons_zero, List.getElem?_cons_succ, decide_eq_true_eq, Bool.false_eq_true, Bool.true_eq_false, ↓reduceIte, Bool.not_true, Bool.not_false, decide_true, decide_false, isTy, isTyK, kindD, PySem.sizeLine_eq, List.length_cons, List.length_nil, true_and, and_true, true_implies, Bool.not_eq_true', decide_eq_false_iff_not, Nat.reduceAdd, Nat.reduceLeDiff, Nat.reduceLT, Int.reduceAdd, Int.reduceSub, Int.reduceLT, Int.reduceLE, Int.reduceNeg, Int.reduceEq, Nat.reduceEqDiff, not_true_eq_false, not_false_eq_true]
                    refine ⟨w, rfl, ?_⟩
                    cases ec : colB w c with
                    | false =>
                      simp only [↓x_fnD, ↓x_skip, ↓x_seq, ↓x_brk, ↓x_cnt, ↓x_exp, ↓x_ret, ↓x_retN, ↓x_ifS, ↓x_set, ↓x_asg, ↓x_own, ↓x_fLst, ↓x_tape, ↓x_C, ↓x_op, ↓x_un, ↓x_test, ↓x_and, ↓x_or, ↓x_not, ↓x_if, ↓x_dnil, ↓x_dcons, ↓x_anil, ↓x_acons, ↓x_tup, ↓x_lst, ↓x_call, ↓x_fn, ↓x_isi, ↓x_new, ↓x_gN, ↓x_yes, ↓x_for, ↓x_iData, ↓x_iRg1, ↓x_oNo, ↓x_oSome, ↓x_sl, ↓x_mD1, ↓x_mD2, ↓x_mD3, ↓x_mD4, ↓x_mD5, ↓x_mT0, ↓x_mT1, ↓x_mT2, ↓x_mT3, ↓x_mT4, ↓x_eqI, ↓x_eqS, ↓x_eqB, ↓x_eqIS, ↓x_eqSI, ↓x_eqNN, ↓x_eqNI, ↓x_eqIN, ↓x_eqNS, ↓x_eqSN, ↓x_neI, ↓x_neS, ↓x_neB, ↓x_ltI, ↓x_ltS, ↓x_leI, ↓x_leS, ↓x_gtI, ↓x_gtS, ↓x_geI, ↓x_geS, ↓x_isN, ↓x_notN, ↓x_nonN, ↓x_nonI, ↓x_nonB, ↓x_nonS, ↓x_nonT, ↓x_nonL, ↓x_addI, ↓x_addS, ↓x_addT, ↓x_addL, ↓x_subI, ↓x_negI, ↓x_mulI, ↓x_mulS, ↓x_mulL, ↓x_modI, ↓x_divI, ↓x_powI, ↓x_lenL, ↓x_lenT, ↓x_lenS, ↓x_max2, ↓x_min2, ↓x_int1I, ↓x_int1B, ↓x_listL, ↓x_listT, ↓x_listS, ↓x_itL, ↓x_itT, ↓x_itS, ↓x_ixL0, ↓x_ixT0, ↓x_ixT1, ↓x_ixL1, ↓x_ixT2, ↓x_ixL2, ↓x_ixT3, ↓x_ixT4, ↓x_ixT5, ↓x_lc, ↓x_wipe0, ↓x_wipe1, ↓x_join, ↓x_gT, ↓x_gsN, ↓x_gsC, ↓x_notV, ↓x_andV, ↓x_orV, ↓x_chain, ↓x_tape1, ↓x_v0, ↓x_st0, ↓x_ap0, ↓x_io0, ↓x_lo0, ↓x_ro0, ↓x_v1, ↓x_st1, ↓x_ap1, ↓x_io1, ↓x_lo1, ↓x_ro1, ↓x_v2, ↓x_st2, ↓x_ap2, ↓x_io2, ↓x_lo2, ↓x_ro2, ↓x_v3, ↓x_st3, ↓x_ap3, ↓x_io3, ↓x_lo3, ↓x_ro3, ↓x_v4, ↓x_st4, ↓x_ap4, ↓x_io4, ↓x_lo4, ↓x_ro4, ↓x_v5, ↓x_st5, ↓x_ap5, ↓x_io5, ↓x_lo5, ↓x_ro5, ↓x_v6, ↓x_st6, ↓x_ap6, ↓x_io6, ↓x_lo6, ↓x_ro6, ↓x_v7, ↓x_st7, ↓x_ap7, ↓x_io7, ↓x_lo7, ↓x_ro7, ↓x_v8, ↓x_st8, ↓x_ap8, ↓x_io8, ↓x_lo8, ↓x_ro8, ↓x_v9, ↓x_st9, ↓x_ap9, ↓x_io9, ↓x_lo9, ↓x_ro9, ↓x_v10, ↓x_st10, ↓x_ap10, ↓x_io10, ↓x_lo10, ↓x_ro10, ↓x_v11, ↓x_st11, ↓x_ap11, ↓x_io11, ↓x_lo11, ↓x_ro11, ↓x_v12, ↓x_v13, ↓x_v14, ↓x_v15, ↓x_ss0, ↓x_ls0, ↓x_subII, ↓x_subBB, ↓x_repr, ↓x_sw, ↓x_M1, ↓x_par, ↓x_gSt1, ↓x_gSt3, ↓x_fo0, ↓x_fd0, ↓x_po0, ↓x_pt0, ↓x_fo1, ↓x_fd1, ↓x_po1, ↓x_pt1, ↓x_fo2, ↓x_fd2, ↓x_po2, ↓x_pt2, ↓x_fo3, ↓x_fd3, ↓x_po3, ↓x_pt3, ↓x_fo4, ↓x_fd4, ↓x_po4, ↓x_pt4, ↓x_fo5, ↓x_fd5, ↓x_po5, ↓x_pt5, ↓x_fo6, ↓x_fd6, ↓x_po6, ↓x_pt6, ↓x_fo7, ↓x_fd7, ↓x_po7, ↓x_pt7, ↓x_fo8, ↓x_fd8, ↓x_po8, ↓x_pt8, ↓x_fo9, ↓x_fd9, ↓x_po9, ↓x_pt9, ↓x_fo10, ↓x_fd10, ↓x_po10, ↓x_pt10, ↓x_fo11, ↓x_fd11, ↓x_po11, ↓x_pt11, ↓x_plI, ↓x_plB, ↓x_plS, ↓x_in2, ↓x_in3, ↓x_sl1T, ↓x_sl1L, ↓x_slS, ↓x_tuL, ↓x_tuT, ↓x_enumD, ↓x_iAsc, ↓x_eq0T, ↓x_eq0L, ↓x_mulT, ↓x_pu0, ↓x_pu1, ↓x_pu2, ↓x_pu3, ↓x_pu4, ↓x_pu5, ↓x_pu6, ↓x_pu7, ↓x_pu8, ↓x_pu9, ↓x_pu10, ↓x_pu11, ↓x_isB, ↓x_isNB, ↓x_nonD, ↓x_in4, ↓x_nin4, ↓x_nin2, ↓x_tupRg, ↓x_lstRg, ↓x_g_LIMIT, ↓x_g_MAX_CHOICES, ↓x_g_MAX_DEPTH, ↓x_g_MAX_ORDER, ↓x_g_MAX_TEXT, ↓x_g_TESTS, List.cons_append, List.nil_append, List.replicate_succ, List.replicate_zero, List.set_cons_zero, List.set_cons_succ, List.getElem?_cons_zero, List.getElem?_cons_succ, decide_eq_true_eq, Bool.false_eq_true, Bool.true_eq_false, ↓reduceIte, Bool.not_true, Bool.not_false, decide_true, decide_false, isTy, isTyK, kindD, PySem.sizeLine_eq, List.length_cons, List.length_nil, true_and, and_true, true_implies, Bool.not_eq_true', decide_eq_false_iff_not, Nat.reduceAdd, Nat.reduceLeDiff, Nat.reduceLT, Int.reduceAdd, Int.reduceSub, Int.reduceLT, Int.reduceLE, Int.reduceNeg, Int.reduceEq, Nat.reduceEqDiff, not_true_eq_false, not_false_eq_true]
                      exact hF (by simp [seenStep, pairB, ec])
                    | true =>
                      obtain ⟨i, rfl, i0, i1⟩ := col_int ec
                      simp only [↓x_fnD, ↓x_skip, ↓x_seq, ↓x_brk, ↓x_cnt, ↓x_exp, ↓x_ret, ↓x_retN, ↓x_ifS, ↓x_set, ↓x_asg, ↓x_own, ↓x_fLst, ↓x_tape, ↓x_C, ↓x_op, ↓x_un, ↓x_test, ↓x_and, ↓x_or, ↓x_not, ↓x_if, ↓x_dnil, ↓x_dcons, ↓x_anil, ↓x_acons, ↓x_tup, ↓x_lst, ↓x_call, ↓x_fn, ↓x_isi, ↓x_new, ↓x_gN, ↓x_yes, ↓x_for, ↓x_iData, ↓x_iRg1, ↓x_oNo, ↓x_oSome, ↓x_sl, ↓x_mD1, ↓x_mD2, ↓x_mD3, ↓x_mD4, ↓x_mD5, ↓x_mT0, ↓x_mT1, ↓x_mT2, ↓x_mT3, ↓x_mT4, ↓x_eqI, ↓x_eqS, ↓x_eqB, ↓x_eqIS, ↓x_eqSI, ↓x_eqNN, ↓x_eqNI, ↓x_eqIN, ↓x_eqNS, ↓x_eqSN, ↓x_neI, ↓x_neS, ↓x_neB, ↓x_ltI, ↓x_ltS, ↓x_leI, ↓x_leS, ↓x_gtI, ↓x_gtS, ↓x_geI, ↓x_geS, ↓x_isN, ↓x_notN, ↓x_nonN, ↓x_nonI, ↓x_nonB, ↓x_nonS, ↓x_nonT, ↓x_nonL, ↓x_addI, ↓x_addS, ↓x_addT, ↓x_addL, ↓x_subI, ↓x_negI, ↓x_mulI, ↓x_mulS, ↓x_mulL, ↓x_modI, ↓x_divI, ↓x_powI, ↓x_lenL, ↓x_lenT, ↓x_lenS, ↓x_max2, ↓x_min2, ↓x_int1I, ↓x_int1B, ↓x_listL, ↓x_listT, ↓x_listS, ↓x_itL, ↓x_itT, ↓x_itS, ↓x_ixL0, ↓x_ixT0, ↓x_ixT1, ↓x_ixL1, ↓x_ixT2, ↓x_ixL2, ↓x_ixT3, ↓x_ixT4, ↓x_ixT5, ↓x_lc, ↓x_wipe0, ↓x_wipe1, ↓x_join, ↓x_gT, ↓x_gsN, ↓x_gsC, ↓x_notV, ↓x_andV, ↓x_orV, ↓x_chain, ↓x_tape1, ↓x_v0, ↓x_st0, ↓x_ap0, ↓x_io0, ↓x_lo0, ↓x_ro0, ↓x_v1, ↓x_st1, ↓x_ap1, ↓x_io1, ↓x_lo1, ↓x_ro1, ↓x_v2, ↓x_st2, ↓x_ap2, ↓x_io2, ↓x_lo2, ↓x_ro2, ↓x_v3, ↓x_st3, ↓x_ap3, ↓x_io3, ↓x_lo3, ↓x_ro3, ↓x_v4, ↓x_st4, ↓x_ap4, ↓x_io4, ↓x_lo4, ↓x_ro4, ↓x_v5, ↓x_st5, ↓x_ap5, ↓x_io5, ↓x_lo5, ↓x_ro5, ↓x_v6, ↓x_st6, ↓x_ap6, ↓x_io6, ↓x_lo6, ↓x_ro6, ↓x_v7, ↓x_st7, ↓x_ap7, ↓x_io7, ↓x_lo7, ↓x_ro7, ↓x_v8, ↓x_st8, ↓x_ap8, ↓x_io8, ↓x_lo8, ↓x_ro8, ↓x_v9, ↓x_st9, ↓x_ap9, ↓x_io9, ↓x_lo9, ↓x_ro9, ↓x_v10, ↓x_st10, ↓x_ap10, ↓x_io10, ↓x_lo10, ↓x_ro10, ↓x_v11, ↓x_st11, ↓x_ap11, ↓x_io11, ↓x_lo11, ↓x_ro11, ↓x_v12, ↓x_v13, ↓x_v14, ↓x_v15, ↓x_ss0, ↓x_ls0, ↓x_subII, ↓x_subBB, ↓x_repr, ↓x_sw, ↓x_M1, ↓x_par, ↓x_gSt1, ↓x_gSt3, ↓x_fo0, ↓x_fd0, ↓x_po0, ↓x_pt0, ↓x_fo1, ↓x_fd1, ↓x_po1, ↓x_pt1, ↓x_fo2, ↓x_fd2, ↓x_po2, ↓x_pt2, ↓x_fo3, ↓x_fd3, ↓x_po3, ↓x_pt3, ↓x_fo4, ↓x_fd4, ↓x_po4, ↓x_pt4, ↓x_fo5, ↓x_fd5, ↓x_po5, ↓x_pt5, ↓x_fo6, ↓x_fd6, ↓x_po6, ↓x_pt6, ↓x_fo7, ↓x_fd7, ↓x_po7, ↓x_pt7, ↓x_fo8, ↓x_fd8, ↓x_po8, ↓x_pt8, ↓x_fo9, ↓x_fd9, ↓x_po9, ↓x_pt9, ↓x_fo10, ↓x_fd10, ↓x_po10, ↓x_pt10, ↓x_fo11, ↓x_fd11, ↓x_po11, ↓x_pt11, ↓x_plI, ↓x_plB, ↓x_plS, ↓x_in2, ↓x_in3, ↓x_sl1T, ↓x_sl1L, ↓x_slS, ↓x_tuL, ↓x_tuT, ↓x_enumD, ↓x_iAsc, ↓x_eq0T, ↓x_eq0L, ↓x_mulT, ↓x_pu0, ↓x_pu1, ↓x_pu2, ↓x_pu3, ↓x_pu4, ↓x_pu5, ↓x_pu6, ↓x_pu7, ↓x_pu8, ↓x_pu9, ↓x_pu10, ↓x_pu11, ↓x_isB, ↓x_isNB, ↓x_nonD, ↓x_in4, ↓x_nin4, ↓x_nin2, ↓x_tupRg, ↓x_lstRg, ↓x_g_LIMIT, ↓x_g_MAX_CHOICES, ↓x_g_MAX_DEPTH, ↓x_g_MAX_ORDER, ↓x_g_MAX_TEXT, ↓x_g_TESTS, List.cons_append, List.nil_append, List.replicate_succ, List.replicate_zero, List.set_cons_zero, List.set_cons_succ, List.getElem?_cons_zero, List.getElem?_cons_succ, decide_eq_true_eq, Bool.false_eq_true, Bool.true_eq_false, ↓reduceIte, Bool.not_true, Bool.not_false, decide_true, decide_false, isTy, isTyK, kindD, PySem.sizeLine_eq, List.length_cons, List.length_nil, true_and, and_true, true_implies, Bool.not_eq_true', decide_eq_false_iff_not, Nat.reduceAdd, Nat.reduceLeDiff, Nat.reduceLT, Int.reduceAdd, Int.reduceSub, Int.reduceLT, Int.reduceLE, Int.reduceNeg, Int.reduceEq, Nat.reduceEqDiff, not_true_eq_false, not_false_eq_true]
                      refine inS_ints ?_
                      show (if decide (i ∈ seen) = true then _ else _ : Prop)
                      by_cases hi : i ∈ seen
                      · rw [if_pos (decide_eq_true hi)]
                        exact hF (by simp [seenStep, fstD, colI, hi])
                      · rw [if_neg (by simp [hi])]
                        refine ⟨by rw [List.length_map]; omega, hN (seen ++ [i]) (by simp [seenStep, pairB, ec, fstD, colI, hi]) _ ⟨_, _, _, by simp [hs4], by rw [List.map_append]; rfl⟩⟩
                  | _ =>
                    simp only [↓x_fnD, ↓x_skip, ↓x_seq, ↓x_brk, ↓x_cnt, ↓x_exp, ↓x_ret, ↓x_retN, ↓x_ifS, ↓x_set, ↓x_asg, ↓x_own, ↓x_fLst, ↓x_tape, ↓x_C, ↓x_op, ↓x_un, ↓x_test, ↓x_and, ↓x_or, ↓x_not, ↓x_if, ↓x_dnil, ↓x_dcons, ↓x_anil, ↓x_acons, ↓x_tup, ↓x_lst, ↓x_call, ↓x_fn, ↓x_isi, ↓x_new, ↓x_gN, ↓x_yes, ↓x_for, ↓x_iData, ↓x_iRg1, ↓x_oNo, ↓x_oSome, ↓x_sl, ↓x_mD1, ↓x_mD2, ↓x_mD3, ↓x_mD4, ↓x_mD5, ↓x_mT0, ↓x_mT1, ↓x_mT2, ↓x_mT3, ↓x_mT4, ↓x_eqI, ↓x_eqS, ↓x_eqB, ↓x_eqIS, ↓x_eqSI, ↓x_eqNN, ↓x_eqNI, ↓x_eqIN, ↓x_eqNS, ↓x_eqSN, ↓x_neI, ↓x_neS, ↓x_neB, ↓x_ltI, ↓x_ltS, ↓x_leI, ↓x_leS, ↓x_gtI, ↓x_gtS, ↓x_geI, ↓x_geS, ↓x_isN, ↓x_notN, ↓x_nonN, ↓x_nonI, ↓x_nonB, ↓x_nonS, ↓x_nonT, ↓x_nonL, ↓x_addI, ↓x_addS, ↓x_addT, ↓x_addL, ↓x_subI, ↓x_negI, ↓x_mulI, ↓x_mulS, ↓x_mulL, ↓x_modI, ↓x_divI, ↓x_powI, ↓x_lenL, ↓x_lenT, ↓x_lenS, ↓x_max2, ↓x_min2, ↓x_int1I, ↓x_int1B, ↓x_listL, ↓x_listT, ↓x_listS, ↓x_itL, ↓x_itT, ↓x_itS, ↓x_ixL0, ↓x_ixT0, ↓x_ixT1, ↓x_ixL1, ↓x_ixT2, ↓x_ixL2, ↓x_ixT3, ↓x_ixT4, ↓x_ixT5, ↓x_lc, ↓x_wipe0, ↓x_wipe1, ↓x_join, ↓x_gT, ↓x_gsN, ↓x_gsC, ↓x_notV, ↓x_andV, ↓x_orV, ↓x_chain, ↓x_tape1, ↓x_v0, ↓x_st0, ↓x_ap0, ↓x_io0, ↓x_lo0, ↓x_ro0, ↓x_v1, ↓x_st1, ↓x_ap1, ↓x_io1, ↓x_lo1, ↓x_ro1, ↓x_v2, ↓x_st2, ↓x_ap2, ↓x_io2, ↓x_lo2, ↓x_ro2, ↓x_v3, ↓x_st3, ↓x_ap3, ↓x_io3, ↓x_lo3, ↓x_ro3, ↓x_v4, ↓x_st4, ↓x_ap4, ↓x_io4, ↓x_lo4, ↓x_ro4, ↓x_v5, ↓x_st5, ↓x_ap5, ↓x_io5, ↓x_lo5, ↓x_ro5, ↓x_v6, ↓x_st6, ↓x_ap6, ↓x_io6, ↓x_lo6, ↓x_ro6, ↓x_v7, ↓x_st7, ↓x_ap7, ↓x_io7, ↓x_lo7, ↓x_ro7, ↓x_v8, ↓x_st8, ↓x_ap8, ↓x_io8, ↓x_lo8, ↓x_ro8, ↓x_v9, ↓x_st9, ↓x_ap9, ↓x_io9, ↓x_lo9, ↓x_ro9, ↓x_v10, ↓x_st10, ↓x_ap10, ↓x_io10, ↓x_lo10, ↓x_ro10, ↓x_v11, ↓x_st11, ↓x_ap11, ↓x_io11, ↓x_lo11, ↓x_ro11, ↓x_v12, ↓x_v13, ↓x_v14, ↓x_v15, ↓x_ss0, ↓x_ls0, ↓x_subII, ↓x_subBB, ↓x_repr, ↓x_sw, ↓x_M1, ↓x_par, ↓x_gSt1, ↓x_gSt3, ↓x_fo0, ↓x_fd0, ↓x_po0, ↓x_pt0, ↓x_fo1, ↓x_fd1, ↓x_po1, ↓x_pt1, ↓x_fo2, ↓x_fd2, ↓x_po2, ↓x_pt2, ↓x_fo3, ↓x_fd3, ↓x_po3, ↓x_pt3, ↓x_fo4, ↓x_fd4, ↓x_po4, ↓x_pt4, ↓x_fo5, ↓x_fd5, ↓x_po5, ↓x_pt5, ↓x_fo6, ↓x_fd6, ↓x_po6, ↓x_pt6, ↓x_fo7, ↓x_fd7, ↓x_po7, ↓x_pt7, ↓x_fo8, ↓x_fd8, ↓x_po8, ↓x_pt8, ↓x_fo9, ↓x_fd9, ↓x_po9, ↓x_pt9, ↓x_fo10, ↓x_fd10, ↓x_po10, ↓x_pt10, ↓x_fo11, ↓x_fd11, ↓x_po11, ↓x_pt11, ↓x_plI, ↓x_plB, ↓x_plS, ↓x_in2, ↓x_in3, ↓x_sl1T, ↓x_sl1L, ↓x_slS, ↓x_tuL, ↓x_tuT, ↓x_enumD, ↓x_iAsc, ↓x_eq0T, ↓x_eq0L, ↓x_mulT, ↓x_pu0, ↓x_pu1, ↓x_pu2, ↓x_pu3, ↓x_pu4, ↓x_pu5, ↓x_pu6, ↓x_pu7, ↓x_pu8, ↓x_pu9, ↓x_pu10, ↓x_pu11, ↓x_isB, ↓x_isNB, ↓x_nonD, ↓x_in4, ↓x_nin4, ↓x_nin2, ↓x_tupRg, ↓x_lstRg, ↓x_g_LIMIT, ↓x_g_MAX_CHOICES, ↓x_g_MAX_DEPTH, ↓x_g_MAX_ORDER, ↓x_g_MAX_TEXT, ↓x_g_TESTS, List.cons_append, List.nil_append, List.replicate_succ, List.replicate_zero, List.set_cons_zero, List.set_cons_succ, List.getElem?_cons_zero, List.getElem?_cons_succ, decide_eq_true_eq, Bool.false_eq_true, Bool.true_eq_false, ↓reduceIte, Bool.not_true, Bool.not_false, decide_true, decide_false, isTy, isTyK, kindD, PySem.sizeLine_eq, List.length_cons, List.length_nil, true_and, and_true, true_implies, Bool.not_eq_true', decide_eq_false_iff_not, Nat.reduceAdd, Nat.reduceLeDiff, Nat.reduceLT, Int.reduceAdd, Int.reduceSub, Int.reduceLT, Int.reduceLE, Int.reduceNeg, Int.reduceEq, Nat.reduceEqDiff, not_true_eq_false, not_false_eq_true]
                    exact hF (by cases c <;> simp [seenStep, pairB])
                · have e3 : ¬ ((ys.length : Int) + 1 + 1 + 1 = 2) := by omega
                  simp only [↓x_fnD, ↓x_skip, ↓x_seq, ↓x_brk, ↓x_cnt, ↓x_exp, ↓x_ret, ↓x_retN, ↓x_ifS, ↓x_set, ↓x_asg, ↓x_own, ↓x_fLst, ↓x_tape, ↓x_C, ↓x_op, ↓x_un, ↓x_test, ↓x_and, ↓x_or, ↓x_not, ↓x_if, ↓x_dnil, ↓x_dcons, ↓x_anil, ↓x_acons, ↓x_tup, ↓x_lst, ↓x_call, ↓x_fn, ↓x_isi, ↓x_new, ↓x_gN, ↓x_yes, ↓x_for, ↓x_iData, ↓x_iRg1, ↓x_oNo, ↓x_oSome, ↓x_sl, ↓x_mD1, ↓x_mD2, ↓x_mD3, ↓x_mD4, ↓x_mD5, ↓x_mT0, ↓x_mT1, ↓x_mT2, ↓x_mT3, ↓x_mT4, ↓x_eqI, ↓x_eqS, ↓x_eqB, ↓x_eqIS, ↓x_eqSI, ↓x_eqNN, ↓x_eqNI, ↓x_eqIN, ↓x_eqNS, ↓x_eqSN, ↓x_neI, ↓x_neS, ↓x_neB, ↓x_ltI, ↓x_ltS, ↓x_leI, ↓x_leS, ↓x_gtI, ↓x_gtS, ↓x_geI, ↓x_geS, ↓x_isN, ↓x_notN, ↓x_nonN, ↓x_nonI, ↓x_nonB, ↓x_nonS, ↓x_nonT, ↓x_nonL, ↓x_addI, ↓x_addS, ↓x_addT, ↓x_addL, ↓x_subI, ↓x_negI, ↓x_mulI, ↓x_mulS, ↓x_mulL, ↓x_modI, ↓x_divI, ↓x_powI, ↓x_lenL, ↓x_lenT, ↓x_lenS, ↓x_max2, ↓x_min2, ↓x_int1I, ↓x_int1B, ↓x_listL, ↓x_listT, ↓x_listS, ↓x_itL, ↓x_itT, ↓x_itS, ↓x_ixL0, ↓x_ixT0, ↓x_ixT1, ↓x_ixL1, ↓x_ixT2, ↓x_ixL2, ↓x_ixT3, ↓x_ixT4, ↓x_ixT5, ↓x_lc, ↓x_wipe0, ↓x_wipe1, ↓x_join, ↓x_gT, ↓x_gsN, ↓x_gsC, ↓x_notV, ↓x_andV, ↓x_orV, ↓x_chain, ↓x_tape1, ↓x_v0, ↓x_st0, ↓x_ap0, ↓x_io0, ↓x_lo0, ↓x_ro0, ↓x_v1, ↓x_st1, ↓x_ap1, ↓x_io1, ↓x_lo1, ↓x_ro1, ↓x_v2, ↓x_st2, ↓x_ap2, ↓x_io2, ↓x_lo2, ↓x_ro2, ↓x_v3, ↓x_st3, ↓x_ap3, ↓x_io3, ↓x_lo3, ↓x_ro3, ↓x_v4, ↓x_st4, ↓x_ap4, ↓x_io4, ↓x_lo4, ↓x_ro4, ↓x_v5, ↓x_st5, ↓x_ap5, ↓x_io5, ↓x_lo5, ↓x_ro5, ↓x_v6, ↓x_st6, ↓x_ap6, ↓x_io6, ↓x_lo6, ↓x_ro6, ↓x_v7, ↓x_st7, ↓x_ap7, ↓x_io7, ↓x_lo7, ↓x_ro7, ↓x_v8, ↓x_st8, ↓x_ap8, ↓x_io8, ↓x_lo8, ↓x_ro8, ↓x_v9, ↓x_st9, ↓x_ap9, ↓x_io9, ↓x_lo9, ↓x_ro9, ↓x_v10, ↓x_st10, ↓x_ap10, ↓x_io10, ↓x_lo10, ↓x_ro10, ↓x_v11, ↓x_st11, ↓x_ap11, ↓x_io11, ↓x_lo11, ↓x_ro11, ↓x_v12, ↓x_v13, ↓x_v14, ↓x_v15, ↓x_ss0, ↓x_ls0, ↓x_subII, ↓x_subBB, ↓x_repr, ↓x_sw, ↓x_M1, ↓x_par, ↓x_gSt1, ↓x_gSt3, ↓x_fo0, ↓x_fd0, ↓x_po0, ↓x_pt0, ↓x_fo1, ↓x_fd1, ↓x_po1, ↓x_pt1, ↓x_fo2, ↓x_fd2, ↓x_po2, ↓x_pt2, ↓x_fo3, ↓x_fd3, ↓x_po3, ↓x_pt3, ↓x_fo4, ↓x_fd4, ↓x_po4, ↓x_pt4, ↓x_fo5, ↓x_fd5, ↓x_po5, ↓x_pt5, ↓x_fo6, ↓x_fd6, ↓x_po6, ↓x_pt6, ↓x_fo7, ↓x_fd7, ↓x_po7, ↓x_pt7, ↓x_fo8, ↓x_fd8, ↓x_po8, ↓x_pt8, ↓x_fo9, ↓x_fd9, ↓x_po9, ↓x_pt9, ↓x_fo10, ↓x_fd10, ↓x_po10, ↓x_pt10, ↓x_fo11, ↓x_fd11, ↓x_po11, ↓x_pt11, ↓x_plI, ↓x_plB, ↓x_plS, ↓x_in2, ↓x_in3, ↓x_sl1T, ↓x_sl1L, ↓x_slS, ↓x_tuL, ↓x_tuT, ↓x_enumD, ↓x_iAsc, ↓x_eq0T, ↓x_eq0L, ↓x_mulT, ↓x_pu0, ↓x_pu1, ↓x_pu2, ↓x_pu3, ↓x_pu4, ↓x_pu5, ↓x_pu6, ↓x_pu7, ↓x_pu8, ↓x_pu9, ↓x_pu10, ↓x_pu11, ↓x_isB, ↓x_isNB, ↓x_nonD, ↓x_in4, ↓x_nin4, ↓x_nin2, ↓x_tupRg, ↓x_lstRg, ↓x_g_LIMIT, ↓x_g_MAX_CHOICES, ↓x_g_MAX_DEPTH, ↓x_g_MAX_ORDER, ↓x_g_MAX_TEXT, ↓x_g_TESTS, List.cons_append, List.nil_append, List.replicate_succ, List.replicate_zero, List.set_cons_zero, List.set_cons_succ, List.getElem?_cons_zero, List.getElem?_cons_succ, decide_eq_true_eq, Bool.false_eq_true, Bool.true_eq_false, ↓reduceIte, Bool.not_true, Bool.not_false, decide_true, decide_false, isTy, isTyK, kindD, PySem.sizeLine_eq, List.length_cons, List.length_nil, true_and, and_true, true_implies, Bool.not_eq_true', decide_eq_false_iff_not, Nat.reduceAdd, Nat.reduceLeDiff, Nat.reduceLT, Int.reduceAdd, Int.reduceSub, Int.reduceLT, Int.reduceLE, Int.reduceNeg, Int.reduceEq, Nat.reduceEqDiff, not_true_eq_false, not_false_eq_true, List.length_cons, Int.natCast_add, Int.natCast_one, e3]
                  exact hF (by cases b <;> simp [seenStep, pairB])
              | _ =>
                simp only [↓x_fnD, ↓x_skip, ↓x_seq, ↓x_brk, ↓x_cnt, ↓x_exp, ↓x_ret, ↓x_retN, ↓x_ifS, ↓x_set, ↓x_asg, ↓x_own, ↓x_fLst, ↓x_tape, ↓x_C, ↓x_op, ↓x_un, ↓x_test, ↓x_and, ↓x_or, ↓x_not, ↓x_if, ↓x_dnil, ↓x_dcons, ↓x_anil, ↓x_acons, ↓x_tup, ↓x_lst, ↓x_call, ↓x_fn, ↓x_isi, ↓x_new, ↓x_gN, ↓x_yes, ↓x_for, ↓x_iData, ↓x_iRg1, ↓x_oNo, ↓x_oSome, ↓x_sl, ↓x_mD1, ↓x_mD2, ↓x_mD3, ↓x_mD4, ↓x_mD5, ↓x_mT0, ↓x_mT1, ↓x_mT2, ↓x_mT3, ↓x_mT4, ↓x_eqI, ↓x_eqS, ↓x_eqB, ↓x_eqIS, ↓x_eqSI, ↓x_eqNN, ↓x_eqNI, ↓x_eqIN, ↓x_eqNS, ↓x_eqSN, ↓x_neI, ↓x_neS, ↓x_neB, ↓x_ltI, ↓x_ltS, ↓x_leI, ↓x_leS, ↓x_gtI, ↓x_gtS, ↓x_geI, ↓x_geS, ↓x_isN, ↓x_notN, ↓x_nonN, ↓x_nonI, ↓x_nonB, ↓x_nonS, ↓x_nonT, ↓x_nonL, ↓x_addI, ↓x_addS, ↓x_addT, ↓x_addL, ↓x_subI, ↓x_negI, ↓x_mulI, ↓x_mulS, ↓x_mulL, ↓x_modI, ↓x_divI, ↓x_powI, ↓x_lenL, ↓x_lenT, ↓x_lenS, ↓x_max2, ↓x_min2, ↓x_int1I, ↓x_int1B, ↓x_listL, ↓x_listT, ↓x_listS, ↓x_itL, ↓x_itT, ↓x_itS, ↓x_ixL0, ↓x_ixT0, ↓x_ixT1, ↓x_ixL1, ↓x_ixT2, ↓x_ixL2, ↓x_ixT3, ↓x_ixT4, ↓x_ixT5, ↓x_lc, ↓x_wipe0, ↓x_wipe1, ↓x_join, ↓x_gT, ↓x_gsN, ↓x_gsC, ↓x_notV, ↓x_andV, ↓x_orV, ↓x_chain, ↓x_tape1, ↓x_v0, ↓x_st0, ↓x_ap0, ↓x_io0, ↓x_lo0, ↓x_ro0, ↓x_v1, ↓x_st1, ↓x_ap1, ↓x_io1, ↓x_lo1, ↓x_ro1, ↓x_v2, ↓x_st2, ↓x_ap2, ↓x_io2, ↓x_lo2, ↓x_ro2, ↓x_v3, ↓x_st3, ↓x_ap3, ↓x_io3, ↓x_lo3, ↓x_ro3, ↓x_v4, ↓x_st4, ↓x_ap4, ↓x_io4, ↓x_lo4, ↓x_ro4, ↓x_v5, ↓x_st5, ↓x_ap5, ↓x_io5, ↓x_lo5, ↓x_ro5, ↓x_v6, ↓x_st6, ↓x_ap6, ↓x_io6, ↓x_lo6, ↓x_ro6, ↓x_v7, ↓x_st7, ↓x_ap7, ↓x_io7, ↓x_lo7, ↓x_ro7, ↓x_v8, ↓x_st8, ↓x_ap8, ↓x_io8, ↓x_lo8, ↓x_ro8, ↓x_v9, ↓x_st9, ↓x_ap9, ↓x_io9, ↓x_lo9, ↓x_ro9, ↓x_v10, ↓x_st10, ↓x_ap10, ↓x_io10, ↓x_lo10, ↓x_ro10, ↓x_v11, ↓x_st11, ↓x_ap11, ↓x_io11, ↓x_lo11, ↓x_ro11, ↓x_v12, ↓x_v13, ↓x_v14, ↓x_v15, ↓x_ss0, ↓x_ls0, ↓x_subII, ↓x_subBB, ↓x_repr, ↓x_sw, ↓x_M1, ↓x_par, ↓x_gSt1, ↓x_gSt3, ↓x_fo0, ↓x_fd0, ↓x_po0, ↓x_pt0, ↓x_fo1, ↓x_fd1, ↓x_po1, ↓x_pt1, ↓x_fo2, ↓x_fd2, ↓x_po2, ↓x_pt2, ↓x_fo3, ↓x_fd3, ↓x_po3, ↓x_pt3, ↓x_fo4, ↓x_fd4, ↓x_po4, ↓x_pt4, ↓x_fo5, ↓x_fd5, ↓x_po5, ↓x_pt5, ↓x_fo6, ↓x_fd6, ↓x_po6, ↓x_pt6, ↓x_fo7, ↓x_fd7, ↓x_po7, ↓x_pt7, ↓x_fo8, ↓x_fd8, ↓x_po8, ↓x_pt8, ↓x_fo9, ↓x_fd9, ↓x_po9, ↓x_pt9, ↓x_fo10, ↓x_fd10, ↓x_po10, ↓x_pt10, ↓x_fo11, ↓x_fd11, ↓x_po11, ↓x_pt11, ↓x_plI, ↓x_plB, ↓x_plS, ↓x_in2, ↓x_in3, ↓x_sl1T, ↓x_sl1L, ↓x_slS, ↓x_tuL, ↓x_tuT, ↓x_enumD, ↓x_iAsc, ↓x_eq0T, ↓x_eq0L, ↓x_mulT, ↓x_pu0, ↓x_pu1, ↓x_pu2, ↓x_pu3, ↓x_pu4, ↓x_pu5, ↓x_pu6, ↓x_pu7, ↓x_pu8, ↓x_pu9, ↓x_pu10, ↓x_pu11, ↓x_isB, ↓x_isNB, ↓x_nonD, ↓x_in4, ↓x_nin4, ↓x_nin2, ↓x_tupRg, ↓x_lstRg, ↓x_g_LIMIT, ↓x_g_MAX_CHOICES, ↓x_g_MAX_DEPTH, ↓x_g_MAX_ORDER, ↓x_g_MAX_TEXT, ↓x_g_TESTS, List.cons_append, List.nil_append, List.replicate_succ, List.replicate_zero, List.set_cons_zero, List.set_cons_succ, List.getElem?_cons_zero, List.getElem?_cons_succ, decide_eq_true_eq, Bool.false_eq_true, Bool.true_eq_false, ↓reduceIte, Bool.not_true, Bool.not_false, decide_true, decide_false, isTy, isTyK, kindD, PySem.sizeLine_eq, List.length_cons, List.length_nil, true_and, and_true, true_implies, Bool.not_eq_true', decide_eq_false_iff_not, Nat.reduceAdd, Nat.reduceLeDiff, Nat.reduceLT, Int.reduceAdd, Int.reduceSub, Int.reduceLT, Int.reduceLE, Int.reduceNeg, Int.reduceEq, Nat.reduceEqDiff, not_true_eq_false, not_false_eq_true]
                exact hF (by simp [seenStep, pairB])
            · obtain ⟨a5, a6, a7, hs4, rfl⟩ := hω
              rw [run_seen] at hr
              by_cases eo : orderW w [] os = true
              · rw [eo, Bool.true_and] at h2
                have h3 : R (.bool (ss.all (colB w) && ascB (ss.map colI))) := h2
                have hzs : szAll ss + 3 + 2 ≤ 1000000 := by simp only [szD] at hz'; omega
                have hls := well_lt (xs := ss) (by omega)
                simp only [↓x_fnD, ↓x_skip, ↓x_seq, ↓x_brk, ↓x_cnt, ↓x_exp, ↓x_ret, ↓x_retN, ↓x_ifS, ↓x_set, ↓x_asg, ↓x_own, ↓x_fLst, ↓x_tape, ↓x_C, ↓x_op, ↓x_un, ↓x_test, ↓x_and, ↓x_or, ↓x_not, ↓x_if, ↓x_dnil, ↓x_dcons, ↓x_anil, ↓x_acons, ↓x_tup, ↓x_lst, ↓x_call, ↓x_fn, ↓x_isi, ↓x_new, ↓x_gN, ↓x_yes, ↓x_for, ↓x_iData, ↓x_iRg1, ↓x_oNo, ↓x_oSome, ↓x_sl, ↓x_mD1, ↓x_mD2, ↓x_mD3, ↓x_mD4, ↓x_mD5, ↓x_mT0, ↓x_mT1, ↓x_mT2, ↓x_mT3, ↓x_mT4, ↓x_eqI, ↓x_eqS, ↓x_eqB, ↓x_eqIS, ↓x_eqSI, ↓x_eqNN, ↓x_eqNI, ↓x_eqIN, ↓x_eqNS, ↓x_eqSN, ↓x_neI, ↓x_neS, ↓x_neB, ↓x_ltI, ↓x_ltS, ↓x_leI, ↓x_leS, ↓x_gtI, ↓x_gtS, ↓x_geI, ↓x_geS, ↓x_isN, ↓x_notN, ↓x_nonN, ↓x_nonI, ↓x_nonB, ↓x_nonS, ↓x_nonT, ↓x_nonL, ↓x_addI, ↓x_addS, ↓x_addT, ↓x_addL, ↓x_subI, ↓x_negI, ↓x_mulI, ↓x_mulS, ↓x_mulL, ↓x_modI, ↓x_divI, ↓x_powI, ↓x_lenL, ↓x_lenT, ↓x_lenS, ↓x_max2, ↓x_min2, ↓x_int1I, ↓x_int1B, ↓x_listL, ↓x_listT, ↓x_listS, ↓x_itL, ↓x_itT, ↓x_itS, ↓x_ixL0, ↓x_ixT0, ↓x_ixT1, ↓x_ixL1, ↓x_ixT2, ↓x_ixL2, ↓x_ixT3, ↓x_ixT4, ↓x_ixT5, ↓x_lc, ↓x_wipe0, ↓x_wipe1, ↓x_join, ↓x_gT, ↓x_gsN, ↓x_gsC, ↓x_notV, ↓x_andV, ↓x_orV, ↓x_chain, ↓x_tape1, ↓x_v0, ↓x_st0, ↓x_ap0, ↓x_io0, ↓x_lo0, ↓x_ro0, ↓x_v1, ↓x_st1, ↓x_ap1, ↓x_io1, ↓x_lo1, ↓x_ro1, ↓x_v2, ↓x_st2, ↓x_ap2, ↓x_io2, ↓x_lo2, ↓x_ro2, ↓x_v3, ↓x_st3, ↓x_ap3, ↓x_io3, ↓x_lo3, ↓x_ro3, ↓x_v4, ↓x_st4, ↓x_ap4, ↓x_io4, ↓x_lo4, ↓x_ro4, ↓x_v5, ↓x_st5, ↓x_ap5, ↓x_io5, ↓x_lo5, ↓x_ro5, ↓x_v6, ↓x_st6, ↓x_ap6, ↓x_io6, ↓x_lo6, ↓x_ro6, ↓x_v7, ↓x_st7, ↓x_ap7, ↓x_io7, ↓x_lo7, ↓x_ro7, ↓x_v8, ↓x_st8, ↓x_ap8, ↓x_io8, ↓x_lo8, ↓x_ro8, ↓x_v9, ↓x_st9, ↓x_ap9, ↓x_io9, ↓x_lo9, ↓x_ro9, ↓x_v10, ↓x_st10, ↓x_ap10, ↓x_io10, ↓x_lo10, ↓x_ro10, ↓x_v11, ↓x_st11, ↓x_ap11, ↓x_io11, ↓x_lo11, ↓x_ro11, ↓x_v12, ↓x_v13, ↓x_v14, ↓x_v15, ↓x_ss0, ↓x_ls0, ↓x_subII, ↓x_subBB, ↓x_repr, ↓x_sw, ↓x_M1, ↓x_par, ↓x_gSt1, ↓x_gSt3, ↓x_fo0, ↓x_fd0, ↓x_po0, ↓x_pt0, ↓x_fo1, ↓x_fd1, ↓x_po1, ↓x_pt1, ↓x_fo2, ↓x_fd2, ↓x_po2, ↓x_pt2, ↓x_fo3, ↓x_fd3, ↓x_po3, ↓x_pt3, ↓x_fo4, ↓x_fd4, ↓x_po4, ↓x_pt4, ↓x_fo5, ↓x_fd5, ↓x_po5, ↓x_pt5, ↓x_fo6, ↓x_fd6, ↓x_po6, ↓x_pt6, ↓x_fo7, ↓x_fd7, ↓x_po7, ↓x_pt7, ↓x_fo8, ↓x_fd8, ↓x_po8, ↓x_pt8, ↓x_fo9, ↓x_fd9, ↓x_po9, ↓x_pt9, ↓x_fo10, ↓x_fd10, ↓x_po10, ↓x_pt10, ↓x_fo11, ↓x_fd11, ↓x_po11, ↓x_pt11, ↓x_plI, ↓x_plB, ↓x_plS, ↓x_in2, ↓x_in3, ↓x_sl1T, ↓x_sl1L, ↓x_slS, ↓x_tuL, ↓x_tuT, ↓x_enumD, ↓x_iAsc, ↓x_eq0T, ↓x_eq0L, ↓x_mulT, ↓x_pu0, ↓x_pu1, ↓x_pu2, ↓x_pu3, ↓x_pu4, ↓x_pu5, ↓x_pu6, ↓x_pu7, ↓x_pu8, ↓x_pu9, ↓x_pu10, ↓x_pu11, ↓x_isB, ↓x_isNB, ↓x_nonD, ↓x_in4, ↓x_nin4, ↓x_nin2, ↓x_tupRg, ↓x_lstRg, ↓x_g_LIMIT, ↓x_g_MAX_CHOICES, ↓x_g_MAX_DEPTH, ↓x_g_MAX_ORDER, ↓x_g_MAX_TEXT, ↓x_g_TESTS, List.cons_append, List.nil_append, List.replicate_succ, List.replicate_zero, List.set_cons_zero, List.set_cons_succ, List.getElem?_cons_zero, List.getElem?_cons_succ, decide_eq_true_eq, Bool.false_eq_true, Bool.true_eq_false, ↓reduceIte, Bool.not_true, Bool.not_false, decide_true, decide_false, isTy, isTyK, kindD, PySem.sizeLine_eq, List.length_cons, List.length_nil, true_and, and_true, true_implies, Bool.not_eq_true', decide_eq_false_iff_not, Nat.reduceAdd, Nat.reduceLeDiff, Nat.reduceLT, Int.reduceAdd, Int.reduceSub, Int.reduceLT, Int.reduceLE, Int.reduceNeg, Int.reduceEq, Nat.reduceEqDiff, not_true_eq_false, not_false_eq_true]
                refine fun _ => ⟨by omega, lc_map (fun d => .bool (colB w d)) ss [] (fun d hd N hN => ?_) ?_⟩
                · simp only [↓x_fnD, ↓x_skip, ↓x_seq, ↓x_brk, ↓x_cnt, ↓x_exp, ↓x_ret, ↓x_retN, ↓x_ifS, ↓x_set, ↓x_asg, ↓x_own, ↓x_fLst, ↓x_tape, ↓x_C, ↓x_op, ↓x_un, ↓x_test, ↓x_and, ↓x_or, ↓x_not, ↓x_if, ↓x_dnil, ↓x_dcons, ↓x_anil, ↓x_acons, ↓x_tup, ↓x_lst, ↓x_call, ↓x_fn, ↓x_isi, ↓x_new, ↓x_gN, ↓x_yes, ↓x_for, ↓x_iData, ↓x_iRg1, ↓x_oNo, ↓x_oSome, ↓x_sl, ↓x_mD1, ↓x_mD2, ↓x_mD3, ↓x_mD4, ↓x_mD5, ↓x_mT0, ↓x_mT1, ↓x_mT2, ↓x_mT3, ↓x_mT4, ↓x_eqI, ↓x_eqS, ↓x_eqB, ↓x_eqIS, ↓x_eqSI, ↓x_eqNN, ↓x_eqNI, ↓x_eqIN, ↓x_eqNS, ↓x_eqSN, ↓x_neI, ↓x_neS, ↓x_neB, ↓x_ltI, ↓x_ltS, ↓x_leI, ↓x_leS, ↓x_gtI, ↓x_gtS, ↓x_geI, ↓x_geS, ↓x_isN, ↓x_notN, ↓x_nonN, ↓x_nonI, ↓x_nonB, ↓x_nonS, ↓x_nonT, ↓x_nonL, ↓x_addI, ↓x_addS, ↓x_addT, ↓x_addL, ↓x_subI, ↓x_negI, ↓x_mulI, ↓x_mulS, ↓x_mulL, ↓x_modI, ↓x_divI, ↓x_powI, ↓x_lenL, ↓x_lenT, ↓x_lenS, ↓x_max2, ↓x_min2, ↓x_int1I, ↓x_int1B, ↓x_listL, ↓x_listT, ↓x_listS, ↓x_itL, ↓x_itT, ↓x_itS, ↓x_ixL0, ↓x_ixT0, ↓x_ixT1, ↓x_ixL1, ↓x_ixT2, ↓x_ixL2, ↓x_ixT3, ↓x_ixT4, ↓x_ixT5, ↓x_lc, ↓x_wipe0, ↓x_wipe1, ↓x_join, ↓x_gT, ↓x_gsN, ↓x_gsC, ↓x_notV, ↓x_andV, ↓x_orV, ↓x_chain, ↓x_tape1, ↓x_v0, ↓x_st0, ↓x_ap0, ↓x_io0, ↓x_lo0, ↓x_ro0, ↓x_v1, ↓x_st1, ↓x_ap1, ↓x_io1, ↓x_lo1, ↓x_ro1, ↓x_v2, ↓x_st2, ↓x_ap2, ↓x_io2, ↓x_lo2, ↓x_ro2, ↓x_v3, ↓x_st3, ↓x_ap3, ↓x_io3, ↓x_lo3, ↓x_ro3, ↓x_v4, ↓x_st4, ↓x_ap4, ↓x_io4, ↓x_lo4, ↓x_ro4, ↓x_v5, ↓x_st5, ↓x_ap5, ↓x_io5, ↓x_lo5, ↓x_ro5, ↓x_v6, ↓x_st6, ↓x_ap6, ↓x_io6, ↓x_lo6, ↓x_ro6, ↓x_v7, ↓x_st7, ↓x_ap7, ↓x_io7, ↓x_lo7, ↓x_ro7, ↓x_v8, ↓x_st8, ↓x_ap8, ↓x_io8, ↓x_lo8, ↓x_ro8, ↓x_v9, ↓x_st9, ↓x_ap9, ↓x_io9, ↓x_lo9, ↓x_ro9, ↓x_v10, ↓x_st10, ↓x_ap10, ↓x_io10, ↓x_lo10, ↓x_ro10, ↓x_v11, ↓x_st11, ↓x_ap11, ↓x_io11, ↓x_lo11, ↓x_ro11, ↓x_v12, ↓x_v13, ↓x_v14, ↓x_v15, ↓x_ss0, ↓x_ls0, ↓x_subII, ↓x_subBB, ↓x_repr, ↓x_sw, ↓x_M1, ↓x_par, ↓x_gSt1, ↓x_gSt3, ↓x_fo0, ↓x_fd0, ↓x_po0, ↓x_pt0, ↓x_fo1, ↓x_fd1, ↓x_po1, ↓x_pt1, ↓x_fo2, ↓x_fd2, ↓x_po2, ↓x_pt2, ↓x_fo3, ↓x_fd3, ↓x_po3, ↓x_pt3, ↓x_fo4, ↓x_fd4, ↓x_po4, ↓x_pt4, ↓x_fo5, ↓x_fd5, ↓x_po5, ↓x_pt5, ↓x_fo6, ↓x_fd6, ↓x_po6, ↓x_pt6, ↓x_fo7, ↓x_fd7, ↓x_po7, ↓x_pt7, ↓x_fo8, ↓x_fd8, ↓x_po8, ↓x_pt8, ↓x_fo9, ↓x_fd9, ↓x_po9, ↓x_pt9, ↓x_fo10, ↓x_fd10, ↓x_po10, ↓x_pt10, ↓x_fo11, ↓x_fd11, ↓x_po11, ↓x_pt11, ↓x_plI, ↓x_plB, ↓x_plS, ↓x_in2, ↓x_in3, ↓x_sl1T, ↓x_sl1L, ↓x_slS, ↓x_tuL, ↓x_tuT, ↓x_enumD, ↓x_iAsc, ↓x_eq0T, ↓x_eq0L, ↓x_mulT, ↓x_pu0, ↓x_pu1, ↓x_pu2, ↓x_pu3, ↓x_pu4, ↓x_pu5, ↓x_pu6, ↓x_pu7, ↓x_pu8, ↓x_pu9, ↓x_pu10, ↓x_pu11, ↓x_isB, ↓x_isNB, ↓x_nonD, ↓x_in4, ↓x_nin4, ↓x_nin2, ↓x_tupRg, ↓x_lstRg, ↓x_g_LIMIT, ↓x_g_MAX_CHOICES, ↓x_g_MAX_DEPTH, ↓x_g_MAX_ORDER, ↓x_g_MAX_TEXT, ↓x_g_TESTS, List.cons_append, List.nil_append, List.replicate_succ, List.replicate_zero, List.set_cons_zero, List.set_cons_succ, List.getElem?_cons_zero, List.getElem?_cons_succ, decide_eq_true_eq, Bool.false_eq_true, Bool.true_eq_false, ↓reduceIte, Bool.not_true, Bool.not_false, decide_true, decide_false, isTy, isTyK, kindD, PySem.sizeLine_eq, List.length_cons, List.length_nil, true_and, and_true, true_implies, Bool.not_eq_true', decide_eq_false_iff_not, Nat.reduceAdd, Nat.reduceLeDiff, Nat.reduceLT, Int.reduceAdd, Int.reduceSub, Int.reduceLT, Int.reduceLE, Int.reduceNeg, Int.reduceEq, Nat.reduceEqDiff, not_true_eq_false, not_false_eq_true]
                  exact ⟨w, rfl, hN⟩
                · have em : (ss.map fun d => PyData.bool (colB w d)) = (ss.map (colB w)).map PyData.bool := by simp [List.map_map, Function.comp_def]
                  rw [List.nil_append, em]
                  refine in_false _ ?_
                  have ea : (ss.map (colB w)).all id = ss.all (colB w) := by simp [List.all_map, Function.comp_def]
                  rw [ea]
                  cases e : ss.all (colB w)
                  · rw [e] at h3
                    exact h3
                  · rw [e, Bool.true_and] at h3
                    simp only [↓x_fnD, ↓x_skip, ↓x_seq, ↓x_brk, ↓x_cnt, ↓x_exp, ↓x_ret, ↓x_retN, ↓x_ifS, ↓x_set, ↓x_asg, ↓x_own, ↓x_fLst, ↓x_tape, ↓x_C, ↓x_op, ↓x_un, ↓x_test, ↓x_and, ↓x_or, ↓x_not, ↓x_if, ↓x_dnil, ↓x_dcons, ↓x_anil, ↓x_acons, ↓x_tup, ↓x_lst, ↓x_call, ↓x_fn, ↓x_isi, ↓x_new, ↓x_gN, ↓x_yes, ↓x_for, ↓x_iData, ↓x_iRg1, ↓x_oNo, ↓x_oSome, ↓x_sl, ↓x_mD1, ↓x_mD2, ↓x_mD3, ↓x_mD4, ↓x_mD5, ↓x_mT0, ↓x_mT1, ↓x_mT2, ↓x_mT3, ↓x_mT4, ↓x_eqI, ↓x_eqS, ↓x_eqB, ↓x_eqIS, ↓x_eqSI, ↓x_eqNN, ↓x_eqNI, ↓x_eqIN, ↓x_eqNS, ↓x_eqSN, ↓x_neI, ↓x_neS, ↓x_neB, ↓x_ltI, ↓x_ltS, ↓x_leI, ↓x_leS, ↓x_gtI, ↓x_gtS, ↓x_geI, ↓x_geS, ↓x_isN, ↓x_notN, ↓x_nonN, ↓x_nonI, ↓x_nonB, ↓x_nonS, ↓x_nonT, ↓x_nonL, ↓x_addI, ↓x_addS, ↓x_addT, ↓x_addL, ↓x_subI, ↓x_negI, ↓x_mulI, ↓x_mulS, ↓x_mulL, ↓x_modI, ↓x_divI, ↓x_powI, ↓x_lenL, ↓x_lenT, ↓x_lenS, ↓x_max2, ↓x_min2, ↓x_int1I, ↓x_int1B, ↓x_listL, ↓x_listT, ↓x_listS, ↓x_itL, ↓x_itT, ↓x_itS, ↓x_ixL0, ↓x_ixT0, ↓x_ixT1, ↓x_ixL1, ↓x_ixT2, ↓x_ixL2, ↓x_ixT3, ↓x_ixT4, ↓x_ixT5, ↓x_lc, ↓x_wipe0, ↓x_wipe1, ↓x_join, ↓x_gT, ↓x_gsN, ↓x_gsC, ↓x_notV, ↓x_andV, ↓x_orV, ↓x_chain, ↓x_tape1, ↓x_v0, ↓x_st0, ↓x_ap0, ↓x_io0, ↓x_lo0, ↓x_ro0, ↓x_v1, ↓x_st1, ↓x_ap1, ↓x_io1, ↓x_lo1, ↓x_ro1, ↓x_v2, ↓x_st2, ↓x_ap2, ↓x_io2, ↓x_lo2, ↓x_ro2, ↓x_v3, ↓x_st3, ↓x_ap3, ↓x_io3, ↓x_lo3, ↓x_ro3, ↓x_v4, ↓x_st4, ↓x_ap4, ↓x_io4, ↓x_lo4, ↓x_ro4, ↓x_v5, ↓x_st5, ↓x_ap5, ↓x_io5, ↓x_lo5, ↓x_ro5, ↓x_v6, ↓x_st6, ↓x_ap6, ↓x_io6, ↓x_lo6, ↓x_ro6, ↓x_v7, ↓x_st7, ↓x_ap7, ↓x_io7, ↓x_lo7, ↓x_ro7, ↓x_v8, ↓x_st8, ↓x_ap8, ↓x_io8, ↓x_lo8, ↓x_ro8, ↓x_v9, ↓x_st9, ↓x_ap9, ↓x_io9, ↓x_lo9, ↓x_ro9, ↓x_v10, ↓x_st10, ↓x_ap10, ↓x_io10, ↓x_lo10, ↓x_ro10, ↓x_v11, ↓x_st11, ↓x_ap11, ↓x_io11, ↓x_lo11, ↓x_ro11, ↓x_v12, ↓x_v13, ↓x_v14, ↓x_v15, ↓x_ss0, ↓x_ls0, ↓x_subII, ↓x_subBB, ↓x_repr, ↓x_sw, ↓x_M1, ↓x_par, ↓x_gSt1, ↓x_gSt3, ↓x_fo0, ↓x_fd0, ↓x_po0, ↓x_pt0, ↓x_fo1, ↓x_fd1, ↓x_po1, ↓x_pt1, ↓x_fo2, ↓x_fd2, ↓x_po2, ↓x_pt2, ↓x_fo3, ↓x_fd3, ↓x_po3, ↓x_pt3, ↓x_fo4, ↓x_fd4, ↓x_po4, ↓x_pt4, ↓x_fo5, ↓x_fd5, ↓x_po5, ↓x_pt5, ↓x_fo6, ↓x_fd6, ↓x_po6, ↓x_pt6, ↓x_fo7, ↓x_fd7, ↓x_po7, ↓x_pt7, ↓x_fo8, ↓x_fd8, ↓x_po8, ↓x_pt8, ↓x_fo9, ↓x_fd9, ↓x_po9, ↓x_pt9, ↓x_fo10, ↓x_fd10, ↓x_po10, ↓x_pt10, ↓x_fo11, ↓x_fd11, ↓x_po11, ↓x_pt11, ↓x_plI, ↓x_plB, ↓x_plS, ↓x_in2, ↓x_in3, ↓x_sl1T, ↓x_sl1L, ↓x_slS, ↓x_tuL, ↓x_tuT, ↓x_enumD, ↓x_iAsc, ↓x_eq0T, ↓x_eq0L, ↓x_mulT, ↓x_pu0, ↓x_pu1, ↓x_pu2, ↓x_pu3, ↓x_pu4, ↓x_pu5, ↓x_pu6, ↓x_pu7, ↓x_pu8, ↓x_pu9, ↓x_pu10, ↓x_pu11, ↓x_isB, ↓x_isNB, ↓x_nonD, ↓x_in4, ↓x_nin4, ↓x_nin2, ↓x_tupRg, ↓x_lstRg, ↓x_g_LIMIT, ↓x_g_MAX_CHOICES, ↓x_g_MAX_DEPTH, ↓x_g_MAX_ORDER, ↓x_g_MAX_TEXT, ↓x_g_TESTS, List.cons_append, List.nil_append, List.replicate_succ, List.replicate_zero, List.set_cons_zero, List.set_cons_succ, List.getElem?_cons_zero, List.getElem?_cons_succ, decide_eq_true_eq, Bool.false_eq_true, Bool.true_eq_false, ↓reduceIte, Bool.not_true, Bool.not_false, decide_true, decide_false, isTy, isTyK, kindD, PySem.sizeLine_eq, List.length_cons, List.length_nil, true_and, and_true, true_implies, Bool.not_eq_true', decide_eq_false_iff_not, Nat.reduceAdd, Nat.reduceLeDiff, Nat.reduceLT, Int.reduceAdd, Int.reduceSub, Int.reduceLT, Int.reduceLE, Int.reduceNeg, Int.reduceEq, Nat.reduceEqDiff, not_true_eq_false, not_false_eq_true]
                    have ex := cols_ints e
                    refine ⟨by omega, by omega, by rw [range_len]; omega, ?_⟩
                    have et : ((ss.length : Int) - 1).toNat = (ss.map colI).length - 1 := by rw [List.length_map]; omega
                    rw [et]
                    refine lc_at (fun k => .bool (decide ((ss.map colI).getD k 0 < (ss.map colI).getD (k + 1) 0))) _ 0 [] (fun k _ hk N hN => ?_) ?_
                    · simp only [↓x_fnD, ↓x_skip, ↓x_seq, ↓x_brk, ↓x_cnt, ↓x_exp, ↓x_ret, ↓x_retN, ↓x_ifS, ↓x_set, ↓x_asg, ↓x_own, ↓x_fLst, ↓x_tape, ↓x_C, ↓x_op, ↓x_un, ↓x_test, ↓x_and, ↓x_or, ↓x_not, ↓x_if, ↓x_dnil, ↓x_dcons, ↓x_anil, ↓x_acons, ↓x_tup, ↓x_lst, ↓x_call, ↓x_fn, ↓x_isi, ↓x_new, ↓x_gN, ↓x_yes, ↓x_for, ↓x_iData, ↓x_iRg1, ↓x_oNo, ↓x_oSome, ↓x_sl, ↓x_mD1, ↓x_mD2, ↓x_mD3, ↓x_mD4, ↓x_mD5, ↓x_mT0, ↓x_mT1, ↓x_mT2, ↓x_mT3, ↓x_mT4, ↓x_eqI, ↓x_eqS, ↓x_eqB, ↓x_eqIS, ↓x_eqSI, ↓x_eqNN, ↓x_eqNI, ↓x_eqIN, ↓x_eqNS, ↓x_eqSN, ↓x_neI, ↓x_neS, ↓x_neB, ↓x_ltI, ↓x_ltS, ↓x_leI, ↓x_leS, ↓x_gtI, ↓x_gtS, ↓x_geI, ↓x_geS, ↓x_isN, ↓x_notN, ↓x_nonN, ↓x_nonI, ↓x_nonB, ↓x_nonS, ↓x_nonT, ↓x_nonL, ↓x_addI, ↓x_addS, ↓x_addT, ↓x_addL, ↓x_subI, ↓x_negI, ↓x_mulI, ↓x_mulS, ↓x_mulL, ↓x_modI, ↓x_divI, ↓x_powI, ↓x_lenL, ↓x_lenT, ↓x_lenS, ↓x_max2, ↓x_min2, ↓x_int1I, ↓x_int1B, ↓x_listL, ↓x_listT, ↓x_listS, ↓x_itL, ↓x_itT, ↓x_itS, ↓x_ixL0, ↓x_ixT0, ↓x_ixT1, ↓x_ixL1, ↓x_ixT2, ↓x_ixL2, ↓x_ixT3, ↓x_ixT4, ↓x_ixT5, ↓x_lc, ↓x_wipe0, ↓x_wipe1, ↓x_join, ↓x_gT, ↓x_gsN, ↓x_gsC, ↓x_notV, ↓x_andV, ↓x_orV, ↓x_chain, ↓x_tape1, ↓x_v0, ↓x_st0, ↓x_ap0, ↓x_io0, ↓x_lo0, ↓x_ro0, ↓x_v1, ↓x_st1, ↓x_ap1, ↓x_io1, ↓x_lo1, ↓x_ro1, ↓x_v2, ↓x_st2, ↓x_ap2, ↓x_io2, ↓x_lo2, ↓x_ro2, ↓x_v3, ↓x_st3, ↓x_ap3, ↓x_io3, ↓x_lo3, ↓x_ro3, ↓x_v4, ↓x_st4, ↓x_ap4, ↓x_io4, ↓x_lo4, ↓x_ro4, ↓x_v5, ↓x_st5, ↓x_ap5, ↓x_io5, ↓x_lo5, ↓x_ro5, ↓x_v6, ↓x_st6, ↓x_ap6, ↓x_io6, ↓x_lo6, ↓x_ro6, ↓x_v7, ↓x_st7, ↓x_ap7, ↓x_io7, ↓x_lo7, ↓x_ro7, ↓x_v8, ↓x_st8, ↓x_ap8, ↓x_io8, ↓x_lo8, ↓x_ro8, ↓x_v9, ↓x_st9, ↓x_ap9, ↓x_io9, ↓x_lo9, ↓x_ro9, ↓x_v10, ↓x_st10, ↓x_ap10, ↓x_io10, ↓x_lo10, ↓x_ro10, ↓x_v11, ↓x_st11, ↓x_ap11, ↓x_io11, ↓x_lo11, ↓x_ro11, ↓x_v12, ↓x_v13, ↓x_v14, ↓x_v15, ↓x_ss0, ↓x_ls0, ↓x_subII, ↓x_subBB, ↓x_repr, ↓x_sw, ↓x_M1, ↓x_par, ↓x_gSt1, ↓x_gSt3, ↓x_fo0, ↓x_fd0, ↓x_po0, ↓x_pt0, ↓x_fo1, ↓x_fd1, ↓x_po1, ↓x_pt1, ↓x_fo2, ↓x_fd2, ↓x_po2, ↓x_pt2, ↓x_fo3, ↓x_fd3, ↓x_po3, ↓x_pt3, ↓x_fo4, ↓x_fd4, ↓x_po4, ↓x_pt4, ↓x_fo5, ↓x_fd5, ↓x_po5, ↓x_pt5, ↓x_fo6, ↓x_fd6, ↓x_po6, ↓x_pt6, ↓x_fo7, ↓x_fd7, ↓x_po7, ↓x_pt7, ↓x_fo8, ↓x_fd8, ↓x_po8, ↓x_pt8, ↓x_fo9, ↓x_fd9, ↓x_po9, ↓x_pt9, ↓x_fo10, ↓x_fd10, ↓x_po10, ↓x_pt10, ↓x_fo11, ↓x_fd11, ↓x_po11, ↓x_pt11, ↓x_plI, ↓x_plB, ↓x_plS, ↓x_in2, ↓x_in3, ↓x_sl1T, ↓x_sl1L, ↓x_slS, ↓x_tuL, ↓x_tuT, ↓x_enumD, ↓x_iAsc, ↓x_eq0T, ↓x_eq0L, ↓x_mulT, ↓x_pu0, ↓x_pu1, ↓x_pu2, ↓x_pu3, ↓x_pu4, ↓x_pu5, ↓x_pu6, ↓x_pu7, ↓x_pu8, ↓x_pu9, ↓x_pu10, ↓x_pu11, ↓x_isB, ↓x_isNB, ↓x_nonD, ↓x_in4, ↓x_nin4, ↓x_nin2, ↓x_tupRg, ↓x_lstRg, ↓x_g_LIMIT, ↓x_g_MAX_CHOICES, ↓x_g_MAX_DEPTH, ↓x_g_MAX_ORDER, ↓x_g_MAX_TEXT, ↓x_g_TESTS, List.cons_append, List.nil_append, List.replicate_succ, List.replicate_zero, List.set_cons_zero, List.set_cons_succ, List.getElem?_cons_zero, List.getElem?_cons_succ, decide_eq_true_eq, Bool.false_eq_true, Bool.true_eq_false, ↓reduceIte, Bool.not_true, Bool.not_false, decide_true, decide_false, isTy, isTyK, kindD, PySem.sizeLine_eq, List.length_cons, List.length_nil, true_and, and_true, true_implies, Bool.not_eq_true', decide_eq_false_iff_not, Nat.reduceAdd, Nat.reduceLeDiff, Nat.reduceLT, Int.reduceAdd, Int.reduceSub, Int.reduceLT, Int.reduceLE, Int.reduceNeg, Int.reduceEq, Nat.reduceEqDiff, not_true_eq_false, not_false_eq_true]
                      rw [ex]
                      have k1 : k < (ss.map colI).length := by omega
                      have k2 : k + 1 < (ss.map colI).length := by omega
                      refine ix_ints k1 ?_
                      rw [show ((k : Int) + 1) = ((k + 1 : Nat) : Int) by omega]
                      refine ix_ints k2 ?_
                      simp only [↓x_fnD, ↓x_skip, ↓x_seq, ↓x_brk, ↓x_cnt, ↓x_exp, ↓x_ret, ↓x_retN, ↓x_ifS, ↓x_set, ↓x_asg, ↓x_own, ↓x_fLst, ↓x_tape, ↓x_C, ↓x_op, ↓x_un, ↓x_test, ↓x_and, ↓x_or, ↓x_not, ↓x_if, ↓x_dnil, ↓x_dcons, ↓x_anil, ↓x_acons, ↓x_tup, ↓x_lst, ↓x_call, ↓x_fn, ↓x_isi, ↓x_new, ↓x_gN, ↓x_yes, ↓x_for, ↓x_iData, ↓x_iRg1, ↓x_oNo, ↓x_oSome, ↓x_sl, ↓x_mD1, ↓x_mD2, ↓x_mD3, ↓x_mD4, ↓x_mD5, ↓x_mT0, ↓x_mT1, ↓x_mT2, ↓x_mT3, ↓x_mT4, ↓x_eqI, ↓x_eqS, ↓x_eqB, ↓x_eqIS, ↓x_eqSI, ↓x_eqNN, ↓x_eqNI, ↓x_eqIN, ↓x_eqNS, ↓x_eqSN, ↓x_neI, ↓x_neS, ↓x_neB, ↓x_ltI, ↓x_ltS, ↓x_leI, ↓x_leS, ↓x_gtI, ↓x_gtS, ↓x_geI, ↓x_geS, ↓x_isN, ↓x_notN, ↓x_nonN, ↓x_nonI, ↓x_nonB, ↓x_nonS, ↓x_nonT, ↓x_nonL, ↓x_addI, ↓x_addS, ↓x_addT, ↓x_addL, ↓x_subI, ↓x_negI, ↓x_mulI, ↓x_mulS, ↓x_mulL, ↓x_modI, ↓x_divI, ↓x_powI, ↓x_lenL, ↓x_lenT, ↓x_lenS, ↓x_max2, ↓x_min2, ↓x_int1I, ↓x_int1B, ↓x_listL, ↓x_listT, ↓x_listS, ↓x_itL, ↓x_itT, ↓x_itS, ↓x_ixL0, ↓x_ixT0, ↓x_ixT1, ↓x_ixL1, ↓x_ixT2, ↓x_ixL2, ↓x_ixT3, ↓x_ixT4, ↓x_ixT5, ↓x_lc, ↓x_wipe0, ↓x_wipe1, ↓x_join, ↓x_gT, ↓x_gsN, ↓x_gsC, ↓x_notV, ↓x_andV, ↓x_orV, ↓x_chain, ↓x_tape1, ↓x_v0, ↓x_st0, ↓x_ap0, ↓x_io0, ↓x_lo0, ↓x_ro0, ↓x_v1, ↓x_st1, ↓x_ap1, ↓x_io1, ↓x_lo1, ↓x_ro1, ↓x_v2, ↓x_st2, ↓x_ap2, ↓x_io2, ↓x_lo2, ↓x_ro2, ↓x_v3, ↓x_st3, ↓x_ap3, ↓x_io3, ↓x_lo3, ↓x_ro3, ↓x_v4, ↓x_st4, ↓x_ap4, ↓x_io4, ↓x_lo4, ↓x_ro4, ↓x_v5, ↓x_st5, ↓x_ap5, ↓x_io5, ↓x_lo5, ↓x_ro5, ↓x_v6, ↓x_st6, ↓x_ap6, ↓x_io6, ↓x_lo6, ↓x_ro6, ↓x_v7, ↓x_st7, ↓x_ap7, ↓x_io7, ↓x_lo7, ↓x_ro7, ↓x_v8, ↓x_st8, ↓x_ap8, ↓x_io8, ↓x_lo8, ↓x_ro8, ↓x_v9, ↓x_st9, ↓x_ap9, ↓x_io9, ↓x_lo9, ↓x_ro9, ↓x_v10, ↓x_st10, ↓x_ap10, ↓x_io10, ↓x_lo10, ↓x_ro10, ↓x_v11, ↓x_st11, ↓x_ap11, ↓x_io11, ↓x_lo11, ↓x_ro11, ↓x_v12, ↓x_v13, ↓x_v14, ↓x_v15, ↓x_ss0, ↓x_ls0, ↓x_subII, ↓x_subBB, ↓x_repr, ↓x_sw, ↓x_M1, ↓x_par, ↓x_gSt1, ↓x_gSt3, ↓x_fo0, ↓x_fd0, ↓x_po0, ↓x_pt0, ↓x_fo1, ↓x_fd1, ↓x_po1, ↓x_pt1, ↓x_fo2, ↓x_fd2, ↓x_po2, ↓x_pt2, ↓x_fo3, ↓x_fd3, ↓x_po3, ↓x_pt3, ↓x_fo4, ↓x_fd4, ↓x_po4, ↓x_pt4, ↓x_fo5, ↓x_fd5, ↓x_po5, ↓x_pt5, ↓x_fo6, ↓x_fd6, ↓x_po6, ↓x_pt6, ↓x_fo7, ↓x_fd7, ↓x_po7, ↓x_pt7, ↓x_fo8, ↓x_fd8, ↓x_po8, ↓x_pt8, ↓x_fo9, ↓x_fd9, ↓x_po9, ↓x_pt9, ↓x_fo10, ↓x_fd10, ↓x_po10, ↓x_pt10, ↓x_fo11, ↓x_fd11, ↓x_po11, ↓x_pt11, ↓x_plI, ↓x_plB, ↓x_plS, ↓x_in2, ↓x_in3, ↓x_sl1T, ↓x_sl1L, ↓x_slS, ↓x_tuL, ↓x_tuT, ↓x_enumD, ↓x_iAsc, ↓x_eq0T, ↓x_eq0L, ↓x_mulT, ↓x_pu0, ↓x_pu1, ↓x_pu2, ↓x_pu3, ↓x_pu4, ↓x_pu5, ↓x_pu6, ↓x_pu7, ↓x_pu8, ↓x_pu9, ↓x_pu10, ↓x_pu11, ↓x_isB, ↓x_isNB, ↓x_nonD, ↓x_in4, ↓x_nin4, ↓x_nin2, ↓x_tupRg, ↓x_lstRg, ↓x_g_LIMIT, ↓x_g_MAX_CHOICES, ↓x_g_MAX_DEPTH, ↓x_g_MAX_ORDER, ↓x_g_MAX_TEXT, ↓x_g_TESTS, List.cons_append, List.nil_append, List.replicate_succ, List.replicate_zero, List.set_cons_zero, List.set_cons_succ, List.getElem?_cons_zero, List.getElem?_cons_succ, decide_eq_true_eq, Bool.false_eq_true, Bool.true_eq_false, ↓reduceIte, Bool.not_true, Bool.not_false, decide_true, decide_false, isTy, isTyK, kindD, PySem.sizeLine_eq, List.length_cons, List.length_nil, true_and, and_true, true_implies, Bool.not_eq_true', decide_eq_false_iff_not, Nat.reduceAdd, Nat.reduceLeDiff, Nat.reduceLT, Int.reduceAdd, Int.reduceSub, Int.reduceLT, Int.reduceLE, Int.reduceNeg, Int.reduceEq, Nat.reduceEqDiff, not_true_eq_false, not_false_eq_true]
                      simpa [List.getD, List.getElem?_eq_getElem k1, List.getElem?_eq_getElem k2] using hN
                    · rw [List.nil_append, show ((List.range' 0 ((ss.map colI).length - 1)).map fun k => PyData.bool (decide ((ss.map colI).getD k 0 < (ss.map colI).getD (k + 1) 0))) = ((List.range' 0 ((ss.map colI).length - 1)).map fun k => decide ((ss.map colI).getD k 0 < (ss.map colI).getD (k + 1) 0)).map PyData.bool by rw [List.map_map]; rfl]
                      refine nin_false _ ?_
                      rw [asc_at]
                      exact h3
              · rw [if_neg eo] at hr
                cases hr
            · rw [run_seen] at hr
              by_cases eo : orderW w [] os = true
              · rw [if_pos eo] at hr
                cases hr
              · have eo' : orderW w [] os = false := by simpa using eo
                rw [eo'] at h2
                exact h2
          | _ =>
            simp only [↓x_fnD, ↓x_skip, ↓x_seq, ↓x_brk, ↓x_cnt, ↓x_exp, ↓x_ret, ↓x_retN, ↓x_ifS, ↓x_set, ↓x_asg, ↓x_own, ↓x_fLst, ↓x_tape, ↓x_C, ↓x_op, ↓x_un, ↓x_test, ↓x_and, ↓x_or, ↓x_not, ↓x_if, ↓x_dnil, ↓x_dcons, ↓x_anil, ↓x_acons, ↓x_tup, ↓x_lst, ↓x_call, ↓x_fn, ↓x_isi, ↓x_new, ↓x_gN, ↓x_yes, ↓x_for, ↓x_iData, ↓x_iRg1, ↓x_oNo, ↓x_oSome, ↓x_sl, ↓x_mD1, ↓x_mD2, ↓x_mD3, ↓x_mD4, ↓x_mD5, ↓x_mT0, ↓x_mT1, ↓x_mT2, ↓x_mT3, ↓x_mT4, ↓x_eqI, ↓x_eqS, ↓x_eqB, ↓x_eqIS, ↓x_eqSI, ↓x_eqNN, ↓x_eqNI, ↓x_eqIN, ↓x_eqNS, ↓x_eqSN, ↓x_neI, ↓x_neS, ↓x_neB, ↓x_ltI, ↓x_ltS, ↓x_leI, ↓x_leS, ↓x_gtI, ↓x_gtS, ↓x_geI, ↓x_geS, ↓x_isN, ↓x_notN, ↓x_nonN, ↓x_nonI, ↓x_nonB, ↓x_nonS, ↓x_nonT, ↓x_nonL, ↓x_addI, ↓x_addS, ↓x_addT, ↓x_addL, ↓x_subI, ↓x_negI, ↓x_mulI, ↓x_mulS, ↓x_mulL, ↓x_modI, ↓x_divI, ↓x_powI, ↓x_lenL, ↓x_lenT, ↓x_lenS, ↓x_max2, ↓x_min2, ↓x_int1I, ↓x_int1B, ↓x_listL, ↓x_listT, ↓x_listS, ↓x_itL, ↓x_itT, ↓x_itS, ↓x_ixL0, ↓x_ixT0, ↓x_ixT1, ↓x_ixL1, ↓x_ixT2, ↓x_ixL2, ↓x_ixT3, ↓x_ixT4, ↓x_ixT5, ↓x_lc, ↓x_wipe0, ↓x_wipe1, ↓x_join, ↓x_gT, ↓x_gsN, ↓x_gsC, ↓x_notV, ↓x_andV, ↓x_orV, ↓x_chain, ↓x_tape1, ↓x_v0, ↓x_st0, ↓x_ap0, ↓x_io0, ↓x_lo0, ↓x_ro0, ↓x_v1, ↓x_st1, ↓x_ap1, ↓x_io1, ↓x_lo1, ↓x_ro1, ↓x_v2, ↓x_st2, ↓x_ap2, ↓x_io2, ↓x_lo2, ↓x_ro2, ↓x_v3, ↓x_st3, ↓x_ap3, ↓x_io3, ↓x_lo3, ↓x_ro3, ↓x_v4, ↓x_st4, ↓x_ap4, ↓x_io4, ↓x_lo4, ↓x_ro4, ↓x_v5, ↓x_st5, ↓x_ap5, ↓x_io5, ↓x_lo5, ↓x_ro5, ↓x_v6, ↓x_st6, ↓x_ap6, ↓x_io6, ↓x_lo6, ↓x_ro6, ↓x_v7, ↓x_st7, ↓x_ap7, ↓x_io7, ↓x_lo7, ↓x_ro7, ↓x_v8, ↓x_st8, ↓x_ap8, ↓x_io8, ↓x_lo8, ↓x_ro8, ↓x_v9, ↓x_st9, ↓x_ap9, ↓x_io9, ↓x_lo9, ↓x_ro9, ↓x_v10, ↓x_st10, ↓x_ap10, ↓x_io10, ↓x_lo10, ↓x_ro10, ↓x_v11, ↓x_st11, ↓x_ap11, ↓x_io11, ↓x_lo11, ↓x_ro11, ↓x_v12, ↓x_v13, ↓x_v14, ↓x_v15, ↓x_ss0, ↓x_ls0, ↓x_subII, ↓x_subBB, ↓x_repr, ↓x_sw, ↓x_M1, ↓x_par, ↓x_gSt1, ↓x_gSt3, ↓x_fo0, ↓x_fd0, ↓x_po0, ↓x_pt0, ↓x_fo1, ↓x_fd1, ↓x_po1, ↓x_pt1, ↓x_fo2, ↓x_fd2, ↓x_po2, ↓x_pt2, ↓x_fo3, ↓x_fd3, ↓x_po3, ↓x_pt3, ↓x_fo4, ↓x_fd4, ↓x_po4, ↓x_pt4, ↓x_fo5, ↓x_fd5, ↓x_po5, ↓x_pt5, ↓x_fo6, ↓x_fd6, ↓x_po6, ↓x_pt6, ↓x_fo7, ↓x_fd7, ↓x_po7, ↓x_pt7, ↓x_fo8, ↓x_fd8, ↓x_po8, ↓x_pt8, ↓x_fo9, ↓x_fd9, ↓x_po9, ↓x_pt9, ↓x_fo10, ↓x_fd10, ↓x_po10, ↓x_pt10, ↓x_fo11, ↓x_fd11, ↓x_po11, ↓x_pt11, ↓x_plI, ↓x_plB, ↓x_plS, ↓x_in2, ↓x_in3, ↓x_sl1T, ↓x_sl1L, ↓x_slS, ↓x_tuL, ↓x_tuT, ↓x_enumD, ↓x_iAsc, ↓x_eq0T, ↓x_eq0L, ↓x_mulT, ↓x_pu0, ↓x_pu1, ↓x_pu2, ↓x_pu3, ↓x_pu4, ↓x_pu5, ↓x_pu6, ↓x_pu7, ↓x_pu8, ↓x_pu9, ↓x_pu10, ↓x_pu11, ↓x_isB, ↓x_isNB, ↓x_nonD, ↓x_in4, ↓x_nin4, ↓x_nin2, ↓x_tupRg, ↓x_lstRg, ↓x_g_LIMIT, ↓x_g_MAX_CHOICES, ↓x_g_MAX_DEPTH, ↓x_g_MAX_ORDER, ↓x_g_MAX_TEXT, ↓x_g_TESTS, List.cons_append, List.nil_append, List.replicate_succ, List.replicate_zero, List.set_cons_zero, List.set_cons_succ, List.getElem?_cons_zero, List.getElem?_cons_succ, decide_eq_true_eq, Bool.false_eq_true, Bool.true_eq_false, ↓reduceIte, Bool.not_true, Bool.not_false, decide_true, decide_false, isTy, isTyK, kindD, PySem.sizeLine_eq, List.length_cons, List.length_nil, true_and, and_true, true_implies, Bool.not_eq_true', decide_eq_false_iff_not, Nat.reduceAdd, Nat.reduceLeDiff, Nat.reduceLT, Int.reduceAdd, Int.reduceSub, Int.reduceLT, Int.reduceLE, Int.reduceNeg, Int.reduceEq, Nat.reduceEqDiff, not_true_eq_false, not_false_eq_true]
            rw [show shownB w _ = false from rfl, Bool.and_false] at h2
            exact h2
        · have e5 : (4 : Int) < (os.length : Int) := by omega
          rw [decide_eq_false e4] at h2
          simp only [e5, ↓x_fnD, ↓x_skip, ↓x_seq, ↓x_brk, ↓x_cnt, ↓x_exp, ↓x_ret, ↓x_retN, ↓x_ifS, ↓x_set, ↓x_asg, ↓x_own, ↓x_fLst, ↓x_tape, ↓x_C, ↓x_op, ↓x_un, ↓x_test, ↓x_and, ↓x_or, ↓x_not, ↓x_if, ↓x_dnil, ↓x_dcons, ↓x_anil, ↓x_acons, ↓x_tup, ↓x_lst, ↓x_call, ↓x_fn, ↓x_isi, ↓x_new, ↓x_gN, ↓x_yes, ↓x_for, ↓x_iData, ↓x_iRg1, ↓x_oNo, ↓x_oSome, ↓x_sl, ↓x_mD1, ↓x_mD2, ↓x_mD3, ↓x_mD4, ↓x_mD5, ↓x_mT0, ↓x_mT1, ↓x_mT2, ↓x_mT3, ↓x_mT4, ↓x_eqI, ↓x_eqS, ↓x_eqB, ↓x_eqIS, ↓x_eqSI, ↓x_eqNN, ↓x_eqNI, ↓x_eqIN, ↓x_eqNS, ↓x_eqSN, ↓x_neI, ↓x_neS, ↓x_neB, ↓x_ltI, ↓x_ltS, ↓x_leI, ↓x_leS, ↓x_gtI, ↓x_gtS, ↓x_geI, ↓x_geS, ↓x_isN, ↓x_notN, ↓x_nonN, ↓x_nonI, ↓x_nonB, ↓x_nonS, ↓x_nonT, ↓x_nonL, ↓x_addI, ↓x_addS, ↓x_addT, ↓x_addL, ↓x_subI, ↓x_negI, ↓x_mulI, ↓x_mulS, ↓x_mulL, ↓x_modI, ↓x_divI, ↓x_powI, ↓x_lenL, ↓x_lenT, ↓x_lenS, ↓x_max2, ↓x_min2, ↓x_int1I, ↓x_int1B, ↓x_listL, ↓x_listT, ↓x_listS, ↓x_itL, ↓x_itT, ↓x_itS, ↓x_ixL0, ↓x_ixT0, ↓x_ixT1, ↓x_ixL1, ↓x_ixT2, ↓x_ixL2, ↓x_ixT3, ↓x_ixT4, ↓x_ixT5, ↓x_lc, ↓x_wipe0, ↓x_wipe1, ↓x_join, ↓x_gT, ↓x_gsN, ↓x_gsC, ↓x_notV, ↓x_andV, ↓x_orV, ↓x_chain, ↓x_tape1, ↓x_v0, ↓x_st0, ↓x_ap0, ↓x_io0, ↓x_lo0, ↓x_ro0, ↓x_v1, ↓x_st1, ↓x_ap1, ↓x_io1, ↓x_lo1, ↓x_ro1, ↓x_v2, ↓x_st2, ↓x_ap2, ↓x_io2, ↓x_lo2, ↓x_ro2, ↓x_v3, ↓x_st3, ↓x_ap3, ↓x_io3, ↓x_lo3, ↓x_ro3, ↓x_v4, ↓x_st4, ↓x_ap4, ↓x_io4, ↓x_lo4, ↓x_ro4, ↓x_v5, ↓x_st5, ↓x_ap5, ↓x_io5, ↓x_lo5, ↓x_ro5, ↓x_v6, ↓x_st6, ↓x_ap6, ↓x_io6, ↓x_lo6, ↓x_ro6, ↓x_v7, ↓x_st7, ↓x_ap7, ↓x_io7, ↓x_lo7, ↓x_ro7, ↓x_v8, ↓x_st8, ↓x_ap8, ↓x_io8, ↓x_lo8, ↓x_ro8, ↓x_v9, ↓x_st9, ↓x_ap9, ↓x_io9, ↓x_lo9, ↓x_ro9, ↓x_v10, ↓x_st10, ↓x_ap10, ↓x_io10, ↓x_lo10, ↓x_ro10, ↓x_v11, ↓x_st11, ↓x_ap11, ↓x_io11, ↓x_lo11, ↓x_ro11, ↓x_v12, ↓x_v13, ↓x_v14, ↓x_v15, ↓x_ss0, ↓x_ls0, ↓x_subII, ↓x_subBB, ↓x_repr, ↓x_sw, ↓x_M1, ↓x_par, ↓x_gSt1, ↓x_gSt3, ↓x_fo0, ↓x_fd0, ↓x_po0, ↓x_pt0, ↓x_fo1, ↓x_fd1, ↓x_po1, ↓x_pt1, ↓x_fo2, ↓x_fd2, ↓x_po2, ↓x_pt2, ↓x_fo3, ↓x_fd3, ↓x_po3, ↓x_pt3, ↓x_fo4, ↓x_fd4, ↓x_po4, ↓x_pt4, ↓x_fo5, ↓x_fd5, ↓x_po5, ↓x_pt5, ↓x_fo6, ↓x_fd6, ↓x_po6, ↓x_pt6, ↓x_fo7, ↓x_fd7, ↓x_po7, ↓x_pt7, ↓x_fo8, ↓x_fd8, ↓x_po8, ↓x_pt8, ↓x_fo9, ↓x_fd9, ↓x_po9, ↓x_pt9, ↓x_fo10, ↓x_fd10, ↓x_po10, ↓x_pt10, ↓x_fo11, ↓x_fd11, ↓x_po11, ↓x_pt11, ↓x_plI, ↓x_plB, ↓x_plS, ↓x_in2, ↓x_in3, ↓x_sl1T, ↓x_sl1L, ↓x_slS, ↓x_tuL, ↓x_tuT, ↓x_enumD, ↓x_iAsc, ↓x_eq0T, ↓x_eq0L, ↓x_mulT, ↓x_pu0, ↓x_pu1, ↓x_pu2, ↓x_pu3, ↓x_pu4, ↓x_pu5, ↓x_pu6, ↓x_pu7, ↓x_pu8, ↓x_pu9, ↓x_pu10, ↓x_pu11, ↓x_isB, ↓x_isNB, ↓x_nonD, ↓x_in4, ↓x_nin4, ↓x_nin2, ↓x_tupRg, ↓x_lstRg, ↓x_g_LIMIT, ↓x_g_MAX_CHOICES, ↓x_g_MAX_DEPTH, ↓x_g_MAX_ORDER, ↓x_g_MAX_TEXT, ↓x_g_TESTS, List.cons_append, List.nil_append, List.replicate_succ, List.replicate_zero, List.set_cons_zero, List.set_cons_succ, List.getElem?_cons_zero, List.getElem?_cons_succ, decide_eq_true_eq, Bool.false_eq_true, Bool.true_eq_false, ↓reduceIte, Bool.not_true, Bool.not_false, decide_true, decide_false, isTy, isTyK, kindD, PySem.sizeLine_eq, List.length_cons, List.length_nil, true_and, and_true, true_implies, Bool.not_eq_true', decide_eq_false_iff_not, Nat.reduceAdd, Nat.reduceLeDiff, Nat.reduceLT, Int.reduceAdd, Int.reduceSub, Int.reduceLT, Int.reduceLE, Int.reduceNeg, Int.reduceEq, Nat.reduceEqDiff, not_true_eq_false, not_false_eq_true]
          exact h2
      | _ =>
        simp only [↓x_fnD, ↓x_skip, ↓x_seq, ↓x_brk, ↓x_cnt, ↓x_exp, ↓x_ret, ↓x_retN, ↓x_ifS, ↓x_set, ↓x_asg, ↓x_own, ↓x_fLst, ↓x_tape, ↓x_C, ↓x_op, ↓x_un, ↓x_test, ↓x_and, ↓x_or, ↓x_not, ↓x_if, ↓x_dnil, ↓x_dcons, ↓x_anil, ↓x_acons, ↓x_tup, ↓x_lst, ↓x_call, ↓x_fn, ↓x_isi, ↓x_new, ↓x_gN, ↓x_yes, ↓x_for, ↓x_iData, ↓x_iRg1, ↓x_oNo, ↓x_oSome, ↓x_sl, ↓x_mD1, ↓x_mD2, ↓x_mD3, ↓x_mD4, ↓x_mD5, ↓x_mT0, ↓x_mT1, ↓x_mT2, ↓x_mT3, ↓x_mT4, ↓x_eqI, ↓x_eqS, ↓x_eqB, ↓x_eqIS, ↓x_eqSI, ↓x_eqNN, ↓x_eqNI, ↓x_eqIN, ↓x_eqNS, ↓x_eqSN, ↓x_neI, ↓x_neS, ↓x_neB, ↓x_ltI, ↓x_ltS, ↓x_leI, ↓x_leS, ↓x_gtI, ↓x_gtS, ↓x_geI, ↓x_geS, ↓x_isN, ↓x_notN, ↓x_nonN, ↓x_nonI, ↓x_nonB, ↓x_nonS, ↓x_nonT, ↓x_nonL, ↓x_addI, ↓x_addS, ↓x_addT, ↓x_addL, ↓x_subI, ↓x_negI, ↓x_mulI, ↓x_mulS, ↓x_mulL, ↓x_modI, ↓x_divI, ↓x_powI, ↓x_lenL, ↓x_lenT, ↓x_lenS, ↓x_max2, ↓x_min2, ↓x_int1I, ↓x_int1B, ↓x_listL, ↓x_listT, ↓x_listS, ↓x_itL, ↓x_itT, ↓x_itS, ↓x_ixL0, ↓x_ixT0, ↓x_ixT1, ↓x_ixL1, ↓x_ixT2, ↓x_ixL2, ↓x_ixT3, ↓x_ixT4, ↓x_ixT5, ↓x_lc, ↓x_wipe0, ↓x_wipe1, ↓x_join, ↓x_gT, ↓x_gsN, ↓x_gsC, ↓x_notV, ↓x_andV, ↓x_orV, ↓x_chain, ↓x_tape1, ↓x_v0, ↓x_st0, ↓x_ap0, ↓x_io0, ↓x_lo0, ↓x_ro0, ↓x_v1, ↓x_st1, ↓x_ap1, ↓x_io1, ↓x_lo1, ↓x_ro1, ↓x_v2, ↓x_st2, ↓x_ap2, ↓x_io2, ↓x_lo2, ↓x_ro2, ↓x_v3, ↓x_st3, ↓x_ap3, ↓x_io3, ↓x_lo3, ↓x_ro3, ↓x_v4, ↓x_st4, ↓x_ap4, ↓x_io4, ↓x_lo4, ↓x_ro4, ↓x_v5, ↓x_st5, ↓x_ap5, ↓x_io5, ↓x_lo5, ↓x_ro5, ↓x_v6, ↓x_st6, ↓x_ap6, ↓x_io6, ↓x_lo6, ↓x_ro6, ↓x_v7, ↓x_st7, ↓x_ap7, ↓x_io7, ↓x_lo7, ↓x_ro7, ↓x_v8, ↓x_st8, ↓x_ap8, ↓x_io8, ↓x_lo8, ↓x_ro8, ↓x_v9, ↓x_st9, ↓x_ap9, ↓x_io9, ↓x_lo9, ↓x_ro9, ↓x_v10, ↓x_st10, ↓x_ap10, ↓x_io10, ↓x_lo10, ↓x_ro10, ↓x_v11, ↓x_st11, ↓x_ap11, ↓x_io11, ↓x_lo11, ↓x_ro11, ↓x_v12, ↓x_v13, ↓x_v14, ↓x_v15, ↓x_ss0, ↓x_ls0, ↓x_subII, ↓x_subBB, ↓x_repr, ↓x_sw, ↓x_M1, ↓x_par, ↓x_gSt1, ↓x_gSt3, ↓x_fo0, ↓x_fd0, ↓x_po0, ↓x_pt0, ↓x_fo1, ↓x_fd1, ↓x_po1, ↓x_pt1, ↓x_fo2, ↓x_fd2, ↓x_po2, ↓x_pt2, ↓x_fo3, ↓x_fd3, ↓x_po3, ↓x_pt3, ↓x_fo4, ↓x_fd4, ↓x_po4, ↓x_pt4, ↓x_fo5, ↓x_fd5, ↓x_po5, ↓x_pt5, ↓x_fo6, ↓x_fd6, ↓x_po6, ↓x_pt6, ↓x_fo7, ↓x_fd7, ↓x_po7, ↓x_pt7, ↓x_fo8, ↓x_fd8, ↓x_po8, ↓x_pt8, ↓x_fo9, ↓x_fd9, ↓x_po9, ↓x_pt9, ↓x_fo10, ↓x_fd10, ↓x_po10, ↓x_pt10, ↓x_fo11, ↓x_fd11, ↓x_po11, ↓x_pt11, ↓x_plI, ↓x_plB, ↓x_plS, ↓x_in2, ↓x_in3, ↓x_sl1T, ↓x_sl1L, ↓x_slS, ↓x_tuL, ↓x_tuT, ↓x_enumD, ↓x_iAsc, ↓x_eq0T, ↓x_eq0L, ↓x_mulT, ↓x_pu0, ↓x_pu1, ↓x_pu2, ↓x_pu3, ↓x_pu4, ↓x_pu5, ↓x_pu6, ↓x_pu7, ↓x_pu8, ↓x_pu9, ↓x_pu10, ↓x_pu11, ↓x_isB, ↓x_isNB, ↓x_nonD, ↓x_in4, ↓x_nin4, ↓x_nin2, ↓x_tupRg, ↓x_lstRg, ↓x_g_LIMIT, ↓x_g_MAX_CHOICES, ↓x_g_MAX_DEPTH, ↓x_g_MAX_ORDER, ↓x_g_MAX_TEXT, ↓x_g_TESTS, List.cons_append, List.nil_append, List.replicate_succ, List.replicate_zero, List.set_cons_zero, List.set_cons_succ, List.getElem?_cons_zero, List.getElem?_cons_succ, decide_eq_true_eq, Bool.false_eq_true, Bool.true_eq_false, ↓reduceIte, Bool.not_true, Bool.not_false, decide_true, decide_false, isTy, isTyK, kindD, PySem.sizeLine_eq, List.length_cons, List.length_nil, true_and, and_true, true_implies, Bool.not_eq_true', decide_eq_false_iff_not, Nat.reduceAdd, Nat.reduceLeDiff, Nat.reduceLT, Int.reduceAdd, Int.reduceSub, Int.reduceLT, Int.reduceLE, Int.reduceNeg, Int.reduceEq, Nat.reduceEqDiff, not_true_eq_false, not_false_eq_true]
        exact h'
    · have e3 : ¬ ((xs.length : Int) + 1 + 1 + 1 + 1 = 3) := by omega
      simp only [b_law_due, ↓x_fnD, ↓x_skip, ↓x_seq, ↓x_brk, ↓x_cnt, ↓x_exp, ↓x_ret, ↓x_retN, ↓x_ifS, ↓x_set, ↓x_asg, ↓x_own, ↓x_fLst, ↓x_tape, ↓x_C, ↓x_op, ↓x_un, ↓x_test, ↓x_and, ↓x_or, ↓x_not, ↓x_if, ↓x_dnil, ↓x_dcons, ↓x_anil, ↓x_acons, ↓x_tup, ↓x_lst, ↓x_call, ↓x_fn, ↓x_isi, ↓x_new, ↓x_gN, ↓x_yes, ↓x_for, ↓x_iData, ↓x_iRg1, ↓x_oNo, ↓x_oSome, ↓x_sl, ↓x_mD1, ↓x_mD2, ↓x_mD3, ↓x_mD4, ↓x_mD5, ↓x_mT0, ↓x_mT1, ↓x_mT2, ↓x_mT3, ↓x_mT4, ↓x_eqI, ↓x_eqS, ↓x_eqB, ↓x_eqIS, ↓x_eqSI, ↓x_eqNN, ↓x_eqNI, ↓x_eqIN, ↓x_eqNS, ↓x_eqSN, ↓x_neI, ↓x_neS, ↓x_neB, ↓x_ltI, ↓x_ltS, ↓x_leI, ↓x_leS, ↓x_gtI, ↓x_gtS, ↓x_geI, ↓x_geS, ↓x_isN, ↓x_notN, ↓x_nonN, ↓x_nonI, ↓x_nonB, ↓x_nonS, ↓x_nonT, ↓x_nonL, ↓x_addI, ↓x_addS, ↓x_addT, ↓x_addL, ↓x_subI, ↓x_negI, ↓x_mulI, ↓x_mulS, ↓x_mulL, ↓x_modI, ↓x_divI, ↓x_powI, ↓x_lenL, ↓x_lenT, ↓x_lenS, ↓x_max2, ↓x_min2, ↓x_int1I, ↓x_int1B, ↓x_listL, ↓x_listT, ↓x_listS, ↓x_itL, ↓x_itT, ↓x_itS, ↓x_ixL0, ↓x_ixT0, ↓x_ixT1, ↓x_ixL1, ↓x_ixT2, ↓x_ixL2, ↓x_ixT3, ↓x_ixT4, ↓x_ixT5, ↓x_lc, ↓x_wipe0, ↓x_wipe1, ↓x_join, ↓x_gT, ↓x_gsN, ↓x_gsC, ↓x_notV, ↓x_andV, ↓x_orV, ↓x_chain, ↓x_tape1, ↓x_v0, ↓x_st0, ↓x_ap0, ↓x_io0, ↓x_lo0, ↓x_ro0, ↓x_v1, ↓x_st1, ↓x_ap1, ↓x_io1, ↓x_lo1, ↓x_ro1, ↓x_v2, ↓x_st2, ↓x_ap2, ↓x_io2, ↓x_lo2, ↓x_ro2, ↓x_v3, ↓x_st3, ↓x_ap3, ↓x_io3, ↓x_lo3, ↓x_ro3, ↓x_v4, ↓x_st4, ↓x_ap4, ↓x_io4, ↓x_lo4, ↓x_ro4, ↓x_v5, ↓x_st5, ↓x_ap5, ↓x_io5, ↓x_lo5, ↓x_ro5, ↓x_v6, ↓x_st6, ↓x_ap6, ↓x_io6, ↓x_lo6, ↓x_ro6, ↓x_v7, ↓x_st7, ↓x_ap7, ↓x_io7, ↓x_lo7, ↓x_ro7, ↓x_v8, ↓x_st8, ↓x_ap8, ↓x_io8, ↓x_lo8, ↓x_ro8, ↓x_v9, ↓x_st9, ↓x_ap9, ↓x_io9, ↓x_lo9, ↓x_ro9, ↓x_v10, ↓x_st10, ↓x_ap10, ↓x_io10, ↓x_lo10, ↓x_ro10, ↓x_v11, ↓x_st11, ↓x_ap11, ↓x_io11, ↓x_lo11, ↓x_ro11, ↓x_v12, ↓x_v13, ↓x_v14, ↓x_v15, ↓x_ss0, ↓x_ls0, ↓x_subII, ↓x_subBB, ↓x_repr, ↓x_sw, ↓x_M1, ↓x_par, ↓x_gSt1, ↓x_gSt3, ↓x_fo0, ↓x_fd0, ↓x_po0, ↓x_pt0, ↓x_fo1, ↓x_fd1, ↓x_po1, ↓x_pt1, ↓x_fo2, ↓x_fd2, ↓x_po2, ↓x_pt2, ↓x_fo3, ↓x_fd3, ↓x_po3, ↓x_pt3, ↓x_fo4, ↓x_fd4, ↓x_po4, ↓x_pt4, ↓x_fo5, ↓x_fd5, ↓x_po5, ↓x_pt5, ↓x_fo6, ↓x_fd6, ↓x_po6, ↓x_pt6, ↓x_fo7, ↓x_fd7, ↓x_po7, ↓x_pt7, ↓x_fo8, ↓x_fd8, ↓x_po8, ↓x_pt8, ↓x_fo9, ↓x_fd9, ↓x_po9, ↓x_pt9, ↓x_fo10, ↓x_fd10, ↓x_po10, ↓x_pt10, ↓x_fo11, ↓x_fd11, ↓x_po11, ↓x_pt11, ↓x_plI, ↓x_plB, ↓x_plS, ↓x_in2, ↓x_in3, ↓x_sl1T, ↓x_sl1L, ↓x_slS, ↓x_tuL, ↓x_tuT, ↓x_enumD, ↓x_iAsc, ↓x_eq0T, ↓x_eq0L, ↓x_mulT, ↓x_pu0, ↓x_pu1, ↓x_pu2, ↓x_pu3, ↓x_pu4, ↓x_pu5, ↓x_pu6, ↓x_pu7, ↓x_pu8, ↓x_pu9, ↓x_pu10, ↓x_pu11, ↓x_isB, ↓x_isNB, ↓x_nonD, ↓x_in4, ↓x_nin4, ↓x_nin2, ↓x_tupRg, ↓x_lstRg, ↓x_g_LIMIT, ↓x_g_MAX_CHOICES, ↓x_g_MAX_DEPTH, ↓x_g_MAX_ORDER, ↓x_g_MAX_TEXT, ↓x_g_TESTS, List.cons_append, List.nil_append, List.replicate_succ, List.replicate_zero, List.set_cons_zero, List.set_cons_succ, List.getElem?_cons_zero, List.getElem?_cons_succ, decide_eq_true_eq, Bool.false_eq_true, Bool.true_eq_false, ↓reduceIte, Bool.not_true, Bool.not_false, decide_true, decide_false, isTy, isTyK, kindD, PySem.sizeLine_eq, List.length_cons, List.length_nil, true_and, and_true, true_implies, Bool.not_eq_true', decide_eq_false_iff_not, Nat.reduceAdd, Nat.reduceLeDiff, Nat.reduceLT, Int.reduceAdd, Int.reduceSub, Int.reduceLT, Int.reduceLE, Int.reduceNeg, Int.reduceEq, Nat.reduceEqDiff, not_true_eq_false, not_false_eq_true, List.length_cons, Int.natCast_add, Int.natCast_one, e3]
      exact hQ
  | _ =>
    simp only [b_law_due, ↓x_fnD, ↓x_skip, ↓x_seq, ↓x_brk, ↓x_cnt, ↓x_exp, ↓x_ret, ↓x_retN, ↓x_ifS, ↓x_set, ↓x_asg, ↓x_own, ↓x_fLst, ↓x_tape, ↓x_C, ↓x_op, ↓x_un, ↓x_test, ↓x_and, ↓x_or, ↓x_not, ↓x_if, ↓x_dnil, ↓x_dcons, ↓x_anil, ↓x_acons, ↓x_tup, ↓x_lst, ↓x_call, ↓x_fn, ↓x_isi, ↓x_new, ↓x_gN, ↓x_yes, ↓x_for, ↓x_iData, ↓x_iRg1, ↓x_oNo, ↓x_oSome, ↓x_sl, ↓x_mD1, ↓x_mD2, ↓x_mD3, ↓x_mD4, ↓x_mD5, ↓x_mT0, ↓x_mT1, ↓x_mT2, ↓x_mT3, ↓x_mT4, ↓x_eqI, ↓x_eqS, ↓x_eqB, ↓x_eqIS, ↓x_eqSI, ↓x_eqNN, ↓x_eqNI, ↓x_eqIN, ↓x_eqNS, ↓x_eqSN, ↓x_neI, ↓x_neS, ↓x_neB, ↓x_ltI, ↓x_ltS, ↓x_leI, ↓x_leS, ↓x_gtI, ↓x_gtS, ↓x_geI, ↓x_geS, ↓x_isN, ↓x_notN, ↓x_nonN, ↓x_nonI, ↓x_nonB, ↓x_nonS, ↓x_nonT, ↓x_nonL, ↓x_addI, ↓x_addS, ↓x_addT, ↓x_addL, ↓x_subI, ↓x_negI, ↓x_mulI, ↓x_mulS, ↓x_mulL, ↓x_modI, ↓x_divI, ↓x_powI, ↓x_lenL, ↓x_lenT, ↓x_lenS, ↓x_max2, ↓x_min2, ↓x_int1I, ↓x_int1B, ↓x_listL, ↓x_listT, ↓x_listS, ↓x_itL, ↓x_itT, ↓x_itS, ↓x_ixL0, ↓x_ixT0, ↓x_ixT1, ↓x_ixL1, ↓x_ixT2, ↓x_ixL2, ↓x_ixT3, ↓x_ixT4, ↓x_ixT5, ↓x_lc, ↓x_wipe0, ↓x_wipe1, ↓x_join, ↓x_gT, ↓x_gsN, ↓x_gsC, ↓x_notV, ↓x_andV, ↓x_orV, ↓x_chain, ↓x_tape1, ↓x_v0, ↓x_st0, ↓x_ap0, ↓x_io0, ↓x_lo0, ↓x_ro0, ↓x_v1, ↓x_st1, ↓x_ap1, ↓x_io1, ↓x_lo1, ↓x_ro1, ↓x_v2, ↓x_st2, ↓x_ap2, ↓x_io2, ↓x_lo2, ↓x_ro2, ↓x_v3, ↓x_st3, ↓x_ap3, ↓x_io3, ↓x_lo3, ↓x_ro3, ↓x_v4, ↓x_st4, ↓x_ap4, ↓x_io4, ↓x_lo4, ↓x_ro4, ↓x_v5, ↓x_st5, ↓x_ap5, ↓x_io5, ↓x_lo5, ↓x_ro5, ↓x_v6, ↓x_st6, ↓x_ap6, ↓x_io6, ↓x_lo6, ↓x_ro6, ↓x_v7, ↓x_st7, ↓x_ap7, ↓x_io7, ↓x_lo7, ↓x_ro7, ↓x_v8, ↓x_st8, ↓x_ap8, ↓x_io8, ↓x_lo8, ↓x_ro8, ↓x_v9, ↓x_st9, ↓x_ap9, ↓x_io9, ↓x_lo9, ↓x_ro9, ↓x_v10, ↓x_st10, ↓x_ap10, ↓x_io10, ↓x_lo10, ↓x_ro10, ↓x_v11, ↓x_st11, ↓x_ap11, ↓x_io11, ↓x_lo11, ↓x_ro11, ↓x_v12, ↓x_v13, ↓x_v14, ↓x_v15, ↓x_ss0, ↓x_ls0, ↓x_subII, ↓x_subBB, ↓x_repr, ↓x_sw, ↓x_M1, ↓x_par, ↓x_gSt1, ↓x_gSt3, ↓x_fo0, ↓x_fd0, ↓x_po0, ↓x_pt0, ↓x_fo1, ↓x_fd1, ↓x_po1, ↓x_pt1, ↓x_fo2, ↓x_fd2, ↓x_po2, ↓x_pt2, ↓x_fo3, ↓x_fd3, ↓x_po3, ↓x_pt3, ↓x_fo4, ↓x_fd4, ↓x_po4, ↓x_pt4, ↓x_fo5, ↓x_fd5, ↓x_po5, ↓x_pt5, ↓x_fo6, ↓x_fd6, ↓x_po6, ↓x_pt6, ↓x_fo7, ↓x_fd7, ↓x_po7, ↓x_pt7, ↓x_fo8, ↓x_fd8, ↓x_po8, ↓x_pt8, ↓x_fo9, ↓x_fd9, ↓x_po9, ↓x_pt9, ↓x_fo10, ↓x_fd10, ↓x_po10, ↓x_pt10, ↓x_fo11, ↓x_fd11, ↓x_po11, ↓x_pt11, ↓x_plI, ↓x_plB, ↓x_plS, ↓x_in2, ↓x_in3, ↓x_sl1T, ↓x_sl1L, ↓x_slS, ↓x_tuL, ↓x_tuT, ↓x_enumD, ↓x_iAsc, ↓x_eq0T, ↓x_eq0L, ↓x_mulT, ↓x_pu0, ↓x_pu1, ↓x_pu2, ↓x_pu3, ↓x_pu4, ↓x_pu5, ↓x_pu6, ↓x_pu7, ↓x_pu8, ↓x_pu9, ↓x_pu10, ↓x_pu11, ↓x_isB, ↓x_isNB, ↓x_nonD, ↓x_in4, ↓x_nin4, ↓x_nin2, ↓x_tupRg, ↓x_lstRg, ↓x_g_LIMIT, ↓x_g_MAX_CHOICES, ↓x_g_MAX_DEPTH, ↓x_g_MAX_ORDER, ↓x_g_MAX_TEXT, ↓x_g_TESTS, List.cons_append, List.nil_append, List.replicate_succ, List.replicate_zero, List.set_cons_zero, List.set_cons_succ, List.getElem?_cons_zero, List.getElem?_cons_succ, decide_eq_true_eq, Bool.false_eq_true, Bool.true_eq_false, ↓reduceIte, Bool.not_true, Bool.not_false, decide_true, decide_false, isTy, isTyK, kindD, PySem.sizeLine_eq, List.length_cons, List.length_nil, true_and, and_true, true_implies, Bool.not_eq_true', decide_eq_false_iff_not, Nat.reduceAdd, Nat.reduceLeDiff, Nat.reduceLT, Int.reduceAdd, Int.reduceSub, Int.reduceLT, Int.reduceLE, Int.reduceNeg, Int.reduceEq, Nat.reduceEqDiff, not_true_eq_false, not_false_eq_true]
    exact hQ
theorem ok_law_due (T : Txt K mg) {f : Addr} {fd : FuncData} (F : Fun K "_law_due" "_law_due" s_law_due f fd) : FnG P w K mg base 16 f fd ["thing", "width"] (spD P w K 2 (fnD b_law_due 6)) :=
  fn_okG F sc_law_due fun cdv A outer s H E hr hgd => by
    have hu := hr.units
    exact (s_cons (s_if (PW.pt (w_or (t_not (t_val (e_isi (T := .tuple) T.b_isinstance T.b_tuple bo_tuple (ev 0)))) (w_or (t_cmpD (oNe hu) (e_cbB bLen T.b_len bo_len (d_cons (ev 0) d_nil)) e_int) (w_or1 (t_not (t_val (e_fnG (cal_is_condition T) hr hgd (a_cons (e_ix (ev 0) e_int) (a_cons (ev 1) a_nil)) ))))))) (s_one (s_ret e_bl)) s_nil)
      (s_cons (s_asg (e_sl (ev 0) (o_some e_int) o_no) (g_tp (vs := [2, 3]) rfl (gs_cons (g_nm (vs := [2, 3]) sc_law_due.nd rfl (by first | exact Or.inl rfl | exact Or.inr rfl) (by decide)) (gs_cons (g_nm (vs := [2, 3]) sc_law_due.nd rfl (by first | exact Or.inl rfl | exact Or.inr rfl) (by decide)) gs_nil))))
      (s_cons (s_if (PW.pt (w_or (t_not (t_val (e_isi (T := .tuple) T.b_isinstance T.b_tuple bo_tuple (ev 2)))) (w_or (t_cmpD oGt (e_cbB bLen T.b_len bo_len (d_cons (ev 2) d_nil)) e_int) (w_or1 (t_not (t_val (e_isi (T := .tuple) T.b_isinstance T.b_tuple bo_tuple (ev 3)))))))) (s_one (s_ret e_bl)) s_nil)
      (s_cons (s_own sc_law_due.nd rfl (by first | exact Or.inl rfl | exact Or.inr rfl) (f_lst d_nil))
      (s_cons (s_for PassesOwn.never rfl (i_data (ev 2)) (g_nm (vs := [5]) sc_law_due.nd rfl (by first | exact Or.inl rfl | exact Or.inr rfl) (by decide)) (s_cons (s_if (PW.pt (w_or (t_not (t_val (e_isi (T := .tuple) T.b_isinstance T.b_tuple bo_tuple (ev 5)))) (w_or (t_cmpD (oNe hu) (e_cbB bLen T.b_len bo_len (d_cons (ev 5) d_nil)) e_int) (w_or1 (t_not (t_val (e_isi (T := .bool) T.b_isinstance T.b_bool bo_bool (e_ix (ev 5) e_int)))))))) (s_one (s_ret e_bl)) s_nil)
      (s_cons (s_if (PW.pt (w_or (t_not (t_val (e_fnG (cal_law_column T) hr hgd (a_cons (e_ix (ev 5) e_int) (a_cons (ev 1) a_nil)) ))) (w_or1 (t_peek 4 (t_cmpD (oInS hr) (e_ix (ev 5) e_int) (ev 4)))))) (s_one (s_ret e_bl)) s_nil)
      (s_one (s_app (i := 4) rfl (by first | exact Or.inl rfl | exact Or.inr (Or.inl rfl) | exact Or.inr (Or.inr rfl)) (e_ix (ev 5) e_int))))))
      (s_cons (s_if (t_cmpD (oInS hr) e_bl (e_new (f_lc (own := [("column", 6)]) rfl sc_law_due.nd (i_data (ev 3)) (blkOk_by (N := N_law_due) (sc := defScope s_law_due) (by decide +kernel)) (fun _ _ _ _ _ => (g_nm (vs := [6]) sc_law_due.nd rfl (by first | exact Or.inl rfl | exact Or.inr rfl) (by decide))) (fun _ _ _ _ _ => LTs.nil) (fun _ _ _ _ _ => (e_fnG (cal_law_column T) hr hgd (a_cons (ev 6) (a_cons (ev 1) a_nil)) ))))) (s_one (s_ret e_bl)) s_nil)
      (s_one (s_ret (e_cmpD (oNotInS hr) e_bl (e_new (f_lc (own := [("k", 7)]) rfl sc_law_due.nd (i_range1 T.b_range (e_bin oSubB (e_cbB bLen T.b_len bo_len (d_cons (ev 3) d_nil)) e_int)) (blkOk_by (N := N_law_due) (sc := defScope s_law_due) (by decide +kernel)) (fun _ _ _ _ _ => (g_nm (vs := [7]) sc_law_due.nd rfl (by first | exact Or.inl rfl | exact Or.inr rfl) (by decide))) (fun _ _ _ _ _ => LTs.nil) (fun _ _ _ _ _ => (e_cmpD (oLt' hu) (e_ix (ev 3) (ev 7)) (e_ix (ev 3) (e_bin oAdd (ev 7) e_int)))))))))))))))
theorem cal_law_due (T : Txt K mg) : CalG P w K mg base 16 "_law_due" (spD P w K 2 m_law_due) :=
  CalG.imp (calG_of T.f_law_due (show BindsN "_law_due" s_law_due ["thing", "width"] from fun _ _ _ _ _ _ us hl => match us, hl with | [_, _], _ => rfl) fun _ _ F => ok_law_due T F) spec_law_due
theorem sc_law_thing : FnScope N_law_thing ["tape"] (defScope s_law_thing) := ⟨rfl, rfl, rfl, by decide +kernel, rfl, by decide +kernel, by decide +kernel⟩
def b_law_thing : DS := (dSeq (dSet 1 (dLst (dCons (dC .none) (dCons (dC (.bool true)) (dCons (dC (.bool false)) (dCons (dC (.int 0)) (dCons (dC (.int 1)) (dCons (dC (.int 2)) (dCons (dC (.int 5)) (dCons (dC (.int 6)) (dCons (dUn fNeg (dC (.int 1))) (dCons (dC (.str "")) (dCons (dC (.str "all")) (dCons (dTup dNil) (dCons (dLst dNil) (dCons (dC (.dict [])) (dCons (dTup (dCons (dC (.str "all")) dNil)) (dCons (dTup (dCons (dC (.int 0)) (dCons (dC (.bool true)) dNil))) (dCons (dTup (dCons (dC (.int 0)) (dCons (dC (.bool false)) dNil))) (dCons (dTup (dCons (dC (.int 1)) (dCons (dC (.int 0)) dNil))) (dCons (dTup (dCons (dC (.int 0)) dNil)) dNil)))))))))))))))))))))
    (dSeq (dSet 1 (dOp fAdd (dVar 1) (dLst (dCons (dTup (dCons (dC (.int 0)) (dCons (dC (.int 1)) dNil))) (dCons (dTup (dCons (dC (.int 1)) (dCons (dC (.int 0)) (dCons (dC (.int 2)) dNil)))) (dCons (dTup (dCons (dTup (dCons (dC (.int 0)) (dCons (dC (.bool true)) dNil))) dNil)) (dCons (dTup (dCons (dTup (dCons (dC (.int 0)) (dCons (dC (.bool true)) dNil))) (dCons (dTup (dCons (dC (.int 0)) (dCons (dC (.bool false)) dNil))) dNil))) (dCons (dTup (dCons (dTup (dCons (dC (.int 1)) (dCons (dC (.bool false)) dNil))) (dCons (dTup (dCons (dC (.int 0)) (dCons (dC (.bool true)) dNil))) dNil))) (dCons (dTup (dCons (dC (.int 0)) (dCons (dC (.int 0)) dNil))) (dCons (dTup (dCons (dC (.bool true)) dNil)) dNil))))))))))
    (dRet (dFn m_law_one_of (aSlot 0 (aCons (dVar 1) aNil))))))
abbrev m_law_thing : List SV → EK → Prop := mT0 fun Q => ∀ d, wellB d = true → szD d ≤ 2500 → d.depth ≤ 2 → Q d
def goodB (d : D) : Bool := wellB d && (decide (szD d ≤ 2500) && decide (d.depth ≤ 2))
theorem spec_law_thing (svs : List SV) (R : EK) (_ : svs.length = 1) (h : m_law_thing svs R) : fnD b_law_thing 1 svs R := by
  obtain ⟨rfl, hQ⟩ := mT0_elim h
  have go : ∀ ds : List D, ds.all goodB = true → ∀ d ∈ ds, R d := fun ds ok d hd => by
    have := List.all_eq_true.mp ok d hd
    simp only [goodB, Bool.and_eq_true, decide_eq_true_eq] at this
    exact hQ d this.1 this.2.1 this.2.2
  simp -implicitDefEqProofs only [b_law_thing, ↓x_fnD, ↓x_skip, ↓x_seq, ↓x_brk, ↓x_cnt, ↓x_exp, ↓x_ret, ↓x_retN, ↓x_ifS, ↓x_set, ↓x_asg, ↓x_own, ↓x_fLst, ↓x_tape, ↓x_C, ↓x_op, ↓x_un, ↓x_test, ↓x_and, ↓x_or, ↓x_not, ↓x_if, ↓x_dnil, ↓x_dcons, ↓x_anil, ↓x_acons, ↓x_tup, ↓x_lst, ↓x_call, ↓x_fn, ↓x_isi, ↓x_new, ↓x_gN, ↓x_yes, ↓x_for, ↓x_iData, ↓x_iRg1, ↓x_oNo, ↓x_oSome, ↓x_sl, ↓x_mD1, ↓x_mD2, ↓x_mD3, ↓x_mD4, ↓x_mD5, ↓x_mT0, ↓x_mT1, ↓x_mT2, ↓x_mT3, ↓x_mT4, ↓x_eqI, ↓x_eqS, ↓x_eqB, ↓x_eqIS, ↓x_eqSI, ↓x_eqNN, ↓x_eqNI, ↓x_eqIN, ↓x_eqNS, ↓x_eqSN, ↓x_neI, ↓x_neS, ↓x_neB, ↓x_ltI, ↓x_ltS, ↓x_leI, ↓x_leS, ↓x_gtI, ↓x_gtS, ↓x_geI, ↓x_geS, ↓x_isN, ↓x_notN, ↓x_nonN, ↓x_nonI, ↓x_nonB, ↓x_nonS, ↓x_nonT, ↓x_nonL, ↓x_addI, ↓x_addS, ↓x_addT, ↓x_addL, ↓x_subI, ↓x_negI, ↓x_mulI, ↓x_mulS, ↓x_mulL, ↓x_modI, ↓x_divI, ↓x_powI, ↓x_lenL, ↓x_lenT, ↓x_lenS, ↓x_max2, ↓x_min2, ↓x_int1I, ↓x_int1B, ↓x_listL, ↓x_listT, ↓x_listS, ↓x_itL, ↓x_itT, ↓x_itS, ↓x_ixL0, ↓x_ixT0, ↓x_ixT1, ↓x_ixL1, ↓x_ixT2, ↓x_ixL2, ↓x_ixT3, ↓x_ixT4, ↓x_ixT5, ↓x_lc, ↓x_wipe0, ↓x_wipe1, ↓x_join, ↓x_gT, ↓x_gsN, ↓x_gsC, ↓x_notV, ↓x_andV, ↓x_orV, ↓x_chain, ↓x_tape1, ↓x_v0, ↓x_st0, ↓x_ap0, ↓x_io0, ↓x_lo0, ↓x_ro0, ↓x_v1, ↓x_st1, ↓x_ap1, ↓x_io1, ↓x_lo1, ↓x_ro1, ↓x_v2, ↓x_st2, ↓x_ap2, ↓x_io2, ↓x_lo2, ↓x_ro2, ↓x_v3, ↓x_st3, ↓x_ap3, ↓x_io3, ↓x_lo3, ↓x_ro3, ↓x_v4, ↓x_st4, ↓x_ap4, ↓x_io4, ↓x_lo4, ↓x_ro4, ↓x_v5, ↓x_st5, ↓x_ap5, ↓x_io5, ↓x_lo5, ↓x_ro5, ↓x_v6, ↓x_st6, ↓x_ap6, ↓x_io6, ↓x_lo6, ↓x_ro6, ↓x_v7, ↓x_st7, ↓x_ap7, ↓x_io7, ↓x_lo7, ↓x_ro7, ↓x_v8, ↓x_st8, ↓x_ap8, ↓x_io8, ↓x_lo8, ↓x_ro8, ↓x_v9, ↓x_st9, ↓x_ap9, ↓x_io9, ↓x_lo9, ↓x_ro9, ↓x_v10, ↓x_st10, ↓x_ap10, ↓x_io10, ↓x_lo10, ↓x_ro10, ↓x_v11, ↓x_st11, ↓x_ap11, ↓x_io11, ↓x_lo11, ↓x_ro11, ↓x_v12, ↓x_v13, ↓x_v14, ↓x_v15, ↓x_ss0, ↓x_ls0, ↓x_subII, ↓x_subBB, ↓x_repr, ↓x_sw, ↓x_M1, ↓x_par, ↓x_gSt1, ↓x_gSt3, ↓x_fo0, ↓x_fd0, ↓x_po0, ↓x_pt0, ↓x_fo1, ↓x_fd1, ↓x_po1, ↓x_pt1, ↓x_fo2, ↓x_fd2, ↓x_po2, ↓x_pt2, ↓x_fo3, ↓x_fd3, ↓x_po3, ↓x_pt3, ↓x_fo4, ↓x_fd4, ↓x_po4, ↓x_pt4, ↓x_fo5, ↓x_fd5, ↓x_po5, ↓x_pt5, ↓x_fo6, ↓x_fd6, ↓x_po6, ↓x_pt6, ↓x_fo7, ↓x_fd7, ↓x_po7, ↓x_pt7, ↓x_fo8, ↓x_fd8, ↓x_po8, ↓x_pt8, ↓x_fo9, ↓x_fd9, ↓x_po9, ↓x_pt9, ↓x_fo10, ↓x_fd10, ↓x_po10, ↓x_pt10, ↓x_fo11, ↓x_fd11, ↓x_po11, ↓x_pt11, ↓x_plI, ↓x_plB, ↓x_plS, ↓x_in2, ↓x_in3, ↓x_sl1T, ↓x_sl1L, ↓x_slS, ↓x_tuL, ↓x_tuT, ↓x_enumD, ↓x_iAsc, ↓x_eq0T, ↓x_eq0L, ↓x_mulT, ↓x_pu0, ↓x_pu1, ↓x_pu2, ↓x_pu3, ↓x_pu4, ↓x_pu5, ↓x_pu6, ↓x_pu7, ↓x_pu8, ↓x_pu9, ↓x_pu10, ↓x_pu11, ↓x_isB, ↓x_isNB, ↓x_nonD, ↓x_in4, ↓x_nin4, ↓x_nin2, ↓x_tupRg, ↓x_lstRg, ↓x_g_LIMIT, ↓x_g_MAX_CHOICES, ↓x_g_MAX_DEPTH, ↓x_g_MAX_ORDER, ↓x_g_MAX_TEXT, ↓x_g_TESTS, List.cons_append, List.nil_append, List.replicate_succ, List.replicate_zero, List.set_cons_zero, List.set_cons_succ, List.getElem?_cons_zero, List.getElem?_cons_succ, decide_eq_true_eq, Bool.false_eq_true, Bool.true_eq_false, ↓reduceIte, Bool.not_true, Bool.not_false, decide_true, decide_false, isTy, isTyK, kindD, PySem.sizeLine_eq, List.length_cons, List.length_nil, true_and, and_true, true_implies, Bool.not_eq_true', decide_eq_false_iff_not, Nat.reduceAdd, Nat.reduceLeDiff, Nat.reduceLT, Int.reduceAdd, Int.reduceSub, Int.reduceLT, Int.reduceLE, Int.reduceNeg, Int.reduceEq, Nat.reduceEqDiff, not_true_eq_false, not_false_eq_true, x_one_of]
  exact go _ (by decide +kernel)
theorem ok_law_thing (T : Txt K mg) {f : Addr} {fd : FuncData} (F : Fun K "_law_thing" "_law_thing" s_law_thing f fd) : FnG P w K mg base 3 f fd ["tape"] (spD P w K 1 (fnD b_law_thing 1)) :=
  fn_okG F sc_law_thing fun cdv A outer s H E hr hgd => by
    have hu := hr.units
    exact (s_cons (s_set sc_law_thing.nd rfl (by first | exact Or.inl rfl | exact Or.inr rfl) (e_lst (d_cons e_non (d_cons e_bl (d_cons e_bl (d_cons e_int (d_cons e_int (d_cons e_int (d_cons e_int (d_cons e_int (d_cons (e_unD oNeg e_int) (d_cons e_str (d_cons e_str (d_cons (e_tup d_nil) (d_cons (e_lst d_nil) (d_cons e_dct0 (d_cons (e_tup (d_cons e_str d_nil)) (d_cons (e_tup (d_cons e_int (d_cons e_bl d_nil))) (d_cons (e_tup (d_cons e_int (d_cons e_bl d_nil))) (d_cons (e_tup (d_cons e_int (d_cons e_int d_nil))) (d_cons (e_tup (d_cons e_int d_nil)) d_nil)))))))))))))))))))))
      (s_cons (s_set sc_law_thing.nd rfl (by first | exact Or.inl rfl | exact Or.inr rfl) (e_bin oAdd (ev 1) (e_lst (d_cons (e_tup (d_cons e_int (d_cons e_int d_nil))) (d_cons (e_tup (d_cons e_int (d_cons e_int (d_cons e_int d_nil)))) (d_cons (e_tup (d_cons (e_tup (d_cons e_int (d_cons e_bl d_nil))) d_nil)) (d_cons (e_tup (d_cons (e_tup (d_cons e_int (d_cons e_bl d_nil))) (d_cons (e_tup (d_cons e_int (d_cons e_bl d_nil))) d_nil))) (d_cons (e_tup (d_cons (e_tup (d_cons e_int (d_cons e_bl d_nil))) (d_cons (e_tup (d_cons e_int (d_cons e_bl d_nil))) d_nil))) (d_cons (e_tup (d_cons e_int (d_cons e_int d_nil))) (d_cons (e_tup (d_cons e_bl d_nil)) d_nil))))))))))
      (s_one (s_ret (e_fnG (cal_law_one_of T) hr hgd (asl 0 (a_cons (ev 1) a_nil)) )))))
theorem cal_law_thing (T : Txt K mg) : CalG P w K mg base 3 "_law_thing" (spD P w K 1 m_law_thing) :=
  CalG.imp (calG_of T.f_law_thing (show BindsN "_law_thing" s_law_thing ["tape"] from fun _ _ _ _ _ _ us hl => match us, hl with | [_], _ => rfl) fun _ _ F => ok_law_thing T F) spec_law_thing
theorem sc_law_bent : FnScope N_law_bent ["tape", "thing"] (defScope s_law_bent) := ⟨rfl, rfl, rfl, by decide +kernel, rfl, by decide +kernel, by decide +kernel⟩
def b_law_bent (mr : List SV → EK → Prop) : DS := (dSeq (dIfS (dOr (dNot (dTest (dIsI .tuple (dVar 1)))) (dOr (dTest (dOp fEqE (dVar 1) (dTup dNil))) (dTest (dOp fEq (dFn m_law_pick (aSlot 0 (aCons (dC (.int 8)) aNil))) (dC (.int 0)))))) (dRet (dFn m_law_thing (aSlot 0 aNil))) dSkip)
    (dSeq (dPar 2 3 (dCons (dFn m_law_pick (aSlot 0 (aCons (dCall fLen (dCons (dVar 1) dNil)) aNil))) (dCons (dFn m_law_pick (aSlot 0 (aCons (dC (.int 10)) aNil))) dNil)))
    (dSeq (dIfS (dTest (dOp fEq (dVar 3) (dC (.int 0)))) (dRet (dOp fAdd (dSl (dVar 1) oNo (oSome (dVar 2))) (dSl (dVar 1) (oSome (dOp fAdd (dVar 2) (dC (.int 1)))) oNo))) dSkip)
    (dSeq (dIfS (dTest (dOp fEq (dVar 3) (dC (.int 1)))) (dRet (dOp fAdd (dSl (dVar 1) oNo (oSome (dOp fAdd (dVar 2) (dC (.int 1))))) (dSl (dVar 1) (oSome (dVar 2)) oNo))) dSkip)
    (dSeq (dIfS (dTest (dOp fEq (dVar 3) (dC (.int 2)))) (dRet (dOp fAdd (dOp fAdd (dSl (dVar 1) oNo (oSome (dVar 2))) (dTup (dCons (dFn m_law_thing (aSlot 0 aNil)) dNil))) (dSl (dVar 1) (oSome (dVar 2)) oNo))) dSkip)
    (dSeq (dIfS (dTest (dOp fEq (dVar 3) (dC (.int 3)))) (dRet (dOp fAdd (dOp fAdd (dSl (dVar 1) oNo (oSome (dVar 2))) (dTup (dCons (dFn m_law_one_of (aSlot 0 (aCons (dVar 1) aNil))) dNil))) (dSl (dVar 1) (oSome (dOp fAdd (dVar 2) (dC (.int 1)))) oNo))) dSkip)
    (dSeq (dIfS (dTest (dOp fEq (dVar 3) (dC (.int 4)))) (dRet (dCall fList (dCons (dVar 1) dNil))) dSkip)
    (dRet (dOp fAdd (dOp fAdd (dSl (dVar 1) oNo (oSome (dVar 2))) (dTup (dCons (dFn mr (aSlot 0 (aCons (dOp fIx (dVar 1) (dVar 2)) aNil))) dNil))) (dSl (dVar 1) (oSome (dOp fAdd (dVar 2) (dC (.int 1)))) oNo))))))))))
-- depth 24
abbrev m_law_bent : Nat → List SV → EK → Prop := fun n => mT1 fun x Q => wellB x = true ∧ szD x ≤ 1000000 ∧ x.depth ≤ n ∧ ∀ d, wellB d = true → szD d ≤ 2 * szD x + 3000 → d.depth ≤ x.depth + 2 → Q d
theorem spec_law_bent (n : Nat) (svs : List SV) (R : EK) (_ : svs.length = 2) (h : m_law_bent n svs R) : fnD (b_law_bent (mrec m_law_bent n)) 2 svs R := by
  obtain ⟨x, rfl, hw, hz, hd, hQ⟩ := mT1_elim h
  have hT : ∀ (d : D), wellB d = true → szD d ≤ 2500 → PyData.depth d ≤ 2 → R d := fun d h1 h2 h3 => hQ d h1 (by omega) (by omega)
  cases x with
  | tuple xs =>
    have hw' : wellAll xs = true := hw
    have sx : szD (PyData.tuple xs) = szAll xs + 3 := rfl
    have dx : (PyData.tuple xs).depth = PyData.depthAll xs + 1 := by simp only [PyData.depth]
    have hl := sz_len xs
    have gen : ∀ ys : List D, (∀ y ∈ ys, y ∈ xs ∨ (wellB y = true ∧ y.depth ≤ PyData.depthAll xs + 2)) → szAll ys ≤ 2 * szAll xs + 3000 → R (.tuple ys) := fun ys hm hs => by
      refine hQ _ (show wellAll ys = true from well_all fun y hy => (hm y hy).elim (fun z => well_mem hw' z) (fun z => z.1)) ?_ ?_
      · have : szD (PyData.tuple ys) = szAll ys + 3 := rfl
        omega
      · have : (PyData.tuple ys).depth = PyData.depthAll ys + 1 := by simp only [PyData.depth]
        have := depth_all (k := PyData.depthAll xs + 2) (xs := ys) fun y hy => (hm y hy).elim (fun z => by have := depth_mem z; omega) (fun z => z.2)
        omega
    cases hxs : xs with
    | nil =>
      subst hxs
      simp -implicitDefEqProofs only [b_law_bent, ↓x_fnD, ↓x_skip, ↓x_seq, ↓x_brk, ↓x_cnt, ↓x_exp, ↓x_ret, ↓x_retN, ↓x_ifS, ↓x_set, ↓x_asg, ↓x_own, ↓x_fLst, ↓x_tape, ↓x_C, ↓x_op, ↓x_un, ↓x_test, ↓x_and, ↓x_or, ↓x_not, ↓x_if, ↓x_dnil, ↓x_dcons, ↓x_anil, ↓x_acons, ↓x_tup, ↓x_lst, ↓x_call, ↓x_fn, ↓x_isi, ↓x_new, ↓x_gN, ↓x_yes, ↓x_for, ↓x_iData, ↓x_iRg1, ↓x_oNo, ↓x_oSome, ↓x_sl, ↓x_mD1, ↓x_mD2, ↓x_mD3, ↓x_mD4, ↓x_mD5, ↓x_mT0, ↓x_mT1, ↓x_mT2, ↓x_mT3, ↓x_mT4, ↓x_eqI, ↓x_eqS, ↓x_eqB, ↓x_eqIS, ↓x_eqSI, ↓x_eqNN, ↓x_eqNI, ↓x_eqIN, ↓x_eqNS, ↓x_eqSN, ↓x_neI, ↓x_neS, ↓x_neB, ↓x_ltI, ↓x_ltS, ↓x_leI, ↓x_leS, ↓x_gtI, ↓x_gtS, ↓x_geI, ↓x_geS, ↓x_isN, ↓x_notN, ↓x_nonN, ↓x_nonI, ↓x_nonB, ↓x_nonS, ↓x_nonT, ↓x_nonL, ↓x_addI, ↓x_addS, ↓x_addT, ↓x_addL, ↓x_subI, ↓x_negI, ↓x_mulI, ↓x_mulS, ↓x_mulL, ↓x_modI, ↓x_divI, ↓x_powI, ↓x_lenL, ↓x_lenT, ↓x_lenS, ↓x_max2, ↓x_min2, ↓x_int1I, ↓x_int1B, ↓x_listL, ↓x_listT, ↓x_listS, ↓x_itL, ↓x_itT, ↓x_itS, ↓x_ixL0, ↓x_ixT0, ↓x_ixT1, ↓x_ixL1, ↓x_ixT2, ↓x_ixL2, ↓x_ixT3, ↓x_ixT4, ↓x_ixT5, ↓x_lc, ↓x_wipe0, ↓x_wipe1, ↓x_join, ↓x_gT, ↓x_gsN, ↓x_gsC, ↓x_notV, ↓x_andV, ↓x_orV, ↓x_chain, ↓x_tape1, ↓x_v0, ↓x_st0, ↓x_ap0, ↓x_io0, ↓x_lo0, ↓x_ro0, ↓x_v1, ↓x_st1, ↓x_ap1, ↓x_io1, ↓x_lo1, ↓x_ro1, ↓x_v2, ↓x_st2, ↓x_ap2, ↓x_io2, ↓x_lo2, ↓x_ro2, ↓x_v3, ↓x_st3, ↓x_ap3, ↓x_io3, ↓x_lo3, ↓x_ro3, ↓x_v4, ↓x_st4, ↓x_ap4, ↓x_io4, ↓x_lo4, ↓x_ro4, ↓x_v5, ↓x_st5, ↓x_ap5, ↓x_io5, ↓x_lo5, ↓x_ro5, ↓x_v6, ↓x_st6, ↓x_ap6, ↓x_io6, ↓x_lo6, ↓x_ro6, ↓x_v7, ↓x_st7, ↓x_ap7, ↓x_io7, ↓x_lo7, ↓x_ro7, ↓x_v8, ↓x_st8, ↓x_ap8, ↓x_io8, ↓x_lo8, ↓x_ro8, ↓x_v9, ↓x_st9, ↓x_ap9, ↓x_io9, ↓x_lo9, ↓x_ro9, ↓x_v10, ↓x_st10, ↓x_ap10, ↓x_io10, ↓x_lo10, ↓x_ro10, ↓x_v11, ↓x_st11, ↓x_ap11, ↓x_io11, ↓x_lo11, ↓x_ro11, ↓x_v12, ↓x_v13, ↓x_v14, ↓x_v15, ↓x_ss0, ↓x_ls0, ↓x_subII, ↓x_subBB, ↓x_repr, ↓x_sw, ↓x_M1, ↓x_par, ↓x_gSt1, ↓x_gSt3, ↓x_fo0, ↓x_fd0, ↓x_po0, ↓x_pt0, ↓x_fo1, ↓x_fd1, ↓x_po1, ↓x_pt1, ↓x_fo2, ↓x_fd2, ↓x_po2, ↓x_pt2, ↓x_fo3, ↓x_fd3, ↓x_po3, ↓x_pt3, ↓x_fo4, ↓x_fd4, ↓x_po4, ↓x_pt4, ↓x_fo5, ↓x_fd5, ↓x_po5, ↓x_pt5, ↓x_fo6, ↓x_fd6, ↓x_po6, ↓x_pt6, ↓x_fo7, ↓x_fd7, ↓x_po7, ↓x_pt7, ↓x_fo8, ↓x_fd8, ↓x_po8, ↓x_pt8, ↓x_fo9, ↓x_fd9, ↓x_po9, ↓x_pt9, ↓x_fo10, ↓x_fd10, ↓x_po10, ↓x_pt10, ↓x_fo11, ↓x_fd11, ↓x_po11, ↓x_pt11, ↓x_plI, ↓x_plB, ↓x_plS, ↓x_in2, ↓x_in3, ↓x_sl1T, ↓x_sl1L, ↓x_slS, ↓x_tuL, ↓x_tuT, ↓x_enumD, ↓x_iAsc, ↓x_eq0T, ↓x_eq0L, ↓x_mulT, ↓x_pu0, ↓x_pu1, ↓x_pu2, ↓x_pu3, ↓x_pu4, ↓x_pu5, ↓x_pu6, ↓x_pu7, ↓x_pu8, ↓x_pu9, ↓x_pu10, ↓x_pu11, ↓x_isB, ↓x_isNB, ↓x_nonD, ↓x_in4, ↓x_nin4, ↓x_nin2, ↓x_tupRg, ↓x_lstRg, ↓x_g_LIMIT, ↓x_g_MAX_CHOICES, ↓x_g_MAX_DEPTH, ↓x_g_MAX_ORDER, ↓x_g_MAX_TEXT, ↓x_g_TESTS, List.cons_append, List.nil_append, List.replicate_succ, List.replicate_zero, List.set_cons_zero, List.set_cons_succ, List.getElem?_cons_zero, List.getElem?_cons_succ, decide_eq_true_eq, Bool.false_eq_true, Bool.true_eq_false, ↓reduceIte, Bool.not_true, Bool.not_false, decide_true, decide_false, isTy, isTyK, kindD, PySem.sizeLine_eq, List.length_cons, List.length_nil, true_and, and_true, true_implies, Bool.not_eq_true', decide_eq_false_iff_not, Nat.reduceAdd, Nat.reduceLeDiff, Nat.reduceLT, Int.reduceAdd, Int.reduceSub, Int.reduceLT, Int.reduceLE, Int.reduceNeg, Int.reduceEq, Nat.reduceEqDiff, not_true_eq_false, not_false_eq_true, x_pick]
      exact hT
    | cons p ps =>
      rw [← hxs]
      have hne : xs.isEmpty = false := by rw [hxs]; rfl
      have hpos : 0 < xs.length := by rw [hxs]; simp
      simp -implicitDefEqProofs only [b_law_bent, ↓x_fnD, ↓x_skip, ↓x_seq, ↓x_brk, ↓x_cnt, ↓x_exp, ↓x_ret, ↓x_retN, ↓x_ifS, ↓x_set, ↓x_asg, ↓x_own, ↓x_fLst, ↓x_tape, ↓x_C, ↓x_op, ↓x_un, ↓x_test, ↓x_and, ↓x_or, ↓x_not, ↓x_if, ↓x_dnil, ↓x_dcons, ↓x_anil, ↓x_acons, ↓x_tup, ↓x_lst, ↓x_call, ↓x_fn, ↓x_isi, ↓x_new, ↓x_gN, ↓x_yes, ↓x_for, ↓x_iData, ↓x_iRg1, ↓x_oNo, ↓x_oSome, ↓x_sl, ↓x_mD1, ↓x_mD2, ↓x_mD3, ↓x_mD4, ↓x_mD5, ↓x_mT0, ↓x_mT1, ↓x_mT2, ↓x_mT3, ↓x_mT4, ↓x_eqI, ↓x_eqS, ↓x_eqB, ↓x_eqIS, ↓x_eqSI, ↓x_eqNN, ↓x_eqNI, ↓x_eqIN, ↓x_eqNS, ↓x_eqSN, ↓x_neI, ↓x_neS, ↓x_neB, ↓x_ltI, ↓x_ltS, ↓x_leI, ↓x_leS, ↓x_gtI, ↓x_gtS, ↓x_geI, ↓x_geS, ↓x_isN, ↓x_notN, ↓x_nonN, ↓x_nonI, ↓x_nonB, ↓x_nonS, ↓x_nonT, ↓x_nonL, ↓x_addI, ↓x_addS, ↓x_addT, ↓x_addL, ↓x_subI, ↓x_negI, ↓x_mulI, ↓x_mulS, ↓x_mulL, ↓x_modI, ↓x_divI, ↓x_powI, ↓x_lenL, ↓x_lenT, ↓x_lenS, ↓x_max2, ↓x_min2, ↓x_int1I, ↓x_int1B, ↓x_listL, ↓x_listT, ↓x_listS, ↓x_itL, ↓x_itT, ↓x_itS, ↓x_ixL0, ↓x_ixT0, ↓x_ixT1, ↓x_ixL1, ↓x_ixT2, ↓x_ixL2, ↓x_ixT3, ↓x_ixT4, ↓x_ixT5, ↓x_lc, ↓x_wipe0, ↓x_wipe1, ↓x_join, ↓x_gT, ↓x_gsN, ↓x_gsC, ↓x_notV, ↓x_andV, ↓x_orV, ↓x_chain, ↓x_tape1, ↓x_v0, ↓x_st0, ↓x_ap0, ↓x_io0, ↓x_lo0, ↓x_ro0, ↓x_v1, ↓x_st1, ↓x_ap1, ↓x_io1, ↓x_lo1, ↓x_ro1, ↓x_v2, ↓x_st2, ↓x_ap2, ↓x_io2, ↓x_lo2, ↓x_ro2, ↓x_v3, ↓x_st3, ↓x_ap3, ↓x_io3, ↓x_lo3, ↓x_ro3, ↓x_v4, ↓x_st4, ↓x_ap4, ↓x_io4, ↓x_lo4, ↓x_ro4, ↓x_v5, ↓x_st5, ↓x_ap5, ↓x_io5, ↓x_lo5, ↓x_ro5, ↓x_v6, ↓x_st6, ↓x_ap6, ↓x_io6, ↓x_lo6, ↓x_ro6, ↓x_v7, ↓x_st7, ↓x_ap7, ↓x_io7, ↓x_lo7, ↓x_ro7, ↓x_v8, ↓x_st8, ↓x_ap8, ↓x_io8, ↓x_lo8, ↓x_ro8, ↓x_v9, ↓x_st9, ↓x_ap9, ↓x_io9, ↓x_lo9, ↓x_ro9, ↓x_v10, ↓x_st10, ↓x_ap10, ↓x_io10, ↓x_lo10, ↓x_ro10, ↓x_v11, ↓x_st11, ↓x_ap11, ↓x_io11, ↓x_lo11, ↓x_ro11, ↓x_v12, ↓x_v13, ↓x_v14, ↓x_v15, ↓x_ss0, ↓x_ls0, ↓x_subII, ↓x_subBB, ↓x_repr, ↓x_sw, ↓x_M1, ↓x_par, ↓x_gSt1, ↓x_gSt3, ↓x_fo0, ↓x_fd0, ↓x_po0, ↓x_pt0, ↓x_fo1, ↓x_fd1, ↓x_po1, ↓x_pt1, ↓x_fo2, ↓x_fd2, ↓x_po2, ↓x_pt2, ↓x_fo3, ↓x_fd3, ↓x_po3, ↓x_pt3, ↓x_fo4, ↓x_fd4, ↓x_po4, ↓x_pt4, ↓x_fo5, ↓x_fd5, ↓x_po5, ↓x_pt5, ↓x_fo6, ↓x_fd6, ↓x_po6, ↓x_pt6, ↓x_fo7, ↓x_fd7, ↓x_po7, ↓x_pt7, ↓x_fo8, ↓x_fd8, ↓x_po8, ↓x_pt8, ↓x_fo9, ↓x_fd9, ↓x_po9, ↓x_pt9, ↓x_fo10, ↓x_fd10, ↓x_po10, ↓x_pt10, ↓x_fo11, ↓x_fd11, ↓x_po11, ↓x_pt11, ↓x_plI, ↓x_plB, ↓x_plS, ↓x_in2, ↓x_in3, ↓x_sl1T, ↓x_sl1L, ↓x_slS, ↓x_tuL, ↓x_tuT, ↓x_enumD, ↓x_iAsc, ↓x_eq0T, ↓x_eq0L, ↓x_mulT, ↓x_pu0, ↓x_pu1, ↓x_pu2, ↓x_pu3, ↓x_pu4, ↓x_pu5, ↓x_pu6, ↓x_pu7, ↓x_pu8, ↓x_pu9, ↓x_pu10, ↓x_pu11, ↓x_isB, ↓x_isNB, ↓x_nonD, ↓x_in4, ↓x_nin4, ↓x_nin2, ↓x_tupRg, ↓x_lstRg, ↓x_g_LIMIT, ↓x_g_MAX_CHOICES, ↓x_g_MAX_DEPTH, ↓x_g_MAX_ORDER, ↓x_g_MAX_TEXT, ↓x_g_TESTS, List.cons_append, List.nil_append, List.replicate_succ, List.replicate_zero, List.set_cons_zero, List.set_cons_succ, List.getElem?_cons_zero, List.getElem?_cons_succ, decide_eq_true_eq, Bool.false_eq_true, Bool.true_eq_false, ↓reduceIte, Bool.not_true, Bool.not_false, decide_true, decide_false, isTy, isTyK, kindD, PySem.sizeLine_eq, List.length_cons, List.length_nil, true_and, and_true, true_implies, Bool.not_eq_true', decide_eq_false_iff_not, Nat.reduceAdd, Nat.reduceLeDiff, Nat.reduceLT, Int.reduceAdd, Int.reduceSub, Int.reduceLT, Int.reduceLE, Int.reduceNeg, Int.reduceEq, Nat.reduceEqDiff, not_true_eq_false, not_false_eq_true, x_pick, x_one_ofT]
      rw [hne]
      simp only [Bool.true_eq_false, Bool.false_eq_true, if_false]
      refine ⟨by decide, fun r r0 r1 => ?_⟩
      split
      · exact hT
      refine ⟨⟨by omega, by omega⟩, fun a a0 a1 => ⟨by decide, fun way w0 w1 => ?_⟩⟩
      obtain ⟨k, rfl⟩ : ∃ k : Nat, a = (k : Int) := ⟨a.toNat, by omega⟩
      have hk : k < xs.length := by omega
      have ek : (k : Int) + 1 = ((k + 1 : Nat) : Int) := by omega
      have e1 : szAll (xs.take k) + szAll (xs.drop k) = szAll xs := by rw [← sz_app, List.take_append_drop]
      have e2 : szAll (xs.take (k + 1)) + szAll (xs.drop (k + 1)) = szAll xs := by rw [← sz_app, List.take_append_drop]
      have e3 : szAll (xs.drop k) = szD xs[k] + 2 + szAll (xs.drop (k + 1)) := by rw [List.drop_eq_getElem_cons hk]; rfl
      rw [ek]
      show (if way = 0 then _ else _ : Prop)
      have c1 := cut_to xs k
      have c2 := cut_to xs (k + 1)
      have c3 := cut_from xs k
      have c4 := cut_from xs (k + 1)
      have tk : ∀ {j : Nat} {y : D}, y ∈ xs.take j → y ∈ xs := fun h => List.mem_of_mem_take h
      have dk : ∀ {j : Nat} {y : D}, y ∈ xs.drop j → y ∈ xs := fun h => List.mem_of_mem_drop h
      simp only [fSl, c1, c2, c3, c4, ↓x_fnD, ↓x_skip, ↓x_seq, ↓x_brk, ↓x_cnt, ↓x_exp, ↓x_ret, ↓x_retN, ↓x_ifS, ↓x_set, ↓x_asg, ↓x_own, ↓x_fLst, ↓x_tape, ↓x_C, ↓x_op, ↓x_un, ↓x_test, ↓x_and, ↓x_or, ↓x_not, ↓x_if, ↓x_dnil, ↓x_dcons, ↓x_anil, ↓x_acons, ↓x_tup, ↓x_lst, ↓x_call, ↓x_fn, ↓x_isi, ↓x_new, ↓x_gN, ↓x_yes, ↓x_for, ↓x_iData, ↓x_iRg1, ↓x_oNo, ↓x_oSome, ↓x_sl, ↓x_mD1, ↓x_mD2, ↓x_mD3, ↓x_mD4, ↓x_mD5, ↓x_mT0, ↓x_mT1, ↓x_mT2, ↓x_mT3, ↓x_mT4, ↓x_eqI, ↓x_eqS, ↓x_eqB, ↓x_eqIS, ↓x_eqSI, ↓x_eqNN, ↓x_eqNI, ↓x_eqIN, ↓x_eqNS, ↓x_eqSN, ↓x_neI, ↓x_neS, ↓x_neB, ↓x_ltI, ↓x_ltS, ↓x_leI, ↓x_leS, ↓x_gtI, ↓x_gtS, ↓x_geI, ↓x_geS, ↓x_isN, ↓x_notN, ↓x_nonN, ↓x_nonI, ↓x_nonB, ↓x_nonS, ↓x_nonT, ↓x_nonL, ↓x_addI, ↓x_addS, ↓x_addT, ↓x_addL, ↓x_subI, ↓x_negI, ↓x_mulI, ↓x_mulS, ↓x_mulL, ↓x_modI, ↓x_divI, ↓x_powI, ↓x_lenL, ↓x_lenT, ↓x_lenS, ↓x_max2, ↓x_min2, ↓x_int1I, ↓x_int1B, ↓x_listL, ↓x_listT, ↓x_listS, ↓x_itL, ↓x_itT, ↓x_itS, ↓x_ixL0, ↓x_ixT0, ↓x_ixT1, ↓x_ixL1, ↓x_ixT2, ↓x_ixL2, ↓x_ixT3, ↓x_ixT4, ↓x_ixT5, ↓x_lc, ↓x_wipe0, ↓x_wipe1, ↓x_join, ↓x_gT, ↓x_gsN, ↓x_gsC, ↓x_notV, ↓x_andV, ↓x_orV, ↓x_chain, ↓x_tape1, ↓x_v0, ↓x_st0, ↓x_ap0, ↓x_io0, ↓x_lo0, ↓x_ro0, ↓x_v1, ↓x_st1, ↓x_ap1, ↓x_io1, ↓x_lo1, ↓x_ro1, ↓x_v2, ↓x_st2, ↓x_ap2, ↓x_io2, ↓x_lo2, ↓x_ro2, ↓x_v3, ↓x_st3, ↓x_ap3, ↓x_io3, ↓x_lo3, ↓x_ro3, ↓x_v4, ↓x_st4, ↓x_ap4, ↓x_io4, ↓x_lo4, ↓x_ro4, ↓x_v5, ↓x_st5, ↓x_ap5, ↓x_io5, ↓x_lo5, ↓x_ro5, ↓x_v6, ↓x_st6, ↓x_ap6, ↓x_io6, ↓x_lo6, ↓x_ro6, ↓x_v7, ↓x_st7, ↓x_ap7, ↓x_io7, ↓x_lo7, ↓x_ro7, ↓x_v8, ↓x_st8, ↓x_ap8, ↓x_io8, ↓x_lo8, ↓x_ro8, ↓x_v9, ↓x_st9, ↓x_ap9, ↓x_io9, ↓x_lo9, ↓x_ro9, ↓x_v10, ↓x_st10, ↓x_ap10, ↓x_io10, ↓x_lo10, ↓x_ro10, ↓x_v11, ↓x_st11, ↓x_ap11, ↓x_io11, ↓x_lo11, ↓x_ro11, ↓x_v12, ↓x_v13, ↓x_v14, ↓x_v15, ↓x_ss0, ↓x_ls0, ↓x_subII, ↓x_subBB, ↓x_repr, ↓x_sw, ↓x_M1, ↓x_par, ↓x_gSt1, ↓x_gSt3, ↓x_fo0, ↓x_fd0, ↓x_po0, ↓x_pt0, ↓x_fo1, ↓x_fd1, ↓x_po1, ↓x_pt1, ↓x_fo2, ↓x_fd2, ↓x_po2, ↓x_pt2, ↓x_fo3, ↓x_fd3, ↓x_po3, ↓x_pt3, ↓x_fo4, ↓x_fd4, ↓x_po4, ↓x_pt4, ↓x_fo5, ↓x_fd5, ↓x_po5, ↓x_pt5, ↓x_fo6, ↓x_fd6, ↓x_po6, ↓x_pt6, ↓x_fo7, ↓x_fd7, ↓x_po7, ↓x_pt7, ↓x_fo8, ↓x_fd8, ↓x_po8, ↓x_pt8, ↓x_fo9, ↓x_fd9, ↓x_po9, ↓x_pt9, ↓x_fo10, ↓x_fd10, ↓x_po10, ↓x_pt10, ↓x_fo11, ↓x_fd11, ↓x_po11, ↓x_pt11, ↓x_plI, ↓x_plB, ↓x_plS, ↓x_in2, ↓x_in3, ↓x_sl1T, ↓x_sl1L, ↓x_slS, ↓x_tuL, ↓x_tuT, ↓x_enumD, ↓x_iAsc, ↓x_eq0T, ↓x_eq0L, ↓x_mulT, ↓x_pu0, ↓x_pu1, ↓x_pu2, ↓x_pu3, ↓x_pu4, ↓x_pu5, ↓x_pu6, ↓x_pu7, ↓x_pu8, ↓x_pu9, ↓x_pu10, ↓x_pu11, ↓x_isB, ↓x_isNB, ↓x_nonD, ↓x_in4, ↓x_nin4, ↓x_nin2, ↓x_tupRg, ↓x_lstRg, ↓x_g_LIMIT, ↓x_g_MAX_CHOICES, ↓x_g_MAX_DEPTH, ↓x_g_MAX_ORDER, ↓x_g_MAX_TEXT, ↓x_g_TESTS, List.cons_append, List.nil_append, List.replicate_succ, List.replicate_zero, List.set_cons_zero, List.set_cons_succ, List.getElem?_cons_zero, List.getElem?_cons_succ, decide_eq_true_eq, Bool.false_eq_true, Bool.true_eq_false, ↓reduceIte, Bool.not_true, Bool.not_false, decide_true, decide_false, isTy, isTyK, kindD, PySem.sizeLine_eq, List.length_cons, List.length_nil, true_and, and_true, true_implies, Bool.not_eq_true', decide_eq_false_iff_not, Nat.reduceAdd, Nat.reduceLeDiff, Nat.reduceLT, Int.reduceAdd, Int.reduceSub, Int.reduceLT, Int.reduceLE, Int.reduceNeg, Int.reduceEq, Nat.reduceEqDiff, not_true_eq_false, not_false_eq_true]
      have lt : ∀ j, (xs.take j).length ≤ xs.length := fun j => by rw [List.length_take]; omega
      have ld : ∀ j, (xs.drop j).length ≤ xs.length := fun j => by rw [List.length_drop]; omega
      have l1 := lt k
      have l2 := lt (k + 1)
      have l3 := ld k
      have l4 := ld (k + 1)
      have one : ∀ d : D, szAll [d] = szD d + 2 := fun d => by simp only [szAll]
      have put : ∀ (d : D) (j : Nat), (d ∈ xs ∨ (wellB d = true ∧ d.depth ≤ PyData.depthAll xs + 2)) → szAll (xs.take k ++ [d] ++ xs.drop j) ≤ 2 * szAll xs + 3000 → R (.tuple (xs.take k ++ [d] ++ xs.drop j)) := fun d j hd hs => gen _ (fun y hy => by
        simp only [List.mem_append, List.mem_cons, List.not_mem_nil, or_false] at hy
        rcases hy with (hy | hy) | hy
        · exact .inl (tk hy)
        · subst hy
          exact hd
        · exact .inl (dk hy)) hs
      split
      · refine ⟨by omega, gen _ (fun y hy => .inl ((List.mem_append.mp hy).elim tk dk)) ?_⟩
        rw [sz_app]
        omega
      split
      · refine ⟨by omega, gen _ (fun y hy => .inl ((List.mem_append.mp hy).elim tk dk)) ?_⟩
        rw [sz_app]
        omega
      split
      · refine fun d h1 h2 h3 => ⟨by omega, by simp only [List.length_append, List.length_cons, List.length_nil]; omega, put d _ (.inr ⟨h1, by omega⟩) ?_⟩
        rw [sz_app, sz_app, one]
        omega
      split
      · refine ⟨⟨hpos, by omega⟩, fun d hd => ⟨by omega, by simp only [List.length_append, List.length_cons, List.length_nil]; omega, put d _ (.inl hd) ?_⟩⟩
        have := sz_mem hd
        rw [sz_app, sz_app, one]
        omega
      split
      · refine hQ _ hw ?_ ?_
        · have : szD (PyData.list xs) = szAll xs + 3 := rfl
          omega
        · have : (PyData.list xs).depth = PyData.depthAll xs + 1 := by simp only [PyData.depth]
          omega
      obtain ⟨n, rfl⟩ : ∃ m, n = m + 1 := ⟨n - 1, by omega⟩
      refine ix_get hk ?_
      have hm := getD_mem hk
      have ex : xs.getD k .none = xs[k] := by simp [List.getD, List.getElem?_eq_getElem hk]
      have h4 := depth_mem hm
      have h5 := sz_mem hm
      rw [← ex] at e3
      refine ⟨well_mem hw' hm, by omega, by omega, fun d h1 h2 h3 => ⟨by omega, by simp only [List.length_append, List.length_cons, List.length_nil]; omega, put d _ (.inr ⟨h1, by omega⟩) ?_⟩⟩
      rw [sz_app, sz_app, one]
      omega
  | list xs =>
    simp -implicitDefEqProofs only [b_law_bent, ↓x_fnD, ↓x_skip, ↓x_seq, ↓x_brk, ↓x_cnt, ↓x_exp, ↓x_ret, ↓x_retN, ↓x_ifS, ↓x_set, ↓x_asg, ↓x_own, ↓x_fLst, ↓x_tape, ↓x_C, ↓x_op, ↓x_un, ↓x_test, ↓x_and, ↓x_or, ↓x_not, ↓x_if, ↓x_dnil, ↓x_dcons, ↓x_anil, ↓x_acons, ↓x_tup, ↓x_lst, ↓x_call, ↓x_fn, ↓x_isi, ↓x_new, ↓x_gN, ↓x_yes, ↓x_for, ↓x_iData, ↓x_iRg1, ↓x_oNo, ↓x_oSome, ↓x_sl, ↓x_mD1, ↓x_mD2, ↓x_mD3, ↓x_mD4, ↓x_mD5, ↓x_mT0, ↓x_mT1, ↓x_mT2, ↓x_mT3, ↓x_mT4, ↓x_eqI, ↓x_eqS, ↓x_eqB, ↓x_eqIS, ↓x_eqSI, ↓x_eqNN, ↓x_eqNI, ↓x_eqIN, ↓x_eqNS, ↓x_eqSN, ↓x_neI, ↓x_neS, ↓x_neB, ↓x_ltI, ↓x_ltS, ↓x_leI, ↓x_leS, ↓x_gtI, ↓x_gtS, ↓x_geI, ↓x_geS, ↓x_isN, ↓x_notN, ↓x_nonN, ↓x_nonI, ↓x_nonB, ↓x_nonS, ↓x_nonT, ↓x_nonL, ↓x_addI, ↓x_addS, ↓x_addT, ↓x_addL, ↓x_subI, ↓x_negI, ↓x_mulI, ↓x_mulS, ↓x_mulL, ↓x_modI, ↓x_divI, ↓x_powI, ↓x_lenL, ↓x_lenT, ↓x_lenS, ↓x_max2, ↓x_min2, ↓x_int1I, ↓x_int1B, ↓x_listL, ↓x_listT, ↓x_listS, ↓x_itL, ↓x_itT, ↓x_itS, ↓x_ixL0, ↓x_ixT0, ↓x_ixT1, ↓x_ixL1, ↓x_ixT2, ↓x_ixL2, ↓x_ixT3, ↓x_ixT4, ↓x_ixT5, ↓x_lc, ↓x_wipe0, ↓x_wipe1, ↓x_join, ↓x_gT, ↓x_gsN, ↓x_gsC, ↓x_notV, ↓x_andV, ↓x_orV, ↓x_chain, ↓x_tape1, ↓x_v0, ↓x_st0, ↓x_ap0, ↓x_io0, ↓x_lo0, ↓x_ro0, ↓x_v1, ↓x_st1, ↓x_ap1, ↓x_io1, ↓x_lo1, ↓x_ro1, ↓x_v2, ↓x_st2, ↓x_ap2, ↓x_io2, ↓x_lo2, ↓x_ro2, ↓x_v3, ↓x_st3, ↓x_ap3, ↓x_io3, ↓x_lo3, ↓x_ro3, ↓x_v4, ↓x_st4, ↓x_ap4, ↓x_io4, ↓x_lo4, ↓x_ro4, ↓x_v5, ↓x_st5, ↓x_ap5, ↓x_io5, ↓x_lo5, ↓x_ro5, ↓x_v6, ↓x_st6, ↓x_ap6, ↓x_io6, ↓x_lo6, ↓x_ro6, ↓x_v7, ↓x_st7, ↓x_ap7, ↓x_io7, ↓x_lo7, ↓x_ro7, ↓x_v8, ↓x_st8, ↓x_ap8, ↓x_io8, ↓x_lo8, ↓x_ro8, ↓x_v9, ↓x_st9, ↓x_ap9, ↓x_io9, ↓x_lo9, ↓x_ro9, ↓x_v10, ↓x_st10, ↓x_ap10, ↓x_io10, ↓x_lo10, ↓x_ro10, ↓x_v11, ↓x_st11, ↓x_ap11, ↓x_io11, ↓x_lo11, ↓x_ro11, ↓x_v12, ↓x_v13, ↓x_v14, ↓x_v15, ↓x_ss0, ↓x_ls0, ↓x_subII, ↓x_subBB, ↓x_repr, ↓x_sw, ↓x_M1, ↓x_par, ↓x_gSt1, ↓x_gSt3, ↓x_fo0, ↓x_fd0, ↓x_po0, ↓x_pt0, ↓x_fo1, ↓x_fd1, ↓x_po1, ↓x_pt1, ↓x_fo2, ↓x_fd2, ↓x_po2, ↓x_pt2, ↓x_fo3, ↓x_fd3, ↓x_po3, ↓x_pt3, ↓x_fo4, ↓x_fd4, ↓x_po4, ↓x_pt4, ↓x_fo5, ↓x_fd5, ↓x_po5, ↓x_pt5, ↓x_fo6, ↓x_fd6, ↓x_po6, ↓x_pt6, ↓x_fo7, ↓x_fd7, ↓x_po7, ↓x_pt7, ↓x_fo8, ↓x_fd8, ↓x_po8, ↓x_pt8, ↓x_fo9, ↓x_fd9, ↓x_po9, ↓x_pt9, ↓x_fo10, ↓x_fd10, ↓x_po10, ↓x_pt10, ↓x_fo11, ↓x_fd11, ↓x_po11, ↓x_pt11, ↓x_plI, ↓x_plB, ↓x_plS, ↓x_in2, ↓x_in3, ↓x_sl1T, ↓x_sl1L, ↓x_slS, ↓x_tuL, ↓x_tuT, ↓x_enumD, ↓x_iAsc, ↓x_eq0T, ↓x_eq0L, ↓x_mulT, ↓x_pu0, ↓x_pu1, ↓x_pu2, ↓x_pu3, ↓x_pu4, ↓x_pu5, ↓x_pu6, ↓x_pu7, ↓x_pu8, ↓x_pu9, ↓x_pu10, ↓x_pu11, ↓x_isB, ↓x_isNB, ↓x_nonD, ↓x_in4, ↓x_nin4, ↓x_nin2, ↓x_tupRg, ↓x_lstRg, ↓x_g_LIMIT, ↓x_g_MAX_CHOICES, ↓x_g_MAX_DEPTH, ↓x_g_MAX_ORDER, ↓x_g_MAX_TEXT, ↓x_g_TESTS, List.cons_append, List.nil_append, List.replicate_succ, List.replicate_zero, List.set_cons_zero, List.set_cons_succ, List.getElem?_cons_zero, List.getElem?_cons_succ, decide_eq_true_eq, Bool.false_eq_true, Bool.true_eq_false, ↓reduceIte, Bool.not_true, Bool.not_false, decide_true, decide_false, isTy, isTyK, kindD, PySem.sizeLine_eq, List.length_cons, List.length_nil, true_and, and_true, true_implies, Bool.not_eq_true', decide_eq_false_iff_not, Nat.reduceAdd, Nat.reduceLeDiff, Nat.reduceLT, Int.reduceAdd, Int.reduceSub, Int.reduceLT, Int.reduceLE, Int.reduceNeg, Int.reduceEq, Nat.reduceEqDiff, not_true_eq_false, not_false_eq_true, x_pick]
    exact hT
  | _ =>
    simp -implicitDefEqProofs only [b_law_bent, ↓x_fnD, ↓x_skip, ↓x_seq, ↓x_brk, ↓x_cnt, ↓x_exp, ↓x_ret, ↓x_retN, ↓x_ifS, ↓x_set, ↓x_asg, ↓x_own, ↓x_fLst, ↓x_tape, ↓x_C, ↓x_op, ↓x_un, ↓x_test, ↓x_and, ↓x_or, ↓x_not, ↓x_if, ↓x_dnil, ↓x_dcons, ↓x_anil, ↓x_acons, ↓x_tup, ↓x_lst, ↓x_call, ↓x_fn, ↓x_isi, ↓x_new, ↓x_gN, ↓x_yes, ↓x_for, ↓x_iData, ↓x_iRg1, ↓x_oNo, ↓x_oSome, ↓x_sl, ↓x_mD1, ↓x_mD2, ↓x_mD3, ↓x_mD4, ↓x_mD5, ↓x_mT0, ↓x_mT1, ↓x_mT2, ↓x_mT3, ↓x_mT4, ↓x_eqI, ↓x_eqS, ↓x_eqB, ↓x_eqIS, ↓x_eqSI, ↓x_eqNN, ↓x_eqNI, ↓x_eqIN, ↓x_eqNS, ↓x_eqSN, ↓x_neI, ↓x_neS, ↓x_neB, ↓x_ltI, ↓x_ltS, ↓x_leI, ↓x_leS, ↓x_gtI, ↓x_gtS, ↓x_geI, ↓x_geS, ↓x_isN, ↓x_notN, ↓x_nonN, ↓x_nonI, ↓x_nonB, ↓x_nonS, ↓x_nonT, ↓x_nonL, ↓x_addI, ↓x_addS, ↓x_addT, ↓x_addL, ↓x_subI, ↓x_negI, ↓x_mulI, ↓x_mulS, ↓x_mulL, ↓x_modI, ↓x_divI, ↓x_powI, ↓x_lenL, ↓x_lenT, ↓x_lenS, ↓x_max2, ↓x_min2, ↓x_int1I, ↓x_int1B, ↓x_listL, ↓x_listT, ↓x_listS, ↓x_itL, ↓x_itT, ↓x_itS, ↓x_ixL0, ↓x_ixT0, ↓x_ixT1, ↓x_ixL1, ↓x_ixT2, ↓x_ixL2, ↓x_ixT3, ↓x_ixT4, ↓x_ixT5, ↓x_lc, ↓x_wipe0, ↓x_wipe1, ↓x_join, ↓x_gT, ↓x_gsN, ↓x_gsC, ↓x_notV, ↓x_andV, ↓x_orV, ↓x_chain, ↓x_tape1, ↓x_v0, ↓x_st0, ↓x_ap0, ↓x_io0, ↓x_lo0, ↓x_ro0, ↓x_v1, ↓x_st1, ↓x_ap1, ↓x_io1, ↓x_lo1, ↓x_ro1, ↓x_v2, ↓x_st2, ↓x_ap2, ↓x_io2, ↓x_lo2, ↓x_ro2, ↓x_v3, ↓x_st3, ↓x_ap3, ↓x_io3, ↓x_lo3, ↓x_ro3, ↓x_v4, ↓x_st4, ↓x_ap4, ↓x_io4, ↓x_lo4, ↓x_ro4, ↓x_v5, ↓x_st5, ↓x_ap5, ↓x_io5, ↓x_lo5, ↓x_ro5, ↓x_v6, ↓x_st6, ↓x_ap6, ↓x_io6, ↓x_lo6, ↓x_ro6, ↓x_v7, ↓x_st7, ↓x_ap7, ↓x_io7, ↓x_lo7, ↓x_ro7, ↓x_v8, ↓x_st8, ↓x_ap8, ↓x_io8, ↓x_lo8, ↓x_ro8, ↓x_v9, ↓x_st9, ↓x_ap9, ↓x_io9, ↓x_lo9, ↓x_ro9, ↓x_v10, ↓x_st10, ↓x_ap10, ↓x_io10, ↓x_lo10, ↓x_ro10, ↓x_v11, ↓x_st11, ↓x_ap11, ↓x_io11, ↓x_lo11, ↓x_ro11, ↓x_v12, ↓x_v13, ↓x_v14, ↓x_v15, ↓x_ss0, ↓x_ls0, ↓x_subII, ↓x_subBB, ↓x_repr, ↓x_sw, ↓x_M1, ↓x_par, ↓x_gSt1, ↓x_gSt3, ↓x_fo0, ↓x_fd0, ↓x_po0, ↓x_pt0, ↓x_fo1, ↓x_fd1, ↓x_po1, ↓x_pt1, ↓x_fo2, ↓x_fd2, ↓x_po2, ↓x_pt2, ↓x_fo3, ↓x_fd3, ↓x_po3, ↓x_pt3, ↓x_fo4, ↓x_fd4, ↓x_po4, ↓x_pt4, ↓x_fo5, ↓x_fd5, ↓x_po5, ↓x_pt5, ↓x_fo6, ↓x_fd6, ↓x_po6, ↓x_pt6, ↓x_fo7, ↓x_fd7, ↓x_po7, ↓x_pt7, ↓x_fo8, ↓x_fd8, ↓x_po8, ↓x_pt8, ↓x_fo9, ↓x_fd9, ↓x_po9, ↓x_pt9, ↓x_fo10, ↓x_fd10, ↓x_po10, ↓x_pt10, ↓x_fo11, ↓x_fd11, ↓x_po11, ↓x_pt11, ↓x_plI, ↓x_plB, ↓x_plS, ↓x_in2, ↓x_in3, ↓x_sl1T, ↓x_sl1L, ↓x_slS, ↓x_tuL, ↓x_tuT, ↓x_enumD, ↓x_iAsc, ↓x_eq0T, ↓x_eq0L, ↓x_mulT, ↓x_pu0, ↓x_pu1, ↓x_pu2, ↓x_pu3, ↓x_pu4, ↓x_pu5, ↓x_pu6, ↓x_pu7, ↓x_pu8, ↓x_pu9, ↓x_pu10, ↓x_pu11, ↓x_isB, ↓x_isNB, ↓x_nonD, ↓x_in4, ↓x_nin4, ↓x_nin2, ↓x_tupRg, ↓x_lstRg, ↓x_g_LIMIT, ↓x_g_MAX_CHOICES, ↓x_g_MAX_DEPTH, ↓x_g_MAX_ORDER, ↓x_g_MAX_TEXT, ↓x_g_TESTS, List.cons_append, List.nil_append, List.replicate_succ, List.replicate_zero, List.set_cons_zero, List.set_cons_succ, List.getElem?_cons_zero, List.getElem?_cons_succ, decide_eq_true_eq, Bool.false_eq_true, Bool.true_eq_false, ↓reduceIte, Bool.not_true, Bool.not_false, decide_true, decide_false, isTy, isTyK, kindD, PySem.sizeLine_eq, List.length_cons, List.length_nil, true_and, and_true, true_implies, Bool.not_eq_true', decide_eq_false_iff_not, Nat.reduceAdd, Nat.reduceLeDiff, Nat.reduceLT, Int.reduceAdd, Int.reduceSub, Int.reduceLT, Int.reduceLE, Int.reduceNeg, Int.reduceEq, Nat.reduceEqDiff, not_true_eq_false, not_false_eq_true, x_pick]
    exact hT
theorem ok_law_bent (T : Txt K mg) (n : Nat) (ih : CalG P w K mg base (3 + n) "_law_bent" (spD P w K 2 (mrec m_law_bent n))) {f : Addr} {fd : FuncData} (F : Fun K "_law_bent" "_law_bent" s_law_bent f fd) : FnG P w K mg base (3 + n + 1) f fd ["tape", "thing"] (spD P w K 2 (fnD (b_law_bent (mrec m_law_bent n)) 2)) :=
  fn_okG F sc_law_bent fun cdv A outer s H E hr hgd => by
    have hu := hr.units
    exact (s_cons (s_if (PW.pt (w_or (t_not (t_val (e_isi (T := .tuple) T.b_isinstance T.b_tuple bo_tuple (ev 1)))) (w_or (t_cmpD (oEqE hu) (ev 1) (e_tup d_nil)) (w_or1 (t_cmpD (oEq hu) (e_fnG (cal_law_pick T) hr hgd (asl 0 (a_cons e_int a_nil)) (hk := by omega)) e_int))))) (s_one (s_ret (e_fnG (cal_law_thing T) hr hgd (asl 0 a_nil) (hk := by omega)))) s_nil)
      (s_cons (s_par rfl sc_law_bent.nd rfl rfl rfl rfl (d_cons (e_fnG (cal_law_pick T) hr hgd (asl 0 (a_cons (e_cbB bLen T.b_len bo_len (d_cons (ev 1) d_nil)) a_nil)) (hk := by omega)) (d_cons (e_fnG (cal_law_pick T) hr hgd (asl 0 (a_cons e_int a_nil)) (hk := by omega)) d_nil)))
      (s_cons (s_if (t_cmpD (oEq hu) (ev 3) e_int) (s_one (s_ret (e_bin oAdd (e_sl (ev 1) o_no (o_some (ev 2))) (e_sl (ev 1) (o_some (e_bin oAdd (ev 2) e_int)) o_no)))) s_nil)
      (s_cons (s_if (t_cmpD (oEq hu) (ev 3) e_int) (s_one (s_ret (e_bin oAdd (e_sl (ev 1) o_no (o_some (e_bin oAdd (ev 2) e_int))) (e_sl (ev 1) (o_some (ev 2)) o_no)))) s_nil)
      (s_cons (s_if (t_cmpD (oEq hu) (ev 3) e_int) (s_one (s_ret (e_bin oAdd (e_bin oAdd (e_sl (ev 1) o_no (o_some (ev 2))) (e_tup (d_cons (e_fnG (cal_law_thing T) hr hgd (asl 0 a_nil) (hk := by omega)) d_nil))) (e_sl (ev 1) (o_some (ev 2)) o_no)))) s_nil)
      (s_cons (s_if (t_cmpD (oEq hu) (ev 3) e_int) (s_one (s_ret (e_bin oAdd (e_bin oAdd (e_sl (ev 1) o_no (o_some (ev 2))) (e_tup (d_cons (e_fnG (cal_law_one_of T) hr hgd (asl 0 (a_cons (ev 1) a_nil)) (hk := by omega)) d_nil))) (e_sl (ev 1) (o_some (e_bin oAdd (ev 2) e_int)) o_no)))) s_nil)
      (s_cons (s_if (t_cmpD (oEq hu) (ev 3) e_int) (s_one (s_ret (e_cbT (bList rfl) T.b_list bo_list (d_cons (ev 1) d_nil)))) s_nil)
      (s_one (s_ret (e_bin oAdd (e_bin oAdd (e_sl (ev 1) o_no (o_some (ev 2))) (e_tup (d_cons (e_fnG ih hr hgd (asl 0 (a_cons (e_ix (ev 1) (ev 2)) a_nil)) (hk := Nat.le_refl _)) d_nil))) (e_sl (ev 1) (o_some (e_bin oAdd (ev 2) e_int)) o_no)))))))))))
theorem cr_law_bent (T : Txt K mg) : ∀ n, CalG P w K mg base (3 + n) "_law_bent" (spD P w K 2 (mrec m_law_bent n))
  | 0 => calG_false T.f_law_bent (show BindsN "_law_bent" s_law_bent ["tape", "thing"] from fun _ _ _ _ _ _ us hl => match us, hl with | [_, _], _ => rfl)
  | n + 1 => CalG.imp (calG_of T.f_law_bent (show BindsN "_law_bent" s_law_bent ["tape", "thing"] from fun _ _ _ _ _ _ us hl => match us, hl with | [_, _], _ => rfl) fun _ _ F => ok_law_bent T n (cr_law_bent T n) F) (spec_law_bent n)
theorem cal_law_bent (T : Txt K mg) (n : Nat) : CalG P w K mg base (3 + n + 1) "_law_bent" (spD P w K 2 (m_law_bent n)) := cr_law_bent T (n + 1)
theorem sc_law_right : FnScope N_law_right ["thing", "width"] (defScope s_law_right) := ⟨rfl, rfl, rfl, by decide +kernel, rfl, by decide +kernel, by decide +kernel⟩
def b_law_right : DS := (dSeq (dSet 2 (dCall fRepr (dCons (dVar 0) dNil)))
    (dSeq (dSet 3 (dFn m_is_view (aCons (dVar 0) (aCons (dVar 1) aNil))))
    (dRet (dAndV (dIsI .bool (dVar 3)) (dAndV (dOp fEq (dVar 3) (dFn m_law_due (aCons (dVar 0) (aCons (dVar 1) aNil)))) (dOp fEq (dCall fRepr (dCons (dVar 0) dNil)) (dVar 2)))))))
abbrev m_law_right : List SV → EK → Prop := mD2 fun x y Q => ∃ w : Int, y = .int w ∧ wellB x = true ∧ szD x ≤ 1000000 ∧ x.depth ≤ 64 ∧ Q (.bool true)
theorem spec_law_right (svs : List SV) (R : EK) (_ : svs.length = 2) (h : m_law_right svs R) : fnD b_law_right 2 svs R := by
  obtain ⟨x, y, rfl, w, rfl, hw, hz, hd, hQ⟩ := mD2_elim h
  have hr := well_repr hw hz hd
  simp -implicitDefEqProofs only [b_law_right, ↓x_fnD, ↓x_skip, ↓x_seq, ↓x_brk, ↓x_cnt, ↓x_exp, ↓x_ret, ↓x_retN, ↓x_ifS, ↓x_set, ↓x_asg, ↓x_own, ↓x_fLst, ↓x_tape, ↓x_C, ↓x_op, ↓x_un, ↓x_test, ↓x_and, ↓x_or, ↓x_not, ↓x_if, ↓x_dnil, ↓x_dcons, ↓x_anil, ↓x_acons, ↓x_tup, ↓x_lst, ↓x_call, ↓x_fn, ↓x_isi, ↓x_new, ↓x_gN, ↓x_yes, ↓x_for, ↓x_iData, ↓x_iRg1, ↓x_oNo, ↓x_oSome, ↓x_sl, ↓x_mD1, ↓x_mD2, ↓x_mD3, ↓x_mD4, ↓x_mD5, ↓x_mT0, ↓x_mT1, ↓x_mT2, ↓x_mT3, ↓x_mT4, ↓x_eqI, ↓x_eqS, ↓x_eqB, ↓x_eqIS, ↓x_eqSI, ↓x_eqNN, ↓x_eqNI, ↓x_eqIN, ↓x_eqNS, ↓x_eqSN, ↓x_neI, ↓x_neS, ↓x_neB, ↓x_ltI, ↓x_ltS, ↓x_leI, ↓x_leS, ↓x_gtI, ↓x_gtS, ↓x_geI, ↓x_geS, ↓x_isN, ↓x_notN, ↓x_nonN, ↓x_nonI, ↓x_nonB, ↓x_nonS, ↓x_nonT, ↓x_nonL, ↓x_addI, ↓x_addS, ↓x_addT, ↓x_addL, ↓x_subI, ↓x_negI, ↓x_mulI, ↓x_mulS, ↓x_mulL, ↓x_modI, ↓x_divI, ↓x_powI, ↓x_lenL, ↓x_lenT, ↓x_lenS, ↓x_max2, ↓x_min2, ↓x_int1I, ↓x_int1B, ↓x_listL, ↓x_listT, ↓x_listS, ↓x_itL, ↓x_itT, ↓x_itS, ↓x_ixL0, ↓x_ixT0, ↓x_ixT1, ↓x_ixL1, ↓x_ixT2, ↓x_ixL2, ↓x_ixT3, ↓x_ixT4, ↓x_ixT5, ↓x_lc, ↓x_wipe0, ↓x_wipe1, ↓x_join, ↓x_gT, ↓x_gsN, ↓x_gsC, ↓x_notV, ↓x_andV, ↓x_orV, ↓x_chain, ↓x_tape1, ↓x_v0, ↓x_st0, ↓x_ap0, ↓x_io0, ↓x_lo0, ↓x_ro0, ↓x_v1, ↓x_st1, ↓x_ap1, ↓x_io1, ↓x_lo1, ↓x_ro1, ↓x_v2, ↓x_st2, ↓x_ap2, ↓x_io2, ↓x_lo2, ↓x_ro2, ↓x_v3, ↓x_st3, ↓x_ap3, ↓x_io3, ↓x_lo3, ↓x_ro3, ↓x_v4, ↓x_st4, ↓x_ap4, ↓x_io4, ↓x_lo4, ↓x_ro4, ↓x_v5, ↓x_st5, ↓x_ap5, ↓x_io5, ↓x_lo5, ↓x_ro5, ↓x_v6, ↓x_st6, ↓x_ap6, ↓x_io6, ↓x_lo6, ↓x_ro6, ↓x_v7, ↓x_st7, ↓x_ap7, ↓x_io7, ↓x_lo7, ↓x_ro7, ↓x_v8, ↓x_st8, ↓x_ap8, ↓x_io8, ↓x_lo8, ↓x_ro8, ↓x_v9, ↓x_st9, ↓x_ap9, ↓x_io9, ↓x_lo9, ↓x_ro9, ↓x_v10, ↓x_st10, ↓x_ap10, ↓x_io10, ↓x_lo10, ↓x_ro10, ↓x_v11, ↓x_st11, ↓x_ap11, ↓x_io11, ↓x_lo11, ↓x_ro11, ↓x_v12, ↓x_v13, ↓x_v14, ↓x_v15, ↓x_ss0, ↓x_ls0, ↓x_subII, ↓x_subBB, ↓x_repr, ↓x_sw, ↓x_M1, ↓x_par, ↓x_gSt1, ↓x_gSt3, ↓x_fo0, ↓x_fd0, ↓x_po0, ↓x_pt0, ↓x_fo1, ↓x_fd1, ↓x_po1, ↓x_pt1, ↓x_fo2, ↓x_fd2, ↓x_po2, ↓x_pt2, ↓x_fo3, ↓x_fd3, ↓x_po3, ↓x_pt3, ↓x_fo4, ↓x_fd4, ↓x_po4, ↓x_pt4, ↓x_fo5, ↓x_fd5, ↓x_po5, ↓x_pt5, ↓x_fo6, ↓x_fd6, ↓x_po6, ↓x_pt6, ↓x_fo7, ↓x_fd7, ↓x_po7, ↓x_pt7, ↓x_fo8, ↓x_fd8, ↓x_po8, ↓x_pt8, ↓x_fo9, ↓x_fd9, ↓x_po9, ↓x_pt9, ↓x_fo10, ↓x_fd10, ↓x_po10, ↓x_pt10, ↓x_fo11, ↓x_fd11, ↓x_po11, ↓x_pt11, ↓x_plI, ↓x_plB, ↓x_plS, ↓x_in2, ↓x_in3, ↓x_sl1T, ↓x_sl1L, ↓x_slS, ↓x_tuL, ↓x_tuT, ↓x_enumD, ↓x_iAsc, ↓x_eq0T, ↓x_eq0L, ↓x_mulT, ↓x_pu0, ↓x_pu1, ↓x_pu2, ↓x_pu3, ↓x_pu4, ↓x_pu5, ↓x_pu6, ↓x_pu7, ↓x_pu8, ↓x_pu9, ↓x_pu10, ↓x_pu11, ↓x_isB, ↓x_isNB, ↓x_nonD, ↓x_in4, ↓x_nin4, ↓x_nin2, ↓x_tupRg, ↓x_lstRg, ↓x_g_LIMIT, ↓x_g_MAX_CHOICES, ↓x_g_MAX_DEPTH, ↓x_g_MAX_ORDER, ↓x_g_MAX_TEXT, ↓x_g_TESTS, List.cons_append, List.nil_append, List.replicate_succ, List.replicate_zero, List.set_cons_zero, List.set_cons_succ, List.getElem?_cons_zero, List.getElem?_cons_succ, decide_eq_true_eq, Bool.false_eq_true, Bool.true_eq_false, ↓reduceIte, Bool.not_true, Bool.not_false, decide_true, decide_false, isTy, isTyK, kindD, PySem.sizeLine_eq, List.length_cons, List.length_nil, true_and, and_true, true_implies, Bool.not_eq_true', decide_eq_false_iff_not, Nat.reduceAdd, Nat.reduceLeDiff, Nat.reduceLT, Int.reduceAdd, Int.reduceSub, Int.reduceLT, Int.reduceLE, Int.reduceNeg, Int.reduceEq, Nat.reduceEqDiff, not_true_eq_false, not_false_eq_true]
  refine ⟨hr, w, rfl, hz, w, rfl, hz, ?_⟩
  rw [beq_self_eq_true]
  exact ⟨hr, hQ⟩
theorem ok_law_right (T : Txt K mg) {f : Addr} {fd : FuncData} (F : Fun K "_law_right" "_law_right" s_law_right f fd) : FnG P w K mg base 17 f fd ["thing", "width"] (spD P w K 2 (fnD b_law_right 2)) :=
  fn_okG F sc_law_right fun cdv A outer s H E hr hgd => by
    have hu := hr.units
    exact (s_cons (s_set sc_law_right.nd rfl (by first | exact Or.inl rfl | exact Or.inr rfl) (e_cbB (bRepr hr hgd) T.b_repr bo_repr (d_cons (ev 0) d_nil)))
      (s_cons (s_set sc_law_right.nd rfl (by first | exact Or.inl rfl | exact Or.inr rfl) (e_fnG (cal_is_view T) hr hgd (a_cons (ev 0) (a_cons (ev 1) a_nil)) ))
      (s_one (s_ret (e_and (e_isi (T := .bool) T.b_isinstance T.b_bool bo_bool (ev 3)) (e_and (e_cmpD (oEq hu) (ev 3) (e_fnG (cal_law_due T) hr hgd (a_cons (ev 0) (a_cons (ev 1) a_nil)) )) (e_one (e_cmpD (oEq hu) (e_cbB (bRepr hr hgd) T.b_repr bo_repr (d_cons (ev 0) d_nil)) (ev 2)))))))))
theorem cal_law_right (T : Txt K mg) : CalG P w K mg base 17 "_law_right" (spD P w K 2 m_law_right) :=
  CalG.imp (calG_of T.f_law_right (show BindsN "_law_right" s_law_right ["thing", "width"] from fun _ _ _ _ _ _ us hl => match us, hl with | [_, _], _ => rfl) fun _ _ F => ok_law_right T F) spec_law_right
theorem sc_law : FnScope N_law ["script"] (defScope s_law) := ⟨rfl, rfl, rfl, by decide +kernel, rfl, by decide +kernel, by decide +kernel⟩
def b_law : DS := (dSeq (dFor (iRg1 (dCall fMax2 (dCons (dC (.int 2)) (dCons (dCall fMin2 (dCons (dC (.int 5)) (dCons (dLenScr 0) dNil))) dNil)))) (gN 1) (dSeq (dTape 2 (aSlot 0 (aCons (dVar 1) aNil)))
    (dSeq (dSet 3 (dOp fAdd (dC (.int 1)) (dFn m_law_pick (aSlot 2 (aCons (dC (.int 6)) aNil)))))
    (dSeq (dSet 4 (dCall fTuple (dCons (dNew (fLc (iRg1 (dCall fMin2 (dCons (dVar 3) (dCons (dOp fAdd (dC (.int 1)) (dFn m_law_pick (aSlot 2 (aCons (dC (.int 6)) aNil)))) dNil)))) (gN 5) dYes (dTup (dCons (dOp fSubB (dOp fSubB (dVar 3) (dC (.int 1))) (dVar 5)) (dCons (dOp fEq (dVar 5) (dC (.int 1))) dNil))) [5])) dNil)))
    (dFor (iData (dLst (dCons (dFn m_law_view (aSlot 2 (aCons (dVar 3) aNil))) (dCons (dTup (dCons (dTup (dCons (dC (.str "all")) dNil)) (dCons (dVar 4) (dCons (dUn fTupRg (dVar 3)) dNil)))) dNil)))) (gN 6) (dSeq (dIfS (dOr (dNot (dTest (dFn m_law_right (aCons (dVar 6) (aCons (dVar 3) aNil))))) (dNot (dTest (dFn m_law_right (aCons (dVar 6) (aCons (dOp fAdd (dC (.int 1)) (dFn m_law_pick (aSlot 2 (aCons (dC (.int 6)) aNil)))) aNil)))))) (dRet (dC (.bool false))) dSkip)
    (dFor (iRg1 (dC (.int 8))) (gN 7) (dSeq (dSet 8 (dFn (m_law_bent 24) (aSlot 2 (aCons (dVar 6) aNil))))
    (dSeq (dIfS (dTest (dOp fGt (dVar 7) (dC (.int 4)))) (dSet 8 (dFn (m_law_bent 24) (aSlot 2 (aCons (dVar 8) aNil)))) dSkip)
    (dIfS (dNot (dTest (dFn m_law_right (aCons (dVar 8) (aCons (dVar 3) aNil))))) (dRet (dC (.bool false))) dSkip))))))))))
    (dSeq (dFor (iData (dLst (dCons (dC .none) (dCons (dC (.int 5)) (dCons (dC (.bool true)) (dCons (dC (.str "all")) (dCons (dTup dNil) (dCons (dLst dNil) (dCons (dC (.dict [])) (dCons (dTup (dCons (dC (.str "all")) dNil)) (dCons (dOp fAdd (dTup (dCons (dTup (dCons (dC (.str "all")) dNil)) (dCons (dTup dNil) (dCons (dTup dNil) dNil)))) (dTup (dCons (dTup dNil) dNil))) (dCons (dLst (dCons (dTup (dCons (dC (.str "all")) dNil)) (dCons (dTup dNil) (dCons (dTup dNil) dNil)))) dNil)))))))))))) (gN 9) (dIfS (dTest (dOp (fIsB true) (dFn m_is_view (aCons (dVar 9) (aCons (dC (.int 6)) aNil))) (dC (.bool false)))) (dRet (dC (.bool false))) dSkip))
    (dRet (dOp (fIsB false) (dFn m_is_view (aCons (dTup (dCons (dTup (dCons (dC (.str "all")) dNil)) (dCons (dTup dNil) (dCons (dTup dNil) dNil)))) (aCons (dC (.int 1)) aNil))) (dC (.bool true))))))
abbrev m_law : List SV → EK → Prop := fnD b_law 9
theorem spec_law (svs : List SV) (R : EK) (_ : svs.length = 1) (h : m_law svs R) : fnD b_law 9 svs R := h
theorem ok_law (T : Txt K mg) {f : Addr} {fd : FuncData} (F : Fun K "law" "law" s_law f fd) : FnG P w K mg base 29 f fd ["script"] (spD P w K 1 (fnD b_law 9)) :=
  fn_okG F sc_law fun cdv A outer s H E hr hgd => by
    have hu := hr.units
    exact (s_cons (s_for PassesOwn.never rfl (i_range1 T.b_range (e_cbB (bMax2 rfl) T.b_max bo_max (d_cons e_int (d_cons (e_cbB (bMin2 rfl) T.b_min bo_min (d_cons e_int (d_cons (e_lenScr 0 T.b_len) d_nil))) d_nil)))) (g_nm (vs := [1]) sc_law.nd rfl (by first | exact Or.inl rfl | exact Or.inr rfl) (by decide)) (s_cons (s_tape (cal_law_tape T) hr sc_law.nd rfl (by first | exact Or.inl rfl | exact Or.inr rfl) (asl 0 (a_cons (ev 1) a_nil)))
      (s_cons (s_set sc_law.nd rfl (by first | exact Or.inl rfl | exact Or.inr rfl) (e_bin oAdd e_int (e_fnG (cal_law_pick T) hr hgd (asl 2 (a_cons e_int a_nil)) )))
      (s_cons (s_set sc_law.nd rfl (by first | exact Or.inl rfl | exact Or.inr rfl) (e_cbT bTuple T.b_tuple bo_tuple (d_cons (e_new (f_lc (own := [("column", 5)]) rfl sc_law.nd (i_range1 T.b_range (e_cbB (bMin2 rfl) T.b_min bo_min (d_cons (ev 3) (d_cons (e_bin oAdd e_int (e_fnG (cal_law_pick T) hr hgd (asl 2 (a_cons e_int a_nil)) )) d_nil)))) (blkOk_by (N := N_law) (sc := defScope s_law) (by decide +kernel)) (fun _ _ _ _ _ => (g_nm (vs := [5]) sc_law.nd rfl (by first | exact Or.inl rfl | exact Or.inr rfl) (by decide))) (fun _ _ _ _ _ => LTs.nil) (fun _ _ _ _ _ => (e_tup (d_cons (e_bin oSubB (e_bin oSubB (ev 3) e_int) (ev 5)) (d_cons (e_cmpD (oEq hu) (ev 5) e_int) d_nil)))))) d_nil)))
      (s_one (s_for PassesOwn.never rfl (i_data (e_lst (d_cons (e_fnG (cal_law_view T) hr hgd (asl 2 (a_cons (ev 3) a_nil)) ) (d_cons (e_tup (d_cons (e_tup (d_cons e_str d_nil)) (d_cons (ev 4) (d_cons (e_tupRg T.b_tuple T.b_range rfl (ev 3)) d_nil)))) d_nil)))) (g_nm (vs := [6]) sc_law.nd rfl (by first | exact Or.inl rfl | exact Or.inr rfl) (by decide)) (s_cons (s_if (PW.pt (w_or (t_not (t_val (e_fnG (cal_law_right T) hr hgd (a_cons (ev 6) (a_cons (ev 3) a_nil)) ))) (w_or1 (t_not (t_val (e_fnG (cal_law_right T) hr hgd (a_cons (ev 6) (a_cons (e_bin oAdd e_int (e_fnG (cal_law_pick T) hr hgd (asl 2 (a_cons e_int a_nil)) )) a_nil)) )))))) (s_one (s_ret e_bl)) s_nil)
      (s_one (s_for PassesOwn.never rfl (i_range1 T.b_range e_int) (g_nm (vs := [7]) sc_law.nd rfl (by first | exact Or.inl rfl | exact Or.inr rfl) (by decide)) (s_cons (s_set sc_law.nd rfl (by first | exact Or.inl rfl | exact Or.inr rfl) (e_fnG (cal_law_bent T 24) hr hgd (asl 2 (a_cons (ev 6) a_nil)) ))
      (s_cons (s_if (t_cmpD oGt (ev 7) e_int) (s_one (s_set sc_law.nd rfl (by first | exact Or.inl rfl | exact Or.inr rfl) (e_fnG (cal_law_bent T 24) hr hgd (asl 2 (a_cons (ev 8) a_nil)) ))) s_nil)
      (s_one (s_if (t_not (t_val (e_fnG (cal_law_right T) hr hgd (a_cons (ev 8) (a_cons (ev 3) a_nil)) ))) (s_one (s_ret e_bl)) s_nil)))))))))))))
      (s_cons (s_for PassesOwn.never rfl (i_data (e_lst (d_cons e_non (d_cons e_int (d_cons e_bl (d_cons e_str (d_cons (e_tup d_nil) (d_cons (e_lst d_nil) (d_cons e_dct0 (d_cons (e_tup (d_cons e_str d_nil)) (d_cons (e_bin oAdd (e_tup (d_cons (e_tup (d_cons e_str d_nil)) (d_cons (e_tup d_nil) (d_cons (e_tup d_nil) d_nil)))) (e_tup (d_cons (e_tup d_nil) d_nil))) (d_cons (e_lst (d_cons (e_tup (d_cons e_str d_nil)) (d_cons (e_tup d_nil) (d_cons (e_tup d_nil) d_nil)))) d_nil)))))))))))) (g_nm (vs := [9]) sc_law.nd rfl (by first | exact Or.inl rfl | exact Or.inr rfl) (by decide)) (s_one (s_if (t_cmpD oNotB (e_fnG (cal_is_view T) hr hgd (a_cons (ev 9) (a_cons e_int a_nil)) ) e_bl) (s_one (s_ret e_bl)) s_nil)))
      (s_one (s_ret (e_cmpD oIsB (e_fnG (cal_is_view T) hr hgd (a_cons (e_tup (d_cons (e_tup (d_cons e_str d_nil)) (d_cons (e_tup d_nil) (d_cons (e_tup d_nil) d_nil)))) (a_cons e_int a_nil)) ) e_bl)))))
theorem cal_law (T : Txt K mg) : CalG P w K mg base 29 "law" (spD P w K 1 m_law) :=
  CalG.imp (calG_of T.f_law (show BindsN "law" s_law ["script"] from fun _ _ _ _ _ _ us hl => match us, hl with | [_], _ => rfl) fun _ _ F => ok_law T F) spec_law
theorem Gd.right {m k : Nat} {d : D} (g : Gd m k d) (hm : m ≤ 1000000) (hk : k ≤ 64) {w : Int} {Q : EK} (h : Q (.bool true)) : m_law_right [.dat d, .dat (.int w)] Q := ⟨w, rfl, g.w, Nat.le_trans g.s hm, Nat.le_trans g.d hk, h⟩
theorem Gd.bent {m k : Nat} {d : D} (g : Gd m k d) (hm : m ≤ 1000000) (hk : k ≤ 24) {Q : EK} (h : ∀ x, Gd (2 * m + 3000) (k + 2) x → Q x) : m_law_bent 24 [.tape, .dat d] Q := ⟨g.w, Nat.le_trans g.s hm, Nat.le_trans g.d hk, fun x h1 h2 h3 => h x ⟨h1, by have := g.s; omega, by have := g.d; omega⟩⟩
theorem Gd.num {i : Int} (h : i.natAbs < 1000) : Gd 258 0 (.int i) := ⟨decide_eq_true (by
  have := log_small (i := i) (by omega)
  omega), by simp [szD], by simp [PyData.depth]⟩
theorem Gd.bl {b : Bool} : Gd 5 0 (.bool b) := ⟨rfl, by simp [szD], by simp [PyData.depth]⟩
theorem Gd.tups {m k n : Nat} {xs : List D} (h : ∀ x ∈ xs, Gd m k x) (hn : xs.length ≤ n) : Gd (n * (m + 2) + 3) (k + 1) (.tuple xs) := by
  refine Gd.of ?_ (fun x hx => by have := (h x hx).d; omega) (fun x hx => (h x hx).w) (by omega)
  have h1 := sz_bound (m := m) (xs := xs) fun x hx => (h x hx).s
  have h2 := Nat.mul_le_mul_right (m + 2) hn
  omega
theorem Gd.pair {c : Int} {b : Bool} (h : c.natAbs < 1000) : Gd 270 1 (.tuple [.int c, .bool b]) :=
  Gd.of (by simp only [szAll, szD]; omega) (all2 (by simp [PyData.depth]) (by simp [PyData.depth])) (all2 (Gd.num h).w rfl) (by omega)
theorem Gd.ord {os : List D} (hl : os.length ≤ 6) (h : ∀ p ∈ os, ∃ (c : Int) (b : Bool), p = .tuple [.int c, .bool b] ∧ c.natAbs < 1000) : Gd 1635 2 (.tuple os) :=
  (Gd.tups (m := 270) (k := 1) (n := 6) (fun p hp => by obtain ⟨c, b, rfl, hc⟩ := h p hp; exact Gd.pair hc) hl).mono (by decide) (by decide)
theorem Gd.cols {cs : List D} (hl : cs.length ≤ 6) (h : ∀ p ∈ cs, ∃ c : Int, p = .int c ∧ c.natAbs < 1000) : Gd 1563 1 (.tuple cs) :=
  (Gd.tups (m := 258) (k := 0) (n := 6) (fun p hp => by obtain ⟨c, rfl, hc⟩ := h p hp; exact Gd.num hc) hl).mono (by decide) (by decide)
theorem Gd.v3 {m k : Nat} {c o s : D} (gc : Gd m k c) (go : Gd 1635 2 o) (gs : Gd 1563 1 s) (hk : 2 ≤ k) : Gd (m + 3300) (k + 1) (.tuple [c, o, s]) := by
  refine Gd.of ?_ (all3 (by have := gc.d; omega) (by have := go.d; omega) (by have := gs.d; omega)) (all3 gc.w go.w gs.w) (by omega)
  have h1 := gc.s
  have h2 := go.s
  have h3 := gs.s
  simp only [szAll]
  omega
theorem VT.good {v : VT} {w : Nat} (ok : v.ok w) (hw : w ≤ 6) : Gd 45000 5 v.d := by
  refine (Gd.v3 ((CT.good 2 ok.c ok.dep (by omega)).mono (m' := 41600) (k' := 4) (by decide) (by decide)) (Gd.ord (by simp [VT.ordL]; have := ok.ol; omega) fun p hp => ?_) (Gd.cols (by simp [VT.shL]; have := ok.sl; omega) fun p hp => ?_) (by decide)).mono (by decide) (by decide)
  · obtain ⟨q, hq, rfl⟩ := List.mem_map.mp hp
    exact ⟨_, _, rfl, by have := ok.o q hq; omega⟩
  · obtain ⟨q, hq, rfl⟩ := List.mem_map.mp hp
    exact ⟨_, rfl, by have := ok.s q hq; omega⟩
theorem law_true (ns : List Int) (hl : ns.length ≤ 63) (hb : ∀ z ∈ ns, Builtin.Int.intBits z ≤ 1048576) : fnD b_law 9 [.scr ns] (fun d => d = .bool true) := by
  simp -implicitDefEqProofs only [b_law, ↓x_fnD, ↓x_skip, ↓x_seq, ↓x_brk, ↓x_cnt, ↓x_exp, ↓x_ret, ↓x_retN, ↓x_ifS, ↓x_set, ↓x_asg, ↓x_own, ↓x_fLst, ↓x_tape, ↓x_C, ↓x_op, ↓x_un, ↓x_test, ↓x_and, ↓x_or, ↓x_not, ↓x_if, ↓x_dnil, ↓x_dcons, ↓x_anil, ↓x_acons, ↓x_tup, ↓x_lst, ↓x_call, ↓x_fn, ↓x_isi, ↓x_new, ↓x_gN, ↓x_yes, ↓x_for, ↓x_iData, ↓x_iRg1, ↓x_oNo, ↓x_oSome, ↓x_sl, ↓x_mD1, ↓x_mD2, ↓x_mD3, ↓x_mD4, ↓x_mD5, ↓x_mT0, ↓x_mT1, ↓x_mT2, ↓x_mT3, ↓x_mT4, ↓x_eqI, ↓x_eqS, ↓x_eqB, ↓x_eqIS, ↓x_eqSI, ↓x_eqNN, ↓x_eqNI, ↓x_eqIN, ↓x_eqNS, ↓x_eqSN, ↓x_neI, ↓x_neS, ↓x_neB, ↓x_ltI, ↓x_ltS, ↓x_leI, ↓x_leS, ↓x_gtI, ↓x_gtS, ↓x_geI, ↓x_geS, ↓x_isN, ↓x_notN, ↓x_nonN, ↓x_nonI, ↓x_nonB, ↓x_nonS, ↓x_nonT, ↓x_nonL, ↓x_addI, ↓x_addS, ↓x_addT, ↓x_addL, ↓x_subI, ↓x_negI, ↓x_mulI, ↓x_mulS, ↓x_mulL, ↓x_modI, ↓x_divI, ↓x_powI, ↓x_lenL, ↓x_lenT, ↓x_lenS, ↓x_max2, ↓x_min2, ↓x_int1I, ↓x_int1B, ↓x_listL, ↓x_listT, ↓x_listS, ↓x_itL, ↓x_itT, ↓x_itS, ↓x_ixL0, ↓x_ixT0, ↓x_ixT1, ↓x_ixL1, ↓x_ixT2, ↓x_ixL2, ↓x_ixT3, ↓x_ixT4, ↓x_ixT5, ↓x_lc, ↓x_wipe0, ↓x_wipe1, ↓x_join, ↓x_gT, ↓x_gsN, ↓x_gsC, ↓x_notV, ↓x_andV, ↓x_orV, ↓x_chain, ↓x_tape1, ↓x_v0, ↓x_st0, ↓x_ap0, ↓x_io0, ↓x_lo0, ↓x_ro0, ↓x_v1, ↓x_st1, ↓x_ap1, ↓x_io1, ↓x_lo1, ↓x_ro1, ↓x_v2, ↓x_st2, ↓x_ap2, ↓x_io2, ↓x_lo2, ↓x_ro2, ↓x_v3, ↓x_st3, ↓x_ap3, ↓x_io3, ↓x_lo3, ↓x_ro3, ↓x_v4, ↓x_st4, ↓x_ap4, ↓x_io4, ↓x_lo4, ↓x_ro4, ↓x_v5, ↓x_st5, ↓x_ap5, ↓x_io5, ↓x_lo5, ↓x_ro5, ↓x_v6, ↓x_st6, ↓x_ap6, ↓x_io6, ↓x_lo6, ↓x_ro6, ↓x_v7, ↓x_st7, ↓x_ap7, ↓x_io7, ↓x_lo7, ↓x_ro7, ↓x_v8, ↓x_st8, ↓x_ap8, ↓x_io8, ↓x_lo8, ↓x_ro8, ↓x_v9, ↓x_st9, ↓x_ap9, ↓x_io9, ↓x_lo9, ↓x_ro9, ↓x_v10, ↓x_st10, ↓x_ap10, ↓x_io10, ↓x_lo10, ↓x_ro10, ↓x_v11, ↓x_st11, ↓x_ap11, ↓x_io11, ↓x_lo11, ↓x_ro11, ↓x_v12, ↓x_v13, ↓x_v14, ↓x_v15, ↓x_ss0, ↓x_ls0, ↓x_subII, ↓x_subBB, ↓x_repr, ↓x_sw, ↓x_M1, ↓x_par, ↓x_gSt1, ↓x_gSt3, ↓x_fo0, ↓x_fd0, ↓x_po0, ↓x_pt0, ↓x_fo1, ↓x_fd1, ↓x_po1, ↓x_pt1, ↓x_fo2, ↓x_fd2, ↓x_po2, ↓x_pt2, ↓x_fo3, ↓x_fd3, ↓x_po3, ↓x_pt3, ↓x_fo4, ↓x_fd4, ↓x_po4, ↓x_pt4, ↓x_fo5, ↓x_fd5, ↓x_po5, ↓x_pt5, ↓x_fo6, ↓x_fd6, ↓x_po6, ↓x_pt6, ↓x_fo7, ↓x_fd7, ↓x_po7, ↓x_pt7, ↓x_fo8, ↓x_fd8, ↓x_po8, ↓x_pt8, ↓x_fo9, ↓x_fd9, ↓x_po9, ↓x_pt9, ↓x_fo10, ↓x_fd10, ↓x_po10, ↓x_pt10, ↓x_fo11, ↓x_fd11, ↓x_po11, ↓x_pt11, ↓x_plI, ↓x_plB, ↓x_plS, ↓x_in2, ↓x_in3, ↓x_sl1T, ↓x_sl1L, ↓x_slS, ↓x_tuL, ↓x_tuT, ↓x_enumD, ↓x_iAsc, ↓x_eq0T, ↓x_eq0L, ↓x_mulT, ↓x_pu0, ↓x_pu1, ↓x_pu2, ↓x_pu3, ↓x_pu4, ↓x_pu5, ↓x_pu6, ↓x_pu7, ↓x_pu8, ↓x_pu9, ↓x_pu10, ↓x_pu11, ↓x_isB, ↓x_isNB, ↓x_nonD, ↓x_in4, ↓x_nin4, ↓x_nin2, ↓x_tupRg, ↓x_lstRg, ↓x_g_LIMIT, ↓x_g_MAX_CHOICES, ↓x_g_MAX_DEPTH, ↓x_g_MAX_ORDER, ↓x_g_MAX_TEXT, ↓x_g_TESTS, List.cons_append, List.nil_append, List.replicate_succ, List.replicate_zero, List.set_cons_zero, List.set_cons_succ, List.getElem?_cons_zero, List.getElem?_cons_succ, decide_eq_true_eq, Bool.false_eq_true, Bool.true_eq_false, ↓reduceIte, Bool.not_true, Bool.not_false, decide_true, decide_false, isTy, isTyK, kindD, PySem.sizeLine_eq, List.length_cons, List.length_nil, true_and, and_true, true_implies, Bool.not_eq_true', decide_eq_false_iff_not, Nat.reduceAdd, Nat.reduceLeDiff, Nat.reduceLT, Int.reduceAdd, Int.reduceSub, Int.reduceLT, Int.reduceLE, Int.reduceNeg, Int.reduceEq, Nat.reduceEqDiff, not_true_eq_false, not_false_eq_true]
  refine ⟨by omega, by omega, ?_⟩
  refine loop_inv (fun ω => ∃ a b c d e f g h i, ω = [.scr ns, a, b, c, d, e, f, g, h, i]) _ (fun d hd ω hω N hN => ?_) (fun ω hω => ?_) _ ⟨_, _, _, _, _, _, _, _, _, rfl⟩
  · obtain ⟨a, b, c, d', e, f, g, h, i, rfl⟩ := hω
    obtain ⟨st, rfl, i0, i1⟩ := range_mem hd
    simp -implicitDefEqProofs only [↓x_fnD, ↓x_skip, ↓x_seq, ↓x_brk, ↓x_cnt, ↓x_exp, ↓x_ret, ↓x_retN, ↓x_ifS, ↓x_set, ↓x_asg, ↓x_own, ↓x_fLst, ↓x_tape, ↓x_C, ↓x_op, ↓x_un, ↓x_test, ↓x_and, ↓x_or, ↓x_not, ↓x_if, ↓x_dnil, ↓x_dcons, ↓x_anil, ↓x_acons, ↓x_tup, ↓x_lst, ↓x_call, ↓x_fn, ↓x_isi, ↓x_new, ↓x_gN, ↓x_yes, ↓x_for, ↓x_iData, ↓x_iRg1, ↓x_oNo, ↓x_oSome, ↓x_sl, ↓x_mD1, ↓x_mD2, ↓x_mD3, ↓x_mD4, ↓x_mD5, ↓x_mT0, ↓x_mT1, ↓x_mT2, ↓x_mT3, ↓x_mT4, ↓x_eqI, ↓x_eqS, ↓x_eqB, ↓x_eqIS, ↓x_eqSI, ↓x_eqNN, ↓x_eqNI, ↓x_eqIN, ↓x_eqNS, ↓x_eqSN, ↓x_neI, ↓x_neS, ↓x_neB, ↓x_ltI, ↓x_ltS, ↓x_leI, ↓x_leS, ↓x_gtI, ↓x_gtS, ↓x_geI, ↓x_geS, ↓x_isN, ↓x_notN, ↓x_nonN, ↓x_nonI, ↓x_nonB, ↓x_nonS, ↓x_nonT, ↓x_nonL, ↓x_addI, ↓x_addS, ↓x_addT, ↓x_addL, ↓x_subI, ↓x_negI, ↓x_mulI, ↓x_mulS, ↓x_mulL, ↓x_modI, ↓x_divI, ↓x_powI, ↓x_lenL, ↓x_lenT, ↓x_lenS, ↓x_max2, ↓x_min2, ↓x_int1I, ↓x_int1B, ↓x_listL, ↓x_listT, ↓x_listS, ↓x_itL, ↓x_itT, ↓x_itS, ↓x_ixL0, ↓x_ixT0, ↓x_ixT1, ↓x_ixL1, ↓x_ixT2, ↓x_ixL2, ↓x_ixT3, ↓x_ixT4, ↓x_ixT5, ↓x_lc, ↓x_wipe0, ↓x_wipe1, ↓x_join, ↓x_gT, ↓x_gsN, ↓x_gsC, ↓x_notV, ↓x_andV, ↓x_orV, ↓x_chain, ↓x_tape1, ↓x_v0, ↓x_st0, ↓x_ap0, ↓x_io0, ↓x_lo0, ↓x_ro0, ↓x_v1, ↓x_st1, ↓x_ap1, ↓x_io1, ↓x_lo1, ↓x_ro1, ↓x_v2, ↓x_st2, ↓x_ap2, ↓x_io2, ↓x_lo2, ↓x_ro2, ↓x_v3, ↓x_st3, ↓x_ap3, ↓x_io3, ↓x_lo3, ↓x_ro3, ↓x_v4, ↓x_st4, ↓x_ap4, ↓x_io4, ↓x_lo4, ↓x_ro4, ↓x_v5, ↓x_st5, ↓x_ap5, ↓x_io5, ↓x_lo5, ↓x_ro5, ↓x_v6, ↓x_st6, ↓x_ap6, ↓x_io6, ↓x_lo6, ↓x_ro6, ↓x_v7, ↓x_st7, ↓x_ap7, ↓x_io7, ↓x_lo7, ↓x_ro7, ↓x_v8, ↓x_st8, ↓x_ap8, ↓x_io8, ↓x_lo8, ↓x_ro8, ↓x_v9, ↓x_st9, ↓x_ap9, ↓x_io9, ↓x_lo9, ↓x_ro9, ↓x_v10, ↓x_st10, ↓x_ap10, ↓x_io10, ↓x_lo10, ↓x_ro10, ↓x_v11, ↓x_st11, ↓x_ap11, ↓x_io11, ↓x_lo11, ↓x_ro11, ↓x_v12, ↓x_v13, ↓x_v14, ↓x_v15, ↓x_ss0, ↓x_ls0, ↓x_subII, ↓x_subBB, ↓x_repr, ↓x_sw, ↓x_M1, ↓x_par, ↓x_gSt1, ↓x_gSt3, ↓x_fo0, ↓x_fd0, ↓x_po0, ↓x_pt0, ↓x_fo1, ↓x_fd1, ↓x_po1, ↓x_pt1, ↓x_fo2, ↓x_fd2, ↓x_po2, ↓x_pt2, ↓x_fo3, ↓x_fd3, ↓x_po3, ↓x_pt3, ↓x_fo4, ↓x_fd4, ↓x_po4, ↓x_pt4, ↓x_fo5, ↓x_fd5, ↓x_po5, ↓x_pt5, ↓x_fo6, ↓x_fd6, ↓x_po6, ↓x_pt6, ↓x_fo7, ↓x_fd7, ↓x_po7, ↓x_pt7, ↓x_fo8, ↓x_fd8, ↓x_po8, ↓x_pt8, ↓x_fo9, ↓x_fd9, ↓x_po9, ↓x_pt9, ↓x_fo10, ↓x_fd10, ↓x_po10, ↓x_pt10, ↓x_fo11, ↓x_fd11, ↓x_po11, ↓x_pt11, ↓x_plI, ↓x_plB, ↓x_plS, ↓x_in2, ↓x_in3, ↓x_sl1T, ↓x_sl1L, ↓x_slS, ↓x_tuL, ↓x_tuT, ↓x_enumD, ↓x_iAsc, ↓x_eq0T, ↓x_eq0L, ↓x_mulT, ↓x_pu0, ↓x_pu1, ↓x_pu2, ↓x_pu3, ↓x_pu4, ↓x_pu5, ↓x_pu6, ↓x_pu7, ↓x_pu8, ↓x_pu9, ↓x_pu10, ↓x_pu11, ↓x_isB, ↓x_isNB, ↓x_nonD, ↓x_in4, ↓x_nin4, ↓x_nin2, ↓x_tupRg, ↓x_lstRg, ↓x_g_LIMIT, ↓x_g_MAX_CHOICES, ↓x_g_MAX_DEPTH, ↓x_g_MAX_ORDER, ↓x_g_MAX_TEXT, ↓x_g_TESTS, List.cons_append, List.nil_append, List.replicate_succ, List.replicate_zero, List.set_cons_zero, List.set_cons_succ, List.getElem?_cons_zero, List.getElem?_cons_succ, decide_eq_true_eq, Bool.false_eq_true, Bool.true_eq_false, ↓reduceIte, Bool.not_true, Bool.not_false, decide_true, decide_false, isTy, isTyK, kindD, PySem.sizeLine_eq, List.length_cons, List.length_nil, true_and, and_true, true_implies, Bool.not_eq_true', decide_eq_false_iff_not, Nat.reduceAdd, Nat.reduceLeDiff, Nat.reduceLT, Int.reduceAdd, Int.reduceSub, Int.reduceLT, Int.reduceLE, Int.reduceNeg, Int.reduceEq, Nat.reduceEqDiff, not_true_eq_false, not_false_eq_true, x_pick]
    refine ⟨⟨i0, by omega, hl, hb⟩, by decide, fun r r0 r1 => ⟨by decide, fun q q0 q1 => ⟨by split <;> omega, by split <;> omega, by rw [range_len]; split <;> omega, ?_⟩⟩⟩
    refine lc_all (fun p => ∃ (c : Int) (b : Bool), p = .tuple [.int c, .bool b] ∧ c.natAbs < 1000) _ _ (fun d hd N hN => ?_) fun os hol hos => ?_
    · obtain ⟨k, rfl, k0, k1⟩ := range_mem hd
      simp -implicitDefEqProofs only [↓x_fnD, ↓x_skip, ↓x_seq, ↓x_brk, ↓x_cnt, ↓x_exp, ↓x_ret, ↓x_retN, ↓x_ifS, ↓x_set, ↓x_asg, ↓x_own, ↓x_fLst, ↓x_tape, ↓x_C, ↓x_op, ↓x_un, ↓x_test, ↓x_and, ↓x_or, ↓x_not, ↓x_if, ↓x_dnil, ↓x_dcons, ↓x_anil, ↓x_acons, ↓x_tup, ↓x_lst, ↓x_call, ↓x_fn, ↓x_isi, ↓x_new, ↓x_gN, ↓x_yes, ↓x_for, ↓x_iData, ↓x_iRg1, ↓x_oNo, ↓x_oSome, ↓x_sl, ↓x_mD1, ↓x_mD2, ↓x_mD3, ↓x_mD4, ↓x_mD5, ↓x_mT0, ↓x_mT1, ↓x_mT2, ↓x_mT3, ↓x_mT4, ↓x_eqI, ↓x_eqS, ↓x_eqB, ↓x_eqIS, ↓x_eqSI, ↓x_eqNN, ↓x_eqNI, ↓x_eqIN, ↓x_eqNS, ↓x_eqSN, ↓x_neI, ↓x_neS, ↓x_neB, ↓x_ltI, ↓x_ltS, ↓x_leI, ↓x_leS, ↓x_gtI, ↓x_gtS, ↓x_geI, ↓x_geS, ↓x_isN, ↓x_notN, ↓x_nonN, ↓x_nonI, ↓x_nonB, ↓x_nonS, ↓x_nonT, ↓x_nonL, ↓x_addI, ↓x_addS, ↓x_addT, ↓x_addL, ↓x_subI, ↓x_negI, ↓x_mulI, ↓x_mulS, ↓x_mulL, ↓x_modI, ↓x_divI, ↓x_powI, ↓x_lenL, ↓x_lenT, ↓x_lenS, ↓x_max2, ↓x_min2, ↓x_int1I, ↓x_int1B, ↓x_listL, ↓x_listT, ↓x_listS, ↓x_itL, ↓x_itT, ↓x_itS, ↓x_ixL0, ↓x_ixT0, ↓x_ixT1, ↓x_ixL1, ↓x_ixT2, ↓x_ixL2, ↓x_ixT3, ↓x_ixT4, ↓x_ixT5, ↓x_lc, ↓x_wipe0, ↓x_wipe1, ↓x_join, ↓x_gT, ↓x_gsN, ↓x_gsC, ↓x_notV, ↓x_andV, ↓x_orV, ↓x_chain, ↓x_tape1, ↓x_v0, ↓x_st0, ↓x_ap0, ↓x_io0, ↓x_lo0, ↓x_ro0, ↓x_v1, ↓x_st1, ↓x_ap1, ↓x_io1, ↓x_lo1, ↓x_ro1, ↓x_v2, ↓x_st2, ↓x_ap2, ↓x_io2, ↓x_lo2, ↓x_ro2, ↓x_v3, ↓x_st3, ↓x_ap3, ↓x_io3, ↓x_lo3, ↓x_ro3, ↓x_v4, ↓x_st4, ↓x_ap4, ↓x_io4, ↓x_lo4, ↓x_ro4, ↓x_v5, ↓x_st5, ↓x_ap5, ↓x_io5, ↓x_lo5, ↓x_ro5, ↓x_v6, ↓x_st6, ↓x_ap6, ↓x_io6, ↓x_lo6, ↓x_ro6, ↓x_v7, ↓x_st7, ↓x_ap7, ↓x_io7, ↓x_lo7, ↓x_ro7, ↓x_v8, ↓x_st8, ↓x_ap8, ↓x_io8, ↓x_lo8, ↓x_ro8, ↓x_v9, ↓x_st9, ↓x_ap9, ↓x_io9, ↓x_lo9, ↓x_ro9, ↓x_v10, ↓x_st10, ↓x_ap10, ↓x_io10, ↓x_lo10, ↓x_ro10, ↓x_v11, ↓x_st11, ↓x_ap11, ↓x_io11, ↓x_lo11, ↓x_ro11, ↓x_v12, ↓x_v13, ↓x_v14, ↓x_v15, ↓x_ss0, ↓x_ls0, ↓x_subII, ↓x_subBB, ↓x_repr, ↓x_sw, ↓x_M1, ↓x_par, ↓x_gSt1, ↓x_gSt3, ↓x_fo0, ↓x_fd0, ↓x_po0, ↓x_pt0, ↓x_fo1, ↓x_fd1, ↓x_po1, ↓x_pt1, ↓x_fo2, ↓x_fd2, ↓x_po2, ↓x_pt2, ↓x_fo3, ↓x_fd3, ↓x_po3, ↓x_pt3, ↓x_fo4, ↓x_fd4, ↓x_po4, ↓x_pt4, ↓x_fo5, ↓x_fd5, ↓x_po5, ↓x_pt5, ↓x_fo6, ↓x_fd6, ↓x_po6, ↓x_pt6, ↓x_fo7, ↓x_fd7, ↓x_po7, ↓x_pt7, ↓x_fo8, ↓x_fd8, ↓x_po8, ↓x_pt8, ↓x_fo9, ↓x_fd9, ↓x_po9, ↓x_pt9, ↓x_fo10, ↓x_fd10, ↓x_po10, ↓x_pt10, ↓x_fo11, ↓x_fd11, ↓x_po11, ↓x_pt11, ↓x_plI, ↓x_plB, ↓x_plS, ↓x_in2, ↓x_in3, ↓x_sl1T, ↓x_sl1L, ↓x_slS, ↓x_tuL, ↓x_tuT, ↓x_enumD, ↓x_iAsc, ↓x_eq0T, ↓x_eq0L, ↓x_mulT, ↓x_pu0, ↓x_pu1, ↓x_pu2, ↓x_pu3, ↓x_pu4, ↓x_pu5, ↓x_pu6, ↓x_pu7, ↓x_pu8, ↓x_pu9, ↓x_pu10, ↓x_pu11, ↓x_isB, ↓x_isNB, ↓x_nonD, ↓x_in4, ↓x_nin4, ↓x_nin2, ↓x_tupRg, ↓x_lstRg, ↓x_g_LIMIT, ↓x_g_MAX_CHOICES, ↓x_g_MAX_DEPTH, ↓x_g_MAX_ORDER, ↓x_g_MAX_TEXT, ↓x_g_TESTS, List.cons_append, List.nil_append, List.replicate_succ, List.replicate_zero, List.set_cons_zero, List.set_cons_succ, List.getElem?_cons_zero, List.getElem?_cons_succ, decide_eq_true_eq, Bool.false_eq_true, Bool.true_eq_false, ↓reduceIte, Bool.not_true, Bool.not_false, decide_true, decide_false, isTy, isTyK, kindD, PySem.sizeLine_eq, List.length_cons, List.length_nil, true_and, and_true, true_implies, Bool.not_eq_true', decide_eq_false_iff_not, Nat.reduceAdd, Nat.reduceLeDiff, Nat.reduceLT, Int.reduceAdd, Int.reduceSub, Int.reduceLT, Int.reduceLE, Int.reduceNeg, Int.reduceEq, Nat.reduceEqDiff, not_true_eq_false, not_false_eq_true, x_pick]
      exact hN _ ⟨_, _, rfl, by split at k1 <;> omega⟩
    rw [range_len] at hol
    have go : Gd 1635 2 (.tuple os) := Gd.ord (by split at hol <;> omega) hos
    simp -implicitDefEqProofs only [↓x_fnD, ↓x_skip, ↓x_seq, ↓x_brk, ↓x_cnt, ↓x_exp, ↓x_ret, ↓x_retN, ↓x_ifS, ↓x_set, ↓x_asg, ↓x_own, ↓x_fLst, ↓x_tape, ↓x_C, ↓x_op, ↓x_un, ↓x_test, ↓x_and, ↓x_or, ↓x_not, ↓x_if, ↓x_dnil, ↓x_dcons, ↓x_anil, ↓x_acons, ↓x_tup, ↓x_lst, ↓x_call, ↓x_fn, ↓x_isi, ↓x_new, ↓x_gN, ↓x_yes, ↓x_for, ↓x_iData, ↓x_iRg1, ↓x_oNo, ↓x_oSome, ↓x_sl, ↓x_mD1, ↓x_mD2, ↓x_mD3, ↓x_mD4, ↓x_mD5, ↓x_mT0, ↓x_mT1, ↓x_mT2, ↓x_mT3, ↓x_mT4, ↓x_eqI, ↓x_eqS, ↓x_eqB, ↓x_eqIS, ↓x_eqSI, ↓x_eqNN, ↓x_eqNI, ↓x_eqIN, ↓x_eqNS, ↓x_eqSN, ↓x_neI, ↓x_neS, ↓x_neB, ↓x_ltI, ↓x_ltS, ↓x_leI, ↓x_leS, ↓x_gtI, ↓x_gtS, ↓x_geI, ↓x_geS, ↓x_isN, ↓x_notN, ↓x_nonN, ↓x_nonI, ↓x_nonB, ↓x_nonS, ↓x_nonT, ↓x_nonL, ↓x_addI, ↓x_addS, ↓x_addT, ↓x_addL, ↓x_subI, ↓x_negI, ↓x_mulI, ↓x_mulS, ↓x_mulL, ↓x_modI, ↓x_divI, ↓x_powI, ↓x_lenL, ↓x_lenT, ↓x_lenS, ↓x_max2, ↓x_min2, ↓x_int1I, ↓x_int1B, ↓x_listL, ↓x_listT, ↓x_listS, ↓x_itL, ↓x_itT, ↓x_itS, ↓x_ixL0, ↓x_ixT0, ↓x_ixT1, ↓x_ixL1, ↓x_ixT2, ↓x_ixL2, ↓x_ixT3, ↓x_ixT4, ↓x_ixT5, ↓x_lc, ↓x_wipe0, ↓x_wipe1, ↓x_join, ↓x_gT, ↓x_gsN, ↓x_gsC, ↓x_notV, ↓x_andV, ↓x_orV, ↓x_chain, ↓x_tape1, ↓x_v0, ↓x_st0, ↓x_ap0, ↓x_io0, ↓x_lo0, ↓x_ro0, ↓x_v1, ↓x_st1, ↓x_ap1, ↓x_io1, ↓x_lo1, ↓x_ro1, ↓x_v2, ↓x_st2, ↓x_ap2, ↓x_io2, ↓x_lo2, ↓x_ro2, ↓x_v3, ↓x_st3, ↓x_ap3, ↓x_io3, ↓x_lo3, ↓x_ro3, ↓x_v4, ↓x_st4, ↓x_ap4, ↓x_io4, ↓x_lo4, ↓x_ro4, ↓x_v5, ↓x_st5, ↓x_ap5, ↓x_io5, ↓x_lo5, ↓x_ro5, ↓x_v6, ↓x_st6, ↓x_ap6, ↓x_io6, ↓x_lo6, ↓x_ro6, ↓x_v7, ↓x_st7, ↓x_ap7, ↓x_io7, ↓x_lo7, ↓x_ro7, ↓x_v8, ↓x_st8, ↓x_ap8, ↓x_io8, ↓x_lo8, ↓x_ro8, ↓x_v9, ↓x_st9, ↓x_ap9, ↓x_io9, ↓x_lo9, ↓x_ro9, ↓x_v10, ↓x_st10, ↓x_ap10, ↓x_io10, ↓x_lo10, ↓x_ro10, ↓x_v11, ↓x_st11, ↓x_ap11, ↓x_io11, ↓x_lo11, ↓x_ro11, ↓x_v12, ↓x_v13, ↓x_v14, ↓x_v15, ↓x_ss0, ↓x_ls0, ↓x_subII, ↓x_subBB, ↓x_repr, ↓x_sw, ↓x_M1, ↓x_par, ↓x_gSt1, ↓x_gSt3, ↓x_fo0, ↓x_fd0, ↓x_po0, ↓x_pt0, ↓x_fo1, ↓x_fd1, ↓x_po1, ↓x_pt1, ↓x_fo2, ↓x_fd2, ↓x_po2, ↓x_pt2, ↓x_fo3, ↓x_fd3, ↓x_po3, ↓x_pt3, ↓x_fo4, ↓x_fd4, ↓x_po4, ↓x_pt4, ↓x_fo5, ↓x_fd5, ↓x_po5, ↓x_pt5, ↓x_fo6, ↓x_fd6, ↓x_po6, ↓x_pt6, ↓x_fo7, ↓x_fd7, ↓x_po7, ↓x_pt7, ↓x_fo8, ↓x_fd8, ↓x_po8, ↓x_pt8, ↓x_fo9, ↓x_fd9, ↓x_po9, ↓x_pt9, ↓x_fo10, ↓x_fd10, ↓x_po10, ↓x_pt10, ↓x_fo11, ↓x_fd11, ↓x_po11, ↓x_pt11, ↓x_plI, ↓x_plB, ↓x_plS, ↓x_in2, ↓x_in3, ↓x_sl1T, ↓x_sl1L, ↓x_slS, ↓x_tuL, ↓x_tuT, ↓x_enumD, ↓x_iAsc, ↓x_eq0T, ↓x_eq0L, ↓x_mulT, ↓x_pu0, ↓x_pu1, ↓x_pu2, ↓x_pu3, ↓x_pu4, ↓x_pu5, ↓x_pu6, ↓x_pu7, ↓x_pu8, ↓x_pu9, ↓x_pu10, ↓x_pu11, ↓x_isB, ↓x_isNB, ↓x_nonD, ↓x_in4, ↓x_nin4, ↓x_nin2, ↓x_tupRg, ↓x_lstRg, ↓x_g_LIMIT, ↓x_g_MAX_CHOICES, ↓x_g_MAX_DEPTH, ↓x_g_MAX_ORDER, ↓x_g_MAX_TEXT, ↓x_g_TESTS, List.cons_append, List.nil_append, List.replicate_succ, List.replicate_zero, List.set_cons_zero, List.set_cons_succ, List.getElem?_cons_zero, List.getElem?_cons_succ, decide_eq_true_eq, Bool.false_eq_true, Bool.true_eq_false, ↓reduceIte, Bool.not_true, Bool.not_false, decide_true, decide_false, isTy, isTyK, kindD, PySem.sizeLine_eq, List.length_cons, List.length_nil, true_and, and_true, true_implies, Bool.not_eq_true', decide_eq_false_iff_not, Nat.reduceAdd, Nat.reduceLeDiff, Nat.reduceLT, Int.reduceAdd, Int.reduceSub, Int.reduceLT, Int.reduceLE, Int.reduceNeg, Int.reduceEq, Nat.reduceEqDiff, not_true_eq_false, not_false_eq_true, x_pick]
    refine ⟨1 + r, rfl, by omega, by omega, fun v ok => ⟨by omega, by omega, ?_⟩⟩
    have g0 : Gd 45000 5 v.d := VT.good ok (by omega)
    have g1 : Gd 45000 5 (.tuple [.tuple [.str "all"], .tuple os, .tuple (rangeD 0 (1 + r).toNat)]) := (Gd.v3 (Gd.all.mono (m' := 67) (k' := 2) (by decide) (by decide)) go (Gd.cols (by rw [range_len]; omega) fun p hp => by
      obtain ⟨k, rfl, k0, k1⟩ := range_mem hp
      exact ⟨_, rfl, by omega⟩) (by decide)).mono (by decide) (by decide)
    refine loop_inv (fun ω => ∃ e f g h i, ω = [.scr ns, .dat (.int st), .tape, .dat (.int (1 + r)), .dat (.tuple os), e, f, g, h, i]) _ (fun x hx ω hω N3 hN3 => ?_) (fun ω hω => ?_) _ ⟨_, _, _, _, _, rfl⟩
    · obtain ⟨e, f, g, h, i, rfl⟩ := hω
      have gx : Gd 45000 5 x := by
        simp only [List.mem_cons, List.not_mem_nil, or_false] at hx
        rcases hx with z | z <;> subst z
        · exact g0
        · exact g1
      simp -implicitDefEqProofs only [↓x_fnD, ↓x_skip, ↓x_seq, ↓x_brk, ↓x_cnt, ↓x_exp, ↓x_ret, ↓x_retN, ↓x_ifS, ↓x_set, ↓x_asg, ↓x_own, ↓x_fLst, ↓x_tape, ↓x_C, ↓x_op, ↓x_un, ↓x_test, ↓x_and, ↓x_or, ↓x_not, ↓x_if, ↓x_dnil, ↓x_dcons, ↓x_anil, ↓x_acons, ↓x_tup, ↓x_lst, ↓x_call, ↓x_fn, ↓x_isi, ↓x_new, ↓x_gN, ↓x_yes, ↓x_for, ↓x_iData, ↓x_iRg1, ↓x_oNo, ↓x_oSome, ↓x_sl, ↓x_mD1, ↓x_mD2, ↓x_mD3, ↓x_mD4, ↓x_mD5, ↓x_mT0, ↓x_mT1, ↓x_mT2, ↓x_mT3, ↓x_mT4, ↓x_eqI, ↓x_eqS, ↓x_eqB, ↓x_eqIS, ↓x_eqSI, ↓x_eqNN, ↓x_eqNI, ↓x_eqIN, ↓x_eqNS, ↓x_eqSN, ↓x_neI, ↓x_neS, ↓x_neB, ↓x_ltI, ↓x_ltS, ↓x_leI, ↓x_leS, ↓x_gtI, ↓x_gtS, ↓x_geI, ↓x_geS, ↓x_isN, ↓x_notN, ↓x_nonN, ↓x_nonI, ↓x_nonB, ↓x_nonS, ↓x_nonT, ↓x_nonL, ↓x_addI, ↓x_addS, ↓x_addT, ↓x_addL, ↓x_subI, ↓x_negI, ↓x_mulI, ↓x_mulS, ↓x_mulL, ↓x_modI, ↓x_divI, ↓x_powI, ↓x_lenL, ↓x_lenT, ↓x_lenS, ↓x_max2, ↓x_min2, ↓x_int1I, ↓x_int1B, ↓x_listL, ↓x_listT, ↓x_listS, ↓x_itL, ↓x_itT, ↓x_itS, ↓x_ixL0, ↓x_ixT0, ↓x_ixT1, ↓x_ixL1, ↓x_ixT2, ↓x_ixL2, ↓x_ixT3, ↓x_ixT4, ↓x_ixT5, ↓x_lc, ↓x_wipe0, ↓x_wipe1, ↓x_join, ↓x_gT, ↓x_gsN, ↓x_gsC, ↓x_notV, ↓x_andV, ↓x_orV, ↓x_chain, ↓x_tape1, ↓x_v0, ↓x_st0, ↓x_ap0, ↓x_io0, ↓x_lo0, ↓x_ro0, ↓x_v1, ↓x_st1, ↓x_ap1, ↓x_io1, ↓x_lo1, ↓x_ro1, ↓x_v2, ↓x_st2, ↓x_ap2, ↓x_io2, ↓x_lo2, ↓x_ro2, ↓x_v3, ↓x_st3, ↓x_ap3, ↓x_io3, ↓x_lo3, ↓x_ro3, ↓x_v4, ↓x_st4, ↓x_ap4, ↓x_io4, ↓x_lo4, ↓x_ro4, ↓x_v5, ↓x_st5, ↓x_ap5, ↓x_io5, ↓x_lo5, ↓x_ro5, ↓x_v6, ↓x_st6, ↓x_ap6, ↓x_io6, ↓x_lo6, ↓x_ro6, ↓x_v7, ↓x_st7, ↓x_ap7, ↓x_io7, ↓x_lo7, ↓x_ro7, ↓x_v8, ↓x_st8, ↓x_ap8, ↓x_io8, ↓x_lo8, ↓x_ro8, ↓x_v9, ↓x_st9, ↓x_ap9, ↓x_io9, ↓x_lo9, ↓x_ro9, ↓x_v10, ↓x_st10, ↓x_ap10, ↓x_io10, ↓x_lo10, ↓x_ro10, ↓x_v11, ↓x_st11, ↓x_ap11, ↓x_io11, ↓x_lo11, ↓x_ro11, ↓x_v12, ↓x_v13, ↓x_v14, ↓x_v15, ↓x_ss0, ↓x_ls0, ↓x_subII, ↓x_subBB, ↓x_repr, ↓x_sw, ↓x_M1, ↓x_par, ↓x_gSt1, ↓x_gSt3, ↓x_fo0, ↓x_fd0, ↓x_po0, ↓x_pt0, ↓x_fo1, ↓x_fd1, ↓x_po1, ↓x_pt1, ↓x_fo2, ↓x_fd2, ↓x_po2, ↓x_pt2, ↓x_fo3, ↓x_fd3, ↓x_po3, ↓x_pt3, ↓x_fo4, ↓x_fd4, ↓x_po4, ↓x_pt4, ↓x_fo5, ↓x_fd5, ↓x_po5, ↓x_pt5, ↓x_fo6, ↓x_fd6, ↓x_po6, ↓x_pt6, ↓x_fo7, ↓x_fd7, ↓x_po7, ↓x_pt7, ↓x_fo8, ↓x_fd8, ↓x_po8, ↓x_pt8, ↓x_fo9, ↓x_fd9, ↓x_po9, ↓x_pt9, ↓x_fo10, ↓x_fd10, ↓x_po10, ↓x_pt10, ↓x_fo11, ↓x_fd11, ↓x_po11, ↓x_pt11, ↓x_plI, ↓x_plB, ↓x_plS, ↓x_in2, ↓x_in3, ↓x_sl1T, ↓x_sl1L, ↓x_slS, ↓x_tuL, ↓x_tuT, ↓x_enumD, ↓x_iAsc, ↓x_eq0T, ↓x_eq0L, ↓x_mulT, ↓x_pu0, ↓x_pu1, ↓x_pu2, ↓x_pu3, ↓x_pu4, ↓x_pu5, ↓x_pu6, ↓x_pu7, ↓x_pu8, ↓x_pu9, ↓x_pu10, ↓x_pu11, ↓x_isB, ↓x_isNB, ↓x_nonD, ↓x_in4, ↓x_nin4, ↓x_nin2, ↓x_tupRg, ↓x_lstRg, ↓x_g_LIMIT, ↓x_g_MAX_CHOICES, ↓x_g_MAX_DEPTH, ↓x_g_MAX_ORDER, ↓x_g_MAX_TEXT, ↓x_g_TESTS, List.cons_append, List.nil_append, List.replicate_succ, List.replicate_zero, List.set_cons_zero, List.set_cons_succ, List.getElem?_cons_zero, List.getElem?_cons_succ, decide_eq_true_eq, Bool.false_eq_true, Bool.true_eq_false, ↓reduceIte, Bool.not_true, Bool.not_false, decide_true, decide_false, isTy, isTyK, kindD, PySem.sizeLine_eq, List.length_cons, List.length_nil, true_and, and_true, true_implies, Bool.not_eq_true', decide_eq_false_iff_not, Nat.reduceAdd, Nat.reduceLeDiff, Nat.reduceLT, Int.reduceAdd, Int.reduceSub, Int.reduceLT, Int.reduceLE, Int.reduceNeg, Int.reduceEq, Nat.reduceEqDiff, not_true_eq_false, not_false_eq_true, x_pick]
      have x1 := gx.s
      have x2 := gx.d
      refine ⟨1 + r, rfl, gx.w, by omega, by omega, by decide, fun s s0 s1 => ⟨1 + s, rfl, gx.w, by omega, by omega, by decide, ?_⟩⟩
      refine loop_inv (fun ω => ∃ e g h i, ω = [.scr ns, .dat (.int st), .tape, .dat (.int (1 + r)), .dat (.tuple os), e, .dat x, g, h, i]) _ (fun z hz ω hω N4 hN4 => ?_) (fun ω hω => ?_) _ ⟨_, _, _, _, rfl⟩
      · obtain ⟨e, g, h, i, rfl⟩ := hω
        obtain ⟨zn, rfl, z0, z1⟩ := range_mem hz
        simp -implicitDefEqProofs only [↓x_fnD, ↓x_skip, ↓x_seq, ↓x_brk, ↓x_cnt, ↓x_exp, ↓x_ret, ↓x_retN, ↓x_ifS, ↓x_set, ↓x_asg, ↓x_own, ↓x_fLst, ↓x_tape, ↓x_C, ↓x_op, ↓x_un, ↓x_test, ↓x_and, ↓x_or, ↓x_not, ↓x_if, ↓x_dnil, ↓x_dcons, ↓x_anil, ↓x_acons, ↓x_tup, ↓x_lst, ↓x_call, ↓x_fn, ↓x_isi, ↓x_new, ↓x_gN, ↓x_yes, ↓x_for, ↓x_iData, ↓x_iRg1, ↓x_oNo, ↓x_oSome, ↓x_sl, ↓x_mD1, ↓x_mD2, ↓x_mD3, ↓x_mD4, ↓x_mD5, ↓x_mT0, ↓x_mT1, ↓x_mT2, ↓x_mT3, ↓x_mT4, ↓x_eqI, ↓x_eqS, ↓x_eqB, ↓x_eqIS, ↓x_eqSI, ↓x_eqNN, ↓x_eqNI, ↓x_eqIN, ↓x_eqNS, ↓x_eqSN, ↓x_neI, ↓x_neS, ↓x_neB, ↓x_ltI, ↓x_ltS, ↓x_leI, ↓x_leS, ↓x_gtI, ↓x_gtS, ↓x_geI, ↓x_geS, ↓x_isN, ↓x_notN, ↓x_nonN, ↓x_nonI, ↓x_nonB, ↓x_nonS, ↓x_nonT, ↓x_nonL, ↓x_addI, ↓x_addS, ↓x_addT, ↓x_addL, ↓x_subI, ↓x_negI, ↓x_mulI, ↓x_mulS, ↓x_mulL, ↓x_modI, ↓x_divI, ↓x_powI, ↓x_lenL, ↓x_lenT, ↓x_lenS, ↓x_max2, ↓x_min2, ↓x_int1I, ↓x_int1B, ↓x_listL, ↓x_listT, ↓x_listS, ↓x_itL, ↓x_itT, ↓x_itS, ↓x_ixL0, ↓x_ixT0, ↓x_ixT1, ↓x_ixL1, ↓x_ixT2, ↓x_ixL2, ↓x_ixT3, ↓x_ixT4, ↓x_ixT5, ↓x_lc, ↓x_wipe0, ↓x_wipe1, ↓x_join, ↓x_gT, ↓x_gsN, ↓x_gsC, ↓x_notV, ↓x_andV, ↓x_orV, ↓x_chain, ↓x_tape1, ↓x_v0, ↓x_st0, ↓x_ap0, ↓x_io0, ↓x_lo0, ↓x_ro0, ↓x_v1, ↓x_st1, ↓x_ap1, ↓x_io1, ↓x_lo1, ↓x_ro1, ↓x_v2, ↓x_st2, ↓x_ap2, ↓x_io2, ↓x_lo2, ↓x_ro2, ↓x_v3, ↓x_st3, ↓x_ap3, ↓x_io3, ↓x_lo3, ↓x_ro3, ↓x_v4, ↓x_st4, ↓x_ap4, ↓x_io4, ↓x_lo4, ↓x_ro4, ↓x_v5, ↓x_st5, ↓x_ap5, ↓x_io5, ↓x_lo5, ↓x_ro5, ↓x_v6, ↓x_st6, ↓x_ap6, ↓x_io6, ↓x_lo6, ↓x_ro6, ↓x_v7, ↓x_st7, ↓x_ap7, ↓x_io7, ↓x_lo7, ↓x_ro7, ↓x_v8, ↓x_st8, ↓x_ap8, ↓x_io8, ↓x_lo8, ↓x_ro8, ↓x_v9, ↓x_st9, ↓x_ap9, ↓x_io9, ↓x_lo9, ↓x_ro9, ↓x_v10, ↓x_st10, ↓x_ap10, ↓x_io10, ↓x_lo10, ↓x_ro10, ↓x_v11, ↓x_st11, ↓x_ap11, ↓x_io11, ↓x_lo11, ↓x_ro11, ↓x_v12, ↓x_v13, ↓x_v14, ↓x_v15, ↓x_ss0, ↓x_ls0, ↓x_subII, ↓x_subBB, ↓x_repr, ↓x_sw, ↓x_M1, ↓x_par, ↓x_gSt1, ↓x_gSt3, ↓x_fo0, ↓x_fd0, ↓x_po0, ↓x_pt0, ↓x_fo1, ↓x_fd1, ↓x_po1, ↓x_pt1, ↓x_fo2, ↓x_fd2, ↓x_po2, ↓x_pt2, ↓x_fo3, ↓x_fd3, ↓x_po3, ↓x_pt3, ↓x_fo4, ↓x_fd4, ↓x_po4, ↓x_pt4, ↓x_fo5, ↓x_fd5, ↓x_po5, ↓x_pt5, ↓x_fo6, ↓x_fd6, ↓x_po6, ↓x_pt6, ↓x_fo7, ↓x_fd7, ↓x_po7, ↓x_pt7, ↓x_fo8, ↓x_fd8, ↓x_po8, ↓x_pt8, ↓x_fo9, ↓x_fd9, ↓x_po9, ↓x_pt9, ↓x_fo10, ↓x_fd10, ↓x_po10, ↓x_pt10, ↓x_fo11, ↓x_fd11, ↓x_po11, ↓x_pt11, ↓x_plI, ↓x_plB, ↓x_plS, ↓x_in2, ↓x_in3, ↓x_sl1T, ↓x_sl1L, ↓x_slS, ↓x_tuL, ↓x_tuT, ↓x_enumD, ↓x_iAsc, ↓x_eq0T, ↓x_eq0L, ↓x_mulT, ↓x_pu0, ↓x_pu1, ↓x_pu2, ↓x_pu3, ↓x_pu4, ↓x_pu5, ↓x_pu6, ↓x_pu7, ↓x_pu8, ↓x_pu9, ↓x_pu10, ↓x_pu11, ↓x_isB, ↓x_isNB, ↓x_nonD, ↓x_in4, ↓x_nin4, ↓x_nin2, ↓x_tupRg, ↓x_lstRg, ↓x_g_LIMIT, ↓x_g_MAX_CHOICES, ↓x_g_MAX_DEPTH, ↓x_g_MAX_ORDER, ↓x_g_MAX_TEXT, ↓x_g_TESTS, List.cons_append, List.nil_append, List.replicate_succ, List.replicate_zero, List.set_cons_zero, List.set_cons_succ, List.getElem?_cons_zero, List.getElem?_cons_succ, decide_eq_true_eq, Bool.false_eq_true, Bool.true_eq_false, ↓reduceIte, Bool.not_true, Bool.not_false, decide_true, decide_false, isTy, isTyK, kindD, PySem.sizeLine_eq, List.length_cons, List.length_nil, true_and, and_true, true_implies, Bool.not_eq_true', decide_eq_false_iff_not, Nat.reduceAdd, Nat.reduceLeDiff, Nat.reduceLT, Int.reduceAdd, Int.reduceSub, Int.reduceLT, Int.reduceLE, Int.reduceNeg, Int.reduceEq, Nat.reduceEqDiff, not_true_eq_false, not_false_eq_true, x_pick]
        refine ⟨gx.w, by omega, by omega, fun b b1 b2 b3 => ?_⟩
        split
        · refine ⟨b1, by omega, by omega, fun b' c1 c2 c3 => ?_⟩
          exact ⟨1 + r, rfl, c1, by omega, by omega, hN4 _ ⟨_, _, _, _, rfl⟩⟩
        · exact ⟨1 + r, rfl, b1, by omega, by omega, hN4 _ ⟨_, _, _, _, rfl⟩⟩
      · obtain ⟨e, g, h, i, rfl⟩ := hω
        exact hN3 _ ⟨_, _, _, _, _, rfl⟩
    · obtain ⟨e, f, g, h, i, rfl⟩ := hω
      exact hN _ ⟨_, _, _, _, _, _, _, _, _, rfl⟩
  · obtain ⟨a, b, c, d', e, f, g, h, i, rfl⟩ := hω
    refine loop_inv (fun ω => ∃ a b c d e f g h i, ω = [.scr ns, a, b, c, d, e, f, g, h, i]) _ (fun x hx ω hω N3 hN3 => ?_) (fun ω hω => ?_) _ ⟨_, _, _, _, _, _, _, _, _, rfl⟩
    · obtain ⟨a, b, c, d', e, f, g, h, i, rfl⟩ := hω
      have hx' : decide (szD x ≤ 1000000) = true ∧ viewB 6 x = false := by
        have := (List.all_eq_true (p := fun y : D => decide (szD y ≤ 1000000) && !viewB 6 y)).mp (by decide +kernel) x hx
        simpa using this
      simp -implicitDefEqProofs only [↓x_fnD, ↓x_skip, ↓x_seq, ↓x_brk, ↓x_cnt, ↓x_exp, ↓x_ret, ↓x_retN, ↓x_ifS, ↓x_set, ↓x_asg, ↓x_own, ↓x_fLst, ↓x_tape, ↓x_C, ↓x_op, ↓x_un, ↓x_test, ↓x_and, ↓x_or, ↓x_not, ↓x_if, ↓x_dnil, ↓x_dcons, ↓x_anil, ↓x_acons, ↓x_tup, ↓x_lst, ↓x_call, ↓x_fn, ↓x_isi, ↓x_new, ↓x_gN, ↓x_yes, ↓x_for, ↓x_iData, ↓x_iRg1, ↓x_oNo, ↓x_oSome, ↓x_sl, ↓x_mD1, ↓x_mD2, ↓x_mD3, ↓x_mD4, ↓x_mD5, ↓x_mT0, ↓x_mT1, ↓x_mT2, ↓x_mT3, ↓x_mT4, ↓x_eqI, ↓x_eqS, ↓x_eqB, ↓x_eqIS, ↓x_eqSI, ↓x_eqNN, ↓x_eqNI, ↓x_eqIN, ↓x_eqNS, ↓x_eqSN, ↓x_neI, ↓x_neS, ↓x_neB, ↓x_ltI, ↓x_ltS, ↓x_leI, ↓x_leS, ↓x_gtI, ↓x_gtS, ↓x_geI, ↓x_geS, ↓x_isN, ↓x_notN, ↓x_nonN, ↓x_nonI, ↓x_nonB, ↓x_nonS, ↓x_nonT, ↓x_nonL, ↓x_addI, ↓x_addS, ↓x_addT, ↓x_addL, ↓x_subI, ↓x_negI, ↓x_mulI, ↓x_mulS, ↓x_mulL, ↓x_modI, ↓x_divI, ↓x_powI, ↓x_lenL, ↓x_lenT, ↓x_lenS, ↓x_max2, ↓x_min2, ↓x_int1I, ↓x_int1B, ↓x_listL, ↓x_listT, ↓x_listS, ↓x_itL, ↓x_itT, ↓x_itS, ↓x_ixL0, ↓x_ixT0, ↓x_ixT1, ↓x_ixL1, ↓x_ixT2, ↓x_ixL2, ↓x_ixT3, ↓x_ixT4, ↓x_ixT5, ↓x_lc, ↓x_wipe0, ↓x_wipe1, ↓x_join, ↓x_gT, ↓x_gsN, ↓x_gsC, ↓x_notV, ↓x_andV, ↓x_orV, ↓x_chain, ↓x_tape1, ↓x_v0, ↓x_st0, ↓x_ap0, ↓x_io0, ↓x_lo0, ↓x_ro0, ↓x_v1, ↓x_st1, ↓x_ap1, ↓x_io1, ↓x_lo1, ↓x_ro1, ↓x_v2, ↓x_st2, ↓x_ap2, ↓x_io2, ↓x_lo2, ↓x_ro2, ↓x_v3, ↓x_st3, ↓x_ap3, ↓x_io3, ↓x_lo3, ↓x_ro3, ↓x_v4, ↓x_st4, ↓x_ap4, ↓x_io4, ↓x_lo4, ↓x_ro4, ↓x_v5, ↓x_st5, ↓x_ap5, ↓x_io5, ↓x_lo5, ↓x_ro5, ↓x_v6, ↓x_st6, ↓x_ap6, ↓x_io6, ↓x_lo6, ↓x_ro6, ↓x_v7, ↓x_st7, ↓x_ap7, ↓x_io7, ↓x_lo7, ↓x_ro7, ↓x_v8, ↓x_st8, ↓x_ap8, ↓x_io8, ↓x_lo8, ↓x_ro8, ↓x_v9, ↓x_st9, ↓x_ap9, ↓x_io9, ↓x_lo9, ↓x_ro9, ↓x_v10, ↓x_st10, ↓x_ap10, ↓x_io10, ↓x_lo10, ↓x_ro10, ↓x_v11, ↓x_st11, ↓x_ap11, ↓x_io11, ↓x_lo11, ↓x_ro11, ↓x_v12, ↓x_v13, ↓x_v14, ↓x_v15, ↓x_ss0, ↓x_ls0, ↓x_subII, ↓x_subBB, ↓x_repr, ↓x_sw, ↓x_M1, ↓x_par, ↓x_gSt1, ↓x_gSt3, ↓x_fo0, ↓x_fd0, ↓x_po0, ↓x_pt0, ↓x_fo1, ↓x_fd1, ↓x_po1, ↓x_pt1, ↓x_fo2, ↓x_fd2, ↓x_po2, ↓x_pt2, ↓x_fo3, ↓x_fd3, ↓x_po3, ↓x_pt3, ↓x_fo4, ↓x_fd4, ↓x_po4, ↓x_pt4, ↓x_fo5, ↓x_fd5, ↓x_po5, ↓x_pt5, ↓x_fo6, ↓x_fd6, ↓x_po6, ↓x_pt6, ↓x_fo7, ↓x_fd7, ↓x_po7, ↓x_pt7, ↓x_fo8, ↓x_fd8, ↓x_po8, ↓x_pt8, ↓x_fo9, ↓x_fd9, ↓x_po9, ↓x_pt9, ↓x_fo10, ↓x_fd10, ↓x_po10, ↓x_pt10, ↓x_fo11, ↓x_fd11, ↓x_po11, ↓x_pt11, ↓x_plI, ↓x_plB, ↓x_plS, ↓x_in2, ↓x_in3, ↓x_sl1T, ↓x_sl1L, ↓x_slS, ↓x_tuL, ↓x_tuT, ↓x_enumD, ↓x_iAsc, ↓x_eq0T, ↓x_eq0L, ↓x_mulT, ↓x_pu0, ↓x_pu1, ↓x_pu2, ↓x_pu3, ↓x_pu4, ↓x_pu5, ↓x_pu6, ↓x_pu7, ↓x_pu8, ↓x_pu9, ↓x_pu10, ↓x_pu11, ↓x_isB, ↓x_isNB, ↓x_nonD, ↓x_in4, ↓x_nin4, ↓x_nin2, ↓x_tupRg, ↓x_lstRg, ↓x_g_LIMIT, ↓x_g_MAX_CHOICES, ↓x_g_MAX_DEPTH, ↓x_g_MAX_ORDER, ↓x_g_MAX_TEXT, ↓x_g_TESTS, List.cons_append, List.nil_append, List.replicate_succ, List.replicate_zero, List.set_cons_zero, List.set_cons_succ, List.getElem?_cons_zero, List.getElem?_cons_succ, decide_eq_true_eq, Bool.false_eq_true, Bool.true_eq_false, ↓reduceIte, Bool.not_true, Bool.not_false, decide_true, decide_false, isTy, isTyK, kindD, PySem.sizeLine_eq, List.length_cons, List.length_nil, true_and, and_true, true_implies, Bool.not_eq_true', decide_eq_false_iff_not, Nat.reduceAdd, Nat.reduceLeDiff, Nat.reduceLT, Int.reduceAdd, Int.reduceSub, Int.reduceLT, Int.reduceLE, Int.reduceNeg, Int.reduceEq, Nat.reduceEqDiff, not_true_eq_false, not_false_eq_true]
      refine ⟨6, rfl, of_decide_eq_true hx'.1, ?_⟩
      simp -implicitDefEqProofs only [↓x_fnD, ↓x_skip, ↓x_seq, ↓x_brk, ↓x_cnt, ↓x_exp, ↓x_ret, ↓x_retN, ↓x_ifS, ↓x_set, ↓x_asg, ↓x_own, ↓x_fLst, ↓x_tape, ↓x_C, ↓x_op, ↓x_un, ↓x_test, ↓x_and, ↓x_or, ↓x_not, ↓x_if, ↓x_dnil, ↓x_dcons, ↓x_anil, ↓x_acons, ↓x_tup, ↓x_lst, ↓x_call, ↓x_fn, ↓x_isi, ↓x_new, ↓x_gN, ↓x_yes, ↓x_for, ↓x_iData, ↓x_iRg1, ↓x_oNo, ↓x_oSome, ↓x_sl, ↓x_mD1, ↓x_mD2, ↓x_mD3, ↓x_mD4, ↓x_mD5, ↓x_mT0, ↓x_mT1, ↓x_mT2, ↓x_mT3, ↓x_mT4, ↓x_eqI, ↓x_eqS, ↓x_eqB, ↓x_eqIS, ↓x_eqSI, ↓x_eqNN, ↓x_eqNI, ↓x_eqIN, ↓x_eqNS, ↓x_eqSN, ↓x_neI, ↓x_neS, ↓x_neB, ↓x_ltI, ↓x_ltS, ↓x_leI, ↓x_leS, ↓x_gtI, ↓x_gtS, ↓x_geI, ↓x_geS, ↓x_isN, ↓x_notN, ↓x_nonN, ↓x_nonI, ↓x_nonB, ↓x_nonS, ↓x_nonT, ↓x_nonL, ↓x_addI, ↓x_addS, ↓x_addT, ↓x_addL, ↓x_subI, ↓x_negI, ↓x_mulI, ↓x_mulS, ↓x_mulL, ↓x_modI, ↓x_divI, ↓x_powI, ↓x_lenL, ↓x_lenT, ↓x_lenS, ↓x_max2, ↓x_min2, ↓x_int1I, ↓x_int1B, ↓x_listL, ↓x_listT, ↓x_listS, ↓x_itL, ↓x_itT, ↓x_itS, ↓x_ixL0, ↓x_ixT0, ↓x_ixT1, ↓x_ixL1, ↓x_ixT2, ↓x_ixL2, ↓x_ixT3, ↓x_ixT4, ↓x_ixT5, ↓x_lc, ↓x_wipe0, ↓x_wipe1, ↓x_join, ↓x_gT, ↓x_gsN, ↓x_gsC, ↓x_notV, ↓x_andV, ↓x_orV, ↓x_chain, ↓x_tape1, ↓x_v0, ↓x_st0, ↓x_ap0, ↓x_io0, ↓x_lo0, ↓x_ro0, ↓x_v1, ↓x_st1, ↓x_ap1, ↓x_io1, ↓x_lo1, ↓x_ro1, ↓x_v2, ↓x_st2, ↓x_ap2, ↓x_io2, ↓x_lo2, ↓x_ro2, ↓x_v3, ↓x_st3, ↓x_ap3, ↓x_io3, ↓x_lo3, ↓x_ro3, ↓x_v4, ↓x_st4, ↓x_ap4, ↓x_io4, ↓x_lo4, ↓x_ro4, ↓x_v5, ↓x_st5, ↓x_ap5, ↓x_io5, ↓x_lo5, ↓x_ro5, ↓x_v6, ↓x_st6, ↓x_ap6, ↓x_io6, ↓x_lo6, ↓x_ro6, ↓x_v7, ↓x_st7, ↓x_ap7, ↓x_io7, ↓x_lo7, ↓x_ro7, ↓x_v8, ↓x_st8, ↓x_ap8, ↓x_io8, ↓x_lo8, ↓x_ro8, ↓x_v9, ↓x_st9, ↓x_ap9, ↓x_io9, ↓x_lo9, ↓x_ro9, ↓x_v10, ↓x_st10, ↓x_ap10, ↓x_io10, ↓x_lo10, ↓x_ro10, ↓x_v11, ↓x_st11, ↓x_ap11, ↓x_io11, ↓x_lo11, ↓x_ro11, ↓x_v12, ↓x_v13, ↓x_v14, ↓x_v15, ↓x_ss0, ↓x_ls0, ↓x_subII, ↓x_subBB, ↓x_repr, ↓x_sw, ↓x_M1, ↓x_par, ↓x_gSt1, ↓x_gSt3, ↓x_fo0, ↓x_fd0, ↓x_po0, ↓x_pt0, ↓x_fo1, ↓x_fd1, ↓x_po1, ↓x_pt1, ↓x_fo2, ↓x_fd2, ↓x_po2, ↓x_pt2, ↓x_fo3, ↓x_fd3, ↓x_po3, ↓x_pt3, ↓x_fo4, ↓x_fd4, ↓x_po4, ↓x_pt4, ↓x_fo5, ↓x_fd5, ↓x_po5, ↓x_pt5, ↓x_fo6, ↓x_fd6, ↓x_po6, ↓x_pt6, ↓x_fo7, ↓x_fd7, ↓x_po7, ↓x_pt7, ↓x_fo8, ↓x_fd8, ↓x_po8, ↓x_pt8, ↓x_fo9, ↓x_fd9, ↓x_po9, ↓x_pt9, ↓x_fo10, ↓x_fd10, ↓x_po10, ↓x_pt10, ↓x_fo11, ↓x_fd11, ↓x_po11, ↓x_pt11, ↓x_plI, ↓x_plB, ↓x_plS, ↓x_in2, ↓x_in3, ↓x_sl1T, ↓x_sl1L, ↓x_slS, ↓x_tuL, ↓x_tuT, ↓x_enumD, ↓x_iAsc, ↓x_eq0T, ↓x_eq0L, ↓x_mulT, ↓x_pu0, ↓x_pu1, ↓x_pu2, ↓x_pu3, ↓x_pu4, ↓x_pu5, ↓x_pu6, ↓x_pu7, ↓x_pu8, ↓x_pu9, ↓x_pu10, ↓x_pu11, ↓x_isB, ↓x_isNB, ↓x_nonD, ↓x_in4, ↓x_nin4, ↓x_nin2, ↓x_tupRg, ↓x_lstRg, ↓x_g_LIMIT, ↓x_g_MAX_CHOICES, ↓x_g_MAX_DEPTH, ↓x_g_MAX_ORDER, ↓x_g_MAX_TEXT, ↓x_g_TESTS, List.cons_append, List.nil_append, List.replicate_succ, List.replicate_zero, List.set_cons_zero, List.set_cons_succ, List.getElem?_cons_zero, List.getElem?_cons_succ, decide_eq_true_eq, Bool.false_eq_true, Bool.true_eq_false, ↓reduceIte, Bool.not_true, Bool.not_false, decide_true, decide_false, isTy, isTyK, kindD, PySem.sizeLine_eq, List.length_cons, List.length_nil, true_and, and_true, true_implies, Bool.not_eq_true', decide_eq_false_iff_not, Nat.reduceAdd, Nat.reduceLeDiff, Nat.reduceLT, Int.reduceAdd, Int.reduceSub, Int.reduceLT, Int.reduceLE, Int.reduceNeg, Int.reduceEq, Nat.reduceEqDiff, not_true_eq_false, not_false_eq_true, hx'.2]
      exact hN3 _ ⟨_, _, _, _, _, _, _, _, _, rfl⟩
    · exact ⟨1, rfl, by decide +kernel, congrArg PyData.bool (by decide +kernel)⟩

end
theorem all_mk {P : Program} {w : World} {K : PySem.W.Frag} {h : Heap} {mg : Str → Option Value} {fa : Addr} (X : K.In h) (G : h.Ns mainGlobals mg) (hfa : mg "law" = some (.ref fa))
    {a_is_integer : Addr} {oc_is_integer kV_is_integer dc_is_integer pm_is_integer cd_is_integer ct_is_integer : Value} {od_is_integer an_is_integer : Option Addr} {sl_is_integer : Array (Option Value)}
    {a_is_printable : Addr} {oc_is_printable kV_is_printable dc_is_printable pm_is_printable cd_is_printable ct_is_printable : Value} {od_is_printable an_is_printable : Option Addr} {sl_is_printable : Array (Option Value)}
    {a_is_text : Addr} {oc_is_text kV_is_text dc_is_text pm_is_text cd_is_text ct_is_text : Value} {od_is_text an_is_text : Option Addr} {sl_is_text : Array (Option Value)}
    {a_is_value : Addr} {oc_is_value kV_is_value dc_is_value pm_is_value cd_is_value ct_is_value : Value} {od_is_value an_is_value : Option Addr} {sl_is_value : Array (Option Value)}
    {a_is_choice : Addr} {oc_is_choice kV_is_choice dc_is_choice pm_is_choice cd_is_choice ct_is_choice : Value} {od_is_choice an_is_choice : Option Addr} {sl_is_choice : Array (Option Value)}
    {a_is_test : Addr} {oc_is_test kV_is_test dc_is_test pm_is_test cd_is_test ct_is_test : Value} {od_is_test an_is_test : Option Addr} {sl_is_test : Array (Option Value)}
    {a_is_within : Addr} {oc_is_within kV_is_within dc_is_within pm_is_within cd_is_within ct_is_within : Value} {od_is_within an_is_within : Option Addr} {sl_is_within : Array (Option Value)}
    {a_is_condition : Addr} {oc_is_condition kV_is_condition dc_is_condition pm_is_condition cd_is_condition ct_is_condition : Value} {od_is_condition an_is_condition : Option Addr} {sl_is_condition : Array (Option Value)}
    {a_is_order : Addr} {oc_is_order kV_is_order dc_is_order pm_is_order cd_is_order ct_is_order : Value} {od_is_order an_is_order : Option Addr} {sl_is_order : Array (Option Value)}
    {a_is_shown : Addr} {oc_is_shown kV_is_shown dc_is_shown pm_is_shown cd_is_shown ct_is_shown : Value} {od_is_shown an_is_shown : Option Addr} {sl_is_shown : Array (Option Value)}
    {a_is_view : Addr} {oc_is_view kV_is_view dc_is_view pm_is_view cd_is_view ct_is_view : Value} {od_is_view an_is_view : Option Addr} {sl_is_view : Array (Option Value)}
    {a_law_tape : Addr} {oc_law_tape kV_law_tape dc_law_tape pm_law_tape cd_law_tape ct_law_tape : Value} {od_law_tape an_law_tape : Option Addr} {sl_law_tape : Array (Option Value)}
    {a_law_pick : Addr} {oc_law_pick kV_law_pick dc_law_pick pm_law_pick cd_law_pick ct_law_pick : Value} {od_law_pick an_law_pick : Option Addr} {sl_law_pick : Array (Option Value)}
    {a_law_one_of : Addr} {oc_law_one_of kV_law_one_of dc_law_one_of pm_law_one_of cd_law_one_of ct_law_one_of : Value} {od_law_one_of an_law_one_of : Option Addr} {sl_law_one_of : Array (Option Value)}
    {a_law_value : Addr} {oc_law_value kV_law_value dc_law_value pm_law_value cd_law_value ct_law_value : Value} {od_law_value an_law_value : Option Addr} {sl_law_value : Array (Option Value)}
    {a_law_test : Addr} {oc_law_test kV_law_test dc_law_test pm_law_test cd_law_test ct_law_test : Value} {od_law_test an_law_test : Option Addr} {sl_law_test : Array (Option Value)}
    {a_law_condition : Addr} {oc_law_condition kV_law_condition dc_law_condition pm_law_condition cd_law_condition ct_law_condition : Value} {od_law_condition an_law_condition : Option Addr} {sl_law_condition : Array (Option Value)}
    {a_law_view : Addr} {oc_law_view kV_law_view dc_law_view pm_law_view cd_law_view ct_law_view : Value} {od_law_view an_law_view : Option Addr} {sl_law_view : Array (Option Value)}
    {a_law_column : Addr} {oc_law_column kV_law_column dc_law_column pm_law_column cd_law_column ct_law_column : Value} {od_law_column an_law_column : Option Addr} {sl_law_column : Array (Option Value)}
    {a_law_due : Addr} {oc_law_due kV_law_due dc_law_due pm_law_due cd_law_due ct_law_due : Value} {od_law_due an_law_due : Option Addr} {sl_law_due : Array (Option Value)}
    {a_law_thing : Addr} {oc_law_thing kV_law_thing dc_law_thing pm_law_thing cd_law_thing ct_law_thing : Value} {od_law_thing an_law_thing : Option Addr} {sl_law_thing : Array (Option Value)}
    {a_law_bent : Addr} {oc_law_bent kV_law_bent dc_law_bent pm_law_bent cd_law_bent ct_law_bent : Value} {od_law_bent an_law_bent : Option Addr} {sl_law_bent : Array (Option Value)}
    {a_law_right : Addr} {oc_law_right kV_law_right dc_law_right pm_law_right cd_law_right ct_law_right : Value} {od_law_right an_law_right : Option Addr} {sl_law_right : Array (Option Value)}
    {a_law : Addr} {oc_law kV_law dc_law pm_law cd_law ct_law : Value} {od_law an_law : Option Addr} {sl_law : Array (Option Value)}
    (e1_is_integer : PySem.W.nsIn K mainGlobals "is_integer" = some (some (.ref a_is_integer))) (e2_is_integer : K.lookup a_is_integer = some ⟨oc_is_integer, od_is_integer, .func (PySem.W.fnOf "is_integer" "is_integer" (defArgs s_is_integer) (defBody s_is_integer) (defScope s_is_integer) .none kV_is_integer dc_is_integer pm_is_integer an_is_integer cd_is_integer ct_is_integer), sl_is_integer⟩) (e3_is_integer : PySem.W.codeIn K cd_is_integer "is_integer" = true) (e4_is_integer : PySem.W.keepIn K (.ref a_is_integer) = true)
    (e1_is_printable : PySem.W.nsIn K mainGlobals "is_printable" = some (some (.ref a_is_printable))) (e2_is_printable : K.lookup a_is_printable = some ⟨oc_is_printable, od_is_printable, .func (PySem.W.fnOf "is_printable" "is_printable" (defArgs s_is_printable) (defBody s_is_printable) (defScope s_is_printable) .none kV_is_printable dc_is_printable pm_is_printable an_is_printable cd_is_printable ct_is_printable), sl_is_printable⟩) (e3_is_printable : PySem.W.codeIn K cd_is_printable "is_printable" = true) (e4_is_printable : PySem.W.keepIn K (.ref a_is_printable) = true)
    (e1_is_text : PySem.W.nsIn K mainGlobals "is_text" = some (some (.ref a_is_text))) (e2_is_text : K.lookup a_is_text = some ⟨oc_is_text, od_is_text, .func (PySem.W.fnOf "is_text" "is_text" (defArgs s_is_text) (defBody s_is_text) (defScope s_is_text) .none kV_is_text dc_is_text pm_is_text an_is_text cd_is_text ct_is_text), sl_is_text⟩) (e3_is_text : PySem.W.codeIn K cd_is_text "is_text" = true) (e4_is_text : PySem.W.keepIn K (.ref a_is_text) = true)
    (e1_is_value : PySem.W.nsIn K mainGlobals "is_value" = some (some (.ref a_is_value))) (e2_is_value : K.lookup a_is_value = some ⟨oc_is_value, od_is_value, .func (PySem.W.fnOf "is_value" "is_value" (defArgs s_is_value) (defBody s_is_value) (defScope s_is_value) .none kV_is_value dc_is_value pm_is_value an_is_value cd_is_value ct_is_value), sl_is_value⟩) (e3_is_value : PySem.W.codeIn K cd_is_value "is_value" = true) (e4_is_value : PySem.W.keepIn K (.ref a_is_value) = true)
    (e1_is_choice : PySem.W.nsIn K mainGlobals "is_choice" = some (some (.ref a_is_choice))) (e2_is_choice : K.lookup a_is_choice = some ⟨oc_is_choice, od_is_choice, .func (PySem.W.fnOf "is_choice" "is_choice" (defArgs s_is_choice) (defBody s_is_choice) (defScope s_is_choice) .none kV_is_choice dc_is_choice pm_is_choice an_is_choice cd_is_choice ct_is_choice), sl_is_choice⟩) (e3_is_choice : PySem.W.codeIn K cd_is_choice "is_choice" = true) (e4_is_choice : PySem.W.keepIn K (.ref a_is_choice) = true)
    (e1_is_test : PySem.W.nsIn K mainGlobals "is_test" = some (some (.ref a_is_test))) (e2_is_test : K.lookup a_is_test = some ⟨oc_is_test, od_is_test, .func (PySem.W.fnOf "is_test" "is_test" (defArgs s_is_test) (defBody s_is_test) (defScope s_is_test) .none kV_is_test dc_is_test pm_is_test an_is_test cd_is_test ct_is_test), sl_is_test⟩) (e3_is_test : PySem.W.codeIn K cd_is_test "is_test" = true) (e4_is_test : PySem.W.keepIn K (.ref a_is_test) = true)
    (e1_is_within : PySem.W.nsIn K mainGlobals "is_within" = some (some (.ref a_is_within))) (e2_is_within : K.lookup a_is_within = some ⟨oc_is_within, od_is_within, .func (PySem.W.fnOf "is_within" "is_within" (defArgs s_is_within) (defBody s_is_within) (defScope s_is_within) .none kV_is_within dc_is_within pm_is_within an_is_within cd_is_within ct_is_within), sl_is_within⟩) (e3_is_within : PySem.W.codeIn K cd_is_within "is_within" = true) (e4_is_within : PySem.W.keepIn K (.ref a_is_within) = true)
    (e1_is_condition : PySem.W.nsIn K mainGlobals "is_condition" = some (some (.ref a_is_condition))) (e2_is_condition : K.lookup a_is_condition = some ⟨oc_is_condition, od_is_condition, .func (PySem.W.fnOf "is_condition" "is_condition" (defArgs s_is_condition) (defBody s_is_condition) (defScope s_is_condition) .none kV_is_condition dc_is_condition pm_is_condition an_is_condition cd_is_condition ct_is_condition), sl_is_condition⟩) (e3_is_condition : PySem.W.codeIn K cd_is_condition "is_condition" = true) (e4_is_condition : PySem.W.keepIn K (.ref a_is_condition) = true)
    (e1_is_order : PySem.W.nsIn K mainGlobals "is_order" = some (some (.ref a_is_order))) (e2_is_order : K.lookup a_is_order = some ⟨oc_is_order, od_is_order, .func (PySem.W.fnOf "is_order" "is_order" (defArgs s_is_order) (defBody s_is_order) (defScope s_is_order) .none kV_is_order dc_is_order pm_is_order an_is_order cd_is_order ct_is_order), sl_is_order⟩) (e3_is_order : PySem.W.codeIn K cd_is_order "is_order" = true) (e4_is_order : PySem.W.keepIn K (.ref a_is_order) = true)
    (e1_is_shown : PySem.W.nsIn K mainGlobals "is_shown" = some (some (.ref a_is_shown))) (e2_is_shown : K.lookup a_is_shown = some ⟨oc_is_shown, od_is_shown, .func (PySem.W.fnOf "is_shown" "is_shown" (defArgs s_is_shown) (defBody s_is_shown) (defScope s_is_shown) .none kV_is_shown dc_is_shown pm_is_shown an_is_shown cd_is_shown ct_is_shown), sl_is_shown⟩) (e3_is_shown : PySem.W.codeIn K cd_is_shown "is_shown" = true) (e4_is_shown : PySem.W.keepIn K (.ref a_is_shown) = true)
    (e1_is_view : PySem.W.nsIn K mainGlobals "is_view" = some (some (.ref a_is_view))) (e2_is_view : K.lookup a_is_view = some ⟨oc_is_view, od_is_view, .func (PySem.W.fnOf "is_view" "is_view" (defArgs s_is_view) (defBody s_is_view) (defScope s_is_view) .none kV_is_view dc_is_view pm_is_view an_is_view cd_is_view ct_is_view), sl_is_view⟩) (e3_is_view : PySem.W.codeIn K cd_is_view "is_view" = true) (e4_is_view : PySem.W.keepIn K (.ref a_is_view) = true)
    (e1_law_tape : PySem.W.nsIn K mainGlobals "_law_tape" = some (some (.ref a_law_tape))) (e2_law_tape : K.lookup a_law_tape = some ⟨oc_law_tape, od_law_tape, .func (PySem.W.fnOf "_law_tape" "_law_tape" (defArgs s_law_tape) (defBody s_law_tape) (defScope s_law_tape) .none kV_law_tape dc_law_tape pm_law_tape an_law_tape cd_law_tape ct_law_tape), sl_law_tape⟩) (e3_law_tape : PySem.W.codeIn K cd_law_tape "_law_tape" = true) (e4_law_tape : PySem.W.keepIn K (.ref a_law_tape) = true)
    (e1_law_pick : PySem.W.nsIn K mainGlobals "_law_pick" = some (some (.ref a_law_pick))) (e2_law_pick : K.lookup a_law_pick = some ⟨oc_law_pick, od_law_pick, .func (PySem.W.fnOf "_law_pick" "_law_pick" (defArgs s_law_pick) (defBody s_law_pick) (defScope s_law_pick) .none kV_law_pick dc_law_pick pm_law_pick an_law_pick cd_law_pick ct_law_pick), sl_law_pick⟩) (e3_law_pick : PySem.W.codeIn K cd_law_pick "_law_pick" = true) (e4_law_pick : PySem.W.keepIn K (.ref a_law_pick) = true)
    (e1_law_one_of : PySem.W.nsIn K mainGlobals "_law_one_of" = some (some (.ref a_law_one_of))) (e2_law_one_of : K.lookup a_law_one_of = some ⟨oc_law_one_of, od_law_one_of, .func (PySem.W.fnOf "_law_one_of" "_law_one_of" (defArgs s_law_one_of) (defBody s_law_one_of) (defScope s_law_one_of) .none kV_law_one_of dc_law_one_of pm_law_one_of an_law_one_of cd_law_one_of ct_law_one_of), sl_law_one_of⟩) (e3_law_one_of : PySem.W.codeIn K cd_law_one_of "_law_one_of" = true) (e4_law_one_of : PySem.W.keepIn K (.ref a_law_one_of) = true)
    (e1_law_value : PySem.W.nsIn K mainGlobals "_law_value" = some (some (.ref a_law_value))) (e2_law_value : K.lookup a_law_value = some ⟨oc_law_value, od_law_value, .func (PySem.W.fnOf "_law_value" "_law_value" (defArgs s_law_value) (defBody s_law_value) (defScope s_law_value) .none kV_law_value dc_law_value pm_law_value an_law_value cd_law_value ct_law_value), sl_law_value⟩) (e3_law_value : PySem.W.codeIn K cd_law_value "_law_value" = true) (e4_law_value : PySem.W.keepIn K (.ref a_law_value) = true)
    (e1_law_test : PySem.W.nsIn K mainGlobals "_law_test" = some (some (.ref a_law_test))) (e2_law_test : K.lookup a_law_test = some ⟨oc_law_test, od_law_test, .func (PySem.W.fnOf "_law_test" "_law_test" (defArgs s_law_test) (defBody s_law_test) (defScope s_law_test) .none kV_law_test dc_law_test pm_law_test an_law_test cd_law_test ct_law_test), sl_law_test⟩) (e3_law_test : PySem.W.codeIn K cd_law_test "_law_test" = true) (e4_law_test : PySem.W.keepIn K (.ref a_law_test) = true)
    (e1_law_condition : PySem.W.nsIn K mainGlobals "_law_condition" = some (some (.ref a_law_condition))) (e2_law_condition : K.lookup a_law_condition = some ⟨oc_law_condition, od_law_condition, .func (PySem.W.fnOf "_law_condition" "_law_condition" (defArgs s_law_condition) (defBody s_law_condition) (defScope s_law_condition) .none kV_law_condition dc_law_condition pm_law_condition an_law_condition cd_law_condition ct_law_condition), sl_law_condition⟩) (e3_law_condition : PySem.W.codeIn K cd_law_condition "_law_condition" = true) (e4_law_condition : PySem.W.keepIn K (.ref a_law_condition) = true)
    (e1_law_view : PySem.W.nsIn K mainGlobals "_law_view" = some (some (.ref a_law_view))) (e2_law_view : K.lookup a_law_view = some ⟨oc_law_view, od_law_view, .func (PySem.W.fnOf "_law_view" "_law_view" (defArgs s_law_view) (defBody s_law_view) (defScope s_law_view) .none kV_law_view dc_law_view pm_law_view an_law_view cd_law_view ct_law_view), sl_law_view⟩) (e3_law_view : PySem.W.codeIn K cd_law_view "_law_view" = true) (e4_law_view : PySem.W.keepIn K (.ref a_law_view) = true)
    (e1_law_column : PySem.W.nsIn K mainGlobals "_law_column" = some (some (.ref a_law_column))) (e2_law_column : K.lookup a_law_column = some ⟨oc_law_column, od_law_column, .func (PySem.W.fnOf "_law_column" "_law_column" (defArgs s_law_column) (defBody s_law_column) (defScope s_law_column) .none kV_law_column dc_law_column pm_law_column an_law_column cd_law_column ct_law_column), sl_law_column⟩) (e3_law_column : PySem.W.codeIn K cd_law_column "_law_column" = true) (e4_law_column : PySem.W.keepIn K (.ref a_law_column) = true)
    (e1_law_due : PySem.W.nsIn K mainGlobals "_law_due" = some (some (.ref a_law_due))) (e2_law_due : K.lookup a_law_due = some ⟨oc_law_due, od_law_due, .func (PySem.W.fnOf "_law_due" "_law_due" (defArgs s_law_due) (defBody s_law_due) (defScope s_law_due) .none kV_law_due dc_law_due pm_law_due an_law_due cd_law_due ct_law_due), sl_law_due⟩) (e3_law_due : PySem.W.codeIn K cd_law_due "_law_due" = true) (e4_law_due : PySem.W.keepIn K (.ref a_law_due) = true)
    (e1_law_thing : PySem.W.nsIn K mainGlobals "_law_thing" = some (some (.ref a_law_thing))) (e2_law_thing : K.lookup a_law_thing = some ⟨oc_law_thing, od_law_thing, .func (PySem.W.fnOf "_law_thing" "_law_thing" (defArgs s_law_thing) (defBody s_law_thing) (defScope s_law_thing) .none kV_law_thing dc_law_thing pm_law_thing an_law_thing cd_law_thing ct_law_thing), sl_law_thing⟩) (e3_law_thing : PySem.W.codeIn K cd_law_thing "_law_thing" = true) (e4_law_thing : PySem.W.keepIn K (.ref a_law_thing) = true)
    (e1_law_bent : PySem.W.nsIn K mainGlobals "_law_bent" = some (some (.ref a_law_bent))) (e2_law_bent : K.lookup a_law_bent = some ⟨oc_law_bent, od_law_bent, .func (PySem.W.fnOf "_law_bent" "_law_bent" (defArgs s_law_bent) (defBody s_law_bent) (defScope s_law_bent) .none kV_law_bent dc_law_bent pm_law_bent an_law_bent cd_law_bent ct_law_bent), sl_law_bent⟩) (e3_law_bent : PySem.W.codeIn K cd_law_bent "_law_bent" = true) (e4_law_bent : PySem.W.keepIn K (.ref a_law_bent) = true)
    (e1_law_right : PySem.W.nsIn K mainGlobals "_law_right" = some (some (.ref a_law_right))) (e2_law_right : K.lookup a_law_right = some ⟨oc_law_right, od_law_right, .func (PySem.W.fnOf "_law_right" "_law_right" (defArgs s_law_right) (defBody s_law_right) (defScope s_law_right) .none kV_law_right dc_law_right pm_law_right an_law_right cd_law_right ct_law_right), sl_law_right⟩) (e3_law_right : PySem.W.codeIn K cd_law_right "_law_right" = true) (e4_law_right : PySem.W.keepIn K (.ref a_law_right) = true)
    (e1_law : PySem.W.nsIn K mainGlobals "law" = some (some (.ref a_law))) (e2_law : K.lookup a_law = some ⟨oc_law, od_law, .func (PySem.W.fnOf "law" "law" (defArgs s_law) (defBody s_law) (defScope s_law) .none kV_law dc_law pm_law an_law cd_law ct_law), sl_law⟩) (e3_law : PySem.W.codeIn K cd_law "law" = true) (e4_law : PySem.W.keepIn K (.ref a_law) = true)
    (z_all : PySem.W.nsIn K mainGlobals "all" = some none)
    (z_bool : PySem.W.nsIn K mainGlobals "bool" = some none)
    (z_int : PySem.W.nsIn K mainGlobals "int" = some none)
    (z_isinstance : PySem.W.nsIn K mainGlobals "isinstance" = some none)
    (z_len : PySem.W.nsIn K mainGlobals "len" = some none)
    (z_list : PySem.W.nsIn K mainGlobals "list" = some none)
    (z_max : PySem.W.nsIn K mainGlobals "max" = some none)
    (z_min : PySem.W.nsIn K mainGlobals "min" = some none)
    (z_range : PySem.W.nsIn K mainGlobals "range" = some none)
    (z_repr : PySem.W.nsIn K mainGlobals "repr" = some none)
    (z_set : PySem.W.nsIn K mainGlobals "set" = some none)
    (z_sorted : PySem.W.nsIn K mainGlobals "sorted" = some none)
    (z_str : PySem.W.nsIn K mainGlobals "str" = some none)
    (z_tuple : PySem.W.nsIn K mainGlobals "tuple" = some none)
    {t_LIMIT : Tok} (k_LIMIT : PySem.W.nsIn K mainGlobals "LIMIT" = some (some (.int 1000000000 t_LIMIT)))
    {t_MAX_CHOICES : Tok} (k_MAX_CHOICES : PySem.W.nsIn K mainGlobals "MAX_CHOICES" = some (some (.int 8 t_MAX_CHOICES)))
    {t_MAX_DEPTH : Tok} (k_MAX_DEPTH : PySem.W.nsIn K mainGlobals "MAX_DEPTH" = some (some (.int 8 t_MAX_DEPTH)))
    {t_MAX_ORDER : Tok} (k_MAX_ORDER : PySem.W.nsIn K mainGlobals "MAX_ORDER" = some (some (.int 4 t_MAX_ORDER)))
    {t_MAX_TEXT : Tok} (k_MAX_TEXT : PySem.W.nsIn K mainGlobals "MAX_TEXT" = some (some (.int 20 t_MAX_TEXT)))
    {a_TESTS : Addr} {od_TESTS : Option Addr} {its_TESTS : Array Value} {n_TESTS : Nat} {sl_TESTS : Array (Option Value)} (k_TESTS : PySem.W.nsIn K mainGlobals "TESTS" = some (some (.ref a_TESTS))) (l_TESTS : K.lookup a_TESTS = some ⟨.type "tuple", od_TESTS, .seq its_TESTS n_TESTS, sl_TESTS⟩) (v_TESTS : Vals [V.str "equal", V.str "less", V.str "starts", V.str "one_of"] its_TESTS.toList) (z_TESTS : its_TESTS.size ≤ sizeLine) :
    ∃ fd : FuncData, (∀ (s : Shared) (v : Value), BindsTo s fd ⟨[v], []⟩ [("script", v)]) ∧ ∀ base : Heap, K.In base → base.Ns mainGlobals mg → FnG P w K mg base 29 fa fd ["script"] (spD P w K 1 (fnD b_law 9)) := by
  have e := hfa.symm.trans (PySem.W.mg_of X G e1_law)
  cases e
  have T : Txt K mg := ⟨PySem.W.mg_none_of X G z_all, PySem.W.mg_none_of X G z_bool, PySem.W.mg_none_of X G z_int, PySem.W.mg_none_of X G z_isinstance, PySem.W.mg_none_of X G z_len, PySem.W.mg_none_of X G z_list, PySem.W.mg_none_of X G z_max, PySem.W.mg_none_of X G z_min, PySem.W.mg_none_of X G z_range, PySem.W.mg_none_of X G z_repr, PySem.W.mg_none_of X G z_set, PySem.W.mg_none_of X G z_sorted, PySem.W.mg_none_of X G z_str, PySem.W.mg_none_of X G z_tuple, ⟨⟨_, _, fun_mk (st := s_is_integer) e2_is_integer e3_is_integer e4_is_integer, PySem.W.mg_of X G e1_is_integer⟩⟩, ⟨⟨_, _, fun_mk (st := s_is_printable) e2_is_printable e3_is_printable e4_is_printable, PySem.W.mg_of X G e1_is_printable⟩⟩, ⟨⟨_, _, fun_mk (st := s_is_text) e2_is_text e3_is_text e4_is_text, PySem.W.mg_of X G e1_is_text⟩⟩, ⟨⟨_, _, fun_mk (st := s_is_value) e2_is_value e3_is_value e4_is_value, PySem.W.mg_of X G e1_is_value⟩⟩, ⟨⟨_, _, fun_mk (st := s_is_choice) e2_is_choice e3_is_choice e4_is_choice, PySem.W.mg_of X G e1_is_choice⟩⟩, ⟨⟨_, _, fun_mk (st := s_is_test) e2_is_test e3_is_test e4_is_test, PySem.W.mg_of X G e1_is_test⟩⟩, ⟨⟨_, _, fun_mk (st := s_is_within) e2_is_within e3_is_within e4_is_within, PySem.W.mg_of X G e1_is_within⟩⟩, ⟨⟨_, _, fun_mk (st := s_is_condition) e2_is_condition e3_is_condition e4_is_condition, PySem.W.mg_of X G e1_is_condition⟩⟩, ⟨⟨_, _, fun_mk (st := s_is_order) e2_is_order e3_is_order e4_is_order, PySem.W.mg_of X G e1_is_order⟩⟩, ⟨⟨_, _, fun_mk (st := s_is_shown) e2_is_shown e3_is_shown e4_is_shown, PySem.W.mg_of X G e1_is_shown⟩⟩, ⟨⟨_, _, fun_mk (st := s_is_view) e2_is_view e3_is_view e4_is_view, PySem.W.mg_of X G e1_is_view⟩⟩, ⟨⟨_, _, fun_mk (st := s_law_tape) e2_law_tape e3_law_tape e4_law_tape, PySem.W.mg_of X G e1_law_tape⟩⟩, ⟨⟨_, _, fun_mk (st := s_law_pick) e2_law_pick e3_law_pick e4_law_pick, PySem.W.mg_of X G e1_law_pick⟩⟩, ⟨⟨_, _, fun_mk (st := s_law_one_of) e2_law_one_of e3_law_one_of e4_law_one_of, PySem.W.mg_of X G e1_law_one_of⟩⟩, ⟨⟨_, _, fun_mk (st := s_law_value) e2_law_value e3_law_value e4_law_value, PySem.W.mg_of X G e1_law_value⟩⟩, ⟨⟨_, _, fun_mk (st := s_law_test) e2_law_test e3_law_test e4_law_test, PySem.W.mg_of X G e1_law_test⟩⟩, ⟨⟨_, _, fun_mk (st := s_law_condition) e2_law_condition e3_law_condition e4_law_condition, PySem.W.mg_of X G e1_law_condition⟩⟩, ⟨⟨_, _, fun_mk (st := s_law_view) e2_law_view e3_law_view e4_law_view, PySem.W.mg_of X G e1_law_view⟩⟩, ⟨⟨_, _, fun_mk (st := s_law_column) e2_law_column e3_law_column e4_law_column, PySem.W.mg_of X G e1_law_column⟩⟩, ⟨⟨_, _, fun_mk (st := s_law_due) e2_law_due e3_law_due e4_law_due, PySem.W.mg_of X G e1_law_due⟩⟩, ⟨⟨_, _, fun_mk (st := s_law_thing) e2_law_thing e3_law_thing e4_law_thing, PySem.W.mg_of X G e1_law_thing⟩⟩, ⟨⟨_, _, fun_mk (st := s_law_bent) e2_law_bent e3_law_bent e4_law_bent, PySem.W.mg_of X G e1_law_bent⟩⟩, ⟨⟨_, _, fun_mk (st := s_law_right) e2_law_right e3_law_right e4_law_right, PySem.W.mg_of X G e1_law_right⟩⟩, ⟨⟨_, _, fun_mk (st := s_law) e2_law e3_law e4_law, PySem.W.mg_of X G e1_law⟩⟩, ⟨⟨.int _, _, PySem.W.mg_of X G k_LIMIT, ⟨_, rfl⟩, fun _ => .int _⟩⟩, ⟨⟨.int _, _, PySem.W.mg_of X G k_MAX_CHOICES, ⟨_, rfl⟩, fun _ => .int _⟩⟩, ⟨⟨.int _, _, PySem.W.mg_of X G k_MAX_DEPTH, ⟨_, rfl⟩, fun _ => .int _⟩⟩, ⟨⟨.int _, _, PySem.W.mg_of X G k_MAX_ORDER, ⟨_, rfl⟩, fun _ => .int _⟩⟩, ⟨⟨.int _, _, PySem.W.mg_of X G k_MAX_TEXT, ⟨_, rfl⟩, fun _ => .int _⟩⟩, ⟨⟨.ref a_TESTS, _, PySem.W.mg_of X G k_TESTS, rfl, fun _ => .tup (.inr ⟨_, _, _, l_TESTS, rfl, rfl, z_TESTS, v_TESTS⟩) (by decide) (.cons (.str _) (.cons (.str _) (.cons (.str _) (.cons (.str _) .nil))))⟩⟩⟩
  exact ⟨_, fun s v => .of_eq rfl, fun base _ _ => ok_law T (fun_mk (st := s_law) e2_law e3_law e4_law)⟩
theorem walk {l : PySem.W.OpenLaw} {q : Program} {loose : List Str} {XP : (Str → Option Value) → Heap → Prop} {YP : World → Heap → Prop} {d : DefRec} {K : Params → PySem.W.Frag} (hn : l.most = some 63) (hdf : d.params.defaults = [])
    (hY : ∀ (w : World) (h : Heap), YP w h → (K w.params).In h)
    (F : ∀ (w : World) (mg : Str → Option Value) (fa : Addr) (h : Heap), (K w.params).In h → h.Ns mainGlobals mg → mg d.name = some (.ref fa) →
      ∃ fd : FuncData, (∀ (s : Shared) (u : Value), BindsTo s fd ⟨[u], []⟩ [("script", u)]) ∧ ∀ base : Heap, (K w.params).In base → base.Ns mainGlobals mg → FnG l.prog w (K w.params) mg base 29 fa fd ["script"] (spD l.prog w (K w.params) 1 (fnD b_law 9))) :
    PySem.W.WalkO q loose XP YP l.row.toRowW d [] (fun f vs => PySem.call f vs) :=
  walkG (n := 63) (k := 29) (x := "script") (sp := fun w => spD l.prog w (K w.params) 1 (fnD b_law 9)) hn (by decide) hdf ⟨rfl, by decide, by decide⟩ hY F
    (fun w H a ns hl hb hO hS => ⟨[.scr ns], [], fun d => d = .bool true, .cons ⟨a, rfl, ScrL.of hO hS⟩ .nil, rfl, (fun _ h => nomatch h), law_true ns hl hb, fun d hd v H' _ r => by subst hd; cases r; rfl⟩)
end My
open PySem PySem.W PyProof.Rows in
set_option maxRecDepth 100000 in
set_option maxHeartbeats 0 in
theorem PySem.Challenge.cw_steadypages_k13_what_is_a_view_holds : PySem.Challenge.rw_steadypages_k13_what_is_a_view.Holds := by
  w_on; o_law; k_head; (case hw => w_witness2)
  k_fill
  refine My.walk (l := PySem.Challenge.rw_steadypages_k13_what_is_a_view) rfl rfl (fun w h Y => PySem.W.kIn_of Y) ?F
  case F =>
    intro w mg fa h KX G hmg
    refine' My.all_mk KX G hmg ?e1_is_integer ?e2_is_integer ?e3_is_integer ?e4_is_integer ?e1_is_printable ?e2_is_printable ?e3_is_printable ?e4_is_printable ?e1_is_text ?e2_is_text ?e3_is_text ?e4_is_text ?e1_is_value ?e2_is_value ?e3_is_value ?e4_is_value ?e1_is_choice ?e2_is_choice ?e3_is_choice ?e4_is_choice ?e1_is_test ?e2_is_test ?e3_is_test ?e4_is_test ?e1_is_within ?e2_is_within ?e3_is_within ?e4_is_within ?e1_is_condition ?e2_is_condition ?e3_is_condition ?e4_is_condition ?e1_is_order ?e2_is_order ?e3_is_order ?e4_is_order ?e1_is_shown ?e2_is_shown ?e3_is_shown ?e4_is_shown ?e1_is_view ?e2_is_view ?e3_is_view ?e4_is_view ?e1_law_tape ?e2_law_tape ?e3_law_tape ?e4_law_tape ?e1_law_pick ?e2_law_pick ?e3_law_pick ?e4_law_pick ?e1_law_one_of ?e2_law_one_of ?e3_law_one_of ?e4_law_one_of ?e1_law_value ?e2_law_value ?e3_law_value ?e4_law_value ?e1_law_test ?e2_law_test ?e3_law_test ?e4_law_test ?e1_law_condition ?e2_law_condition ?e3_law_condition ?e4_law_condition ?e1_law_view ?e2_law_view ?e3_law_view ?e4_law_view ?e1_law_column ?e2_law_column ?e3_law_column ?e4_law_column ?e1_law_due ?e2_law_due ?e3_law_due ?e4_law_due ?e1_law_thing ?e2_law_thing ?e3_law_thing ?e4_law_thing ?e1_law_bent ?e2_law_bent ?e3_law_bent ?e4_law_bent ?e1_law_right ?e2_law_right ?e3_law_right ?e4_law_right ?e1_law ?e2_law ?e3_law ?e4_law ?z_all ?z_bool ?z_int ?z_isinstance ?z_len ?z_list ?z_max ?z_min ?z_range ?z_repr ?z_set ?z_sorted ?z_str ?z_tuple ?k_LIMIT ?k_MAX_CHOICES ?k_MAX_DEPTH ?k_MAX_ORDER ?k_MAX_TEXT ?k_TESTS ?l_TESTS ?v_TESTS ?z_TESTS
    (case e1_is_integer => k_is)
    (case e2_is_integer => k_is)
    (case e3_is_integer => k_is)
    (case e4_is_integer => k_is)
    (case e1_is_printable => k_is)
    (case e2_is_printable => k_is)
    (case e3_is_printable => k_is)
    (case e4_is_printable => k_is)
    (case e1_is_text => k_is)
    (case e2_is_text => k_is)
    (case e3_is_text => k_is)
    (case e4_is_text => k_is)
    (case e1_is_value => k_is)
    (case e2_is_value => k_is)
    (case e3_is_value => k_is)
    (case e4_is_value => k_is)
    (case e1_is_choice => k_is)
    (case e2_is_choice => k_is)
    (case e3_is_choice => k_is)
    (case e4_is_choice => k_is)
    (case e1_is_test => k_is)
    (case e2_is_test => k_is)
    (case e3_is_test => k_is)
    (case e4_is_test => k_is)
    (case e1_is_within => k_is)
    (case e2_is_within => k_is)
    (case e3_is_within => k_is)
    (case e4_is_within => k_is)
    (case e1_is_condition => k_is)
    (case e2_is_condition => k_is)
    (case e3_is_condition => k_is)
    (case e4_is_condition => k_is)
    (case e1_is_order => k_is)
    (case e2_is_order => k_is)
    (case e3_is_order => k_is)
    (case e4_is_order => k_is)
    (case e1_is_shown => k_is)
    (case e2_is_shown => k_is)
    (case e3_is_shown => k_is)
    (case e4_is_shown => k_is)
    (case e1_is_view => k_is)
    (case e2_is_view => k_is)
    (case e3_is_view => k_is)
    (case e4_is_view => k_is)
    (case e1_law_tape => k_is)
    (case e2_law_tape => k_is)
    (case e3_law_tape => k_is)
    (case e4_law_tape => k_is)
    (case e1_law_pick => k_is)
    (case e2_law_pick => k_is)
    (case e3_law_pick => k_is)
    (case e4_law_pick => k_is)
    (case e1_law_one_of => k_is)
    (case e2_law_one_of => k_is)
    (case e3_law_one_of => k_is)
    (case e4_law_one_of => k_is)
    (case e1_law_value => k_is)
    (case e2_law_value => k_is)
    (case e3_law_value => k_is)
    (case e4_law_value => k_is)
    (case e1_law_test => k_is)
    (case e2_law_test => k_is)
    (case e3_law_test => k_is)
    (case e4_law_test => k_is)
    (case e1_law_condition => k_is)
    (case e2_law_condition => k_is)
    (case e3_law_condition => k_is)
    (case e4_law_condition => k_is)
    (case e1_law_view => k_is)
    (case e2_law_view => k_is)
    (case e3_law_view => k_is)
    (case e4_law_view => k_is)
    (case e1_law_column => k_is)
    (case e2_law_column => k_is)
    (case e3_law_column => k_is)
    (case e4_law_column => k_is)
    (case e1_law_due => k_is)
    (case e2_law_due => k_is)
    (case e3_law_due => k_is)
    (case e4_law_due => k_is)
    (case e1_law_thing => k_is)
    (case e2_law_thing => k_is)
    (case e3_law_thing => k_is)
    (case e4_law_thing => k_is)
    (case e1_law_bent => k_is)
    (case e2_law_bent => k_is)
    (case e3_law_bent => k_is)
    (case e4_law_bent => k_is)
    (case e1_law_right => k_is)
    (case e2_law_right => k_is)
    (case e3_law_right => k_is)
    (case e4_law_right => k_is)
    (case e1_law => k_is)
    (case e2_law => k_is)
    (case e3_law => k_is)
    (case e4_law => k_is)
    (case z_all => k_is)
    (case z_bool => k_is)
    (case z_int => k_is)
    (case z_isinstance => k_is)
    (case z_len => k_is)
    (case z_list => k_is)
    (case z_max => k_is)
    (case z_min => k_is)
    (case z_range => k_is)
    (case z_repr => k_is)
    (case z_set => k_is)
    (case z_sorted => k_is)
    (case z_str => k_is)
    (case z_tuple => k_is)
    (case k_LIMIT => k_is)
    (case k_MAX_CHOICES => k_is)
    (case k_MAX_DEPTH => k_is)
    (case k_MAX_ORDER => k_is)
    (case k_MAX_TEXT => k_is)
    (case k_TESTS => k_is)
    (case l_TESTS => k_is)
    (case v_TESTS => exact (.cons ⟨_, rfl⟩ (.cons ⟨_, rfl⟩ (.cons ⟨_, rfl⟩ (.cons ⟨_, rfl⟩ .nil)))))
    (case z_TESTS => exact (by decide))
#print axioms PySem.Challenge.cw_steadypages_k13_what_is_a_view_holds
