import PyProof.Rows.All
import Wide.All
import OpenK.AllK
import Wide.FinOn
import HandS.ForMost
import HandS.Exc
import HandS.ExcOwn
import HandS.WordsExc
import HandS.Walk
import HandS.Zip
import HandS.IsInst
import HandS.Style
import HandS.Wide
import HandS.SortInts
import HandS.OwnEq
import HandS.Conv
import HandS.More
import HandS.Defaults
import HandS.ExcValue
import HandS.ExcIs
import PyProof.ExcBaseAll.LookupError
import HandS.List
import PyProof.ZipIter
import OpenK.KMore
import PyProof.Rows.CallKw2
import HandS.SetFor
import HandS.Strs
import HandS.SortKw
import KE.DataMinMax
import ObjForm.LawKit
import HandS.Sort
import KE.KDictZip
import PyProof.ListNew
import HandS.Keys
import PySem.Challenge.RW_pocketrow_k71_whole_fewest_by_keys
set_option Elab.async false
set_option linter.all false
set_option maxRecDepth 100000
set_option autoImplicit false
namespace Y
open PySem PySem.Spec PyProof.Rows L2
abbrev St := L2.St

/-! ### data: what a value is worth, without addresses -/
/-- an exception of the program: by its class's name; Jammed with its value -/
inductive Ex where
  | own (n : Str) | jam (p : Int)
def exName : Ex → Str
  | .own n => n
  | .jam _ => "Jammed"
inductive D where
  | non | bl (b : Bool) | int (i : Int) | str (x : Str) | tup (l : List D) | lst (l : List D) | deck (l : List D) | dic | scr (ns : List Int) | exc (x : Ex)

/-- what is fixed through a whole law: the written part, the module's names, the class of decks -/
structure GC where
  K : PySem.W.Frag
  mg : Str → Option Value
  dk : Addr

/-- a caught exception that is kept, at a -/
def excH (mg : Str → Option Value) (x : Ex) (a : Addr) : HO := .ext fun h => ∃ (oe : Obj) (vs : Array Value) (C : Addr), h.get? a = some oe ∧ mg (exName x) = some (.ref C) ∧ oe.cls = .ref C ∧ ((∃ n, x = .own n) → oe.dict = none) ∧ oe.data = .fields vs
mutual
inductive Rep (G : GC) (H : Hp) : V → D → Prop
  | non : Rep G H .non .non
  | bl (b : Bool) : Rep G H (.bl b) (.bl b)
  | int (i : Int) : Rep G H (.int i) (.int i)
  | str (x : Str) : Rep G H (.str x) (.str x)
  | tup {a : Addr} {vs : List V} {ds : List D} (h : H a = some (.tup vs)) (r : Reps G H vs ds) : Rep G H (.ref a) (.tup ds)
  | lst {a : Addr} {vs : List V} {ds : List D} (h : H a = some (.lst vs)) (r : Reps G H vs ds) : Rep G H (.ref a) (.lst ds)
  | deck {a dx p : Addr} {vs : List V} {ds : List D} (h : H a = some (.ins G.dk dx [("pile", .ref p)])) (h2 : H p = some (.lst vs)) (r : Reps G H vs ds) : Rep G H (.ref a) (.deck ds)
  | dic {a : Addr} {kvs : List (Key × V)} (h : H a = some (.dK kvs)) : Rep G H (.ref a) .dic
  | scr {a : Addr} {ns : List Int} (h : SqL G.K H a (ns.map V.int)) : Rep G H (.ref a) (.scr ns)
  | exc {a : Addr} {x : Ex} (h : H a = some (excH G.mg x a)) : Rep G H (.ref a) (.exc x)
inductive Reps (G : GC) (H : Hp) : List V → List D → Prop
  | nil : Reps G H [] []
  | cons {v : V} {d : D} {vs : List V} {ds : List D} (h : Rep G H v d) (t : Reps G H vs ds) : Reps G H (v :: vs) (d :: ds)
end

mutual
theorem Rep.mono {G : GC} {H H' : Hp} (e : Same H H') : ∀ {v : V} {d : D}, Rep G H v d → Rep G H' v d
  | _, _, .non => .non
  | _, _, .bl b => .bl b
  | _, _, .int i => .int i
  | _, _, .str x => .str x
  | _, _, .tup h r => .tup (e _ _ h) (Reps.mono e r)
  | _, _, .lst h r => .lst (e _ _ h) (Reps.mono e r)
  | _, _, .deck h h2 r => .deck (e _ _ h) (e _ _ h2) (Reps.mono e r)
  | _, _, .dic h => .dic (e _ _ h)
  | _, _, .scr h => .scr (e.seq h)
  | _, _, .exc h => .exc (e _ _ h)
theorem Reps.mono {G : GC} {H H' : Hp} (e : Same H H') : ∀ {vs : List V} {ds : List D}, Reps G H vs ds → Reps G H' vs ds
  | _, _, .nil => .nil
  | _, _, .cons h t => .cons (Rep.mono e h) (Reps.mono e t)
end
section
variable {G : GC} {H : Hp}
theorem Reps.length : ∀ {vs : List V} {ds : List D}, Reps G H vs ds → vs.length = ds.length
  | _, _, .nil => rfl
  | _, _, .cons _ t => by rw [List.length_cons, List.length_cons, Reps.length t]
theorem Reps.get : ∀ {vs : List V} {ds : List D} {i : Nat} {d : D}, Reps G H vs ds → ds[i]? = some d → ∃ v, vs[i]? = some v ∧ Rep G H v d
  | _, _, _, _, .nil, e => by simp at e
  | _, _, 0, _, .cons h _, e => by simp at e; subst e; exact ⟨_, rfl, h⟩
  | _, _, i + 1, d, .cons _ t, e => by
    obtain ⟨v, h1, h2⟩ := Reps.get (i := i) (d := d) t (by simpa using e)
    exact ⟨v, by simpa using h1, h2⟩
theorem Reps.getV : ∀ {vs : List V} {ds : List D} {i : Nat} {v : V}, Reps G H vs ds → vs[i]? = some v → ∃ d, ds[i]? = some d ∧ Rep G H v d
  | _, _, _, _, .nil, e => by simp at e
  | _, _, 0, _, .cons h _, e => by simp at e; subst e; exact ⟨_, rfl, h⟩
  | _, _, i + 1, d, .cons _ t, e => by
    obtain ⟨v, h1, h2⟩ := Reps.getV (i := i) (v := d) t (by simpa using e)
    exact ⟨v, by simpa using h1, h2⟩
theorem Reps.append : ∀ {vs ws : List V} {ds es : List D}, Reps G H vs ds → Reps G H ws es → Reps G H (vs ++ ws) (ds ++ es)
  | _, _, _, _, .nil, s => s
  | _, _, _, _, .cons h t, s => .cons h (Reps.append t s)
theorem Reps.take : ∀ {vs : List V} {ds : List D} (n : Nat), Reps G H vs ds → Reps G H (vs.take n) (ds.take n)
  | _, _, 0, _ => .nil
  | _, _, _ + 1, .nil => .nil
  | _, _, n + 1, .cons h t => .cons h (Reps.take n t)
theorem Reps.drop : ∀ {vs : List V} {ds : List D} (n : Nat), Reps G H vs ds → Reps G H (vs.drop n) (ds.drop n)
  | _, _, 0, r => r
  | _, _, _ + 1, .nil => .nil
  | _, _, n + 1, .cons _ t => Reps.drop n t
theorem Reps.set {v : V} {d : D} (r : Rep G H v d) : ∀ {vs : List V} {ds : List D} (i : Nat), Reps G H vs ds → Reps G H (vs.set i v) (ds.set i d)
  | _, _, _, .nil => .nil
  | _, _, 0, .cons _ t => .cons r t
  | _, _, i + 1, .cons h t => .cons h (Reps.set r i t)
theorem Reps.one {v : V} {d : D} (r : Rep G H v d) : Reps G H [v] [d] := .cons r .nil
theorem Reps.reverse : ∀ {vs : List V} {ds : List D}, Reps G H vs ds → Reps G H vs.reverse ds.reverse
  | _, _, .nil => .nil
  | _, _, .cons h t => by rw [List.reverse_cons, List.reverse_cons]; exact (Reps.reverse t).append (.one h)
theorem Reps.ints : ∀ {vs : List V} {ns : List Int}, Reps G H vs (ns.map D.int) → vs = ns.map V.int
  | _, [], .nil => rfl
  | _, n :: ns, .cons h t => by cases h; rw [List.map_cons, Reps.ints t]
theorem Reps.of_ints : ∀ (ns : List Int), Reps G H (ns.map V.int) (ns.map D.int)
  | [] => .nil
  | n :: ns => .cons (.int n) (Reps.of_ints ns)
theorem Reps.bls : ∀ {vs : List V} {ns : List Bool}, Reps G H vs (ns.map D.bl) → vs = ns.map V.bl
  | _, [], .nil => rfl
  | _, n :: ns, .cons h t => by cases h; rw [List.map_cons, Reps.bls t]
theorem Reps.strs : ∀ {vs : List V} {ns : List Str}, Reps G H vs (ns.map D.str) → vs = ns.map V.str
  | _, [], .nil => rfl
  | _, n :: ns, .cons h t => by cases h; rw [List.map_cons, Reps.strs t]
end

/-! ### slots -/
inductive SV where
  | un | d (d : D) | own (l : List D) | own2 (l : List (List D)) | town (g n : Nat) | ob

abbrev Ev := List SV

/-- the context of a run: the heap at its entry, the part of it that stands, the addresses that may be changed, what is wanted of an exception -/
structure C where
  H0 : Hp
  S0 : Hp
  M : Addr → Prop
  x : Ex → List SV → Prop
  pn : List Nat
  pv : Nat → V

structure Frame (c : C) (S H : Hp) : Prop where
  ss : Same c.S0 S
  sh : Same S H
  keep : ∀ a o, c.H0 a = some o → ¬ c.M a → H a = some o
  trk : ∀ a, c.H0 a ≠ none → H a ≠ none
  dom : ∀ a, c.H0 a ≠ none → ¬ c.M a → S a = c.S0 a

/-- an own object: not in the part that stands, new or handed over -/
structure OwnAt (c : C) (S : Hp) (p : Addr) : Prop where
  out : S p = none
  may : c.M p ∨ c.H0 p = none

/-- the law's town of draws: a count and cells; g more draws may come -/
def TownOk (H : Hp) (p : Addr) (g m : Nat) : Prop := ∃ (n : Int) (ns : List Int), H p = some (.lst (.int n :: ns.map V.int)) ∧ 0 ≤ n ∧ n + g ≤ 1000000 ∧ ns.length = m

def SlotOk (G : GC) (c : C) (S H : Hp) : Option V → SV → List Addr → Prop
  | _, .un, f => f = []
  | some v, .d d, f => f = [] ∧ Rep G S v d
  | some (.ref p), .own ds, f => f = [p] ∧ OwnAt c S p ∧ ∃ vs, H p = some (.lst vs) ∧ Reps G S vs ds
  | some (.ref p), .own2 dss, f => ∃ qs : List Addr, f = p :: qs ∧ f.Nodup ∧ OwnAt c S p ∧ H p = some (.lst (qs.map V.ref)) ∧ qs.length = dss.length ∧
      ∀ (i : Nat) q ds, qs[i]? = some q → dss[i]? = some ds → OwnAt c S q ∧ ∃ vs, H q = some (.lst vs) ∧ Reps G S vs ds
  | some (.ref p), .town g n, f => f = [p] ∧ OwnAt c S p ∧ TownOk H p g n
  | some (.ref p), .ob, f => f = [p] ∧ OwnAt c S p ∧ ∃ dx, H p = some (.ins G.dk dx [])
  | _, _, _ => False

structure AbsF (G : GC) (c : C) (σ : St) (ρ : Ev) (S H : Hp) (F : Nat → List Addr) : Prop where
  fr : Frame c S H
  len : σ.length = ρ.length
  sl : ∀ i s, ρ[i]? = some s → SlotOk G c S H ((σ[i]?).join) s (F i)
  em : ∀ i, ρ[i]? = none → F i = []
  pin : ∀ i, i ∈ c.pn → σ[i]? = some (some (c.pv i))
  dj : ∀ i j a, a ∈ F i → a ∈ F j → i = j

def Abs (G : GC) (c : C) (σ : St) (ρ : Ev) (S H : Hp) : Prop := ∃ F, AbsF G c σ ρ S H F

section
variable {G : GC} {c : C} {S S' H H' : Hp} {σ : St} {ρ : Ev} {F : Nat → List Addr}
/-- footprints are tracked, and not in what stands -/
theorem SlotOk.foot {v : Option V} {s : SV} {f : List Addr} (h : SlotOk G c S H v s f) : ∀ a ∈ f, OwnAt c S a ∧ H a ≠ none := by
  intro a ha
  cases s with
  | un => cases v <;> (rw [show f = [] from h] at ha; cases ha)
  | d d => cases v with
    | none => exact h.elim
    | some v => rw [h.1] at ha; cases ha
  | own ds =>
    cases v with
    | none => exact h.elim
    | some v =>
      cases v with
      | ref p =>
        obtain ⟨rfl, o, vs, e, _⟩ := h
        rw [List.mem_singleton] at ha
        subst ha
        exact ⟨o, by rw [e]; simp⟩
      | _ => exact h.elim
  | own2 dss =>
    cases v with
    | none => exact h.elim
    | some v =>
      cases v with
      | ref p =>
        obtain ⟨qs, rfl, nd, o, e, hl, hq⟩ := h
        rcases List.mem_cons.mp ha with rfl | ha
        · exact ⟨o, by rw [e]; simp⟩
        · obtain ⟨i, hi, rfl⟩ := List.getElem_of_mem ha
          obtain ⟨o2, vs, e2, _⟩ := hq i _ _ (List.getElem?_eq_getElem hi) (List.getElem?_eq_getElem (by omega : i < dss.length))
          exact ⟨o2, by rw [e2]; simp⟩
      | _ => exact h.elim
  | town g m =>
    cases v with
    | none => exact h.elim
    | some v =>
      cases v with
      | ref p =>
        obtain ⟨rfl, o, n, ns, e, _⟩ := h
        rw [List.mem_singleton] at ha
        subst ha
        exact ⟨o, by rw [e]; simp⟩
      | _ => exact h.elim
  | ob =>
    cases v with
    | none => exact h.elim
    | some v =>
      cases v with
      | ref p =>
        obtain ⟨rfl, o, dx, e⟩ := h
        rw [List.mem_singleton] at ha
        subst ha
        exact ⟨o, by rw [e]; simp⟩
      | _ => exact h.elim
/-- a slot stays as it is where what stands grows and its footprint is kept -/
theorem SlotOk.stay {c' : C} {v : Option V} {s : SV} {f : List Addr} (h : SlotOk G c S H v s f) (e : Same S S') (hf : ∀ a ∈ f, H' a = H a ∧ OwnAt c' S' a) : SlotOk G c' S' H' v s f := by
  cases s with
  | un => cases v <;> exact h
  | d d => cases v with
    | none => exact h.elim
    | some v => exact ⟨h.1, h.2.mono e⟩
  | own ds =>
    cases v with
    | none => exact h.elim
    | some v =>
      cases v with
      | ref p =>
        obtain ⟨rfl, o, vs, e1, r⟩ := h
        obtain ⟨h1, h2⟩ := hf p (List.mem_singleton.mpr rfl)
        exact ⟨rfl, h2, vs, by rw [h1]; exact e1, r.mono e⟩
      | _ => exact h.elim
  | own2 dss =>
    cases v with
    | none => exact h.elim
    | some v =>
      cases v with
      | ref p =>
        obtain ⟨qs, rfl, nd, o, e1, hl, hq⟩ := h
        obtain ⟨h1, h2⟩ := hf p List.mem_cons_self
        refine ⟨qs, rfl, nd, h2, by rw [h1]; exact e1, hl, fun i q ds g1 g2 => ?_⟩
        obtain ⟨_, vs, e2, r⟩ := hq i q ds g1 g2
        obtain ⟨h3, h4⟩ := hf q (List.mem_cons_of_mem _ (List.mem_of_getElem? g1))
        exact ⟨h4, vs, by rw [h3]; exact e2, r.mono e⟩
      | _ => exact h.elim
  | town g m =>
    cases v with
    | none => exact h.elim
    | some v =>
      cases v with
      | ref p =>
        obtain ⟨rfl, o, n, ns, e1, r⟩ := h
        obtain ⟨h1, h2⟩ := hf p (List.mem_singleton.mpr rfl)
        exact ⟨rfl, h2, n, ns, by rw [h1]; exact e1, r⟩
      | _ => exact h.elim
  | ob =>
    cases v with
    | none => exact h.elim
    | some v =>
      cases v with
      | ref p =>
        obtain ⟨rfl, o, dx, e1⟩ := h
        obtain ⟨h1, h2⟩ := hf p (List.mem_singleton.mpr rfl)
        exact ⟨rfl, h2, dx, by rw [h1]; exact e1⟩
      | _ => exact h.elim
theorem AbsF.foot (A : AbsF G c σ ρ S H F) {i : Nat} {a : Addr} (h : a ∈ F i) : OwnAt c S a ∧ H a ≠ none := by
  cases e : ρ[i]? with
  | none => rw [A.em i e] at h; cases h
  | some s => exact (A.sl i s e).foot a h
/-- nothing owned is touched: the step of all pure things -/
theorem AbsF.grow (A : AbsF G c σ ρ S H F) (h1 : Same H H') (h2 : Same S S') (h3 : Same S' H') (h4 : ∀ a, H a ≠ none → S' a = S a) : AbsF G c σ ρ S' H' F := by
  refine ⟨⟨fun a o e => h2 a o (A.fr.ss a o e), h3, fun a o e m => h1 a o (A.fr.keep a o e m), fun a e => ?_, fun a e m => ?_⟩, A.len, fun i s e => ?_, A.em, A.pin, A.dj⟩
  · have t := A.fr.trk a e
    cases q : H a with
    | none => exact absurd q t
    | some o => rw [h1 a o q]; simp
  · rw [h4 a (A.fr.trk a e)]; exact A.fr.dom a e m
  · refine (A.sl i s e).stay h2 fun a ha => ?_
    obtain ⟨o, t⟩ := A.foot ha
    refine ⟨?_, ⟨by rw [h4 a t]; exact o.out, o.may⟩⟩
    cases q : H a with
    | none => exact absurd q t
    | some u => exact h1 a u q
theorem same_upd {H : Hp} {p : Addr} {o : HO} (h : H p = none) : Same H (upd H p o) := fun b u e => by
  rw [upd_ne (ne_of_none e h)]; exact e
theorem same_upd2 {S H : Hp} {p : Addr} {o : HO} (s : Same S H) : Same (L2.upd S p o) (L2.upd H p o) := fun b u e => by
  by_cases hb : b = p
  · subst hb; rw [upd_same] at e ⊢; exact e
  · rw [upd_ne hb] at e ⊢; exact s b u e
theorem same_mut {S H : Hp} {p : Addr} {o : HO} (s : Same S H) (h : S p = none) : Same S (L2.upd H p o) := fun b u e => by
  rw [upd_ne (ne_of_none e h)]; exact s b u e
/-- a new thing that stands -/
theorem AbsF.new (A : AbsF G c σ ρ S H F) {p : Addr} {o : HO} (h : H p = none) : AbsF G c σ ρ (upd S p o) (upd H p o) F :=
  have hS : S p = none := by
    cases q : S p with
    | none => rfl
    | some u => rw [A.fr.sh p u q] at h; cases h
  A.grow (same_upd h) (same_upd hS) (same_upd2 A.fr.sh) fun a t => upd_ne fun e => t (e ▸ h)
theorem AbsF.fresh (A : AbsF G c σ ρ S H F) {p : Addr} (h : H p = none) : S p = none ∧ c.H0 p = none ∧ ∀ i, p ∉ F i := by
  refine ⟨?_, ?_, fun i hi => (A.foot hi).2 h⟩
  · cases q : S p with
    | none => rfl
    | some u => rw [A.fr.sh p u q] at h; cases h
  · cases q : c.H0 p with
    | none => rfl
    | some u => exact absurd h (A.fr.trk p (by rw [q]; simp))
/-- a new thing that is own: it is laid, but does not stand -/
theorem AbsF.newO (A : AbsF G c σ ρ S H F) {p : Addr} {o : HO} (h : H p = none) : AbsF G c σ ρ S (upd H p o) F :=
  A.grow (same_upd h) (Same.refl S) (A.fr.sh.trans (same_upd h)) fun _ _ => rfl
/-- an own thing (of no slot) is changed -/
theorem AbsF.mutO (A : AbsF G c σ ρ S H F) {p : Addr} {o : HO} (h : OwnAt c S p) (hF : ∀ i, p ∉ F i) (ht : H p ≠ none) : AbsF G c σ ρ S (upd H p o) F := by
  refine ⟨⟨A.fr.ss, same_mut A.fr.sh h.out, fun a u e m => ?_, fun a e => ?_, A.fr.dom⟩, A.len, fun i s e => ?_, A.em, A.pin, A.dj⟩
  · have : a ≠ p := fun z => by
      subst z
      rcases h.may with q | q
      · exact m q
      · rw [q] at e; cases e
    rw [upd_ne this]; exact A.fr.keep a u e m
  · by_cases z : a = p
    · subst z; rw [upd_same]; simp
    · rw [upd_ne z]; exact A.fr.trk a e
  · refine (A.sl i s e).stay (Same.refl S) fun a ha => ⟨upd_ne fun z => hF i (z ▸ ha), (A.foot ha).1⟩
/-- an own thing (of no slot) is let stand -/
theorem AbsF.freeze (A : AbsF G c σ ρ S H F) {p : Addr} {o : HO} (h0 : S p = none) (hm : c.M p ∨ c.H0 p = none) (hF : ∀ i, p ∉ F i) (ht : H p = some o) : AbsF G c σ ρ (upd S p o) H F := by
  refine ⟨⟨fun a u e => ?_, fun a u e => ?_, A.fr.keep, A.fr.trk, fun a e m => ?_⟩, A.len, fun i s e => ?_, A.em, A.pin, A.dj⟩
  · have := A.fr.ss a u e
    rw [upd_ne (ne_of_none this h0)]; exact this
  · by_cases z : a = p
    · subst z; rw [upd_same] at e; cases e; exact ht
    · rw [upd_ne z] at e; exact A.fr.sh a u e
  · have : a ≠ p := fun z => by
      subst z
      rcases hm with q | q
      · exact m q
      · exact e q
    rw [upd_ne this]; exact A.fr.dom a e m
  · refine (A.sl i s e).stay (same_upd h0) fun a ha => ⟨rfl, ?_⟩
    obtain ⟨o, _⟩ := A.foot ha
    exact ⟨by rw [upd_ne fun z => hF i (by rw [← z]; exact ha)]; exact o.out, o.may⟩
/-- a slot is stored -/
theorem AbsF.set (A : AbsF G c σ ρ S H F) {i : Nat} {v : Option V} {s : SV} {f : List Addr} (h : SlotOk G c S H v s f) (hf : ∀ j a, j ≠ i → a ∈ f → a ∉ F j) (hp : i ∉ c.pn ∨ σ[i]? = some v) : AbsF G c (σ.set i v) (ρ.set i s) S H (fun j => if j = i then (if i < ρ.length then f else []) else F j) := by
  refine ⟨A.fr, by rw [List.length_set, List.length_set]; exact A.len, fun j t e => ?_, fun j e => ?_, fun j hj => ?_, fun j k a hj hk => ?_⟩
  · by_cases z : j = i
    · subst z
      by_cases hl : j < ρ.length
      · rw [List.getElem?_set_self hl] at e
        cases e
        rw [List.getElem?_set_self (by rw [A.len]; exact hl), if_pos rfl, if_pos hl]
        exact h
      · rw [List.getElem?_eq_none (by rw [List.length_set]; omega)] at e
        cases e
    · rw [List.getElem?_set_ne (Ne.symm z)] at e
      rw [List.getElem?_set_ne (Ne.symm z)]
      rw [if_neg z]
      exact A.sl j t e
  · by_cases z : j = i
    · subst z
      rw [if_pos rfl]
      have : ¬ j < ρ.length := fun hl => by rw [List.getElem?_set_self hl] at e; cases e
      rw [if_neg this]
    · rw [if_neg z]
      rw [List.getElem?_set_ne (Ne.symm z)] at e
      exact A.em j e
  · have q := A.pin j hj
    by_cases z : j = i
    · subst z
      rcases hp with hp | hp
      · exact absurd hj hp
      · rw [List.getElem?_set_self (List.getElem?_eq_some_iff.mp q).1, ← q, hp]
    · rw [List.getElem?_set_ne (Ne.symm z)]
      exact q
  · by_cases z : j = i
    · by_cases z2 : k = i
      · rw [z, z2]
      · rw [if_pos z] at hj
        rw [if_neg z2] at hk
        split at hj
        · exact absurd hk (hf k a z2 hj)
        · cases hj
    · rw [if_neg z] at hj
      by_cases z2 : k = i
      · rw [if_pos z2] at hk
        split at hk
        · exact absurd hj (hf j a z hk)
        · cases hk
      · rw [if_neg z2] at hk
        exact A.dj j k a hj hk
theorem AbsF.setD (A : AbsF G c σ ρ S H F) {i : Nat} {v : V} {d : D} (h : Rep G S v d) (hp : i ∉ c.pn ∨ σ[i]? = some (some v)) : Abs G c (σ.set i (some v)) (ρ.set i (.d d)) S H :=
  ⟨_, A.set (s := .d d) (v := some v) (f := []) ⟨rfl, h⟩ (fun _ _ _ z => nomatch z) hp⟩
theorem AbsF.setU (A : AbsF G c σ ρ S H F) {i : Nat} {v : Option V} (hp : i ∉ c.pn ∨ σ[i]? = some v) : Abs G c (σ.set i v) (ρ.set i .un) S H :=
  ⟨_, A.set (s := .un) (v := v) (f := []) (by cases v <;> rfl) (fun _ _ _ z => nomatch z) hp⟩
/-- the context of a part: only what is owned may change -/
def sub (c : C) (S H : Hp) (F : Nat → List Addr) : C := ⟨H, S, fun a => ∃ i, a ∈ F i, c.x, c.pn, c.pv⟩
theorem AbsF.sub (A : AbsF G c σ ρ S H F) : AbsF G (sub c S H F) σ ρ S H F :=
  ⟨⟨Same.refl _, A.fr.sh, fun _ _ e _ => e, fun _ e => e, fun _ _ _ => rfl⟩, A.len, fun i s e => (A.sl i s e).stay (Same.refl _) fun a ha => ⟨rfl, (A.foot ha).1.out, .inl ⟨i, ha⟩⟩, A.em, A.pin, A.dj⟩
theorem Frame.back (A : AbsF G c σ ρ S H F) {S' H' : Hp} (f : Frame (sub c S H F) S' H') : Frame c S' H' := by
  refine ⟨A.fr.ss.trans f.ss, f.sh, fun a o e m => ?_, fun a e => f.trk a (A.fr.trk a e), fun a e m => ?_⟩
  · refine f.keep a o (A.fr.keep a o e m) fun ⟨i, hi⟩ => ?_
    rcases (A.foot hi).1.may with q | q
    · exact m q
    · rw [q] at e; cases e
  · refine (f.dom a (A.fr.trk a e) fun ⟨i, hi⟩ => ?_).trans (A.fr.dom a e m)
    rcases (A.foot hi).1.may with q | q
    · exact m q
    · exact e q
theorem AbsF.back {σ' : St} {ρ' : Ev} {S' H' : Hp} {F' : Nat → List Addr} (A : AbsF G c σ ρ S H F) (B : AbsF G (Y.sub c S H F) σ' ρ' S' H' F') : AbsF G c σ' ρ' S' H' F' :=
  ⟨Frame.back A B.fr, B.len, fun i s e => (B.sl i s e).stay (Same.refl _) fun a ha => by
    obtain ⟨⟨o, m⟩, _⟩ := B.foot ha
    refine ⟨rfl, o, ?_⟩
    rcases m with ⟨j, hj⟩ | q
    · exact (A.foot hj).1.may
    · exact .inr (A.fresh q).2.1, B.em, B.pin, B.dj⟩
end
end Y
namespace Y
open PySem PySem.Spec PyProof.Rows L2

/-! ### what code is worth over data -/
abbrev KX := Ex → Ev → Prop
abbrev DE := KX → Ev → (D → Ev → Prop) → Prop
abbrev DT := KX → Ev → (Bool → Ev → Prop) → Prop
abbrev DL := KX → Ev → (List D → Ev → Prop) → Prop

def ExOk (G : GC) (cls : Value) (dd : Option Addr) (H : Hp) : Ex → Prop
  | .own n => ∃ a, G.mg n = some (.ref a) ∧ cls = .ref a ∧ dd = none
  | .jam p => ∃ a d, G.mg "Jammed" = some (.ref a) ∧ cls = .ref a ∧ dd = some d ∧ H d = some (.xd [("pocket", .int p)])
/-- what is fixed through a def's body: the module, the wish about exceptions, the slots that hold what may be changed for the caller -/
structure Bd where
  G : GC
  E : XK
  pn : List Nat
structure Wish (B : Bd) (c : C) : Prop where
  go : ∀ ex cls dd σ ρ S H, Abs B.G c σ ρ S H → ExOk B.G cls dd H ex → c.x ex ρ → B.E cls dd H
  pn : c.pn = B.pn

def tD (B : Bd) (de : DE) : TE := fun σ H Q => ∃ c ρ S k, Wish B c ∧ Abs B.G c σ ρ S H ∧ de c.x ρ k ∧
  ∀ v d ρ' S' H', Abs B.G c σ ρ' S' H' → Same S S' → Rep B.G S' v d → k d ρ' → Q v H'
/-- a new list that is own -/
def tO (B : Bd) (dl : DL) : TE := fun σ H Q => ∃ c ρ S k, Wish B c ∧ Abs B.G c σ ρ S H ∧ dl c.x ρ k ∧
  ∀ p vs ds ρ' S' H' F', AbsF B.G c σ ρ' S' H' F' → Same S S' → (∀ i, p ∉ F' i) → S' p = none → c.H0 p = none → H' p = some (.lst vs) → Reps B.G S' vs ds → k ds ρ' → Q (.ref p) H'
def tT (B : Bd) (dt : DT) : TT := fun σ H Q => ∃ c ρ S k, Wish B c ∧ Abs B.G c σ ρ S H ∧ dt c.x ρ k ∧
  ∀ b ρ' S' H', Abs B.G c σ ρ' S' H' → Same S S' → k b ρ' → Q b H'
/-- arguments -/
def tA (B : Bd) (dl : DL) : TA := fun σ H Q => ∃ c ρ S k, Wish B c ∧ Abs B.G c σ ρ S H ∧ dl c.x ρ k ∧
  ∀ vs ds ρ' S' H', Abs B.G c σ ρ' S' H' → Same S S' → Reps B.G S' vs ds → k ds ρ' → Q vs H'

section
variable {X : Cx} {e : Expr} {es : List Expr}
theorem PE.imp {t t' : TE} (h : PE X e t) (i : ∀ σ H Q, t' σ H Q → t σ H Q) : PE X e t' := ⟨fun pins s σ H Q I q => h.run pins s σ H Q I (i _ _ _ q)⟩
theorem PT.imp {t t' : TT} (h : PT X e t) (i : ∀ σ H Q, t' σ H Q → t σ H Q) : PT X e t' := ⟨fun pins s σ H Q I q => h.run pins s σ H Q I (i _ _ _ q)⟩
theorem PW.imp {t t' : TT} (h : PW X e t) (i : ∀ σ H Q, t' σ H Q → t σ H Q) : PW X e t' := ⟨fun wh pins s σ H Q I q => h.run wh pins s σ H Q I (i _ _ _ q)⟩
theorem PA.imp {t t' : TA} (h : PA X es t) (i : ∀ σ H Q, t' σ H Q → t σ H Q) : PA X es t' := ⟨fun pos pins s σ H Q I q => h.run pos pins s σ H Q I (i _ _ _ q)⟩
end

section
variable {B : Bd} {c : C} {S S' H H' : Hp} {σ : St} {ρ : Ev} {F : Nat → List Addr}
theorem Wish.sub (w : Wish B c) (A : AbsF B.G c σ ρ S H F) : Wish B (sub c S H F) := ⟨fun ex cls dd σ ρ S' H' ⟨F', A'⟩ o q => w.go ex cls dd σ ρ S' H' ⟨F', A.back A'⟩ o q, w.pn⟩
/-- run, with what is not owned kept -/
theorem tD_run {de : DE} {k : D → Ev → Prop} {Q : VK} (w : Wish B c) (A : AbsF B.G c σ ρ S H F) (h : de c.x ρ k)
    (q : ∀ v d ρ' S' H' F', AbsF B.G c σ ρ' S' H' F' → Same S S' → (∀ a, H a ≠ none → (∀ i, a ∉ F i) → H' a = H a ∧ S' a = S a ∧ ∀ i, a ∉ F' i) → Rep B.G S' v d → k d ρ' → Q v H') : tD B de σ H Q := by
  refine ⟨sub c S H F, ρ, S, k, w.sub A, ⟨F, A.sub⟩, h, fun v d ρ' S' H' ⟨F', B⟩ ss r kk => ?_⟩
  refine q v d ρ' S' H' F' (A.back B) ss (fun a ha hn => ?_) r kk
  have hm : ¬ (Y.sub c S H F).M a := fun ⟨i, hi⟩ => hn i hi
  refine ⟨?_, B.fr.dom a ha hm, fun i hi => ?_⟩
  · cases e : H a with
    | none => exact absurd e ha
    | some o => exact B.fr.keep a o e hm
  · rcases (B.foot hi).1.may with m | m
    · exact hm m
    · exact ha m
theorem tT_run {de : DT} {k : Bool → Ev → Prop} {Q : Bool → Hp → Prop} (w : Wish B c) (A : AbsF B.G c σ ρ S H F) (h : de c.x ρ k)
    (q : ∀ d ρ' S' H' F', AbsF B.G c σ ρ' S' H' F' → Same S S' → (∀ a, H a ≠ none → (∀ i, a ∉ F i) → H' a = H a ∧ S' a = S a ∧ ∀ i, a ∉ F' i) → k d ρ' → Q d H') : tT B de σ H Q := by
  refine ⟨sub c S H F, ρ, S, k, w.sub A, ⟨F, A.sub⟩, h, fun d ρ' S' H' ⟨F', B⟩ ss kk => ?_⟩
  refine q d ρ' S' H' F' (A.back B) ss (fun a ha hn => ?_) kk
  have hm : ¬ (Y.sub c S H F).M a := fun ⟨i, hi⟩ => hn i hi
  refine ⟨?_, B.fr.dom a ha hm, fun i hi => ?_⟩
  · cases e : H a with
    | none => exact absurd e ha
    | some o => exact B.fr.keep a o e hm
  · rcases (B.foot hi).1.may with m | m
    · exact hm m
    · exact ha m
end
section
variable {G : GC} {c : C} {S S' H H' : Hp} {σ : St} {ρ : Ev} {F : Nat → List Addr}
theorem set_self {α : Type} {l : List α} {i : Nat} {v : α} (h : l[i]? = some v) : l.set i v = l := by
  apply List.ext_getElem?
  intro j
  by_cases e : i = j
  · subst e
    rw [List.getElem?_set_self (List.getElem?_eq_some_iff.mp h).1, h]
  · rw [List.getElem?_set_ne e]
/-- a slot is forgotten -/
theorem AbsF.forget (A : AbsF G c σ ρ S H F) {i : Nat} {v : Option V} (hv : σ[i]? = some v) : AbsF G c σ (ρ.set i .un) S H (fun j => if j = i then [] else F j) := by
  have := A.set (i := i) (v := v) (s := .un) (f := []) (by cases v <;> rfl) (fun _ _ _ z => nomatch z) (.inr hv)
  rw [set_self hv] at this
  have e : (fun j => if j = i then (if i < ρ.length then ([] : List Addr) else []) else F j) = (fun j => if j = i then [] else F j) := by
    funext j
    split
    · split <;> rfl
    · rfl
  rw [e] at this
  exact this
theorem AbsF.own_get (A : AbsF G c σ ρ S H F) {i : Nat} {ds : List D} (e : ρ[i]? = some (.own ds)) : ∃ p vs, σ[i]? = some (some (.ref p)) ∧ F i = [p] ∧ OwnAt c S p ∧ H p = some (.lst vs) ∧ Reps G S vs ds := by
  have h := A.sl i _ e
  cases q : σ[i]? with
  | none => rw [q] at h; exact h.elim
  | some v =>
    rw [q] at h
    cases v with
    | none => exact h.elim
    | some v =>
      cases v with
      | ref p =>
        obtain ⟨f, o, vs, e1, r⟩ := h
        exact ⟨p, vs, rfl, f, o, e1, r⟩
      | _ => exact h.elim
theorem AbsF.d_get (A : AbsF G c σ ρ S H F) {i : Nat} {d : D} (e : ρ[i]? = some (.d d)) : ∃ v, σ[i]? = some (some v) ∧ Rep G S v d := by
  have h := A.sl i _ e
  cases q : σ[i]? with
  | none => rw [q] at h; exact h.elim
  | some v =>
    rw [q] at h
    cases v with
    | none => exact h.elim
    | some v => exact ⟨v, rfl, h.2⟩
/-- an own list is let stand -/
theorem AbsF.frz (A : AbsF G c σ ρ S H F) {i : Nat} {ds : List D} (e : ρ[i]? = some (.own ds)) : ∃ p S', σ[i]? = some (some (.ref p)) ∧ Abs G c σ (ρ.set i (.d (.lst ds))) S' H ∧ Same S S' ∧ Rep G S' (.ref p) (.lst ds) := by
  obtain ⟨p, vs, q, f, o, e1, r⟩ := A.own_get e
  have A1 := A.forget q
  have hF : ∀ j, p ∉ (fun j => if j = i then ([] : List Addr) else F j) j := fun j hj => by
    dsimp only at hj
    split at hj
    · cases hj
    · rename_i z
      exact z (A.dj j i p hj (by rw [f]; exact List.mem_singleton.mpr rfl))
  have A2 := A1.freeze o.out o.may hF e1
  have ss : Same S (upd S p (.lst vs)) := same_upd o.out
  have rr : Rep G (upd S p (.lst vs)) (.ref p) (.lst ds) := .lst upd_same (r.mono ss)
  obtain ⟨F3, A3⟩ := A2.setD (i := i) rr (.inr q)
  rw [set_self q, List.set_set] at A3
  exact ⟨p, _, q, ⟨F3, A3⟩, ss, rr⟩
end

/-! ### names, constants -/
def dVar (i : Nat) : DE := fun _ ρ k => match ρ[i]? with
  | some (.d d) => k d ρ
  | _ => False
/-- an own list, let stand -/
def dFrz (i : Nat) : DE := fun _ ρ k => match ρ[i]? with
  | some (.own ds) => k (.lst ds) (ρ.set i (.d (.lst ds)))
  | some (.d d) => k d ρ
  | _ => False
def dC (d : D) : DE := fun _ ρ k => k d ρ
section
variable {X : Cx} {B : Bd}
theorem e_var (i : Nat) {x : Str} {pos : Pos} (hN : X.N[i]? = some x := by rfl) (hv : Vis X.env.scope x := by first | exact Or.inl rfl | exact Or.inr (Or.inl rfl) | exact Or.inr (Or.inr rfl)) (hd : (x == ("__debug__" : Str)) = false := by decide)
    (hcd : (x == ("__classdict__" : Str)) = false := by decide) : PE X (.Name x pos) (tD B (dVar i)) := PE.imp (pv i hN hv hd hcd) fun σ H Q ⟨c, ρ, S, k, w, ⟨F, A⟩, h, q⟩ => by
  unfold dVar at h
  split at h
  · rename_i d e
    obtain ⟨v, e1, r⟩ := A.d_get e
    exact ⟨v, e1, q v d ρ S H ⟨F, A⟩ (Same.refl S) r h⟩
  · exact h.elim
theorem e_frz (i : Nat) {x : Str} {pos : Pos} (hN : X.N[i]? = some x := by rfl) (hv : Vis X.env.scope x := by first | exact Or.inl rfl | exact Or.inr (Or.inl rfl) | exact Or.inr (Or.inr rfl)) (hd : (x == ("__debug__" : Str)) = false := by decide)
    (hcd : (x == ("__classdict__" : Str)) = false := by decide) : PE X (.Name x pos) (tD B (dFrz i)) := PE.imp (pv i hN hv hd hcd) fun σ H Q ⟨c, ρ, S, k, w, ⟨F, A⟩, h, q⟩ => by
  unfold dFrz at h
  split at h
  · rename_i ds e
    obtain ⟨p, S', e1, B, ss, r⟩ := A.frz e
    exact ⟨_, e1, q _ _ _ S' H B ss r h⟩
  · rename_i d e
    obtain ⟨v, e1, r⟩ := A.d_get e
    exact ⟨v, e1, q v d ρ S H ⟨F, A⟩ (Same.refl S) r h⟩
  · exact h.elim
theorem imp_c {v : V} {d : D} (r : ∀ S, Rep B.G S v d) : ∀ σ H Q, tD B (dC d) σ H Q → tC v σ H Q := fun σ H Q ⟨c, ρ, S, k, w, A, h, q⟩ => q v d ρ S H A (Same.refl S) (r S) h
theorem e_int {i j pos} : PE X (.Constant (.int i) j pos) (tD B (dC (.int i))) := PE.imp pe_int (imp_c fun _ => .int i)
theorem e_bl {i j pos} : PE X (.Constant (.bool i) j pos) (tD B (dC (.bl i))) := PE.imp pe_bl (imp_c fun _ => .bl i)
theorem e_str {i j pos} : PE X (.Constant (.str i) j pos) (tD B (dC (.str i))) := PE.imp pe_str (imp_c fun _ => .str i)
theorem e_non {j pos} : PE X (.Constant .none j pos) (tD B (dC .non)) := PE.imp pe_non (imp_c fun _ => .non)
/-- a module's constant -/
theorem e_gint {x : Str} {n : Int} {t : Tok} {pos : Pos} (hg : Gl X x) (hm : X.mg x = some (.int n t)) (hd : (x == ("__debug__" : Str)) = false := by decide) : PE X (.Name x pos) (tD B (dC (.int n))) := PE.imp (pe_glob (v := .int n) hg hm ⟨t, rfl⟩ hd) (imp_c fun _ => .int n)
theorem e_gstr {x : Str} {n : Str} {t : Tok} {pos : Pos} (hg : Gl X x) (hm : X.mg x = some (.str n t)) (hd : (x == ("__debug__" : Str)) = false := by decide) : PE X (.Name x pos) (tD B (dC (.str n))) := PE.imp (pe_glob (v := .str n) hg hm ⟨t, rfl⟩ hd) (imp_c fun _ => .str n)
end

/-! ### operators, by values -/
abbrev D2 := D → D → (D → Prop) → Prop
abbrev D2L := D → D → (List D → Prop) → Prop
def OkR (G : GC) (r : R2) (f : D2) : Prop := ∀ c σ ρ S H F x y dx dy k Q, AbsF G c σ ρ S H F → Rep G S x dx → Rep G S y dy → f dx dy k → (∀ v d S' H', AbsF G c σ ρ S' H' F → Same S S' → Rep G S' v d → k d → Q v H') → r x y H Q
/-- the outcome is a new own list -/
def OkRL (G : GC) (r : R2) (f : D2L) : Prop := ∀ c σ ρ S H F x y dx dy k Q, AbsF G c σ ρ S H F → Rep G S x dx → Rep G S y dy → f dx dy k →
  (∀ p vs ds H', AbsF G c σ ρ S H' F → H p = none → H' p = some (.lst vs) → Reps G S vs ds → k ds → Q (.ref p) H') → r x y H Q
def dOp (f : D2) (da db : DE) : DE := fun x ρ k => da x ρ fun d1 ρ1 => db x ρ1 fun d2 ρ2 => f d1 d2 fun d => k d ρ2
def oOp (f : D2L) (da db : DE) : DL := fun x ρ k => da x ρ fun d1 ρ1 => db x ρ1 fun d2 ρ2 => f d1 d2 fun d => k d ρ2
section
variable {X : Cx} {B : Bd} {a b : Expr} {da db dc : DE} {pos : Pos} {r : R2} {f : D2}
theorem imp_op (hr : OkR B.G r f) : ∀ σ H Q, tD B (dOp f da db) σ H Q → tOp r (tD B da) (tD B db) σ H Q := fun σ H Q ⟨c, ρ, S, k, w, A, h, q⟩ =>
  ⟨c, ρ, S, _, w, A, h, fun v1 d1 ρ1 S1 H1 A1 s1 r1 h1 => ⟨c, ρ1, S1, _, w, A1, h1, fun v2 d2 ρ2 S2 H2 ⟨F2, A2⟩ s2 r2 h2 =>
    hr c σ ρ2 S2 H2 F2 v1 v2 d1 d2 _ _ A2 (r1.mono s2) r2 h2 fun v d S3 H3 A3 s3 r3 h3 => q v d ρ2 S3 H3 ⟨F2, A3⟩ ((s1.trans s2).trans s3) r3 h3⟩⟩
theorem imp_opL {f : D2L} (hr : OkRL B.G r f) : ∀ σ H Q, tO B (oOp f da db) σ H Q → tOp r (tD B da) (tD B db) σ H Q := fun σ H Q ⟨c, ρ, S, k, w, A, h, q⟩ =>
  ⟨c, ρ, S, _, w, A, h, fun v1 d1 ρ1 S1 H1 A1 s1 r1 h1 => ⟨c, ρ1, S1, _, w, A1, h1, fun v2 d2 ρ2 S2 H2 ⟨F2, A2⟩ s2 r2 h2 =>
    hr c σ ρ2 S2 H2 F2 v1 v2 d1 d2 _ _ A2 (r1.mono s2) r2 h2 fun p vs ds H3 A3 hp e3 r3 h3 =>
      let ⟨z1, z2, z3⟩ := A2.fresh hp
      q p vs ds ρ2 S2 H3 F2 A3 (s1.trans s2) z3 z1 z2 e3 r3 h3⟩⟩
theorem e_op {op : Operator} (ho : OpR X (binaryOp op) r) (hr : OkR B.G r f) (ha : PE X a (tD B da)) (hb : PE X b (tD B db)) : PE X (.BinOp a op b pos) (tD B (dOp f da db)) := PE.imp (pe_op ho ha hb) (imp_op hr)
theorem eo_op {op : Operator} {f : D2L} (ho : OpR X (binaryOp op) r) (hr : OkRL B.G r f) (ha : PE X a (tD B da)) (hb : PE X b (tD B db)) : PE X (.BinOp a op b pos) (tO B (oOp f da db)) := PE.imp (pe_op ho ha hb) (imp_opL hr)
theorem e_cmp {op : CmpOp} (ho : OpR X (compareOp op) r) (hr : OkR B.G r f) (ha : PE X a (tD B da)) (hb : PE X b (tD B db)) (hm : behindInMarks op b = false := by first | exact nomark _ | rfl) : PE X (.Compare a [op] [b] pos) (tD B (dOp f da db)) := PE.imp (pe_cmpR ho ha hb hm) (imp_op hr)
/-- a truth -/
def asB (d : D) (f : Bool → Prop) : Prop := match d with
  | .bl b => f b
  | _ => False
theorem asB_bl (b : Bool) (f : Bool → Prop) : asB (.bl b) f = f b := rfl
/-- a truth as a test -/
def dB (de : DE) : DT := fun x ρ k => de x ρ fun d ρ1 => asB d fun b => k b ρ1
theorem rep_bl {S : Hp} {v : V} {b : Bool} (h : Rep B.G S v (.bl b)) : v = .bl b := by cases h; rfl
theorem imp_B {de : DE} {te : TE} (hi : ∀ σ H Q, tD B de σ H Q → te σ H Q) : ∀ σ H Q, tT B (dB de) σ H Q → tTest te σ H Q := fun σ H Q ⟨c, ρ, S, k, w, A, h, q⟩ =>
  hi _ _ _ ⟨c, ρ, S, _, w, A, h, fun v d ρ1 S1 H1 A1 s1 r1 h1 => by
    cases d with
    | bl b => exact ⟨b, rep_bl r1, q b ρ1 S1 H1 A1 s1 h1⟩
    | _ => exact h1.elim⟩
theorem t_cmp {op : CmpOp} (ho : OpR X (compareOp op) r) (hr : OkR B.G r f) (ha : PE X a (tD B da)) (hb : PE X b (tD B db)) (hm : behindInMarks op b = false := by first | exact nomark _ | rfl) : PT X (.Compare a [op] [b] pos) (tT B (dB (dOp f da db))) := PT.imp (pt_cmpR ho ha hb hm) (imp_B (imp_op hr))
theorem t_val {e : Expr} {de : DE} (h : PE X e (tD B de)) (he : ∀ whole, isTrue e X.env whole = (do let v ← whole; standAt e.pos; holding [v] (truthy v)) := by intro _; rfl) : PT X e (tT B (dB de)) := PT.imp (pt_val h he) (imp_B fun _ _ _ z => z)
/-- a op1 b op2 c -/
def dChain (f g : D2) (da db dc : DE) : DE := fun x ρ k => da x ρ fun d1 ρ1 => db x ρ1 fun d2 ρ2 => f d1 d2 fun d => asB d fun b => if b = true then dc x ρ2 fun d3 ρ3 => g d2 d3 fun z => k z ρ3 else k (.bl false) ρ2
theorem imp_chain {r' : R2} {g : D2} (hr : OkR B.G r f) (hr' : OkR B.G r' g) : ∀ σ H Q, tD B (dChain f g da db dc) σ H Q → tChain r r' (tD B da) (tD B db) (tD B dc) σ H Q := fun σ H Q ⟨c, ρ, S, k, w, A, h, q⟩ =>
  ⟨c, ρ, S, _, w, A, h, fun v1 d1 ρ1 S1 H1 A1 s1 r1 h1 => ⟨c, ρ1, S1, _, w, A1, h1, fun v2 d2 ρ2 S2 H2 ⟨F2, A2⟩ s2 r2 h2 =>
    hr c σ ρ2 S2 H2 F2 v1 v2 d1 d2 _ _ A2 (r1.mono s2) r2 h2 fun v d S3 H3 A3 s3 r3 h3 => by
      cases d with
      | bl b =>
        refine ⟨b, rep_bl r3, ?_⟩
        cases b with
        | true =>
          rw [if_pos rfl]
          rw [asB_bl] at h3
          rw [if_pos rfl] at h3
          exact ⟨c, ρ2, S3, _, w, ⟨F2, A3⟩, h3, fun v4 d4 ρ4 S4 H4 ⟨F4, A4⟩ s4 r4 h4 => hr' c σ ρ4 S4 H4 F4 v2 v4 d2 d4 _ _ A4 ((r2.mono s3).mono s4) r4 h4
            fun v5 d5 S5 H5 A5 s5 r5 h5 => q v5 d5 ρ4 S5 H5 ⟨F4, A5⟩ ((((s1.trans s2).trans s3).trans s4).trans s5) r5 h5⟩
        | false =>
          rw [if_neg Bool.false_ne_true]
          rw [asB_bl] at h3
          rw [if_neg Bool.false_ne_true] at h3
          exact q _ _ ρ2 S3 H3 ⟨F2, A3⟩ ((s1.trans s2).trans s3) (.bl false) h3
      | _ => exact h3.elim⟩⟩
theorem e_chain {op op' : CmpOp} {r' : R2} {g : D2} {cc : Expr} (ho : OpR X (compareOp op) r) (hr : OkR B.G r f) (ho' : OpR X (compareOp op') r') (hr' : OkR B.G r' g) (ha : PE X a (tD B da)) (hb : PE X b (tD B db)) (hc : PE X cc (tD B dc))
    (hm : lastMarks [op, op'] [b, cc] = false := by with_unfolding_all rfl) : PE X (.Compare a [op, op'] [b, cc] pos) (tD B (dChain f g da db dc)) := PE.imp (pe_chain ho ho' ha hb hc hm) (imp_chain hr hr')
theorem t_chain {op op' : CmpOp} {r' : R2} {g : D2} {cc : Expr} (ho : OpR X (compareOp op) r) (hr : OkR B.G r f) (ho' : OpR X (compareOp op') r') (hr' : OkR B.G r' g) (ha : PE X a (tD B da)) (hb : PE X b (tD B db)) (hc : PE X cc (tD B dc))
    (hm : lastMarks [op, op'] [b, cc] = false := by with_unfolding_all rfl) : PT X (.Compare a [op, op'] [b, cc] pos) (tT B (dB (dChain f g da db dc))) := PT.imp (pt_chain ho ho' ha hb hc hm) (imp_B (imp_chain hr hr'))
end

/-! ### and, or, not, if -/
def dtAnd (da db : DT) : DT := fun x ρ k => da x ρ fun b ρ1 => if b = true then db x ρ1 k else k false ρ1
def dtOr (da db : DT) : DT := fun x ρ k => da x ρ fun b ρ1 => if b = true then k true ρ1 else db x ρ1 k
def dtNot (da : DT) : DT := fun x ρ k => da x ρ fun b ρ1 => k (!b) ρ1
def dAnd (da db : DE) : DE := fun x ρ k => da x ρ fun d ρ1 => asB d fun b => if b = true then db x ρ1 k else k (.bl false) ρ1
def dOr (da db : DE) : DE := fun x ρ k => da x ρ fun d ρ1 => asB d fun b => if b = true then k (.bl true) ρ1 else db x ρ1 k
def dNot (da : DE) : DE := fun x ρ k => da x ρ fun d ρ1 => asB d fun b => k (.bl (!b)) ρ1
def dIf (dt : DT) (da db : DE) : DE := fun x ρ k => dt x ρ fun b ρ1 => if b = true then da x ρ1 k else db x ρ1 k
section
variable {X : Cx} {B : Bd} {a b : Expr} {da db : DE} {ta tb : DT} {pos : Pos} {rest : List Expr}
theorem t_and1 (ha : PT X a (tT B ta)) : PW X (.BoolOp .And [a] pos) (tT B ta) := pw_and1 ha
theorem t_or1 (ha : PT X a (tT B ta)) : PW X (.BoolOp .Or [a] pos) (tT B ta) := pw_or1 ha
theorem t_and (ha : PT X a (tT B ta)) (hb : PW X (.BoolOp .And (b :: rest) pos) (tT B tb)) : PW X (.BoolOp .And (a :: b :: rest) pos) (tT B (dtAnd ta tb)) := PW.imp (pw_and ha hb) fun σ H Q ⟨c, ρ, S, k, w, A, h, q⟩ =>
  ⟨c, ρ, S, _, w, A, h, fun b ρ1 S1 H1 A1 s1 h1 => by
    cases b with
    | true =>
      rw [if_pos rfl]
      exact ⟨c, ρ1, S1, _, w, A1, h1, fun b ρ2 S2 H2 A2 s2 h2 => q b ρ2 S2 H2 A2 (s1.trans s2) h2⟩
    | false =>
      rw [if_neg Bool.false_ne_true]
      exact q _ ρ1 S1 H1 A1 s1 h1⟩
theorem t_or (ha : PT X a (tT B ta)) (hb : PW X (.BoolOp .Or (b :: rest) pos) (tT B tb)) : PW X (.BoolOp .Or (a :: b :: rest) pos) (tT B (dtOr ta tb)) := PW.imp (pw_or ha hb) fun σ H Q ⟨c, ρ, S, k, w, A, h, q⟩ =>
  ⟨c, ρ, S, _, w, A, h, fun b ρ1 S1 H1 A1 s1 h1 => by
    cases b with
    | true =>
      rw [if_pos rfl]
      exact q _ ρ1 S1 H1 A1 s1 h1
    | false =>
      rw [if_neg Bool.false_ne_true]
      exact ⟨c, ρ1, S1, _, w, A1, h1, fun b ρ2 S2 H2 A2 s2 h2 => q b ρ2 S2 H2 A2 (s1.trans s2) h2⟩⟩
theorem t_not (ha : PT X a (tT B ta)) : PT X (.UnaryOp .Not a pos) (tT B (dtNot ta)) := PT.imp (pt_not ha) fun σ H Q ⟨c, ρ, S, k, w, A, h, q⟩ =>
  ⟨c, ρ, S, _, w, A, h, fun b ρ1 S1 H1 A1 s1 h1 => q _ ρ1 S1 H1 A1 s1 h1⟩
theorem e_and (ha : PE X a (tD B da)) (hb : PE X (.BoolOp .And (b :: rest) pos) (tD B db)) : PE X (.BoolOp .And (a :: b :: rest) pos) (tD B (dAnd da db)) := PE.imp (pe_and ha hb) fun σ H Q ⟨c, ρ, S, k, w, A, h, q⟩ =>
  ⟨c, ρ, S, _, w, A, h, fun v d ρ1 S1 H1 A1 s1 r1 h1 => by
    cases d with
    | bl b =>
      refine ⟨b, rep_bl r1, ?_⟩
      rw [asB_bl] at h1
      cases b with
      | true =>
        rw [if_pos rfl] at h1 ⊢
        exact ⟨c, ρ1, S1, _, w, A1, h1, fun v d ρ2 S2 H2 A2 s2 r2 h2 => q v d ρ2 S2 H2 A2 (s1.trans s2) r2 h2⟩
      | false =>
        rw [if_neg Bool.false_ne_true] at h1 ⊢
        exact q _ _ ρ1 S1 H1 A1 s1 (.bl false) h1
    | _ => exact h1.elim⟩
theorem e_or (ha : PE X a (tD B da)) (hb : PE X (.BoolOp .Or (b :: rest) pos) (tD B db)) : PE X (.BoolOp .Or (a :: b :: rest) pos) (tD B (dOr da db)) := PE.imp (pe_or ha hb) fun σ H Q ⟨c, ρ, S, k, w, A, h, q⟩ =>
  ⟨c, ρ, S, _, w, A, h, fun v d ρ1 S1 H1 A1 s1 r1 h1 => by
    cases d with
    | bl b =>
      refine ⟨b, rep_bl r1, ?_⟩
      rw [asB_bl] at h1
      cases b with
      | true =>
        rw [if_pos rfl] at h1 ⊢
        exact q _ _ ρ1 S1 H1 A1 s1 (.bl true) h1
      | false =>
        rw [if_neg Bool.false_ne_true] at h1 ⊢
        exact ⟨c, ρ1, S1, _, w, A1, h1, fun v d ρ2 S2 H2 A2 s2 r2 h2 => q v d ρ2 S2 H2 A2 (s1.trans s2) r2 h2⟩
    | _ => exact h1.elim⟩
theorem e_one {op} (h : PE X a (tD B da)) : PE X (.BoolOp op [a] pos) (tD B da) := pe_one h
theorem e_not (ha : PE X a (tD B da)) : PE X (.UnaryOp .Not a pos) (tD B (dNot da)) := PE.imp (pe_not ha) fun σ H Q ⟨c, ρ, S, k, w, A, h, q⟩ =>
  ⟨c, ρ, S, _, w, A, h, fun v d ρ1 S1 H1 A1 s1 r1 h1 => by
    cases d with
    | bl b => exact ⟨b, rep_bl r1, q _ _ ρ1 S1 H1 A1 s1 (.bl _) h1⟩
    | _ => exact h1.elim⟩
theorem e_if {t : Expr} (ht : PT X t (tT B ta)) (ha : PE X a (tD B da)) (hb : PE X b (tD B db)) : PE X (.IfExp t a b pos) (tD B (dIf ta da db)) := PE.imp (pe_ifExp ht ha hb) fun σ H Q ⟨c, ρ, S, k, w, A, h, q⟩ =>
  ⟨c, ρ, S, _, w, A, h, fun b ρ1 S1 H1 A1 s1 h1 => by
    cases b with
    | true =>
      rw [if_pos rfl] at h1 ⊢
      exact ⟨c, ρ1, S1, _, w, A1, h1, fun v d ρ2 S2 H2 A2 s2 r2 h2 => q v d ρ2 S2 H2 A2 (s1.trans s2) r2 h2⟩
    | false =>
      rw [if_neg Bool.false_ne_true] at h1 ⊢
      exact ⟨c, ρ1, S1, _, w, A1, h1, fun v d ρ2 S2 H2 A2 s2 r2 h2 => q v d ρ2 S2 H2 A2 (s1.trans s2) r2 h2⟩⟩
end

/-! ### arguments, displays, calls by values -/
abbrev DF := List D → (D → Prop) → Prop
abbrev DFL := List D → (List D → Prop) → Prop
def lNil : DL := fun _ ρ k => k [] ρ
def lCons (da : DE) (dr : DL) : DL := fun x ρ k => da x ρ fun d ρ1 => dr x ρ1 fun ds ρ2 => k (d :: ds) ρ2
def OkC (G : GC) (r : List V → Hp → VK → Prop) (f : DF) : Prop := ∀ c σ ρ S H F vs ds k Q, AbsF G c σ ρ S H F → Reps G S vs ds → f ds k → (∀ v d S' H', AbsF G c σ ρ S' H' F → Same S S' → Rep G S' v d → k d → Q v H') → r vs H Q
def OkCL (G : GC) (r : List V → Hp → VK → Prop) (f : DFL) : Prop := ∀ c σ ρ S H F vs ds k Q, AbsF G c σ ρ S H F → Reps G S vs ds → f ds k →
  (∀ p vs ds H', AbsF G c σ ρ S H' F → H p = none → H' p = some (.lst vs) → Reps G S vs ds → k ds → Q (.ref p) H') → r vs H Q
def dCB (f : DF) (dl : DL) : DE := fun x ρ k => dl x ρ fun ds ρ1 => f ds fun d => k d ρ1
def oCB (f : DFL) (dl : DL) : DL := fun x ρ k => dl x ρ fun ds ρ1 => f ds fun d => k d ρ1
def dTup (dl : DL) : DE := fun x ρ k => dl x ρ fun ds ρ1 => ds.length ≤ 1000 ∧ k (.tup ds) ρ1
def oLst (dl : DL) : DL := fun x ρ k => dl x ρ fun ds ρ1 => ds.length ≤ 1000 ∧ k ds ρ1
/-- an own new list, let stand at once -/
def dL (dl : DL) : DE := fun x ρ k => dl x ρ fun ds ρ1 => k (.lst ds) ρ1
section
variable {X : Cx} {B : Bd} {a e : Expr} {es : List Expr} {da de : DE} {dl : DL} {pos : Pos} {r : List V → Hp → VK → Prop} {f : DF}
theorem l_nil : PA X [] (tA B lNil) := PA.imp pa_nil fun σ H Q ⟨c, ρ, S, k, w, A, h, q⟩ => q [] [] ρ S H A (Same.refl S) .nil h
theorem l_cons (ha : PE X a (tD B da)) (hr : PA X es (tA B dl)) (hs : starEach (a :: es) X.env = (false, eval a X.env) :: starEach es X.env := by rfl) : PA X (a :: es) (tA B (lCons da dl)) :=
  PA.imp (pa_cons ha hr hs) fun σ H Q ⟨c, ρ, S, k, w, A, h, q⟩ => ⟨c, ρ, S, _, w, A, h, fun v d ρ1 S1 H1 A1 s1 r1 h1 => ⟨c, ρ1, S1, _, w, A1, h1, fun vs ds ρ2 S2 H2 A2 s2 r2 h2 =>
    q _ _ ρ2 S2 H2 A2 (s1.trans s2) (.cons (r1.mono s2) r2) h2⟩⟩
theorem AbsF.laid {c : C} {σ : St} {ρ : Ev} {S H : Hp} {F : Nat → List Addr} (A : AbsF B.G c σ ρ S H F) {p : Addr} {o : HO} (h : H p = none) : Abs B.G c σ ρ (upd S p o) (upd H p o) ∧ Same S (upd S p o) :=
  ⟨⟨F, A.new h⟩, same_upd (A.fresh h).1⟩
theorem e_tup {x1} (h : PA X es (tA B dl)) : PE X (.Tuple es x1 pos) (tD B (dTup dl)) := PE.imp (pe_tup h) fun σ H Q ⟨c, ρ, S, k, w, A, h, q⟩ =>
  ⟨c, ρ, S, _, w, A, h, fun vs ds ρ1 S1 H1 ⟨F1, A1⟩ s1 r1 ⟨hz, h1⟩ => ⟨Nat.le_of_lt (small1000 (by rw [r1.length]; exact hz)), fun p hp => by
    obtain ⟨A2, s2⟩ := A1.laid (o := .tup vs) hp
    exact q _ _ ρ1 _ _ A2 (s1.trans s2) (.tup upd_same (r1.mono s2)) h1⟩⟩
theorem eo_lst (h : PA X es (tA B dl)) : PE X (.List es pos) (tO B (oLst dl)) := PE.imp (pe_lst h) fun σ H Q ⟨c, ρ, S, k, w, A, h, q⟩ =>
  ⟨c, ρ, S, _, w, A, h, fun vs ds ρ1 S1 H1 ⟨F1, A1⟩ s1 r1 ⟨hz, h1⟩ => ⟨Nat.le_of_lt (small1000 (by rw [r1.length]; exact hz)), fun p hp => by
    obtain ⟨z1, z2, z3⟩ := A1.fresh hp
    exact q p vs ds ρ1 S1 _ F1 (A1.newO hp) s1 z3 z1 z2 upd_same r1 h1⟩⟩
/-- own, let stand -/
theorem imp_L : ∀ σ H Q, tD B (dL dl) σ H Q → tO B dl σ H Q := fun σ H Q ⟨c, ρ, S, k, w, A, h, q⟩ =>
  ⟨c, ρ, S, _, w, A, h, fun p vs ds ρ1 S1 H1 F1 A1 s1 hF hS hc hp r1 h1 => by
    have ss : Same S1 (upd S1 p (.lst vs)) := same_upd hS
    exact q _ _ ρ1 _ H1 ⟨F1, A1.freeze hS (.inr hc) hF hp⟩ (s1.trans ss) (.lst upd_same (r1.mono ss)) h1⟩
theorem e_L (h : PE X e (tO B dl)) : PE X e (tD B (dL dl)) := PE.imp h imp_L
theorem imp_CB (hr : OkC B.G r f) : ∀ σ H Q, tD B (dCB f dl) σ H Q → tCB r (tA B dl) σ H Q := fun σ H Q ⟨c, ρ, S, k, w, A, h, q⟩ =>
  ⟨c, ρ, S, _, w, A, h, fun vs ds ρ1 S1 H1 ⟨F1, A1⟩ s1 r1 h1 => hr c σ ρ1 S1 H1 F1 vs ds _ _ A1 r1 h1 fun v d S2 H2 A2 s2 r2 h2 => q v d ρ1 S2 H2 ⟨F1, A2⟩ (s1.trans s2) r2 h2⟩
theorem imp_CBL {f : DFL} (hr : OkCL B.G r f) : ∀ σ H Q, tO B (oCB f dl) σ H Q → tCB r (tA B dl) σ H Q := fun σ H Q ⟨c, ρ, S, k, w, A, h, q⟩ =>
  ⟨c, ρ, S, _, w, A, h, fun vs ds ρ1 S1 H1 ⟨F1, A1⟩ s1 r1 h1 => hr c σ ρ1 S1 H1 F1 vs ds _ _ A1 r1 h1 fun p vs ds H2 A2 hp e2 r2 h2 =>
    let ⟨z1, z2, z3⟩ := A1.fresh hp
    q p vs ds ρ1 S1 H2 F1 A2 s1 z3 z1 z2 e2 r2 h2⟩
theorem e_callB {x : Str} {id : String} {p : Pos} (hc : CallR X (.builtin id) r) (hr : OkC B.G r f) (hg : Gl X x) (hm : X.mg x = none) (hv : bootBuiltins x = some (.builtin id)) (ha : PA X (e :: es) (tA B dl)) (hn : x ≠ "__name__" := by decide) (hdb : (x == ("__debug__" : Str)) = false := by decide)
    (he : starEach (e :: es) X.env = (false, eval e X.env) :: starEach es X.env := by rfl) (hpl : (backTo pos (starEach es X.env)).any (·.1) = false := by rfl) : PE X (.Call (.Name x p) (e :: es) [] pos) (tD B (dCB f dl)) := PE.imp (pe_callB hc hg hm hv ha hn hdb he hpl) (imp_CB hr)
end
end Y
namespace Y
open PySem PySem.Spec PyProof.Rows L2

/-! ### statements -/
structure DEnds where
  nx : Ev → Prop
  rt : D → Ev → Prop
  bk : Ev → Prop
  ct : Ev → Prop
abbrev DS := DEnds → KX → Ev → Prop
structure Links (B : Bd) (c : C) (S : Hp) (D : Ends) (de : DEnds) : Prop where
  nx : ∀ σ' ρ' S' H', Abs B.G c σ' ρ' S' H' → Same S S' → de.nx ρ' → D.nx σ' H'
  rt : ∀ v d σ' ρ' S' H', Abs B.G c σ' ρ' S' H' → Same S S' → Rep B.G S' v d → de.rt d ρ' → D.rt v H'
  bk : ∀ σ' ρ' S' H', Abs B.G c σ' ρ' S' H' → Same S S' → de.bk ρ' → D.bk σ' H'
  ct : ∀ σ' ρ' S' H', Abs B.G c σ' ρ' S' H' → Same S S' → de.ct ρ' → D.ct σ' H'
theorem Links.at {B : Bd} {c : C} {S S1 : Hp} {D : Ends} {de : DEnds} (l : Links B c S D de) (e : Same S S1) : Links B c S1 D de :=
  ⟨fun σ ρ S' H A s h => l.nx σ ρ S' H A (e.trans s) h, fun v d σ ρ S' H A s r h => l.rt v d σ ρ S' H A (e.trans s) r h, fun σ ρ S' H A s h => l.bk σ ρ S' H A (e.trans s) h, fun σ ρ S' H A s h => l.ct σ ρ S' H A (e.trans s) h⟩
def tS (B : Bd) (ds : DS) : TS := fun D σ H => ∃ c ρ S de, Wish B c ∧ Abs B.G c σ ρ S H ∧ ds de c.x ρ ∧ Links B c S D de
/-- an expression's, a test's, an own list's word, used -/
theorem tD_use {B : Bd} {de : DE} {c : C} {σ : St} {ρ : Ev} {S H : Hp} {k : D → Ev → Prop} {Q : VK} (w : Wish B c) (A : Abs B.G c σ ρ S H) (h : de c.x ρ k)
    (q : ∀ v d ρ' S' H', Abs B.G c σ ρ' S' H' → Same S S' → Rep B.G S' v d → k d ρ' → Q v H') : tD B de σ H Q := ⟨c, ρ, S, k, w, A, h, q⟩
section
variable {X : Cx} {B : Bd} {st : Stmt} {rest : List Stmt} {e : Expr} {de : DE} {d1 d2 : DS} {pos : Pos} {dl : DL}
theorem PS.imp {t t' : TS} (h : PS X st t) (i : ∀ D σ H, t' D σ H → t D σ H) : PS X st t' := ⟨fun pins s σ H D I q => h.run pins s σ H D I (i _ _ _ q)⟩
theorem PSs.imp {t t' : TS} (h : PSs X rest t) (i : ∀ D σ H, t' D σ H → t D σ H) : PSs X rest t' := ⟨fun pins s σ H D I q => h.run pins s σ H D I (i _ _ _ q)⟩
def dNext : DS := fun D _ ρ => D.nx ρ
def dSeq (d1 d2 : DS) : DS := fun D x ρ => d1 { D with nx := fun ρ1 => d2 D x ρ1 } x ρ
theorem ss_nil : PSs X [] (tS B dNext) := PSs.imp pss_nil fun D σ H ⟨c, ρ, S, E, w, A, h, l⟩ => l.nx σ ρ S H A (Same.refl S) h
theorem ss_cons (h1 : PS X st (tS B d1)) (h2 : PSs X rest (tS B d2)) : PSs X (st :: rest) (tS B (dSeq d1 d2)) := PSs.imp (pss_cons h1 h2) fun D σ H ⟨c, ρ, S, E, w, A, h, l⟩ =>
  ⟨c, ρ, S, _, w, A, h, ⟨fun σ1 ρ1 S1 H1 A1 s1 h1 => ⟨c, ρ1, S1, E, w, A1, h1, l.at s1⟩, l.rt, l.bk, l.ct⟩⟩
theorem ss_one (h1 : PS X st (tS B d1)) : PSs X [st] (tS B d1) := pss_one h1
def dPass : DS := fun D _ ρ => D.nx ρ
def dBreak : DS := fun D _ ρ => D.bk ρ
def dCont : DS := fun D _ ρ => D.ct ρ
theorem s_pass : PS X (.Pass pos) (tS B dPass) := PS.imp ps_pass fun D σ H ⟨c, ρ, S, E, w, A, h, l⟩ => l.nx σ ρ S H A (Same.refl S) h
theorem s_break : PS X (.Break pos) (tS B dBreak) := PS.imp ps_break fun D σ H ⟨c, ρ, S, E, w, A, h, l⟩ => l.bk σ ρ S H A (Same.refl S) h
theorem s_cont : PS X (.Continue pos) (tS B dCont) := PS.imp ps_continue fun D σ H ⟨c, ρ, S, E, w, A, h, l⟩ => l.ct σ ρ S H A (Same.refl S) h
/-- never reached -/
def dNever : DS := fun _ _ _ => False
theorem s_never : PS X st (tS B dNever) := PS.imp ps_never fun D σ H ⟨c, ρ, S, E, w, A, h, l⟩ => h
theorem ss_never : PSs X rest (tS B dNever) := PSs.imp pss_never fun D σ H ⟨c, ρ, S, E, w, A, h, l⟩ => h
def dDrop (de : DE) : DS := fun D x ρ => de x ρ fun _ ρ1 => D.nx ρ1
theorem s_expr (he : PE X e (tD B de)) (hs : swapsWith e none pos.line X.env = pure false := by rfl) : PS X (.Expr e pos) (tS B (dDrop de)) := PS.imp (ps_expr he hs) fun D σ H ⟨c, ρ, S, E, w, A, h, l⟩ =>
  tD_use w A h fun v d ρ1 S1 H1 A1 s1 r1 h1 => l.nx σ ρ1 S1 H1 A1 s1 h1
def dRet (de : DE) : DS := fun D x ρ => de x ρ D.rt
theorem s_ret (he : PE X e (tD B de)) : PS X (.Return (some e) pos) (tS B (dRet de)) := PS.imp (ps_ret he) fun D σ H ⟨c, ρ, S, E, w, A, h, l⟩ =>
  tD_use w A h fun v d ρ1 S1 H1 A1 s1 r1 h1 => l.rt v d σ ρ1 S1 H1 A1 s1 r1 h1
def dRetN : DS := fun D _ ρ => D.rt .non ρ
theorem s_retN : PS X (.Return none pos) (tS B dRetN) := PS.imp ps_retN fun D σ H ⟨c, ρ, S, E, w, A, h, l⟩ => l.rt .non .non σ ρ S H A (Same.refl S) .non h
def dIfS (dt : DT) (d1 d2 : DS) : DS := fun D x ρ => dt x ρ fun b ρ1 => if b = true then d1 D x ρ1 else d2 D x ρ1
theorem s_if {t : Expr} {a b : List Stmt} {dt : DT} (ht : PT X t (tT B dt)) (ha : PSs X a (tS B d1)) (hb : PSs X b (tS B d2)) : PS X (.If t a b pos) (tS B (dIfS dt d1 d2)) := PS.imp (ps_if ht ha hb) fun D σ H ⟨c, ρ, S, E, w, A, h, l⟩ =>
  ⟨c, ρ, S, _, w, A, h, fun b ρ1 S1 H1 A1 s1 h1 => by
    cases b with
    | true =>
      rw [if_pos rfl] at h1 ⊢
      exact ⟨c, ρ1, S1, E, w, A1, h1, l.at s1⟩
    | false =>
      rw [if_neg Bool.false_ne_true] at h1 ⊢
      exact ⟨c, ρ1, S1, E, w, A1, h1, l.at s1⟩⟩

/-! ### targets -/
abbrev DG := D → Ev → (Ev → Prop) → Prop
abbrev DGs := List D → Ev → (Ev → Prop) → Prop
def tG (B : Bd) (g : DG) : TG := fun v σ H Q => ∃ c ρ S d k, Wish B c ∧ Abs B.G c σ ρ S H ∧ Rep B.G S v d ∧ g d ρ k ∧ ∀ σ' ρ' S' H', Abs B.G c σ' ρ' S' H' → Same S S' → k ρ' → Q σ' H'
def tGs (B : Bd) (g : DGs) : TGs := fun v σ H Q => ∃ c ρ S d k, Wish B c ∧ Abs B.G c σ ρ S H ∧ Reps B.G S v d ∧ g d ρ k ∧ ∀ σ' ρ' S' H', Abs B.G c σ' ρ' S' H' → Same S S' → k ρ' → Q σ' H'
theorem PG.imp {tg : Expr} {t t' : TG} (h : PG X tg t) (i : ∀ v σ H Q, t' v σ H Q → t v σ H Q) : PG X tg t' := ⟨fun pins s σ H v u Q I r q => h.run pins s σ H v u Q I r (i _ _ _ _ q)⟩
theorem PGs.imp {tg : List Expr} {t t' : TGs} (h : PGs X tg t) (i : ∀ v σ H Q, t' v σ H Q → t v σ H Q) : PGs X tg t' := ⟨fun pins s σ H v u Q I r q => h.run pins s σ H v u Q I r (i _ _ _ _ q)⟩
def dgName (i : Nat) : DG := fun d ρ k => k (ρ.set i (.d d))
theorem g_name (i : Nat) {x : Str} (hN : X.N.Nodup) (hi : X.N[i]? = some x := by rfl) (hx : Loc X.env.scope x := by first | exact .inl rfl | exact .inr rfl) (hf : X.fn x = true ∨ X.env.scope.names.lookup x = some .local := by first | exact .inl rfl | exact .inr rfl | assumption)
    (hp : i ∉ B.pn := by (dsimp only; decide)) : PG X (.Name x pos) (tG B (dgName i)) := PG.imp (pg_name hN hi hx hf) fun v σ H Q ⟨c, ρ, S, d, k, w, ⟨F, A⟩, r, h, q⟩ =>
  q _ _ S H (A.setD r (.inl (by rw [w.pn]; exact hp))) (Same.refl S) h
def dgNil : DGs := fun ds ρ k => ds = [] ∧ k ρ
def dgCons (g : DG) (gs : DGs) : DGs := fun ds ρ k => match ds with
  | d :: r => g d ρ fun ρ1 => gs r ρ1 k
  | [] => False
theorem gs_nil : PGs X [] (tGs B dgNil) := PGs.imp pgs_nil fun v σ H Q ⟨c, ρ, S, d, k, w, A, r, ⟨e, h⟩, q⟩ => by
  subst e
  cases r
  exact ⟨rfl, q _ _ S H A (Same.refl S) h⟩
theorem gs_cons {es : List Expr} {g : DG} {gs : DGs} (h1 : PG X e (tG B g)) (h2 : PGs X es (tGs B gs)) (hs : (assignEach (e :: es) X.env).map (·.2) = assign e X.env :: (assignEach es X.env).map (·.2) := by rfl) : PGs X (e :: es) (tGs B (dgCons g gs)) :=
  PGs.imp (pgs_cons h1 h2 hs) fun v σ H Q ⟨c, ρ, S, d, k, w, A, r, h, q⟩ => by
    cases r with
    | nil => exact h.elim
    | cons r rr => exact ⟨_, _, rfl, c, ρ, S, _, _, w, A, r, h, fun σ1 ρ1 S1 H1 A1 s1 h1 => ⟨c, ρ1, S1, _, _, w, A1, rr.mono s1, h1, fun σ2 ρ2 S2 H2 A2 s2 h2 => q _ _ S2 H2 A2 (s1.trans s2) h2⟩⟩
def dgTup (n : Nat) (gs : DGs) : DG := fun d ρ k => match d with
  | .tup ds => ds.length = n ∧ gs ds ρ k
  | _ => False
theorem g_tup {es : List Expr} {kk : Nat} {gs : DGs} (n : Nat) (hc : X.calm = true) (h : PGs X es (tGs B gs)) (hn : (assignEach es X.env).length = n := by rfl) (hst : (assignEach es X.env).findIdx? (·.1) = none := by rfl) :
    PG X (.Tuple es kk pos) (tG B (dgTup n gs)) := PG.imp (pg_tup hc h hn hst) fun v σ H Q ⟨c, ρ, S, d, k, w, ⟨F, A⟩, r, h, q⟩ => by
  cases r with
  | tup e r => exact ⟨_, _, rfl, .inl (.inl (A.fr.sh _ _ e)), r.length.trans h.1, c, ρ, S, _, k, w, ⟨F, A⟩, r, h.2, q⟩
  | _ => exact h.elim
/-- target = e -/
def dAsg (de : DE) (g : DG) : DS := fun D x ρ => de x ρ fun d ρ1 => g d ρ1 D.nx
theorem imp_asg {g : DG} : ∀ D σ H, tS B (dAsg de g) D σ H → tAsg (tD B de) (tG B g) D σ H := fun D σ H ⟨c, ρ, S, E, w, A, h, l⟩ =>
  tD_use w A h fun v d ρ1 S1 H1 A1 s1 r1 h1 => ⟨c, ρ1, S1, d, _, w, A1, r1, h1, fun σ2 ρ2 S2 H2 A2 s2 h2 => l.nx σ2 ρ2 S2 H2 A2 (s1.trans s2) h2⟩
theorem s_asg {tg : Expr} {g : DG} (he : PE X e (tD B de)) (hg : PG X tg (tG B g)) (hs : swapsWithSole [tg] e pos.line X.env = pure false := by rfl) (hw : swappedStores [tg] e X.env = pure none := by rfl)
    (h1 : (assignEach [tg] X.env).map (·.2) = [assign tg X.env] := by rfl) : PS X (.Assign [tg] e pos) (tS B (dAsg de g)) := PS.imp (ps_asg he hg hs hw h1) imp_asg
/-- name = e -/
def dSet (i : Nat) (de : DE) : DS := fun D x ρ => de x ρ fun d ρ1 => D.nx (ρ1.set i (.d d))
theorem imp_set {i : Nat} {te : TE} (hp : i ∉ B.pn) (hi : ∀ σ H Q, tD B de σ H Q → te σ H Q) : ∀ D σ H, tS B (dSet i de) D σ H → tAsg te (gName i) D σ H := fun D σ H ⟨c, ρ, S, E, w, A, h, l⟩ =>
  hi _ _ _ (tD_use w A h fun v d ρ1 S1 H1 ⟨F1, A1⟩ s1 r1 h1 => l.nx _ _ S1 H1 (A1.setD r1 (.inl (by rw [w.pn]; exact hp))) s1 h1)
theorem s_set (i : Nat) {x : Str} {pos' : Pos} (hN : X.N.Nodup) (he : PE X e (tD B de)) (hi : X.N[i]? = some x := by rfl) (hx : Loc X.env.scope x := by first | exact .inl rfl | exact .inr rfl) (hs : swapsWith e (some (.Name x pos')) pos.line X.env = pure false := by rfl)
    (hf : X.fn x = true ∨ X.env.scope.names.lookup x = some .local := by first | exact .inl rfl | exact .inr rfl | assumption) (hp : i ∉ B.pn := by (dsimp only; decide)) : PS X (.Assign [.Name x pos'] e pos) (tS B (dSet i de)) := PS.imp (ps_set hN hi hx he hs hf) (imp_set hp fun _ _ _ z => z)
/-- name = a new own list -/
def dSetO (i : Nat) (dl : DL) : DS := fun D x ρ => dl x ρ fun ds ρ1 => D.nx (ρ1.set i (.own ds))
theorem AbsF.setO {G : GC} {c : C} {σ : St} {ρ : Ev} {S H : Hp} {F : Nat → List Addr} (A : AbsF G c σ ρ S H F) {i : Nat} {p : Addr} {vs : List V} {ds : List D} (hF : ∀ i, p ∉ F i) (hS : S p = none) (hc : c.H0 p = none) (hp : H p = some (.lst vs)) (r : Reps G S vs ds) (hn : i ∉ c.pn) :
    Abs G c (σ.set i (some (.ref p))) (ρ.set i (.own ds)) S H := ⟨_, A.set (v := some (.ref p)) (s := .own ds) (f := [p]) ⟨rfl, ⟨hS, .inr hc⟩, vs, hp, r⟩ (fun j a _ ha => by rw [List.mem_singleton] at ha; subst ha; exact hF j) (.inl hn)⟩
theorem imp_setO {i : Nat} {te : TE} (hp : i ∉ B.pn) (hi : ∀ σ H Q, tO B dl σ H Q → te σ H Q) : ∀ D σ H, tS B (dSetO i dl) D σ H → tAsg te (gName i) D σ H := fun D σ H ⟨c, ρ, S, E, w, A, h, l⟩ =>
  hi _ _ _ ⟨c, ρ, S, _, w, A, h, fun p vs ds ρ1 S1 H1 F1 A1 s1 hF hS hc hH r1 h1 => l.nx _ _ S1 H1 (A1.setO hF hS hc hH r1 (by rw [w.pn]; exact hp)) s1 h1⟩
theorem s_setO (i : Nat) {x : Str} {pos' : Pos} (hN : X.N.Nodup) (he : PE X e (tO B dl)) (hi : X.N[i]? = some x := by rfl) (hx : Loc X.env.scope x := by first | exact .inl rfl | exact .inr rfl) (hs : swapsWith e (some (.Name x pos')) pos.line X.env = pure false := by rfl)
    (hf : X.fn x = true ∨ X.env.scope.names.lookup x = some .local := by first | exact .inl rfl | exact .inr rfl | assumption) (hp : i ∉ B.pn := by (dsimp only; decide)) : PS X (.Assign [.Name x pos'] e pos) (tS B (dSetO i dl)) := PS.imp (ps_set hN hi hx he hs hf) (imp_setO hp fun _ _ _ z => z)
/-- a, b = x, y -/
def dPar (i j : Nat) (dl : DL) : DS := fun D x ρ => dl x ρ fun ds ρ1 => match ds with
  | [a, b] => D.nx ((ρ1.set i (.d a)).set j (.d b))
  | _ => False
theorem s_par (i j : Nat) {x y : Str} {a b : Expr} {px py pt : Pos} {kt k2 pt2} (hc : X.calm = true) (hN : X.N.Nodup) (ha : PA X [a, b] (tA B dl)) (hi : X.N[i]? = some x := by rfl) (hj : X.N[j]? = some y := by rfl) (hij : i ≠ j := by decide)
    (hx : X.env.scope.names.lookup x = some .local := by rfl) (hy : X.env.scope.names.lookup y = some .local := by rfl)
    (hw : swappedStores [.Tuple [.Name x px, .Name y py] kt pt] (.Tuple [a, b] k2 pt2) X.env = pure (some [x, y]) := by rfl) (hs : swapsWithSole [.Tuple [.Name x px, .Name y py] kt pt] (.Tuple [a, b] k2 pt2) pos.line X.env = pure false := by rfl)
    (hp : i ∉ B.pn := by (dsimp only; decide)) (hp2 : j ∉ B.pn := by (dsimp only; decide)) : PS X (.Assign [.Tuple [.Name x px, .Name y py] kt pt] (.Tuple [a, b] k2 pt2) pos) (tS B (dPar i j dl)) :=
  PS.imp (ps_par hc hN hi hj hij hx hy ha hw hs) fun D σ H ⟨c, ρ, S, E, w, A, h, l⟩ => ⟨c, ρ, S, _, w, A, h, fun vs ds ρ1 S1 H1 ⟨F1, A1⟩ s1 r1 h1 => by
    cases r1 with
    | nil => exact h1.elim
    | cons r1 rr =>
      cases rr with
      | nil => exact h1.elim
      | cons r2 rr =>
        cases rr with
        | cons _ _ => exact h1.elim
        | nil =>
          obtain ⟨F2, A2⟩ := A1.setD (i := i) r1 (.inl (by rw [w.pn]; exact hp))
          exact ⟨_, _, rfl, l.nx _ _ S1 H1 (A2.setD (i := j) r2 (.inl (by rw [w.pn]; exact hp2))) s1 h1⟩⟩
/-- name op= e -/
def dAug (f : D2) (i : Nat) (de : DE) : DS := fun D x ρ => match ρ[i]? with
  | some (.d d0) => de x ρ fun d ρ1 => f d0 d fun z => D.nx (ρ1.set i (.d z))
  | _ => False
theorem s_aug (i : Nat) {x : Str} {op : Operator} {r : R2} {f : D2} {pos' : Pos} (hN : X.N.Nodup) (ho : OpR X (inplaceOp op) r) (hr : OkR B.G r f) (he : PE X e (tD B de)) (hi : X.N[i]? = some x := by rfl) (hx : Loc X.env.scope x := by first | exact .inl rfl | exact .inr rfl)
    (hf : X.fn x = true ∨ X.env.scope.names.lookup x = some .local := by first | exact .inl rfl | exact .inr rfl | assumption) (hp : i ∉ B.pn := by (dsimp only; decide)) : PS X (.AugAssign (.Name x pos') op e pos) (tS B (dAug f i de)) :=
  PS.imp (ps_aug (ti := fun x y H Q => r x y H Q) hN hi hx he (fun pins s σ H x y v u Q I rx ry h => ho pins s σ H x y v u Q I rx ry h) hf) fun D σ H ⟨c, ρ, S, E, w, ⟨F, A⟩, h, l⟩ => by
    unfold dAug at h
    split at h
    · rename_i d0 e0
      obtain ⟨v0, e1, r0⟩ := A.d_get e0
      exact ⟨v0, e1, tD_use w ⟨F, A⟩ h fun v d ρ1 S1 H1 ⟨F1, A1⟩ s1 r1 h1 => hr c σ ρ1 S1 H1 F1 v0 v d0 d _ _ A1 (r0.mono s1) r1 h1 fun z dz S2 H2 A2 s2 r2 h2 => l.nx _ _ S2 H2 (A2.setD r2 (.inl (by rw [w.pn]; exact hp))) (s1.trans s2) h2⟩
    · exact h.elim
end

/-! ### while -/
/-- n turns at most -/
def dWhileN (dt : DT) (db : DS) (D : DEnds) (x : KX) : Nat → Ev → Prop
  | 0, _ => False
  | n + 1, ρ => dt x ρ fun b ρ1 => if b = true then db { D with nx := dWhileN dt db D x n, ct := dWhileN dt db D x n, bk := D.nx } x ρ1 else D.nx ρ1
def dWhile (dt : DT) (db : DS) : DS := fun D x ρ => ∃ n, dWhileN dt db D x n ρ
section
variable {X : Cx} {B : Bd} {pos : Pos}
theorem s_while {t : Expr} {body : List Stmt} {dt : DT} {db : DS} (hp : PassesOwn (model X.prog X.w) X.A X.env X.xe) (ht : PT X t (tT B dt)) (hb : PSs X body (tS B db)) : PS X (.While t body [] pos) (tS B (dWhile dt db)) :=
  PS.imp (ps_while hp ht hb) fun D σ H ⟨c, ρ, S, E, w, A, ⟨n, h⟩, l⟩ => by
    refine ⟨fun m σ1 H1 => ∃ ρ1 S1, Abs B.G c σ1 ρ1 S1 H1 ∧ Same S S1 ∧ dWhileN dt db E c.x m ρ1, ⟨n, ρ, S, A, Same.refl S, h⟩, ?_⟩
    rintro m σ1 H1 ⟨ρ1, S1, A1, s1, h1⟩
    cases m with
    | zero => exact h1.elim
    | succ m =>
      refine ⟨c, ρ1, S1, _, w, A1, h1, fun b ρ2 S2 H2 A2 s2 h2 => ?_⟩
      cases b with
      | true =>
        rw [if_pos rfl] at h2 ⊢
        refine ⟨fun σ3 H3 => ∃ ρ3 S3, Abs B.G c σ3 ρ3 S3 H3 ∧ Same S S3 ∧ dWhileN dt db E c.x m ρ3, fun σ3 H3 q => ⟨m, by omega, q⟩, c, ρ2, S2, _, w, A2, h2, ?_⟩
        have s12 := s1.trans s2
        exact ⟨fun σ3 ρ3 S3 H3 A3 s3 h3 => ⟨ρ3, S3, A3, s12.trans s3, h3⟩, fun v d σ3 ρ3 S3 H3 A3 s3 r3 h3 => l.rt v d σ3 ρ3 S3 H3 A3 (s12.trans s3) r3 h3,
          fun σ3 ρ3 S3 H3 A3 s3 h3 => l.nx σ3 ρ3 S3 H3 A3 (s12.trans s3) h3, fun σ3 ρ3 S3 H3 A3 s3 h3 => ⟨ρ3, S3, A3, s12.trans s3, h3⟩⟩
      | false =>
        rw [if_neg Bool.false_ne_true] at h2 ⊢
        exact l.nx σ1 ρ2 S2 H2 A2 (s1.trans s2) h2
end

/-! ### what is walked -/
structure Walks (G : GC) (J : It) (ds : List D) (S : Hp) : Prop where
  go : ∀ (i : Nat) S' H, Same S S' → Same S' H → i < ds.length → J.go i H
  stop : ∀ S' H, Same S S' → Same S' H → J.stop ds.length H
  yld : ∀ c σ ρ S' H F (i : Nat) x H' d, AbsF G c σ ρ S' H F → Same S S' → ds[i]? = some d → J.yld i H x H' → ∃ S'', AbsF G c σ ρ S'' H' F ∧ Same S' S'' ∧ Rep G S'' x d ∧ (∀ a, H a ≠ none → H' a = H a ∧ S'' a = S' a)
def tI (B : Bd) (di : DL) : TI := fun σ H R => ∃ c ρ S k, Wish B c ∧ Abs B.G c σ ρ S H ∧ di c.x ρ k ∧ ∀ J ds ρ' S' H', Abs B.G c σ ρ' S' H' → Same S S' → Walks B.G J ds S' → k ds ρ' → R J H'
theorem walks_list {G : GC} {a : Addr} {vs : List V} {ds : List D} {S : Hp} (h : S a = some (.lst vs)) (r : Reps G S vs ds) : Walks G (Itl G.K a) ds S := by
  refine ⟨fun i S' H s1 s2 hi => ?_, fun S' H s1 s2 => ?_, fun c σ ρ S' H F i x H' d A s hd y => ?_⟩
  · have hl : i < vs.length := by rw [r.length]; exact hi
    exact ⟨vs, vs[i], .inl (.inl (s2 _ _ (s1 _ _ h))), List.getElem?_eq_getElem hl⟩
  · exact ⟨vs, .inl (.inl (s2 _ _ (s1 _ _ h))), Nat.le_of_eq r.length⟩
  · obtain ⟨e, y⟩ := y
    subst e
    have hx := y vs (.inl (.inl (A.fr.sh _ _ (s _ _ h))))
    obtain ⟨v, hv, rv⟩ := r.get hd
    rw [hx] at hv
    cases hv
    exact ⟨S', A, Same.refl _, rv.mono s, fun _ _ => ⟨rfl, rfl⟩⟩
theorem walks_tup {G : GC} {a : Addr} {vs : List V} {ds : List D} {S : Hp} (h : S a = some (.tup vs)) (r : Reps G S vs ds) : Walks G (Itt G.K a) ds S := by
  refine ⟨fun i S' H s1 s2 hi => ?_, fun S' H s1 s2 => ?_, fun c σ ρ S' H F i x H' d A s hd y => ?_⟩
  · have hl : i < vs.length := by rw [r.length]; exact hi
    exact ⟨vs, vs[i], .inl (.inl (s2 _ _ (s1 _ _ h))), List.getElem?_eq_getElem hl⟩
  · exact ⟨vs, .inl (.inl (s2 _ _ (s1 _ _ h))), Nat.le_of_eq r.length⟩
  · obtain ⟨e, y⟩ := y
    subst e
    have hx := y vs (.inl (.inl (A.fr.sh _ _ (s _ _ h))))
    obtain ⟨v, hv, rv⟩ := r.get hd
    rw [hx] at hv
    cases hv
    exact ⟨S', A, Same.refl _, rv.mono s, fun _ _ => ⟨rfl, rfl⟩⟩
def rng (lo : Int) (n : Nat) : List D := (List.range n).map fun (i : Nat) => D.int (lo + (i : Int))
theorem rng_length (lo : Int) (n : Nat) : (rng lo n).length = n := by unfold rng; rw [List.length_map, List.length_range]
theorem walks_rng {G : GC} {lo : Int} {n : Nat} {S : Hp} : Walks G (Itr lo n) (rng lo n) S := by
  refine ⟨fun i S' H s1 s2 hi => ?_, fun S' H s1 s2 => ?_, fun c σ ρ S' H F i x H' d A s hd y => ?_⟩
  · rw [rng_length] at hi; exact hi
  · show n ≤ _; rw [rng_length]; exact Nat.le_refl _
  · obtain ⟨e, y⟩ := y
    subst e y
    have hi := (List.getElem?_eq_some_iff.mp hd).1
    rw [rng_length] at hi
    unfold rng at hd
    rw [List.getElem?_map, List.getElem?_range hi] at hd
    cases hd
    exact ⟨S', A, Same.refl _, .int _, fun _ _ => ⟨rfl, rfl⟩⟩
section
variable {X : Cx} {B : Bd} {tg e : Expr} {de : DE} {dl : DL} {p pos : Pos}
theorem PI.imp {t t' : TI} (h : PI X tg e t) (i : ∀ σ H R, t' σ H R → t σ H R) : PI X tg e t' := ⟨fun pins s σ H R I q => h.run pins s σ H R I (i _ _ _ q)⟩
/-- over a list, a tuple -/
def iL (de : DE) : DL := fun x ρ k => de x ρ fun d ρ1 => match d with
  | .lst ds => k ds ρ1
  | _ => False
def iT (de : DE) : DL := fun x ρ k => de x ρ fun d ρ1 => match d with
  | .tup ds => k ds ρ1
  | _ => False
theorem i_list (hK : X.K = B.G.K) (h : PE X e (tD B de)) : PI X tg e (tI B (iL de)) := PI.imp (pi_list h) fun σ H R ⟨c, ρ, S, k, w, A, h, q⟩ =>
  tD_use w A h fun v d ρ1 S1 H1 A1 s1 r1 h1 => by
    cases r1 with
    | lst e r =>
      obtain ⟨F1, A1⟩ := A1
      rw [hK]
      exact ⟨_, rfl, ⟨_, .inl (.inl (A1.fr.sh _ _ e))⟩, q _ _ ρ1 S1 H1 ⟨F1, A1⟩ s1 (walks_list e r) h1⟩
    | _ => exact h1.elim
theorem i_tup (hK : X.K = B.G.K) (h : PE X e (tD B de)) : PI X tg e (tI B (iT de)) := PI.imp (pi_tup h) fun σ H R ⟨c, ρ, S, k, w, A, h, q⟩ =>
  tD_use w A h fun v d ρ1 S1 H1 A1 s1 r1 h1 => by
    cases r1 with
    | tup e r =>
      obtain ⟨F1, A1⟩ := A1
      rw [hK]
      exact ⟨_, rfl, ⟨_, .inl (.inl (A1.fr.sh _ _ e))⟩, q _ _ ρ1 S1 H1 ⟨F1, A1⟩ s1 (walks_tup e r) h1⟩
    | _ => exact h1.elim
def inB (i : Int) : Prop := -(2 ^ 62) ≤ i ∧ i < 2 ^ 62
/-- range(b), range(a, b) -/
def iR1 (dl : DL) : DL := fun x ρ k => dl x ρ fun ds ρ1 => match ds with
  | [.int n] => inB n ∧ k (rng 0 n.toNat) ρ1
  | _ => False
def iR2 (dl : DL) : DL := fun x ρ k => dl x ρ fun ds ρ1 => match ds with
  | [.int a, .int n] => inB a ∧ inB n ∧ k (rng a (n - a).toNat) ρ1
  | _ => False
theorem rep_int {G : GC} {S : Hp} {v : V} {i : Int} (h : Rep G S v (.int i)) : v = .int i := by cases h; rfl
theorem i_rng1 {a : Expr} (hm : X.mg "range" = none) (ha : PA X [a] (tA B dl)) (hg : Gl X "range" := by rfl) (hs : starEach [a] X.env = [(false, eval a X.env)] := by rfl) : PI X tg (.Call (.Name "range" p) [a] [] pos) (tI B (iR1 dl)) := PI.imp (pi_range1 hg hm ha hs) fun σ H R ⟨c, ρ, S, k, w, A, h, q⟩ =>
  ⟨c, ρ, S, _, w, A, h, fun vs ds ρ1 S1 H1 A1 s1 r1 h1 => by
    split at h1
    · cases r1 with
      | cons ra rr =>
        cases rr
        rw [rep_int ra]
        exact ⟨_, rfl, h1.1.1, h1.1.2, q _ _ ρ1 S1 H1 A1 s1 walks_rng h1.2⟩
    · exact h1.elim⟩
theorem i_rng2 {a b : Expr} (hm : X.mg "range" = none) (ha : PA X [a, b] (tA B dl)) (hg : Gl X "range" := by rfl) (hs : starEach [a, b] X.env = [(false, eval a X.env), (false, eval b X.env)] := by rfl) (hs2 : starEach [b] X.env = [(false, eval b X.env)] := by rfl) :
    PI X tg (.Call (.Name "range" p) [a, b] [] pos) (tI B (iR2 dl)) := PI.imp (pi_range2 hg hm ha hs hs2) fun σ H R ⟨c, ρ, S, k, w, A, h, q⟩ =>
  ⟨c, ρ, S, _, w, A, h, fun vs ds ρ1 S1 H1 A1 s1 r1 h1 => by
    split at h1
    · cases r1 with
      | cons ra rr =>
        cases rr with
        | cons rb rr =>
          cases rr
          rw [rep_int ra, rep_int rb]
          exact ⟨_, _, rfl, ⟨h1.1.1, h1.1.2, h1.2.1.1, h1.2.1.2⟩, q _ _ ρ1 S1 H1 A1 s1 walks_rng h1.2.2⟩
    · exact h1.elim⟩

/-! ### for -/
def dLoop (g : DG) (db : DS) (E : DEnds) (x : KX) : List D → Ev → Prop
  | [], ρ => E.nx ρ
  | d :: ds, ρ => g d ρ fun ρ1 => db { E with nx := dLoop g db E x ds, ct := dLoop g db E x ds, bk := E.nx } x ρ1
def dFor (di : DL) (g : DG) (db : DS) : DS := fun D x ρ => di x ρ fun ds ρ1 => dLoop g db D x ds ρ1
theorem s_for {iter : Expr} {body : List Stmt} {di : DL} {g : DG} {db : DS} (hp : PassesOwn (model X.prog X.w) X.A X.env X.xe) (hc : X.calm = true) (hi : PI X tg iter (tI B di)) (hg : PG X tg (tG B g)) (hb : PSs X body (tS B db))
    (hs : ∀ x, foldedSetIterable iter X.env x = pure x := by intro _; rfl) : PS X (.For tg iter body [] pos) (tS B (dFor di g db)) := PS.imp (ps_for hp hc hi hg hb hs) fun D σ H ⟨c, ρ, S, E, w, A, h, l⟩ =>
  ⟨c, ρ, S, _, w, A, h, fun J ds ρ1 S1 H1 A1 s1 W h1 => by
    refine ⟨fun i m σ2 H2 => m = ds.length - i ∧ i ≤ ds.length ∧ ∃ ρ2 S2, Abs B.G c σ2 ρ2 S2 H2 ∧ Same S1 S2 ∧ dLoop g db E c.x (ds.drop i) ρ2, ⟨ds.length, by omega, Nat.zero_le _, ρ1, S1, A1, Same.refl _, h1⟩, ?_⟩
    rintro i m σ2 H2 ⟨rfl, hi, ρ2, S2, ⟨F2, A2⟩, s2, h2⟩
    by_cases hl : i < ds.length
    · right
      refine ⟨W.go i S2 H2 s2 A2.fr.sh hl, fun σ3 H3 => i + 1 ≤ ds.length ∧ ∃ ρ3 S3, Abs B.G c σ3 ρ3 S3 H3 ∧ Same S1 S3 ∧ dLoop g db E c.x (ds.drop (i + 1)) ρ3, fun σ3 H3 ⟨q1, q2⟩ => ⟨_, by omega, rfl, q1, q2⟩, fun x H3 y => ?_⟩
      have hd : ds[i]? = some ds[i] := List.getElem?_eq_getElem hl
      obtain ⟨S3, A3, s3, r3, _⟩ := W.yld c σ2 ρ2 S2 H2 F2 i x H3 _ A2 s2 hd y
      rw [List.drop_eq_getElem_cons hl] at h2
      refine ⟨c, ρ2, S3, _, _, w, ⟨F2, A3⟩, r3, h2, fun σ4 ρ4 S4 H4 A4 s4 h4 => ⟨c, ρ4, S4, _, w, A4, h4, ?_⟩⟩
      have s14 : Same S1 S4 := (s2.trans s3).trans s4
      exact ⟨fun σ5 ρ5 S5 H5 A5 s5 h5 => ⟨hl, ρ5, S5, A5, s14.trans s5, h5⟩, fun v d σ5 ρ5 S5 H5 A5 s5 r5 h5 => l.rt v d σ5 ρ5 S5 H5 A5 ((s1.trans s14).trans s5) r5 h5,
        fun σ5 ρ5 S5 H5 A5 s5 h5 => l.nx σ5 ρ5 S5 H5 A5 ((s1.trans s14).trans s5) h5, fun σ5 ρ5 S5 H5 A5 s5 h5 => ⟨hl, ρ5, S5, A5, s14.trans s5, h5⟩⟩
    · left
      have e : i = ds.length := by omega
      subst e
      rw [List.drop_length] at h2
      exact ⟨W.stop S2 H2 s2 A2.fr.sh, l.nx σ2 ρ2 S2 H2 ⟨F2, A2⟩ (s1.trans s2) h2⟩⟩
end
end Y
namespace Y
open PySem PySem.Spec PyProof.Rows L2

/-! ### comprehensions -/
def wipeE (ρ : Ev) : List Nat → Ev
  | [] => ρ
  | v :: vs => (wipeE ρ vs).set v .un
theorem wipe_in {σ : St} {i : Nat} : ∀ {vs : List Nat}, i ∈ vs → i < σ.length → (wipe σ vs)[i]? = some none
  | v :: vs, h, hl => by
    show ((wipe σ vs).set v none)[i]? = some none
    by_cases e : v = i
    · subst e
      exact List.getElem?_set_self (by rw [wipe_length]; exact hl)
    · rw [List.getElem?_set_ne e]
      rcases List.mem_cons.mp h with rfl | h
      · exact absurd rfl e
      · exact wipe_in h hl
theorem wipe_ge {σ : St} {i : Nat} {vs : List Nat} (h : σ.length ≤ i) : (wipe σ vs)[i]? = none := List.getElem?_eq_none (by rw [wipe_length]; exact h)
theorem wipe_set {σ : St} {j : Nat} {x : Option V} {vs : List Nat} (h : j ∈ vs) : wipe ((wipe σ vs).set j x) vs = wipe σ vs := by
  apply List.ext_getElem?
  intro i
  by_cases hl : i < σ.length
  · by_cases hi : i ∈ vs
    · rw [wipe_in hi hl, wipe_in hi (by rw [List.length_set, wipe_length]; exact hl)]
    · rw [wipe_out hi, wipe_out hi, List.getElem?_set_ne (fun e : j = i => hi (e ▸ h)), wipe_out hi]
  · rw [wipe_ge (Nat.le_of_not_lt hl), wipe_ge (by rw [List.length_set, wipe_length]; exact Nat.le_of_not_lt hl)]
theorem wipe_set2 {σ : St} {i j : Nat} {x y : Option V} {vs : List Nat} (h : i ∈ vs) (h2 : j ∈ vs) : wipe (((wipe σ vs).set i x).set j y) vs = wipe σ vs := by
  apply List.ext_getElem?
  intro n
  by_cases hl : n < σ.length
  · by_cases hi : n ∈ vs
    · rw [wipe_in hi hl, wipe_in hi (by rw [List.length_set, List.length_set, wipe_length]; exact hl)]
    · rw [wipe_out hi, wipe_out hi, List.getElem?_set_ne (fun e : j = n => hi (e ▸ h2)), List.getElem?_set_ne (fun e : i = n => hi (e ▸ h)), wipe_out hi]
  · rw [wipe_ge (Nat.le_of_not_lt hl), wipe_ge (by rw [List.length_set, List.length_set, wipe_length]; exact Nat.le_of_not_lt hl)]
def wipeF (F : Nat → List Addr) (vs : List Nat) : Nat → List Addr := fun j => if j ∈ vs then [] else F j
section
variable {G : GC} {c : C} {S S' H H' : Hp} {σ : St} {ρ : Ev} {F : Nat → List Addr}
theorem wipeE_length (ρ : Ev) : ∀ vs : List Nat, (wipeE ρ vs).length = ρ.length
  | [] => rfl
  | v :: vs => by
    show ((wipeE ρ vs).set v .un).length = ρ.length
    rw [List.length_set, wipeE_length ρ vs]
theorem wipeE_in {i : Nat} : ∀ {vs : List Nat}, i ∈ vs → i < ρ.length → (wipeE ρ vs)[i]? = some .un
  | v :: vs, h, hl => by
    show ((wipeE ρ vs).set v .un)[i]? = some .un
    by_cases e : v = i
    · subst e
      exact List.getElem?_set_self (by rw [wipeE_length]; exact hl)
    · rw [List.getElem?_set_ne e]
      rcases List.mem_cons.mp h with rfl | h
      · exact absurd rfl e
      · exact wipeE_in h hl
theorem wipeE_out {i : Nat} : ∀ {vs : List Nat}, i ∉ vs → (wipeE ρ vs)[i]? = ρ[i]?
  | [], _ => rfl
  | v :: vs, h => by
    show ((wipeE ρ vs).set v .un)[i]? = ρ[i]?
    rw [List.getElem?_set_ne (fun e : v = i => h (e ▸ List.mem_cons_self))]
    exact wipeE_out fun z => h (List.mem_cons_of_mem _ z)
theorem slot_un {v : Option V} : SlotOk G c S H v .un [] := by cases v <;> rfl
theorem AbsF.wipe (A : AbsF G c σ ρ S H F) {vs : List Nat} (hp : ∀ v ∈ vs, v ∉ c.pn) : AbsF G c (L2.wipe σ vs) (wipeE ρ vs) S H (wipeF F vs) := by
  refine ⟨A.fr, by rw [wipe_length, wipeE_length]; exact A.len, fun i s e => ?_, fun i e => ?_, fun i hi => ?_, fun i j a hi hj => ?_⟩
  · unfold wipeF
    have hl : i < ρ.length := by rw [← wipeE_length ρ vs]; exact (List.getElem?_eq_some_iff.mp e).1
    by_cases h : i ∈ vs
    · rw [wipeE_in h hl] at e
      cases e
      rw [if_pos h]
      exact slot_un
    · rw [wipeE_out h] at e
      rw [if_neg h, wipe_out h]
      exact A.sl i s e
  · unfold wipeF
    by_cases h : i ∈ vs
    · rw [if_pos h]
    · rw [if_neg h]
      rw [wipeE_out h] at e
      exact A.em i e
  · rw [wipe_out fun h => hp i h hi]
    exact A.pin i hi
  · unfold wipeF at hi hj
    split at hi
    · cases hi
    · split at hj
      · cases hj
      · exact A.dj i j a hi hj
/-- the names of a block are forgotten at its end -/
theorem AbsF.unwipe {vs : List Nat} (A : AbsF G c (L2.wipe σ vs) (wipeE ρ vs) S H F) (hp : ∀ i ∈ c.pn, σ[i]? = some (some (c.pv i))) : AbsF G c σ (wipeE ρ vs) S H F := by
  refine ⟨A.fr, by have := A.len; rw [wipe_length] at this; exact this, fun i s e => ?_, A.em, hp, A.dj⟩
  have q := A.sl i s e
  by_cases h : i ∈ vs
  · have hl : i < ρ.length := by rw [← wipeE_length ρ vs]; exact (List.getElem?_eq_some_iff.mp e).1
    rw [wipeE_in h hl] at e
    cases e
    have q2 : F i = [] := by
      cases z : ((L2.wipe σ vs)[i]?).join <;> (rw [z] at q; exact q)
    rw [q2]
    exact slot_un
  · rw [wipe_out h] at q
    exact q
theorem AbsF.wx (A : AbsF G c σ ρ S H F) (y : Ex → List SV → Prop) : AbsF G { c with x := y } σ ρ S H F :=
  ⟨⟨A.fr.ss, A.fr.sh, A.fr.keep, A.fr.trk, A.fr.dom⟩, A.len, fun i s e => (A.sl i s e).stay (Same.refl _) fun a ha => ⟨rfl, (A.foot ha).1.out, (A.foot ha).1.may⟩, A.em, A.pin, A.dj⟩
theorem AbsF.unwx {y : Ex → List SV → Prop} (A : AbsF G { c with x := y } σ ρ S H F) : AbsF G c σ ρ S H F :=
  ⟨⟨A.fr.ss, A.fr.sh, A.fr.keep, A.fr.trk, A.fr.dom⟩, A.len, fun i s e => (A.sl i s e).stay (Same.refl _) fun a ha => ⟨rfl, (A.foot ha).1.out, (A.foot ha).1.may⟩, A.em, A.pin, A.dj⟩
end
def xF : KX := fun _ _ => False
/-- in a block nothing is let out -/
abbrev Bd.in (B : Bd) : Bd := { B with E := E0 }
theorem Wish.in {B : Bd} {c : C} (w : Wish B c) : Wish B.in { c with x := xF } := ⟨fun _ _ _ _ _ _ _ _ _ h => h.elim, w.pn⟩
structure TgOk (G : GC) (g : TG) (dg : DG) (vs : List Nat) : Prop where
  go : ∀ c σ ρ S H F x d k Q, AbsF G c (L2.wipe σ vs) ρ S H F → (∀ v ∈ vs, v ∉ c.pn) → Rep G S x d → dg d ρ k →
    (∀ σ2 ρ2 F2, L2.wipe σ2 vs = L2.wipe σ vs → AbsF G c σ2 ρ2 S H F2 → (∀ a, (∀ i, a ∉ F i) → ∀ i, a ∉ F2 i) → k ρ2 → Q σ2 H) → g x (L2.wipe σ vs) H Q
theorem tg_name {G : GC} {j : Nat} {vs : List Nat} (hj : j ∈ vs) : TgOk G (gName j) (dgName j) vs := ⟨fun c σ ρ S H F x d k Q A hp r h q =>
  q _ _ _ (wipe_set hj) (A.set (i := j) (v := some x) (s := .d d) (f := []) ⟨rfl, r⟩ (fun _ _ _ z => nomatch z) (.inl (hp j hj))) (fun a ha i hi => by
    split at hi
    · split at hi <;> cases hi
    · exact ha i hi) h⟩
theorem tg_tup2 {G : GC} {i j : Nat} {vs : List Nat} (hi : i ∈ vs) (hj : j ∈ vs) : TgOk G (gTup G.K 2 (gCons (gName i) (gCons (gName j) gNil))) (dgTup 2 (dgCons (dgName i) (dgCons (dgName j) dgNil))) vs := ⟨fun c σ ρ S H F x d k Q A hp r h q => by
  cases r with
  | tup e r =>
    obtain ⟨hl, h⟩ := h
    cases r with
    | nil => cases hl
    | cons r1 r =>
      cases r with
      | nil => cases hl
      | cons r2 r =>
        cases r with
        | cons _ _ => cases hl
        | nil =>
          refine ⟨_, _, rfl, .inl (.inl (A.fr.sh _ _ e)), rfl, _, _, rfl, _, _, rfl, rfl, ?_⟩
          have A1 := A.set (i := i) (v := some _) (s := .d _) (f := []) ⟨rfl, r1⟩ (fun _ _ _ z => nomatch z) (.inl (hp i hi))
          have A2 := A1.set (i := j) (v := some _) (s := .d _) (f := []) ⟨rfl, r2⟩ (fun _ _ _ z => nomatch z) (.inl (hp j hj))
          exact q _ _ _ (wipe_set2 hi hj) A2 (fun a ha n hn => by
            split at hn
            · split at hn <;> cases hn
            · split at hn
              · split at hn <;> cases hn
              · exact ha n hn) h.2
  | _ => exact h.elim⟩
def dtYes : DT := fun _ ρ k => k true ρ
def dCompGo (g : DG) (dt : DT) (de : DE) (vs : List Nat) (k : List D → Ev → Prop) : List D → List D → Ev → Prop
  | [], acc, ρ => k acc ρ
  | d :: ds, acc, ρ => g d ρ fun ρ1 => dt xF ρ1 fun b ρ2 => if b = true then de xF ρ2 fun e ρ3 => dCompGo g dt de vs k ds (acc ++ [e]) (wipeE ρ3 vs) else dCompGo g dt de vs k ds acc (wipeE ρ2 vs)
def oComp (di : DL) (g : DG) (dt : DT) (de : DE) (vs : List Nat) : DL := fun x ρ k => di x ρ fun ds ρ1 => ds.length ≤ 100000 ∧ dCompGo g dt de vs k ds [] (wipeE ρ1 vs)
theorem big_lt {n : Nat} (h : n ≤ 100000) : n < sizeLine + 1 := Nat.lt_succ_of_le (Nat.le_trans h (by decide))
theorem imp_lc {B : Bd} {di : DL} {g : TG} {dg : DG} {dt : DT} {de : DE} {vs : List Nat} (tg : TgOk B.G g dg vs) (hv : ∀ v ∈ vs, v ∉ B.pn) : ∀ σ H Q, tO B (oComp di dg dt de vs) σ H Q → tLc (tI B di) g (tT B.in dt) (tD B.in de) vs σ H Q :=
  fun σ H Q ⟨c, ρ, S, k, w, A, h, q⟩ => ⟨c, ρ, S, _, w, A, h, fun J ds ρ1 S1 H1 ⟨F1, A1⟩ s1 Wk ⟨hz, h1⟩ L hL => by
    have hv' : ∀ v ∈ vs, v ∉ c.pn := by rw [w.pn]; exact hv
    obtain ⟨z1, z2, z3⟩ := A1.fresh hL
    refine ⟨fun i m H2 => m = ds.length - i ∧ i ≤ ds.length ∧ ∃ ρ2 S2 F2 acc av, AbsF B.G c (L2.wipe σ vs) (wipeE ρ2 vs) S2 H2 F2 ∧ Same S1 S2 ∧ H2 L = some (.lst av) ∧ Reps B.G S2 av acc ∧ acc.length ≤ i ∧ S2 L = none ∧ (∀ j, L ∉ F2 j) ∧ dCompGo dg dt de vs k (ds.drop i) acc (wipeE ρ2 vs),
      ⟨ds.length, by omega, Nat.zero_le _, ρ1, S1, wipeF F1 vs, [], [], (A1.newO hL).wipe hv', Same.refl _, upd_same, .nil, Nat.le_refl _, z1, fun j hj => ?_, h1⟩, ?_⟩
    · unfold wipeF at hj
      split at hj
      · cases hj
      · exact z3 j hj
    rintro i m H2 ⟨rfl, hi, ρ2, S2, F2, acc, av, A2, s2, eL, rL, hacc, sL, fL, h2⟩
    by_cases hl : i < ds.length
    · right
      refine ⟨Wk.go i S2 H2 s2 A2.fr.sh hl, fun H3 => i + 1 ≤ ds.length ∧ ∃ ρ2 S2 F2 acc av, AbsF B.G c (L2.wipe σ vs) (wipeE ρ2 vs) S2 H3 F2 ∧ Same S1 S2 ∧ H3 L = some (.lst av) ∧ Reps B.G S2 av acc ∧ acc.length ≤ i + 1 ∧ S2 L = none ∧ (∀ j, L ∉ F2 j) ∧ dCompGo dg dt de vs k (ds.drop (i + 1)) acc (wipeE ρ2 vs),
        fun H3 ⟨q1, q2⟩ => ⟨_, by omega, rfl, q1, q2⟩, fun x H3 y => ?_⟩
      have hd : ds[i]? = some ds[i] := List.getElem?_eq_getElem hl
      obtain ⟨S3, A3, s3, r3, k3⟩ := Wk.yld c _ _ S2 H2 F2 i x H3 _ A2 s2 hd y
      have tL : H2 L ≠ none := by rw [eL]; simp
      obtain ⟨k31, k32⟩ := k3 L tL
      rw [List.drop_eq_getElem_cons hl] at h2
      refine tg.go c σ _ S3 H3 F2 x _ _ _ A3 hv' r3 h2 fun σ4 ρ4 F4 e4 A4 f4 h4 => ⟨e4, ?_⟩
      have fL4 := f4 L fL
      refine tT_run w.in (A4.wx xF) h4 fun b ρ5 S5 H5 F5 A5 s5 k5 h5 => ?_
      have tL3 : H3 L ≠ none := by rw [k31]; exact tL
      obtain ⟨k51, k52, k53⟩ := k5 L tL3 fL4
      have A5' := A5.unwx
      cases b with
      | true =>
        rw [if_pos rfl] at h5 ⊢
        refine tD_run w.in (A5'.wx xF) h5 fun v d ρ6 S6 H6 F6 A6 s6 k6 r6 h6 => ?_
        have tL5 : H5 L ≠ none := by rw [k51]; exact tL3
        obtain ⟨k61, k62, k63⟩ := k6 L tL5 k53
        have A6' := A6.unwx
        have e6 : H6 L = some (.lst av) := by rw [k61, k51, k31]; exact eL
        have o6 : S6 L = none := by rw [k62, k52, k32]; exact sL
        refine ⟨av, e6, Nat.lt_of_succ_lt_succ (Nat.lt_of_le_of_lt (Nat.succ_le_succ (by rw [rL.length]; omega : av.length ≤ 99999)) (by show _ < sizeLine + 1; exact big_lt (by decide))), hl, ρ6, S6, wipeF F6 vs, acc ++ [d], av ++ [v], ?_, ((s2.trans s3).trans s5).trans s6, upd_same, (((rL.mono s3).mono s5).mono s6).append (.one r6), by rw [List.length_append]; exact Nat.succ_le_succ hacc, o6, fun j hj => ?_, h6⟩
        · have A7 := A6'.mutO (p := L) (o := .lst (av ++ [v])) ⟨o6, .inr z2⟩ k63 (by rw [e6]; simp)
          have A8 := A7.wipe hv'
          rw [e4] at A8
          exact A8
        · unfold wipeF at hj
          split at hj
          · cases hj
          · exact k63 j hj
      | false =>
        rw [if_neg Bool.false_ne_true] at h5 ⊢
        refine ⟨hl, ρ5, S5, wipeF F5 vs, acc, av, ?_, (s2.trans s3).trans s5, by rw [k51, k31]; exact eL, (rL.mono s3).mono s5, by omega, by rw [k52, k32]; exact sL, fun j hj => ?_, h5⟩
        · have A8 := A5'.wipe hv'
          rw [e4] at A8
          exact A8
        · unfold wipeF at hj
          split at hj
          · cases hj
          · exact k53 j hj
    · left
      have e : i = ds.length := by omega
      subst e
      rw [List.drop_length] at h2
      exact ⟨Wk.stop S2 H2 s2 A2.fr.sh, q L av acc _ S2 H2 F2 (A2.unwipe A1.pin) (s1.trans s2) fL sL z2 eL rL h2⟩⟩
section
variable {X : Cx} {B : Bd} {elt tg iter : Expr} {ifs : List Expr} {scope : Scope} {pos : Pos} {di : DL} {dt : DT} {de : DE}
theorem e_lc (own : List (Str × Nat)) {g : TG} {dg : DG} (hc : X.calm = true) (hN : X.N.Nodup) (tgo : TgOk B.G g dg (own.map (·.2))) (hi : PI X tg iter (tI B di)) (ok : BlkOk X.N X.env.scope scope own)
    (hg : ∀ (s : Shared) (H : Hp) (C : Addr) (cl : List (Str × Addr)) (fp : List Addr), PG (X.blk s H scope (compEnvC scope cl C X.env) fp) tg g) (ht : ∀ (s : Shared) (H : Hp) (C : Addr) (cl : List (Str × Addr)) (fp : List Addr), PTs (X.blk s H scope (compEnvC scope cl C X.env) fp) ifs (tT B.in dt))
    (he : ∀ (s : Shared) (H : Hp) (C : Addr) (cl : List (Str × Addr)) (fp : List Addr), PE (X.blk s H scope (compEnvC scope cl C X.env) fp) elt (tD B.in de)) (hv : ∀ v ∈ own.map (·.2), v ∉ B.pn := by (dsimp only; decide)) (hs : ∀ x, foldedSetIterable iter X.env x = pure x := by intro _; rfl) :
    PE X (.ListComp elt [⟨tg, iter, ifs, 0⟩] scope pos) (tO B (oComp di dg dt de (own.map (·.2)))) := PE.imp (pe_lc hc hN hi ok hg ht he hs) (imp_lc tgo hv)
theorem ts_nil : PTs X [] (tT B dtYes) := ⟨fun pins s σ H Q I ⟨c, ρ, S, k, w, A, h, q⟩ => pts_nil.run pins s σ H Q I (q true ρ S H A (Same.refl S) h)⟩
theorem ts_one {t : Expr} (h : PT X t (tT B dt)) : PTs X [t] (tT B dt) := pts_one h
/-- name = [..] -/
theorem s_setLc (i : Nat) (own : List (Str × Nat)) {y : Str} {py spos : Pos} {g : TG} {dg : DG} (hc : X.calm = true) (hN : X.N.Nodup) (tgo : TgOk B.G g dg (own.map (·.2)))
    (hsw : swapsWith (.ListComp elt [⟨tg, iter, ifs, 0⟩] scope pos) (some (.Name y py)) spos.line X.env = pure true) (hi : PI X tg iter (tI B di)) (ok : BlkOk X.N X.env.scope scope own)
    (hg : ∀ (s : Shared) (H : Hp) (C : Addr) (cl : List (Str × Addr)) (fp : List Addr), PG (X.blk s H scope (compEnvC scope cl C X.env) fp) tg g) (ht : ∀ (s : Shared) (H : Hp) (C : Addr) (cl : List (Str × Addr)) (fp : List Addr), PTs (X.blk s H scope (compEnvC scope cl C X.env) fp) ifs (tT B.in dt))
    (he : ∀ (s : Shared) (H : Hp) (C : Addr) (cl : List (Str × Addr)) (fp : List Addr), PE (X.blk s H scope (compEnvC scope cl C X.env) fp) elt (tD B.in de)) (hy : X.N[i]? = some y := by rfl) (hyl : X.env.scope.names.lookup y = some .local := by rfl) (hv : ∀ v ∈ own.map (·.2), v ∉ B.pn := by (dsimp only; decide)) (hp : i ∉ B.pn := by (dsimp only; decide)) (hs : ∀ x, foldedSetIterable iter X.env x = pure x := by intro _; rfl) :
    PS X (.Assign [.Name y py] (.ListComp elt [⟨tg, iter, ifs, 0⟩] scope pos) spos) (tS B (dSet i (dL (oComp di dg dt de (own.map (·.2)))))) :=
  PS.imp (ps_setLc hc hN hy hyl hsw hi ok hg ht he hs) (imp_set hp fun _ _ _ z => imp_lc tgo hv _ _ _ (imp_L _ _ _ z))
theorem s_setLcO (i : Nat) (own : List (Str × Nat)) {y : Str} {py spos : Pos} {g : TG} {dg : DG} (hc : X.calm = true) (hN : X.N.Nodup) (tgo : TgOk B.G g dg (own.map (·.2)))
    (hsw : swapsWith (.ListComp elt [⟨tg, iter, ifs, 0⟩] scope pos) (some (.Name y py)) spos.line X.env = pure true) (hi : PI X tg iter (tI B di)) (ok : BlkOk X.N X.env.scope scope own)
    (hg : ∀ (s : Shared) (H : Hp) (C : Addr) (cl : List (Str × Addr)) (fp : List Addr), PG (X.blk s H scope (compEnvC scope cl C X.env) fp) tg g) (ht : ∀ (s : Shared) (H : Hp) (C : Addr) (cl : List (Str × Addr)) (fp : List Addr), PTs (X.blk s H scope (compEnvC scope cl C X.env) fp) ifs (tT B.in dt))
    (he : ∀ (s : Shared) (H : Hp) (C : Addr) (cl : List (Str × Addr)) (fp : List Addr), PE (X.blk s H scope (compEnvC scope cl C X.env) fp) elt (tD B.in de)) (hy : X.N[i]? = some y := by rfl) (hyl : X.env.scope.names.lookup y = some .local := by rfl) (hv : ∀ v ∈ own.map (·.2), v ∉ B.pn := by (dsimp only; decide)) (hp : i ∉ B.pn := by (dsimp only; decide)) (hs : ∀ x, foldedSetIterable iter X.env x = pure x := by intro _; rfl) :
    PS X (.Assign [.Name y py] (.ListComp elt [⟨tg, iter, ifs, 0⟩] scope pos) spos) (tS B (dSetO i (oComp di dg dt de (own.map (·.2))))) :=
  PS.imp (ps_setLc hc hN hy hyl hsw hi ok hg ht he hs) (imp_setO hp (imp_lc tgo hv))
end
end Y
namespace Y
open PySem PySem.Spec PyProof.Rows L2

/-! ### a def over data -/
structure FD where
  m : Nat
  pn : List Nat
  go : Ev → (D → Ev → Prop) → KX → Prop
def outOf (pn : List Nat) (m : Nat) (ρ : Ev) : Ev := (List.range m).map fun (i : Nat) => if i ∈ pn then ρ.getD i .un else .un
def fdef (m n : Nat) (pn : List Nat) (ds : DS) : FD := ⟨m, pn, fun as k x => ds ⟨fun ρ => k .non (outOf pn m ρ), fun d ρ => k d (outOf pn m ρ), fun _ => False, fun _ => False⟩ (fun ex ρ => x ex (outOf pn m ρ)) (as ++ List.replicate n .un)⟩
def cxC (S H : Hp) (FP : Nat → List Addr) (pn : List Nat) (vs : List V) (x : KX) : C := ⟨H, S, fun a => ∃ i, a ∈ FP i, x, pn, fun i => vs.getD i .non⟩
def spF (G : GC) (f : FD) : Sp := fun vs H Q E => ∃ S as FP k x, vs.length = f.m ∧ AbsF G (cxC S H FP f.pn vs xF) (vs.map some) as S H FP ∧ f.go as k x ∧
  (∀ v d os S' H' FP', AbsF G (cxC S H FP f.pn vs xF) (vs.map some) os S' H' FP' → Rep G S' v d → k d os → Q v H') ∧
  (∀ ex cls dd os S' H' FP', AbsF G (cxC S H FP f.pn vs xF) (vs.map some) os S' H' FP' → ExOk G cls dd H' ex → x ex os → E cls dd H')
section
variable {G : GC} {c : C} {S H : Hp} {σ : St} {ρ : Ev} {F : Nat → List Addr}
theorem AbsF.extend (A : AbsF G c σ ρ S H F) (n : Nat) : AbsF G c (σ ++ List.replicate n none) (ρ ++ List.replicate n .un) S H F := by
  have hl := A.len
  refine ⟨A.fr, by rw [List.length_append, List.length_append, List.length_replicate, List.length_replicate, hl], fun i s e => ?_, fun i e => ?_, fun i hi => ?_, A.dj⟩
  · by_cases h : i < ρ.length
    · rw [List.getElem?_append_left h] at e
      rw [List.getElem?_append_left (by omega)]
      exact A.sl i s e
    · rw [List.getElem?_append_right (by omega)] at e
      have := List.mem_of_getElem? e
      rw [(List.mem_replicate.mp this).2, A.em i (List.getElem?_eq_none (by omega))]
      exact slot_un
  · rw [List.getElem?_eq_none_iff, List.length_append] at e
    exact A.em i (List.getElem?_eq_none (by omega))
  · have q := A.pin i hi
    rw [List.getElem?_append_left (List.getElem?_eq_some_iff.mp q).1]
    exact q
theorem AbsF.restrict {vs : List V} {pn : List Nat} (hp : ∀ i ∈ pn, i < vs.length) (hc : c.pn = pn) (hv : ∀ i ∈ pn, c.pv i = vs.getD i .non) (A : AbsF G c σ ρ S H F) : AbsF G c (vs.map some) (outOf pn vs.length ρ) S H (fun i => if i ∈ pn then F i else []) := by
  refine ⟨A.fr, by unfold outOf; rw [List.length_map, List.length_map, List.length_range], fun i s e => ?_, fun i e => ?_, fun i hi => ?_, fun i j a hi hj => ?_⟩
  · have hl : i < vs.length := by
      have := (List.getElem?_eq_some_iff.mp e).1
      unfold outOf at this
      rw [List.length_map, List.length_range] at this
      exact this
    unfold outOf at e
    rw [List.getElem?_map, List.getElem?_range hl] at e
    by_cases h : i ∈ pn
    · have hci : i ∈ c.pn := by rw [hc]; exact h
      have q := A.pin i hci
      rw [Option.map_some, if_pos h] at e
      have hr : i < ρ.length := by rw [← A.len]; exact (List.getElem?_eq_some_iff.mp q).1
      have e2 : ρ[i]? = some s := by
        rw [List.getElem?_eq_getElem hr]
        rw [List.getD_eq_getElem?_getD, List.getElem?_eq_getElem hr] at e
        exact e
      have z := A.sl i s e2
      rw [if_pos h]
      rw [q, hv i h] at z
      rw [List.getElem?_map, List.getElem?_eq_getElem hl]
      rw [List.getD_eq_getElem?_getD, List.getElem?_eq_getElem hl] at z
      exact z
    · rw [Option.map_some, if_neg h] at e
      cases e
      rw [if_neg h]
      exact slot_un
  · split
    · rename_i h
      have := hp i h
      unfold outOf at e
      rw [List.getElem?_map, List.getElem?_range this] at e
      cases e
    · rfl
  · rw [hc] at hi
    have hl := hp i hi
    rw [List.getElem?_map, List.getElem?_eq_getElem hl, hv i hi, List.getD_eq_getElem?_getD, List.getElem?_eq_getElem hl]
    rfl
  · split at hi
    · split at hj
      · exact A.dj i j a hi hj
      · cases hj
    · cases hi
/-- the same, told by another context with the same heaps -/
theorem AbsF.recx {c' : C} (A : AbsF G c σ ρ S H F) (h0 : c'.H0 = c.H0) (h1 : c'.S0 = c.S0) (h2 : c'.M = c.M) (h3 : c'.pn = c.pn) (h4 : c'.pv = c.pv) : AbsF G c' σ ρ S H F := by
  obtain ⟨H0, S0, M, x, pn, pv⟩ := c
  obtain ⟨H0', S0', M', x', pn', pv'⟩ := c'
  cases h0; cases h1; cases h2; cases h3; cases h4
  exact A.wx x'
end
section
variable {P : Program} {w : World} {K : PySem.W.Frag} {mg : Str → Option Value} {base : Heap} {G : GC}
/-- a body that keeps its word: what a call of it is worth -/
theorem fn_def {x qual : Str} {st : Stmt} {f : Addr} {fd : FuncData} {N ps : List Str} {k : Nat} (pn : List Nat) (ds : DS) (F : Fun K x qual st f fd) (S : FnScope N ps (defScope st)) (hpn : ∀ i ∈ pn, i < ps.length)
    (hb : ∀ (cdv : Value) (A : Around) (outer : List Env) (s : Shared) (H : Hp) (E : XK), Room k (A.deeper (envOfC qual (defScope st) s.heap.objs.size f cdv)) →
      PSs (cxOf (L2.CX P w) P w K mg base N qual (defScope st) f cdv A outer s H E) (defBody st) (tS ⟨G, E, pn⟩ ds)) :
    FnOk P w K mg base (L2.CX P w) (k + 1) f fd ps (spF G (fdef ps.length (N.length - ps.length) pn ds)) := by
  refine F.okX S (fun vs H Q E h => ?_) (fun cdv A outer s H vs Q E hr h => ?_)
  · obtain ⟨_, _, _, _, _, h, _⟩ := h
    exact h
  · obtain ⟨S, as, FP, k', x', hl, Ab, h, q, qx⟩ := h
    have hl : vs.length = ps.length := hl
    refine ⟨_, hb cdv A outer s H E hr, ?_⟩
    have A1 := (Ab.wx (fun ex ρ => x' ex (outOf pn ps.length ρ))).extend (N.length - ps.length)
    have e : L2.start N vs = vs.map some ++ List.replicate (N.length - ps.length) none := by unfold L2.start; rw [hl]
    rw [e]
    refine ⟨_, _, S, _, ⟨?_, rfl⟩, ⟨FP, A1⟩, h, ⟨?_, ?_, ?_, ?_⟩⟩
    · intro ex cls dd σ ρ S' H' ⟨F', A'⟩ o hx
      have := (A'.recx (c' := cxC S H FP pn vs xF) rfl rfl rfl rfl rfl).restrict (vs := vs) (pn := pn) (by rw [hl]; exact hpn) rfl fun _ _ => rfl
      exact qx ex cls dd _ S' H' _ this o (by rw [hl]; exact hx)
    · intro σ ρ S' H' ⟨F', A'⟩ _ hx
      have := (A'.recx (c' := cxC S H FP pn vs xF) rfl rfl rfl rfl rfl).restrict (vs := vs) (pn := pn) (by rw [hl]; exact hpn) rfl fun _ _ => rfl
      exact q .non .non _ S' H' _ this .non (by rw [hl]; exact hx)
    · intro v d σ ρ S' H' ⟨F', A'⟩ _ r hx
      have := (A'.recx (c' := cxC S H FP pn vs xF) rfl rfl rfl rfl rfl).restrict (vs := vs) (pn := pn) (by rw [hl]; exact hpn) rfl fun _ _ => rfl
      exact q v d _ S' H' _ this r (by rw [hl]; exact hx)
    · intro _ _ _ _ _ _ hx; exact hx
    · intro _ _ _ _ _ _ hx; exact hx
end

/-! ### calls of defs -/
inductive Arg where
  | d (d : D) | m (i : Nat)
def Arg.sv (ρ : Ev) : Arg → SV
  | .d z => .d z
  | .m i => ρ.getD i .un
abbrev DM := KX → Ev → (List Arg → Ev → Prop) → Prop
inductive ArgsOk (G : GC) (S : Hp) (σ : St) : List V → List Arg → Prop
  | nil : ArgsOk G S σ [] []
  | cd {v : V} {d : D} {vs : List V} {as : List Arg} (h : Rep G S v d) (t : ArgsOk G S σ vs as) : ArgsOk G S σ (v :: vs) (.d d :: as)
  | cm {v : V} {i : Nat} {vs : List V} {as : List Arg} (h : σ[i]? = some (some v)) (t : ArgsOk G S σ vs as) : ArgsOk G S σ (v :: vs) (.m i :: as)
theorem ArgsOk.mono {G : GC} {S S' : Hp} {σ : St} (e : Same S S') : ∀ {vs : List V} {as : List Arg}, ArgsOk G S σ vs as → ArgsOk G S' σ vs as
  | _, _, .nil => .nil
  | _, _, .cd h t => .cd (h.mono e) (t.mono e)
  | _, _, .cm h t => .cm h (t.mono e)
theorem ArgsOk.length {G : GC} {S : Hp} {σ : St} : ∀ {vs : List V} {as : List Arg}, ArgsOk G S σ vs as → vs.length = as.length
  | _, _, .nil => rfl
  | _, _, .cd _ t => by rw [List.length_cons, List.length_cons, t.length]
  | _, _, .cm _ t => by rw [List.length_cons, List.length_cons, t.length]
theorem ArgsOk.append {G : GC} {S : Hp} {σ : St} : ∀ {vs ws : List V} {as bs : List Arg}, ArgsOk G S σ vs as → ArgsOk G S σ ws bs → ArgsOk G S σ (vs ++ ws) (as ++ bs)
  | _, _, _, _, .nil, s => s
  | _, _, _, _, .cd h t, s => .cd h (t.append s)
  | _, _, _, _, .cm h t, s => .cm h (t.append s)
theorem ArgsOk.ofReps {G : GC} {S : Hp} {σ : St} : ∀ {vs : List V} {ds : List D}, Reps G S vs ds → ArgsOk G S σ vs (ds.map Arg.d)
  | _, _, .nil => .nil
  | _, _, .cons h t => .cd h (ArgsOk.ofReps t)
theorem ArgsOk.get {G : GC} {S : Hp} {σ : St} : ∀ {vs : List V} {as : List Arg} {j : Nat} {a : Arg}, ArgsOk G S σ vs as → as[j]? = some a → ∃ v, vs[j]? = some v ∧ (match a with | .d d => Rep G S v d | .m i => σ[i]? = some (some v))
  | _, _, _, _, .nil, e => by simp at e
  | _, _, 0, _, .cd h t, e => by simp at e; subst e; exact ⟨_, rfl, h⟩
  | _, _, 0, _, .cm h t, e => by simp at e; subst e; exact ⟨_, rfl, h⟩
  | _, _, j + 1, _, .cd h t, e => by
    obtain ⟨v, h1, h2⟩ := t.get (j := j) (by simpa using e)
    exact ⟨v, by simpa using h1, h2⟩
  | _, _, j + 1, _, .cm h t, e => by
    obtain ⟨v, h1, h2⟩ := t.get (j := j) (by simpa using e)
    exact ⟨v, by simpa using h1, h2⟩
def slotsOf : List Arg → List Nat
  | [] => []
  | .d _ :: as => slotsOf as
  | .m i :: as => i :: slotsOf as
def placesOf : Nat → List Arg → List Nat
  | _, [] => []
  | n, .d _ :: as => placesOf (n + 1) as
  | n, .m _ :: as => n :: placesOf (n + 1) as
def put (ρ : Ev) : List Arg → Ev → Ev
  | .m i :: as, o :: os => put (ρ.set i o) as os
  | .d _ :: as, _ :: os => put ρ as os
  | _, _ => ρ
def putA (ρ : Ev) (as : List Arg) (os : Ev) : Ev := put (wipeE ρ (slotsOf as)) as os
def fits (f : FD) (as : List Arg) : Bool := decide (as.length = f.m) && decide (placesOf 0 as = f.pn) && decide (slotsOf as).Nodup
theorem mem_slots {i : Nat} : ∀ {as : List Arg}, i ∈ slotsOf as ↔ ∃ j : Nat, as[j]? = some (Arg.m i)
  | [] => by simp [slotsOf]
  | .d d :: as => by
    show i ∈ slotsOf as ↔ _
    rw [mem_slots (as := as)]
    constructor
    · rintro ⟨j, h⟩; exact ⟨j + 1, by simpa using h⟩
    · rintro ⟨j, h⟩
      cases j with
      | zero => simp at h
      | succ j => exact ⟨j, by simpa using h⟩
  | .m n :: as => by
    show i ∈ n :: slotsOf as ↔ _
    rw [List.mem_cons, mem_slots (as := as)]
    constructor
    · rintro (rfl | ⟨j, h⟩)
      · exact ⟨0, rfl⟩
      · exact ⟨j + 1, by simpa using h⟩
    · rintro ⟨j, h⟩
      cases j with
      | zero => simp at h; exact .inl h.symm
      | succ j => exact .inr ⟨j, by simpa using h⟩
theorem slots_inj {i : Nat} : ∀ {as : List Arg} {j j' : Nat}, (slotsOf as).Nodup → as[j]? = some (Arg.m i) → as[j']? = some (Arg.m i) → j = j'
  | [], _, _, _, h, _ => by simp at h
  | .d d :: as, 0, _, _, h, _ => by simp at h
  | .d d :: as, _, 0, _, _, h => by simp at h
  | .d d :: as, j + 1, j' + 1, hn, h, h' => by rw [slots_inj (as := as) (j := j) (j' := j') hn (by simpa using h) (by simpa using h')]
  | .m n :: as, 0, 0, _, _, _ => rfl
  | .m n :: as, 0, j' + 1, hn, h, h' => by
    simp at h
    subst h
    exact absurd (mem_slots.mpr ⟨j', by simpa using h'⟩) (List.nodup_cons.mp hn).1
  | .m n :: as, j + 1, 0, hn, h, h' => by
    simp at h'
    subst h'
    exact absurd (mem_slots.mpr ⟨j, by simpa using h⟩) (List.nodup_cons.mp hn).1
  | .m n :: as, j + 1, j' + 1, hn, h, h' => by rw [slots_inj (as := as) (j := j) (j' := j') (List.nodup_cons.mp hn).2 (by simpa using h) (by simpa using h')]
theorem mem_places {j : Nat} : ∀ {as : List Arg} {n : Nat}, j ∈ placesOf n as ↔ ∃ t i : Nat, j = n + t ∧ as[t]? = some (Arg.m i)
  | [], n => by simp [placesOf]
  | .d d :: as, n => by
    show j ∈ placesOf (n + 1) as ↔ _
    rw [mem_places (as := as)]
    constructor
    · rintro ⟨t, i, e, h⟩; exact ⟨t + 1, i, by omega, by simpa using h⟩
    · rintro ⟨t, i, e, h⟩
      cases t with
      | zero => simp at h
      | succ t => exact ⟨t, i, by omega, by simpa using h⟩
  | .m k :: as, n => by
    show j ∈ n :: placesOf (n + 1) as ↔ _
    rw [List.mem_cons, mem_places (as := as)]
    constructor
    · rintro (rfl | ⟨t, i, e, h⟩)
      · exact ⟨0, k, rfl, rfl⟩
      · exact ⟨t + 1, i, by omega, by simpa using h⟩
    · rintro ⟨t, i, e, h⟩
      cases t with
      | zero => exact .inl (by omega)
      | succ t => exact .inr ⟨t, i, by omega, by simpa using h⟩
section
variable {G : GC} {c : C} {S S' H H' : Hp} {σ : St} {ρ : Ev} {F : Nat → List Addr}
theorem AbsF.forgetL (A : AbsF G c σ ρ S H F) (vs : List Nat) : AbsF G c σ (wipeE ρ vs) S H (wipeF F vs) := by
  refine ⟨A.fr, by rw [wipeE_length]; exact A.len, fun i s e => ?_, fun i e => ?_, A.pin, fun i j a hi hj => ?_⟩
  · unfold wipeF
    have hl : i < ρ.length := by rw [← wipeE_length ρ vs]; exact (List.getElem?_eq_some_iff.mp e).1
    by_cases h : i ∈ vs
    · rw [wipeE_in h hl] at e
      cases e
      rw [if_pos h]
      exact slot_un
    · rw [wipeE_out h] at e
      rw [if_neg h]
      exact A.sl i s e
  · unfold wipeF
    by_cases h : i ∈ vs
    · rw [if_pos h]
    · rw [if_neg h]
      rw [wipeE_out h] at e
      exact A.em i e
  · unfold wipeF at hi hj
    split at hi
    · cases hi
    · split at hj
      · cases hj
      · exact A.dj i j a hi hj
/-- behind a part that may have changed what is at M -/
theorem AbsF.after {M : Addr → Prop} (A : AbsF G c σ ρ S H F) (hM : ∀ a, M a → OwnAt c S a ∧ ∀ i, a ∉ F i) (ss : Same S S') (sh : Same S' H') (keep : ∀ a o, H a = some o → ¬ M a → H' a = some o) (trk : ∀ a, H a ≠ none → H' a ≠ none) (dom : ∀ a, H a ≠ none → ¬ M a → S' a = S a) :
    AbsF G c σ ρ S' H' F := by
  refine ⟨⟨A.fr.ss.trans ss, sh, fun a o e m => keep a o (A.fr.keep a o e m) fun z => ?_, fun a e => trk a (A.fr.trk a e), fun a e m => (dom a (A.fr.trk a e) fun z => ?_).trans (A.fr.dom a e m)⟩, A.len, fun i s e => ?_, A.em, A.pin, A.dj⟩
  · rcases (hM a z).1.may with q | q
    · exact m q
    · rw [q] at e; cases e
  · rcases (hM a z).1.may with q | q
    · exact m q
    · exact e q
  · refine (A.sl i s e).stay ss fun a ha => ?_
    obtain ⟨o, t⟩ := A.foot ha
    have nm : ¬ M a := fun z => (hM a z).2 i ha
    refine ⟨?_, ⟨by rw [dom a t nm]; exact o.out, o.may⟩⟩
    cases q : H a with
    | none => exact absurd q t
    | some u => exact keep a u q nm
theorem put_ok : ∀ (as : List Arg) (os : Ev) (n : Nat) (ρ : Ev) (F : Nat → List Addr) (FP : Nat → List Addr), AbsF G c σ ρ S H F → (∀ (j i : Nat) o, as[j]? = some (.m i) → os[j]? = some o → SlotOk G c S H ((σ[i]?).join) o (FP (n + j))) →
    (∀ j k a, a ∈ FP j → a ∉ F k) → (∀ i j a, a ∈ FP i → a ∈ FP j → i = j) → (∀ (j i : Nat), as[j]? = some (.m i) → ∃ v, σ[i]? = some v) → ∃ F', AbsF G c σ (put ρ as os) S H F'
  | [], os, n, ρ, F, FP, A, _, _, _, _ => by cases os <;> exact ⟨F, A⟩
  | .d _ :: as, [], n, ρ, F, FP, A, _, _, _, _ => ⟨F, A⟩
  | .m _ :: as, [], n, ρ, F, FP, A, _, _, _, _ => ⟨F, A⟩
  | .d d :: as, o :: os, n, ρ, F, FP, A, h, hd, hp, hv =>
    put_ok as os (n + 1) ρ F FP A (fun j i o e1 e2 => by
      have := h (j + 1) i o (by simpa using e1) (by simpa using e2)
      rw [show n + 1 + j = n + (j + 1) by omega]
      exact this) hd hp fun j i e => hv (j + 1) i (by simpa using e)
  | .m i :: as, o :: os, n, ρ, F, FP, A, h, hd, hp, hv => by
    obtain ⟨v, ev⟩ := hv 0 i rfl
    have h0 := h 0 i o rfl rfl
    rw [ev] at h0
    have A1 := A.set (i := i) (v := v) (s := o) (f := FP n) h0 (fun j a _ ha => hd n j a ha) (.inr ev)
    rw [set_self ev] at A1
    -- the rest, with FP n taken out
    refine put_ok as os (n + 1) (ρ.set i o) _ (fun j => if j = n then [] else FP j) A1 (fun j i' o' e1 e2 => ?_) (fun j k a ha => ?_) (fun j j' a ha hb => ?_) fun j i e => hv (j + 1) i (by simpa using e)
    · have := h (j + 1) i' o' (by simpa using e1) (by simpa using e2)
      rw [if_neg (by omega), show n + 1 + j = n + (j + 1) by omega]
      exact this
    · split at ha
      · cases ha
      · rename_i z
        split
        · split
          · exact fun q => z (hp j n a ha q)
          · exact fun q => nomatch q
        · exact hd j k a ha
    · split at ha
      · cases ha
      · split at hb
        · cases hb
        · exact hp j j' a ha hb
end
def tM (B : Bd) (dm : DM) : TA := fun σ H Q => ∃ c ρ S k, Wish B c ∧ Abs B.G c σ ρ S H ∧ dm c.x ρ k ∧ ∀ vs as ρ' S' H', Abs B.G c σ ρ' S' H' → Same S S' → ArgsOk B.G S' σ vs as → k as ρ' → Q vs H'
def dCall (f : FD) (dd : List D) (dm : DM) : DE := fun x ρ k => dm x ρ fun as ρ1 => fits f (as ++ dd.map Arg.d) = true ∧ f.go ((as ++ dd.map Arg.d).map (Arg.sv ρ1)) (fun d os => k d (putA ρ1 (as ++ dd.map Arg.d) os)) (fun ex os => x ex (putA ρ1 (as ++ dd.map Arg.d) os))
/-- no object is handed over to be changed -/
def dCallP (f : FD) (dd : List D) (dl : DL) : DE := fun x ρ k => dl x ρ fun ds ρ1 => (ds ++ dd).length = f.m ∧ f.go ((ds ++ dd).map SV.d) (fun d _ => k d ρ1) (fun ex _ => x ex ρ1)
theorem sp_use {B : Bd} {f : FD} {c : C} {σ : St} {ρ : Ev} {S H : Hp} {F : Nat → List Addr} {vs : List V} {as : List Arg} {k : D → Ev → Prop} {x : KX} {Q : VK} (A : AbsF B.G c σ ρ S H F) (a : ArgsOk B.G S σ vs as) (hf : fits f as = true) (h : f.go (as.map (Arg.sv ρ)) k x)
    (q : ∀ v d os S' H', Abs B.G c σ (putA ρ as os) S' H' → Same S S' → Rep B.G S' v d → k d os → Q v H')
    (qx : ∀ ex cls dd os S' H', Abs B.G c σ (putA ρ as os) S' H' → ExOk B.G cls dd H' ex → x ex os → B.E cls dd H') : spF B.G f vs H Q B.E := by
  unfold fits at hf
  rw [Bool.and_eq_true, Bool.and_eq_true] at hf
  obtain ⟨⟨f1, f2⟩, f3⟩ := hf
  have f1 := of_decide_eq_true f1
  have f2 := of_decide_eq_true f2
  have f3 := of_decide_eq_true f3
  obtain ⟨FP, hFP⟩ : ∃ FP : Nat → List Addr, FP = fun (j : Nat) => match as[j]? with | some (.m i) => F i | _ => [] := ⟨_, rfl⟩
  have fp_m : ∀ j i, as[j]? = some (.m i) → FP j = F i := fun j i e => by rw [hFP]; dsimp only; rw [e]
  have fp_of : ∀ j a, a ∈ FP j → ∃ i, as[j]? = some (.m i) ∧ a ∈ F i := fun j a ha => by
    rw [hFP] at ha
    dsimp only at ha
    split at ha
    · rename_i i e; exact ⟨i, e, ha⟩
    · cases ha
  have A0 : AbsF B.G (cxC S H FP f.pn vs xF) (vs.map some) (as.map (Arg.sv ρ)) S H FP := by
    refine ⟨⟨Same.refl _, A.fr.sh, fun _ _ e _ => e, fun _ e => e, fun _ _ _ => rfl⟩, by rw [List.length_map, List.length_map, a.length], fun j s e => ?_, fun j e => ?_, fun j hj => ?_, fun j j' a' h1 h2 => ?_⟩
    · rw [List.getElem?_map] at e
      obtain ⟨g, eg, es⟩ := Option.map_eq_some_iff.mp e
      obtain ⟨v, ev, hv⟩ := a.get eg
      rw [List.getElem?_map, ev]
      cases g with
      | d d =>
        subst es
        have : FP j = [] := by rw [hFP]; dsimp only; rw [eg]
        rw [this]
        show [] = [] ∧ Rep B.G S v d
        exact ⟨rfl, hv⟩
      | m i =>
        subst es
        rw [fp_m j i eg]
        have hi : i < ρ.length := by rw [← A.len]; exact (List.getElem?_eq_some_iff.mp hv).1
        have z := A.sl i _ (List.getElem?_eq_getElem hi)
        rw [hv] at z
        have e2 : Arg.sv ρ (.m i) = ρ[i] := by
          show ρ.getD i .un = ρ[i]
          rw [List.getD_eq_getElem?_getD, List.getElem?_eq_getElem hi]
          rfl
        rw [e2]
        exact z.stay (Same.refl _) fun b hb => ⟨rfl, (A.foot hb).1.out, .inl ⟨j, by rw [fp_m j i eg]; exact hb⟩⟩
    · rw [List.getElem?_map, Option.map_eq_none_iff] at e
      rw [hFP]; dsimp only; rw [e]
    · have hj : j ∈ f.pn := hj
      rw [← f2] at hj
      obtain ⟨t, i, e1, e2⟩ := mem_places.mp hj
      rw [Nat.zero_add] at e1
      subst e1
      obtain ⟨v, ev, hv⟩ := a.get e2
      show (vs.map some)[j]? = some (some (vs.getD j .non))
      rw [List.getElem?_map, ev, List.getD_eq_getElem?_getD, ev]
      rfl
    · obtain ⟨i, e1, m1⟩ := fp_of j a' h1
      obtain ⟨i', e2, m2⟩ := fp_of j' a' h2
      have := A.dj i i' a' m1 m2
      subst this
      exact slots_inj f3 e1 e2
  have fin : ∀ os S' H' FP', AbsF B.G (cxC S H FP f.pn vs xF) (vs.map some) os S' H' FP' → Abs B.G c σ (putA ρ as os) S' H' := by
    intro os S' H' FP' A'
    have B1 := A.forgetL (slotsOf as)
    have B2 : AbsF B.G c σ (wipeE ρ (slotsOf as)) S' H' (wipeF F (slotsOf as)) := B1.after (M := fun a => ∃ j, a ∈ FP j) (fun b ⟨j, hb⟩ => by
        obtain ⟨i, e1, m1⟩ := fp_of j b hb
        refine ⟨(A.foot m1).1, fun n hn => ?_⟩
        unfold wipeF at hn
        split at hn
        · cases hn
        · rename_i z
          have := A.dj i n b m1 hn
          subst this
          exact z (mem_slots.mpr ⟨j, e1⟩)) A'.fr.ss A'.fr.sh A'.fr.keep A'.fr.trk A'.fr.dom
    -- what the slots' things are made of: what was handed over, or new
    have src : ∀ j b, b ∈ FP' j → (∃ j0, b ∈ FP j0) ∨ H b = none := fun j b hb => (A'.foot hb).1.may
    refine put_ok as os 0 _ _ FP' B2 (fun j i o e1 e2 => ?_) (fun j n b hb hn => ?_) A'.dj fun j i e => ?_
    · rw [Nat.zero_add]
      obtain ⟨v, ev, hv⟩ := a.get e1
      have z := A'.sl j o e2
      rw [List.getElem?_map, ev] at z
      rw [hv]
      refine SlotOk.stay z (Same.refl _) fun b hb => ⟨rfl, (A'.foot hb).1.out, ?_⟩
      rcases src j b hb with ⟨j0, h0⟩ | h0
      · obtain ⟨i0, _, m0⟩ := fp_of j0 b h0
        exact (A.foot m0).1.may
      · exact .inr (A.fresh h0).2.1
    · unfold wipeF at hn
      split at hn
      · cases hn
      · rename_i z
        rcases src j b hb with ⟨j0, h0⟩ | h0
        · obtain ⟨i0, e0, m0⟩ := fp_of j0 b h0
          have := A.dj i0 n b m0 hn
          subst this
          exact z (mem_slots.mpr ⟨j0, e0⟩)
        · exact (A.foot hn).2 h0
    · obtain ⟨v, _, hv⟩ := a.get e
      exact ⟨_, hv⟩
  exact ⟨S, _, FP, k, x, a.length.trans f1, A0, h, fun v d os S' H' FP' A' r hk => q v d os S' H' (fin os S' H' FP' A') A'.fr.ss r hk, fun ex cls dd os S' H' FP' A' o hk => qx ex cls dd os S' H' (fin os S' H' FP' A') o hk⟩
section
variable {X : Cx} {B : Bd} {f : FD} {k : Nat} {fa : Addr} {fd : FuncData} {ps : List Str} {dvs : List V} {dvu : List Value} {x : Str} {p pos : Pos} {e : Expr} {es : List Expr} {dd : List D} {dm : DM} {dl : DL}
theorem sv_d (ρ : Ev) : ∀ ds : List D, (ds.map Arg.d).map (Arg.sv ρ) = ds.map SV.d
  | [] => rfl
  | d :: ds => by rw [List.map_cons, List.map_cons, List.map_cons, sv_d ρ ds]; rfl
theorem slots_d : ∀ ds : List D, slotsOf (ds.map Arg.d) = []
  | [] => rfl
  | d :: ds => slots_d ds
theorem places_d : ∀ (ds : List D) (n : Nat), placesOf n (ds.map Arg.d) = []
  | [], _ => rfl
  | d :: ds, n => places_d ds (n + 1)
theorem put_d (ρ : Ev) : ∀ (ds : List D) (os : Ev), put ρ (ds.map Arg.d) os = ρ
  | [], os => by cases os <;> rfl
  | d :: ds, [] => rfl
  | d :: ds, o :: os => put_d ρ ds os
theorem imp_call (hd : ∀ S, Reps B.G S dvs dd) : ∀ σ H Q, tD B (dCall f dd dm) σ H Q → tCall (spF B.G f) dvs B.E (tM B dm) σ H Q := fun σ H Q ⟨c, ρ, S, k, w, A, h, q⟩ =>
  ⟨c, ρ, S, _, w, A, h, fun vs as ρ1 S1 H1 ⟨F1, A1⟩ s1 r1 ⟨hf, h1⟩ => sp_use A1 (r1.append (ArgsOk.ofReps (hd S1))) hf h1 (fun v d os S' H' A' s' r' hk => q v d _ S' H' A' (s1.trans s') r' hk)
    fun ex cls dd os S' H' A' o hx => w.go ex cls dd σ _ S' H' A' o hx⟩
theorem imp_callP (hd : ∀ S, Reps B.G S dvs dd) (hn : f.pn = []) : ∀ σ H Q, tD B (dCallP f dd dl) σ H Q → tCall (spF B.G f) dvs B.E (tA B dl) σ H Q := fun σ H Q ⟨c, ρ, S, k, w, A, h, q⟩ =>
  ⟨c, ρ, S, _, w, A, h, fun vs ds ρ1 S1 H1 ⟨F1, A1⟩ s1 r1 ⟨hm, h1⟩ => by
    have a : ArgsOk B.G S1 σ (vs ++ dvs) ((ds ++ dd).map Arg.d) := ArgsOk.ofReps (r1.append (hd S1))
    have hp : ∀ os, putA ρ1 ((ds ++ dd).map Arg.d) os = ρ1 := fun os => by unfold putA; rw [put_d, slots_d]; rfl
    refine sp_use (f := f) A1 a ?_ (by rw [sv_d]; exact h1) (fun v d os S' H' A' s' r' hk => ?_) fun ex cls dd os S' H' A' o hx => ?_
    · unfold fits
      rw [List.length_map, hm, places_d, slots_d, hn]
      simp
    · rw [hp os] at A'
      exact q v d _ S' H' A' (s1.trans s') r' hk
    · rw [hp os] at A'
      exact w.go ex cls dd σ _ S' H' A' o hx⟩
theorem e_call {CX : CXT} (F : FnOk X.prog X.w X.K X.mg X.base CX k fa fd ps (spF B.G f)) (hr : Room k X.A) (hm : X.mg x = some (.ref fa)) (hk : PySem.W.keepIn X.K (.ref fa) = true) (hb : Binds X.K fd ps dvu) (hv : Vals dvs dvu) (hd : ∀ S, Reps B.G S dvs dd) (hx : Passes CX X B.E)
    (ha : PA X (e :: es) (tM B dm)) (hg : Gl X x := by rfl) (hdb : (x == ("__debug__" : Str)) = false := by decide) (he : starEach (e :: es) X.env = (false, eval e X.env) :: starEach es X.env := by rfl) (hpl : (backTo pos (starEach es X.env)).any (·.1) = false := by rfl) :
    PE X (.Call (.Name x p) (e :: es) [] pos) (tD B (dCall f dd dm)) := PE.imp (pe_call F hr hg hm hk hb hv hx ha hdb he hpl) (imp_call hd)
theorem e_callP {CX : CXT} (F : FnOk X.prog X.w X.K X.mg X.base CX k fa fd ps (spF B.G f)) (hr : Room k X.A) (hm : X.mg x = some (.ref fa)) (hk : PySem.W.keepIn X.K (.ref fa) = true) (hb : Binds X.K fd ps dvu) (hv : Vals dvs dvu) (hd : ∀ S, Reps B.G S dvs dd) (hx : Passes CX X B.E)
    (ha : PA X (e :: es) (tA B dl)) (hn : f.pn = [] := by rfl) (hg : Gl X x := by rfl) (hdb : (x == ("__debug__" : Str)) = false := by decide) (he : starEach (e :: es) X.env = (false, eval e X.env) :: starEach es X.env := by rfl) (hpl : (backTo pos (starEach es X.env)).any (·.1) = false := by rfl) :
    PE X (.Call (.Name x p) (e :: es) [] pos) (tD B (dCallP f dd dl)) := PE.imp (pe_call F hr hg hm hk hb hv hx ha hdb he hpl) (imp_callP hd hn)
/-! arguments, some of them slots whose things may be changed -/
def mNil : DM := fun _ ρ k => k [] ρ
def mD (da : DE) (dr : DM) : DM := fun x ρ k => da x ρ fun d ρ1 => dr x ρ1 fun as ρ2 => k (.d d :: as) ρ2
def mM (i : Nat) (dr : DM) : DM := fun x ρ k => (∃ s, ρ[i]? = some s ∧ (∀ d, s ≠ .d d) ∧ s ≠ .un) ∧ dr x ρ fun as ρ2 => k (.m i :: as) ρ2
theorem m_nil : PA X [] (tM B mNil) := PA.imp pa_nil fun σ H Q ⟨c, ρ, S, k, w, A, h, q⟩ => q [] [] ρ S H A (Same.refl S) .nil h
theorem m_d {a : Expr} {da : DE} (ha : PE X a (tD B da)) (hr : PA X es (tM B dm)) (hs : starEach (a :: es) X.env = (false, eval a X.env) :: starEach es X.env := by rfl) : PA X (a :: es) (tM B (mD da dm)) :=
  PA.imp (pa_cons ha hr hs) fun σ H Q ⟨c, ρ, S, k, w, A, h, q⟩ => ⟨c, ρ, S, _, w, A, h, fun v d ρ1 S1 H1 A1 s1 r1 h1 => ⟨c, ρ1, S1, _, w, A1, h1, fun vs as ρ2 S2 H2 A2 s2 r2 h2 =>
    q _ _ ρ2 S2 H2 A2 (s1.trans s2) (.cd (r1.mono s2) r2) h2⟩⟩
theorem m_m (i : Nat) {y : Str} {py : Pos} (hr : PA X es (tM B dm)) (hN : X.N[i]? = some y := by rfl) (hv : Vis X.env.scope y := by first | exact Or.inl rfl | exact Or.inr (Or.inl rfl) | exact Or.inr (Or.inr rfl)) (hd : (y == ("__debug__" : Str)) = false := by decide)
    (hcd : (y == ("__classdict__" : Str)) = false := by decide) (hs : starEach (.Name y py :: es) X.env = (false, eval (.Name y py) X.env) :: starEach es X.env := by rfl) : PA X (.Name y py :: es) (tM B (mM i dm)) :=
  PA.imp (pa_cons (pv i hN hv hd hcd) hr hs) fun σ H Q ⟨c, ρ, S, k, w, ⟨F, A⟩, ⟨⟨s, es, n1, n2⟩, h⟩, q⟩ => by
    have z := A.sl i s es
    cases ev : σ[i]? with
    | none => rw [ev] at z; cases s <;> first | exact (n2 rfl).elim | exact z.elim
    | some v =>
      rw [ev] at z
      cases v with
      | none => cases s <;> first | exact (n2 rfl).elim | exact z.elim
      | some v => exact ⟨v, ev, c, ρ, S, _, w, ⟨F, A⟩, h, fun vs as ρ2 S2 H2 A2 s2 r2 h2 => q _ _ ρ2 S2 H2 A2 s2 (.cm ev r2) h2⟩
end
end Y
namespace Y
open PySem PySem.Spec PyProof.Rows L2

/-! ### flat data; data of lists and tuples as the model's own -/
def flatD : D → Bool
  | .non => true
  | .bl _ => true
  | .int _ => true
  | .str _ => true
  | _ => false
def vOf : D → V
  | .bl b => .bl b
  | .int i => .int i
  | .str x => .str x
  | _ => .non
theorem Rep.flat {G : GC} {S : Hp} {v : V} {d : D} (r : Rep G S v d) (f : flatD d = true) : v = vOf d := by
  cases r <;> first | rfl | cases f
theorem flatV_vOf (d : D) : flatV (vOf d) = true := by cases d <;> rfl
theorem Reps.flat {G : GC} {S : Hp} : ∀ {vs : List V} {ds : List D}, Reps G S vs ds → ds.all flatD = true → vs = ds.map vOf
  | _, _, .nil, _ => rfl
  | _, _, .cons h t, f => by
    rw [List.all_cons, Bool.and_eq_true] at f
    rw [List.map_cons, h.flat f.1, Reps.flat t f.2]
theorem all_flatV (ds : List D) : (ds.map vOf).all flatV = true := by
  rw [List.all_eq_true]
  intro v hv
  obtain ⟨d, _, rfl⟩ := List.mem_map.mp hv
  exact flatV_vOf d
def eqF (d e : D) : Bool := eqV (vOf d) (vOf e)
mutual
def toPy : D → PyData
  | .non => .none
  | .bl b => .bool b
  | .int i => .int i
  | .str x => .str x
  | .tup l => .tuple (toPys l)
  | .lst l => .list (toPys l)
  | .scr ns => .list (ns.map .int)
  | .deck _ => .dict []
  | .dic => .dict []
  | .exc _ => .dict []
def toPys : List D → List PyData
  | [] => []
  | d :: l => toPy d :: toPys l
end
theorem dpAll_ints {K : PySem.W.Frag} {H : Hp} : ∀ ns : List Int, DpAll K H (ns.map V.int) (ns.map PyData.int)
  | [] => .nil
  | n :: ns => .cons (.int n) (dpAll_ints ns)
mutual
theorem Rep.dp {G : GC} {S : Hp} : ∀ {v : V} {d : D}, Rep G S v d → (toPy d).canLay0 = true → Dp G.K S v (toPy d)
  | _, _, .non, _ => .non
  | _, _, .bl b, _ => .bl b
  | _, _, .int i, _ => .int i
  | _, _, .str x, _ => .str x
  | _, _, .tup h r, c => .tup (.inl (.inl h)) (Reps.dp r c)
  | _, _, .lst h r, c => .lst (.inl (.inl h)) (Reps.dp r c)
  | _, _, .scr h, _ => .lst h (dpAll_ints _)
theorem Reps.dp {G : GC} {S : Hp} : ∀ {vs : List V} {ds : List D}, Reps G S vs ds → PyData.canLayAll0 (toPys ds) = true → DpAll G.K S vs (toPys ds)
  | _, _, .nil, _ => .nil
  | v :: vs, d :: ds, .cons h t, c => by
    have c' : (toPy d).canLay0 = true ∧ PyData.canLayAll0 (toPys ds) = true := by simpa [toPys, PyData.canLayAll0] using c
    exact .cons (Rep.dp h c'.1) (Reps.dp t c'.2)
end
mutual
theorem Dp.mono {K : PySem.W.Frag} {H H' : Hp} (e : Same H H') : ∀ {v : V} {d : PyData}, Dp K H v d → Dp K H' v d
  | _, _, .non => .non
  | _, _, .bl b => .bl b
  | _, _, .int i => .int i
  | _, _, .str x => .str x
  | _, _, .lst h r => .lst (e.seq h) (DpAll.mono e r)
  | _, _, .tup h r => .tup (by
      rcases h with (h | ⟨o, h⟩) | h
      · exact .inl (.inl (e _ _ h))
      · exact .inl (.inr ⟨o, e _ _ h⟩)
      · exact .inr h) (DpAll.mono e r)
theorem DpAll.mono {K : PySem.W.Frag} {H H' : Hp} (e : Same H H') : ∀ {vs : List V} {ds : List PyData}, DpAll K H vs ds → DpAll K H' vs ds
  | _, _, .nil => .nil
  | _, _, .cons h t => .cons (Dp.mono e h) (DpAll.mono e t)
end
/-- may be compared -/
def okE (d : D) : Prop := SeqAt.shaped (toPy d) = true
def deq (d e : D) : Bool := PyData.eqv (toPy d) (toPy e)

/-! ### operators -/
theorem OkR.or {G : GC} {r r' : R2} {f g : D2} (h : OkR G r f) (h' : OkR G r' g) : OkR G (fun x y H Q => r x y H Q ∨ r' x y H Q) (fun d e k => f d e k ∨ g d e k) := fun c σ ρ S H F x y dx dy k Q A rx ry hf q =>
  hf.elim (fun hf => .inl (h c σ ρ S H F x y dx dy k Q A rx ry hf q)) fun hf => .inr (h' c σ ρ S H F x y dx dy k Q A rx ry hf q)
/-- a flat outcome -/
theorem fin_s {G : GC} {c : C} {σ : St} {ρ : Ev} {S H : Hp} {F : Nat → List Addr} {k : D → Prop} {Q : VK} {v : V} {d : D} (A : AbsF G c σ ρ S H F) (q : ∀ v d S' H', AbsF G c σ ρ S' H' F → Same S S' → Rep G S' v d → k d → Q v H') (r : Rep G S v d) (h : k d) : Q v H :=
  q v d S H A (Same.refl S) r h
/-- a new tuple, a new list -/
theorem fin_t {G : GC} {c : C} {σ : St} {ρ : Ev} {S H : Hp} {F : Nat → List Addr} {k : D → Prop} {Q : VK} {vs : List V} {ds : List D} (A : AbsF G c σ ρ S H F) (q : ∀ v d S' H', AbsF G c σ ρ S' H' F → Same S S' → Rep G S' v d → k d → Q v H') (r : Reps G S vs ds) (h : k (.tup ds)) :
    ∀ p, H p = none → Q (.ref p) (upd H p (.tup vs)) := fun p hp => q _ _ _ _ (A.new hp) (same_upd (A.fresh hp).1) (.tup upd_same (r.mono (same_upd (A.fresh hp).1))) h
theorem fin_l {G : GC} {c : C} {σ : St} {ρ : Ev} {S H : Hp} {F : Nat → List Addr} {k : D → Prop} {Q : VK} {vs : List V} {ds : List D} (A : AbsF G c σ ρ S H F) (q : ∀ v d S' H', AbsF G c σ ρ S' H' F → Same S S' → Rep G S' v d → k d → Q v H') (r : Reps G S vs ds) (h : k (.lst ds)) :
    ∀ p, H p = none → Q (.ref p) (upd H p (.lst vs)) := fun p hp => q _ _ _ _ (A.new hp) (same_upd (A.fresh hp).1) (.lst upd_same (r.mono (same_upd (A.fresh hp).1))) h
theorem fin_o {G : GC} {c : C} {σ : St} {ρ : Ev} {S H : Hp} {F : Nat → List Addr} {k : List D → Prop} {Q : VK} {vs : List V} {ds : List D} (A : AbsF G c σ ρ S H F)
    (q : ∀ p vs ds H', AbsF G c σ ρ S H' F → H p = none → H' p = some (.lst vs) → Reps G S vs ds → k ds → Q (.ref p) H') (r : Reps G S vs ds) (h : k ds) :
    ∀ p, H p = none → Q (.ref p) (upd H p (.lst vs)) := fun p hp => q p vs ds _ (A.newO hp) hp upd_same r h
def lim : Nat := 100000
theorem lim_le {n : Nat} (h : n ≤ lim) : n ≤ sizeLine := Nat.le_trans h (by decide)
theorem lim_lt {n : Nat} (h : n < lim) : n < sizeLine := Nat.lt_of_lt_of_le h (by decide)
def fInt (C : Int → Int → Prop) (g : Int → Int → D) : D2 := fun d e k => match d, e with
  | .int i, .int j => C i j ∧ k (g i j)
  | _, _ => False
theorem ok_int {G : GC} {C : Int → Int → Prop} {g : Int → Int → Int} : OkR G (rI C fun i j => .int (g i j)) (fInt C fun i j => .int (g i j)) := fun c σ ρ S H F x y dx dy k Q A rx ry hf q => by
  unfold fInt at hf
  split at hf
  · cases rx; cases ry
    exact ⟨_, _, rfl, rfl, hf.1, fin_s A q (.int _) hf.2⟩
  · exact hf.elim
def fInt0 (g : Int → Int → D) : D2 := fun d e k => match d, e with
  | .int i, .int j => k (g i j)
  | _, _ => False
theorem ok_int0 {G : GC} {g : Int → Int → Int} : OkR G (rI0 fun i j => .int (g i j)) (fInt0 fun i j => .int (g i j)) := fun c σ ρ S H F x y dx dy k Q A rx ry hf q => by
  unfold fInt0 at hf
  split at hf
  · cases rx; cases ry
    exact ⟨_, _, rfl, rfl, fin_s A q (.int _) hf⟩
  · exact hf.elim
theorem ok_intB {G : GC} {g : Int → Int → Bool} : OkR G (rI0 fun i j => .bl (g i j)) (fInt0 fun i j => .bl (g i j)) := fun c σ ρ S H F x y dx dy k Q A rx ry hf q => by
  unfold fInt0 at hf
  split at hf
  · cases rx; cases ry
    exact ⟨_, _, rfl, rfl, fin_s A q (.bl _) hf⟩
  · exact hf.elim
abbrev fSub : D2 := fInt0 fun i j => .int (i - j)
abbrev fLt : D2 := fInt0 fun i j => .bl (decide (i < j))
abbrev fLe : D2 := fInt0 fun i j => .bl (decide (i ≤ j))
abbrev fGt : D2 := fInt0 fun i j => .bl (decide (j < i))
abbrev fGe : D2 := fInt0 fun i j => .bl (decide (j ≤ i))
abbrev fDiv : D2 := fInt CDivW fun i j => .int (i / j)
abbrev fMod : D2 := fInt (fun _ j => 0 < j) fun i j => .int (i % j)
abbrev fMulI : D2 := fInt CMulW fun i j => .int (i * j)
/-- a + b: numbers, texts, lists, tuples -/
def fAdd : D2 := fun d e k => match d, e with
  | .int i, .int j => k (.int (i + j))
  | .str a, .str b => a.length + b.length ≤ lim ∧ k (.str (a ++ b))
  | .lst a, .lst b => a.length + b.length ≤ lim ∧ k (.lst (a ++ b))
  | .tup a, .tup b => a ≠ [] ∧ b ≠ [] ∧ a.length + b.length ≤ lim ∧ k (.tup (a ++ b))
  | _, _ => False
abbrev rAddI : R2 := rI0 fun i j => .int (i + j)
abbrev rAddS : R2 := fun x y H Q => ∃ i j, x = .str i ∧ y = .str j ∧ i.length + j.length ≤ sizeLine ∧ Q (.str (i ++ j)) H
def rAddA (K : PySem.W.Frag) : R2 := fun x y H Q => ((rAddI x y H Q ∨ rAddS x y H Q) ∨ rCat x y H Q) ∨ rCatT K x y H Q
theorem op_addA {X : Cx} : OpR X (binaryOp .Add) (rAddA X.K) := ((op_add.or op_add_str).or op_cat).or op_catT
theorem ok_add {G : GC} : OkR G (rAddA G.K) fAdd := fun c σ ρ S H F x y dx dy k Q A rx ry hf q => by
  unfold fAdd at hf
  split at hf
  · cases rx; cases ry
    exact .inl (.inl (.inl ⟨_, _, rfl, rfl, fin_s A q (.int _) hf⟩))
  · cases rx; cases ry
    exact .inl (.inl (.inr ⟨_, _, rfl, rfl, lim_le hf.1, fin_s A q (.str _) hf.2⟩))
  · cases rx with
    | lst e1 r1 =>
      cases ry with
      | lst e2 r2 => exact .inl (.inr ⟨_, _, _, _, rfl, rfl, A.fr.sh _ _ e1, A.fr.sh _ _ e2, by rw [r1.length, r2.length]; exact lim_le hf.1, fin_l A q (r1.append r2) hf.2⟩)
  · cases rx with
    | tup e1 r1 =>
      cases ry with
      | tup e2 r2 =>
        obtain ⟨h1, h2, h3, h4⟩ := hf
        refine .inr ⟨_, _, _, _, rfl, rfl, .inl (.inl (A.fr.sh _ _ e1)), .inl (.inl (A.fr.sh _ _ e2)), fun z => ?_, by rw [r1.length, r2.length]; exact lim_le h3, fun z => ?_, fun _ => fin_t A q (r1.append r2) h4⟩
        · subst z; cases r1; exact h1 rfl
        · subst z; cases r2; exact absurd rfl h2
  · exact hf.elim
/-- .. of two lists, own -/
def fCat : D2L := fun d e k => match d, e with
  | .lst a, .lst b => a.length + b.length ≤ lim ∧ k (a ++ b)
  | _, _ => False
theorem ok_cat {G : GC} : OkRL G rCat fCat := fun c σ ρ S H F x y dx dy k Q A rx ry hf q => by
  unfold fCat at hf
  split at hf
  · cases rx with
    | lst e1 r1 =>
      cases ry with
      | lst e2 r2 => exact ⟨_, _, _, _, rfl, rfl, A.fr.sh _ _ e1, A.fr.sh _ _ e2, by rw [r1.length, r2.length]; exact lim_le hf.1, fin_o A q (r1.append r2) hf.2⟩
  · exact hf.elim
theorem Reps.rep {G : GC} {S : Hp} {vs : List V} {ds : List D} (r : Reps G S vs ds) : ∀ k : Nat, Reps G S (List.replicate k vs).flatten (List.replicate k ds).flatten
  | 0 => .nil
  | k + 1 => by
    rw [List.replicate_succ, List.replicate_succ, List.flatten_cons, List.flatten_cons]
    exact r.append (Reps.rep r k)
/-- xs * n -/
def fRepL : D2L := fun d e k => match d, e with
  | .lst a, .int n => -(2 ^ 63) ≤ n ∧ n < 2 ^ 63 ∧ a.length * n.toNat ≤ lim ∧ k (List.replicate n.toNat a).flatten
  | _, _ => False
theorem ok_repL {G : GC} : OkRL G rRep fRepL := fun c σ ρ S H F x y dx dy k Q A rx ry hf q => by
  unfold fRepL at hf
  split at hf
  · cases rx with
    | lst e1 r1 =>
      cases ry
      exact ⟨_, _, _, rfl, rfl, A.fr.sh _ _ e1, hf.1, hf.2.1, by rw [r1.length]; exact lim_le hf.2.2.1, fin_o A q (r1.rep _) hf.2.2.2⟩
  · exact hf.elim
/-- a * b: numbers; a list and a number -/
def fMul : D2 := fun d e k => match d, e with
  | .int i, .int j => CMulW i j ∧ k (.int (i * j))
  | .lst a, .int n => -(2 ^ 63) ≤ n ∧ n < 2 ^ 63 ∧ a.length * n.toNat ≤ lim ∧ k (.lst (List.replicate n.toNat a).flatten)
  | _, _ => False
def rMulA : R2 := fun x y H Q => (rI CMulW fun i j => .int (i * j)) x y H Q ∨ rRep x y H Q
theorem op_mulA {X : Cx} : OpR X (binaryOp .Mult) rMulA := op_mulW.or op_rep
theorem ok_mul {G : GC} : OkR G rMulA fMul := fun c σ ρ S H F x y dx dy k Q A rx ry hf q => by
  unfold fMul at hf
  split at hf
  · cases rx; cases ry
    exact .inl ⟨_, _, rfl, rfl, hf.1, fin_s A q (.int _) hf.2⟩
  · cases rx with
    | lst e1 r1 =>
      cases ry
      exact .inr ⟨_, _, _, rfl, rfl, A.fr.sh _ _ e1, hf.1, hf.2.1, by rw [r1.length]; exact lim_le hf.2.2.1, fin_l A q (r1.rep _) hf.2.2.2⟩
  · exact hf.elim
/-- ==, != of data -/
def fEq : D2 := fun d e k => okE d ∧ okE e ∧ k (.bl (deq d e))
def fNe : D2 := fun d e k => okE d ∧ okE e ∧ k (.bl (!deq d e))
theorem okE.lay {d : D} (h : okE d) : (toPy d).canLay0 = true := SeqAt.canLay_of_shaped h
theorem ok_eq {G : GC} : OkR G (rEqD G.K) fEq := fun c σ ρ S H F x y dx dy k Q A rx ry hf q =>
  ⟨_, _, Dp.mono A.fr.sh (rx.dp hf.1.lay), Dp.mono A.fr.sh (ry.dp hf.2.1.lay), hf.1, hf.2.1, fin_s A q (.bl _) hf.2.2⟩
theorem ok_ne {G : GC} : OkR G (rNeD G.K) fNe := fun c σ ρ S H F x y dx dy k Q A rx ry hf q =>
  ⟨_, _, Dp.mono A.fr.sh (rx.dp hf.1.lay), Dp.mono A.fr.sh (ry.dp hf.2.1.lay), hf.1, hf.2.1, fin_s A q (.bl _) hf.2.2⟩
/-- x in xs, x not in xs: flat things -/
def fIn (neg : Bool) : D2 := fun d e k => flatD d = true ∧ match e with
  | .lst ds => ds.all flatD = true ∧ k (.bl (if neg then !(ds.any fun y => eqF y d) else ds.any fun y => eqF y d))
  | .tup ds => ds.all flatD = true ∧ k (.bl (if neg then !(ds.any fun y => eqF y d) else ds.any fun y => eqF y d))
  | _ => False
theorem inV_map (d : D) : ∀ ds : List D, inV (vOf d) (ds.map vOf) = ds.any fun y => eqF y d
  | [] => rfl
  | e :: ds => by
    have := inV_map d ds
    unfold inV at this ⊢
    rw [List.map_cons, List.any_cons, List.any_cons, this]
    rfl
theorem ok_in {G : GC} {neg : Bool} : OkR G (rIn G.K neg) (fIn neg) := fun c σ ρ S H F x y dx dy k Q A rx ry hf q => by
  obtain ⟨fd, hf⟩ := hf
  have ex := rx.flat fd
  subst ex
  split at hf
  · cases ry with
    | lst e r =>
      have e2 := r.flat hf.1
      subst e2
      refine ⟨_, _, rfl, .inl (.inl (.inl (A.fr.sh _ _ e))), flatV_vOf _, all_flatV _, ?_⟩
      rw [inV_map]
      exact fin_s A q (.bl _) hf.2
  · cases ry with
    | tup e r =>
      have e2 := r.flat hf.1
      subst e2
      refine ⟨_, _, rfl, .inr (.inl (.inl (A.fr.sh _ _ e))), flatV_vOf _, all_flatV _, ?_⟩
      rw [inV_map]
      exact fin_s A q (.bl _) hf.2
  · exact hf.elim
/-- is None, is True -/
def isNon : D → Bool
  | .non => true
  | _ => false
def fIsN (neg : Bool) : D2 := fun d e k => match e with
  | .non => k (.bl (if neg then !isNon d else isNon d))
  | _ => False
theorem rep_non {G : GC} {S : Hp} {v : V} {d : D} (r : Rep G S v d) : decide (v = .non) = isNon d := by cases r <;> rfl
abbrev rIsN' : R2 := fun x y H Q => y = .non ∧ Q (.bl (decide (x = .non))) H
abbrev rNotN' : R2 := fun x y H Q => y = .non ∧ Q (.bl (!decide (x = .non))) H
theorem ok_isN {G : GC} : OkR G rIsN' (fIsN false) := fun c σ ρ S H F x y dx dy k Q A rx ry hf q => by
  unfold fIsN at hf
  split at hf
  · cases ry
    refine ⟨rfl, ?_⟩
    rw [rep_non rx]
    exact fin_s A q (.bl _) hf
  · exact hf.elim
theorem ok_notN {G : GC} : OkR G rNotN' (fIsN true) := fun c σ ρ S H F x y dx dy k Q A rx ry hf q => by
  unfold fIsN at hf
  split at hf
  · cases ry
    refine ⟨rfl, ?_⟩
    rw [rep_non rx]
    exact fin_s A q (.bl _) hf
  · exact hf.elim
def fIsB : D2 := fun d e k => match d, e with
  | .bl a, .bl b => k (.bl (decide (a = b)))
  | _, _ => False
theorem ok_isB {G : GC} : OkR G rIsB fIsB := fun c σ ρ S H F x y dx dy k Q A rx ry hf q => by
  unfold fIsB at hf
  split at hf
  · cases rx; cases ry
    exact ⟨_, _, rfl, rfl, fin_s A q (.bl _) hf⟩
  · exact hf.elim

/-! ### items -/
/-- xs[i] -/
def fIx : D2 := fun d e k => match d, e with
  | .lst ds, .int i => ∃ z, atI ds i = some z ∧ k z
  | .tup ds, .int i => ∃ z, atI ds i = some z ∧ k z
  | .scr ns, .int i => ∃ z, atI ns i = some z ∧ k (.int z)
  | _, _ => False
theorem atI_map {α β : Type} {f : α → β} {l : List α} {i : Int} {z : α} (h : L2.atI l i = some z) : L2.atI (l.map f) i = some (f z) := by
  unfold L2.atI at h ⊢
  rw [List.length_map]
  cases e : ixN l.length i with
  | none => rw [e] at h; cases h
  | some j =>
    rw [e] at h
    have h : l[j]? = some z := h
    show (l.map f)[j]? = some (f z)
    rw [List.getElem?_map, h]
    rfl
theorem Reps.atI {G : GC} {S : Hp} {vs : List V} {ds : List D} (r : Reps G S vs ds) {i : Int} {z : D} (h : L2.atI ds i = some z) : ∃ v, L2.atI vs i = some v ∧ Rep G S v z := by
  unfold L2.atI at h ⊢
  rw [r.length]
  cases e : ixN ds.length i with
  | none => rw [e] at h; cases h
  | some j =>
    rw [e] at h
    exact r.get h
abbrev rIxA (K : PySem.W.Frag) : R2 := fun x y H Q => rIxL K x y H Q ∨ rIxT K x y H Q
theorem ix_a {X : Cx} : IxR X (rIxA X.K) := ix_list.or ix_tup
theorem ok_ix {G : GC} : OkR G (rIxA G.K) fIx := fun c σ ρ S H F x y dx dy k Q A rx ry hf q => by
  unfold fIx at hf
  split at hf
  · cases rx with
    | lst e r =>
      cases ry
      obtain ⟨z, hz, hk⟩ := hf
      obtain ⟨v, hv, rv⟩ := r.atI hz
      exact .inl ⟨_, _, _, _, rfl, rfl, .inl (.inl (A.fr.sh _ _ e)), hv, fin_s A q rv hk⟩
  · cases rx with
    | tup e r =>
      cases ry
      obtain ⟨z, hz, hk⟩ := hf
      obtain ⟨v, hv, rv⟩ := r.atI hz
      exact .inr ⟨_, _, _, _, rfl, rfl, .inl (.inl (A.fr.sh _ _ e)), hv, fin_s A q rv hk⟩
  · cases rx with
    | scr e =>
      cases ry
      obtain ⟨z, hz, hk⟩ := hf
      exact .inl ⟨_, _, _, _, rfl, rfl, A.fr.sh.seq e, atI_map hz, fin_s A q (.int _) hk⟩
  · exact hf.elim
section
variable {X : Cx} {B : Bd} {a b e : Expr} {da db : DE} {pos p2 : Pos}
theorem e_ix (hK : X.K = B.G.K) (ha : PE X a (tD B da)) (hb : PE X b (tD B db)) (hs : PlainIx b := by exact fun _ _ => rfl) : PE X (.Subscript a b pos) (tD B (dOp fIx da db)) := PE.imp (pe_ix ix_a ha hb hs) (by rw [hK]; exact imp_op ok_ix)
/-! slices -/
abbrev DP := KX → Ev → (Option Int → Ev → Prop) → Prop
def tP (B : Bd) (dp : DP) : TO := fun σ H Q => ∃ c ρ S k, Wish B c ∧ Abs B.G c σ ρ S H ∧ dp c.x ρ k ∧ ∀ o ρ' S' H', Abs B.G c σ ρ' S' H' → Same S S' → k o ρ' → Q o H'
def pNone : DP := fun _ ρ k => k none ρ
def pSome (da : DE) : DP := fun x ρ k => da x ρ fun d ρ1 => match d with
  | .int i => k (some i) ρ1
  | _ => False
theorem PO.imp {o : Option Expr} {t t' : TO} (h : PO X o t) (i : ∀ σ H Q, t' σ H Q → t σ H Q) : PO X o t' := ⟨fun pins s σ H Q I q => h.run pins s σ H Q I (i _ _ _ q)⟩
theorem p_none : PO X none (tP B pNone) := PO.imp po_none fun σ H Q ⟨c, ρ, S, k, w, A, h, q⟩ => q none ρ S H A (Same.refl S) h
theorem p_some (ha : PE X a (tD B da)) : PO X (some a) (tP B (pSome da)) := PO.imp (po_some ha) fun σ H Q ⟨c, ρ, S, k, w, A, h, q⟩ =>
  tD_use w A h fun v d ρ1 S1 H1 A1 s1 r1 h1 => by
    cases r1 with
    | int i => exact ⟨i, rfl, q _ ρ1 S1 H1 A1 s1 h1⟩
    | _ => exact h1.elim
def cutD (xs : List D) (lo hi : Option Int) : List D := (xs.drop (HT.sIx xs.length 0 lo)).take (HT.sIx xs.length xs.length hi - HT.sIx xs.length 0 lo)
theorem Reps.cut {G : GC} {S : Hp} {vs : List V} {ds : List D} (r : Reps G S vs ds) (lo hi : Option Int) : Reps G S (cutV vs lo hi) (cutD ds lo hi) := by
  unfold cutV cutD
  rw [r.length]
  exact (r.drop _).take _
/-- xs[a:b] of a list, own -/
def oSl (da : DE) (dl dh : DP) : DL := fun x ρ k => da x ρ fun d ρ1 => dl x ρ1 fun lo ρ2 => dh x ρ2 fun hi ρ3 => match d with
  | .lst ds => k (cutD ds lo hi) ρ3
  | _ => False
theorem eo_sl {lo hi : Option Expr} {dl dh : DP} (hK : X.K = B.G.K) (he : PE X e (tD B da)) (hl : PO X lo (tP B dl)) (hu : PO X hi (tP B dh)) : PE X (.Subscript e (.Slice lo hi none p2) pos) (tO B (oSl da dl dh)) :=
  PE.imp (pe_slice sl_list he hl hu) fun σ H Q ⟨c, ρ, S, k, w, A, h, q⟩ => tD_use w A h fun v d ρ1 S1 H1 A1 s1 r1 h1 => ⟨c, ρ1, S1, _, w, A1, h1, fun lo ρ2 S2 H2 A2 s2 h2 => ⟨c, ρ2, S2, _, w, A2, h2, fun hi ρ3 S3 H3 ⟨F3, A3⟩ s3 h3 => by
    cases (r1.mono s2).mono s3 with
    | lst e r =>
      rw [hK]
      refine ⟨_, _, rfl, .inl (.inl (A3.fr.sh _ _ e)), fun p hp => ?_⟩
      obtain ⟨z1, z2, z3⟩ := A3.fresh hp
      exact q p _ _ ρ3 S3 _ F3 (A3.newO hp) ((s1.trans s2).trans s3) z3 z1 z2 upd_same (r.cut lo hi) h3
    | _ => exact h3.elim⟩⟩
/-- xs[::-1] -/
def oRev (da : DE) : DL := fun x ρ k => da x ρ fun d ρ1 => match d with
  | .lst ds => k ds.reverse ρ1
  | _ => False
theorem eo_rev {k1 : Nat} {q1 q2 q3 : Pos} (hK : X.K = B.G.K) (he : PE X e (tD B da)) : PE X (.Subscript e (.Slice none none (some (.UnaryOp .USub (.Constant (.int 1) k1 q1) q2)) q3) pos) (tO B (oRev da)) :=
  PE.imp (pe_revL he) fun σ H Q ⟨c, ρ, S, k, w, A, h, q⟩ => tD_use w A h fun v d ρ1 S1 H1 ⟨F1, A1⟩ s1 r1 h1 => by
    cases r1 with
    | lst e r =>
      rw [hK]
      refine ⟨_, _, rfl, .inl (.inl (A1.fr.sh _ _ e)), fun p hp => ?_⟩
      obtain ⟨z1, z2, z3⟩ := A1.fresh hp
      exact q p _ _ ρ1 S1 _ F1 (A1.newO hp) s1 z3 z1 z2 upd_same r.reverse h1
    | _ => exact h1.elim
/-- -n -/
def dNeg (da : DE) : DE := fun x ρ k => da x ρ fun d ρ1 => match d with
  | .int i => k (.int (-i)) ρ1
  | _ => False
theorem e_neg (ha : PE X a (tD B da)) : PE X (.UnaryOp .USub a pos) (tD B (dNeg da)) := PE.imp (pe_un un_neg ha) fun σ H Q ⟨c, ρ, S, k, w, A, h, q⟩ => tD_use w A h fun v d ρ1 S1 H1 A1 s1 r1 h1 => by
  cases r1 with
  | int i => exact ⟨i, rfl, q _ _ ρ1 S1 H1 A1 s1 (.int _) h1⟩
  | _ => exact h1.elim
end

/-! ### built-in functions -/
/-- len -/
def fLen : DF := fun ds k => match ds with
  | [.lst l] => k (.int l.length)
  | [.tup l] => k (.int l.length)
  | [.scr l] => k (.int l.length)
  | [.str z] => z.length ≤ lim ∧ k (.int z.length)
  | _ => False
abbrev rLenA (K : PySem.W.Frag) : List V → Hp → VK → Prop := fun xs H Q => (∃ p ys, xs = [.ref p] ∧ (SqL K H p ys ∨ SqT K H p ys) ∧ Q (.int ys.length) H) ∨ (∃ z, xs = [.str z] ∧ z.length ≤ sizeLine ∧ Q (.int z.length) H)
theorem call_lenA {X : Cx} : CallR X (.builtin "len") (rLenA X.K) := call_len_seq.or call_len_str
theorem ok_len {G : GC} : OkC G (rLenA G.K) fLen := fun c σ ρ S H F vs ds k Q A r hf q => by
  unfold fLen at hf
  split at hf
  · cases r with
    | cons r1 rr =>
      cases rr
      cases r1 with
      | lst e r => exact .inl ⟨_, _, rfl, .inl (.inl (.inl (A.fr.sh _ _ e))), by rw [r.length]; exact fin_s A q (.int _) hf⟩
  · cases r with
    | cons r1 rr =>
      cases rr
      cases r1 with
      | tup e r => exact .inl ⟨_, _, rfl, .inr (.inl (.inl (A.fr.sh _ _ e))), by rw [r.length]; exact fin_s A q (.int _) hf⟩
  · cases r with
    | cons r1 rr =>
      cases rr
      cases r1 with
      | scr e => exact .inl ⟨_, _, rfl, .inl (A.fr.sh.seq e), by rw [List.length_map]; exact fin_s A q (.int _) hf⟩
  · cases r with
    | cons r1 rr =>
      cases rr
      cases r1 with
      | str z => exact .inr ⟨_, rfl, lim_le hf.1, fin_s A q (.int _) hf.2⟩
  · exact hf.elim
/-- list(xs) of a list or a tuple -/
def fList : DFL := fun ds k => match ds with
  | [.lst l] => k l
  | [.tup l] => k l
  | [.scr l] => k (l.map .int)
  | _ => False
abbrev rListO (K : PySem.W.Frag) : List V → Hp → VK → Prop := fun xs H Q => ∃ p ys, xs = [.ref p] ∧ (SqL K H p ys ∨ SqT K H p ys) ∧ ∀ l, H l = none → Q (.ref l) (upd H l (.lst ys))
theorem ok_list {G : GC} : OkCL G (rListO G.K) fList := fun c σ ρ S H F vs ds k Q A r hf q => by
  unfold fList at hf
  split at hf
  · cases r with
    | cons r1 rr =>
      cases rr
      cases r1 with
      | lst e r => exact ⟨_, _, rfl, .inl (.inl (.inl (A.fr.sh _ _ e))), fin_o A q r hf⟩
  · cases r with
    | cons r1 rr =>
      cases rr
      cases r1 with
      | tup e r => exact ⟨_, _, rfl, .inr (.inl (.inl (A.fr.sh _ _ e))), fin_o A q r hf⟩
  · cases r with
    | cons r1 rr =>
      cases rr
      cases r1 with
      | scr e => exact ⟨_, _, rfl, .inl (A.fr.sh.seq e), fin_o A q (.of_ints _) hf⟩
  · exact hf.elim
/-- a list of ints, of truths, as such -/
def intsOf : List D → Option (List Int)
  | [] => some []
  | .int i :: l => (intsOf l).map (i :: ·)
  | _ :: _ => none
def blsOf : List D → Option (List Bool)
  | [] => some []
  | .bl i :: l => (blsOf l).map (i :: ·)
  | _ :: _ => none
theorem intsOf_map : ∀ ns : List Int, intsOf (ns.map D.int) = some ns
  | [] => rfl
  | n :: ns => by
    show (intsOf (ns.map D.int)).map (n :: ·) = _
    rw [intsOf_map ns]
    rfl
theorem blsOf_map : ∀ ns : List Bool, blsOf (ns.map D.bl) = some ns
  | [] => rfl
  | n :: ns => by
    show (blsOf (ns.map D.bl)).map (n :: ·) = _
    rw [blsOf_map ns]
    rfl
theorem intsOf_eq : ∀ {l : List D} {ns : List Int}, intsOf l = some ns → l = ns.map D.int
  | [], _, h => by cases h; rfl
  | .int i :: l, ns, h => by
    obtain ⟨ms, h1, h2⟩ := Option.map_eq_some_iff.mp (show (intsOf l).map (i :: ·) = some ns from h)
    subst h2
    rw [intsOf_eq h1]
    rfl
theorem blsOf_eq : ∀ {l : List D} {ns : List Bool}, blsOf l = some ns → l = ns.map D.bl
  | [], _, h => by cases h; rfl
  | .bl i :: l, ns, h => by
    obtain ⟨ms, h1, h2⟩ := Option.map_eq_some_iff.mp (show (blsOf l).map (i :: ·) = some ns from h)
    subst h2
    rw [blsOf_eq h1]
    rfl
def fAll : DF := fun ds k => match ds with
  | [.lst l] => ∃ bs, blsOf l = some bs ∧ k (.bl (bs.all id))
  | _ => False
def fAny : DF := fun ds k => match ds with
  | [.lst l] => ∃ bs, blsOf l = some bs ∧ k (.bl (bs.any id))
  | _ => False
def fSum : DF := fun ds k => match ds with
  | [.lst l] => ∃ ns, intsOf l = some ns ∧ k (.int ns.sum)
  | _ => False
theorem ok_all {G : GC} : OkC G (rAll G.K) fAll := fun c σ ρ S H F vs ds k Q A r hf q => by
  unfold fAll at hf
  split at hf
  · obtain ⟨bs, e, hk⟩ := hf
    have e := blsOf_eq e
    subst e
    cases r with
    | cons r1 rr =>
      cases rr
      cases r1 with
      | lst e r =>
        have e2 := r.bls
        subst e2
        exact ⟨_, _, rfl, .inl (.inl (A.fr.sh _ _ e)), fin_s A q (.bl _) hk⟩
  · exact hf.elim
theorem ok_any {G : GC} : OkC G (rAny G.K) fAny := fun c σ ρ S H F vs ds k Q A r hf q => by
  unfold fAny at hf
  split at hf
  · obtain ⟨bs, e, hk⟩ := hf
    have e := blsOf_eq e
    subst e
    cases r with
    | cons r1 rr =>
      cases rr
      cases r1 with
      | lst e r =>
        have e2 := r.bls
        subst e2
        exact ⟨_, _, rfl, .inl (.inl (A.fr.sh _ _ e)), fin_s A q (.bl _) hk⟩
  · exact hf.elim
theorem ok_sum {G : GC} : OkC G (rSum G.K) fSum := fun c σ ρ S H F vs ds k Q A r hf q => by
  unfold fSum at hf
  split at hf
  · obtain ⟨bs, e, hk⟩ := hf
    have e := intsOf_eq e
    subst e
    cases r with
    | cons r1 rr =>
      cases rr
      cases r1 with
      | lst e r =>
        have e2 := r.ints
        subst e2
        exact ⟨_, _, rfl, .inl (.inl (A.fr.sh _ _ e)), fin_s A q (.int _) hk⟩
  · exact hf.elim
/-- isinstance(x, T), T a built-in class -/
def tyN : D → Option String
  | .non => some "NoneType"
  | .bl _ => some "bool"
  | .int _ => some "int"
  | .str _ => some "str"
  | .tup _ => some "tuple"
  | .lst _ => some "list"
  | .scr _ => some "list"
  | .dic => some "dict"
  | .deck _ => none
  | .exc _ => none
def isTy (T : String) (n : String) : Bool := n == T || (n == "bool" && T == "int")
def tyTs : List String := ["int", "bool", "str", "tuple", "list", "dict"]
theorem kitB_ok : ∀ T ∈ tyTs, ∀ n ∈ ["NoneType", "bool", "int", "str", "tuple", "list", "dict"], kitB n T = some (isTy T n) := by decide +kernel
theorem tyN_mem {d : D} {n : String} (h : tyN d = some n) : n ∈ ["NoneType", "bool", "int", "str", "tuple", "list", "dict"] := by
  cases d <;> cases h <;> decide
theorem Rep.ty {G : GC} {S : Hp} {v : V} {d : D} {n : String} (r : Rep G S v d) (h : tyN d = some n) : TyX G.K S v (.type n) := by
  cases r with
  | non => cases h; exact .base .non
  | bl b => cases h; exact .base (.bl b)
  | int b => cases h; exact .base (.int b)
  | str b => cases h; exact .base (.str b)
  | tup e _ => cases h; exact .base (.tup e)
  | lst e _ => cases h; exact .base (.lst e)
  | deck _ _ _ => cases h
  | dic e => cases h; exact .base (.dK e)
  | exc _ => cases h
  | scr e =>
    cases h
    rcases e with (e | ⟨o, e⟩) | ⟨o, its, n, e, hc, _⟩
    · exact .base (.lst e)
    · exact .base (.frz e)
    · exact .kList e hc
inductive TK where
  | int | bool | str | tup | lst | dct
def TK.nm : TK → String
  | .int => "int"
  | .bool => "bool"
  | .str => "str"
  | .tup => "tuple"
  | .lst => "list"
  | .dct => "dict"
/-- is it of that class -/
def isK : TK → D → Option Bool
  | _, .deck _ => none
  | _, .exc _ => none
  | .int, .int _ => some true
  | .int, .bl _ => some true
  | .bool, .bl _ => some true
  | .str, .str _ => some true
  | .tup, .tup _ => some true
  | .lst, .lst _ => some true
  | .lst, .scr _ => some true
  | .dct, .dic => some true
  | _, _ => some false
theorem isK_ok {T : TK} {d : D} {b : Bool} (h : isK T d = some b) : ∃ n, tyN d = some n ∧ isTy T.nm n = b := by
  cases T <;> cases d <;> cases h <;> exact ⟨_, rfl, by decide⟩
theorem TK.mem (T : TK) : T.nm ∈ tyTs := by cases T <;> decide
def dIsi (T : TK) (da : DE) : DE := fun x ρ k => da x ρ fun d ρ1 => ∃ b, isK T d = some b ∧ k (.bl b) ρ1
section
variable {X : Cx} {B : Bd} {a : Expr} {da : DE} {p p2 pos : Pos}
theorem e_isi (T : TK) (hK : X.K = B.G.K) (hm : X.mg "isinstance" = none) (hmT : X.mg (Str.ofString T.nm) = none) (hvT : bootBuiltins (Str.ofString T.nm) = some (.type T.nm)) (ha : PE X a (tD B da)) (hg : Gl X "isinstance") (hgT : Gl X (Str.ofString T.nm)) (hnT : Str.ofString T.nm ≠ "__name__") (hdT : (Str.ofString T.nm == ("__debug__" : Str)) = false)
    (he : starEach [a, .Name (Str.ofString T.nm) p2] X.env = (false, eval a X.env) :: starEach [.Name (Str.ofString T.nm) p2] X.env := by rfl) (hs2 : starEach [.Name (Str.ofString T.nm) p2] X.env = (false, eval (.Name (Str.ofString T.nm) p2) X.env) :: starEach [] X.env := by rfl) (hpl : (backTo pos (starEach [.Name (Str.ofString T.nm) p2] X.env)).any (·.1) = false := by rfl) :
    PE X (.Call (.Name "isinstance" p) [a, .Name (Str.ofString T.nm) p2] [] pos) (tD B (dIsi T da)) :=
  PE.imp (pe_callB call_isi hg hm (by decide +kernel) (pa_cons ha (pa_cons (pe_bltn (v := .ty T.nm) hgT hmT hvT rfl hnT hdT) pa_nil hs2) he) (by decide) (by decide) he hpl) fun σ H Q ⟨c, ρ, S, k, w, A, h, q⟩ => tD_use w A h fun v d ρ1 S1 H1 ⟨F1, A1⟩ s1 r1 ⟨b, hb, hk⟩ => by
    obtain ⟨n, hn, e⟩ := isK_ok hb
    subst e
    rw [hK]
    have ht := r1.ty hn
    have ht2 : TyX B.G.K H1 v (.type n) := by
      have := (r1.mono A1.fr.sh).ty hn
      exact this
    exact ⟨v, _, _, _, _, rfl, .ty T.nm, ht2, kit_ty (kitB_ok T.nm T.mem n (tyN_mem hn)), q _ _ ρ1 S1 H1 ⟨F1, A1⟩ s1 (.bl _) hk⟩
end
end Y
namespace Y
open PySem PySem.Spec PyProof.Rows L2

/-! ### an own list looked at, its outcome flat -/
def hide (ρ : Ev) : Ev := ρ.map fun s => match s with
  | .d d => .d d
  | _ => .un
def dBor (i : Nat) (de : DE) : DE := fun x ρ k => match ρ[i]? with
  | some (.own l) => de xF ((hide ρ).set i (.d (.lst l))) fun d _ => flatD d = true ∧ k d ρ
  | some (.d _) => de x ρ k
  | _ => False
theorem Rep.flat_any {G : GC} {S S' : Hp} {v : V} {d : D} (r : Rep G S v d) (f : flatD d = true) : Rep G S' v d := by
  cases r with
  | non => exact .non
  | bl b => exact .bl b
  | int b => exact .int b
  | str b => exact .str b
  | _ => cases f
theorem imp_bor {B : Bd} {i : Nat} {de : DE} : ∀ σ H Q, tD B (dBor i de) σ H Q → tD B de σ H Q := fun σ H Q ⟨c, ρ, S, k, w, ⟨F, A⟩, h, q⟩ => by
  unfold dBor at h
  split at h
  · rename_i l e
    obtain ⟨p, vs, ep, ef, ow, eH, r⟩ := A.own_get e
    have ss : Same S (upd S p (.lst vs)) := same_upd ow.out
    have sh : Same (upd S p (.lst vs)) H := fun a o ea => by
      by_cases z : a = p
      · subst z; rw [upd_same] at ea; cases ea; exact eH
      · rw [upd_ne z] at ea; exact A.fr.sh a o ea
    have A0 : AbsF B.G ⟨H, upd S p (.lst vs), fun _ => False, xF, c.pn, c.pv⟩ σ ((hide ρ).set i (.d (.lst l))) (upd S p (.lst vs)) H (fun _ => []) := by
      refine ⟨⟨Same.refl _, sh, fun _ _ e _ => e, fun _ e => e, fun _ _ _ => rfl⟩, by unfold hide; rw [List.length_set, List.length_map]; exact A.len, fun j s es => ?_, fun _ _ => rfl, A.pin, fun _ _ _ z => nomatch z⟩
      by_cases z : j = i
      · subst z
        have hl : j < (hide ρ).length := by unfold hide; rw [List.length_map]; exact (List.getElem?_eq_some_iff.mp e).1
        rw [List.getElem?_set_self hl] at es
        cases es
        rw [ep]
        exact ⟨rfl, .lst upd_same (r.mono ss)⟩
      · rw [List.getElem?_set_ne (Ne.symm z)] at es
        unfold hide at es
        rw [List.getElem?_map] at es
        obtain ⟨s0, e0, e1⟩ := Option.map_eq_some_iff.mp es
        subst e1
        have zz := A.sl j s0 e0
        cases s0 with
        | d d =>
          cases ev : (σ[j]?).join with
          | none => rw [ev] at zz; exact zz.elim
          | some v => rw [ev] at zz; exact ⟨rfl, zz.2.mono ss⟩
        | _ => exact slot_un
    refine ⟨⟨H, upd S p (.lst vs), fun _ => False, xF, c.pn, c.pv⟩, _, _, _, ⟨fun _ _ _ _ _ _ _ _ _ z => z.elim, w.pn⟩, ⟨_, A0⟩, h, fun v d ρ' S' H' ⟨F', A'⟩ s' r' ⟨fd, hk⟩ => ?_⟩
    have hH : Same H H' := fun a o ea => A'.fr.keep a o ea fun z => z
    exact q v d ρ S H' ⟨F, A.grow hH (Same.refl S) (A.fr.sh.trans hH) fun _ _ => rfl⟩ (Same.refl S) (r'.flat_any fd) hk
  · exact ⟨c, ρ, S, k, w, ⟨F, A⟩, h, q⟩
  · exact h.elim
theorem e_bor (i : Nat) {X : Cx} {B : Bd} {e : Expr} {de : DE} (h : PE X e (tD B de)) : PE X e (tD B (dBor i de)) := PE.imp h imp_bor

/-! ### an own list changed -/
section
variable {G : GC} {c : C} {S S' H H' : Hp} {σ : St} {ρ : Ev} {F : Nat → List Addr}
theorem AbsF.own_set (A : AbsF G c σ ρ S H F) {i : Nat} {l l' : List D} {p : Addr} {vs' : List V} (e : ρ[i]? = some (.own l)) (ep : σ[i]? = some (some (.ref p))) (r : Reps G S vs' l') : Abs G c σ (ρ.set i (.own l')) S (upd H p (.lst vs')) := by
  obtain ⟨p0, vs, e0, ef, ow, eH, _⟩ := A.own_get e
  rw [ep] at e0
  cases e0
  have A1 := A.forget ep
  have hF : ∀ j, p ∉ (fun j => if j = i then ([] : List Addr) else F j) j := fun j hj => by
    dsimp only at hj
    split at hj
    · cases hj
    · rename_i z
      exact z (A.dj j i p hj (by rw [ef]; exact List.mem_singleton.mpr rfl))
  have A2 := A1.mutO (o := .lst vs') ow hF (by rw [eH]; simp)
  have A3 := A2.set (i := i) (v := some (.ref p)) (s := .own l') (f := [p]) ⟨rfl, ow, vs', upd_same, r⟩ (fun j a _ ha => by
    rw [List.mem_singleton] at ha
    subst ha
    exact hF j) (.inr ep)
  rw [set_self ep, List.set_set] at A3
  exact ⟨_, A3⟩
end
abbrev DMut := List D → List D → (D → List D → Prop) → Prop
def OkMut (G : GC) (r : V → List V → Hp → VK → Prop) (f : DMut) : Prop := ∀ p vs l args as S H k Q, Same S H → H p = some (.lst vs) → Reps G S vs l → Reps G S args as → f l as k →
  (∀ v d vs' l', Rep G S v d → Reps G S vs' l' → k d l' → Q v (upd H p (.lst vs'))) → r (.ref p) args H Q
def dMut (i : Nat) (f : DMut) (dl : DL) : DE := fun x ρ k => (∃ l0, ρ[i]? = some (.own l0)) ∧ dl x ρ fun as ρ1 => match ρ1[i]? with
  | some (.own l) => f l as fun d l' => k d (ρ1.set i (.own l'))
  | _ => False
theorem imp_mut {B : Bd} {i : Nat} {f : DMut} {dl : DL} {r : V → List V → Hp → VK → Prop} {K : PySem.W.Frag} (hr : OkMut B.G r f) : ∀ σ H Q, tD B (dMut i f dl) σ H Q → tBM K "list" r (tVar i) (tA B dl) σ H Q := fun σ H Q ⟨c, ρ, S, k, w, ⟨F, A⟩, ⟨⟨l0, e0⟩, h⟩, q⟩ => by
  obtain ⟨p, vs, ep, ef, ow, eH, rr⟩ := A.own_get e0
  refine ⟨.ref p, ep, .inl ⟨rfl, _, .inl (.inl eH)⟩, c, ρ, S, _, w, ⟨F, A⟩, h, fun args as ρ1 S1 H1 ⟨F1, A1⟩ s1 r1 h1 => ?_⟩
  split at h1
  · rename_i l e1
    obtain ⟨p1, vs1, ep1, ef1, ow1, eH1, rr1⟩ := A1.own_get e1
    rw [ep] at ep1
    cases ep1
    exact hr p vs1 l args as S1 H1 _ _ A1.fr.sh eH1 rr1 r1 h1 fun v d vs' l' rv rl hk => q v d _ S1 _ (A1.own_set e1 ep rl) s1 rv hk
  · exact h1.elim
theorem imp_mut0 {B : Bd} {i : Nat} {f : DMut} {r : V → List V → Hp → VK → Prop} {K : PySem.W.Frag} (hr : OkMut B.G r f) : ∀ σ H Q, tD B (dMut i f lNil) σ H Q → tBM0 K "list" r (tVar i) σ H Q := fun σ H Q ⟨c, ρ, S, k, w, ⟨F, A⟩, ⟨⟨l0, e0⟩, h⟩, q⟩ => by
  obtain ⟨p, vs, ep, ef, ow, eH, rr⟩ := A.own_get e0
  refine ⟨.ref p, ep, .inl ⟨rfl, _, .inl (.inl eH)⟩, ?_⟩
  unfold lNil at h
  dsimp only at h
  rw [e0] at h
  exact hr p vs l0 [] [] S H _ _ A.fr.sh eH rr .nil h fun v d vs' l' rv rl hk => q v d _ S _ (A.own_set e0 ep rl) (Same.refl S) rv hk
/-- append, insert, extend, pop, reverse -/
def fApp : DMut := fun l as k => match as with
  | [d] => l.length < lim ∧ k .non (l ++ [d])
  | _ => False
theorem ok_app {G : GC} : OkMut G rAppend fApp := fun p vs l args as S H k Q sh eH rl ra h q => by
  unfold fApp at h
  split at h
  · cases ra with
    | cons r1 rr =>
      cases rr
      exact ⟨_, _, _, rfl, rfl, eH, by rw [rl.length]; exact lim_lt h.1, q _ _ _ _ .non (rl.append (.one r1)) h.2⟩
  · exact h.elim
abbrev rIns : V → List V → Hp → VK → Prop := fun x vs H Q => ∃ (l : Addr) (xs : List V) (i : Int) (y : V), x = .ref l ∧ vs = [.int i, y] ∧ H l = some (.lst xs) ∧ xs.length < sizeLine ∧ 0 ≤ i ∧ i < 2 ^ 63 ∧
    Q .non (upd H l (.lst (xs.take i.toNat ++ [y] ++ xs.drop i.toNat)))
def fIns : DMut := fun l as k => match as with
  | [.int i, d] => l.length < lim ∧ 0 ≤ i ∧ i < 2 ^ 63 ∧ k .non (l.take i.toNat ++ [d] ++ l.drop i.toNat)
  | _ => False
theorem ok_ins {G : GC} : OkMut G rIns fIns := fun p vs l args as S H k Q sh eH rl ra h q => by
  unfold fIns at h
  split at h
  · cases ra with
    | cons r1 rr =>
      cases rr with
      | cons r2 rr =>
        cases rr
        cases r1
        exact ⟨_, _, _, _, rfl, rfl, eH, by rw [rl.length]; exact lim_lt h.1, h.2.1, h.2.2.1, q _ _ _ _ .non (((rl.take _).append (.one r2)).append (rl.drop _)) h.2.2.2⟩
  · exact h.elim
def fExt : DMut := fun l as k => match as with
  | [.lst m] => l.length + m.length ≤ lim ∧ k .non (l ++ m)
  | _ => False
theorem ok_ext {G : GC} : OkMut G rExtend fExt := fun p vs l args as S H k Q sh eH rl ra h q => by
  unfold fExt at h
  split at h
  · cases ra with
    | cons r1 rr =>
      cases rr
      cases r1 with
      | lst e r => exact ⟨_, _, _, _, rfl, rfl, eH, sh _ _ e, by rw [rl.length, r.length]; exact lim_le h.1, q _ _ _ _ .non (rl.append r) h.2⟩
  · exact h.elim
def fPopAt : DMut := fun l as k => match as with
  | [.int i] => ∃ z, 0 ≤ i ∧ l[i.toNat]? = some z ∧ i < 2 ^ 63 ∧ k z (l.eraseIdx i.toNat)
  | _ => False
theorem Reps.erase {G : GC} {S : Hp} : ∀ {vs : List V} {ds : List D} (i : Nat), Reps G S vs ds → Reps G S (vs.eraseIdx i) (ds.eraseIdx i)
  | _, _, _, .nil => .nil
  | _, _, 0, .cons _ t => t
  | _, _, i + 1, .cons h t => .cons h (Reps.erase i t)
theorem ok_popAt {G : GC} : OkMut G rPopAt fPopAt := fun p vs l args as S H k Q sh eH rl ra h q => by
  unfold fPopAt at h
  split at h
  · rename_i i
    obtain ⟨z, h0, hz, h1, hk⟩ := h
    cases ra with
    | cons r1 rr =>
      cases rr
      cases r1
      obtain ⟨v, hv, rv⟩ := rl.get hz
      have hl := (List.getElem?_eq_some_iff.mp hv).1
      refine ⟨_, _, _, i.toNat, v, rfl, rfl, eH, by omega, h1, ?_, hv, q _ _ _ _ rv (rl.erase _) hk⟩
      have ej : ixN vs.length i = some i.toNat := by
        unfold ixN
        rw [if_pos h0, if_pos (by omega)]
      exact (ixN_seq ej).1
  · exact h.elim
def fRevM : DMut := fun l as k => match as with
  | [] => k .non l.reverse
  | _ => False
theorem ok_revM {G : GC} : OkMut G rReverse fRevM := fun p vs l args as S H k Q sh eH rl ra h q => by
  unfold fRevM at h
  split at h
  · cases ra
    exact ⟨_, _, rfl, rfl, eH, q _ _ _ _ .non rl.reverse h⟩
  · exact h.elim
section
variable {X : Cx} {B : Bd} {e : Expr} {es : List Expr} {dl : DL} {apos cpos pos : Pos} {r : V → List V → Hp → VK → Prop} {f : DMut} {name : Str} {id : String}
/-- x.m(e, ..) of an own list -/
theorem e_mut (i : Nat) {x : Str} {px : Pos} (pa : PlainAttrs "list") (slot : Slot "list" name id) (hty : typeOf (.builtin id) = pure (.type "method_descriptor")) (hm : MtR X id r) (hr : OkMut B.G r f) (ha : PA X (e :: es) (tA B dl))
    (hN : X.N[i]? = some x := by rfl) (hv : Vis X.env.scope x := by first | exact Or.inl rfl | exact Or.inr (Or.inl rfl) | exact Or.inr (Or.inr rfl)) (hd : (x == ("__debug__" : Str)) = false := by decide) (hcd : (x == ("__classdict__" : Str)) = false := by decide)
    (hbase : attributeBase (.Name x px) name X.env (eval (.Name x px) X.env) = eval (.Name x px) X.env := by rfl)
    (hfew : ((backTo cpos (starEach (e :: es) X.env)).all (fun x => !x.1) && (backToKw cpos (keywordEach [] X.env)).all (fun x => x.1.isSome)
      && decide ((e :: es).length + ([] : List Keyword).length + (if ([] : List Keyword).isEmpty then 0 else 1) < 30)) = true := by rfl)
    (hline : (apos.endLine == cpos.line) = true := by rfl) (hs : starEach (e :: es) X.env = (false, eval e X.env) :: starEach es X.env := by rfl) (hplain : (backTo cpos (starEach es X.env)).any (·.1) = false := by rfl) :
    PE X (.Call (.Attribute (.Name x px) name apos) (e :: es) [] cpos) (tD B (dMut i f dl)) := PE.imp (pe_bm pa slot hty hm (pv i hN hv hd hcd) ha hbase hfew hline hs hplain) (imp_mut hr)
theorem e_mut0 (i : Nat) {x : Str} {px : Pos} (pa : PlainAttrs "list") (slot : Slot "list" name id) (hty : typeOf (.builtin id) = pure (.type "method_descriptor")) (hm : MtR X id r) (hr : OkMut B.G r f)
    (hN : X.N[i]? = some x := by rfl) (hv : Vis X.env.scope x := by first | exact Or.inl rfl | exact Or.inr (Or.inl rfl) | exact Or.inr (Or.inr rfl)) (hd : (x == ("__debug__" : Str)) = false := by decide) (hcd : (x == ("__classdict__" : Str)) = false := by decide)
    (hbase : attributeBase (.Name x px) name X.env (eval (.Name x px) X.env) = eval (.Name x px) X.env := by rfl) (hline : (apos.endLine == cpos.line) = true := by rfl) :
    PE X (.Call (.Attribute (.Name x px) name apos) [] [] cpos) (tD B (dMut i f lNil)) := PE.imp (pe_bm0 pa slot hty hm (pv i hN hv hd hcd) hbase hline) (imp_mut0 hr)
/-- x[j] = e of an own list -/
def dSetIx (i : Nat) (de dj : DE) : DS := fun D x ρ => de x ρ fun d ρ1 => (∃ l0, ρ1[i]? = some (.own l0)) ∧ dj x ρ1 fun z ρ2 => match z, ρ2[i]? with
  | .int n, some (.own l) => ∃ m, ixN l.length n = some m ∧ D.nx (ρ2.set i (.own (l.set m d)))
  | _, _ => False
theorem s_setIx (i : Nat) {x : Str} {px tpos : Pos} {j : Expr} {de dj : DE} (he : PE X e (tD B de)) (hj : PE X j (tD B dj))
    (hN : X.N[i]? = some x := by rfl) (hv : Vis X.env.scope x := by first | exact Or.inl rfl | exact Or.inr (Or.inl rfl) | exact Or.inr (Or.inr rfl)) (hd : (x == ("__debug__" : Str)) = false := by decide) (hcd : (x == ("__classdict__" : Str)) = false := by decide)
    (ha : ∀ v, assign (.Subscript (.Name x px) j tpos) X.env v = (do
      let ov ← holding [v] (eval (.Name x px) X.env)
      let iv ← holding [v, ov] (eval j X.env)
      standAt tpos
      holding [v, ov, iv] (setItem ov iv v)
      release [v, ov, iv] []) := by intro _; rfl)
    (hs : swapsWithSole [.Subscript (.Name x px) j tpos] e pos.line X.env = pure false := by rfl) (hw : swappedStores [.Subscript (.Name x px) j tpos] e X.env = pure none := by rfl)
    (h1 : (assignEach [.Subscript (.Name x px) j tpos] X.env).map (·.2) = [assign (.Subscript (.Name x px) j tpos) X.env] := by rfl) :
    PS X (.Assign [.Subscript (.Name x px) j tpos] e pos) (tS B (dSetIx i de dj)) := PS.imp (ps_asg he (pg_sub (pv i hN hv hd hcd) hj set_list ha) hs hw h1) fun D σ H ⟨c, ρ, S, E, w, A, h, l⟩ =>
  tD_use w A h fun v d ρ1 S1 H1 ⟨F1, A1⟩ s1 r1 ⟨⟨l0, e0⟩, h1⟩ => by
    obtain ⟨p, vs, ep, ef, ow, eH, rr⟩ := A1.own_get e0
    refine ⟨.ref p, ep, tD_use w ⟨F1, A1⟩ h1 fun z dz ρ2 S2 H2 ⟨F2, A2⟩ s2 r2 h2 => ?_⟩
    split at h2
    · rename_i n l1 e1
      obtain ⟨m, hm, hk⟩ := h2
      obtain ⟨p1, vs1, ep1, ef1, ow1, eH1, rr1⟩ := A2.own_get e1
      rw [ep] at ep1
      cases ep1
      cases r2
      exact ⟨p, vs1, n, m, rfl, rfl, eH1, by rw [rr1.length]; exact hm, l.nx _ _ S2 _ (A2.own_set e1 ep (rr1.set (r1.mono s2) m)) (s1.trans s2) hk⟩
    · exact h2.elim
end

/-! ### count, index of flat things -/
theorem countP_eqU {x : V} : ∀ {xs : List V} {us : List Value}, Vals xs us → xs.all flatV = true → us.countP (eqU x) = xs.countP fun y => eqV y x
  | _, _, .nil, _ => rfl
  | y :: xs, u :: us, .cons r t, f => by
    rw [List.all_cons, Bool.and_eq_true] at f
    rw [List.countP_cons, List.countP_cons, countP_eqU t f.2, eqU_of r f.1]
def rCntV (K : PySem.W.Frag) : V → List V → Hp → VK → Prop := fun x xs H Q => ∃ (p : Addr) (ys : List V) (y : V), x = .ref p ∧ xs = [y] ∧ SqL K H p ys ∧ flatV y = true ∧ ys.all flatV = true ∧ Q (.int ((ys.countP fun z => eqV z y : Nat) : Int)) H
theorem mt_count {X : Cx} : MtR X "list.count" (rCntV X.K) := by
  intro pins s σ H x xs v us Q I rx rxs h
  obtain ⟨p, ys, y, rfl, rfl, hs, fy, fs, q⟩ := h
  cases rx
  obtain ⟨u, rfl, ru⟩ := rxs.one
  obtain ⟨its, rv, ⟨⟨cls, dd, data, sl⟩, n, ho, hc, hdn, hd⟩, hlen⟩ := I.list hs
  simp only at hc hd
  subst hc hd
  refine call_meets PySem.F.slot_list_count ⟨_, ho, rfl⟩ PySem.F.entry_list_count (PySem.F.args_list_count_2 _ _)
    (SeqAt.list_countAt p its.toArray n dd sl u (eqU y)) ⟨ho, fun z hz => mem_eqAt ru fy rv fs z (by simpa using hz), ?_⟩
  have ec : its.toArray.toList.countP (eqU y) = ys.countP fun z => eqV z y := countP_eqU rv fs
  rw [ec]
  exact ⟨.int _, H, I.tok _, ⟨_, rfl⟩, q⟩
/-- a method of a list that is looked at -/
abbrev DLk := List D → List D → (D → Prop) → Prop
def OkLk (G : GC) (r : V → List V → Hp → VK → Prop) (f : DLk) : Prop := ∀ c σ ρ S H F a l args as k Q, AbsF G c σ ρ S H F → Rep G S a (.lst l) → Reps G S args as → f l as k → (∀ v d S' H', AbsF G c σ ρ S' H' F → Same S S' → Rep G S' v d → k d → Q v H') → r a args H Q
def dLk (f : DLk) (da : DE) (dl : DL) : DE := fun x ρ k => da x ρ fun d ρ1 => match d with
  | .lst l => dl x ρ1 fun as ρ2 => f l as fun z => k z ρ2
  | _ => False
theorem imp_lk {B : Bd} {f : DLk} {da : DE} {dl : DL} {r : V → List V → Hp → VK → Prop} {K : PySem.W.Frag} (hr : OkLk B.G r f) : ∀ σ H Q, tD B (dLk f da dl) σ H Q → tBM K "list" r (tD B da) (tA B dl) σ H Q := fun σ H Q ⟨c, ρ, S, k, w, A, h, q⟩ =>
  tD_use w A h fun v d ρ1 S1 H1 ⟨F1, A1⟩ s1 r1 h1 => by
    cases d with
    | lst l =>
      have r1' := r1
      cases r1 with
      | lst e r =>
        exact ⟨.inl ⟨rfl, _, .inl (.inl (A1.fr.sh _ _ e))⟩, c, ρ1, S1, _, w, ⟨F1, A1⟩, h1, fun args as ρ2 S2 H2 ⟨F2, A2⟩ s2 r2 h2 => hr c σ ρ2 S2 H2 F2 _ l args as _ _ A2 (r1'.mono s2) r2 h2 fun z dz S3 H3 A3 s3 r3 h3 =>
          q z dz ρ2 S3 H3 ⟨F2, A3⟩ ((s1.trans s2).trans s3) r3 h3⟩
    | _ => exact h1.elim
def fCount : DLk := fun l as k => match as with
  | [d] => flatD d = true ∧ l.all flatD = true ∧ k (.int ((l.countP fun z => eqF z d : Nat) : Int))
  | _ => False
theorem countP_map (d : D) : ∀ l : List D, (l.map vOf).countP (fun z => eqV z (vOf d)) = l.countP fun z => eqF z d
  | [] => rfl
  | e :: l => by
    rw [List.map_cons, List.countP_cons, List.countP_cons, countP_map d l]
    rfl
theorem ok_count {G : GC} : OkLk G (rCntV G.K) fCount := fun c σ ρ S H F a l args as k Q A r ra h q => by
  unfold fCount at h
  split at h
  · obtain ⟨h1, h2, h3⟩ := h
    cases r with
    | lst e r =>
      cases ra with
      | cons r1 rr =>
        cases rr
        have e1 := r1.flat h1
        subst e1
        have e2 := r.flat h2
        subst e2
        refine ⟨_, _, _, rfl, rfl, .inl (.inl (A.fr.sh _ _ e)), flatV_vOf _, all_flatV _, ?_⟩
        rw [countP_map]
        exact fin_s A q (.int _) h3
  · exact h.elim
/-- the first place of a flat thing that is there -/
def fIndex : DLk := fun l as k => match as with
  | [d] => flatD d = true ∧ l.all flatD = true ∧ ∃ j, l.findIdx? (fun z => eqF z d) = some j ∧ k (.int (j : Nat))
  | _ => False
theorem ok_index {G : GC} : OkLk G (rIndex G.K) fIndex := fun c σ ρ S H F a l args as k Q A r ra h q => by
  unfold fIndex at h
  split at h
  · obtain ⟨h1, h2, j, hj, h3⟩ := h
    cases r with
    | lst e r =>
      cases ra with
      | cons r1 rr =>
        cases rr
        have e1 := r1.flat h1
        subst e1
        have e2 := r.flat h2
        subst e2
        obtain ⟨hl, g1, g2⟩ := List.findIdx?_eq_some_iff_getElem.mp hj
        refine ⟨_, _, _, j, vOf l[j], rfl, rfl, .inl (.inl (A.fr.sh _ _ e)), flatV_vOf _, all_flatV _, by rw [List.getElem?_map, List.getElem?_eq_getElem hl]; rfl, g1, fun m z' hm hz => ?_, fin_s A q (.int _) h3⟩
        rw [List.getElem?_map] at hz
        obtain ⟨z, e1, e2⟩ := Option.map_eq_some_iff.mp hz
        subst e2
        have hml := (List.getElem?_eq_some_iff.mp e1).1
        have := g2 m hm
        rw [(List.getElem?_eq_some_iff.mp e1).2] at this
        exact Bool.eq_false_iff.mpr this
  · exact h.elim
section
variable {X : Cx} {B : Bd} {o e : Expr} {es : List Expr} {da : DE} {dl : DL} {apos cpos pos : Pos} {r : V → List V → Hp → VK → Prop} {f : DLk} {name : Str} {id : String}
theorem e_lk (pa : PlainAttrs "list") (slot : Slot "list" name id) (hty : typeOf (.builtin id) = pure (.type "method_descriptor")) (hm : MtR X id r) (hr : OkLk B.G r f) (ho : PE X o (tD B da)) (ha : PA X (e :: es) (tA B dl))
    (hbase : attributeBase o name X.env (eval o X.env) = eval o X.env := by rfl)
    (hfew : ((backTo cpos (starEach (e :: es) X.env)).all (fun x => !x.1) && (backToKw cpos (keywordEach [] X.env)).all (fun x => x.1.isSome)
      && decide ((e :: es).length + ([] : List Keyword).length + (if ([] : List Keyword).isEmpty then 0 else 1) < 30)) = true := by rfl)
    (hline : (apos.endLine == cpos.line) = true := by rfl) (hs : starEach (e :: es) X.env = (false, eval e X.env) :: starEach es X.env := by rfl) (hplain : (backTo cpos (starEach es X.env)).any (·.1) = false := by rfl) :
    PE X (.Call (.Attribute o name apos) (e :: es) [] cpos) (tD B (dLk f da dl)) := PE.imp (pe_bm pa slot hty hm ho ha hbase hfew hline hs hplain) (imp_lk hr)
end
end Y
namespace Y
open PySem PySem.Spec PyProof.Rows L2

/-! ### the defs of a text -/
def Cal (P : Program) (w : World) (K : PySem.W.Frag) (mg : Str → Option Value) (base : Heap) (G : GC) (k : Nat) (x : Str) (ps : List Str) (f : FD) : Prop :=
  ∃ fa fd, FnOk P w K mg base (L2.CX P w) k fa fd ps (spF G f) ∧ mg x = some (.ref fa) ∧ PySem.W.keepIn K (.ref fa) = true ∧ Binds K fd ps []
structure DefAt (K : PySem.W.Frag) (x qual : Str) (st : Stmt) (f : Addr) (fd : FuncData) : Prop where
  fn : Fun K x qual st f fd
  ns : PySem.W.nsIn K mainGlobals x = some (some (.ref f))
theorem def_at {K : PySem.W.Frag} {x qual : Str} {st : Stmt} {f : Addr} {od an : Option Addr} {sl : Array (Option Value)} {oc kV dc pm cd ct : Value} (a : PySem.W.nsIn K mainGlobals x = some (some (.ref f)))
    (l : K.lookup f = some ⟨oc, od, .func (PySem.W.fnOf x qual (defArgs st) (defBody st) (defScope st) .none kV dc pm an cd ct), sl⟩) (c : PySem.W.codeIn K cd qual = true) (k : PySem.W.keepIn K (.ref f) = true) :
    DefAt K x qual st f (PySem.W.fnOf x qual (defArgs st) (defBody st) (defScope st) .none kV dc pm an cd ct) := ⟨fun_mk l c k, a⟩
theorem pass_cx {P : Program} {w : World} {K : PySem.W.Frag} {mg : Str → Option Value} {base : Heap} {N : List Str} {qual : Str} {scope : Scope} {f : Addr} {cd : Value} {A : Around} {outer : List Env} {s : Shared} {H : Hp} {E : XK} :
    Passes (L2.CX P w) (cxOf (L2.CX P w) P w K mg base N qual scope f cd A outer s H E) E := passes_call (takes_of rfl rfl rfl rfl) fun _ _ _ _ h => h
/-- a def of the text keeps its word -/
theorem mk_cal {P : Program} {w : World} {K : PySem.W.Frag} {mg : Str → Option Value} {base : Heap} {G : GC} {x qual : Str} {st : Stmt} {f : Addr} {fd : FuncData} {N ps : List Str} {k : Nat} (pn : List Nat) (ds : DS) (T : DefAt K x qual st f fd) (hx : mg x = some (.ref f)) (S : FnScope N ps (defScope st)) (hpn : ∀ i ∈ pn, i < ps.length)
    (hbd : ∀ (kV doc pm : Value) (an : Option Addr) (cdv ct : Value) (us : List Value), us.length = ps.length → bindArgs (PySem.W.fnOf x qual (defArgs st) (defBody st) (defScope st) .none kV doc pm an cdv ct) ⟨us, []⟩ = pure (ps.zip us))
    (hb : ∀ (cdv : Value) (A : Around) (outer : List Env) (s : Shared) (H : Hp) (E : XK), Room k (A.deeper (envOfC qual (defScope st) s.heap.objs.size f cdv)) →
      PSs (cxOf (L2.CX P w) P w K mg base N qual (defScope st) f cdv A outer s H E) (defBody st) (tS ⟨G, E, pn⟩ ds)) :
    Cal P w K mg base G (k + 1) x ps (fdef ps.length (N.length - ps.length) pn ds) := ⟨f, fd, fn_def pn ds T.fn S hpn hb, hx, T.fn.kp, T.fn.binds hbd⟩
theorem Cal.mono {P : Program} {w : World} {K : PySem.W.Frag} {mg : Str → Option Value} {base : Heap} {G : GC} {j k : Nat} {x : Str} {ps : List Str} {f : FD} (c : Cal P w K mg base G j x ps f) (h : j ≤ k) : Cal P w K mg base G k x ps f := by
  obtain ⟨fa, fd, F, r⟩ := c
  exact ⟨fa, fd, F.mono h, r⟩
/-- another word of the same def -/
theorem Cal.imp {P : Program} {w : World} {K : PySem.W.Frag} {mg : Str → Option Value} {base : Heap} {G : GC} {k : Nat} {x : Str} {ps : List Str} {f g : FD} (c : Cal P w K mg base G k x ps f) (h : ∀ vs H Q E, spF G g vs H Q E → spF G f vs H Q E) : Cal P w K mg base G k x ps g := by
  obtain ⟨fa, fd, F, r⟩ := c
  exact ⟨fa, fd, F.imp h, r⟩
/-- .. where it says more -/
theorem spF_imp {G : GC} {f g : FD} (hm : f.m = g.m) (hp : f.pn = g.pn) (h : ∀ as k x, g.go as k x → f.go as k x) : ∀ vs H Q E, spF G g vs H Q E → spF G f vs H Q E := by
  obtain ⟨m, pn, go⟩ := f
  obtain ⟨m', pn', go'⟩ := g
  cases hm; cases hp
  intro vs H Q E ⟨S, as, FP, k, x, hl, A, hg, q⟩
  exact ⟨S, as, FP, k, x, hl, A, h as k x hg, q⟩
section
variable {X : Cx} {B : Bd} {f : FD} {k j : Nat} {ps : List Str} {x : Str} {p pos : Pos} {e : Expr} {es : List Expr} {dm : DM} {dl : DL}
theorem Cal.pc (hc : Cal X.prog X.w X.K X.mg X.base B.G j x ps f) (hr : Room k X.A) (hx : Passes (L2.CX X.prog X.w) X B.E) (ha : PA X (e :: es) (tA B dl)) (hj : j ≤ k := by decide) (hn : f.pn = [] := by rfl) (hg : Gl X x := by rfl)
    (hdb : (x == ("__debug__" : Str)) = false := by decide) (he : starEach (e :: es) X.env = (false, eval e X.env) :: starEach es X.env := by rfl) (hpl : (backTo pos (starEach es X.env)).any (·.1) = false := by rfl) :
    PE X (.Call (.Name x p) (e :: es) [] pos) (tD B (dCallP f [] dl)) := by
  obtain ⟨fa, fd, F, h1, h2, h3⟩ := hc
  exact e_callP F (hr.mono hj) h1 h2 h3 .nil (fun _ => .nil) hx ha hn hg hdb he hpl
theorem Cal.mc (hc : Cal X.prog X.w X.K X.mg X.base B.G j x ps f) (hr : Room k X.A) (hx : Passes (L2.CX X.prog X.w) X B.E) (ha : PA X (e :: es) (tM B dm)) (hj : j ≤ k := by decide) (hg : Gl X x := by rfl)
    (hdb : (x == ("__debug__" : Str)) = false := by decide) (he : starEach (e :: es) X.env = (false, eval e X.env) :: starEach es X.env := by rfl) (hpl : (backTo pos (starEach es X.env)).any (·.1) = false := by rfl) :
    PE X (.Call (.Name x p) (e :: es) [] pos) (tD B (dCall f [] dm)) := by
  obtain ⟨fa, fd, F, h1, h2, h3⟩ := hc
  exact e_call F (hr.mono hj) h1 h2 h3 .nil (fun _ => .nil) hx ha hg hdb he hpl
end

/-! ### the town of draws -/
/-- a draw: any number below many -/
def drawF : FD := ⟨3, [1], fun as k _ => match as with
  | [.d (.scr ss), .town (g + 1) n, .d (.int m)] => ss.length = n ∧ n ≤ 63 ∧ 0 < m ∧ m < 2 ^ 62 ∧ ∀ r : Int, 0 ≤ r → r < m → k (.int r) [.un, .town g n, .un]
  | _ => False⟩
/-- a word over the town's own list gives one over the town -/
theorem town_imp {G : GC} {f : FD} (hm : f.m = 3) (hp : f.pn = [1])
    (h : ∀ (ss : List Int) (c : Int) (cells : List Int) (m : Int) (k : D → Ev → Prop) (x : KX), ss.length = cells.length → ss.length ≤ 63 → 0 ≤ c → c < 1000000 → 0 < m → m < 2 ^ 62 →
      (∀ (r : Int) (cells' : List Int), 0 ≤ r → r < m → cells'.length = cells.length → k (.int r) [.un, .own (.int (c + 1) :: cells'.map D.int), .un]) →
      f.go [.d (.scr ss), .own (.int c :: cells.map D.int), .d (.int m)] k x) : ∀ vs H Q E, spF G drawF vs H Q E → spF G f vs H Q E := by
  obtain ⟨fm, fpn, go⟩ := f
  cases hm; cases hp
  intro vs H Q E ⟨S, as, FP, k, x, hl, A, hg, q, qx⟩
  have hg' := hg
  unfold drawF at hg
  dsimp only at hg
  split at hg
  · rename_i ss g n m
    obtain ⟨h1, h2, h3, h4, h5⟩ := hg
    have z1 := A.sl 1 _ rfl
    cases e1 : (vs.map some)[1]? with
    | none => rw [e1] at z1; exact z1.elim
    | some v1 =>
      rw [e1] at z1
      cases v1 with
      | none => exact z1.elim
      | some v1 =>
        cases v1 with
        | ref p =>
          obtain ⟨f1, ow, c, cells, eH, c0, cg, cl⟩ := z1
          have A1 : AbsF G (cxC S H FP [1] vs xF) (vs.map some) [.d (.scr ss), .own (.int c :: cells.map D.int), .d (.int m)] S H FP := by
            refine ⟨A.fr, A.len, fun i s e => ?_, fun i e => ?_, A.pin, A.dj⟩
            · match i, e with
              | 0, e => exact A.sl 0 s e
              | 1, e =>
                cases e
                rw [e1]
                exact ⟨f1, ow, _, eH, .cons (.int c) (.of_ints cells)⟩
              | 2, e => exact A.sl 2 s e
            · match i, e with
              | i + 3, e => exact A.em (i + 3) rfl
          refine ⟨S, _, FP, fun d os => ∃ (r : Int) (cells' : List Int), 0 ≤ r ∧ r < m ∧ cells'.length = cells.length ∧ d = .int r ∧ os = [.un, .own (.int (c + 1) :: cells'.map D.int), .un], xF, hl, A1,
            h ss c cells m _ _ (by omega) (by omega) c0 (by omega) h3 h4 (fun r cells' r0 r1 rl => ⟨r, cells', r0, r1, rl, rfl, rfl⟩), fun v d os S' H' FP' A' rv ⟨r, cells', r0, r1, rl, ed, eo⟩ => ?_, fun ex cls dd os S' H' FP' A' o hx => hx.elim⟩
          subst ed; subst eo
          refine q v _ [.un, .town g n, .un] S' H' FP' ?_ rv (h5 r r0 r1)
          refine ⟨A'.fr, A'.len, fun i s e => ?_, fun i e => ?_, A'.pin, A'.dj⟩
          · match i, e with
            | 0, e => exact A'.sl 0 s e
            | 1, e =>
              cases e
              have y1 := A'.sl 1 _ rfl
              rw [e1] at y1 ⊢
              obtain ⟨f2, ow2, vs2, eH2, rr⟩ := y1
              cases rr with
              | cons ra rb =>
                cases ra
                rw [Reps.ints rb] at eH2
                exact ⟨f2, ow2, c + 1, cells', eH2, by omega, by omega, by omega⟩
            | 2, e => exact A'.sl 2 s e
          · match i, e with
            | i + 3, e => exact A'.em (i + 3) rfl
        | _ => exact z1.elim
  · exact hg.elim

/-! ### the end: a law's word over its script -/
theorem hsp_of {K : PySem.W.Frag} {mg : Str → Option Value} {dk : Addr} {f : FD} (hm : f.m = 1) (hp : f.pn = []) (h : ∀ ns : List Int, ns.length ≤ 63 → f.go [.d (.scr ns)] (fun d _ => d = .bl true) xF) (H : Hp) (a : Addr) (ns : List Int) (hn : ns.length ≤ 63) (hs : SqL K H a (ns.map V.int)) :
    spF ⟨K, mg, dk⟩ f [.ref a] H (fun v _ => v = .bl true) fun _ _ _ => False := by
  obtain ⟨fm, fpn, go⟩ := f
  cases hm; cases hp
  refine ⟨H, [.d (.scr ns)], fun _ => [], _, _, rfl, ?_, h ns hn, fun v d os S' H' FP' A' r e => ?_, fun _ _ _ _ _ _ _ _ _ z => z.elim⟩
  · refine ⟨⟨Same.refl _, Same.refl _, fun _ _ e _ => e, fun _ e => e, fun _ _ _ => rfl⟩, rfl, fun i s e => ?_, fun _ _ => rfl, fun i hi => (nomatch hi), fun _ _ _ z => (nomatch z)⟩
    match i, e with
    | 0, e => cases e; exact ⟨rfl, .scr hs⟩
  · subst e
    cases r
    rfl
theorem hcx_of {P : Program} {w : World} {H : Hp} {s : Shared} {e : Value} {s' : Shared} (h : L2.CX P w [] H s (fun _ _ _ => False) e s') : False := by
  obtain ⟨_, _, _, _, _, _, _, _, _, _, _, _, z⟩ := h
  exact z
end Y
namespace Y
open PySem PySem.Spec PyProof.Rows L2

section
variable {X : Cx} {B : Bd} {e : Expr} {es : List Expr} {dl : DL} {p pos : Pos} {r : List V → Hp → VK → Prop} {f : DF}
theorem e_callTy {x : Str} {T : String} (hc : CallR X (.type T) r) (hr : OkC B.G r f) (hm : X.mg x = none) (hv : bootBuiltins x = some (.type T)) (ha : PA X (e :: es) (tA B dl)) (hg : Gl X x := by rfl) (hn : x ≠ "__name__" := by decide) (hdb : (x == ("__debug__" : Str)) = false := by decide)
    (he : starEach (e :: es) X.env = (false, eval e X.env) :: starEach es X.env := by rfl) (hpl : (backTo pos (starEach es X.env)).any (·.1) = false := by rfl) : PE X (.Call (.Name x p) (e :: es) [] pos) (tD B (dCB f dl)) := PE.imp (pe_callTy hc hg hm hv ha hn hdb he hpl) (imp_CB hr)
theorem eo_callTy {x : Str} {T : String} {f : DFL} (hc : CallR X (.type T) r) (hr : OkCL B.G r f) (hm : X.mg x = none) (hv : bootBuiltins x = some (.type T)) (ha : PA X (e :: es) (tA B dl)) (hg : Gl X x := by rfl) (hn : x ≠ "__name__" := by decide) (hdb : (x == ("__debug__" : Str)) = false := by decide)
    (he : starEach (e :: es) X.env = (false, eval e X.env) :: starEach es X.env := by rfl) (hpl : (backTo pos (starEach es X.env)).any (·.1) = false := by rfl) : PE X (.Call (.Name x p) (e :: es) [] pos) (tO B (oCB f dl)) := PE.imp (pe_callTy hc hg hm hv ha hn hdb he hpl) (imp_CBL hr)
theorem eo_callB {x : Str} {id : String} {f : DFL} (hc : CallR X (.builtin id) r) (hr : OkCL B.G r f) (hm : X.mg x = none) (hv : bootBuiltins x = some (.builtin id)) (ha : PA X (e :: es) (tA B dl)) (hg : Gl X x := by rfl) (hn : x ≠ "__name__" := by decide) (hdb : (x == ("__debug__" : Str)) = false := by decide)
    (he : starEach (e :: es) X.env = (false, eval e X.env) :: starEach es X.env := by rfl) (hpl : (backTo pos (starEach es X.env)).any (·.1) = false := by rfl) : PE X (.Call (.Name x p) (e :: es) [] pos) (tO B (oCB f dl)) := PE.imp (pe_callB hc hg hm hv ha hn hdb he hpl) (imp_CBL hr)
theorem e_cB {x : Str} {id : String} (hc : CallR X (.builtin id) r) (hr : OkC B.G r f) (hm : X.mg x = none) (hv : bootBuiltins x = some (.builtin id)) (ha : PA X (e :: es) (tA B dl)) (hg : Gl X x := by rfl) (hn : x ≠ "__name__" := by decide) (hdb : (x == ("__debug__" : Str)) = false := by decide)
    (he : starEach (e :: es) X.env = (false, eval e X.env) :: starEach es X.env := by rfl) (hpl : (backTo pos (starEach es X.env)).any (·.1) = false := by rfl) : PE X (.Call (.Name x p) (e :: es) [] pos) (tD B (dCB f dl)) := PE.imp (pe_callB hc hg hm hv ha hn hdb he hpl) (imp_CB hr)
theorem e_gi {x : Str} {n : Int} (hm : ∃ t, X.mg x = some (.int n t)) (hg : Gl X x := by rfl) (hd : (x == ("__debug__" : Str)) = false := by decide) : PE X (.Name x pos) (tD B (dC (.int n))) := let ⟨t, h⟩ := hm; e_gint hg h hd
theorem e_gs {x : Str} {n : Str} (hm : ∃ t, X.mg x = some (.str n t)) (hg : Gl X x := by rfl) (hd : (x == ("__debug__" : Str)) = false := by decide) : PE X (.Name x pos) (tD B (dC (.str n))) := let ⟨t, h⟩ := hm; e_gstr hg h hd
end
/-- min, max of two; int; abs -/
def fMin2 : DF := fun ds k => match ds with
  | [.int i, .int j] => k (.int (if j < i then j else i))
  | _ => False
def fMax2 : DF := fun ds k => match ds with
  | [.int i, .int j] => k (.int (if j > i then j else i))
  | _ => False
def fInt1 : DF := fun ds k => match ds with
  | [.int i] => k (.int i)
  | [.bl b] => k (.int (if b then 1 else 0))
  | _ => False
def fAbs : DF := fun ds k => match ds with
  | [.int i] => k (.int (if i < 0 then -i else i))
  | _ => False
theorem ok_min2 {G : GC} : OkC G (fun xs H Q => ∃ i j, xs = [.int i, .int j] ∧ Q (.int (if j < i then j else i)) H) fMin2 := fun c σ ρ S H F vs ds k Q A r hf q => by
  unfold fMin2 at hf
  split at hf
  · cases r with
    | cons r1 rr => cases rr with
      | cons r2 rr => cases rr; cases r1; cases r2; exact ⟨_, _, rfl, fin_s A q (.int _) hf⟩
  · exact hf.elim
theorem ok_max2 {G : GC} : OkC G (fun xs H Q => ∃ i j, xs = [.int i, .int j] ∧ Q (.int (if j > i then j else i)) H) fMax2 := fun c σ ρ S H F vs ds k Q A r hf q => by
  unfold fMax2 at hf
  split at hf
  · cases r with
    | cons r1 rr => cases rr with
      | cons r2 rr => cases rr; cases r1; cases r2; exact ⟨_, _, rfl, fin_s A q (.int _) hf⟩
  · exact hf.elim
theorem ok_int1 {G : GC} : OkC G (fun xs H Q => (∃ i, xs = [.int i] ∧ Q (.int i) H) ∨ ∃ k, xs = [.bl k] ∧ Q (.int (if k then 1 else 0)) H) fInt1 := fun c σ ρ S H F vs ds k Q A r hf q => by
  unfold fInt1 at hf
  split at hf
  · cases r with
    | cons r1 rr => cases rr; cases r1; exact .inl ⟨_, rfl, fin_s A q (.int _) hf⟩
  · cases r with
    | cons r1 rr => cases rr; cases r1; exact .inr ⟨_, rfl, fin_s A q (.int _) hf⟩
  · exact hf.elim
theorem ok_abs {G : GC} : OkC G (fun xs H Q => ∃ i, xs = [.int i] ∧ Q (.int (if i < 0 then -i else i)) H) fAbs := fun c σ ρ S H F vs ds k Q A r hf q => by
  unfold fAbs at hf
  split at hf
  · cases r with
    | cons r1 rr => cases rr; cases r1; exact ⟨_, rfl, fin_s A q (.int _) hf⟩
  · exact hf.elim
/-- a ** b -/
abbrev fPow : D2 := fInt CPow fun i j => .int (i ^ j.toNat)

/-! ### zip, enumerate -/
def zipD : List D → List D → List D
  | x :: xs, y :: ys => .tup [x, y] :: zipD xs ys
  | _, _ => []
theorem zipD_length : ∀ xs ys : List D, (zipD xs ys).length = min xs.length ys.length
  | [], _ => by simp [zipD]
  | _ :: _, [] => by simp [zipD]
  | x :: xs, y :: ys => by
    show (zipD xs ys).length + 1 = _
    rw [zipD_length xs ys, List.length_cons, List.length_cons]
    omega
theorem zipD_get : ∀ {xs ys : List D} {i : Nat} {d : D}, (zipD xs ys)[i]? = some d → ∃ x y, xs[i]? = some x ∧ ys[i]? = some y ∧ d = .tup [x, y]
  | [], _, _, _, h => by simp [zipD] at h
  | _ :: _, [], _, _, h => by simp [zipD] at h
  | x :: xs, y :: ys, 0, d, h => ⟨x, y, rfl, rfl, (Option.some.inj h).symm⟩
  | x :: xs, y :: ys, i + 1, d, h => by
    obtain ⟨a, b, h1, h2, h3⟩ := zipD_get (xs := xs) (ys := ys) (i := i) h
    exact ⟨a, b, by simpa using h1, by simpa using h2, h3⟩
def enumD : Nat → List D → List D
  | _, [] => []
  | n, x :: xs => .tup [.int (n : Nat), x] :: enumD (n + 1) xs
theorem enumD_length : ∀ (xs : List D) (n : Nat), (enumD n xs).length = xs.length
  | [], _ => rfl
  | x :: xs, n => by
    show (enumD (n + 1) xs).length + 1 = _
    rw [enumD_length xs]
    rfl
theorem enumD_get : ∀ {xs : List D} {n i : Nat} {d : D}, (enumD n xs)[i]? = some d → ∃ x, xs[i]? = some x ∧ d = .tup [.int ((n + i : Nat) : Int), x]
  | [], _, _, _, h => by simp [enumD] at h
  | x :: xs, n, 0, d, h => ⟨x, rfl, (Option.some.inj h).symm⟩
  | x :: xs, n, i + 1, d, h => by
    obtain ⟨a, h1, h3⟩ := enumD_get (xs := xs) (n := n + 1) (i := i) h
    exact ⟨a, by simpa using h1, by rw [h3, show n + 1 + i = n + (i + 1) by omega]⟩
theorem walks_zip {G : GC} {a b : Addr} {vs ws : List V} {ds es : List D} {S : Hp} (h : S a = some (.lst vs)) (r : Reps G S vs ds) (h2 : S b = some (.lst ws)) (r2 : Reps G S ws es) : Walks G (Itz G.K a b) (zipD ds es) S := by
  refine ⟨fun i S' H s1 s2 hi => ?_, fun S' H s1 s2 => ?_, fun c σ ρ S' H F i x H' d A s hd y => ?_⟩
  · rw [zipD_length] at hi
    have l1 : i < vs.length := by rw [r.length]; omega
    have l2 : i < ws.length := by rw [r2.length]; omega
    exact ⟨vs, ws, vs[i], ws[i], .inl (.inl (s2 _ _ (s1 _ _ h))), .inl (.inl (s2 _ _ (s1 _ _ h2))), List.getElem?_eq_getElem l1, List.getElem?_eq_getElem l2⟩
  · refine ⟨vs, ws, .inl (.inl (s2 _ _ (s1 _ _ h))), .inl (.inl (s2 _ _ (s1 _ _ h2))), ?_⟩
    rw [zipD_length, r.length, r2.length]
    omega
  · obtain ⟨T, x1, x2, rfl, hT, rfl, f1, f2⟩ := y
    obtain ⟨d1, d2, g1, g2, rfl⟩ := zipD_get hd
    obtain ⟨v1, e1, q1⟩ := r.get g1
    obtain ⟨v2, e2, q2⟩ := r2.get g2
    have z1 := f1 vs (.inl (.inl (A.fr.sh _ _ (s _ _ h))))
    have z2 := f2 ws (.inl (.inl (A.fr.sh _ _ (s _ _ h2))))
    rw [e1] at z1
    rw [e2] at z2
    cases z1; cases z2
    have ss := same_upd (o := .tup [x1, x2]) (A.fresh hT).1
    refine ⟨_, A.new hT, ss, .tup upd_same (.cons ((q1.mono s).mono ss) (.one ((q2.mono s).mono ss))), fun p hp => ⟨upd_ne fun z => hp (z ▸ hT), upd_ne fun z => hp (z ▸ hT)⟩⟩
theorem walks_enum {G : GC} {a : Addr} {vs : List V} {ds : List D} {S : Hp} (h : S a = some (.lst vs)) (r : Reps G S vs ds) : Walks G (Ite G.K a) (enumD 0 ds) S := by
  refine ⟨fun i S' H s1 s2 hi => ?_, fun S' H s1 s2 => ?_, fun c σ ρ S' H F i x H' d A s hd y => ?_⟩
  · rw [enumD_length] at hi
    have l1 : i < vs.length := by rw [r.length]; omega
    exact ⟨vs, vs[i], .inl (.inl (s2 _ _ (s1 _ _ h))), List.getElem?_eq_getElem l1⟩
  · exact ⟨vs, .inl (.inl (s2 _ _ (s1 _ _ h))), by rw [enumD_length, r.length]; exact Nat.le_refl _⟩
  · obtain ⟨T, x1, rfl, hT, rfl, f1⟩ := y
    obtain ⟨d1, g1, rfl⟩ := enumD_get hd
    obtain ⟨v1, e1, q1⟩ := r.get g1
    have z1 := f1 vs (.inl (.inl (A.fr.sh _ _ (s _ _ h))))
    rw [e1] at z1
    cases z1
    have ss := same_upd (o := .tup [.int (i : Nat), x1]) (A.fresh hT).1
    rw [Nat.zero_add]
    exact ⟨_, A.new hT, ss, .tup upd_same (.cons (.int _) (.one ((q1.mono s).mono ss))), fun p hp => ⟨upd_ne fun z => hp (z ▸ hT), upd_ne fun z => hp (z ▸ hT)⟩⟩
def iZ (dl : DL) : DL := fun x ρ k => dl x ρ fun ds ρ1 => match ds with
  | [.lst a, .lst b] => k (zipD a b) ρ1
  | _ => False
def iE (dl : DL) : DL := fun x ρ k => dl x ρ fun ds ρ1 => match ds with
  | [.lst a] => k (enumD 0 a) ρ1
  | _ => False
section
variable {X : Cx} {B : Bd} {e e2 : Expr} {dl : DL} {p pos tpos : Pos} {elts : List Expr} {kk : Nat}
theorem i_zip (hK : X.K = B.G.K) (hm : X.mg "zip" = none) (ha : PA X [e, e2] (tA B dl)) (hg : Gl X "zip" := by rfl) (hs : starEach [e, e2] X.env = (false, eval e X.env) :: starEach [e2] X.env := by rfl) (hpl : (backTo pos (starEach [e2] X.env)).any (·.1) = false := by rfl) :
    PI X (.Tuple elts kk tpos) (.Call (.Name "zip" p) [e, e2] [] pos) (tI B (iZ dl)) := PI.imp (pi_zip hg hm ha hs hpl) fun σ H R ⟨c, ρ, S, k, w, A, h, q⟩ =>
  ⟨c, ρ, S, _, w, A, h, fun vs ds ρ1 S1 H1 ⟨F1, A1⟩ s1 r1 h1 => by
    split at h1
    · cases r1 with
      | cons ra rr =>
        cases rr with
        | cons rb rr =>
          cases rr
          cases ra with
          | lst e1 q1 =>
            cases rb with
            | lst e2 q2 =>
              rw [hK]
              exact ⟨_, _, _, _, rfl, .inl (.inl (A1.fr.sh _ _ e1)), .inl (.inl (A1.fr.sh _ _ e2)), q _ _ ρ1 S1 H1 ⟨F1, A1⟩ s1 (walks_zip e1 q1 e2 q2) h1⟩
    · exact h1.elim⟩
theorem i_enum (hK : X.K = B.G.K) (hm : X.mg "enumerate" = none) (ha : PA X [e] (tA B dl)) (hg : Gl X "enumerate" := by rfl) (hs : starEach [e] X.env = [(false, eval e X.env)] := by rfl) :
    PI X (.Tuple elts kk tpos) (.Call (.Name "enumerate" p) [e] [] pos) (tI B (iE dl)) := PI.imp (pi_enum hg hm ha hs) fun σ H R ⟨c, ρ, S, k, w, A, h, q⟩ =>
  ⟨c, ρ, S, _, w, A, h, fun vs ds ρ1 S1 H1 ⟨F1, A1⟩ s1 r1 h1 => by
    split at h1
    · cases r1 with
      | cons ra rr =>
        cases rr
        cases ra with
        | lst e1 q1 =>
          rw [hK]
          exact ⟨_, _, rfl, .inl (.inl (A1.fr.sh _ _ e1)), q _ _ ρ1 S1 H1 ⟨F1, A1⟩ s1 (walks_enum e1 q1) h1⟩
    · exact h1.elim⟩
end
end Y
namespace Y
open PySem PySem.Spec PyProof.Rows L2

theorem iop_mulW {X : Cx} : OpR X (inplaceOp .Mult) (rI CMulW fun i j => .int (i * j)) := opI fun _ _ _ _ _ _ _ hc q => imul_int q hc.ok
theorem iop_addI {X : Cx} : OpR X (inplaceOp .Add) (rI0 fun i j => .int (i + j)) := iop_add
abbrev fAddI : D2 := fInt0 fun i j => .int (i + j)

/-! ### the town made -/
def spTown (K : PySem.W.Frag) : Sp := fun vs H Q _ => ∃ (a : Addr) (ns : List Int), vs = [.ref a] ∧ SqL K H a (ns.map V.int) ∧ ns.length ≤ 1000 ∧ ∀ p H', Same H H' → H p = none → H' p = some (.lst (.int 0 :: ns.map V.int)) → Q (.ref p) H'
def CalT (P : Program) (w : World) (K : PySem.W.Frag) (mg : Str → Option Value) (base : Heap) (k : Nat) (x : Str) (ps : List Str) : Prop :=
  ∃ fa fd, FnOk P w K mg base (L2.CX P w) k fa fd ps (spTown K) ∧ mg x = some (.ref fa) ∧ PySem.W.keepIn K (.ref fa) = true ∧ Binds K fd ps []
theorem mk_calT {P : Program} {w : World} {K : PySem.W.Frag} {mg : Str → Option Value} {base : Heap} {x qual : Str} {st : Stmt} {f : Addr} {fd : FuncData} {N ps : List Str} {k : Nat} (T : DefAt K x qual st f fd) (hx : mg x = some (.ref f)) (S : FnScope N ps (defScope st)) (hN : N = ps) (hp : ps.length = 1)
    (hbd : ∀ (kV doc pm : Value) (an : Option Addr) (cdv ct : Value) (us : List Value), us.length = ps.length → bindArgs (PySem.W.fnOf x qual (defArgs st) (defBody st) (defScope st) .none kV doc pm an cdv ct) ⟨us, []⟩ = pure (ps.zip us))
    (hb : ∀ (cdv : Value) (A : Around) (outer : List Env) (s : Shared) (H : Hp) (E : XK), Room k (A.deeper (envOfC qual (defScope st) s.heap.objs.size f cdv)) →
      PSs (cxOf (L2.CX P w) P w K mg base N qual (defScope st) f cdv A outer s H E) (defBody st) (tRet (tOp rCat (tLst (tCons (tC (.int 0)) tNil)) (tCB (rListO K) (tCons (tVar 0) tNil))))) :
    CalT P w K mg base (k + 1) x ps := by
  refine ⟨f, fd, T.fn.okX S (fun vs H Q E h => ?_) (fun cdv A outer s H vs Q E hr h => ?_), hx, T.fn.kp, T.fn.binds hbd⟩
  · obtain ⟨a, ns, rfl, _⟩ := h
    exact hp.symm
  · obtain ⟨a, ns, rfl, hs, hl, q⟩ := h
    refine ⟨_, hb cdv A outer s H E hr, ?_⟩
    have e : L2.start N [V.ref a] = [some (.ref a)] := by
      unfold L2.start
      rw [hN, hp]
      rfl
    rw [e]
    refine ⟨by show 1 ≤ sizeLine; decide, fun p hp => ⟨.ref a, rfl, a, _, rfl, .inl ((same_upd hp).seq hs), fun l hl2 => ?_⟩⟩
    have hpl : p ≠ l := fun z => by rw [← z, upd_same] at hl2; cases hl2
    refine ⟨p, l, [.int 0], ns.map V.int, rfl, rfl, by rw [upd_ne hpl, upd_same], upd_same, ?_, fun r hr2 => ?_⟩
    · rw [List.length_map]
      show 1 + ns.length ≤ sizeLine
      exact lim_le (by unfold lim; omega)
    · have h1 : (upd H p (.lst [.int 0])) r = none := by
        by_cases z : r = l
        · rw [z, upd_same] at hr2; cases hr2
        · rw [upd_ne z] at hr2; exact hr2
      have h2 : H r = none := by
        by_cases z : r = p
        · rw [z, upd_same] at h1; cases h1
        · rw [upd_ne z] at h1; exact h1
      exact q r _ (((same_upd hp).trans (same_upd hl2)).trans (same_upd hr2)) h2 upd_same
def dTown (i j : Nat) : DS := fun D _ ρ => match ρ[j]? with
  | some (.d (.scr ns)) => ns.length ≤ 63 ∧ D.nx (ρ.set i (.town 1000000 ns.length))
  | _ => False
section
variable {X : Cx} {B : Bd} {k j : Nat} {ps : List Str} {x y z : Str} {p pos pos' py pz : Pos}
theorem s_town (i n : Nat) (hN : X.N.Nodup) (hK : X.K = B.G.K) (hc : CalT X.prog X.w X.K X.mg X.base j x ps) (hr : Room k X.A) (hx : Passes (L2.CX X.prog X.w) X B.E) (hj : j ≤ k := by decide) (hi : X.N[i]? = some y := by rfl) (hly : Loc X.env.scope y := by first | exact .inl rfl | exact .inr rfl)
    (hn : X.N[n]? = some z := by rfl) (hv : Vis X.env.scope z := by first | exact Or.inl rfl | exact Or.inr (Or.inl rfl) | exact Or.inr (Or.inr rfl)) (hd : (z == ("__debug__" : Str)) = false := by decide) (hcd : (z == ("__classdict__" : Str)) = false := by decide)
    (hg : Gl X x := by rfl) (hdb : (x == ("__debug__" : Str)) = false := by decide) (he : starEach [.Name z pz] X.env = (false, eval (.Name z pz) X.env) :: starEach [] X.env := by rfl) (hpl : (backTo p (starEach [] X.env)).any (·.1) = false := by rfl)
    (hs : swapsWith (.Call (.Name x py) [.Name z pz] [] p) (some (.Name y pos')) pos.line X.env = pure false := by rfl)
    (hf : X.fn y = true ∨ X.env.scope.names.lookup y = some .local := by first | exact .inl rfl | exact .inr rfl | assumption) (hp : i ∉ B.pn := by (dsimp only; decide)) :
    PS X (.Assign [.Name y pos'] (.Call (.Name x py) [.Name z pz] [] p) pos) (tS B (dTown i n)) := by
  obtain ⟨fa, fd, F, h1, h2, h3⟩ := hc
  refine PS.imp (ps_set hN hi hly (pe_call (F.mono hj) hr hg h1 h2 h3 .nil hx (pa_cons (pv n hn hv hd hcd) pa_nil he) hdb he hpl) hs hf) fun D σ H ⟨c, ρ, S, de, w, ⟨FF, A⟩, h, l⟩ => ?_
  unfold dTown at h
  split at h
  · rename_i ns e
    obtain ⟨hl, h⟩ := h
    obtain ⟨v, ev, rv⟩ := A.d_get e
    cases rv with
    | @scr a _ e2 =>
      refine ⟨_, ev, a, ns, rfl, by rw [hK]; exact A.fr.sh.seq e2, by omega, fun q H' ss hq eq => ?_⟩
      obtain ⟨f1, f2, f3⟩ := A.fresh hq
      have A1 := A.grow ss (Same.refl S) (A.fr.sh.trans ss) fun _ _ => rfl
      refine l.nx _ _ S H' ⟨_, A1.set (i := i) (v := some (.ref q)) (s := .town 1000000 ns.length) (f := [q]) ⟨rfl, ⟨f1, .inr f2⟩, 0, ns, eq, by omega, by omega, rfl⟩ (fun j a _ ha => ?_) (.inl (by rw [w.pn]; exact hp))⟩ (Same.refl S) h
      rw [List.mem_singleton] at ha
      subst ha
      exact f3 j
  · exact h.elim
end
/-! ### the end -/
def spLaw (K : PySem.W.Frag) : Sp := fun vs H Q _ => ∃ (a : Addr) (ns : List Int), vs = [.ref a] ∧ SqL K H a (ns.map V.int) ∧ ns.length ≤ 63 ∧ ∀ H', Q (.bl true) H'
theorem law_imp {K : PySem.W.Frag} {mg : Str → Option Value} {dk : Addr} {f : FD} (hm : f.m = 1) (hp : f.pn = []) (h : ∀ ns : List Int, ns.length ≤ 63 → f.go [.d (.scr ns)] (fun d _ => d = .bl true) xF) : ∀ vs H Q E, spLaw K vs H Q E → spF ⟨K, mg, dk⟩ f vs H Q E := by
  intro vs H Q E ⟨a, ns, e, hs, hn, q⟩
  subst e
  obtain ⟨S, as, FP, k, x, h1, h2, h3, h4, h5⟩ := hsp_of (mg := mg) (dk := dk) hm hp h H a ns hn hs
  exact ⟨S, as, FP, k, x, h1, h2, h3, fun v d os S' H' FP' A r hk => by
    have e := h4 v d os S' H' FP' A r hk
    subst e
    exact q H', fun ex cls dd os S' H' FP' A o hx => (h5 ex cls dd os S' H' FP' A o hx).elim⟩
end Y
namespace Y
open PySem PySem.Spec PyProof.Rows L2

/-! ### the class of decks -/
structure DkOk (G : GC) : Prop where
  cl : Cls G.K G.dk
  np : NoAttr G.K G.dk "pile"
  ca : PySem.W.findIn G.K (.ref G.dk) "__class__" = some (some (.builtin "object.__class__"))
  cn : PySem.W.specialIn G.K (.builtin "object.__class__") "__get__" = some (some (.builtin "getset_descriptor.__get__"))
  ct : PySem.W.takesIn G.K (.builtin "object.__class__") = some true
  cm : PySem.W.mroIn G.K G.dk (.type "object") = some true
  mak : PySem.W.makesIn G.K G.dk = true
  kep : PySem.W.keepIn G.K (.ref G.dk) = true
def CalM (P : Program) (w : World) (K : PySem.W.Frag) (mg : Str → Option Value) (base : Heap) (G : GC) (k : Nat) (m : Str) (ps : List Str) (f : FD) : Prop :=
  ∃ fa fd, FnOk P w K mg base (L2.CX P w) k fa fd ps (spF G f) ∧ Meth K G.dk m fa ∧ Binds K fd ps []
structure MetAt (K : PySem.W.Frag) (C : Addr) (x qual : Str) (st : Stmt) (f : Addr) (fd : FuncData) : Prop where
  fn : Fun K x qual st f fd
  me : Meth K C x f
theorem met_at {K : PySem.W.Frag} {C : Addr} {x qual : Str} {st : Stmt} {f : Addr} {od an : Option Addr} {sl : Array (Option Value)} {oc kV dc pm cd ct : Value} (a : PySem.W.findIn K (.ref C) x = some (some (.ref f))) (i : PySem.W.isFn K (.ref f) = true)
    (l : K.lookup f = some ⟨oc, od, .func (PySem.W.fnOf x qual (defArgs st) (defBody st) (defScope st) .none kV dc pm an cd ct), sl⟩) (c : PySem.W.codeIn K cd qual = true) (k : PySem.W.keepIn K (.ref f) = true) :
    MetAt K C x qual st f (PySem.W.fnOf x qual (defArgs st) (defBody st) (defScope st) .none kV dc pm an cd ct) := ⟨fun_mk l c k, a, i, k⟩
theorem mk_calM {P : Program} {w : World} {K : PySem.W.Frag} {mg : Str → Option Value} {base : Heap} {G : GC} {x qual : Str} {st : Stmt} {f : Addr} {fd : FuncData} {N ps : List Str} {k : Nat} (pn : List Nat) (ds : DS) (T : MetAt K G.dk x qual st f fd) (S : FnScope N ps (defScope st)) (hpn : ∀ i ∈ pn, i < ps.length)
    (hbd : ∀ (kV doc pm : Value) (an : Option Addr) (cdv ct : Value) (us : List Value), us.length = ps.length → bindArgs (PySem.W.fnOf x qual (defArgs st) (defBody st) (defScope st) .none kV doc pm an cdv ct) ⟨us, []⟩ = pure (ps.zip us))
    (hb : ∀ (cdv : Value) (A : Around) (outer : List Env) (s : Shared) (H : Hp) (E : XK), Room k (A.deeper (envOfC qual (defScope st) s.heap.objs.size f cdv)) →
      PSs (cxOf (L2.CX P w) P w K mg base N qual (defScope st) f cdv A outer s H E) (defBody st) (tS ⟨G, E, pn⟩ ds)) :
    CalM P w K mg base G (k + 1) x ps (fdef ps.length (N.length - ps.length) pn ds) := ⟨f, fd, fn_def pn ds T.fn S hpn hb, T.me, T.fn.binds hbd⟩
theorem CalM.mono {P : Program} {w : World} {K : PySem.W.Frag} {mg : Str → Option Value} {base : Heap} {G : GC} {j k : Nat} {x : Str} {ps : List Str} {f : FD} (c : CalM P w K mg base G j x ps f) (h : j ≤ k) : CalM P w K mg base G k x ps f := by
  obtain ⟨fa, fd, F, r⟩ := c
  exact ⟨fa, fd, F.mono h, r⟩
def isDk : D → Bool
  | .deck _ => true
  | _ => false
def asDk (d : D) (f : List D → Prop) : Prop := match d with
  | .deck l => f l
  | _ => False
theorem asDk_eq (l : List D) (f : List D → Prop) : asDk (.deck l) f = f l := rfl
theorem isDk_eq (l : List D) : isDk (.deck l) = true := rfl
/-- a flat call, through sp_use -/
theorem sp_flat {B : Bd} {f : FD} {c : C} {σ : St} {ρ : Ev} {S H : Hp} {F : Nat → List Addr} {vs : List V} {ds : List D} {k : D → Ev → Prop} {Q : VK} {E : XK} (A : AbsF B.G c σ ρ S H F) (a : Reps B.G S vs ds) (hm : ds.length = f.m) (hn : f.pn = []) {x : KX} (h : f.go (ds.map SV.d) k x)
    (q : ∀ v d os S' H', Abs B.G c σ ρ S' H' → Same S S' → Rep B.G S' v d → k d os → Q v H')
    (qx : ∀ ex cls dd os S' H', Abs B.G c σ ρ S' H' → ExOk B.G cls dd H' ex → x ex os → E cls dd H') : spF B.G f vs H Q E := by
  have hp : ∀ os, putA ρ (ds.map Arg.d) os = ρ := fun os => by unfold putA; rw [put_d, slots_d]; rfl
  refine sp_use (B := { B with E := E }) A (ArgsOk.ofReps a) ?_ (by rw [sv_d]; exact h) (fun v d os S' H' A' s' r' hk => ?_) fun ex cls dd os S' H' A' o hx => ?_
  · unfold fits
    rw [List.length_map, hm, places_d, slots_d, hn]
    simp
  · rw [hp os] at A'
    exact q v d os S' H' A' s' r' hk
  · rw [hp os] at A'
    exact qx ex cls dd os S' H' A' o hx
def dMeth (f : FD) (do_ : DE) (dl : DL) : DE := fun x ρ k => do_ x ρ fun z ρ1 => isDk z = true ∧ dl x ρ1 fun ds ρ2 => ds.length + 1 = f.m ∧ f.go (.d z :: ds.map SV.d) (fun d _ => k d ρ2) (fun ex _ => x ex ρ2)
section
variable {X : Cx} {B : Bd} {f : FD} {k j : Nat} {ps : List Str} {m : Str} {p pos apos : Pos} {o e : Expr} {es : List Expr} {do_ : DE} {dl : DL}
theorem imp_meth (hn : f.pn = []) (hm : (m == ("pile" : Str)) = false) : ∀ σ H Q, tD B (dMeth f do_ dl) σ H Q → tMeth B.G.dk m (spF B.G f) [] B.E (tD B do_) (tA B dl) σ H Q := fun σ H Q ⟨c, ρ, S, k, w, A, h, q⟩ =>
  ⟨c, ρ, S, _, w, A, h, fun v z ρ1 S1 H1 ⟨F1, A1⟩ s1 r1 ⟨hz, h1⟩ => by
    cases r1 with
    | deck e1 e2 r =>
      refine ⟨_, _, _, rfl, A1.fr.sh _ _ e1, by show (match m == ("pile" : Str) with | true => _ | false => _) = _; rw [hm]; rfl, c, ρ1, S1, _, w, ⟨F1, A1⟩, h1, fun vs ds ρ2 S2 H2 ⟨F2, A2⟩ s2 r2 ⟨hl, h2⟩ => ?_⟩
      show spF B.G f (_ :: (vs ++ [])) H2 Q B.E
      rw [List.append_nil]
      exact sp_flat (ds := .deck _ :: ds) A2 (.cons ((Rep.deck e1 e2 r).mono s2) r2) (by rw [List.length_cons, hl]) hn h2 (fun v d os S' H' A' s' r' hk => q v d _ S' H' A' ((s1.trans s2).trans s') r' hk) fun ex cls dd os S' H' A' o hx => w.go ex cls dd σ _ S' H' A' o hx
    | _ => cases hz⟩
theorem CalM.mc (hd : DkOk B.G) (hK : X.K = B.G.K) (hc : CalM X.prog X.w X.K X.mg X.base B.G j m ps f) (hr : Room k X.A) (hx : Passes (L2.CX X.prog X.w) X B.E) (ho : PE X o (tD B do_)) (ha : PA X (e :: es) (tA B dl)) (hj : j ≤ k := by decide) (hn : f.pn = [] := by rfl) (hm : (m == ("pile" : Str)) = false := by decide)
    (hst : starEach (e :: es) X.env = (false, eval e X.env) :: starEach es X.env := by rfl) (hpl : (backTo pos (starEach es X.env)).any (·.1) = false := by rfl) {pl : Sem Bool}
    (ht : eval (.Call (.Attribute o m apos) (e :: es) [] pos) X.env = (do
      let ov ← eval o X.env
      standAt apos.atName
      let (f, first) ← holding [ov] (getMethod ov m pl)
      callWith pos f first (backTo pos (starEach (e :: es) X.env)) (backToKw pos (keywordEach [] X.env))) := by rfl) :
    PE X (.Call (.Attribute o m apos) (e :: es) [] pos) (tD B (dMeth f do_ dl)) := by
  obtain ⟨fa, fd, F, h1, h2⟩ := hc
  exact PE.imp (pe_meth (pl := pl) ho (hK ▸ hd.cl) h1 (F.mono hj) hr h2 .nil hx ha hst hpl ht) (imp_meth hn hm)
theorem CalM.mc0 (hd : DkOk B.G) (hK : X.K = B.G.K) (hc : CalM X.prog X.w X.K X.mg X.base B.G j m ps f) (hr : Room k X.A) (hx : Passes (L2.CX X.prog X.w) X B.E) (ho : PE X o (tD B do_)) (hj : j ≤ k := by decide) (hn : f.pn = [] := by rfl) (hm : (m == ("pile" : Str)) = false := by decide) {pl : Sem Bool}
    (ht : eval (.Call (.Attribute o m apos) [] [] pos) X.env = (do
      let ov ← eval o X.env
      standAt apos.atName
      let (f, first) ← holding [ov] (getMethod ov m pl)
      callWith pos f first (backTo pos (starEach [] X.env)) (backToKw pos (keywordEach [] X.env))) := by rfl) :
    PE X (.Call (.Attribute o m apos) [] [] pos) (tD B (dMeth f do_ lNil)) := by
  obtain ⟨fa, fd, F, h1, h2⟩ := hc
  refine PE.imp (pe_meth0 (pl := pl) ho (hK ▸ hd.cl) h1 (F.mono hj) hr h2 .nil hx ht) fun σ H Q h => ?_
  obtain ⟨c, ρ, S, k, w, A, h, q⟩ := imp_meth hn hm σ H Q h
  exact ⟨c, ρ, S, k, w, A, h, fun v d ρ' S' H' A' s r hk => by
    obtain ⟨a, dx, fs, h1, h2, h3, c', ρ1, S1, k1, w1, A1, h4, h5⟩ := q v d ρ' S' H' A' s r hk
    exact ⟨a, dx, fs, h1, h2, h3, h5 [] [] ρ1 S1 H' A1 (Same.refl _) .nil h4⟩⟩
/-- o.pile -/
def dFld (do_ : DE) : DE := fun x ρ k => do_ x ρ fun z ρ1 => asDk z fun l => k (.lst l) ρ1
theorem e_fld (hd : DkOk B.G) (hK : X.K = B.G.K) (ho : PE X o (tD B do_)) (hb : attributeBase o ("pile" : Str) X.env (eval o X.env) = eval o X.env := by rfl) : PE X (.Attribute o "pile" pos) (tD B (dFld do_)) :=
  PE.imp (pe_fld ho hb) fun σ H Q ⟨c, ρ, S, k, w, A, h, q⟩ => ⟨c, ρ, S, _, w, A, h, fun v z ρ1 S1 H1 ⟨F1, A1⟩ s1 r1 h1 => by
    cases r1 with
    | deck e1 e2 r => exact ⟨_, _, _, _, _, rfl, A1.fr.sh _ _ e1, hK ▸ hd.cl, hK ▸ hd.np, rfl, q _ _ ρ1 S1 H1 ⟨F1, A1⟩ s1 (.lst e2 r) h1⟩
    | _ => exact h1.elim⟩
end
end Y
namespace Y
open PySem PySem.Spec PyProof.Rows L2
/-! ### a deck made -/
section
variable {G : GC} {c : C} {S S' H H' : Hp} {σ : St} {ρ : Ev} {F : Nat → List Addr}
theorem AbsF.push (A : AbsF G c σ ρ S H F) {v : Option V} {s : SV} {f : List Addr} (h : SlotOk G c S H v s f) (hf : ∀ j a, a ∈ f → a ∉ F j) : AbsF G c (σ ++ [v]) (ρ ++ [s]) S H (fun j => if j = ρ.length then f else F j) := by
  have hl := A.len
  have hF : ∀ j, ρ.length ≤ j → F j = [] := fun j hj => A.em j (List.getElem?_eq_none hj)
  refine ⟨A.fr, by simp [hl], fun i t e => ?_, fun i e => ?_, fun i hi => ?_, fun i j a hi hj => ?_⟩
  · by_cases z : i < ρ.length
    · rw [List.getElem?_append_left z] at e
      rw [List.getElem?_append_left (by omega), if_neg (by omega)]
      exact A.sl i t e
    · have z2 : i = ρ.length := by
        have := (List.getElem?_eq_some_iff.mp e).1
        rw [List.length_append] at this
        simp at this
        omega
      subst z2
      rw [List.getElem?_append_right (Nat.le_refl _), Nat.sub_self] at e
      cases e
      rw [← hl, List.getElem?_append_right (Nat.le_refl _), Nat.sub_self, hl, if_pos rfl]
      exact h
  · rw [List.getElem?_eq_none_iff, List.length_append] at e
    simp at e
    rw [if_neg (by omega)]
    exact hF i (by omega)
  · have q := A.pin i hi
    rw [List.getElem?_append_left (List.getElem?_eq_some_iff.mp q).1]
    exact q
  · by_cases z1 : i = ρ.length
    · by_cases z2 : j = ρ.length
      · omega
      · rw [if_pos z1] at hi
        rw [if_neg z2] at hj
        exact absurd hj (hf j a hi)
    · rw [if_neg z1] at hi
      by_cases z2 : j = ρ.length
      · rw [if_pos z2] at hj
        exact absurd hi (hf i a hj)
      · rw [if_neg z2] at hj
        exact A.dj i j a hi hj
theorem AbsF.pop {v : Option V} {s : SV} (A : AbsF G c (σ ++ [v]) (ρ ++ [s]) S H F) (hp : ∀ i ∈ c.pn, i < σ.length) : Abs G c σ ρ S H := by
  have hl : σ.length = ρ.length := by have := A.len; simpa using this
  refine ⟨fun i => if i < ρ.length then F i else [], A.fr, hl, fun i t e => ?_, fun i e => ?_, fun i hi => ?_, fun i j a hi hj => ?_⟩
  · have z := (List.getElem?_eq_some_iff.mp e).1
    rw [if_pos z]
    have := A.sl i t (by rw [List.getElem?_append_left z]; exact e)
    rw [List.getElem?_append_left (by omega)] at this
    exact this
  · rw [List.getElem?_eq_none_iff] at e
    rw [if_neg (by omega)]
  · have q := A.pin i hi
    rw [List.getElem?_append_left (hp i hi)] at q
    exact q
  · split at hi
    · split at hj
      · exact A.dj i j a hi hj
      · cases hj
    · cases hi
end
def CalI (P : Program) (w : World) (K : PySem.W.Frag) (mg : Str → Option Value) (base : Heap) (G : GC) (k : Nat) (x : Str) (ps : List Str) (f : FD) : Prop :=
  ∃ fa fd, FnOk P w K mg base (L2.CX P w) k fa fd ps (spF G f) ∧ Mk K G.dk fa ∧ Binds K fd ps [] ∧ mg x = some (.ref G.dk)
def dMake (f : FD) (dl : DL) : DE := fun x ρ k => dl x ρ fun ds ρ1 => ds.length + 1 = f.m ∧ f.go (.ob :: ds.map SV.d) (fun d os => d = .non ∧ ∃ z r, os = .d z :: r ∧ k z ρ1) (fun ex _ => x ex ρ1)
theorem putA_ob {ρ : Ev} {ds : List D} {os : Ev} : ∃ s, putA (ρ ++ [.ob]) (.m ρ.length :: ds.map Arg.d) os = ρ ++ [s] ∧ ∀ o r, os = o :: r → s = o := by
  have e : wipeE (ρ ++ [SV.ob]) (slotsOf (.m ρ.length :: ds.map Arg.d)) = ρ ++ [.un] := by
    show (wipeE (ρ ++ [SV.ob]) (slotsOf (ds.map Arg.d))).set ρ.length .un = _
    rw [slots_d]
    show (ρ ++ [SV.ob]).set ρ.length .un = _
    rw [List.set_append_right _ _ (Nat.le_refl _), Nat.sub_self]
    rfl
  unfold putA
  rw [e]
  cases os with
  | nil => exact ⟨.un, rfl, fun _ _ z => nomatch z⟩
  | cons o os =>
    refine ⟨o, ?_, fun _ _ z => by cases z; rfl⟩
    show put ((ρ ++ [SV.un]).set ρ.length o) (ds.map Arg.d) os = _
    rw [put_d, List.set_append_right _ _ (Nat.le_refl _), Nat.sub_self]
    rfl
section
variable {X : Cx} {B : Bd} {f : FD} {k j : Nat} {ps : List Str} {x : Str} {p pos : Pos} {e : Expr} {es : List Expr} {dl : DL}
theorem imp_make (hn : f.pn = [0]) : ∀ σ H Q, tD B (dMake f dl) σ H Q → tMake B.G.dk (spF B.G f) [] B.E (tA B dl) σ H Q := fun σ H Q ⟨c, ρ, S, k, w, A, h, q⟩ =>
  ⟨c, ρ, S, _, w, A, h, fun vs ds ρ1 S1 H1 ⟨F1, A1⟩ s1 r1 ⟨hl, h1⟩ x dx hx hdx hne => by
    rw [List.append_nil]
    have hx1 : L2.upd H1 dx (.own x) x = none := by rw [upd_ne (Ne.symm hne)]; exact hx
    have A2 := (A1.newO (o := .own x) hdx).newO (o := .ins B.G.dk dx []) hx1
    obtain ⟨z1, z2, z3⟩ := A1.fresh hx
    have A3 := A2.push (v := some (V.ref x)) (s := .ob) (f := [x]) ⟨rfl, ⟨z1, .inr z2⟩, dx, upd_same⟩ fun i a ha => by rw [List.mem_singleton] at ha; subst ha; exact z3 i
    have hpn : ∀ i ∈ c.pn, i < σ.length := fun i hi => (List.getElem?_eq_some_iff.mp (A1.pin i hi)).1
    have el : σ.length = ρ1.length := A1.len
    have a : ArgsOk B.G S1 (σ ++ [some (V.ref x)]) (.ref x :: vs) (.m ρ1.length :: ds.map Arg.d) := .cm (by rw [← el, List.getElem?_append_right (Nat.le_refl _), Nat.sub_self]; rfl) (ArgsOk.ofReps r1)
    refine sp_use (B := B) (k := fun d os => d = D.non ∧ ∃ z r, os = SV.d z :: r ∧ k z ρ1) (x := fun ex _ => c.x ex ρ1) A3 a ?_ ?_ (fun v d os S' H' A' s' r' ⟨hd, z, r, eo, hk⟩ => ?_) fun ex cls dd os S' H' A' o hx => ?_
    · unfold fits
      rw [show placesOf 0 (Arg.m ρ1.length :: ds.map Arg.d) = 0 :: placesOf (0 + 1) (ds.map Arg.d) from rfl, places_d, show slotsOf (Arg.m ρ1.length :: ds.map Arg.d) = ρ1.length :: slotsOf (ds.map Arg.d) from rfl, slots_d, hn, List.length_cons, List.length_map, hl]
      simp
    · show f.go (Arg.sv (ρ1 ++ [SV.ob]) (.m ρ1.length) :: (ds.map Arg.d).map (Arg.sv (ρ1 ++ [SV.ob]))) _ _
      rw [sv_d, show Arg.sv (ρ1 ++ [SV.ob]) (.m ρ1.length) = .ob from by show (ρ1 ++ [SV.ob]).getD ρ1.length .un = _; simp [List.getD]]
      exact h1
    · subst hd
      cases r'
      refine ⟨rfl, ?_⟩
      obtain ⟨s, e1, e2⟩ := putA_ob (ρ := ρ1) (ds := ds) (os := os)
      rw [e1, e2 _ _ eo] at A'
      obtain ⟨F', A'⟩ := A'
      have y := A'.sl ρ1.length (.d z) (by simp)
      rw [← el, List.getElem?_append_right (Nat.le_refl _), Nat.sub_self] at y
      exact q _ _ ρ1 S' H' (A'.pop hpn) (s1.trans s') y.2 hk
    · obtain ⟨s, e1, _⟩ := putA_ob (ρ := ρ1) (ds := ds) (os := os)
      rw [e1] at A'
      obtain ⟨F', A'⟩ := A'
      exact w.go ex cls dd σ ρ1 S' H' (A'.pop hpn) o hx⟩
theorem CalI.mk (hc : CalI X.prog X.w X.K X.mg X.base B.G j x ps f) (hr : Room k X.A) (hx : Passes (L2.CX X.prog X.w) X B.E) (ha : PA X (e :: es) (tA B dl)) (hj : j + 1 ≤ k := by decide) (hn : f.pn = [0] := by rfl) (hg : Gl X x := by rfl)
    (hdb : (x == ("__debug__" : Str)) = false := by decide) (he : starEach (e :: es) X.env = (false, eval e X.env) :: starEach es X.env := by rfl) (hpl : (backTo pos (starEach es X.env)).any (·.1) = false := by rfl) :
    PE X (.Call (.Name x p) (e :: es) [] pos) (tD B (dMake f dl)) := by
  obtain ⟨fa, fd, F, h1, h2, h3⟩ := hc
  exact PE.imp (pe_make h1 F (hr.mono hj) hg h3 h2 .nil hx ha hdb he hpl) (imp_make hn)
theorem mk_calI {P : Program} {w : World} {K : PySem.W.Frag} {mg : Str → Option Value} {base : Heap} {G : GC} {qual : Str} {st : Stmt} {f : Addr} {fd : FuncData} {N ps : List Str} {k : Nat} (pn : List Nat) (ds : DS) (T : MetAt K G.dk "__init__" qual st f fd) (hmk : PySem.W.makesIn K G.dk = true) (hkp : PySem.W.keepIn K (.ref G.dk) = true) (hx : mg x = some (.ref G.dk)) (S : FnScope N ps (defScope st)) (hpn : ∀ i ∈ pn, i < ps.length)
    (hbd : ∀ (kV doc pm : Value) (an : Option Addr) (cdv ct : Value) (us : List Value), us.length = ps.length → bindArgs (PySem.W.fnOf "__init__" qual (defArgs st) (defBody st) (defScope st) .none kV doc pm an cdv ct) ⟨us, []⟩ = pure (ps.zip us))
    (hb : ∀ (cdv : Value) (A : Around) (outer : List Env) (s : Shared) (H : Hp) (E : XK), Room k (A.deeper (envOfC qual (defScope st) s.heap.objs.size f cdv)) →
      PSs (cxOf (L2.CX P w) P w K mg base N qual (defScope st) f cdv A outer s H E) (defBody st) (tS ⟨G, E, pn⟩ ds)) :
    CalI P w K mg base G (k + 1) x ps (fdef ps.length (N.length - ps.length) pn ds) := ⟨f, fd, fn_def pn ds T.fn S hpn hb, ⟨hmk, T.me.at_, T.me.fn, hkp⟩, T.fn.binds hbd, hx⟩
/-- self.pile = a new list -/
def dSelf (dl : DL) : DS := fun E x ρ => dl x ρ fun l ρ1 => ρ1[0]? = some .ob ∧ E.nx (ρ1.set 0 (.d (.deck l)))
theorem s_self {sn : Str} {pn pos' : Pos} (hd : DkOk B.G) (hK : X.K = B.G.K) (he : PE X e (tO B dl)) (hN : X.N[0]? = some sn := by rfl) (hv : Vis X.env.scope sn := by first | exact Or.inl rfl | exact Or.inr (Or.inl rfl) | exact Or.inr (Or.inr rfl)) (h1 : (sn == ("__debug__" : Str)) = false := by decide) (h2 : (sn == ("__classdict__" : Str)) = false := by decide)
    (hs : swapsWith e (some (.Attribute (.Name sn pn) "pile" pos')) pos.line X.env = pure false := by rfl) : PS X (.Assign [.Attribute (.Name sn pn) "pile" pos'] e pos) (tS B (dSelf dl)) :=
  PS.imp (ps_fld (pv 0 hN hv h1 h2) he hs) fun D σ H ⟨c, ρ, S, E, w, A, h, l⟩ => ⟨c, ρ, S, _, w, A, h, fun p vs ds ρ1 S1 H1 F1 A1 s1 hF hS hc hH r1 ⟨e0, h1⟩ => by
    have z := A1.sl 0 _ e0
    cases ev : σ[0]? with
    | none => rw [ev] at z; exact z.elim
    | some v =>
      rw [ev] at z
      cases v with
      | none => exact z.elim
      | some v =>
        cases v with
        | ref a =>
          obtain ⟨f1, ow, dx, ea⟩ := z
          have npa : a ≠ p := fun y => hF 0 (by rw [f1, ← y]; exact List.mem_singleton.mpr rfl)
          refine ⟨V.ref a, ev, a, B.G.dk, dx, [], rfl, ea, hK ▸ hd.cl, hK ▸ hd.np, by show (0 : Nat) < 1000; decide, ?_⟩
          have A2 := A1.freeze hS (.inr hc) hF hH
          have A3 := A2.set (i := 0) (v := some (V.ref a)) (s := .un) (f := []) rfl (fun _ _ _ z => nomatch z) (.inr ev)
          rw [set_self ev] at A3
          have nF : ∀ i, a ∉ (fun (j : Nat) => if j = 0 then (if 0 < ρ1.length then ([] : List Addr) else []) else F1 j) i := fun i hi => by
            dsimp only at hi
            split at hi
            · split at hi <;> cases hi
            · rename_i y
              exact y (A1.dj 0 i a (by rw [f1]; exact List.mem_singleton.mpr rfl) hi).symm
          have ow2 : OwnAt c (L2.upd S1 p (.lst vs)) a := ⟨by rw [upd_ne npa]; exact ow.out, ow.may⟩
          have A4 := A3.mutO (p := a) (o := .ins B.G.dk dx [("pile", .ref p)]) ow2 nF (by rw [ea]; simp)
          have A5 := A4.freeze (p := a) ow2.out ow.may nF upd_same
          have rp : Rep B.G (L2.upd (L2.upd S1 p (.lst vs)) a (.ins B.G.dk dx [("pile", .ref p)])) (.ref a) (.deck ds) :=
            .deck upd_same (by rw [upd_ne (Ne.symm npa), upd_same]) ((r1.mono (same_upd hS)).mono (same_upd ow2.out))
          have A6 := A5.setD (i := 0) rp (.inr ev)
          rw [set_self ev] at A6
          have e3 : (ρ1.set 0 SV.un).set 0 (.d (.deck ds)) = ρ1.set 0 (.d (.deck ds)) := by rw [List.set_set]
          rw [e3] at A6
          exact l.nx _ _ _ _ A6 ((s1.trans (same_upd hS)).trans (same_upd ow2.out)) h1
        | _ => exact z.elim⟩
end
end Y
namespace Y
open PySem PySem.Spec PyProof.Rows L2
section
variable {X : Cx} {k j : Nat} {fa : Addr} {fd : FuncData} {ps : List Str} {sp : Sp} {E : XK}
/-- a def of the text run from within an operation -/
theorem run_own {CX : CXT} (F : FnOk X.prog X.w X.K X.mg X.base CX j fa fd ps sp) (hb : Binds X.K fd ps []) (hx : Passes CX X E) {A' : Around} (sb : L2.Sub X j A') {pins : List (Addr × Obj)} {s : Shared} {σ : St} {H : Hp} {vs : List V} {us : List Value} {Q : VK} (I : Inv X pins σ H s) (r : Vals vs us)
    (h : sp vs H Q E) : wpAny (model X.prog X.w) A' (call (.ref fa) us) (EP X pins σ Q) X.xe s := by
  have e0 : Env0 X.prog X.w X.K X.mg X.base A' X.stack s H := by
    have e := I.env0
    exact ⟨by rw [sb.fr]; exact e.frames, e.mod, e.bs, e.bsz, e.funs, e.frf, e.hok, e.bare⟩
  have hl := F.len _ _ _ _ h
  refine wpAny_call (codeAny_mono (F.run A' X.stack s H ⟨us, []⟩ us vs _ E sb.room e0 (by
    have := hb s us I.kIn (by rw [List.append_nil, ← r.length]; exact hl)
    simpa using this) r h) fun r' s' hq => ?_)
  cases r' with
  | error e => exact hx pins σ H s e s' I hq
  | ok fl =>
    cases fl with
    | ret w => exact I.after hq
    | next => exact False.elim hq
    | brk => exact False.elim hq
    | cont => exact False.elim hq
end
/-- a flat call keeps all slots -/
theorem sp_flatF {G : GC} {f : FD} {c : C} {σ : St} {ρ : Ev} {S H : Hp} {F : Nat → List Addr} {vs : List V} {ds : List D} {k : D → Ev → Prop} {Q : VK} {E : XK} {x : KX} (A : AbsF G c σ ρ S H F) (a : Reps G S vs ds) (hm : ds.length = f.m) (hn : f.pn = []) (h : f.go (ds.map SV.d) k x)
    (q : ∀ v d os S' H', AbsF G c σ ρ S' H' F → Same S S' → Rep G S' v d → k d os → Q v H')
    (qx : ∀ ex cls dd os S' H', AbsF G c σ ρ S' H' F → ExOk G cls dd H' ex → x ex os → E cls dd H') : spF G f vs H Q E := by
  have fin : ∀ os S' H' FP', AbsF G (cxC S H (fun _ => []) f.pn vs xF) (vs.map some) os S' H' FP' → AbsF G c σ ρ S' H' F := fun os S' H' FP' A' =>
    A.after (M := fun a => ∃ j : Nat, a ∈ ([] : List Addr)) (fun _ ⟨_, hb⟩ => nomatch hb) A'.fr.ss A'.fr.sh A'.fr.keep A'.fr.trk A'.fr.dom
  refine ⟨S, ds.map SV.d, fun _ => [], k, x, a.length.trans hm, ?_, h, fun v d os S' H' FP' A' r hk => q v d os S' H' (fin os S' H' FP' A') A'.fr.ss r hk, fun ex cls dd os S' H' FP' A' o hk => qx ex cls dd os S' H' (fin os S' H' FP' A') o hk⟩
  refine ⟨⟨Same.refl _, A.fr.sh, fun _ _ e _ => e, fun _ e => e, fun _ _ _ => rfl⟩, by rw [List.length_map, List.length_map, a.length], fun i s e => ?_, fun _ _ => rfl, fun i hi => ?_, fun _ _ _ z => nomatch z⟩
  · rw [List.getElem?_map] at e
    obtain ⟨d, ed, es⟩ := Option.map_eq_some_iff.mp e
    subst es
    obtain ⟨v, ev, hv⟩ := a.get ed
    rw [List.getElem?_map, ev]
    exact ⟨rfl, hv⟩
  · have hi : i ∈ f.pn := hi
    rw [hn] at hi
    cases hi
/-! ### len of a deck -/
def rLenK (C : Addr) (sp : Sp) (E : XK) : List V → Hp → VK → Prop := fun xs H Q => ∃ a dx fs, xs = [.ref a] ∧ H a = some (.ins C dx fs) ∧ sp [.ref a] H (fun v H' => ∃ n : Int, v = .int n ∧ (0 ≤ n ∧ n < 2 ^ 63) ∧ Q (.int n) H') E
section
variable {X : Cx} {B : Bd} {k j : Nat} {fa : Addr} {fd : FuncData} {ps : List Str} {sp : Sp} {f : FD} {p pos : Pos} {e : Expr} {de da db : DE}
theorem call_lenK {C : Addr} {E : XK} {CX : CXT} (F : FnOk X.prog X.w X.K X.mg X.base CX j fa fd ps sp) (me : Meth X.K C "__len__" fa) (hb : Binds X.K fd ps []) (hx : Passes CX X E) (hr : Room k X.A) (hj : j + 1 ≤ k) : CallR X (.builtin "len") (rLenK C sp E) := by
  intro pins s σ H xs us Q I r ⟨a, dx, fs, hxs, ea, h⟩
  subst hxs
  obtain ⟨u, hu, ru⟩ : ∃ u, us = [u] ∧ RelV (.ref a) u := by
    cases r with
    | cons r1 r2 => cases r2; exact ⟨_, rfl, r1⟩
  subst hu
  cases (show u = Value.ref a from ru)
  obtain ⟨mA, J, _⟩ := ins_get I.hok ea
  obtain ⟨od, J, _⟩ := J.look
  obtain ⟨m, hF⟩ := I.fr
  refine PySem.W.len_K hF I.ok.mod.kin J me.at_ me.fn ?_
  have sb : L2.Sub X j X.A.in1 := L2.Sub.in1 ⟨hr.mono hj, rfl⟩
  have r2 : Vals [V.ref a] [Value.ref a] := .cons rfl .nil
  refine wpAny_mono (run_own F hb hx sb I r2 h) (fun v s' ⟨z, H', I', rz, n, ez, hn, q⟩ => ?_) fun _ _ y => y
  subst ez
  obtain ⟨t, ht⟩ := (show ∃ t, v = Value.int n t from rz)
  subst ht
  exact ⟨hn, .int n, H', I'.tok _, ⟨_, rfl⟩, q⟩
def fLenK (f : FD) : DF := fun ds k => match ds with
  | [.deck l] => f.go [.d (.deck l)] (fun d _ => ∃ n : Int, d = .int n ∧ (0 ≤ n ∧ n < 2 ^ 63) ∧ k (.int n)) xF
  | _ => False
theorem ok_lenK {G : GC} (hm : f.m = 1) (hn : f.pn = []) : OkC G (rLenK G.dk (spF G f) E0) (fLenK f) := fun c σ ρ S H F vs ds k Q A r hf q => by
  unfold fLenK at hf
  split at hf
  · cases r with
    | cons r1 rr =>
      cases rr
      cases r1 with
      | deck e1 e2 r =>
        refine ⟨_, _, _, rfl, A.fr.sh _ _ e1, ?_⟩
        refine sp_flatF (ds := [.deck _]) A (.cons (.deck e1 e2 r) .nil) hm.symm hn hf (fun v d os S' H' A' s' r' ⟨n, e, hn, hk⟩ => ?_) fun _ _ _ _ _ _ _ _ z => z.elim
        subst e
        cases r'
        exact ⟨n, rfl, hn, q _ _ S' H' A' s' (.int n) hk⟩
  · exact hf.elim
theorem CalM.ln {dl : DL} {es : List Expr} (hc : CalM X.prog X.w X.K X.mg X.base B.G j "__len__" ps f) (hr : Room k X.A) (hm : X.mg "len" = none) (ha : PA X (e :: es) (tA B dl)) (hp : Passes (L2.CX X.prog X.w) X E0) (hj : j + 1 ≤ k := by decide) (h1 : f.m = 1 := by rfl) (hn : f.pn = [] := by rfl) (hg : Gl X "len" := by rfl)
    (he : starEach (e :: es) X.env = (false, eval e X.env) :: starEach es X.env := by rfl) (hpl : (backTo pos (starEach es X.env)).any (·.1) = false := by rfl) : PE X (.Call (.Name "len" p) (e :: es) [] pos) (tD B (dCB (fLenK f) dl)) := by
  obtain ⟨fa, fd, F, h2, h3⟩ := hc
  exact e_cB (call_lenK F h2 h3 hp hr hj) (ok_lenK h1 hn) hm (by decide +kernel) ha hg (by decide) (by decide) he hpl
/-! ### == and != of decks -/
def rEqK (C : Addr) (sp : Sp) (E : XK) : R2 := fun x y H Q => ∃ a b dx dy fs gs, x = .ref a ∧ y = .ref b ∧ H a = some (.ins C dx fs) ∧ H b = some (.ins C dy gs) ∧ sp [.ref a, .ref b] H (fun v H' => ∃ n : Bool, v = .bl n ∧ Q (.bl n) H') E
theorem op_eqK {C : Addr} {E : XK} {CX : CXT} (F : FnOk X.prog X.w X.K X.mg X.base CX j fa fd ps sp) (me : Meth X.K C "__eq__" fa) (hb : Binds X.K fd ps []) (hx : Passes CX X E) (hr : Room k X.A) (hj : j ≤ k) : OpR X (compareOp .Eq) (rEqK C sp E) := by
  intro pins s σ H x y v u Q I rx ry ⟨a, b, dx, dy, fs, gs, e1, e2, ea, eb, h⟩
  subst e1; subst e2
  cases (show v = Value.ref a from rx)
  cases (show u = Value.ref b from ry)
  obtain ⟨mA, J, _⟩ := ins_get I.hok ea
  obtain ⟨mB, J', _⟩ := ins_get I.hok eb
  obtain ⟨od, J, _⟩ := J.look
  obtain ⟨od', J', _⟩ := J'.look
  obtain ⟨m, hF⟩ := I.fr
  have sb : L2.Sub X j X.A := ⟨hr.mono hj, rfl⟩
  show wpAny (model X.prog X.w) X.A (richCompare .Eq (.ref a) (.ref b)) (EP X pins σ Q) X.xe s
  refine PySem.W.cmp_K (op := .Eq) (tb := .ref C) hr.units0 hF I.ok.mod.kin J J'.type (by simp [PySem.W.notFirst]) me.at_ me.fn ?_
  have r2 : Vals [V.ref a, V.ref b] [Value.ref a, Value.ref b] := .cons rfl (.cons rfl .nil)
  refine wpAny_mono (run_own F hb hx sb I r2 h) (fun v s' ⟨z, H', I', rz, n, ez, q⟩ => ?_) fun _ _ y => y
  subst ez
  cases (show v = Value.bool n from rz)
  exact ⟨.bl n, H', I', rfl, q⟩
def fEqK (f : FD) : D2 := fun d1 d2 k => asDk d1 fun l => asDk d2 fun m => f.go [.d (.deck l), .d (.deck m)] (fun d _ => ∃ b : Bool, d = .bl b ∧ k (.bl b)) xF
theorem ok_eqK {G : GC} (hm : f.m = 2) (hn : f.pn = []) : OkR G (rEqK G.dk (spF G f) E0) (fEqK f) := fun c σ ρ S H F x y dx dy k Q A rx ry hf q => by
  cases rx with
  | deck e1 e2 r =>
    cases ry with
    | deck e3 e4 r' =>
      refine ⟨_, _, _, _, _, _, rfl, rfl, A.fr.sh _ _ e1, A.fr.sh _ _ e3, ?_⟩
      refine sp_flatF (ds := [.deck _, .deck _]) A (.cons (.deck e1 e2 r) (.cons (.deck e3 e4 r') .nil)) hm.symm hn hf (fun v d os S' H' A' s' r' ⟨n, e, hk⟩ => ?_) fun _ _ _ _ _ _ _ _ z => z.elim
      subst e
      cases r'
      exact ⟨n, rfl, q _ _ S' H' A' s' (.bl n) hk⟩
    | _ => exact hf.elim
  | _ => exact hf.elim
end
end Y
namespace Y
open PySem PySem.Spec PyProof.Rows L2
section
variable {prog : Program} {w : World} {A : Around} {E : Value → Shared → Prop} {s : Shared} {K : PySem.W.Frag} {x C L f : Addr} {h₀ : Heap} {m : Str → Option Value} {ox : Obj} {od : Option Obj} {b tb : Value}
/-- a special method that a class has from the library -/
theorem ifBound_lib {M : Model} {name : Str} {id : String} {args : List Value} {Q : Option Value → Shared → Prop} (X : K.In s.heap) (I : PySem.W.InstAt s.heap x ox C od) (hs : PySem.W.findIn K (.ref C) name = some (some (.builtin id)))
    (hb : ∀ self, bindSpecial (.builtin id) self = pure (.builtin id, [self])) (h : wpAny M A (call (.builtin id) (.ref x :: args)) (fun v => Q (some v)) E s) : wpAny M A (callSpecialIfBound? (.ref x) name args) Q E s := by
  simp only [callSpecialIfBound?, bindSpecialIfBound?]
  refine wpAny_holding (wpAny_bind (wpAny_bind (wpAny_bind (I.type.here ((PySem.W.looks_findIn X hs).here ?_)))))
  refine wpAny_bind (wpAny_askSetting (wpAny_ite ?_))
  have fin : wpAny M A (call (.builtin id) ([.ref x] ++ args) >>= fun v => pure (some v)) Q E s := wpAny_bind (wpAny_mono h (fun v s' h' => wpAny_pure h') fun _ _ h' => h')
  split
  · exact wpAny_bind ((PySem.W.Looks.of_pure (hb _)).here (wpAny_pure (by exact fin)))
  · exact wpAny_tryCatch (wpAny_bind ((PySem.W.Looks.of_pure (hb _)).here (wpAny_pure (by exact fin))))
/-- object's own != asks the text's == -/
theorem objNe_own {Q : Value → Shared → Prop} (hu : A.in1.units < cLine) (X : K.In s.heap) (I : PySem.W.InstAt s.heap x ox C od) (hm : PySem.W.mroIn K C (.type "object") = some true) (hr : PySem.W.findIn K (.ref C) "__eq__" = some (some (.ref f))) (hf : PySem.W.isFn K (.ref f) = true)
    (h : wpAny (model prog w) A.in1 (call (.ref f) [.ref x, b]) (fun v s' => ∃ r, v = .bool r ∧ Q (.bool (!r)) s') E s) : wpAny (model prog w) A (call (.builtin "object.__ne__") [.ref x, b]) Q E s := by
  refine wpAny_call (codeAny_call_builtin PySem.F.slot_object_ne.plain PySem.F.entry_object_ne (PySem.W.check_slot (i := "object.__ne__") (owner := "object") (n := "__ne__") (by decide +kernel) (by decide +kernel) (I.type.andThen (PySem.W.looks_mroIn X hm)) (PySem.F.args_object_ne_2 _ _) ?_))
  unfold Builtin.«object.__ne__»
  refine wpAny_bind (m := slotArgs "__ne__" 1 _) (wpAny_pure ?_)
  refine wpAny_bind (m := cRoomFor _ _) (wpAny_cRoomFor hu ?_)
  refine wpAny_bind (m := callSpecialIfBound? (.ref x) (Str.ofString "__eq__") _) (PySem.W.ifBound_K X I hr hf (wpAny_mono h (fun r s' hq => ?_) fun _ _ y => y))
  obtain ⟨r, rfl, hq⟩ := hq
  refine wpAny_bind (m := truthy (.bool r)) (wpAny_truthy_bool ?_)
  exact wpAny_pure hq
theorem ne_own {Q : Value → Shared → Prop} (hu : A.units < cLine) (hu1 : A.in1.units < cLine) (F : Fr h₀ L s.heap m) (X₀ : K.In h₀) (I : PySem.W.InstAt s.heap x ox C od) (hb : PySem.W.Looks (model prog w) s.heap (typeOf b) tb) (hn : PySem.W.notFirst K C tb = true)
    (hne : PySem.W.findIn K (.ref C) "__ne__" = some (some (.builtin "object.__ne__"))) (hm : PySem.W.mroIn K C (.type "object") = some true) (hr : PySem.W.findIn K (.ref C) "__eq__" = some (some (.ref f))) (hf : PySem.W.isFn K (.ref f) = true)
    (h : wpAny (model prog w) A.in1 (call (.ref f) [.ref x, b]) (fun v s' => ∃ r, v = .bool r ∧ Q (.bool (!r)) s') E s) : wpAny (model prog w) A (richCompare .NotEq (.ref x) b) Q E s := by
  have X := X₀.keeps F.keep
  have one : wpAny (model prog w) A (tryCompare (.ref x) (cmpInfo .NotEq).2.1 b) (fun r s' => ∃ v, r = some v ∧ Q v s') E s := by
    unfold tryCompare
    refine wpAny_bind (ifBound_lib X I hne PySem.F.slot_object_ne.bind (objNe_own hu1 X I hm hr hf (wpAny_mono h (fun v s' hv => ?_) fun _ _ e => e)))
    obtain ⟨r, rfl, hq⟩ := hv
    exact ⟨r, rfl, wpAny_pure ⟨_, rfl, hq⟩⟩
  unfold richCompare
  simp only [oneThing_ref]
  refine wpAny_holding (wpAny_bind (wpAny_cRoomFor hu ?_))
  refine wpAny_bind (I.type.here (wpAny_bind (hb.here ?_)))
  split
  · rename_i q
    have e : PySem.W.subIn K tb (.ref C) = some false := by
      rcases Bool.or_eq_true_iff.mp hn with e | e
      · rw [beq_iff_eq.mp e] at q; simp at q
      · exact beq_iff_eq.mp e
    refine wpAny_bind ((PySem.W.looks_subIn X e).here ?_)
    simp only [Bool.false_eq_true, if_false]
    refine wpAny_bind (wpAny_mono one (fun r s' z => ?_) fun _ _ e => e)
    obtain ⟨v, rfl, hq⟩ := z
    exact wpAny_pure hq
  · refine wpAny_bind (wpAny_pure ?_)
    simp only [Bool.false_eq_true, if_false]
    refine wpAny_bind (wpAny_mono one (fun r s' z => ?_) fun _ _ e => e)
    obtain ⟨v, rfl, hq⟩ := z
    exact wpAny_pure hq
end
section
variable {X : Cx} {B : Bd} {k j : Nat} {fa : Addr} {fd : FuncData} {ps : List Str} {sp : Sp} {f : FD} {p pos : Pos} {e : Expr} {de da db : DE}
theorem op_neK {C : Addr} {E : XK} {CX : CXT} (F : FnOk X.prog X.w X.K X.mg X.base CX j fa fd ps sp) (me : Meth X.K C "__eq__" fa) (hne : PySem.W.findIn X.K (.ref C) "__ne__" = some (some (.builtin "object.__ne__"))) (hm : PySem.W.mroIn X.K C (.type "object") = some true) (hb : Binds X.K fd ps []) (hx : Passes CX X E) (hr : Room k X.A) (hj : j + 1 ≤ k) : OpR X (compareOp .NotEq) (fun x y H Q => rEqK C sp E x y H fun v H' => ∃ b : Bool, v = .bl b ∧ Q (.bl (!b)) H') := by
  intro pins s σ H x y v u Q I rx ry ⟨a, b, dx, dy, fs, gs, e1, e2, ea, eb, h⟩
  subst e1; subst e2
  cases (show v = Value.ref a from rx)
  cases (show u = Value.ref b from ry)
  obtain ⟨mA, J, _⟩ := ins_get I.hok ea
  obtain ⟨mB, J', _⟩ := ins_get I.hok eb
  obtain ⟨od, J, _⟩ := J.look
  obtain ⟨od', J', _⟩ := J'.look
  obtain ⟨m, hF⟩ := I.fr
  have sb : L2.Sub X j X.A.in1 := L2.Sub.in1 ⟨hr.mono hj, rfl⟩
  show wpAny (model X.prog X.w) X.A (richCompare .NotEq (.ref a) (.ref b)) (EP X pins σ Q) X.xe s
  refine ne_own (tb := .ref C) hr.units0 sb.room.units0 hF I.ok.mod.kin J J'.type (by simp [PySem.W.notFirst]) hne hm me.at_ me.fn ?_
  have r2 : Vals [V.ref a, V.ref b] [Value.ref a, Value.ref b] := .cons rfl (.cons rfl .nil)
  refine wpAny_mono (run_own F hb hx sb I r2 h) (fun v s' ⟨z, H', I', rz, n, ez, n', en, q⟩ => ?_) fun _ _ y => y
  subst ez
  cases en
  cases (show v = Value.bool n from rz)
  exact ⟨n, rfl, .bl (!n), H', I', rfl, q⟩
def fNeK (f : FD) : D2 := fun d1 d2 k => fEqK f d1 d2 fun d => asB d fun b => k (.bl (!b))
theorem ok_neK {G : GC} (hm : f.m = 2) (hn : f.pn = []) : OkR G (fun x y H Q => rEqK G.dk (spF G f) E0 x y H fun v H' => ∃ b : Bool, v = .bl b ∧ Q (.bl (!b)) H') (fNeK f) := fun c σ ρ S H F x y dx dy k Q A rx ry hf q => by
  refine ok_eqK hm hn c σ ρ S H F x y dx dy _ _ A rx ry hf fun v d S' H' A' s' r' hk => ?_
  cases r' with
  | bl b => exact ⟨b, rfl, q _ _ S' H' A' s' (.bl (!b)) hk⟩
  | _ => exact hk.elim
theorem CalM.eq {G : GC} (hc : CalM X.prog X.w X.K X.mg X.base G j "__eq__" ps f) (hr : Room k X.A) (hp : Passes (L2.CX X.prog X.w) X E0) (hj : j ≤ k := by decide) : OpR X (compareOp .Eq) (rEqK G.dk (spF G f) E0) := by
  obtain ⟨fa, fd, F, h2, h3⟩ := hc
  exact op_eqK F h2 h3 hp hr hj
theorem CalM.ne {G : GC} (hd : DkOk G) (hK : X.K = G.K) (hne : PySem.W.findIn G.K (.ref G.dk) "__ne__" = some (some (.builtin "object.__ne__"))) (hc : CalM X.prog X.w X.K X.mg X.base G j "__eq__" ps f) (hr : Room k X.A) (hp : Passes (L2.CX X.prog X.w) X E0) (hj : j + 1 ≤ k := by decide) : OpR X (compareOp .NotEq) (fun x y H Q => rEqK G.dk (spF G f) E0 x y H fun v H' => ∃ b : Bool, v = .bl b ∧ Q (.bl (!b)) H') := by
  obtain ⟨fa, fd, F, h2, h3⟩ := hc
  exact op_neK F h2 (hK ▸ hne) (hK ▸ hd.cm) h3 hp hr hj
/-- isinstance(x, Deck) -/
def isExc : D → Bool
  | .exc _ => true
  | _ => false
def dIsDk (da : DE) : DE := fun x ρ k => da x ρ fun d ρ1 => isExc d = false ∧ k (.bl (isDk d)) ρ1
structure DkIs (G : GC) : Prop where
  oth : ∀ n ∈ ["NoneType", "bool", "int", "str", "tuple", "list", "dict"], PySem.W.kitOne G.K (.type n) (.ref G.dk) = some false
theorem pass_0 {P : Program} {w : World} {K : PySem.W.Frag} {mg : Str → Option Value} {base : Heap} {N : List Str} {qual : Str} {scope : Scope} {f : Addr} {cd : Value} {A : Around} {outer : List Env} {s : Shared} {H : Hp} {E : XK} :
    Passes (L2.CX P w) (cxOf (L2.CX P w) P w K mg base N qual scope f cd A outer s H E) E0 := passes_call (takes_of rfl rfl rfl rfl) fun _ _ _ _ h => h.elim
theorem kit_no {K : PySem.W.Frag} {C : Addr} (cm : PySem.W.mroIn K C (.type "object") = some true) (ti : PySem.W.typeIn K (.ref C) = some (.type "type")) : ∀ n ∈ ["NoneType", "bool", "int", "str", "tuple", "list", "dict"], PySem.W.kitOne K (.type n) (.ref C) = some false := by
  have h1 : (PySem.W.clsIn K C).isSome = true := by
    unfold PySem.W.mroIn at cm
    cases e : PySem.W.clsIn K C with
    | none => rw [e] at cm; cases cm
    | some _ => rfl
  have no : ∀ l : List String, ((l.map Value.type).contains (.ref C)) = false := fun l => by
    induction l with
    | nil => rfl
    | cons a l ih =>
      rw [List.map_cons, List.contains_cons, ih]
      rfl
  intro n hn
  have key : ∀ l : List String, fastBuiltinMro n = some (l.map Value.type) → PySem.W.kitOne K (.type n) (.ref C) = some false := fun l hl => by
    unfold PySem.W.kitOne
    rw [if_neg (by simp)]
    unfold PySem.W.kitCls
    dsimp only
    rw [h1, ti, if_pos (by simp)]
    show (fastBuiltinMro n).map _ = _
    rw [hl]
    show some ((l.map Value.type).contains (.ref C)) = some false
    rw [no]
  rcases List.mem_cons.mp hn with rfl | hn
  · exact key ["NoneType", "object"] (by decide +kernel)
  rcases List.mem_cons.mp hn with rfl | hn
  · exact key ["bool", "int", "object"] (by decide +kernel)
  rcases List.mem_cons.mp hn with rfl | hn
  · exact key ["int", "object"] (by decide +kernel)
  rcases List.mem_cons.mp hn with rfl | hn
  · exact key ["str", "object"] (by decide +kernel)
  rcases List.mem_cons.mp hn with rfl | hn
  · exact key ["tuple", "object"] (by decide +kernel)
  rcases List.mem_cons.mp hn with rfl | hn
  · exact key ["list", "object"] (by decide +kernel)
  rcases List.mem_cons.mp hn with rfl | hn
  · exact key ["dict", "object"] (by decide +kernel)
  cases hn
theorem e_isDk {x : Str} {a : Expr} {p2 : Pos} (hd : DkOk B.G) (hi : DkIs B.G) (hK : X.K = B.G.K) (hm : X.mg "isinstance" = none) (hmT : X.mg x = some (.ref B.G.dk)) (ha : PE X a (tD B da)) (hg : Gl X "isinstance" := by rfl) (hgT : Gl X x := by rfl) (hdT : (x == ("__debug__" : Str)) = false := by decide)
    (he : starEach [a, .Name x p2] X.env = (false, eval a X.env) :: starEach [.Name x p2] X.env := by rfl) (hs2 : starEach [.Name x p2] X.env = (false, eval (.Name x p2) X.env) :: starEach [] X.env := by rfl) (hpl : (backTo pos (starEach [.Name x p2] X.env)).any (·.1) = false := by rfl) :
    PE X (.Call (.Name "isinstance" p) [a, .Name x p2] [] pos) (tD B (dIsDk da)) :=
  PE.imp (pe_callB call_isi hg hm (by decide +kernel) (pa_cons ha (pa_cons (pe_glob (v := .ref B.G.dk) hgT hmT rfl hdT) pa_nil hs2) he) (by decide) (by decide) he hpl) fun σ H Q ⟨c, ρ, S, k, w, A, h, q⟩ => tD_use w A h fun v d ρ1 S1 H1 ⟨F1, A1⟩ s1 r1 ⟨hx, hk⟩ => by
    rw [hK]
    cases hd2 : isDk d with
    | true =>
      rw [hd2] at hk
      cases r1 with
      | deck e1 e2 r => exact ⟨_, _, _, _, _, rfl, .own B.G.dk, .base (.ins (A1.fr.sh _ _ e1) hd.cl hd.ca hd.cn hd.ct hd.cm), by unfold PySem.W.kitOne; simp, q _ _ ρ1 S1 H1 ⟨F1, A1⟩ s1 (.bl true) hk⟩
      | _ => cases hd2
    | false =>
      rw [hd2] at hk
      have : ∃ n, tyN d = some n := by cases d <;> first | exact ⟨_, rfl⟩ | exact absurd (show true = false from hx) Bool.noConfusion | cases hd2
      obtain ⟨n, hn⟩ := this
      exact ⟨v, _, _, _, _, rfl, .own B.G.dk, (r1.mono A1.fr.sh).ty hn, hi.oth n (tyN_mem hn), q _ _ ρ1 S1 H1 ⟨F1, A1⟩ s1 (.bl false) hk⟩
end
end Y
namespace Y
open PySem PySem.Spec PyProof.Rows L2
/-! ### list(range(..)), sorted, len(set(..)) -/
theorem rgV_rng (a b : Int) : rgV a b = (List.range (b - a).toNat).map fun (i : Nat) => V.int (a + (i : Int)) := by
  unfold rgV
  first
    | rfl
    | simp
theorem reps_rng {G : GC} {S : Hp} (a : Int) (n : Nat) : Reps G S ((List.range n).map fun (i : Nat) => V.int (a + (i : Int))) (rng a n) := by
  have := Reps.of_ints (G := G) (H := S) ((List.range n).map fun (i : Nat) => a + (i : Int))
  rw [List.map_map, List.map_map] at this
  exact this
def oRg (di : DL) : DL := fun x ρ k => di x ρ fun ds ρ1 => ds.length ≤ 100000 ∧ k ds ρ1
section
variable {X : Cx} {B : Bd} {a b : Expr} {da db : DE} {dl : DL} {p p2 q pos : Pos}
def oLR1 (da : DE) : DL := fun x ρ k => da x ρ fun d ρ1 => match d with
  | .int n => 0 ≤ n ∧ n ≤ 100000 ∧ k (rng 0 n.toNat) ρ1
  | _ => False
theorem eo_lr1 (hc : X.calm = true) (hm : X.mg "list" = none) (hm2 : X.mg "range" = none) (ha : PE X a (tD B da)) (hg : Gl X "list" := by rfl) (hg2 : Gl X "range" := by rfl) (na : starEach [a] X.env = (false, eval a X.env) :: starEach [] X.env := by rfl)
    (na2 : starEach [.Call (.Name "range" p2) [a] [] q] X.env = (false, eval (.Call (.Name "range" p2) [a] [] q) X.env) :: starEach [] X.env := by rfl) : PE X (.Call (.Name "list" p) [.Call (.Name "range" p2) [a] [] q] [] pos) (tO B (oLR1 da)) :=
  PE.imp (pe_listRg hc hg hm (prg_1 hg2 hm2 ha na) na2) fun σ H Q ⟨c, ρ, S, k, w, A, h, q⟩ => tD_use w A h fun v d ρ1 S1 H1 ⟨F1, A1⟩ s1 r1 h1 => by
    cases r1 with
    | int n =>
      obtain ⟨n0, n1, hk⟩ := h1
      refine ⟨n, rfl, RgOk.of_le (by omega) (by omega) (by omega) n0, fun p hp => ?_⟩
      obtain ⟨z1, z2, z3⟩ := A1.fresh hp
      exact q p _ (rng 0 n.toNat) ρ1 S1 _ F1 (A1.newO hp) s1 z3 z1 z2 upd_same (by rw [rgV_rng, Int.sub_zero]; exact reps_rng 0 n.toNat) hk
    | _ => exact h1.elim
/-- sorted, of ints -/
def fSorted : DFL := fun ds k => match ds with
  | [.lst l] => ∃ ns : List Int, l = ns.map .int ∧ ∀ ns' : List Int, ns'.Perm ns → ns'.Pairwise (· ≤ ·) → k (ns'.map .int)
  | _ => False
theorem ok_sorted {G : GC} : OkCL G (rSortedI G.K) fSorted := fun c σ ρ S H F vs ds k Q A r hf q => by
  unfold fSorted at hf
  split at hf
  · cases r with
    | cons r1 rr =>
      cases rr
      obtain ⟨ns, e, hk⟩ := hf
      subst e
      cases r1 with
      | lst e r =>
        have e2 := r.ints
        subst e2
        refine ⟨_, ns, rfl, .inl (.inl (A.fr.sh _ _ e)), fun ns' p hp1 hp2 hn => ?_⟩
        exact q p _ (ns'.map .int) _ (A.newO hn) hn upd_same (Reps.of_ints ns') (hk ns' hp1 hp2)
  · exact hf.elim
theorem eo_cB {x : Str} {id : String} {e : Expr} {es : List Expr} {f : DFL} {r : List V → Hp → VK → Prop} (hc : CallR X (.builtin id) r) (hr : OkCL B.G r f) (hm : X.mg x = none) (hv : bootBuiltins x = some (.builtin id)) (ha : PA X (e :: es) (tA B dl)) (hg : Gl X x := by rfl) (hn : x ≠ "__name__" := by decide) (hdb : (x == ("__debug__" : Str)) = false := by decide)
    (he : starEach (e :: es) X.env = (false, eval e X.env) :: starEach es X.env := by rfl) (hpl : (backTo pos (starEach es X.env)).any (·.1) = false := by rfl) : PE X (.Call (.Name x p) (e :: es) [] pos) (tO B (oCB f dl)) := PE.imp (pe_callB hc hg hm hv ha hn hdb he hpl) (imp_CBL hr)
/-- len(set(..)), of unlike ints -/
def dLenSet (da : DE) : DE := fun x ρ k => da x ρ fun d ρ1 => ∃ ns : List Int, d = .lst (ns.map .int) ∧ ns.Nodup ∧ ns.length ≤ 4000 ∧ k (.int ns.length) ρ1
theorem e_lenSet (hK : X.K = B.G.K) (hm : X.mg "len" = none) (hm2 : X.mg "set" = none) (ha : PE X a (tD B da)) (hg : Gl X "len" := by rfl) (hg2 : Gl X "set" := by rfl) (hc : X.calm = true := by rfl)
    (na : starEach [a] X.env = (false, eval a X.env) :: starEach [] X.env := by rfl) : PE X (.Call (.Name "len" p) [.Call (.Name "set" p2) [a] [] q] [] pos) (tD B (dLenSet da)) :=
  PE.imp (RZ.pe_lenSetI hg hm hg2 hm2 ha hc na) fun σ H Q ⟨c, ρ, S, k, w, A, h, q⟩ => tD_use w A h fun v d ρ1 S1 H1 ⟨F1, A1⟩ s1 r1 ⟨ns, e, h1, h2, hk⟩ => by
    subst e
    cases r1 with
    | lst e r =>
      have e2 := r.ints
      subst e2
      exact ⟨_, ns, rfl, by rw [hK]; exact .inl (.inl (A1.fr.sh _ _ e)), h1, h2, q _ _ ρ1 S1 H1 ⟨F1, A1⟩ s1 (.int _) hk⟩
end
end Y
namespace Y
open PySem PySem.Spec PyProof.Rows L2
/-! ### a list of own lists -/
section
variable {G : GC} {c : C} {S S' H H' : Hp} {σ : St} {ρ : Ev} {F : Nat → List Addr}
/-- some addresses are let stand -/
def layS (S H : Hp) (P : List Addr) : Hp := fun a => if a ∈ P then H a else S a
theorem same_layS {P : List Addr} (h0 : ∀ a ∈ P, S a = none) : Same S (layS S H P) := fun a o e => by
  unfold layS
  rw [if_neg fun z => by rw [h0 a z] at e; cases e]
  exact e
theorem AbsF.freezeS (A : AbsF G c σ ρ S H F) (P : List Addr) (hP : ∀ a ∈ P, OwnAt c S a ∧ ∀ i, a ∉ F i) : AbsF G c σ ρ (layS S H P) H F := by
  have ss : Same S (layS S H P) := same_layS fun a ha => (hP a ha).1.out
  refine ⟨⟨A.fr.ss.trans ss, fun a u e => ?_, A.fr.keep, A.fr.trk, fun a e m => ?_⟩, A.len, fun i s e => ?_, A.em, A.pin, A.dj⟩
  · unfold layS at e
    split at e
    · exact e
    · exact A.fr.sh a u e
  · unfold layS
    rw [if_neg fun z => ?_]
    · exact A.fr.dom a e m
    · rcases (hP a z).1.may with q | q
      · exact m q
      · exact e q
  · refine (A.sl i s e).stay ss fun a ha => ⟨rfl, ?_⟩
    obtain ⟨o, _⟩ := A.foot ha
    refine ⟨?_, o.may⟩
    unfold layS
    rw [if_neg fun z => (hP a z).2 i ha]
    exact o.out
theorem AbsF.own2_get (A : AbsF G c σ ρ S H F) {i : Nat} {ls : List (List D)} (e : ρ[i]? = some (.own2 ls)) : ∃ p qs, σ[i]? = some (some (.ref p)) ∧ F i = p :: qs ∧ (p :: qs).Nodup ∧ OwnAt c S p ∧ H p = some (.lst (qs.map V.ref)) ∧ qs.length = ls.length ∧
    ∀ (i : Nat) q ds, qs[i]? = some q → ls[i]? = some ds → OwnAt c S q ∧ ∃ vs, H q = some (.lst vs) ∧ Reps G S vs ds := by
  have z := A.sl i _ e
  cases ev : σ[i]? with
  | none => rw [ev] at z; exact z.elim
  | some v =>
    rw [ev] at z
    cases v with
    | none => exact z.elim
    | some v =>
      cases v with
      | ref p =>
        obtain ⟨qs, h1, h2, h3, h4, h5, h6⟩ := z
        exact ⟨p, qs, rfl, h1, by rw [← h1]; exact h2, h3, h4, h5, h6⟩
      | _ => exact z.elim
theorem Reps.ofL : ∀ {qs : List Addr} {ls : List (List D)}, qs.length = ls.length → (∀ (i : Nat) q ds, qs[i]? = some q → ls[i]? = some ds → ∃ vs, S q = some (.lst vs) ∧ Reps G S vs ds) → Reps G S (qs.map V.ref) (ls.map D.lst)
  | [], [], _, _ => .nil
  | [], _ :: _, h, _ => by cases h
  | _ :: _, [], h, _ => by cases h
  | q :: qs, l :: ls, h, hq => by
    obtain ⟨vs, e, r⟩ := hq 0 q l rfl rfl
    exact .cons (.lst e r) (Reps.ofL (by simpa using h) fun i q ds h1 h2 => hq (i + 1) q ds (by simpa using h1) (by simpa using h2))
theorem AbsF.frz2 (A : AbsF G c σ ρ S H F) {i : Nat} {ls : List (List D)} (e : ρ[i]? = some (.own2 ls)) : ∃ p S', σ[i]? = some (some (.ref p)) ∧ Abs G c σ (ρ.set i (.d (.lst (ls.map D.lst)))) S' H ∧ Same S S' ∧ Rep G S' (.ref p) (.lst (ls.map D.lst)) := by
  obtain ⟨p, qs, q, f, nd, o, e1, hl, hq⟩ := A.own2_get e
  have A1 := A.forget q
  have hP : ∀ a ∈ p :: qs, OwnAt c S a ∧ ∀ j, a ∉ (fun j => if j = i then ([] : List Addr) else F j) j := fun a ha => by
    refine ⟨(A.foot (i := i) (by rw [f]; exact ha)).1, fun j hj => ?_⟩
    dsimp only at hj
    split at hj
    · cases hj
    · rename_i z
      exact z (A.dj j i a hj (by rw [f]; exact ha))
  have A2 := A1.freezeS (p :: qs) hP
  have ss : Same S (layS S H (p :: qs)) := same_layS fun a ha => (hP a ha).1.out
  have rr : Rep G (layS S H (p :: qs)) (.ref p) (.lst (ls.map D.lst)) := by
    refine .lst (by unfold layS; rw [if_pos List.mem_cons_self]; exact e1) (Reps.ofL hl fun n q ds h1 h2 => ?_)
    obtain ⟨_, vs, e2, r⟩ := hq n q ds h1 h2
    exact ⟨vs, by unfold layS; rw [if_pos (List.mem_cons_of_mem _ (List.mem_of_getElem? h1))]; exact e2, r.mono ss⟩
  obtain ⟨F3, A3⟩ := A2.setD (i := i) rr (.inr q)
  rw [set_self q, List.set_set] at A3
  exact ⟨p, _, q, ⟨F3, A3⟩, ss, rr⟩
end
def dFrz2 (i : Nat) : DE := fun _ ρ k => match ρ[i]? with
  | some (.own2 ls) => k (.lst (ls.map D.lst)) (ρ.set i (.d (.lst (ls.map D.lst))))
  | some (.d d) => k d ρ
  | _ => False
/-- x[j].append(y), y a name -/
def dApp2 (i jj : Nat) (dj : DE) : DE := fun x ρ k => (∃ l0, ρ[i]? = some (.own2 l0)) ∧ dj x ρ fun d ρ1 => match d, ρ1[i]?, ρ1[jj]? with
  | .int n, some (.own2 ls), some (.d z) => ∃ m l, ixN ls.length n = some m ∧ ls[m]? = some l ∧ l.length < lim ∧ k .non (ρ1.set i (.own2 (ls.set m (l ++ [z]))))
  | _, _, _ => False
section
variable {X : Cx} {B : Bd} {a b j : Expr} {dj : DE} {dl : DL} {p p2 q pos : Pos}
theorem e_frz2 (i : Nat) {x : Str} {pos : Pos} (hN : X.N[i]? = some x := by rfl) (hv : Vis X.env.scope x := by first | exact Or.inl rfl | exact Or.inr (Or.inl rfl) | exact Or.inr (Or.inr rfl)) (hd : (x == ("__debug__" : Str)) = false := by decide)
    (hcd : (x == ("__classdict__" : Str)) = false := by decide) : PE X (.Name x pos) (tD B (dFrz2 i)) := PE.imp (pv i hN hv hd hcd) fun σ H Q ⟨c, ρ, S, k, w, ⟨F, A⟩, h, q⟩ => by
  unfold dFrz2 at h
  split at h
  · rename_i ds e
    obtain ⟨p, S', e1, B, ss, r⟩ := A.frz2 e
    exact ⟨_, e1, q _ _ _ S' H B ss r h⟩
  · rename_i d e
    obtain ⟨v, e1, r⟩ := A.d_get e
    exact ⟨v, e1, q v d ρ S H ⟨F, A⟩ (Same.refl S) r h⟩
  · exact h.elim
theorem d_getV {G : GC} {c : C} {S H : Hp} {σ : St} {ρ : Ev} {F : Nat → List Addr} (A : AbsF G c σ ρ S H F) {i : Nat} {d : D} (e : ρ[i]? = some (.d d)) : ∃ v, σ[i]? = some (some v) ∧ Rep G S v d := A.d_get e
theorem AbsF.own2_set {G : GC} {c : C} {S H : Hp} {σ : St} {ρ : Ev} {F : Nat → List Addr} (A : AbsF G c σ ρ S H F) {i : Nat} {ls : List (List D)} (e : ρ[i]? = some (.own2 ls)) {p : Addr} {qs : List Addr} (ep : σ[i]? = some (some (.ref p))) (f : F i = p :: qs) (nd : (p :: qs).Nodup) (o : OwnAt c S p) (eH : H p = some (.lst (qs.map V.ref))) (hl : qs.length = ls.length)
    (hq : ∀ (i : Nat) q ds, qs[i]? = some q → ls[i]? = some ds → OwnAt c S q ∧ ∃ vs, H q = some (.lst vs) ∧ Reps G S vs ds) {m : Nat} {q : Addr} {vs' : List V} {l' : List D} (em : qs[m]? = some q) (r : Reps G S vs' l') :
    Abs G c σ (ρ.set i (.own2 (ls.set m l'))) S (upd H q (.lst vs')) := by
  have A1 := A.forget ep
  have mq : q ∈ p :: qs := List.mem_cons_of_mem _ (List.mem_of_getElem? em)
  have hF : ∀ a ∈ p :: qs, ∀ j, a ∉ (fun j => if j = i then ([] : List Addr) else F j) j := fun a ha j hj => by
    dsimp only at hj
    split at hj
    · cases hj
    · rename_i z
      exact z (A.dj j i a hj (by rw [f]; exact ha))
  obtain ⟨oq, tq⟩ := A.foot (i := i) (a := q) (by rw [f]; exact mq)
  have A2 := A1.mutO (p := q) (o := .lst vs') oq (hF q mq) tq
  obtain ⟨n1, n2⟩ := List.nodup_cons.mp nd
  have npq : p ≠ q := fun z => n1 (z ▸ List.mem_of_getElem? em)
  have sl : SlotOk G c S (upd H q (.lst vs')) (some (V.ref p)) (.own2 (ls.set m l')) (p :: qs) := by
    refine ⟨qs, rfl, nd, o, by rw [upd_ne npq]; exact eH, by rw [List.length_set]; exact hl, fun n q' ds h1 h2 => ?_⟩
    by_cases z : n = m
    · subst z
      rw [em] at h1
      cases h1
      have hn : n < ls.length := by rw [← hl]; exact (List.getElem?_eq_some_iff.mp em).1
      rw [List.getElem?_set_self hn] at h2
      cases h2
      exact ⟨oq, vs', upd_same, r⟩
    · rw [List.getElem?_set_ne (Ne.symm z)] at h2
      obtain ⟨o2, vs, e2, r2⟩ := hq n q' ds h1 h2
      have : q' ≠ q := fun y => by
        subst y
        obtain ⟨h3, h4⟩ := List.getElem?_eq_some_iff.mp h1
        obtain ⟨h5, h6⟩ := List.getElem?_eq_some_iff.mp em
        exact z ((List.getElem_inj n2).mp (h4.trans h6.symm))
      exact ⟨o2, vs, by rw [upd_ne this]; exact e2, r2⟩
  have A3 := A2.set (i := i) (v := some (V.ref p)) (s := .own2 (ls.set m l')) (f := p :: qs) sl (fun j a z ha => hF a ha j) (.inr ep)
  rw [set_self ep, List.set_set] at A3
  exact ⟨_, A3⟩
theorem imp_app2 {i jj : Nat} (hK : X.K = B.G.K) : ∀ σ H Q, tD B (dApp2 i jj dj) σ H Q → tBM X.K "list" rAppend (tOp (rIx X.K) (tVar i) (tD B dj)) (tCons (tVar jj) tNil) σ H Q := fun σ H Q ⟨c, ρ, S, k, w, ⟨F, A⟩, ⟨⟨l0, e0⟩, h⟩, q⟩ => by
  obtain ⟨p, qs0, ep, _⟩ := A.own2_get e0
  refine ⟨.ref p, ep, c, ρ, S, _, w, ⟨F, A⟩, h, fun v d ρ1 S1 H1 ⟨F1, A1⟩ s1 r1 h1 => ?_⟩
  split at h1
  · rename_i n ls z e1 e2
    obtain ⟨m, l, h2, h3, h4, h5⟩ := h1
    cases r1
    obtain ⟨p', qs, ep', f, nd, o, eH, hl, hq⟩ := A1.own2_get e1
    rw [ep] at ep'
    cases ep'
    obtain ⟨y, ey, ry⟩ := A1.d_get e2
    have hm : m < qs.length := by rw [hl]; exact (List.getElem?_eq_some_iff.mp h3).1
    have em : qs[m]? = some qs[m] := List.getElem?_eq_getElem hm
    obtain ⟨oq, vs, eq2, rq⟩ := hq m _ _ em h3
    refine .inl ⟨p, qs.map V.ref, n, .ref qs[m], rfl, rfl, .inl (.inl eH), ?_, .inl ⟨rfl, vs, .inl (.inl eq2)⟩, y, ey, qs[m], vs, y, rfl, rfl, eq2, by rw [rq.length]; exact lim_lt h4, ?_⟩
    · unfold atI
      rw [List.length_map, hl, h2]
      show (qs.map V.ref)[m]? = _
      rw [List.getElem?_map, em]
      rfl
    · exact q .non .non _ S1 _ (A1.own2_set e1 ep f nd o eH hl hq em (rq.append (.one ry))) s1 .non h5
  · exact h1.elim
theorem e_app2 (i jj : Nat) {x y : Str} {px py sp : Pos} {apos cpos : Pos} (hK : X.K = B.G.K) (hj : PE X j (tD B dj)) (hs0 : PlainIx j := by exact fun _ _ => rfl)
    (hN : X.N[i]? = some x := by rfl) (hv : Vis X.env.scope x := by first | exact Or.inl rfl | exact Or.inr (Or.inl rfl) | exact Or.inr (Or.inr rfl)) (hd : (x == ("__debug__" : Str)) = false := by decide) (hcd : (x == ("__classdict__" : Str)) = false := by decide)
    (hN2 : X.N[jj]? = some y := by rfl) (hv2 : Vis X.env.scope y := by first | exact Or.inl rfl | exact Or.inr (Or.inl rfl) | exact Or.inr (Or.inr rfl)) (hd2 : (y == ("__debug__" : Str)) = false := by decide) (hcd2 : (y == ("__classdict__" : Str)) = false := by decide)
    (hbase : attributeBase (.Subscript (.Name x px) j sp) "append" X.env (eval (.Subscript (.Name x px) j sp) X.env) = eval (.Subscript (.Name x px) j sp) X.env := by rfl)
    (hfew : ((backTo cpos (starEach [.Name y py] X.env)).all (fun x => !x.1) && (backToKw cpos (keywordEach [] X.env)).all (fun x => x.1.isSome)
      && decide (([.Name y py] : List Expr).length + ([] : List Keyword).length + (if ([] : List Keyword).isEmpty then 0 else 1) < 30)) = true := by rfl)
    (hline : (apos.endLine == cpos.line) = true := by rfl) (hs : starEach [.Name y py] X.env = (false, eval (.Name y py) X.env) :: starEach [] X.env := by rfl) (hplain : (backTo cpos (starEach [] X.env)).any (·.1) = false := by rfl) :
    PE X (.Call (.Attribute (.Subscript (.Name x px) j sp) "append" apos) [.Name y py] [] cpos) (tD B (dApp2 i jj dj)) :=
  PE.imp (pe_bm PySem.F.plainAttrs_list PySem.F.slot_list_append PySem.F.type_list_append mt_append (pe_ix ix_seq (pv i hN hv hd hcd) hj hs0) (pa_cons (pv jj hN2 hv2 hd2 hcd2) pa_nil hs) hbase hfew hline hs hplain) (imp_app2 hK)
end
end Y
namespace Y
open PySem PySem.Spec PyProof.Rows L2
/-- x = [[] for ..] -/
def dNils (i : Nat) (di : DL) (dg : DG) (vs : List Nat) : DS := fun D x ρ => di x ρ fun ds ρ1 => ds.length ≤ 100000 ∧ (∀ d ∈ ds, ∀ ρ k, wipeE ρ vs = wipeE ρ1 vs → (∀ ρ2, wipeE ρ2 vs = wipeE ρ vs → k ρ2) → dg d ρ k) ∧ D.nx ((wipeE ρ1 vs).set i (.own2 (List.replicate ds.length [])))
theorem dg_name_ok {j : Nat} {vs : List Nat} (hj : j ∈ vs) (d : D) (ρ : Ev) (k : Ev → Prop) (h : ∀ ρ2, wipeE ρ2 vs = wipeE ρ vs → k ρ2) : dgName j d ρ k := by
  refine h (ρ.set j (.d d)) ?_
  apply List.ext_getElem?
  intro n
  by_cases hn : n ∈ vs
  · by_cases hl : n < ρ.length
    · rw [wipeE_in hn (by rw [List.length_set]; exact hl), wipeE_in hn hl]
    · rw [List.getElem?_eq_none (by rw [wipeE_length, List.length_set]; omega), List.getElem?_eq_none (by rw [wipeE_length]; omega)]
  · rw [wipeE_out hn, wipeE_out hn, List.getElem?_set_ne (fun z : j = n => hn (z ▸ hj))]
theorem wipeE_idem (ρ : Ev) (vs : List Nat) : wipeE (wipeE ρ vs) vs = wipeE ρ vs := by
  apply List.ext_getElem?
  intro n
  by_cases hn : n ∈ vs
  · by_cases hl : n < ρ.length
    · rw [wipeE_in hn (by rw [wipeE_length]; exact hl), wipeE_in hn hl]
    · rw [List.getElem?_eq_none (by rw [wipeE_length, wipeE_length]; omega), List.getElem?_eq_none (by rw [wipeE_length]; omega)]
  · rw [wipeE_out hn]
theorem imp_nils {B : Bd} {i : Nat} {di : DL} {g : TG} {dg : DG} {vs : List Nat} (tg : TgOk B.G g dg vs) (hv : ∀ v ∈ vs, v ∉ B.pn) (hi : i ∉ B.pn) : ∀ D σ H, tS B (dNils i di dg vs) D σ H → tAsg (tLc (tI B di) g (tT B.in dtYes) (tLst tNil) vs) (gName i) D σ H :=
  fun D σ H ⟨c, ρ, S, E, w, A, h, l⟩ => ⟨c, ρ, S, _, w, A, h, fun J ds ρ1 S1 H1 ⟨F1, A1⟩ s1 Wk ⟨hz, hgo, h1⟩ L hL => by
    have hv' : ∀ v ∈ vs, v ∉ c.pn := by rw [w.pn]; exact hv
    obtain ⟨z1, z2, z3⟩ := A1.fresh hL
    refine ⟨fun n m H2 => m = ds.length - n ∧ n ≤ ds.length ∧ ∃ (S2 : Hp) (F2 : Nat → List Addr) (qs : List Addr), AbsF B.G c (L2.wipe σ vs) (wipeE ρ1 vs) S2 H2 F2 ∧ Same S1 S2 ∧ H2 L = some (.lst (qs.map V.ref)) ∧ S2 L = none ∧ (∀ j, L ∉ F2 j) ∧ qs.length = n ∧ qs.Nodup ∧ (∀ q ∈ qs, q ≠ L ∧ S2 q = none ∧ c.H0 q = none ∧ H2 q = some (.lst []) ∧ ∀ j, q ∉ F2 j),
      ⟨ds.length, by omega, Nat.zero_le _, S1, wipeF F1 vs, [], (A1.newO hL).wipe hv', Same.refl _, upd_same, z1, fun j hj => ?_, rfl, List.nodup_nil, fun _ z => nomatch z⟩, ?_⟩
    · unfold wipeF at hj
      split at hj
      · cases hj
      · exact z3 j hj
    rintro n m H2 ⟨rfl, hn, S2, F2, qs, A2, s2, eL, sL, fL, hq, nd, hqs⟩
    by_cases hl : n < ds.length
    · right
      refine ⟨Wk.go n S2 H2 s2 A2.fr.sh hl, fun H3 => n + 1 ≤ ds.length ∧ ∃ (S2 : Hp) (F2 : Nat → List Addr) (qs : List Addr), AbsF B.G c (L2.wipe σ vs) (wipeE ρ1 vs) S2 H3 F2 ∧ Same S1 S2 ∧ H3 L = some (.lst (qs.map V.ref)) ∧ S2 L = none ∧ (∀ j, L ∉ F2 j) ∧ qs.length = n + 1 ∧ qs.Nodup ∧ (∀ q ∈ qs, q ≠ L ∧ S2 q = none ∧ c.H0 q = none ∧ H3 q = some (.lst []) ∧ ∀ j, q ∉ F2 j),
        fun H3 ⟨q1, q2⟩ => ⟨_, by omega, rfl, q1, q2⟩, fun x H3 y => ?_⟩
      have hd : ds[n]? = some ds[n] := List.getElem?_eq_getElem hl
      obtain ⟨S3, A3, s3, r3, k3⟩ := Wk.yld c _ _ S2 H2 F2 n x H3 _ A2 s2 hd y
      refine tg.go c σ _ S3 H3 F2 x _ (fun ρ4 => wipeE ρ4 vs = wipeE ρ1 vs) _ A3 hv' r3 (hgo _ (List.getElem_mem hl) _ _ (wipeE_idem _ _) fun ρ2 e => e.trans (wipeE_idem _ _)) fun σ4 ρ4 F4 e4 A4 f4 h4 => ⟨e4, ?_⟩
      refine tT_run (k := fun b ρ5 => b = true ∧ wipeE ρ5 vs = wipeE ρ1 vs) w.in (A4.wx xF) ⟨rfl, h4⟩ fun b ρ5 S5 H5 F5 A5 s5 k5 ⟨hb, h5⟩ => ?_
      subst hb
      rw [if_pos rfl]
      have A5' := A5.unwx
      -- what is kept
      have kp : ∀ a, H2 a ≠ none → (∀ j, a ∉ F2 j) → H5 a = H2 a ∧ S5 a = S2 a ∧ ∀ j, a ∉ F5 j := fun a ta fa => by
        obtain ⟨k31, k32⟩ := k3 a ta
        obtain ⟨k51, k52, k53⟩ := k5 a (by rw [k31]; exact ta) (f4 a fa)
        exact ⟨k51.trans k31, k52.trans k32, k53⟩
      refine ⟨Nat.zero_le _, fun p hp => ?_⟩
      obtain ⟨p1, p2, p3⟩ := A5'.fresh hp
      obtain ⟨L1, L2', L3⟩ := kp L (by rw [eL]; simp) fL
      have npL : L ≠ p := fun z => by rw [z] at L1; rw [hp] at L1; rw [z] at eL; rw [eL] at L1; cases L1
      have A6 := A5'.newO (o := .lst []) hp
      have e6 : L2.upd H5 p (.lst []) L = some (.lst (qs.map V.ref)) := by rw [upd_ne npL, L1]; exact eL
      refine ⟨qs.map V.ref, e6, ?_, hl, S5, wipeF F5 vs, qs ++ [p], ?_, (s2.trans s3).trans s5, by rw [upd_same, List.map_append]; rfl, by rw [L2']; exact sL, fun j hj => ?_, by rw [List.length_append, hq]; rfl, ?_, fun q hq2 => ?_⟩
      · rw [List.length_map, hq]
        exact Nat.lt_of_succ_lt_succ (Nat.lt_of_le_of_lt (Nat.succ_le_succ (by omega : n ≤ 99999)) (by show _ < sizeLine + 1; exact big_lt (by decide)))
      · have A7 := A6.mutO (p := L) (o := .lst (qs.map V.ref ++ [V.ref p])) ⟨by rw [L2']; exact sL, .inr z2⟩ L3 (by rw [e6]; simp)
        have A8 := A7.wipe hv'
        rw [e4, h5] at A8
        exact A8
      · unfold wipeF at hj
        split at hj
        · cases hj
        · exact L3 j hj
      · rw [List.nodup_append]
        refine ⟨nd, by simp, fun a ha b hb e => ?_⟩
        rw [List.mem_singleton] at hb
        subst hb; subst e
        obtain ⟨_, _, _, e2, f2⟩ := hqs a ha
        obtain ⟨k1, _, _⟩ := kp a (by rw [e2]; simp) f2
        rw [hp, e2] at k1
        cases k1
      · rcases List.mem_append.mp hq2 with ha | hb
        · obtain ⟨q1, q2, q3, q4, q5⟩ := hqs q ha
          obtain ⟨k1, k2, k3'⟩ := kp q (by rw [q4]; simp) q5
          have nqp : q ≠ p := fun z => by rw [z] at k1; rw [hp] at k1; rw [z] at q4; rw [q4] at k1; cases k1
          refine ⟨q1, by rw [k2]; exact q2, q3, by rw [upd_ne q1, upd_ne nqp, k1]; exact q4, fun j hj => ?_⟩
          unfold wipeF at hj
          split at hj
          · cases hj
          · exact k3' j hj
        · rw [List.mem_singleton] at hb
          subst hb
          refine ⟨Ne.symm npL, p1, p2, by rw [upd_ne (Ne.symm npL), upd_same], fun j hj => ?_⟩
          unfold wipeF at hj
          split at hj
          · cases hj
          · exact p3 j hj
    · left
      have e : n = ds.length := by omega
      subst e
      refine ⟨Wk.stop S2 H2 s2 A2.fr.sh, ?_⟩
      have A3 := A2.unwipe A1.pin
      have sl : SlotOk B.G c S2 H2 (some (V.ref L)) (.own2 (List.replicate qs.length [])) (L :: qs) := by
        refine ⟨qs, rfl, List.nodup_cons.mpr ⟨fun z => (hqs L z).1 rfl, nd⟩, ⟨sL, .inr z2⟩, eL, by rw [List.length_replicate], fun n q ds h1 h2 => ?_⟩
        obtain ⟨_, q2, q3, q4, _⟩ := hqs q (List.mem_of_getElem? h1)
        have := List.mem_of_getElem? h2
        rw [(List.mem_replicate.mp this).2]
        exact ⟨⟨q2, .inr q3⟩, [], q4, .nil⟩
      have A4 := A3.set (i := i) (v := some (V.ref L)) (s := .own2 (List.replicate qs.length [])) (f := L :: qs) sl (fun j a z ha => by
        rcases List.mem_cons.mp ha with rfl | ha
        · exact fL j
        · exact (hqs a ha).2.2.2.2 j) (.inl (by rw [w.pn]; exact hi))
      rw [hq] at A4
      exact l.nx _ _ S2 H2 ⟨_, A4⟩ (s1.trans s2) h1⟩
section
variable {X : Cx} {B : Bd} {tg iter : Expr} {scope : Scope} {di : DL}
theorem s_nils (i : Nat) (own : List (Str × Nat)) {y : Str} {py spos lp pos : Pos} {g : TG} {dg : DG} (hc : X.calm = true) (hN : X.N.Nodup) (tgo : TgOk B.G g dg (own.map (·.2)))
    (hsw : swapsWith (.ListComp (.List [] lp) [⟨tg, iter, [], 0⟩] scope pos) (some (.Name y py)) spos.line X.env = pure true) (hi : PI X tg iter (tI B di)) (ok : BlkOk X.N X.env.scope scope own)
    (hg : ∀ (s : Shared) (H : Hp) (C : Addr) (cl : List (Str × Addr)) (fp : List Addr), PG (X.blk s H scope (compEnvC scope cl C X.env) fp) tg g)
    (hy : X.N[i]? = some y := by rfl) (hyl : X.env.scope.names.lookup y = some .local := by rfl) (hv : ∀ v ∈ own.map (·.2), v ∉ B.pn := by (dsimp only; decide)) (hp : i ∉ B.pn := by (dsimp only; decide)) (hs : ∀ x, foldedSetIterable iter X.env x = pure x := by intro _; rfl) :
    PS X (.Assign [.Name y py] (.ListComp (.List [] lp) [⟨tg, iter, [], 0⟩] scope pos) spos) (tS B (dNils i di dg (own.map (·.2)))) :=
  PS.imp (ps_setLc hc hN hy hyl hsw hi ok hg (fun _ _ _ _ _ => ts_nil) (fun _ _ _ _ _ => pe_lst pa_nil) hs) (imp_nils tgo hv hp)
end
end Y
namespace Y
open PySem PySem.Spec PyProof.Rows L2
/-- a def of which nothing is said -/
theorem cal_never {P : Program} {w : World} {K : PySem.W.Frag} {mg : Str → Option Value} {base : Heap} {G : GC} {x qual : Str} {st : Stmt} {f : Addr} {fd : FuncData} {ps : List Str} {k m : Nat} (T : DefAt K x qual st f fd) (hx : mg x = some (.ref f))
    (hbd : ∀ (kV doc pm : Value) (an : Option Addr) (cdv ct : Value) (us : List Value), us.length = ps.length → bindArgs (PySem.W.fnOf x qual (defArgs st) (defBody st) (defScope st) .none kV doc pm an cdv ct) ⟨us, []⟩ = pure (ps.zip us)) :
    Cal P w K mg base G k x ps ⟨m, [], fun _ _ _ => False⟩ :=
  ⟨f, fd, ⟨fun _ _ _ _ ⟨_, _, _, _, _, _, _, h, _⟩ => h.elim, fun _ _ _ _ _ _ _ _ _ _ _ _ _ ⟨_, _, _, _, _, _, _, h, _⟩ => h.elim⟩, hx, T.fn.kp, T.fn.binds hbd⟩
end Y
namespace Y
open PySem PySem.Spec PyProof.Rows L2

/-! ### defs with defaults -/
structure DefAtD (K : PySem.W.Frag) (x qual : Str) (st : Stmt) (dvs : List V) (f : Addr) (fd : FuncData) : Prop where
  fn : FunD K x qual (defArgs st) (defBody st) (defScope st) dvs [] f fd
  ns : PySem.W.nsIn K mainGlobals x = some (some (.ref f))
theorem def_atD {K : PySem.W.Frag} {x qual : Str} {st : Stmt} {f T : Addr} {od an od2 : Option Addr} {sl sl2 : Array (Option Value)} {oc oc2 kV dc pm cd ct : Value} {its : Array Value} {n : Nat} {v : V} {vs : List V} (a : PySem.W.nsIn K mainGlobals x = some (some (.ref f)))
    (l : K.lookup f = some ⟨oc, od, .func (PySem.W.fnOf x qual (defArgs st) (defBody st) (defScope st) (.ref T) kV dc pm an cd ct), sl⟩) (t : K.lookup T = some ⟨oc2, od2, .seq its n, sl2⟩) (r : Vals (v :: vs) its.toList) (c : PySem.W.codeIn K cd qual = true) (k : PySem.W.keepIn K (.ref f) = true) :
    DefAtD K x qual st (v :: vs) f (PySem.W.fnOf x qual (defArgs st) (defBody st) (defScope st) (.ref T) kV dc pm an cd ct) :=
  ⟨⟨⟨oc, od, _, kV, dc, pm, an, cd, ct, sl, rfl, l, c, .inr ⟨by simp, T, _, its.toList, n, rfl, t, by rw [Array.toArray_toList], r⟩, .inl rfl⟩, k⟩, a⟩
def CalD (P : Program) (w : World) (K : PySem.W.Frag) (mg : Str → Option Value) (base : Heap) (G : GC) (k : Nat) (x : Str) (ps : List Str) (f : FD) (dvs : List V) : Prop :=
  ∃ fa fd dvu, FnOk P w K mg base (L2.CX P w) k fa fd ps (spF G f) ∧ mg x = some (.ref fa) ∧ PySem.W.keepIn K (.ref fa) = true ∧ Binds K fd ps dvu ∧ Vals dvs dvu
section
variable {P : Program} {w : World} {K : PySem.W.Frag} {mg : Str → Option Value} {base : Heap} {G : GC}
theorem fn_defD {x qual : Str} {st : Stmt} {f : Addr} {fd : FuncData} {N ps : List Str} {k : Nat} {dvs : List V} (pn : List Nat) (ds : DS) (F : FunD K x qual (defArgs st) (defBody st) (defScope st) dvs [] f fd) (S : FnScope N ps (defScope st)) (hpn : ∀ i ∈ pn, i < ps.length)
    (hb : ∀ (cdv : Value) (A : Around) (outer : List Env) (s : Shared) (H : Hp) (E : XK), Room k (A.deeper (envOfC qual (defScope st) s.heap.objs.size f cdv)) →
      PSs (cxOf (L2.CX P w) P w K mg base N qual (defScope st) f cdv A outer s H E) (defBody st) (tS ⟨G, E, pn⟩ ds)) :
    FnOk P w K mg base (L2.CX P w) (k + 1) f fd ps (spF G (fdef ps.length (N.length - ps.length) pn ds)) := by
  refine F.ok S (fun vs H Q E h => ?_) (fun cdv A outer s H vs Q E hr h => ?_)
  · obtain ⟨_, _, _, _, _, h, _⟩ := h
    exact h
  · obtain ⟨S, as, FP, k', x', hl, Ab, h, q, qx⟩ := h
    have hl : vs.length = ps.length := hl
    refine ⟨_, hb cdv A outer s H E hr, ?_⟩
    have A1 := (Ab.wx (fun ex ρ => x' ex (outOf pn ps.length ρ))).extend (N.length - ps.length)
    have e : L2.start N vs = vs.map some ++ List.replicate (N.length - ps.length) none := by unfold L2.start; rw [hl]
    rw [e]
    refine ⟨_, _, S, _, ⟨?_, rfl⟩, ⟨FP, A1⟩, h, ⟨?_, ?_, ?_, ?_⟩⟩
    · intro ex cls dd σ ρ S' H' ⟨F', A'⟩ o hx
      have := (A'.recx (c' := cxC S H FP pn vs xF) rfl rfl rfl rfl rfl).restrict (vs := vs) (pn := pn) (by rw [hl]; exact hpn) rfl fun _ _ => rfl
      exact qx ex cls dd _ S' H' _ this o (by rw [hl]; exact hx)
    · intro σ ρ S' H' ⟨F', A'⟩ _ hx
      have := (A'.recx (c' := cxC S H FP pn vs xF) rfl rfl rfl rfl rfl).restrict (vs := vs) (pn := pn) (by rw [hl]; exact hpn) rfl fun _ _ => rfl
      exact q .non .non _ S' H' _ this .non (by rw [hl]; exact hx)
    · intro v d σ ρ S' H' ⟨F', A'⟩ _ r hx
      have := (A'.recx (c' := cxC S H FP pn vs xF) rfl rfl rfl rfl rfl).restrict (vs := vs) (pn := pn) (by rw [hl]; exact hpn) rfl fun _ _ => rfl
      exact q v d _ S' H' _ this r (by rw [hl]; exact hx)
    · intro _ _ _ _ _ _ hx; exact hx
    · intro _ _ _ _ _ _ hx; exact hx
/-- a def with defaults, of which those behind the first j fill up -/
theorem mk_calD {x qual : Str} {st : Stmt} {f : Addr} {fd : FuncData} {N ps : List Str} {k : Nat} {dvs : List V} (j : Nat) (pn : List Nat) (ds : DS) (T : DefAtD K x qual st dvs f fd) (hx : mg x = some (.ref f)) (S : FnScope N ps (defScope st)) (hpn : ∀ i ∈ pn, i < ps.length) (n : Nat) (hd : dvs ≠ []) (hn : n + (dvs.length - j) = ps.length)
    (hbd : ∀ (T : Addr) (kV doc pm : Value) (an : Option Addr) (cdv ct : Value) (us its : List Value), us.length = n → its.length = dvs.length → ∃ k, bindArgs (PySem.W.fnOf x qual (defArgs st) (defBody st) (defScope st) (.ref T) kV doc pm an cdv ct) ⟨us, []⟩ = seqItems? (.ref T) >>= k ∧ k (some its.toArray) = pure (ps.zip (us ++ its.drop j)))
    (hb : ∀ (cdv : Value) (A : Around) (outer : List Env) (s : Shared) (H : Hp) (E : XK), Room k (A.deeper (envOfC qual (defScope st) s.heap.objs.size f cdv)) →
      PSs (cxOf (L2.CX P w) P w K mg base N qual (defScope st) f cdv A outer s H E) (defBody st) (tS ⟨G, E, pn⟩ ds)) :
    CalD P w K mg base G (k + 1) x ps (fdef ps.length (N.length - ps.length) pn ds) (dvs.drop j) := by
  obtain ⟨dvu, r, b⟩ := T.fn.binds1 n j hd hn hbd
  exact ⟨f, fd, dvu, fn_defD pn ds T.fn S hpn hb, hx, T.fn.kp, b, r⟩
theorem CalD.all {k : Nat} {x : Str} {ps : List Str} {f : FD} (c : CalD P w K mg base G k x ps f []) : Cal P w K mg base G k x ps f := by
  obtain ⟨fa, fd, dvu, F, h1, h2, h3, r⟩ := c
  cases r
  exact ⟨fa, fd, F, h1, h2, h3⟩
end
section
variable {X : Cx} {B : Bd} {f : FD} {k j : Nat} {ps : List Str} {x : Str} {p pos : Pos} {e : Expr} {es : List Expr} {dl : DL} {dvs : List V}
theorem CalD.pc (dd : List D) (hc : CalD X.prog X.w X.K X.mg X.base B.G j x ps f dvs) (hd : ∀ S, Reps B.G S dvs dd) (hr : Room k X.A) (hx : Passes (L2.CX X.prog X.w) X B.E) (ha : PA X (e :: es) (tA B dl)) (hj : j ≤ k := by decide) (hn : f.pn = [] := by rfl) (hg : Gl X x := by rfl)
    (hdb : (x == ("__debug__" : Str)) = false := by decide) (he : starEach (e :: es) X.env = (false, eval e X.env) :: starEach es X.env := by rfl) (hpl : (backTo pos (starEach es X.env)).any (·.1) = false := by rfl) :
    PE X (.Call (.Name x p) (e :: es) [] pos) (tD B (dCallP f dd dl)) := by
  obtain ⟨fa, fd, dvu, F, h1, h2, h3, r⟩ := hc
  exact e_callP F (hr.mono hj) h1 h2 h3 r hd hx ha hn hg hdb he hpl
end
end Y
namespace Y
open PySem PySem.Spec PyProof.Rows L2

/-! ### an exception of the program, caught and kept by a name -/
/-- something is tracked that was there untracked, new since the entry -/
theorem inv_track {X : Cx} {pins : List (Addr × Obj)} {σ : St} {H : Hp} {s : Shared} {a : Addr} {o : HO} {u : Obj} (I : Inv X pins σ H s) (hex : X.ex = []) (hn : H a = none) (h0 : X.s_0.heap.get? a = none) (hL : a ≠ X.env.locals) (hu : s.heap.get? a = some u) (hc : ∀ v, u.data ≠ .cell v)
    (hp : ∀ p ∈ X.pn ++ pins, p.1 ≠ a) (ok : ObjOk X.prog X.w (upd H a o) s.heap a o) : Inv X pins σ (upd H a o) s := by
  have hne : ∀ b w, H b = some w → b ≠ a := fun b w e => ne_of_none e hn
  have hold : ∀ b w, X.s_0.heap.get? b = some w → b ≠ a := fun b w e z => by rw [z, h0] at e; cases e
  have hcell : ∀ y c, X.env.cells.lookup y = some c → c ≠ a := fun y c e z => by
    obtain ⟨v, w, hw, hd⟩ := I.cell y c e
    rw [z, hu] at hw
    cases hw
    exact hc _ hd
  have hU := I.base
  have hb : Un X.fs X.ex X.H_0 (upd H a o) X.s_0.heap s.heap :=
    { keep := hU.keep, slot := hU.slot, there := hU.there
      free := fun b w e n x => by rw [upd_ne (hold b w e)]; exact hU.free b w e n x
      tups := fun b xs e => by rw [upd_ne (hne b _ (hU.tups b xs e))]; exact hU.tups b xs e
      frzs := fun b w xs e => by rw [upd_ne (hne b _ (hU.frzs b w xs e))]; exact hU.frzs b w xs e
      tbls := fun b ps e => by
        obtain ⟨more, q⟩ := hU.tbls b ps e
        exact ⟨more, by rw [upd_ne (hne b _ q)]; exact q⟩ }
  exact
    { ok := I.ok, os := I.os, bare := I.bare, base := hb, loc := I.loc, cell := I.cell, len := I.len
      free := by rw [upd_ne (Ne.symm hL)]; exact I.free
      freeC := fun y c e => by rw [upd_ne (hcell y c e)]; exact I.freeC y c e
      pin := fun p m => by
        obtain ⟨e1, e2, e3⟩ := I.pin p m
        exact ⟨e1, by rw [upd_ne (hp p m)]; exact e2, e3⟩
      hok := I.hok.laidN (fun _ _ e => e) hn ok }
/-- the wish about an exception of the body: the class is met, the thing is kept in slot j -/
def wKeep (K : PySem.W.Frag) (c : Value) (i j : Nat) (D : Ends) : WX := fun cls d σ H =>
  PySem.W.exmOne K cls c = some true ∧ ∀ a, H a = none → ∃ φ : Heap → Prop, (∀ h oe vs, h.get? a = some oe → Zc cls d oe → oe.data = .fields vs → φ h) ∧ (∀ h1 h2 : Heap, φ h1 → (∀ o, h1.get? a = some o → h2.get? a = some o) → φ h2) ∧
    D.nx (((σ.set i (some (.ref a))).set j (some (.ref a))).set i none) (upd H a (.ext φ))
section
variable {X : Cx} {x n y : Str} {c : Value} {i j : Nat} {body : List Stmt} {np pos' pos p1 p2 p3 : Pos} {tb : WX → TS}
theorem ps_keep (hst : X.stack = X.env :: X.outer) (hfr : X.env.frame = some X.env.locals) (hex : X.ex = []) (hN : X.N.Nodup) (hi : X.N[i]? = some n) (hj : X.N[j]? = some y) (hln : X.env.kindOf n = some .local) (hly : X.env.kindOf y = some .local) (hc : Names X x c)
    (hb : ∀ (W : WX) (pn : List (Addr × Obj)) (xe : Value → Shared → Prop), Takes (X.tr pn xe) W → PassesOwn (model X.prog X.w) X.A X.env xe → PSs (X.tr pn xe) body (tb W))
    (hsw : ∀ a pn, swapsWith (.Name n p2) (some (.Name y p1)) p3.line (X.suite a pn).env = pure false) (hdn : (n == ("__debug__" : Str)) = false) (hdc : (n == ("__classdict__" : Str)) = false) :
    PS X (.Try body [.ExceptHandler (some (.Name x np)) (some n) [.Assign [.Name y p1] (.Name n p2) p3] pos'] [] [] pos) (fun D σ H => tb (wKeep X.K c i j D) D σ H) := by
  refine ⟨fun pins s σ H D I hw => ?_⟩
  have hok := I.ok
  have hA : X.A.frames = some (X.env :: X.outer) := hok.frames.trans (congrArg some hst)
  have hvn : Vis X.env.scope n := .inl hln
  have hl_n : Loc X.env.scope n := .inl hln
  have hl_y : Loc X.env.scope y := .inl hly
  refine wpAny_Try_except (wpAny_mono ((hb (wKeep X.K c i j D) (X.pn ++ pins) _ (fun thrown sx hx => ?caught) PassesOwn.looking).run [] s σ H D (I.toTry _) hw) (fun fl st hfl => ?ran) (fun _ _ z => z))
  case ran =>
    cases fl with
    | next =>
      obtain ⟨τ, G, K1, q⟩ := hfl
      exact wpAny_execs_nil ⟨τ, G, K1.ofTry hok, q⟩
    | brk =>
      obtain ⟨τ, G, K1, q⟩ := hfl
      exact ⟨τ, G, K1.ofTry hok, q⟩
    | cont =>
      obtain ⟨τ, G, K1, q⟩ := hfl
      exact ⟨τ, G, K1.ofTry hok, q⟩
    | ret v =>
      obtain ⟨w, τ, G, K1, rw, q⟩ := hfl
      exact ⟨w, τ, G, K1.ofTry hok, rw, q⟩
  case caught =>
    obtain ⟨a, B, t0, pz, τ, G, cls, d, rfl, K0, ground, upt, air, ga, hos, hbare, hm, hkeep⟩ := hx
    have K1 : Inv X pins τ G t0 := K0.ofTry hok
    have a0 : t0.heap.get? a = none := by
      have hBa : B.get? a = none := by
        rcases air with z | z | z
        · exact z.2.1
        · exact z.2.1
        · exact z.2.1
      have hfa : a ∉ frs X.stack := by
        have hff : ∃ oe vs, sx.heap.get? a = some oe ∧ oe.data = .fields vs ∧ sx.heap.FunFrames B X.stack := by
          rcases air with ⟨_, _, f, oe, vs, e, _, dd, _⟩ | z | ⟨_, _, f, oe, vs, _, _, _, e, _, dd, _⟩
          · exact ⟨oe, vs, e, dd, f⟩
          · obtain ⟨oe, vs, e, _, dd⟩ := z.there
            exact ⟨oe, vs, e, dd, z.2.2.1⟩
          · exact ⟨oe, vs, e, dd, f⟩
        obtain ⟨oe, vs, e, dd, ff⟩ := hff
        intro mem
        obtain ⟨_, o', e', nf⟩ := ff.mem mem
        rw [e] at e'
        cases e'
        exact nf _ dd
      cases e : t0.heap.get? a with
      | none => rfl
      | some o => rw [ground a o e hfa] at hBa; cases hBa
    have s0 : X.s_0.heap.get? a = none := by
      cases e : X.s_0.heap.get? a with
      | none => rfl
      | some o =>
        obtain ⟨o', q⟩ := K1.base.there a o e (by rw [hex]; exact fun z => nomatch z)
        rw [a0] at q
        cases q
    have hpin : ∀ p ∈ X.pn ++ pins, p.1 ≠ a := fun p m z => by
      have q := (K1.pin p m).1
      rw [z, a0] at q
      cases q
    have air' : Sky B (X.env :: X.outer) a (Zc cls d) X.env.locals sx.heap := hst ▸ air
    refine (show wpAny (model X.prog X.w) X.A (noteFrame (.ref a) X.env) _ _ sx from ?_)
    refine Sky.land Zc.steady hA hfr air' fun g1 fly1 up1 => ?_
    have K2 : Inv X pins τ G { sx with heap := g1 } := K1.landed ground fly1.1 (upt.trans up1) hos hbare
    obtain ⟨ob1, fs1, at1, z1, d1⟩ := fly1.there
    have nofr : a ∉ frs (X.env :: X.outer) := fun mem => by
      obtain ⟨_, o', e', nf⟩ := fly1.2.2.1.mem mem
      rw [at1] at e'
      cases e'
      exact nf _ d1
    have aL : a ≠ X.env.locals := fun z => nofr (List.mem_filterMap.mpr ⟨X.env, List.mem_cons_self, by rw [hfr, z]⟩)
    have aF : a ∉ X.fs := fun mem => by
      obtain ⟨e, he, q⟩ := List.mem_filterMap.mp mem
      exact nofr (List.mem_filterMap.mpr ⟨e, List.mem_cons_of_mem _ he, q⟩)
    have T1 := K2.suite at1 d1 ga aL aF
    refine wpAny_handleBy_cons (codeAny_handlers_test ?test) (fun z => by cases z)
    have typ : PySem.W.Looks (model X.prog X.w) g1 (typeOf (.ref a)) cls := fun A Q E s k q => wpAny_typeOf_ref (k _ _ at1) (by rw [z1.1]; exact q)
    have matched := PySem.W.exm_one (M := model X.prog X.w) K2.kIn typ hm
    have named : ∀ {Q : Value → Shared → Prop} {E : Value → Shared → Prop}, Q c { sx with heap := g1 } → wpAny (model X.prog X.w) (X.A.mark (some (.ref a))) (eval (.Name x np) X.env) Q E { sx with heap := g1 } := fun {Q E} q => by
      rcases hc with ⟨gl, ndb, hm1 | ⟨hm1, bt, nn⟩⟩
      · exact ld_glob (X := X.suite a ((a, ob1) :: (X.pn ++ pins))) T1 gl hm1 q ndb
      · exact ld_blt (X := X.suite a ((a, ob1) :: (X.pn ++ pins))) T1 gl hm1 bt q nn ndb
    refine named (matched.here (codeAny_handlers_suite_as ?_))
    refine HandSPX.lands_againZ fly1 fun g2 fly2 up2 => ?_
    have K3 : Inv X pins τ G { sx with heap := g2 } := K1.landed ground fly2.1 ((upt.trans up1).trans up2) hos hbare
    obtain ⟨ob2, fs2, at2, z2, d2⟩ := fly2.there
    have T2 := K3.suite at2 d2 ga aL aF
    refine store_ok (X := X.suite a ((a, ob2) :: (X.pn ++ pins))) (v := .ref a) T2 hN hi hl_n rfl (fun s3 T3 => ?_) (.inr hln)
    have suiteW : PSs (X.suite a ((a, ob2) :: (X.pn ++ pins))) [.Assign [.Name y p1] (.Name n p2) p3] (tAsg (tVar i) (gName j)) :=
      pss_one (ps_set (i := j) hN hj hl_y (pe_var hi hvn hdn hdc) (hsw a _) (.inr hly))
    have hlen : i < τ.length := by
      have := (List.getElem?_eq_some_iff.mp hi).1
      rw [K1.len]
      exact this
    refine wpAny_mono (suiteW.run [] s3 _ G { nx := fun σ' H' => σ' = (τ.set i (some (.ref a))).set j (some (.ref a)) ∧ H' = G, rt := fun _ _ => False } T3 ⟨.ref a, List.getElem?_set_self hlen, rfl, rfl⟩) (fun fl s4 h4 => ?_) (fun _ _ z => False.elim z)
    cases fl with
    | next =>
      obtain ⟨σ4, H4, T4, e1, e2⟩ := h4
      subst e1
      subst e2
      refine gone_ok (X := X.suite a ((a, ob2) :: (X.pn ++ pins))) T4 hN hi hln fun s5 T5 => ?_
      obtain ⟨at5, _, _, _, nc⟩ := T5.pin (a, ob2) (List.mem_append_left _ List.mem_cons_self)
      obtain ⟨φ, f1, f2, f3⟩ := hkeep a ga
      have K5 : Inv X pins _ H4 s5 := T5.unsuite hok
      refine ⟨_, _, inv_track (o := .ext φ) K5 hex ga s0 aL at5 nc hpin ?_, f3⟩
      exact ⟨f1 _ _ _ at5 z2 d2, ⟨_, at5⟩, f2⟩
    | brk =>
      obtain ⟨_, _, _, z⟩ := h4
      exact z.elim
    | cont =>
      obtain ⟨_, _, _, z⟩ := h4
      exact z.elim
    | ret v =>
      obtain ⟨_, _, _, _, _, z⟩ := h4
      exact z.elim
end
end Y
namespace Y
open PySem PySem.Spec PyProof.Rows L2

/-! ### the program's own exceptions -/
def errNames : List Str := ["BadDeck", "Unlike", "BadMachine", "BadPlan", "BadRow", "TooMany", "BadNumber", "BadOffers", "BadKeys", "BadCards", "BadColumns", "Jammed", "NotJammed", "Nothing", "BadText"]
abbrev lookupBases : List Value := [.type "LookupError", .type "Exception", .type "BaseException", .type "object"]
structure ErrAt (K : PySem.W.Frag) (C S : Addr) : Prop where
  hg : PySem.W.findIn K (.ref C) "__getattribute__" = some (some (.builtin "BaseException.__getattribute__"))
  hk : PySem.W.findIn K (.ref C) "__getattr__" = some none
  hd : PySem.W.hasDictIn K C = true
  ha : PySem.W.findIn K (.ref C) "__class__" = some (some (.builtin "object.__class__"))
  tp : PySem.W.typeIn K (.ref C) = some (.type "type")
  cl : ∃ cd, PySem.W.clsIn K C = some cd ∧ cd.mro = .ref C :: .ref S :: lookupBases
  kp : PySem.W.keepIn K (.ref C) = true
theorem err_at {K : PySem.W.Frag} {C S : Addr} {cd : ClassData} (hg : PySem.W.findIn K (.ref C) "__getattribute__" = some (some (.builtin "BaseException.__getattribute__"))) (hk : PySem.W.findIn K (.ref C) "__getattr__" = some none) (hd : PySem.W.hasDictIn K C = true)
    (ha : PySem.W.findIn K (.ref C) "__class__" = some (some (.builtin "object.__class__"))) (tp : PySem.W.typeIn K (.ref C) = some (.type "type")) (cl : PySem.W.clsIn K C = some cd) (mr : cd.mro = .ref C :: .ref S :: lookupBases) (kp : PySem.W.keepIn K (.ref C) = true) : ErrAt K C S := ⟨hg, hk, hd, ha, tp, ⟨cd, cl, mr⟩, kp⟩
structure SortAt (K : PySem.W.Frag) (S : Addr) : Prop where
  hs : PySem.W.subIn K (.ref S) (.type "BaseException") = some true
  hd : PySem.W.hasDictIn K S = true
  tp : PySem.W.typeIn K (.ref S) = some (.type "type")
  hn : PySem.W.specialIn K (.builtin "object.__class__") "__get__" = some (some (.builtin "getset_descriptor.__get__"))
  ht : PySem.W.takesIn K (.builtin "object.__class__") = some true
/-- all own exceptions of a text -/
def Errs (G : GC) : Prop := ∃ (S : Addr) (tab : List (Str × Addr)), G.mg "SortError" = some (.ref S) ∧ SortAt G.K S ∧ tab.map (·.1) = errNames ∧ (tab.map (·.2)).Nodup ∧ S ∉ tab.map (·.2) ∧
  ∀ p ∈ tab, G.mg p.1 = some (.ref p.2) ∧ ErrAt G.K p.2 S ∧ (p.1 = "Jammed" ∨ PySem.W.excIn G.K p.2 lookupBases "LookupError.__new__" = true)
theorem ErrAt.sub {K : PySem.W.Frag} {C S : Addr} (e : ErrAt K C S) (v : Value) : PySem.W.subIn K (.ref C) v = some ((Value.ref C :: Value.ref S :: lookupBases).contains v) := by
  obtain ⟨cd, h1, h2⟩ := e.cl
  show ((PySem.W.clsIn K C).bind fun cd => if cd.mro.isEmpty = true then none else some (cd.mro.contains v)) = _
  rw [h1, Option.bind_some, h2]
  rfl
theorem ErrAt.isCls {K : PySem.W.Frag} {C S : Addr} (e : ErrAt K C S) : ((PySem.W.clsIn K C).isSome && PySem.W.typeIn K (.ref C) == some (.type "type")) = true := by
  obtain ⟨cd, h1, h2⟩ := e.cl
  rw [h1, e.tp] <;> rfl
theorem ErrAt.exc {K : PySem.W.Frag} {C S : Addr} (e : ErrAt K C S) (s : SortAt K S) : ExcC K C :=
  ⟨e.hg, e.hk, by rw [e.sub]; rfl, e.hd, e.ha, s.hn, s.ht, by have := e.sub (.type "object"); exact this.trans rfl⟩
theorem Errs.at {G : GC} (e : Errs G) {n : Str} (h : n ∈ errNames) : ∃ S C, G.mg "SortError" = some (.ref S) ∧ SortAt G.K S ∧ G.mg n = some (.ref C) ∧ ErrAt G.K C S ∧ (n = "Jammed" ∨ PySem.W.excIn G.K C lookupBases "LookupError.__new__" = true) ∧ C ≠ S := by
  obtain ⟨S, tab, h1, h2, h3, h4, h5, h6⟩ := e
  rw [← h3] at h
  obtain ⟨p, hp, rfl⟩ := List.mem_map.mp h
  obtain ⟨g1, g2, g3⟩ := h6 p hp
  exact ⟨S, p.2, h1, h2, g1, g2, g3, fun z => h5 (z ▸ List.mem_map_of_mem hp)⟩
theorem nodup_two {α β : Type} {l : List (α × β)} (h : (l.map (·.1)).Nodup) (h2 : (l.map (·.2)).Nodup) {p q : α × β} (hp : p ∈ l) (hq : q ∈ l) : p.1 = q.1 ↔ p.2 = q.2 := by
  induction l with
  | nil => cases hp
  | cons a l ih =>
    rw [List.map_cons, List.nodup_cons] at h h2
    rcases List.mem_cons.mp hp with ep | mp <;> rcases List.mem_cons.mp hq with eq | mq
    · rw [ep, eq]
      simp
    · rw [ep]
      exact ⟨fun z => absurd (z ▸ List.mem_map_of_mem mq) h.1, fun z => absurd (z ▸ List.mem_map_of_mem mq) h2.1⟩
    · rw [eq]
      exact ⟨fun z => absurd (z ▸ List.mem_map_of_mem mp) h.1, fun z => absurd (z ▸ List.mem_map_of_mem mp) h2.1⟩
    · exact ih h.2 h2.2 mp mq
theorem Errs.kit {G : GC} (e : Errs G) {n m : Str} (hn : n ∈ errNames) (hm : m ∈ errNames) : ∃ S C D, SortAt G.K S ∧ G.mg n = some (.ref C) ∧ ErrAt G.K C S ∧ G.mg m = some (.ref D) ∧ PySem.W.kitOne G.K (.ref C) (.ref D) = some (decide (n = m)) := by
  obtain ⟨S, tab, h1, h2, h3, h4, h5, h6⟩ := e
  have nd : (tab.map (·.1)).Nodup := by rw [h3]; decide +kernel
  rw [← h3] at hn hm
  obtain ⟨p, hp, rfl⟩ := List.mem_map.mp hn
  obtain ⟨q, hq, rfl⟩ := List.mem_map.mp hm
  obtain ⟨g1, g2, _⟩ := h6 p hp
  obtain ⟨k1, k2, _⟩ := h6 q hq
  refine ⟨S, p.2, q.2, h2, g1, g2, k1, ?_⟩
  have iff := nodup_two nd h4 hp hq
  unfold PySem.W.kitOne
  by_cases z : p.2 = q.2
  · rw [if_pos (by rw [z]; simp), decide_eq_true (iff.mpr z)]
  · have zn : ¬ p.1 = q.1 := fun y => z (iff.mp y)
    rw [if_neg (fun y => z (Value.ref.inj (beq_iff_eq.mp y))), decide_eq_false zn]
    unfold PySem.W.kitCls
    dsimp only
    rw [if_pos k2.isCls, g2.sub]
    have q1 : Value.ref q.2 ≠ Value.ref p.2 := fun y => z (Value.ref.inj y).symm
    have q2 : Value.ref q.2 ≠ Value.ref S := fun y => h5 ((Value.ref.inj y) ▸ List.mem_map_of_mem hq)
    refine congrArg some ?_
    refine Bool.eq_false_iff.mpr fun y => ?_
    have := List.contains_iff_mem.mp y
    simp at this
    rcases this with y | y
    · exact z y.symm
    · exact q2 (by rw [y])
theorem Errs.kitL {G : GC} (e : Errs G) {n : Str} (hn : n ∈ errNames) : ∃ S C, SortAt G.K S ∧ G.mg n = some (.ref C) ∧ ErrAt G.K C S ∧ PySem.W.kitOne G.K (.ref C) (.type "LookupError") = some true := by
  obtain ⟨S, C, _, h2, h3, h4, _⟩ := e.at hn
  refine ⟨S, C, h2, h3, h4, ?_⟩
  unfold PySem.W.kitOne
  rw [if_neg (by intro y; cases beq_iff_eq.mp y)]
  unfold PySem.W.kitCls
  dsimp only
  rw [if_pos (by decide +kernel), h4.sub]
  refine congrArg some ?_
  exact List.contains_iff_mem.mpr (by simp [lookupBases])

/-! ### raise X('m') -/
def dRaise (ex : Ex) : DS := fun _ x ρ => x ex ρ
section
variable {X : Cx} {B : Bd}
theorem s_raise {n m : Str} {j : Nat} {p p2 pos pos2 : Pos} (e : Errs B.G) (hK : X.K = B.G.K) (hM : X.mg = B.G.mg) (hn : n ∈ errNames) (hj : n ≠ "Jammed") (hc : X.calm = true) (tk : Takes X (fun cls d _ H => B.E cls d H)) (hg : Gl X n := by rfl)
    (hdb : (n == ("__debug__" : Str)) = false := by decide) : PS X (.Raise (some (.Call (.Name n p) [.Constant (.str m) j p2] [] pos)) none pos2) (tS B (dRaise (.own n))) := by
  obtain ⟨S, C, h1, h2, h3, h4, h5, h6⟩ := e.at hn
  have h5 := h5.resolve_left hj
  refine PS.imp (ps_raise hc tk (pmk_own PySem.F.excBase_LookupError (by rw [hK]; exact h5) (by rw [hM]; exact h3) (by rw [hK]; exact h4.kp) (raises_own (by rw [hK, h4.sub]; rfl) (by rw [hK]; exact h4.tp)) hg hdb)) fun D σ H ⟨c, ρ, S', E, w, A, h, l⟩ => ?_
  exact w.go (.own n) (.ref C) none σ ρ S' H A ⟨C, h3, rfl, rfl⟩ h
end

/-! ### try: y = f(..) except SortError as e: z = e -/
def dTold (i j l : Nat) (f : FD) (dl : DL) : DS := fun D x ρ => dl x ρ fun ds ρ1 => ds.length = f.m ∧ f.go (ds.map SV.d) (fun d _ => D.nx (ρ1.set l (.d d))) (fun ex _ => exName ex ∈ errNames ∧ D.nx (((ρ1.set i .un).set j (.d (.exc ex))).set i .un))
theorem told_x {B : Bd} {c : C} {σ : St} {ρ : Ev} {S S1 H : Hp} {D : Ends} {de : DEnds} {i j : Nat} {ex : Ex} {cls : Value} {dd : Option Addr} {K : PySem.W.Frag} {Sa : Addr} (e : Errs B.G) (hK : K = B.G.K) (hS : B.G.mg "SortError" = some (.ref Sa)) (L : Links B c S D de) (s1 : Same S S1) (A : Abs B.G c σ ρ S1 H) (o : ExOk B.G cls dd H ex) (hn : exName ex ∈ errNames) (hp1 : i ∉ c.pn) (hp2 : j ∉ c.pn)
    (h : de.nx (((ρ.set i .un).set j (.d (.exc ex))).set i .un)) : wKeep K (.ref Sa) i j D cls dd σ H := by
  obtain ⟨S', C, g1, g2, g3, g4, g5, g6⟩ := e.at hn
  rw [hS] at g1
  cases g1
  have ec : cls = .ref C ∧ ((∃ n, ex = .own n) → dd = none) := by
    cases ex with
    | own n =>
      obtain ⟨a, q1, q2, q3⟩ := o
      rw [show exName (.own n) = n from rfl, q1] at g3
      cases g3
      exact ⟨q2, fun _ => q3⟩
    | jam p =>
      obtain ⟨a, d, q1, q2, _⟩ := o
      rw [show exName (.jam p) = "Jammed" from rfl, q1] at g3
      cases g3
      exact ⟨q2, fun ⟨n, z⟩ => nomatch z⟩
  obtain ⟨rfl, hd⟩ := ec
  refine ⟨PySem.W.exm_ref (by rw [hK]; exact g2.hs) (by rw [hK]; exact g2.hd) (by rw [hK]; exact g2.tp) (by rw [hK, g4.sub]; simp), fun a ha => ?_⟩
  obtain ⟨F, A⟩ := A
  refine ⟨fun h => ∃ (oe : Obj) (vs : Array Value) (C : Addr), h.get? a = some oe ∧ B.G.mg (exName ex) = some (.ref C) ∧ oe.cls = .ref C ∧ ((∃ n, ex = .own n) → oe.dict = none) ∧ oe.data = .fields vs, fun h oe vs e1 e2 e3 => ⟨oe, vs, C, e1, g3, e2.1, fun z => e2.2.trans (hd z), e3⟩, fun h1 h2 ⟨oe, vs, C, e1, e2⟩ st => ⟨oe, vs, C, st _ e1, e2⟩, ?_⟩
  have sS : S1 a = none := (A.fresh ha).1
  have A1 := A.new (o := excH B.G.mg ex a) ha
  have A2 := A1.set (i := i) (v := some (.ref a)) (s := .un) (f := []) rfl (fun _ _ _ z => nomatch z) (.inl hp1)
  have A3 := A2.set (i := j) (v := some (.ref a)) (s := .d (.exc ex)) (f := []) ⟨rfl, .exc upd_same⟩ (fun _ _ _ z => nomatch z) (.inl hp2)
  have A4 := A3.set (i := i) (v := none) (s := .un) (f := []) rfl (fun _ _ _ z => nomatch z) (.inl hp1)
  exact L.nx _ _ _ _ ⟨_, A4⟩ (s1.trans (same_upd sS)) h
section
variable {X : Cx} {B : Bd} {fa : Addr} {fd : FuncData} {k kk : Nat} {f : FD} {ps : List Str}
theorem s_told {n x y z : Str} {a : Expr} {as : List Expr} {dl : DL} {np pos' pos p1 p2 p3 q1 q2 q3 q4 : Pos} (i j l : Nat) (e : Errs B.G) (hK : X.K = B.G.K) (hM : X.mg = B.G.mg) (hst : X.stack = X.env :: X.outer) (hfr : X.env.frame = some X.env.locals) (hex : X.ex = []) (hN : X.N.Nodup)
    (hc : Cal X.prog X.w X.K X.mg X.base B.G k x ps f) (hr : Room kk X.A) (ha : ∀ (pn : List (Addr × Obj)) (xe : Value → Shared → Prop), PA (X.tr pn xe) (a :: as) (tA B dl))
    (hi : X.N[i]? = some n := by rfl) (hj : X.N[j]? = some y := by rfl) (hl : X.N[l]? = some z := by rfl) (hk : k ≤ kk := by decide) (hn : f.pn = [] := by rfl) (hg : Gl X x := by rfl) (hgS : Gl X "SortError" := by rfl) (hpn : B.pn = [] := by rfl)
    (hln : X.env.kindOf n = some .local := by rfl) (hly : X.env.kindOf y = some .local := by rfl) (hlz : X.env.scope.names.lookup z = some .local := by rfl)
    (hsw : ∀ a pn, swapsWith (.Name n p2) (some (.Name y p1)) p3.line (X.suite a pn).env = pure false := by intro _ _; rfl) (hsw2 : swapsWith (.Call (.Name x q1) (a :: as) [] q2) (some (.Name z q3)) q4.line X.env = pure false := by rfl) (hdn : (n == ("__debug__" : Str)) = false := by decide) (hdc : (n == ("__classdict__" : Str)) = false := by decide)
    (hdx : (x == ("__debug__" : Str)) = false := by decide) (hes : starEach (a :: as) X.env = (false, eval a X.env) :: starEach as X.env := by rfl) (hpl : (backTo q2 (starEach as X.env)).any (·.1) = false := by rfl) :
    PS X (.Try [.Assign [.Name z q3] (.Call (.Name x q1) (a :: as) [] q2) q4] [.ExceptHandler (some (.Name "SortError" np)) (some n) [.Assign [.Name y p1] (.Name n p2) p3] pos'] [] [] pos) (tS B (dTold i j l f dl)) := by
  obtain ⟨Sa, _, hS, _⟩ := e.at (n := "BadDeck") (by decide +kernel)
  obtain ⟨fa, fd, F, h1, h2, h3⟩ := hc
  refine PS.imp (ps_keep (i := i) (j := j) (c := .ref Sa) (tb := fun W => tAsg (tCallS (spF B.G f) (WE W) (tA B dl)) (gName l)) hst hfr hex hN hi hj hln hly ⟨hgS, by decide, .inl (by rw [hM]; exact hS)⟩ (fun W pn xe tk _ => pss_one (ps_set (X := X.tr pn xe) hN hl (.inl hlz) (pe_callS (X := X.tr pn xe) F (hr.mono hk) hg h1 h2 h3 (fun σ => passAt tk σ) (ha pn xe) hdx hes hpl) hsw2 (.inr hlz))) hsw hdn hdc) fun D σ H ⟨c, ρ, S, E, w, A, h, L⟩ => ?_
  refine ⟨c, ρ, S, _, w, A, h, fun vs ds ρ1 S1 H1 ⟨F1, A1⟩ s1 r1 ⟨hm, hgo⟩ => ?_⟩
  have hcp : c.pn = [] := by rw [w.pn, hpn]
  have np : ∀ i, i ∉ c.pn := fun i => by rw [hcp]; exact fun z => nomatch z
  have a : ArgsOk B.G S1 σ vs (ds.map Arg.d) := ArgsOk.ofReps r1
  have hp : ∀ os, putA ρ1 (ds.map Arg.d) os = ρ1 := fun os => by unfold putA; rw [put_d, slots_d]; rfl
  refine sp_use (B := ⟨B.G, fun cls d H => wKeep X.K (.ref Sa) i j D cls d σ H, B.pn⟩) (f := f) A1.sub a ?_ (by rw [sv_d]; exact hgo) (fun v d os S' H' A' s' r' hk => ?_) fun ex cls dd os S' H' A' o hx => ?_
  · unfold fits
    rw [List.length_map, hm, places_d, slots_d, hn]
    simp
  · rw [hp os] at A'
    obtain ⟨F2, A2⟩ := A'
    exact L.nx _ _ S' H' ((A1.back A2).setD r' (.inl (np l))) (s1.trans s') hk
  · rw [hp os] at A'
    obtain ⟨F2, A2⟩ := A'
    exact told_x e hK hS L (s1.trans A2.fr.ss) ⟨_, A1.back A2⟩ o hx.1 (np i) (np j) hx.2
end

/-! ### isinstance(e, X), e a kept exception -/
/-- isinstance of an object at a, whose class is C -/
def rIsX (K : PySem.W.Frag) : List V → Hp → VK → Prop := fun xs H Q => ∃ (a C : Addr) (c : V) (cv : Value) (b : Bool) (φ : Heap → Prop), xs = [.ref a, c] ∧ H a = some (.ext φ) ∧ (∀ h, φ h → ∃ oe vs, h.get? a = some oe ∧ Zc (.ref C) none oe ∧ oe.data = .fields vs) ∧ ExcC K C ∧ (∀ u, RelV c u → u = cv) ∧ PySem.W.kitOne K (.ref C) cv = some b ∧ Q (.bl b) H
theorem call_isX {X : Cx} : CallR X (.builtin "isinstance") (rIsX X.K) := by
  intro pins s σ H xs us Q I r h
  obtain ⟨a, C, c, cv, b, φ, rfl, ha, hφ, E, hcv, e, q⟩ := h
  cases r with
  | cons rx rr =>
    cases rr with
    | cons rt rr =>
      cases rr
      cases rx
      have ec := hcv _ rt
      subst ec
      have ok := I.hok a _ ha
      obtain ⟨oe, vs, hget, hz, hv⟩ := hφ _ ok.1
      have J : PySem.W.InstAt s.heap a oe C none := by
        obtain ⟨oc, od, oda, osl⟩ := oe
        obtain ⟨h1, h2⟩ := hz
        dsimp only at h1 h2 hv
        subst h1 h2 hv
        exact ⟨hget, rfl, rfl, trivial⟩
      exact PySem.W.kia_one (PySem.W.handS_kitx_exc E.hg E.hk E.hs E.hd E.ha E.hn E.ht E.hm) I.kIn J e (fun z => nomatch z) fun tk => ⟨.bl b, H, I.kept (t' := tk) fun _ _ z => z, rfl, q⟩
def exN : D → Option Str
  | .exc (.own n) => some n
  | _ => none
def dIsExc (m : Str) (da : DE) : DE := fun x ρ k => da x ρ fun d ρ1 => ∃ n, exN d = some n ∧ n ∈ errNames ∧ k (.bl (decide (n = m))) ρ1
def dIsLk (da : DE) : DE := fun x ρ k => da x ρ fun d ρ1 => ∃ n, exN d = some n ∧ n ∈ errNames ∧ k (.bl true) ρ1
theorem ext_own {G : GC} {S H : Hp} {v : V} {d : D} {n : Str} {C : Addr} (r : Rep G S v d) (s : Same S H) (e : exN d = some n) (hC : G.mg n = some (.ref C)) : ∃ a φ, v = .ref a ∧ H a = some (.ext φ) ∧ ∀ h, φ h → ∃ oe vs, h.get? a = some oe ∧ Zc (.ref C) none oe ∧ oe.data = .fields vs := by
  cases d with
  | exc x =>
    cases x with
    | own m =>
      cases e
      cases r with
      | exc h =>
        refine ⟨_, _, rfl, s _ _ h, fun h' ⟨oe, vs, C', e1, e2, e3, e4, e5⟩ => ⟨oe, vs, e1, ⟨?_, e4 ⟨_, rfl⟩⟩, e5⟩⟩
        rw [show exName (.own n) = n from rfl, hC] at e2
        cases e2
        exact e3
    | jam p => cases e
  | _ => cases e
section
variable {X : Cx} {B : Bd} {da : DE} {p pos : Pos}
theorem e_isExc {x : Str} {a : Expr} {p2 : Pos} (er : Errs B.G) (hK : X.K = B.G.K) (hM : X.mg = B.G.mg) (hm : X.mg "isinstance" = none) (hx : x ∈ errNames) (ha : PE X a (tD B da)) (hg : Gl X "isinstance" := by rfl) (hgT : Gl X x := by rfl) (hdT : (x == ("__debug__" : Str)) = false := by decide)
    (he : starEach [a, .Name x p2] X.env = (false, eval a X.env) :: starEach [.Name x p2] X.env := by rfl) (hs2 : starEach [.Name x p2] X.env = (false, eval (.Name x p2) X.env) :: starEach [] X.env := by rfl) (hpl : (backTo pos (starEach [.Name x p2] X.env)).any (·.1) = false := by rfl) :
    PE X (.Call (.Name "isinstance" p) [a, .Name x p2] [] pos) (tD B (dIsExc x da)) := by
  obtain ⟨S0, D0, _, _, hD, _⟩ := er.at hx
  exact PE.imp (pe_callB call_isX hg hm (by decide +kernel) (pa_cons ha (pa_cons (pe_glob (v := .ref D0) hgT (by rw [hM]; exact hD) rfl hdT) pa_nil hs2) he) (by decide) (by decide) he hpl) fun σ H Q ⟨c, ρ, S, k, w, A, h, q⟩ => tD_use w A h fun v d ρ1 S1 H1 ⟨F1, A1⟩ s1 r1 ⟨n, e1, e2, hk⟩ => by
    obtain ⟨S', C, D', g1, g2, g3, g4, g5⟩ := er.kit e2 hx
    rw [hD] at g4
    cases g4
    obtain ⟨a', φ, rfl, h2, h3⟩ := ext_own r1 A1.fr.sh e1 g2
    exact ⟨a', C, _, _, _, φ, rfl, h2, h3, by rw [hK]; exact g3.exc g1, fun u z => z, by rw [hK]; exact g5, q _ _ ρ1 S1 H1 ⟨F1, A1⟩ s1 (.bl _) hk⟩
theorem e_isLk {a : Expr} {p2 : Pos} (er : Errs B.G) (hK : X.K = B.G.K) (hM : X.mg = B.G.mg) (hm : X.mg "isinstance" = none) (hmT : X.mg "LookupError" = none) (ha : PE X a (tD B da)) (hg : Gl X "isinstance" := by rfl) (hgT : Gl X "LookupError" := by rfl)
    (he : starEach [a, .Name "LookupError" p2] X.env = (false, eval a X.env) :: starEach [.Name "LookupError" p2] X.env := by rfl) (hs2 : starEach [.Name "LookupError" p2] X.env = (false, eval (.Name "LookupError" p2) X.env) :: starEach [] X.env := by rfl) (hpl : (backTo pos (starEach [.Name "LookupError" p2] X.env)).any (·.1) = false := by rfl) :
    PE X (.Call (.Name "isinstance" p) [a, .Name "LookupError" p2] [] pos) (tD B (dIsLk da)) :=
  PE.imp (pe_callB call_isX hg hm (by decide +kernel) (pa_cons ha (pa_cons (pe_bltn (v := .ty "LookupError") hgT hmT (by decide +kernel) rfl (by decide) (by decide)) pa_nil hs2) he) (by decide) (by decide) he hpl) fun σ H Q ⟨c, ρ, S, k, w, A, h, q⟩ => tD_use w A h fun v d ρ1 S1 H1 ⟨F1, A1⟩ s1 r1 ⟨n, e1, e2, hk⟩ => by
    obtain ⟨S', C, g1, g2, g3, g5⟩ := er.kitL e2
    obtain ⟨a', φ, rfl, h2, h3⟩ := ext_own r1 A1.fr.sh e1 g2
    exact ⟨a', C, _, _, _, φ, rfl, h2, h3, by rw [hK]; exact g3.exc g1, fun u z => z, by rw [hK]; exact g5, q _ _ ρ1 S1 H1 ⟨F1, A1⟩ s1 (.bl _) hk⟩
theorem errs_mk {G : GC} {S : Addr} {tab : List (Str × Addr)} (h1 : G.mg "SortError" = some (.ref S)) (h2 : SortAt G.K S) (h3 : tab.map (·.1) = errNames) (h4 : (S :: tab.map (·.2)).Nodup) (h6 : ∀ p ∈ tab, G.mg p.1 = some (.ref p.2) ∧ ErrAt G.K p.2 S ∧ (p.1 = "Jammed" ∨ PySem.W.excIn G.K p.2 lookupBases "LookupError.__new__" = true)) : Errs G :=
  ⟨S, tab, h1, h2, h3, (List.nodup_cons.mp h4).2, (List.nodup_cons.mp h4).1, h6⟩
end
end Y
namespace Y
open PySem PySem.Spec PyProof.Rows L2

/-! ### list(range(a, b)), list(range(a, b, -1)) -/
def stV (i c : Int) (n : Nat) : List V := (List.range n).map fun (m : Nat) => V.int (i + (m : Int) * c)
def tLR3 (ta : TA) : TE := fun σ H Q => ta σ H fun vs H1 => ∃ (i j c : Int) (n : Nat), vs = [.int i, .int j, .int c] ∧ RgC i j c n ∧ n ≤ 2 ^ 24 ∧ ∀ q, H1 q = none → Q (.ref q) (upd H1 q (.lst (stV i c n)))
section
variable {X : Cx} {B : Bd} {a b c : Expr} {da db : DE} {dl : DL} {p p2 q pos : Pos} {ta : TA}
theorem pe_lr3 (hc : X.calm = true) (hg : Gl X "list") (hm : X.mg "list" = none) (hg2 : Gl X "range") (hm2 : X.mg "range" = none) (ha : PA X [a, b, c] ta)
    (hs : starEach [a, b, c] X.env = (false, eval a X.env) :: starEach [b, c] X.env := by rfl) (hpl : (backTo q (starEach [b, c] X.env)).any (·.1) = false := by rfl) (na : starEach [.Call (.Name "range" p2) [a, b, c] [] q] X.env = (false, eval (.Call (.Name "range" p2) [a, b, c] [] q) X.env) :: starEach [] X.env := by rfl) :
    PE X (.Call (.Name "list" p) [.Call (.Name "range" p2) [a, b, c] [] q] [] pos) (tLR3 ta) := by
  refine ⟨fun pins s σ H Q I h => ?_⟩
  refine Call_ (ld_blt I hg hm boot_list (PyProof.Rows.callWith_type1 (args_cons (thn (Q := fun x s' => ∃ r i j c n t u v H', x = .ref r ∧ IsRange s'.heap r i j c t u v ∧ Inv X pins σ H' s' ∧ RgC i j c n ∧ n ≤ 2 ^ 24 ∧ ∀ q, H' q = none → Q (.ref q) (upd H' q (.lst (stV i c n)))) ?_ fun x s1 ⟨r, i, j, c, n, t, u, v, H1, ex, hr, I1, ⟨c0, c1, c2, c3⟩, hn, hq⟩ => args_nil ?_) na) na))
  · refine Call_ (ld_blt I hg2 hm2 boot_range (PyProof.Rows.callWith_type1 (thn (ha.run q pins s σ H _ I h) fun us s1 ⟨vs, H1, I1, r1, q1⟩ => ?_) hs hpl))
    obtain ⟨i, j, k, n, e, ⟨c0, c1, c2, c3⟩, hn, hq⟩ := q1
    subst e
    cases r1 with
    | cons r rr =>
      cases rr with
      | cons r' rr =>
        cases rr with
        | cons r'' rr =>
          cases rr
          obtain ⟨t, rfl⟩ := r
          obtain ⟨t', rfl⟩ := r'
          obtain ⟨t'', rfl⟩ := r''
          refine call_range_3 c0 ?_ (.inl (PyProof.noPylong_small c1))
          exact ⟨_, i, j, k, n, _, _, _, H1, rfl, IsRange.new .., I1.kept (t' := s1.toks) fun b o e => Heap.get?_push_of_some _ e, ⟨c0, c1, c2, c3⟩, hn, hq⟩
  · subst ex
    refine call_list_range (n := n) (I1.ok.hd hc) hr c2 c3 hn fun h' tk acc c' hk e' hi => ?_
    have hlen : acc.toList.length = n := by rw [Array.length_toList]; exact hi.1
    have hv : Vals (stV i c n) acc.toList := by
      unfold stV
      rw [← hlen]
      refine vals_of_get acc.toList _ fun m u hj => ?_
      obtain ⟨t, rfl⟩ := hi.2 m u (by rw [← hj, Array.getElem?_toList])
      exact ⟨t, rfl⟩
    refine ⟨.ref s1.heap.objs.size, upd H1 s1.heap.objs.size (.lst (stV i c n)), I1.laid hk (Nat.le_refl _) (show ObjOk X.prog X.w _ _ _ (.lst (stV i c n)) from ⟨?_, acc.toList, c', hv, ?_⟩), rfl, hq _ (I1.hok.fresh (Nat.le_refl _))⟩
    · rw [show (stV i c n).length = n by unfold stV; rw [List.length_map, List.length_range], sizeLine_eq]; omega
    · rw [Array.toArray_toList]; exact e'
def oLR3 (dl : DL) : DL := fun x ρ k => dl x ρ fun ds ρ1 => match ds with
  | [.int i, .int j, .int c] => c = -1 ∧ (-100000 ≤ i ∧ i ≤ 100000 ∧ -100000 ≤ j ∧ j ≤ 100000) ∧ k ((List.range (i - j).toNat).map fun (m : Nat) => D.int (i - (m : Int))) ρ1
  | _ => False
theorem eo_lr3 (hc : X.calm = true) (hm : X.mg "list" = none) (hm2 : X.mg "range" = none) (ha : PA X [a, b, c] (tA B dl)) (hg : Gl X "list" := by rfl) (hg2 : Gl X "range" := by rfl)
    (hs : starEach [a, b, c] X.env = (false, eval a X.env) :: starEach [b, c] X.env := by rfl) (hpl : (backTo q (starEach [b, c] X.env)).any (·.1) = false := by rfl) (na : starEach [.Call (.Name "range" p2) [a, b, c] [] q] X.env = (false, eval (.Call (.Name "range" p2) [a, b, c] [] q) X.env) :: starEach [] X.env := by rfl) :
    PE X (.Call (.Name "list" p) [.Call (.Name "range" p2) [a, b, c] [] q] [] pos) (tO B (oLR3 dl)) :=
  PE.imp (pe_lr3 hc hg hm hg2 hm2 ha hs hpl na) fun σ H Q ⟨c, ρ, S, k, w, A, h, hq⟩ => ⟨c, ρ, S, _, w, A, h, fun vs ds ρ1 S1 H1 ⟨F1, A1⟩ s1 r1 h1 => by
    match ds, r1, h1 with
    | [.int i, .int j, .int c'], .cons (.int _) (.cons (.int _) (.cons (.int _) .nil)), ⟨hc', ⟨b1, b2, b3, b4⟩, hk⟩ =>
      subst hc'
      refine ⟨i, j, -1, (i - j).toNat, rfl, RgC.neg (by omega) (by omega) (by omega) (by omega), by omega, fun p hp => ?_⟩
      obtain ⟨z1, z2, z3⟩ := A1.fresh hp
      refine hq p _ _ ρ1 S1 _ F1 (A1.newO hp) s1 z3 z1 z2 upd_same ?_ hk
      have := Reps.of_ints (G := B.G) (H := S1) ((List.range (i - j).toNat).map fun (m : Nat) => i - (m : Int))
      rw [List.map_map, List.map_map] at this
      have e : stV i (-1) (i - j).toNat = (List.range (i - j).toNat).map (V.int ∘ fun (m : Nat) => i - (m : Int)) := by
        unfold stV
        refine List.map_congr_left fun m _ => ?_
        show V.int (i + (m : Int) * -1) = V.int (i - m)
        congr 1
        omega
      rw [e]
      exact this⟩
def oLR2 (da db : DE) : DL := fun x ρ k => da x ρ fun d ρ1 => db x ρ1 fun e ρ2 => match d, e with
  | .int i, .int j => (0 ≤ i ∧ i ≤ 100000 ∧ 0 ≤ j ∧ j ≤ 100000) ∧ k (rng i (j - i).toNat) ρ2
  | _, _ => False
theorem eo_lr2 (hc : X.calm = true) (hm : X.mg "list" = none) (hm2 : X.mg "range" = none) (ha : PE X a (tD B da)) (hb : PE X b (tD B db)) (hg : Gl X "list" := by rfl) (hg2 : Gl X "range" := by rfl)
    (na : starEach [a, b] X.env = (false, eval a X.env) :: starEach [b] X.env := by rfl) (nb : starEach [b] X.env = (false, eval b X.env) :: starEach [] X.env := by rfl) (hpl : (backTo q (starEach [b] X.env)).any (·.1) = false := by rfl)
    (na2 : starEach [.Call (.Name "range" p2) [a, b] [] q] X.env = (false, eval (.Call (.Name "range" p2) [a, b] [] q) X.env) :: starEach [] X.env := by rfl) : PE X (.Call (.Name "list" p) [.Call (.Name "range" p2) [a, b] [] q] [] pos) (tO B (oLR2 da db)) :=
  PE.imp (pe_listRg hc hg hm (prg_2 hg2 hm2 ha hb na nb hpl) na2) fun σ H Q ⟨c, ρ, S, k, w, A, h, hq⟩ => tD_use w A h fun v d ρ1 S1 H1 A1 s1 r1 h1 => tD_use w A1 h1 fun v2 e ρ2 S2 H2 ⟨F2, A2⟩ s2 r2 h2 => by
    match d, e, r1, r2, h2 with
    | .int i, .int j, .int _, .int _, ⟨⟨b1, b2, b3, b4⟩, hk⟩ =>
      refine ⟨i, j, rfl, rfl, RgOk.of_le (by omega) (by omega) (by omega) (by omega), fun p hp => ?_⟩
      obtain ⟨z1, z2, z3⟩ := A2.fresh hp
      exact hq p _ (rng i (j - i).toNat) ρ2 S2 _ F2 (A2.newO hp) (s1.trans s2) z3 z1 z2 upd_same (by rw [rgV_rng]; exact reps_rng i _) hk
end
/-- max of one list -/
def fMax1 : DF := fun ds k => match ds with
  | [.lst l] => ∃ ns, intsOf l = some ns ∧ 0 < ns.length ∧ ∀ m, m ∈ ns → (∀ y, y ∈ ns → y ≤ m) → k (.int m)
  | _ => False
theorem ok_max1 {G : GC} : OkC G (rMax G.K) fMax1 := fun c σ ρ S H F vs ds k Q A r hf q => by
  unfold fMax1 at hf
  split at hf
  · obtain ⟨bs, e, hl, hk⟩ := hf
    have e := intsOf_eq e
    subst e
    cases r with
    | cons r1 rr =>
      cases rr
      cases r1 with
      | lst e r =>
        have e2 := r.ints
        subst e2
        exact ⟨_, _, rfl, .inl (.inl (A.fr.sh _ _ e)), hl, fun m hm hy => fin_s A q (.int _) (hk m hm hy)⟩
  · exact hf.elim
theorem fMax1_l {l : List D} {k : D → Prop} : fMax1 [.lst l] k = (∃ ns, intsOf l = some ns ∧ 0 < ns.length ∧ ∀ m, m ∈ ns → (∀ y, y ∈ ns → y ≤ m) → k (.int m)) := rfl
theorem oLR3_eq {dl : DL} {x : KX} {ρ : Ev} {i j c : Int} {k : List D → Ev → Prop} {ρ1 : Ev} : (match ([.int i, .int j, .int c] : List D) with
  | [.int i, .int j, .int c] => c = -1 ∧ (-100000 ≤ i ∧ i ≤ 100000 ∧ -100000 ≤ j ∧ j ≤ 100000) ∧ k ((List.range (i - j).toNat).map fun (m : Nat) => D.int (i - (m : Int))) ρ1
  | _ => False) = (c = -1 ∧ (-100000 ≤ i ∧ i ≤ 100000 ∧ -100000 ≤ j ∧ j ≤ 100000) ∧ k ((List.range (i - j).toNat).map fun (m : Nat) => D.int (i - (m : Int))) ρ1) := rfl
end Y
namespace Y
open PySem PySem.Spec PyProof.Rows L2
abbrev sKw : List (Str × Value) := [(Str.ofString "strict", .bool true)]
theorem sz_type (a b : Value) : checkTypeCall "zip" ⟨[a, b], sKw⟩ = pure () := by kernel_rfl
theorem sz_new (a b : Value) : checkBuiltinCall "zip.__new__" ⟨[.type "zip", a, b], sKw⟩ = pure () := by kernel_rfl
theorem sz_init (o a b : Value) : argsOk "object.__init__" ⟨[o, a, b], sKw⟩ := by
  unfold argsOk
  rw [signature?_of (id := "object.__init__") (n := ['_', '_', 't', 'i', 'n', 'i', '_', '_']) (o := ['t', 'c', 'e', 'j', 'b', 'o']) (by kernel_rfl) F.owner_object]
  kernel_rfl
theorem sz_keep (h : Heap) (M : Model) : ∃ k, (k = Keeper.frame ∨ k = Keeper.machine ∨ k = Keeper.boundFrame) ∧ PySem.W.Looks M h (keeperOf (.type "zip")) k := ⟨.machine, .inr (.inl rfl), PySem.W.Looks.of_pure rfl⟩
abbrev SZip (h : Heap) (z TI TO : Addr) (f0 : Value) : Prop := h.get? z = some { cls := .type "zip", dict := none, data := .fields #[f0, .bool false, .bool true, .ref TI, .ref TO], slots := #[] }
abbrev szH (h : Heap) (l1 l2 : Addr) : Heap := (zipH4 h l1 l2).push { cls := .type "zip", data := .fields #[.none, .bool false, .bool true, .ref (zipH2 h l1 l2).objs.size, .ref (zipH3 h l1 l2).objs.size] }
theorem sz_meets (l1 l2 : Addr) (xs ys : Array Value) :
    Meets (Builtin.«zip.__new__» ⟨[.type "zip", .ref l1, .ref l2], sKw⟩) (fun _ R s => s.heap.IsList l1 xs ∧ s.heap.IsList l2 ys ∧ R (.ok (.ret (.ref (zipH4 s.heap l1 l2).objs.size))) { s with heap := szH s.heap l1 l2 }) :=
  Meets.of_wp fun prog w A R s hh => by
    obtain ⟨hp, gens, dd, tk, os⟩ := s
    obtain ⟨p1, p2, hR⟩ := hh
    have q0 := sub_zip
    have q1 : Heap.IsList (Shared.heap ⟨hp, gens, dd, tk, os⟩) l1 xs := p1
    have q2 : Heap.IsList (Shared.heap ⟨hp.push { cls := .type "list_iterator", data := .fields #[.ref l1, .int 0 0] }, gens, dd, tk, os⟩) l2 ys := Heap.IsList.push p2 _
    wp_walk using wpAny_pyIter_list q1, wpAny_pyIter_list q2
    exact ⟨_, rfl, hR⟩
theorem sz_initM (o a b : Value) : Meets (Builtin.«object.__init__» ⟨[o, a, b], sKw⟩) (fun _ R s => s.TypeIs o "zip" ∧ R (.ok (.ret .none)) s) := by
  have hl := F.called_zip.init.lookup
  have hm := F.called_zip.made
  have hne : (some ("zip.__new__" : String) != some "object.__new__") = true := by decide
  refine Meets.of_wp fun prog w A R s hs => ?_
  obtain ⟨hT, hq⟩ := hs
  repeat any_goals (first | assumption | wp_step)
  exact ⟨_, rfl, hq⟩
section
variable {prog : Program} {w : World} {A : Around} {E : Value → Shared → Prop} {s : Shared}
set_option maxHeartbeats 2000000 in
theorem sz_callT {l1 l2 : Addr} {S : PySem.Spec} {Q : Value → Shared → Prop} (g : Meets (Builtin.«zip.__new__» ⟨[.type "zip", .ref l1, .ref l2], sKw⟩) S) (h : S A.in1 (wants (fun o s₁ => s₁.TypeIs o "zip" ∧ Q o s₁) E) s) :
    wpAny (model prog w) A (call (.type "zip") [.ref l1, .ref l2] sKw) Q E s := by
  have ft := F.called_zip
  obtain ⟨c0, tl0, hmro⟩ := ft.mro
  have hmade := ft.made
  have hsub := ft.sub
  have hct := sz_type (.ref l1) (.ref l2)
  refine wpAny_call <| codeAny_of_tree ?_
  show wpAny _ _ (callAny (.type "zip") _) _ _ _
  refine wpAny_pure ⟨Code.quiet_builtin _ (by decide +kernel), ?_⟩
  refine codeAny_builtin F.entry_type_call ?_
  rw [Around.under_plain (weight_type_call_type "zip" [.ref l1, .ref l2] sKw) (units_type_call_type "zip" [.ref l1, .ref l2] sKw)]
  have k1 := ft.notType
  have k2 := ft.canCreate
  repeat any_goals (first | assumption | wp_step)
  refine codeAny_mono (codeAny_call_builtin ft.plain F.entry_zip_new (wpAny_of_eq (sz_new (.ref l1) (.ref l2)) (g prog w A.in1 _ s h))) fun r t1 hr => ?_
  cases r with
  | error e => exact hr
  | ok fl =>
    cases fl with
    | ret o =>
      obtain ⟨hT, hq⟩ := hr
      have hli := ft.init.lookup
      have hbi := ft.init.bind o
      repeat any_goals (first | assumption | wp_step)
      refine codeAny_mono (codeAny_call_builtin ft.init.plain F.entry_object_init (ft.init.check _ _ _ _ _ _ _ _ hT (sz_init o (.ref l1) (.ref l2)) (sz_initM o (.ref l1) (.ref l2) prog w A.in1 (wants (fun r s₂ => r = .none ∧ Q o s₂) E) t1 ⟨hT, rfl, hq⟩))) fun r2 t2 hr2 => ?_
      cases r2 with
      | error e => exact hr2
      | ok f2 =>
        cases f2 with
        | ret v =>
          obtain ⟨rfl, hq2⟩ := hr2
          repeat any_goals (first | assumption | wp_step)
        | _ => exact hr2.elim
    | _ => exact hr.elim
theorem sz_call {l1 l2 : Addr} {xs ys : Array Value} {Q : Value → Shared → Prop} (p1 : s.heap.IsList l1 xs) (p2 : s.heap.IsList l2 ys)
    (h : ∀ h', SZip h' (s.heap.objs.size + 4) (s.heap.objs.size + 2) (s.heap.objs.size + 3) .none → IsPair h' (s.heap.objs.size + 2) (.ref s.heap.objs.size) (.ref (s.heap.objs.size + 1)) →
      IsPair h' (s.heap.objs.size + 3) .none .none → h'.IsListIter s.heap.objs.size l1 0 → h'.IsListIter (s.heap.objs.size + 1) l2 0 → h'.objs.size = s.heap.objs.size + 5 →
      (∀ c o, s.heap.get? c = some o → h'.get? c = some o) → Q (.ref (s.heap.objs.size + 4)) { s with heap := h' }) :
    wpAny (model prog w) A (call (.type "zip") [.ref l1, .ref l2] sKw) Q E s := by
  refine sz_callT (sz_meets l1 l2 xs ys) ⟨p1, p2, ?_⟩
  have n1 : (zipH1 s.heap l1).objs.size = s.heap.objs.size + 1 := Heap.size_push ..
  have n2 : (zipH2 s.heap l1 l2).objs.size = s.heap.objs.size + 2 := by rw [Heap.size_push, n1]
  have n3 : (zipH3 s.heap l1 l2).objs.size = s.heap.objs.size + 3 := by rw [Heap.size_push, n2]
  have n4 : (zipH4 s.heap l1 l2).objs.size = s.heap.objs.size + 4 := by rw [Heap.size_push, n3]
  have n5 : (szH s.heap l1 l2).objs.size = s.heap.objs.size + 5 := by rw [Heap.size_push, n4]
  have up : ∀ c o, (zipH4 s.heap l1 l2).get? c = some o → (szH s.heap l1 l2).get? c = some o := fun c o e => Heap.get?_push_of_some _ e
  have g5 : (szH s.heap l1 l2).get? (zipH4 s.heap l1 l2).objs.size = some _ := Heap.get?_push_size _ rfl
  have u4 : (szH s.heap l1 l2).get? (zipH3 s.heap l1 l2).objs.size = some _ := up _ _ (Heap.get?_push_size _ rfl)
  have u3 : (szH s.heap l1 l2).get? (zipH2 s.heap l1 l2).objs.size = some _ := up _ _ (Heap.get?_push_of_some _ (Heap.get?_push_size _ rfl))
  have u2 : (szH s.heap l1 l2).get? (zipH1 s.heap l1).objs.size = some _ := up _ _ (Heap.get?_push_of_some _ (Heap.get?_push_of_some _ (Heap.get?_push_size _ rfl)))
  have u1 : (szH s.heap l1 l2).get? s.heap.objs.size = some _ := up _ _ (Heap.get?_push_of_some _ (Heap.get?_push_of_some _ (Heap.get?_push_of_some _ (Heap.get?_push_size _ rfl))))
  rw [n4, n2, n3] at g5
  rw [n3] at u4
  rw [n2, n1] at u3
  rw [n1] at u2
  show _ ∧ _
  rw [n4]
  exact ⟨⟨_, g5, rfl⟩, h _ g5 u3 u4 ⟨_, u1, rfl, rfl⟩ ⟨_, u2, rfl, rfl⟩ n5 fun c o e => up _ _ (Heap.get?_push_of_some _ (Heap.get?_push_of_some _ (Heap.get?_push_of_some _ (Heap.get?_push_of_some _ e))))⟩
open Builtin.SmallTypes in
theorem sz_draw {it l : Addr} {i : Nat} {its : Array Value} {x : Value} {Q : Option Value → Shared → Prop} (hi : s.heap.IsListIter it l i) (hl : s.heap.IsList l its) (hx : its[i]? = some x)
    (hQ : ∀ h', h'.IsListIter it l (i + 1) → Heap.SameBut it s.heap h' → Q (some x) { s with heap := h' }) : wpAny (model prog w) A (nextOrEnd (.ref it)) Q E s := by
  unfold nextOrEnd
  exact wpAny_bind (wpAny_attempt (wpAny_nextOf_list_item hi hl hx fun h' a b => wpAny_pure (hQ h' a b)))
open Builtin.SmallTypes in
theorem sz_drawE {it l : Addr} {i : Nat} {its : Array Value} {Q : Option Value → Shared → Prop} (hh : A.handled = none) (hi : s.heap.IsListIter it l i) (hl : s.heap.IsList l its) (hx : its[i]? = none)
    (hQ : ∀ h', Heap.ExtBut it s.heap h' → Q none { s with heap := h' }) : wpAny (model prog w) A (nextOrEnd (.ref it)) Q E s := by
  unfold nextOrEnd
  refine wpAny_bind (wpAny_attempt (wpAny_nextOf_list_end hh hi hl hx fun h' e hk he => ?_))
  obtain ⟨o, ho, hc⟩ := he
  exact wpAny_bind (wpAny_isInstance (T := "StopIteration") (b := true) ⟨o, ho, hc⟩ isSubtype_stop (wpAny_pure (hQ h' hk)))
open Builtin.SmallTypes in
theorem sz_item {z TI TO i1 i2 l1 l2 : Addr} {n m : Nat} {xs ys : Array Value} {x y a b : Value} {Q : Value → Shared → Prop} (D : ZipApart z TI TO i1 i2 l1 l2)
    (hz : SZip s.heap z TI TO .none) (t1 : IsPair s.heap TI (.ref i1) (.ref i2)) (t2 : IsPair s.heap TO a b)
    (j1 : s.heap.IsListIter i1 l1 n) (j2 : s.heap.IsListIter i2 l2 m) (p1 : s.heap.IsList l1 xs) (p2 : s.heap.IsList l2 ys) (hx : xs[n]? = some x) (hy : ys[m]? = some y)
    (hQ : ∀ h', SZip h' z TI TO (rawInt s.heap.objs.size) → IsPair h' TO x y → h'.IsListIter i1 l1 (n + 1) → h'.IsListIter i2 l2 (m + 1) → IsPair h' s.heap.objs.size x y → h'.objs.size = s.heap.objs.size + 1 →
      (∀ c o, c ≠ z → c ≠ TO → c ≠ i1 → c ≠ i2 → s.heap.get? c = some o → h'.get? c = some o) → Q (.ref s.heap.objs.size) { s with heap := h' }) :
    wpAny (model prog w) A (Builtin.«zip.__next__» ⟨[.ref z], []⟩) (fun fin s' => ∃ v, fin = .done (.ret v) ∧ Q v s') E s := by
  show wpAny _ _ (field (Value.ref z) 2 >>= _) _ _ _
  refine wpAny_bind (wpAny_field hz rfl (x := Value.bool true) rfl ?_)
  show wpAny _ _ (field (Value.ref z) 3 >>= _) _ _ _
  refine wpAny_bind (wpAny_field hz rfl (x := Value.ref TI) rfl ?_)
  refine wpAny_bind (wpAny_seqItems t1 rfl ?_)
  show wpAny _ _ (ownedTupleIsFree (.ref z) >>= _) _ _ _
  refine wpAny_bind ?_
  unfold ownedTupleIsFree
  refine wpAny_bind (wpAny_field hz rfl (x := Value.none) rfl (wpAny_pure ?_))
  simp only [if_true]
  refine wpAny_bind (wpAny_rule (wpAny_bind (wpAny_field hz rfl (x := Value.ref TO) rfl ?_)))
  refine wpAny_bind (wpAny_setField_rec hz (by simp) fun h₁ z₁ e1 => ?_)
  have z₁ : SZip h₁ z TI TO .ellipsis := z₁
  refine wpAny_bind ?_
  simp only [List.forIn_cons, List.forIn_nil, List.zipIdx_cons, List.zipIdx_nil]
  refine wpAny_bind <| wpAny_bind <| wpAny_onRaise ?_
  show wpAny _ _ (nextOrEnd (.ref i1)) _ _ _
  refine sz_draw (j1.extBut e1.extBut D.i1z) (p1.extBut e1.extBut D.l1z) hx fun h₂ j1' e2 => ?_
  have t2' : IsPair h₂ TO a b := e2.extBut _ _ D.TOi1 (e1.extBut _ _ D.TOz t2)
  refine wpAny_bind (wpAny_seqItems t2' rfl (wpAny_bind (wpAny_updateSeq_pair t2' fun h₃ t3 e3 => ?_)))
  have t3 : IsPair h₃ TO x b := t3
  refine wpAny_bind (wpAny_letGo (wpAny_pure (wpAny_bind (wpAny_bind (wpAny_onRaise ?_)))))
  show wpAny _ _ (nextOrEnd (.ref i2)) _ _ _
  refine sz_draw (((j2.extBut e1.extBut D.i2z).extBut e2.extBut D.i12.symm).extBut e3.extBut D.TOi2.symm) (((p2.extBut e1.extBut D.l2z).extBut e2.extBut D.l2i1).extBut e3.extBut D.l2TO) hy fun h₄ j2' e4 => ?_
  have t4 : IsPair h₄ TO x b := e4.extBut _ _ D.TOi2 t3
  refine wpAny_bind (wpAny_seqItems t4 rfl (wpAny_bind (wpAny_updateSeq_pair t4 fun h₅ t5 e5 => ?_)))
  have t5 : IsPair h₅ TO x y := t5
  refine wpAny_bind (wpAny_letGo (wpAny_pure (wpAny_pure ?_)))
  refine wpAny_bind (wpAny_seqItems t5 rfl (wpAny_bind (wpAny_newTuple ?_)))
  have sz5 : h₅.objs.size = s.heap.objs.size := by rw [e5.1, e4.1, e3.1, e2.1, e1.1]
  have z₅ : SZip h₅ z TI TO .ellipsis := e5.extBut _ _ D.TOz.symm (e4.extBut _ _ D.i2z.symm (e3.extBut _ _ D.TOz.symm (e2.extBut _ _ D.i1z.symm z₁)))
  have kp : ∀ c o, c ≠ z → c ≠ TO → c ≠ i1 → c ≠ i2 → s.heap.get? c = some o → h₅.get? c = some o := fun c o c1 c2 c3 c4 e => e5.extBut _ _ c2 (e4.extBut _ _ c4 (e3.extBut _ _ c2 (e2.extBut _ _ c3 (e1.extBut _ _ c1 e))))
  have w1 : h₅.IsListIter i1 l1 (n + 1) := ((j1'.extBut e3.extBut D.TOi1.symm).extBut e4.extBut D.i12).extBut e5.extBut D.TOi1.symm
  have w2 : h₅.IsListIter i2 l2 (m + 1) := j2'.extBut e5.extBut D.TOi2.symm
  have zl : z < h₅.objs.size := Heap.lt_size z₅
  show wpAny _ _ (ownedTupleHandOut (.ref z) (.ref h₅.objs.size) >>= _) _ _ _
  refine wpAny_bind ?_
  unfold ownedTupleHandOut
  have z₆ : SZip (h₅.push { cls := .type "tuple", data := .seq #[x, y] }) z TI TO .ellipsis := Heap.get?_push_of_some _ z₅
  refine wpAny_bind (wpAny_setField_rec z₆ (by simp) fun h₇ z₇ e7 => ?_)
  have z₇ : SZip h₇ z TI TO (rawInt h₅.objs.size) := z₇
  refine wpAny_setField_rec z₇ (by simp) fun h₈ z₈ e8 => ?_
  have z₈ : SZip h₈ z TI TO (rawInt h₅.objs.size) := z₈
  have up : ∀ c o, c ≠ z → h₅.get? c = some o → h₈.get? c = some o := fun c o c1 e => e8.extBut _ _ c1 (e7.extBut _ _ c1 (Heap.get?_push_of_some _ e))
  have t8 : IsPair h₈ h₅.objs.size x y := e8.extBut _ _ (Nat.ne_of_gt zl) (e7.extBut _ _ (Nat.ne_of_gt zl) (Heap.get?_push_size _ rfl))
  have s8 : h₈.objs.size = h₅.objs.size + 1 := by rw [e8.1, e7.1, Heap.size_push]
  rw [sz5] at z₈ t8 s8
  refine wpAny_pure ⟨_, rfl, ?_⟩
  show Q (.ref h₅.objs.size) _
  rw [sz5]
  exact hQ h₈ z₈ (up _ _ D.TOz t5) (w1.at fun o e => up _ o D.i1z e) (w2.at fun o e => up _ o D.i2z e) t8 s8 fun c o c1 c2 c3 c4 e => up c o c1 (kp c o c1 c2 c3 c4 e)
open Builtin.SmallTypes in
theorem sz_end {z TI TO i1 i2 l1 l2 : Addr} {n m : Nat} {xs ys : Array Value} {a b : Value} {Q : Fin → Shared → Prop} (hh : A.handled = none) (D : ZipApart z TI TO i1 i2 l1 l2)
    (hz : SZip s.heap z TI TO .none) (t1 : IsPair s.heap TI (.ref i1) (.ref i2)) (t2 : IsPair s.heap TO a b)
    (j1 : s.heap.IsListIter i1 l1 n) (j2 : s.heap.IsListIter i2 l2 m) (p1 : s.heap.IsList l1 xs) (p2 : s.heap.IsList l2 ys) (hx : xs[n]? = none) (hy : ys[m]? = none)
    (hE : ∀ h' e, (∀ c o, c ≠ z → c ≠ TO → c ≠ i1 → c ≠ i2 → s.heap.get? c = some o → h'.get? c = some o) → (∃ o, h'.get? e = some o ∧ o.cls = .type "StopIteration") → E (.ref e) { s with heap := h' }) :
    wpAny (model prog w) A (Builtin.«zip.__next__» ⟨[.ref z], []⟩) Q E s := by
  show wpAny _ _ (field (Value.ref z) 2 >>= _) _ _ _
  refine wpAny_bind (wpAny_field hz rfl (x := Value.bool true) rfl ?_)
  show wpAny _ _ (field (Value.ref z) 3 >>= _) _ _ _
  refine wpAny_bind (wpAny_field hz rfl (x := Value.ref TI) rfl ?_)
  refine wpAny_bind (wpAny_seqItems t1 rfl ?_)
  show wpAny _ _ (ownedTupleIsFree (.ref z) >>= _) _ _ _
  refine wpAny_bind ?_
  unfold ownedTupleIsFree
  refine wpAny_bind (wpAny_field hz rfl (x := Value.none) rfl (wpAny_pure ?_))
  simp only [if_true]
  refine wpAny_bind (wpAny_rule (wpAny_bind (wpAny_field hz rfl (x := Value.ref TO) rfl ?_)))
  refine wpAny_bind (wpAny_setField_rec hz (by simp) fun h₁ z₁ e1 => ?_)
  have z₁ : SZip h₁ z TI TO .ellipsis := z₁
  refine wpAny_bind ?_
  simp only [List.forIn_cons, List.forIn_nil, List.zipIdx_cons, List.zipIdx_nil]
  refine wpAny_bind <| wpAny_bind <| wpAny_onRaise ?_
  show wpAny _ _ (nextOrEnd (.ref i1)) _ _ _
  refine sz_drawE hh (j1.extBut e1.extBut D.i1z) (p1.extBut e1.extBut D.l1z) hx fun h₂ e2 => ?_
  have z₂ : SZip h₂ z TI TO .ellipsis := e2 _ _ D.i1z.symm z₁
  refine wpAny_bind (wpAny_setField_rec z₂ (by simp) fun h₃ z₃ e3 => ?_)
  refine wpAny_bind ?_
  refine wpAny_bind ?_
  simp only [List.drop_succ_cons, List.drop_zero, List.forIn_cons, List.forIn_nil, List.zipIdx_cons, List.zipIdx_nil]
  refine wpAny_bind <| wpAny_bind ?_
  have z₃ : SZip h₃ z TI TO .none := z₃
  refine sz_drawE hh (((j2.extBut e1.extBut D.i2z).extBut e2 D.i12.symm).extBut e3.extBut D.i2z) (((p2.extBut e1.extBut D.l2z).extBut e2 D.l2i1).extBut e3.extBut D.l2z) hy fun h₄ e4 => ?_
  refine wpAny_pure (wpAny_pure ?_)
  refine wpAny_bind <| wpAny_rule ?_
  show wpAny _ _ (newExc (Value.type "StopIteration") [] >>= _) _ _ _
  apply wpAny_bind
  simp only [newExc, newTuple]
  refine wpAny_bind <| wpAny_newObj_type ?_ (by size_fits)
  refine wpAny_bind (m := firstArgMember _ _) (wpAny_of_eq (a := Value.none) (by first | (simp only [firstArgMember]; rfl) | rfl) (wpAny_newObj_type ?_ (by size_fits)))
  simp only [raiseNew]
  refine wpAny_bind <| wpAny_handled ?_
  rw [hh]
  refine wpAny_bind <| wpAny_pure <| wpAny_throw ?_
  refine hE _ _ (fun c o c1 c2 c3 c4 e => ?_) ⟨_, Heap.get?_push_size _ rfl, rfl⟩
  exact Heap.get?_push_of_some _ (Heap.get?_push_of_some _ (e4 _ _ c4 (e3.extBut _ _ c1 (e2 _ _ c3 (e1.extBut _ _ c1 e)))))
theorem sz_nextI {z TI TO i1 i2 l1 l2 : Addr} {n m : Nat} {xs ys : Array Value} {x y a b : Value} {Q : Option Value → Shared → Prop} (D : ZipApart z TI TO i1 i2 l1 l2)
    (hz : SZip s.heap z TI TO .none) (t1 : IsPair s.heap TI (.ref i1) (.ref i2)) (t2 : IsPair s.heap TO a b)
    (j1 : s.heap.IsListIter i1 l1 n) (j2 : s.heap.IsListIter i2 l2 m) (p1 : s.heap.IsList l1 xs) (p2 : s.heap.IsList l2 ys) (hx : xs[n]? = some x) (hy : ys[m]? = some y)
    (hQ : ∀ h', SZip h' z TI TO (rawInt s.heap.objs.size) → IsPair h' TO x y → h'.IsListIter i1 l1 (n + 1) → h'.IsListIter i2 l2 (m + 1) → IsPair h' s.heap.objs.size x y → h'.objs.size = s.heap.objs.size + 1 →
      (∀ c o, c ≠ z → c ≠ TO → c ≠ i1 → c ≠ i2 → s.heap.get? c = some o → h'.get? c = some o) → Q (some (.ref s.heap.objs.size)) { s with heap := h' }) : wpAny (model prog w) A (pyNext (.ref z)) Q E s := by
  have tz : s.TypeIs (.ref z) "zip" := ⟨_, hz, rfl⟩
  unfold pyNext
  refine wpAny_bind (wpAny_attempt (wpAny_callSpecial?_slot (name := Str.ofString "__next__") tz F.slot_zip_next (wpAny_call_entry F.slot_zip_next tz F.entry_zip_next ?_ (F.args_zip_next_1 _))))
  exact sz_item D hz t1 t2 j1 j2 p1 p2 hx hy fun h' a1 a2 a3 a4 a5 a6 a7 => wpAny_pure (hQ h' a1 a2 a3 a4 a5 a6 a7)
theorem sz_nextE {z TI TO i1 i2 l1 l2 : Addr} {n m : Nat} {xs ys : Array Value} {a b : Value} {Q : Option Value → Shared → Prop} (hh : A.handled = none) (D : ZipApart z TI TO i1 i2 l1 l2)
    (hz : SZip s.heap z TI TO .none) (t1 : IsPair s.heap TI (.ref i1) (.ref i2)) (t2 : IsPair s.heap TO a b)
    (j1 : s.heap.IsListIter i1 l1 n) (j2 : s.heap.IsListIter i2 l2 m) (p1 : s.heap.IsList l1 xs) (p2 : s.heap.IsList l2 ys) (hx : xs[n]? = none) (hy : ys[m]? = none)
    (hQ : ∀ h', (∀ c o, c ≠ z → c ≠ TO → c ≠ i1 → c ≠ i2 → s.heap.get? c = some o → h'.get? c = some o) → Q none { s with heap := h' }) : wpAny (model prog w) A (pyNext (.ref z)) Q E s := by
  have tz : s.TypeIs (.ref z) "zip" := ⟨_, hz, rfl⟩
  unfold pyNext
  refine wpAny_bind (wpAny_attempt (wpAny_callSpecial?_slot (name := Str.ofString "__next__") tz F.slot_zip_next (wpAny_call_entry F.slot_zip_next tz F.entry_zip_next (sz_end hh D hz t1 t2 j1 j2 p1 p2 hx hy fun h' e hk he => ?_) (F.args_zip_next_1 _))))
  obtain ⟨o, ho, hc⟩ := he
  exact wpAny_bind (wpAny_isInstance (T := "StopIteration") (b := true) ⟨o, ho, hc⟩ isSubtype_stop (wpAny_pure (hQ _ hk)))
theorem sz_go {elts : List Expr} {kk : Nat} {pos : Pos} {z TI TO T : Addr} {Q : Unit → Shared → Prop} (hz : SZip s.heap z TI TO (rawInt T))
    (hQ : ∀ h', SZip h' z TI TO .none → Heap.SameBut z s.heap h' → Q () { s with heap := h' }) : wpAny (model prog w) A (letOwnedTupleGo (.Tuple elts kk pos) (.ref z) (.ref T)) Q E s := by
  unfold letOwnedTupleGo
  refine wpAny_bind (wpAny_load hz ?_)
  show wpAny _ _ (ite (_ = true) _ _) Q E s
  rw [if_pos (by simp)]
  refine wpAny_bind (wpAny_rule ?_)
  exact wpAny_setField_rec hz (by simp) fun h' hz' hs' => hQ h' hz' hs'
theorem sz_iter {z TI TO : Addr} {f0 : Value} {Q : Value → Shared → Prop} (hz : SZip s.heap z TI TO f0) (h : Q (.ref z) s) : wpAny (model prog w) A (pyIter (.ref z)) Q E s := by
  have tz : s.TypeIs (.ref z) "zip" := ⟨_, hz, rfl⟩
  refine wpAny_pyIter_slot tz F.slot_zip_iter (wpAny_call_entry F.slot_zip_iter tz F.entry_zip_iter ?_ (F.args_zip_iter_1 _))
  show wpAny _ _ (ret (Value.ref z)) _ _ s
  exact wpAny_pure ⟨_, rfl, "zip", _, tz, F.slot_zip_next.lookup, h⟩
end
end Y
namespace Y
open PySem PySem.Spec PyProof.Rows L2
/-! ### a loop over zip(.., strict=True) -/
/-- the lists at a and b as they stand at each turn, both of one length -/
def ItS (K : PySem.W.Frag) (a b : Addr) : It where
  go := (Itz K a b).go
  yld := (Itz K a b).yld
  stop := fun i H => ∃ xs ys : List V, SqL K H a xs ∧ SqL K H b ys ∧ xs.length ≤ i ∧ ys.length ≤ i
theorem turn_szip {P : Program} {w : World} {K : PySem.W.Frag} {elts : List Expr} {kk : Nat} {tpos : Pos} {a b z TI TO i1 i2 : Addr} (D : ZipApart z TI TO i1 i2 a b) :
    Turn P w K (.Tuple elts kk tpos) (ItS K a b) [z, TI, TO, i1, i2] z (fun i h => SZip h z TI TO .none ∧ IsPair h TI (.ref i1) (.ref i2) ∧ (∃ x y, IsPair h TO x y) ∧ h.IsListIter i1 a i ∧ h.IsListIter i2 b i) where
  mem := List.mem_cons_self
  obj := fun i h st c hc => by
    obtain ⟨q1, q2, ⟨x, y, q3⟩, ⟨o1, e1, _, d1⟩, ⟨o2, e2, _, d2⟩⟩ := st
    simp only [List.mem_cons, List.not_mem_nil, or_false] at hc
    rcases hc with rfl | rfl | rfl | rfl | rfl
    · exact ⟨_, q1, fun v q => nomatch q⟩
    · exact ⟨_, q2, fun v q => nomatch q⟩
    · exact ⟨_, q3, fun v q => nomatch q⟩
    · exact ⟨o1, e1, fun v q => by rw [d1] at q; cases q⟩
    · exact ⟨o2, e2, fun v q => by rw [d2] at q; cases q⟩
  keep := fun i h h' st k => by
    obtain ⟨q1, q2, ⟨x, y, q3⟩, j1, j2⟩ := st
    exact ⟨k z (by simp) _ q1, k TI (by simp) _ q2, ⟨x, y, k TO (by simp) _ q3⟩, j1.at fun o q => k i1 (by simp) o q, j2.at fun o q => k i2 (by simp) o q⟩
  item := by
    intro X hP hw hK hc i pins s σ H E I hf st hg
    subst hP hw hK
    obtain ⟨q1, q2, ⟨x0, y0, q3⟩, j1, j2⟩ := st
    obtain ⟨xs, ys, x, y, gx, gy, hx, hy⟩ := hg
    obtain ⟨us, ru, pu, _⟩ := I.list gx
    obtain ⟨ts, rt, pt, _⟩ := I.list gy
    obtain ⟨u, hu, vu⟩ := ru.get hx
    obtain ⟨t, ht, vt⟩ := rt.get hy
    have zl : z < s.heap.objs.size := Heap.lt_size q1
    refine sz_nextI D q1 q2 q3 j1 j2 pu.isList pt.isList (x := u) (y := t) (by simpa using hu) (by simpa using ht) fun h' z' p' w1 w2 tt _ kp => ?_
    refine ⟨_, rfl, sz_go (s := { s with heap := h' }) z' fun h2 z2 sb => ?_⟩
    have t2 : h2.get? s.heap.objs.size = some { cls := .type "tuple", data := .seq #[u, t] } := (sb.2 _ (Nat.ne_of_gt zl)).trans tt
    have nw : ObjOk X.prog X.w (upd H s.heap.objs.size (.tup [x, y])) h2 s.heap.objs.size (.tup [x, y]) := ⟨by show 2 ≤ sizeLine; decide, [u, t], .cons vu (.cons vt .nil), ⟨_, t2, rfl, _, rfl⟩⟩
    have out : ∀ c o, c ∉ [z, TI, TO, i1, i2] → s.heap.get? c = some o → h2.get? c = some o := fun c o hb q => by
      simp only [List.mem_cons, List.not_mem_nil, or_false, not_or] at hb
      exact (sb.2 c hb.1).trans (kp c o hb.1 hb.2.2.1 hb.2.2.2.1 hb.2.2.2.2 q)
    have I1 := I.turnedNew (t' := s.toks) (ch := [z, TI, TO, i1, i2]) out hf (Nat.le_refl _) nw
    refine ⟨.ref s.heap.objs.size, _, I1, rfl, ⟨_, x, y, rfl, I.hok.fresh (Nat.le_refl _), rfl, fun l hl => (I.list_inj hl gx).symm ▸ hx, fun l hl => (I.list_inj hl gy).symm ▸ hy⟩,
      ⟨z2, (sb.2 _ D.TIz).trans (kp _ _ D.TIz D.TITO D.TIi1 D.TIi2 q2), ⟨u, t, (sb.2 _ D.TOz).trans p'⟩, w1.at fun o q => (sb.2 _ D.i1z).trans q, w2.at fun o q => (sb.2 _ D.i2z).trans q⟩, fun c hcm => ?_⟩
    have lt : c < s.heap.objs.size := by
      simp only [List.mem_cons, List.not_mem_nil, or_false] at hcm
      obtain ⟨_, f1, _⟩ := j1
      obtain ⟨_, f2, _⟩ := j2
      rcases hcm with rfl | rfl | rfl | rfl | rfl
      · exact zl
      · exact Heap.lt_size q2
      · exact Heap.lt_size q3
      · exact Heap.lt_size f1
      · exact Heap.lt_size f2
    rw [upd_ne (Nat.ne_of_lt lt)]
    exact (hf c hcm).1
  done := by
    intro X hP hw hK hc i pins s σ H E I hf st hg
    subst hP hw hK
    obtain ⟨q1, q2, ⟨x0, y0, q3⟩, j1, j2⟩ := st
    obtain ⟨xs, ys, gx, gy, e1, e2⟩ := hg
    obtain ⟨us, ru, pu, _⟩ := I.list gx
    obtain ⟨ts, rt, pt, _⟩ := I.list gy
    have n1 := ru.length
    have n2 := rt.length
    refine sz_nextE (I.ok.hd hc) D q1 q2 q3 j1 j2 pu.isList pt.isList (by simp; omega) (by simp; omega) fun h' kp => ⟨rfl, I.turnedL (t' := s.toks) (ch := [z, TI, TO, i1, i2]) (fun c o hb q => ?_) hf⟩
    simp only [List.mem_cons, List.not_mem_nil, or_false, not_or] at hb
    exact kp c o hb.1 hb.2.2.1 hb.2.2.2.1 hb.2.2.2.2 q
  self := fun A i s Q E st h => sz_iter st.1 h
def iZipS (K : PySem.W.Frag) (ta : TA) : TI := fun σ H R => ta σ H fun vs H1 => ∃ a b xs ys, vs = [.ref a, .ref b] ∧ SqL K H1 a xs ∧ SqL K H1 b ys ∧ R (ItS K a b) H1
set_option maxHeartbeats 1000000 in
theorem pi_zipS {X : Cx} {e e2 : Expr} {ta : TA} {p pos tpos kp kq : Pos} {elts : List Expr} {kk tk : Nat} (hg : Gl X "zip") (hm : X.mg "zip" = none) (ha : PA X [e, e2] ta)
    (hs : starEach [e, e2] X.env = (false, eval e X.env) :: starEach [e2] X.env := by rfl) (hpl : ((backTo pos (starEach [e, e2] X.env)).any (·.1) || (backToKw pos (keywordEach [⟨some "strict", .Constant (.bool true) kk kp, kq⟩] X.env)).any (·.1.isNone)) = false := by rfl) (hall : (backToKw pos (keywordEach [⟨some "strict", .Constant (.bool true) kk kp, kq⟩] X.env)).all (·.1.isSome) = true := by rfl) (hks : (backToKw pos (keywordEach [⟨some "strict", .Constant (.bool true) kk kp, kq⟩] X.env)).filterMap (·.1) = [Str.ofString "strict"] := by rfl) :
    PI X (.Tuple elts tk tpos) (.Call (.Name "zip" p) [e, e2] [⟨some "strict", .Constant (.bool true) kk kp, kq⟩] pos) (iZipS X.K ta) := by
  refine ⟨fun pins s σ H R I h => ?_⟩
  refine wpAny_Call_Name_kw (ld_blt I hg hm PyProof.Rows.boot_zip (PySem.W.callWith_of (P := fun _ => True) hpl (fun h _ => sz_keep h _) (PyProof.Rows.evalArgs_kw2 hall (thn (ha.run pos pins s σ H _ I h) fun us s1 ⟨vs, H1, I1, r1, q1⟩ => ?_) hs)))
  obtain ⟨a, b, xs, ys, ex, gx, gy, q⟩ := q1
  subst ex
  refine thn ((pk_cons (nm := some "strict") (kpos := kq) (pe_bl (b := true) (j := kk) (pos := kp)) pk_nil).run pos pins s1 σ H1 (fun zs H2 => zs = [V.bl true] ∧ H2 = H1) I1 ⟨rfl, rfl⟩) fun ws s2 ⟨zs, H2, I2, rz, ez, eH⟩ => ⟨trivial, ?_⟩
  subst ez
  subst eH
  obtain ⟨ua, ub, rfl⟩ : ∃ x y, us = [x, y] := by
    cases r1 with
    | cons ra rr =>
      cases rr with
      | cons rb rr =>
        cases rr
        exact ⟨_, _, rfl⟩
  obtain ⟨wa, rfl⟩ : ∃ x, ws = [x] := by
    cases rz with
    | cons ra rr =>
      cases rr
      exact ⟨_, rfl⟩
  obtain ⟨rfl, rfl⟩ : ua = .ref a ∧ ub = .ref b := by
    cases r1 with
    | cons ra rr =>
      cases rr with
      | cons rb rr => exact ⟨ra, rb⟩
  obtain rfl : wa = .bool true := by
    cases rz with
    | cons ra rr => exact ra
  obtain ⟨u1, _, p1, _⟩ := I2.list gx
  obtain ⟨u2, _, p2, _⟩ := I2.list gy
  have ap := PySem.W.ktu_apart s2.heap.objs.size a b p1.lt p2.lt
  rw [hks]
  show wpAny _ _ (call (.type "zip") [.ref a, .ref b] sKw) _ _ _
  refine sz_call p1.isList p2.isList fun h' hz t1 t2 j1 j2 _ hk => sz_iter hz ?_
  have I3 : Inv X pins σ H2 { s2 with heap := h' } := I2.kept (t' := s2.toks) hk
  refine ⟨s2.heap.objs.size + 4, [s2.heap.objs.size + 4, s2.heap.objs.size + 2, s2.heap.objs.size + 3, s2.heap.objs.size, s2.heap.objs.size + 1], _, _, H2, rfl, I3, turn_szip ap, ⟨hz, t1, ⟨_, _, t2⟩, j1, j2⟩, fun c hcm => ?_, q⟩
  have le : s2.heap.objs.size ≤ c := by
    simp only [List.mem_cons, List.not_mem_nil, or_false] at hcm
    rcases hcm with rfl | rfl | rfl | rfl | rfl <;> first | exact Nat.le_add_right _ _ | exact Nat.le_refl _
  exact I2.fpOk le (I2.hok.fresh le)
theorem walks_zipS {G : GC} {a b : Addr} {vs ws : List V} {ds es : List D} {S : Hp} (h : S a = some (.lst vs)) (r : Reps G S vs ds) (h2 : S b = some (.lst ws)) (r2 : Reps G S ws es) (hl : ds.length = es.length) : Walks G (ItS G.K a b) (zipD ds es) S := by
  have W := walks_zip h r h2 r2
  obtain ⟨w1, w2, w3⟩ := W
  refine ⟨w1, fun S' H s1 s2 => ?_, w3⟩
  have e : (zipD ds es).length = ds.length := by
    rw [zipD_length]
    omega
  rw [e]
  exact ⟨vs, ws, .inl (.inl (s2 _ _ (s1 _ _ h))), .inl (.inl (s2 _ _ (s1 _ _ h2))), by rw [r.length]; exact Nat.le_refl _, by rw [r2.length, ← hl]; exact Nat.le_refl _⟩
def iZS (dl : DL) : DL := fun x ρ k => dl x ρ fun ds ρ1 => match ds with
  | [.lst a, .lst b] => a.length = b.length ∧ k (zipD a b) ρ1
  | _ => False
section
variable {X : Cx} {B : Bd} {e e2 : Expr} {dl : DL} {p pos tpos kp kq : Pos} {elts : List Expr} {kk tk : Nat}
theorem i_zipS (hK : X.K = B.G.K) (hm : X.mg "zip" = none) (ha : PA X [e, e2] (tA B dl)) (hg : Gl X "zip" := by rfl) (hs : starEach [e, e2] X.env = (false, eval e X.env) :: starEach [e2] X.env := by rfl)
    (hpl : ((backTo pos (starEach [e, e2] X.env)).any (·.1) || (backToKw pos (keywordEach [⟨some "strict", .Constant (.bool true) kk kp, kq⟩] X.env)).any (·.1.isNone)) = false := by rfl) (hall : (backToKw pos (keywordEach [⟨some "strict", .Constant (.bool true) kk kp, kq⟩] X.env)).all (·.1.isSome) = true := by rfl) (hks : (backToKw pos (keywordEach [⟨some "strict", .Constant (.bool true) kk kp, kq⟩] X.env)).filterMap (·.1) = [Str.ofString "strict"] := by rfl) :
    PI X (.Tuple elts tk tpos) (.Call (.Name "zip" p) [e, e2] [⟨some "strict", .Constant (.bool true) kk kp, kq⟩] pos) (tI B (iZS dl)) := PI.imp (pi_zipS hg hm ha hs hpl hall hks) fun σ H R ⟨c, ρ, S, k, w, A, h, q⟩ =>
  ⟨c, ρ, S, _, w, A, h, fun vs ds ρ1 S1 H1 ⟨F1, A1⟩ s1 r1 h1 => by
    match ds, r1, h1 with
    | [.lst as, .lst bs], .cons (.lst e1 q1) (.cons (.lst e2 q2) .nil), ⟨hl, hk⟩ =>
      rw [hK]
      exact ⟨_, _, _, _, rfl, .inl (.inl (A1.fr.sh _ _ e1)), .inl (.inl (A1.fr.sh _ _ e2)), q _ _ ρ1 S1 H1 ⟨F1, A1⟩ s1 (walks_zipS e1 q1 e2 q2 hl) hk⟩⟩
end
/-- divmod -/
def rDivmod : List V → Hp → VK → Prop := fun xs H Q => ∃ i j, xs = [.int i, .int j] ∧ CDiv i j ∧ ∀ p, H p = none → Q (.ref p) (upd H p (.tup [.int (i / j), .int (i % j)]))
def fDivmod : DF := fun ds k => match ds with
  | [.int i, .int j] => (0 < j ∧ j < 1073741824) ∧ k (.tup [.int (i / j), .int (i % j)])
  | _ => False
theorem ok_divmod {G : GC} : OkC G rDivmod fDivmod := fun c σ ρ S H F vs ds k Q A r hf q => by
  unfold fDivmod at hf
  split at hf
  · obtain ⟨hj, hk⟩ := hf
    cases r with
    | cons r1 rr =>
      cases rr with
      | cons r2 rr =>
        cases rr
        cases r1
        cases r2
        exact ⟨_, _, rfl, hj, fin_t A q (.cons (.int _) (.cons (.int _) .nil)) hk⟩
  · exact hf.elim
theorem fDivmod_ii {i j : Int} {k : D → Prop} : fDivmod [.int i, .int j] k = ((0 < j ∧ j < 1073741824) ∧ k (.tup [.int (i / j), .int (i % j)])) := rfl
end Y
namespace Y
open PySem PySem.Spec PyProof.Rows L2
/-! ### an item of an own list, that stays own -/
def dIxO (i : Nat) (db : DE) : DE := fun x ρ k => match ρ[i]? with
  | some (.own _) => db x ρ fun d ρ1 => match d, ρ1[i]? with
    | .int n, some (.own l) => ∃ z, L2.atI l n = some z ∧ k z ρ1
    | _, _ => False
  | _ => dOp fIx (dVar i) db x ρ k
section
variable {X : Cx} {B : Bd} {b : Expr} {db : DE} {pos : Pos}
theorem e_ixO (i : Nat) {y : Str} {py : Pos} (hK : X.K = B.G.K) (hb : PE X b (tD B db)) (hs : PlainIx b := by exact fun _ _ => rfl) (hN : X.N[i]? = some y := by rfl) (hv : Vis X.env.scope y := by first | exact Or.inl rfl | exact Or.inr (Or.inl rfl) | exact Or.inr (Or.inr rfl)) (hd : (y == ("__debug__" : Str)) = false := by decide) (hcd : (y == ("__classdict__" : Str)) = false := by decide) :
    PE X (.Subscript (.Name y py) b pos) (tD B (dIxO i db)) :=
  PE.imp (pe_ix ix_a (pe_var hN hv hd hcd) hb hs) fun σ H Q ⟨c, ρ, S, k, w, ⟨F, A⟩, h, q⟩ => by
    unfold dIxO at h
    split at h
    · rename_i l0 e0
      obtain ⟨p, vs, ep, ef, ow, eH, rr⟩ := A.own_get e0
      refine ⟨.ref p, ep, c, ρ, S, _, w, ⟨F, A⟩, h, fun v d ρ1 S1 H1 ⟨F1, A1⟩ s1 r1 h1 => ?_⟩
      split at h1
      · rename_i n l e1
        obtain ⟨p1, vs1, ep1, ef1, ow1, eH1, rr1⟩ := A1.own_get e1
        rw [ep] at ep1
        cases ep1
        cases r1
        obtain ⟨z, hz, hk⟩ := h1
        obtain ⟨v, hv, rv⟩ := rr1.atI hz
        exact .inl ⟨_, _, _, _, rfl, rfl, .inl (.inl eH1), hv, q v z ρ1 S1 H1 ⟨F1, A1⟩ s1 rv hk⟩
      · exact h1.elim
    · unfold dOp dVar at h
      split at h
      · rename_i d0 e0
        obtain ⟨v0, ev, r0⟩ := A.d_get e0
        refine ⟨v0, ev, c, ρ, S, _, w, ⟨F, A⟩, h, fun v d ρ1 S1 H1 ⟨F1, A1⟩ s1 r1 h1 => ?_⟩
        rw [hK]
        exact ok_ix c σ ρ1 S1 H1 F1 v0 v _ _ _ Q A1 (r0.mono s1) r1 h1 fun u z S2 H2 A2 s2 ru hz => q u z ρ1 S2 H2 ⟨F1, A2⟩ (s1.trans s2) ru hz
      · exact h.elim
end
end Y
namespace Y
open PySem PySem.Spec PyProof.Rows L2
/-! ### set(list of ints), sorted(set(..)) -/
abbrev noSet (w : World) : Obj := { cls := .type "set", dict := none, data := .set #[] 0 (.fresh 0 0 (!w.params.followText "set-order")) }
section
variable {P : Program} {w : World} {A : Around} {E : Value → Shared → Prop} {s : Shared}
set_option maxHeartbeats 4000000 in
theorem set_of_list {l : Addr} {us : Array Value} (zs : List Int) {Q : Value → Shared → Prop} (nh : A.handled = none) (isl : s.heap.IsList l us) (iz : IntsAre us.toList zs) (few : zs.length + 1 < scanBound)
    (kk : ∀ (g : Heap) (j n : Nat), SetR w g s.heap.objs.size (fun z => decide (z ∈ zs)) n → n ≤ zs.length → (∀ b o, s.heap.get? b = some o → g.get? b = some o) → Q (.ref s.heap.objs.size) { s with heap := g, toks := j }) :
    wpAny (model P w) A (call (.type "set") [.ref l]) Q E s := by
  have hlen : us.size = zs.length := by
    have := IntsAre.length iz
    rwa [Array.length_toList] at this
  obtain ⟨c, tl, m1⟩ := F.called_set.mro
  have m2 := F.called_set.made; have m3 := F.called_set.sub
  refine wpAny_call <| codeAny_of_tree ?_
  show wpAny _ _ (callAny (.type "set") _) _ _ s
  refine wpAny_pure ⟨Code.quiet_builtin _ (by decide +kernel), codeAny_builtin F.entry_type_call (?_ : wpAny _ _ _ _ _ _)⟩
  rw [Around.under_plain (weight_type_call_type "set" [Value.ref l] []) rfl]
  have m4 := F.called_set.notType; have m5 := F.called_set.canCreate; have m6 := F.typeCall_set_1 (.ref l)
  repeat (any_goals (first | wp_step | assumption))
  refine codeAny_mono (code_set_led1 (.ref l) (E := E) (Q₁ := fun v t => v = .ref s.heap.objs.size ∧ t = { s with heap := s.heap.push (noSet w) }) ⟨rfl, rfl⟩) ?_
  rintro (e | fl) t ht
  · exact ht
  · cases fl <;> first | exact ht.elim | skip
    obtain ⟨rfl, rfl⟩ := ht
    have n0 : (s.heap.push (noSet w)).get? s.heap.objs.size = some (noSet w) := Heap.get?_push_size _ rfl
    have n1 : Shared.TypeIs { s with heap := s.heap.push (noSet w) } (.ref s.heap.objs.size) "set" := ⟨_, n0, rfl⟩
    have n2 := F.called_set.init.lookup; have n3 := F.called_set.init.bind (.ref s.heap.objs.size)
    repeat (any_goals (first | wp_step | assumption))
    refine codeAny_mono (codeAny_call_builtin (R := wants (fun r t => r = .none ∧ ∃ g j n, t = { s with heap := g, toks := j } ∧ SetR w g s.heap.objs.size (fun z => decide (z ∈ zs)) n ∧ n ≤ zs.length ∧
        ∀ b o, s.heap.get? b = some o → g.get? b = some o) E) F.called_set.init.plain F.entry_set_init (check_set_init_1 n1 ?_)) ?_
    · obtain ⟨⟨oc, od, oda, os⟩, q1, q2, nl, q3⟩ := isl
      simp only at q2 q3
      subst q2; subst q3
      have q4 : (s.heap.push (noSet w)).get? l = some { cls := .type "list", dict := od, data := .seq us nl, slots := os } := Heap.get?_push_of_some _ q1
      have q5 := F.sub_list_set; have q6 := F.sub_list_frozenset
      have q7 : (Value.type "list" == Value.type "dict") = false := by decide
      have q8 : (s.heap.push (noSet w)).IsList l us := ⟨_, q4, rfl, nl, rfl⟩
      unfold Builtin.«set.__init__» noKeywords Builtin.Frozenset.updateFrom
      generalize hit : pyIter = it
      wp_walk
      subst hit
      refine wpAny_pyIter_list q8 (wpAny_bind (wpAny_runValue ?_))
      have r1 : l < s.heap.objs.size := Heap.lt_size q1
      have r2 : A.in1.in1.in1.handled = none := by simp [nh]
      have r3 : (s.heap.push (noSet w)).objs.size = s.heap.objs.size + 1 := Heap.size_push ..
      have r4 : l ≠ (s.heap.push (noSet w)).objs.size := r3 ▸ Nat.ne_of_lt (Nat.lt_succ_of_lt r1)
      have r5 : s.heap.objs.size ∉ [(s.heap.push (noSet w)).objs.size, l] := fun z => by
        rcases List.mem_cons.mp z with e | z
        · exact absurd (e.trans r3) (Nat.ne_of_lt (Nat.lt_succ_self _))
        · exact absurd (List.mem_singleton.mp z).symm (Nat.ne_of_lt r1)
      have r6 : ∀ (i : Nat) (v : Value), us[i]? = some v → ∃ z t, zs[i]? = some z ∧ v = .int z t := fun i v hv => by
        have hi : i < zs.length := by rw [← hlen]; exact (Array.getElem?_eq_some_iff.mp hv).1
        obtain ⟨t, e⟩ := iz.get i _ (List.getElem?_eq_getElem hi)
        rw [Array.getElem?_toList, hv] at e
        exact ⟨_, t, List.getElem?_eq_getElem hi, Option.some.inj e⟩
      refine set_update_ints ((Walks.list r2 _ l r4 us).toS) s.heap.objs.size r5 zs hlen few r6 us.size 0 _ rfl (Nat.zero_le _) ⟨⟨_, Heap.get?_push_size _ rfl, rfl, rfl⟩, q8.push _⟩ ⟨0, Nat.le_refl 0, setR_new_at (Heap.get?_push_of_some _ n0)⟩ ?_
      intro t n hm hn hS
      obtain ⟨g, g2, d2, j, os2⟩ := t
      have e1 := hm.gens; have e2 := hm.drawn; have e3 := hm.os
      simp only at e1 e2 e3
      subst e1; subst e2; subst e3
      show wpAny _ _ _ _ _ _
      refine wpAny_pure (show wpAny _ _ (ret Value.none) _ _ _ from wpAny_pure ⟨rfl, g, j, n, rfl, hS, by omega, fun b o e => ?_⟩)
      have z0 := Heap.lt_size e
      exact hm.heap b o (fun z => by
        rcases List.mem_cons.mp z with e | z
        · exact absurd e (Nat.ne_of_lt z0)
        · exact absurd ((List.mem_singleton.mp z).trans r3) (Nat.ne_of_lt (Nat.lt_succ_of_lt z0))) (Heap.get?_push_of_some _ (Heap.get?_push_of_some _ e))
    · rintro (e | fl) t ht
      · exact ht
      · cases fl <;> first | exact ht.elim | skip
        obtain ⟨rfl, g, j, n, rfl, z1, z2, z3⟩ := ht
        repeat (any_goals (first | wp_step | assumption))
        exact kk g j n z1 z2 z3
end
/-- sorted(set(xs)) of ints -/
def tSortSet (K : PySem.W.Frag) (ta : TE) : TE := fun σ H Q => ta σ H fun x H1 => ∃ (l : Addr) (ns : List Int), x = .ref l ∧ SqL K H1 l (ns.map V.int) ∧ ns.length < 64 ∧ ∀ (out : List Int) (p : Addr), out.Pairwise (· < ·) → (∀ z, z ∈ out ↔ z ∈ ns) → H1 p = none → Q (.ref p) (upd H1 p (.lst (out.map V.int)))
section
variable {X : Cx} {B : Bd} {a b : Expr} {da db : DE} {ta : TE} {p p2 q pos kpos : Pos}
theorem pe_sortSet (hc : X.calm = true) (hg : Gl X "sorted") (hm : X.mg "sorted" = none) (hg2 : Gl X "set") (hm2 : X.mg "set" = none) (ha : PE X a ta)
    (na : starEach [a] X.env = (false, eval a X.env) :: starEach [] X.env := by rfl) : PE X (.Call (.Name "sorted" p) [.Call (.Name "set" p2) [a] [] q] [] pos) (tSortSet X.K ta) := by
  refine ⟨fun pins s σ H Q I h => Call_ (ld_blt I hg hm boot_sorted (PyProof.Rows.callWith_builtin1 (PyProof.Rows.args_cons (Call_ (ld_blt I hg2 hm2 PyProof.Rows.boot_set
    (PyProof.Rows.callWith_type1 (PyProof.Rows.args_cons (thn (ha.run pins s σ H _ I h) fun v s1 ⟨x, H1, I1, r1, q1⟩ => PyProof.Rows.args_nil ?_) na) na rfl))) rfl) rfl rfl))⟩
  obtain ⟨l, ns, rfl, hq, hl, q1⟩ := q1
  cases r1
  obtain ⟨its, rv, pl, hz⟩ := I1.list hq
  have hd := I1.ok.hd hc
  refine set_of_list ns hd pl.isList (by simpa using rv.ints) (by unfold scanBound; omega) fun g j n hS hn hk => PyProof.Rows.args_nil ?_
  have I2 : Inv X pins σ H1 { s1 with heap := g, toks := j } := I1.kept hk
  refine sorted_set (s := { s1 with heap := g, toks := j }) hS hd (by omega) fun t p out c zs k1 k2 k3 hp hg hi hs hm hl2 => ?_
  have e1 : (zs.map V.int).length ≤ sizeLine := by rw [List.length_map, hl2, sizeLine_eq]; omega
  have e2 := I2.hok.fresh hp
  obtain ⟨th, tg, td, tt, tos⟩ := t
  simp only at k2 k3
  subst k2; subst k3
  exact ⟨.ref p, upd H1 p (.lst (zs.map V.int)), Inv.call (s := { s1 with heap := g, toks := j }) (ch := []) I2 (Un.laid k1 hp e2) (I2.hok.laid k1 hp ⟨e1, out.toList, c, vals_of_ints hi, hg⟩) I2.bare (fun _ z => nomatch z), rfl, q1 zs p hs (fun z => by rw [hm z, decide_eq_true_eq]) e2⟩
def oSortSet (da : DE) : DL := fun x ρ k => da x ρ fun d ρ1 => ∃ ns : List Int, d = .lst (ns.map .int) ∧ ns.length < 64 ∧ ∀ out : List Int, out.Pairwise (· < ·) → (∀ z, z ∈ out ↔ z ∈ ns) → k (out.map .int) ρ1
theorem eo_sortSet (hK : X.K = B.G.K) (hc : X.calm = true) (hm : X.mg "sorted" = none) (hm2 : X.mg "set" = none) (ha : PE X a (tD B da)) (hg : Gl X "sorted" := by rfl) (hg2 : Gl X "set" := by rfl)
    (na : starEach [a] X.env = (false, eval a X.env) :: starEach [] X.env := by rfl) : PE X (.Call (.Name "sorted" p) [.Call (.Name "set" p2) [a] [] q] [] pos) (tO B (oSortSet da)) :=
  PE.imp (pe_sortSet hc hg hm hg2 hm2 ha na) fun σ H Q ⟨c, ρ, S, k, w, A, h, hq⟩ => tD_use w A h fun v d ρ1 S1 H1 ⟨F1, A1⟩ s1 r1 ⟨ns, e, h1, hk⟩ => by
    subst e
    cases r1 with
    | lst e r =>
      have e2 := r.ints
      subst e2
      refine ⟨_, ns, rfl, by rw [hK]; exact .inl (.inl (A1.fr.sh _ _ e)), h1, fun out p o1 o2 hp => ?_⟩
      obtain ⟨z1, z2, z3⟩ := A1.fresh hp
      exact hq p _ (out.map .int) ρ1 S1 _ F1 (A1.newO hp) s1 z3 z1 z2 upd_same (Reps.of_ints out) (hk out o1 o2)
/-- max(xs, default=j) of ints -/
def maxOr : List Int → Int → Int
  | [], j => j
  | a :: r, _ => r.foldl max a
def rMaxDef (K : PySem.W.Frag) : List V → List V → Hp → VK → Prop := fun vs zs H Q => ∃ (a : Addr) (ns : List Int) (j : Int), vs = [V.ref a] ∧ zs = [V.int j] ∧ SqL K H a (ns.map V.int) ∧ Q (.int (maxOr ns j)) H
theorem depth_ints : ∀ ns : List Int, PyData.depthAll (ns.map PyData.int) = 0
  | [] => rfl
  | n :: ns => by
    show max (PyData.depth (.int n)) (PyData.depthAll (ns.map PyData.int)) = 0
    rw [depth_ints ns]
    rfl
theorem cr_maxDef (hc : X.calm = true) (hu : X.A.units + 1 < cLine) : CallRK X (.builtin "max") [Str.ofString "default"] (rMaxDef X.K) := by
  intro pins s σ H vs zs us ws Q I r rz h
  obtain ⟨a, ns, j, rfl, rfl, hs, hq⟩ := h
  obtain rfl := Vals.ref1 r
  obtain ⟨w1, rfl, t, rfl⟩ := vals1 rz
  obtain ⟨its, rv, hl, _⟩ := I.list hs
  have hi := rv.ints
  refine PySem.W.max_list_default (xs := ns.map PyData.int) (as := []) (I.ok.hd hc) hl.isList (by simpa using ints_readAll s.heap hi) ⟨fun x hx y hy => ?_, fun x hx => ?_⟩ (by rw [depth_ints]; exact hu) (fun e h' tk k => ?_) fun y ys i v h' tk bs e hv hr k => ?_
  · obtain ⟨m, _, rfl⟩ := List.mem_map.mp hx
    obtain ⟨n, _, rfl⟩ := List.mem_map.mp hy
    rfl
  · obtain ⟨m, _, rfl⟩ := List.mem_map.mp hx
    exact fun z => nomatch z
  · have e : ns = [] := List.map_eq_nil_iff.mp e
    subst e
    exact ⟨.int j, H, I.kept k, ⟨t, rfl⟩, hq⟩
  · match ns, e with
    | n :: ns, e =>
      injection e with e1 e2
      subst e1; subst e2
      rw [PySem.W.maxD_ints] at hr
      cases hr with
      | int i t' => exact ⟨.int _, H, I.kept k, ⟨t', rfl⟩, hq⟩
def dMaxDef (da db : DE) : DE := fun x ρ k => lCons da lNil x ρ fun ds ρ1 => db x ρ1 fun e ρ2 => ∃ (ns : List Int) (j : Int), ds = [.lst (ns.map .int)] ∧ e = .int j ∧ k (.int (maxOr ns j)) ρ2
theorem e_maxDef (hK : X.K = B.G.K) (hc : X.calm = true) (hu : X.A.units + 64 < cLine) (hm : X.mg "max" = none) (ha : PE X a (tD B da)) (hb : PE X b (tD B db)) (hg : Gl X "max" := by rfl) (hv : bootBuiltins "max" = some (.builtin "max") := by decide +kernel)
    (na : starEach [a] X.env = (false, eval a X.env) :: starEach [] X.env := by rfl) (he : backTo pos (starEach [a] X.env) = (false, eval a X.env) :: backTo pos (starEach [] X.env) := by rfl) (hpl : (backTo pos (starEach [a] X.env)).any (·.1) = false := by rfl)
    (hall : (backToKw pos (keywordEach [⟨some "default", b, kpos⟩] X.env)).all (·.1.isSome) = true := by rfl) (hnone : (backToKw pos (keywordEach [⟨some "default", b, kpos⟩] X.env)).any (·.1.isNone) = false := by rfl) (hks : (backToKw pos (keywordEach [⟨some "default", b, kpos⟩] X.env)).filterMap (·.1) = [Str.ofString "default"] := by rfl) :
    PE X (.Call (.Name "max" p) [a] [⟨some "default", b, kpos⟩] pos) (tD B (dMaxDef da db)) :=
  PE.imp (pe_callBK (cr_maxDef hc (by omega)) hg hm hv (l_cons ha l_nil na) (pk_cons hb pk_nil) (by decide) (by decide) he hpl hall hnone hks) fun σ H Q ⟨c, ρ, S, k, w, A, h, hq⟩ => ⟨c, ρ, S, _, w, A, h, fun vs ds ρ1 S1 H1 A1 s1 r1 h1 => ⟨c, ρ1, S1, _, w, A1, h1, fun v e ρ2 S2 H2 ⟨F2, A2⟩ s2 r2 ⟨ns, j, h3, h4, h5⟩ => by
    subst h3; subst h4
    cases r1 with
    | cons r rr =>
      cases rr
      cases r2
      cases r with
      | lst e r =>
        have e2 := r.ints
        subst e2
        exact ⟨_, ns, j, rfl, rfl, by rw [hK]; exact .inl (.inl (A2.fr.sh _ _ (s2 _ _ e))), hq _ _ ρ2 S2 H2 ⟨F2, A2⟩ (s1.trans s2) (.int _) h5⟩⟩⟩
end
end Y
namespace Y
open PySem PySem.Spec PyProof.Rows L2
/-! ### x in range(..), tuple(..), {} -/
section
variable {X : Cx} {B : Bd} {a b e : Expr} {es : List Expr} {da db : DE} {dl : DL} {p p2 q pos : Pos}
theorem cr_range1 : CallR X (.type "range") (fun vs H Q => ∃ j, vs = [V.int j] ∧ ∀ p, H p = none → Q (.ref p) (upd H p (.rng 0 j))) := by
  intro pins s σ H vs us Q I r h
  obtain ⟨j, rfl, k⟩ := h
  obtain ⟨u, rfl, t, rfl⟩ := vals1 r
  refine call_range_1 ⟨.ref s.heap.objs.size, upd H s.heap.objs.size (.rng 0 j), I.laid (t' := s.toks + 1 + 1) (fun b o z => Heap.get?_push_of_some _ z) (Nat.le_refl _) ⟨s.toks, t, s.toks + 1, Heap.get?_push_size _ rfl⟩, rfl, k _ (I.hok.fresh (Nat.le_refl _))⟩
abbrev rInRng (neg : Bool) : R2 := fun x y H Q => ∃ i a lo hi, x = V.int i ∧ y = V.ref a ∧ H a = some (.rng lo hi) ∧ Q (.bl (neg != decide (lo ≤ i ∧ i < hi))) H
theorem inRng_0 : OpR X (compareOp .In) (rInRng false) := by
  intro pins s σ H x y v u Q I rx ry h
  obtain ⟨i, a, lo, hi, rfl, rfl, ha, k⟩ := h
  refine op_in_rng pins s σ H _ _ v u Q I rx ry ⟨i, a, lo, hi, rfl, rfl, ha, ?_⟩
  simpa using k
theorem inRng_1 : OpR X (compareOp .NotIn) (rInRng true) := by
  intro pins s σ H x y v u Q I rx ry h
  obtain ⟨i, a, lo, hi, rfl, rfl, ha, k⟩ := h
  obtain ⟨t, rfl⟩ := rx
  obtain rfl : u = Value.ref a := ry
  obtain ⟨t1, t2, t3, ho⟩ := I.hok a _ ha
  refine (wpAny_bind (m := contains (Value.ref a) (Value.int i t)) (wpAny_contains_slot (T := "range") ⟨_, ho, rfl⟩ F.slot_range_contains (call_meets F.slot_range_contains ⟨_, ho, rfl⟩ F.entry_range_contains (F.args_range_contains_2 _ _) (q_contains a lo hi i t1 t2 t3 t)
    ⟨ho, wpAny_truthy_bool (wpAny_pure ⟨.bl _, H, I, rfl, ?_⟩)⟩)))
  rw [place1]
  simpa using k
/-- i in range(..): the range is laid, and left -/
def dInR (neg : Bool) (da : DE) (dl : DL) : DE := fun x ρ k => da x ρ fun d ρ1 => dl x ρ1 fun ds ρ2 => ∃ i : Int, d = .int i ∧ ((∃ j : Int, ds = [.int j] ∧ k (.bl (neg != decide (0 ≤ i ∧ i < j))) ρ2) ∨ (∃ lo hi : Int, ds = [.int lo, .int hi] ∧ k (.bl (neg != decide (lo ≤ i ∧ i < hi))) ρ2))
abbrev rRngA : List V → Hp → VK → Prop := fun vs H Q => (∃ j, vs = [V.int j] ∧ ∀ p, H p = none → Q (.ref p) (upd H p (.rng 0 j))) ∨ ∃ i j, vs = [V.int i, V.int j] ∧ ∀ p, H p = none → Q (.ref p) (upd H p (.rng i j))
theorem cr_rngA : CallR X (.type "range") rRngA := by
  intro pins s σ H vs us Q I r h
  rcases h with h | h
  · exact cr_range1 pins s σ H vs us Q I r h
  · exact cr_range2 pins s σ H vs us Q I r h
theorem imp_inR {neg : Bool} : ∀ σ H Q, tD B (dInR neg da dl) σ H Q → tOp (rInRng neg) (tD B da) (tCB rRngA (tA B dl)) σ H Q := fun σ H Q ⟨c, ρ, S, k, w, A, h, hq⟩ =>
  ⟨c, ρ, S, _, w, A, h, fun v d ρ1 S1 H1 A1 s1 r1 h1 => ⟨c, ρ1, S1, _, w, A1, h1, fun vs ds ρ2 S2 H2 ⟨F2, A2⟩ s2 r2 h2 => by
    obtain ⟨i, rfl, h2⟩ := h2
    cases r1
    rcases h2 with ⟨j, rfl, hk⟩ | ⟨lo, hi, rfl, hk⟩
    · match r2 with
      | .cons (.int _) .nil =>
        refine .inl ⟨j, rfl, fun p hp => ?_⟩
        exact ⟨i, p, 0, j, rfl, rfl, upd_same, hq _ _ ρ2 S2 _ ⟨F2, A2.newO hp⟩ (s1.trans s2) (.bl _) hk⟩
    · match r2 with
      | .cons (.int _) (.cons (.int _) .nil) =>
        refine .inr ⟨lo, hi, rfl, fun p hp => ?_⟩
        exact ⟨i, p, lo, hi, rfl, rfl, upd_same, hq _ _ ρ2 S2 _ ⟨F2, A2.newO hp⟩ (s1.trans s2) (.bl _) hk⟩⟩⟩
theorem e_inR {op : CmpOp} {neg : Bool} (ho : OpR X (compareOp op) (rInRng neg)) (hm : X.mg "range" = none) (ha : PE X a (tD B da)) (hl : PA X (e :: es) (tA B dl)) (hg : Gl X "range" := by rfl)
    (he : starEach (e :: es) X.env = (false, eval e X.env) :: starEach es X.env := by rfl) (hpl : (backTo q (starEach es X.env)).any (·.1) = false := by rfl) (hmk : behindInMarks op (.Call (.Name "range" p2) (e :: es) [] q) = false := by rfl) :
    PE X (.Compare a [op] [.Call (.Name "range" p2) (e :: es) [] q] pos) (tD B (dInR neg da dl)) :=
  PE.imp (pe_cmpR ho ha (pe_callTy cr_rngA hg hm PyProof.Rows.boot_range hl (by decide) (by decide) he hpl) hmk) imp_inR
theorem t_inR {op : CmpOp} {neg : Bool} (ho : OpR X (compareOp op) (rInRng neg)) (hm : X.mg "range" = none) (ha : PE X a (tD B da)) (hl : PA X (e :: es) (tA B dl)) (hg : Gl X "range" := by rfl)
    (he : starEach (e :: es) X.env = (false, eval e X.env) :: starEach es X.env := by rfl) (hpl : (backTo q (starEach es X.env)).any (·.1) = false := by rfl) (hmk : behindInMarks op (.Call (.Name "range" p2) (e :: es) [] q) = false := by rfl) :
    PT X (.Compare a [op] [.Call (.Name "range" p2) (e :: es) [] q] pos) (tT B (dB (dInR neg da dl))) :=
  PT.imp (pt_cmpR ho ha (pe_callTy cr_rngA hg hm PyProof.Rows.boot_range hl (by decide) (by decide) he hpl) hmk) (imp_B imp_inR)
/-- tuple(..) of a list or a tuple -/
def fTuple : DF := fun ds k => match ds with
  | [.lst l] => k (.tup l)
  | [.tup l] => k (.tup l)
  | _ => False
theorem ok_tuple {G : GC} : OkC G (fun xs H Q => ∃ p ys, xs = [V.ref p] ∧ ((SqL G.K H p ys ∧ ∀ l, H l = none → Q (.ref l) (upd H l (.tup ys))) ∨ (SqT G.K H p ys ∧ Q (.ref p) H))) fTuple := fun c σ ρ S H F vs ds k Q A r hf hq => by
  unfold fTuple at hf
  split at hf
  · match r with
    | .cons (.lst h r) .nil =>
      refine ⟨_, _, rfl, .inl ⟨.inl (.inl (A.fr.sh _ _ h)), fun l hl => ?_⟩⟩
      have hS : S l = none := (A.fresh hl).1
      exact hq _ _ _ _ (A.new hl) (same_upd hS) (.tup upd_same (r.mono (same_upd hS))) hf
  · match r with
    | .cons (.tup h r) .nil => exact ⟨_, _, rfl, .inr ⟨.inl (.inl (A.fr.sh _ _ h)), hq _ _ S H A (Same.refl S) (.tup h r) hf⟩⟩
  · exact hf.elim
/-- {} -/
theorem e_dic : PE X (.Dict [] [] pos) (tD B (dC .dic)) := PE.imp pe_dnewK fun σ H Q ⟨c, ρ, S, k, w, ⟨F, A⟩, h, hq⟩ p hp =>
  have hS : S p = none := (A.fresh hp).1
  hq _ _ ρ _ _ ⟨F, A.new hp⟩ (same_upd hS) (.dic upd_same) h
end
end Y
namespace Y
open PySem PySem.Spec PyProof.Rows L2
/-! ### list(zip(a, b)) : over the bare heap -/
theorem lz_len : typeLookup (.type "zip") "__len__" = pure none := am_miss_of_fast (by decide +kernel)
theorem lz_nohint : typeLookup (.type "zip") "__length_hint__" = pure none := am_miss_of_fast (by decide +kernel)
def LzSt (h : Heap) (z TI TO i1 i2 l1 l2 S : Addr) (k : Nat) : Prop :=
  IsPair h TI (.ref i1) (.ref i2) ∧ h.IsListIter i1 l1 k ∧ h.IsListIter i2 l2 k ∧
    ((IsZip h z TI TO .none ∧ ∃ x y, IsPair h TO x y) ∨ ∃ T f oT, IsZipHeld h z TI TO T f ∧ h.get? T = some oT ∧ T ≠ z ∧ T ≠ S ∧ T ≠ i1 ∧ T ≠ i2)
theorem LzSt.keep {h h' : Heap} {z TI TO i1 i2 l1 l2 S : Addr} {k : Nat} (x : LzSt h z TI TO i1 i2 l1 l2 S k) (hk : ∀ b o, b ≠ S → h.get? b = some o → h'.get? b = some o)
    (n : z ≠ S ∧ TI ≠ S ∧ TO ≠ S ∧ i1 ≠ S ∧ i2 ≠ S) : LzSt h' z TI TO i1 i2 l1 l2 S k := by
  obtain ⟨q1, j1, j2, q⟩ := x
  obtain ⟨n1, n2, n3, n4, n5⟩ := n
  refine ⟨hk _ _ n2 q1, j1.at fun o e => hk _ o n4 e, j2.at fun o e => hk _ o n5 e, ?_⟩
  rcases q with ⟨q2, x, y, q3⟩ | ⟨T, f, oT, q2, q3, t1, t2, t3, t4⟩
  · exact .inl ⟨hk _ _ n1 q2, x, y, hk _ _ n3 q3⟩
  · exact .inr ⟨T, f, oT, hk _ _ n1 q2, hk _ _ t2 q3, t1, t2, t3, t4⟩
section
variable {prog : Program} {w : World} {A : Around} {E : Value → Shared → Prop} {s : Shared}
theorem lz_item {z TI TO i1 i2 l1 l2 S : Addr} {k : Nat} {xs ys : Array Value} {x y : Value} {Q : Option Value → Shared → Prop} (D : ZipApart z TI TO i1 i2 l1 l2) (st : LzSt s.heap z TI TO i1 i2 l1 l2 S k) (hS : S < s.heap.objs.size)
    (p1 : s.heap.IsList l1 xs) (p2 : s.heap.IsList l2 ys) (hx : xs[k]? = some x) (hy : ys[k]? = some y)
    (hQ : ∀ h', LzSt h' z TI TO i1 i2 l1 l2 S (k + 1) → IsPair h' s.heap.objs.size x y → h'.objs.size = s.heap.objs.size + 1 →
      (∀ b o, b ≠ z → b ≠ TO → b ≠ i1 → b ≠ i2 → s.heap.get? b = some o → h'.get? b = some o) → Q (some (.ref s.heap.objs.size)) { s with heap := h' }) :
    wpAny (model prog w) A (pyNext (.ref z)) Q E s := by
  obtain ⟨q1, j1, j2, q⟩ := st
  have lt : ∀ {c o}, s.heap.get? c = some o → s.heap.objs.size ≠ c := fun e => Nat.ne_of_gt (Heap.lt_size e)
  have n1 : s.heap.objs.size ≠ i1 := by obtain ⟨_, e, _⟩ := j1; exact lt e
  have n2 : s.heap.objs.size ≠ i2 := by obtain ⟨_, e, _⟩ := j2; exact lt e
  rcases q with ⟨q2, x0, y0, q3⟩ | ⟨T, f, oT, q2, q3, t1, t2, t3, t4⟩
  · exact wpAny_pyNext_zip_item D q2 q1 q3 j1 j2 p1 p2 hx hy fun h' a1 a2 a3 a4 a5 a6 hk =>
      hQ h' ⟨hk _ _ D.TIz D.TITO D.TIi1 D.TIi2 q1, a3, a4, .inr ⟨_, false, _, a1, a5, lt q2, Nat.ne_of_gt hS, n1, n2⟩⟩ a5 a6 hk
  · exact wpAny_pyNext_zip_item_held D q2 q3 q1 j1 j2 p1 p2 hx hy fun h' a1 a3 a4 a5 a6 hk =>
      hQ h' ⟨hk _ _ D.TIz D.TIi1 D.TIi2 q1, a3, a4, .inr ⟨T, true, oT, a1, hk _ _ t1 t3 t4 q3, t1, t2, t3, t4⟩⟩ a5 a6 fun b o b1 _ b3 b4 e => hk b o b1 b3 b4 e
theorem lz_done {z TI TO i1 i2 l1 l2 S : Addr} {k : Nat} {xs ys : Array Value} {Q : Option Value → Shared → Prop} (hh : A.handled = none) (D : ZipApart z TI TO i1 i2 l1 l2) (st : LzSt s.heap z TI TO i1 i2 l1 l2 S k)
    (p1 : s.heap.IsList l1 xs) (p2 : s.heap.IsList l2 ys) (he : xs[k]? = none ∨ ys[k]? = none)
    (hQ : ∀ h', (∀ b o, b ≠ z → b ≠ TO → b ≠ i1 → b ≠ i2 → s.heap.get? b = some o → h'.get? b = some o) → Q none { s with heap := h' }) :
    wpAny (model prog w) A (pyNext (.ref z)) Q E s := by
  obtain ⟨q1, j1, j2, q⟩ := st
  rcases q with ⟨q2, x0, y0, q3⟩ | ⟨T, f, oT, q2, q3, t1, t2, t3, t4⟩
  · exact wpAny_pyNext_zip_end hh D q2 q1 q3 j1 j2 p1 p2 he hQ
  · exact wpAny_pyNext_zip_end_held hh D q2 q3 q1 j1 j2 p1 p2 he fun h' hk => hQ h' fun b o b1 _ b3 b4 e => hk b o b1 b3 b4 e
structure LzG (ps : List (Value × Value)) (lo : Addr) (h : Heap) (as : List Addr) : Prop where
  rise : as.Pairwise (· < ·)
  above : ∀ a ∈ as, lo < a
  pairs : ∀ (j : Nat) (a : Addr), as[j]? = some a → ∃ x y, ps[j]? = some (x, y) ∧ IsPair h a x y
theorem LzG.there {ps : List (Value × Value)} {lo : Addr} {h : Heap} {as : List Addr} (g : LzG ps lo h as) {a : Addr} (ha : a ∈ as) : a < h.objs.size := by
  obtain ⟨j, hj⟩ := List.mem_iff_getElem?.mp ha
  obtain ⟨_, _, _, e⟩ := g.pairs j a hj
  exact Heap.lt_size e
theorem lz_loop {R : Result → Shared → Prop} {S z TI TO i1 i2 l1 l2 : Addr} {xs ys : Array Value} (hh : A.handled = none) (D : ZipApart z TI TO i1 i2 l1 l2) (hlt : z < S ∧ TI < S ∧ TO < S ∧ i1 < S ∧ i2 < S) (hl1 : l1 ≠ S) (hl2 : l2 ≠ S)
    {ps : List (Value × Value)} (hps : ps = xs.toList.zip ys.toList) (hn : ps.length ≤ sizeLine) (res : Value) {h₁ : Heap}
    (hR : ∀ h' tk acc c as, (∀ b o, b ≠ S → b ≠ z → b ≠ TO → b ≠ i1 → b ≠ i2 → h₁.get? b = some o → h'.get? b = some o) → h'.get? S = some { cls := .type "list", dict := none, data := .seq acc c, slots := #[] } → as.length = ps.length → LzG ps S h' as →
      acc.toList = as.map Value.ref → R (.ok (.ret res)) { s with heap := h', toks := tk }) :
    ∀ (k i : Nat) (h : Heap) (tk c : Nat) (acc : Array Value) (as : List Addr), ps.length - i = k → i ≤ ps.length → LzSt h z TI TO i1 i2 l1 l2 S i → h.IsList l1 xs → h.IsList l2 ys →
      (∀ b o, b ≠ S → b ≠ z → b ≠ TO → b ≠ i1 → b ≠ i2 → h₁.get? b = some o → h.get? b = some o) →
      h.get? S = some { cls := .type "list", dict := none, data := .seq acc c, slots := #[] } → acc.toList = as.map Value.ref → as.length = i → LzG ps S h as →
      codeAny (model prog w) A (.builtin "list.extend.loop" ⟨[.ref S, .ref z, res], []⟩) R { s with heap := h, toks := tk } := by
  obtain ⟨g1, g2, g3, g4, g5⟩ := hlt
  have ne : ∀ {c : Addr}, c < S → c ≠ S := fun h => Nat.ne_of_lt h
  have en : ∀ {c : Addr}, c < S → S ≠ c := fun h => Nat.ne_of_gt h
  have ab : ∀ {a c : Addr}, S < a → c < S → a ≠ c := fun h h' => Nat.ne_of_gt (Nat.lt_trans h' h)
  intro k
  induction k with
  | zero =>
    intro i h tk c acc as hk hi hst p1 p2 hkeep hS hacc hal hG
    have hin : i = ps.length := by omega
    refine codeAny_builtin PySem.F.entry_extend_loop ?_
    rw [Around.under_plainId PySem.F.plain_extend_loop _]
    show wpAny _ A.in1 (pyNext (.ref z) >>= _) _ _ _
    have he : xs[i]? = none ∨ ys[i]? = none := by
      rw [hps, List.length_zip] at hin
      simp only [Array.length_toList] at hin
      rcases Nat.le_total xs.size ys.size with q | q
      · exact .inl (by simp; omega)
      · exact .inr (by simp; omega)
    refine wpAny_bind (lz_done (s := { s with heap := h, toks := tk }) (A := A.in1) hh D hst p1 p2 he fun h' hk' => ?_)
    refine wpAny_pure (hR h' tk acc c as (fun b o b0 b1 b2 b3 b4 e => hk' b o b1 b2 b3 b4 (hkeep b o b0 b1 b2 b3 b4 e)) (hk' S _ (en g1) (en g3) (en g4) (en g5) hS) (by omega) ⟨hG.rise, hG.above, fun j a hj => ?_⟩ hacc)
    obtain ⟨x, y, e1, e2⟩ := hG.pairs j a hj
    have hb := hG.above a (List.mem_of_getElem? hj)
    exact ⟨x, y, e1, hk' a _ (ab hb g1) (ab hb g3) (ab hb g4) (ab hb g5) e2⟩
  | succ k ih =>
    intro i h tk c acc as hk hi hst p1 p2 hkeep hS hacc hal hG
    have hlt : i < ps.length := by omega
    obtain ⟨⟨x, y⟩, hxy⟩ : ∃ p, ps[i]? = some p := ⟨ps[i], List.getElem?_eq_getElem hlt⟩
    have hxy2 := hxy
    rw [hps, List.getElem?_zip_eq_some] at hxy2
    obtain ⟨hx, hy⟩ := hxy2
    have hsz : acc.size = i := by rw [← Array.length_toList, hacc, List.length_map, hal]
    refine codeAny_builtin PySem.F.entry_extend_loop ?_
    rw [Around.under_plainId PySem.F.plain_extend_loop _]
    show wpAny _ A.in1 (pyNext (.ref z) >>= _) _ _ _
    refine wpAny_bind (lz_item (s := { s with heap := h, toks := tk }) (S := S) D hst (Heap.lt_size hS) p1 p2 (by simpa using hx) (by simpa using hy) fun h' hst' ht hz hkp => ?_)
    dsimp only at ht hz hkp ⊢
    have hS' := hkp S _ (en g1) (en g3) (en g4) (en g5) hS
    have up : ∀ b o, b ≠ S → h'.get? b = some o → (h'.update S (Obj.mapSeq (·.push (Value.ref h.objs.size)))).get? b = some o := fun b o hb e => (Heap.get?_update_other _ _ (Ne.symm hb)).trans e
    have hSl : S < h.objs.size := Heap.lt_size hS
    show wpAny _ A.in1 (updateSeq S (·.push (Value.ref h.objs.size)) >>= _) _ _ _
    refine wpAny_bind ?_
    refine wpAny_updateSeq hS' rfl (wpAny_pure ⟨plainId_quiet PySem.F.plain_extend_loop _, ih (i + 1) _ tk _ (acc.push (Value.ref h.objs.size)) (as ++ [h.objs.size]) (by omega) hlt (hst'.keep up ⟨ne g1, ne g2, ne g3, ne g4, ne g5⟩)
      (p1.at fun o e => up _ o hl1 (hkp _ o D.l1z D.l1TO D.l1i1 D.l1i2 e)) (p2.at fun o e => up _ o hl2 (hkp _ o D.l2z D.l2TO D.l2i1 D.l2i2 e))
      (fun b o b0 b1 b2 b3 b4 e => up b o b0 (hkp b o b1 b2 b3 b4 (hkeep b o b0 b1 b2 b3 b4 e))) (Heap.get?_update_self _ hS' rfl) (by rw [Array.toList_push, hacc, List.map_append]; rfl) (by rw [List.length_append, hal]; rfl) ⟨?_, ?_, ?_⟩⟩) (by rw [hsz]; omega) (by show (acc.push (Value.ref h.objs.size)).size ≤ sizeLine + 1; rw [Array.size_push, hsz]; omega)
    · refine List.pairwise_append.mpr ⟨hG.rise, List.pairwise_singleton _ _, fun a ha b hb => ?_⟩
      rw [List.mem_singleton.mp hb]
      exact hG.there ha
    · intro a ha
      rcases List.mem_append.mp ha with ha | ha
      · exact hG.above a ha
      · rw [List.mem_singleton.mp ha]; exact hSl
    · intro j b hj
      rcases Nat.lt_trichotomy j as.length with h1 | h1 | h1
      · rw [List.getElem?_append_left h1] at hj
        obtain ⟨x', y', e1, e2⟩ := hG.pairs j b hj
        have hb := hG.above b (List.mem_of_getElem? hj)
        exact ⟨x', y', e1, up b _ (Nat.ne_of_gt hb) (hkp b _ (ab hb g1) (ab hb g3) (ab hb g4) (ab hb g5) e2)⟩
      · subst h1
        have hb : h.objs.size = b := by simpa using hj
        subst hb
        exact ⟨x, y, by rw [hal]; exact hxy, up _ _ (Nat.ne_of_gt hSl) ht⟩
      · have hnone : (as ++ [h.objs.size])[j]? = none := List.getElem?_eq_none (by rw [List.length_append, List.length_singleton]; omega)
        rw [hnone] at hj; cases hj
theorem lz_hint {z : Addr} (hT : s.TypeIs (.ref z) "zip") {Q : Bool → Shared → Prop} (h : Q true s) : wpAny (model prog w) A (Builtin.List.listLengthHint (.ref z)) Q E s := by
  unfold Builtin.List.listLengthHint
  refine wpAny_bind (wpAny_specialOf hT lz_len ?_)
  show wpAny _ A (specialOf (Value.ref z) (Str.ofString "__length_hint__") >>= _) _ _ _
  refine wpAny_bind (wpAny_specialOf hT lz_nohint ?_)
  exact wpAny_pure h
theorem lz_extend {R : Result → Shared → Prop} {S z TI TO i1 i2 l1 l2 : Addr} {xs ys : Array Value} (hh : A.handled = none) (D : ZipApart z TI TO i1 i2 l1 l2) (hlt : z < S ∧ TI < S ∧ TO < S ∧ i1 < S ∧ i2 < S) (hl1 : l1 ≠ S) (hl2 : l2 ≠ S)
    {ps : List (Value × Value)} (hps : ps = xs.toList.zip ys.toList) (hn : ps.length ≤ sizeLine) (res : Value) (c₀ : Nat) (hz : IsZip s.heap z TI TO .none) (st : LzSt s.heap z TI TO i1 i2 l1 l2 S 0) (p1 : s.heap.IsList l1 xs) (p2 : s.heap.IsList l2 ys)
    (hS : s.heap.get? S = some { cls := .type "list", data := .seq #[] c₀ })
    (hR : ∀ h' tk acc c as, (∀ b o, b ≠ S → b ≠ z → b ≠ TO → b ≠ i1 → b ≠ i2 → s.heap.get? b = some o → h'.get? b = some o) → h'.get? S = some { cls := .type "list", dict := none, data := .seq acc c, slots := #[] } → as.length = ps.length → LzG ps S h' as →
      acc.toList = as.map Value.ref → R (.ok (.ret res)) { s with heap := h', toks := tk }) :
    wpAny (model prog w) A.in1 (Builtin.List.listExtendWith (.ref S) (.ref z) res)
      (fun fin s' => match fin with | .done f => R (.ok f) s' | .again c' => c'.quiet = true ∧ codeAny (model prog w) A c' R s') (fun e s' => R (.error e) s') s := by
  have hSz : S ≠ z := Nat.ne_of_gt hlt.1
  have n5 : z ≠ S ∧ TI ≠ S ∧ TO ≠ S ∧ i1 ≠ S ∧ i2 ≠ S := ⟨Nat.ne_of_lt hlt.1, Nat.ne_of_lt hlt.2.1, Nat.ne_of_lt hlt.2.2.1, Nat.ne_of_lt hlt.2.2.2.1, Nat.ne_of_lt hlt.2.2.2.2⟩
  have key : ∀ (h : Heap) (c₁ tk : Nat), (∀ b o, b ≠ S → s.heap.get? b = some o → h.get? b = some o) →
      h.get? S = some { cls := .type "list", data := .seq #[] c₁ } → codeAny (model prog w) A (.builtin "list.extend.loop" ⟨[.ref S, .ref z, res], []⟩) R { s with heap := h, toks := tk } := by
    intro h c₁ tk hk hS₁
    exact lz_loop (s := s) (h₁ := s.heap) hh D hlt hl1 hl2 hps hn res hR ps.length 0 h tk c₁ #[] [] (Nat.sub_zero _) (Nat.zero_le _) (st.keep hk n5) (p1.at fun o e => hk _ o hl1 e) (p2.at fun o e => hk _ o hl2 e)
      (fun b o b0 _ _ _ _ e => hk b o b0 e) hS₁ rfl rfl ⟨List.Pairwise.nil, (fun _ ha => nomatch ha), (fun j a hj => by simp at hj)⟩
  have hT : s.TypeIs (.ref z) "zip" := ⟨_, hz, rfl⟩
  unfold Builtin.List.listExtendWith
  refine wpAny_bind (wpAny_typeOf (T := "zip") hT ?_)
  have h1 : Builtin.List.listSameRef (.ref S) (.ref z) = false := by simp [Builtin.List.listSameRef, hSz]
  have h2 : (Value.type "zip" == Value.type "list") = false := by decide
  have h3 : (Value.type "zip" == Value.type "tuple") = false := by decide
  simp only [h1, h2, h3, Bool.or_false, Bool.false_eq_true, if_false]
  refine wpAny_bind (wpAny_pyIter_zip hz ?_)
  refine wpAny_bind (wpAny_holding (lz_hint hT ?_))
  refine wpAny_ite_split (fun _ => ?_) (fun _ => wpAny_pure ⟨plainId_quiet PySem.F.plain_extend_loop _, key _ c₀ _ (fun b o _ e => e) hS⟩)
  refine wpAny_bind (wpAny_rule ?_)
  refine wpAny_bind ?_
  show wpAny _ _ (updateSeq S (·.push .none) >>= fun _ => updateSeq S (·.pop)) _ _ _
  refine wpAny_bind (wpAny_updateSeq hS rfl ?_)
  have hS₂ := Heap.get?_update_self (Obj.mapSeq (·.push Value.none)) hS rfl
  refine wpAny_updateSeq (hz := by seq_fits) hS₂ rfl ?_
  have hS₃ := Heap.get?_update_self (Obj.mapSeq (·.pop)) hS₂ rfl
  refine wpAny_pure ⟨plainId_quiet PySem.F.plain_extend_loop _, key _ _ _ (fun b o hb e => ?_) hS₃⟩
  exact (Heap.get?_update_other _ _ (Ne.symm hb)).trans ((Heap.get?_update_other _ _ (Ne.symm hb)).trans e)
theorem lz_init {R : Result → Shared → Prop} {S z TI TO i1 i2 l1 l2 : Addr} {xs ys : Array Value} (hh : A.handled = none) (D : ZipApart z TI TO i1 i2 l1 l2) (hlt : z < S ∧ TI < S ∧ TO < S ∧ i1 < S ∧ i2 < S) (hl1 : l1 ≠ S) (hl2 : l2 ≠ S)
    {ps : List (Value × Value)} (hps : ps = xs.toList.zip ys.toList) (hn : ps.length ≤ sizeLine) (hz : IsZip s.heap z TI TO .none) (st : LzSt s.heap z TI TO i1 i2 l1 l2 S 0) (p1 : s.heap.IsList l1 xs) (p2 : s.heap.IsList l2 ys)
    (hS : s.heap.get? S = some { cls := .type "list", data := .seq #[] })
    (hR : ∀ h' tk acc c as, (∀ b o, b ≠ S → b ≠ z → b ≠ TO → b ≠ i1 → b ≠ i2 → s.heap.get? b = some o → h'.get? b = some o) → h'.get? S = some { cls := .type "list", dict := none, data := .seq acc c, slots := #[] } → as.length = ps.length → LzG ps S h' as →
      acc.toList = as.map Value.ref → R (.ok (.ret .none)) { s with heap := h', toks := tk }) :
    wpAny (model prog w) A.in1 (Builtin.«list.__init__» ⟨[.ref S, .ref z], []⟩)
      (fun fin s' => match fin with | .done f => R (.ok f) s' | .again c' => c'.quiet = true ∧ codeAny (model prog w) A c' R s') (fun e s' => R (.error e) s') s := by
  have n5 : z ≠ S ∧ TI ≠ S ∧ TO ≠ S ∧ i1 ≠ S ∧ i2 ≠ S := ⟨Nat.ne_of_lt hlt.1, Nat.ne_of_lt hlt.2.1, Nat.ne_of_lt hlt.2.2.1, Nat.ne_of_lt hlt.2.2.2.1, Nat.ne_of_lt hlt.2.2.2.2⟩
  show wpAny _ _ (do let old ← Builtin.List.listItems (.ref S); Builtin.List.listUpdate (.ref S) (fun _ => #[]); letGo old.toList.reverse; Builtin.List.listExtendWith (.ref S) (.ref z) .none) _ _ s
  refine wpAny_bind ?_
  unfold Builtin.List.listItems
  refine wpAny_bind (wpAny_seqItems hS rfl (wpAny_pure ?_))
  show wpAny _ _ (updateSeq S (fun _ => #[]) >>= fun _ => letGo (#[] : Array Value).toList.reverse >>= fun _ => Builtin.List.listExtendWith (.ref S) (.ref z) .none) _ _ s
  refine wpAny_bind (wpAny_updateSeq hS rfl ?_)
  have hS₂ := Heap.get?_update_self (Obj.mapSeq (fun _ => (#[] : Array Value))) hS rfl
  have oth : ∀ b o, b ≠ S → s.heap.get? b = some o → (s.heap.update S (Obj.mapSeq (fun _ => (#[] : Array Value)))).get? b = some o :=
    fun b o hb e => (Heap.get?_update_other _ _ (Ne.symm hb)).trans e
  refine wpAny_bind (wpAny_letGo ?_)
  exact lz_extend hh D hlt hl1 hl2 hps hn .none _ (oth _ _ n5.1 hz) (st.keep oth n5) (p1.at fun o e => oth _ o hl1 e) (p2.at fun o e => oth _ o hl2 e) hS₂ fun h' tk acc c as hk hS' hl hG hacc =>
    hR h' tk acc c as (fun b o b0 b1 b2 b3 b4 e => hk b o b0 b1 b2 b3 b4 (oth b o b0 e)) hS' hl hG hacc
theorem lz_call {z TI TO i1 i2 l1 l2 : Addr} {xs ys : Array Value} {Q : Value → Shared → Prop} (hh : A.handled = none) (D : ZipApart z TI TO i1 i2 l1 l2)
    {ps : List (Value × Value)} (hps : ps = xs.toList.zip ys.toList) (hn : ps.length ≤ sizeLine) (hz : IsZip s.heap z TI TO .none) (t1 : IsPair s.heap TI (.ref i1) (.ref i2)) {x0 y0 : Value} (t2 : IsPair s.heap TO x0 y0)
    (j1 : s.heap.IsListIter i1 l1 0) (j2 : s.heap.IsListIter i2 l2 0) (p1 : s.heap.IsList l1 xs) (p2 : s.heap.IsList l2 ys)
    (hQ : ∀ h' tk acc c as, (∀ b o, b ≠ z → b ≠ TO → b ≠ i1 → b ≠ i2 → s.heap.get? b = some o → h'.get? b = some o) → h'.get? s.heap.objs.size = some { cls := .type "list", dict := none, data := .seq acc c, slots := #[] } →
      as.length = ps.length → LzG ps s.heap.objs.size h' as → acc.toList = as.map Value.ref → Q (.ref s.heap.objs.size) { s with heap := h', toks := tk }) :
    wpAny (model prog w) A (call (.type "list") [.ref z]) Q E s := by
  refine callType_codes (Q₁ := fun obj s₁ => obj = .ref s.heap.objs.size ∧ s₁ = { s with heap := s.heap.push { cls := .type "list", data := .seq #[] } }) PySem.F.called_list (PySem.F.typeCall_list_1 _) PySem.F.entry_list_init
    (code_list_new _ ⟨rfl, rfl⟩) fun obj s₁ h₁ => ?_
  obtain ⟨rfl, rfl⟩ := h₁
  have hS : (s.heap.push { cls := .type "list", data := .seq #[] }).get? s.heap.objs.size = some { cls := .type "list", data := .seq #[] } := Heap.get?_push_size _ rfl
  have up : ∀ b o, s.heap.get? b = some o → (s.heap.push { cls := .type "list", data := .seq #[] }).get? b = some o := fun b o e => Heap.get?_push_of_some _ e
  have li : ∀ {l : Addr} {vs : Array Value}, s.heap.IsList l vs → l ≠ s.heap.objs.size := fun h => by
    obtain ⟨_, e, _⟩ := h
    exact Nat.ne_of_lt (Heap.lt_size e)
  have lj : ∀ {i l : Addr}, s.heap.IsListIter i l 0 → i < s.heap.objs.size := fun h => by
    obtain ⟨_, e, _⟩ := h
    exact Heap.lt_size e
  have st : LzSt (s.heap.push { cls := .type "list", data := .seq #[] }) z TI TO i1 i2 l1 l2 s.heap.objs.size 0 := ⟨up _ _ t1, j1.at fun o e => up _ o e, j2.at fun o e => up _ o e, .inl ⟨up _ _ hz, x0, y0, up _ _ t2⟩⟩
  refine ⟨⟨_, hS, rfl⟩, PySem.F.args_list_init_2 _ _, lz_init (A := A.in1) hh D ⟨Heap.lt_size hz, Heap.lt_size t1, Heap.lt_size t2, lj j1, lj j2⟩ (li p1) (li p2) hps hn (up _ _ hz) st (p1.at fun o e => up _ o e) (p2.at fun o e => up _ o e) hS fun h' tk acc c as hk hS' hl hG hacc => ?_⟩
  exact ⟨rfl, hQ h' tk acc c as (fun b o b1 b2 b3 b4 e => hk b o (Nat.ne_of_lt (Heap.lt_size e)) b1 b2 b3 b4 (up _ _ e)) hS' hl hG hacc⟩
end
/-! ### .. over the tracked heap -/
def lzH : Hp → List Addr → List (V × V) → Hp
  | H, a :: as, p :: ps => lzH (upd H a (.tup [p.1, p.2])) as ps
  | H, _, _ => H
theorem lzH_ne : ∀ (as : List Addr) (ps : List (V × V)) (H : Hp) (b : Addr), b ∉ as → lzH H as ps b = H b
  | [], _, _, _, _ => rfl
  | _ :: _, [], _, _, _ => rfl
  | a :: as, p :: ps, H, b, h => by
    show lzH (upd H a (.tup [p.1, p.2])) as ps b = H b
    rw [lzH_ne as ps _ b fun z => h (List.mem_cons_of_mem _ z), upd_ne fun z => h (by rw [z]; exact List.mem_cons_self)]
def PrsAt (h : Heap) : List Addr → List (V × V) → Prop
  | a :: as, p :: ps => (∃ u w, RelV p.1 u ∧ RelV p.2 w ∧ IsPair h a u w) ∧ PrsAt h as ps
  | _, _ => True
theorem prs_of {h : Heap} : ∀ (as : List Addr) (ps : List (V × V)), (∀ (j : Nat) (a : Addr) (p : V × V), as[j]? = some a → ps[j]? = some p → ∃ u w, RelV p.1 u ∧ RelV p.2 w ∧ IsPair h a u w) → PrsAt h as ps
  | [], _, _ => trivial
  | _ :: _, [], _ => trivial
  | a :: as, p :: ps, f => ⟨f 0 a p rfl rfl, prs_of as ps fun j b q e1 e2 => f (j + 1) b q (by simpa using e1) (by simpa using e2)⟩
theorem lay_tuples {X : Cx} {pins : List (Addr × Obj)} {σ : St} {s : Shared} : ∀ (as : List Addr) (ps : List (V × V)) (H : Hp), Inv X pins σ H s → as.Nodup → (∀ a ∈ as, FpOk X pins H a) → PrsAt s.heap as ps → Inv X pins σ (lzH H as ps) s
  | [], _, _, I, _, _, _ => I
  | _ :: _, [], _, I, _, _, _ => I
  | a :: as, p :: ps, H, I, nd, hf, ⟨⟨u, w, r1, r2, e⟩, rest⟩ => by
    have nd2 := List.nodup_cons.mp nd
    have I2 : Inv X pins σ (upd H a (.tup [p.1, p.2])) { s with heap := s.heap, toks := s.toks } := I.take (fun _ _ _ e => e) (hf a List.mem_cons_self) ⟨by show 2 ≤ sizeLine; decide, [u, w], .cons r1 (.cons r2 .nil), ⟨_, e, rfl, _, rfl⟩⟩
    exact lay_tuples as ps _ I2 nd2.2 (fun b hb => by
      have q := hf b (List.mem_cons_of_mem _ hb)
      refine ⟨?_, q.2⟩
      rw [upd_ne fun z => nd2.1 (by rw [← z]; exact hb)]
      exact q.1) rest
theorem vals_refs : ∀ as : List Addr, Vals (as.map V.ref) (as.map Value.ref)
  | [] => .nil
  | a :: as => .cons rfl (vals_refs as)
theorem zip_getV {xs ys : List V} {us ws : List Value} (r1 : Vals xs us) (r2 : Vals ys ws) {j : Nat} {p : V × V} {q : Value × Value} (h1 : (xs.zip ys)[j]? = some p) (h2 : (us.zip ws)[j]? = some q) : RelV p.1 q.1 ∧ RelV p.2 q.2 := by
  obtain ⟨x, y⟩ := p
  obtain ⟨u, w⟩ := q
  rw [List.getElem?_zip_eq_some] at h1 h2
  obtain ⟨u2, e1, q1⟩ := r1.get h1.1
  obtain ⟨w2, e2, q2⟩ := r2.get h1.2
  dsimp only at h2
  rw [h2.1] at e1
  rw [h2.2] at e2
  cases e1
  cases e2
  exact ⟨q1, q2⟩
def tLZ (K : PySem.W.Frag) (ta : TA) : TE := fun σ H Q => ta σ H fun vs H1 => ∃ a b xs ys, vs = [.ref a, .ref b] ∧ SqL K H1 a xs ∧ SqL K H1 b ys ∧
  ∀ as p, as.length = (xs.zip ys).length → as.Nodup → (∀ c ∈ as, H1 c = none) → H1 p = none → p ∉ as → Q (.ref p) (upd (lzH H1 as (xs.zip ys)) p (.lst (as.map V.ref)))
section
variable {X : Cx} {B : Bd} {e e2 : Expr} {dl : DL} {p p2 q pos : Pos} {ta : TA}
theorem pe_lz (hc : X.calm = true) (hg : Gl X "list") (hm : X.mg "list" = none) (hg2 : Gl X "zip") (hm2 : X.mg "zip" = none) (ha : PA X [e, e2] ta)
    (hs : starEach [e, e2] X.env = (false, eval e X.env) :: starEach [e2] X.env := by rfl) (hpl : (backTo q (starEach [e2] X.env)).any (·.1) = false := by rfl)
    (na : starEach [.Call (.Name "zip" p2) [e, e2] [] q] X.env = (false, eval (.Call (.Name "zip" p2) [e, e2] [] q) X.env) :: starEach [] X.env := by rfl) :
    PE X (.Call (.Name "list" p) [.Call (.Name "zip" p2) [e, e2] [] q] [] pos) (tLZ X.K ta) := by
  refine ⟨fun pins s σ H Q I h => ?_⟩
  refine Call_ (ld_blt I hg hm boot_list (PyProof.Rows.callWith_type1 (args_cons (thn (Q := fun x s' => ∃ z TI TO i1 i2 a b xs ys H1, x = .ref z ∧ ZipApart z TI TO i1 i2 a b ∧ IsZip s'.heap z TI TO .none ∧ IsPair s'.heap TI (.ref i1) (.ref i2) ∧ IsPair s'.heap TO .none .none ∧ s'.heap.IsListIter i1 a 0 ∧ s'.heap.IsListIter i2 b 0 ∧ Inv X pins σ H1 s' ∧ (∀ c ∈ [z, TO, i1, i2], FpOk X pins H1 c) ∧ SqL X.K H1 a xs ∧ SqL X.K H1 b ys ∧
    ∀ as p, as.length = (xs.zip ys).length → as.Nodup → (∀ c ∈ as, H1 c = none) → H1 p = none → p ∉ as → Q (.ref p) (upd (lzH H1 as (xs.zip ys)) p (.lst (as.map V.ref)))) ?_
    fun x s1 ⟨z, TI, TO, i1, i2, a, b, xs, ys, H1, ex, D, hz, t1, t2, j1, j2, I1, hf, gx, gy, hq⟩ => args_nil ?_) na) na))
  · refine Call_ (ld_blt I hg2 hm2 PyProof.Rows.boot_zip (PyProof.Rows.callWith_type1 (thn (ha.run q pins s σ H _ I h) fun us s1 ⟨vs, H1, I1, r1, q1⟩ => ?_) hs hpl))
    obtain ⟨a, b, xs, ys, ex, gx, gy, hq⟩ := q1
    subst ex
    cases r1 with
    | cons r rr =>
      cases rr with
      | cons r' rr =>
        cases rr
        cases r
        cases r'
        obtain ⟨its, rv, p1, _⟩ := I1.list gx
        obtain ⟨its2, rv2, p2, _⟩ := I1.list gy
        have la : a < s1.heap.objs.size := p1.lt
        have lb : b < s1.heap.objs.size := p2.lt
        refine call_zip_2 p1.isList p2.isList fun h' hz hTI hTO h1 h2 hsz hk => ?_
        have I2 : Inv X pins σ H1 { s1 with heap := h' } := I1.kept (t' := s1.toks) hk
        refine ⟨s1.heap.objs.size + 4, s1.heap.objs.size + 2, s1.heap.objs.size + 3, s1.heap.objs.size, s1.heap.objs.size + 1, a, b, xs, ys, H1, rfl, PySem.W.ktu_apart s1.heap.objs.size a b la lb, hz, hTI, hTO, h1, h2, I2, fun c hcm => ?_, gx, gy, hq⟩
        have hle : s1.heap.objs.size ≤ c := by
          simp only [List.mem_cons, List.not_mem_nil, or_false] at hcm
          rcases hcm with rfl | rfl | rfl | rfl <;> first | exact Nat.le_add_right _ _ | exact Nat.le_refl _
        exact I1.fpOk hle (I1.hok.fresh hle)
  · subst ex
    obtain ⟨us, ru, pu, zu⟩ := I1.list gx
    obtain ⟨ws, rw_, pw, zw⟩ := I1.list gy
    have lu := ru.length
    have lw := rw_.length
    refine lz_call (I1.ok.hd hc) D (ps := us.zip ws) (by simp) (by rw [List.length_zip]; omega) hz t1 t2 j1 j2 pu.isList pw.isList fun h' tk acc c as hk e' hl hG hacc => ?_
    have hS : ∀ a ∈ as, s1.heap.objs.size ≤ a := fun a ha => Nat.le_of_lt (hG.above a ha)
    have I2 : Inv X pins σ H1 { s1 with heap := h', toks := tk } := I1.turnedL (ch := [z, TO, i1, i2]) (fun b o hb ee => by
      simp only [List.mem_cons, List.not_mem_nil, or_false, not_or] at hb
      exact hk b o hb.1 hb.2.1 hb.2.2.1 hb.2.2.2 ee) hf
    have nd : as.Nodup := hG.rise.imp fun h => Nat.ne_of_lt h
    have hlen : as.length = (xs.zip ys).length := by rw [hl, List.length_zip, List.length_zip, lu, lw]
    have pr : PrsAt h' as (xs.zip ys) := prs_of as _ fun j a pv ea ep => by
      obtain ⟨u, w, e1, e2⟩ := hG.pairs j a ea
      obtain ⟨r1, r2⟩ := zip_getV ru rw_ ep e1
      exact ⟨u, w, r1, r2, e2⟩
    have I3 : Inv X pins σ (lzH H1 as (xs.zip ys)) { s1 with heap := h', toks := tk } := lay_tuples as _ _ I2 nd (fun a ha => I1.fpOk (hS a ha) (I1.hok.fresh (hS a ha))) pr
    have nS : s1.heap.objs.size ∉ as := fun hm => Nat.lt_irrefl _ (hG.above _ hm)
    have hn : H1 s1.heap.objs.size = none := I1.hok.fresh (Nat.le_refl _)
    have I4 : Inv X pins σ (upd (lzH H1 as (xs.zip ys)) s1.heap.objs.size (.lst (as.map V.ref))) { s1 with heap := h', toks := tk } := by
      refine I3.take (h' := h') (t' := tk) (fun _ _ _ ee => ee) (I1.fpOk (Nat.le_refl _) (by rw [lzH_ne _ _ _ _ nS]; exact hn)) ⟨?_, as.map Value.ref, c, vals_refs as, ?_⟩
      · rw [List.length_map, hl, List.length_zip]; omega
      · rw [← hacc, Array.toArray_toList]; exact e'
    exact ⟨.ref s1.heap.objs.size, _, I4, rfl, hq as _ hlen nd (fun a ha => I1.hok.fresh (hS a ha)) hn nS⟩
/-! ### .. over plain data -/
theorem lay_abs {G : GC} {c : C} {σ : St} {ρ : Ev} {F : Nat → List Addr} : ∀ (as : List Addr) (vs ws : List V) (ds es : List D) (S H : Hp), AbsF G c σ ρ S H F → Reps G S vs ds → Reps G S ws es → as.length = (vs.zip ws).length → as.Nodup → (∀ a ∈ as, H a = none) →
    ∃ S', AbsF G c σ ρ S' (lzH H as (vs.zip ws)) F ∧ Same S S' ∧ Reps G S' (as.map V.ref) (zipD ds es)
  | [], vs, ws, ds, es, S, H, A, r1, r2, hl, _, _ => by
    refine ⟨S, A, Same.refl S, ?_⟩
    have : zipD ds es = [] := by
      cases r1 with
      | nil => cases es <;> rfl
      | cons a b => cases r2 with
        | nil => rfl
        | cons c d => simp at hl
    rw [this]
    exact .nil
  | a :: as, vs, ws, ds, es, S, H, A, r1, r2, hl, nd, hn => by
    cases r1 with
    | nil => simp at hl
    | @cons v d vs ds q1 r1 => cases r2 with
      | nil => simp at hl
      | @cons w e ws es q2 r2 =>
        have nd2 := List.nodup_cons.mp nd
        have ha := hn a List.mem_cons_self
        have sm : Same S (upd S a (.tup [v, w])) := same_upd (A.fresh ha).1
        obtain ⟨S', A', s', R'⟩ := lay_abs as vs ws ds es (upd S a (.tup [v, w])) (upd H a (.tup [v, w])) (A.new ha) (r1.mono sm) (r2.mono sm) (by simpa using hl) nd2.2 (fun b hb => by
          rw [upd_ne fun z => nd2.1 (by rw [← z]; exact hb)]
          exact hn b (List.mem_cons_of_mem _ hb))
        refine ⟨S', A', sm.trans s', ?_⟩
        show Reps G S' (.ref a :: as.map V.ref) (.tup [d, e] :: zipD ds es)
        exact .cons (.tup (s' _ _ upd_same) (.cons ((q1.mono sm).mono s') (.cons ((q2.mono sm).mono s') .nil))) R'
def oLZ (dl : DL) : DL := fun x ρ k => dl x ρ fun ds ρ1 => match ds with
  | [.lst a, .lst b] => k (zipD a b) ρ1
  | _ => False
theorem eo_lz (hc : X.calm = true) (hK : X.K = B.G.K) (hm : X.mg "list" = none) (hm2 : X.mg "zip" = none) (ha : PA X [e, e2] (tA B dl)) (hg : Gl X "list" := by rfl) (hg2 : Gl X "zip" := by rfl)
    (hs : starEach [e, e2] X.env = (false, eval e X.env) :: starEach [e2] X.env := by rfl) (hpl : (backTo q (starEach [e2] X.env)).any (·.1) = false := by rfl)
    (na : starEach [.Call (.Name "zip" p2) [e, e2] [] q] X.env = (false, eval (.Call (.Name "zip" p2) [e, e2] [] q) X.env) :: starEach [] X.env := by rfl) :
    PE X (.Call (.Name "list" p) [.Call (.Name "zip" p2) [e, e2] [] q] [] pos) (tO B (oLZ dl)) :=
  PE.imp (pe_lz hc hg hm hg2 hm2 ha hs hpl na) fun σ H Q ⟨c, ρ, S, k, w, A, h, hq⟩ => ⟨c, ρ, S, _, w, A, h, fun vs ds ρ1 S1 H1 ⟨F1, A1⟩ s1 r1 h1 => by
    match ds, r1, h1 with
    | [.lst as, .lst bs], .cons (@Rep.lst _ _ _ v1 _ e1 q1) (.cons (@Rep.lst _ _ _ v2 _ e2 q2) .nil), hk =>
      refine ⟨_, _, v1, v2, rfl, ?_, ?_, fun ads p hl nd hn hp np => ?_⟩
      · rw [hK]; exact .inl (.inl (A1.fr.sh _ _ e1))
      · rw [hK]; exact .inl (.inl (A1.fr.sh _ _ e2))
      obtain ⟨S2, A2, s2, r2⟩ := lay_abs ads _ _ _ _ _ _ A1 q1 q2 hl nd hn
      have hp2 : lzH H1 ads (v1.zip v2) p = none := by rw [lzH_ne _ _ _ _ np]; exact hp
      obtain ⟨z1, z2, z3⟩ := A2.fresh hp2
      exact hq p _ _ ρ1 S2 _ F1 (A2.newO hp2) (s1.trans s2) z3 z1 z2 upd_same r2 hk⟩
end
end Y
namespace Y
open PySem L2

/-! ### equality of data, decided -/
def okD (n : Nat) (d : D) : Prop := (toPy d).canLay0 = true ∧ (toPy d).depth ≤ n
theorem okD.ok {n : Nat} {d : D} (h : okD n d) (hn : n ≤ 64) : okE d := by
  unfold okE SeqAt.shaped
  rw [h.1, Bool.true_and]
  exact decide_eq_true (Nat.le_trans h.2 hn)
theorem okD_int (i : Int) : okD 0 (.int i) := ⟨rfl, Nat.le_refl _⟩
theorem okD_bl (i : Bool) : okD 0 (.bl i) := ⟨rfl, Nat.le_refl _⟩
theorem okD_non : okD 0 .non := ⟨rfl, Nat.le_refl _⟩
theorem okD_all {n : Nat} : ∀ {l : List D}, (∀ d ∈ l, okD n d) → PyData.canLayAll0 (toPys l) = true ∧ PyData.depthAll (toPys l) ≤ n
  | [], _ => ⟨rfl, Nat.zero_le _⟩
  | d :: l, h => by
    obtain ⟨a, b⟩ := okD_all (l := l) fun e he => h e (List.mem_cons_of_mem _ he)
    obtain ⟨a', b'⟩ := h d List.mem_cons_self
    refine ⟨?_, ?_⟩
    · show (PyData.canLay0 (toPy d) && PyData.canLayAll0 (toPys l)) = true
      rw [a, a']; rfl
    · show max (PyData.depth (toPy d)) (PyData.depthAll (toPys l)) ≤ n
      omega
theorem okD_lst {n : Nat} {l : List D} (h : ∀ d ∈ l, okD n d) : okD (n + 1) (.lst l) := by
  obtain ⟨a, b⟩ := okD_all h
  exact ⟨a, Nat.succ_le_succ b⟩
theorem okD_tup {n : Nat} {l : List D} (h : ∀ d ∈ l, okD n d) : okD (n + 1) (.tup l) := by
  obtain ⟨a, b⟩ := okD_all h
  exact ⟨a, Nat.succ_le_succ b⟩
theorem okD.mono {n m : Nat} {d : D} (h : okD n d) (hn : n ≤ m) : okD m d := ⟨h.1, Nat.le_trans h.2 hn⟩
/-- an encoding whose equality is the data's -/
structure Enc {α : Type} [DecidableEq α] (f : α → D) (n : Nat) : Prop where
  ok : ∀ a, okD n (f a)
  eq : ∀ a b, deq (f a) (f b) = decide (a = b)
theorem enc_int : Enc D.int 0 := ⟨okD_int, fun a b => by show (a == b) = _; by_cases h : a = b <;> simp [h]⟩
theorem enc_bl : Enc D.bl 0 := ⟨okD_bl, fun a b => by show (a == b) = _; by_cases h : a = b <;> simp [h]⟩
theorem enc_all {α : Type} [DecidableEq α] {f : α → D} {n : Nat} (e : Enc f n) : ∀ l m : List α, PyData.eqvAll (toPys (l.map f)) (toPys (m.map f)) = decide (l = m)
  | [], [] => rfl
  | [], _ :: _ => rfl
  | _ :: _, [] => rfl
  | a :: l, b :: m => by
    show (deq (f a) (f b) && PyData.eqvAll (toPys (l.map f)) (toPys (m.map f))) = _
    rw [e.eq, enc_all e l m]
    by_cases h1 : a = b <;> by_cases h2 : l = m <;> simp [h1, h2]
theorem enc_lst {α : Type} [DecidableEq α] {f : α → D} {n : Nat} (e : Enc f n) : Enc (fun l : List α => D.lst (l.map f)) (n + 1) :=
  ⟨fun l => okD_lst fun d hd => by obtain ⟨a, _, rfl⟩ := List.mem_map.mp hd; exact e.ok a, fun l m => enc_all e l m⟩
theorem enc_tup {α : Type} [DecidableEq α] {f : α → D} {n : Nat} (e : Enc f n) : Enc (fun l : List α => D.tup (l.map f)) (n + 1) :=
  ⟨fun l => okD_tup fun d hd => by obtain ⟨a, _, rfl⟩ := List.mem_map.mp hd; exact e.ok a, fun l m => enc_all e l m⟩
theorem okE_int (i : Int) : okE (.int i) = True := eq_true ((okD_int i).ok (by decide))
theorem okE_bl (i : Bool) : okE (.bl i) = True := eq_true ((okD_bl i).ok (by decide))
theorem okE_non : okE .non = True := eq_true (okD_non.ok (by decide))
theorem deq_int (i j : Int) : deq (.int i) (.int j) = decide (i = j) := enc_int.eq i j
theorem deq_bl (i j : Bool) : deq (.bl i) (.bl j) = decide (i = j) := enc_bl.eq i j
theorem okE_ints (l : List Int) : okE (.lst (l.map .int)) = True := eq_true (((enc_lst enc_int).ok l).ok (by decide))
theorem deq_ints (l m : List Int) : deq (.lst (l.map .int)) (.lst (m.map .int)) = decide (l = m) := (enc_lst enc_int).eq l m
theorem okE_scr (l : List Int) : okE (.scr l) = True := by
  have h := ((enc_lst enc_int).ok l).ok (by decide)
  have e : toPy (.lst (l.map .int)) = toPy (.scr l) := by
    show PyData.list (toPys (l.map .int)) = .list (l.map .int)
    congr 1
    induction l with
    | nil => rfl
    | cons a l ih => 
      show PyData.int a :: toPys (l.map .int) = _
      rw [ih ((enc_lst enc_int).ok l |>.ok (by decide))]
      rfl
  unfold okE at h ⊢
  rw [← e]
  exact eq_true h

/-! ### kinds, machines -/
def kind (w : Bool) : Str := if w then "well" else "tray"
theorem tw_ne : (("tray" : Str) = ("well" : Str)) = False := by decide +kernel
theorem wt_ne : (("well" : Str) = ("tray" : Str)) = False := by decide +kernel
theorem kind_inj (a b : Bool) : (kind a = kind b) = (a = b) := by cases a <;> cases b <;> simp [kind, tw_ne, wt_ne]
theorem kind_well (w : Bool) : (kind w = "well") = (w = true) := by cases w <;> simp [kind, tw_ne]
theorem kind_tray (w : Bool) : (kind w = "tray") = (w = false) := by cases w <;> simp [kind, wt_ne]
theorem okD_kind (w : Bool) : okD 0 (.str (kind w)) := by cases w <;> exact ⟨by decide +kernel, by decide⟩
theorem enc_kind : Enc (fun w => D.str (kind w)) 0 := ⟨okD_kind, fun a b => by show (kind a == kind b) = _; rw [show (kind a == kind b) = decide (kind a = kind b) from by by_cases h : kind a = kind b <;> simp [h]]; rw [decide_eq_decide, kind_inj]⟩
abbrev Ma := Bool × Int
abbrev eM (m : Ma) : D := .tup [.str (kind m.1), .int m.2]
theorem enc_M : Enc eM 1 := ⟨fun m => okD_tup fun d hd => by
    rcases List.mem_cons.mp hd with rfl | hd
    · exact okD_kind _
    · rw [List.mem_singleton] at hd; subst hd; exact okD_int _, fun a b => by
    show (deq (.str (kind a.1)) (.str (kind b.1)) && (deq (.int a.2) (.int b.2) && true)) = _
    rw [enc_kind.eq, enc_int.eq]
    obtain ⟨a1, a2⟩ := a
    obtain ⟨b1, b2⟩ := b
    by_cases h1 : a1 = b1 <;> by_cases h2 : a2 = b2 <;> simp [h1, h2]⟩
theorem okE_Ms (l : List Ma) : okE (.lst (l.map eM)) = True := eq_true (((enc_lst enc_M).ok l).ok (by decide))
theorem deq_Ms (l m : List Ma) : deq (.lst (l.map eM)) (.lst (m.map eM)) = decide (l = m) := (enc_lst enc_M).eq l m
theorem okE_kind (w : Bool) : okE (.str (kind w)) = True := eq_true ((okD_kind w).ok (by decide))
theorem okE_well : okE (.str "well") = True := okE_kind true
theorem okE_tray : okE (.str "tray") = True := okE_kind false
theorem deq_well (w : Bool) : deq (.str (kind w)) (.str "well") = w := by have := enc_kind.eq w true; rw [show kind true = "well" from rfl] at this; rw [this]; cases w <;> rfl
theorem deq_tray (w : Bool) : deq (.str (kind w)) (.str "tray") = !w := by have := enc_kind.eq w false; rw [show kind false = "tray" from rfl] at this; rw [this]; cases w <;> rfl

/-! ### reckoning with written lists -/
theorem atI_0 {α : Type} (a : α) (l : List α) : atI (a :: l) 0 = some a := atI_nat (j := 0) rfl
theorem atI_1 {α : Type} (a b : α) (l : List α) : atI (a :: b :: l) 1 = some b := atI_nat (j := 1) rfl
theorem atI_2 {α : Type} (a b c : α) (l : List α) : atI (a :: b :: c :: l) 2 = some c := atI_nat (j := 2) rfl
theorem outOf_nil (m : Nat) (ρ : Ev) : outOf [] m ρ = List.replicate m .un := by
  unfold outOf
  apply List.ext_getElem?
  intro i
  rw [List.getElem?_map]
  by_cases h : i < m
  · rw [List.getElem?_range h, List.getElem?_replicate, if_pos h]; rfl
  · rw [List.getElem?_eq_none (by rw [List.length_range]; omega), List.getElem?_replicate, if_neg h]; rfl
theorem asB_eq (b : Bool) (f : Bool → Prop) : asB (.bl b) f = f b := rfl
end Y
namespace Y
open PySem L2
/-! ### loops and comprehensions over encoded lists -/
theorem comp_gen {α : Type} {g : DG} {dt : DT} {de : DE} {vs : List Nat} {k : List D → Ev → Prop} {ρ : Ev} {e : α → D} {ρa : α → Ev} {p : α → Bool} {f : α → D} : ∀ {l : List α} {acc : List D},
    (∀ a ∈ l, ∀ K, g (e a) ρ K = K (ρa a)) → (∀ a ∈ l, ∀ K, dt xF (ρa a) K = K (p a) (ρa a)) → (∀ a ∈ l, p a = true → ∀ K, de xF (ρa a) K = K (f a) (ρa a)) → (∀ a ∈ l, wipeE (ρa a) vs = ρ) →
    dCompGo g dt de vs k (l.map e) acc ρ = k (acc ++ (l.filter p).map f) ρ
  | [], acc, _, _, _, _ => by
    show k acc ρ = k (acc ++ []) ρ
    rw [List.append_nil]
  | a :: l, acc, hg, ht, he, hw => by
    show g (e a) ρ (fun ρ1 => dt xF ρ1 fun b ρ2 => if b = true then de xF ρ2 fun z ρ3 => dCompGo g dt de vs k (l.map e) (acc ++ [z]) (wipeE ρ3 vs) else dCompGo g dt de vs k (l.map e) acc (wipeE ρ2 vs)) = _
    have m := List.mem_cons_self (a := a) (l := l)
    rw [hg a m, ht a m]
    have ih := fun acc' => comp_gen (g := g) (dt := dt) (de := de) (vs := vs) (k := k) (ρ := ρ) (e := e) (ρa := ρa) (p := p) (f := f) (l := l) (acc := acc') (fun b hb => hg b (List.mem_cons_of_mem _ hb)) (fun b hb => ht b (List.mem_cons_of_mem _ hb)) (fun b hb => he b (List.mem_cons_of_mem _ hb)) fun b hb => hw b (List.mem_cons_of_mem _ hb)
    cases hp : p a with
    | true =>
      rw [if_pos rfl, he a m hp, hw a m, ih, List.filter_cons, if_pos hp, List.map_cons, List.append_assoc]
      rfl
    | false =>
      rw [if_neg Bool.false_ne_true, hw a m, ih, List.filter_cons, if_neg (by rw [hp]; exact Bool.false_ne_true)]
theorem comp_map {α : Type} {g : DG} {de : DE} {vs : List Nat} {k : List D → Ev → Prop} {ρ : Ev} {e : α → D} {ρa : α → Ev} {f : α → D} {l : List α} {acc : List D}
    (hg : ∀ a ∈ l, ∀ K, g (e a) ρ K = K (ρa a)) (he : ∀ a ∈ l, ∀ K, de xF (ρa a) K = K (f a) (ρa a)) (hw : ∀ a ∈ l, wipeE (ρa a) vs = ρ) : dCompGo g dtYes de vs k (l.map e) acc ρ = k (acc ++ l.map f) ρ := by
  rw [comp_gen (p := fun _ => true) hg (fun _ _ _ => rfl) (fun a h _ => he a h) hw, List.filter_eq_self.mpr fun _ _ => rfl]
theorem loop_fold {α S : Type} {g : DG} {db : DS} {E : DEnds} {x : KX} {e : α → D} {R : S → Ev} {step : S → α → S} : ∀ {l : List α} {s : S}, (∀ s, ∀ a ∈ l, ∀ E', g (e a) (R s) (fun ρ1 => db E' x ρ1) = E'.nx (R (step s a))) →
    dLoop g db E x (l.map e) (R s) = E.nx (R (l.foldl step s))
  | [], s, _ => rfl
  | a :: l, s, h => by
    show g (e a) (R s) (fun ρ1 => db { E with nx := dLoop g db E x (l.map e), ct := dLoop g db E x (l.map e), bk := E.nx } x ρ1) = _
    rw [h s a List.mem_cons_self]
    exact loop_fold fun s b hb => h s b (List.mem_cons_of_mem _ hb)
theorem draw_ok {ss : List Int} {g n : Nat} {m : Int} {k : D → Ev → Prop} {x : KX} (h1 : ss.length = n) (h2 : n ≤ 63) (hm : 0 < m) (hm2 : m < 2 ^ 62) (hg : 1 ≤ g) (h : ∀ r : Int, 0 ≤ r → r < m → k (.int r) [.un, .town (g - 1) n, .un]) :
    drawF.go [.d (.scr ss), .town g n, .d (.int m)] k x := by
  obtain ⟨g', rfl⟩ : ∃ g', g = g' + 1 := ⟨g - 1, by omega⟩
  exact ⟨h1, h2, hm, hm2, h⟩
end Y
namespace Y
open PySem L2
theorem loop_I {α S : Type} {g : DG} {db : DS} {E : DEnds} {x : KX} {e : α → D} {R : S → Ev} {step : S → α → S} {I : List α → S → Prop}
    (h : ∀ a r s, I (a :: r) s → (∀ E' : DEnds, g (e a) (R s) (fun ρ1 => db E' x ρ1) = E'.nx (R (step s a))) ∧ I r (step s a)) : ∀ {l : List α} {s : S}, I l s → dLoop g db E x (l.map e) (R s) = E.nx (R (l.foldl step s))
  | [], s, _ => rfl
  | a :: l, s, hi => by
    show g (e a) (R s) (fun ρ1 => db { E with nx := dLoop g db E x (l.map e), ct := dLoop g db E x (l.map e), bk := E.nx } x ρ1) = _
    obtain ⟨h1, h2⟩ := h a l s hi
    rw [h1]
    exact loop_I h h2
theorem log2_lt {n a : Nat} (ha : 0 < a) (h : n < 2 ^ a) : n.log2 < a := by
  by_cases z : n = 0
  · subst z; simpa using ha
  · exact (Nat.log2_lt z).mpr h
theorem mulW {i j : Int} (a b : Nat) (ha : i.natAbs < 2 ^ a) (hb : j.natAbs < 2 ^ b) (h0 : 0 < a) (h1 : 0 < b) (h : a + b ≤ 1000000) : CMulW i j := by
  have h2 := log2_lt h0 ha
  have h3 := log2_lt h1 hb
  show i.natAbs.log2 + j.natAbs.log2 < 1000000
  omega
theorem blsOf_fn {α : Type} (p : α → Bool) (l : List α) : blsOf (l.map fun a => D.bl (p a)) = some (l.map p) := by
  have := blsOf_map (l.map p)
  rw [List.map_map] at this
  exact this
theorem intsOf_fn {α : Type} (p : α → Int) (l : List α) : intsOf (l.map fun a => D.int (p a)) = some (l.map p) := by
  have := intsOf_map (l.map p)
  rw [List.map_map] at this
  exact this
end Y
namespace Y
open PySem L2
/-! ### the words reckoned, where the values are known -/
def asL (d : D) (f : List D → Prop) : Prop := match d with
  | .lst l => f l
  | _ => False
def asT (d : D) (f : List D → Prop) : Prop := match d with
  | .tup l => f l
  | _ => False
def asI (d : D) (f : Int → Prop) : Prop := match d with
  | .int l => f l
  | _ => False
theorem asL_eq (l : List D) (f : List D → Prop) : asL (.lst l) f = f l := rfl
theorem asT_eq (l : List D) (f : List D → Prop) : asT (.tup l) f = f l := rfl
theorem asI_eq (l : Int) (f : Int → Prop) : asI (.int l) f = f l := rfl
theorem dVar_0 {x : KX} {ρ : Ev} {d : D} {k : D → Ev → Prop} : dVar 0 x (.d d :: ρ) k = k d (.d d :: ρ) := rfl
theorem dVar_1 {x : KX} {ρ : Ev} {d : D} {k : D → Ev → Prop} {s0 : SV} : dVar 1 x (s0 :: .d d :: ρ) k = k d (s0 :: .d d :: ρ) := rfl
theorem dVar_2 {x : KX} {ρ : Ev} {d : D} {k : D → Ev → Prop} {s0 s1 : SV} : dVar 2 x (s0 :: s1 :: .d d :: ρ) k = k d (s0 :: s1 :: .d d :: ρ) := rfl
theorem dVar_3 {x : KX} {ρ : Ev} {d : D} {k : D → Ev → Prop} {s0 s1 s2 : SV} : dVar 3 x (s0 :: s1 :: s2 :: .d d :: ρ) k = k d (s0 :: s1 :: s2 :: .d d :: ρ) := rfl
theorem dVar_4 {x : KX} {ρ : Ev} {d : D} {k : D → Ev → Prop} {s0 s1 s2 s3 : SV} : dVar 4 x (s0 :: s1 :: s2 :: s3 :: .d d :: ρ) k = k d (s0 :: s1 :: s2 :: s3 :: .d d :: ρ) := rfl
theorem dVar_5 {x : KX} {ρ : Ev} {d : D} {k : D → Ev → Prop} {s0 s1 s2 s3 s4 : SV} : dVar 5 x (s0 :: s1 :: s2 :: s3 :: s4 :: .d d :: ρ) k = k d (s0 :: s1 :: s2 :: s3 :: s4 :: .d d :: ρ) := rfl
theorem dVar_6 {x : KX} {ρ : Ev} {d : D} {k : D → Ev → Prop} {s0 s1 s2 s3 s4 s5 : SV} : dVar 6 x (s0 :: s1 :: s2 :: s3 :: s4 :: s5 :: .d d :: ρ) k = k d (s0 :: s1 :: s2 :: s3 :: s4 :: s5 :: .d d :: ρ) := rfl
theorem dVar_7 {x : KX} {ρ : Ev} {d : D} {k : D → Ev → Prop} {s0 s1 s2 s3 s4 s5 s6 : SV} : dVar 7 x (s0 :: s1 :: s2 :: s3 :: s4 :: s5 :: s6 :: .d d :: ρ) k = k d (s0 :: s1 :: s2 :: s3 :: s4 :: s5 :: s6 :: .d d :: ρ) := rfl
theorem dVar_8 {x : KX} {ρ : Ev} {d : D} {k : D → Ev → Prop} {s0 s1 s2 s3 s4 s5 s6 s7 : SV} : dVar 8 x (s0 :: s1 :: s2 :: s3 :: s4 :: s5 :: s6 :: s7 :: .d d :: ρ) k = k d (s0 :: s1 :: s2 :: s3 :: s4 :: s5 :: s6 :: s7 :: .d d :: ρ) := rfl
theorem dVar_9 {x : KX} {ρ : Ev} {d : D} {k : D → Ev → Prop} {s0 s1 s2 s3 s4 s5 s6 s7 s8 : SV} : dVar 9 x (s0 :: s1 :: s2 :: s3 :: s4 :: s5 :: s6 :: s7 :: s8 :: .d d :: ρ) k = k d (s0 :: s1 :: s2 :: s3 :: s4 :: s5 :: s6 :: s7 :: s8 :: .d d :: ρ) := rfl
theorem dVar_10 {x : KX} {ρ : Ev} {d : D} {k : D → Ev → Prop} {s0 s1 s2 s3 s4 s5 s6 s7 s8 s9 : SV} : dVar 10 x (s0 :: s1 :: s2 :: s3 :: s4 :: s5 :: s6 :: s7 :: s8 :: s9 :: .d d :: ρ) k = k d (s0 :: s1 :: s2 :: s3 :: s4 :: s5 :: s6 :: s7 :: s8 :: s9 :: .d d :: ρ) := rfl
theorem dVar_11 {x : KX} {ρ : Ev} {d : D} {k : D → Ev → Prop} {s0 s1 s2 s3 s4 s5 s6 s7 s8 s9 s10 : SV} : dVar 11 x (s0 :: s1 :: s2 :: s3 :: s4 :: s5 :: s6 :: s7 :: s8 :: s9 :: s10 :: .d d :: ρ) k = k d (s0 :: s1 :: s2 :: s3 :: s4 :: s5 :: s6 :: s7 :: s8 :: s9 :: s10 :: .d d :: ρ) := rfl
theorem dVar_12 {x : KX} {ρ : Ev} {d : D} {k : D → Ev → Prop} {s0 s1 s2 s3 s4 s5 s6 s7 s8 s9 s10 s11 : SV} : dVar 12 x (s0 :: s1 :: s2 :: s3 :: s4 :: s5 :: s6 :: s7 :: s8 :: s9 :: s10 :: s11 :: .d d :: ρ) k = k d (s0 :: s1 :: s2 :: s3 :: s4 :: s5 :: s6 :: s7 :: s8 :: s9 :: s10 :: s11 :: .d d :: ρ) := rfl
theorem dVar_13 {x : KX} {ρ : Ev} {d : D} {k : D → Ev → Prop} {s0 s1 s2 s3 s4 s5 s6 s7 s8 s9 s10 s11 s12 : SV} : dVar 13 x (s0 :: s1 :: s2 :: s3 :: s4 :: s5 :: s6 :: s7 :: s8 :: s9 :: s10 :: s11 :: s12 :: .d d :: ρ) k = k d (s0 :: s1 :: s2 :: s3 :: s4 :: s5 :: s6 :: s7 :: s8 :: s9 :: s10 :: s11 :: s12 :: .d d :: ρ) := rfl
theorem dVar_14 {x : KX} {ρ : Ev} {d : D} {k : D → Ev → Prop} {s0 s1 s2 s3 s4 s5 s6 s7 s8 s9 s10 s11 s12 s13 : SV} : dVar 14 x (s0 :: s1 :: s2 :: s3 :: s4 :: s5 :: s6 :: s7 :: s8 :: s9 :: s10 :: s11 :: s12 :: s13 :: .d d :: ρ) k = k d (s0 :: s1 :: s2 :: s3 :: s4 :: s5 :: s6 :: s7 :: s8 :: s9 :: s10 :: s11 :: s12 :: s13 :: .d d :: ρ) := rfl
theorem dVar_15 {x : KX} {ρ : Ev} {d : D} {k : D → Ev → Prop} {s0 s1 s2 s3 s4 s5 s6 s7 s8 s9 s10 s11 s12 s13 s14 : SV} : dVar 15 x (s0 :: s1 :: s2 :: s3 :: s4 :: s5 :: s6 :: s7 :: s8 :: s9 :: s10 :: s11 :: s12 :: s13 :: s14 :: .d d :: ρ) k = k d (s0 :: s1 :: s2 :: s3 :: s4 :: s5 :: s6 :: s7 :: s8 :: s9 :: s10 :: s11 :: s12 :: s13 :: s14 :: .d d :: ρ) := rfl
theorem dVar_16 {x : KX} {ρ : Ev} {d : D} {k : D → Ev → Prop} {s0 s1 s2 s3 s4 s5 s6 s7 s8 s9 s10 s11 s12 s13 s14 s15 : SV} : dVar 16 x (s0 :: s1 :: s2 :: s3 :: s4 :: s5 :: s6 :: s7 :: s8 :: s9 :: s10 :: s11 :: s12 :: s13 :: s14 :: s15 :: .d d :: ρ) k = k d (s0 :: s1 :: s2 :: s3 :: s4 :: s5 :: s6 :: s7 :: s8 :: s9 :: s10 :: s11 :: s12 :: s13 :: s14 :: s15 :: .d d :: ρ) := rfl
theorem dVar_17 {x : KX} {ρ : Ev} {d : D} {k : D → Ev → Prop} {s0 s1 s2 s3 s4 s5 s6 s7 s8 s9 s10 s11 s12 s13 s14 s15 s16 : SV} : dVar 17 x (s0 :: s1 :: s2 :: s3 :: s4 :: s5 :: s6 :: s7 :: s8 :: s9 :: s10 :: s11 :: s12 :: s13 :: s14 :: s15 :: s16 :: .d d :: ρ) k = k d (s0 :: s1 :: s2 :: s3 :: s4 :: s5 :: s6 :: s7 :: s8 :: s9 :: s10 :: s11 :: s12 :: s13 :: s14 :: s15 :: s16 :: .d d :: ρ) := rfl
theorem dVar_18 {x : KX} {ρ : Ev} {d : D} {k : D → Ev → Prop} {s0 s1 s2 s3 s4 s5 s6 s7 s8 s9 s10 s11 s12 s13 s14 s15 s16 s17 : SV} : dVar 18 x (s0 :: s1 :: s2 :: s3 :: s4 :: s5 :: s6 :: s7 :: s8 :: s9 :: s10 :: s11 :: s12 :: s13 :: s14 :: s15 :: s16 :: s17 :: .d d :: ρ) k = k d (s0 :: s1 :: s2 :: s3 :: s4 :: s5 :: s6 :: s7 :: s8 :: s9 :: s10 :: s11 :: s12 :: s13 :: s14 :: s15 :: s16 :: s17 :: .d d :: ρ) := rfl
theorem dVar_19 {x : KX} {ρ : Ev} {d : D} {k : D → Ev → Prop} {s0 s1 s2 s3 s4 s5 s6 s7 s8 s9 s10 s11 s12 s13 s14 s15 s16 s17 s18 : SV} : dVar 19 x (s0 :: s1 :: s2 :: s3 :: s4 :: s5 :: s6 :: s7 :: s8 :: s9 :: s10 :: s11 :: s12 :: s13 :: s14 :: s15 :: s16 :: s17 :: s18 :: .d d :: ρ) k = k d (s0 :: s1 :: s2 :: s3 :: s4 :: s5 :: s6 :: s7 :: s8 :: s9 :: s10 :: s11 :: s12 :: s13 :: s14 :: s15 :: s16 :: s17 :: s18 :: .d d :: ρ) := rfl
theorem dVar_20 {x : KX} {ρ : Ev} {d : D} {k : D → Ev → Prop} {s0 s1 s2 s3 s4 s5 s6 s7 s8 s9 s10 s11 s12 s13 s14 s15 s16 s17 s18 s19 : SV} : dVar 20 x (s0 :: s1 :: s2 :: s3 :: s4 :: s5 :: s6 :: s7 :: s8 :: s9 :: s10 :: s11 :: s12 :: s13 :: s14 :: s15 :: s16 :: s17 :: s18 :: s19 :: .d d :: ρ) k = k d (s0 :: s1 :: s2 :: s3 :: s4 :: s5 :: s6 :: s7 :: s8 :: s9 :: s10 :: s11 :: s12 :: s13 :: s14 :: s15 :: s16 :: s17 :: s18 :: s19 :: .d d :: ρ) := rfl
theorem dVar_21 {x : KX} {ρ : Ev} {d : D} {k : D → Ev → Prop} {s0 s1 s2 s3 s4 s5 s6 s7 s8 s9 s10 s11 s12 s13 s14 s15 s16 s17 s18 s19 s20 : SV} : dVar 21 x (s0 :: s1 :: s2 :: s3 :: s4 :: s5 :: s6 :: s7 :: s8 :: s9 :: s10 :: s11 :: s12 :: s13 :: s14 :: s15 :: s16 :: s17 :: s18 :: s19 :: s20 :: .d d :: ρ) k = k d (s0 :: s1 :: s2 :: s3 :: s4 :: s5 :: s6 :: s7 :: s8 :: s9 :: s10 :: s11 :: s12 :: s13 :: s14 :: s15 :: s16 :: s17 :: s18 :: s19 :: s20 :: .d d :: ρ) := rfl
theorem dVar_22 {x : KX} {ρ : Ev} {d : D} {k : D → Ev → Prop} {s0 s1 s2 s3 s4 s5 s6 s7 s8 s9 s10 s11 s12 s13 s14 s15 s16 s17 s18 s19 s20 s21 : SV} : dVar 22 x (s0 :: s1 :: s2 :: s3 :: s4 :: s5 :: s6 :: s7 :: s8 :: s9 :: s10 :: s11 :: s12 :: s13 :: s14 :: s15 :: s16 :: s17 :: s18 :: s19 :: s20 :: s21 :: .d d :: ρ) k = k d (s0 :: s1 :: s2 :: s3 :: s4 :: s5 :: s6 :: s7 :: s8 :: s9 :: s10 :: s11 :: s12 :: s13 :: s14 :: s15 :: s16 :: s17 :: s18 :: s19 :: s20 :: s21 :: .d d :: ρ) := rfl
theorem dVar_23 {x : KX} {ρ : Ev} {d : D} {k : D → Ev → Prop} {s0 s1 s2 s3 s4 s5 s6 s7 s8 s9 s10 s11 s12 s13 s14 s15 s16 s17 s18 s19 s20 s21 s22 : SV} : dVar 23 x (s0 :: s1 :: s2 :: s3 :: s4 :: s5 :: s6 :: s7 :: s8 :: s9 :: s10 :: s11 :: s12 :: s13 :: s14 :: s15 :: s16 :: s17 :: s18 :: s19 :: s20 :: s21 :: s22 :: .d d :: ρ) k = k d (s0 :: s1 :: s2 :: s3 :: s4 :: s5 :: s6 :: s7 :: s8 :: s9 :: s10 :: s11 :: s12 :: s13 :: s14 :: s15 :: s16 :: s17 :: s18 :: s19 :: s20 :: s21 :: s22 :: .d d :: ρ) := rfl
theorem dVar_24 {x : KX} {ρ : Ev} {d : D} {k : D → Ev → Prop} {s0 s1 s2 s3 s4 s5 s6 s7 s8 s9 s10 s11 s12 s13 s14 s15 s16 s17 s18 s19 s20 s21 s22 s23 : SV} : dVar 24 x (s0 :: s1 :: s2 :: s3 :: s4 :: s5 :: s6 :: s7 :: s8 :: s9 :: s10 :: s11 :: s12 :: s13 :: s14 :: s15 :: s16 :: s17 :: s18 :: s19 :: s20 :: s21 :: s22 :: s23 :: .d d :: ρ) k = k d (s0 :: s1 :: s2 :: s3 :: s4 :: s5 :: s6 :: s7 :: s8 :: s9 :: s10 :: s11 :: s12 :: s13 :: s14 :: s15 :: s16 :: s17 :: s18 :: s19 :: s20 :: s21 :: s22 :: s23 :: .d d :: ρ) := rfl
theorem dVar_25 {x : KX} {ρ : Ev} {d : D} {k : D → Ev → Prop} {s0 s1 s2 s3 s4 s5 s6 s7 s8 s9 s10 s11 s12 s13 s14 s15 s16 s17 s18 s19 s20 s21 s22 s23 s24 : SV} : dVar 25 x (s0 :: s1 :: s2 :: s3 :: s4 :: s5 :: s6 :: s7 :: s8 :: s9 :: s10 :: s11 :: s12 :: s13 :: s14 :: s15 :: s16 :: s17 :: s18 :: s19 :: s20 :: s21 :: s22 :: s23 :: s24 :: .d d :: ρ) k = k d (s0 :: s1 :: s2 :: s3 :: s4 :: s5 :: s6 :: s7 :: s8 :: s9 :: s10 :: s11 :: s12 :: s13 :: s14 :: s15 :: s16 :: s17 :: s18 :: s19 :: s20 :: s21 :: s22 :: s23 :: s24 :: .d d :: ρ) := rfl
theorem dFrz_0 {x : KX} {ρ : Ev} {l : List D} {k : D → Ev → Prop} : dFrz 0 x (.own l :: ρ) k = k (.lst l) (List.set (.own l :: ρ) 0 (.d (.lst l))) := rfl
theorem dFrz_1 {x : KX} {ρ : Ev} {l : List D} {k : D → Ev → Prop} {s0 : SV} : dFrz 1 x (s0 :: .own l :: ρ) k = k (.lst l) (List.set (s0 :: .own l :: ρ) 1 (.d (.lst l))) := rfl
theorem dFrz_2 {x : KX} {ρ : Ev} {l : List D} {k : D → Ev → Prop} {s0 s1 : SV} : dFrz 2 x (s0 :: s1 :: .own l :: ρ) k = k (.lst l) (List.set (s0 :: s1 :: .own l :: ρ) 2 (.d (.lst l))) := rfl
theorem dFrz_3 {x : KX} {ρ : Ev} {l : List D} {k : D → Ev → Prop} {s0 s1 s2 : SV} : dFrz 3 x (s0 :: s1 :: s2 :: .own l :: ρ) k = k (.lst l) (List.set (s0 :: s1 :: s2 :: .own l :: ρ) 3 (.d (.lst l))) := rfl
theorem dFrz_4 {x : KX} {ρ : Ev} {l : List D} {k : D → Ev → Prop} {s0 s1 s2 s3 : SV} : dFrz 4 x (s0 :: s1 :: s2 :: s3 :: .own l :: ρ) k = k (.lst l) (List.set (s0 :: s1 :: s2 :: s3 :: .own l :: ρ) 4 (.d (.lst l))) := rfl
theorem dFrz_5 {x : KX} {ρ : Ev} {l : List D} {k : D → Ev → Prop} {s0 s1 s2 s3 s4 : SV} : dFrz 5 x (s0 :: s1 :: s2 :: s3 :: s4 :: .own l :: ρ) k = k (.lst l) (List.set (s0 :: s1 :: s2 :: s3 :: s4 :: .own l :: ρ) 5 (.d (.lst l))) := rfl
theorem dFrz_6 {x : KX} {ρ : Ev} {l : List D} {k : D → Ev → Prop} {s0 s1 s2 s3 s4 s5 : SV} : dFrz 6 x (s0 :: s1 :: s2 :: s3 :: s4 :: s5 :: .own l :: ρ) k = k (.lst l) (List.set (s0 :: s1 :: s2 :: s3 :: s4 :: s5 :: .own l :: ρ) 6 (.d (.lst l))) := rfl
theorem dFrz_7 {x : KX} {ρ : Ev} {l : List D} {k : D → Ev → Prop} {s0 s1 s2 s3 s4 s5 s6 : SV} : dFrz 7 x (s0 :: s1 :: s2 :: s3 :: s4 :: s5 :: s6 :: .own l :: ρ) k = k (.lst l) (List.set (s0 :: s1 :: s2 :: s3 :: s4 :: s5 :: s6 :: .own l :: ρ) 7 (.d (.lst l))) := rfl
theorem dFrz_8 {x : KX} {ρ : Ev} {l : List D} {k : D → Ev → Prop} {s0 s1 s2 s3 s4 s5 s6 s7 : SV} : dFrz 8 x (s0 :: s1 :: s2 :: s3 :: s4 :: s5 :: s6 :: s7 :: .own l :: ρ) k = k (.lst l) (List.set (s0 :: s1 :: s2 :: s3 :: s4 :: s5 :: s6 :: s7 :: .own l :: ρ) 8 (.d (.lst l))) := rfl
theorem dFrz_9 {x : KX} {ρ : Ev} {l : List D} {k : D → Ev → Prop} {s0 s1 s2 s3 s4 s5 s6 s7 s8 : SV} : dFrz 9 x (s0 :: s1 :: s2 :: s3 :: s4 :: s5 :: s6 :: s7 :: s8 :: .own l :: ρ) k = k (.lst l) (List.set (s0 :: s1 :: s2 :: s3 :: s4 :: s5 :: s6 :: s7 :: s8 :: .own l :: ρ) 9 (.d (.lst l))) := rfl
theorem dFrz_10 {x : KX} {ρ : Ev} {l : List D} {k : D → Ev → Prop} {s0 s1 s2 s3 s4 s5 s6 s7 s8 s9 : SV} : dFrz 10 x (s0 :: s1 :: s2 :: s3 :: s4 :: s5 :: s6 :: s7 :: s8 :: s9 :: .own l :: ρ) k = k (.lst l) (List.set (s0 :: s1 :: s2 :: s3 :: s4 :: s5 :: s6 :: s7 :: s8 :: s9 :: .own l :: ρ) 10 (.d (.lst l))) := rfl
theorem dFrz_11 {x : KX} {ρ : Ev} {l : List D} {k : D → Ev → Prop} {s0 s1 s2 s3 s4 s5 s6 s7 s8 s9 s10 : SV} : dFrz 11 x (s0 :: s1 :: s2 :: s3 :: s4 :: s5 :: s6 :: s7 :: s8 :: s9 :: s10 :: .own l :: ρ) k = k (.lst l) (List.set (s0 :: s1 :: s2 :: s3 :: s4 :: s5 :: s6 :: s7 :: s8 :: s9 :: s10 :: .own l :: ρ) 11 (.d (.lst l))) := rfl
theorem dFrz_12 {x : KX} {ρ : Ev} {l : List D} {k : D → Ev → Prop} {s0 s1 s2 s3 s4 s5 s6 s7 s8 s9 s10 s11 : SV} : dFrz 12 x (s0 :: s1 :: s2 :: s3 :: s4 :: s5 :: s6 :: s7 :: s8 :: s9 :: s10 :: s11 :: .own l :: ρ) k = k (.lst l) (List.set (s0 :: s1 :: s2 :: s3 :: s4 :: s5 :: s6 :: s7 :: s8 :: s9 :: s10 :: s11 :: .own l :: ρ) 12 (.d (.lst l))) := rfl
theorem dFrz_13 {x : KX} {ρ : Ev} {l : List D} {k : D → Ev → Prop} {s0 s1 s2 s3 s4 s5 s6 s7 s8 s9 s10 s11 s12 : SV} : dFrz 13 x (s0 :: s1 :: s2 :: s3 :: s4 :: s5 :: s6 :: s7 :: s8 :: s9 :: s10 :: s11 :: s12 :: .own l :: ρ) k = k (.lst l) (List.set (s0 :: s1 :: s2 :: s3 :: s4 :: s5 :: s6 :: s7 :: s8 :: s9 :: s10 :: s11 :: s12 :: .own l :: ρ) 13 (.d (.lst l))) := rfl
theorem dFrz_14 {x : KX} {ρ : Ev} {l : List D} {k : D → Ev → Prop} {s0 s1 s2 s3 s4 s5 s6 s7 s8 s9 s10 s11 s12 s13 : SV} : dFrz 14 x (s0 :: s1 :: s2 :: s3 :: s4 :: s5 :: s6 :: s7 :: s8 :: s9 :: s10 :: s11 :: s12 :: s13 :: .own l :: ρ) k = k (.lst l) (List.set (s0 :: s1 :: s2 :: s3 :: s4 :: s5 :: s6 :: s7 :: s8 :: s9 :: s10 :: s11 :: s12 :: s13 :: .own l :: ρ) 14 (.d (.lst l))) := rfl
theorem dFrz_15 {x : KX} {ρ : Ev} {l : List D} {k : D → Ev → Prop} {s0 s1 s2 s3 s4 s5 s6 s7 s8 s9 s10 s11 s12 s13 s14 : SV} : dFrz 15 x (s0 :: s1 :: s2 :: s3 :: s4 :: s5 :: s6 :: s7 :: s8 :: s9 :: s10 :: s11 :: s12 :: s13 :: s14 :: .own l :: ρ) k = k (.lst l) (List.set (s0 :: s1 :: s2 :: s3 :: s4 :: s5 :: s6 :: s7 :: s8 :: s9 :: s10 :: s11 :: s12 :: s13 :: s14 :: .own l :: ρ) 15 (.d (.lst l))) := rfl
theorem dFrz_16 {x : KX} {ρ : Ev} {l : List D} {k : D → Ev → Prop} {s0 s1 s2 s3 s4 s5 s6 s7 s8 s9 s10 s11 s12 s13 s14 s15 : SV} : dFrz 16 x (s0 :: s1 :: s2 :: s3 :: s4 :: s5 :: s6 :: s7 :: s8 :: s9 :: s10 :: s11 :: s12 :: s13 :: s14 :: s15 :: .own l :: ρ) k = k (.lst l) (List.set (s0 :: s1 :: s2 :: s3 :: s4 :: s5 :: s6 :: s7 :: s8 :: s9 :: s10 :: s11 :: s12 :: s13 :: s14 :: s15 :: .own l :: ρ) 16 (.d (.lst l))) := rfl
theorem dFrz_17 {x : KX} {ρ : Ev} {l : List D} {k : D → Ev → Prop} {s0 s1 s2 s3 s4 s5 s6 s7 s8 s9 s10 s11 s12 s13 s14 s15 s16 : SV} : dFrz 17 x (s0 :: s1 :: s2 :: s3 :: s4 :: s5 :: s6 :: s7 :: s8 :: s9 :: s10 :: s11 :: s12 :: s13 :: s14 :: s15 :: s16 :: .own l :: ρ) k = k (.lst l) (List.set (s0 :: s1 :: s2 :: s3 :: s4 :: s5 :: s6 :: s7 :: s8 :: s9 :: s10 :: s11 :: s12 :: s13 :: s14 :: s15 :: s16 :: .own l :: ρ) 17 (.d (.lst l))) := rfl
theorem dFrz_18 {x : KX} {ρ : Ev} {l : List D} {k : D → Ev → Prop} {s0 s1 s2 s3 s4 s5 s6 s7 s8 s9 s10 s11 s12 s13 s14 s15 s16 s17 : SV} : dFrz 18 x (s0 :: s1 :: s2 :: s3 :: s4 :: s5 :: s6 :: s7 :: s8 :: s9 :: s10 :: s11 :: s12 :: s13 :: s14 :: s15 :: s16 :: s17 :: .own l :: ρ) k = k (.lst l) (List.set (s0 :: s1 :: s2 :: s3 :: s4 :: s5 :: s6 :: s7 :: s8 :: s9 :: s10 :: s11 :: s12 :: s13 :: s14 :: s15 :: s16 :: s17 :: .own l :: ρ) 18 (.d (.lst l))) := rfl
theorem dFrz_19 {x : KX} {ρ : Ev} {l : List D} {k : D → Ev → Prop} {s0 s1 s2 s3 s4 s5 s6 s7 s8 s9 s10 s11 s12 s13 s14 s15 s16 s17 s18 : SV} : dFrz 19 x (s0 :: s1 :: s2 :: s3 :: s4 :: s5 :: s6 :: s7 :: s8 :: s9 :: s10 :: s11 :: s12 :: s13 :: s14 :: s15 :: s16 :: s17 :: s18 :: .own l :: ρ) k = k (.lst l) (List.set (s0 :: s1 :: s2 :: s3 :: s4 :: s5 :: s6 :: s7 :: s8 :: s9 :: s10 :: s11 :: s12 :: s13 :: s14 :: s15 :: s16 :: s17 :: s18 :: .own l :: ρ) 19 (.d (.lst l))) := rfl
theorem dFrz_20 {x : KX} {ρ : Ev} {l : List D} {k : D → Ev → Prop} {s0 s1 s2 s3 s4 s5 s6 s7 s8 s9 s10 s11 s12 s13 s14 s15 s16 s17 s18 s19 : SV} : dFrz 20 x (s0 :: s1 :: s2 :: s3 :: s4 :: s5 :: s6 :: s7 :: s8 :: s9 :: s10 :: s11 :: s12 :: s13 :: s14 :: s15 :: s16 :: s17 :: s18 :: s19 :: .own l :: ρ) k = k (.lst l) (List.set (s0 :: s1 :: s2 :: s3 :: s4 :: s5 :: s6 :: s7 :: s8 :: s9 :: s10 :: s11 :: s12 :: s13 :: s14 :: s15 :: s16 :: s17 :: s18 :: s19 :: .own l :: ρ) 20 (.d (.lst l))) := rfl
theorem dFrz_21 {x : KX} {ρ : Ev} {l : List D} {k : D → Ev → Prop} {s0 s1 s2 s3 s4 s5 s6 s7 s8 s9 s10 s11 s12 s13 s14 s15 s16 s17 s18 s19 s20 : SV} : dFrz 21 x (s0 :: s1 :: s2 :: s3 :: s4 :: s5 :: s6 :: s7 :: s8 :: s9 :: s10 :: s11 :: s12 :: s13 :: s14 :: s15 :: s16 :: s17 :: s18 :: s19 :: s20 :: .own l :: ρ) k = k (.lst l) (List.set (s0 :: s1 :: s2 :: s3 :: s4 :: s5 :: s6 :: s7 :: s8 :: s9 :: s10 :: s11 :: s12 :: s13 :: s14 :: s15 :: s16 :: s17 :: s18 :: s19 :: s20 :: .own l :: ρ) 21 (.d (.lst l))) := rfl
theorem dFrz_22 {x : KX} {ρ : Ev} {l : List D} {k : D → Ev → Prop} {s0 s1 s2 s3 s4 s5 s6 s7 s8 s9 s10 s11 s12 s13 s14 s15 s16 s17 s18 s19 s20 s21 : SV} : dFrz 22 x (s0 :: s1 :: s2 :: s3 :: s4 :: s5 :: s6 :: s7 :: s8 :: s9 :: s10 :: s11 :: s12 :: s13 :: s14 :: s15 :: s16 :: s17 :: s18 :: s19 :: s20 :: s21 :: .own l :: ρ) k = k (.lst l) (List.set (s0 :: s1 :: s2 :: s3 :: s4 :: s5 :: s6 :: s7 :: s8 :: s9 :: s10 :: s11 :: s12 :: s13 :: s14 :: s15 :: s16 :: s17 :: s18 :: s19 :: s20 :: s21 :: .own l :: ρ) 22 (.d (.lst l))) := rfl
theorem dFrz_23 {x : KX} {ρ : Ev} {l : List D} {k : D → Ev → Prop} {s0 s1 s2 s3 s4 s5 s6 s7 s8 s9 s10 s11 s12 s13 s14 s15 s16 s17 s18 s19 s20 s21 s22 : SV} : dFrz 23 x (s0 :: s1 :: s2 :: s3 :: s4 :: s5 :: s6 :: s7 :: s8 :: s9 :: s10 :: s11 :: s12 :: s13 :: s14 :: s15 :: s16 :: s17 :: s18 :: s19 :: s20 :: s21 :: s22 :: .own l :: ρ) k = k (.lst l) (List.set (s0 :: s1 :: s2 :: s3 :: s4 :: s5 :: s6 :: s7 :: s8 :: s9 :: s10 :: s11 :: s12 :: s13 :: s14 :: s15 :: s16 :: s17 :: s18 :: s19 :: s20 :: s21 :: s22 :: .own l :: ρ) 23 (.d (.lst l))) := rfl
theorem dFrz_24 {x : KX} {ρ : Ev} {l : List D} {k : D → Ev → Prop} {s0 s1 s2 s3 s4 s5 s6 s7 s8 s9 s10 s11 s12 s13 s14 s15 s16 s17 s18 s19 s20 s21 s22 s23 : SV} : dFrz 24 x (s0 :: s1 :: s2 :: s3 :: s4 :: s5 :: s6 :: s7 :: s8 :: s9 :: s10 :: s11 :: s12 :: s13 :: s14 :: s15 :: s16 :: s17 :: s18 :: s19 :: s20 :: s21 :: s22 :: s23 :: .own l :: ρ) k = k (.lst l) (List.set (s0 :: s1 :: s2 :: s3 :: s4 :: s5 :: s6 :: s7 :: s8 :: s9 :: s10 :: s11 :: s12 :: s13 :: s14 :: s15 :: s16 :: s17 :: s18 :: s19 :: s20 :: s21 :: s22 :: s23 :: .own l :: ρ) 24 (.d (.lst l))) := rfl
theorem dFrz_25 {x : KX} {ρ : Ev} {l : List D} {k : D → Ev → Prop} {s0 s1 s2 s3 s4 s5 s6 s7 s8 s9 s10 s11 s12 s13 s14 s15 s16 s17 s18 s19 s20 s21 s22 s23 s24 : SV} : dFrz 25 x (s0 :: s1 :: s2 :: s3 :: s4 :: s5 :: s6 :: s7 :: s8 :: s9 :: s10 :: s11 :: s12 :: s13 :: s14 :: s15 :: s16 :: s17 :: s18 :: s19 :: s20 :: s21 :: s22 :: s23 :: s24 :: .own l :: ρ) k = k (.lst l) (List.set (s0 :: s1 :: s2 :: s3 :: s4 :: s5 :: s6 :: s7 :: s8 :: s9 :: s10 :: s11 :: s12 :: s13 :: s14 :: s15 :: s16 :: s17 :: s18 :: s19 :: s20 :: s21 :: s22 :: s23 :: s24 :: .own l :: ρ) 25 (.d (.lst l))) := rfl
theorem dBor_0 {x : KX} {ρ : Ev} {l : List D} {de : DE} {k : D → Ev → Prop} : dBor 0 de x (.own l :: ρ) k = de xF (List.set (hide (.own l :: ρ)) 0 (.d (.lst l))) (fun d _ => flatD d = true ∧ k d (.own l :: ρ)) := rfl
theorem dBor_1 {x : KX} {ρ : Ev} {l : List D} {de : DE} {k : D → Ev → Prop} {s0 : SV} : dBor 1 de x (s0 :: .own l :: ρ) k = de xF (List.set (hide (s0 :: .own l :: ρ)) 1 (.d (.lst l))) (fun d _ => flatD d = true ∧ k d (s0 :: .own l :: ρ)) := rfl
theorem dBor_2 {x : KX} {ρ : Ev} {l : List D} {de : DE} {k : D → Ev → Prop} {s0 s1 : SV} : dBor 2 de x (s0 :: s1 :: .own l :: ρ) k = de xF (List.set (hide (s0 :: s1 :: .own l :: ρ)) 2 (.d (.lst l))) (fun d _ => flatD d = true ∧ k d (s0 :: s1 :: .own l :: ρ)) := rfl
theorem dBor_3 {x : KX} {ρ : Ev} {l : List D} {de : DE} {k : D → Ev → Prop} {s0 s1 s2 : SV} : dBor 3 de x (s0 :: s1 :: s2 :: .own l :: ρ) k = de xF (List.set (hide (s0 :: s1 :: s2 :: .own l :: ρ)) 3 (.d (.lst l))) (fun d _ => flatD d = true ∧ k d (s0 :: s1 :: s2 :: .own l :: ρ)) := rfl
theorem dBor_4 {x : KX} {ρ : Ev} {l : List D} {de : DE} {k : D → Ev → Prop} {s0 s1 s2 s3 : SV} : dBor 4 de x (s0 :: s1 :: s2 :: s3 :: .own l :: ρ) k = de xF (List.set (hide (s0 :: s1 :: s2 :: s3 :: .own l :: ρ)) 4 (.d (.lst l))) (fun d _ => flatD d = true ∧ k d (s0 :: s1 :: s2 :: s3 :: .own l :: ρ)) := rfl
theorem dBor_5 {x : KX} {ρ : Ev} {l : List D} {de : DE} {k : D → Ev → Prop} {s0 s1 s2 s3 s4 : SV} : dBor 5 de x (s0 :: s1 :: s2 :: s3 :: s4 :: .own l :: ρ) k = de xF (List.set (hide (s0 :: s1 :: s2 :: s3 :: s4 :: .own l :: ρ)) 5 (.d (.lst l))) (fun d _ => flatD d = true ∧ k d (s0 :: s1 :: s2 :: s3 :: s4 :: .own l :: ρ)) := rfl
theorem dBor_6 {x : KX} {ρ : Ev} {l : List D} {de : DE} {k : D → Ev → Prop} {s0 s1 s2 s3 s4 s5 : SV} : dBor 6 de x (s0 :: s1 :: s2 :: s3 :: s4 :: s5 :: .own l :: ρ) k = de xF (List.set (hide (s0 :: s1 :: s2 :: s3 :: s4 :: s5 :: .own l :: ρ)) 6 (.d (.lst l))) (fun d _ => flatD d = true ∧ k d (s0 :: s1 :: s2 :: s3 :: s4 :: s5 :: .own l :: ρ)) := rfl
theorem dBor_7 {x : KX} {ρ : Ev} {l : List D} {de : DE} {k : D → Ev → Prop} {s0 s1 s2 s3 s4 s5 s6 : SV} : dBor 7 de x (s0 :: s1 :: s2 :: s3 :: s4 :: s5 :: s6 :: .own l :: ρ) k = de xF (List.set (hide (s0 :: s1 :: s2 :: s3 :: s4 :: s5 :: s6 :: .own l :: ρ)) 7 (.d (.lst l))) (fun d _ => flatD d = true ∧ k d (s0 :: s1 :: s2 :: s3 :: s4 :: s5 :: s6 :: .own l :: ρ)) := rfl
theorem dBor_8 {x : KX} {ρ : Ev} {l : List D} {de : DE} {k : D → Ev → Prop} {s0 s1 s2 s3 s4 s5 s6 s7 : SV} : dBor 8 de x (s0 :: s1 :: s2 :: s3 :: s4 :: s5 :: s6 :: s7 :: .own l :: ρ) k = de xF (List.set (hide (s0 :: s1 :: s2 :: s3 :: s4 :: s5 :: s6 :: s7 :: .own l :: ρ)) 8 (.d (.lst l))) (fun d _ => flatD d = true ∧ k d (s0 :: s1 :: s2 :: s3 :: s4 :: s5 :: s6 :: s7 :: .own l :: ρ)) := rfl
theorem dBor_9 {x : KX} {ρ : Ev} {l : List D} {de : DE} {k : D → Ev → Prop} {s0 s1 s2 s3 s4 s5 s6 s7 s8 : SV} : dBor 9 de x (s0 :: s1 :: s2 :: s3 :: s4 :: s5 :: s6 :: s7 :: s8 :: .own l :: ρ) k = de xF (List.set (hide (s0 :: s1 :: s2 :: s3 :: s4 :: s5 :: s6 :: s7 :: s8 :: .own l :: ρ)) 9 (.d (.lst l))) (fun d _ => flatD d = true ∧ k d (s0 :: s1 :: s2 :: s3 :: s4 :: s5 :: s6 :: s7 :: s8 :: .own l :: ρ)) := rfl
theorem dBor_10 {x : KX} {ρ : Ev} {l : List D} {de : DE} {k : D → Ev → Prop} {s0 s1 s2 s3 s4 s5 s6 s7 s8 s9 : SV} : dBor 10 de x (s0 :: s1 :: s2 :: s3 :: s4 :: s5 :: s6 :: s7 :: s8 :: s9 :: .own l :: ρ) k = de xF (List.set (hide (s0 :: s1 :: s2 :: s3 :: s4 :: s5 :: s6 :: s7 :: s8 :: s9 :: .own l :: ρ)) 10 (.d (.lst l))) (fun d _ => flatD d = true ∧ k d (s0 :: s1 :: s2 :: s3 :: s4 :: s5 :: s6 :: s7 :: s8 :: s9 :: .own l :: ρ)) := rfl
theorem dBor_11 {x : KX} {ρ : Ev} {l : List D} {de : DE} {k : D → Ev → Prop} {s0 s1 s2 s3 s4 s5 s6 s7 s8 s9 s10 : SV} : dBor 11 de x (s0 :: s1 :: s2 :: s3 :: s4 :: s5 :: s6 :: s7 :: s8 :: s9 :: s10 :: .own l :: ρ) k = de xF (List.set (hide (s0 :: s1 :: s2 :: s3 :: s4 :: s5 :: s6 :: s7 :: s8 :: s9 :: s10 :: .own l :: ρ)) 11 (.d (.lst l))) (fun d _ => flatD d = true ∧ k d (s0 :: s1 :: s2 :: s3 :: s4 :: s5 :: s6 :: s7 :: s8 :: s9 :: s10 :: .own l :: ρ)) := rfl
theorem dBor_12 {x : KX} {ρ : Ev} {l : List D} {de : DE} {k : D → Ev → Prop} {s0 s1 s2 s3 s4 s5 s6 s7 s8 s9 s10 s11 : SV} : dBor 12 de x (s0 :: s1 :: s2 :: s3 :: s4 :: s5 :: s6 :: s7 :: s8 :: s9 :: s10 :: s11 :: .own l :: ρ) k = de xF (List.set (hide (s0 :: s1 :: s2 :: s3 :: s4 :: s5 :: s6 :: s7 :: s8 :: s9 :: s10 :: s11 :: .own l :: ρ)) 12 (.d (.lst l))) (fun d _ => flatD d = true ∧ k d (s0 :: s1 :: s2 :: s3 :: s4 :: s5 :: s6 :: s7 :: s8 :: s9 :: s10 :: s11 :: .own l :: ρ)) := rfl
theorem dBor_13 {x : KX} {ρ : Ev} {l : List D} {de : DE} {k : D → Ev → Prop} {s0 s1 s2 s3 s4 s5 s6 s7 s8 s9 s10 s11 s12 : SV} : dBor 13 de x (s0 :: s1 :: s2 :: s3 :: s4 :: s5 :: s6 :: s7 :: s8 :: s9 :: s10 :: s11 :: s12 :: .own l :: ρ) k = de xF (List.set (hide (s0 :: s1 :: s2 :: s3 :: s4 :: s5 :: s6 :: s7 :: s8 :: s9 :: s10 :: s11 :: s12 :: .own l :: ρ)) 13 (.d (.lst l))) (fun d _ => flatD d = true ∧ k d (s0 :: s1 :: s2 :: s3 :: s4 :: s5 :: s6 :: s7 :: s8 :: s9 :: s10 :: s11 :: s12 :: .own l :: ρ)) := rfl
theorem dBor_14 {x : KX} {ρ : Ev} {l : List D} {de : DE} {k : D → Ev → Prop} {s0 s1 s2 s3 s4 s5 s6 s7 s8 s9 s10 s11 s12 s13 : SV} : dBor 14 de x (s0 :: s1 :: s2 :: s3 :: s4 :: s5 :: s6 :: s7 :: s8 :: s9 :: s10 :: s11 :: s12 :: s13 :: .own l :: ρ) k = de xF (List.set (hide (s0 :: s1 :: s2 :: s3 :: s4 :: s5 :: s6 :: s7 :: s8 :: s9 :: s10 :: s11 :: s12 :: s13 :: .own l :: ρ)) 14 (.d (.lst l))) (fun d _ => flatD d = true ∧ k d (s0 :: s1 :: s2 :: s3 :: s4 :: s5 :: s6 :: s7 :: s8 :: s9 :: s10 :: s11 :: s12 :: s13 :: .own l :: ρ)) := rfl
theorem dBor_15 {x : KX} {ρ : Ev} {l : List D} {de : DE} {k : D → Ev → Prop} {s0 s1 s2 s3 s4 s5 s6 s7 s8 s9 s10 s11 s12 s13 s14 : SV} : dBor 15 de x (s0 :: s1 :: s2 :: s3 :: s4 :: s5 :: s6 :: s7 :: s8 :: s9 :: s10 :: s11 :: s12 :: s13 :: s14 :: .own l :: ρ) k = de xF (List.set (hide (s0 :: s1 :: s2 :: s3 :: s4 :: s5 :: s6 :: s7 :: s8 :: s9 :: s10 :: s11 :: s12 :: s13 :: s14 :: .own l :: ρ)) 15 (.d (.lst l))) (fun d _ => flatD d = true ∧ k d (s0 :: s1 :: s2 :: s3 :: s4 :: s5 :: s6 :: s7 :: s8 :: s9 :: s10 :: s11 :: s12 :: s13 :: s14 :: .own l :: ρ)) := rfl
theorem dBor_16 {x : KX} {ρ : Ev} {l : List D} {de : DE} {k : D → Ev → Prop} {s0 s1 s2 s3 s4 s5 s6 s7 s8 s9 s10 s11 s12 s13 s14 s15 : SV} : dBor 16 de x (s0 :: s1 :: s2 :: s3 :: s4 :: s5 :: s6 :: s7 :: s8 :: s9 :: s10 :: s11 :: s12 :: s13 :: s14 :: s15 :: .own l :: ρ) k = de xF (List.set (hide (s0 :: s1 :: s2 :: s3 :: s4 :: s5 :: s6 :: s7 :: s8 :: s9 :: s10 :: s11 :: s12 :: s13 :: s14 :: s15 :: .own l :: ρ)) 16 (.d (.lst l))) (fun d _ => flatD d = true ∧ k d (s0 :: s1 :: s2 :: s3 :: s4 :: s5 :: s6 :: s7 :: s8 :: s9 :: s10 :: s11 :: s12 :: s13 :: s14 :: s15 :: .own l :: ρ)) := rfl
theorem dBor_17 {x : KX} {ρ : Ev} {l : List D} {de : DE} {k : D → Ev → Prop} {s0 s1 s2 s3 s4 s5 s6 s7 s8 s9 s10 s11 s12 s13 s14 s15 s16 : SV} : dBor 17 de x (s0 :: s1 :: s2 :: s3 :: s4 :: s5 :: s6 :: s7 :: s8 :: s9 :: s10 :: s11 :: s12 :: s13 :: s14 :: s15 :: s16 :: .own l :: ρ) k = de xF (List.set (hide (s0 :: s1 :: s2 :: s3 :: s4 :: s5 :: s6 :: s7 :: s8 :: s9 :: s10 :: s11 :: s12 :: s13 :: s14 :: s15 :: s16 :: .own l :: ρ)) 17 (.d (.lst l))) (fun d _ => flatD d = true ∧ k d (s0 :: s1 :: s2 :: s3 :: s4 :: s5 :: s6 :: s7 :: s8 :: s9 :: s10 :: s11 :: s12 :: s13 :: s14 :: s15 :: s16 :: .own l :: ρ)) := rfl
theorem dBor_18 {x : KX} {ρ : Ev} {l : List D} {de : DE} {k : D → Ev → Prop} {s0 s1 s2 s3 s4 s5 s6 s7 s8 s9 s10 s11 s12 s13 s14 s15 s16 s17 : SV} : dBor 18 de x (s0 :: s1 :: s2 :: s3 :: s4 :: s5 :: s6 :: s7 :: s8 :: s9 :: s10 :: s11 :: s12 :: s13 :: s14 :: s15 :: s16 :: s17 :: .own l :: ρ) k = de xF (List.set (hide (s0 :: s1 :: s2 :: s3 :: s4 :: s5 :: s6 :: s7 :: s8 :: s9 :: s10 :: s11 :: s12 :: s13 :: s14 :: s15 :: s16 :: s17 :: .own l :: ρ)) 18 (.d (.lst l))) (fun d _ => flatD d = true ∧ k d (s0 :: s1 :: s2 :: s3 :: s4 :: s5 :: s6 :: s7 :: s8 :: s9 :: s10 :: s11 :: s12 :: s13 :: s14 :: s15 :: s16 :: s17 :: .own l :: ρ)) := rfl
theorem dBor_19 {x : KX} {ρ : Ev} {l : List D} {de : DE} {k : D → Ev → Prop} {s0 s1 s2 s3 s4 s5 s6 s7 s8 s9 s10 s11 s12 s13 s14 s15 s16 s17 s18 : SV} : dBor 19 de x (s0 :: s1 :: s2 :: s3 :: s4 :: s5 :: s6 :: s7 :: s8 :: s9 :: s10 :: s11 :: s12 :: s13 :: s14 :: s15 :: s16 :: s17 :: s18 :: .own l :: ρ) k = de xF (List.set (hide (s0 :: s1 :: s2 :: s3 :: s4 :: s5 :: s6 :: s7 :: s8 :: s9 :: s10 :: s11 :: s12 :: s13 :: s14 :: s15 :: s16 :: s17 :: s18 :: .own l :: ρ)) 19 (.d (.lst l))) (fun d _ => flatD d = true ∧ k d (s0 :: s1 :: s2 :: s3 :: s4 :: s5 :: s6 :: s7 :: s8 :: s9 :: s10 :: s11 :: s12 :: s13 :: s14 :: s15 :: s16 :: s17 :: s18 :: .own l :: ρ)) := rfl
theorem dBor_20 {x : KX} {ρ : Ev} {l : List D} {de : DE} {k : D → Ev → Prop} {s0 s1 s2 s3 s4 s5 s6 s7 s8 s9 s10 s11 s12 s13 s14 s15 s16 s17 s18 s19 : SV} : dBor 20 de x (s0 :: s1 :: s2 :: s3 :: s4 :: s5 :: s6 :: s7 :: s8 :: s9 :: s10 :: s11 :: s12 :: s13 :: s14 :: s15 :: s16 :: s17 :: s18 :: s19 :: .own l :: ρ) k = de xF (List.set (hide (s0 :: s1 :: s2 :: s3 :: s4 :: s5 :: s6 :: s7 :: s8 :: s9 :: s10 :: s11 :: s12 :: s13 :: s14 :: s15 :: s16 :: s17 :: s18 :: s19 :: .own l :: ρ)) 20 (.d (.lst l))) (fun d _ => flatD d = true ∧ k d (s0 :: s1 :: s2 :: s3 :: s4 :: s5 :: s6 :: s7 :: s8 :: s9 :: s10 :: s11 :: s12 :: s13 :: s14 :: s15 :: s16 :: s17 :: s18 :: s19 :: .own l :: ρ)) := rfl
theorem dBor_21 {x : KX} {ρ : Ev} {l : List D} {de : DE} {k : D → Ev → Prop} {s0 s1 s2 s3 s4 s5 s6 s7 s8 s9 s10 s11 s12 s13 s14 s15 s16 s17 s18 s19 s20 : SV} : dBor 21 de x (s0 :: s1 :: s2 :: s3 :: s4 :: s5 :: s6 :: s7 :: s8 :: s9 :: s10 :: s11 :: s12 :: s13 :: s14 :: s15 :: s16 :: s17 :: s18 :: s19 :: s20 :: .own l :: ρ) k = de xF (List.set (hide (s0 :: s1 :: s2 :: s3 :: s4 :: s5 :: s6 :: s7 :: s8 :: s9 :: s10 :: s11 :: s12 :: s13 :: s14 :: s15 :: s16 :: s17 :: s18 :: s19 :: s20 :: .own l :: ρ)) 21 (.d (.lst l))) (fun d _ => flatD d = true ∧ k d (s0 :: s1 :: s2 :: s3 :: s4 :: s5 :: s6 :: s7 :: s8 :: s9 :: s10 :: s11 :: s12 :: s13 :: s14 :: s15 :: s16 :: s17 :: s18 :: s19 :: s20 :: .own l :: ρ)) := rfl
theorem dBor_22 {x : KX} {ρ : Ev} {l : List D} {de : DE} {k : D → Ev → Prop} {s0 s1 s2 s3 s4 s5 s6 s7 s8 s9 s10 s11 s12 s13 s14 s15 s16 s17 s18 s19 s20 s21 : SV} : dBor 22 de x (s0 :: s1 :: s2 :: s3 :: s4 :: s5 :: s6 :: s7 :: s8 :: s9 :: s10 :: s11 :: s12 :: s13 :: s14 :: s15 :: s16 :: s17 :: s18 :: s19 :: s20 :: s21 :: .own l :: ρ) k = de xF (List.set (hide (s0 :: s1 :: s2 :: s3 :: s4 :: s5 :: s6 :: s7 :: s8 :: s9 :: s10 :: s11 :: s12 :: s13 :: s14 :: s15 :: s16 :: s17 :: s18 :: s19 :: s20 :: s21 :: .own l :: ρ)) 22 (.d (.lst l))) (fun d _ => flatD d = true ∧ k d (s0 :: s1 :: s2 :: s3 :: s4 :: s5 :: s6 :: s7 :: s8 :: s9 :: s10 :: s11 :: s12 :: s13 :: s14 :: s15 :: s16 :: s17 :: s18 :: s19 :: s20 :: s21 :: .own l :: ρ)) := rfl
theorem dBor_23 {x : KX} {ρ : Ev} {l : List D} {de : DE} {k : D → Ev → Prop} {s0 s1 s2 s3 s4 s5 s6 s7 s8 s9 s10 s11 s12 s13 s14 s15 s16 s17 s18 s19 s20 s21 s22 : SV} : dBor 23 de x (s0 :: s1 :: s2 :: s3 :: s4 :: s5 :: s6 :: s7 :: s8 :: s9 :: s10 :: s11 :: s12 :: s13 :: s14 :: s15 :: s16 :: s17 :: s18 :: s19 :: s20 :: s21 :: s22 :: .own l :: ρ) k = de xF (List.set (hide (s0 :: s1 :: s2 :: s3 :: s4 :: s5 :: s6 :: s7 :: s8 :: s9 :: s10 :: s11 :: s12 :: s13 :: s14 :: s15 :: s16 :: s17 :: s18 :: s19 :: s20 :: s21 :: s22 :: .own l :: ρ)) 23 (.d (.lst l))) (fun d _ => flatD d = true ∧ k d (s0 :: s1 :: s2 :: s3 :: s4 :: s5 :: s6 :: s7 :: s8 :: s9 :: s10 :: s11 :: s12 :: s13 :: s14 :: s15 :: s16 :: s17 :: s18 :: s19 :: s20 :: s21 :: s22 :: .own l :: ρ)) := rfl
theorem dBor_24 {x : KX} {ρ : Ev} {l : List D} {de : DE} {k : D → Ev → Prop} {s0 s1 s2 s3 s4 s5 s6 s7 s8 s9 s10 s11 s12 s13 s14 s15 s16 s17 s18 s19 s20 s21 s22 s23 : SV} : dBor 24 de x (s0 :: s1 :: s2 :: s3 :: s4 :: s5 :: s6 :: s7 :: s8 :: s9 :: s10 :: s11 :: s12 :: s13 :: s14 :: s15 :: s16 :: s17 :: s18 :: s19 :: s20 :: s21 :: s22 :: s23 :: .own l :: ρ) k = de xF (List.set (hide (s0 :: s1 :: s2 :: s3 :: s4 :: s5 :: s6 :: s7 :: s8 :: s9 :: s10 :: s11 :: s12 :: s13 :: s14 :: s15 :: s16 :: s17 :: s18 :: s19 :: s20 :: s21 :: s22 :: s23 :: .own l :: ρ)) 24 (.d (.lst l))) (fun d _ => flatD d = true ∧ k d (s0 :: s1 :: s2 :: s3 :: s4 :: s5 :: s6 :: s7 :: s8 :: s9 :: s10 :: s11 :: s12 :: s13 :: s14 :: s15 :: s16 :: s17 :: s18 :: s19 :: s20 :: s21 :: s22 :: s23 :: .own l :: ρ)) := rfl
theorem dBor_25 {x : KX} {ρ : Ev} {l : List D} {de : DE} {k : D → Ev → Prop} {s0 s1 s2 s3 s4 s5 s6 s7 s8 s9 s10 s11 s12 s13 s14 s15 s16 s17 s18 s19 s20 s21 s22 s23 s24 : SV} : dBor 25 de x (s0 :: s1 :: s2 :: s3 :: s4 :: s5 :: s6 :: s7 :: s8 :: s9 :: s10 :: s11 :: s12 :: s13 :: s14 :: s15 :: s16 :: s17 :: s18 :: s19 :: s20 :: s21 :: s22 :: s23 :: s24 :: .own l :: ρ) k = de xF (List.set (hide (s0 :: s1 :: s2 :: s3 :: s4 :: s5 :: s6 :: s7 :: s8 :: s9 :: s10 :: s11 :: s12 :: s13 :: s14 :: s15 :: s16 :: s17 :: s18 :: s19 :: s20 :: s21 :: s22 :: s23 :: s24 :: .own l :: ρ)) 25 (.d (.lst l))) (fun d _ => flatD d = true ∧ k d (s0 :: s1 :: s2 :: s3 :: s4 :: s5 :: s6 :: s7 :: s8 :: s9 :: s10 :: s11 :: s12 :: s13 :: s14 :: s15 :: s16 :: s17 :: s18 :: s19 :: s20 :: s21 :: s22 :: s23 :: s24 :: .own l :: ρ)) := rfl
def as1L (ds : List D) (f : List D → Prop) : Prop := match ds with
  | [.lst a] => f a
  | _ => False
def as2L (ds : List D) (f : List D → List D → Prop) : Prop := match ds with
  | [.lst a, .lst b] => f a b
  | _ => False
def as1I (ds : List D) (f : Int → Prop) : Prop := match ds with
  | [.int a] => f a
  | _ => False
def as2I (ds : List D) (f : Int → Int → Prop) : Prop := match ds with
  | [.int a, .int b] => f a b
  | _ => False
theorem as1L_eq (a : List D) (f : List D → Prop) : as1L [.lst a] f = f a := rfl
theorem as2L_eq (a b : List D) (f : List D → List D → Prop) : as2L [.lst a, .lst b] f = f a b := rfl
theorem as1I_eq (a : Int) (f : Int → Prop) : as1I [.int a] f = f a := rfl
theorem as2I_eq (a b : Int) (f : Int → Int → Prop) : as2I [.int a, .int b] f = f a b := rfl
theorem iL_eq {de : DE} {x : KX} {ρ : Ev} {k : List D → Ev → Prop} : iL de x ρ k = de x ρ fun d ρ1 => asL d fun l => k l ρ1 := rfl
theorem iT_eq {de : DE} {x : KX} {ρ : Ev} {k : List D → Ev → Prop} : iT de x ρ k = de x ρ fun d ρ1 => asT d fun l => k l ρ1 := rfl
theorem dNeg_eq {de : DE} {x : KX} {ρ : Ev} {k : D → Ev → Prop} : dNeg de x ρ k = de x ρ fun d ρ1 => asI d fun i => k (.int (-i)) ρ1 := rfl
theorem pSome_eq {de : DE} {x : KX} {ρ : Ev} {k : Option Int → Ev → Prop} : pSome de x ρ k = de x ρ fun d ρ1 => asI d fun i => k (some i) ρ1 := rfl
theorem oSl_eq {de : DE} {dl dh : DP} {x : KX} {ρ : Ev} {k : List D → Ev → Prop} : oSl de dl dh x ρ k = de x ρ fun d ρ1 => dl x ρ1 fun lo ρ2 => dh x ρ2 fun hi ρ3 => asL d fun ds => k (cutD ds lo hi) ρ3 := rfl
theorem oRev_eq {de : DE} {x : KX} {ρ : Ev} {k : List D → Ev → Prop} : oRev de x ρ k = de x ρ fun d ρ1 => asL d fun ds => k ds.reverse ρ1 := rfl
theorem dLk_eq {f : DLk} {de : DE} {dl : DL} {x : KX} {ρ : Ev} {k : D → Ev → Prop} : dLk f de dl x ρ k = de x ρ fun d ρ1 => asL d fun l => dl x ρ1 fun as ρ2 => f l as fun z => k z ρ2 := rfl
theorem dgTup_eq {n : Nat} {gs : DGs} {ds : List D} {ρ : Ev} {k : Ev → Prop} : dgTup n gs (.tup ds) ρ k = (ds.length = n ∧ gs ds ρ k) := rfl
theorem dgCons_eq {g : DG} {gs : DGs} {d : D} {r : List D} {ρ : Ev} {k : Ev → Prop} : dgCons g gs (d :: r) ρ k = g d ρ fun ρ1 => gs r ρ1 k := rfl
theorem dgNil_eq {ρ : Ev} {k : Ev → Prop} : dgNil [] ρ k = ([] = ([] : List D) ∧ k ρ) := rfl
theorem fAdd_ii {i j : Int} {k : D → Prop} : fAdd (.int i) (.int j) k = k (.int (i + j)) := rfl
theorem fAdd_ss {i j : Str} {k : D → Prop} : fAdd (.str i) (.str j) k = (i.length + j.length ≤ lim ∧ k (.str (i ++ j))) := rfl
theorem fAdd_ll {i j : List D} {k : D → Prop} : fAdd (.lst i) (.lst j) k = (i.length + j.length ≤ lim ∧ k (.lst (i ++ j))) := rfl
theorem fAdd_tt {i j : List D} {k : D → Prop} : fAdd (.tup i) (.tup j) k = (i ≠ [] ∧ j ≠ [] ∧ i.length + j.length ≤ lim ∧ k (.tup (i ++ j))) := rfl
theorem fCat_ll {i j : List D} {k : List D → Prop} : fCat (.lst i) (.lst j) k = (i.length + j.length ≤ lim ∧ k (i ++ j)) := rfl
theorem fMul_ii {i j : Int} {k : D → Prop} : fMul (.int i) (.int j) k = (CMulW i j ∧ k (.int (i * j))) := rfl
theorem fMul_li {i : List D} {j : Int} {k : D → Prop} : fMul (.lst i) (.int j) k = (-(2 ^ 63) ≤ j ∧ j < 2 ^ 63 ∧ i.length * j.toNat ≤ lim ∧ k (.lst (List.replicate j.toNat i).flatten)) := rfl
theorem fRepL_li {i : List D} {j : Int} {k : List D → Prop} : fRepL (.lst i) (.int j) k = (-(2 ^ 63) ≤ j ∧ j < 2 ^ 63 ∧ i.length * j.toNat ≤ lim ∧ k (List.replicate j.toNat i).flatten) := rfl
theorem fInt0_ii {g : Int → Int → D} {i j : Int} {k : D → Prop} : fInt0 g (.int i) (.int j) k = k (g i j) := rfl
theorem fInt_ii {C : Int → Int → Prop} {g : Int → Int → D} {i j : Int} {k : D → Prop} : fInt C g (.int i) (.int j) k = (C i j ∧ k (g i j)) := rfl
theorem fIn_l {neg : Bool} {d : D} {ds : List D} {k : D → Prop} : fIn neg d (.lst ds) k = (flatD d = true ∧ ds.all flatD = true ∧ k (.bl (if neg then !(ds.any fun y => eqF y d) else ds.any fun y => eqF y d))) := rfl
theorem fIn_t {neg : Bool} {d : D} {ds : List D} {k : D → Prop} : fIn neg d (.tup ds) k = (flatD d = true ∧ ds.all flatD = true ∧ k (.bl (if neg then !(ds.any fun y => eqF y d) else ds.any fun y => eqF y d))) := rfl
theorem fIsN_n {neg : Bool} {d : D} {k : D → Prop} : fIsN neg d .non k = k (.bl (if neg then !isNon d else isNon d)) := rfl
theorem fIsB_bb {a b : Bool} {k : D → Prop} : fIsB (.bl a) (.bl b) k = k (.bl (decide (a = b))) := rfl
theorem fIx_l {l : List D} {i : Int} {k : D → Prop} : fIx (.lst l) (.int i) k = (∃ z, atI l i = some z ∧ k z) := rfl
theorem fIx_t {l : List D} {i : Int} {k : D → Prop} : fIx (.tup l) (.int i) k = (∃ z, atI l i = some z ∧ k z) := rfl
theorem fIx_s {l : List Int} {i : Int} {k : D → Prop} : fIx (.scr l) (.int i) k = (∃ z, atI l i = some z ∧ k (.int z)) := rfl
theorem fLen_l {l : List D} {k : D → Prop} : fLen [.lst l] k = k (.int l.length) := rfl
theorem fLen_t {l : List D} {k : D → Prop} : fLen [.tup l] k = k (.int l.length) := rfl
theorem fLen_s {l : List Int} {k : D → Prop} : fLen [.scr l] k = k (.int l.length) := rfl
theorem fLen_z {l : Str} {k : D → Prop} : fLen [.str l] k = (l.length ≤ lim ∧ k (.int l.length)) := rfl
theorem fList_l {l : List D} {k : List D → Prop} : fList [.lst l] k = k l := rfl
theorem fList_t {l : List D} {k : List D → Prop} : fList [.tup l] k = k l := rfl
theorem fList_s {l : List Int} {k : List D → Prop} : fList [.scr l] k = k (l.map .int) := rfl
theorem fAll_l {l : List D} {k : D → Prop} : fAll [.lst l] k = (∃ bs, blsOf l = some bs ∧ k (.bl (bs.all id))) := rfl
theorem fAny_l {l : List D} {k : D → Prop} : fAny [.lst l] k = (∃ bs, blsOf l = some bs ∧ k (.bl (bs.any id))) := rfl
theorem fSum_l {l : List D} {k : D → Prop} : fSum [.lst l] k = (∃ bs, intsOf l = some bs ∧ k (.int bs.sum)) := rfl
theorem fInt1_i {l : Int} {k : D → Prop} : fInt1 [.int l] k = k (.int l) := rfl
theorem fInt1_b {l : Bool} {k : D → Prop} : fInt1 [.bl l] k = k (.int (if l then 1 else 0)) := rfl
theorem fAbs_i {l : Int} {k : D → Prop} : fAbs [.int l] k = k (.int (if l < 0 then -l else l)) := rfl
theorem fMin2_ii {i j : Int} {k : D → Prop} : fMin2 [.int i, .int j] k = k (.int (if j < i then j else i)) := rfl
theorem fMax2_ii {i j : Int} {k : D → Prop} : fMax2 [.int i, .int j] k = k (.int (if j > i then j else i)) := rfl
theorem fCount_d {l : List D} {d : D} {k : D → Prop} : fCount l [d] k = (flatD d = true ∧ l.all flatD = true ∧ k (.int ((l.countP fun z => eqF z d : Nat) : Int))) := rfl
theorem fIndex_d {l : List D} {d : D} {k : D → Prop} : fIndex l [d] k = (flatD d = true ∧ l.all flatD = true ∧ ∃ j, l.findIdx? (fun z => eqF z d) = some j ∧ k (.int (j : Nat))) := rfl
theorem fApp_d {l : List D} {d : D} {k : D → List D → Prop} : fApp l [d] k = (l.length < lim ∧ k .non (l ++ [d])) := rfl
theorem fIns_d {l : List D} {i : Int} {d : D} {k : D → List D → Prop} : fIns l [.int i, d] k = (l.length < lim ∧ 0 ≤ i ∧ i < 2 ^ 63 ∧ k .non (l.take i.toNat ++ [d] ++ l.drop i.toNat)) := rfl
theorem fExt_l {l m : List D} {k : D → List D → Prop} : fExt l [.lst m] k = (l.length + m.length ≤ lim ∧ k .non (l ++ m)) := rfl
theorem put_m {ρ : Ev} {i : Nat} {as : List Arg} {o : SV} {os : Ev} : put ρ (.m i :: as) (o :: os) = put (ρ.set i o) as os := rfl
theorem put_dd {ρ : Ev} {d : D} {as : List Arg} {o : SV} {os : Ev} : put ρ (.d d :: as) (o :: os) = put ρ as os := rfl
theorem put_nil {ρ : Ev} {os : Ev} : put ρ [] os = ρ := by cases os <;> rfl
theorem sv_dd {ρ : Ev} {d : D} : Arg.sv ρ (.d d) = .d d := rfl
theorem sv_m {ρ : Ev} {i : Nat} : Arg.sv ρ (.m i) = ρ.getD i .un := rfl
theorem slotsOf_d {d : D} {as : List Arg} : slotsOf (.d d :: as) = slotsOf as := rfl
theorem slotsOf_m {i : Nat} {as : List Arg} : slotsOf (.m i :: as) = i :: slotsOf as := rfl
theorem slotsOf_n  : slotsOf [] = [] := rfl
theorem hide_d {d : D} {ρ : Ev} : hide (.d d :: ρ) = .d d :: hide ρ := rfl
theorem hide_u {ρ : Ev} : hide (.un :: ρ) = .un :: hide ρ := rfl
theorem hide_o {l : List D} {ρ : Ev} : hide (.own l :: ρ) = .un :: hide ρ := rfl
theorem hide_o2 {l : List (List D)} {ρ : Ev} : hide (.own2 l :: ρ) = .un :: hide ρ := rfl
theorem hide_t {g n : Nat} {ρ : Ev} : hide (.town g n :: ρ) = .un :: hide ρ := rfl
theorem hide_n  : hide [] = [] := rfl
theorem iZ_ll {dl : DL} {x : KX} {ρ : Ev} {k : List D → Ev → Prop} : iZ dl x ρ k = dl x ρ fun ds ρ1 => as2L ds fun a b => k (zipD a b) ρ1 := rfl
theorem iE_l {dl : DL} {x : KX} {ρ : Ev} {k : List D → Ev → Prop} : iE dl x ρ k = dl x ρ fun ds ρ1 => as1L ds fun a => k (enumD 0 a) ρ1 := rfl
theorem iR1_i {dl : DL} {x : KX} {ρ : Ev} {k : List D → Ev → Prop} : iR1 dl x ρ k = dl x ρ fun ds ρ1 => as1I ds fun n => inB n ∧ k (rng 0 n.toNat) ρ1 := rfl
theorem iR2_ii {dl : DL} {x : KX} {ρ : Ev} {k : List D → Ev → Prop} : iR2 dl x ρ k = dl x ρ fun ds ρ1 => as2I ds fun a n => inB a ∧ inB n ∧ k (rng a (n - a).toNat) ρ1 := rfl
theorem outOf1_2 {a b : SV} {ρ : Ev} : outOf [1] 2 (a :: b :: ρ) = [.un, b] := rfl
theorem outOf1_3 {a b c : SV} {ρ : Ev} : outOf [1] 3 (a :: b :: c :: ρ) = [.un, b, .un] := rfl
theorem outOf1_4 {a b c d : SV} {ρ : Ev} : outOf [1] 4 (a :: b :: c :: d :: ρ) = [.un, b, .un, .un] := rfl
end Y
namespace Y
open PySem L2
theorem dFrz2_0 {x : KX} {ρ : Ev} {l : List (List D)} {k : D → Ev → Prop} : dFrz2 0 x (.own2 l :: ρ) k = k (.lst (l.map D.lst)) (List.set (.own2 l :: ρ) 0 (.d (.lst (l.map D.lst)))) := rfl
theorem dFrzd_0 {x : KX} {ρ : Ev} {d : D} {k : D → Ev → Prop} : dFrz 0 x (.d d :: ρ) k = k d (.d d :: ρ) := rfl
theorem dBord_0 {x : KX} {ρ : Ev} {d : D} {de : DE} {k : D → Ev → Prop} : dBor 0 de x (.d d :: ρ) k = de x (.d d :: ρ) k := rfl
theorem dFrz2_1 {x : KX} {ρ : Ev} {l : List (List D)} {k : D → Ev → Prop} {s0 : SV} : dFrz2 1 x (s0 :: .own2 l :: ρ) k = k (.lst (l.map D.lst)) (List.set (s0 :: .own2 l :: ρ) 1 (.d (.lst (l.map D.lst)))) := rfl
theorem dFrzd_1 {x : KX} {ρ : Ev} {d : D} {k : D → Ev → Prop} {s0 : SV} : dFrz 1 x (s0 :: .d d :: ρ) k = k d (s0 :: .d d :: ρ) := rfl
theorem dBord_1 {x : KX} {ρ : Ev} {d : D} {de : DE} {k : D → Ev → Prop} {s0 : SV} : dBor 1 de x (s0 :: .d d :: ρ) k = de x (s0 :: .d d :: ρ) k := rfl
theorem dFrz2_2 {x : KX} {ρ : Ev} {l : List (List D)} {k : D → Ev → Prop} {s0 s1 : SV} : dFrz2 2 x (s0 :: s1 :: .own2 l :: ρ) k = k (.lst (l.map D.lst)) (List.set (s0 :: s1 :: .own2 l :: ρ) 2 (.d (.lst (l.map D.lst)))) := rfl
theorem dFrzd_2 {x : KX} {ρ : Ev} {d : D} {k : D → Ev → Prop} {s0 s1 : SV} : dFrz 2 x (s0 :: s1 :: .d d :: ρ) k = k d (s0 :: s1 :: .d d :: ρ) := rfl
theorem dBord_2 {x : KX} {ρ : Ev} {d : D} {de : DE} {k : D → Ev → Prop} {s0 s1 : SV} : dBor 2 de x (s0 :: s1 :: .d d :: ρ) k = de x (s0 :: s1 :: .d d :: ρ) k := rfl
theorem dFrz2_3 {x : KX} {ρ : Ev} {l : List (List D)} {k : D → Ev → Prop} {s0 s1 s2 : SV} : dFrz2 3 x (s0 :: s1 :: s2 :: .own2 l :: ρ) k = k (.lst (l.map D.lst)) (List.set (s0 :: s1 :: s2 :: .own2 l :: ρ) 3 (.d (.lst (l.map D.lst)))) := rfl
theorem dFrzd_3 {x : KX} {ρ : Ev} {d : D} {k : D → Ev → Prop} {s0 s1 s2 : SV} : dFrz 3 x (s0 :: s1 :: s2 :: .d d :: ρ) k = k d (s0 :: s1 :: s2 :: .d d :: ρ) := rfl
theorem dBord_3 {x : KX} {ρ : Ev} {d : D} {de : DE} {k : D → Ev → Prop} {s0 s1 s2 : SV} : dBor 3 de x (s0 :: s1 :: s2 :: .d d :: ρ) k = de x (s0 :: s1 :: s2 :: .d d :: ρ) k := rfl
theorem dFrz2_4 {x : KX} {ρ : Ev} {l : List (List D)} {k : D → Ev → Prop} {s0 s1 s2 s3 : SV} : dFrz2 4 x (s0 :: s1 :: s2 :: s3 :: .own2 l :: ρ) k = k (.lst (l.map D.lst)) (List.set (s0 :: s1 :: s2 :: s3 :: .own2 l :: ρ) 4 (.d (.lst (l.map D.lst)))) := rfl
theorem dFrzd_4 {x : KX} {ρ : Ev} {d : D} {k : D → Ev → Prop} {s0 s1 s2 s3 : SV} : dFrz 4 x (s0 :: s1 :: s2 :: s3 :: .d d :: ρ) k = k d (s0 :: s1 :: s2 :: s3 :: .d d :: ρ) := rfl
theorem dBord_4 {x : KX} {ρ : Ev} {d : D} {de : DE} {k : D → Ev → Prop} {s0 s1 s2 s3 : SV} : dBor 4 de x (s0 :: s1 :: s2 :: s3 :: .d d :: ρ) k = de x (s0 :: s1 :: s2 :: s3 :: .d d :: ρ) k := rfl
theorem dFrz2_5 {x : KX} {ρ : Ev} {l : List (List D)} {k : D → Ev → Prop} {s0 s1 s2 s3 s4 : SV} : dFrz2 5 x (s0 :: s1 :: s2 :: s3 :: s4 :: .own2 l :: ρ) k = k (.lst (l.map D.lst)) (List.set (s0 :: s1 :: s2 :: s3 :: s4 :: .own2 l :: ρ) 5 (.d (.lst (l.map D.lst)))) := rfl
theorem dFrzd_5 {x : KX} {ρ : Ev} {d : D} {k : D → Ev → Prop} {s0 s1 s2 s3 s4 : SV} : dFrz 5 x (s0 :: s1 :: s2 :: s3 :: s4 :: .d d :: ρ) k = k d (s0 :: s1 :: s2 :: s3 :: s4 :: .d d :: ρ) := rfl
theorem dBord_5 {x : KX} {ρ : Ev} {d : D} {de : DE} {k : D → Ev → Prop} {s0 s1 s2 s3 s4 : SV} : dBor 5 de x (s0 :: s1 :: s2 :: s3 :: s4 :: .d d :: ρ) k = de x (s0 :: s1 :: s2 :: s3 :: s4 :: .d d :: ρ) k := rfl
theorem dFrz2_6 {x : KX} {ρ : Ev} {l : List (List D)} {k : D → Ev → Prop} {s0 s1 s2 s3 s4 s5 : SV} : dFrz2 6 x (s0 :: s1 :: s2 :: s3 :: s4 :: s5 :: .own2 l :: ρ) k = k (.lst (l.map D.lst)) (List.set (s0 :: s1 :: s2 :: s3 :: s4 :: s5 :: .own2 l :: ρ) 6 (.d (.lst (l.map D.lst)))) := rfl
theorem dFrzd_6 {x : KX} {ρ : Ev} {d : D} {k : D → Ev → Prop} {s0 s1 s2 s3 s4 s5 : SV} : dFrz 6 x (s0 :: s1 :: s2 :: s3 :: s4 :: s5 :: .d d :: ρ) k = k d (s0 :: s1 :: s2 :: s3 :: s4 :: s5 :: .d d :: ρ) := rfl
theorem dBord_6 {x : KX} {ρ : Ev} {d : D} {de : DE} {k : D → Ev → Prop} {s0 s1 s2 s3 s4 s5 : SV} : dBor 6 de x (s0 :: s1 :: s2 :: s3 :: s4 :: s5 :: .d d :: ρ) k = de x (s0 :: s1 :: s2 :: s3 :: s4 :: s5 :: .d d :: ρ) k := rfl
theorem dFrz2_7 {x : KX} {ρ : Ev} {l : List (List D)} {k : D → Ev → Prop} {s0 s1 s2 s3 s4 s5 s6 : SV} : dFrz2 7 x (s0 :: s1 :: s2 :: s3 :: s4 :: s5 :: s6 :: .own2 l :: ρ) k = k (.lst (l.map D.lst)) (List.set (s0 :: s1 :: s2 :: s3 :: s4 :: s5 :: s6 :: .own2 l :: ρ) 7 (.d (.lst (l.map D.lst)))) := rfl
theorem dFrzd_7 {x : KX} {ρ : Ev} {d : D} {k : D → Ev → Prop} {s0 s1 s2 s3 s4 s5 s6 : SV} : dFrz 7 x (s0 :: s1 :: s2 :: s3 :: s4 :: s5 :: s6 :: .d d :: ρ) k = k d (s0 :: s1 :: s2 :: s3 :: s4 :: s5 :: s6 :: .d d :: ρ) := rfl
theorem dBord_7 {x : KX} {ρ : Ev} {d : D} {de : DE} {k : D → Ev → Prop} {s0 s1 s2 s3 s4 s5 s6 : SV} : dBor 7 de x (s0 :: s1 :: s2 :: s3 :: s4 :: s5 :: s6 :: .d d :: ρ) k = de x (s0 :: s1 :: s2 :: s3 :: s4 :: s5 :: s6 :: .d d :: ρ) k := rfl
theorem dFrz2_8 {x : KX} {ρ : Ev} {l : List (List D)} {k : D → Ev → Prop} {s0 s1 s2 s3 s4 s5 s6 s7 : SV} : dFrz2 8 x (s0 :: s1 :: s2 :: s3 :: s4 :: s5 :: s6 :: s7 :: .own2 l :: ρ) k = k (.lst (l.map D.lst)) (List.set (s0 :: s1 :: s2 :: s3 :: s4 :: s5 :: s6 :: s7 :: .own2 l :: ρ) 8 (.d (.lst (l.map D.lst)))) := rfl
theorem dFrzd_8 {x : KX} {ρ : Ev} {d : D} {k : D → Ev → Prop} {s0 s1 s2 s3 s4 s5 s6 s7 : SV} : dFrz 8 x (s0 :: s1 :: s2 :: s3 :: s4 :: s5 :: s6 :: s7 :: .d d :: ρ) k = k d (s0 :: s1 :: s2 :: s3 :: s4 :: s5 :: s6 :: s7 :: .d d :: ρ) := rfl
theorem dBord_8 {x : KX} {ρ : Ev} {d : D} {de : DE} {k : D → Ev → Prop} {s0 s1 s2 s3 s4 s5 s6 s7 : SV} : dBor 8 de x (s0 :: s1 :: s2 :: s3 :: s4 :: s5 :: s6 :: s7 :: .d d :: ρ) k = de x (s0 :: s1 :: s2 :: s3 :: s4 :: s5 :: s6 :: s7 :: .d d :: ρ) k := rfl
theorem dFrz2_9 {x : KX} {ρ : Ev} {l : List (List D)} {k : D → Ev → Prop} {s0 s1 s2 s3 s4 s5 s6 s7 s8 : SV} : dFrz2 9 x (s0 :: s1 :: s2 :: s3 :: s4 :: s5 :: s6 :: s7 :: s8 :: .own2 l :: ρ) k = k (.lst (l.map D.lst)) (List.set (s0 :: s1 :: s2 :: s3 :: s4 :: s5 :: s6 :: s7 :: s8 :: .own2 l :: ρ) 9 (.d (.lst (l.map D.lst)))) := rfl
theorem dFrzd_9 {x : KX} {ρ : Ev} {d : D} {k : D → Ev → Prop} {s0 s1 s2 s3 s4 s5 s6 s7 s8 : SV} : dFrz 9 x (s0 :: s1 :: s2 :: s3 :: s4 :: s5 :: s6 :: s7 :: s8 :: .d d :: ρ) k = k d (s0 :: s1 :: s2 :: s3 :: s4 :: s5 :: s6 :: s7 :: s8 :: .d d :: ρ) := rfl
theorem dBord_9 {x : KX} {ρ : Ev} {d : D} {de : DE} {k : D → Ev → Prop} {s0 s1 s2 s3 s4 s5 s6 s7 s8 : SV} : dBor 9 de x (s0 :: s1 :: s2 :: s3 :: s4 :: s5 :: s6 :: s7 :: s8 :: .d d :: ρ) k = de x (s0 :: s1 :: s2 :: s3 :: s4 :: s5 :: s6 :: s7 :: s8 :: .d d :: ρ) k := rfl
theorem dFrz2_10 {x : KX} {ρ : Ev} {l : List (List D)} {k : D → Ev → Prop} {s0 s1 s2 s3 s4 s5 s6 s7 s8 s9 : SV} : dFrz2 10 x (s0 :: s1 :: s2 :: s3 :: s4 :: s5 :: s6 :: s7 :: s8 :: s9 :: .own2 l :: ρ) k = k (.lst (l.map D.lst)) (List.set (s0 :: s1 :: s2 :: s3 :: s4 :: s5 :: s6 :: s7 :: s8 :: s9 :: .own2 l :: ρ) 10 (.d (.lst (l.map D.lst)))) := rfl
theorem dFrzd_10 {x : KX} {ρ : Ev} {d : D} {k : D → Ev → Prop} {s0 s1 s2 s3 s4 s5 s6 s7 s8 s9 : SV} : dFrz 10 x (s0 :: s1 :: s2 :: s3 :: s4 :: s5 :: s6 :: s7 :: s8 :: s9 :: .d d :: ρ) k = k d (s0 :: s1 :: s2 :: s3 :: s4 :: s5 :: s6 :: s7 :: s8 :: s9 :: .d d :: ρ) := rfl
theorem dBord_10 {x : KX} {ρ : Ev} {d : D} {de : DE} {k : D → Ev → Prop} {s0 s1 s2 s3 s4 s5 s6 s7 s8 s9 : SV} : dBor 10 de x (s0 :: s1 :: s2 :: s3 :: s4 :: s5 :: s6 :: s7 :: s8 :: s9 :: .d d :: ρ) k = de x (s0 :: s1 :: s2 :: s3 :: s4 :: s5 :: s6 :: s7 :: s8 :: s9 :: .d d :: ρ) k := rfl
theorem dFrz2_11 {x : KX} {ρ : Ev} {l : List (List D)} {k : D → Ev → Prop} {s0 s1 s2 s3 s4 s5 s6 s7 s8 s9 s10 : SV} : dFrz2 11 x (s0 :: s1 :: s2 :: s3 :: s4 :: s5 :: s6 :: s7 :: s8 :: s9 :: s10 :: .own2 l :: ρ) k = k (.lst (l.map D.lst)) (List.set (s0 :: s1 :: s2 :: s3 :: s4 :: s5 :: s6 :: s7 :: s8 :: s9 :: s10 :: .own2 l :: ρ) 11 (.d (.lst (l.map D.lst)))) := rfl
theorem dFrzd_11 {x : KX} {ρ : Ev} {d : D} {k : D → Ev → Prop} {s0 s1 s2 s3 s4 s5 s6 s7 s8 s9 s10 : SV} : dFrz 11 x (s0 :: s1 :: s2 :: s3 :: s4 :: s5 :: s6 :: s7 :: s8 :: s9 :: s10 :: .d d :: ρ) k = k d (s0 :: s1 :: s2 :: s3 :: s4 :: s5 :: s6 :: s7 :: s8 :: s9 :: s10 :: .d d :: ρ) := rfl
theorem dBord_11 {x : KX} {ρ : Ev} {d : D} {de : DE} {k : D → Ev → Prop} {s0 s1 s2 s3 s4 s5 s6 s7 s8 s9 s10 : SV} : dBor 11 de x (s0 :: s1 :: s2 :: s3 :: s4 :: s5 :: s6 :: s7 :: s8 :: s9 :: s10 :: .d d :: ρ) k = de x (s0 :: s1 :: s2 :: s3 :: s4 :: s5 :: s6 :: s7 :: s8 :: s9 :: s10 :: .d d :: ρ) k := rfl
theorem dFrz2_12 {x : KX} {ρ : Ev} {l : List (List D)} {k : D → Ev → Prop} {s0 s1 s2 s3 s4 s5 s6 s7 s8 s9 s10 s11 : SV} : dFrz2 12 x (s0 :: s1 :: s2 :: s3 :: s4 :: s5 :: s6 :: s7 :: s8 :: s9 :: s10 :: s11 :: .own2 l :: ρ) k = k (.lst (l.map D.lst)) (List.set (s0 :: s1 :: s2 :: s3 :: s4 :: s5 :: s6 :: s7 :: s8 :: s9 :: s10 :: s11 :: .own2 l :: ρ) 12 (.d (.lst (l.map D.lst)))) := rfl
theorem dFrzd_12 {x : KX} {ρ : Ev} {d : D} {k : D → Ev → Prop} {s0 s1 s2 s3 s4 s5 s6 s7 s8 s9 s10 s11 : SV} : dFrz 12 x (s0 :: s1 :: s2 :: s3 :: s4 :: s5 :: s6 :: s7 :: s8 :: s9 :: s10 :: s11 :: .d d :: ρ) k = k d (s0 :: s1 :: s2 :: s3 :: s4 :: s5 :: s6 :: s7 :: s8 :: s9 :: s10 :: s11 :: .d d :: ρ) := rfl
theorem dBord_12 {x : KX} {ρ : Ev} {d : D} {de : DE} {k : D → Ev → Prop} {s0 s1 s2 s3 s4 s5 s6 s7 s8 s9 s10 s11 : SV} : dBor 12 de x (s0 :: s1 :: s2 :: s3 :: s4 :: s5 :: s6 :: s7 :: s8 :: s9 :: s10 :: s11 :: .d d :: ρ) k = de x (s0 :: s1 :: s2 :: s3 :: s4 :: s5 :: s6 :: s7 :: s8 :: s9 :: s10 :: s11 :: .d d :: ρ) k := rfl
theorem dFrz2_13 {x : KX} {ρ : Ev} {l : List (List D)} {k : D → Ev → Prop} {s0 s1 s2 s3 s4 s5 s6 s7 s8 s9 s10 s11 s12 : SV} : dFrz2 13 x (s0 :: s1 :: s2 :: s3 :: s4 :: s5 :: s6 :: s7 :: s8 :: s9 :: s10 :: s11 :: s12 :: .own2 l :: ρ) k = k (.lst (l.map D.lst)) (List.set (s0 :: s1 :: s2 :: s3 :: s4 :: s5 :: s6 :: s7 :: s8 :: s9 :: s10 :: s11 :: s12 :: .own2 l :: ρ) 13 (.d (.lst (l.map D.lst)))) := rfl
theorem dFrzd_13 {x : KX} {ρ : Ev} {d : D} {k : D → Ev → Prop} {s0 s1 s2 s3 s4 s5 s6 s7 s8 s9 s10 s11 s12 : SV} : dFrz 13 x (s0 :: s1 :: s2 :: s3 :: s4 :: s5 :: s6 :: s7 :: s8 :: s9 :: s10 :: s11 :: s12 :: .d d :: ρ) k = k d (s0 :: s1 :: s2 :: s3 :: s4 :: s5 :: s6 :: s7 :: s8 :: s9 :: s10 :: s11 :: s12 :: .d d :: ρ) := rfl
theorem dBord_13 {x : KX} {ρ : Ev} {d : D} {de : DE} {k : D → Ev → Prop} {s0 s1 s2 s3 s4 s5 s6 s7 s8 s9 s10 s11 s12 : SV} : dBor 13 de x (s0 :: s1 :: s2 :: s3 :: s4 :: s5 :: s6 :: s7 :: s8 :: s9 :: s10 :: s11 :: s12 :: .d d :: ρ) k = de x (s0 :: s1 :: s2 :: s3 :: s4 :: s5 :: s6 :: s7 :: s8 :: s9 :: s10 :: s11 :: s12 :: .d d :: ρ) k := rfl
theorem dFrz2_14 {x : KX} {ρ : Ev} {l : List (List D)} {k : D → Ev → Prop} {s0 s1 s2 s3 s4 s5 s6 s7 s8 s9 s10 s11 s12 s13 : SV} : dFrz2 14 x (s0 :: s1 :: s2 :: s3 :: s4 :: s5 :: s6 :: s7 :: s8 :: s9 :: s10 :: s11 :: s12 :: s13 :: .own2 l :: ρ) k = k (.lst (l.map D.lst)) (List.set (s0 :: s1 :: s2 :: s3 :: s4 :: s5 :: s6 :: s7 :: s8 :: s9 :: s10 :: s11 :: s12 :: s13 :: .own2 l :: ρ) 14 (.d (.lst (l.map D.lst)))) := rfl
theorem dFrzd_14 {x : KX} {ρ : Ev} {d : D} {k : D → Ev → Prop} {s0 s1 s2 s3 s4 s5 s6 s7 s8 s9 s10 s11 s12 s13 : SV} : dFrz 14 x (s0 :: s1 :: s2 :: s3 :: s4 :: s5 :: s6 :: s7 :: s8 :: s9 :: s10 :: s11 :: s12 :: s13 :: .d d :: ρ) k = k d (s0 :: s1 :: s2 :: s3 :: s4 :: s5 :: s6 :: s7 :: s8 :: s9 :: s10 :: s11 :: s12 :: s13 :: .d d :: ρ) := rfl
theorem dBord_14 {x : KX} {ρ : Ev} {d : D} {de : DE} {k : D → Ev → Prop} {s0 s1 s2 s3 s4 s5 s6 s7 s8 s9 s10 s11 s12 s13 : SV} : dBor 14 de x (s0 :: s1 :: s2 :: s3 :: s4 :: s5 :: s6 :: s7 :: s8 :: s9 :: s10 :: s11 :: s12 :: s13 :: .d d :: ρ) k = de x (s0 :: s1 :: s2 :: s3 :: s4 :: s5 :: s6 :: s7 :: s8 :: s9 :: s10 :: s11 :: s12 :: s13 :: .d d :: ρ) k := rfl
theorem dFrz2_15 {x : KX} {ρ : Ev} {l : List (List D)} {k : D → Ev → Prop} {s0 s1 s2 s3 s4 s5 s6 s7 s8 s9 s10 s11 s12 s13 s14 : SV} : dFrz2 15 x (s0 :: s1 :: s2 :: s3 :: s4 :: s5 :: s6 :: s7 :: s8 :: s9 :: s10 :: s11 :: s12 :: s13 :: s14 :: .own2 l :: ρ) k = k (.lst (l.map D.lst)) (List.set (s0 :: s1 :: s2 :: s3 :: s4 :: s5 :: s6 :: s7 :: s8 :: s9 :: s10 :: s11 :: s12 :: s13 :: s14 :: .own2 l :: ρ) 15 (.d (.lst (l.map D.lst)))) := rfl
theorem dFrzd_15 {x : KX} {ρ : Ev} {d : D} {k : D → Ev → Prop} {s0 s1 s2 s3 s4 s5 s6 s7 s8 s9 s10 s11 s12 s13 s14 : SV} : dFrz 15 x (s0 :: s1 :: s2 :: s3 :: s4 :: s5 :: s6 :: s7 :: s8 :: s9 :: s10 :: s11 :: s12 :: s13 :: s14 :: .d d :: ρ) k = k d (s0 :: s1 :: s2 :: s3 :: s4 :: s5 :: s6 :: s7 :: s8 :: s9 :: s10 :: s11 :: s12 :: s13 :: s14 :: .d d :: ρ) := rfl
theorem dBord_15 {x : KX} {ρ : Ev} {d : D} {de : DE} {k : D → Ev → Prop} {s0 s1 s2 s3 s4 s5 s6 s7 s8 s9 s10 s11 s12 s13 s14 : SV} : dBor 15 de x (s0 :: s1 :: s2 :: s3 :: s4 :: s5 :: s6 :: s7 :: s8 :: s9 :: s10 :: s11 :: s12 :: s13 :: s14 :: .d d :: ρ) k = de x (s0 :: s1 :: s2 :: s3 :: s4 :: s5 :: s6 :: s7 :: s8 :: s9 :: s10 :: s11 :: s12 :: s13 :: s14 :: .d d :: ρ) k := rfl
theorem dFrz2_16 {x : KX} {ρ : Ev} {l : List (List D)} {k : D → Ev → Prop} {s0 s1 s2 s3 s4 s5 s6 s7 s8 s9 s10 s11 s12 s13 s14 s15 : SV} : dFrz2 16 x (s0 :: s1 :: s2 :: s3 :: s4 :: s5 :: s6 :: s7 :: s8 :: s9 :: s10 :: s11 :: s12 :: s13 :: s14 :: s15 :: .own2 l :: ρ) k = k (.lst (l.map D.lst)) (List.set (s0 :: s1 :: s2 :: s3 :: s4 :: s5 :: s6 :: s7 :: s8 :: s9 :: s10 :: s11 :: s12 :: s13 :: s14 :: s15 :: .own2 l :: ρ) 16 (.d (.lst (l.map D.lst)))) := rfl
theorem dFrzd_16 {x : KX} {ρ : Ev} {d : D} {k : D → Ev → Prop} {s0 s1 s2 s3 s4 s5 s6 s7 s8 s9 s10 s11 s12 s13 s14 s15 : SV} : dFrz 16 x (s0 :: s1 :: s2 :: s3 :: s4 :: s5 :: s6 :: s7 :: s8 :: s9 :: s10 :: s11 :: s12 :: s13 :: s14 :: s15 :: .d d :: ρ) k = k d (s0 :: s1 :: s2 :: s3 :: s4 :: s5 :: s6 :: s7 :: s8 :: s9 :: s10 :: s11 :: s12 :: s13 :: s14 :: s15 :: .d d :: ρ) := rfl
theorem dBord_16 {x : KX} {ρ : Ev} {d : D} {de : DE} {k : D → Ev → Prop} {s0 s1 s2 s3 s4 s5 s6 s7 s8 s9 s10 s11 s12 s13 s14 s15 : SV} : dBor 16 de x (s0 :: s1 :: s2 :: s3 :: s4 :: s5 :: s6 :: s7 :: s8 :: s9 :: s10 :: s11 :: s12 :: s13 :: s14 :: s15 :: .d d :: ρ) k = de x (s0 :: s1 :: s2 :: s3 :: s4 :: s5 :: s6 :: s7 :: s8 :: s9 :: s10 :: s11 :: s12 :: s13 :: s14 :: s15 :: .d d :: ρ) k := rfl
theorem dFrz2_17 {x : KX} {ρ : Ev} {l : List (List D)} {k : D → Ev → Prop} {s0 s1 s2 s3 s4 s5 s6 s7 s8 s9 s10 s11 s12 s13 s14 s15 s16 : SV} : dFrz2 17 x (s0 :: s1 :: s2 :: s3 :: s4 :: s5 :: s6 :: s7 :: s8 :: s9 :: s10 :: s11 :: s12 :: s13 :: s14 :: s15 :: s16 :: .own2 l :: ρ) k = k (.lst (l.map D.lst)) (List.set (s0 :: s1 :: s2 :: s3 :: s4 :: s5 :: s6 :: s7 :: s8 :: s9 :: s10 :: s11 :: s12 :: s13 :: s14 :: s15 :: s16 :: .own2 l :: ρ) 17 (.d (.lst (l.map D.lst)))) := rfl
theorem dFrzd_17 {x : KX} {ρ : Ev} {d : D} {k : D → Ev → Prop} {s0 s1 s2 s3 s4 s5 s6 s7 s8 s9 s10 s11 s12 s13 s14 s15 s16 : SV} : dFrz 17 x (s0 :: s1 :: s2 :: s3 :: s4 :: s5 :: s6 :: s7 :: s8 :: s9 :: s10 :: s11 :: s12 :: s13 :: s14 :: s15 :: s16 :: .d d :: ρ) k = k d (s0 :: s1 :: s2 :: s3 :: s4 :: s5 :: s6 :: s7 :: s8 :: s9 :: s10 :: s11 :: s12 :: s13 :: s14 :: s15 :: s16 :: .d d :: ρ) := rfl
theorem dBord_17 {x : KX} {ρ : Ev} {d : D} {de : DE} {k : D → Ev → Prop} {s0 s1 s2 s3 s4 s5 s6 s7 s8 s9 s10 s11 s12 s13 s14 s15 s16 : SV} : dBor 17 de x (s0 :: s1 :: s2 :: s3 :: s4 :: s5 :: s6 :: s7 :: s8 :: s9 :: s10 :: s11 :: s12 :: s13 :: s14 :: s15 :: s16 :: .d d :: ρ) k = de x (s0 :: s1 :: s2 :: s3 :: s4 :: s5 :: s6 :: s7 :: s8 :: s9 :: s10 :: s11 :: s12 :: s13 :: s14 :: s15 :: s16 :: .d d :: ρ) k := rfl
theorem dFrz2_18 {x : KX} {ρ : Ev} {l : List (List D)} {k : D → Ev → Prop} {s0 s1 s2 s3 s4 s5 s6 s7 s8 s9 s10 s11 s12 s13 s14 s15 s16 s17 : SV} : dFrz2 18 x (s0 :: s1 :: s2 :: s3 :: s4 :: s5 :: s6 :: s7 :: s8 :: s9 :: s10 :: s11 :: s12 :: s13 :: s14 :: s15 :: s16 :: s17 :: .own2 l :: ρ) k = k (.lst (l.map D.lst)) (List.set (s0 :: s1 :: s2 :: s3 :: s4 :: s5 :: s6 :: s7 :: s8 :: s9 :: s10 :: s11 :: s12 :: s13 :: s14 :: s15 :: s16 :: s17 :: .own2 l :: ρ) 18 (.d (.lst (l.map D.lst)))) := rfl
theorem dFrzd_18 {x : KX} {ρ : Ev} {d : D} {k : D → Ev → Prop} {s0 s1 s2 s3 s4 s5 s6 s7 s8 s9 s10 s11 s12 s13 s14 s15 s16 s17 : SV} : dFrz 18 x (s0 :: s1 :: s2 :: s3 :: s4 :: s5 :: s6 :: s7 :: s8 :: s9 :: s10 :: s11 :: s12 :: s13 :: s14 :: s15 :: s16 :: s17 :: .d d :: ρ) k = k d (s0 :: s1 :: s2 :: s3 :: s4 :: s5 :: s6 :: s7 :: s8 :: s9 :: s10 :: s11 :: s12 :: s13 :: s14 :: s15 :: s16 :: s17 :: .d d :: ρ) := rfl
theorem dBord_18 {x : KX} {ρ : Ev} {d : D} {de : DE} {k : D → Ev → Prop} {s0 s1 s2 s3 s4 s5 s6 s7 s8 s9 s10 s11 s12 s13 s14 s15 s16 s17 : SV} : dBor 18 de x (s0 :: s1 :: s2 :: s3 :: s4 :: s5 :: s6 :: s7 :: s8 :: s9 :: s10 :: s11 :: s12 :: s13 :: s14 :: s15 :: s16 :: s17 :: .d d :: ρ) k = de x (s0 :: s1 :: s2 :: s3 :: s4 :: s5 :: s6 :: s7 :: s8 :: s9 :: s10 :: s11 :: s12 :: s13 :: s14 :: s15 :: s16 :: s17 :: .d d :: ρ) k := rfl
theorem dFrz2_19 {x : KX} {ρ : Ev} {l : List (List D)} {k : D → Ev → Prop} {s0 s1 s2 s3 s4 s5 s6 s7 s8 s9 s10 s11 s12 s13 s14 s15 s16 s17 s18 : SV} : dFrz2 19 x (s0 :: s1 :: s2 :: s3 :: s4 :: s5 :: s6 :: s7 :: s8 :: s9 :: s10 :: s11 :: s12 :: s13 :: s14 :: s15 :: s16 :: s17 :: s18 :: .own2 l :: ρ) k = k (.lst (l.map D.lst)) (List.set (s0 :: s1 :: s2 :: s3 :: s4 :: s5 :: s6 :: s7 :: s8 :: s9 :: s10 :: s11 :: s12 :: s13 :: s14 :: s15 :: s16 :: s17 :: s18 :: .own2 l :: ρ) 19 (.d (.lst (l.map D.lst)))) := rfl
theorem dFrzd_19 {x : KX} {ρ : Ev} {d : D} {k : D → Ev → Prop} {s0 s1 s2 s3 s4 s5 s6 s7 s8 s9 s10 s11 s12 s13 s14 s15 s16 s17 s18 : SV} : dFrz 19 x (s0 :: s1 :: s2 :: s3 :: s4 :: s5 :: s6 :: s7 :: s8 :: s9 :: s10 :: s11 :: s12 :: s13 :: s14 :: s15 :: s16 :: s17 :: s18 :: .d d :: ρ) k = k d (s0 :: s1 :: s2 :: s3 :: s4 :: s5 :: s6 :: s7 :: s8 :: s9 :: s10 :: s11 :: s12 :: s13 :: s14 :: s15 :: s16 :: s17 :: s18 :: .d d :: ρ) := rfl
theorem dBord_19 {x : KX} {ρ : Ev} {d : D} {de : DE} {k : D → Ev → Prop} {s0 s1 s2 s3 s4 s5 s6 s7 s8 s9 s10 s11 s12 s13 s14 s15 s16 s17 s18 : SV} : dBor 19 de x (s0 :: s1 :: s2 :: s3 :: s4 :: s5 :: s6 :: s7 :: s8 :: s9 :: s10 :: s11 :: s12 :: s13 :: s14 :: s15 :: s16 :: s17 :: s18 :: .d d :: ρ) k = de x (s0 :: s1 :: s2 :: s3 :: s4 :: s5 :: s6 :: s7 :: s8 :: s9 :: s10 :: s11 :: s12 :: s13 :: s14 :: s15 :: s16 :: s17 :: s18 :: .d d :: ρ) k := rfl
theorem isDk_deck {l : List D} : isDk (.deck l) = true := rfl
theorem isDk_lst {l : List D} : isDk (.lst l) = false := rfl
theorem isDk_non : isDk .non = false := rfl
theorem isDk_int {i : Int} : isDk (.int i) = false := rfl
theorem isDk_str {i : Str} : isDk (.str i) = false := rfl
theorem isDk_tup {l : List D} : isDk (.tup l) = false := rfl
theorem fLenK_eq {f : FD} {l : List D} {k : D → Prop} : fLenK f [.deck l] k = f.go [.d (.deck l)] (fun d _ => ∃ n : Int, d = .int n ∧ (0 ≤ n ∧ n < 2 ^ 63) ∧ k (.int n)) xF := rfl
theorem oLR1_eq {da : DE} {x : KX} {ρ : Ev} {k : List D → Ev → Prop} : oLR1 da x ρ k = da x ρ fun d ρ1 => asI d fun n => 0 ≤ n ∧ n ≤ 100000 ∧ k (rng 0 n.toNat) ρ1 := by
  unfold oLR1 asI
  congr
theorem fSorted_eq {l : List D} {k : List D → Prop} : fSorted [.lst l] k = ∃ ns : List Int, l = ns.map .int ∧ ∀ ns' : List Int, ns'.Perm ns → ns'.Pairwise (· ≤ ·) → k (ns'.map .int) := rfl
theorem exInt {i : Int} {p : Int → Prop} : (∃ n : Int, D.int i = D.int n ∧ p n) = p i := propext ⟨fun ⟨n, e, h⟩ => by cases e; exact h, fun h => ⟨i, rfl, h⟩⟩
theorem exBl {i : Bool} {p : Bool → Prop} : (∃ n : Bool, D.bl i = D.bl n ∧ p n) = p i := propext ⟨fun ⟨n, e, h⟩ => by cases e; exact h, fun h => ⟨i, rfl, h⟩⟩
theorem exObs {z : D} {r : Ev} {p : D → Prop} : (∃ z' r', SV.d z :: r = SV.d z' :: r' ∧ p z') = p z := propext ⟨fun ⟨_, _, e, h⟩ => by cases e; exact h, fun h => ⟨z, r, rfl, h⟩⟩
theorem exOwn {l : List D} : (∃ l0, SV.own l = SV.own l0) = True := eq_true ⟨l, rfl⟩
theorem exOwn2 {l : List (List D)} : (∃ l0, SV.own2 l = SV.own2 l0) = True := eq_true ⟨l, rfl⟩
theorem exTown {g n : Nat} : (∃ s, SV.town g n = s ∧ (∀ d, s ≠ SV.d d) ∧ s ≠ SV.un) = True := eq_true ⟨_, rfl, by simp⟩
theorem deq_scr (l : List Int) : deq (.scr l) (.lst []) = decide (l = []) := by
  cases l <;> rfl
theorem okE_nil : okE (.lst []) = True := okE_ints []
theorem deq_nil (l : List Int) : deq (.lst (l.map .int)) (.lst []) = decide (l = []) := deq_ints l []
theorem dNils_eq {i j : Nat} {di : DL} {E : DEnds} {x : KX} {ρ : Ev} : dNils i di (dgName j) [j] E x ρ = di x ρ fun ds ρ1 => ds.length ≤ 100000 ∧ E.nx ((ρ1.set j .un).set i (.own2 (List.replicate ds.length []))) := by
  unfold dNils
  congr
  funext ds ρ1
  apply propext
  exact ⟨fun h => ⟨h.1, h.2.2⟩, fun h => ⟨h.1, fun d _ ρ k _ h2 => dg_name_ok (List.mem_singleton.mpr rfl) d ρ k h2, h.2⟩⟩
theorem atI_lt {α : Type} {l : List α} {i : Int} (h0 : 0 ≤ i) (h : i < l.length) : ∃ z, l[i.toNat]? = some z ∧ atI l i = some z := by
  have hi : i.toNat < l.length := by omega
  refine ⟨l[i.toNat], List.getElem?_eq_getElem hi, ?_⟩
  have := atI_nat (List.getElem?_eq_getElem hi)
  rwa [show ((i.toNat : Nat) : Int) = i by omega] at this
theorem ixN_nn {n : Nat} {i : Int} (h0 : 0 ≤ i) (h : i < n) : ixN n i = some i.toNat := by
  unfold ixN
  rw [if_pos h0, if_pos h]
def ixO (i : Nat) (k : D → Ev → Prop) : D → Ev → Prop := fun d ρ1 => match d, ρ1[i]? with
  | .int n, some (.own l) => ∃ z, L2.atI l n = some z ∧ k z ρ1
  | _, _ => False
theorem oLZ_ll {dl : DL} {x : KX} {ρ : Ev} {k : List D → Ev → Prop} : oLZ dl x ρ k = dl x ρ fun ds ρ1 => as2L ds fun a b => k (zipD a b) ρ1 := rfl
theorem fTuple_l {l : List D} {k : D → Prop} : fTuple [.lst l] k = k (.tup l) := rfl
theorem fTuple_t {l : List D} {k : D → Prop} : fTuple [.tup l] k = k (.tup l) := rfl
theorem ft_draw {a b : D} {i : Nat} : fits drawF [.d a, .m i, .d b] = true := rfl
theorem hide_b {ρ : Ev} : hide (.ob :: ρ) = .un :: hide ρ := rfl

theorem dIxO_0 {x : KX} {ρ : Ev} {l : List D} {db : DE} {k : D → Ev → Prop} : dIxO 0 db x (.own l :: ρ) k = db x (.own l :: ρ) (ixO 0 k) := rfl
theorem ixO_0 {ρ : Ev} {l : List D} {n : Int} {k : D → Ev → Prop} : ixO 0 k (.int n) (.own l :: ρ) = ∃ z, L2.atI l n = some z ∧ k z (.own l :: ρ) := rfl
theorem dIxOd_0 {x : KX} {ρ : Ev} {d : D} {db : DE} {k : D → Ev → Prop} : dIxO 0 db x (.d d :: ρ) k = db x (.d d :: ρ) (fun d2 ρ2 => fIx d d2 fun z => k z ρ2) := rfl
theorem dIxO_1 {x : KX} {ρ : Ev} {l : List D} {db : DE} {k : D → Ev → Prop} {s0 : SV} : dIxO 1 db x (s0 :: .own l :: ρ) k = db x (s0 :: .own l :: ρ) (ixO 1 k) := rfl
theorem ixO_1 {ρ : Ev} {l : List D} {n : Int} {k : D → Ev → Prop} {s0 : SV} : ixO 1 k (.int n) (s0 :: .own l :: ρ) = ∃ z, L2.atI l n = some z ∧ k z (s0 :: .own l :: ρ) := rfl
theorem dIxOd_1 {x : KX} {ρ : Ev} {d : D} {db : DE} {k : D → Ev → Prop} {s0 : SV} : dIxO 1 db x (s0 :: .d d :: ρ) k = db x (s0 :: .d d :: ρ) (fun d2 ρ2 => fIx d d2 fun z => k z ρ2) := rfl
theorem dIxO_2 {x : KX} {ρ : Ev} {l : List D} {db : DE} {k : D → Ev → Prop} {s0 s1 : SV} : dIxO 2 db x (s0 :: s1 :: .own l :: ρ) k = db x (s0 :: s1 :: .own l :: ρ) (ixO 2 k) := rfl
theorem ixO_2 {ρ : Ev} {l : List D} {n : Int} {k : D → Ev → Prop} {s0 s1 : SV} : ixO 2 k (.int n) (s0 :: s1 :: .own l :: ρ) = ∃ z, L2.atI l n = some z ∧ k z (s0 :: s1 :: .own l :: ρ) := rfl
theorem dIxOd_2 {x : KX} {ρ : Ev} {d : D} {db : DE} {k : D → Ev → Prop} {s0 s1 : SV} : dIxO 2 db x (s0 :: s1 :: .d d :: ρ) k = db x (s0 :: s1 :: .d d :: ρ) (fun d2 ρ2 => fIx d d2 fun z => k z ρ2) := rfl
theorem dIxO_3 {x : KX} {ρ : Ev} {l : List D} {db : DE} {k : D → Ev → Prop} {s0 s1 s2 : SV} : dIxO 3 db x (s0 :: s1 :: s2 :: .own l :: ρ) k = db x (s0 :: s1 :: s2 :: .own l :: ρ) (ixO 3 k) := rfl
theorem ixO_3 {ρ : Ev} {l : List D} {n : Int} {k : D → Ev → Prop} {s0 s1 s2 : SV} : ixO 3 k (.int n) (s0 :: s1 :: s2 :: .own l :: ρ) = ∃ z, L2.atI l n = some z ∧ k z (s0 :: s1 :: s2 :: .own l :: ρ) := rfl
theorem dIxOd_3 {x : KX} {ρ : Ev} {d : D} {db : DE} {k : D → Ev → Prop} {s0 s1 s2 : SV} : dIxO 3 db x (s0 :: s1 :: s2 :: .d d :: ρ) k = db x (s0 :: s1 :: s2 :: .d d :: ρ) (fun d2 ρ2 => fIx d d2 fun z => k z ρ2) := rfl
theorem dIxO_4 {x : KX} {ρ : Ev} {l : List D} {db : DE} {k : D → Ev → Prop} {s0 s1 s2 s3 : SV} : dIxO 4 db x (s0 :: s1 :: s2 :: s3 :: .own l :: ρ) k = db x (s0 :: s1 :: s2 :: s3 :: .own l :: ρ) (ixO 4 k) := rfl
theorem ixO_4 {ρ : Ev} {l : List D} {n : Int} {k : D → Ev → Prop} {s0 s1 s2 s3 : SV} : ixO 4 k (.int n) (s0 :: s1 :: s2 :: s3 :: .own l :: ρ) = ∃ z, L2.atI l n = some z ∧ k z (s0 :: s1 :: s2 :: s3 :: .own l :: ρ) := rfl
theorem dIxOd_4 {x : KX} {ρ : Ev} {d : D} {db : DE} {k : D → Ev → Prop} {s0 s1 s2 s3 : SV} : dIxO 4 db x (s0 :: s1 :: s2 :: s3 :: .d d :: ρ) k = db x (s0 :: s1 :: s2 :: s3 :: .d d :: ρ) (fun d2 ρ2 => fIx d d2 fun z => k z ρ2) := rfl
theorem dIxO_5 {x : KX} {ρ : Ev} {l : List D} {db : DE} {k : D → Ev → Prop} {s0 s1 s2 s3 s4 : SV} : dIxO 5 db x (s0 :: s1 :: s2 :: s3 :: s4 :: .own l :: ρ) k = db x (s0 :: s1 :: s2 :: s3 :: s4 :: .own l :: ρ) (ixO 5 k) := rfl
theorem ixO_5 {ρ : Ev} {l : List D} {n : Int} {k : D → Ev → Prop} {s0 s1 s2 s3 s4 : SV} : ixO 5 k (.int n) (s0 :: s1 :: s2 :: s3 :: s4 :: .own l :: ρ) = ∃ z, L2.atI l n = some z ∧ k z (s0 :: s1 :: s2 :: s3 :: s4 :: .own l :: ρ) := rfl
theorem dIxOd_5 {x : KX} {ρ : Ev} {d : D} {db : DE} {k : D → Ev → Prop} {s0 s1 s2 s3 s4 : SV} : dIxO 5 db x (s0 :: s1 :: s2 :: s3 :: s4 :: .d d :: ρ) k = db x (s0 :: s1 :: s2 :: s3 :: s4 :: .d d :: ρ) (fun d2 ρ2 => fIx d d2 fun z => k z ρ2) := rfl
theorem dIxO_6 {x : KX} {ρ : Ev} {l : List D} {db : DE} {k : D → Ev → Prop} {s0 s1 s2 s3 s4 s5 : SV} : dIxO 6 db x (s0 :: s1 :: s2 :: s3 :: s4 :: s5 :: .own l :: ρ) k = db x (s0 :: s1 :: s2 :: s3 :: s4 :: s5 :: .own l :: ρ) (ixO 6 k) := rfl
theorem ixO_6 {ρ : Ev} {l : List D} {n : Int} {k : D → Ev → Prop} {s0 s1 s2 s3 s4 s5 : SV} : ixO 6 k (.int n) (s0 :: s1 :: s2 :: s3 :: s4 :: s5 :: .own l :: ρ) = ∃ z, L2.atI l n = some z ∧ k z (s0 :: s1 :: s2 :: s3 :: s4 :: s5 :: .own l :: ρ) := rfl
theorem dIxOd_6 {x : KX} {ρ : Ev} {d : D} {db : DE} {k : D → Ev → Prop} {s0 s1 s2 s3 s4 s5 : SV} : dIxO 6 db x (s0 :: s1 :: s2 :: s3 :: s4 :: s5 :: .d d :: ρ) k = db x (s0 :: s1 :: s2 :: s3 :: s4 :: s5 :: .d d :: ρ) (fun d2 ρ2 => fIx d d2 fun z => k z ρ2) := rfl
theorem dIxO_7 {x : KX} {ρ : Ev} {l : List D} {db : DE} {k : D → Ev → Prop} {s0 s1 s2 s3 s4 s5 s6 : SV} : dIxO 7 db x (s0 :: s1 :: s2 :: s3 :: s4 :: s5 :: s6 :: .own l :: ρ) k = db x (s0 :: s1 :: s2 :: s3 :: s4 :: s5 :: s6 :: .own l :: ρ) (ixO 7 k) := rfl
theorem ixO_7 {ρ : Ev} {l : List D} {n : Int} {k : D → Ev → Prop} {s0 s1 s2 s3 s4 s5 s6 : SV} : ixO 7 k (.int n) (s0 :: s1 :: s2 :: s3 :: s4 :: s5 :: s6 :: .own l :: ρ) = ∃ z, L2.atI l n = some z ∧ k z (s0 :: s1 :: s2 :: s3 :: s4 :: s5 :: s6 :: .own l :: ρ) := rfl
theorem dIxOd_7 {x : KX} {ρ : Ev} {d : D} {db : DE} {k : D → Ev → Prop} {s0 s1 s2 s3 s4 s5 s6 : SV} : dIxO 7 db x (s0 :: s1 :: s2 :: s3 :: s4 :: s5 :: s6 :: .d d :: ρ) k = db x (s0 :: s1 :: s2 :: s3 :: s4 :: s5 :: s6 :: .d d :: ρ) (fun d2 ρ2 => fIx d d2 fun z => k z ρ2) := rfl
theorem dIxO_8 {x : KX} {ρ : Ev} {l : List D} {db : DE} {k : D → Ev → Prop} {s0 s1 s2 s3 s4 s5 s6 s7 : SV} : dIxO 8 db x (s0 :: s1 :: s2 :: s3 :: s4 :: s5 :: s6 :: s7 :: .own l :: ρ) k = db x (s0 :: s1 :: s2 :: s3 :: s4 :: s5 :: s6 :: s7 :: .own l :: ρ) (ixO 8 k) := rfl
theorem ixO_8 {ρ : Ev} {l : List D} {n : Int} {k : D → Ev → Prop} {s0 s1 s2 s3 s4 s5 s6 s7 : SV} : ixO 8 k (.int n) (s0 :: s1 :: s2 :: s3 :: s4 :: s5 :: s6 :: s7 :: .own l :: ρ) = ∃ z, L2.atI l n = some z ∧ k z (s0 :: s1 :: s2 :: s3 :: s4 :: s5 :: s6 :: s7 :: .own l :: ρ) := rfl
theorem dIxOd_8 {x : KX} {ρ : Ev} {d : D} {db : DE} {k : D → Ev → Prop} {s0 s1 s2 s3 s4 s5 s6 s7 : SV} : dIxO 8 db x (s0 :: s1 :: s2 :: s3 :: s4 :: s5 :: s6 :: s7 :: .d d :: ρ) k = db x (s0 :: s1 :: s2 :: s3 :: s4 :: s5 :: s6 :: s7 :: .d d :: ρ) (fun d2 ρ2 => fIx d d2 fun z => k z ρ2) := rfl
theorem dIxO_9 {x : KX} {ρ : Ev} {l : List D} {db : DE} {k : D → Ev → Prop} {s0 s1 s2 s3 s4 s5 s6 s7 s8 : SV} : dIxO 9 db x (s0 :: s1 :: s2 :: s3 :: s4 :: s5 :: s6 :: s7 :: s8 :: .own l :: ρ) k = db x (s0 :: s1 :: s2 :: s3 :: s4 :: s5 :: s6 :: s7 :: s8 :: .own l :: ρ) (ixO 9 k) := rfl
theorem ixO_9 {ρ : Ev} {l : List D} {n : Int} {k : D → Ev → Prop} {s0 s1 s2 s3 s4 s5 s6 s7 s8 : SV} : ixO 9 k (.int n) (s0 :: s1 :: s2 :: s3 :: s4 :: s5 :: s6 :: s7 :: s8 :: .own l :: ρ) = ∃ z, L2.atI l n = some z ∧ k z (s0 :: s1 :: s2 :: s3 :: s4 :: s5 :: s6 :: s7 :: s8 :: .own l :: ρ) := rfl
theorem dIxOd_9 {x : KX} {ρ : Ev} {d : D} {db : DE} {k : D → Ev → Prop} {s0 s1 s2 s3 s4 s5 s6 s7 s8 : SV} : dIxO 9 db x (s0 :: s1 :: s2 :: s3 :: s4 :: s5 :: s6 :: s7 :: s8 :: .d d :: ρ) k = db x (s0 :: s1 :: s2 :: s3 :: s4 :: s5 :: s6 :: s7 :: s8 :: .d d :: ρ) (fun d2 ρ2 => fIx d d2 fun z => k z ρ2) := rfl
theorem dIxO_10 {x : KX} {ρ : Ev} {l : List D} {db : DE} {k : D → Ev → Prop} {s0 s1 s2 s3 s4 s5 s6 s7 s8 s9 : SV} : dIxO 10 db x (s0 :: s1 :: s2 :: s3 :: s4 :: s5 :: s6 :: s7 :: s8 :: s9 :: .own l :: ρ) k = db x (s0 :: s1 :: s2 :: s3 :: s4 :: s5 :: s6 :: s7 :: s8 :: s9 :: .own l :: ρ) (ixO 10 k) := rfl
theorem ixO_10 {ρ : Ev} {l : List D} {n : Int} {k : D → Ev → Prop} {s0 s1 s2 s3 s4 s5 s6 s7 s8 s9 : SV} : ixO 10 k (.int n) (s0 :: s1 :: s2 :: s3 :: s4 :: s5 :: s6 :: s7 :: s8 :: s9 :: .own l :: ρ) = ∃ z, L2.atI l n = some z ∧ k z (s0 :: s1 :: s2 :: s3 :: s4 :: s5 :: s6 :: s7 :: s8 :: s9 :: .own l :: ρ) := rfl
theorem dIxOd_10 {x : KX} {ρ : Ev} {d : D} {db : DE} {k : D → Ev → Prop} {s0 s1 s2 s3 s4 s5 s6 s7 s8 s9 : SV} : dIxO 10 db x (s0 :: s1 :: s2 :: s3 :: s4 :: s5 :: s6 :: s7 :: s8 :: s9 :: .d d :: ρ) k = db x (s0 :: s1 :: s2 :: s3 :: s4 :: s5 :: s6 :: s7 :: s8 :: s9 :: .d d :: ρ) (fun d2 ρ2 => fIx d d2 fun z => k z ρ2) := rfl
theorem dIxO_11 {x : KX} {ρ : Ev} {l : List D} {db : DE} {k : D → Ev → Prop} {s0 s1 s2 s3 s4 s5 s6 s7 s8 s9 s10 : SV} : dIxO 11 db x (s0 :: s1 :: s2 :: s3 :: s4 :: s5 :: s6 :: s7 :: s8 :: s9 :: s10 :: .own l :: ρ) k = db x (s0 :: s1 :: s2 :: s3 :: s4 :: s5 :: s6 :: s7 :: s8 :: s9 :: s10 :: .own l :: ρ) (ixO 11 k) := rfl
theorem ixO_11 {ρ : Ev} {l : List D} {n : Int} {k : D → Ev → Prop} {s0 s1 s2 s3 s4 s5 s6 s7 s8 s9 s10 : SV} : ixO 11 k (.int n) (s0 :: s1 :: s2 :: s3 :: s4 :: s5 :: s6 :: s7 :: s8 :: s9 :: s10 :: .own l :: ρ) = ∃ z, L2.atI l n = some z ∧ k z (s0 :: s1 :: s2 :: s3 :: s4 :: s5 :: s6 :: s7 :: s8 :: s9 :: s10 :: .own l :: ρ) := rfl
theorem dIxOd_11 {x : KX} {ρ : Ev} {d : D} {db : DE} {k : D → Ev → Prop} {s0 s1 s2 s3 s4 s5 s6 s7 s8 s9 s10 : SV} : dIxO 11 db x (s0 :: s1 :: s2 :: s3 :: s4 :: s5 :: s6 :: s7 :: s8 :: s9 :: s10 :: .d d :: ρ) k = db x (s0 :: s1 :: s2 :: s3 :: s4 :: s5 :: s6 :: s7 :: s8 :: s9 :: s10 :: .d d :: ρ) (fun d2 ρ2 => fIx d d2 fun z => k z ρ2) := rfl
theorem dIxO_12 {x : KX} {ρ : Ev} {l : List D} {db : DE} {k : D → Ev → Prop} {s0 s1 s2 s3 s4 s5 s6 s7 s8 s9 s10 s11 : SV} : dIxO 12 db x (s0 :: s1 :: s2 :: s3 :: s4 :: s5 :: s6 :: s7 :: s8 :: s9 :: s10 :: s11 :: .own l :: ρ) k = db x (s0 :: s1 :: s2 :: s3 :: s4 :: s5 :: s6 :: s7 :: s8 :: s9 :: s10 :: s11 :: .own l :: ρ) (ixO 12 k) := rfl
theorem ixO_12 {ρ : Ev} {l : List D} {n : Int} {k : D → Ev → Prop} {s0 s1 s2 s3 s4 s5 s6 s7 s8 s9 s10 s11 : SV} : ixO 12 k (.int n) (s0 :: s1 :: s2 :: s3 :: s4 :: s5 :: s6 :: s7 :: s8 :: s9 :: s10 :: s11 :: .own l :: ρ) = ∃ z, L2.atI l n = some z ∧ k z (s0 :: s1 :: s2 :: s3 :: s4 :: s5 :: s6 :: s7 :: s8 :: s9 :: s10 :: s11 :: .own l :: ρ) := rfl
theorem dIxOd_12 {x : KX} {ρ : Ev} {d : D} {db : DE} {k : D → Ev → Prop} {s0 s1 s2 s3 s4 s5 s6 s7 s8 s9 s10 s11 : SV} : dIxO 12 db x (s0 :: s1 :: s2 :: s3 :: s4 :: s5 :: s6 :: s7 :: s8 :: s9 :: s10 :: s11 :: .d d :: ρ) k = db x (s0 :: s1 :: s2 :: s3 :: s4 :: s5 :: s6 :: s7 :: s8 :: s9 :: s10 :: s11 :: .d d :: ρ) (fun d2 ρ2 => fIx d d2 fun z => k z ρ2) := rfl
theorem dIxO_13 {x : KX} {ρ : Ev} {l : List D} {db : DE} {k : D → Ev → Prop} {s0 s1 s2 s3 s4 s5 s6 s7 s8 s9 s10 s11 s12 : SV} : dIxO 13 db x (s0 :: s1 :: s2 :: s3 :: s4 :: s5 :: s6 :: s7 :: s8 :: s9 :: s10 :: s11 :: s12 :: .own l :: ρ) k = db x (s0 :: s1 :: s2 :: s3 :: s4 :: s5 :: s6 :: s7 :: s8 :: s9 :: s10 :: s11 :: s12 :: .own l :: ρ) (ixO 13 k) := rfl
theorem ixO_13 {ρ : Ev} {l : List D} {n : Int} {k : D → Ev → Prop} {s0 s1 s2 s3 s4 s5 s6 s7 s8 s9 s10 s11 s12 : SV} : ixO 13 k (.int n) (s0 :: s1 :: s2 :: s3 :: s4 :: s5 :: s6 :: s7 :: s8 :: s9 :: s10 :: s11 :: s12 :: .own l :: ρ) = ∃ z, L2.atI l n = some z ∧ k z (s0 :: s1 :: s2 :: s3 :: s4 :: s5 :: s6 :: s7 :: s8 :: s9 :: s10 :: s11 :: s12 :: .own l :: ρ) := rfl
theorem dIxOd_13 {x : KX} {ρ : Ev} {d : D} {db : DE} {k : D → Ev → Prop} {s0 s1 s2 s3 s4 s5 s6 s7 s8 s9 s10 s11 s12 : SV} : dIxO 13 db x (s0 :: s1 :: s2 :: s3 :: s4 :: s5 :: s6 :: s7 :: s8 :: s9 :: s10 :: s11 :: s12 :: .d d :: ρ) k = db x (s0 :: s1 :: s2 :: s3 :: s4 :: s5 :: s6 :: s7 :: s8 :: s9 :: s10 :: s11 :: s12 :: .d d :: ρ) (fun d2 ρ2 => fIx d d2 fun z => k z ρ2) := rfl
theorem dIxO_14 {x : KX} {ρ : Ev} {l : List D} {db : DE} {k : D → Ev → Prop} {s0 s1 s2 s3 s4 s5 s6 s7 s8 s9 s10 s11 s12 s13 : SV} : dIxO 14 db x (s0 :: s1 :: s2 :: s3 :: s4 :: s5 :: s6 :: s7 :: s8 :: s9 :: s10 :: s11 :: s12 :: s13 :: .own l :: ρ) k = db x (s0 :: s1 :: s2 :: s3 :: s4 :: s5 :: s6 :: s7 :: s8 :: s9 :: s10 :: s11 :: s12 :: s13 :: .own l :: ρ) (ixO 14 k) := rfl
theorem ixO_14 {ρ : Ev} {l : List D} {n : Int} {k : D → Ev → Prop} {s0 s1 s2 s3 s4 s5 s6 s7 s8 s9 s10 s11 s12 s13 : SV} : ixO 14 k (.int n) (s0 :: s1 :: s2 :: s3 :: s4 :: s5 :: s6 :: s7 :: s8 :: s9 :: s10 :: s11 :: s12 :: s13 :: .own l :: ρ) = ∃ z, L2.atI l n = some z ∧ k z (s0 :: s1 :: s2 :: s3 :: s4 :: s5 :: s6 :: s7 :: s8 :: s9 :: s10 :: s11 :: s12 :: s13 :: .own l :: ρ) := rfl
theorem dIxOd_14 {x : KX} {ρ : Ev} {d : D} {db : DE} {k : D → Ev → Prop} {s0 s1 s2 s3 s4 s5 s6 s7 s8 s9 s10 s11 s12 s13 : SV} : dIxO 14 db x (s0 :: s1 :: s2 :: s3 :: s4 :: s5 :: s6 :: s7 :: s8 :: s9 :: s10 :: s11 :: s12 :: s13 :: .d d :: ρ) k = db x (s0 :: s1 :: s2 :: s3 :: s4 :: s5 :: s6 :: s7 :: s8 :: s9 :: s10 :: s11 :: s12 :: s13 :: .d d :: ρ) (fun d2 ρ2 => fIx d d2 fun z => k z ρ2) := rfl
theorem dIxO_15 {x : KX} {ρ : Ev} {l : List D} {db : DE} {k : D → Ev → Prop} {s0 s1 s2 s3 s4 s5 s6 s7 s8 s9 s10 s11 s12 s13 s14 : SV} : dIxO 15 db x (s0 :: s1 :: s2 :: s3 :: s4 :: s5 :: s6 :: s7 :: s8 :: s9 :: s10 :: s11 :: s12 :: s13 :: s14 :: .own l :: ρ) k = db x (s0 :: s1 :: s2 :: s3 :: s4 :: s5 :: s6 :: s7 :: s8 :: s9 :: s10 :: s11 :: s12 :: s13 :: s14 :: .own l :: ρ) (ixO 15 k) := rfl
theorem ixO_15 {ρ : Ev} {l : List D} {n : Int} {k : D → Ev → Prop} {s0 s1 s2 s3 s4 s5 s6 s7 s8 s9 s10 s11 s12 s13 s14 : SV} : ixO 15 k (.int n) (s0 :: s1 :: s2 :: s3 :: s4 :: s5 :: s6 :: s7 :: s8 :: s9 :: s10 :: s11 :: s12 :: s13 :: s14 :: .own l :: ρ) = ∃ z, L2.atI l n = some z ∧ k z (s0 :: s1 :: s2 :: s3 :: s4 :: s5 :: s6 :: s7 :: s8 :: s9 :: s10 :: s11 :: s12 :: s13 :: s14 :: .own l :: ρ) := rfl
theorem dIxOd_15 {x : KX} {ρ : Ev} {d : D} {db : DE} {k : D → Ev → Prop} {s0 s1 s2 s3 s4 s5 s6 s7 s8 s9 s10 s11 s12 s13 s14 : SV} : dIxO 15 db x (s0 :: s1 :: s2 :: s3 :: s4 :: s5 :: s6 :: s7 :: s8 :: s9 :: s10 :: s11 :: s12 :: s13 :: s14 :: .d d :: ρ) k = db x (s0 :: s1 :: s2 :: s3 :: s4 :: s5 :: s6 :: s7 :: s8 :: s9 :: s10 :: s11 :: s12 :: s13 :: s14 :: .d d :: ρ) (fun d2 ρ2 => fIx d d2 fun z => k z ρ2) := rfl
theorem dIxO_16 {x : KX} {ρ : Ev} {l : List D} {db : DE} {k : D → Ev → Prop} {s0 s1 s2 s3 s4 s5 s6 s7 s8 s9 s10 s11 s12 s13 s14 s15 : SV} : dIxO 16 db x (s0 :: s1 :: s2 :: s3 :: s4 :: s5 :: s6 :: s7 :: s8 :: s9 :: s10 :: s11 :: s12 :: s13 :: s14 :: s15 :: .own l :: ρ) k = db x (s0 :: s1 :: s2 :: s3 :: s4 :: s5 :: s6 :: s7 :: s8 :: s9 :: s10 :: s11 :: s12 :: s13 :: s14 :: s15 :: .own l :: ρ) (ixO 16 k) := rfl
theorem ixO_16 {ρ : Ev} {l : List D} {n : Int} {k : D → Ev → Prop} {s0 s1 s2 s3 s4 s5 s6 s7 s8 s9 s10 s11 s12 s13 s14 s15 : SV} : ixO 16 k (.int n) (s0 :: s1 :: s2 :: s3 :: s4 :: s5 :: s6 :: s7 :: s8 :: s9 :: s10 :: s11 :: s12 :: s13 :: s14 :: s15 :: .own l :: ρ) = ∃ z, L2.atI l n = some z ∧ k z (s0 :: s1 :: s2 :: s3 :: s4 :: s5 :: s6 :: s7 :: s8 :: s9 :: s10 :: s11 :: s12 :: s13 :: s14 :: s15 :: .own l :: ρ) := rfl
theorem dIxOd_16 {x : KX} {ρ : Ev} {d : D} {db : DE} {k : D → Ev → Prop} {s0 s1 s2 s3 s4 s5 s6 s7 s8 s9 s10 s11 s12 s13 s14 s15 : SV} : dIxO 16 db x (s0 :: s1 :: s2 :: s3 :: s4 :: s5 :: s6 :: s7 :: s8 :: s9 :: s10 :: s11 :: s12 :: s13 :: s14 :: s15 :: .d d :: ρ) k = db x (s0 :: s1 :: s2 :: s3 :: s4 :: s5 :: s6 :: s7 :: s8 :: s9 :: s10 :: s11 :: s12 :: s13 :: s14 :: s15 :: .d d :: ρ) (fun d2 ρ2 => fIx d d2 fun z => k z ρ2) := rfl
theorem dIxO_17 {x : KX} {ρ : Ev} {l : List D} {db : DE} {k : D → Ev → Prop} {s0 s1 s2 s3 s4 s5 s6 s7 s8 s9 s10 s11 s12 s13 s14 s15 s16 : SV} : dIxO 17 db x (s0 :: s1 :: s2 :: s3 :: s4 :: s5 :: s6 :: s7 :: s8 :: s9 :: s10 :: s11 :: s12 :: s13 :: s14 :: s15 :: s16 :: .own l :: ρ) k = db x (s0 :: s1 :: s2 :: s3 :: s4 :: s5 :: s6 :: s7 :: s8 :: s9 :: s10 :: s11 :: s12 :: s13 :: s14 :: s15 :: s16 :: .own l :: ρ) (ixO 17 k) := rfl
theorem ixO_17 {ρ : Ev} {l : List D} {n : Int} {k : D → Ev → Prop} {s0 s1 s2 s3 s4 s5 s6 s7 s8 s9 s10 s11 s12 s13 s14 s15 s16 : SV} : ixO 17 k (.int n) (s0 :: s1 :: s2 :: s3 :: s4 :: s5 :: s6 :: s7 :: s8 :: s9 :: s10 :: s11 :: s12 :: s13 :: s14 :: s15 :: s16 :: .own l :: ρ) = ∃ z, L2.atI l n = some z ∧ k z (s0 :: s1 :: s2 :: s3 :: s4 :: s5 :: s6 :: s7 :: s8 :: s9 :: s10 :: s11 :: s12 :: s13 :: s14 :: s15 :: s16 :: .own l :: ρ) := rfl
theorem dIxOd_17 {x : KX} {ρ : Ev} {d : D} {db : DE} {k : D → Ev → Prop} {s0 s1 s2 s3 s4 s5 s6 s7 s8 s9 s10 s11 s12 s13 s14 s15 s16 : SV} : dIxO 17 db x (s0 :: s1 :: s2 :: s3 :: s4 :: s5 :: s6 :: s7 :: s8 :: s9 :: s10 :: s11 :: s12 :: s13 :: s14 :: s15 :: s16 :: .d d :: ρ) k = db x (s0 :: s1 :: s2 :: s3 :: s4 :: s5 :: s6 :: s7 :: s8 :: s9 :: s10 :: s11 :: s12 :: s13 :: s14 :: s15 :: s16 :: .d d :: ρ) (fun d2 ρ2 => fIx d d2 fun z => k z ρ2) := rfl
theorem dIxO_18 {x : KX} {ρ : Ev} {l : List D} {db : DE} {k : D → Ev → Prop} {s0 s1 s2 s3 s4 s5 s6 s7 s8 s9 s10 s11 s12 s13 s14 s15 s16 s17 : SV} : dIxO 18 db x (s0 :: s1 :: s2 :: s3 :: s4 :: s5 :: s6 :: s7 :: s8 :: s9 :: s10 :: s11 :: s12 :: s13 :: s14 :: s15 :: s16 :: s17 :: .own l :: ρ) k = db x (s0 :: s1 :: s2 :: s3 :: s4 :: s5 :: s6 :: s7 :: s8 :: s9 :: s10 :: s11 :: s12 :: s13 :: s14 :: s15 :: s16 :: s17 :: .own l :: ρ) (ixO 18 k) := rfl
theorem ixO_18 {ρ : Ev} {l : List D} {n : Int} {k : D → Ev → Prop} {s0 s1 s2 s3 s4 s5 s6 s7 s8 s9 s10 s11 s12 s13 s14 s15 s16 s17 : SV} : ixO 18 k (.int n) (s0 :: s1 :: s2 :: s3 :: s4 :: s5 :: s6 :: s7 :: s8 :: s9 :: s10 :: s11 :: s12 :: s13 :: s14 :: s15 :: s16 :: s17 :: .own l :: ρ) = ∃ z, L2.atI l n = some z ∧ k z (s0 :: s1 :: s2 :: s3 :: s4 :: s5 :: s6 :: s7 :: s8 :: s9 :: s10 :: s11 :: s12 :: s13 :: s14 :: s15 :: s16 :: s17 :: .own l :: ρ) := rfl
theorem dIxOd_18 {x : KX} {ρ : Ev} {d : D} {db : DE} {k : D → Ev → Prop} {s0 s1 s2 s3 s4 s5 s6 s7 s8 s9 s10 s11 s12 s13 s14 s15 s16 s17 : SV} : dIxO 18 db x (s0 :: s1 :: s2 :: s3 :: s4 :: s5 :: s6 :: s7 :: s8 :: s9 :: s10 :: s11 :: s12 :: s13 :: s14 :: s15 :: s16 :: s17 :: .d d :: ρ) k = db x (s0 :: s1 :: s2 :: s3 :: s4 :: s5 :: s6 :: s7 :: s8 :: s9 :: s10 :: s11 :: s12 :: s13 :: s14 :: s15 :: s16 :: s17 :: .d d :: ρ) (fun d2 ρ2 => fIx d d2 fun z => k z ρ2) := rfl
theorem dIxO_19 {x : KX} {ρ : Ev} {l : List D} {db : DE} {k : D → Ev → Prop} {s0 s1 s2 s3 s4 s5 s6 s7 s8 s9 s10 s11 s12 s13 s14 s15 s16 s17 s18 : SV} : dIxO 19 db x (s0 :: s1 :: s2 :: s3 :: s4 :: s5 :: s6 :: s7 :: s8 :: s9 :: s10 :: s11 :: s12 :: s13 :: s14 :: s15 :: s16 :: s17 :: s18 :: .own l :: ρ) k = db x (s0 :: s1 :: s2 :: s3 :: s4 :: s5 :: s6 :: s7 :: s8 :: s9 :: s10 :: s11 :: s12 :: s13 :: s14 :: s15 :: s16 :: s17 :: s18 :: .own l :: ρ) (ixO 19 k) := rfl
theorem ixO_19 {ρ : Ev} {l : List D} {n : Int} {k : D → Ev → Prop} {s0 s1 s2 s3 s4 s5 s6 s7 s8 s9 s10 s11 s12 s13 s14 s15 s16 s17 s18 : SV} : ixO 19 k (.int n) (s0 :: s1 :: s2 :: s3 :: s4 :: s5 :: s6 :: s7 :: s8 :: s9 :: s10 :: s11 :: s12 :: s13 :: s14 :: s15 :: s16 :: s17 :: s18 :: .own l :: ρ) = ∃ z, L2.atI l n = some z ∧ k z (s0 :: s1 :: s2 :: s3 :: s4 :: s5 :: s6 :: s7 :: s8 :: s9 :: s10 :: s11 :: s12 :: s13 :: s14 :: s15 :: s16 :: s17 :: s18 :: .own l :: ρ) := rfl
theorem dIxOd_19 {x : KX} {ρ : Ev} {d : D} {db : DE} {k : D → Ev → Prop} {s0 s1 s2 s3 s4 s5 s6 s7 s8 s9 s10 s11 s12 s13 s14 s15 s16 s17 s18 : SV} : dIxO 19 db x (s0 :: s1 :: s2 :: s3 :: s4 :: s5 :: s6 :: s7 :: s8 :: s9 :: s10 :: s11 :: s12 :: s13 :: s14 :: s15 :: s16 :: s17 :: s18 :: .d d :: ρ) k = db x (s0 :: s1 :: s2 :: s3 :: s4 :: s5 :: s6 :: s7 :: s8 :: s9 :: s10 :: s11 :: s12 :: s13 :: s14 :: s15 :: s16 :: s17 :: s18 :: .d d :: ρ) (fun d2 ρ2 => fIx d d2 fun z => k z ρ2) := rfl
end Y
namespace Y
open PySem L2
def d_is_number : DS := (dRet (dAnd (dIsi .int (dVar 0)) (dAnd (dNot (dIsi .bool (dVar 0))) (dChain fLe fLe (dVar 1) (dVar 0) (dVar 2)))))
def f_is_number : FD := fdef 3 0 [] d_is_number
theorem mm_is_number : f_is_number.m = 3 := rfl

def b1_Deck_places : DS := (dSetIx 1 (dVar 2) (dVar 3))
def d_Deck_places : DS := (dSeq (dSetO 1 (oComp (iL (dFld (dVar 0))) (dgName 3) dtYes (dC (.int 0)) [3]))
  (dSeq (dFor (iE (lCons (dFld (dVar 0)) lNil)) (dgTup 2 (dgCons (dgName 2) (dgCons (dgName 3) dgNil))) b1_Deck_places)
  (dRet (dFrz 1))))
def f_Deck_places : FD := fdef 1 3 [] d_Deck_places
theorem mm_Deck_places : f_Deck_places.m = 1 := rfl

def d_Deck_in_order : DS := (dRet (dOp fEq (dFld (dVar 0)) (dL (oLR1 (dCB fLen (lCons (dFld (dVar 0)) lNil))))))
def f_Deck_in_order : FD := fdef 1 0 [] d_Deck_in_order
theorem mm_Deck_in_order : f_Deck_in_order.m = 1 := rfl

def b1_power : DS := (dAug fMulI 2 (dVar 0))
def d_power : DS := (dSeq (dSet 2 (dC (.int 1)))
  (dSeq (dFor (iR1 (lCons (dVar 1) lNil)) (dgName 3) b1_power)
  (dRet (dVar 2))))
def f_power : FD := fdef 2 2 [] d_power
theorem mm_power : f_power.m = 2 := rfl

def t1_dealt_out : DT := (dB (dOp fEq (dVar 8) (dVar 4)))
def t2_dealt_out : DT := (dB (dOp fLt (dVar 7) (dVar 3)))
def b3_dealt_out : DS := (dSetIx 1 (dOp fAdd (dVar 2) (dCB fInt1 (lCons (dOp (fIn false) (dVar 7) (dVar 6)) lNil))) (dVar 7))
def b4_dealt_out : DS := (dSeq (dSet 5 (dL (oComp (iE (lCons (dVar 0) lNil)) (dgTup 2 (dgCons (dgName 7) (dgCons (dgName 8) dgNil))) t1_dealt_out (dVar 7) [7, 8])))
  (dSeq (dSet 6 (dL (oComp (iL (dVar 5)) (dgName 7) t2_dealt_out (dVar 7) [7])))
  (dSeq (dFor (iL (dVar 5)) (dgName 7) b3_dealt_out)
  (dSeq (dIfS (dB (dOp fNe (dVar 6) (dL (oLst lNil)))) (dAug fAddI 2 (dC (.int 1))) dNext)
  (dSet 3 (dMaxDef (dVar 6) (dCB fMax1 (lCons (dVar 5) lNil))))))))
def d_dealt_out : DS := (dSeq (dSetO 1 (oComp (iL (dVar 0)) (dgName 4) dtYes (dC (.int 0)) [4]))
  (dSeq (dSet 2 (dC (.int 0)))
  (dSeq (dSet 3 (dNeg (dC (.int 1))))
  (dSeq (dFor (iL (dL (oSortSet (dVar 0)))) (dgName 4) b4_dealt_out)
  (dRet (dFrz 1))))))
def f_dealt_out : FD := fdef 1 8 [] d_dealt_out
theorem mm_dealt_out : f_dealt_out.m = 1 := rfl


def d__law_draw : DS := (dSeq (dSetIx 1 (dOp fAdd (dBor 1 (dOp fIx (dVar 1) (dC (.int 0)))) (dC (.int 1))) (dC (.int 0)))
  (dSeq (dIfS (dB (dOp fEq (dVar 0) (dL (oLst lNil)))) (dRet (dOp fMod (dOp fDiv (dOp fMul (dOp fMul (dBor 1 (dOp fIx (dVar 1) (dC (.int 0)))) (dBor 1 (dOp fIx (dVar 1) (dC (.int 0))))) (dC (.int 7))) (dC (.int 3))) (dVar 2))) dNext)
  (dSeq (dSet 3 (dOp fMod (dBor 1 (dOp fIx (dVar 1) (dC (.int 0)))) (dCB fLen (lCons (dVar 0) lNil))))
  (dSeq (dSet 4 (dBor 1 (dOp fIx (dVar 1) (dOp fAdd (dC (.int 1)) (dVar 3)))))
  (dSeq (dIfS (dtAnd (dB (dOp fGe (dOp fIx (dVar 0) (dVar 3)) (dOp fPow (dC (.int 10)) (dC (.int 18))))) (dB (dOp fGt (dVar 4) (dC (.int 0))))) (dSeq (dSetIx 1 (dOp fDiv (dVar 4) (dVar 2)) (dOp fAdd (dC (.int 1)) (dVar 3)))
  (dRet (dOp fMod (dVar 4) (dVar 2)))) dNext)
  (dSeq (dSet 5 (dOp fMod (dOp fAdd (dOp fIx (dVar 0) (dVar 3)) (dOp fMul (dC (.int 104729)) (dBor 1 (dOp fIx (dVar 1) (dC (.int 0)))))) (dC (.int 4294967291))))
  (dSeq (dSet 5 (dOp fMod (dOp fPow (dVar 5) (dC (.int 5))) (dC (.int 4294967279))))
  (dRet (dOp fMod (dOp fDiv (dOp fMod (dOp fAdd (dOp fMul (dOp fDiv (dVar 5) (dC (.int 64))) (dC (.int 69621))) (dVar 5)) (dC (.int 4294967231))) (dC (.int 8))) (dVar 2))))))))))
def f__law_draw : FD := fdef 3 3 [1] d__law_draw
theorem mm__law_draw : f__law_draw.m = 3 := rfl

def d__law_whole : DS := (dRet (dAnd (dIsi .int (dVar 0)) (dNot (dIsi .bool (dVar 0)))))
def f__law_whole : FD := fdef 1 0 [] d__law_whole
theorem mm__law_whole : f__law_whole.m = 1 := rfl

def b1__law_room : DS := (dSet 1 (dOp fMul (dVar 1) (dVar 3)))
def d__law_room : DS := (dSeq (dSet 1 (dC (.int 1)))
  (dSeq (dFor (iL (dVar 0)) (dgTup 2 (dgCons (dgName 2) (dgCons (dgName 3) dgNil))) b1__law_room)
  (dRet (dVar 1))))
def f__law_room : FD := fdef 1 3 [] d__law_room
theorem mm__law_room : f__law_room.m = 1 := rfl

def d__law_odd : DS := (dRet (dOp fEq (dOp fMod (dLk fCount (dL (oComp (iL (dVar 0)) (dgTup 2 (dgCons (dgName 1) (dgCons (dgName 2) dgNil))) dtYes (dVar 1) [1, 2])) (lCons (dC (.str "well")) lNil)) (dC (.int 2))) (dC (.int 1))))
def f__law_odd : FD := fdef 1 2 [] d__law_odd
theorem mm__law_odd : f__law_odd.m = 1 := rfl

def t1__law_gathered : DT := (dB (dOp fEq (dVar 7) (dVar 4)))
def b2__law_gathered : DS := (dSeq (dSet 5 (dL (oComp (iZ (lCons (dVar 0) (lCons (dVar 2) lNil))) (dgTup 2 (dgCons (dgName 6) (dgCons (dgName 7) dgNil))) t1__law_gathered (dVar 6) [6, 7])))
  (dSet 3 (dOp fAdd (dVar 3) (dIf (dB (dOp fEq (dOp fIx (dVar 1) (dC (.int 0))) (dC (.str "tray")))) (dVar 5) (dL (oRev (dVar 5)))))))
def d__law_gathered : DS := (dSeq (dSet 3 (dL (oLst lNil)))
  (dSeq (dFor (iR1 (lCons (dOp fIx (dVar 1) (dC (.int 1))) lNil)) (dgName 4) b2__law_gathered)
  (dRet (dVar 3))))
def f__law_gathered : FD := fdef 3 5 [] d__law_gathered
theorem mm__law_gathered : f__law_gathered.m = 3 := rfl

def b1__law_power : DS := (dSet 2 (dOp fMul (dVar 2) (dVar 0)))
def d__law_power : DS := (dSeq (dSet 2 (dC (.int 1)))
  (dSeq (dFor (iR1 (lCons (dVar 1) lNil)) (dgName 3) b1__law_power)
  (dRet (dVar 2))))
def f__law_power : FD := fdef 2 2 [] d__law_power
theorem mm__law_power : f__law_power.m = 2 := rfl

def t1__law_need : DT := (dB (dOp fEq (dVar 7) (dVar 3)))
def t2__law_need : DT := (dB (dOp fLt (dVar 6) (dVar 2)))
def b3__law_need : DS := (dSeq (dSet 4 (dL (oComp (iE (lCons (dVar 0) lNil)) (dgTup 2 (dgCons (dgName 6) (dgCons (dgName 7) dgNil))) t1__law_need (dVar 6) [6, 7])))
  (dSeq (dSet 5 (dL (oComp (iL (dVar 4)) (dgName 6) t2__law_need (dVar 6) [6])))
  (dIfS (dB (dOp fNe (dVar 5) (dL (oLst lNil)))) (dSeq (dSet 1 (dOp fAdd (dVar 1) (dC (.int 1))))
  (dSet 2 (dOp fIx (dVar 5) (dNeg (dC (.int 1)))))) (dIfS (dB (dOp fNe (dVar 4) (dL (oLst lNil)))) (dSet 2 (dOp fIx (dVar 4) (dNeg (dC (.int 1))))) dNext))))
def d__law_need : DS := (dSeq (dSet 1 (dC (.int 1)))
  (dSeq (dSet 2 (dNeg (dC (.int 1))))
  (dSeq (dFor (iR1 (lCons (dC (.int 100)) lNil)) (dgName 3) b3__law_need)
  (dRet (dVar 1)))))
def f__law_need : FD := fdef 1 7 [] d__law_need
theorem mm__law_need : f__law_need.m = 1 := rfl

def q1_is_cards : DE := (dCallP f_is_number [] (lCons (dVar 1) (lCons (dC (.int 0)) (lCons (dOp fSub (dCB fLen (lCons (dVar 0) lNil)) (dC (.int 1))) lNil))))
def d_is_cards : DS := (dSeq (dIfS (dtOr (dtNot (dB (dIsi .lst (dVar 0)))) (dtNot (dB (dChain fLe fLe (dC (.int 1)) (dCB fLen (lCons (dVar 0) lNil)) (dC (.int 40)))))) (dRet (dC (.bl false))) dNext)
  (dSeq (dIfS (dtNot (dB (dCB fAll (lCons (dL (oComp (iL (dVar 0)) (dgName 1) dtYes q1_is_cards [1])) lNil)))) (dRet (dC (.bl false))) dNext)
  (dRet (dOp fEq (dLenSet (dVar 0)) (dCB fLen (lCons (dVar 0) lNil))))))
def f_is_cards : FD := fdef 1 1 [] d_is_cards
theorem mm_is_cards : f_is_cards.m = 1 := rfl

def t1_Deck_rising : DT := (dB (dOp fLt (dVar 3) (dVar 2)))
def d_Deck_rising : DS := (dSeq (dSet 1 (dMeth f_Deck_places (dVar 0) lNil))
  (dRet (dOp fAdd (dC (.int 1)) (dCB fLen (lCons (dL (oComp (iZ (lCons (dVar 1) (lCons (dL (oSl (dVar 1) (pSome (dC (.int 1))) pNone)) lNil))) (dgTup 2 (dgCons (dgName 2) (dgCons (dgName 3) dgNil))) t1_Deck_rising (dC (.int 1)) [2, 3])) lNil)))))
def f_Deck_rising : FD := fdef 1 3 [] d_Deck_rising
theorem mm_Deck_rising : f_Deck_rising.m = 1 := rfl

def d_is_machine : DS := (dSeq (dIfS (dtOr (dtNot (dB (dIsi .tup (dVar 0)))) (dtOr (dB (dOp fNe (dCB fLen (lCons (dVar 0) lNil)) (dC (.int 2)))) (dtNot (dB (dIsi .str (dOp fIx (dVar 0) (dC (.int 0)))))))) (dRet (dC (.bl false))) dNext)
  (dRet (dAnd (dOp (fIn false) (dOp fIx (dVar 0) (dC (.int 0))) (dTup (lCons (dC (.str "tray")) (lCons (dC (.str "well")) lNil)))) (dCallP f_is_number [] (lCons (dOp fIx (dVar 0) (dC (.int 1))) (lCons (dC (.int 1)) (lCons (dC (.int 300)) lNil)))))))
def f_is_machine : FD := fdef 1 0 [] d_is_machine
theorem mm_is_machine : f_is_machine.m = 1 := rfl

def b1_fewest_for : DS := (dSeq (dSet 5 (dIf (dtAnd (dB (dOp fEq (dOp fIx (dVar 3) (dC (.int 0))) (dC (.str "well")))) (dB (dOp fEq (dOp fMod (dVar 4) (dC (.int 2))) (dC (.int 1))))) (dVar 2) (dVar 1)))
  (dIfS (dB (dOp fLe (dVar 5) (dCallP f_power [] (lCons (dOp fIx (dVar 3) (dC (.int 1))) (lCons (dVar 4) lNil))))) (dRet (dVar 4)) dNext))
def d_fewest_for : DS := (dSeq (dIfS (dB (dVar 0)) (dRet (dC (.int 0))) dNext)
  (dSeq (dFor (iR2 (lCons (dC (.int 1)) (lCons (dC (.int 8)) lNil))) (dgName 4) b1_fewest_for)
  (dRet (dC .non))))
def f_fewest_for : FD := fdef 4 2 [] d_fewest_for
theorem mm_fewest_for : f_fewest_for.m = 4 := rfl

def q1_look_keys : DE := (dCallP f_is_number [] (lCons (dVar 1) (lCons (dC (.int 0)) (lCons (dC (.int 99)) lNil))))
def d_look_keys : DS := (dSeq (dIfS (dtOr (dtNot (dB (dIsi .lst (dVar 0)))) (dtNot (dB (dChain fLe fLe (dC (.int 1)) (dCB fLen (lCons (dVar 0) lNil)) (dC (.int 40)))))) dNever dNext)
  (dIfS (dtNot (dB (dCB fAll (lCons (dL (oComp (iL (dVar 0)) (dgName 1) dtYes q1_look_keys [1])) lNil)))) dNever dNext))
def f_look_keys : FD := fdef 1 1 [] d_look_keys
theorem mm_look_keys : f_look_keys.m = 1 := rfl

def d__law_pick : DS := (dRet (dOp fIx (dVar 2) (dCall drawF [] (mD (dVar 0) (mM 1 (mD (dCB fLen (lCons (dVar 2) lNil)) mNil))))))
def f__law_pick : FD := fdef 3 0 [1] d__law_pick
theorem mm__law_pick : f__law_pick.m = 3 := rfl
theorem ft__law_pick {a0 a2 : D} {i : Nat} : fits f__law_pick [.d a0, .m i, .d a2] = true := rfl

def b1__law_cards : DS := (dSeq (dSet 8 (dCall drawF [] (mD (dVar 0) (mM 1 (mD (dOp fAdd (dBor 6 (dCB fLen (lCons (dVar 6) lNil))) (dC (.int 1))) mNil)))))
  (dSeq (dIfS (dB (dOp fEq (dVar 4) (dC (.int 1)))) (dSet 8 (dCB fMin2 (lCons (dBor 6 (dCB fLen (lCons (dVar 6) lNil))) (lCons (dOp fAdd (dVar 8) (dOp fDiv (dBor 6 (dCB fLen (lCons (dVar 6) lNil))) (dVar 5))) lNil)))) dNext)
  (dDrop (dMut 6 fIns (lCons (dVar 8) (lCons (dVar 7) lNil))))))
def b2__law_cards : DS := (dDrop (dApp2 9 10 (dCall drawF [] (mD (dVar 0) (mM 1 (mD (dVar 5) mNil))))))
def b3__law_cards : DS := (dSeq (dSetIx 6 (dVar 7) (dVar 10))
  (dSet 7 (dOp fAdd (dVar 7) (dC (.int 1)))))
def b4__law_cards : DS := (dFor (iL (dVar 11)) (dgName 10) b3__law_cards)
def d__law_cards : DS := (dSeq (dSet 3 (dOp fAdd (dC (.int 1)) (dCall drawF [] (mD (dVar 0) (mM 1 (mD (dVar 2) mNil))))))
  (dSeq (dSet 4 (dCall drawF [] (mD (dVar 0) (mM 1 (mD (dC (.int 4)) mNil)))))
  (dSeq (dSet 5 (dOp fAdd (dC (.int 1)) (dCall drawF [] (mD (dVar 0) (mM 1 (mD (dC (.int 5)) mNil))))))
  (dSeq (dSetO 6 (oLst lNil))
  (dSeq (dFor (iR1 (lCons (dVar 3) lNil)) (dgName 7) b1__law_cards)
  (dSeq (dIfS (dB (dOp fEq (dVar 4) (dC (.int 2)))) (dSeq (dNils 9 (iR1 (lCons (dVar 5) lNil)) (dgName 12) [12])
  (dSeq (dFor (iR1 (lCons (dVar 3) lNil)) (dgName 10) b2__law_cards)
  (dSeq (dSetO 6 (oOp fRepL (dL (oLst (lCons (dC (.int 0)) lNil))) (dVar 3)))
  (dSeq (dSet 7 (dC (.int 0)))
  (dFor (iL (dFrz2 9)) (dgName 11) b4__law_cards))))) dNext)
  (dRet (dIf (dtAnd (dB (dOp fGt (dVar 4) (dC (.int 0)))) (dB (dOp fEq (dCall drawF [] (mD (dVar 0) (mM 1 (mD (dC (.int 3)) mNil)))) (dC (.int 0))))) (dL (oRev (dFrz 6))) (dFrz 6)))))))))
def f__law_cards : FD := fdef 3 10 [1] d__law_cards
theorem mm__law_cards : f__law_cards.m = 3 := rfl
theorem ft__law_cards {a0 a2 : D} {i : Nat} : fits f__law_cards [.d a0, .m i, .d a2] = true := rfl

def b1__law_fewest : DS := (dSeq (dSet 3 (dOp fMul (dL (oLst (lCons (dVar 1) lNil))) (dVar 2)))
  (dIfS (dB (dOp fLe (dCallP f__law_need [] (lCons (dIf (dB (dCallP f__law_odd [] (lCons (dVar 3) lNil))) (dL (oRev (dVar 0))) (dVar 0)) lNil)) (dCallP f__law_room [] (lCons (dVar 3) lNil)))) (dRet (dVar 2)) dNext))
def d__law_fewest : DS := (dSeq (dIfS (dB (dOp fEq (dVar 0) (dL (oCB fSorted (lCons (dVar 0) lNil))))) (dRet (dC (.int 0))) dNext)
  (dSeq (dFor (iR2 (lCons (dC (.int 1)) (lCons (dC (.int 9)) lNil))) (dgName 2) b1__law_fewest)
  (dRet (dC .non))))
def f__law_fewest : FD := fdef 2 2 [] d__law_fewest
theorem mm__law_fewest : f__law_fewest.m = 2 := rfl

def d_Deck_init : DS := (dSeq (dIfS (dtNot (dB (dCallP f_is_cards [] (lCons (dVar 1) lNil)))) dNever dNext)
  (dSelf (oCB fList (lCons (dVar 1) lNil))))
def f_Deck_init : FD := fdef 2 0 [0] d_Deck_init
theorem mm_Deck_init : f_Deck_init.m = 2 := rfl

def d_Deck_falling : DS := (dRet (dOp fSub (dOp fAdd (dCB fLen (lCons (dFld (dVar 0)) lNil)) (dC (.int 1))) (dMeth f_Deck_rising (dVar 0) lNil)))
def f_Deck_falling : FD := fdef 1 0 [] d_Deck_falling
theorem mm_Deck_falling : f_Deck_falling.m = 1 := rfl

def d_look_machine : DS := (dIfS (dtNot (dB (dCallP f_is_machine [] (lCons (dVar 0) lNil)))) dNever dNext)
def f_look_machine : FD := fdef 1 0 [] d_look_machine
theorem mm_look_machine : f_look_machine.m = 1 := rfl

def d_needed : DS := (dSeq (dDrop (dCallP f_look_keys [] (lCons (dVar 0) lNil)))
  (dRet (dOp fAdd (dCB fMax1 (lCons (dCallP f_dealt_out [] (lCons (dVar 0) lNil)) lNil)) (dC (.int 1)))))
def f_needed : FD := fdef 1 0 [] d_needed
theorem mm_needed : f_needed.m = 1 := rfl

def d_word_by_keys : DS := (dSeq (dDrop (dCallP f_look_keys [] (lCons (dVar 0) lNil)))
  (dRet (dCallP f_dealt_out [] (lCons (dVar 0) lNil))))
def f_word_by_keys : FD := fdef 1 0 [] d_word_by_keys
theorem mm_word_by_keys : f_word_by_keys.m = 1 := rfl

def d__law_machine : DS := (dRet (dTup (lCons (dCall f__law_pick [] (mD (dVar 0) (mM 1 (mD (dL (oLst (lCons (dC (.str "tray")) (lCons (dC (.str "tray")) (lCons (dC (.str "well")) lNil))))) mNil)))) (lCons (dOp fAdd (dC (.int 1)) (dCall drawF [] (mD (dVar 0) (mM 1 (mD (dVar 2) mNil))))) lNil))))
def f__law_machine : FD := fdef 3 0 [1] d__law_machine
theorem mm__law_machine : f__law_machine.m = 3 := rfl
theorem ft__law_machine {a0 a2 : D} {i : Nat} : fits f__law_machine [.d a0, .m i, .d a2] = true := rfl

def d_fewest : DS := (dSeq (dSet 3 (dTup (lCons (dVar 1) (lCons (dVar 2) lNil))))
  (dSeq (dDrop (dCallP f_look_machine [] (lCons (dVar 3) lNil)))
  (dRet (dCallP f_fewest_for [] (lCons (dMeth f_Deck_in_order (dVar 0) lNil) (lCons (dMeth f_Deck_rising (dVar 0) lNil) (lCons (dMeth f_Deck_falling (dVar 0) lNil) (lCons (dVar 3) lNil))))))))
def f_fewest : FD := fdef 3 1 [] d_fewest
theorem mm_fewest : f_fewest.m = 3 := rfl

def q1_fewest_by_keys : DE := (dOp fAdd (dCB fMax1 (lCons (dCallP f_dealt_out [] (lCons (dVar 5) lNil)) lNil)) (dC (.int 1)))
def d_fewest_by_keys : DS := (dSeq (dDrop (dCallP f_look_keys [] (lCons (dVar 0) lNil)))
  (dSeq (dSet 3 (dTup (lCons (dVar 1) (lCons (dVar 2) lNil))))
  (dSeq (dDrop (dCallP f_look_machine [] (lCons (dVar 3) lNil)))
  (dSeq (dSet 4 (dL (oComp (iT (dTup (lCons (dVar 0) (lCons (dL (oRev (dVar 0))) lNil)))) (dgName 5) dtYes q1_fewest_by_keys [5])))
  (dRet (dCallP f_fewest_for [] (lCons (dOp fEq (dVar 0) (dL (oCB fSorted (lCons (dVar 0) lNil)))) (lCons (dOp fIx (dVar 4) (dC (.int 0))) (lCons (dOp fIx (dVar 4) (dC (.int 1))) (lCons (dVar 3) lNil))))))))))
def f_fewest_by_keys : FD := fdef 3 3 [] d_fewest_by_keys
theorem mm_fewest_by_keys : f_fewest_by_keys.m = 3 := rfl

def q1_law : DE := (dCall drawF [] (mD (dVar 0) (mM 1 (mD (dVar 2) mNil))))
def q2_law : DE := (dOp fMod (dOp fDiv (dOp fIx (dVar 12) (dC (.int 1))) (dCallP f__law_power [] (lCons (dOp fIx (dVar 4) (dC (.int 1))) (lCons (dVar 8) lNil)))) (dOp fIx (dVar 4) (dC (.int 1))))
def b3_law : DS := (dSet 7 (dCallP f__law_gathered [] (lCons (dVar 7) (lCons (dVar 4) (lCons (dL (oComp (iL (dVar 7)) (dgName 12) dtYes q2_law [12])) lNil)))))
def q4_law : DE := (dOp fAdd (dOp fMul (dC (.int 2)) (dVar 15)) (dC (.int 1)))
def d_law : DS := (dSeq (dTown 1 0)
  (dSeq (dSet 2 (dCall f__law_pick [] (mD (dVar 0) (mM 1 (mD (dL (oLst (lCons (dC (.int 2)) (lCons (dC (.int 4)) (lCons (dC (.int 10)) (lCons (dC (.int 100)) lNil)))))) mNil)))))
  (dSeq (dSet 3 (dL (oComp (iR1 (lCons (dOp fAdd (dC (.int 1)) (dCall drawF [] (mD (dVar 0) (mM 1 (mD (dC (.int 40)) mNil))))) lNil)) (dgName 8) dtYes q1_law [8])))
  (dSeq (dSet 4 (dCall f__law_machine [] (mD (dVar 0) (mM 1 (mD (dCall f__law_pick [] (mD (dVar 0) (mM 1 (mD (dL (oLst (lCons (dC (.int 1)) (lCons (dC (.int 2)) (lCons (dC (.int 3)) (lCons (dC (.int 9)) lNil)))))) mNil)))) mNil)))))
  (dSeq (dSet 5 (dCallP f_fewest_by_keys [] (lCons (dL (oCB fList (lCons (dVar 3) lNil))) (lCons (dOp fIx (dVar 4) (dC (.int 0))) (lCons (dOp fIx (dVar 4) (dC (.int 1))) lNil)))))
  (dSeq (dIfS (dtOr (dB (dOp fNe (dVar 5) (dCallP f__law_fewest [] (lCons (dVar 3) (lCons (dVar 4) lNil))))) (dtAnd (dB (dOp (fIsN true) (dVar 5) (dC .non))) (dtNot (dB (dCallP f__law_whole [] (lCons (dVar 5) lNil)))))) (dRet (dC (.bl false))) dNext)
  (dSeq (dIfS (dB (dOp fNe (dCallP f_needed [] (lCons (dVar 3) lNil)) (dCallP f__law_need [] (lCons (dVar 3) lNil)))) (dRet (dC (.bl false))) dNext)
  (dSeq (dIfS (dtAnd (dB (dOp (fIsN true) (dVar 5) (dC .non))) (dB (dOp fEq (dOp fIx (dVar 4) (dC (.int 0))) (dC (.str "tray"))))) (dSeq (dSet 6 (dCallP f_word_by_keys [] (lCons (dVar 3) lNil)))
  (dSeq (dSet 7 (dL (oLZ (lCons (dVar 3) (lCons (dVar 6) lNil)))))
  (dSeq (dFor (iR1 (lCons (dVar 5) lNil)) (dgName 8) b3_law)
  (dIfS (dB (dOp fNe (dL (oComp (iL (dVar 7)) (dgTup 2 (dgCons (dgName 13) (dgCons (dgName 14) dgNil))) dtYes (dVar 13) [13, 14])) (dL (oCB fSorted (lCons (dVar 3) lNil))))) (dRet (dC (.bl false))) dNext)))) dNext)
  (dSeq (dSet 9 (dCall f__law_cards [] (mD (dVar 0) (mM 1 (mD (dC (.int 40)) mNil)))))
  (dSeq (dSet 10 (dMake f_Deck_init (lCons (dVar 9) lNil)))
  (dSeq (dSet 11 (dL (oComp (iL (dVar 9)) (dgName 15) dtYes q4_law [15])))
  (dSeq (dSet 5 (dCallP f_fewest_by_keys [] (lCons (dVar 11) (lCons (dOp fIx (dVar 4) (dC (.int 0))) (lCons (dOp fIx (dVar 4) (dC (.int 1))) lNil)))))
  (dRet (dAnd (dOp fEq (dVar 5) (dCallP f_fewest [] (lCons (dVar 10) (lCons (dOp fIx (dVar 4) (dC (.int 0))) (lCons (dOp fIx (dVar 4) (dC (.int 1))) lNil))))) (dOp fEq (dCallP f_needed [] (lCons (dVar 11) lNil)) (dMeth f_Deck_rising (dVar 10) lNil))))))))))))))))
def f_law : FD := fdef 1 15 [] d_law
theorem mm_law : f_law.m = 1 := rfl

end Y
namespace Y
open PySem L2
local macro_rules | `(tactic| walk_at "y") => `(tactic| simp only [fdef, dSeq, dSet, dSetO, dRet, dIfS, dFor, dNext, dDrop, dAsg, dC, dOp, dCB, dL, oCB, oLst, oOp, oComp, pNone, dAnd, dOr, dNot, dIf, dtAnd, dtOr, dtNot, dtYes, dB, dIsi, dChain, lCons, lNil, mNil, mD, mM, dTup, dCallP, dCall, dNever, dTown, dAug, dgName, fEq, fNe, putA, dMut, dSetIx, isK, isNon, atI_0, atI_1, atI_2, outOf_nil, outOf1_2, outOf1_3, outOf1_4, okE_int, okE_bl, okE_non, okE_ints, okE_Ms, okE_kind, okE_well, okE_tray, okE_scr, deq_int, deq_bl, deq_ints, deq_Ms, deq_well, deq_tray, Option.some.injEq, exists_eq_left', exists_eq_left, Bool.not_true, Bool.not_false, reduceIte, Bool.false_eq_true, Bool.true_eq_false, true_and, and_true, wipeE, flatD, List.all_cons, List.all_nil, Bool.and_self, Bool.and_true, Bool.true_and, if_true, if_false, decide_true, decide_false, decide_eq_true_eq, Bool.not_eq_true', decide_eq_false_iff_not, Nat.reduceAdd, Nat.reduceLeDiff, Int.reduceEq, Int.reduceLT, Int.reduceAdd, not_true_eq_false, not_false_eq_true, reduceCtorEq, List.length_map, Nat.zero_add, ne_eq, implies_true, and_self, List.getElem?_cons_zero, List.getElem?_cons_succ, List.set_cons_zero, List.set_cons_succ, List.cons_append, List.nil_append, List.append_nil, List.replicate, List.map_cons, List.map_nil, List.length_cons, List.length_nil, List.getD_cons_zero, List.getD_cons_succ, asL_eq, asT_eq, asI_eq, asB_eq, dVar_0, dVar_1, dVar_2, dVar_3, dVar_4, dVar_5, dVar_6, dVar_7, dVar_8, dVar_9, dVar_10, dVar_11, dVar_12, dVar_13, dVar_14, dVar_15, dVar_16, dVar_17, dVar_18, dVar_19, dVar_20, dVar_21, dVar_22, dVar_23, dVar_24, dVar_25, dFrz_0, dFrz_1, dFrz_2, dFrz_3, dFrz_4, dFrz_5, dFrz_6, dFrz_7, dFrz_8, dFrz_9, dFrz_10, dFrz_11, dFrz_12, dFrz_13, dFrz_14, dFrz_15, dFrz_16, dFrz_17, dFrz_18, dFrz_19, dFrz_20, dFrz_21, dFrz_22, dFrz_23, dFrz_24, dFrz_25, dBor_0, dBor_1, dBor_2, dBor_3, dBor_4, dBor_5, dBor_6, dBor_7, dBor_8, dBor_9, dBor_10, dBor_11, dBor_12, dBor_13, dBor_14, dBor_15, dBor_16, dBor_17, dBor_18, dBor_19, dBor_20, dBor_21, dBor_22, dBor_23, dBor_24, dBor_25, as1L_eq, as2L_eq, as1I_eq, as2I_eq, iL_eq, iT_eq, dNeg_eq, pSome_eq, oSl_eq, oRev_eq, dLk_eq, dgTup_eq, dgCons_eq, dgNil_eq, fAdd_ii, fAdd_ss, fAdd_ll, fAdd_tt, fCat_ll, fMul_ii, fMul_li, fRepL_li, fInt0_ii, fInt_ii, fIn_l, fIn_t, fIsN_n, fIsB_bb, fIx_l, fIx_t, fIx_s, fLen_l, fLen_t, fLen_s, fLen_z, fList_l, fList_t, fList_s, fAll_l, fAny_l, fSum_l, fInt1_i, fInt1_b, fAbs_i, fMin2_ii, fMax2_ii, fCount_d, fIndex_d, fApp_d, fIns_d, fExt_l, put_m, put_dd, put_nil, sv_dd, sv_m, slotsOf_d, slotsOf_m, slotsOf_n, hide_d, hide_u, hide_o, hide_o2, hide_t, hide_n, iZ_ll, iE_l, iR1_i, iR2_ii, dFrz2_0, dFrzd_0, dBord_0, dFrz2_1, dFrzd_1, dBord_1, dFrz2_2, dFrzd_2, dBord_2, dFrz2_3, dFrzd_3, dBord_3, dFrz2_4, dFrzd_4, dBord_4, dFrz2_5, dFrzd_5, dBord_5, dFrz2_6, dFrzd_6, dBord_6, dFrz2_7, dFrzd_7, dBord_7, dFrz2_8, dFrzd_8, dBord_8, dFrz2_9, dFrzd_9, dBord_9, dFrz2_10, dFrzd_10, dBord_10, dFrz2_11, dFrzd_11, dBord_11, dFrz2_12, dFrzd_12, dBord_12, dFrz2_13, dFrzd_13, dBord_13, dFrz2_14, dFrzd_14, dBord_14, dFrz2_15, dFrzd_15, dBord_15, dFrz2_16, dFrzd_16, dBord_16, dFrz2_17, dFrzd_17, dBord_17, dFrz2_18, dFrzd_18, dBord_18, dFrz2_19, dFrzd_19, dBord_19, dIxO_0, dIxO_1, dIxO_2, dIxO_3, dIxO_4, dIxO_5, dIxO_6, dIxO_7, dIxO_8, dIxO_9, dIxO_10, dIxO_11, dIxO_12, dIxO_13, dIxO_14, dIxO_15, dIxO_16, dIxO_17, dIxO_18, dIxO_19, dIxOd_0, dIxOd_1, dIxOd_2, dIxOd_3, dIxOd_4, dIxOd_5, dIxOd_6, dIxOd_7, dIxOd_8, dIxOd_9, dIxOd_10, dIxOd_11, dIxOd_12, dIxOd_13, dIxOd_14, dIxOd_15, dIxOd_16, dIxOd_17, dIxOd_18, dIxOd_19, ixO_0, ixO_1, ixO_2, ixO_3, ixO_4, ixO_5, ixO_6, ixO_7, ixO_8, ixO_9, ixO_10, ixO_11, ixO_12, ixO_13, ixO_14, ixO_15, ixO_16, ixO_17, ixO_18, ixO_19, oLZ_ll, dInR, dMaxDef, oSortSet, fTuple_l, fTuple_t, iZS, fDivmod_ii, oLR3, oLR2, fMax1_l, isExc, dRaise, dTold, dIsExc, dIsLk, exN, isDk_deck, isDk_lst, isDk_non, isDk_int, isDk_str, isDk_tup, fLenK_eq, oLR1_eq, fSorted_eq, exInt, exBl, exObs, exOwn, exOwn2, exTown, asDk_eq, dMeth, dMake, dFld, fEqK, fNeK, dSelf, dIsDk, dLenSet, dApp2, dNils_eq, as1I_eq, rng_length, eq_self, decide_false, and_self, SV.d.injEq, D.bl.injEq, okE_nil, deq_scr, ft_draw, mm_is_number, mm_Deck_places, mm_Deck_in_order, mm_power, mm_dealt_out, mm__law_draw, mm__law_whole, mm__law_room, mm__law_odd, mm__law_gathered, mm__law_power, mm__law_need, mm_is_cards, mm_Deck_rising, mm_is_machine, mm_fewest_for, mm_look_keys, mm__law_pick, ft__law_pick, mm__law_cards, ft__law_cards, mm__law_fewest, mm_Deck_init, mm_Deck_falling, mm_look_machine, mm_needed, mm_word_by_keys, mm__law_machine, ft__law_machine, mm_fewest, mm_fewest_by_keys, mm_law])
local macro_rules | `(tactic| walk_at "b") => `(tactic| simp only [fdef, dSeq, dSet, dSetO, dRet, dIfS, dFor, dNext, dDrop, dAsg, dC, dOp, dCB, dL, oCB, oLst, oOp, oComp, pNone, dAnd, dOr, dNot, dIf, dtAnd, dtOr, dtNot, dtYes, dB, dIsi, dChain, lCons, lNil, mNil, mD, mM, dTup, dCallP, dCall, dNever, dTown, dAug, dgName, fEq, fNe, putA, dMut, dSetIx, isK, isNon, atI_0, atI_1, atI_2, outOf_nil, outOf1_2, outOf1_3, outOf1_4, okE_int, okE_bl, okE_non, okE_ints, okE_Ms, okE_kind, okE_well, okE_tray, okE_scr, deq_int, deq_bl, deq_ints, deq_Ms, deq_well, deq_tray, Option.some.injEq, exists_eq_left', exists_eq_left, Bool.not_true, Bool.not_false, reduceIte, Bool.false_eq_true, Bool.true_eq_false, true_and, and_true, wipeE, flatD, List.all_cons, List.all_nil, Bool.and_self, Bool.and_true, Bool.true_and, if_true, if_false, decide_true, decide_false, decide_eq_true_eq, Bool.not_eq_true', decide_eq_false_iff_not, Nat.reduceAdd, Nat.reduceLeDiff, Int.reduceEq, Int.reduceLT, Int.reduceAdd, not_true_eq_false, not_false_eq_true, reduceCtorEq, List.length_map, Nat.zero_add, ne_eq, implies_true, and_self, List.getElem?_cons_zero, List.getElem?_cons_succ, List.set_cons_zero, List.set_cons_succ, List.cons_append, List.nil_append, List.append_nil, List.replicate, List.map_cons, List.map_nil, List.length_cons, List.length_nil, List.getD_cons_zero, List.getD_cons_succ, asL_eq, asT_eq, asI_eq, asB_eq, dVar_0, dVar_1, dVar_2, dVar_3, dVar_4, dVar_5, dVar_6, dVar_7, dVar_8, dVar_9, dVar_10, dVar_11, dVar_12, dVar_13, dVar_14, dVar_15, dVar_16, dVar_17, dVar_18, dVar_19, dVar_20, dVar_21, dVar_22, dVar_23, dVar_24, dVar_25, dFrz_0, dFrz_1, dFrz_2, dFrz_3, dFrz_4, dFrz_5, dFrz_6, dFrz_7, dFrz_8, dFrz_9, dFrz_10, dFrz_11, dFrz_12, dFrz_13, dFrz_14, dFrz_15, dFrz_16, dFrz_17, dFrz_18, dFrz_19, dFrz_20, dFrz_21, dFrz_22, dFrz_23, dFrz_24, dFrz_25, dBor_0, dBor_1, dBor_2, dBor_3, dBor_4, dBor_5, dBor_6, dBor_7, dBor_8, dBor_9, dBor_10, dBor_11, dBor_12, dBor_13, dBor_14, dBor_15, dBor_16, dBor_17, dBor_18, dBor_19, dBor_20, dBor_21, dBor_22, dBor_23, dBor_24, dBor_25, as1L_eq, as2L_eq, as1I_eq, as2I_eq, iL_eq, iT_eq, dNeg_eq, pSome_eq, oSl_eq, oRev_eq, dLk_eq, dgTup_eq, dgCons_eq, dgNil_eq, fAdd_ii, fAdd_ss, fAdd_ll, fAdd_tt, fCat_ll, fMul_ii, fMul_li, fRepL_li, fInt0_ii, fInt_ii, fIn_l, fIn_t, fIsN_n, fIsB_bb, fIx_l, fIx_t, fIx_s, fLen_l, fLen_t, fLen_s, fLen_z, fList_l, fList_t, fList_s, fAll_l, fAny_l, fSum_l, fInt1_i, fInt1_b, fAbs_i, fMin2_ii, fMax2_ii, fCount_d, fIndex_d, fApp_d, fIns_d, fExt_l, put_m, put_dd, put_nil, sv_dd, sv_m, slotsOf_d, slotsOf_m, slotsOf_n, hide_d, hide_u, hide_o, hide_o2, hide_t, hide_n, iZ_ll, iE_l, iR1_i, iR2_ii, dFrz2_0, dFrzd_0, dBord_0, dFrz2_1, dFrzd_1, dBord_1, dFrz2_2, dFrzd_2, dBord_2, dFrz2_3, dFrzd_3, dBord_3, dFrz2_4, dFrzd_4, dBord_4, dFrz2_5, dFrzd_5, dBord_5, dFrz2_6, dFrzd_6, dBord_6, dFrz2_7, dFrzd_7, dBord_7, dFrz2_8, dFrzd_8, dBord_8, dFrz2_9, dFrzd_9, dBord_9, dFrz2_10, dFrzd_10, dBord_10, dFrz2_11, dFrzd_11, dBord_11, dFrz2_12, dFrzd_12, dBord_12, dFrz2_13, dFrzd_13, dBord_13, dFrz2_14, dFrzd_14, dBord_14, dFrz2_15, dFrzd_15, dBord_15, dFrz2_16, dFrzd_16, dBord_16, dFrz2_17, dFrzd_17, dBord_17, dFrz2_18, dFrzd_18, dBord_18, dFrz2_19, dFrzd_19, dBord_19, dIxO_0, dIxO_1, dIxO_2, dIxO_3, dIxO_4, dIxO_5, dIxO_6, dIxO_7, dIxO_8, dIxO_9, dIxO_10, dIxO_11, dIxO_12, dIxO_13, dIxO_14, dIxO_15, dIxO_16, dIxO_17, dIxO_18, dIxO_19, dIxOd_0, dIxOd_1, dIxOd_2, dIxOd_3, dIxOd_4, dIxOd_5, dIxOd_6, dIxOd_7, dIxOd_8, dIxOd_9, dIxOd_10, dIxOd_11, dIxOd_12, dIxOd_13, dIxOd_14, dIxOd_15, dIxOd_16, dIxOd_17, dIxOd_18, dIxOd_19, ixO_0, ixO_1, ixO_2, ixO_3, ixO_4, ixO_5, ixO_6, ixO_7, ixO_8, ixO_9, ixO_10, ixO_11, ixO_12, ixO_13, ixO_14, ixO_15, ixO_16, ixO_17, ixO_18, ixO_19, oLZ_ll, dInR, dMaxDef, oSortSet, fTuple_l, fTuple_t, iZS, fDivmod_ii, oLR3, oLR2, fMax1_l, isExc, dRaise, dTold, dIsExc, dIsLk, exN, isDk_deck, isDk_lst, isDk_non, isDk_int, isDk_str, isDk_tup, fLenK_eq, oLR1_eq, fSorted_eq, exInt, exBl, exObs, exOwn, exOwn2, exTown, asDk_eq, dMeth, dMake, dFld, fEqK, fNeK, dSelf, dIsDk, dLenSet, dApp2, dNils_eq, as1I_eq, rng_length, eq_self, decide_false, and_self, SV.d.injEq, D.bl.injEq, okE_nil, deq_scr, ft_draw, ])
theorem sp_is_number (a l m : Int) (k : D → Ev → Prop) (x : KX) : f_is_number.go [.d (.int a), .d (.int l), .d (.int m)] k x = k (.bl (decide (l ≤ a ∧ a ≤ m))) [.un, .un, .un] := by
  unfold f_is_number d_is_number
  walk_at "y"
  by_cases h : l ≤ a <;> simp [h]
theorem any_kind (w : Bool) : ([D.str (Str.ofString "tray"), D.str (Str.ofString "well")].any fun y => eqF y (D.str (kind w))) = true := by
  cases w <;> decide +kernel
theorem sp_is_machine (m : Ma) (k : D → Ev → Prop) (x : KX) : f_is_machine.go [.d (eM m)] k x = k (.bl (decide (1 ≤ m.2 ∧ m.2 ≤ 300))) [.un] := by
  unfold f_is_machine d_is_machine eM
  walk_at "y"
  rw [any_kind, if_pos rfl, sp_is_number]
  simp
def Mach (m : Ma) : Prop := 1 ≤ m.2 ∧ m.2 ≤ 300
/-- the cards of a deck -/
structure Cards (l : List Int) : Prop where
  pos : 1 ≤ l.length
  few : l.length ≤ 40
  ok : ∀ c ∈ l, 0 ≤ c ∧ c < l.length
  nd : l.Nodup
theorem Cards.perm {l m : List Int} (h : Cards l) (p : m.Perm l) : Cards m := by
  have e := p.length_eq
  exact ⟨by rw [e]; exact h.pos, by rw [e]; exact h.few, fun c hc => by rw [e]; exact h.ok c (p.mem_iff.mp hc), p.nodup_iff.mpr h.nd⟩
abbrev eL (l : List Int) : D := .lst (l.map .int)
abbrev eK (l : List Int) : D := .deck (l.map .int)
theorem sp_is_cards (l : List Int) (h : Cards l) (k : D → Ev → Prop) (x : KX) : f_is_cards.go [.d (eL l)] k x = k (.bl true) [.un] := by
  unfold f_is_cards d_is_cards
  walk_at "y"
  have h1 := h.pos
  have h2 := h.few
  rw [comp_map (ρa := fun c => [.d (eL l), .d (.int c)]) (f := fun _ => D.bl true) (fun _ _ _ => rfl) (fun c hc K => by
    unfold q1_is_cards
    walk_at "y"
    rw [sp_is_number]
    have := h.ok c hc
    rw [show decide (0 ≤ c ∧ c ≤ (l.length : Int) - 1) = true from decide_eq_true ⟨by omega, by omega⟩]) (fun _ _ => rfl)]
  have h3 : (1 : Int) ≤ (l.length : Int) := by omega
  have h4 : (l.length : Int) ≤ 40 := by omega
  rw [if_pos h3, if_neg (by omega), List.nil_append, blsOf_fn]
  walk_at "y"
  rw [if_neg (by simp)]
  simp only [show l.length ≤ 100000 by omega, true_and]
  refine propext ⟨fun ⟨ns, e, _, _, h5⟩ => ?_, fun h5 => ⟨l, rfl, h.nd, by omega, ?_⟩⟩
  · have e2 : ns.length = l.length := by
      have := congrArg (fun d => match d with | D.lst x => x.length | _ => 0) e
      simpa using this.symm
    rw [e2] at h5
    simpa [deq_int, okE_int] using h5
  · simpa [deq_int, okE_int] using h5
theorem sp_Deck_init (l : List Int) (h : Cards l) (k : D → Ev → Prop) (x : KX) : f_Deck_init.go [.ob, .d (eL l)] k x = k .non [.d (eK l), .un] := by
  unfold f_Deck_init d_Deck_init
  walk_at "y"
  rw [sp_is_cards l h]
  walk_at "y"
  rfl
theorem set_ints {i : Nat} {v : Int} {l : List Int} : (l.map D.int).set i (.int v) = (l.set i v).map D.int := by
  rw [List.map_set]
theorem draw_own (ss : List Int) (c : Int) (cells : List Int) (m : Int) (k : D → Ev → Prop) (x : KX) (h1 : ss.length = cells.length) (h2 : ss.length ≤ 63) (c0 : 0 ≤ c) (c1 : c < 1000000) (m0 : 0 < m) (m1 : m < 2 ^ 62)
    (h : ∀ (r : Int) (cells' : List Int), 0 ≤ r → r < m → cells'.length = cells.length → k (.int r) [.un, .own (.int (c + 1) :: cells'.map D.int), .un]) :
    f__law_draw.go [.d (.scr ss), .own (.int c :: cells.map D.int), .d (.int m)] k x := by
  have l2 : m.natAbs.log2 < 9000 := Nat.lt_of_lt_of_le (log2_lt (by decide) (show m.natAbs < 2 ^ 62 by omega)) (by decide)
  have e0 : ixN (cells.length + 1) 0 = some 0 := ixN_nn (by decide) (by omega)
  unfold f__law_draw d__law_draw
  walk_at "y"
  refine ⟨0, e0, ?_⟩
  simp only [List.set_cons_zero, deq_scr, decide_eq_true_eq, atI_0, Option.some.injEq, exists_eq_left', true_and, fMul_ii, fInt_ii]
  by_cases hs : ss = []
  · rw [if_pos hs]
    refine ⟨mulW 21 21 (by omega) (by omega) (by decide) (by decide) (by decide), mulW 42 3 ?_ (by decide) (by decide) (by decide) (by decide), ⟨by decide, by decide⟩, m0, ?_⟩
    · rw [Int.natAbs_mul]
      exact Nat.lt_of_lt_of_le (Nat.mul_lt_mul'' (show (c + 1).natAbs < 2 ^ 21 by omega) (show (c + 1).natAbs < 2 ^ 21 by omega)) (by decide)
    · exact h _ cells (Int.emod_nonneg _ (by omega)) (Int.emod_lt_of_pos _ m0) rfl
  · rw [if_neg hs]
    have hl : 0 < ss.length := List.length_pos_iff.mpr hs
    have a0 : 0 ≤ (c + 1) % (ss.length : Int) := Int.emod_nonneg _ (by omega)
    have a1 : (c + 1) % (ss.length : Int) < ss.length := Int.emod_lt_of_pos _ (by omega)
    refine ⟨by omega, ?_⟩
    obtain ⟨q, ha⟩ : ∃ z, z = (c + 1) % (ss.length : Int) := ⟨_, rfl⟩
    rw [← ha] at a0 a1 ⊢
    obtain ⟨z1, _, hz1⟩ := atI_lt (l := ss) a0 a1
    have hc : q.toNat < cells.length := by omega
    have hz2 : atI (D.int (c + 1) :: cells.map D.int) (1 + q) = some (.int cells[q.toNat]) := by
      have := atI_nat (xs := D.int (c + 1) :: cells.map D.int) (j := q.toNat + 1) (v := .int cells[q.toNat]) (by rw [List.getElem?_cons_succ, List.getElem?_map, List.getElem?_eq_getElem hc]; rfl)
      rwa [show ((q.toNat + 1 : Nat) : Int) = 1 + q by omega] at this
    have e1 : ixN (cells.length + 1) (1 + q) = some (q.toNat + 1) := by
      rw [ixN_nn (by omega) (by omega), show (1 + q).toNat = q.toNat + 1 by omega]
    have last : ∀ v : Int, CMulW 104729 (c + 1) ∧ (0:Int) < 4294967291 ∧ CPow ((v + 104729 * (c + 1)) % 4294967291) 5 ∧ (0:Int) < 4294967279 ∧ ∀ w : Int, CDivW (w % 4294967279) 64 ∧ CMulW (w % 4294967279 / 64) 69621 ∧ (0:Int) < 4294967231 ∧ ∀ u : Int, CDivW (u % 4294967231) 8 ∧ 0 < m ∧ k (.int (u % 4294967231 / 8 % m)) [.un, .own (.int (c + 1) :: cells.map D.int), .un] := fun v => by
      refine ⟨mulW 17 21 (by decide) (by omega) (by decide) (by decide) (by decide), by decide, ⟨by decide, by decide, by omega⟩, by decide, fun w => ⟨⟨by decide, by decide⟩, mulW 40 17 (by omega) (by decide) (by decide) (by decide) (by decide), by decide, fun u => ⟨⟨by decide, by decide⟩, m0, ?_⟩⟩⟩
      exact h _ cells (Int.emod_nonneg _ (by omega)) (Int.emod_lt_of_pos _ m0) rfl
    simp only [fAdd_ii, fIx_l, fIx_s, hz1, hz2, Option.some.injEq, exists_eq_left', true_and, fInt0_ii, asB_eq, fMul_ii, fInt_ii, decide_eq_true_eq, List.length_cons, List.length_map, e1, List.set_cons_succ, atI_0, List.length_set]
    obtain ⟨l1, l3, l4, l5, l6⟩ := last z1
    obtain ⟨l7, l8, l9, l10⟩ := l6 (((z1 + 104729 * (c + 1)) % 4294967291) ^ (5 : Int).toNat)
    obtain ⟨l11, l12, l13⟩ := l10 (((z1 + 104729 * (c + 1)) % 4294967291) ^ (5 : Int).toNat % 4294967279 / 64 * 69621 + ((z1 + 104729 * (c + 1)) % 4294967291) ^ (5 : Int).toNat % 4294967279)
    have fin : CMulW 104729 (c + 1) ∧ (0:Int) < 4294967291 ∧ CPow ((z1 + 104729 * (c + 1)) % 4294967291) 5 ∧ (0:Int) < 4294967279 ∧ CDivW (((z1 + 104729 * (c + 1)) % 4294967291) ^ (5 : Int).toNat % 4294967279) 64 ∧ CMulW (((z1 + 104729 * (c + 1)) % 4294967291) ^ (5 : Int).toNat % 4294967279 / 64) 69621 ∧ (0:Int) < 4294967231 ∧ CDivW ((((z1 + 104729 * (c + 1)) % 4294967291) ^ (5 : Int).toNat % 4294967279 / 64 * 69621 + ((z1 + 104729 * (c + 1)) % 4294967291) ^ (5 : Int).toNat % 4294967279) % 4294967231) 8 ∧ 0 < m ∧ k (.int ((((z1 + 104729 * (c + 1)) % 4294967291) ^ (5 : Int).toNat % 4294967279 / 64 * 69621 + ((z1 + 104729 * (c + 1)) % 4294967291) ^ (5 : Int).toNat % 4294967279) % 4294967231 / 8 % m)) [.un, .own (.int (c + 1) :: cells.map D.int), .un] := ⟨l1, l3, l4, l5, l7, l8, l9, l11, l12, l13⟩
    refine ⟨⟨by decide, by decide, by decide⟩, ?_⟩
    by_cases g1 : (10 : Int) ^ (18 : Int).toNat ≤ z1
    · rw [if_pos g1]
      by_cases g2 : (0 : Int) < cells[q.toNat]
      · rw [if_pos g2]
        refine ⟨⟨m0, l2⟩, m0, ?_⟩
        rw [set_ints]
        exact h _ _ (Int.emod_nonneg _ (by omega)) (Int.emod_lt_of_pos _ m0) (by simp)
      · rw [if_neg g2]
        exact fin
    · rw [if_neg g1]
      exact fin
theorem c_draw {P : Program} {w : World} {base : Heap} {G : GC} (c : Cal P w G.K G.mg base G 1 "_law_draw" ["_law_script", "_law_town_here", "_law_many"] f__law_draw) : Cal P w G.K G.mg base G 1 "_law_draw" ["_law_script", "_law_town_here", "_law_many"] drawF := c.imp (town_imp rfl rfl draw_own)
def rI (n : Nat) : List Int := (List.range n).map fun (j : Nat) => (j : Int)
theorem rI_length (n : Nat) : (rI n).length = n := by unfold rI; rw [List.length_map, List.length_range]
theorem rI_succ (n : Nat) : rI (n + 1) = rI n ++ [(n : Int)] := by unfold rI; rw [List.range_succ, List.map_append]; rfl
theorem mem_rI {n : Nat} {c : Int} : c ∈ rI n ↔ 0 ≤ c ∧ c < n := by
  unfold rI
  rw [List.mem_map]
  constructor
  · rintro ⟨j, h, rfl⟩
    rw [List.mem_range] at h
    omega
  · rintro ⟨h1, h2⟩
    exact ⟨c.toNat, List.mem_range.mpr (by omega), by omega⟩
theorem nodup_rI (n : Nat) : (rI n).Nodup := by
  induction n with
  | zero => exact List.nodup_nil
  | succ n ih =>
    rw [rI_succ, List.nodup_append]
    refine ⟨ih, by simp, fun a ha b hb e => ?_⟩
    rw [List.mem_singleton] at hb
    have := mem_rI.mp ha
    omega
theorem cards_rI {n : Nat} (h1 : 1 ≤ n) (h2 : n ≤ 40) : Cards (rI n) := ⟨by rw [rI_length]; exact h1, by rw [rI_length]; exact h2, fun c hc => by rw [rI_length]; exact mem_rI.mp hc, nodup_rI n⟩
theorem perm_insert {l : List Int} {n a : Nat} (h : l.Perm (rI n)) : (l.take a ++ [(n : Int)] ++ l.drop a).Perm (rI (n + 1)) := by
  rw [rI_succ, List.append_assoc]
  refine (List.perm_middle (l₁ := l.take a) (l₂ := l.drop a) (a := (n : Int))).trans ?_
  rw [List.take_append_drop]
  exact (List.Perm.cons _ h).trans (List.perm_append_singleton _ _).symm
theorem lc_loop1 {ss : List Int} {n : Nat} {most many way rows : Int} {s9 s10 s11 s12 : SV} {E : DEnds} {x : KX} (h1 : ss.length = n) (h2 : n ≤ 63) (hr : 1 ≤ rows) (hr2 : rows ≤ 5) : ∀ (c i : Nat) (found : List Int) (s7 s8 : SV) (g : Nat), i + c ≤ 1000 → c ≤ g → found.Perm (rI i) →
    (∀ (found' : List Int) s7' s8', found'.Perm (rI (i + c)) → E.nx [.d (.scr ss), .town (g - c) n, .d (.int most), .d (.int many), .d (.int way), .d (.int rows), .own (found'.map .int), s7', s8', s9, s10, s11, s12]) →
    dLoop (dgName 7) b1__law_cards E x ((List.range c).map fun (j : Nat) => D.int ((i : Int) + (j : Int))) [.d (.scr ss), .town g n, .d (.int most), .d (.int many), .d (.int way), .d (.int rows), .own (found.map .int), s7, s8, s9, s10, s11, s12]
  | 0, i, found, s7, s8, g, _, _, hp, h => by
    have := h found s7 s8 hp
    simpa [dLoop] using this
  | c + 1, i, found, s7, s8, g, hi, hg, hp, h => by
    have hl : found.length = i := by rw [hp.length_eq, rI_length]
    rw [List.range_succ_eq_map, List.map_cons, List.map_map]
    have es : (fun (j : Nat) => D.int ((i : Int) + (j : Int))) ∘ Nat.succ = fun (j : Nat) => D.int (((i + 1 : Nat) : Int) + (j : Int)) := by
      funext j
      show D.int ((i : Int) + ((j + 1 : Nat) : Int)) = _
      congr 1
      omega
    rw [es]
    have ih : ∀ (a : Nat) s8', dLoop (dgName 7) b1__law_cards E x ((List.range c).map fun (j : Nat) => D.int (((i + 1 : Nat) : Int) + (j : Int))) [.d (.scr ss), .town (g - 1) n, .d (.int most), .d (.int many), .d (.int way), .d (.int rows), .own ((found.take a ++ [(i : Int)] ++ found.drop a).map .int), .d (.int i), s8', s9, s10, s11, s12] := fun a s8' =>
      lc_loop1 (most := most) (many := many) (way := way) (s9 := s9) (s10 := s10) (s11 := s11) (s12 := s12) (E := E) (x := x) h1 h2 hr hr2 c (i + 1) (found.take a ++ [(i : Int)] ++ found.drop a) (.d (.int i)) s8' (g - 1) (by omega) (by omega) (perm_insert hp) fun found' s7' s8'' hp' => by
        have := h found' s7' s8'' (by rw [show i + (c + 1) = i + 1 + c by omega]; exact hp')
        rw [show g - 1 - c = g - (c + 1) by omega]
        exact this
    have lim1 : found.length < lim := Nat.lt_of_le_of_lt (show _ ≤ 1000 by omega) (by decide)
    unfold dLoop
    simp only [b1__law_cards]
    unfold b1__law_cards at ih
    walk_at "y"
    rw [hl]
    refine draw_ok h1 h2 (by omega) (by omega) (by omega) fun r r0 r1 => ?_
    walk_at "y"
    have conv : ∀ a : Nat, (found.map D.int).take a ++ [D.int ((i : Int) + ((0 : Nat) : Int))] ++ (found.map D.int).drop a = (found.take a ++ [(i : Int)] ++ found.drop a).map D.int := fun a => by
      rw [List.map_append, List.map_append, List.map_take, List.map_drop, show (i : Int) + ((0 : Nat) : Int) = i by omega]
      rfl
    by_cases hw : way = 1
    · rw [if_pos hw]
      have hd : 0 ≤ (found.length : Int) / rows := Int.ediv_nonneg (by omega) (by omega)
      obtain ⟨a, ha⟩ : ∃ a, a = if r + (found.length : Int) / rows < (found.length : Int) then r + (found.length : Int) / rows else (found.length : Int) := ⟨_, rfl⟩
      rw [← ha]
      have a0 : 0 ≤ a ∧ a ≤ found.length := by
        rw [ha]
        split <;> constructor <;> omega
      have := ih a.toNat (.d (.int a))
      rw [← conv, show D.int (i : Int) = D.int ((i : Int) + ((0 : Nat) : Int)) by rw [show (i : Int) + ((0 : Nat) : Int) = i by omega]] at this
      refine ⟨⟨by omega, Nat.lt_of_lt_of_le (log2_lt (a := 3) (by decide) (by omega)) (by decide)⟩, lim1, a0.1, by omega, ?_⟩
      rw [show (i : Int) + ((0 : Nat) : Int) = i by omega] at this ⊢
      exact this
    · rw [if_neg hw]
      have := ih r.toNat (.d (.int r))
      rw [← conv] at this
      refine ⟨lim1, r0, by omega, ?_⟩
      rw [show (i : Int) + ((0 : Nat) : Int) = i by omega] at this ⊢
      exact this
/-- cards told by their rows -/
def setAll : List Nat → Nat → List Int → List Int
  | [], _, l => l
  | p :: ps, c, l => setAll ps (c + 1) (l.set p (c : Int))
theorem setAll_length : ∀ (ps : List Nat) (c : Nat) (l : List Int), (setAll ps c l).length = l.length
  | [], _, _ => rfl
  | p :: ps, c, l => by
    show (setAll ps (c + 1) (l.set p (c : Int))).length = l.length
    rw [setAll_length, List.length_set]
theorem setAll_out : ∀ (ps : List Nat) (c : Nat) (l : List Int) (q : Nat), q ∉ ps → (setAll ps c l)[q]? = l[q]?
  | [], _, _, _, _ => rfl
  | p :: ps, c, l, q, h => by
    show (setAll ps (c + 1) (l.set p (c : Int)))[q]? = l[q]?
    rw [setAll_out ps _ _ q fun z => h (List.mem_cons_of_mem _ z), List.getElem?_set_ne (fun z : p = q => h (z ▸ List.mem_cons_self))]
theorem setAll_in : ∀ (ps : List Nat) (c : Nat) (l : List Int) (j : Nat) (q : Nat), ps.Nodup → (∀ p ∈ ps, p < l.length) → ps[j]? = some q → (setAll ps c l)[q]? = some ((c + j : Nat) : Int)
  | [], _, _, _, _, _, _, h => by simp at h
  | p :: ps, c, l, 0, q, hn, hl, h => by
    simp at h
    subst h
    show (setAll ps (c + 1) (l.set p (c : Int)))[p]? = _
    rw [setAll_out ps _ _ p (List.nodup_cons.mp hn).1, List.getElem?_set_self (hl p List.mem_cons_self)]
    rfl
  | p :: ps, c, l, j + 1, q, hn, hl, h => by
    show (setAll ps (c + 1) (l.set p (c : Int)))[q]? = _
    rw [setAll_in ps (c + 1) _ j q (List.nodup_cons.mp hn).2 (fun p' hp => by rw [List.length_set]; exact hl p' (List.mem_cons_of_mem _ hp)) (by simpa using h), show c + 1 + j = c + (j + 1) by omega]
theorem setAll_append : ∀ (ps qs : List Nat) (c : Nat) (l : List Int), setAll (ps ++ qs) c l = setAll qs (c + ps.length) (setAll ps c l)
  | [], _, _, _ => rfl
  | p :: ps, qs, c, l => by
    show setAll (ps ++ qs) (c + 1) (l.set p (c : Int)) = setAll qs (c + (ps.length + 1)) (setAll ps (c + 1) (l.set p (c : Int)))
    rw [setAll_append ps qs, show c + 1 + ps.length = c + (ps.length + 1) by omega]
theorem setAll_cards {ps : List Nat} {n : Nat} {l : List Int} (hp : ps.Perm (List.range n)) (hl : l.length = n) (h1 : 1 ≤ n) (h2 : n ≤ 40) : Cards (setAll ps 0 l) := by
  have hnd : ps.Nodup := hp.nodup_iff.mpr List.nodup_range
  have hlen : ps.length = n := by rw [hp.length_eq, List.length_range]
  have hlt : ∀ p ∈ ps, p < l.length := fun p h => by rw [hl]; exact List.mem_range.mp (hp.mem_iff.mp h)
  have hsl : (setAll ps 0 l).length = n := by rw [setAll_length, hl]
  have key : ∀ (q : Nat) (hq : q < n), ∃ j : Nat, ps[j]? = some q ∧ (setAll ps 0 l)[q]? = some (j : Int) := fun q hq => by
    have : q ∈ ps := hp.mem_iff.mpr (List.mem_range.mpr hq)
    obtain ⟨j, hj⟩ := List.mem_iff_getElem?.mp this
    exact ⟨j, hj, by rw [setAll_in ps 0 l j q hnd hlt hj, Nat.zero_add]⟩
  refine ⟨by omega, by omega, fun c hc => ?_, ?_⟩
  · obtain ⟨q, hq⟩ := List.mem_iff_getElem?.mp hc
    have hql : q < n := by rw [← hsl]; exact (List.getElem?_eq_some_iff.mp hq).1
    obtain ⟨j, e1, e2⟩ := key q hql
    rw [hq] at e2
    cases e2
    have := (List.getElem?_eq_some_iff.mp e1).1
    omega
  · rw [List.nodup_iff_pairwise_ne, List.pairwise_iff_getElem]
    intro a b ha hb hab e
    obtain ⟨j, e1, e2⟩ := key a (by omega)
    obtain ⟨j', e3, e4⟩ := key b (by omega)
    rw [List.getElem?_eq_getElem ha] at e2
    rw [List.getElem?_eq_getElem hb] at e4
    have e5 : (j : Int) = j' := by rw [← Option.some.inj e2, ← Option.some.inj e4]; exact e
    have e6 : j = j' := by omega
    subst e6
    rw [e1] at e3
    cases e3
    omega
def eN (p : Nat) : D := .int p
theorem flat_app {a : Nat} : ∀ (hs : List (List Nat)) (m : Nat) (l : List Nat), hs[m]? = some l → (hs.set m (l ++ [a])).flatten.Perm (a :: hs.flatten)
  | [], _, _, h => by simp at h
  | l0 :: hs, 0, l, h => by
    simp at h
    subst h
    show (l0 ++ [a] ++ hs.flatten).Perm (a :: (l0 ++ hs.flatten))
    rw [List.append_assoc]
    exact List.perm_middle
  | l0 :: hs, m + 1, l, h => by
    show (l0 ++ (hs.set m (l ++ [a])).flatten).Perm (a :: (l0 ++ hs.flatten))
    refine ((flat_app hs m l (by simpa using h)).append_left l0).trans ?_
    exact List.perm_middle
theorem set_map2 {hs : List (List Nat)} {m : Nat} {l : List Nat} {a : Nat} : (hs.map fun h => h.map eN).set m (l.map eN ++ [eN a]) = (hs.set m (l ++ [a])).map fun h => h.map eN := by
  rw [List.map_set, List.map_append]
  rfl
theorem len_flat : ∀ {hs : List (List Nat)} {m : Nat} {l : List Nat}, hs[m]? = some l → l.length ≤ hs.flatten.length
  | [], _, _, h => by simp at h
  | l0 :: hs, 0, l, h => by
    simp at h
    subst h
    rw [List.flatten_cons, List.length_append]
    omega
  | l0 :: hs, m + 1, l, h => by
    have := len_flat (hs := hs) (m := m) (l := l) (by simpa using h)
    rw [List.flatten_cons, List.length_append]
    omega
theorem lc_loop2 {ss : List Int} {n : Nat} {most many way rows : Int} {s6 s7 s8 s11 s12 : SV} {E : DEnds} {x : KX} (h1 : ss.length = n) (h2 : n ≤ 63) (hr : 1 ≤ rows) (hr2 : rows ≤ 5) : ∀ (c i : Nat) (hs : List (List Nat)) (s10 : SV) (g : Nat), i + c ≤ 1000 → c ≤ g → hs.length = rows.toNat → hs.flatten.Perm (List.range i) →
    (∀ (hs' : List (List Nat)) s10', hs'.flatten.Perm (List.range (i + c)) → E.nx [.d (.scr ss), .town (g - c) n, .d (.int most), .d (.int many), .d (.int way), .d (.int rows), s6, s7, s8, .own2 (hs'.map fun h => h.map eN), s10', s11, s12]) →
    dLoop (dgName 10) b2__law_cards E x ((List.range c).map fun (j : Nat) => D.int ((i : Int) + (j : Int))) [.d (.scr ss), .town g n, .d (.int most), .d (.int many), .d (.int way), .d (.int rows), s6, s7, s8, .own2 (hs.map fun h => h.map eN), s10, s11, s12]
  | 0, i, hs, s10, g, _, _, _, hp, h => by
    have := h hs s10 hp
    simpa [dLoop] using this
  | c + 1, i, hs, s10, g, hi, hg, hl, hp, h => by
    rw [List.range_succ_eq_map, List.map_cons, List.map_map]
    have es : (fun (j : Nat) => D.int ((i : Int) + (j : Int))) ∘ Nat.succ = fun (j : Nat) => D.int (((i + 1 : Nat) : Int) + (j : Int)) := by
      funext j
      show D.int ((i : Int) + ((j + 1 : Nat) : Int)) = _
      congr 1
      omega
    rw [es, show (i : Int) + ((0 : Nat) : Int) = i by omega]
    have ih : ∀ (m : Nat) (l : List Nat), hs[m]? = some l → dLoop (dgName 10) b2__law_cards E x ((List.range c).map fun (j : Nat) => D.int (((i + 1 : Nat) : Int) + (j : Int))) [.d (.scr ss), .town (g - 1) n, .d (.int most), .d (.int many), .d (.int way), .d (.int rows), s6, s7, s8, .own2 ((hs.set m (l ++ [i])).map fun h => h.map eN), .d (.int i), s11, s12] := fun m l hm =>
      lc_loop2 (most := most) (many := many) (way := way) (s6 := s6) (s7 := s7) (s8 := s8) (s11 := s11) (s12 := s12) (E := E) (x := x) h1 h2 hr hr2 c (i + 1) (hs.set m (l ++ [i])) (.d (.int i)) (g - 1) (by omega) (by omega) (by rw [List.length_set]; exact hl) ((flat_app hs m l hm).trans (by rw [List.range_succ]; exact (List.Perm.cons _ hp).trans (List.perm_append_singleton _ _).symm)) fun hs' s10' hp' => by
        have := h hs' s10' (by rw [show i + (c + 1) = i + 1 + c by omega]; exact hp')
        rw [show g - 1 - c = g - (c + 1) by omega]
        exact this
    have hfl : hs.flatten.length = i := by rw [hp.length_eq, List.length_range]
    unfold dLoop
    simp only [b2__law_cards]
    unfold b2__law_cards at ih
    walk_at "y"
    refine draw_ok h1 h2 (by omega) (by omega) (by omega) fun r r0 r1 => ?_
    walk_at "y"
    have hm : r.toNat < hs.length := by omega
    have em := List.getElem?_eq_getElem hm
    have hle := len_flat em
    refine ⟨r.toNat, hs[r.toNat].map eN, ixN_nn r0 (by rw [hl]; omega), by rw [List.getElem?_map, em]; rfl, ?_, ?_⟩
    · rw [List.length_map]
      exact Nat.lt_of_le_of_lt (show _ ≤ 1000 by omega) (by decide)
    · have := ih r.toNat _ em
      rw [← set_map2] at this
      exact this
theorem lc_loop3 {v0 v1 v2 v3 v4 v5 s8 s9 s11 s12 : SV} : ∀ (ps : List Nat) (c : Nat) (l : List Int) (s10 : SV), (∀ p ∈ ps, p < l.length) →
    ∃ s10', ∀ E x, dLoop (dgName 10) b3__law_cards E x (ps.map eN) [v0, v1, v2, v3, v4, v5, .own (l.map .int), .d (.int c), s8, s9, s10, s11, s12] =
      E.nx [v0, v1, v2, v3, v4, v5, .own ((setAll ps c l).map .int), .d (.int ((c + ps.length : Nat) : Int)), s8, s9, s10', s11, s12]
  | [], c, l, s10, _ => ⟨s10, fun _ _ => rfl⟩
  | p :: ps, c, l, s10, h => by
    obtain ⟨u, e⟩ := lc_loop3 (v0 := v0) (v1 := v1) (v2 := v2) (v3 := v3) (v4 := v4) (v5 := v5) (s8 := s8) (s9 := s9) (s11 := s11) (s12 := s12) ps (c + 1) (l.set p (c : Int)) (.d (eN p)) (fun p' hp => by rw [List.length_set]; exact h p' (List.mem_cons_of_mem _ hp))
    refine ⟨u, fun E x => ?_⟩
    rw [show c + (p :: ps).length = c + 1 + ps.length by rw [List.length_cons]; omega, show setAll (p :: ps) c l = setAll ps (c + 1) (l.set p (c : Int)) from rfl, ← e E x]
    have e1 : ixN l.length (p : Int) = some p := by rw [ixN_nn (by omega) (by have := h p List.mem_cons_self; omega)]; rfl
    have e2 : (l.map D.int).set p (.int (c : Int)) = (l.set p (c : Int)).map D.int := by rw [List.map_set]
    have e3 : ((c : Int) + 1) = ((c + 1 : Nat) : Int) := by omega
    simp only [List.map_cons, dLoop, b3__law_cards, eN]
    walk_at "y"
    rw [e1, ← e2, ← e3]
    simp only [Option.some.injEq, exists_eq_left']
theorem lc_loop4 {v0 v1 v2 v3 v4 v5 s8 s9 s12 : SV} : ∀ (hs : List (List Nat)) (c : Nat) (l : List Int) (s10 s11 : SV), (∀ p ∈ hs.flatten, p < l.length) →
    ∃ s10' s11', ∀ E x, dLoop (dgName 11) b4__law_cards E x (hs.map fun h => D.lst (h.map eN)) [v0, v1, v2, v3, v4, v5, .own (l.map .int), .d (.int c), s8, s9, s10, s11, s12] =
      E.nx [v0, v1, v2, v3, v4, v5, .own ((setAll hs.flatten c l).map .int), .d (.int ((c + hs.flatten.length : Nat) : Int)), s8, s9, s10', s11', s12]
  | [], c, l, s10, s11, _ => ⟨s10, s11, fun _ _ => rfl⟩
  | ps :: hs, c, l, s10, s11, h => by
    rw [List.flatten_cons] at h
    obtain ⟨u, e⟩ := lc_loop3 (v0 := v0) (v1 := v1) (v2 := v2) (v3 := v3) (v4 := v4) (v5 := v5) (s8 := s8) (s9 := s9) (s11 := .d (.lst (ps.map eN))) (s12 := s12) ps c l s10 (fun p hp => h p (List.mem_append_left _ hp))
    obtain ⟨u1, u2, e'⟩ := lc_loop4 (v0 := v0) (v1 := v1) (v2 := v2) (v3 := v3) (v4 := v4) (v5 := v5) (s8 := s8) (s9 := s9) (s12 := s12) hs (c + ps.length) (setAll ps c l) u (.d (.lst (ps.map eN))) (fun p hp => by rw [setAll_length]; exact h p (List.mem_append_right _ hp))
    refine ⟨u1, u2, fun E x => ?_⟩
    rw [List.flatten_cons, setAll_append, List.length_append, ← Nat.add_assoc, ← e' E x]
    rw [List.map_cons]
    show dgName 11 _ _ (fun ρ1 => b4__law_cards _ x ρ1) = _
    unfold b4__law_cards
    walk_at "y"
    rw [e]
theorem rep_flat : ∀ c : Nat, (List.replicate c [D.int 0]).flatten = (List.replicate c (0 : Int)).map D.int
  | 0 => rfl
  | c + 1 => by
    rw [List.replicate_succ, List.flatten_cons, rep_flat c]
    rfl
theorem sp_law_cards {ss : List Int} {g n : Nat} {most : Int} {k : D → Ev → Prop} {x : KX} (h1 : ss.length = n) (h2 : n ≤ 63) (hm : 1 ≤ most) (hm2 : most ≤ 40) (hg : 100 ≤ g)
    (h : ∀ (l : List Int) g', Cards l → l.length ≤ most → g ≤ g' + 100 → k (eL l) [.un, .town g' n, .un]) : f__law_cards.go [.d (.scr ss), .town g n, .d (.int most)] k x := by
  unfold f__law_cards d__law_cards
  walk_at "y"
  refine draw_ok h1 h2 (by omega) (by omega) (by omega) fun r r0 r1 => ?_
  walk_at "y"
  refine draw_ok h1 h2 (by decide) (by decide) (by omega) fun way w0 w1 => ?_
  walk_at "y"
  refine draw_ok h1 h2 (by decide) (by decide) (by omega) fun rr q0 q1 => ?_
  walk_at "y"
  have hb : inB (1 + r) := ⟨by omega, by omega⟩
  have hb2 : inB (1 + rr) := ⟨by omega, by omega⟩
  refine ⟨hb, ?_⟩
  obtain ⟨c, hc⟩ : ∃ c : Nat, c = (1 + r).toNat := ⟨_, rfl⟩
  have hc2 : 1 + r = (c : Int) := by omega
  rw [← hc, hc2]
  refine lc_loop1 (ss := ss) (rows := 1 + rr) h1 h2 (by omega) (by omega) c 0 [] _ _ _ (by omega) (by omega) (List.Perm.refl _) fun found s7 s8 hp => ?_
  have hfl : found.length = c := by rw [hp.length_eq, rI_length, Nat.zero_add]
  rw [Nat.zero_add] at hp
  walk_at "y"
  by_cases hw2 : way = 2
  · rw [if_pos hw2]
    refine ⟨hb2, by omega, ⟨by omega, by omega⟩, ?_⟩
    rw [show (List.replicate (1 + rr).toNat [] : List (List D)) = ((List.replicate (1 + rr).toNat []).map fun h => h.map eN) by rw [List.map_replicate]; rfl]
    refine lc_loop2 (ss := ss) (rows := 1 + rr) h1 h2 (by omega) (by omega) c 0 (List.replicate (1 + rr).toNat []) _ _ (by omega) (by omega) (by rw [List.length_replicate]) (by rw [List.flatten_replicate_nil]; exact List.Perm.refl _) fun hs s10 hp2 => ?_
    rw [Nat.zero_add] at hp2
    walk_at "y"
    refine ⟨by omega, by omega, Nat.le_trans (show _ ≤ 1000 by omega) (by decide), ?_⟩
    have e0 := rep_flat c
    rw [Int.toNat_natCast, e0]
    obtain ⟨u, v, e⟩ := lc_loop4 (v0 := .d (.scr ss)) (v1 := .town (g - 1 - 1 - 1 - c - c) n) (v2 := .d (.int most)) (v3 := .d (.int c)) (v4 := .d (.int way)) (v5 := .d (.int (1 + rr))) (s8 := s8) (s9 := .d (.lst ((hs.map fun h => h.map eN).map D.lst))) (s12 := .un) hs 0 (List.replicate c 0) s10 .un (fun p hp => by rw [List.length_replicate]; exact List.mem_range.mp (hp2.mem_iff.mp hp))
    rw [List.map_map] at e ⊢
    have e' := e
    simp only [Function.comp_def] at e' ⊢
    rw [show ((0 : Nat) : Int) = 0 from rfl] at e'
    rw [e']
    have hc : Cards (setAll hs.flatten 0 (List.replicate c 0)) := setAll_cards hp2 List.length_replicate (by omega) (by omega)
    have hfl2 : (setAll hs.flatten 0 (List.replicate c 0)).length = c := by rw [setAll_length, List.length_replicate]
    walk_at "y"
    by_cases hw : 0 < way
    · rw [if_pos hw]
      refine draw_ok h1 h2 (by decide) (by decide) (by omega) fun q _ _ => ?_
      walk_at "y"
      by_cases hq : q = 0
      · rw [if_pos hq, ← List.map_reverse]
        exact h _ _ (hc.perm (List.reverse_perm _)) (by rw [List.length_reverse]; omega) (by omega)
      · rw [if_neg hq]
        exact h _ _ hc (by omega) (by omega)
    · rw [if_neg hw]
      exact h _ _ hc (by omega) (by omega)
  · rw [if_neg hw2]
    have hc : Cards found := (cards_rI (by omega) (by omega)).perm hp
    by_cases hw : 0 < way
    · rw [if_pos hw]
      refine draw_ok h1 h2 (by decide) (by decide) (by omega) fun q _ _ => ?_
      walk_at "y"
      by_cases hq : q = 0
      · rw [if_pos hq, ← List.map_reverse]
        exact h _ _ (hc.perm (List.reverse_perm _)) (by rw [List.length_reverse]; omega) (by omega)
      · rw [if_neg hq]
        exact h _ _ hc (by omega) (by omega)
    · rw [if_neg hw]
      exact h _ _ hc (by omega) (by omega)
theorem zipD_ints : ∀ xs w : List Int, zipD (xs.map .int) (w.map .int) = (xs.zip w).map fun p => D.tup [.int p.1, .int p.2]
  | [], _ => by simp [zipD]
  | _ :: _, [] => by simp [zipD]
  | x :: xs, y :: w => by
    rw [List.map_cons, List.map_cons, List.zip_cons_cons, List.map_cons, ← zipD_ints xs w]
    rfl
def setBy : List (Int × Int) → List Int → List Int
  | [], l => l
  | p :: ps, l => setBy ps (l.set p.2.toNat p.1)
theorem setBy_length : ∀ (ps : List (Int × Int)) (l : List Int), (setBy ps l).length = l.length
  | [], _ => rfl
  | p :: ps, l => by
    show (setBy ps (l.set p.2.toNat p.1)).length = l.length
    rw [setBy_length, List.length_set]
theorem setBy_out : ∀ (ps : List (Int × Int)) (l : List Int) (q : Nat), (∀ p ∈ ps, p.2.toNat ≠ q) → (setBy ps l)[q]? = l[q]?
  | [], _, _, _ => rfl
  | p :: ps, l, q, h => by
    show (setBy ps (l.set p.2.toNat p.1))[q]? = l[q]?
    rw [setBy_out ps _ q fun p' hp => h p' (List.mem_cons_of_mem _ hp), List.getElem?_set_ne (h p List.mem_cons_self)]
theorem setBy_in : ∀ (ps : List (Int × Int)) (l : List Int) (p : Int × Int), (ps.map (·.2)).Nodup → (∀ p ∈ ps, 0 ≤ p.2 ∧ p.2 < l.length) → p ∈ ps → (setBy ps l)[p.2.toNat]? = some p.1
  | [], _, _, _, _, h => by cases h
  | a :: ps, l, p, hn, hl, h => by
    show (setBy ps (l.set a.2.toNat a.1))[p.2.toNat]? = some p.1
    rw [List.map_cons] at hn
    obtain ⟨n1, n2⟩ := List.nodup_cons.mp hn
    have ha := hl a List.mem_cons_self
    rcases List.mem_cons.mp h with rfl | h
    · rw [setBy_out ps _ _ fun p' hp e => n1 (by
        have := hl p' (List.mem_cons_of_mem _ hp)
        have e2 : p'.2 = p.2 := by omega
        rw [← e2]
        exact List.mem_map_of_mem hp), List.getElem?_set_self (by omega)]
    · exact setBy_in ps _ p n2 (fun p' hp => by rw [List.length_set]; exact hl p' (List.mem_cons_of_mem _ hp)) h
theorem sIx_ok {n d : Nat} {r : Int} (h0 : 0 ≤ r) (h1 : r ≤ n) : HT.sIx n d (some r) = r.toNat := by
  show (if r < 0 then (r + (n : Int)).toNat else min r.toNat n) = r.toNat
  rw [if_neg (by omega)]
  omega
theorem cut_lo {l : List D} {r : Int} (h0 : 0 ≤ r) (h1 : r ≤ l.length) : cutD l (some r) none = l.drop r.toNat := by
  unfold cutD
  rw [sIx_ok h0 h1]
  rw [List.take_of_length_le]
  rw [List.length_drop]
  exact Nat.le_refl _
theorem rng_rI (n : Nat) : rng 0 n = (rI n).map D.int := by
  unfold rng rI
  rw [List.map_map]
  apply List.map_congr_left
  intro j _
  show D.int (0 + (j : Int)) = D.int (j : Int)
  rw [Int.zero_add]
/-- the places of the cards -/
def plL (l : List Int) : List Int := (rI l.length).map fun c => (l.idxOf c : Int)
theorem plL_length (l : List Int) : (plL l).length = l.length := by unfold plL; rw [List.length_map, rI_length]
theorem rI_get {n j : Nat} (h : j < n) : (rI n)[j]? = some (j : Int) := by
  unfold rI
  rw [List.getElem?_map, List.getElem?_range h]
  rfl
theorem nd_perm : ∀ {l m : List Int}, l.Nodup → (∀ a ∈ l, a ∈ m) → l.length = m.length → l.Perm m
  | [], m, _, _, h => by
    have : m = [] := List.length_eq_zero_iff.mp (by rw [← h]; rfl)
    subst this
    exact List.Perm.refl _
  | a :: l, m, hn, hs, hl => by
    obtain ⟨n1, n2⟩ := List.nodup_cons.mp hn
    have ha := hs a List.mem_cons_self
    have e := List.perm_cons_erase ha
    refine (List.Perm.cons a (nd_perm (l := l) (m := m.erase a) n2 (fun b hb => ?_) ?_)).trans e.symm
    · have : b ≠ a := fun z => n1 (z ▸ hb)
      exact (List.mem_erase_of_ne this).mpr (hs b (List.mem_cons_of_mem _ hb))
    · rw [List.length_erase_of_mem ha, ← hl, List.length_cons]
      rfl
theorem Cards.perm_rI {l : List Int} (h : Cards l) : l.Perm (rI l.length) :=
  nd_perm h.nd (fun x hx => mem_rI.mpr (h.ok x hx)) (by rw [rI_length])
theorem Cards.mem {l : List Int} (h : Cards l) {c : Int} : c ∈ l ↔ 0 ≤ c ∧ c < l.length := by
  rw [h.perm_rI.mem_iff, mem_rI]
theorem plL_get {l : List Int} {c : Nat} (h : c < l.length) : (plL l)[c]? = some ((l.idxOf (c : Int) : Nat) : Int) := by
  unfold plL
  rw [List.getElem?_map, rI_get h]
  rfl
theorem setBy_places {l : List Int} (h : Cards l) : setBy ((rI l.length).zip l) (List.replicate l.length 0) = plL l := by
  apply List.ext_getElem?
  intro c
  by_cases hc : c < l.length
  · rw [plL_get hc]
    have hm : (c : Int) ∈ l := h.mem.mpr ⟨by omega, by omega⟩
    have hi : l.idxOf (c : Int) < l.length := List.idxOf_lt_length_iff.mpr hm
    have hz : l.idxOf (c : Int) < ((rI l.length).zip l).length := by rw [List.length_zip, rI_length]; omega
    have hmz : (((l.idxOf (c : Int) : Nat) : Int), (c : Int)) ∈ (rI l.length).zip l := by
      have := List.getElem_mem hz
      rw [List.getElem_zip, List.getElem_idxOf] at this
      have e : (rI l.length)[l.idxOf (c : Int)]'(by rw [rI_length]; exact hi) = ((l.idxOf (c : Int) : Nat) : Int) := by
        have := rI_get hi
        rw [List.getElem?_eq_getElem (by rw [rI_length]; exact hi)] at this
        exact Option.some.inj this
      rw [e] at this
      exact this
    have hr : ∀ p ∈ (rI l.length).zip l, 0 ≤ p.2 ∧ p.2 < ((List.replicate l.length (0 : Int)).length : Nat) := fun p hp => by
      rw [List.length_replicate]
      exact h.ok p.2 (List.of_mem_zip hp).2
    have := setBy_in ((rI l.length).zip l) (List.replicate l.length 0) _ (by rw [List.map_snd_zip (by rw [rI_length]; exact Nat.le_refl _)]; exact h.nd) hr hmz
    rw [Int.toNat_natCast] at this
    exact this
  · rw [List.getElem?_eq_none (by rw [setBy_length, List.length_replicate]; omega), List.getElem?_eq_none (by rw [plL_length]; omega)]
theorem enumD_ints0 : ∀ (l : List Int) (n : Nat), enumD n (l.map D.int) = (((List.range' n l.length).map fun (j : Nat) => (j : Int)).zip l).map fun p => D.tup [.int p.1, .int p.2]
  | [], _ => by simp [enumD]
  | c :: l, n => by
    rw [List.length_cons, List.range'_succ, List.map_cons, List.map_cons, List.zip_cons_cons, List.map_cons, ← enumD_ints0 l (n + 1)]
    rfl
theorem enumD_ints (l : List Int) : enumD 0 (l.map D.int) = ((rI l.length).zip l).map fun p => D.tup [.int p.1, .int p.2] := by
  rw [enumD_ints0]
  unfold rI
  rw [List.range_eq_range']
theorem pl_loop {v0 : SV} : ∀ (ps : List (Int × Int)) (l : List Int) (s2 s3 : SV), (∀ p ∈ ps, 0 ≤ p.2 ∧ p.2 < l.length) →
    ∃ s2' s3', ∀ E x, dLoop (dgTup 2 (dgCons (dgName 2) (dgCons (dgName 3) dgNil))) b1_Deck_places E x (ps.map fun p => D.tup [.int p.1, .int p.2]) [v0, .own (l.map .int), s2, s3] = E.nx [v0, .own ((setBy ps l).map .int), s2', s3']
  | [], l, s2, s3, _ => ⟨s2, s3, fun _ _ => rfl⟩
  | p :: ps, l, s2, s3, h => by
    obtain ⟨u, v, e⟩ := pl_loop (v0 := v0) ps (l.set p.2.toNat p.1) (.d (.int p.1)) (.d (.int p.2)) (fun p' hp => by rw [List.length_set]; exact h p' (List.mem_cons_of_mem _ hp))
    refine ⟨u, v, fun E x => ?_⟩
    rw [show setBy (p :: ps) l = setBy ps (l.set p.2.toNat p.1) from rfl, ← e E x]
    obtain ⟨p0, p1⟩ := h p List.mem_cons_self
    have e1 : ixN l.length p.2 = some p.2.toNat := ixN_nn p0 p1
    have e2 : (l.map D.int).set p.2.toNat (.int p.1) = (l.set p.2.toNat p.1).map D.int := by rw [List.map_set]
    simp only [List.map_cons, dLoop, b1_Deck_places]
    walk_at "y"
    rw [e1, ← e2]
    simp only [Option.some.injEq, exists_eq_left']
theorem sp_Deck_places (l : List Int) (h : Cards l) (k : D → Ev → Prop) (x : KX) : f_Deck_places.go [.d (eK l)] k x = k (eL (plL l)) [.un] := by
  have h2 := h.few
  unfold f_Deck_places d_Deck_places
  walk_at "y"
  rw [comp_map (ρa := fun c => [.d (eK l), .un, .un, .d (.int c)]) (f := fun _ => D.int 0) (fun _ _ _ => rfl) (fun c hc K => rfl) (fun _ _ => rfl)]
  try walk_at "y"
  have hr : ∀ p ∈ (rI l.length).zip l, 0 ≤ p.2 ∧ p.2 < ((List.replicate l.length (0 : Int)).length : Nat) := fun p hp => by
    rw [List.length_replicate]
    exact h.ok p.2 (List.of_mem_zip hp).2
  obtain ⟨u, v, e⟩ := pl_loop (v0 := .d (eK l)) _ _ .un .un hr
  rw [show (l.map fun _ => D.int 0) = (List.replicate l.length (0 : Int)).map D.int by rw [List.map_replicate]; exact List.map_const' .., enumD_ints, e]
  try walk_at "y"
  rw [setBy_places h]
  simp [show l.length ≤ 100000 by omega]
def desc (xs : List Int) : List (Int × Int) := (xs.zip (xs.drop 1)).filter fun p => decide (p.2 < p.1)
def risingN (l : List Int) : Int := 1 + ((desc (plL l)).length : Nat)
def fallingN (l : List Int) : Int := (l.length : Int) + 1 - risingN l
theorem sp_Deck_rising (l : List Int) (h : Cards l) (k : D → Ev → Prop) (x : KX) : f_Deck_rising.go [.d (eK l)] k x = k (.int (risingN l)) [.un] := by
  have h2 := h.few
  unfold f_Deck_rising d_Deck_rising
  walk_at "y"
  rw [sp_Deck_places l h]
  try walk_at "y"
  have hz : ((plL l).zip ((plL l).drop 1)).length ≤ 100000 := by rw [List.length_zip, plL_length]; omega
  rw [cut_lo (by decide) (by rw [List.length_map, plL_length]; have := h.pos; omega), ← List.map_drop, show (1 : Int).toNat = 1 from rfl, zipD_ints]
  rw [comp_gen (ρa := fun p => [.d (eK l), .d (eL (plL l)), .d (.int p.1), .d (.int p.2)]) (p := fun p => decide (p.2 < p.1)) (f := fun _ => D.int 1) (fun _ _ _ => by walk_at "y") (fun a ha K => by
    unfold t1_Deck_rising
    walk_at "y") (fun a ha _ K => rfl) (fun _ _ => rfl)]
  rw [List.length_map]
  simp only [hz, true_and, List.nil_append, List.length_map]
  rfl
theorem sp_Deck_falling (l : List Int) (h : Cards l) (k : D → Ev → Prop) (x : KX) : f_Deck_falling.go [.d (eK l)] k x = k (.int (fallingN l)) [.un] := by
  unfold f_Deck_falling d_Deck_falling
  walk_at "y"
  rw [sp_Deck_rising l h]
  try walk_at "y"
  rfl
/-- the cards of a pocket -/
def sel (ps : List (Int × Int)) (i : Int) : List Int := (ps.filter fun a => decide (a.2 = i)).map (·.1)
def turned (w : Bool) (l : List Int) : List Int := if w then l.reverse else l
def gath (xs w : List Int) (m : Ma) : List Int := (List.range m.2.toNat).flatMap fun (i : Nat) => turned m.1 (sel (xs.zip w) i)
theorem sel_sum (ps : List (Int × Int)) : ∀ n : Nat, ((List.range n).map (List.length ∘ fun (i : Nat) => sel ps i)).sum ≤ ps.length := by
  induction ps with
  | nil =>
    intro n
    induction n with
    | zero => decide
    | succ n ih =>
      rw [List.range_succ, List.map_append, List.sum_append]
      simpa [sel] using ih
  | cons a ps ih =>
    intro n
    have h : ∀ n : Nat, ((List.range n).map (List.length ∘ fun (i : Nat) => sel (a :: ps) i)).sum = ((List.range n).map (List.length ∘ fun (i : Nat) => sel ps i)).sum + (if 0 ≤ a.2 ∧ a.2 < n then 1 else 0) := fun n => by
      induction n with
      | zero => simp
      | succ n ih2 =>
        rw [List.range_succ, List.map_append, List.sum_append, ih2, List.map_append, List.sum_append]
        have : (sel (a :: ps) (n : Int)).length = (sel ps (n : Int)).length + (if a.2 = n then 1 else 0) := by
          unfold sel
          by_cases e : a.2 = n <;> simp [e]
        simp only [List.map_cons, List.map_nil, List.sum_cons, List.sum_nil, Function.comp, this]
        split <;> split <;> split <;> omega
    rw [h, List.length_cons]
    have := ih n
    split <;> omega
def Word (w : List Int) (n : Nat) (m : Ma) : Prop := w.length = n ∧ ∀ i ∈ w, 0 ≤ i ∧ i < m.2
theorem flat_perm {α : Type} {f g : α → List Int} : ∀ {l : List α}, (∀ a ∈ l, (f a).Perm (g a)) → (l.flatMap f).Perm (l.flatMap g)
  | [], _ => List.Perm.refl _
  | a :: l, h => by
    rw [List.flatMap_cons, List.flatMap_cons]
    exact (h a List.mem_cons_self).append (flat_perm fun b hb => h b (List.mem_cons_of_mem _ hb))
theorem flat_ins {x : Int} {j : Nat} {f : Nat → List Int} : ∀ {l : List Nat}, l.Nodup → j ∈ l → (l.flatMap fun i => if j = i then x :: f i else f i).Perm (x :: l.flatMap f)
  | [], _, h => by cases h
  | a :: l, hn, h => by
    rw [List.flatMap_cons, List.flatMap_cons]
    obtain ⟨n1, n2⟩ := List.nodup_cons.mp hn
    by_cases e : j = a
    · subst e
      rw [if_pos rfl]
      have : (l.flatMap fun i => if j = i then x :: f i else f i) = l.flatMap f := by
        unfold List.flatMap
        congr 1
        apply List.map_congr_left
        intro i hi
        rw [if_neg fun z : j = i => n1 (z ▸ hi)]
      rw [this]
      exact List.Perm.refl _
    · rw [if_neg e]
      have hj : j ∈ l := by
        rcases List.mem_cons.mp h with z | z
        · exact absurd z e
        · exact z
      exact ((flat_ins n2 hj).append_left (f a)).trans List.perm_middle
theorem sel_flat {n : Nat} : ∀ {ps : List (Int × Int)}, (∀ a ∈ ps, 0 ≤ a.2 ∧ a.2 < n) → ((List.range n).flatMap fun (i : Nat) => sel ps i).Perm (ps.map (·.1))
  | [], _ => by
    have : ((List.range n).flatMap fun (i : Nat) => sel [] i) = [] := by
      rw [List.flatMap_eq_nil_iff]
      intro i _
      rfl
    rw [this]
    exact List.Perm.refl _
  | a :: ps, h => by
    obtain ⟨a0, a1⟩ := h a List.mem_cons_self
    have e : (fun (i : Nat) => sel (a :: ps) (i : Int)) = fun (i : Nat) => if a.2.toNat = i then a.1 :: sel ps i else sel ps i := by
      funext i
      unfold sel
      by_cases z : a.2 = i
      · rw [if_pos (by omega)]
        simp [z]
      · rw [if_neg (by omega)]
        simp [z]
    rw [e, List.map_cons]
    exact (flat_ins List.nodup_range (List.mem_range.mpr (by omega))).trans (List.Perm.cons _ (sel_flat fun b hb => h b (List.mem_cons_of_mem _ hb)))
theorem gath_perm {xs w : List Int} {m : Ma} (hw : Word w xs.length m) : (gath xs w m).Perm xs := by
  unfold gath
  refine (flat_perm (g := fun (i : Nat) => sel (xs.zip w) i) fun i _ => ?_).trans ?_
  · unfold turned
    split
    · exact List.reverse_perm _
    · exact List.Perm.refl _
  · refine (sel_flat fun a ha => ?_).trans ?_
    · have := hw.2 a.2 (List.of_mem_zip ha).2
      omega
    · rw [List.map_fst_zip (by rw [hw.1]; exact Nat.le_refl _)]
theorem idx_inj {o : List Int} {a b : Int} (ha : a ∈ o) (hb : b ∈ o) (h : o.idxOf a = o.idxOf b) : a = b := by
  have h1 := List.idxOf_lt_length_iff.mpr ha
  have h2 := List.idxOf_lt_length_iff.mpr hb
  have e1 : o[o.idxOf a] = a := List.getElem_idxOf h1
  have e2 : o[o.idxOf b] = b := List.getElem_idxOf h2
  rw [← e1, ← e2]
  congr 1
theorem nodup_map {f : Int → Int} : ∀ {l : List Int}, l.Nodup → (∀ a ∈ l, ∀ b ∈ l, f a = f b → a = b) → (l.map f).Nodup
  | [], _, _ => List.nodup_nil
  | a :: l, hn, h => by
    obtain ⟨n1, n2⟩ := List.nodup_cons.mp hn
    rw [List.map_cons]
    refine List.nodup_cons.mpr ⟨fun hm => ?_, nodup_map n2 fun x hx y hy => h x (List.mem_cons_of_mem _ hx) y (List.mem_cons_of_mem _ hy)⟩
    obtain ⟨b, hb, e⟩ := List.mem_map.mp hm
    have := h b (List.mem_cons_of_mem _ hb) a List.mem_cons_self e
    subst this
    exact n1 hb
/-- a row of machines -/
structure Row (l : List Ma) : Prop where
  few : l.length ≤ 6
  ok : ∀ m ∈ l, 1 ≤ m.2 ∧ m.2 ≤ 300
def roomN (l : List Ma) : Int := l.foldl (fun a m => a * m.2) 1
def oddN (l : List Ma) : Bool := decide ((l.filter (·.1)).length % 2 = 1)
theorem Row.sub {l m : List Ma} (h : Row l) (hs : m.Sublist l) : Row m := ⟨Nat.le_trans hs.length_le h.few, fun a ha => h.ok a (hs.subset ha)⟩
theorem Row.drop {l : List Ma} (h : Row l) (n : Nat) : Row (l.drop n) := h.sub (List.drop_sublist n l)
theorem fold_mul (l : List Ma) (a : Int) : l.foldl (fun a m => a * m.2) a = a * l.foldl (fun a m => a * m.2) 1 := by
  induction l generalizing a with
  | nil => simp
  | cons m l ih => rw [List.foldl_cons, List.foldl_cons, ih, ih (1 * m.2), Int.one_mul, Int.mul_assoc]
theorem roomN_cons (m : Ma) (l : List Ma) : roomN (m :: l) = m.2 * roomN l := by
  unfold roomN
  rw [List.foldl_cons, fold_mul, Int.one_mul]
/-! ### two runs as one -/
def gathK (l : List Int) (f : Int → Int) (w : Bool) (a : Nat) : List Int := (List.range a).flatMap fun (i : Nat) => turned w (l.filter fun c => decide (f c = i))
theorem sel_key (f : Int → Int) (i : Int) : ∀ l : List Int, sel (l.zip (l.map f)) i = l.filter fun c => decide (f c = i)
  | [] => rfl
  | c :: l => by
    have ih := sel_key f i l
    unfold sel at ih ⊢
    rw [List.map_cons, List.zip_cons_cons, List.filter_cons, List.filter_cons]
    by_cases h : f c = i
    · simp only [h, decide_true, if_true, List.map_cons]
      rw [ih]
    · simp only [h, decide_false, if_false, Bool.false_eq_true]
      exact ih
theorem gath_key (l : List Int) (f : Int → Int) (m : Ma) : gath l (l.map f) m = gathK l f m.1 m.2.toNat := by
  unfold gath gathK
  congr 1
  funext i
  rw [sel_key]
theorem turned_filter (w : Bool) (l : List Int) (p : Int → Bool) : (turned w l).filter p = turned w (l.filter p) := by
  unfold turned
  cases w
  · rfl
  · exact List.filter_reverse ..
theorem turned_turned (w v : Bool) (l : List Int) : turned w (turned v l) = turned (v != w) l := by
  unfold turned
  cases w <;> cases v <;> simp
theorem range_mul (a : Nat) : ∀ b : Nat, List.range (a * b) = (List.range b).flatMap fun j => (List.range a).map fun i => j * a + i
  | 0 => rfl
  | b + 1 => by
    rw [Nat.mul_succ, List.range_add, range_mul a b, List.range_succ, List.flatMap_append]
    congr 1
    rw [List.flatMap_cons, List.flatMap_nil, List.append_nil]
    apply List.map_congr_left
    intro i _
    rw [Nat.mul_comm]
theorem turned_flat (w : Bool) (a : Nat) (g : Nat → List Int) : turned w ((List.range a).flatMap g) = (List.range a).flatMap fun i => turned w (g (if w then a - 1 - i else i)) := by
  cases w
  · rfl
  · show ((List.range a).flatMap g).reverse = _
    rw [List.reverse_flatMap]
    have : (List.range a).reverse = (List.range a).map fun i => a - 1 - i := by
      apply List.ext_getElem?
      intro i
      rw [List.getElem?_map]
      by_cases h : i < a
      · rw [List.getElem?_reverse (by rw [List.length_range]; exact h), List.length_range, List.getElem?_range (by omega), List.getElem?_range h]
        rfl
      · rw [List.getElem?_eq_none (by rw [List.length_reverse, List.length_range]; omega), List.getElem?_eq_none (by rw [List.length_range]; omega)]
        rfl
    rw [this, List.flatMap_map]
    rfl
/-- the key of the one run -/
def key2 (f g : Int → Int) (v : Bool) (a : Nat) (c : Int) : Int := g c * a + (if v then a - 1 - f c else f c)
theorem gathK_congr {l : List Int} {f g : Int → Int} {w : Bool} {a : Nat} (h : ∀ c ∈ l, f c = g c) : gathK l f w a = gathK l g w a := by
  unfold gathK
  congr 1
  funext i
  congr 1
  apply List.filter_congr
  intro c hc
  rw [h c hc]
theorem gathK_comp (l : List Int) (f g : Int → Int) (w v : Bool) (a b : Nat) (hf : ∀ c ∈ l, 0 ≤ f c ∧ f c < a) : gathK (gathK l f w a) g v b = gathK l (key2 f g v a) (w != v) (a * b) := by
  unfold gathK
  rw [range_mul, List.flatMap_assoc]
  congr 1
  funext j
  rw [List.filter_flatMap, turned_flat, List.flatMap_map]
  unfold List.flatMap
  congr 1
  apply List.map_congr_left
  intro i hi
  have hi := List.mem_range.mp hi
  show turned v ((turned w (l.filter fun c => decide (f c = ((if v = true then a - 1 - i else i : Nat) : Int)))).filter fun c => decide (g c = (j : Int))) = turned (w != v) (l.filter fun c => decide (key2 f g v a c = ((j * a + i : Nat) : Int)))
  rw [turned_filter, turned_turned, List.filter_filter]
  congr 1
  apply List.filter_congr
  intro c hc
  have := hf c hc
  rw [Bool.eq_iff_iff, Bool.and_eq_true, decide_eq_true_eq, decide_eq_true_eq, decide_eq_true_eq]
  unfold key2
  have hm : ((j * a + i : Nat) : Int) = (j : Int) * a + i := by rw [Int.natCast_add, Int.natCast_mul]
  rw [hm]
  have key : ∀ x : Int, 0 ≤ x → x < a → (g c * a + x = (j : Int) * a + i ↔ g c = j ∧ x = i) := fun x x0 x1 => by
    constructor
    · intro h
      have e : (g c - j) * a = i - x := by rw [Int.sub_mul]; omega
      have : g c - j = 0 := by
        rcases Int.lt_trichotomy (g c - j) 0 with z | z | z
        · have : (g c - j) * a ≤ (-1) * a := Int.mul_le_mul_of_nonneg_right (by omega) (by omega)
          omega
        · exact z
        · have : 1 * (a : Int) ≤ (g c - j) * a := Int.mul_le_mul_of_nonneg_right (by omega) (by omega)
          omega
      rw [this] at e
      omega
    · rintro ⟨h1, h2⟩
      rw [h1, h2]
  cases v
  · rw [if_neg Bool.false_ne_true, if_neg Bool.false_ne_true, key _ this.1 this.2]
  · rw [if_pos rfl, if_pos rfl, key _ (by omega) (by omega)]
    constructor
    · rintro ⟨h1, h2⟩
      exact ⟨h1, by omega⟩
    · rintro ⟨h1, h2⟩
      exact ⟨h1, by omega⟩
theorem idx_of_get {l : List Int} (hn : l.Nodup) {j : Nat} {c : Int} (h : l[j]? = some c) : l.idxOf c = j := by
  obtain ⟨hj, e⟩ := List.getElem?_eq_some_iff.mp h
  have hm : c ∈ l := by rw [← e]; exact List.getElem_mem hj
  have h1 := List.idxOf_lt_length_iff.mpr hm
  have e1 : l[l.idxOf c] = c := List.getElem_idxOf h1
  exact (List.getElem_inj hn).mp (e1.trans e.symm)
theorem get_idx {l : List Int} {c : Int} (h : c ∈ l) : l[l.idxOf c]? = some c := by
  have h1 := List.idxOf_lt_length_iff.mpr h
  rw [List.getElem?_eq_getElem h1]
  exact congrArg some (List.getElem_idxOf h1)
theorem idx_reverse {l : List Int} (hn : l.Nodup) {c : Int} (h : c ∈ l) : l.reverse.idxOf c = l.length - 1 - l.idxOf c := by
  have h1 := List.idxOf_lt_length_iff.mpr h
  refine idx_of_get ((List.reverse_perm l).nodup_iff.mpr hn) ?_
  rw [List.getElem?_reverse (by omega), show l.length - 1 - (l.length - 1 - l.idxOf c) = l.idxOf c by omega]
  exact get_idx h
theorem plL_nodup {l : List Int} (h : Cards l) : (plL l).Nodup := by
  unfold plL
  refine nodup_map (nodup_rI _) fun a ha b hb e => ?_
  exact idx_inj (h.mem.mpr (mem_rI.mp ha)) (h.mem.mpr (mem_rI.mp hb)) (by omega)
theorem plL_reverse {l : List Int} (h : Cards l) : plL l.reverse = (plL l).map fun v => (l.length : Int) - 1 - v := by
  unfold plL
  rw [List.map_map, List.length_reverse]
  apply List.map_congr_left
  intro c hc
  have hm := h.mem.mpr (mem_rI.mp hc)
  have := List.idxOf_lt_length_iff.mpr hm
  show ((l.reverse.idxOf c : Nat) : Int) = (l.length : Int) - 1 - (l.idxOf c : Nat)
  rw [idx_reverse h.nd hm]
  omega
theorem desc_map {xs : List Int} {K : Int} : (desc (xs.map fun v => K - v)).length = ((xs.zip (xs.drop 1)).filter fun p => decide (p.1 < p.2)).length := by
  unfold desc
  rw [← List.map_drop, List.zip_map, List.filter_map, List.length_map]
  congr 1
  apply List.filter_congr
  intro p _
  show decide (K - p.2 < K - p.1) = decide (p.1 < p.2)
  rw [decide_eq_decide]
  omega
theorem zip_ne {xs : List Int} (hn : xs.Nodup) : ∀ p ∈ xs.zip (xs.drop 1), p.1 ≠ p.2 := fun p hp => by
  obtain ⟨j, hj, rfl⟩ := List.getElem_of_mem hp
  have hj' := hj
  rw [List.length_zip, List.length_drop] at hj'
  rw [List.getElem_zip]
  show xs[j]'(by omega) ≠ (xs.drop 1)[j]'(by rw [List.length_drop]; omega)
  rw [List.getElem_drop]
  intro e
  have := (List.getElem_inj hn).mp e
  omega
theorem split_count {ps : List (Int × Int)} (h : ∀ p ∈ ps, p.1 ≠ p.2) : (ps.filter fun p => decide (p.2 < p.1)).length + (ps.filter fun p => decide (p.1 < p.2)).length = ps.length := by
  induction ps with
  | nil => rfl
  | cons p ps ih =>
    have ih := ih fun q hq => h q (List.mem_cons_of_mem _ hq)
    have hp := h p List.mem_cons_self
    rw [List.filter_cons, List.filter_cons, List.length_cons]
    by_cases a : p.2 < p.1
    · rw [if_pos (by simp [a]), if_neg (by simp; omega), List.length_cons]
      omega
    · rw [if_neg (by simp; omega), if_pos (by simp; omega), List.length_cons]
      omega
theorem desc_rev {l : List Int} (h : Cards l) : (desc (plL l.reverse)).length + (desc (plL l)).length = l.length - 1 := by
  rw [plL_reverse h, desc_map]
  unfold desc
  rw [Nat.add_comm, split_count (zip_ne (plL_nodup h)), List.length_zip, List.length_drop, plL_length]
  omega
theorem rising_rev {l : List Int} (h : Cards l) : risingN l.reverse = fallingN l := by
  unfold fallingN risingN
  have := desc_rev h
  have := h.pos
  omega
/-! ### labels -/
def stepB (odd : Bool) (a b : Int) : Bool := match odd with
  | true => decide (a < b)
  | false => decide (b < a)
def labF (p : Nat → Int) (odd : Bool) : Nat → Int
  | 0 => 0
  | c + 1 => labF p odd c + (if stepB odd (p c) (p (c + 1)) = true then 1 else 0)
theorem asc_eq : ∀ {a b : List Int}, a.Pairwise (· < ·) → b.Pairwise (· < ·) → (∀ x, x ∈ a ↔ x ∈ b) → a = b
  | [], [], _, _, _ => rfl
  | [], y :: b, _, _, h => by cases (h y).mpr List.mem_cons_self
  | x :: a, [], _, _, h => by cases (h x).mp List.mem_cons_self
  | x :: a, y :: b, ha, hb, h => by
    obtain ⟨a1, a2⟩ := List.pairwise_cons.mp ha
    obtain ⟨b1, b2⟩ := List.pairwise_cons.mp hb
    have e : x = y := by
      rcases List.mem_cons.mp ((h x).mp List.mem_cons_self) with z | z
      · exact z
      · rcases List.mem_cons.mp ((h y).mpr List.mem_cons_self) with y' | y'
        · exact y'.symm
        · have := b1 x z
          have := a1 y y'
          omega
    subst e
    rw [asc_eq a2 b2 fun z => ?_]
    constructor
    · intro hz
      rcases List.mem_cons.mp ((h z).mp (List.mem_cons_of_mem _ hz)) with e | e
      · subst e
        have := a1 z hz
        omega
      · exact e
    · intro hz
      rcases List.mem_cons.mp ((h z).mpr (List.mem_cons_of_mem _ hz)) with e | e
      · subst e
        have := b1 z hz
        omega
      · exact e
theorem rI_asc (n : Nat) : (rI n).Pairwise (· < ·) := by
  induction n with
  | zero => exact List.Pairwise.nil
  | succ n ih =>
    rw [rI_succ, List.pairwise_append]
    refine ⟨ih, by simp, fun a ha b hb => ?_⟩
    rw [List.mem_singleton] at hb
    have := mem_rI.mp ha
    omega
theorem gathK_perm {l : List Int} {f : Int → Int} {w : Bool} {a : Nat} (h : ∀ c ∈ l, 0 ≤ f c ∧ f c < a) : (gathK l f w a).Perm l := by
  have := gath_perm (xs := l) (w := l.map f) (m := (w, (a : Int))) ⟨by rw [List.length_map], fun i hi => by
    obtain ⟨c, hc, rfl⟩ := List.mem_map.mp hi
    exact h c hc⟩
  rw [gath_key] at this
  exact this
def placeF (l : List Int) (c : Nat) : Int := (l.idxOf (c : Int) : Nat)
def lastL (l : List Int) (odd : Bool) : Int := labF (placeF l) odd (l.length - 1)
theorem sp_in_order (l : List Int) (h : l.length ≤ 1000) (k : D → Ev → Prop) (x : KX) : f_Deck_in_order.go [.d (eK l)] k x = k (.bl (decide (l = rI l.length))) [.un] := by
  unfold f_Deck_in_order d_Deck_in_order
  walk_at "y"
  have h0 : (0 : Int) ≤ (l.length : Int) := by omega
  have h1 : (l.length : Int) ≤ 100000 := by omega
  rw [Int.toNat_natCast, rng_rI]
  try walk_at "y"
  simp only [h0, h1, true_and, okE_ints, deq_ints]
theorem lab_count (p : Nat → Int) (odd : Bool) : ∀ m : Nat, labF p odd m = (((List.range m).filter fun c => stepB odd (p c) (p (c + 1))).length : Nat)
  | 0 => rfl
  | m + 1 => by
    show labF p odd m + (if stepB odd (p m) (p (m + 1)) = true then 1 else 0) = _
    rw [lab_count p odd m, List.range_succ, List.filter_append, List.length_append]
    cases h : stepB odd (p m) (p (m + 1)) <;> simp [h]
theorem plL_range (l : List Int) : plL l = (List.range l.length).map (placeF l) := by
  unfold plL rI
  rw [List.map_map]
  rfl
theorem zip_range (p : Nat → Int) : ∀ n : Nat, ((List.range (n + 1)).map p).zip (((List.range (n + 1)).map p).drop 1) = (List.range n).map fun c => (p c, p (c + 1)) := fun n => by
  apply List.ext_getElem?
  intro j
  rw [List.getElem?_map]
  by_cases h : j < n
  · rw [List.getElem?_range h]
    have e : (((List.range (n + 1)).map p).zip (((List.range (n + 1)).map p).drop 1))[j]? = some (p j, p (j + 1)) := by
      rw [List.getElem?_zip_eq_some]
      exact ⟨by rw [List.getElem?_map, List.getElem?_range (by omega)]; rfl, by rw [List.getElem?_drop, List.getElem?_map, show 1 + j = j + 1 by omega, List.getElem?_range (by omega)]; rfl⟩
    rw [e]
    rfl
  · rw [List.getElem?_eq_none (by rw [List.length_zip, List.length_drop, List.length_map, List.length_range]; omega), List.getElem?_eq_none (by rw [List.length_range]; omega)]
    rfl
theorem lastL_tray {l : List Int} (h : Cards l) : lastL l false + 1 = risingN l := by
  have hp := h.pos
  obtain ⟨n, hn⟩ : ∃ n, l.length = n + 1 := ⟨l.length - 1, by omega⟩
  unfold lastL risingN desc
  rw [plL_range, hn, zip_range, List.filter_map, List.length_map, lab_count, show n + 1 - 1 = n by omega, Int.add_comm]
  rfl
theorem pow_lt2 {b a k : Nat} (h : b < 2 ^ a) : b ^ k ≤ 2 ^ (a * k) := by
  rw [Nat.pow_mul]
  exact Nat.pow_le_pow_left (Nat.le_of_lt h) k
theorem power_loop {m : SV} {b : Int} (hb : b.natAbs < 2 ^ 60) : ∀ (c i : Nat) (s3 : SV), i + c ≤ 1000 →
    ∃ s3', ∀ E x, dLoop (dgName 3) b1_power E x ((List.range c).map fun (j : Nat) => D.int ((i : Int) + (j : Int))) [.d (.int b), m, .d (.int (b ^ i)), s3] = E.nx [.d (.int b), m, .d (.int (b ^ (i + c))), s3']
  | 0, i, s3, _ => ⟨s3, fun _ _ => by simp [dLoop]⟩
  | c + 1, i, s3, h1 => by
    obtain ⟨u, e⟩ := power_loop (m := m) hb c (i + 1) (.d (.int i)) (by omega)
    refine ⟨u, fun E x => ?_⟩
    rw [List.range_succ_eq_map, List.map_cons, List.map_map]
    have es : (fun (j : Nat) => D.int ((i : Int) + (j : Int))) ∘ Nat.succ = fun (j : Nat) => D.int (((i + 1 : Nat) : Int) + (j : Int)) := by
      funext j
      show D.int ((i : Int) + ((j + 1 : Nat) : Int)) = _
      congr 1
      omega
    rw [es, show (i : Int) + ((0 : Nat) : Int) = i by omega, show i + (c + 1) = i + 1 + c by omega, ← e E x]
    have hm : CMulW (b ^ i) b := mulW 60001 60 (by
      rw [Int.natAbs_pow]
      exact Nat.lt_of_le_of_lt (pow_lt2 hb) (Nat.pow_lt_pow_right (by decide) (by omega))) hb (by decide) (by decide) (by decide)
    have hp : b ^ i * b = b ^ (i + 1) := (Int.pow_succ b i).symm
    simp only [dLoop, b1_power]
    walk_at "y"
    simp only [hm, true_and, hp]
theorem sp_power (b m : Int) (h0 : 0 ≤ m) (h1 : m ≤ 1000) (hb : b.natAbs < 2 ^ 60) (k : D → Ev → Prop) (x : KX) : f_power.go [.d (.int b), .d (.int m)] k x = k (.int (b ^ m.toNat)) [.un, .un] := by
  unfold f_power d_power
  walk_at "y"
  obtain ⟨u, e⟩ := power_loop (m := .d (.int m)) (b := b) hb m.toNat 0 .un (by omega)
  rw [Nat.zero_add, Int.pow_zero] at e
  have hb2 : inB m := ⟨by omega, by omega⟩
  rw [show rng 0 m.toNat = (List.range m.toNat).map fun (j : Nat) => D.int (((0 : Nat) : Int) + (j : Int)) from rfl]
  simp only [hb2, true_and]
  rw [e]
  try walk_at "y"
theorem sp_look_machine (m : Ma) (h : Mach m) (k : D → Ev → Prop) (x : KX) : f_look_machine.go [.d (eM m)] k x = k .non [.un] := by
  unfold f_look_machine d_look_machine
  walk_at "y"
  rw [sp_is_machine, show decide (1 ≤ m.2 ∧ m.2 ≤ 300) = true from decide_eq_true h]
  walk_at "y"
/-- plans for a row -/
def Plans : List (List Int) → List Ma → Nat → Prop
  | [], [], _ => True
  | w :: ws, m :: r, n => Word w n m ∧ Plans ws r n
  | _, _, _ => False
theorem Plans.length : ∀ {ws : List (List Int)} {r : List Ma} {n : Nat}, Plans ws r n → ws.length = r.length
  | [], [], _, _ => rfl
  | _ :: ws, _ :: r, _, h => by rw [List.length_cons, List.length_cons, Plans.length h.2]
  | [], _ :: _, _, h => h.elim
  | _ :: _, [], _, h => h.elim
theorem lroom_loop {r : SV} : ∀ (l : List Ma) (a : Int) (s2 s3 : SV), l.length ≤ 9 → (∀ m ∈ l, 1 ≤ m.2 ∧ m.2 ≤ 300) → a.natAbs < 2 ^ (1 + 9 * (9 - l.length)) →
    ∃ s2' s3', ∀ E x, dLoop (dgTup 2 (dgCons (dgName 2) (dgCons (dgName 3) dgNil))) b1__law_room E x (l.map eM) [r, .d (.int a), s2, s3] = E.nx [r, .d (.int (l.foldl (fun a m => a * m.2) a)), s2', s3']
  | [], a, s2, s3, _, _, _ => ⟨s2, s3, fun _ _ => rfl⟩
  | m :: l, a, s2, s3, h1, h2, h3 => by
    have hm := h2 m List.mem_cons_self
    rw [List.length_cons] at h1 h3
    have e1 : m.2.natAbs < 2 ^ 9 := by omega
    have hc : CMulW a m.2 := mulW _ 9 h3 e1 (by omega) (by omega) (by omega)
    have h4 : (a * m.2).natAbs < 2 ^ (1 + 9 * (9 - l.length)) := by
      rw [Int.natAbs_mul, show 1 + 9 * (9 - l.length) = (1 + 9 * (9 - (l.length + 1))) + 9 by omega, Nat.pow_add]
      exact Nat.mul_lt_mul'' h3 e1
    obtain ⟨u, v, e⟩ := lroom_loop (r := r) l (a * m.2) (.d (.str (kind m.1))) (.d (.int m.2)) (by omega) (fun b hb => h2 b (List.mem_cons_of_mem _ hb)) h4
    refine ⟨u, v, fun E x => ?_⟩
    rw [List.foldl_cons, ← e E x]
    simp only [List.map_cons, dLoop, eM, b1__law_room]
    walk_at "y"
    simp only [hc, true_and]
theorem sp_law_room (l : List Ma) (h6 : l.length ≤ 9) (h : ∀ m ∈ l, 1 ≤ m.2 ∧ m.2 ≤ 300) (k : D → Ev → Prop) (x : KX) : f__law_room.go [.d (.lst (l.map eM))] k x = k (.int (roomN l)) [.un] := by
  unfold f__law_room d__law_room
  walk_at "y"
  obtain ⟨u, v, e⟩ := lroom_loop (r := SV.d (D.lst (List.map eM l))) l 1 .un .un h6 h (Nat.lt_of_lt_of_le (by decide : (1 : Int).natAbs < 2 ^ 1) (Nat.pow_le_pow_right (by decide) (by omega)))
  rw [e]
  rfl
theorem sp_law_odd (l : List Ma) (h : l.length ≤ 100) (k : D → Ev → Prop) (x : KX) : f__law_odd.go [.d (.lst (l.map eM))] k x = k (.bl (oddN l)) [.un] := by
  unfold f__law_odd d__law_odd
  walk_at "y"
  rw [comp_map (ρa := fun m => [.d (.lst (l.map eM)), .d (.str (kind m.1)), .d (.int m.2)]) (f := fun m => D.str (kind m.1)) (fun _ _ _ => by unfold eM; walk_at "y") (fun m hm K => by walk_at "y") (fun _ _ => rfl)]
  walk_at "y"
  have e : decide ((((List.countP (fun z => eqF z (D.str "well")) (l.map fun m => D.str (kind m.1))) : Nat) : Int) % 2 = 1) = oddN l := by
    unfold oddN
    rw [List.countP_map, List.countP_eq_length_filter, decide_eq_decide]
    have : ((fun z => eqF z (D.str "well")) ∘ fun (m : Ma) => D.str (kind m.1)) = fun m => m.1 := by
      funext m
      exact deq_well m.1
    rw [this]
    omega
  have e2 : (l.map fun m => D.str (kind m.1)).all flatD = true := by simp [flatD]
  rw [e, e2]
  simp [show l.length ≤ 100000 by omega]
theorem sp_law_whole (a : Int) (k : D → Ev → Prop) (x : KX) : f__law_whole.go [.d (.int a)] k x = k (.bl true) [.un] := by
  unfold f__law_whole d__law_whole
  walk_at "y"
theorem sp_pick {ss : List Int} {g n : Nat} {ds : List D} {k : D → Ev → Prop} {x : KX} (h1 : ss.length = n) (h2 : n ≤ 63) (h0 : ds ≠ []) (hl : ds.length ≤ 1000) (hg : 1 ≤ g) (h : ∀ (i : Nat) z, ds[i]? = some z → k z [.un, .town (g - 1) n, .un]) :
    f__law_pick.go [.d (.scr ss), .town g n, .d (.lst ds)] k x := by
  unfold f__law_pick d__law_pick
  walk_at "y"
  have hd : 0 < ds.length := List.length_pos_iff.mpr h0
  refine draw_ok h1 h2 (by omega) (by omega) hg fun r r0 r1 => ?_
  walk_at "y"
  have hi : r.toNat < ds.length := by omega
  refine ⟨ds[r.toNat], ?_, h r.toNat _ (List.getElem?_eq_getElem hi)⟩
  have := atI_nat (List.getElem?_eq_getElem hi)
  rwa [show ((r.toNat : Nat) : Int) = r by omega] at this
/-- one of some numbers -/
theorem sp_pickN {ss : List Int} {g n : Nat} {ms : List Int} {k : D → Ev → Prop} {x : KX} (h1 : ss.length = n) (h2 : n ≤ 63) (h0 : ms ≠ []) (hl : ms.length ≤ 1000) (hg : 1 ≤ g) (h : ∀ m ∈ ms, k (.int m) [.un, .town (g - 1) n, .un]) :
    f__law_pick.go [.d (.scr ss), .town g n, .d (.lst (ms.map .int))] k x :=
  sp_pick h1 h2 (fun e => h0 (List.map_eq_nil_iff.mp e)) (by rw [List.length_map]; exact hl) hg fun i z hz => by
    rw [List.getElem?_map] at hz
    obtain ⟨m, hm, rfl⟩ := Option.map_eq_some_iff.mp hz
    exact h m (List.mem_of_getElem? hm)
theorem sp_law_machine {ss : List Int} {g n : Nat} {m : Int} {k : D → Ev → Prop} {x : KX} (h1 : ss.length = n) (h2 : n ≤ 63) (hm : 0 < m) (hm2 : m ≤ 1000) (hg : 2 ≤ g) (h : ∀ a : Ma, 1 ≤ a.2 → a.2 ≤ m → k (eM a) [.un, .town (g - 2) n, .un]) :
    f__law_machine.go [.d (.scr ss), .town g n, .d (.int m)] k x := by
  unfold f__law_machine d__law_machine
  walk_at "y"
  refine sp_pick h1 h2 (by simp) (by simp) (by omega) fun i z hz => ?_
  obtain ⟨w, rfl⟩ : ∃ w, z = .str (kind w) := by
    match i, hz with
    | 0, hz => exact ⟨false, (Option.some.inj hz).symm⟩
    | 1, hz => exact ⟨false, (Option.some.inj hz).symm⟩
    | 2, hz => exact ⟨true, (Option.some.inj hz).symm⟩
  walk_at "y"
  refine draw_ok h1 h2 hm (by omega) (by omega) fun r r0 r1 => ?_
  walk_at "y"
  exact h (w, 1 + r) (by show 1 ≤ 1 + r; omega) (by show 1 + r ≤ m; omega)
def firstN (p : Nat → Bool) : List Nat → Option Nat
  | [] => none
  | n :: l => if p n then some n else firstN p l
theorem firstN_some {p : Nat → Bool} : ∀ {l : List Nat} {n : Nat}, firstN p l = some n → n ∈ l ∧ p n = true
  | [], n, h => by cases h
  | m :: l, n, h => by
    unfold firstN at h
    cases e : p m
    · rw [e] at h
      have := firstN_some (l := l) h
      exact ⟨List.mem_cons_of_mem _ this.1, this.2⟩
    · rw [e] at h
      cases h
      exact ⟨List.mem_cons_self, e⟩
def optD : Option Nat → D
  | none => .non
  | some n => .int n
def needF (r f : Int) (w : Bool) (n : Nat) : Int := if w && decide (n % 2 = 1) then f else r
def fewP (r f : Int) (m : Ma) (n : Nat) : Bool := decide (needF r f m.1 n ≤ m.2 ^ n)
def fewF (b : Bool) (r f : Int) (m : Ma) : Option Nat := if b then some 0 else firstN (fewP r f m) [1, 2, 3, 4, 5, 6, 7]
theorem ff_loop {v0 : SV} {r f : Int} {m : Ma} (hm : Mach m) : ∀ (ns : List Nat) (s4 s5 : SV), (∀ n ∈ ns, n ≤ 1000) →
    ∃ s4' s5', ∀ E x, dLoop (dgName 4) b1_fewest_for E x (ns.map fun (n : Nat) => D.int n) [v0, .d (.int r), .d (.int f), .d (eM m), s4, s5] =
      (match firstN (fewP r f m) ns with | some n => E.rt (.int n) [v0, .d (.int r), .d (.int f), .d (eM m), s4', s5'] | none => E.nx [v0, .d (.int r), .d (.int f), .d (eM m), s4', s5'])
  | [], s4, s5, _ => ⟨s4, s5, fun _ _ => by simp [dLoop, firstN]⟩
  | n :: ns, s4, s5, h => by
    have hn := h n List.mem_cons_self
    obtain ⟨hm1, hm2⟩ := hm
    have hb : m.2.natAbs < 2 ^ 60 := by omega
    have step : ∀ (E : DEnds) (x : KX) , dLoop (dgName 4) b1_fewest_for E x ((n :: ns).map fun (n : Nat) => D.int n) [v0, .d (.int r), .d (.int f), .d (eM m), s4, s5] =
        if needF r f m.1 n ≤ m.2 ^ n then E.rt (.int n) [v0, .d (.int r), .d (.int f), .d (eM m), .d (.int n), .d (.int (needF r f m.1 n))]
        else dLoop (dgName 4) b1_fewest_for E x (ns.map fun (n : Nat) => D.int n) [v0, .d (.int r), .d (.int f), .d (eM m), .d (.int n), .d (.int (needF r f m.1 n))] := fun E x => by
      simp only [List.map_cons, dLoop, b1_fewest_for]
      unfold needF
      cases hw : m.1 <;> (by_cases hodd : n % 2 = 1) <;> (
        first | (have hi : (n : Int) % 2 = 1 := by omega) | (have hi : ¬ (n : Int) % 2 = 1 := by omega)
        try walk_at "y"
        try simp only [hw, hi, if_true, if_false, Bool.false_eq_true]
        rw [sp_power m.2 n (by omega) (by omega) hb]
        try walk_at "y"
        simp [hw, hi, hodd])
    obtain ⟨u, v, e⟩ := ff_loop (v0 := v0) (r := r) (f := f) ⟨hm1, hm2⟩ ns (.d (.int n)) (.d (.int (needF r f m.1 n))) (fun a ha => h a (List.mem_cons_of_mem _ ha))
    by_cases hp : needF r f m.1 n ≤ m.2 ^ n
    · refine ⟨.d (.int n), .d (.int (needF r f m.1 n)), fun E x => ?_⟩
      have e2 : firstN (fewP r f m) (n :: ns) = some n := by
        show (if fewP r f m n then _ else _) = _
        rw [show fewP r f m n = true from decide_eq_true hp]; rfl
      rw [step, if_pos hp, e2]
    · refine ⟨u, v, fun E x => ?_⟩
      have e2 : firstN (fewP r f m) (n :: ns) = firstN (fewP r f m) ns := by
        show (if fewP r f m n then _ else _) = _
        rw [show fewP r f m n = false from decide_eq_false hp]; rfl
      rw [step, if_neg hp, e2, e]
theorem sp_fewest_for (b : Bool) (r f : Int) (m : Ma) (hm : Mach m) (k : D → Ev → Prop) (x : KX) : f_fewest_for.go [.d (.bl b), .d (.int r), .d (.int f), .d (eM m)] k x = k (optD (fewF b r f m)) [.un, .un, .un, .un] := by
  unfold f_fewest_for d_fewest_for
  cases b
  · walk_at "y"
    obtain ⟨u, v, e⟩ := ff_loop (v0 := .d (.bl false)) (r := r) (f := f) hm [1, 2, 3, 4, 5, 6, 7] .un .un (by simp)
    rw [show rng 1 (8 - 1 : Int).toNat = ([1, 2, 3, 4, 5, 6, 7] : List Nat).map fun (n : Nat) => D.int n from rfl, e]
    unfold fewF
    simp only [show inB 1 = True from eq_true ⟨by decide, by decide⟩, show inB 8 = True from eq_true ⟨by decide, by decide⟩, true_and]
    cases firstN (fewP r f m) [1, 2, 3, 4, 5, 6, 7] <;> rfl
  · walk_at "y"
    rfl
theorem rep_Ms (m : Ma) : ∀ c : Nat, (List.replicate c [eM m]).flatten = (List.replicate c m).map eM
  | 0 => rfl
  | c + 1 => by rw [List.replicate_succ, List.replicate_succ, List.flatten_cons, rep_Ms m c]; rfl
theorem rep_room (m : Ma) : ∀ n : Nat, roomN (List.replicate n m) = m.2 ^ n
  | 0 => by rw [Int.pow_zero]; rfl
  | n + 1 => by rw [List.replicate_succ, roomN_cons, rep_room m n, Int.pow_succ, Int.mul_comm]
theorem rep_odd (m : Ma) (n : Nat) : oddN (List.replicate n m) = (m.1 && decide (n % 2 = 1)) := by
  unfold oddN
  rw [List.filter_replicate]
  cases m.1 <;> simp
theorem rep_ok {m : Ma} (hm : Mach m) {n : Nat} : ∀ a ∈ List.replicate n m, 1 ≤ a.2 ∧ a.2 ≤ 300 := fun a ha => by
  rw [(List.mem_replicate.mp ha).2]
  exact hm
/-- how many runs are told: the first that fits, none of those before it does -/
def fewL (l : List Int) (m : Ma) : Option Nat := fewF (decide (l = rI l.length)) (risingN l) (fallingN l) m
theorem sp_fewest (l : List Int) (m : Ma) (hl : Cards l) (hm : Mach m) (k : D → Ev → Prop) (x : KX) : f_fewest.go [.d (eK l), .d (.str (kind m.1)), .d (.int m.2)] k x = k (optD (fewL l m)) [.un, .un, .un] := by
  unfold f_fewest d_fewest
  have hf := hl.few
  walk_at "y"
  rw [show D.tup [D.str (kind m.1), D.int m.2] = eM m from rfl]
  rw [sp_look_machine m hm]
  try walk_at "y"
  rw [sp_in_order l (by omega)]
  try walk_at "y"
  rw [sp_Deck_rising l hl]
  try walk_at "y"
  rw [sp_Deck_falling l hl]
  try walk_at "y"
  rw [sp_fewest_for _ _ _ m hm]
  rfl
theorem deq_optD (a : Option Nat) : deq (optD a) (optD a) = true := by
  cases a
  · rfl
  · unfold optD
    rw [deq_int]
    simp
theorem okE_optD (a : Option Nat) : okE (optD a) = True := by
  cases a
  · exact okE_non
  · exact okE_int _
theorem optD_none : optD none = .non := rfl
theorem optD_some (n : Nat) : optD (some n) = .int n := rfl
/-! ### keys: one deal, from the lowest key on -/
theorem foldmax_ge : ∀ (r : List Int) (a : Int), a ≤ r.foldl max a ∧ ∀ y ∈ r, y ≤ r.foldl max a
  | [], a => ⟨Int.le_refl _, fun _ h => nomatch h⟩
  | b :: r, a => by
    obtain ⟨h1, h2⟩ := foldmax_ge r (max a b)
    show a ≤ r.foldl max (max a b) ∧ ∀ y ∈ b :: r, y ≤ r.foldl max (max a b)
    refine ⟨by omega, fun y hy => ?_⟩
    rcases List.mem_cons.mp hy with e | hy
    · omega
    · exact h2 y hy
theorem foldmax_mem : ∀ (r : List Int) (a : Int), r.foldl max a ∈ a :: r
  | [], a => List.mem_singleton.mpr rfl
  | b :: r, a => by
    have h := foldmax_mem r (max a b)
    show r.foldl max (max a b) ∈ a :: b :: r
    rcases List.mem_cons.mp h with e | h
    · rw [e]
      rcases Int.le_total a b with z | z
      · rw [Int.max_eq_right z]; simp
      · rw [Int.max_eq_left z]; simp
    · simp [h]
theorem maxOr_mem {ns : List Int} (h : ns ≠ []) (j : Int) : maxOr ns j ∈ ns := by
  cases ns with
  | nil => exact absurd rfl h
  | cons a r => exact foldmax_mem r a
theorem maxOr_ge {ns : List Int} (j : Int) {y : Int} (h : y ∈ ns) : y ≤ maxOr ns j := by
  cases ns with
  | nil => cases h
  | cons a r =>
    rcases List.mem_cons.mp h with e | h
    · rw [e]; exact (foldmax_ge r a).1
    · exact (foldmax_ge r a).2 y h
theorem maxOr_eq {ns : List Int} {m : Int} (h : m ∈ ns) (hm : ∀ y ∈ ns, y ≤ m) (j : Int) : m = maxOr ns j := by
  have h1 := hm _ (maxOr_mem (List.ne_nil_of_mem h) j)
  have h2 := maxOr_ge j h
  omega
abbrev atZ (l : List Int) (p : Int) : Int := l.getD p.toNat 0
def plK (ks : List Int) (k : Int) : List Int := (rI ks.length).filter fun p => decide (atZ ks p = k)
def erK (ks : List Int) (L k : Int) : List Int := (plK ks k).filter fun p => decide (p < L)
def putAll (f : Int → Int) : List Int → List Int → List Int
  | [], w => w
  | p :: ps, w => putAll f ps (w.set p.toNat (f p))
theorem putAll_length (f : Int → Int) : ∀ (ps w : List Int), (putAll f ps w).length = w.length
  | [], _ => rfl
  | p :: ps, w => by
    show (putAll f ps _).length = _
    rw [putAll_length f ps, List.length_set]
theorem putAll_out {f : Int → Int} {q : Int} (hq : 0 ≤ q) : ∀ (ps w : List Int), (∀ p ∈ ps, 0 ≤ p) → q ∉ ps → atZ (putAll f ps w) q = atZ w q
  | [], _, _, _ => rfl
  | p :: ps, w, h, hn => by
    have hp := h p List.mem_cons_self
    have ne : p.toNat ≠ q.toNat := fun e => hn (by rw [show q = p by omega]; exact List.mem_cons_self)
    show atZ (putAll f ps (w.set p.toNat (f p))) q = _
    rw [putAll_out hq ps _ (fun a ha => h a (List.mem_cons_of_mem _ ha)) fun z => hn (List.mem_cons_of_mem _ z)]
    unfold atZ
    rw [List.getD_eq_getElem?_getD, List.getElem?_set_ne ne, ← List.getD_eq_getElem?_getD]
theorem putAll_in {f : Int → Int} {q : Int} : ∀ (ps w : List Int), (∀ p ∈ ps, 0 ≤ p ∧ p < w.length) → q ∈ ps → ps.Nodup → atZ (putAll f ps w) q = f q
  | [], _, _, h, _ => by cases h
  | p :: ps, w, h, hq, nd => by
    obtain ⟨n1, n2⟩ := List.nodup_cons.mp nd
    have hp := h p List.mem_cons_self
    show atZ (putAll f ps (w.set p.toNat (f p))) q = _
    by_cases e : q ∈ ps
    · exact putAll_in ps _ (fun a ha => by rw [List.length_set]; exact h a (List.mem_cons_of_mem _ ha)) e n2
    · have e2 : q = p := by
        rcases List.mem_cons.mp hq with z | z
        · exact z
        · exact absurd z e
      subst e2
      rw [putAll_out hp.1 ps _ (fun a ha => (h a (List.mem_cons_of_mem _ ha)).1) e]
      unfold atZ
      rw [List.getD_eq_getElem?_getD, List.getElem?_set_self (by omega)]
      rfl
theorem mem_plK {ks : List Int} {k p : Int} : p ∈ plK ks k ↔ (0 ≤ p ∧ p < ks.length) ∧ atZ ks p = k := by
  unfold plK
  rw [List.mem_filter, mem_rI, decide_eq_true_eq]
theorem mem_erK {ks : List Int} {L k p : Int} : p ∈ erK ks L k ↔ ((0 ≤ p ∧ p < ks.length) ∧ atZ ks p = k) ∧ p < L := by
  unfold erK
  rw [List.mem_filter, mem_plK, decide_eq_true_eq]
theorem nodup_plK (ks : List Int) (k : Int) : (plK ks k).Nodup := (nodup_rI _).filter _
def newP (ks : List Int) (P L k : Int) : Int := if erK ks L k = [] then P else P + 1
def newL (ks : List Int) (L k : Int) : Int := maxOr (erK ks L k) (maxOr (plK ks k) 0)
def newW (ks w : List Int) (P L k : Int) : List Int := putAll (fun p => P + (if p < L then 1 else 0)) (plK ks k) w
def runK (ks : List Int) : List Int → Int → Int → List Int → Int × Int × List Int
  | [], P, L, w => (P, L, w)
  | k :: ds, P, L, w => runK ks ds (newP ks P L k) (newL ks L k) (newW ks w P L k)
/-- by f no key lies below a greater one -/
def ValidF (ks : List Int) (f : Int → Int) : Prop := ∀ a b : Int, 0 ≤ a → a < ks.length → 0 ≤ b → b < ks.length → atZ ks a < atZ ks b → f a < f b ∨ f a = f b ∧ a < b
structure InvK (ks : List Int) (dn : List Int) (P L : Int) (w : List Int) : Prop where
  len : w.length = ks.length
  nn : 0 ≤ P
  lo : ∀ p : Int, 0 ≤ p → p < ks.length → atZ ks p ∈ dn → 0 ≤ atZ w p ∧ (atZ w p < P ∨ atZ w p = P ∧ p ≤ L)
  ord : ∀ a b : Int, 0 ≤ a → a < ks.length → 0 ≤ b → b < ks.length → atZ ks a ∈ dn → atZ ks b ∈ dn → atZ ks a < atZ ks b → atZ w a < atZ w b ∨ atZ w a = atZ w b ∧ a < b
  top : dn ≠ [] → (0 ≤ L ∧ L < ks.length) ∧ atZ ks L ∈ dn ∧ atZ w L = P
  bot : dn = [] → P = 0 ∧ L = -1
  low : ∀ f : Int → Int, ValidF ks f → (∀ p : Int, 0 ≤ p → p < ks.length → 0 ≤ f p) → dn ≠ [] → ∃ q : Int, (0 ≤ q ∧ q < ks.length) ∧ atZ ks q ∈ dn ∧ (P < f q ∨ P = f q ∧ L ≤ q)
theorem InvK.step {ks dn w : List Int} {P L k : Int} (I : InvK ks dn P L w) (hk : k ∈ ks) (hd : ∀ z ∈ dn, z < k) : InvK ks (dn ++ [k]) (newP ks P L k) (newL ks L k) (newW ks w P L k) := by
  have hpl : plK ks k ≠ [] := by
    obtain ⟨i, hi, e⟩ := List.getElem_of_mem hk
    refine List.ne_nil_of_mem (a := (i : Int)) (mem_plK.mpr ⟨⟨by omega, by omega⟩, ?_⟩)
    unfold atZ
    rw [Int.toNat_natCast, List.getD_eq_getElem?_getD, List.getElem?_eq_getElem hi, e]
    rfl
  have hin : ∀ p, p ∈ plK ks k → atZ (newW ks w P L k) p = P + (if p < L then 1 else 0) := fun p hp =>
    putAll_in (plK ks k) w (fun a ha => by rw [I.len]; exact (mem_plK.mp ha).1) hp (nodup_plK ks k)
  have hout : ∀ p, 0 ≤ p → p ∉ plK ks k → atZ (newW ks w P L k) p = atZ w p := fun p h0 hp =>
    putAll_out h0 (plK ks k) w (fun a ha => (mem_plK.mp ha).1.1) hp
  have hold : ∀ p, 0 ≤ p → atZ ks p ∈ dn → atZ (newW ks w P L k) p = atZ w p := fun p h0 hp => hout p h0 fun z => by
    have := hd _ hp
    have := (mem_plK.mp z).2
    omega
  have hL : ∀ p, p ∈ plK ks k → p ≠ L := fun p hp e => by
    by_cases hn : dn = []
    · have := (I.bot hn).2
      have := (mem_plK.mp hp).1
      omega
    · have := hd _ (I.top hn).2.1
      have := (mem_plK.mp hp).2
      rw [e] at this
      omega
  have split : ∀ p : Int, 0 ≤ p → p < ks.length → atZ ks p ∈ dn ++ [k] → atZ ks p ∈ dn ∨ p ∈ plK ks k := fun p h0 h1 h => by
    rcases List.mem_append.mp h with z | z
    · exact .inl z
    · exact .inr (mem_plK.mpr ⟨⟨h0, h1⟩, List.mem_singleton.mp z⟩)
  have oldlo : ∀ p : Int, 0 ≤ p → p < ks.length → atZ ks p ∈ dn → atZ w p < P ∨ atZ w p = P ∧ p ≤ L := fun p h0 h1 h => (I.lo p h0 h1 h).2
  have key : (newP ks P L k = P + 1 ∧ (newL ks L k ∈ plK ks k ∧ newL ks L k < L) ∧ ∀ p ∈ plK ks k, p < L → p ≤ newL ks L k) ∨ (newP ks P L k = P ∧ newL ks L k ∈ plK ks k ∧ (∀ p ∈ plK ks k, ¬ p < L) ∧ ∀ p ∈ plK ks k, p ≤ newL ks L k) := by
    by_cases he : erK ks L k = []
    · right
      have e1 : newP ks P L k = P := if_pos he
      have e2 : newL ks L k = maxOr (plK ks k) 0 := by unfold newL; rw [he]; rfl
      rw [e1, e2]
      refine ⟨rfl, maxOr_mem hpl 0, fun p hp hl => ?_, fun p hp => maxOr_ge 0 hp⟩
      have : p ∈ erK ks L k := mem_erK.mpr ⟨mem_plK.mp hp, hl⟩
      rw [he] at this
      cases this
    · left
      have e1 : newP ks P L k = P + 1 := if_neg he
      have hm : newL ks L k ∈ erK ks L k := maxOr_mem he _
      have hm2 := mem_erK.mp hm
      exact ⟨e1, ⟨mem_plK.mpr hm2.1, hm2.2⟩, fun p hp hl => maxOr_ge _ (mem_erK.mpr ⟨mem_plK.mp hp, hl⟩)⟩
  generalize hP' : newP ks P L k = P' at *
  generalize hL' : newL ks L k = L' at *
  have hL'pl : L' ∈ plK ks k := by
    rcases key with ⟨_, h, _⟩ | ⟨_, h, _⟩
    · exact h.1
    · exact h
  have hL'2 := mem_plK.mp hL'pl
  refine ⟨?_, ?_, ?_, ?_, ?_, ?_, ?_⟩
  · unfold newW; rw [putAll_length, I.len]
  · have := I.nn
    rcases key with ⟨e, _⟩ | ⟨e, _⟩ <;> omega
  · intro p h0 h1 h
    have hnn := I.nn
    rcases split p h0 h1 h with z | z
    · rw [hold p h0 z]
      refine ⟨(I.lo p h0 h1 z).1, ?_⟩
      have := oldlo p h0 h1 z
      rcases key with ⟨e, _⟩ | ⟨e, h2, h3, _⟩
      · left; omega
      · have := h3 _ h2
        have := hL _ h2
        omega
    · rw [hin p z]
      have := hL p z
      rcases key with ⟨e, h2, h3⟩ | ⟨e, h2, h3, h4⟩
      · by_cases hl : p < L
        · have := h3 p z hl
          rw [if_pos hl]; omega
        · rw [if_neg hl]; omega
      · have h5 := h3 p z
        have := h4 p z
        rw [if_neg h5]; omega
  · intro a b a0 a1 b0 b1 ha hb hab
    rcases split a a0 a1 ha with za | za
    · rcases split b b0 b1 hb with zb | zb
      · rw [hold a a0 za, hold b b0 zb]
        exact I.ord a b a0 a1 b0 b1 za zb hab
      · rw [hold a a0 za, hin b zb]
        have := oldlo a a0 a1 za
        have := hL b zb
        by_cases hl : b < L
        · rw [if_pos hl]; omega
        · rw [if_neg hl]; omega
    · have ea := (mem_plK.mp za).2
      rcases split b b0 b1 hb with zb | zb
      · have := hd _ zb
        omega
      · have := (mem_plK.mp zb).2
        omega
  · intro _
    refine ⟨hL'2.1, List.mem_append_right _ (by rw [hL'2.2]; exact List.mem_singleton.mpr rfl), ?_⟩
    rw [hin _ hL'pl]
    rcases key with ⟨e, h2, h3⟩ | ⟨e, h2, h3, h4⟩
    · rw [if_pos h2.2]; omega
    · rw [if_neg (h3 _ h2)]; omega
  · intro h
    simp at h
  · intro f hf h0 _
    refine ⟨L', hL'2.1, List.mem_append_right _ (by rw [hL'2.2]; exact List.mem_singleton.mpr rfl), ?_⟩
    by_cases hn : dn = []
    · obtain ⟨e1, e2⟩ := I.bot hn
      have := h0 L' hL'2.1.1 hL'2.1.2
      rcases key with ⟨e, h2, h3⟩ | ⟨e, h2, h3, h4⟩
      · omega
      · omega
    · obtain ⟨q, hq, hqd, hq2⟩ := I.low f hf h0 hn
      have hv := hf q L' hq.1 hq.2 hL'2.1.1 hL'2.1.2 (by rw [hL'2.2]; exact hd _ hqd)
      rcases key with ⟨e, h2, h3⟩ | ⟨e, h2, h3, h4⟩
      · omega
      · omega
theorem runK_inv {ks : List Int} : ∀ (ds dn : List Int) (P L : Int) (w : List Int), InvK ks dn P L w → (∀ z ∈ dn, ∀ y ∈ ds, z < y) → ds.Pairwise (· < ·) → (∀ k ∈ ds, k ∈ ks) →
    InvK ks (dn ++ ds) (runK ks ds P L w).1 (runK ks ds P L w).2.1 (runK ks ds P L w).2.2
  | [], dn, P, L, w, I, _, _, _ => by rw [List.append_nil]; exact I
  | k :: ds, dn, P, L, w, I, h1, h2, h3 => by
    obtain ⟨p1, p2⟩ := List.pairwise_cons.mp h2
    have I' := I.step (h3 k List.mem_cons_self) fun z hz => h1 z hz k List.mem_cons_self
    have := runK_inv ds (dn ++ [k]) _ _ _ I' (fun z hz y hy => by
      rcases List.mem_append.mp hz with z1 | z1
      · exact h1 z z1 y (List.mem_cons_of_mem _ hy)
      · rw [List.mem_singleton] at z1
        subst z1
        exact p1 y hy) p2 fun z hz => h3 z (List.mem_cons_of_mem _ hz)
    rw [List.append_assoc] at this
    exact this
theorem invK_start (ks : List Int) : InvK ks [] 0 (-1) (List.replicate ks.length 0) :=
  ⟨List.length_replicate, Int.le_refl _, (fun _ _ _ h => (by cases h)), (fun _ _ _ _ _ _ h => (by cases h)), fun h => absurd rfl h, fun _ => ⟨rfl, rfl⟩, fun _ _ _ h => absurd rfl h⟩
theorem pw_lt {α : Type} {L : List α} {p : α → Nat} {R : α → α → Prop} (hp : L.Pairwise fun a b => p a < p b) (h : L.Pairwise R) {x y : α} (hx : x ∈ L) (hy : y ∈ L) (hlt : p x < p y) : R x y := by
  obtain ⟨i, hi, rfl⟩ := List.getElem_of_mem hx
  obtain ⟨j, hj, rfl⟩ := List.getElem_of_mem hy
  rcases Nat.lt_trichotomy i j with z | z | z
  · exact List.pairwise_iff_getElem.mp h i j hi hj z
  · subst z; omega
  · have := List.pairwise_iff_getElem.mp hp j i hj hi z
    omega
/-- places, gathered by a tray -/
def gatP (n : Nat) (f : Int → Int) (R : Nat) : List Int := (List.range R).flatMap fun (i : Nat) => (rI n).filter fun p => decide (f p = (i : Int))
theorem zip_rI (ks w : List Int) (h : w.length = ks.length) : ks.zip w = (rI ks.length).map fun p => (atZ ks p, atZ w p) := by
  apply List.ext_getElem?
  intro i
  rw [List.getElem?_map]
  by_cases hi : i < ks.length
  · rw [rI_get hi, Option.map_some, List.getElem?_eq_getElem (by rw [List.length_zip]; omega), List.getElem_zip]
    unfold atZ
    rw [Int.toNat_natCast, List.getD_eq_getElem?_getD, List.getElem?_eq_getElem hi, List.getD_eq_getElem?_getD, List.getElem?_eq_getElem (by omega)]
    rfl
  · rw [List.getElem?_eq_none (by rw [List.length_zip]; omega), List.getElem?_eq_none (by rw [rI_length]; omega)]
    rfl
theorem gath_P (ks w : List Int) (h : w.length = ks.length) (R : Int) : gath ks w (false, R) = (gatP ks.length (atZ w) R.toNat).map (atZ ks) := by
  unfold gath gatP sel
  rw [zip_rI ks w h, List.map_flatMap]
  congr 1
  funext i
  show ((List.filter _ _).map _) = _
  rw [List.filter_map, List.map_map]
  rfl
theorem gatP_iff {ks : List Int} {f : Int → Int} {R : Nat} (hb : ∀ p : Int, 0 ≤ p → p < ks.length → 0 ≤ f p ∧ f p < R) : ((gatP ks.length f R).map (atZ ks)).Pairwise (· ≤ ·) ↔ ValidF ks f := by
  rw [List.pairwise_map]
  unfold gatP
  rw [List.pairwise_flatMap]
  have inb : ∀ x : Int, 0 ≤ x → x < ks.length → x ∈ (rI ks.length).filter fun p => decide (f p = ((f x).toNat : Int)) := fun x h0 h1 => by
    have := hb x h0 h1
    exact List.mem_filter.mpr ⟨mem_rI.mpr ⟨h0, h1⟩, decide_eq_true (by omega)⟩
  constructor
  · intro ⟨p1, p2⟩ a b a0 a1 b0 b1 hab
    have ha := hb a a0 a1
    have hb' := hb b b0 b1
    rcases Int.lt_trichotomy (f a) (f b) with z | z | z
    · exact .inl z
    · right
      refine ⟨z, ?_⟩
      rcases Int.lt_trichotomy a b with y | y | y
      · exact y
      · subst y; omega
      · have ma := inb a a0 a1
        have mb := inb b b0 b1
        rw [← z] at mb
        have hq := p1 (f a).toNat (List.mem_range.mpr (by omega))
        have asc := ((rI_asc ks.length).filter fun p => decide (f p = ((f a).toNat : Int)))
        have := pw_lt (p := Int.toNat) (asc.imp_of_mem fun {x y} hx hy hxy => by
          have := mem_rI.mp (List.mem_filter.mp hx).1
          omega) hq mb ma (by omega)
        omega
    · have ma := inb a a0 a1
      have mb := inb b b0 b1
      have := pw_lt (p := id) List.pairwise_lt_range p2 (x := (f b).toNat) (y := (f a).toNat) (List.mem_range.mpr (by omega)) (List.mem_range.mpr (by omega)) (show (f b).toNat < (f a).toNat by omega) b mb a ma
      omega
  · intro hv
    have out : ∀ (i : Nat) (x : Int), x ∈ (rI ks.length).filter (fun p => decide (f p = (i : Int))) → (0 ≤ x ∧ x < ks.length) ∧ f x = i := fun i x hx => by
      obtain ⟨h1, h2⟩ := List.mem_filter.mp hx
      exact ⟨mem_rI.mp h1, of_decide_eq_true h2⟩
    refine ⟨fun i _ => ?_, List.pairwise_lt_range.imp fun {i j} hij x hx y hy => ?_⟩
    · refine ((rI_asc ks.length).filter _).imp_of_mem fun {x y} hx hy hxy => ?_
      obtain ⟨x1, x2⟩ := out i x hx
      obtain ⟨y1, y2⟩ := out i y hy
      rcases Int.lt_or_le (atZ ks y) (atZ ks x) with z | z
      · have := hv y x y1.1 y1.2 x1.1 x1.2 z
        omega
      · exact z
    · obtain ⟨x1, x2⟩ := out i x hx
      obtain ⟨y1, y2⟩ := out j y hy
      rcases Int.lt_or_le (atZ ks y) (atZ ks x) with z | z
      · have := hv y x y1.1 y1.2 x1.1 x1.2 z
        omega
      · exact z
theorem sort_one {a b : List Int} (h : a.Perm b) (ha : a.Pairwise (· ≤ ·)) (hb : b.Pairwise (· ≤ ·)) : a = b := by
  refine List.Perm.eq_of_pairwise (le := (· ≤ ·)) (fun x y _ _ h1 h2 => ?_) ha hb h
  omega
/-- one deal by a word lets no key lie below a greater one -/
theorem gath_valid {ks w : List Int} {R : Int} (h : Word w ks.length (false, R)) {s : List Int} (hs : s.Perm ks) (hp : s.Pairwise (· ≤ ·)) : gath ks w (false, R) = s ↔ ValidF ks (atZ w) := by
  have hb : ∀ p : Int, 0 ≤ p → p < ks.length → 0 ≤ atZ w p ∧ atZ w p < R.toNat := fun p p0 p1 => by
    have hl := h.1
    unfold atZ
    rw [List.getD_eq_getElem?_getD, List.getElem?_eq_getElem (by omega)]
    have := h.2 _ (List.getElem_mem (show p.toNat < w.length by omega))
    show 0 ≤ w[p.toNat] ∧ w[p.toNat] < (R.toNat : Int)
    have h2 : w[p.toNat] < R := this.2
    exact ⟨this.1, by omega⟩
  rw [← gatP_iff hb, ← gath_P ks w h.1 R]
  constructor
  · intro e
    rw [e]
    exact hp
  · intro hq
    exact sort_one ((gath_perm h).trans hs.symm) hq hp
/-- the word by keys, and its last pocket -/
def wordK (ks ds : List Int) : List Int := (runK ks ds 0 (-1) (List.replicate ks.length 0)).2.2
def topK (ks ds : List Int) : Int := (runK ks ds 0 (-1) (List.replicate ks.length 0)).1
structure KeysOk (ks ds : List Int) : Prop where
  asc : ds.Pairwise (· < ·)
  mem : ∀ z, z ∈ ds ↔ z ∈ ks
theorem keys_inv {ks ds : List Int} (h : KeysOk ks ds) : InvK ks ds (topK ks ds) (runK ks ds 0 (-1) (List.replicate ks.length 0)).2.1 (wordK ks ds) := by
  have := runK_inv ds [] 0 (-1) _ (invK_start ks) (fun _ h => nomatch h) h.asc fun k hk => (h.mem k).mp hk
  rwa [List.nil_append] at this
theorem atZ_mem {ks : List Int} {p : Int} (h0 : 0 ≤ p) (h1 : p < ks.length) : atZ ks p ∈ ks := by
  unfold atZ
  rw [List.getD_eq_getElem?_getD, List.getElem?_eq_getElem (by omega)]
  exact List.getElem_mem _
theorem mem_atZ {ks : List Int} {z : Int} (h : z ∈ ks) : ∃ p : Int, (0 ≤ p ∧ p < ks.length) ∧ atZ ks p = z := by
  obtain ⟨i, hi, e⟩ := List.getElem_of_mem h
  refine ⟨i, ⟨by omega, by omega⟩, ?_⟩
  unfold atZ
  rw [Int.toNat_natCast, List.getD_eq_getElem?_getD, List.getElem?_eq_getElem hi, e]
  rfl
theorem wordK_word {ks ds : List Int} (h : KeysOk ks ds) : Word (wordK ks ds) ks.length (false, topK ks ds + 1) := by
  have I := keys_inv h
  refine ⟨I.len, fun i hi => ?_⟩
  obtain ⟨p, hp, rfl⟩ := mem_atZ hi
  rw [I.len] at hp
  have := I.lo p hp.1 hp.2 ((h.mem _).mpr (atZ_mem hp.1 hp.2))
  show 0 ≤ atZ (wordK ks ds) p ∧ atZ (wordK ks ds) p < topK ks ds + 1
  omega
theorem wordK_valid {ks ds : List Int} (h : KeysOk ks ds) : ValidF ks (atZ (wordK ks ds)) := fun a b a0 a1 b0 b1 hab =>
  (keys_inv h).ord a b a0 a1 b0 b1 ((h.mem _).mpr (atZ_mem a0 a1)) ((h.mem _).mpr (atZ_mem b0 b1)) hab
theorem topK_mem {ks ds : List Int} (h : KeysOk ks ds) (hk : ks ≠ []) : topK ks ds ∈ wordK ks ds := by
  have I := keys_inv h
  have hd : ds ≠ [] := fun e => by
    cases ks with
    | nil => exact hk rfl
    | cons a r =>
      have := (h.mem a).mpr List.mem_cons_self
      rw [e] at this
      cases this
  obtain ⟨h1, h2, h3⟩ := I.top hd
  rw [← h3]
  exact atZ_mem h1.1 (by rw [I.len]; exact h1.2)
/-- no word with fewer pockets does it -/
theorem few_keys {ks ds : List Int} (h : KeysOk ks ds) (hk : ks ≠ []) {R : Int} {w : List Int} (hw : Word w ks.length (false, R)) (hv : ValidF ks (atZ w)) : topK ks ds < R := by
  have I := keys_inv h
  have hd : ds ≠ [] := fun e => by
    cases ks with
    | nil => exact hk rfl
    | cons a r =>
      have := (h.mem a).mpr List.mem_cons_self
      rw [e] at this
      cases this
  have hb : ∀ p : Int, 0 ≤ p → p < ks.length → 0 ≤ atZ w p ∧ atZ w p < R := fun p p0 p1 => by
    have hl := hw.1
    exact hw.2 _ (atZ_mem p0 (by rw [hl]; exact p1))
  obtain ⟨q, hq, _, hq2⟩ := I.low (atZ w) hv (fun p p0 p1 => (hb p p0 p1).1) hd
  have := hb q hq.1 hq.2
  omega
theorem intsOf_ints (l : List Int) : intsOf (l.map D.int) = some l := by
  have := intsOf_fn (fun a : Int => a) l
  rwa [List.map_id'] at this
theorem max1_ex {l : List Int} (h : l ≠ []) {P : Int → Prop} : (∃ ns : List Int, intsOf (l.map D.int) = some ns ∧ 0 < ns.length ∧ ∀ m, m ∈ ns → (∀ y, y ∈ ns → y ≤ m) → P m) = P (maxOr l 0) := by
  rw [intsOf_ints]
  refine propext ⟨fun ⟨ns, e, _, hk⟩ => ?_, fun hp => ⟨l, rfl, List.length_pos_iff.mpr h, fun m hm hy => ?_⟩⟩
  · cases e
    exact hk _ (maxOr_mem h 0) fun y hy => maxOr_ge 0 hy
  · rw [maxOr_eq hm hy 0]
    exact hp
theorem ints_inj : ∀ {l m : List Int}, l.map D.int = m.map D.int → l = m
  | [], [], _ => rfl
  | [], _ :: _, h => by cases h
  | _ :: _, [], h => by cases h
  | a :: l, b :: m, h => by
    rw [List.map_cons, List.map_cons] at h
    injection h with h1 h2
    injection h1 with h1
    rw [h1, ints_inj h2]
theorem sortset_ex {l ds : List Int} (h : KeysOk l ds) (hl : l.length < 64) {P : List Int → Prop} : (∃ ns : List Int, D.lst (l.map D.int) = .lst (ns.map .int) ∧ ns.length < 64 ∧ ∀ out : List Int, out.Pairwise (· < ·) → (∀ z, z ∈ out ↔ z ∈ ns) → P out) = P ds := by
  refine propext ⟨fun ⟨ns, e, _, hk⟩ => ?_, fun hp => ⟨l, rfl, hl, fun out h1 h2 => ?_⟩⟩
  · injection e with e
    rw [← ints_inj e] at hk
    exact hk ds h.asc h.mem
  · rw [asc_eq h1 h.asc fun z => by rw [h2, h.mem]]
    exact hp
theorem zip_at (ks : List Int) : (rI ks.length).zip ks = (rI ks.length).map fun p => (p, atZ ks p) := by
  apply List.ext_getElem?
  intro i
  rw [List.getElem?_map]
  by_cases hi : i < ks.length
  · rw [rI_get hi, Option.map_some]
    unfold atZ
    rw [Int.toNat_natCast, List.getD_eq_getElem?_getD, List.getElem?_eq_getElem hi]
    exact List.getElem?_zip_eq_some.mpr ⟨rI_get hi, List.getElem?_eq_getElem hi⟩
  · rw [List.getElem?_eq_none (by rw [List.length_zip]; omega), List.getElem?_eq_none (by rw [rI_length]; omega)]
    rfl
theorem plK_zip (ks : List Int) (k : Int) : (((rI ks.length).zip ks).filter fun a => decide (a.2 = k)).map (fun a => D.int a.1) = (plK ks k).map D.int := by
  rw [zip_at, List.filter_map, List.map_map]
  rfl
theorem any_mem (l : List Int) (p : Int) : ((l.map D.int).any fun y => eqF y (.int p)) = decide (p ∈ l) := by
  rw [List.any_map]
  rw [Bool.eq_iff_iff, List.any_eq_true, decide_eq_true_eq]
  constructor
  · rintro ⟨y, hy, e⟩
    have e : (y == p) = true := e
    rw [beq_iff_eq] at e
    rwa [← e]
  · intro h
    exact ⟨p, h, beq_self_eq_true p⟩
theorem maxdef_ex {l : List Int} {m : Int} {Q : List Int → Int → Prop} : (∃ (ns : List Int) (j : Int), [D.lst (l.map D.int)] = [D.lst (ns.map D.int)] ∧ D.int m = D.int j ∧ Q ns j) = Q l m := by
  refine propext ⟨fun ⟨ns, j, e1, e2, hk⟩ => ?_, fun hq => ⟨l, m, rfl, rfl, hq⟩⟩
  injection e1 with e1 _
  injection e1 with e1
  injection e2 with e2
  rw [ints_inj e1, e2]
  exact hk
theorem do_loop3 {ks pl : List Int} {P L k : Int} (hpl : pl = plK ks k) {s8 : SV} : ∀ (ps w : List Int) (s7 : SV), w.length = ks.length → ks.length ≤ 100 → (∀ p ∈ ps, p ∈ pl) →
    ∃ s7', ∀ E x, dLoop (dgName 7) b3_dealt_out E x (ps.map D.int) [.d (eL ks), .own (w.map .int), .d (.int P), .d (.int L), .d (.int k), .d (eL pl), .d (eL (erK ks L k)), s7, s8] =
      E.nx [.d (eL ks), .own ((putAll (fun p => P + (if p < L then 1 else 0)) ps w).map .int), .d (.int P), .d (.int L), .d (.int k), .d (eL pl), .d (eL (erK ks L k)), s7', s8]
  | [], w, s7, _, _, _ => ⟨s7, fun _ _ => by simp [dLoop, putAll]⟩
  | p :: ps, w, s7, hw, h1, h => by
    have hp := h p List.mem_cons_self
    rw [hpl] at hp
    have hp2 := (mem_plK.mp hp).1
    obtain ⟨u, e⟩ := do_loop3 (P := P) (L := L) hpl (s8 := s8) ps (w.set p.toNat (P + (if p < L then 1 else 0))) (.d (.int p)) (by rw [List.length_set]; exact hw) h1 (fun a ha => h a (List.mem_cons_of_mem _ ha))
    refine ⟨u, fun E x => ?_⟩
    rw [show putAll (fun p => P + (if p < L then 1 else 0)) (p :: ps) w = putAll (fun p => P + (if p < L then 1 else 0)) ps (w.set p.toNat (P + (if p < L then 1 else 0))) from rfl, ← e E x]
    have e1 : ixN w.length p = some p.toNat := ixN_nn hp2.1 (by rw [hw]; exact hp2.2)
    have e2 : (w.map D.int).set p.toNat (.int (P + (if p < L then 1 else 0))) = (w.set p.toNat (P + (if p < L then 1 else 0))).map D.int := by rw [List.map_set]
    have e3 : decide (p ∈ erK ks L k) = decide (p < L) := by
      rw [decide_eq_decide, mem_erK]
      exact ⟨fun z => z.2, fun z => ⟨mem_plK.mp hp, z⟩⟩
    have e4 : ((erK ks L k).map D.int).all flatD = true := by simp [flatD]
    rw [List.map_cons]
    show dgName 7 _ _ (fun ρ1 => b3_dealt_out _ x ρ1) = _
    unfold b3_dealt_out
    walk_at "y"
    rw [any_mem, e3, e1, ← e2]
    simp only [e4, true_and, Option.some.injEq, exists_eq_left']
    by_cases z : p < L
    · rw [decide_eq_true z, if_pos rfl, if_pos z]
    · rw [decide_eq_false z, if_neg (by simp), if_neg z]
theorem plK_ne {ks : List Int} {k : Int} (hk : k ∈ ks) : plK ks k ≠ [] := by
  obtain ⟨p, hp, e⟩ := mem_atZ hk
  exact List.ne_nil_of_mem (mem_plK.mpr ⟨hp, e⟩)
theorem do_loop4 {ks : List Int} (h1 : ks.length ≤ 100) : ∀ (ds : List Int) (P L : Int) (w : List Int) (s4 s5 s6 s7 s8 : SV), w.length = ks.length → (∀ k ∈ ds, k ∈ ks) →
    ∃ s4' s5' s6' s7' s8', ∀ E x, dLoop (dgName 4) b4_dealt_out E x (ds.map D.int) [.d (eL ks), .own (w.map .int), .d (.int P), .d (.int L), s4, s5, s6, s7, s8] =
      E.nx [.d (eL ks), .own ((runK ks ds P L w).2.2.map .int), .d (.int (runK ks ds P L w).1), .d (.int (runK ks ds P L w).2.1), s4', s5', s6', s7', s8']
  | [], P, L, w, s4, s5, s6, s7, s8, _, _ => ⟨s4, s5, s6, s7, s8, fun _ _ => by simp [dLoop, runK]⟩
  | k :: ds, P, L, w, s4, s5, s6, s7, s8, hw, h => by
    have hk := h k List.mem_cons_self
    have hpl := plK_ne hk
    obtain ⟨u7, e7⟩ := do_loop3 (ks := ks) (P := P) (L := L) (k := k) rfl (s8 := .un) (plK ks k) w .un hw h1 (fun p hp => hp)
    obtain ⟨t4, t5, t6, t7, t8, e⟩ := do_loop4 h1 ds (newP ks P L k) (newL ks L k) (newW ks w P L k) (.d (.int k)) (.d (eL (plK ks k))) (.d (eL (erK ks L k))) u7 .un (by unfold newW; rw [putAll_length]; exact hw) (fun a ha => h a (List.mem_cons_of_mem _ ha))
    refine ⟨t4, t5, t6, t7, t8, fun E x => ?_⟩
    rw [show runK ks (k :: ds) P L w = runK ks ds (newP ks P L k) (newL ks L k) (newW ks w P L k) from rfl, ← e E x, List.map_cons]
    have hz : ((rI ks.length).zip ks).length ≤ 100000 := by rw [List.length_zip]; omega
    have hpll : (plK ks k).length ≤ 100000 := Nat.le_trans (List.length_filter_le _ _) (by rw [rI_length]; omega)
    have hpos : 0 < (plK ks k).length := List.length_pos_iff.mpr hpl
    show dgName 4 _ _ (fun ρ1 => b4_dealt_out _ x ρ1) = _
    unfold b4_dealt_out
    walk_at "y"
    rw [enumD_ints]
    rw [comp_gen (p := fun a : Int × Int => decide (a.2 = k)) (ρa := fun a => [.d (eL ks), .own (w.map .int), .d (.int P), .d (.int L), .d (.int k), s5, s6, .d (.int a.1), .d (.int a.2)]) (f := fun a => D.int a.1) (fun _ _ _ => by walk_at "y") (fun a ha K => by
      unfold t1_dealt_out
      walk_at "y") (fun a ha _ K => by walk_at "y") (fun _ _ => rfl)]
    rw [List.nil_append, plK_zip]
    walk_at "y"
    rw [comp_gen (p := fun a : Int => decide (a < L)) (ρa := fun a => [.d (eL ks), .own (w.map .int), .d (.int P), .d (.int L), .d (.int k), .d (eL (plK ks k)), s6, .d (.int a), .un]) (f := fun a => D.int a) (fun _ _ _ => rfl) (fun a ha K => by
      unfold t2_dealt_out
      walk_at "y") (fun a ha _ K => by walk_at "y") (fun _ _ => rfl)]
    rw [List.nil_append]
    rw [show (List.filter (fun a => decide (a < L)) (plK ks k)).map (fun a => D.int a) = (erK ks L k).map D.int from rfl]
    try walk_at "y"
    rw [e7]
    walk_at "y"
    rw [max1_ex hpl, max1_ex hpl, maxdef_ex, maxdef_ex]
    rw [show D.lst [] = D.lst (([] : List Int).map D.int) from rfl, deq_ints]
    simp only [hz, hpll, true_and]
    have eP : newP ks P L k = if erK ks L k = [] then P else P + 1 := rfl
    rw [eP]
    by_cases he : erK ks L k = []
    · rw [decide_eq_true he, if_pos he]
      simp only [Bool.true_eq_false, if_false]
      rfl
    · rw [decide_eq_false he, if_neg he]
      simp only [if_true]
      rfl
def dsK (ks : List Int) : List Int := (rI 100).filter fun z => decide (z ∈ ks)
theorem keys_ds {ks : List Int} (h : ∀ z ∈ ks, 0 ≤ z ∧ z < 100) : KeysOk ks (dsK ks) := ⟨(rI_asc 100).filter _, fun z => by
  unfold dsK
  rw [List.mem_filter, decide_eq_true_eq, mem_rI]
  exact ⟨fun y => y.2, fun y => ⟨h z y, y⟩⟩⟩
theorem sp_dealt_out {ks : List Int} (h1 : ks.length ≤ 40) (h : ∀ z ∈ ks, 0 ≤ z ∧ z < 100) (k : D → Ev → Prop) (x : KX) : f_dealt_out.go [.d (eL ks)] k x = k (eL (wordK ks (dsK ks))) [.un] := by
  have K := keys_ds h
  obtain ⟨t4, t5, t6, t7, t8, e⟩ := do_loop4 (ks := ks) (by omega) (dsK ks) 0 (-1) (List.replicate ks.length 0) .un .un .un .un .un List.length_replicate (fun z hz => (K.mem z).mp hz)
  unfold f_dealt_out d_dealt_out
  walk_at "y"
  rw [comp_map (ρa := fun c => [.d (eL ks), .un, .un, .un, .d (.int c), .un, .un, .un, .un]) (f := fun _ => D.int 0) (fun _ _ _ => rfl) (fun c hc K => rfl) (fun _ _ => rfl)]
  rw [show (ks.map fun _ => D.int 0) = (List.replicate ks.length (0 : Int)).map D.int by rw [List.map_replicate]; exact List.map_const' .., List.nil_append]
  try walk_at "y"
  rw [sortset_ex K (by omega), e]
  try walk_at "y"
  simp [show ks.length ≤ 100000 by omega, wordK]
theorem sp_look_keys {ks : List Int} (h1 : 1 ≤ ks.length ∧ ks.length ≤ 40) (h2 : ∀ z ∈ ks, 0 ≤ z ∧ z < 100) (k : D → Ev → Prop) (x : KX) : f_look_keys.go [.d (eL ks)] k x = k .non [.un] := by
  obtain ⟨a1, a2⟩ := h1
  unfold f_look_keys d_look_keys
  walk_at "y"
  rw [if_pos (show (1 : Int) ≤ (ks.length : Int) by omega), if_neg (show ¬ ¬ (ks.length : Int) ≤ 40 by omega)]
  rw [comp_map (ρa := fun e => [.d (eL ks), .d (.int e)]) (f := fun _ => D.bl true) (fun _ _ _ => rfl) (fun e he K => by
    unfold q1_look_keys
    walk_at "y"
    have := h2 e he
    rw [sp_is_number, decide_eq_true (by omega)]) (fun _ _ => rfl)]
  rw [List.nil_append, show (ks.map fun _ => D.bl true) = ks.map fun e => D.bl ((fun _ => true) e) from rfl]
  simp only [show ks.length ≤ 100000 by omega, true_and, blsOf_fn, Option.some.injEq, exists_eq_left']
  try walk_at "y"
  simp
theorem max_word {ks : List Int} (h1 : 1 ≤ ks.length) (h2 : ∀ z ∈ ks, 0 ≤ z ∧ z < 100) : maxOr (wordK ks (dsK ks)) 0 = topK ks (dsK ks) := by
  have K := keys_ds h2
  have hk : ks ≠ [] := fun e => by rw [e] at h1; simp at h1
  refine (maxOr_eq (topK_mem K hk) (fun y hy => ?_) 0).symm
  have := ((wordK_word K).2 y hy).2
  have : y < topK ks (dsK ks) + 1 := this
  omega
theorem word_ne {ks : List Int} (h1 : 1 ≤ ks.length) (h2 : ∀ z ∈ ks, 0 ≤ z ∧ z < 100) : wordK ks (dsK ks) ≠ [] := fun e => by
  have := (wordK_word (keys_ds h2)).1
  rw [e] at this
  simp at this
  omega
theorem sp_needed {ks : List Int} (h1 : 1 ≤ ks.length ∧ ks.length ≤ 40) (h2 : ∀ z ∈ ks, 0 ≤ z ∧ z < 100) (k : D → Ev → Prop) (x : KX) : f_needed.go [.d (eL ks)] k x = k (.int (topK ks (dsK ks) + 1)) [.un] := by
  unfold f_needed d_needed
  walk_at "y"
  rw [sp_look_keys h1 h2]
  try walk_at "y"
  rw [sp_dealt_out h1.2 h2]
  try walk_at "y"
  rw [max1_ex (word_ne h1.1 h2), max_word h1.1 h2]
theorem sp_word_by_keys {ks : List Int} (h1 : 1 ≤ ks.length ∧ ks.length ≤ 40) (h2 : ∀ z ∈ ks, 0 ≤ z ∧ z < 100) (k : D → Ev → Prop) (x : KX) : f_word_by_keys.go [.d (eL ks)] k x = k (eL (wordK ks (dsK ks))) [.un] := by
  unfold f_word_by_keys d_word_by_keys
  walk_at "y"
  rw [sp_look_keys h1 h2]
  try walk_at "y"
  rw [sp_dealt_out h1.2 h2]
theorem rev_keys {ks : List Int} (h1 : 1 ≤ ks.length ∧ ks.length ≤ 40) (h2 : ∀ z ∈ ks, 0 ≤ z ∧ z < 100) : (1 ≤ ks.reverse.length ∧ ks.reverse.length ≤ 40) ∧ ∀ z ∈ ks.reverse, 0 ≤ z ∧ z < 100 := ⟨by rw [List.length_reverse]; exact h1, fun z hz => h2 z (List.mem_reverse.mp hz)⟩
def needK (ks : List Int) : Int := topK ks (dsK ks) + 1
def fkC : DL := oComp (iT (dTup (lCons (dVar 0) (lCons (dL (oRev (dVar 0))) lNil)))) (dgName 5) dtYes q1_fewest_by_keys [5]
theorem fk_need {ks : List Int} (h1 : 1 ≤ ks.length ∧ ks.length ≤ 40) (h2 : ∀ z ∈ ks, 0 ≤ z ∧ z < 100) {a b c : D} (k : List D → Ev → Prop) (x : KX) : fkC x [.d (eL ks), .d a, .d b, .d c, .un, .un] k = k [.int (needK ks), .int (needK ks.reverse)] [.d (eL ks), .d a, .d b, .d c, .un, .un] := by
  unfold fkC
  walk_at "y"
  rw [show [eL ks, D.lst (ks.map D.int).reverse] = [ks, ks.reverse].map (fun l => eL l) by rw [List.map_cons, List.map_cons, List.map_nil, eL, eL, List.map_reverse]]
  rw [comp_map (ρa := fun l => [.d (eL ks), .d a, .d b, .d c, .un, .d (eL l)]) (f := fun l => D.int (needK l)) (fun _ _ _ => rfl) (fun l hl K => by
    have : (1 ≤ l.length ∧ l.length ≤ 40) ∧ ∀ z ∈ l, 0 ≤ z ∧ z < 100 := by
      simp only [List.mem_cons, List.not_mem_nil, or_false] at hl
      rcases hl with rfl | rfl
      · exact ⟨h1, h2⟩
      · exact rev_keys h1 h2
    obtain ⟨h3, h4⟩ := this
    unfold q1_fewest_by_keys
    walk_at "y"
    rw [sp_dealt_out h3.2 h4]
    try walk_at "y"
    rw [max1_ex (word_ne h3.1 h4), max_word h3.1 h4]
    rfl) (fun _ _ => rfl)]
  simp only [List.nil_append, List.map_cons, List.map_nil]
theorem isort_ex {l : List Int} {P : List Int → Prop} : (∃ ns : List Int, l.map D.int = ns.map D.int ∧ ∀ s : List Int, s.Perm ns → s.Pairwise (· ≤ ·) → P s) = P (l.mergeSort (fun a b => decide (a ≤ b))) := by
  have hp : (l.mergeSort (fun a b => decide (a ≤ b))).Perm l := List.mergeSort_perm _ _
  have hs : (l.mergeSort (fun a b => decide (a ≤ b))).Pairwise (· ≤ ·) := by
    have := List.pairwise_mergeSort (le := fun a b : Int => decide (a ≤ b)) (fun a b c h1 h2 => by simp at h1 h2 ⊢; omega) (fun a b => by simp; omega) l
    exact this.imp fun h => by simpa using h
  refine propext ⟨fun ⟨ns, e, h⟩ => ?_, fun h => ⟨l, rfl, fun s s1 s2 => ?_⟩⟩
  · rw [← ints_inj e] at h
    exact h _ hp hs
  · rw [sort_one (s1.trans hp.symm) s2 hs]
    exact h
def srtI (l : List Int) : List Int := l.mergeSort (fun a b => decide (a ≤ b))
theorem srtI_perm (l : List Int) : (srtI l).Perm l := List.mergeSort_perm _ _
theorem srtI_asc (l : List Int) : (srtI l).Pairwise (· ≤ ·) := by
  have := List.pairwise_mergeSort (le := fun a b : Int => decide (a ≤ b)) (fun a b c h1 h2 => by simp at h1 h2 ⊢; omega) (fun a b => by simp; omega) l
  exact this.imp fun h => by simpa using h
def fewKy (ks : List Int) (m : Ma) : Option Nat := fewF (decide (ks = srtI ks)) (needK ks) (needK ks.reverse) m
theorem sp_fewest_by_keys {ks : List Int} (h1 : 1 ≤ ks.length ∧ ks.length ≤ 40) (h2 : ∀ z ∈ ks, 0 ≤ z ∧ z < 100) (m : Ma) (hm : Mach m) (k : D → Ev → Prop) (x : KX) : f_fewest_by_keys.go [.d (eL ks), .d (.str (kind m.1)), .d (.int m.2)] k x = k (optD (fewKy ks m)) [.un, .un, .un] := by
  unfold f_fewest_by_keys d_fewest_by_keys
  obtain ⟨L, hL⟩ : ∃ L, L = oComp (iT (dTup (lCons (dVar 0) (lCons (dL (oRev (dVar 0))) lNil)))) (dgName 5) dtYes q1_fewest_by_keys [5] := ⟨_, rfl⟩
  rw [← hL]
  have hN : ∀ (a b c : D) k x, L x [.d (eL ks), .d a, .d b, .d c, .un, .un] k = k [.int (needK ks), .int (needK ks.reverse)] [.d (eL ks), .d a, .d b, .d c, .un, .un] := fun a b c k x => by
    rw [hL]
    exact fk_need h1 h2 k x
  clear hL
  walk_at "y"
  rw [sp_look_keys h1 h2]
  try walk_at "y"
  rw [show D.tup [D.str (kind m.1), D.int m.2] = eM m from rfl]
  rw [sp_look_machine m hm]
  try walk_at "y"
  rw [hN]
  try walk_at "y"
  rw [isort_ex]
  try walk_at "y"
  rw [sp_fewest_for _ _ _ m hm]
  rfl
theorem law_power_loop {m : SV} {b : Int} (hb : b.natAbs < 2 ^ 60) : ∀ (c i : Nat) (s3 : SV), i + c ≤ 1000 →
    ∃ s3', ∀ E x, dLoop (dgName 3) b1__law_power E x ((List.range c).map fun (j : Nat) => D.int ((i : Int) + (j : Int))) [.d (.int b), m, .d (.int (b ^ i)), s3] = E.nx [.d (.int b), m, .d (.int (b ^ (i + c))), s3']
  | 0, i, s3, _ => ⟨s3, fun _ _ => by simp [dLoop]⟩
  | c + 1, i, s3, h1 => by
    obtain ⟨u, e⟩ := law_power_loop (m := m) hb c (i + 1) (.d (.int i)) (by omega)
    refine ⟨u, fun E x => ?_⟩
    rw [List.range_succ_eq_map, List.map_cons, List.map_map]
    have es : (fun (j : Nat) => D.int ((i : Int) + (j : Int))) ∘ Nat.succ = fun (j : Nat) => D.int (((i + 1 : Nat) : Int) + (j : Int)) := by
      funext j
      show D.int ((i : Int) + ((j + 1 : Nat) : Int)) = _
      congr 1
      omega
    rw [es, show (i : Int) + ((0 : Nat) : Int) = i by omega, show i + (c + 1) = i + 1 + c by omega, ← e E x]
    have hm : CMulW (b ^ i) b := mulW 60001 60 (by
      rw [Int.natAbs_pow]
      exact Nat.lt_of_le_of_lt (pow_lt2 hb) (Nat.pow_lt_pow_right (by decide) (by omega))) hb (by decide) (by decide) (by decide)
    have hp : b ^ i * b = b ^ (i + 1) := (Int.pow_succ b i).symm
    simp only [dLoop, b1__law_power]
    walk_at "y"
    simp only [hm, true_and, hp]
theorem sp_law_power (b m : Int) (h0 : 0 ≤ m) (h1 : m ≤ 1000) (hb : b.natAbs < 2 ^ 60) (k : D → Ev → Prop) (x : KX) : f__law_power.go [.d (.int b), .d (.int m)] k x = k (.int (b ^ m.toNat)) [.un, .un] := by
  unfold f__law_power d__law_power
  walk_at "y"
  obtain ⟨u, e⟩ := law_power_loop (m := .d (.int m)) (b := b) hb m.toNat 0 .un (by omega)
  rw [Nat.zero_add, Int.pow_zero] at e
  have hb2 : inB m := ⟨by omega, by omega⟩
  rw [show rng 0 m.toNat = (List.range m.toNat).map fun (j : Nat) => D.int (((0 : Nat) : Int) + (j : Int)) from rfl]
  simp only [hb2, true_and]
  rw [e]
  try walk_at "y"
/-! ### what is needed, by all keys in turn -/
def runL (ks : List Int) : List Int → Int → Int → Int × Int
  | [], P, L => (P, L)
  | k :: ds, P, L => if plK ks k = [] then runL ks ds P L else runL ks ds (newP ks P L k) (newL ks L k)
theorem plK_nil {ks : List Int} {k : Int} : plK ks k = [] ↔ k ∉ ks := by
  constructor
  · intro h hk
    exact plK_ne hk h
  · intro h
    apply List.eq_nil_iff_forall_not_mem.mpr
    intro p hp
    have := mem_plK.mp hp
    exact h (this.2 ▸ atZ_mem this.1.1 this.1.2)
theorem runL_runK (ks : List Int) : ∀ (zs : List Int) (P L : Int) (w : List Int), (runL ks zs P L).1 = (runK ks (zs.filter fun z => decide (z ∈ ks)) P L w).1
  | [], _, _, _ => rfl
  | k :: zs, P, L, w => by
    unfold runL
    by_cases h : k ∈ ks
    · rw [if_neg (plK_ne h), show (k :: zs).filter (fun z => decide (z ∈ ks)) = k :: zs.filter (fun z => decide (z ∈ ks)) from List.filter_cons_of_pos (decide_eq_true h)]
      exact runL_runK ks zs _ _ _
    · rw [if_pos (plK_nil.mpr h), show (k :: zs).filter (fun z => decide (z ∈ ks)) = zs.filter (fun z => decide (z ∈ ks)) from List.filter_cons_of_neg (by simpa using h)]
      exact runL_runK ks zs P L w
theorem topK_run (ks : List Int) : topK ks (dsK ks) = (runL ks (rI 100) 0 (-1)).1 := (runL_runK ks (rI 100) 0 (-1) _).symm
theorem maxOr_last {l : List Int} (h : l.Pairwise (· < ·)) (hn : l ≠ []) (j : Int) : l.getLast hn = maxOr l j := by
  refine maxOr_eq (List.getLast_mem hn) (fun y hy => ?_) j
  obtain ⟨i, hi, rfl⟩ := List.getElem_of_mem hy
  rw [List.getLast_eq_getElem]
  by_cases e : i = l.length - 1
  · subst e; exact Int.le_refl _
  · exact Int.le_of_lt (List.pairwise_iff_getElem.mp h i (l.length - 1) hi (by omega) (by omega))
theorem at_last {l : List Int} (h : l.Pairwise (· < ·)) (hn : l ≠ []) (j : Int) {P : D → Prop} : (∃ z, L2.atI (l.map D.int) (-1) = some z ∧ P z) = P (.int (maxOr l j)) := by
  have hp := List.length_pos_iff.mpr hn
  have e : L2.atI (l.map D.int) (-1) = some (.int (maxOr l j)) := by
    rw [← maxOr_last h hn j, List.getLast_eq_getElem]
    unfold L2.atI L2.ixN
    rw [List.length_map, if_neg (show ¬ (0 : Int) ≤ -1 by decide), if_pos (show -(l.length : Int) ≤ -1 by omega)]
    show (l.map D.int)[((-1 : Int) + (l.length : Int)).toNat]? = _
    rw [show ((-1 : Int) + (l.length : Int)).toNat = l.length - 1 by omega, List.getElem?_map, List.getElem?_eq_getElem (by omega)]
    rfl
  rw [e]
  exact propext ⟨fun ⟨z, e, h⟩ => by cases e; exact h, fun h => ⟨_, rfl, h⟩⟩
theorem asc_plK (ks : List Int) (k : Int) : (plK ks k).Pairwise (· < ·) := (rI_asc _).filter _
theorem asc_erK (ks : List Int) (L k : Int) : (erK ks L k).Pairwise (· < ·) := (asc_plK ks k).filter _
theorem nd_loop {ks : List Int} (h1 : ks.length ≤ 100) : ∀ (zs : List Int) (P L : Int) (s3 s4 s5 : SV),
    ∃ s3' s4' s5', ∀ E x, dLoop (dgName 3) b3__law_need E x (zs.map D.int) [.d (eL ks), .d (.int (1 + P)), .d (.int L), s3, s4, s5, .un, .un] =
      E.nx [.d (eL ks), .d (.int (1 + (runL ks zs P L).1)), .d (.int (runL ks zs P L).2), s3', s4', s5', .un, .un]
  | [], P, L, s3, s4, s5 => ⟨s3, s4, s5, fun _ _ => by simp [dLoop, runL]⟩
  | k :: zs, P, L, s3, s4, s5 => by
    obtain ⟨P', L', hPL⟩ : ∃ P' L', (P', L') = if plK ks k = [] then (P, L) else (newP ks P L k, newL ks L k) := ⟨_, _, rfl⟩
    obtain ⟨u, v, w, e⟩ := nd_loop h1 zs P' L' (.d (.int k)) (.d (eL (plK ks k))) (.d (eL (erK ks L k)))
    refine ⟨u, v, w, fun E x => ?_⟩
    have er : runL ks (k :: zs) P L = runL ks zs P' L' := by
      show (if plK ks k = [] then runL ks zs P L else runL ks zs (newP ks P L k) (newL ks L k)) = _
      split at hPL
      · rename_i h; rw [if_pos h]; cases hPL; rfl
      · rename_i h; rw [if_neg h]; cases hPL; rfl
    rw [er, ← e E x, List.map_cons]
    have hz : ((rI ks.length).zip ks).length ≤ 100000 := by rw [List.length_zip]; omega
    have hpll : (plK ks k).length ≤ 100000 := Nat.le_trans (List.length_filter_le _ _) (by rw [rI_length]; omega)
    show dgName 3 _ _ (fun ρ1 => b3__law_need _ x ρ1) = _
    unfold b3__law_need
    walk_at "y"
    rw [enumD_ints]
    rw [comp_gen (p := fun a : Int × Int => decide (a.2 = k)) (ρa := fun a => [.d (eL ks), .d (.int (1 + P)), .d (.int L), .d (.int k), s4, s5, .d (.int a.1), .d (.int a.2)]) (f := fun a => D.int a.1) (fun _ _ _ => by walk_at "y") (fun a ha K => by
      unfold t1__law_need
      walk_at "y") (fun a ha _ K => by walk_at "y") (fun _ _ => rfl)]
    rw [List.nil_append, plK_zip]
    walk_at "y"
    rw [comp_gen (p := fun a : Int => decide (a < L)) (ρa := fun a => [.d (eL ks), .d (.int (1 + P)), .d (.int L), .d (.int k), .d (eL (plK ks k)), s5, .d (.int a), .un]) (f := fun a => D.int a) (fun _ _ _ => rfl) (fun a ha K => by
      unfold t2__law_need
      walk_at "y") (fun a ha _ K => by walk_at "y") (fun _ _ => rfl)]
    rw [List.nil_append]
    rw [show (List.filter (fun a => decide (a < L)) (plK ks k)).map (fun a => D.int a) = (erK ks L k).map D.int from rfl]
    try walk_at "y"
    rw [show D.lst [] = D.lst (([] : List Int).map D.int) from rfl, deq_ints]
    simp only [hz, hpll, true_and]
    by_cases hp : plK ks k = []
    · rw [if_pos hp] at hPL
      obtain ⟨rfl, rfl⟩ := Prod.mk.inj hPL
      have he : erK ks L' k = [] := by unfold erK; rw [hp]; rfl
      rw [decide_eq_true he]
      simp only [Bool.true_eq_false, if_false]
      rw [deq_ints, decide_eq_true hp]
      simp only [Bool.true_eq_false, if_false]
    · rw [if_neg hp] at hPL
      obtain ⟨rfl, rfl⟩ := Prod.mk.inj hPL
      by_cases he : erK ks L k = []
      · rw [decide_eq_true he]
        simp only [Bool.true_eq_false, if_false]
        rw [deq_ints, decide_eq_false hp]
        simp only [if_true]
        rw [at_last (asc_plK ks k) hp 0]
        unfold newP newL
        rw [if_pos he, he]
        rfl
      · rw [decide_eq_false he]
        simp only [if_true]
        rw [at_last (asc_erK ks L k) he (maxOr (plK ks k) 0)]
        unfold newP newL
        rw [if_neg he, Int.add_assoc]
theorem sp_law_need {ks : List Int} (h1 : ks.length ≤ 100) (k : D → Ev → Prop) (x : KX) : f__law_need.go [.d (eL ks)] k x = k (.int (needK ks)) [.un] := by
  unfold f__law_need d__law_need
  walk_at "y"
  obtain ⟨u, v, w, e⟩ := nd_loop h1 (rI 100) 0 (-1) .un .un .un
  rw [show rng 0 (100 : Int).toNat = (rI 100).map D.int from rng_rI 100]
  simp only [Int.add_zero] at e
  rw [e]
  have hb : inB 100 := ⟨by decide, by decide⟩
  try walk_at "y"
  simp only [hb, true_and]
  unfold needK
  rw [topK_run, Int.add_comm]
theorem needK_le {ks : List Int} (h1 : 1 ≤ ks.length) (h2 : ∀ z ∈ ks, 0 ≤ z ∧ z < 100) : needK ks ≤ 100 := by
  have := few_keys (keys_ds h2) (List.ne_nil_of_length_pos h1) (R := 100) (w := ks) ⟨rfl, fun z hz => h2 z hz⟩ (fun a b _ _ _ _ h => .inl h)
  unfold needK
  omega
theorem few_eightG {b : Bool} {r f : Int} (hr : r ≤ 100) (hf : f ≤ 100) {m : Ma} (hm : Mach m) : (if b then some 0 else firstN (fewP r f m) [1, 2, 3, 4, 5, 6, 7, 8]) = fewF b r f m := by
  unfold fewF
  cases b
  · have h8 : fewP r f m 8 = true → fewP r f m 2 = true ∨ fewP r f m 7 = true := fun e => by
      have e := of_decide_eq_true e
      have hm1 := hm.1
      by_cases hp : m.2 = 1
      · left
        apply decide_eq_true
        rw [hp] at e ⊢
        unfold needF at e ⊢
        simpa using e
      · right
        apply decide_eq_true
        have : (2 : Int) ^ 7 ≤ m.2 ^ 7 := by
          have := Nat.pow_le_pow_left (show 2 ≤ m.2.toNat by omega) 7
          have e2 : ((m.2.toNat : Nat) : Int) = m.2 := by omega
          rw [← e2]
          exact_mod_cast this
        have h10 : needF r f m.1 7 ≤ 100 := by
          unfold needF
          split <;> omega
        omega
    simp only [firstN, Bool.false_eq_true, if_false]
    cases h2 : fewP r f m 2 <;> cases h7 : fewP r f m 7 <;> cases h8' : fewP r f m 8 <;> simp_all
  · rfl
theorem lfk_loop {ks : List Int} (h1 : ks.length ≤ 40) {m : Ma} (hm : Mach m) : ∀ (ns : List Nat) (s2 s3 : SV), (∀ n ∈ ns, n ≤ 8) →
    ∃ s2' s3', ∀ E x, dLoop (dgName 2) b1__law_fewest E x (ns.map fun (n : Nat) => D.int n) [.d (eL ks), .d (eM m), s2, s3] =
      (match firstN (fewP (needK ks) (needK ks.reverse) m) ns with | some n => E.rt (.int n) [.d (eL ks), .d (eM m), s2', s3'] | none => E.nx [.d (eL ks), .d (eM m), s2', s3'])
  | [], s2, s3, _ => ⟨s2, s3, fun _ _ => by simp [dLoop, firstN]⟩
  | n :: ns, s2, s3, h => by
    have hn := h n List.mem_cons_self
    have hm1 := hm.1
    have hm2 := hm.2
    have step : ∀ (E : DEnds) (x : KX) , dLoop (dgName 2) b1__law_fewest E x ((n :: ns).map fun (n : Nat) => D.int n) [.d (eL ks), .d (eM m), s2, s3] =
        if needF (needK ks) (needK ks.reverse) m.1 n ≤ m.2 ^ n then E.rt (.int n) [.d (eL ks), .d (eM m), .d (.int n), .d (.lst ((List.replicate n m).map eM))]
        else dLoop (dgName 2) b1__law_fewest E x (ns.map fun (n : Nat) => D.int n) [.d (eL ks), .d (eM m), .d (.int n), .d (.lst ((List.replicate n m).map eM))] := fun E x => by
      simp only [List.map_cons, dLoop, b1__law_fewest]
      walk_at "y"
      simp only [Int.toNat_natCast, rep_Ms]
      rw [sp_law_odd _ (by rw [List.length_replicate]; omega)]
      try walk_at "y"
      unfold needF
      rw [rep_odd]
      have hr : D.lst (ks.map D.int).reverse = eL ks.reverse := by rw [← List.map_reverse]
      cases ho : m.1 && decide (n % 2 = 1)
      all_goals simp only [Bool.false_eq_true, if_false, if_true]
      all_goals try rw [hr]
      all_goals rw [sp_law_need (by first | (rw [List.length_reverse]; omega) | omega)]
      all_goals (
        try walk_at "y"
        try simp only [Int.toNat_natCast, rep_Ms]
        rw [sp_law_room _ (by rw [List.length_replicate]; omega) (rep_ok hm), rep_room]
        try walk_at "y"
        have hb : (n : Int) < 9223372036854775808 := by omega
        have hb2 : n ≤ lim := by
          unfold lim
          omega
        simp [hb, hb2])
    obtain ⟨u, v, e⟩ := lfk_loop h1 hm ns (.d (.int n)) (.d (.lst ((List.replicate n m).map eM))) (fun a ha => h a (List.mem_cons_of_mem _ ha))
    by_cases hp : needF (needK ks) (needK ks.reverse) m.1 n ≤ m.2 ^ n
    · refine ⟨.d (.int n), .d (.lst ((List.replicate n m).map eM)), fun E x => ?_⟩
      have e2 : firstN (fewP (needK ks) (needK ks.reverse) m) (n :: ns) = some n := by
        show (if fewP (needK ks) (needK ks.reverse) m n then _ else _) = _
        rw [show fewP (needK ks) (needK ks.reverse) m n = true from decide_eq_true hp]; rfl
      rw [step, if_pos hp, e2]
    · refine ⟨u, v, fun E x => ?_⟩
      have e2 : firstN (fewP (needK ks) (needK ks.reverse) m) (n :: ns) = firstN (fewP (needK ks) (needK ks.reverse) m) ns := by
        show (if fewP (needK ks) (needK ks.reverse) m n then _ else _) = _
        rw [show fewP (needK ks) (needK ks.reverse) m n = false from decide_eq_false hp]; rfl
      rw [step, if_neg hp, e2, e]
theorem sp_law_fewestK {ks : List Int} (h1 : 1 ≤ ks.length ∧ ks.length ≤ 40) (h2 : ∀ z ∈ ks, 0 ≤ z ∧ z < 100) (m : Ma) (hm : Mach m) (k : D → Ev → Prop) (x : KX) : f__law_fewest.go [.d (eL ks), .d (eM m)] k x = k (optD (fewKy ks m)) [.un, .un] := by
  unfold f__law_fewest d__law_fewest
  walk_at "y"
  unfold fewKy
  have hrv := rev_keys h1 h2
  rw [← few_eightG (needK_le h1.1 h2) (needK_le hrv.1.1 hrv.2) hm]
  rw [isort_ex]
  try walk_at "y"
  obtain ⟨u, v, e⟩ := lfk_loop h1.2 hm [1, 2, 3, 4, 5, 6, 7, 8] .un .un (by simp)
  rw [show rng 1 (9 - 1 : Int).toNat = ([1, 2, 3, 4, 5, 6, 7, 8] : List Nat).map fun (n : Nat) => D.int n from rfl, e]
  simp only [okE_ints, deq_ints, show inB 1 = True from eq_true ⟨by decide, by decide⟩, show inB 9 = True from eq_true ⟨by decide, by decide⟩, true_and, decide_eq_true_eq]
  rw [show (ks.mergeSort fun a b => decide (a ≤ b)) = srtI ks from rfl]
  by_cases h0 : ks = srtI ks
  · rw [if_pos h0, if_pos h0]
    rfl
  · rw [if_neg h0, if_neg h0]
    cases firstN (fewP (needK ks) (needK ks.reverse) m) [1, 2, 3, 4, 5, 6, 7, 8] <;> rfl
/-! ### gathered, of any things -/
theorem zipD_fn (e f : Int → D) : ∀ xs : List Int, zipD (xs.map e) (xs.map f) = xs.map fun p => .tup [e p, f p]
  | [] => rfl
  | x :: xs => by
    show D.tup [e x, f x] :: zipD (xs.map e) (xs.map f) = _
    rw [zipD_fn e f xs]
    rfl
theorem lgD_loop {e : Int → D} {g : Int → Int} {xs : List Int} {m : Ma} (hz : xs.length ≤ 1000) : ∀ (is : List Nat) (acc : List Int) (s4 s5 : SV), acc.length + (is.map fun (i : Nat) => (xs.filter fun p => decide (g p = (i : Int))).length).sum ≤ 1000 →
    ∃ s4' s5', ∀ E x, dLoop (dgName 4) b2__law_gathered E x (is.map fun (i : Nat) => D.int (0 + (i : Int))) [.d (.lst (xs.map e)), .d (eM m), .d (.lst (xs.map fun p => .int (g p))), .d (.lst (acc.map e)), s4, s5, .un, .un] =
      E.nx [.d (.lst (xs.map e)), .d (eM m), .d (.lst (xs.map fun p => .int (g p))), .d (.lst ((acc ++ is.flatMap fun (i : Nat) => turned m.1 (xs.filter fun p => decide (g p = (i : Int)))).map e)), s4', s5', .un, .un]
  | [], acc, s4, s5, _ => ⟨s4, s5, fun _ _ => by simp [dLoop]⟩
  | i :: is, acc, s4, s5, h => by
    rw [List.map_cons, List.sum_cons] at h
    have ht : (turned m.1 (xs.filter fun p => decide (g p = (i : Int)))).length = (xs.filter fun p => decide (g p = (i : Int))).length := by unfold turned; split <;> simp
    obtain ⟨u, v, e1⟩ := lgD_loop (e := e) (g := g) (m := m) hz is (acc ++ turned m.1 (xs.filter fun p => decide (g p = (i : Int)))) (.d (.int i)) (.d (.lst ((xs.filter fun p => decide (g p = (i : Int))).map e))) (by rw [List.length_append, ht]; omega)
    refine ⟨u, v, fun E x => ?_⟩
    rw [List.flatMap_cons, ← List.append_assoc, ← e1 E x]
    simp only [List.map_cons, dLoop, b2__law_gathered, Int.zero_add]
    walk_at "y"
    rw [zipD_fn, comp_gen (ρa := fun p => [.d (.lst (xs.map e)), .d (eM m), .d (.lst (xs.map fun p => .int (g p))), .d (.lst (acc.map e)), .d (.int i), s5, .d (e p), .d (.int (g p))]) (p := fun p => decide (g p = (i : Int))) (f := e) (fun _ _ _ => by walk_at "y") (fun a ha K => by
      unfold t1__law_gathered
      walk_at "y") (fun a ha _ K => by walk_at "y") (fun _ _ => rfl)]
    rw [List.nil_append]
    have h1 : acc.length + (xs.filter fun p => decide (g p = (i : Int))).length ≤ lim := Nat.le_trans (show _ ≤ 1000 by omega) (by decide)
    have h2 : xs.length ≤ 100000 := by omega
    walk_at "y"
    cases hm : m.1 <;> simp [turned, h1, h2, okE_kind, okE_tray, deq_tray, List.length_reverse]
theorem fil_sum (xs : List Int) (g : Int → Int) (n : Nat) : ((List.range n).map fun (i : Nat) => (xs.filter fun p => decide (g p = (i : Int))).length).sum ≤ xs.length := by
  have h := sel_sum (xs.map fun p => (p, g p)) n
  rw [List.length_map] at h
  have e : (List.range n).map (List.length ∘ fun (i : Nat) => sel (xs.map fun p => (p, g p)) i) = (List.range n).map fun (i : Nat) => (xs.filter fun p => decide (g p = (i : Int))).length := by
    apply List.map_congr_left
    intro i _
    show (sel (xs.map fun p => (p, g p)) i).length = _
    unfold sel
    rw [List.length_map, List.filter_map, List.length_map]
    rfl
  rw [e] at h
  exact h
theorem sp_law_gatheredD (e : Int → D) (g : Int → Int) (xs : List Int) (m : Ma) (hx : xs.length ≤ 1000) (hm : 0 ≤ m.2 ∧ m.2 ≤ 1000) (k : D → Ev → Prop) (x : KX) : f__law_gathered.go [.d (.lst (xs.map e)), .d (eM m), .d (.lst (xs.map fun p => .int (g p)))] k x = k (.lst ((gathK xs g m.1 m.2.toNat).map e)) [.un, .un, .un] := by
  unfold f__law_gathered d__law_gathered
  walk_at "y"
  have hb : inB m.2 := ⟨by omega, by omega⟩
  have hb2 : m.2.toNat ≤ 100000 := by omega
  have hs := fil_sum xs g m.2.toNat
  obtain ⟨u, v, e1⟩ := lgD_loop (e := e) (g := g) (m := m) hx (List.range m.2.toNat) [] .un .un (by rw [List.length_nil]; omega)
  rw [List.map_nil] at e1
  unfold rng
  rw [e1]
  simp only [hb, hb2, true_and]
  walk_at "y"
  rfl
/-! ### runs by trays, digit by digit -/
def digP (w : Int → Int) (n : Nat) (m : Nat) (k : Nat) : List Int := gathK (rI n) (fun p => w p % ((m ^ k : Nat) : Int)) false (m ^ k)
theorem digP_zero (w : Int → Int) (n m : Nat) : digP w n m 0 = rI n := by
  unfold digP gathK
  rw [Nat.pow_zero, show List.range 1 = [0] from rfl, List.flatMap_cons, List.flatMap_nil, List.append_nil]
  show (rI n).filter (fun p => decide (w p % ((1 : Nat) : Int) = ((0 : Nat) : Int))) = rI n
  exact List.filter_eq_self.mpr fun p _ => decide_eq_true (by omega)
theorem mod_mulZ {w : Int} (hw : 0 ≤ w) (a b : Nat) : w / (a : Int) % (b : Int) * (a : Int) + w % (a : Int) = w % ((a * b : Nat) : Int) := by
  obtain ⟨k, rfl⟩ : ∃ k : Nat, w = k := ⟨w.toNat, by omega⟩
  have h := Nat.mod_mul (x := k) (a := a) (b := b)
  have h2 : k / a % b * a + k % a = k % (a * b) := by rw [h, Nat.mul_comm, Nat.add_comm]
  exact_mod_cast h2
theorem digP_succ {w : Int → Int} {n : Nat} (hw : ∀ p : Int, 0 ≤ p → p < n → 0 ≤ w p) {m : Nat} (hm : 1 ≤ m) (k : Nat) : gathK (digP w n m k) (fun p => w p / ((m ^ k : Nat) : Int) % (m : Int)) false m = digP w n m (k + 1) := by
  have hp : 0 < m ^ k := Nat.pow_pos hm
  unfold digP
  rw [gathK_comp _ _ _ _ _ _ _ (fun c _ => ⟨Int.emod_nonneg _ (by omega), Int.emod_lt_of_pos _ (by omega)⟩), ← Nat.pow_succ]
  apply gathK_congr
  intro c hc
  have hc := mem_rI.mp hc
  show w c / ((m ^ k : Nat) : Int) % (m : Int) * ((m ^ k : Nat) : Int) + (if false = true then _ else w c % ((m ^ k : Nat) : Int)) = _
  rw [if_neg Bool.false_ne_true, mod_mulZ (hw c hc.1 hc.2)]
  rfl
theorem digP_perm (w : Int → Int) (n : Nat) {m : Nat} (hm : 1 ≤ m) (k : Nat) : (digP w n m k).Perm (rI n) := by
  have hp : 0 < m ^ k := Nat.pow_pos hm
  exact gathK_perm fun c _ => ⟨Int.emod_nonneg _ (by omega), Int.emod_lt_of_pos _ (by omega)⟩
theorem digP_gath {ks w : List Int} (hl : w.length = ks.length) {m T : Nat} (hb : ∀ p : Int, 0 ≤ p → p < ks.length → 0 ≤ atZ w p ∧ atZ w p < ((m ^ T : Nat) : Int)) : (digP (atZ w) ks.length m T).map (atZ ks) = gath ks w (false, ((m ^ T : Nat) : Int)) := by
  rw [gath_P ks w hl]
  congr 1
  unfold digP gatP gathK
  rw [Int.toNat_natCast]
  congr 1
  funext i
  show (rI ks.length).filter _ = (rI ks.length).filter _
  apply List.filter_congr
  intro p hp
  have hp := mem_rI.mp hp
  have h := hb p hp.1 hp.2
  show decide (atZ w p % ((m ^ T : Nat) : Int) = (i : Int)) = decide (atZ w p = (i : Int))
  rw [Int.emod_eq_of_lt h.1 h.2]
/-! ### unlike keys are a deck -/
def wideK (l : List Int) : List Int := l.map fun c => 2 * c + 1
theorem wideK_length (l : List Int) : (wideK l).length = l.length := by unfold wideK; rw [List.length_map]
theorem atZ_wide {l : List Int} {p : Int} (h0 : 0 ≤ p) (h1 : p < l.length) : atZ (wideK l) p = 2 * atZ l p + 1 := by
  unfold atZ wideK
  rw [List.getD_eq_getElem?_getD, List.getD_eq_getElem?_getD, List.getElem?_map, List.getElem?_eq_getElem (by omega)]
  rfl
theorem plK_even (l : List Int) (j : Nat) : plK (wideK l) (2 * (j : Int)) = [] := by
  apply plK_nil.mpr
  intro h
  obtain ⟨c, _, e⟩ := List.mem_map.mp h
  omega
theorem plK_high {l : List Int} (h : Cards l) {z : Int} (hz : 2 * (l.length : Int) ≤ z) : plK (wideK l) z = [] := by
  apply plK_nil.mpr
  intro hm
  obtain ⟨c, hc, e⟩ := List.mem_map.mp hm
  have := h.ok c hc
  omega
theorem plK_odd {l : List Int} (h : Cards l) {j : Nat} (hj : j < l.length) : plK (wideK l) (2 * (j : Int) + 1) = [placeF l j] := by
  have hm : (j : Int) ∈ l := h.mem.mpr ⟨by omega, by omega⟩
  have hx := get_idx hm
  have hi : l.idxOf (j : Int) < l.length := List.idxOf_lt_length_of_mem hm
  have one : ∀ p : Int, p ∈ plK (wideK l) (2 * (j : Int) + 1) ↔ p = placeF l j := fun p => by
    rw [mem_plK, wideK_length]
    unfold placeF
    constructor
    · rintro ⟨⟨p0, p1⟩, e⟩
      rw [atZ_wide p0 p1] at e
      have e2 : atZ l p = j := by omega
      unfold atZ at e2
      rw [List.getD_eq_getElem?_getD, List.getElem?_eq_getElem (by omega)] at e2
      have := idx_of_get h.nd (j := p.toNat) (c := (j : Int)) (by rw [List.getElem?_eq_getElem (by omega)]; exact congrArg some e2)
      omega
    · rintro rfl
      refine ⟨⟨by omega, by omega⟩, ?_⟩
      rw [atZ_wide (by omega) (by omega)]
      unfold atZ
      rw [Int.toNat_natCast, List.getD_eq_getElem?_getD, hx]
      rfl
  have asc := asc_plK (wideK l) (2 * (j : Int) + 1)
  cases hq : plK (wideK l) (2 * (j : Int) + 1) with
  | nil =>
    have := (one _).mpr rfl
    rw [hq] at this
    cases this
  | cons a r =>
    have ha : a = placeF l j := (one a).mp (by rw [hq]; exact List.mem_cons_self)
    cases r with
    | nil => rw [ha]
    | cons b r =>
      have hb : b = placeF l j := (one b).mp (by rw [hq]; simp)
      rw [hq] at asc
      have := (List.pairwise_cons.mp asc).1 b List.mem_cons_self
      omega
theorem runL_app (ks : List Int) : ∀ (as bs : List Int) (P L : Int), runL ks (as ++ bs) P L = runL ks bs (runL ks as P L).1 (runL ks as P L).2
  | [], _, _, _ => rfl
  | a :: as, bs, P, L => by
    show (if plK ks a = [] then runL ks (as ++ bs) P L else runL ks (as ++ bs) (newP ks P L a) (newL ks L a)) = _
    rw [show runL ks (a :: as) P L = if plK ks a = [] then runL ks as P L else runL ks as (newP ks P L a) (newL ks L a) from rfl]
    by_cases h : plK ks a = []
    · rw [if_pos h, if_pos h, runL_app ks as]
    · rw [if_neg h, if_neg h, runL_app ks as]
theorem wide_run {l : List Int} (h : Cards l) : ∀ j : Nat, j < l.length → runL (wideK l) (rI (2 * (j + 1))) 0 (-1) = (labF (placeF l) false j, placeF l j)
  | 0, hj => by
    rw [show rI (2 * (0 + 1)) = [2 * ((0 : Nat) : Int), 2 * ((0 : Nat) : Int) + 1] from rfl]
    unfold runL
    rw [if_pos (plK_even l 0)]
    unfold runL
    rw [if_neg (by rw [plK_odd h hj]; simp)]
    have e : erK (wideK l) (-1) (2 * ((0 : Nat) : Int) + 1) = [] := by
      unfold erK
      rw [plK_odd h hj]
      have : ¬ placeF l 0 < -1 := by unfold placeF; omega
      simp [this]
    unfold runL newP newL
    rw [if_pos e, e, plK_odd h hj]
    rfl
  | j + 1, hj => by
    rw [show rI (2 * (j + 1 + 1)) = rI (2 * (j + 1)) ++ [2 * ((j + 1 : Nat) : Int), 2 * ((j + 1 : Nat) : Int) + 1] by
      rw [show 2 * (j + 1 + 1) = 2 * (j + 1) + 1 + 1 by omega, rI_succ, rI_succ, List.append_assoc]
      congr 1, runL_app, wide_run h j (by omega)]
    show runL (wideK l) [2 * ((j + 1 : Nat) : Int), 2 * ((j + 1 : Nat) : Int) + 1] (labF (placeF l) false j) (placeF l j) = _
    unfold runL
    rw [if_pos (plK_even l (j + 1))]
    unfold runL
    rw [if_neg (by rw [plK_odd h hj]; simp)]
    unfold runL newP newL erK
    rw [plK_odd h hj]
    show _ = (labF (placeF l) false j + (if stepB false (placeF l j) (placeF l (j + 1)) = true then 1 else 0), placeF l (j + 1))
    show ((if [placeF l (j + 1)].filter (fun p => decide (p < placeF l j)) = [] then _ else _), _) = _
    by_cases hp : placeF l (j + 1) < placeF l j
    · have e : [placeF l (j + 1)].filter (fun p => decide (p < placeF l j)) = [placeF l (j + 1)] := by simp [hp]
      rw [e, if_neg (by simp), if_pos (show stepB false (placeF l j) (placeF l (j + 1)) = true from decide_eq_true hp)]
      rfl
    · have e : [placeF l (j + 1)].filter (fun p => decide (p < placeF l j)) = [] := by simp [hp]
      rw [e, if_pos rfl, if_neg (show ¬ stepB false (placeF l j) (placeF l (j + 1)) = true by show ¬ decide (placeF l (j + 1) < placeF l j) = true; simpa using hp), Int.add_zero]
      rfl
theorem runL_none (ks : List Int) : ∀ (zs : List Int) (P L : Int), (∀ z ∈ zs, plK ks z = []) → runL ks zs P L = (P, L)
  | [], _, _, _ => rfl
  | z :: zs, P, L, h => by
    unfold runL
    rw [if_pos (h z List.mem_cons_self)]
    exact runL_none ks zs P L fun a ha => h a (List.mem_cons_of_mem _ ha)
theorem need_wide {l : List Int} (h : Cards l) : needK (wideK l) = risingN l := by
  have h1 := h.pos
  have h2 := h.few
  obtain ⟨j, hj⟩ : ∃ j, l.length = j + 1 := ⟨l.length - 1, by omega⟩
  have hs : ∀ n k : Nat, rI (n + k) = rI n ++ (rI k).map fun (i : Int) => (n : Int) + i := fun n k => by
    induction k with
    | zero => simp [rI]
    | succ k ih => rw [show n + (k + 1) = n + k + 1 by omega, rI_succ, ih, rI_succ, List.map_append, List.append_assoc]; simp
  unfold needK
  rw [topK_run, show (100 : Nat) = 2 * (j + 1) + (100 - 2 * (j + 1)) by omega, hs, runL_app, wide_run h j (by omega), runL_none _ _ _ _ fun z hz => plK_high h (by
    obtain ⟨i, hi, rfl⟩ := List.mem_map.mp hz
    have := mem_rI.mp hi
    omega)]
  show labF (placeF l) false j + 1 = _
  rw [← lastL_tray h]
  unfold lastL
  rw [hj]
  rfl
theorem wide_rev (l : List Int) : (wideK l).reverse = wideK l.reverse := by unfold wideK; rw [List.map_reverse]
theorem need_wide_rev {l : List Int} (h : Cards l) : needK (wideK l).reverse = fallingN l := by
  rw [wide_rev, need_wide (h.perm (List.reverse_perm l)), rising_rev h]
theorem wide_sorted {l : List Int} (h : Cards l) : (wideK l = srtI (wideK l)) ↔ l = rI l.length := by
  constructor
  · intro e
    have hp := srtI_asc (wideK l)
    rw [← e] at hp
    unfold wideK at hp
    rw [List.pairwise_map] at hp
    refine sort_one ?_ (hp.imp fun h => by omega) ((rI_asc l.length).imp fun h => Int.le_of_lt h)
    exact h.perm_rI
  · intro e
    refine sort_one (srtI_perm _).symm ?_ (srtI_asc _)
    rw [e]
    unfold wideK
    rw [List.pairwise_map]
    exact (rI_asc l.length).imp fun h => by omega
theorem few_wide {l : List Int} (h : Cards l) (m : Ma) : fewKy (wideK l) m = fewL l m := by
  unfold fewKy fewL
  rw [need_wide h, need_wide_rev h]
  congr 1
  exact decide_eq_decide.mpr (wide_sorted h)
/-! ### sorted keys need one pocket -/
theorem need_sorted {ks : List Int} (h1 : 1 ≤ ks.length) (h2 : ∀ z ∈ ks, 0 ≤ z ∧ z < 100) (hs : ks = srtI ks) : needK ks ≤ 1 := by
  have hp := srtI_asc ks
  rw [← hs] at hp
  have := few_keys (keys_ds h2) (List.ne_nil_of_length_pos h1) (R := 1) (w := List.replicate ks.length 0) ⟨List.length_replicate, fun z hz => by
    rw [(List.mem_replicate.mp hz).2]
    exact ⟨Int.le_refl _, by show (0 : Int) < 1; decide⟩⟩ (fun a b a0 a1 b0 b1 hab => by
    right
    have z : ∀ p : Int, atZ (List.replicate ks.length (0 : Int)) p = 0 := fun p => by
      unfold atZ
      rw [List.getD_eq_getElem?_getD, List.getElem?_replicate]
      split <;> rfl
    rw [z, z]
    refine ⟨rfl, ?_⟩
    rcases Int.lt_trichotomy a b with y | y | y
    · exact y
    · subst y; omega
    · exfalso
      unfold atZ at hab
      rw [List.getD_eq_getElem?_getD, List.getD_eq_getElem?_getD, List.getElem?_eq_getElem (by omega), List.getElem?_eq_getElem (by omega)] at hab
      have := List.pairwise_iff_getElem.mp hp b.toNat a.toNat (by omega) (by omega) (by omega)
      simp only [Option.getD_some] at hab
      omega)
  unfold needK
  omega
def tail71 : DS := (dSeq (dSet 9 (dCall f__law_cards [] (mD (dVar 0) (mM 1 (mD (dC (.int 40)) mNil))))) (dSeq (dSet 10 (dMake f_Deck_init (lCons (dVar 9) lNil))) (dSeq (dSet 11 (dL (oComp (iL (dVar 9)) (dgName 15) dtYes q4_law [15]))) (dSeq (dSet 5 (dCallP f_fewest_by_keys [] (lCons (dVar 11) (lCons (dOp fIx (dVar 4) (dC (.int 0))) (lCons (dOp fIx (dVar 4) (dC (.int 1))) lNil))))) (dRet (dAnd (dOp fEq (dVar 5) (dCallP f_fewest [] (lCons (dVar 10) (lCons (dOp fIx (dVar 4) (dC (.int 0))) (lCons (dOp fIx (dVar 4) (dC (.int 1))) lNil))))) (dOp fEq (dCallP f_needed [] (lCons (dVar 11) lNil)) (dMeth f_Deck_rising (dVar 10) lNil))))))))
theorem tail71_eq : (dSeq (dSet 9 (dCall f__law_cards [] (mD (dVar 0) (mM 1 (mD (dC (.int 40)) mNil))))) (dSeq (dSet 10 (dMake f_Deck_init (lCons (dVar 9) lNil))) (dSeq (dSet 11 (dL (oComp (iL (dVar 9)) (dgName 15) dtYes q4_law [15]))) (dSeq (dSet 5 (dCallP f_fewest_by_keys [] (lCons (dVar 11) (lCons (dOp fIx (dVar 4) (dC (.int 0))) (lCons (dOp fIx (dVar 4) (dC (.int 1))) lNil))))) (dRet (dAnd (dOp fEq (dVar 5) (dCallP f_fewest [] (lCons (dVar 10) (lCons (dOp fIx (dVar 4) (dC (.int 0))) (lCons (dOp fIx (dVar 4) (dC (.int 1))) lNil))))) (dOp fEq (dCallP f_needed [] (lCons (dVar 11) lNil)) (dMeth f_Deck_rising (dVar 10) lNil)))))))) = tail71 := rfl
theorem keys71 {ss : List Int} {n : Nat} {top : Int} {k : List D → Ev → Prop} (h1 : ss.length = n) (h2 : n ≤ 63) (hm : 0 < top) (hm2 : top ≤ 100) : ∀ (js : List D) (acc : List Int) (g : Nat), js.length ≤ g → (∀ j ∈ js, ∃ i : Int, j = .int i) →
    (∀ w : List Int, w.length = acc.length + js.length → (∀ x ∈ w, x ∈ acc ∨ (0 ≤ x ∧ x < top)) → k (w.map .int) [.d (.scr ss), .town (g - js.length) n, .d (.int top), .un, .un, .un, .un, .un, .un, .un, .un, .un, .un, .un, .un, .un]) →
    dCompGo (dgName 8) dtYes q1_law [8] k js (acc.map D.int) [.d (.scr ss), .town g n, .d (.int top), .un, .un, .un, .un, .un, .un, .un, .un, .un, .un, .un, .un, .un]
  | [], acc, g, _, _, h => by
    exact h acc (by simp) (fun a ha => .inl ha)
  | j :: js, acc, g, hg, hj, h => by
    rw [List.length_cons] at hg
    obtain ⟨i, rfl⟩ := hj j List.mem_cons_self
    unfold dCompGo q1_law
    walk_at "b"
    refine draw_ok h1 h2 hm (by omega) (by omega) fun r r0 r1 => ?_
    walk_at "b"
    have ih := keys71 (k := k) h1 h2 hm hm2 js (acc ++ [r]) (g - 1) (by omega) (fun a ha => hj a (List.mem_cons_of_mem _ ha)) (fun w hl hm' => by
      have := h w (by rw [hl, List.length_append]; simp; omega) (fun b hb => by
        rcases hm' b hb with z | z
        · rcases List.mem_append.mp z with z | z
          · exact .inl z
          · rw [List.mem_singleton] at z; subst z; exact .inr ⟨r0, r1⟩
        · exact .inr z)
      rw [show g - 1 - js.length = g - (D.int i :: js).length by rw [List.length_cons]; omega]
      exact this)
    rw [List.map_append] at ih
    unfold q1_law at ih
    exact ih
theorem tail71_ok {ns : List Int} (hn : ns.length ≤ 63) {g : Nat} (hg : 1000 ≤ g) {m : Ma} (hm : Mach m) {v2 v3 v5 v6 v7 v8 : SV} (E : DEnds) (x : KX) (hE : ∀ ρ, E.rt (.bl true) ρ) :
    tail71 E x [.d (.scr ns), .town g ns.length, v2, v3, .d (eM m), v5, v6, v7, v8, .un, .un, .un, .un, .un, .un, .un] := by
  unfold tail71
  walk_at "y"
  refine sp_law_cards rfl hn (by decide) (by decide) (by omega) fun l g' hl hll hg' => ?_
  have h1 := hl.pos
  have h2 := hl.few
  have w1 : 1 ≤ (wideK l).length ∧ (wideK l).length ≤ 40 := by rw [wideK_length]; exact ⟨h1, h2⟩
  have w2 : ∀ z ∈ wideK l, 0 ≤ z ∧ z < 100 := fun z hz => by
    obtain ⟨c, hc, rfl⟩ := List.mem_map.mp hz
    have := hl.ok c hc
    omega
  try walk_at "y"
  rw [sp_Deck_init l hl]
  try walk_at "y"
  have hw : ∀ c ∈ l, CMulW 2 c := fun c hc => mulW 2 40 (by decide) (by have := hl.ok c hc; omega) (by decide) (by decide) (by decide)
  rw [comp_map (ρa := fun c => [.d (.scr ns), .town g' ns.length, v2, v3, .d (eM m), v5, v6, v7, v8, .d (eL l), .d (eK l), .un, .un, .un, .un, .d (.int c)]) (f := fun c => D.int (2 * c + 1)) (fun _ _ _ => rfl) (fun c hc K => by
    unfold q4_law
    walk_at "y"
    simp only [hw c hc, true_and]) (fun _ _ => rfl)]
  rw [List.nil_append, show (l.map fun c => D.int (2 * c + 1)) = (wideK l).map D.int by unfold wideK; rw [List.map_map]; rfl]
  try walk_at "y"
  rw [sp_fewest_by_keys w1 w2 m hm]
  try walk_at "y"
  rw [sp_fewest l m hl hm, few_wide hl]
  try walk_at "y"
  rw [sp_needed w1 w2]
  try walk_at "y"
  rw [sp_Deck_rising l hl, show topK (wideK l) (dsK (wideK l)) + 1 = needK (wideK l) from rfl, need_wide hl]
  try walk_at "y"
  simp only [okE_optD, deq_optD, okE_int, deq_int, true_and, decide_true]
  refine ⟨by omega, ?_⟩
  rw [if_pos trivial]
  exact hE _
theorem radix71 {ks w : List Int} (hk : ks.length ≤ 40) (hw : ∀ p : Int, 0 ≤ p → p < ks.length → 0 ≤ atZ w p) {m : Nat} (hm1 : 1 ≤ m) (hm2 : m ≤ 300) {v0 v1 v2 v3 v5 v6 : SV} : ∀ (c i : Nat) (s8 : SV), i + c ≤ 7 →
    ∃ s8', ∀ E x, dLoop (dgName 8) b3_law E x ((List.range c).map fun (j : Nat) => D.int ((i : Int) + (j : Int))) [v0, v1, v2, v3, .d (eM (false, (m : Int))), v5, v6, .d (.lst ((digP (atZ w) ks.length m i).map fun p => .tup [.int (atZ ks p), .int (atZ w p)])), s8, .un, .un, .un, .un, .un, .un, .un] =
      E.nx [v0, v1, v2, v3, .d (eM (false, (m : Int))), v5, v6, .d (.lst ((digP (atZ w) ks.length m (i + c)).map fun p => .tup [.int (atZ ks p), .int (atZ w p)])), s8', .un, .un, .un, .un, .un, .un, .un]
  | 0, i, s8, _ => ⟨s8, fun _ _ => by simp [dLoop]⟩
  | c + 1, i, s8, h1 => by
    obtain ⟨u, e⟩ := radix71 hk hw hm1 hm2 (v0 := v0) (v1 := v1) (v2 := v2) (v3 := v3) (v5 := v5) (v6 := v6) c (i + 1) (.d (.int i)) (by omega)
    refine ⟨u, fun E x => ?_⟩
    rw [List.range_succ_eq_map, List.map_cons, List.map_map]
    have es : (fun (j : Nat) => D.int ((i : Int) + (j : Int))) ∘ Nat.succ = fun (j : Nat) => D.int (((i + 1 : Nat) : Int) + (j : Int)) := by
      funext j
      show D.int ((i : Int) + ((j + 1 : Nat) : Int)) = _
      congr 1
      omega
    rw [es, show (i : Int) + ((0 : Nat) : Int) = i by omega, show i + (c + 1) = i + 1 + c by omega, ← e E x]
    have hlen : (digP (atZ w) ks.length m i).length = ks.length := by rw [(digP_perm _ _ hm1 i).length_eq, rI_length]
    have hpp : 0 < m ^ i := Nat.pow_pos hm1
    have hpl : m ^ i < 2 ^ 100 := by
      have h2 : m ^ i ≤ 2 ^ (9 * i) := pow_lt2 (show m < 2 ^ 9 by omega)
      exact Nat.lt_of_le_of_lt h2 (Nat.pow_lt_pow_right (by decide) (by omega))
    have hd1 : ∀ b : Int, CDivW b ((m ^ i : Nat) : Int) := fun b => ⟨by omega, Nat.lt_of_lt_of_le (log2_lt (a := 100) (by decide) (by rw [Int.natAbs_natCast]; exact hpl)) (by decide)⟩
    have hd2 : ∀ b : Int, CDivW b (m : Int) := fun b => ⟨by omega, Nat.lt_of_lt_of_le (log2_lt (a := 100) (by decide) (by rw [Int.natAbs_natCast]; omega)) (by decide)⟩
    have hpw : (m : Int) ^ i = ((m ^ i : Nat) : Int) := (Int.natCast_pow m i).symm
    simp only [dLoop, b3_law]
    walk_at "y"
    rw [comp_map (ρa := fun p => [v0, v1, v2, v3, .d (eM (false, (m : Int))), v5, v6, .d (.lst ((digP (atZ w) ks.length m i).map fun p => .tup [.int (atZ ks p), .int (atZ w p)])), .d (.int i), .un, .un, .un, .d (.tup [.int (atZ ks p), .int (atZ w p)]), .un, .un, .un]) (f := fun p => D.int (atZ w p / ((m ^ i : Nat) : Int) % (m : Int))) (fun _ _ _ => rfl) (fun p hp K => by
      unfold q2_law
      walk_at "y"
      rw [sp_law_power _ _ (by omega) (by omega) (by omega), Int.toNat_natCast, hpw]
      try walk_at "y"
      simp only [hd1, hd2, show (0 : Int) < (m : Int) by omega, true_and]) (fun _ _ => rfl)]
    rw [List.nil_append]
    try walk_at "y"
    rw [sp_law_gatheredD (fun p => .tup [.int (atZ ks p), .int (atZ w p)]) (fun p => atZ w p / ((m ^ i : Nat) : Int) % (m : Int)) (digP (atZ w) ks.length m i) (false, (m : Int)) (by omega) ⟨by show (0 : Int) ≤ (m : Int); omega, by show (m : Int) ≤ 1000; omega⟩]
    rw [show (((false, (m : Int)) : Ma).2).toNat = m from Int.toNat_natCast m, digP_succ hw hm1]
    try walk_at "y"
    simp only [hlen, show ks.length ≤ 100000 by omega, true_and]
theorem law_ok (ns : List Int) (hn : ns.length ≤ 63) : f_law.go [.d (.scr ns)] (fun d _ => d = .bl true) xF := by
  unfold f_law d_law
  rw [tail71_eq]
  walk_at "y"
  refine ⟨hn, ?_⟩
  generalize hG : (1000000 : Nat) = G
  refine sp_pickN (ms := [2, 4, 10, 100]) rfl hn (by simp) (by simp) (by omega) fun top ht => ?_
  have ht2 : 0 < top ∧ top ≤ 100 := by
    simp at ht
    omega
  try walk_at "y"
  refine draw_ok rfl hn (by decide) (by decide) (by omega) fun r r0 r1 => ?_
  try walk_at "y"
  refine ⟨⟨by omega, by omega⟩, by omega, ?_⟩
  refine keys71 rfl hn ht2.1 ht2.2 (rng 0 (1 + r).toNat) [] (G - 1 - 1) (by rw [rng_length]; omega) (fun j hj => by
    unfold rng at hj
    obtain ⟨i, _, rfl⟩ := List.mem_map.mp hj
    exact ⟨_, rfl⟩) (fun ks hks hks' => ?_)
  rw [rng_length] at hks ⊢
  simp only [List.length_nil, Nat.zero_add] at hks
  have k1 : 1 ≤ ks.length ∧ ks.length ≤ 40 := ⟨by omega, by omega⟩
  have k2 : ∀ z ∈ ks, 0 ≤ z ∧ z < 100 := fun z hz => by
    rcases hks' z hz with y | y
    · cases y
    · omega
  obtain ⟨g, hg, hg2⟩ : ∃ g, g = G - 1 - 1 - (1 + r).toNat ∧ 100000 ≤ g := ⟨_, rfl, by omega⟩
  rw [← hg]
  clear hg
  try walk_at "y"
  refine sp_pickN (ms := [1, 2, 3, 9]) rfl hn (by simp) (by simp) (by omega) fun mp hmp => ?_
  have hmp2 : 0 < mp ∧ mp ≤ 300 := by
    simp at hmp
    omega
  try walk_at "y"
  refine sp_law_machine rfl hn hmp2.1 (by omega) (by omega) fun m hm1 hm2 => ?_
  have hm : Mach m := ⟨hm1, by omega⟩
  try walk_at "y"
  rw [sp_fewest_by_keys k1 k2 m hm]
  try walk_at "y"
  rw [sp_law_fewestK k1 k2 m hm]
  try walk_at "y"
  simp only [okE_optD, deq_optD, true_and]
  rw [if_neg (show ¬ (true = false) by decide)]
  cases hf : fewKy ks m with
  | none =>
    simp only [optD_none, Bool.true_eq_false, if_false]
    rw [sp_needed k1 k2]
    try walk_at "y"
    rw [sp_law_need (by omega), show topK ks (dsK ks) + 1 = needK ks from rfl]
    simp only [okE_int, deq_int, decide_true, true_and, Bool.true_eq_false, if_false]
    exact tail71_ok hn (by omega) hm _ _ fun _ => rfl
  | some T =>
    simp only [optD_some, if_true]
    rw [sp_law_whole]
    try walk_at "y"
    rw [sp_needed k1 k2]
    try walk_at "y"
    rw [sp_law_need (by omega), show topK ks (dsK ks) + 1 = needK ks from rfl]
    simp only [okE_int, deq_int, decide_true, true_and, Bool.true_eq_false, if_false]
    by_cases ht : m.1 = false
    · rw [if_pos ht]
      obtain ⟨mn, hmn⟩ : ∃ mn : Nat, m.2 = (mn : Int) := ⟨m.2.toNat, by omega⟩
      obtain rfl : m = (false, (mn : Int)) := Prod.ext ht hmn
      have K := keys_ds k2
      have hw := wordK_word K
      have hTT : T ≤ 7 ∧ needK ks ≤ (mn : Int) ^ T := by
        unfold fewKy fewF at hf
        by_cases hs : ks = srtI ks
        · rw [decide_eq_true hs] at hf
          cases hf
          have := need_sorted k1.1 k2 hs
          exact ⟨by omega, by rw [Int.pow_zero]; exact this⟩
        · rw [decide_eq_false hs] at hf
          obtain ⟨a1, a2⟩ := firstN_some hf
          simp at a1
          refine ⟨by omega, ?_⟩
          have := of_decide_eq_true a2
          unfold needF at this
          simpa using this
      have hb : ∀ p : Int, 0 ≤ p → p < ks.length → 0 ≤ atZ (wordK ks (dsK ks)) p ∧ atZ (wordK ks (dsK ks)) p < ((mn ^ T : Nat) : Int) := fun p p0 p1 => by
        have := hw.2 _ (atZ_mem p0 (by rw [hw.1]; exact p1))
        have h2 : atZ (wordK ks (dsK ks)) p < needK ks := this.2
        rw [Int.natCast_pow]
        exact ⟨this.1, Int.lt_of_lt_of_le h2 hTT.2⟩
      rw [sp_word_by_keys k1 k2]
      try walk_at "y"
      rw [zipD_ints, zip_rI ks _ hw.1, List.map_map]
      obtain ⟨u8, e8⟩ := radix71 (ks := ks) (w := wordK ks (dsK ks)) k1.2 (fun p p0 p1 => (hb p p0 p1).1) (m := mn) (by omega) (by omega) (v0 := .d (.scr ns)) (v1 := .town (g - 1 - 2) ns.length) (v2 := .d (.int top)) (v3 := .d (eL ks)) (v5 := .d (.int T)) (v6 := .d (eL (wordK ks (dsK ks)))) T 0 .un (by omega)
      rw [digP_zero, Nat.zero_add] at e8
      have hb3 : inB (T : Int) := ⟨by omega, by omega⟩
      rw [show rng 0 ((T : Int)).toNat = (List.range T).map fun (j : Nat) => D.int (((0 : Nat) : Int) + (j : Int)) from rfl]
      rw [show ((fun (p : Int × Int) => D.tup [.int p.1, .int p.2]) ∘ fun (p : Int) => (atZ ks p, atZ (wordK ks (dsK ks)) p)) = fun p => D.tup [.int (atZ ks p), .int (atZ (wordK ks (dsK ks)) p)] from rfl]
      simp only [hb3, true_and]
      rw [e8]
      try walk_at "y"
      have hlen : (digP (atZ (wordK ks (dsK ks))) ks.length mn T).length = ks.length := by rw [(digP_perm _ _ (by omega) T).length_eq, rI_length]
      have hwR : Word (wordK ks (dsK ks)) ks.length (false, ((mn ^ T : Nat) : Int)) := ⟨hw.1, fun i hi => by
        obtain ⟨q, hq, rfl⟩ := mem_atZ hi
        rw [hw.1] at hq
        exact hb q hq.1 hq.2⟩
      refine ⟨by omega, ?_⟩
      rw [comp_map (ρa := fun p => [.d (.scr ns), .town (g - 1 - 2) ns.length, .d (.int top), .d (eL ks), .d (eM (false, (mn : Int))), .d (.int T), .d (eL (wordK ks (dsK ks))), .d (.lst ((digP (atZ (wordK ks (dsK ks))) ks.length mn T).map fun p => D.tup [.int (atZ ks p), .int (atZ (wordK ks (dsK ks)) p)])), u8, .un, .un, .un, .un, .d (.int (atZ ks p)), .d (.int (atZ (wordK ks (dsK ks)) p)), .un]) (f := fun p => D.int (atZ ks p)) (fun _ _ _ => by walk_at "y") (fun p hp K => by walk_at "y") (fun _ _ => rfl)]
      rw [List.nil_append, show ((digP (atZ (wordK ks (dsK ks))) ks.length mn T).map fun p => D.int (atZ ks p)) = ((digP (atZ (wordK ks (dsK ks))) ks.length mn T).map (atZ ks)).map D.int by rw [List.map_map]; rfl, digP_gath hw.1 hb]
      try walk_at "y"
      rw [isort_ex, show (ks.mergeSort fun a b => decide (a ≤ b)) = srtI ks from rfl, (gath_valid hwR (srtI_perm ks) (srtI_asc ks)).mpr (wordK_valid K)]
      simp only [okE_ints, deq_ints, decide_true, true_and, Bool.true_eq_false, if_false]
      exact tail71_ok hn (by omega) hm _ _ fun _ => rfl
    · rw [if_neg ht]
      exact tail71_ok hn (by omega) hm _ _ fun _ => rfl
end Y
namespace Y
open PySem PySem.Spec PyProof.Rows L2
def topS (i : Nat) : Stmt := PySem.Challenge.pw_pocketrow_k71_whole_fewest_by_keys.main.body.getD i (.Pass ⟨0, 0, 0, 0⟩)

structure Bl (G : GC) : Prop where
  b_all : G.mg "all" = none
  b_bool : G.mg "bool" = none
  b_enumerate : G.mg "enumerate" = none
  b_int : G.mg "int" = none
  b_isinstance : G.mg "isinstance" = none
  b_len : G.mg "len" = none
  b_list : G.mg "list" = none
  b_max : G.mg "max" = none
  b_min : G.mg "min" = none
  b_range : G.mg "range" = none
  b_set : G.mg "set" = none
  b_sorted : G.mg "sorted" = none
  b_str : G.mg "str" = none
  b_tuple : G.mg "tuple" = none
  b_zip : G.mg "zip" = none
  c_MOST_CARDS : ∃ t, G.mg "MOST_CARDS" = some (.int 40 t)
  c_MOST_POCKETS : ∃ t, G.mg "MOST_POCKETS" = some (.int 300 t)
  c_MOST_RUNS : ∃ t, G.mg "MOST_RUNS" = some (.int 8 t)
  dk : DkOk G
  di : DkIs G
  dne : PySem.W.findIn G.K (.ref G.dk) "__ne__" = some (some (.builtin "object.__ne__"))
  b_Deck : G.mg "Deck" = some (.ref G.dk)

abbrev s_is_number : Stmt := topS 7
abbrev N_is_number : List Str := ["thing", "least", "most"]
theorem sc_is_number : FnScope ["thing", "least", "most"] ["thing", "least", "most"] (defScope s_is_number) := ⟨rfl, rfl, rfl, by decide +kernel, rfl, by decide +kernel, by decide +kernel⟩
theorem c_is_number {P : Program} {w : World} {base : Heap} {G : GC} (bl : Bl G) {f : Addr} {fd : FuncData} (T : DefAt G.K "is_number" "is_number" s_is_number f fd) (hm : G.mg "is_number" = some (.ref f)) : Cal P w G.K G.mg base G 1 "is_number" ["thing", "least", "most"] f_is_number :=
  mk_cal [] d_is_number T hm sc_is_number (by decide) (fun _ _ _ _ _ _ us hl => match us, hl with | [_, _, _], _ => rfl) fun cdv A outer s H E hr =>
  (ss_one (s_ret (e_and (e_isi .int rfl bl.b_isinstance bl.b_int (by decide +kernel) (e_var 0) (by rfl) (by rfl) (by decide) (by decide)) (e_and (e_not (e_isi .bool rfl bl.b_isinstance bl.b_bool (by decide +kernel) (e_var 0) (by rfl) (by rfl) (by decide) (by decide))) (e_one (e_chain op_le ok_intB op_le ok_intB (e_var 1) (e_var 0) (e_var 2)))))))

abbrev s_Deck_places : Stmt := inClass (topS 9) 6
abbrev N_Deck_places : List Str := ["self", "found", "place", "card"]
theorem sc_Deck_places : FnScope ["self", "found", "place", "card"] ["self"] (defScope s_Deck_places) := ⟨rfl, rfl, rfl, by decide +kernel, rfl, by decide +kernel, by decide +kernel⟩
theorem c_Deck_places {P : Program} {w : World} {base : Heap} {G : GC} (bl : Bl G) {f : Addr} {fd : FuncData} (T : MetAt G.K G.dk "places" "Deck.places" s_Deck_places f fd) : CalM P w G.K G.mg base G 1 "places" ["self"] f_Deck_places :=
  mk_calM [] d_Deck_places T sc_Deck_places (by decide) (fun _ _ _ _ _ _ us hl => match us, hl with | [_], _ => rfl) fun cdv A outer s H E hr =>
  (ss_cons (s_setLcO 1 [("card", 3)] rfl sc_Deck_places.nd (tg_name (by decide)) (sw_true rfl rfl rfl (by decide +kernel)) (i_list rfl (e_fld bl.dk rfl (e_var 0))) (blkOk_by (own := [("card", 3)]) (N := N_Deck_places) (sc := defScope s_Deck_places) (by decide +kernel)) (fun _ _ _ _ _ => pg_name (i := 3) sc_Deck_places.nd rfl (by first | exact Or.inl rfl | exact Or.inr rfl)) (fun _ _ _ _ _ => ts_nil) (fun _ _ _ _ _ => e_int))
  (ss_cons (s_for (passes_of rfl) rfl (i_enum rfl bl.b_enumerate (l_cons (e_fld bl.dk rfl (e_var 0)) l_nil)) (g_tup 2 rfl (gs_cons (g_name 2 sc_Deck_places.nd) (gs_cons (g_name 3 sc_Deck_places.nd) gs_nil))) (ss_one (s_setIx 1 (e_var 2) (e_var 3))))
  (ss_one (s_ret (e_frz 1)))))

abbrev s_Deck_in_order : Stmt := inClass (topS 9) 9
abbrev N_Deck_in_order : List Str := ["self"]
theorem sc_Deck_in_order : FnScope ["self"] ["self"] (defScope s_Deck_in_order) := ⟨rfl, rfl, rfl, by decide +kernel, rfl, by decide +kernel, by decide +kernel⟩
theorem c_Deck_in_order {P : Program} {w : World} {base : Heap} {G : GC} (bl : Bl G) {f : Addr} {fd : FuncData} (T : MetAt G.K G.dk "in_order" "Deck.in_order" s_Deck_in_order f fd) : CalM P w G.K G.mg base G 1 "in_order" ["self"] f_Deck_in_order :=
  mk_calM [] d_Deck_in_order T sc_Deck_in_order (by decide) (fun _ _ _ _ _ _ us hl => match us, hl with | [_], _ => rfl) fun cdv A outer s H E hr =>
  (ss_one (s_ret (e_cmp (op_eqD hr.units) ok_eq (e_fld bl.dk rfl (e_var 0)) (e_L (eo_lr1 rfl bl.b_list bl.b_range (e_cB call_lenA ok_len bl.b_len (by decide +kernel) (l_cons (e_fld bl.dk rfl (e_var 0)) l_nil)))))))

abbrev s_power : Stmt := topS 13
abbrev N_power : List Str := ["number", "many", "found", "k"]
theorem sc_power : FnScope ["number", "many", "found", "k"] ["number", "many"] (defScope s_power) := ⟨rfl, rfl, rfl, by decide +kernel, rfl, by decide +kernel, by decide +kernel⟩
theorem c_power {P : Program} {w : World} {base : Heap} {G : GC} (bl : Bl G) {f : Addr} {fd : FuncData} (T : DefAt G.K "power" "power" s_power f fd) (hm : G.mg "power" = some (.ref f)) : Cal P w G.K G.mg base G 1 "power" ["number", "many"] f_power :=
  mk_cal [] d_power T hm sc_power (by decide) (fun _ _ _ _ _ _ us hl => match us, hl with | [_, _], _ => rfl) fun cdv A outer s H E hr =>
  (ss_cons (s_set 2 sc_power.nd e_int)
  (ss_cons (s_for (passes_of rfl) rfl (i_rng1 bl.b_range (l_cons (e_var 1) l_nil)) (g_name 3 sc_power.nd) (ss_one (s_aug 2 sc_power.nd iop_mulW ok_int (e_var 0))))
  (ss_one (s_ret (e_var 2)))))

abbrev s_dealt_out : Stmt := topS 21
abbrev N_dealt_out : List Str := ["keys", "found", "pocket", "last", "key", "places", "early", "place", "one"]
theorem sc_dealt_out : FnScope ["keys", "found", "pocket", "last", "key", "places", "early", "place", "one"] ["keys"] (defScope s_dealt_out) := ⟨rfl, rfl, rfl, by decide +kernel, rfl, by decide +kernel, by decide +kernel⟩
theorem c_dealt_out {P : Program} {w : World} {base : Heap} {G : GC} (bl : Bl G) {f : Addr} {fd : FuncData} (T : DefAt G.K "dealt_out" "dealt_out" s_dealt_out f fd) (hm : G.mg "dealt_out" = some (.ref f)) : Cal P w G.K G.mg base G 1 "dealt_out" ["keys"] f_dealt_out :=
  mk_cal [] d_dealt_out T hm sc_dealt_out (by decide) (fun _ _ _ _ _ _ us hl => match us, hl with | [_], _ => rfl) fun cdv A outer s H E hr =>
  (ss_cons (s_setLcO 1 [("key", 4)] rfl sc_dealt_out.nd (tg_name (by decide)) (sw_true rfl rfl rfl (by decide +kernel)) (i_list rfl (e_var 0)) (blkOk_by (own := [("key", 4)]) (N := N_dealt_out) (sc := defScope s_dealt_out) (by decide +kernel)) (fun _ _ _ _ _ => pg_name (i := 4) sc_dealt_out.nd rfl (by first | exact Or.inl rfl | exact Or.inr rfl)) (fun _ _ _ _ _ => ts_nil) (fun _ _ _ _ _ => e_int))
  (ss_cons (s_set 2 sc_dealt_out.nd e_int)
  (ss_cons (s_set 3 sc_dealt_out.nd (e_neg e_int))
  (ss_cons (s_for (passes_of rfl) rfl (i_list rfl (e_L (eo_sortSet rfl rfl bl.b_sorted bl.b_set (e_var 0)))) (g_name 4 sc_dealt_out.nd) (ss_cons (s_setLc 5 [("place", 7), ("one", 8)] rfl sc_dealt_out.nd (tg_tup2 (by decide) (by decide)) (sw_true rfl rfl rfl (by decide +kernel)) (i_enum rfl bl.b_enumerate (l_cons (e_var 0) l_nil)) (blkOk_by (own := [("place", 7), ("one", 8)]) (N := N_dealt_out) (sc := defScope s_dealt_out) (by decide +kernel)) (fun _ _ _ _ _ => pg_tup rfl (pgs_cons (pg_name (i := 7) sc_dealt_out.nd rfl (by first | exact Or.inl rfl | exact Or.inr rfl)) (pgs_cons (pg_name (i := 8) sc_dealt_out.nd rfl (by first | exact Or.inl rfl | exact Or.inr rfl)) pgs_nil))) (fun _ _ _ _ _ => ts_one (t_cmp (op_eqD hr.units) ok_eq (e_var 8) (e_var 4))) (fun _ _ _ _ _ => (e_var 7)))
  (ss_cons (s_setLc 6 [("place", 7)] rfl sc_dealt_out.nd (tg_name (by decide)) (sw_true rfl rfl rfl (by decide +kernel)) (i_list rfl (e_var 5)) (blkOk_by (own := [("place", 7)]) (N := N_dealt_out) (sc := defScope s_dealt_out) (by decide +kernel)) (fun _ _ _ _ _ => pg_name (i := 7) sc_dealt_out.nd rfl (by first | exact Or.inl rfl | exact Or.inr rfl)) (fun _ _ _ _ _ => ts_one (t_cmp op_lt ok_intB (e_var 7) (e_var 3))) (fun _ _ _ _ _ => (e_var 7)))
  (ss_cons (s_for (passes_of rfl) rfl (i_list rfl (e_var 5)) (g_name 7 sc_dealt_out.nd) (ss_one (s_setIx 1 (e_op op_addA ok_add (e_var 2) (e_callTy call_int1 ok_int1 bl.b_int (by decide +kernel) (l_cons (e_cmp op_in_seq ok_in (e_var 7) (e_var 6)) l_nil))) (e_var 7))))
  (ss_cons (s_if (t_cmp (op_neD hr.units) ok_ne (e_var 6) (e_L (eo_lst l_nil))) (ss_one (s_aug 2 sc_dealt_out.nd iop_add ok_int0 e_int)) ss_nil)
  (ss_one (s_set 3 sc_dealt_out.nd (e_maxDef rfl rfl hr.units bl.b_max (e_var 6) (e_cB (cr_max rfl) ok_max1 bl.b_max (by decide +kernel) (l_cons (e_var 5) l_nil))))))))))
  (ss_one (s_ret (e_frz 1)))))))

abbrev s__law_town : Stmt := topS 26
abbrev N__law_town : List Str := ["_law_script"]
theorem sc__law_town : FnScope ["_law_script"] ["_law_script"] (defScope s__law_town) := ⟨rfl, rfl, rfl, by decide +kernel, rfl, by decide +kernel, by decide +kernel⟩
theorem c__law_town {P : Program} {w : World} {base : Heap} {G : GC} (bl : Bl G) {f : Addr} {fd : FuncData} (T : DefAt G.K "_law_town" "_law_town" s__law_town f fd) (hm : G.mg "_law_town" = some (.ref f)) : CalT P w G.K G.mg base 1 "_law_town" ["_law_script"] :=
  mk_calT T hm sc__law_town rfl rfl (fun _ _ _ _ _ _ us hl => match us, hl with | [_], _ => rfl) fun cdv A outer s H E hr => pss_one (ps_ret (pe_op op_cat (pe_lst (pa_cons pe_int pa_nil)) (pe_callTy call_list_of (by rfl) bl.b_list (by decide +kernel) (pa_cons (pv 0) pa_nil))))

abbrev s__law_draw : Stmt := topS 27
abbrev N__law_draw : List Str := ["_law_script", "_law_town_here", "_law_many", "_law_at", "_law_left", "_law_number"]
theorem sc__law_draw : FnScope ["_law_script", "_law_town_here", "_law_many", "_law_at", "_law_left", "_law_number"] ["_law_script", "_law_town_here", "_law_many"] (defScope s__law_draw) := ⟨rfl, rfl, rfl, by decide +kernel, rfl, by decide +kernel, by decide +kernel⟩
theorem c__law_draw {P : Program} {w : World} {base : Heap} {G : GC} (bl : Bl G) {f : Addr} {fd : FuncData} (T : DefAt G.K "_law_draw" "_law_draw" s__law_draw f fd) (hm : G.mg "_law_draw" = some (.ref f)) : Cal P w G.K G.mg base G 1 "_law_draw" ["_law_script", "_law_town_here", "_law_many"] f__law_draw :=
  mk_cal [1] d__law_draw T hm sc__law_draw (by decide) (fun _ _ _ _ _ _ us hl => match us, hl with | [_, _, _], _ => rfl) fun cdv A outer s H E hr =>
  (ss_cons (s_setIx 1 (e_op op_addA ok_add (e_bor 1 (e_ix rfl (e_var 1) e_int)) e_int) e_int)
  (ss_cons (s_if (t_cmp (op_eqD hr.units) ok_eq (e_var 0) (e_L (eo_lst l_nil))) (ss_one (s_ret (e_op op_mod ok_int (e_op op_fdivW ok_int (e_op op_mulA ok_mul (e_op op_mulA ok_mul (e_bor 1 (e_ix rfl (e_var 1) e_int)) (e_bor 1 (e_ix rfl (e_var 1) e_int))) e_int) e_int) (e_var 2)))) ss_nil)
  (ss_cons (s_set 3 sc__law_draw.nd (e_op op_mod ok_int (e_bor 1 (e_ix rfl (e_var 1) e_int)) (e_cB call_lenA ok_len bl.b_len (by decide +kernel) (l_cons (e_var 0) l_nil))))
  (ss_cons (s_set 4 sc__law_draw.nd (e_bor 1 (e_ix rfl (e_var 1) (e_op op_addA ok_add e_int (e_var 3)))))
  (ss_cons (s_if (PW.pt (t_and (t_cmp op_ge ok_intB (e_ix rfl (e_var 0) (e_var 3)) (e_op op_pow ok_int e_int e_int)) (t_and1 (t_cmp op_gt ok_intB (e_var 4) e_int)))) (ss_cons (s_setIx 1 (e_op op_fdivW ok_int (e_var 4) (e_var 2)) (e_op op_addA ok_add e_int (e_var 3)))
  (ss_one (s_ret (e_op op_mod ok_int (e_var 4) (e_var 2))))) ss_nil)
  (ss_cons (s_set 5 sc__law_draw.nd (e_op op_mod ok_int (e_op op_addA ok_add (e_ix rfl (e_var 0) (e_var 3)) (e_op op_mulA ok_mul e_int (e_bor 1 (e_ix rfl (e_var 1) e_int)))) e_int))
  (ss_cons (s_set 5 sc__law_draw.nd (e_op op_mod ok_int (e_op op_pow ok_int (e_var 5) e_int) e_int))
  (ss_one (s_ret (e_op op_mod ok_int (e_op op_fdivW ok_int (e_op op_mod ok_int (e_op op_addA ok_add (e_op op_mulA ok_mul (e_op op_fdivW ok_int (e_var 5) e_int) e_int) (e_var 5)) e_int) e_int) (e_var 2)))))))))))

abbrev s__law_whole : Stmt := topS 29
abbrev N__law_whole : List Str := ["_law_thing"]
theorem sc__law_whole : FnScope ["_law_thing"] ["_law_thing"] (defScope s__law_whole) := ⟨rfl, rfl, rfl, by decide +kernel, rfl, by decide +kernel, by decide +kernel⟩
theorem c__law_whole {P : Program} {w : World} {base : Heap} {G : GC} (bl : Bl G) {f : Addr} {fd : FuncData} (T : DefAt G.K "_law_whole" "_law_whole" s__law_whole f fd) (hm : G.mg "_law_whole" = some (.ref f)) : Cal P w G.K G.mg base G 1 "_law_whole" ["_law_thing"] f__law_whole :=
  mk_cal [] d__law_whole T hm sc__law_whole (by decide) (fun _ _ _ _ _ _ us hl => match us, hl with | [_], _ => rfl) fun cdv A outer s H E hr =>
  (ss_one (s_ret (e_and (e_isi .int rfl bl.b_isinstance bl.b_int (by decide +kernel) (e_var 0) (by rfl) (by rfl) (by decide) (by decide)) (e_one (e_not (e_isi .bool rfl bl.b_isinstance bl.b_bool (by decide +kernel) (e_var 0) (by rfl) (by rfl) (by decide) (by decide)))))))

abbrev s__law_room : Stmt := topS 32
abbrev N__law_room : List Str := ["_law_row", "_law_found", "_law_kind", "_law_pockets"]
theorem sc__law_room : FnScope ["_law_row", "_law_found", "_law_kind", "_law_pockets"] ["_law_row"] (defScope s__law_room) := ⟨rfl, rfl, rfl, by decide +kernel, rfl, by decide +kernel, by decide +kernel⟩
theorem c__law_room {P : Program} {w : World} {base : Heap} {G : GC} (bl : Bl G) {f : Addr} {fd : FuncData} (T : DefAt G.K "_law_room" "_law_room" s__law_room f fd) (hm : G.mg "_law_room" = some (.ref f)) : Cal P w G.K G.mg base G 1 "_law_room" ["_law_row"] f__law_room :=
  mk_cal [] d__law_room T hm sc__law_room (by decide) (fun _ _ _ _ _ _ us hl => match us, hl with | [_], _ => rfl) fun cdv A outer s H E hr =>
  (ss_cons (s_set 1 sc__law_room.nd e_int)
  (ss_cons (s_for (passes_of rfl) rfl (i_list rfl (e_var 0)) (g_tup 2 rfl (gs_cons (g_name 2 sc__law_room.nd) (gs_cons (g_name 3 sc__law_room.nd) gs_nil))) (ss_one (s_set 1 sc__law_room.nd (e_op op_mulA ok_mul (e_var 1) (e_var 3)))))
  (ss_one (s_ret (e_var 1)))))

abbrev s__law_odd : Stmt := topS 33
abbrev N__law_odd : List Str := ["_law_row", "_law_kind", "_law_pockets"]
theorem sc__law_odd : FnScope ["_law_row", "_law_kind", "_law_pockets"] ["_law_row"] (defScope s__law_odd) := ⟨rfl, rfl, rfl, by decide +kernel, rfl, by decide +kernel, by decide +kernel⟩
theorem c__law_odd {P : Program} {w : World} {base : Heap} {G : GC} (bl : Bl G) {f : Addr} {fd : FuncData} (T : DefAt G.K "_law_odd" "_law_odd" s__law_odd f fd) (hm : G.mg "_law_odd" = some (.ref f)) : Cal P w G.K G.mg base G 1 "_law_odd" ["_law_row"] f__law_odd :=
  mk_cal [] d__law_odd T hm sc__law_odd (by decide) (fun _ _ _ _ _ _ us hl => match us, hl with | [_], _ => rfl) fun cdv A outer s H E hr =>
  (ss_one (s_ret (e_cmp (op_eqD hr.units) ok_eq (e_op op_mod ok_int (e_lk PySem.F.plainAttrs_list PySem.F.slot_list_count PySem.F.type_list_count mt_count ok_count (e_L (e_lc [("_law_kind", 1), ("_law_pockets", 2)] rfl sc__law_odd.nd (tg_tup2 (by decide) (by decide)) (i_list rfl (e_var 0)) (blkOk_by (own := [("_law_kind", 1), ("_law_pockets", 2)]) (N := N__law_odd) (sc := defScope s__law_odd) (by decide +kernel)) (fun _ _ _ _ _ => pg_tup rfl (pgs_cons (pg_name (i := 1) sc__law_odd.nd rfl (by first | exact Or.inl rfl | exact Or.inr rfl)) (pgs_cons (pg_name (i := 2) sc__law_odd.nd rfl (by first | exact Or.inl rfl | exact Or.inr rfl)) pgs_nil))) (fun _ _ _ _ _ => ts_nil) (fun _ _ _ _ _ => (e_var 1)))) (l_cons e_str l_nil)) e_int) e_int)))

abbrev s__law_gathered : Stmt := topS 34
abbrev N__law_gathered : List Str := ["_law_cards_here", "_law_machine_here", "_law_word", "_law_found", "_law_pocket", "_law_some", "_law_card", "_law_one"]
theorem sc__law_gathered : FnScope ["_law_cards_here", "_law_machine_here", "_law_word", "_law_found", "_law_pocket", "_law_some", "_law_card", "_law_one"] ["_law_cards_here", "_law_machine_here", "_law_word"] (defScope s__law_gathered) := ⟨rfl, rfl, rfl, by decide +kernel, rfl, by decide +kernel, by decide +kernel⟩
theorem c__law_gathered {P : Program} {w : World} {base : Heap} {G : GC} (bl : Bl G) {f : Addr} {fd : FuncData} (T : DefAt G.K "_law_gathered" "_law_gathered" s__law_gathered f fd) (hm : G.mg "_law_gathered" = some (.ref f)) : Cal P w G.K G.mg base G 1 "_law_gathered" ["_law_cards_here", "_law_machine_here", "_law_word"] f__law_gathered :=
  mk_cal [] d__law_gathered T hm sc__law_gathered (by decide) (fun _ _ _ _ _ _ us hl => match us, hl with | [_, _, _], _ => rfl) fun cdv A outer s H E hr =>
  (ss_cons (s_set 3 sc__law_gathered.nd (e_L (eo_lst l_nil)))
  (ss_cons (s_for (passes_of rfl) rfl (i_rng1 bl.b_range (l_cons (e_ix rfl (e_var 1) e_int) l_nil)) (g_name 4 sc__law_gathered.nd) (ss_cons (s_setLc 5 [("_law_card", 6), ("_law_one", 7)] rfl sc__law_gathered.nd (tg_tup2 (by decide) (by decide)) (sw_true rfl rfl rfl (by decide +kernel)) (i_zip rfl bl.b_zip (l_cons (e_var 0) (l_cons (e_var 2) l_nil))) (blkOk_by (own := [("_law_card", 6), ("_law_one", 7)]) (N := N__law_gathered) (sc := defScope s__law_gathered) (by decide +kernel)) (fun _ _ _ _ _ => pg_tup rfl (pgs_cons (pg_name (i := 6) sc__law_gathered.nd rfl (by first | exact Or.inl rfl | exact Or.inr rfl)) (pgs_cons (pg_name (i := 7) sc__law_gathered.nd rfl (by first | exact Or.inl rfl | exact Or.inr rfl)) pgs_nil))) (fun _ _ _ _ _ => ts_one (t_cmp (op_eqD hr.units) ok_eq (e_var 7) (e_var 4))) (fun _ _ _ _ _ => (e_var 6)))
  (ss_one (s_set 3 sc__law_gathered.nd (e_op op_addA ok_add (e_var 3) (e_if (t_cmp (op_eqD hr.units) ok_eq (e_ix rfl (e_var 1) e_int) e_str) (e_var 5) (e_L (eo_rev rfl (e_var 5)))))))))
  (ss_one (s_ret (e_var 3)))))

abbrev s__law_power : Stmt := topS 35
abbrev N__law_power : List Str := ["_law_number", "_law_many", "_law_found", "_law_k"]
theorem sc__law_power : FnScope ["_law_number", "_law_many", "_law_found", "_law_k"] ["_law_number", "_law_many"] (defScope s__law_power) := ⟨rfl, rfl, rfl, by decide +kernel, rfl, by decide +kernel, by decide +kernel⟩
theorem c__law_power {P : Program} {w : World} {base : Heap} {G : GC} (bl : Bl G) {f : Addr} {fd : FuncData} (T : DefAt G.K "_law_power" "_law_power" s__law_power f fd) (hm : G.mg "_law_power" = some (.ref f)) : Cal P w G.K G.mg base G 1 "_law_power" ["_law_number", "_law_many"] f__law_power :=
  mk_cal [] d__law_power T hm sc__law_power (by decide) (fun _ _ _ _ _ _ us hl => match us, hl with | [_, _], _ => rfl) fun cdv A outer s H E hr =>
  (ss_cons (s_set 2 sc__law_power.nd e_int)
  (ss_cons (s_for (passes_of rfl) rfl (i_rng1 bl.b_range (l_cons (e_var 1) l_nil)) (g_name 3 sc__law_power.nd) (ss_one (s_set 2 sc__law_power.nd (e_op op_mulA ok_mul (e_var 2) (e_var 0)))))
  (ss_one (s_ret (e_var 2)))))

abbrev s__law_need : Stmt := topS 36
abbrev N__law_need : List Str := ["_law_keys", "_law_found", "_law_last", "_law_key", "_law_some", "_law_early", "_law_place", "_law_one"]
theorem sc__law_need : FnScope ["_law_keys", "_law_found", "_law_last", "_law_key", "_law_some", "_law_early", "_law_place", "_law_one"] ["_law_keys"] (defScope s__law_need) := ⟨rfl, rfl, rfl, by decide +kernel, rfl, by decide +kernel, by decide +kernel⟩
theorem c__law_need {P : Program} {w : World} {base : Heap} {G : GC} (bl : Bl G) {f : Addr} {fd : FuncData} (T : DefAt G.K "_law_need" "_law_need" s__law_need f fd) (hm : G.mg "_law_need" = some (.ref f)) : Cal P w G.K G.mg base G 1 "_law_need" ["_law_keys"] f__law_need :=
  mk_cal [] d__law_need T hm sc__law_need (by decide) (fun _ _ _ _ _ _ us hl => match us, hl with | [_], _ => rfl) fun cdv A outer s H E hr =>
  (ss_cons (s_set 1 sc__law_need.nd e_int)
  (ss_cons (s_set 2 sc__law_need.nd (e_neg e_int))
  (ss_cons (s_for (passes_of rfl) rfl (i_rng1 bl.b_range (l_cons e_int l_nil)) (g_name 3 sc__law_need.nd) (ss_cons (s_setLc 4 [("_law_place", 6), ("_law_one", 7)] rfl sc__law_need.nd (tg_tup2 (by decide) (by decide)) (sw_true rfl rfl rfl (by decide +kernel)) (i_enum rfl bl.b_enumerate (l_cons (e_var 0) l_nil)) (blkOk_by (own := [("_law_place", 6), ("_law_one", 7)]) (N := N__law_need) (sc := defScope s__law_need) (by decide +kernel)) (fun _ _ _ _ _ => pg_tup rfl (pgs_cons (pg_name (i := 6) sc__law_need.nd rfl (by first | exact Or.inl rfl | exact Or.inr rfl)) (pgs_cons (pg_name (i := 7) sc__law_need.nd rfl (by first | exact Or.inl rfl | exact Or.inr rfl)) pgs_nil))) (fun _ _ _ _ _ => ts_one (t_cmp (op_eqD hr.units) ok_eq (e_var 7) (e_var 3))) (fun _ _ _ _ _ => (e_var 6)))
  (ss_cons (s_setLc 5 [("_law_place", 6)] rfl sc__law_need.nd (tg_name (by decide)) (sw_true rfl rfl rfl (by decide +kernel)) (i_list rfl (e_var 4)) (blkOk_by (own := [("_law_place", 6)]) (N := N__law_need) (sc := defScope s__law_need) (by decide +kernel)) (fun _ _ _ _ _ => pg_name (i := 6) sc__law_need.nd rfl (by first | exact Or.inl rfl | exact Or.inr rfl)) (fun _ _ _ _ _ => ts_one (t_cmp op_lt ok_intB (e_var 6) (e_var 2))) (fun _ _ _ _ _ => (e_var 6)))
  (ss_one (s_if (t_cmp (op_neD hr.units) ok_ne (e_var 5) (e_L (eo_lst l_nil))) (ss_cons (s_set 1 sc__law_need.nd (e_op op_addA ok_add (e_var 1) e_int))
  (ss_one (s_set 2 sc__law_need.nd (e_ix rfl (e_var 5) (e_neg e_int))))) (ss_one (s_if (t_cmp (op_neD hr.units) ok_ne (e_var 4) (e_L (eo_lst l_nil))) (ss_one (s_set 2 sc__law_need.nd (e_ix rfl (e_var 4) (e_neg e_int)))) ss_nil)))))))
  (ss_one (s_ret (e_var 1))))))

abbrev s_is_cards : Stmt := topS 8
abbrev N_is_cards : List Str := ["thing", "one"]
theorem sc_is_cards : FnScope ["thing", "one"] ["thing"] (defScope s_is_cards) := ⟨rfl, rfl, rfl, by decide +kernel, rfl, by decide +kernel, by decide +kernel⟩
theorem c_is_cards {P : Program} {w : World} {base : Heap} {G : GC} (bl : Bl G) {f : Addr} {fd : FuncData} (T : DefAt G.K "is_cards" "is_cards" s_is_cards f fd) (hm : G.mg "is_cards" = some (.ref f)) (c_is_number : Cal P w G.K G.mg base G 1 "is_number" ["thing", "least", "most"] f_is_number) : Cal P w G.K G.mg base G 2 "is_cards" ["thing"] f_is_cards :=
  mk_cal [] d_is_cards T hm sc_is_cards (by decide) (fun _ _ _ _ _ _ us hl => match us, hl with | [_], _ => rfl) fun cdv A outer s H E hr =>
  (ss_cons (s_if (PW.pt (t_or (t_not (t_val (e_isi .lst rfl bl.b_isinstance bl.b_list (by decide +kernel) (e_var 0) (by rfl) (by rfl) (by decide) (by decide)))) (t_or1 (t_not (t_chain op_le ok_intB op_le ok_intB e_int (e_cB call_lenA ok_len bl.b_len (by decide +kernel) (l_cons (e_var 0) l_nil)) (e_gi bl.c_MOST_CARDS)))))) (ss_one (s_ret e_bl)) ss_nil)
  (ss_cons (s_if (t_not (t_val (e_cB (cr_all rfl) ok_all bl.b_all (by decide +kernel) (l_cons (e_L (e_lc [("one", 1)] rfl sc_is_cards.nd (tg_name (by decide)) (i_list rfl (e_var 0)) (blkOk_by (own := [("one", 1)]) (N := N_is_cards) (sc := defScope s_is_cards) (by decide +kernel)) (fun _ _ _ _ _ => pg_name (i := 1) sc_is_cards.nd rfl (by first | exact Or.inl rfl | exact Or.inr rfl)) (fun _ _ _ _ _ => ts_nil) (fun _ _ _ _ _ => (Cal.pc c_is_number hr passL (l_cons (e_var 1) (l_cons e_int (l_cons (e_op op_sub ok_int0 (e_cB call_lenA ok_len bl.b_len (by decide +kernel) (l_cons (e_var 0) l_nil)) e_int) l_nil))))))) l_nil)))) (ss_one (s_ret e_bl)) ss_nil)
  (ss_one (s_ret (e_cmp (op_eqD hr.units) ok_eq (e_lenSet rfl bl.b_len bl.b_set (e_var 0)) (e_cB call_lenA ok_len bl.b_len (by decide +kernel) (l_cons (e_var 0) l_nil)))))))

abbrev s_Deck_rising : Stmt := inClass (topS 9) 7
abbrev N_Deck_rising : List Str := ["self", "some", "one", "other"]
theorem sc_Deck_rising : FnScope ["self", "some", "one", "other"] ["self"] (defScope s_Deck_rising) := ⟨rfl, rfl, rfl, by decide +kernel, rfl, by decide +kernel, by decide +kernel⟩
theorem c_Deck_rising {P : Program} {w : World} {base : Heap} {G : GC} (bl : Bl G) {f : Addr} {fd : FuncData} (T : MetAt G.K G.dk "rising" "Deck.rising" s_Deck_rising f fd) (c_Deck_places : CalM P w G.K G.mg base G 1 "places" ["self"] f_Deck_places) : CalM P w G.K G.mg base G 2 "rising" ["self"] f_Deck_rising :=
  mk_calM [] d_Deck_rising T sc_Deck_rising (by decide) (fun _ _ _ _ _ _ us hl => match us, hl with | [_], _ => rfl) fun cdv A outer s H E hr =>
  (ss_cons (s_set 1 sc_Deck_rising.nd (CalM.mc0 bl.dk rfl c_Deck_places hr pass_cx (e_var 0)))
  (ss_one (s_ret (e_op op_addA ok_add e_int (e_cB call_lenA ok_len bl.b_len (by decide +kernel) (l_cons (e_L (e_lc [("one", 2), ("other", 3)] rfl sc_Deck_rising.nd (tg_tup2 (by decide) (by decide)) (i_zip rfl bl.b_zip (l_cons (e_var 1) (l_cons (e_L (eo_sl rfl (e_var 1) (p_some e_int) p_none)) l_nil))) (blkOk_by (own := [("one", 2), ("other", 3)]) (N := N_Deck_rising) (sc := defScope s_Deck_rising) (by decide +kernel)) (fun _ _ _ _ _ => pg_tup rfl (pgs_cons (pg_name (i := 2) sc_Deck_rising.nd rfl (by first | exact Or.inl rfl | exact Or.inr rfl)) (pgs_cons (pg_name (i := 3) sc_Deck_rising.nd rfl (by first | exact Or.inl rfl | exact Or.inr rfl)) pgs_nil))) (fun _ _ _ _ _ => ts_one (t_cmp op_lt ok_intB (e_var 3) (e_var 2))) (fun _ _ _ _ _ => e_int))) l_nil))))))

abbrev s_is_machine : Stmt := topS 12
abbrev N_is_machine : List Str := ["thing"]
theorem sc_is_machine : FnScope ["thing"] ["thing"] (defScope s_is_machine) := ⟨rfl, rfl, rfl, by decide +kernel, rfl, by decide +kernel, by decide +kernel⟩
theorem c_is_machine {P : Program} {w : World} {base : Heap} {G : GC} (bl : Bl G) {f : Addr} {fd : FuncData} (T : DefAt G.K "is_machine" "is_machine" s_is_machine f fd) (hm : G.mg "is_machine" = some (.ref f)) (c_is_number : Cal P w G.K G.mg base G 1 "is_number" ["thing", "least", "most"] f_is_number) : Cal P w G.K G.mg base G 2 "is_machine" ["thing"] f_is_machine :=
  mk_cal [] d_is_machine T hm sc_is_machine (by decide) (fun _ _ _ _ _ _ us hl => match us, hl with | [_], _ => rfl) fun cdv A outer s H E hr =>
  (ss_cons (s_if (PW.pt (t_or (t_not (t_val (e_isi .tup rfl bl.b_isinstance bl.b_tuple (by decide +kernel) (e_var 0) (by rfl) (by rfl) (by decide) (by decide)))) (t_or (t_cmp (op_neD hr.units) ok_ne (e_cB call_lenA ok_len bl.b_len (by decide +kernel) (l_cons (e_var 0) l_nil)) e_int) (t_or1 (t_not (t_val (e_isi .str rfl bl.b_isinstance bl.b_str (by decide +kernel) (e_ix rfl (e_var 0) e_int) (by rfl) (by rfl) (by decide) (by decide)))))))) (ss_one (s_ret e_bl)) ss_nil)
  (ss_one (s_ret (e_and (e_cmp op_in_seq ok_in (e_ix rfl (e_var 0) e_int) (e_tup (l_cons e_str (l_cons e_str l_nil)))) (e_one (Cal.pc c_is_number hr pass_cx (l_cons (e_ix rfl (e_var 0) e_int) (l_cons e_int (l_cons (e_gi bl.c_MOST_POCKETS) l_nil)))))))))

abbrev s_fewest_for : Stmt := topS 17
abbrev N_fewest_for : List Str := ["sorted_now", "rising", "falling", "machine", "many", "need"]
theorem sc_fewest_for : FnScope ["sorted_now", "rising", "falling", "machine", "many", "need"] ["sorted_now", "rising", "falling", "machine"] (defScope s_fewest_for) := ⟨rfl, rfl, rfl, by decide +kernel, rfl, by decide +kernel, by decide +kernel⟩
theorem c_fewest_for {P : Program} {w : World} {base : Heap} {G : GC} (bl : Bl G) {f : Addr} {fd : FuncData} (T : DefAt G.K "fewest_for" "fewest_for" s_fewest_for f fd) (hm : G.mg "fewest_for" = some (.ref f)) (c_power : Cal P w G.K G.mg base G 1 "power" ["number", "many"] f_power) : Cal P w G.K G.mg base G 2 "fewest_for" ["sorted_now", "rising", "falling", "machine"] f_fewest_for :=
  mk_cal [] d_fewest_for T hm sc_fewest_for (by decide) (fun _ _ _ _ _ _ us hl => match us, hl with | [_, _, _, _], _ => rfl) fun cdv A outer s H E hr =>
  (ss_cons (s_if (t_val (e_var 0)) (ss_one (s_ret e_int)) ss_nil)
  (ss_cons (s_for (passes_of rfl) rfl (i_rng2 bl.b_range (l_cons e_int (l_cons (e_gi bl.c_MOST_RUNS) l_nil))) (g_name 4 sc_fewest_for.nd) (ss_cons (s_set 5 sc_fewest_for.nd (e_if (PW.pt (t_and (t_cmp (op_eqD hr.units) ok_eq (e_ix rfl (e_var 3) e_int) e_str) (t_and1 (t_cmp (op_eqD hr.units) ok_eq (e_op op_mod ok_int (e_var 4) e_int) e_int)))) (e_var 2) (e_var 1)))
  (ss_one (s_if (t_cmp op_le ok_intB (e_var 5) (Cal.pc c_power hr pass_cx (l_cons (e_ix rfl (e_var 3) e_int) (l_cons (e_var 4) l_nil)))) (ss_one (s_ret (e_var 4))) ss_nil))))
  (ss_one (s_ret e_non))))

abbrev s_look_keys : Stmt := topS 20
abbrev N_look_keys : List Str := ["keys", "one"]
theorem sc_look_keys : FnScope ["keys", "one"] ["keys"] (defScope s_look_keys) := ⟨rfl, rfl, rfl, by decide +kernel, rfl, by decide +kernel, by decide +kernel⟩
theorem c_look_keys {P : Program} {w : World} {base : Heap} {G : GC} (bl : Bl G) {f : Addr} {fd : FuncData} (T : DefAt G.K "look_keys" "look_keys" s_look_keys f fd) (hm : G.mg "look_keys" = some (.ref f)) (c_is_number : Cal P w G.K G.mg base G 1 "is_number" ["thing", "least", "most"] f_is_number) : Cal P w G.K G.mg base G 2 "look_keys" ["keys"] f_look_keys :=
  mk_cal [] d_look_keys T hm sc_look_keys (by decide) (fun _ _ _ _ _ _ us hl => match us, hl with | [_], _ => rfl) fun cdv A outer s H E hr =>
  (ss_cons (s_if (PW.pt (t_or (t_not (t_val (e_isi .lst rfl bl.b_isinstance bl.b_list (by decide +kernel) (e_var 0) (by rfl) (by rfl) (by decide) (by decide)))) (t_or1 (t_not (t_chain op_le ok_intB op_le ok_intB e_int (e_cB call_lenA ok_len bl.b_len (by decide +kernel) (l_cons (e_var 0) l_nil)) (e_gi bl.c_MOST_CARDS)))))) (ss_one s_never) ss_nil)
  (ss_one (s_if (t_not (t_val (e_cB (cr_all rfl) ok_all bl.b_all (by decide +kernel) (l_cons (e_L (e_lc [("one", 1)] rfl sc_look_keys.nd (tg_name (by decide)) (i_list rfl (e_var 0)) (blkOk_by (own := [("one", 1)]) (N := N_look_keys) (sc := defScope s_look_keys) (by decide +kernel)) (fun _ _ _ _ _ => pg_name (i := 1) sc_look_keys.nd rfl (by first | exact Or.inl rfl | exact Or.inr rfl)) (fun _ _ _ _ _ => ts_nil) (fun _ _ _ _ _ => (Cal.pc c_is_number hr passL (l_cons (e_var 1) (l_cons e_int (l_cons e_int l_nil))))))) l_nil)))) (ss_one s_never) ss_nil)))

abbrev s__law_pick : Stmt := topS 28
abbrev N__law_pick : List Str := ["_law_script", "_law_town_here", "_law_some"]
theorem sc__law_pick : FnScope ["_law_script", "_law_town_here", "_law_some"] ["_law_script", "_law_town_here", "_law_some"] (defScope s__law_pick) := ⟨rfl, rfl, rfl, by decide +kernel, rfl, by decide +kernel, by decide +kernel⟩
theorem c__law_pick {P : Program} {w : World} {base : Heap} {G : GC} (bl : Bl G) {f : Addr} {fd : FuncData} (T : DefAt G.K "_law_pick" "_law_pick" s__law_pick f fd) (hm : G.mg "_law_pick" = some (.ref f)) (c__law_draw : Cal P w G.K G.mg base G 1 "_law_draw" ["_law_script", "_law_town_here", "_law_many"] drawF) : Cal P w G.K G.mg base G 2 "_law_pick" ["_law_script", "_law_town_here", "_law_some"] f__law_pick :=
  mk_cal [1] d__law_pick T hm sc__law_pick (by decide) (fun _ _ _ _ _ _ us hl => match us, hl with | [_, _, _], _ => rfl) fun cdv A outer s H E hr =>
  (ss_one (s_ret (e_ix rfl (e_var 2) (Cal.mc c__law_draw hr pass_cx (m_d (e_var 0) (m_m 1 (m_d (e_cB call_lenA ok_len bl.b_len (by decide +kernel) (l_cons (e_var 2) l_nil)) m_nil)))))))

abbrev s__law_cards : Stmt := topS 30
abbrev N__law_cards : List Str := ["_law_script", "_law_town_here", "_law_most_cards", "_law_many", "_law_way", "_law_rows", "_law_found", "_law_card", "_law_at", "_law_heaps", "_law_place", "_law_heap", "_law_row"]
theorem sc__law_cards : FnScope ["_law_script", "_law_town_here", "_law_most_cards", "_law_many", "_law_way", "_law_rows", "_law_found", "_law_card", "_law_at", "_law_heaps", "_law_place", "_law_heap", "_law_row"] ["_law_script", "_law_town_here", "_law_most_cards"] (defScope s__law_cards) := ⟨rfl, rfl, rfl, by decide +kernel, rfl, by decide +kernel, by decide +kernel⟩
theorem c__law_cards {P : Program} {w : World} {base : Heap} {G : GC} (bl : Bl G) {f : Addr} {fd : FuncData} (T : DefAt G.K "_law_cards" "_law_cards" s__law_cards f fd) (hm : G.mg "_law_cards" = some (.ref f)) (c__law_draw : Cal P w G.K G.mg base G 1 "_law_draw" ["_law_script", "_law_town_here", "_law_many"] drawF) : Cal P w G.K G.mg base G 2 "_law_cards" ["_law_script", "_law_town_here", "_law_most_cards"] f__law_cards :=
  mk_cal [1] d__law_cards T hm sc__law_cards (by decide) (fun _ _ _ _ _ _ us hl => match us, hl with | [_, _, _], _ => rfl) fun cdv A outer s H E hr =>
  (ss_cons (s_set 3 sc__law_cards.nd (e_op op_addA ok_add e_int (Cal.mc c__law_draw hr pass_cx (m_d (e_var 0) (m_m 1 (m_d (e_var 2) m_nil))))))
  (ss_cons (s_set 4 sc__law_cards.nd (Cal.mc c__law_draw hr pass_cx (m_d (e_var 0) (m_m 1 (m_d e_int m_nil)))))
  (ss_cons (s_set 5 sc__law_cards.nd (e_op op_addA ok_add e_int (Cal.mc c__law_draw hr pass_cx (m_d (e_var 0) (m_m 1 (m_d e_int m_nil))))))
  (ss_cons (s_setO 6 sc__law_cards.nd (eo_lst l_nil))
  (ss_cons (s_for (passes_of rfl) rfl (i_rng1 bl.b_range (l_cons (e_var 3) l_nil)) (g_name 7 sc__law_cards.nd) (ss_cons (s_set 8 sc__law_cards.nd (Cal.mc c__law_draw hr pass_cx (m_d (e_var 0) (m_m 1 (m_d (e_op op_addA ok_add (e_bor 6 (e_cB call_lenA ok_len bl.b_len (by decide +kernel) (l_cons (e_var 6) l_nil))) e_int) m_nil)))))
  (ss_cons (s_if (t_cmp (op_eqD hr.units) ok_eq (e_var 4) e_int) (ss_one (s_set 8 sc__law_cards.nd (e_cB (call_min2 rfl) ok_min2 bl.b_min (by decide +kernel) (l_cons (e_bor 6 (e_cB call_lenA ok_len bl.b_len (by decide +kernel) (l_cons (e_var 6) l_nil))) (l_cons (e_op op_addA ok_add (e_var 8) (e_op op_fdivW ok_int (e_bor 6 (e_cB call_lenA ok_len bl.b_len (by decide +kernel) (l_cons (e_var 6) l_nil))) (e_var 5))) l_nil))))) ss_nil)
  (ss_one (s_expr (e_mut 6 PySem.F.plainAttrs_list PySem.F.slot_list_insert PySem.F.type_list_insert mt_insert ok_ins (l_cons (e_var 8) (l_cons (e_var 7) l_nil))))))))
  (ss_cons (s_if (t_cmp (op_eqD hr.units) ok_eq (e_var 4) e_int) (ss_cons (s_nils 9 [("_law_row", 12)] rfl sc__law_cards.nd (tg_name (by decide)) (sw_true rfl rfl rfl (by decide +kernel)) (i_rng1 bl.b_range (l_cons (e_var 5) l_nil)) (blkOk_by (own := [("_law_row", 12)]) (N := N__law_cards) (sc := defScope s__law_cards) (by decide +kernel)) (fun _ _ _ _ _ => pg_name (i := 12) sc__law_cards.nd rfl (by first | exact Or.inl rfl | exact Or.inr rfl)))
  (ss_cons (s_for (passes_of rfl) rfl (i_rng1 bl.b_range (l_cons (e_var 3) l_nil)) (g_name 10 sc__law_cards.nd) (ss_one (s_expr (e_app2 9 10 rfl (Cal.mc c__law_draw hr pass_cx (m_d (e_var 0) (m_m 1 (m_d (e_var 5) m_nil))))))))
  (ss_cons (s_setO 6 sc__law_cards.nd (eo_op op_rep ok_repL (e_L (eo_lst (l_cons e_int l_nil))) (e_var 3)))
  (ss_cons (s_set 7 sc__law_cards.nd e_int)
  (ss_one (s_for (passes_of rfl) rfl (i_list rfl (e_frz2 9)) (g_name 11 sc__law_cards.nd) (ss_one (s_for (passes_of rfl) rfl (i_list rfl (e_var 11)) (g_name 10 sc__law_cards.nd) (ss_cons (s_setIx 6 (e_var 7) (e_var 10))
  (ss_one (s_set 7 sc__law_cards.nd (e_op op_addA ok_add (e_var 7) e_int)))))))))))) ss_nil)
  (ss_one (s_ret (e_if (PW.pt (t_and (t_cmp op_gt ok_intB (e_var 4) e_int) (t_and1 (t_cmp (op_eqD hr.units) ok_eq (Cal.mc c__law_draw hr pass_cx (m_d (e_var 0) (m_m 1 (m_d e_int m_nil)))) e_int)))) (e_L (eo_rev rfl (e_frz 6))) (e_frz 6))))))))))

abbrev s__law_fewest : Stmt := topS 37
abbrev N__law_fewest : List Str := ["_law_keys", "_law_machine_here", "_law_many", "_law_row"]
theorem sc__law_fewest : FnScope ["_law_keys", "_law_machine_here", "_law_many", "_law_row"] ["_law_keys", "_law_machine_here"] (defScope s__law_fewest) := ⟨rfl, rfl, rfl, by decide +kernel, rfl, by decide +kernel, by decide +kernel⟩
theorem c__law_fewest {P : Program} {w : World} {base : Heap} {G : GC} (bl : Bl G) {f : Addr} {fd : FuncData} (T : DefAt G.K "_law_fewest" "_law_fewest" s__law_fewest f fd) (hm : G.mg "_law_fewest" = some (.ref f)) (c__law_room : Cal P w G.K G.mg base G 1 "_law_room" ["_law_row"] f__law_room) (c__law_odd : Cal P w G.K G.mg base G 1 "_law_odd" ["_law_row"] f__law_odd) (c__law_need : Cal P w G.K G.mg base G 1 "_law_need" ["_law_keys"] f__law_need) : Cal P w G.K G.mg base G 2 "_law_fewest" ["_law_keys", "_law_machine_here"] f__law_fewest :=
  mk_cal [] d__law_fewest T hm sc__law_fewest (by decide) (fun _ _ _ _ _ _ us hl => match us, hl with | [_, _], _ => rfl) fun cdv A outer s H E hr =>
  (ss_cons (s_if (t_cmp (op_eqD hr.units) ok_eq (e_var 0) (e_L (eo_cB cr_sortedI ok_sorted bl.b_sorted (by decide +kernel) (l_cons (e_var 0) l_nil)))) (ss_one (s_ret e_int)) ss_nil)
  (ss_cons (s_for (passes_of rfl) rfl (i_rng2 bl.b_range (l_cons e_int (l_cons e_int l_nil))) (g_name 2 sc__law_fewest.nd) (ss_cons (s_set 3 sc__law_fewest.nd (e_op op_mulA ok_mul (e_L (eo_lst (l_cons (e_var 1) l_nil))) (e_var 2)))
  (ss_one (s_if (t_cmp op_le ok_intB (Cal.pc c__law_need hr pass_cx (l_cons (e_if (t_val (Cal.pc c__law_odd hr pass_cx (l_cons (e_var 3) l_nil))) (e_L (eo_rev rfl (e_var 0))) (e_var 0)) l_nil)) (Cal.pc c__law_room hr pass_cx (l_cons (e_var 3) l_nil))) (ss_one (s_ret (e_var 2))) ss_nil))))
  (ss_one (s_ret e_non))))

abbrev s_Deck_init : Stmt := inClass (topS 9) 0
abbrev N_Deck_init : List Str := ["self", "cards"]
theorem sc_Deck_init : FnScope ["self", "cards"] ["self", "cards"] (defScope s_Deck_init) := ⟨rfl, rfl, rfl, by decide +kernel, rfl, by decide +kernel, by decide +kernel⟩
theorem c_Deck_init {P : Program} {w : World} {base : Heap} {G : GC} (bl : Bl G) {f : Addr} {fd : FuncData} (T : MetAt G.K G.dk "__init__" "Deck.__init__" s_Deck_init f fd) (c_is_cards : Cal P w G.K G.mg base G 2 "is_cards" ["thing"] f_is_cards) : CalI P w G.K G.mg base G 3 "Deck" ["self", "cards"] f_Deck_init :=
  mk_calI [0] d_Deck_init T bl.dk.mak bl.dk.kep bl.b_Deck sc_Deck_init (by decide) (fun _ _ _ _ _ _ us hl => match us, hl with | [_, _], _ => rfl) fun cdv A outer s H E hr =>
  (ss_cons (s_if (t_not (t_val (Cal.pc c_is_cards hr pass_cx (l_cons (e_var 1) l_nil)))) (ss_one s_never) ss_nil)
  (ss_one (s_self bl.dk rfl (eo_callTy call_list_of ok_list bl.b_list (by decide +kernel) (l_cons (e_var 1) l_nil)))))

abbrev s_Deck_falling : Stmt := inClass (topS 9) 8
abbrev N_Deck_falling : List Str := ["self"]
theorem sc_Deck_falling : FnScope ["self"] ["self"] (defScope s_Deck_falling) := ⟨rfl, rfl, rfl, by decide +kernel, rfl, by decide +kernel, by decide +kernel⟩
theorem c_Deck_falling {P : Program} {w : World} {base : Heap} {G : GC} (bl : Bl G) {f : Addr} {fd : FuncData} (T : MetAt G.K G.dk "falling" "Deck.falling" s_Deck_falling f fd) (c_Deck_rising : CalM P w G.K G.mg base G 2 "rising" ["self"] f_Deck_rising) : CalM P w G.K G.mg base G 3 "falling" ["self"] f_Deck_falling :=
  mk_calM [] d_Deck_falling T sc_Deck_falling (by decide) (fun _ _ _ _ _ _ us hl => match us, hl with | [_], _ => rfl) fun cdv A outer s H E hr =>
  (ss_one (s_ret (e_op op_sub ok_int0 (e_op op_addA ok_add (e_cB call_lenA ok_len bl.b_len (by decide +kernel) (l_cons (e_fld bl.dk rfl (e_var 0)) l_nil)) e_int) (CalM.mc0 bl.dk rfl c_Deck_rising hr pass_cx (e_var 0)))))

abbrev s_look_machine : Stmt := topS 14
abbrev N_look_machine : List Str := ["machine"]
theorem sc_look_machine : FnScope ["machine"] ["machine"] (defScope s_look_machine) := ⟨rfl, rfl, rfl, by decide +kernel, rfl, by decide +kernel, by decide +kernel⟩
theorem c_look_machine {P : Program} {w : World} {base : Heap} {G : GC} (bl : Bl G) {f : Addr} {fd : FuncData} (T : DefAt G.K "look_machine" "look_machine" s_look_machine f fd) (hm : G.mg "look_machine" = some (.ref f)) (c_is_machine : Cal P w G.K G.mg base G 2 "is_machine" ["thing"] f_is_machine) : Cal P w G.K G.mg base G 3 "look_machine" ["machine"] f_look_machine :=
  mk_cal [] d_look_machine T hm sc_look_machine (by decide) (fun _ _ _ _ _ _ us hl => match us, hl with | [_], _ => rfl) fun cdv A outer s H E hr =>
  (ss_one (s_if (t_not (t_val (Cal.pc c_is_machine hr pass_cx (l_cons (e_var 0) l_nil)))) (ss_one s_never) ss_nil))

abbrev s_needed : Stmt := topS 22
abbrev N_needed : List Str := ["keys"]
theorem sc_needed : FnScope ["keys"] ["keys"] (defScope s_needed) := ⟨rfl, rfl, rfl, by decide +kernel, rfl, by decide +kernel, by decide +kernel⟩
theorem c_needed {P : Program} {w : World} {base : Heap} {G : GC} (bl : Bl G) {f : Addr} {fd : FuncData} (T : DefAt G.K "needed" "needed" s_needed f fd) (hm : G.mg "needed" = some (.ref f)) (c_dealt_out : Cal P w G.K G.mg base G 1 "dealt_out" ["keys"] f_dealt_out) (c_look_keys : Cal P w G.K G.mg base G 2 "look_keys" ["keys"] f_look_keys) : Cal P w G.K G.mg base G 3 "needed" ["keys"] f_needed :=
  mk_cal [] d_needed T hm sc_needed (by decide) (fun _ _ _ _ _ _ us hl => match us, hl with | [_], _ => rfl) fun cdv A outer s H E hr =>
  (ss_cons (s_expr (Cal.pc c_look_keys hr pass_cx (l_cons (e_var 0) l_nil)))
  (ss_one (s_ret (e_op op_addA ok_add (e_cB (cr_max rfl) ok_max1 bl.b_max (by decide +kernel) (l_cons (Cal.pc c_dealt_out hr pass_cx (l_cons (e_var 0) l_nil)) l_nil)) e_int))))

abbrev s_word_by_keys : Stmt := topS 23
abbrev N_word_by_keys : List Str := ["keys"]
theorem sc_word_by_keys : FnScope ["keys"] ["keys"] (defScope s_word_by_keys) := ⟨rfl, rfl, rfl, by decide +kernel, rfl, by decide +kernel, by decide +kernel⟩
theorem c_word_by_keys {P : Program} {w : World} {base : Heap} {G : GC} (bl : Bl G) {f : Addr} {fd : FuncData} (T : DefAt G.K "word_by_keys" "word_by_keys" s_word_by_keys f fd) (hm : G.mg "word_by_keys" = some (.ref f)) (c_dealt_out : Cal P w G.K G.mg base G 1 "dealt_out" ["keys"] f_dealt_out) (c_look_keys : Cal P w G.K G.mg base G 2 "look_keys" ["keys"] f_look_keys) : Cal P w G.K G.mg base G 3 "word_by_keys" ["keys"] f_word_by_keys :=
  mk_cal [] d_word_by_keys T hm sc_word_by_keys (by decide) (fun _ _ _ _ _ _ us hl => match us, hl with | [_], _ => rfl) fun cdv A outer s H E hr =>
  (ss_cons (s_expr (Cal.pc c_look_keys hr pass_cx (l_cons (e_var 0) l_nil)))
  (ss_one (s_ret (Cal.pc c_dealt_out hr pass_cx (l_cons (e_var 0) l_nil)))))

abbrev s__law_machine : Stmt := topS 31
abbrev N__law_machine : List Str := ["_law_script", "_law_town_here", "_law_most_pockets"]
theorem sc__law_machine : FnScope ["_law_script", "_law_town_here", "_law_most_pockets"] ["_law_script", "_law_town_here", "_law_most_pockets"] (defScope s__law_machine) := ⟨rfl, rfl, rfl, by decide +kernel, rfl, by decide +kernel, by decide +kernel⟩
theorem c__law_machine {P : Program} {w : World} {base : Heap} {G : GC} (bl : Bl G) {f : Addr} {fd : FuncData} (T : DefAt G.K "_law_machine" "_law_machine" s__law_machine f fd) (hm : G.mg "_law_machine" = some (.ref f)) (c__law_draw : Cal P w G.K G.mg base G 1 "_law_draw" ["_law_script", "_law_town_here", "_law_many"] drawF) (c__law_pick : Cal P w G.K G.mg base G 2 "_law_pick" ["_law_script", "_law_town_here", "_law_some"] f__law_pick) : Cal P w G.K G.mg base G 3 "_law_machine" ["_law_script", "_law_town_here", "_law_most_pockets"] f__law_machine :=
  mk_cal [1] d__law_machine T hm sc__law_machine (by decide) (fun _ _ _ _ _ _ us hl => match us, hl with | [_, _, _], _ => rfl) fun cdv A outer s H E hr =>
  (ss_one (s_ret (e_tup (l_cons (Cal.mc c__law_pick hr pass_cx (m_d (e_var 0) (m_m 1 (m_d (e_L (eo_lst (l_cons e_str (l_cons e_str (l_cons e_str l_nil))))) m_nil)))) (l_cons (e_op op_addA ok_add e_int (Cal.mc c__law_draw hr pass_cx (m_d (e_var 0) (m_m 1 (m_d (e_var 2) m_nil))))) l_nil)))))

abbrev s_fewest : Stmt := topS 18
abbrev N_fewest : List Str := ["deck", "kind", "pockets", "machine"]
theorem sc_fewest : FnScope ["deck", "kind", "pockets", "machine"] ["deck", "kind", "pockets"] (defScope s_fewest) := ⟨rfl, rfl, rfl, by decide +kernel, rfl, by decide +kernel, by decide +kernel⟩
theorem c_fewest {P : Program} {w : World} {base : Heap} {G : GC} (bl : Bl G) {f : Addr} {fd : FuncData} (T : DefAtD G.K "fewest" "fewest" s_fewest [V.str "tray", V.int 2] f fd) (hm : G.mg "fewest" = some (.ref f)) (c_Deck_in_order : CalM P w G.K G.mg base G 1 "in_order" ["self"] f_Deck_in_order) (c_Deck_rising : CalM P w G.K G.mg base G 2 "rising" ["self"] f_Deck_rising) (c_fewest_for : Cal P w G.K G.mg base G 2 "fewest_for" ["sorted_now", "rising", "falling", "machine"] f_fewest_for) (c_Deck_falling : CalM P w G.K G.mg base G 3 "falling" ["self"] f_Deck_falling) (c_look_machine : Cal P w G.K G.mg base G 3 "look_machine" ["machine"] f_look_machine) : Cal P w G.K G.mg base G 4 "fewest" ["deck", "kind", "pockets"] f_fewest :=
  CalD.all (mk_calD (dvs := [V.str "tray", V.int 2]) 2 [] d_fewest T hm sc_fewest (by decide) 3 (by simp) rfl (fun _ _ _ _ _ _ _ us its hu hi => match us, hu, its, hi with | [_, _, _], _, [_, _], _ => ⟨_, rfl, rfl⟩) fun cdv A outer s H E hr =>
  (ss_cons (s_set 3 sc_fewest.nd (e_tup (l_cons (e_var 1) (l_cons (e_var 2) l_nil))))
  (ss_cons (s_expr (Cal.pc c_look_machine hr pass_cx (l_cons (e_var 3) l_nil)))
  (ss_one (s_ret (Cal.pc c_fewest_for hr pass_cx (l_cons (CalM.mc0 bl.dk rfl c_Deck_in_order hr pass_cx (e_var 0)) (l_cons (CalM.mc0 bl.dk rfl c_Deck_rising hr pass_cx (e_var 0)) (l_cons (CalM.mc0 bl.dk rfl c_Deck_falling hr pass_cx (e_var 0)) (l_cons (e_var 3) l_nil))))))))))

abbrev s_fewest_by_keys : Stmt := topS 24
abbrev N_fewest_by_keys : List Str := ["keys", "kind", "pockets", "machine", "need", "some"]
theorem sc_fewest_by_keys : FnScope ["keys", "kind", "pockets", "machine", "need", "some"] ["keys", "kind", "pockets"] (defScope s_fewest_by_keys) := ⟨rfl, rfl, rfl, by decide +kernel, rfl, by decide +kernel, by decide +kernel⟩
theorem c_fewest_by_keys {P : Program} {w : World} {base : Heap} {G : GC} (bl : Bl G) {f : Addr} {fd : FuncData} (T : DefAtD G.K "fewest_by_keys" "fewest_by_keys" s_fewest_by_keys [V.str "tray", V.int 2] f fd) (hm : G.mg "fewest_by_keys" = some (.ref f)) (c_dealt_out : Cal P w G.K G.mg base G 1 "dealt_out" ["keys"] f_dealt_out) (c_fewest_for : Cal P w G.K G.mg base G 2 "fewest_for" ["sorted_now", "rising", "falling", "machine"] f_fewest_for) (c_look_keys : Cal P w G.K G.mg base G 2 "look_keys" ["keys"] f_look_keys) (c_look_machine : Cal P w G.K G.mg base G 3 "look_machine" ["machine"] f_look_machine) : Cal P w G.K G.mg base G 4 "fewest_by_keys" ["keys", "kind", "pockets"] f_fewest_by_keys :=
  CalD.all (mk_calD (dvs := [V.str "tray", V.int 2]) 2 [] d_fewest_by_keys T hm sc_fewest_by_keys (by decide) 3 (by simp) rfl (fun _ _ _ _ _ _ _ us its hu hi => match us, hu, its, hi with | [_, _, _], _, [_, _], _ => ⟨_, rfl, rfl⟩) fun cdv A outer s H E hr =>
  (ss_cons (s_expr (Cal.pc c_look_keys hr pass_cx (l_cons (e_var 0) l_nil)))
  (ss_cons (s_set 3 sc_fewest_by_keys.nd (e_tup (l_cons (e_var 1) (l_cons (e_var 2) l_nil))))
  (ss_cons (s_expr (Cal.pc c_look_machine hr pass_cx (l_cons (e_var 3) l_nil)))
  (ss_cons (s_setLc 4 [("some", 5)] rfl sc_fewest_by_keys.nd (tg_name (by decide)) (sw_true rfl rfl rfl (by decide +kernel)) (i_tup rfl (e_tup (l_cons (e_var 0) (l_cons (e_L (eo_rev rfl (e_var 0))) l_nil)))) (blkOk_by (own := [("some", 5)]) (N := N_fewest_by_keys) (sc := defScope s_fewest_by_keys) (by decide +kernel)) (fun _ _ _ _ _ => pg_name (i := 5) sc_fewest_by_keys.nd rfl (by first | exact Or.inl rfl | exact Or.inr rfl)) (fun _ _ _ _ _ => ts_nil) (fun _ _ _ _ _ => (e_op op_addA ok_add (e_cB (cr_max rfl) ok_max1 bl.b_max (by decide +kernel) (l_cons (Cal.pc c_dealt_out hr passL (l_cons (e_var 5) l_nil)) l_nil)) e_int)))
  (ss_one (s_ret (Cal.pc c_fewest_for hr pass_cx (l_cons (e_cmp (op_eqD hr.units) ok_eq (e_var 0) (e_L (eo_cB cr_sortedI ok_sorted bl.b_sorted (by decide +kernel) (l_cons (e_var 0) l_nil)))) (l_cons (e_ix rfl (e_var 4) e_int) (l_cons (e_ix rfl (e_var 4) e_int) (l_cons (e_var 3) l_nil))))))))))))

abbrev s_law : Stmt := topS 38
abbrev N_law : List Str := ["_law_script", "_law_town_here", "_law_top", "_law_keys", "_law_machine_here", "_law_told", "_law_word", "_law_left", "_law_k", "_law_cards_here", "_law_deck", "_law_wide", "_law_one", "_law_key", "_law_pocket", "_law_card"]
theorem sc_law : FnScope ["_law_script", "_law_town_here", "_law_top", "_law_keys", "_law_machine_here", "_law_told", "_law_word", "_law_left", "_law_k", "_law_cards_here", "_law_deck", "_law_wide", "_law_one", "_law_key", "_law_pocket", "_law_card"] ["_law_script"] (defScope s_law) := ⟨rfl, rfl, rfl, by decide +kernel, rfl, by decide +kernel, by decide +kernel⟩
theorem w_law {P : Program} {w : World} {base : Heap} {G : GC} (bl : Bl G) {f : Addr} {fd : FuncData} (T : DefAt G.K "law" "law" s_law f fd) (c__law_town : CalT P w G.K G.mg base 1 "_law_town" ["_law_script"]) (c__law_draw : Cal P w G.K G.mg base G 1 "_law_draw" ["_law_script", "_law_town_here", "_law_many"] drawF) (c__law_whole : Cal P w G.K G.mg base G 1 "_law_whole" ["_law_thing"] f__law_whole) (c__law_gathered : Cal P w G.K G.mg base G 1 "_law_gathered" ["_law_cards_here", "_law_machine_here", "_law_word"] f__law_gathered) (c__law_power : Cal P w G.K G.mg base G 1 "_law_power" ["_law_number", "_law_many"] f__law_power) (c__law_need : Cal P w G.K G.mg base G 1 "_law_need" ["_law_keys"] f__law_need) (c_Deck_rising : CalM P w G.K G.mg base G 2 "rising" ["self"] f_Deck_rising) (c__law_pick : Cal P w G.K G.mg base G 2 "_law_pick" ["_law_script", "_law_town_here", "_law_some"] f__law_pick) (c__law_cards : Cal P w G.K G.mg base G 2 "_law_cards" ["_law_script", "_law_town_here", "_law_most_cards"] f__law_cards) (c__law_fewest : Cal P w G.K G.mg base G 2 "_law_fewest" ["_law_keys", "_law_machine_here"] f__law_fewest) (c_Deck_init : CalI P w G.K G.mg base G 3 "Deck" ["self", "cards"] f_Deck_init) (c_needed : Cal P w G.K G.mg base G 3 "needed" ["keys"] f_needed) (c_word_by_keys : Cal P w G.K G.mg base G 3 "word_by_keys" ["keys"] f_word_by_keys) (c__law_machine : Cal P w G.K G.mg base G 3 "_law_machine" ["_law_script", "_law_town_here", "_law_most_pockets"] f__law_machine) (c_fewest : Cal P w G.K G.mg base G 4 "fewest" ["deck", "kind", "pockets"] f_fewest) (c_fewest_by_keys : Cal P w G.K G.mg base G 4 "fewest_by_keys" ["keys", "kind", "pockets"] f_fewest_by_keys) : FnOk P w G.K G.mg base (L2.CX P w) 5 f fd ["_law_script"] (spF G f_law) :=
  fn_def [] d_law T.fn sc_law (by decide) fun cdv A outer s H E hr =>
  (ss_cons (s_town 1 0 sc_law.nd rfl c__law_town hr pass_cx)
  (ss_cons (s_set 2 sc_law.nd (Cal.mc c__law_pick hr pass_cx (m_d (e_var 0) (m_m 1 (m_d (e_L (eo_lst (l_cons e_int (l_cons e_int (l_cons e_int (l_cons e_int l_nil)))))) m_nil)))))
  (ss_cons (s_setLc 3 [("_law_k", 8)] rfl sc_law.nd (tg_name (by decide)) (sw_true rfl rfl rfl (by decide +kernel)) (i_rng1 bl.b_range (l_cons (e_op op_addA ok_add e_int (Cal.mc c__law_draw hr pass_cx (m_d (e_var 0) (m_m 1 (m_d e_int m_nil))))) l_nil)) (blkOk_by (own := [("_law_k", 8)]) (N := N_law) (sc := defScope s_law) (by decide +kernel)) (fun _ _ _ _ _ => pg_name (i := 8) sc_law.nd rfl (by first | exact Or.inl rfl | exact Or.inr rfl)) (fun _ _ _ _ _ => ts_nil) (fun _ _ _ _ _ => (Cal.mc c__law_draw hr passL (m_d (e_var 0) (m_m 1 (m_d (e_var 2) m_nil))))))
  (ss_cons (s_set 4 sc_law.nd (Cal.mc c__law_machine hr pass_cx (m_d (e_var 0) (m_m 1 (m_d (Cal.mc c__law_pick hr pass_cx (m_d (e_var 0) (m_m 1 (m_d (e_L (eo_lst (l_cons e_int (l_cons e_int (l_cons e_int (l_cons e_int l_nil)))))) m_nil)))) m_nil)))))
  (ss_cons (s_set 5 sc_law.nd (Cal.pc c_fewest_by_keys hr pass_cx (l_cons (e_L (eo_callTy call_list_of ok_list bl.b_list (by decide +kernel) (l_cons (e_var 3) l_nil))) (l_cons (e_ix rfl (e_var 4) e_int) (l_cons (e_ix rfl (e_var 4) e_int) l_nil)))))
  (ss_cons (s_if (PW.pt (t_or (t_cmp (op_neD hr.units) ok_ne (e_var 5) (Cal.pc c__law_fewest hr pass_cx (l_cons (e_var 3) (l_cons (e_var 4) l_nil)))) (t_or1 (PW.pt (t_and (t_cmp op_notN ok_notN (e_var 5) e_non) (t_and1 (t_not (t_val (Cal.pc c__law_whole hr pass_cx (l_cons (e_var 5) l_nil)))))))))) (ss_one (s_ret e_bl)) ss_nil)
  (ss_cons (s_if (t_cmp (op_neD hr.units) ok_ne (Cal.pc c_needed hr pass_cx (l_cons (e_var 3) l_nil)) (Cal.pc c__law_need hr pass_cx (l_cons (e_var 3) l_nil))) (ss_one (s_ret e_bl)) ss_nil)
  (ss_cons (s_if (PW.pt (t_and (t_cmp op_notN ok_notN (e_var 5) e_non) (t_and1 (t_cmp (op_eqD hr.units) ok_eq (e_ix rfl (e_var 4) e_int) e_str)))) (ss_cons (s_set 6 sc_law.nd (Cal.pc c_word_by_keys hr pass_cx (l_cons (e_var 3) l_nil)))
  (ss_cons (s_set 7 sc_law.nd (e_L (eo_lz rfl rfl bl.b_list bl.b_zip (l_cons (e_var 3) (l_cons (e_var 6) l_nil)))))
  (ss_cons (s_for (passes_of rfl) rfl (i_rng1 bl.b_range (l_cons (e_var 5) l_nil)) (g_name 8 sc_law.nd) (ss_one (s_set 7 sc_law.nd (Cal.pc c__law_gathered hr pass_cx (l_cons (e_var 7) (l_cons (e_var 4) (l_cons (e_L (e_lc [("_law_one", 12)] rfl sc_law.nd (tg_name (by decide)) (i_list rfl (e_var 7)) (blkOk_by (own := [("_law_one", 12)]) (N := N_law) (sc := defScope s_law) (by decide +kernel)) (fun _ _ _ _ _ => pg_name (i := 12) sc_law.nd rfl (by first | exact Or.inl rfl | exact Or.inr rfl)) (fun _ _ _ _ _ => ts_nil) (fun _ _ _ _ _ => (e_op op_mod ok_int (e_op op_fdivW ok_int (e_ix rfl (e_var 12) e_int) (Cal.pc c__law_power hr passL (l_cons (e_ix rfl (e_var 4) e_int) (l_cons (e_var 8) l_nil)))) (e_ix rfl (e_var 4) e_int))))) l_nil)))))))
  (ss_one (s_if (t_cmp (op_neD hr.units) ok_ne (e_L (e_lc [("_law_key", 13), ("_law_pocket", 14)] rfl sc_law.nd (tg_tup2 (by decide) (by decide)) (i_list rfl (e_var 7)) (blkOk_by (own := [("_law_key", 13), ("_law_pocket", 14)]) (N := N_law) (sc := defScope s_law) (by decide +kernel)) (fun _ _ _ _ _ => pg_tup rfl (pgs_cons (pg_name (i := 13) sc_law.nd rfl (by first | exact Or.inl rfl | exact Or.inr rfl)) (pgs_cons (pg_name (i := 14) sc_law.nd rfl (by first | exact Or.inl rfl | exact Or.inr rfl)) pgs_nil))) (fun _ _ _ _ _ => ts_nil) (fun _ _ _ _ _ => (e_var 13)))) (e_L (eo_cB cr_sortedI ok_sorted bl.b_sorted (by decide +kernel) (l_cons (e_var 3) l_nil)))) (ss_one (s_ret e_bl)) ss_nil))))) ss_nil)
  (ss_cons (s_set 9 sc_law.nd (Cal.mc c__law_cards hr pass_cx (m_d (e_var 0) (m_m 1 (m_d e_int m_nil)))))
  (ss_cons (s_set 10 sc_law.nd (CalI.mk c_Deck_init hr pass_cx (l_cons (e_var 9) l_nil)))
  (ss_cons (s_setLc 11 [("_law_card", 15)] rfl sc_law.nd (tg_name (by decide)) (sw_true rfl rfl rfl (by decide +kernel)) (i_list rfl (e_var 9)) (blkOk_by (own := [("_law_card", 15)]) (N := N_law) (sc := defScope s_law) (by decide +kernel)) (fun _ _ _ _ _ => pg_name (i := 15) sc_law.nd rfl (by first | exact Or.inl rfl | exact Or.inr rfl)) (fun _ _ _ _ _ => ts_nil) (fun _ _ _ _ _ => (e_op op_addA ok_add (e_op op_mulA ok_mul e_int (e_var 15)) e_int)))
  (ss_cons (s_set 5 sc_law.nd (Cal.pc c_fewest_by_keys hr pass_cx (l_cons (e_var 11) (l_cons (e_ix rfl (e_var 4) e_int) (l_cons (e_ix rfl (e_var 4) e_int) l_nil)))))
  (ss_one (s_ret (e_and (e_cmp (op_eqD hr.units) ok_eq (e_var 5) (Cal.pc c_fewest hr pass_cx (l_cons (e_var 10) (l_cons (e_ix rfl (e_var 4) e_int) (l_cons (e_ix rfl (e_var 4) e_int) l_nil))))) (e_one (e_cmp (op_eqD hr.units) ok_eq (Cal.pc c_needed hr pass_cx (l_cons (e_var 11) l_nil)) (CalM.mc0 bl.dk rfl c_Deck_rising hr pass_cx (e_var 10)))))))))))))))))))

theorem all_mk {P : Program} {w : World} {K : PySem.W.Frag} {h : Heap} {mg : Str → Option Value} {fa : Addr} (X : K.In h) (G0 : h.Ns mainGlobals mg) (hfa : mg "law" = some (.ref fa))
    {dC : Addr} (aC : PySem.W.nsIn K mainGlobals "Deck" = some (some (.ref dC)))
    {a_is_number : Addr} {fd_is_number : FuncData} (T_is_number : DefAt K "is_number" "is_number" s_is_number a_is_number fd_is_number)
    {a_Deck_places : Addr} {fd_Deck_places : FuncData} (T_Deck_places : MetAt K dC "places" "Deck.places" s_Deck_places a_Deck_places fd_Deck_places)
    {a_Deck_in_order : Addr} {fd_Deck_in_order : FuncData} (T_Deck_in_order : MetAt K dC "in_order" "Deck.in_order" s_Deck_in_order a_Deck_in_order fd_Deck_in_order)
    {a_power : Addr} {fd_power : FuncData} (T_power : DefAt K "power" "power" s_power a_power fd_power)
    {a_dealt_out : Addr} {fd_dealt_out : FuncData} (T_dealt_out : DefAt K "dealt_out" "dealt_out" s_dealt_out a_dealt_out fd_dealt_out)
    {a__law_town : Addr} {fd__law_town : FuncData} (T__law_town : DefAt K "_law_town" "_law_town" s__law_town a__law_town fd__law_town)
    {a__law_draw : Addr} {fd__law_draw : FuncData} (T__law_draw : DefAt K "_law_draw" "_law_draw" s__law_draw a__law_draw fd__law_draw)
    {a__law_whole : Addr} {fd__law_whole : FuncData} (T__law_whole : DefAt K "_law_whole" "_law_whole" s__law_whole a__law_whole fd__law_whole)
    {a__law_room : Addr} {fd__law_room : FuncData} (T__law_room : DefAt K "_law_room" "_law_room" s__law_room a__law_room fd__law_room)
    {a__law_odd : Addr} {fd__law_odd : FuncData} (T__law_odd : DefAt K "_law_odd" "_law_odd" s__law_odd a__law_odd fd__law_odd)
    {a__law_gathered : Addr} {fd__law_gathered : FuncData} (T__law_gathered : DefAt K "_law_gathered" "_law_gathered" s__law_gathered a__law_gathered fd__law_gathered)
    {a__law_power : Addr} {fd__law_power : FuncData} (T__law_power : DefAt K "_law_power" "_law_power" s__law_power a__law_power fd__law_power)
    {a__law_need : Addr} {fd__law_need : FuncData} (T__law_need : DefAt K "_law_need" "_law_need" s__law_need a__law_need fd__law_need)
    {a_is_cards : Addr} {fd_is_cards : FuncData} (T_is_cards : DefAt K "is_cards" "is_cards" s_is_cards a_is_cards fd_is_cards)
    {a_Deck_rising : Addr} {fd_Deck_rising : FuncData} (T_Deck_rising : MetAt K dC "rising" "Deck.rising" s_Deck_rising a_Deck_rising fd_Deck_rising)
    {a_is_machine : Addr} {fd_is_machine : FuncData} (T_is_machine : DefAt K "is_machine" "is_machine" s_is_machine a_is_machine fd_is_machine)
    {a_fewest_for : Addr} {fd_fewest_for : FuncData} (T_fewest_for : DefAt K "fewest_for" "fewest_for" s_fewest_for a_fewest_for fd_fewest_for)
    {a_look_keys : Addr} {fd_look_keys : FuncData} (T_look_keys : DefAt K "look_keys" "look_keys" s_look_keys a_look_keys fd_look_keys)
    {a__law_pick : Addr} {fd__law_pick : FuncData} (T__law_pick : DefAt K "_law_pick" "_law_pick" s__law_pick a__law_pick fd__law_pick)
    {a__law_cards : Addr} {fd__law_cards : FuncData} (T__law_cards : DefAt K "_law_cards" "_law_cards" s__law_cards a__law_cards fd__law_cards)
    {a__law_fewest : Addr} {fd__law_fewest : FuncData} (T__law_fewest : DefAt K "_law_fewest" "_law_fewest" s__law_fewest a__law_fewest fd__law_fewest)
    {a_Deck_init : Addr} {fd_Deck_init : FuncData} (T_Deck_init : MetAt K dC "__init__" "Deck.__init__" s_Deck_init a_Deck_init fd_Deck_init)
    {a_Deck_falling : Addr} {fd_Deck_falling : FuncData} (T_Deck_falling : MetAt K dC "falling" "Deck.falling" s_Deck_falling a_Deck_falling fd_Deck_falling)
    {a_look_machine : Addr} {fd_look_machine : FuncData} (T_look_machine : DefAt K "look_machine" "look_machine" s_look_machine a_look_machine fd_look_machine)
    {a_needed : Addr} {fd_needed : FuncData} (T_needed : DefAt K "needed" "needed" s_needed a_needed fd_needed)
    {a_word_by_keys : Addr} {fd_word_by_keys : FuncData} (T_word_by_keys : DefAt K "word_by_keys" "word_by_keys" s_word_by_keys a_word_by_keys fd_word_by_keys)
    {a__law_machine : Addr} {fd__law_machine : FuncData} (T__law_machine : DefAt K "_law_machine" "_law_machine" s__law_machine a__law_machine fd__law_machine)
    {a_fewest : Addr} {fd_fewest : FuncData} (T_fewest : DefAtD K "fewest" "fewest" s_fewest [V.str "tray", V.int 2] a_fewest fd_fewest)
    {a_fewest_by_keys : Addr} {fd_fewest_by_keys : FuncData} (T_fewest_by_keys : DefAtD K "fewest_by_keys" "fewest_by_keys" s_fewest_by_keys [V.str "tray", V.int 2] a_fewest_by_keys fd_fewest_by_keys)
    {a_law : Addr} {fd_law : FuncData} (T_law : DefAt K "law" "law" s_law a_law fd_law)
    (z_all : PySem.W.nsIn K mainGlobals "all" = some none)
    (z_bool : PySem.W.nsIn K mainGlobals "bool" = some none)
    (z_enumerate : PySem.W.nsIn K mainGlobals "enumerate" = some none)
    (z_int : PySem.W.nsIn K mainGlobals "int" = some none)
    (z_isinstance : PySem.W.nsIn K mainGlobals "isinstance" = some none)
    (z_len : PySem.W.nsIn K mainGlobals "len" = some none)
    (z_list : PySem.W.nsIn K mainGlobals "list" = some none)
    (z_max : PySem.W.nsIn K mainGlobals "max" = some none)
    (z_min : PySem.W.nsIn K mainGlobals "min" = some none)
    (z_range : PySem.W.nsIn K mainGlobals "range" = some none)
    (z_set : PySem.W.nsIn K mainGlobals "set" = some none)
    (z_sorted : PySem.W.nsIn K mainGlobals "sorted" = some none)
    (z_str : PySem.W.nsIn K mainGlobals "str" = some none)
    (z_tuple : PySem.W.nsIn K mainGlobals "tuple" = some none)
    (z_zip : PySem.W.nsIn K mainGlobals "zip" = some none)
    {t_MOST_CARDS : Tok} (k_MOST_CARDS : PySem.W.nsIn K mainGlobals "MOST_CARDS" = some (some (.int 40 t_MOST_CARDS)))
    {t_MOST_POCKETS : Tok} (k_MOST_POCKETS : PySem.W.nsIn K mainGlobals "MOST_POCKETS" = some (some (.int 300 t_MOST_POCKETS)))
    {t_MOST_RUNS : Tok} (k_MOST_RUNS : PySem.W.nsIn K mainGlobals "MOST_RUNS" = some (some (.int 8 t_MOST_RUNS)))
    (D_pg : PySem.W.plainGet K dC Str.empty = true)
    (D_hd : PySem.W.hasDictIn K dC = true)
    (D_po : PySem.W.plainOver K dC = true)
    (D_sa : PySem.W.findIn K (.ref dC) "__setattr__" = some (some (.builtin "object.__setattr__")))
    (D_np : PySem.W.findIn K (.ref dC) "pile" = some none)
    (D_ca : PySem.W.findIn K (.ref dC) "__class__" = some (some (.builtin "object.__class__")))
    (D_cn : PySem.W.specialIn K (.builtin "object.__class__") "__get__" = some (some (.builtin "getset_descriptor.__get__")))
    (D_ct : PySem.W.takesIn K (.builtin "object.__class__") = some true)
    (D_cm : PySem.W.mroIn K dC (.type "object") = some true)
    (D_mk : PySem.W.makesIn K dC = true)
    (D_kp : PySem.W.keepIn K (.ref dC) = true)
    (D_ne : PySem.W.findIn K (.ref dC) "__ne__" = some (some (.builtin "object.__ne__")))
    (D_ti : PySem.W.typeIn K (.ref dC) = some (.type "type"))
    : ∃ fd : FuncData, (∀ (s : Shared) (u : Value), BindsTo s fd ⟨[u], []⟩ [("_law_script", u)]) ∧ ∀ base : Heap, K.In base → base.Ns mainGlobals mg → FnOk P w K mg base (L2.CX P w) 5 fa fd ["_law_script"] (spLaw K) := by
  have e := hfa.symm.trans (PySem.W.mg_of X G0 T_law.ns)
  cases e
  have bl : Bl ⟨K, mg, dC⟩ := ⟨PySem.W.mg_none_of X G0 z_all, PySem.W.mg_none_of X G0 z_bool, PySem.W.mg_none_of X G0 z_enumerate, PySem.W.mg_none_of X G0 z_int, PySem.W.mg_none_of X G0 z_isinstance, PySem.W.mg_none_of X G0 z_len, PySem.W.mg_none_of X G0 z_list, PySem.W.mg_none_of X G0 z_max, PySem.W.mg_none_of X G0 z_min, PySem.W.mg_none_of X G0 z_range, PySem.W.mg_none_of X G0 z_set, PySem.W.mg_none_of X G0 z_sorted, PySem.W.mg_none_of X G0 z_str, PySem.W.mg_none_of X G0 z_tuple, PySem.W.mg_none_of X G0 z_zip, ⟨_, PySem.W.mg_of X G0 k_MOST_CARDS⟩, ⟨_, PySem.W.mg_of X G0 k_MOST_POCKETS⟩, ⟨_, PySem.W.mg_of X G0 k_MOST_RUNS⟩, ⟨⟨D_pg, D_hd, D_po, D_sa⟩, D_np, D_ca, D_cn, D_ct, D_cm, D_mk, D_kp⟩, ⟨kit_no D_cm D_ti⟩, D_ne, PySem.W.mg_of X G0 aC⟩
  refine ⟨fd_law, fun s u => ?_, fun base _ _ => ?_⟩
  · obtain ⟨oc, od, kV, doc, pm, an, cdv, ct, osl, e, lk, hcd⟩ := T_law.fn.ex
    subst e
    exact .of_eq rfl
  · have c_is_number := c_is_number (P := P) (w := w) (base := base) bl T_is_number (PySem.W.mg_of X G0 T_is_number.ns) 
    have c_Deck_places := c_Deck_places (P := P) (w := w) (base := base) bl T_Deck_places 
    have c_Deck_in_order := c_Deck_in_order (P := P) (w := w) (base := base) bl T_Deck_in_order 
    have c_power := c_power (P := P) (w := w) (base := base) bl T_power (PySem.W.mg_of X G0 T_power.ns) 
    have c_dealt_out := c_dealt_out (P := P) (w := w) (base := base) bl T_dealt_out (PySem.W.mg_of X G0 T_dealt_out.ns) 
    have c__law_town := c__law_town (P := P) (w := w) (base := base) bl T__law_town (PySem.W.mg_of X G0 T__law_town.ns) 
    have c__law_draw := c_draw (c__law_draw (P := P) (w := w) (base := base) bl T__law_draw (PySem.W.mg_of X G0 T__law_draw.ns))
    have c__law_whole := c__law_whole (P := P) (w := w) (base := base) bl T__law_whole (PySem.W.mg_of X G0 T__law_whole.ns) 
    have c__law_room := c__law_room (P := P) (w := w) (base := base) bl T__law_room (PySem.W.mg_of X G0 T__law_room.ns) 
    have c__law_odd := c__law_odd (P := P) (w := w) (base := base) bl T__law_odd (PySem.W.mg_of X G0 T__law_odd.ns) 
    have c__law_gathered := c__law_gathered (P := P) (w := w) (base := base) bl T__law_gathered (PySem.W.mg_of X G0 T__law_gathered.ns) 
    have c__law_power := c__law_power (P := P) (w := w) (base := base) bl T__law_power (PySem.W.mg_of X G0 T__law_power.ns) 
    have c__law_need := c__law_need (P := P) (w := w) (base := base) bl T__law_need (PySem.W.mg_of X G0 T__law_need.ns) 
    have c_is_cards := c_is_cards (P := P) (w := w) (base := base) bl T_is_cards (PySem.W.mg_of X G0 T_is_cards.ns) c_is_number
    have c_Deck_rising := c_Deck_rising (P := P) (w := w) (base := base) bl T_Deck_rising c_Deck_places
    have c_is_machine := c_is_machine (P := P) (w := w) (base := base) bl T_is_machine (PySem.W.mg_of X G0 T_is_machine.ns) c_is_number
    have c_fewest_for := c_fewest_for (P := P) (w := w) (base := base) bl T_fewest_for (PySem.W.mg_of X G0 T_fewest_for.ns) c_power
    have c_look_keys := c_look_keys (P := P) (w := w) (base := base) bl T_look_keys (PySem.W.mg_of X G0 T_look_keys.ns) c_is_number
    have c__law_pick := c__law_pick (P := P) (w := w) (base := base) bl T__law_pick (PySem.W.mg_of X G0 T__law_pick.ns) c__law_draw
    have c__law_cards := c__law_cards (P := P) (w := w) (base := base) bl T__law_cards (PySem.W.mg_of X G0 T__law_cards.ns) c__law_draw
    have c__law_fewest := c__law_fewest (P := P) (w := w) (base := base) bl T__law_fewest (PySem.W.mg_of X G0 T__law_fewest.ns) c__law_room c__law_odd c__law_need
    have c_Deck_init := c_Deck_init (P := P) (w := w) (base := base) bl T_Deck_init c_is_cards
    have c_Deck_falling := c_Deck_falling (P := P) (w := w) (base := base) bl T_Deck_falling c_Deck_rising
    have c_look_machine := c_look_machine (P := P) (w := w) (base := base) bl T_look_machine (PySem.W.mg_of X G0 T_look_machine.ns) c_is_machine
    have c_needed := c_needed (P := P) (w := w) (base := base) bl T_needed (PySem.W.mg_of X G0 T_needed.ns) c_dealt_out c_look_keys
    have c_word_by_keys := c_word_by_keys (P := P) (w := w) (base := base) bl T_word_by_keys (PySem.W.mg_of X G0 T_word_by_keys.ns) c_dealt_out c_look_keys
    have c__law_machine := c__law_machine (P := P) (w := w) (base := base) bl T__law_machine (PySem.W.mg_of X G0 T__law_machine.ns) c__law_draw c__law_pick
    have c_fewest := c_fewest (P := P) (w := w) (base := base) bl T_fewest (PySem.W.mg_of X G0 T_fewest.ns) c_Deck_in_order c_Deck_rising c_fewest_for c_Deck_falling c_look_machine
    have c_fewest_by_keys := c_fewest_by_keys (P := P) (w := w) (base := base) bl T_fewest_by_keys (PySem.W.mg_of X G0 T_fewest_by_keys.ns) c_dealt_out c_fewest_for c_look_keys c_look_machine
    exact (w_law (P := P) (w := w) (base := base) bl T_law c__law_town c__law_draw c__law_whole c__law_gathered c__law_power c__law_need c_Deck_rising c__law_pick c__law_cards c__law_fewest c_Deck_init c_needed c_word_by_keys c__law_machine c_fewest c_fewest_by_keys).imp (law_imp rfl rfl law_ok)

end Y
open PySem PySem.W PyProof.Rows
set_option maxHeartbeats 0 in
theorem PySem.Challenge.cw_pocketrow_k71_whole_fewest_by_keys_holds : PySem.Challenge.rw_pocketrow_k71_whole_fewest_by_keys.Holds := by
  w_on; o_law; k_head; (case hw => w_witness2)
  k_fill
  refine L2.walk_of (l := PySem.Challenge.rw_pocketrow_k71_whole_fewest_by_keys) (n := 63) (k := 5) (x := "_law_script") (CX := fun w => L2.CX PySem.Challenge.rw_pocketrow_k71_whole_fewest_by_keys.prog w) (sp := fun w => Y.spLaw _) rfl (by decide) rfl ⟨rfl, by decide, by decide⟩ (fun w h Y => PySem.W.kIn_of Y) ?F (fun w H a ns hl _ hs => ⟨a, ns, rfl, hs, hl, fun _ => rfl⟩) (fun _ _ _ _ _ h => Y.hcx_of h)
  case F =>
    intro w mg fa h KX G hmg
    refine' Y.all_mk KX G hmg ?aC (Y.def_at ?a0 ?l0 ?c0 ?k0) (Y.met_at ?a1 ?i1 ?l1 ?c1 ?k1) (Y.met_at ?a2 ?i2 ?l2 ?c2 ?k2) (Y.def_at ?a3 ?l3 ?c3 ?k3) (Y.def_at ?a4 ?l4 ?c4 ?k4) (Y.def_at ?a5 ?l5 ?c5 ?k5) (Y.def_at ?a6 ?l6 ?c6 ?k6) (Y.def_at ?a7 ?l7 ?c7 ?k7) (Y.def_at ?a8 ?l8 ?c8 ?k8) (Y.def_at ?a9 ?l9 ?c9 ?k9) (Y.def_at ?a10 ?l10 ?c10 ?k10) (Y.def_at ?a11 ?l11 ?c11 ?k11) (Y.def_at ?a12 ?l12 ?c12 ?k12) (Y.def_at ?a13 ?l13 ?c13 ?k13) (Y.met_at ?a14 ?i14 ?l14 ?c14 ?k14) (Y.def_at ?a15 ?l15 ?c15 ?k15) (Y.def_at ?a16 ?l16 ?c16 ?k16) (Y.def_at ?a17 ?l17 ?c17 ?k17) (Y.def_at ?a18 ?l18 ?c18 ?k18) (Y.def_at ?a19 ?l19 ?c19 ?k19) (Y.def_at ?a20 ?l20 ?c20 ?k20) (Y.met_at ?a21 ?i21 ?l21 ?c21 ?k21) (Y.met_at ?a22 ?i22 ?l22 ?c22 ?k22) (Y.def_at ?a23 ?l23 ?c23 ?k23) (Y.def_at ?a24 ?l24 ?c24 ?k24) (Y.def_at ?a25 ?l25 ?c25 ?k25) (Y.def_at ?a26 ?l26 ?c26 ?k26) (Y.def_atD ?a27 ?l27 ?t27 ?v27 ?c27 ?k27) (Y.def_atD ?a28 ?l28 ?t28 ?v28 ?c28 ?k28) (Y.def_at ?a29 ?l29 ?c29 ?k29) ?z0 ?z1 ?z2 ?z3 ?z4 ?z5 ?z6 ?z7 ?z8 ?z9 ?z10 ?z11 ?z12 ?z13 ?z14 ?z15 ?z16 ?z17 ?D_pg ?D_hd ?D_po ?D_sa ?D_np ?D_ca ?D_cn ?D_ct ?D_cm ?D_mk ?D_kp ?D_ne ?D_ti
    (case aC => k_is)
    (case a0 => k_is); (case l0 => k_is); (case c0 => k_is); (case k0 => k_is)
    (case a1 => k_is); (case i1 => k_is); (case l1 => k_is); (case c1 => k_is); (case k1 => k_is)
    (case a2 => k_is); (case i2 => k_is); (case l2 => k_is); (case c2 => k_is); (case k2 => k_is)
    (case a3 => k_is); (case l3 => k_is); (case c3 => k_is); (case k3 => k_is)
    (case a4 => k_is); (case l4 => k_is); (case c4 => k_is); (case k4 => k_is)
    (case a5 => k_is); (case l5 => k_is); (case c5 => k_is); (case k5 => k_is)
    (case a6 => k_is); (case l6 => k_is); (case c6 => k_is); (case k6 => k_is)
    (case a7 => k_is); (case l7 => k_is); (case c7 => k_is); (case k7 => k_is)
    (case a8 => k_is); (case l8 => k_is); (case c8 => k_is); (case k8 => k_is)
    (case a9 => k_is); (case l9 => k_is); (case c9 => k_is); (case k9 => k_is)
    (case a10 => k_is); (case l10 => k_is); (case c10 => k_is); (case k10 => k_is)
    (case a11 => k_is); (case l11 => k_is); (case c11 => k_is); (case k11 => k_is)
    (case a12 => k_is); (case l12 => k_is); (case c12 => k_is); (case k12 => k_is)
    (case a13 => k_is); (case l13 => k_is); (case c13 => k_is); (case k13 => k_is)
    (case a14 => k_is); (case i14 => k_is); (case l14 => k_is); (case c14 => k_is); (case k14 => k_is)
    (case a15 => k_is); (case l15 => k_is); (case c15 => k_is); (case k15 => k_is)
    (case a16 => k_is); (case l16 => k_is); (case c16 => k_is); (case k16 => k_is)
    (case a17 => k_is); (case l17 => k_is); (case c17 => k_is); (case k17 => k_is)
    (case a18 => k_is); (case l18 => k_is); (case c18 => k_is); (case k18 => k_is)
    (case a19 => k_is); (case l19 => k_is); (case c19 => k_is); (case k19 => k_is)
    (case a20 => k_is); (case l20 => k_is); (case c20 => k_is); (case k20 => k_is)
    (case a21 => k_is); (case i21 => k_is); (case l21 => k_is); (case c21 => k_is); (case k21 => k_is)
    (case a22 => k_is); (case i22 => k_is); (case l22 => k_is); (case c22 => k_is); (case k22 => k_is)
    (case a23 => k_is); (case l23 => k_is); (case c23 => k_is); (case k23 => k_is)
    (case a24 => k_is); (case l24 => k_is); (case c24 => k_is); (case k24 => k_is)
    (case a25 => k_is); (case l25 => k_is); (case c25 => k_is); (case k25 => k_is)
    (case a26 => k_is); (case l26 => k_is); (case c26 => k_is); (case k26 => k_is)
    (case a27 => k_is); (case l27 => k_is); (case t27 => k_is); (case v27 => exact (.cons ⟨_, rfl⟩ (.cons ⟨_, rfl⟩ .nil))); (case c27 => k_is); (case k27 => k_is)
    (case a28 => k_is); (case l28 => k_is); (case t28 => k_is); (case v28 => exact (.cons ⟨_, rfl⟩ (.cons ⟨_, rfl⟩ .nil))); (case c28 => k_is); (case k28 => k_is)
    (case a29 => k_is); (case l29 => k_is); (case c29 => k_is); (case k29 => k_is)
    (case z0 => k_is)
    (case z1 => k_is)
    (case z2 => k_is)
    (case z3 => k_is)
    (case z4 => k_is)
    (case z5 => k_is)
    (case z6 => k_is)
    (case z7 => k_is)
    (case z8 => k_is)
    (case z9 => k_is)
    (case z10 => k_is)
    (case z11 => k_is)
    (case z12 => k_is)
    (case z13 => k_is)
    (case z14 => k_is)
    (case z15 => k_is)
    (case z16 => k_is)
    (case z17 => k_is)
    (case D_pg => k_is)
    (case D_hd => k_is)
    (case D_po => k_is)
    (case D_sa => k_is)
    (case D_np => k_is)
    (case D_ca => k_is)
    (case D_cn => k_is)
    (case D_ct => k_is)
    (case D_cm => k_is)
    (case D_mk => k_is)
    (case D_kp => k_is)
    (case D_ne => k_is)
    (case D_ti => k_is)


