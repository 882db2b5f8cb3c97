import PyProof.Rows.All
import Wide.All
import OpenK.AllK
import Wide.FinOn
import HandS.ForMost
import HandS.ForExc
import HandS.Wide
import HandS.Flow
import HandS.IsInst
import HandS.TryMany
import KE.KExcIs
import HandS.CallSlots
import HandS.ExcCtx
import HandS.HotCalls
import HandS.ExcIs
import HandS.ExcField
import HandS.Rev
import HandS.Zip
import HandS.FStr
import HandS.Text
import HandS.TupAny
import HandS.Style
import HandS.Deep
import HandS.SortInts
import PyProof.ReprRoads
import HandS.Hot
import KE.GoesMore
import KE.GoesEnum
import KE.GoesZip
import KE.KRevSl
import HandS.Conv
import HandS.More
import HandS.Defaults
import HandS.ExcInitHot
import PyProof.ExcBaseAll.ValueError
import HandS.Words
import HandS.HeadHook1
import HandS.HeadHook2
import HandS.Head0
import HandS.Head1
import HandS.Head2
import HandS.HeadEnd
import HandS.MakeKwOnly
import HandS.MakeKw
import PyProof.ReprLen
import PyProof.Rows.RegStrFacts
import PySem.Challenge.RW_whoserves_k18_whole_within_both_sides
set_option Elab.async false
set_option linter.all false
set_option maxRecDepth 100000
set_option maxHeartbeats 4000000
/-! WS0: plain values, their heap, how they lie in HandS's abstract heap; readings made of transformers over plain values. -/
namespace WS
open PySem PySem.Spec L2

/-- a value: tuples by what they hold; ref: an object that may change; glob: what a module's name holds (a def, a class); exc: the exception that is handled -/
inductive Val where
  | non | bl (b : Bool) | int (i : Int) | str (s : Str) | tup (xs : List Val) | ref (a : Addr) | ty (n : String) | glob (n : Str) | exc (c : Str) (ns : List Str) (vs : List Val) | scr (ns : List Int)
instance : Inhabited Val := ⟨.non⟩

/-- what stands at an address: a list; a list that is read alone (the script); a dict; an instance -/
inductive Cell where
  | lst (xs : List Val) | ro (xs : List Val) | dct (kvs : List (Val × Val)) | ins (c : Str) (ns : List Str) (vs : List Val)

abbrev IH := Addr → Option Cell
def put (h : IH) (a : Addr) (c : Cell) : IH := fun b => if b = a then some c else h b
theorem put_same {h : IH} {a : Addr} {c : Cell} : put h a c a = some c := by unfold put; rw [if_pos rfl]
theorem put_ne {h : IH} {a b : Addr} {c : Cell} (n : b ≠ a) : put h a c b = h b := by unfold put; rw [if_neg n]

structure Exc where
  c : Str
  ns : List Str
  vs : List Val

/-! ### how values lie -/
/-- a list that never changes: the script -/
def SqZ (K : PySem.W.Frag) (H : Hp) (a : Addr) (xs : List V) : Prop := (∃ ob, H a = some (.frz ob (.lst xs))) ∨
  ∃ (o : Obj) (its : Array Value) (n : Nat), K.lookup a = some o ∧ o.cls = .type "list" ∧ o.dict = none ∧ o.data = .seq its n ∧ its.size ≤ sizeLine ∧ Vals xs its.toList
theorem SqZ.l {K : PySem.W.Frag} {H : Hp} {a : Addr} {xs : List V} (h : SqZ K H a xs) : SqL K H a xs := h.elim (fun h => .inl (.inr h)) .inr
mutual
inductive VR (K : PySem.W.Frag) (mg : Str → Option Value) (H : Hp) : Val → V → Prop
  | non : VR K mg H .non .non
  | bl (b : Bool) : VR K mg H (.bl b) (.bl b)
  | int (i : Int) : VR K mg H (.int i) (.int i)
  | str (s : Str) : VR K mg H (.str s) (.str s)
  | tup {xs : List Val} {a : Addr} {vs : List V} : SqT K H a vs → VRs K mg H xs vs → VR K mg H (.tup xs) (.ref a)
  | ref (a : Addr) : VR K mg H (.ref a) (.ref a)
  | ty (n : String) : VR K mg H (.ty n) (.ty n)
  | glob {n : Str} {v : V} {u : Value} : mg n = some u → RelV v u → VR K mg H (.glob n) v
  | scr {ns : List Int} {a : Addr} : SqZ K H a (ns.map V.int) → VR K mg H (.scr ns) (.ref a)
inductive VRs (K : PySem.W.Frag) (mg : Str → Option Value) (H : Hp) : List Val → List V → Prop
  | nil : VRs K mg H [] []
  | cons {x : Val} {v : V} {xs : List Val} {vs : List V} : VR K mg H x v → VRs K mg H xs vs → VRs K mg H (x :: xs) (v :: vs)
end
section
variable {K : PySem.W.Frag} {mg : Str → Option Value} {H H' : Hp}
/-- the tuples that are read stand -/
def TupKeep (K : PySem.W.Frag) (H H' : Hp) : Prop := (∀ a vs, SqT K H a vs → SqT K H' a vs) ∧ ∀ a vs, SqZ K H a vs → SqZ K H' a vs
mutual
theorem VR.mono (k : TupKeep K H H') : ∀ {x : Val} {v : V}, VR K mg H x v → VR K mg H' x v
  | _, _, .non => .non
  | _, _, .bl b => .bl b
  | _, _, .int i => .int i
  | _, _, .str s => .str s
  | _, _, .tup h r => .tup (k.1 _ _ h) (VRs.mono k r)
  | _, _, .scr h => .scr (k.2 _ _ h)
  | _, _, .ref a => .ref a
  | _, _, .ty n => .ty n
  | _, _, .glob h r => .glob h r
theorem VRs.mono (k : TupKeep K H H') : ∀ {xs : List Val} {vs : List V}, VRs K mg H xs vs → VRs K mg H' xs vs
  | _, _, .nil => .nil
  | _, _, .cons h r => .cons (VR.mono k h) (VRs.mono k r)
end
theorem VRs.length : ∀ {xs : List Val} {vs : List V}, VRs K mg H xs vs → xs.length = vs.length
  | _, _, .nil => rfl
  | _, _, .cons _ r => congrArg (· + 1) (VRs.length r)
theorem VRs.get : ∀ {xs : List Val} {vs : List V} {i : Nat} {x : Val}, VRs K mg H xs vs → xs[i]? = some x → ∃ v, vs[i]? = some v ∧ VR K mg H x v
  | _, _, _, _, .nil, e => by simp at e
  | _, _, 0, _, .cons h _, e => by simp at e; subst e; exact ⟨_, rfl, h⟩
  | _, _, i + 1, x, .cons _ r, e => by
    obtain ⟨v, h1, h2⟩ := VRs.get (i := i) (x := x) r (by simpa using e)
    exact ⟨v, by simpa using h1, h2⟩
theorem VRs.get' : ∀ {xs : List Val} {vs : List V} {i : Nat} {v : V}, VRs K mg H xs vs → vs[i]? = some v → ∃ x, xs[i]? = some x ∧ VR K mg H x v
  | _, _, _, _, .nil, e => by simp at e
  | _, _, 0, _, .cons h _, e => by simp at e; subst e; exact ⟨_, rfl, h⟩
  | _, _, i + 1, x, .cons _ r, e => by
    obtain ⟨v, h1, h2⟩ := VRs.get' (i := i) (v := x) r (by simpa using e)
    exact ⟨v, by simpa using h1, h2⟩
theorem VRs.append : ∀ {xs ys : List Val} {vs us : List V}, VRs K mg H xs vs → VRs K mg H ys us → VRs K mg H (xs ++ ys) (vs ++ us)
  | _, _, _, _, .nil, s => s
  | _, _, _, _, .cons h r, s => .cons h (VRs.append r s)
theorem VRs.take : ∀ {xs : List Val} {vs : List V} (n : Nat), VRs K mg H xs vs → VRs K mg H (xs.take n) (vs.take n)
  | _, _, 0, _ => .nil
  | _, _, _ + 1, .nil => .nil
  | _, _, n + 1, .cons h r => .cons h (VRs.take n r)
theorem VRs.drop : ∀ {xs : List Val} {vs : List V} (n : Nat), VRs K mg H xs vs → VRs K mg H (xs.drop n) (vs.drop n)
  | _, _, 0, r => r
  | _, _, _ + 1, .nil => .nil
  | _, _, n + 1, .cons _ r => VRs.drop n r
theorem VRs.set {x : Val} {v : V} (h : VR K mg H x v) : ∀ {xs : List Val} {vs : List V} (i : Nat), VRs K mg H xs vs → VRs K mg H (xs.set i x) (vs.set i v)
  | _, _, _, .nil => .nil
  | _, _, 0, .cons _ r => .cons h r
  | _, _, i + 1, .cons q r => .cons q (VRs.set h i r)
theorem VRs.reverse : ∀ {xs : List Val} {vs : List V}, VRs K mg H xs vs → VRs K mg H xs.reverse vs.reverse
  | _, _, .nil => .nil
  | _, _, .cons h r => by
    rw [List.reverse_cons, List.reverse_cons]
    exact VRs.append (VRs.reverse r) (.cons h .nil)
theorem VRs.eraseIdx : ∀ {xs : List Val} {vs : List V} (i : Nat), VRs K mg H xs vs → VRs K mg H (xs.eraseIdx i) (vs.eraseIdx i)
  | _, _, _, .nil => .nil
  | _, _, 0, .cons _ r => r
  | _, _, i + 1, .cons h r => .cons h (VRs.eraseIdx i r)
theorem VRs.ints : ∀ {ns : List Int} {vs : List V}, VRs K mg H (ns.map Val.int) vs → vs = ns.map V.int
  | [], _, .nil => rfl
  | _ :: _, _, .cons h r => by cases h; rw [VRs.ints r]; rfl
theorem VRs.ofInts : ∀ (ns : List Int), VRs K mg H (ns.map Val.int) (ns.map V.int)
  | [] => .nil
  | _ :: r => .cons (.int _) (VRs.ofInts r)
theorem VRs.bls : ∀ {bs : List Bool} {vs : List V}, VRs K mg H (bs.map Val.bl) vs → vs = bs.map V.bl
  | [], _, .nil => rfl
  | _ :: _, _, .cons h r => by cases h; rw [VRs.bls r]; rfl
theorem VRs.strs : ∀ {ss : List Str} {vs : List V}, VRs K mg H (ss.map Val.str) vs → vs = ss.map V.str
  | [], _, .nil => rfl
  | _ :: _, _, .cons h r => by cases h; rw [VRs.strs r]; rfl
end

/-- a list's items, an instance's attributes -/
inductive CR (K : PySem.W.Frag) (mg : Str → Option Value) (H : Hp) : Cell → HO → Prop
  | lst {xs : List Val} {vs : List V} : VRs K mg H xs vs → CR K mg H (.lst xs) (.lst vs)
  | ro {xs : List Val} {vs : List V} {o : Obj} : VRs K mg H xs vs → CR K mg H (.ro xs) (.frz o (.lst vs))
  | dct {ks : List Key} {kvs : List (Val × Val)} {us : List V} : kvs.map (·.1) = ks.map (fun k => match k with | .inl i => Val.int i | .inr s => Val.str s) → VRs K mg H (kvs.map (·.2)) us → us.length = ks.length → CR K mg H (.dct kvs) (.dK (ks.zip us))
  | ins {c : Str} {C dx : Addr} {ns : List Str} {xs : List Val} {vs : List V} : mg c = some (.ref C) → VRs K mg H xs vs → ns.length = xs.length → CR K mg H (.ins c ns xs) (.ins C dx (ns.zip vs))
section
variable {K : PySem.W.Frag} {mg : Str → Option Value} {H H' : Hp}
theorem CR.mono (k : TupKeep K H H') {c : Cell} {o : HO} (x : CR K mg H c o) : CR K mg H' c o := by
  cases x with
  | lst r => exact .lst (r.mono k)
  | ro r => exact .ro (r.mono k)
  | dct a r b => exact .dct a (r.mono k) b
  | ins a r b => exact .ins a (r.mono k) b
theorem CR.notup {c : Cell} {o : HO} (x : CR K mg H c o) : (∀ xs, o ≠ .tup xs) ∧ ∀ ob xs, o ≠ .frz ob (.tup xs) := by
  cases x <;> exact ⟨(fun _ e => nomatch e), (fun _ _ e => nomatch e)⟩
/-- the heap of plain values lies in the abstract heap -/
def RH (K : PySem.W.Frag) (mg : Str → Option Value) (h : IH) (H : Hp) : Prop := ∀ a c, h a = some c → ∃ o, H a = some o ∧ CR K mg H c o
/-- from h, H to h', H': what was not told of stands, nothing of it is told of now -/
structure Ext (h : IH) (H : Hp) (h' : IH) (H' : Hp) : Prop where
  fr : ∀ a o, H a = some o → h a = none → H' a = some o
  nw : ∀ a o, H a = some o → h a = none → h' a = none
  fz : ∀ a ob u, H a = some (.frz ob u) → H' a = some (.frz ob u)
theorem Ext.refl {h : IH} {H : Hp} : Ext h H h H := ⟨fun _ _ e _ => e, fun _ _ _ e => e, fun _ _ _ e => e⟩
theorem Ext.trans {h h1 h2 : IH} {H H1 H2 : Hp} (a : Ext h H h1 H1) (b : Ext h1 H1 h2 H2) : Ext h H h2 H2 :=
  ⟨fun c o e n => b.fr c o (a.fr c o e n) (a.nw c o e n), fun c o e n => b.nw c o (a.fr c o e n) (a.nw c o e n), fun c o u e => b.fz c o u (a.fz c o u e)⟩
theorem Ext.tup {h h' : IH} (r : RH K mg h H) (x : Ext h H h' H') : TupKeep K H H' := by
  refine ⟨fun a vs s => ?_, fun a vs s => ?_⟩
  · rcases s with (s | ⟨ob, s⟩) | s
    · refine .inl (.inl (x.fr _ _ s ?_))
      cases e : h a with
      | none => rfl
      | some c =>
        obtain ⟨o, e1, e2⟩ := r a c e
        rw [s] at e1; cases e1
        exact absurd rfl (e2.notup.1 vs)
    · exact .inl (.inr ⟨ob, x.fz _ _ _ s⟩)
    · exact .inr s
  · rcases s with ⟨ob, s⟩ | s
    · exact .inl ⟨ob, x.fz _ _ _ s⟩
    · exact .inr s
/-- a new object that may change -/
theorem RH.alloc {h : IH} {p : Addr} {c : Cell} {o : HO} (r : RH K mg h H) (n : H p = none) (x : CR K mg H c o) : RH K mg (put h p c) (upd H p o) ∧ Ext h H (put h p c) (upd H p o) ∧ h p = none := by
  have hp : h p = none := by
    cases e : h p with
    | none => rfl
    | some c =>
      obtain ⟨o, e1, _⟩ := r p c e
      rw [n] at e1; cases e1
  have ne : ∀ a u, H a = some u → a ≠ p := fun a u e z => by rw [z, n] at e; cases e
  have ex : Ext h H (put h p c) (upd H p o) := ⟨fun a u e _ => by rw [upd_ne (ne a u e)]; exact e, fun a u e q => by rw [put_ne (ne a u e)]; exact q, fun a ob u e => by rw [upd_ne (ne a _ e)]; exact e⟩
  have k := ex.tup r
  refine ⟨fun a d e => ?_, ex, hp⟩
  by_cases z : a = p
  · subst z
    rw [put_same] at e; cases e
    exact ⟨o, upd_same, x.mono k⟩
  · rw [put_ne z] at e
    obtain ⟨u, e1, e2⟩ := r a d e
    exact ⟨u, by rw [upd_ne z]; exact e1, e2.mono k⟩
/-- a new tuple -/
theorem RH.tuple {h : IH} {p : Addr} {vs : List V} (r : RH K mg h H) (n : H p = none) : RH K mg h (upd H p (.tup vs)) ∧ Ext h H h (upd H p (.tup vs)) := by
  have ne : ∀ a u, H a = some u → a ≠ p := fun a u e z => by rw [z, n] at e; cases e
  have ex : Ext h H h (upd H p (.tup vs)) := ⟨fun a u e _ => by rw [upd_ne (ne a u e)]; exact e, fun a u e q => q, fun a ob u e => by rw [upd_ne (ne a _ e)]; exact e⟩
  refine ⟨fun a d e => ?_, ex⟩
  obtain ⟨u, e1, e2⟩ := r a d e
  exact ⟨u, by rw [upd_ne (ne a u e1)]; exact e1, e2.mono (ex.tup r)⟩
/-- an object is written -/
theorem RH.write {h : IH} {p : Addr} {c c' : Cell} {o o' : HO} (r : RH K mg h H) (e : h p = some c) (eo : H p = some o) (nf : ∀ ob u, o ≠ .frz ob u) (x : CR K mg H c' o') : RH K mg (put h p c') (upd H p o') ∧ Ext h H (put h p c') (upd H p o') := by
  have ex : Ext h H (put h p c') (upd H p o') := by
    refine ⟨fun a u e1 q => ?_, fun a u e1 q => ?_, fun a ob u e1 => ?_⟩
    · rw [upd_ne (fun z => by rw [z, e] at q; cases q)]; exact e1
    · rw [put_ne (fun z => by rw [z, e] at q; cases q)]; exact q
    · refine (upd_ne (fun z => ?_)).trans e1
      rw [z, eo] at e1; cases e1
      exact nf _ _ rfl
  have k := ex.tup r
  refine ⟨fun a d q => ?_, ex⟩
  by_cases z : a = p
  · subst z
    rw [put_same] at q; cases q
    exact ⟨o', upd_same, x.mono k⟩
  · rw [put_ne z] at q
    obtain ⟨u, e1, e2⟩ := r a d q
    exact ⟨u, by rw [upd_ne z]; exact e1, e2.mono k⟩
theorem RH.lst {h : IH} {a : Addr} {xs : List Val} (r : RH K mg h H) (e : h a = some (.lst xs)) : ∃ vs, H a = some (.lst vs) ∧ VRs K mg H xs vs := by
  obtain ⟨o, e1, e2⟩ := r a _ e
  cases e2 with
  | lst q => exact ⟨_, e1, q⟩
end
/-- a list that may be read -/
def IH.seq (h : IH) (a : Addr) : Option (List Val) := match h a with
  | some (.lst xs) => some xs
  | some (.ro xs) => some xs
  | _ => none
theorem RH.seq {K : PySem.W.Frag} {mg : Str → Option Value} {h : IH} {H : Hp} {a : Addr} {xs : List Val} (r : RH K mg h H) (e : h.seq a = some xs) : ∃ vs, SqL K H a vs ∧ VRs K mg H xs vs := by
  unfold IH.seq at e
  split at e
  · cases e
    obtain ⟨o, e1, e2⟩ := r a _ (by assumption)
    cases e2 with
    | lst q => exact ⟨_, SqL.of e1, q⟩
  · cases e
    obtain ⟨o, e1, e2⟩ := r a _ (by assumption)
    cases e2 with
    | ro q => exact ⟨_, .inl (.inr ⟨_, e1⟩), q⟩
  · cases e

/-! ### the handled exception, exceptions in flight -/
/-- how an exception of ours lies: its class, its own dict -/
def ER (K : PySem.W.Frag) (mg : Str → Option Value) (H : Hp) (e : Exc) (cls : Value) (d : Option Addr) : Prop :=
  (∃ C, mg e.c = some (.ref C) ∧ cls = .ref C) ∧ ((e.ns = [] ∧ e.vs = [] ∧ d = none) ∨ ∃ dd us, d = some dd ∧ H dd = some (.xd (e.ns.zip us)) ∧ VRs K mg H e.vs us ∧ e.ns.length = us.length)
/-- a value at a name, of an expression: an exception that is handled stands pinned -/
def VX (K : PySem.W.Frag) (mg : Str → Option Value) (pn : List (Addr × Obj)) (H : Hp) (x : Val) (v : V) : Prop :=
  VR K mg H x v ∨ ∃ c ns vs a oe cls d, x = .exc c ns vs ∧ v = .ref a ∧ (a, oe) ∈ pn ∧ Zc cls d oe ∧ (∃ fs, oe.data = .fields fs) ∧ ER K mg H ⟨c, ns, vs⟩ cls d
def plain : Val → Bool
  | .exc _ _ _ => false
  | _ => true
section
variable {K : PySem.W.Frag} {mg : Str → Option Value} {pn : List (Addr × Obj)} {h h' : IH} {H H' : Hp}
theorem VX.vr {x : Val} {v : V} (r : VX K mg pn H x v) (p : plain x = true) : VR K mg H x v := by
  rcases r with r | ⟨c, ns, vs, _, _, _, _, rfl, _⟩
  · exact r
  · cases p
theorem ER.mono {e : Exc} {cls : Value} {d : Option Addr} (r : RH K mg h H) (x : Ext h H h' H') (q : ER K mg H e cls d) : ER K mg H' e cls d := by
  obtain ⟨a, b⟩ := q
  refine ⟨a, ?_⟩
  rcases b with b | ⟨dd, us, b1, b2, b3, b4⟩
  · exact .inl b
  · refine .inr ⟨dd, us, b1, x.fr _ _ b2 ?_, b3.mono (x.tup r), b4⟩
    cases e1 : h dd with
    | none => rfl
    | some c =>
      obtain ⟨o, e2, e3⟩ := r dd c e1
      rw [b2] at e2; cases e2
      cases e3
theorem VX.mono {x : Val} {v : V} (r : RH K mg h H) (e : Ext h H h' H') (q : VX K mg pn H x v) : VX K mg pn H' x v := by
  rcases q with q | ⟨c, ns, vs, a, oe, cls, d, q1, q2, q3, q4, q5, q6⟩
  · exact .inl (q.mono (e.tup r))
  · exact .inr ⟨c, ns, vs, a, oe, cls, d, q1, q2, q3, q4, q5, q6.mono r e⟩
end
/-- the frame's names -/
abbrev Rho := List (Option Val)
def SR (K : PySem.W.Frag) (mg : Str → Option Value) (pn : List (Addr × Obj)) (H : Hp) (ρ : Rho) (σ : L2.St) : Prop :=
  ρ.length = σ.length ∧ ∀ (i : Nat) (x : Val), ρ[i]? = some (some x) → ∃ v, σ[i]? = some (some v) ∧ VX K mg pn H x v
section
variable {K : PySem.W.Frag} {mg : Str → Option Value} {pn : List (Addr × Obj)} {h h' : IH} {H H' : Hp} {ρ : Rho} {σ : L2.St}
theorem SR.mono (r : RH K mg h H) (e : Ext h H h' H') (q : SR K mg pn H ρ σ) : SR K mg pn H' ρ σ :=
  ⟨q.1, fun i x z => let ⟨v, a, b⟩ := q.2 i x z; ⟨v, a, b.mono r e⟩⟩
theorem SR.set {i : Nat} {x : Val} {v : V} (q : SR K mg pn H ρ σ) (z : VX K mg pn H x v) : SR K mg pn H (ρ.set i (some x)) (σ.set i (some v)) := by
  refine ⟨by rw [List.length_set, List.length_set]; exact q.1, fun j y e => ?_⟩
  by_cases hj : j = i
  · subst hj
    rw [List.getElem?_set] at e
    rw [if_pos rfl] at e
    by_cases hl : j < ρ.length
    · rw [if_pos hl] at e
      cases e
      exact ⟨v, by rw [List.getElem?_set, if_pos rfl, if_pos (by rw [← q.1]; exact hl)], z⟩
    · rw [if_neg hl] at e; cases e
  · rw [List.getElem?_set_ne (Ne.symm hj)] at e
    obtain ⟨w, a, b⟩ := q.2 j y e
    exact ⟨w, by rw [List.getElem?_set_ne (Ne.symm hj)]; exact a, b⟩
theorem SR.unset {i : Nat} (q : SR K mg pn H ρ σ) : SR K mg pn H (ρ.set i none) (σ.set i none) := by
  refine ⟨by rw [List.length_set, List.length_set]; exact q.1, fun j y e => ?_⟩
  by_cases hj : j = i
  · subst hj
    rw [List.getElem?_set, if_pos rfl] at e
    by_cases hl : j < ρ.length
    · rw [if_pos hl] at e; cases e
    · rw [if_neg hl] at e; cases e
  · rw [List.getElem?_set_ne (Ne.symm hj)] at e
    obtain ⟨w, a, b⟩ := q.2 j y e
    exact ⟨w, by rw [List.getElem?_set_ne (Ne.symm hj)]; exact a, b⟩
/-- less is told of -/
def Sub (h' h : IH) : Prop := ∀ a c, h' a = some c → h a = some c
def SubR (ρ' ρ : Rho) : Prop := ρ'.length = ρ.length ∧ ∀ (i : Nat) (x : Val), ρ'[i]? = some (some x) → ρ[i]? = some (some x)
theorem Sub.refl {h : IH} : Sub h h := fun _ _ e => e
theorem Sub.trans {a b c : IH} (x : Sub a b) (y : Sub b c) : Sub a c := fun p q e => y p q (x p q e)
theorem SubR.refl {ρ : Rho} : SubR ρ ρ := ⟨rfl, fun _ _ e => e⟩
theorem RH.sub {h2 : IH} (r : RH K mg h H) (s : Sub h2 h) : RH K mg h2 H := fun a c e => r a c (s a c e)
theorem Ext.sub {h2 : IH} (e : Ext h H h' H') (s : Sub h2 h') : Ext h H h2 H' := by
  refine ⟨e.fr, fun a o e1 n => ?_, e.fz⟩
  cases z : h2 a with
  | none => rfl
  | some c =>
    have z1 := s a c z
    rw [e.nw a o e1 n] at z1
    cases z1
theorem SR.sub {ρ2 : Rho} (q : SR K mg pn H ρ σ) (s : SubR ρ2 ρ) : SR K mg pn H ρ2 σ := ⟨s.1.trans q.1, fun i x e => q.2 i x (s.2 i x e)⟩
def wipeR (ρ : Rho) : List Nat → Rho
  | [] => ρ
  | v :: vs => (wipeR ρ vs).set v none
theorem SR.wipe (q : SR K mg pn H ρ σ) : ∀ vs : List Nat, SR K mg pn H (wipeR ρ vs) (L2.wipe σ vs)
  | [] => q
  | _ :: vs => (SR.wipe q vs).unset
end

/-! ### transformers and their readings -/
abbrev KV := Val → IH → Prop
abbrev XC := Exc → IH → Prop
/-- what calls of defs do, by their names -/
structure Calls where
  run : Str → List Val → IH → KV → XC → Prop
  hot : Str → List Val → IH → KV → XC → Prop
  isa : Str → Str → Option Bool
abbrev DE := Calls → Rho → IH → KV → XC → Prop
abbrev DT := Calls → Rho → IH → (Bool → IH → Prop) → XC → Prop
abbrev DA := Calls → Rho → IH → (List Val → IH → Prop) → XC → Prop
structure SEnds where
  nx : Rho → IH → Prop
  rt : KV
  bk : Rho → IH → Prop
  ct : Rho → IH → Prop
  ex : Rho → XC
abbrev DS := Calls → SEnds → Rho → IH → Prop

section
variable (K : PySem.W.Frag) (mg : Str → Option Value) (hp : List (Addr × Obj)) (W : WX) (C : Calls)
/-- exceptions: what E wants of them is what W wants -/
def XW (h : IH) (H : Hp) (σ : L2.St) (E : XC) : Prop := ∀ e h' H' cls d, ER K mg H' e cls d → RH K mg h' H' → Ext h H h' H' → E e h' → W cls d σ H'
def rdE (c : DE) : TE := fun σ H Q => ∃ ρ h Q' E', SR K mg hp H ρ σ ∧ RH K mg h H ∧ c C ρ h Q' E' ∧ (∀ y v h' H', VX K mg hp H' y v → RH K mg h' H' → Ext h H h' H' → Q' y h' → Q v H') ∧ XW K mg W h H σ E'
def rdT (c : DT) : TT := fun σ H Q => ∃ ρ h Q' E', SR K mg hp H ρ σ ∧ RH K mg h H ∧ c C ρ h Q' E' ∧ (∀ b h' H', RH K mg h' H' → Ext h H h' H' → Q' b h' → Q b H') ∧ XW K mg W h H σ E'
/-- values, of which none is an exception -/
def rdA (c : DA) : TA := fun σ H Q => ∃ ρ h Q' E', SR K mg hp H ρ σ ∧ RH K mg h H ∧ c C ρ h Q' E' ∧ (∀ ys vs h' H', Paired (VX K mg hp H') ys vs → RH K mg h' H' → Ext h H h' H' → Q' ys h' → Q vs H') ∧ XW K mg W h H σ E'
def rdS (c : DS) : TS := fun D σ H => ∃ ρ h D', SR K mg hp H ρ σ ∧ RH K mg h H ∧ c C D' ρ h ∧
  (∀ ρ' σ' h' H', SR K mg hp H' ρ' σ' → RH K mg h' H' → Ext h H h' H' → (D'.nx ρ' h' → D.nx σ' H') ∧ (D'.bk ρ' h' → D.bk σ' H') ∧ (D'.ct ρ' h' → D.ct σ' H')) ∧
  (∀ y v h' H', VX K mg hp H' y v → RH K mg h' H' → Ext h H h' H' → D'.rt y h' → D.rt v H') ∧
  (∀ ρ' σ' e h' H' cls d, SR K mg hp H' ρ' σ' → ER K mg H' e cls d → RH K mg h' H' → Ext h H h' H' → D'.ex ρ' e h' → W cls d σ' H')
end
theorem PE.weak {X : Cx} {e : Expr} {t t' : TE} (p : PE X e t) (h : ∀ σ H Q, t' σ H Q → t σ H Q) : PE X e t' := ⟨fun pins s σ H Q I q => p.run pins s σ H Q I (h σ H Q q)⟩
theorem PT.weak {X : Cx} {e : Expr} {t t' : TT} (p : PT X e t) (h : ∀ σ H Q, t' σ H Q → t σ H Q) : PT X e t' := ⟨fun pins s σ H Q I q => p.run pins s σ H Q I (h σ H Q q)⟩
theorem PA.weak {X : Cx} {e : List Expr} {t t' : TA} (p : PA X e t) (h : ∀ σ H Q, t' σ H Q → t σ H Q) : PA X e t' := ⟨fun pos pins s σ H Q I q => p.run pos pins s σ H Q I (h σ H Q q)⟩
theorem PS.weak {X : Cx} {e : Stmt} {t t' : TS} (p : PS X e t) (h : ∀ D σ H, t' D σ H → t D σ H) : PS X e t' := ⟨fun pins s σ H D I q => p.run pins s σ H D I (h D σ H q)⟩
theorem PSs.weak {X : Cx} {e : List Stmt} {t t' : TS} (p : PSs X e t) (h : ∀ D σ H, t' D σ H → t D σ H) : PSs X e t' := ⟨fun pins s σ H D I q => p.run pins s σ H D I (h D σ H q)⟩
end WS

/-! WS1: expressions. -/
namespace WS
open PySem PySem.Spec L2

/-! ### the transformers -/
def rg : Rho → Nat → Option Val
  | [], _ => none
  | x :: _, 0 => x
  | _ :: r, n + 1 => rg r n
theorem rg_eq : ∀ (ρ : Rho) (i : Nat) (x : Val), rg ρ i = some x → ρ[i]? = some (some x)
  | _ :: _, 0, _, h => by simpa [rg] using h
  | _ :: r, n + 1, x, h => by simpa using rg_eq r n x h
def eV (i : Nat) : DE := fun _ ρ h Q _ => match rg ρ i with
  | some x => Q x h
  | none => False
def eC (x : Val) : DE := fun _ _ h Q _ => Q x h
def eBin (f : Val → Val → IH → KV → Prop) (a b : DE) : DE := fun C ρ h Q E => a C ρ h (fun x h1 => b C ρ h1 (fun y h2 => f x y h2 Q) E) E
def eUn (f : Val → IH → KV → Prop) (a : DE) : DE := fun C ρ h Q E => a C ρ h (fun x h1 => f x h1 Q) E
def eChain (f g : Val → Val → IH → KV → Prop) (a b c : DE) : DE := fun C ρ h Q E => a C ρ h (fun x h1 => b C ρ h1 (fun y h2 => f x y h2 (fun z h3 => match z with
  | .bl true => c C ρ h3 (fun w h4 => g y w h4 Q) E
  | .bl false => Q (.bl false) h3
  | _ => False)) E) E
def aNil : DA := fun _ _ h Q _ => Q [] h
def aCons (a : DE) (r : DA) : DA := fun C ρ h Q E => a C ρ h (fun x h1 => r C ρ h1 (fun xs h2 => Q (x :: xs) h2) E) E
def plains : List Val → Bool
  | [] => true
  | x :: xs => plain x && plains xs
def eTup (a : DA) : DE := fun C ρ h Q E => a C ρ h (fun xs h1 => plains xs = true ∧ xs.length ≤ sizeLine ∧ Q (.tup xs) h1) E
def eLst (a : DA) : DE := fun C ρ h Q E => a C ρ h (fun xs h1 => plains xs = true ∧ xs.length ≤ sizeLine ∧ ∀ p, h1 p = none → Q (.ref p) (put h1 p (.lst xs))) E
/-- truth -/
def vTruth (x : Val) (h : IH) : Option Bool := match x with
  | .non => some false
  | .bl b => some b
  | .int i => some (i != 0)
  | .str s => if s.length ≤ sizeLine then some ((s.length : Int) != 0) else none
  | .tup xs => some (!xs.isEmpty)
  | .ref a => match h a with
    | some (.lst xs) => some (!xs.isEmpty)
    | some (.ro xs) => some (!xs.isEmpty)
    | some (.dct kvs) => some (!kvs.isEmpty)
    | _ => none
  | _ => none
def tTru (a : DE) : DT := fun C ρ h Q E => a C ρ h (fun x h1 => match vTruth x h1 with
  | some b => Q b h1
  | none => False) E
def tBool (a : DE) : DT := fun C ρ h Q E => a C ρ h (fun x h1 => match x with
  | .bl b => Q b h1
  | _ => False) E
def tAnd (a b : DT) : DT := fun C ρ h Q E => a C ρ h (fun k h1 => match k with
  | true => b C ρ h1 Q E
  | false => Q false h1) E
def tOr (a b : DT) : DT := fun C ρ h Q E => a C ρ h (fun k h1 => match k with
  | true => Q true h1
  | false => b C ρ h1 Q E) E
def tNot (a : DT) : DT := fun C ρ h Q E => a C ρ h (fun k h1 => Q (!k) h1) E
def eAnd (a b : DE) : DE := fun C ρ h Q E => a C ρ h (fun x h1 => match vTruth x h1 with
  | some true => b C ρ h1 Q E
  | some false => Q x h1
  | none => False) E
def eOr (a b : DE) : DE := fun C ρ h Q E => a C ρ h (fun x h1 => match vTruth x h1 with
  | some true => Q x h1
  | some false => b C ρ h1 Q E
  | none => False) E
def eNot (a : DE) : DE := fun C ρ h Q E => a C ρ h (fun x h1 => match vTruth x h1 with
  | some k => Q (.bl (!k)) h1
  | none => False) E
def eIf (t : DT) (a b : DE) : DE := fun C ρ h Q E => t C ρ h (fun k h1 => match k with
  | true => a C ρ h1 Q E
  | false => b C ρ h1 Q E) E
def eBi (f : List Val → IH → KV → Prop) (a : DA) : DE := fun C ρ h Q E => a C ρ h (fun xs h1 => f xs h1 Q) E
def eMt (f : Val → List Val → IH → KV → Prop) (o : DE) (a : DA) : DE := fun C ρ h Q E => o C ρ h (fun x h1 => a C ρ h1 (fun xs h2 => f x xs h2 Q) E) E
def oNone : DA := aNil
def eSl (lo hi : Option DE) (a : DE) (f : Val → Option Int → Option Int → IH → KV → Prop) : DE := fun C ρ h Q E => a C ρ h (fun x h1 =>
  (match lo with
    | none => fun (R : Option Int → IH → Prop) => R none h1
    | some l => fun R => l C ρ h1 (fun y h2 => match y with
      | .int i => R (some i) h2
      | _ => False) E) fun i h2 =>
  (match hi with
    | none => fun (R : Option Int → IH → Prop) => R none h2
    | some l => fun R => l C ρ h2 (fun y h3 => match y with
      | .int i => R (some i) h3
      | _ => False) E) fun j h3 => f x i j h3 Q) E
def eCall (n : Str) (dv : List Val) (a : DA) : DE := fun C ρ h Q E => a C ρ h (fun xs h1 => plains xs = true ∧ C.run n (xs ++ dv) h1 Q E) E

/-! ### the rules -/
section
variable {X : Cx} {hp : List (Addr × Obj)} {W : WX} {C : Calls}
/-- what is wanted behind, from the wish of the transformer -/
def KW (K : PySem.W.Frag) (mg : Str → Option Value) (hp : List (Addr × Obj)) (h : IH) (H : Hp) (Q' : KV) (Q : VK) : Prop := ∀ y v h' H', VX K mg hp H' y v → RH K mg h' H' → Ext h H h' H' → Q' y h' → Q v H'
/-- an operation on two values is what f says -/
def OpOk (K : PySem.W.Frag) (mg : Str → Option Value) (hp : List (Addr × Obj)) (f : Val → Val → IH → KV → Prop) (r : R2) : Prop := ∀ x y v u h H Q' Q, VX K mg hp H x v → VX K mg hp H y u → RH K mg h H → f x y h Q' → KW K mg hp h H Q' Q → r v u H Q
def UnOk (K : PySem.W.Frag) (mg : Str → Option Value) (hp : List (Addr × Obj)) (f : Val → IH → KV → Prop) (r : V → Hp → VK → Prop) : Prop := ∀ x v h H Q' Q, VX K mg hp H x v → RH K mg h H → f x h Q' → KW K mg hp h H Q' Q → r v H Q
def BiOk (K : PySem.W.Frag) (mg : Str → Option Value) (hp : List (Addr × Obj)) (f : List Val → IH → KV → Prop) (r : List V → Hp → VK → Prop) : Prop := ∀ xs vs h H Q' Q, Paired (VX K mg hp H) xs vs → RH K mg h H → f xs h Q' → KW K mg hp h H Q' Q → r vs H Q
theorem KW.mono {h h1 : IH} {H H1 : Hp} {Q' : KV} {Q : VK} (k : KW X.K X.mg hp h H Q' Q) (e : Ext h H h1 H1) : KW X.K X.mg hp h1 H1 Q' Q := fun y v h' H' a b c d => k y v h' H' a b (e.trans c) d
theorem XW.mono {h h1 : IH} {H H1 : Hp} {σ : L2.St} {E : XC} (k : XW X.K X.mg W h H σ E) (e : Ext h H h1 H1) : XW X.K X.mg W h1 H1 σ E := fun x h' H' c d a b z q => k x h' H' c d a b (e.trans z) q
theorem KW.now {h : IH} {H : Hp} {Q' : KV} {Q : VK} (k : KW X.K X.mg hp h H Q' Q) (r : RH X.K X.mg h H) {y : Val} {v : V} (x : VR X.K X.mg H y v) (q : Q' y h) : Q v H := k y v h H (.inl x) r .refl q
/-- one part's reading, then the rest -/
theorem rdE.step {c : DE} {ρ : Rho} {σ : L2.St} {h : IH} {H : Hp} {Q' : KV} {E : XC} {R : VK} (s : SR X.K X.mg hp H ρ σ) (r : RH X.K X.mg h H) (q : c C ρ h Q' E) (xw : XW X.K X.mg W h H σ E)
    (k : ∀ y v h1 H1, VX X.K X.mg hp H1 y v → RH X.K X.mg h1 H1 → Ext h H h1 H1 → SR X.K X.mg hp H1 ρ σ → XW X.K X.mg W h1 H1 σ E → Q' y h1 → R v H1) : rdE X.K X.mg hp W C c σ H R :=
  ⟨ρ, h, Q', E, s, r, q, fun y v h1 H1 a b e z => k y v h1 H1 a b e (s.mono r e) (xw.mono e) z, xw⟩
theorem rdT.step {c : DT} {ρ : Rho} {σ : L2.St} {h : IH} {H : Hp} {Q' : Bool → IH → Prop} {E : XC} {R : Bool → Hp → Prop} (s : SR X.K X.mg hp H ρ σ) (r : RH X.K X.mg h H) (q : c C ρ h Q' E) (xw : XW X.K X.mg W h H σ E)
    (k : ∀ b h1 H1, RH X.K X.mg h1 H1 → Ext h H h1 H1 → SR X.K X.mg hp H1 ρ σ → XW X.K X.mg W h1 H1 σ E → Q' b h1 → R b H1) : rdT X.K X.mg hp W C c σ H R :=
  ⟨ρ, h, Q', E, s, r, q, fun b h1 H1 a e z => k b h1 H1 a e (s.mono r e) (xw.mono e) z, xw⟩
theorem rdA.step {c : DA} {ρ : Rho} {σ : L2.St} {h : IH} {H : Hp} {Q' : List Val → IH → Prop} {E : XC} {R : List V → Hp → Prop} (s : SR X.K X.mg hp H ρ σ) (r : RH X.K X.mg h H) (q : c C ρ h Q' E) (xw : XW X.K X.mg W h H σ E)
    (k : ∀ ys vs h1 H1, Paired (VX X.K X.mg hp H1) ys vs → RH X.K X.mg h1 H1 → Ext h H h1 H1 → SR X.K X.mg hp H1 ρ σ → XW X.K X.mg W h1 H1 σ E → Q' ys h1 → R vs H1) : rdA X.K X.mg hp W C c σ H R :=
  ⟨ρ, h, Q', E, s, r, q, fun y v h1 H1 a b e z => k y v h1 H1 a b e (s.mono r e) (xw.mono e) z, xw⟩
theorem pair_mono {h h' : IH} {H H' : Hp} (r : RH X.K X.mg h H) (e : Ext h H h' H') : ∀ {xs : List Val} {vs : List V}, Paired (VX X.K X.mg hp H) xs vs → Paired (VX X.K X.mg hp H') xs vs
  | _, _, .nil => .nil
  | _, _, .cons a b => .cons (a.mono r e) (pair_mono r e b)
theorem pair_vrs {H : Hp} : ∀ {xs : List Val} {vs : List V}, Paired (VX X.K X.mg hp H) xs vs → plains xs = true → VRs X.K X.mg H xs vs
  | _, _, .nil, _ => .nil
  | _, _, .cons a b, p => by
    have q := Bool.and_eq_true_iff.mp p
    exact .cons (a.vr q.1) (pair_vrs b q.2)

/-! names, constants -/
theorem r_var {i : Nat} {x : Str} {pos : Pos} (hN : X.N[i]? = some x) (hv : Vis X.env.scope x) (hd : (x == ("__debug__" : Str)) = false) (hcd : (x == ("__classdict__" : Str)) = false) : PE X (.Name x pos) (rdE X.K X.mg hp W C (eV i)) := by
  refine PE.weak (pe_var hN hv hd hcd) ?_
  rintro σ H Q ⟨ρ, h, Q', E, s, r, q, k, xw⟩
  unfold eV at q
  cases e : rg ρ i with
  | none => rw [e] at q; exact q.elim
  | some x =>
    rw [e] at q
    obtain ⟨v, e1, e2⟩ := s.2 i x (rg_eq _ _ _ e)
    exact ⟨v, e1, k x v h H e2 r .refl q⟩
theorem rd_C {x : Val} {v : V} {e : Expr} (p : PE X e (tC v)) (hx : ∀ H, VR X.K X.mg H x v) : PE X e (rdE X.K X.mg hp W C (eC x)) := by
  refine PE.weak p ?_
  rintro σ H Q ⟨ρ, h, Q', E, s, r, q, k, xw⟩
  exact k x v h H (.inl (hx H)) r .refl q
theorem r_int {i j pos} : PE X (.Constant (.int i) j pos) (rdE X.K X.mg hp W C (eC (.int i))) := rd_C pe_int fun _ => .int i
theorem r_bl {i j pos} : PE X (.Constant (.bool i) j pos) (rdE X.K X.mg hp W C (eC (.bl i))) := rd_C pe_bl fun _ => .bl i
theorem r_non {j pos} : PE X (.Constant .none j pos) (rdE X.K X.mg hp W C (eC .non)) := rd_C pe_non fun _ => .non
theorem r_str {i j pos} : PE X (.Constant (.str i) j pos) (rdE X.K X.mg hp W C (eC (.str i))) := rd_C pe_str fun _ => .str i
theorem r_glob {x : Str} {y : Val} {v : V} {u : Value} {pos : Pos} (hg : Gl X x) (hm : X.mg x = some u) (r : RelV v u) (hd : (x == ("__debug__" : Str)) = false) (hx : ∀ H, VR X.K X.mg H y v) : PE X (.Name x pos) (rdE X.K X.mg hp W C (eC y)) := rd_C (pe_glob hg hm r hd) hx

/-! operations -/
theorem rd_bin {f : Val → Val → IH → KV → Prop} {r : R2} {a b : DE} (o : OpOk X.K X.mg hp f r) {σ : L2.St} {H : Hp} {Q : VK} (z : rdE X.K X.mg hp W C (eBin f a b) σ H Q) : tOp r (rdE X.K X.mg hp W C a) (rdE X.K X.mg hp W C b) σ H Q := by
  obtain ⟨ρ, h, Q', E, s, rh, q, k, xw⟩ := z
  refine rdE.step s rh q xw fun x v h1 H1 vx r1 e1 s1 xw1 q1 => ?_
  refine rdE.step s1 r1 q1 xw1 fun y u h2 H2 vy r2 e2 s2 xw2 q2 => ?_
  exact o x y v u h2 H2 Q' Q (vx.mono r1 e2) vy r2 q2 (KW.mono k (e1.trans e2))
theorem r_bin {op : Operator} {f : Val → Val → IH → KV → Prop} {r : R2} {a b : Expr} {ca cb : DE} {pos : Pos} (ho : OpR X (binaryOp op) r) (o : OpOk X.K X.mg hp f r) (ha : PE X a (rdE X.K X.mg hp W C ca)) (hb : PE X b (rdE X.K X.mg hp W C cb)) :
    PE X (.BinOp a op b pos) (rdE X.K X.mg hp W C (eBin f ca cb)) := PE.weak (pe_op ho ha hb) fun _ _ _ z => rd_bin o z
theorem r_ix {f : Val → Val → IH → KV → Prop} {r : R2} {a b : Expr} {ca cb : DE} {pos : Pos} (ho : IxR X r) (o : OpOk X.K X.mg hp f r) (hpx : PlainIx b) (ha : PE X a (rdE X.K X.mg hp W C ca)) (hb : PE X b (rdE X.K X.mg hp W C cb)) :
    PE X (.Subscript a b pos) (rdE X.K X.mg hp W C (eBin f ca cb)) := PE.weak (pe_ix ho ha hb hpx) fun _ _ _ z => rd_bin o z
theorem r_cmp {op : CmpOp} {f : Val → Val → IH → KV → Prop} {r : R2} {a b : Expr} {ca cb : DE} {pos : Pos} (ho : OpR X (compareOp op) r) (o : OpOk X.K X.mg hp f r) (hm : behindInMarks op b = false) (ha : PE X a (rdE X.K X.mg hp W C ca)) (hb : PE X b (rdE X.K X.mg hp W C cb)) :
    PE X (.Compare a [op] [b] pos) (rdE X.K X.mg hp W C (eBin f ca cb)) := PE.weak (pe_cmpR ho ha hb hm) fun _ _ _ z => rd_bin o z
theorem r_cmpT {op : CmpOp} {f : Val → Val → IH → KV → Prop} {r : R2} {a b : Expr} {ca cb : DE} {pos : Pos} (ho : OpR X (compareOp op) r) (o : OpOk X.K X.mg hp f r) (hm : behindInMarks op b = false) (ha : PE X a (rdE X.K X.mg hp W C ca)) (hb : PE X b (rdE X.K X.mg hp W C cb)) :
    PT X (.Compare a [op] [b] pos) (rdT X.K X.mg hp W C (tBool (eBin f ca cb))) := by
  refine PT.weak (pt_cmpR ho ha hb hm) ?_
  rintro σ H Q ⟨ρ, h, Q', E, s, rh, q, k, xw⟩
  refine rd_bin (Q := fun x H' => ∃ k, x = .bl k ∧ Q k H') o ⟨ρ, h, _, E, s, rh, q, ?_, xw⟩
  rintro y v h' H' vy r' e' q'
  cases y with
  | bl b =>
    have e1 := vy.vr rfl
    cases e1
    exact ⟨b, rfl, k b h' H' r' e' q'⟩
  | _ => exact q'.elim
theorem r_un {op : UnaryOp} {f : Val → IH → KV → Prop} {r : V → Hp → VK → Prop} {a : Expr} {ca : DE} {pos : Pos} (ho : UnR X (unaryOp op) r) (o : UnOk X.K X.mg hp f r) (ha : PE X a (rdE X.K X.mg hp W C ca)) : PE X (.UnaryOp op a pos) (rdE X.K X.mg hp W C (eUn f ca)) := by
  refine PE.weak (pe_un ho ha) ?_
  rintro σ H Q ⟨ρ, h, Q', E, s, rh, q, k, xw⟩
  refine rdE.step s rh q xw fun x v h1 H1 vx r1 e1 s1 xw1 q1 => ?_
  exact o x v h1 H1 Q' Q vx r1 q1 (KW.mono k e1)
theorem rd_chain {f g : Val → Val → IH → KV → Prop} {r r' : R2} {a b c : DE} (o : OpOk X.K X.mg hp f r) (o' : OpOk X.K X.mg hp g r') {σ : L2.St} {H : Hp} {Q : VK} (z : rdE X.K X.mg hp W C (eChain f g a b c) σ H Q) : tChain r r' (rdE X.K X.mg hp W C a) (rdE X.K X.mg hp W C b) (rdE X.K X.mg hp W C c) σ H Q := by
  obtain ⟨ρ, h, Q', E, s, rh, q, k, xw⟩ := z
  refine rdE.step s rh q xw fun x v h1 H1 vx r1 e1 s1 xw1 q1 => ?_
  refine rdE.step s1 r1 q1 xw1 fun y u h2 H2 vy r2 e2 s2 xw2 q2 => ?_
  refine o x y v u h2 H2 _ _ (vx.mono r1 e2) vy r2 q2 fun w t h3 H3 vw r3 e3 q3 => ?_
  cases w with
  | bl b0 =>
    have ew := vw.vr rfl
    cases ew
    cases b0 with
    | true =>
      refine ⟨true, rfl, ?_⟩
      rw [if_pos rfl]
      refine rdE.step (s2.mono r2 e3) r3 q3 (xw2.mono e3) fun w' t' h4 H4 vw' r4 e4 s4 xw4 q4 => ?_
      exact o' y w' u t' h4 H4 Q' Q ((vy.mono r2 e3).mono r3 e4) vw' r4 q4 (KW.mono k (((e1.trans e2).trans e3).trans e4))
    | false =>
      refine ⟨false, rfl, ?_⟩
      rw [if_neg Bool.false_ne_true]
      exact k (.bl false) _ h3 H3 (.inl (.bl false)) r3 ((e1.trans e2).trans e3) q3
  | _ => exact q3.elim
theorem r_chain {op op' : CmpOp} {f g : Val → Val → IH → KV → Prop} {r r' : R2} {a b c : Expr} {ca cb cc : DE} {pos : Pos} (ho : OpR X (compareOp op) r) (ho' : OpR X (compareOp op') r') (o : OpOk X.K X.mg hp f r) (o' : OpOk X.K X.mg hp g r')
    (hm : lastMarks [op, op'] [b, c] = false) (ha : PE X a (rdE X.K X.mg hp W C ca)) (hb : PE X b (rdE X.K X.mg hp W C cb)) (hc : PE X c (rdE X.K X.mg hp W C cc)) : PE X (.Compare a [op, op'] [b, c] pos) (rdE X.K X.mg hp W C (eChain f g ca cb cc)) :=
  PE.weak (pe_chain ho ho' ha hb hc hm) fun _ _ _ z => rd_chain o o' z
theorem r_chainT {op op' : CmpOp} {f g : Val → Val → IH → KV → Prop} {r r' : R2} {a b c : Expr} {ca cb cc : DE} {pos : Pos} (ho : OpR X (compareOp op) r) (ho' : OpR X (compareOp op') r') (o : OpOk X.K X.mg hp f r) (o' : OpOk X.K X.mg hp g r')
    (hm : lastMarks [op, op'] [b, c] = false) (ha : PE X a (rdE X.K X.mg hp W C ca)) (hb : PE X b (rdE X.K X.mg hp W C cb)) (hc : PE X c (rdE X.K X.mg hp W C cc)) : PT X (.Compare a [op, op'] [b, c] pos) (rdT X.K X.mg hp W C (tBool (eChain f g ca cb cc))) := by
  refine PT.weak (pt_chain ho ho' ha hb hc hm) ?_
  rintro σ H Q ⟨ρ, h, Q', E, s, rh, q, k, xw⟩
  refine rd_chain (Q := fun x H' => ∃ k, x = .bl k ∧ Q k H') o o' ⟨ρ, h, _, E, s, rh, q, ?_, xw⟩
  rintro y v h' H' vy r' e' q'
  cases y with
  | bl b =>
    have e1 := vy.vr rfl
    cases e1
    exact ⟨b, rfl, k b h' H' r' e' q'⟩
  | _ => exact q'.elim

/-! argument lists, displays -/
theorem r_nil : PA X [] (rdA X.K X.mg hp W C aNil) := by
  refine PA.weak pa_nil ?_
  rintro σ H Q ⟨ρ, h, Q', E, s, rh, q, k, xw⟩
  exact k [] [] h H .nil rh .refl q
theorem r_cons {e : Expr} {es : List Expr} {c : DE} {cs : DA} (ha : PE X e (rdE X.K X.mg hp W C c)) (hr : PA X es (rdA X.K X.mg hp W C cs)) (hs : starEach (e :: es) X.env = (false, eval e X.env) :: starEach es X.env) : PA X (e :: es) (rdA X.K X.mg hp W C (aCons c cs)) := by
  refine PA.weak (pa_cons ha hr hs) ?_
  rintro σ H Q ⟨ρ, h, Q', E, s, rh, q, k, xw⟩
  refine rdE.step s rh q xw fun x v h1 H1 vx r1 e1 s1 xw1 q1 => ?_
  refine rdA.step s1 r1 q1 xw1 fun ys vs h2 H2 vy r2 e2 s2 xw2 q2 => ?_
  exact k (x :: ys) (v :: vs) h2 H2 (.cons (vx.mono r1 e2) vy) r2 (e1.trans e2) q2
theorem r_tup {es : List Expr} {cs : DA} {x1 : Nat} {pos : Pos} (h : PA X es (rdA X.K X.mg hp W C cs)) : PE X (.Tuple es x1 pos) (rdE X.K X.mg hp W C (eTup cs)) := by
  refine PE.weak (pe_tup h) ?_
  rintro σ H Q ⟨ρ, h, Q', E, s, rh, q, k, xw⟩
  refine rdA.step s rh q xw fun ys vs h1 H1 vy r1 e1 s1 xw1 q1 => ?_
  obtain ⟨p, z, q1⟩ := q1
  have vr := pair_vrs vy p
  refine ⟨by rw [← vr.length]; exact z, fun a n => ?_⟩
  obtain ⟨r2, e2⟩ := r1.tuple (vs := vs) n
  exact k (.tup ys) (.ref a) h1 _ (.inl (.tup (SqT.of upd_same) (vr.mono (e2.tup r1)))) r2 (e1.trans e2) q1
theorem r_lst {es : List Expr} {cs : DA} {pos : Pos} (h : PA X es (rdA X.K X.mg hp W C cs)) : PE X (.List es pos) (rdE X.K X.mg hp W C (eLst cs)) := by
  refine PE.weak (pe_lst h) ?_
  rintro σ H Q ⟨ρ, h, Q', E, s, rh, q, k, xw⟩
  refine rdA.step s rh q xw fun ys vs h1 H1 vy r1 e1 s1 xw1 q1 => ?_
  obtain ⟨p, z, q1⟩ := q1
  have vr := pair_vrs vy p
  refine ⟨by rw [← vr.length]; exact z, fun a n => ?_⟩
  obtain ⟨r2, e2, n'⟩ := r1.alloc n (CR.lst vr)
  exact k (.ref a) (.ref a) _ _ (.inl (.ref a)) r2 (e1.trans e2) (q1 a n')

/-! truth, tests -/
theorem truth_ok {x : Val} {v : V} {h : IH} {H : Hp} {b : Bool} (vx : VX X.K X.mg hp H x v) (r : RH X.K X.mg h H) (e : vTruth x h = some b) : TruV X.K v H b := by
  cases x with
  | exc c ns vs => exact nomatch e
  | scr ns => exact nomatch e
  | glob n => exact nomatch e
  | ty n => exact nomatch e
  | non => have z := vx.vr rfl; cases z; exact (Option.some.inj e).symm
  | bl c => have z := vx.vr rfl; cases z; exact (Option.some.inj e).symm
  | int i => have z := vx.vr rfl; cases z; exact (Option.some.inj e).symm
  | str s =>
    have z := vx.vr rfl; cases z
    replace e : (if s.length ≤ sizeLine then some ((s.length : Int) != 0) else none) = some b := e
    by_cases hs : s.length ≤ sizeLine
    · rw [if_pos hs] at e
      exact ⟨hs, (Option.some.inj e).symm⟩
    · rw [if_neg hs] at e; cases e
  | tup xs =>
    have z := vx.vr rfl
    cases z with
    | tup a b =>
      refine .inr (.inl ⟨_, a, ?_⟩)
      rw [← Option.some.inj e]
      cases b <;> rfl
  | ref a =>
    have z := vx.vr rfl; cases z
    replace e : (match h a with
      | some (.lst xs) => some (!xs.isEmpty)
      | some (.ro xs) => some (!xs.isEmpty)
      | some (.dct kvs) => some (!kvs.isEmpty)
      | _ => none) = some b := e
    cases hc : h a with
    | none => rw [hc] at e; cases e
    | some c =>
      rw [hc] at e
      obtain ⟨o, e1, e2⟩ := r a c hc
      cases c with
      | lst xs =>
        cases e2 with
        | lst q => exact .inl ⟨_, SqL.of e1, by rw [← Option.some.inj e]; cases q <;> rfl⟩
      | ro xs =>
        cases e2 with
        | ro q => exact .inl ⟨_, .inl (.inr ⟨_, e1⟩), by rw [← Option.some.inj e]; cases q <;> rfl⟩
      | dct kvs =>
        cases e2 with
        | dct q1 q2 q3 =>
          refine .inr (.inr ⟨_, e1, ?_⟩)
          rw [← Option.some.inj e]
          have l1 := congrArg List.length q1
          rw [List.length_map, List.length_map] at l1
          have l2 := q2.length
          rw [List.length_map] at l2
          cases kvs with
          | nil =>
            rename_i ks us
            cases ks with
            | nil => rfl
            | cons _ _ => simp at l1
          | cons _ _ =>
            rename_i ks us _ _
            cases ks with
            | nil => simp at l1
            | cons _ _ =>
              cases us with
              | nil => simp at l2
              | cons _ _ => rfl
      | ins _ _ _ => cases e
/-- an expression that is no BoolOp, Not, IfExp, Compare: its truth is its value's -/
def truthOwn : Expr → Bool
  | .UnaryOp .Not _ _ => false
  | .BoolOp _ _ _ => false
  | .IfExp _ _ _ _ => false
  | .Compare _ _ _ _ => false
  | _ => true
theorem truthOwn_eq {e : Expr} {env : Env} (h : truthOwn e = true) (whole : Sem Value) : isTrue e env whole = (do let v ← whole; standAt e.pos; holding [v] (truthy v)) := by
  cases e with
  | UnaryOp op _ _ => cases op <;> first | rfl | cases h
  | _ => first | rfl | cases h
theorem r_tru {e : Expr} {c : DE} (h : truthOwn e = true) (he : PE X e (rdE X.K X.mg hp W C c)) : PT X e (rdT X.K X.mg hp W C (tTru c)) := by
  refine PT.weak (pt_truth he fun w => truthOwn_eq h w) ?_
  rintro σ H Q ⟨ρ, h, Q', E, s, rh, q, k, xw⟩
  refine rdE.step s rh q xw fun x v h1 H1 vx r1 e1 s1 xw1 q1 => ?_
  cases e2 : vTruth x h1 with
  | none => rw [e2] at q1; exact q1.elim
  | some b =>
    rw [e2] at q1
    exact ⟨b, truth_ok vx r1 e2, k b h1 H1 r1 e1 q1⟩
theorem r_notT {a : Expr} {c : DT} {pos : Pos} (ha : PT X a (rdT X.K X.mg hp W C c)) : PT X (.UnaryOp .Not a pos) (rdT X.K X.mg hp W C (tNot c)) := by
  refine PT.weak (pt_not ha) ?_
  rintro σ H Q ⟨ρ, h, Q', E, s, rh, q, k, xw⟩
  exact rdT.step s rh q xw fun b h1 H1 r1 e1 s1 xw1 q1 => k _ h1 H1 r1 e1 q1
theorem pw_weak {e : Expr} {t t' : TT} (p : PW X e t) (h : ∀ σ H Q, t' σ H Q → t σ H Q) : PW X e t' := ⟨fun wh pins s σ H Q I q => p.run wh pins s σ H Q I (h σ H Q q)⟩
theorem r_and1 {a : Expr} {c : DT} {pos : Pos} (ha : PT X a (rdT X.K X.mg hp W C c)) : PW X (.BoolOp .And [a] pos) (rdT X.K X.mg hp W C c) := pw_and1 ha
theorem r_or1 {a : Expr} {c : DT} {pos : Pos} (ha : PT X a (rdT X.K X.mg hp W C c)) : PW X (.BoolOp .Or [a] pos) (rdT X.K X.mg hp W C c) := pw_or1 ha
theorem r_andT {a b : Expr} {rest : List Expr} {c d : DT} {pos : Pos} (ha : PT X a (rdT X.K X.mg hp W C c)) (hb : PW X (.BoolOp .And (b :: rest) pos) (rdT X.K X.mg hp W C d)) : PW X (.BoolOp .And (a :: b :: rest) pos) (rdT X.K X.mg hp W C (tAnd c d)) := by
  refine pw_weak (pw_and ha hb) ?_
  rintro σ H Q ⟨ρ, h, Q', E, s, rh, q, k, xw⟩
  refine rdT.step s rh q xw fun b h1 H1 r1 e1 s1 xw1 q1 => ?_
  cases b with
  | true => rw [if_pos rfl]; exact rdT.step s1 r1 q1 xw1 fun b h2 H2 r2 e2 s2 xw2 q2 => k b h2 H2 r2 (e1.trans e2) q2
  | false => rw [if_neg Bool.false_ne_true]; exact k false h1 H1 r1 e1 q1
theorem r_orT {a b : Expr} {rest : List Expr} {c d : DT} {pos : Pos} (ha : PT X a (rdT X.K X.mg hp W C c)) (hb : PW X (.BoolOp .Or (b :: rest) pos) (rdT X.K X.mg hp W C d)) : PW X (.BoolOp .Or (a :: b :: rest) pos) (rdT X.K X.mg hp W C (tOr c d)) := by
  refine pw_weak (pw_or ha hb) ?_
  rintro σ H Q ⟨ρ, h, Q', E, s, rh, q, k, xw⟩
  refine rdT.step s rh q xw fun b h1 H1 r1 e1 s1 xw1 q1 => ?_
  cases b with
  | true => rw [if_pos rfl]; exact k true h1 H1 r1 e1 q1
  | false => rw [if_neg Bool.false_ne_true]; exact rdT.step s1 r1 q1 xw1 fun b h2 H2 r2 e2 s2 xw2 q2 => k b h2 H2 r2 (e1.trans e2) q2
/-- as values -/
theorem r_and {a b : Expr} {rest : List Expr} {c d : DE} {pos : Pos} (ha : PE X a (rdE X.K X.mg hp W C c)) (hb : PE X (.BoolOp .And (b :: rest) pos) (rdE X.K X.mg hp W C d)) : PE X (.BoolOp .And (a :: b :: rest) pos) (rdE X.K X.mg hp W C (eAnd c d)) := by
  refine PE.weak (pe_andT ha hb) ?_
  rintro σ H Q ⟨ρ, h, Q', E, s, rh, q, k, xw⟩
  refine rdE.step s rh q xw fun x v h1 H1 vx r1 e1 s1 xw1 q1 => ?_
  cases e2 : vTruth x h1 with
  | none => rw [e2] at q1; exact q1.elim
  | some b =>
    rw [e2] at q1
    refine ⟨b, truth_ok vx r1 e2, ?_⟩
    cases b with
    | true => rw [if_pos rfl]; exact rdE.step s1 r1 q1 xw1 fun y u h2 H2 vy r2 e2 s2 xw2 q2 => k y u h2 H2 vy r2 (e1.trans e2) q2
    | false => rw [if_neg Bool.false_ne_true]; exact k x v h1 H1 vx r1 e1 q1
theorem r_or {a b : Expr} {rest : List Expr} {c d : DE} {pos : Pos} (ha : PE X a (rdE X.K X.mg hp W C c)) (hb : PE X (.BoolOp .Or (b :: rest) pos) (rdE X.K X.mg hp W C d)) : PE X (.BoolOp .Or (a :: b :: rest) pos) (rdE X.K X.mg hp W C (eOr c d)) := by
  refine PE.weak (pe_orT ha hb) ?_
  rintro σ H Q ⟨ρ, h, Q', E, s, rh, q, k, xw⟩
  refine rdE.step s rh q xw fun x v h1 H1 vx r1 e1 s1 xw1 q1 => ?_
  cases e2 : vTruth x h1 with
  | none => rw [e2] at q1; exact q1.elim
  | some b =>
    rw [e2] at q1
    refine ⟨b, truth_ok vx r1 e2, ?_⟩
    cases b with
    | true => rw [if_pos rfl]; exact k x v h1 H1 vx r1 e1 q1
    | false => rw [if_neg Bool.false_ne_true]; exact rdE.step s1 r1 q1 xw1 fun y u h2 H2 vy r2 e2 s2 xw2 q2 => k y u h2 H2 vy r2 (e1.trans e2) q2
theorem r_not {a : Expr} {c : DE} {pos : Pos} (ha : PE X a (rdE X.K X.mg hp W C c)) : PE X (.UnaryOp .Not a pos) (rdE X.K X.mg hp W C (eNot c)) := by
  refine PE.weak (pe_notT ha) ?_
  rintro σ H Q ⟨ρ, h, Q', E, s, rh, q, k, xw⟩
  refine rdE.step s rh q xw fun x v h1 H1 vx r1 e1 s1 xw1 q1 => ?_
  cases e2 : vTruth x h1 with
  | none => rw [e2] at q1; exact q1.elim
  | some b =>
    rw [e2] at q1
    exact ⟨b, truth_ok vx r1 e2, k (.bl (!b)) _ h1 H1 (.inl (.bl _)) r1 e1 q1⟩
theorem r_if {t a b : Expr} {ct : DT} {ca cb : DE} {pos : Pos} (ht : PT X t (rdT X.K X.mg hp W C ct)) (ha : PE X a (rdE X.K X.mg hp W C ca)) (hb : PE X b (rdE X.K X.mg hp W C cb)) : PE X (.IfExp t a b pos) (rdE X.K X.mg hp W C (eIf ct ca cb)) := by
  refine PE.weak (pe_ifExp ht ha hb) ?_
  rintro σ H Q ⟨ρ, h, Q', E, s, rh, q, k, xw⟩
  refine rdT.step s rh q xw fun b h1 H1 r1 e1 s1 xw1 q1 => ?_
  cases b with
  | true => rw [if_pos rfl]; exact rdE.step s1 r1 q1 xw1 fun y u h2 H2 vy r2 e2 s2 xw2 q2 => k y u h2 H2 vy r2 (e1.trans e2) q2
  | false => rw [if_neg Bool.false_ne_true]; exact rdE.step s1 r1 q1 xw1 fun y u h2 H2 vy r2 e2 s2 xw2 q2 => k y u h2 H2 vy r2 (e1.trans e2) q2

/-! built-ins, by values -/
theorem rd_bi {f : List Val → IH → KV → Prop} {r : List V → Hp → VK → Prop} {a : DA} (o : BiOk X.K X.mg hp f r) {σ : L2.St} {H : Hp} {Q : VK} (z : rdE X.K X.mg hp W C (eBi f a) σ H Q) : tCB r (rdA X.K X.mg hp W C a) σ H Q := by
  obtain ⟨ρ, h, Q', E, s, rh, q, k, xw⟩ := z
  refine rdA.step s rh q xw fun ys vs h1 H1 vy r1 e1 s1 xw1 q1 => ?_
  exact o ys vs h1 H1 Q' Q vy r1 q1 (KW.mono k e1)
theorem r_callB {f : List Val → IH → KV → Prop} {r : List V → Hp → VK → Prop} {a : DA} {x : Str} {p pos : Pos} {e : Expr} {es : List Expr} {id : String} (o : BiOk X.K X.mg hp f r) (hc : CallR X (.builtin id) r) (hg : Gl X x) (hm : X.mg x = none) (hv : bootBuiltins x = some (.builtin id))
    (hn : x ≠ "__name__") (hdb : (x == ("__debug__" : Str)) = false) (he : starEach (e :: es) X.env = (false, eval e X.env) :: starEach es X.env) (hpl : (backTo pos (starEach es X.env)).any (·.1) = false) (ha : PA X (e :: es) (rdA X.K X.mg hp W C a)) :
    PE X (.Call (.Name x p) (e :: es) [] pos) (rdE X.K X.mg hp W C (eBi f a)) := PE.weak (pe_callB hc hg hm hv ha hn hdb he hpl) fun _ _ _ z => rd_bi o z
theorem r_callTy {f : List Val → IH → KV → Prop} {r : List V → Hp → VK → Prop} {a : DA} {x : Str} {p pos : Pos} {e : Expr} {es : List Expr} {T : String} (o : BiOk X.K X.mg hp f r) (hc : CallR X (.type T) r) (hg : Gl X x) (hm : X.mg x = none) (hv : bootBuiltins x = some (.type T))
    (hn : x ≠ "__name__") (hdb : (x == ("__debug__" : Str)) = false) (he : starEach (e :: es) X.env = (false, eval e X.env) :: starEach es X.env) (hpl : (backTo pos (starEach es X.env)).any (·.1) = false) (ha : PA X (e :: es) (rdA X.K X.mg hp W C a)) :
    PE X (.Call (.Name x p) (e :: es) [] pos) (rdE X.K X.mg hp W C (eBi f a)) := PE.weak (pe_callTy hc hg hm hv ha hn hdb he hpl) fun _ _ _ z => rd_bi o z
/-- slices -/
def rdO (K : PySem.W.Frag) (mg : Str → Option Value) (hp : List (Addr × Obj)) (W : WX) (C : Calls) (o : Option DE) : TO := match o with
  | none => tNoPart
  | some c => tPart (rdE K mg hp W C c)
def SlOk (K : PySem.W.Frag) (mg : Str → Option Value) (hp : List (Addr × Obj)) (f : Val → Option Int → Option Int → IH → KV → Prop) (r : V → Option Int → Option Int → Hp → VK → Prop) : Prop := ∀ x v i j h H Q' Q, VX K mg hp H x v → RH K mg h H → f x i j h Q' → KW K mg hp h H Q' Q → r v i j H Q
theorem rdO_step {o : Option DE} {ρ : Rho} {σ : L2.St} {h : IH} {H : Hp} {Q' : Option Int → IH → Prop} {E : XC} {R : Option Int → Hp → Prop} (s : SR X.K X.mg hp H ρ σ) (r : RH X.K X.mg h H)
    (q : (match o with
    | none => fun (R : Option Int → IH → Prop) => R none h
    | some l => fun R => l C ρ h (fun y h2 => match y with
      | .int i => R (some i) h2
      | _ => False) E) Q') (xw : XW X.K X.mg W h H σ E)
    (k : ∀ i h1 H1, RH X.K X.mg h1 H1 → Ext h H h1 H1 → SR X.K X.mg hp H1 ρ σ → XW X.K X.mg W h1 H1 σ E → Q' i h1 → R i H1) : rdO X.K X.mg hp W C o σ H R := by
  cases o with
  | none => exact k none h H r .refl s xw q
  | some l =>
    refine rdE.step s r q xw fun y v h1 H1 vy r1 e1 s1 xw1 q1 => ?_
    cases y with
    | int i =>
      have z := vy.vr rfl; cases z
      exact ⟨i, rfl, k (some i) h1 H1 r1 e1 s1 xw1 q1⟩
    | _ => exact q1.elim
theorem r_sl {f : Val → Option Int → Option Int → IH → KV → Prop} {r : V → Option Int → Option Int → Hp → VK → Prop} {e : Expr} {lo hi : Option Expr} {c : DE} {cl ch : Option DE} {p2 pos : Pos} (hr : SlR X r) (o : SlOk X.K X.mg hp f r) (he : PE X e (rdE X.K X.mg hp W C c)) (hl : PO X lo (rdO X.K X.mg hp W C cl)) (hh : PO X hi (rdO X.K X.mg hp W C ch)) :
    PE X (.Subscript e (.Slice lo hi none p2) pos) (rdE X.K X.mg hp W C (eSl cl ch c f)) := by
  refine PE.weak (pe_slice hr he hl hh) ?_
  rintro σ H Q ⟨ρ, h, Q', E, s, rh, q, k, xw⟩
  refine rdE.step s rh q xw fun x v h1 H1 vx r1 e1 s1 xw1 q1 => ?_
  refine rdO_step s1 r1 q1 xw1 fun i h2 H2 r2 e2 s2 xw2 q2 => ?_
  refine rdO_step s2 r2 q2 xw2 fun j h3 H3 r3 e3 s3 xw3 q3 => ?_
  exact o x v i j h3 H3 Q' Q ((vx.mono r1 e2).mono r2 e3) r3 q3 (KW.mono k ((e1.trans e2).trans e3))
/-- methods of built-in types -/
def MtOk (K : PySem.W.Frag) (mg : Str → Option Value) (hp : List (Addr × Obj)) (T : String) (f : Val → List Val → IH → KV → Prop) (r : V → List V → Hp → VK → Prop) : Prop := ∀ x xs v vs h H Q' Q, VX K mg hp H x v → Paired (VX K mg hp H) xs vs → RH K mg h H → f x xs h Q' → KW K mg hp h H Q' Q → r v vs H Q
/-- a value that is a list (a text ..), whatever the heap holds -/
def TyOk (K : PySem.W.Frag) (mg : Str → Option Value) (hp : List (Addr × Obj)) (T : String) (x : Val) (h : IH) : Prop := ∀ v H, VX K mg hp H x v → RH K mg h H → tyV X.K T v H
end
end WS

/-! WS2: operations by plain values, each with the rule that bears it. -/
namespace WS
open PySem PySem.Spec L2

/-! ### operators -/
def mulOk (i j : Int) : Prop := i.natAbs.log2 + j.natAbs.log2 < 100000000
theorem mulOk.ok {i j : Int} (h : mulOk i j) : IntMulOk i j := by
  have b : ∀ x : Int, Builtin.Int.intBits x ≤ x.natAbs.log2 + 1 := fun x => by
    unfold Builtin.Int.intBits
    split <;> omega
  have h1 := b i
  have h2 := b j
  have h3 : i.natAbs.log2 + j.natAbs.log2 < 100000000 := h
  have e : bitsLine = 134217728 := by decide
  unfold IntMulOk
  intro z
  rw [Bool.and_eq_true] at z
  have z2 := z.2
  unfold Builtin.Int.intTooBig at z2
  have z3 := of_decide_eq_true z2
  rw [e] at z3
  omega
def divOk (j : Int) : Prop := j.natAbs.log2 < 9000
def vAdd (x y : Val) (h : IH) (Q : KV) : Prop := match x, y with
  | .int i, .int j => Q (.int (i + j)) h
  | .str a, .str b => a.length + b.length ≤ sizeLine ∧ Q (.str (a ++ b)) h
  | .tup xs, .tup ys => xs.length + ys.length ≤ sizeLine ∧ Q (.tup (xs ++ ys)) h
  | .ref a, .ref b => match h a, h b with
    | some (.lst xs), some (.lst ys) => xs.length + ys.length ≤ sizeLine ∧ ∀ p, h p = none → Q (.ref p) (put h p (.lst (xs ++ ys)))
    | _, _ => False
  | _, _ => False
def vSub (x y : Val) (h : IH) (Q : KV) : Prop := match x, y with
  | .int i, .int j => Q (.int (i - j)) h
  | _, _ => False
def vMul (x y : Val) (h : IH) (Q : KV) : Prop := match x, y with
  | .int i, .int j => mulOk i j ∧ Q (.int (i * j)) h
  | .ref a, .int k => match h a with
    | some (.lst xs) => 0 ≤ k ∧ k < 2 ^ 20 ∧ xs.length * k.toNat ≤ sizeLine ∧ ∀ p, h p = none → Q (.ref p) (put h p (.lst (List.replicate k.toNat xs).flatten))
    | _ => False
  | _, _ => False
def vDiv (x y : Val) (h : IH) (Q : KV) : Prop := match x, y with
  | .int i, .int j => 0 < j ∧ divOk j ∧ Q (.int (i / j)) h
  | _, _ => False
def vMod (x y : Val) (h : IH) (Q : KV) : Prop := match x, y with
  | .int i, .int j => 0 < j ∧ Q (.int (i % j)) h
  | _, _ => False
def vPow (x y : Val) (h : IH) (Q : KV) : Prop := match x, y with
  | .int i, .int j => CPow i j ∧ Q (.int (i ^ j.toNat)) h
  | _, _ => False
def vNeg (x : Val) (h : IH) (Q : KV) : Prop := match x with
  | .int i => Q (.int (-i)) h
  | _ => False
def vLt (x y : Val) (h : IH) (Q : KV) : Prop := match x, y with
  | .int i, .int j => Q (.bl (decide (i < j))) h
  | _, _ => False
def vLe (x y : Val) (h : IH) (Q : KV) : Prop := match x, y with
  | .int i, .int j => Q (.bl (decide (i ≤ j))) h
  | _, _ => False
def vGt (x y : Val) (h : IH) (Q : KV) : Prop := match x, y with
  | .int i, .int j => Q (.bl (decide (j < i))) h
  | _, _ => False
def vGe (x y : Val) (h : IH) (Q : KV) : Prop := match x, y with
  | .int i, .int j => Q (.bl (decide (j ≤ i))) h
  | _, _ => False
section
variable {X : Cx} {hp : List (Addr × Obj)}
theorem VX.non {pn : List (Addr × Obj)} {K : PySem.W.Frag} {mg : Str → Option Value} {H : Hp} {v : V} (x : VX K mg pn H .non v) : v = .non := by have z := x.vr rfl; cases z; rfl
theorem VX.bl {pn : List (Addr × Obj)} {K : PySem.W.Frag} {mg : Str → Option Value} {H : Hp} {v : V} {b : Bool} (x : VX K mg pn H (.bl b) v) : v = .bl b := by have z := x.vr rfl; cases z; rfl
theorem VX.int {pn : List (Addr × Obj)} {K : PySem.W.Frag} {mg : Str → Option Value} {H : Hp} {v : V} {i : Int} (x : VX K mg pn H (.int i) v) : v = .int i := by have z := x.vr rfl; cases z; rfl
theorem VX.str {pn : List (Addr × Obj)} {K : PySem.W.Frag} {mg : Str → Option Value} {H : Hp} {v : V} {s : Str} (x : VX K mg pn H (.str s) v) : v = .str s := by have z := x.vr rfl; cases z; rfl
theorem VX.rf {pn : List (Addr × Obj)} {K : PySem.W.Frag} {mg : Str → Option Value} {H : Hp} {v : V} {a : Addr} (x : VX K mg pn H (.ref a) v) : v = .ref a := by have z := x.vr rfl; cases z; rfl
theorem VX.ty {pn : List (Addr × Obj)} {K : PySem.W.Frag} {mg : Str → Option Value} {H : Hp} {v : V} {n : String} (x : VX K mg pn H (.ty n) v) : v = .ty n := by have z := x.vr rfl; cases z; rfl
theorem VX.tp {pn : List (Addr × Obj)} {K : PySem.W.Frag} {mg : Str → Option Value} {H : Hp} {v : V} {xs : List Val} (x : VX K mg pn H (.tup xs) v) : ∃ a vs, v = .ref a ∧ SqT K H a vs ∧ VRs K mg H xs vs := by
  have z := x.vr rfl
  cases z with
  | tup a b => exact ⟨_, _, rfl, a, b⟩
theorem VRs.nil_iff {K : PySem.W.Frag} {mg : Str → Option Value} {H : Hp} {xs : List Val} {vs : List V} (r : VRs K mg H xs vs) : vs = [] ↔ xs = [] := by
  cases r <;> simp
/-- a new list behind -/
theorem KW.lst {h : IH} {H : Hp} {Q' : KV} {Q : VK} (k : KW X.K X.mg hp h H Q' Q) (r : RH X.K X.mg h H) {ys : List Val} {vs : List V} (x : VRs X.K X.mg H ys vs) (q : ∀ p, h p = none → Q' (.ref p) (put h p (.lst ys))) :
    ∀ p, H p = none → Q (.ref p) (upd H p (.lst vs)) := fun p n => by
  obtain ⟨r2, e2, n'⟩ := r.alloc n (CR.lst x)
  exact k (.ref p) (.ref p) _ _ (.inl (.ref p)) r2 e2 (q p n')
/-- a new tuple behind -/
theorem KW.tup {h : IH} {H : Hp} {Q' : KV} {Q : VK} (k : KW X.K X.mg hp h H Q' Q) (r : RH X.K X.mg h H) {ys : List Val} {vs : List V} (x : VRs X.K X.mg H ys vs) (q : Q' (.tup ys) h) :
    ∀ p, H p = none → Q (.ref p) (upd H p (.tup vs)) := fun p n => by
  obtain ⟨r2, e2⟩ := r.tuple (vs := vs) n
  exact k (.tup ys) (.ref p) h _ (.inl (.tup (SqT.of upd_same) (x.mono (e2.tup r)))) r2 e2 q
abbrev rAddS : R2 := fun x y H Q => ∃ i j, x = .str i ∧ y = .str j ∧ i.length + j.length ≤ sizeLine ∧ Q (.str (i ++ j)) H
theorem o_add : OpR X (binaryOp .Add) (fun x y H Q => rI0 (fun i j => .int (i + j)) x y H Q ∨ rAddS x y H Q ∨ rCatA X.K x y H Q ∨ rCat x y H Q) := op_add.or (op_add_str.or (op_catA.or op_cat))
theorem k_add : OpOk X.K X.mg hp vAdd (fun x y H Q => rI0 (fun i j => .int (i + j)) x y H Q ∨ rAddS x y H Q ∨ rCatA X.K x y H Q ∨ rCat x y H Q) := by
  intro x y v u h H Q' Q vx vy r f k
  unfold vAdd at f
  split at f
  · cases vx.int; cases vy.int
    exact .inl ⟨_, _, rfl, rfl, k.now r (.int _) f⟩
  · cases vx.str; cases vy.str
    exact .inr (.inl ⟨_, _, rfl, rfl, f.1, k.now r (.str _) f.2⟩)
  · obtain ⟨a, vs, rfl, s1, r1⟩ := vx.tp
    obtain ⟨b, us, rfl, s2, r2⟩ := vy.tp
    refine .inr (.inr (.inl ⟨a, b, vs, us, rfl, rfl, s1, s2, by rw [← r1.length, ← r2.length]; exact f.1, fun z => ?_, fun z1 z2 => ?_, fun _ _ => k.tup r (r1.append r2) f.2⟩))
    · have z' := r1.nil_iff.mp z
      subst z'
      exact k.now r (.tup s2 r2) (by simpa using f.2)
    · have z' := r2.nil_iff.mp z2
      subst z'
      exact k.now r (.tup s1 r1) (by simpa using f.2)
  · split at f
    · rename_i h1 h2
      cases vx.rf; cases vy.rf
      obtain ⟨vs, e1, r1⟩ := r.lst h1
      obtain ⟨us, e2, r2⟩ := r.lst h2
      exact .inr (.inr (.inr ⟨_, _, vs, us, rfl, rfl, e1, e2, by rw [← r1.length, ← r2.length]; exact f.1, k.lst r (r1.append r2) f.2⟩))
    · exact f.elim
  · exact f.elim
theorem k_sub : OpOk X.K X.mg hp vSub (rI0 fun i j => .int (i - j)) := by
  intro x y v u h H Q' Q vx vy r f k
  unfold vSub at f
  split at f
  · cases vx.int; cases vy.int
    exact ⟨_, _, rfl, rfl, k.now r (.int _) f⟩
  · exact f.elim
theorem op_mulX : OpR X (binaryOp .Mult) (rI mulOk fun i j => .int (i * j)) := opI fun _ _ _ _ _ _ _ hc q => PyProof.Rows.mul_int q hc.ok
theorem o_mul : OpR X (binaryOp .Mult) (fun x y H Q => rI mulOk (fun i j => .int (i * j)) x y H Q ∨ rRep x y H Q) := op_mulX.or op_rep
theorem VRs.flat {K : PySem.W.Frag} {mg : Str → Option Value} {H : Hp} {xs : List Val} {vs : List V} (r : VRs K mg H xs vs) : ∀ k : Nat, VRs K mg H (List.replicate k xs).flatten (List.replicate k vs).flatten
  | 0 => .nil
  | k + 1 => by
    rw [List.replicate_succ, List.replicate_succ, List.flatten_cons, List.flatten_cons]
    exact r.append (VRs.flat r k)
theorem k_mul : OpOk X.K X.mg hp vMul (fun x y H Q => rI mulOk (fun i j => .int (i * j)) x y H Q ∨ rRep x y H Q) := by
  intro x y v u h H Q' Q vx vy r f k
  unfold vMul at f
  split at f
  · cases vx.int; cases vy.int
    exact .inl ⟨_, _, rfl, rfl, f.1, k.now r (.int _) f.2⟩
  · split at f
    · rename_i h1
      cases vx.rf; cases vy.int
      obtain ⟨vs, e1, r1⟩ := r.lst h1
      obtain ⟨f1, f2, f3, f4⟩ := f
      exact .inr ⟨_, _, vs, rfl, rfl, e1, by omega, by omega, by rw [← r1.length]; exact f3, k.lst r (r1.flat _) f4⟩
    · exact f.elim
  · exact f.elim
theorem k_div : OpOk X.K X.mg hp vDiv (rI CDivW fun i j => .int (i / j)) := by
  intro x y v u h H Q' Q vx vy r f k
  unfold vDiv at f
  split at f
  · cases vx.int; cases vy.int
    exact ⟨_, _, rfl, rfl, ⟨f.1, f.2.1⟩, k.now r (.int _) f.2.2⟩
  · exact f.elim
theorem k_mod : OpOk X.K X.mg hp vMod (rI (fun _ j => 0 < j) fun i j => .int (i % j)) := by
  intro x y v u h H Q' Q vx vy r f k
  unfold vMod at f
  split at f
  · cases vx.int; cases vy.int
    exact ⟨_, _, rfl, rfl, f.1, k.now r (.int _) f.2⟩
  · exact f.elim
theorem k_pow : OpOk X.K X.mg hp vPow (rI CPow fun i j => .int (i ^ j.toNat)) := by
  intro x y v u h H Q' Q vx vy r f k
  unfold vPow at f
  split at f
  · cases vx.int; cases vy.int
    exact ⟨_, _, rfl, rfl, f.1, k.now r (.int _) f.2⟩
  · exact f.elim
theorem k_neg : UnOk X.K X.mg hp vNeg (rU fun i => .int (-i)) := by
  intro x v h H Q' Q vx r f k
  unfold vNeg at f
  split at f
  · cases vx.int
    exact ⟨_, rfl, k.now r (.int _) f⟩
  · exact f.elim
theorem k_lt : OpOk X.K X.mg hp vLt (rI0 fun i j => .bl (decide (i < j))) := by
  intro x y v u h H Q' Q vx vy r f k
  unfold vLt at f
  split at f
  · cases vx.int; cases vy.int
    exact ⟨_, _, rfl, rfl, k.now r (.bl _) f⟩
  · exact f.elim
theorem k_le : OpOk X.K X.mg hp vLe (rI0 fun i j => .bl (decide (i ≤ j))) := by
  intro x y v u h H Q' Q vx vy r f k
  unfold vLe at f
  split at f
  · cases vx.int; cases vy.int
    exact ⟨_, _, rfl, rfl, k.now r (.bl _) f⟩
  · exact f.elim
theorem k_gt : OpOk X.K X.mg hp vGt (rI0 fun i j => .bl (decide (j < i))) := by
  intro x y v u h H Q' Q vx vy r f k
  unfold vGt at f
  split at f
  · cases vx.int; cases vy.int
    exact ⟨_, _, rfl, rfl, k.now r (.bl _) f⟩
  · exact f.elim
theorem k_ge : OpOk X.K X.mg hp vGe (rI0 fun i j => .bl (decide (j ≤ i))) := by
  intro x y v u h H Q' Q vx vy r f k
  unfold vGe at f
  split at f
  · cases vx.int; cases vy.int
    exact ⟨_, _, rfl, rfl, k.now r (.bl _) f⟩
  · exact f.elim
end

/-! ### == of data -/
def datL (f : Val → Option PyData) : List Val → Option (List PyData)
  | [] => some []
  | x :: xs => match f x, datL f xs with
    | some d, some ds => some (d :: ds)
    | _, _ => none
def dat (h : IH) : Nat → Val → Option PyData
  | 0, _ => none
  | n + 1, x => match x with
    | .non => some .none
    | .bl b => some (.bool b)
    | .int i => some (.int i)
    | .str s => if PyData.strOk s = true then some (.str s) else none
    | .tup xs => (datL (dat h n) xs).map .tuple
    | .ref a => match h.seq a with
      | some xs => (datL (dat h n) xs).map .list
      | none => none
    | _ => none
theorem datL_dp {K : PySem.W.Frag} {mg : Str → Option Value} {H : Hp} {f : Val → Option PyData} (hf : ∀ x v d, VR K mg H x v → f x = some d → Dp K H v d) : ∀ {xs : List Val} {vs : List V} {ds : List PyData}, VRs K mg H xs vs → datL f xs = some ds → DpAll K H vs ds
  | _, _, _, .nil, e => by cases e; exact .nil
  | x :: xs, _, _, .cons a b, e => by
    unfold datL at e
    split at e
    · rename_i d ds e1 e2
      cases e
      exact .cons (hf _ _ _ a e1) (datL_dp hf b e2)
    · cases e
theorem dat_dp {K : PySem.W.Frag} {mg : Str → Option Value} {h : IH} {H : Hp} (r : RH K mg h H) : ∀ (n : Nat) (x : Val) (v : V) (d : PyData), VR K mg H x v → dat h n x = some d → Dp K H v d
  | 0, _, _, _, _, e => by cases e
  | n + 1, x, v, d, vx, e => by
    unfold dat at e
    cases vx with
    | non => cases e; exact .non
    | bl b => cases e; exact .bl b
    | int i => cases e; exact .int i
    | str s =>
      dsimp only at e
      split at e
      · cases e; exact .str s
      · cases e
    | tup a b =>
      dsimp only at e
      obtain ⟨ds, e1, e2⟩ := Option.map_eq_some_iff.mp e
      subst e2
      exact .tup a (datL_dp (fun x v d => dat_dp r n x v d) b e1)
    | ref a =>
      dsimp only at e
      split at e
      · rename_i xs hs
        obtain ⟨ds, e1, e2⟩ := Option.map_eq_some_iff.mp e
        subst e2
        obtain ⟨vs, q1, q2⟩ := r.seq hs
        exact .lst q1 (datL_dp (fun x v d => dat_dp r n x v d) q2 e1)
      · cases e
    | ty n => cases e
    | glob _ _ => cases e
    | scr _ => cases e
theorem depthAll_le {n : Nat} : ∀ {ds : List PyData}, (∀ d ∈ ds, d.depth ≤ n) → PyData.depthAll ds ≤ n
  | [], _ => by simp [PyData.depthAll]
  | d :: ds, h => by
    have a := h d (by simp)
    have b := depthAll_le (n := n) (ds := ds) fun e he => h e (by simp [he])
    simp only [PyData.depthAll]
    omega
theorem datL_mem {f : Val → Option PyData} : ∀ {xs : List Val} {ds : List PyData}, datL f xs = some ds → ∀ d ∈ ds, ∃ x ∈ xs, f x = some d
  | [], _, e, d, hd => by cases e; cases hd
  | x :: xs, _, e, d, hd => by
    unfold datL at e
    split at e
    · rename_i d' ds e1 e2
      cases e
      rcases List.mem_cons.mp hd with rfl | hd
      · exact ⟨x, by simp, e1⟩
      · obtain ⟨y, a, b⟩ := datL_mem e2 d hd
        exact ⟨y, by simp [a], b⟩
    · cases e
theorem canLayAll_of : ∀ {ds : List PyData}, (∀ d ∈ ds, d.canLay0 = true) → PyData.canLayAll0 ds = true
  | [], _ => rfl
  | d :: ds, h => by
    simp only [PyData.canLayAll0, Bool.and_eq_true]
    exact ⟨h d (by simp), canLayAll_of fun e he => h e (by simp [he])⟩
theorem dat_ok (h : IH) : ∀ (n : Nat) (x : Val) (d : PyData), dat h n x = some d → d.canLay0 = true ∧ d.depth ≤ n
  | 0, _, _, e => by cases e
  | n + 1, x, d, e => by
    unfold dat at e
    cases x with
    | non => cases e; exact ⟨rfl, by simp [PyData.depth]⟩
    | bl b => cases e; exact ⟨rfl, by simp [PyData.depth]⟩
    | int i => cases e; exact ⟨rfl, by simp [PyData.depth]⟩
    | str s =>
      dsimp only at e
      split at e
      · rename_i hs
        cases e; exact ⟨by simp only [PyData.canLay0]; exact hs, by simp [PyData.depth]⟩
      · cases e
    | tup xs =>
      dsimp only at e
      obtain ⟨ds, e1, e2⟩ := Option.map_eq_some_iff.mp e
      subst e2
      have m : ∀ d ∈ ds, d.canLay0 = true ∧ d.depth ≤ n := fun d hd => let ⟨x, _, a⟩ := datL_mem e1 d hd; dat_ok h n x d a
      refine ⟨by simp only [PyData.canLay0]; exact canLayAll_of fun d hd => (m d hd).1, ?_⟩
      have := depthAll_le fun d hd => (m d hd).2
      simp only [PyData.depth]; omega
    | ref a =>
      dsimp only at e
      split at e
      · rename_i xs hs
        obtain ⟨ds, e1, e2⟩ := Option.map_eq_some_iff.mp e
        subst e2
        have m : ∀ d ∈ ds, d.canLay0 = true ∧ d.depth ≤ n := fun d hd => let ⟨x, _, a⟩ := datL_mem e1 d hd; dat_ok h n x d a
        refine ⟨by simp only [PyData.canLay0]; exact canLayAll_of fun d hd => (m d hd).1, ?_⟩
        have := depthAll_le fun d hd => (m d hd).2
        simp only [PyData.depth]; omega
      · cases e
    | ty n => cases e
    | glob _ => cases e
    | exc _ _ _ => cases e
    | scr _ => cases e
theorem dat_shaped {h : IH} {x : Val} {d : PyData} {n : Nat} (hn : n ≤ 64) (e : dat h n x = some d) : SeqAt.shaped d = true := by
  obtain ⟨a, b⟩ := dat_ok h n x d e
  unfold SeqAt.shaped
  rw [a, decide_eq_true (by omega)]
  rfl
/-- flat values alone -/
def eqF (x y : Val) : Option Bool := match x, y with
  | .int i, .int j => some (decide (i = j))
  | .str a, .str b => some (decide (a = b))
  | .bl a, .bl b => some (decide (a = b))
  | .non, .non => some true
  | .non, .int _ => some false
  | .int _, .non => some false
  | .non, .str _ => some false
  | .str _, .non => some false
  | .int _, .str _ => some false
  | .str _, .int _ => some false
  | _, _ => none
def eqD (x y : Val) (h : IH) : Option Bool := match eqF x y with
  | some b => some b
  | none => match dat h 8 x, dat h 8 y with
    | some d, some e => some (PyData.eqv d e)
    | _, _ => none
def vEq (x y : Val) (h : IH) (Q : KV) : Prop := match eqD x y h with
  | some b => Q (.bl b) h
  | none => False
def vNe (x y : Val) (h : IH) (Q : KV) : Prop := match eqD x y h with
  | some b => Q (.bl (!b)) h
  | none => False
def exB : Val → Bool
  | .exc _ _ _ => true
  | _ => false
theorem dat_plain {h : IH} {n : Nat} {x : Val} {d : PyData} (e : dat h n x = some d) : plain x = true := by
  cases n with
  | zero => cases e
  | succ n => cases x <;> first | rfl | (unfold dat at e; cases e)
section
variable {X : Cx} {hp : List (Addr × Obj)}
abbrev rEqX (K : PySem.W.Frag) : R2 := fun x y H Q => rEq x y H Q ∨ rEqD K x y H Q
abbrev rNeX (K : PySem.W.Frag) : R2 := fun x y H Q => rNe x y H Q ∨ rNeD K x y H Q
theorem eqF_ok {x y : Val} {v u : V} {H : Hp} {b : Bool} (vx : VX X.K X.mg hp H x v) (vy : VX X.K X.mg hp H y u) (e : eqF x y = some b) : scal v u = true ∧ decide (v = u) = b := by
  unfold eqF at e
  split at e <;> first | (cases e) | skip
  all_goals first
    | (cases vx.int; cases vy.int; exact ⟨rfl, by simp⟩)
    | (cases vx.str; cases vy.str; exact ⟨rfl, by simp⟩)
    | (cases vx.bl; cases vy.bl; exact ⟨rfl, by simp⟩)
    | (cases vx.non; cases vy.non; exact ⟨rfl, by simp⟩)
    | (cases vx.non; cases vy.int; exact ⟨rfl, by simp⟩)
    | (cases vx.int; cases vy.non; exact ⟨rfl, by simp⟩)
    | (cases vx.non; cases vy.str; exact ⟨rfl, by simp⟩)
    | (cases vx.str; cases vy.non; exact ⟨rfl, by simp⟩)
    | (cases vx.int; cases vy.str; exact ⟨rfl, by simp⟩)
    | (cases vx.str; cases vy.int; exact ⟨rfl, by simp⟩)
theorem eqD_ok {x y : Val} {v u : V} {h : IH} {H : Hp} {b : Bool} (vx : VX X.K X.mg hp H x v) (vy : VX X.K X.mg hp H y u) (r : RH X.K X.mg h H) (e : eqD x y h = some b) :
    (scal v u = true ∧ decide (v = u) = b) ∨ ∃ d e, Dp X.K H v d ∧ Dp X.K H u e ∧ SeqAt.shaped d = true ∧ SeqAt.shaped e = true ∧ PyData.eqv d e = b := by
  unfold eqD at e
  split at e
  · rename_i b' e'
    cases e
    exact .inl (eqF_ok vx vy e')
  · split at e
    · rename_i d e' h1 h2
      cases e
      exact .inr ⟨d, e', dat_dp r _ _ _ _ (vx.vr (dat_plain h1)) h1, dat_dp r _ _ _ _ (vy.vr (dat_plain h2)) h2, dat_shaped (by decide) h1, dat_shaped (by decide) h2, rfl⟩
    · cases e
theorem o_eq (hu : X.A.units + 64 < cLine) : OpR X (compareOp .Eq) (rEqX X.K) := op_eq.or (op_eqD hu)
theorem o_ne (hu : X.A.units + 64 < cLine) : OpR X (compareOp .NotEq) (rNeX X.K) := op_ne.or (op_neD hu)
theorem k_eq : OpOk X.K X.mg hp vEq (rEqX X.K) := by
  intro x y v u h H Q' Q vx vy r f k
  unfold vEq at f
  split at f
  · rename_i b e
    rcases eqD_ok vx vy r e with ⟨e1, e2⟩ | ⟨d, e', d1, d2, s1, s2, e2⟩
    · exact .inl ⟨e1, by rw [e2]; exact k.now r (.bl _) f⟩
    · exact .inr ⟨d, e', d1, d2, s1, s2, by rw [e2]; exact k.now r (.bl _) f⟩
  · exact f.elim
theorem k_ne : OpOk X.K X.mg hp vNe (rNeX X.K) := by
  intro x y v u h H Q' Q vx vy r f k
  unfold vNe at f
  split at f
  · rename_i b e
    rcases eqD_ok vx vy r e with ⟨e1, e2⟩ | ⟨d, e', d1, d2, s1, s2, e2⟩
    · exact .inl ⟨e1, by rw [e2]; exact k.now r (.bl _) f⟩
    · exact .inr ⟨d, e', d1, d2, s1, s2, by rw [e2]; exact k.now r (.bl _) f⟩
  · exact f.elim
end

/-! ### in -/
def flat : Val → Bool
  | .non => true
  | .bl _ => true
  | .int _ => true
  | .str _ => true
  | _ => false
def eqW : Val → Val → Bool
  | .non, .non => true
  | .bl a, .bl b => a == b
  | .bl a, .int b => (if a then 1 else 0) == b
  | .int a, .bl b => a == (if b then 1 else 0)
  | .int a, .int b => a == b
  | .str a, .str b => a == b
  | _, _ => false
def inW (x : Val) (xs : List Val) : Bool := xs.any fun y => eqW y x
def items (y : Val) (h : IH) : Option (List Val) := match y with
  | .tup xs => some xs
  | .ref a => h.seq a
  | _ => none
def inD (x y : Val) (h : IH) : Option Bool := match x, y with
  | .str c, .str z => if c.cps.size = 1 then some (decide (c.cps.getD 0 0 ∈ z.cps.toList)) else none
  | _, _ => match items y h with
    | some xs => if flat x = true ∧ xs.all flat = true then some (inW x xs) else none
    | none => none
def vIn (x y : Val) (h : IH) (Q : KV) : Prop := match inD x y h with
  | some b => Q (.bl b) h
  | none => False
def vNotIn (x y : Val) (h : IH) (Q : KV) : Prop := match inD x y h with
  | some b => Q (.bl (!b)) h
  | none => False
def vIs (x y : Val) (h : IH) (Q : KV) : Prop := match x, y with
  | .non, .non => Q (.bl true) h
  | .bl a, .bl b => Q (.bl (decide (a = b))) h
  | .int _, .non => Q (.bl false) h
  | .str _, .non => Q (.bl false) h
  | .bl _, .non => Q (.bl false) h
  | .tup _, .non => Q (.bl false) h
  | .ref _, .non => Q (.bl false) h
  | _, _ => False
def vIsNot (x y : Val) (h : IH) (Q : KV) : Prop := vIs x y h fun z h' => match z with
  | .bl b => Q (.bl (!b)) h'
  | _ => False
section
variable {X : Cx} {hp : List (Addr × Obj)}
theorem flat_ok {x : Val} {v : V} {H : Hp} (vx : VR X.K X.mg H x v) (f : flat x = true) : flatV v = true := by cases vx <;> first | rfl | exact (Bool.false_ne_true f).elim
theorem flats_ok {H : Hp} : ∀ {xs : List Val} {vs : List V}, VRs X.K X.mg H xs vs → xs.all flat = true → vs.all flatV = true
  | _, _, .nil, _ => rfl
  | _, _, .cons a b, f => by
    rw [List.all_cons, Bool.and_eq_true] at f ⊢
    exact ⟨flat_ok a f.1, flats_ok b f.2⟩
theorem eqW_ok {x y : Val} {v u : V} {H : Hp} (vx : VR X.K X.mg H x v) (vy : VR X.K X.mg H y u) (fx : flat x = true) (fy : flat y = true) : eqV v u = eqW x y := by
  cases vx <;> cases vy <;> first | rfl | exact (Bool.false_ne_true fx).elim | exact (Bool.false_ne_true fy).elim
theorem inW_ok {x : Val} {v : V} {H : Hp} (vx : VR X.K X.mg H x v) (fx : flat x = true) : ∀ {xs : List Val} {vs : List V}, VRs X.K X.mg H xs vs → xs.all flat = true → inV v vs = inW x xs
  | _, _, .nil, _ => rfl
  | _, _, .cons a b, f => by
    rw [List.all_cons, Bool.and_eq_true] at f
    have i := inW_ok vx fx b f.2
    unfold inV inW at i ⊢
    rw [List.any_cons, List.any_cons, i, eqW_ok a vx f.1 fx]
theorem items_ok {y : Val} {u : V} {h : IH} {H : Hp} {xs : List Val} (vy : VX X.K X.mg hp H y u) (r : RH X.K X.mg h H) (e : items y h = some xs) : ∃ a vs, u = .ref a ∧ (SqL X.K H a vs ∨ SqT X.K H a vs) ∧ VRs X.K X.mg H xs vs := by
  unfold items at e
  split at e
  · cases e
    obtain ⟨a, vs, rfl, s, q⟩ := vy.tp
    exact ⟨a, vs, rfl, .inr s, q⟩
  · cases vy.rf
    obtain ⟨vs, s, q⟩ := r.seq e
    exact ⟨_, vs, rfl, .inl s, q⟩
  · cases e
theorem str_one {c : Str} (h : c.cps.size = 1) : c = ⟨#[c.cps.getD 0 0]⟩ := by
  obtain ⟨l⟩ := c
  obtain ⟨l⟩ := l
  cases l with
  | nil => simp at h
  | cons a t =>
    cases t with
    | nil => rfl
    | cons _ _ => simp at h
abbrev rInX (K : PySem.W.Frag) : R2 := fun x y H Q => (∃ (c : Nat) (z : Str), x = .str ⟨#[c]⟩ ∧ y = .str z ∧ Q (.bl (decide (c ∈ z.cps.toList))) H) ∨ rIn K false x y H Q
abbrev rNotInX (K : PySem.W.Frag) : R2 := fun x y H Q => (∃ (c : Nat) (z : Str), x = .str ⟨#[c]⟩ ∧ y = .str z ∧ Q (.bl (!decide (c ∈ z.cps.toList))) H) ∨ rIn K true x y H Q
theorem o_in : OpR X (compareOp .In) (rInX X.K) := op_in_sign.or op_in_seq
theorem o_notIn : OpR X (compareOp .NotIn) (rNotInX X.K) := op_notIn_sign.or op_notIn_seq
theorem inD_ok {x y : Val} {v u : V} {h : IH} {H : Hp} {b : Bool} (vx : VX X.K X.mg hp H x v) (vy : VX X.K X.mg hp H y u) (r : RH X.K X.mg h H) (e : inD x y h = some b) :
    (∃ (c : Nat) (z : Str), v = .str ⟨#[c]⟩ ∧ u = .str z ∧ decide (c ∈ z.cps.toList) = b) ∨ ∃ p vs, u = .ref p ∧ (SqL X.K H p vs ∨ SqT X.K H p vs) ∧ flatV v = true ∧ vs.all flatV = true ∧ inV v vs = b := by
  unfold inD at e
  split at e
  · split at e
    · rename_i c z hc
      cases e
      cases vx.str; cases vy.str
      exact .inl ⟨_, z, congrArg V.str (str_one hc), rfl, rfl⟩
    · cases e
  · split at e
    · rename_i xs hx
      split at e
      · rename_i hf
        cases e
        obtain ⟨p, vs, e1, e2, e3⟩ := items_ok vy r hx
        have fx := hf.1
        have vr : VR X.K X.mg H x v := vx.vr (by cases x <;> first | rfl | exact (Bool.false_ne_true fx).elim)
        exact .inr ⟨p, vs, e1, e2, flat_ok vr hf.1, flats_ok e3 hf.2, inW_ok vr hf.1 e3 hf.2⟩
      · cases e
    · cases e
theorem k_in : OpOk X.K X.mg hp vIn (rInX X.K) := by
  intro x y v u h H Q' Q vx vy r f k
  unfold vIn at f
  split at f
  · rename_i b e
    rcases inD_ok vx vy r e with ⟨c, z, e1, e2, e3⟩ | ⟨p, vs, e1, e2, e3, e4, e5⟩
    · exact .inl ⟨c, z, e1, e2, by rw [e3]; exact k.now r (.bl _) f⟩
    · exact .inr ⟨p, vs, e1, e2, e3, e4, by rw [if_neg Bool.false_ne_true, e5]; exact k.now r (.bl _) f⟩
  · exact f.elim
theorem k_notIn : OpOk X.K X.mg hp vNotIn (rNotInX X.K) := by
  intro x y v u h H Q' Q vx vy r f k
  unfold vNotIn at f
  split at f
  · rename_i b e
    rcases inD_ok vx vy r e with ⟨c, z, e1, e2, e3⟩ | ⟨p, vs, e1, e2, e3, e4, e5⟩
    · exact .inl ⟨c, z, e1, e2, by rw [e3]; exact k.now r (.bl _) f⟩
    · exact .inr ⟨p, vs, e1, e2, e3, e4, by rw [if_pos rfl, e5]; exact k.now r (.bl _) f⟩
  · exact f.elim
abbrev rIsX : R2 := fun x y H Q => (y = .non ∧ Q (.bl (decide (x = .non))) H) ∨ rIsB x y H Q
abbrev rIsNotX : R2 := fun x y H Q => (y = .non ∧ Q (.bl (!decide (x = .non))) H) ∨ rNotB x y H Q
theorem o_is : OpR X (compareOp .Is) rIsX := op_isN.or op_isBl
theorem o_isNot : OpR X (compareOp .IsNot) rIsNotX := op_notN.or op_notBl
theorem k_is : OpOk X.K X.mg hp vIs rIsX := by
  intro x y v u h H Q' Q vx vy r f k
  unfold vIs at f
  split at f
  · cases vx.non; cases vy.non; exact .inl ⟨rfl, k.now r (.bl _) f⟩
  · cases vx.bl; cases vy.bl; exact .inr ⟨_, _, rfl, rfl, k.now r (.bl _) f⟩
  · cases vx.int; cases vy.non; exact .inl ⟨rfl, k.now r (.bl _) f⟩
  · cases vx.str; cases vy.non; exact .inl ⟨rfl, k.now r (.bl _) f⟩
  · cases vx.bl; cases vy.non; exact .inl ⟨rfl, k.now r (.bl _) f⟩
  · obtain ⟨a, vs, rfl, s, q⟩ := vx.tp
    cases vy.non; exact .inl ⟨rfl, k.now r (.bl _) f⟩
  · cases vx.rf; cases vy.non; exact .inl ⟨rfl, k.now r (.bl _) f⟩
  · exact f.elim
theorem k_isNot : OpOk X.K X.mg hp vIsNot rIsNotX := by
  intro x y v u h H Q' Q vx vy r f k
  unfold vIsNot vIs at f
  split at f
  · cases vx.non; cases vy.non; exact .inl ⟨rfl, k.now r (.bl _) f⟩
  · cases vx.bl; cases vy.bl; exact .inr ⟨_, _, rfl, rfl, k.now r (.bl _) f⟩
  · cases vx.int; cases vy.non; exact .inl ⟨rfl, k.now r (.bl _) f⟩
  · cases vx.str; cases vy.non; exact .inl ⟨rfl, k.now r (.bl _) f⟩
  · cases vx.bl; cases vy.non; exact .inl ⟨rfl, k.now r (.bl _) f⟩
  · obtain ⟨a, vs, rfl, s, q⟩ := vx.tp
    cases vy.non; exact .inl ⟨rfl, k.now r (.bl _) f⟩
  · cases vx.rf; cases vy.non; exact .inl ⟨rfl, k.now r (.bl _) f⟩
  · exact f.elim
end

/-! ### subscripts, slices -/
def pyAt (xs : List Val) (i : Int) : Option Val := if 0 ≤ i then xs[i.toNat]? else if -(xs.length : Int) ≤ i then xs[(i + xs.length).toNat]? else none
def vIx (x y : Val) (h : IH) (Q : KV) : Prop := match x, y with
  | .tup xs, .int i => match pyAt xs i with
    | some z => Q z h
    | none => False
  | .ref a, .int i => match h.seq a with
    | some xs => match pyAt xs i with
      | some z => Q z h
      | none => False
    | none => False
  | .scr ns, .int i => 0 ≤ i ∧ ∃ n, ns[i.toNat]? = some n ∧ Q (.int n) h
  | .str s, .int i => 0 ≤ i ∧ s.length ≤ sizeLine ∧ ∃ c, s.cps.toList[i.toNat]? = some c ∧ Q (.str ⟨#[c]⟩) h
  | _, _ => False
section
variable {X : Cx} {hp : List (Addr × Obj)}
theorem pyAt_ok {K : PySem.W.Frag} {mg : Str → Option Value} {H : Hp} {xs : List Val} {vs : List V} (r : VRs K mg H xs vs) {i : Int} {z : Val} (e : pyAt xs i = some z) : ∃ v, atI vs i = some v ∧ VR K mg H z v := by
  have l := r.length
  unfold pyAt at e
  unfold atI ixN
  by_cases h0 : 0 ≤ i
  · rw [if_pos h0] at e
    obtain ⟨v, e1, e2⟩ := r.get e
    have hl : i.toNat < vs.length := (List.getElem?_eq_some_iff.mp e1).1
    refine ⟨v, ?_, e2⟩
    rw [if_pos h0, if_pos (by omega)]
    exact e1
  · rw [if_neg h0] at e
    by_cases h1 : -(xs.length : Int) ≤ i
    · rw [if_pos h1] at e
      obtain ⟨v, e1, e2⟩ := r.get e
      refine ⟨v, ?_, e2⟩
      rw [if_neg h0, if_pos (by omega), ← l]
      exact e1
    · rw [if_neg h1] at e; cases e
theorem k_ix : OpOk X.K X.mg hp vIx (rIx X.K) := by
  intro x y v u h H Q' Q vx vy r f k
  unfold vIx at f
  split at f
  · split at f
    · rename_i z e
      obtain ⟨a, vs, rfl, s, q⟩ := vx.tp
      cases vy.int
      obtain ⟨w, e1, e2⟩ := pyAt_ok q e
      exact .inr (.inl ⟨a, vs, _, w, rfl, rfl, s, e1, k.now r e2 f⟩)
    · exact f.elim
  · split at f
    · rename_i xs e0
      split at f
      · rename_i z e
        cases vx.rf
        cases vy.int
        obtain ⟨vs, s, q⟩ := r.seq e0
        obtain ⟨w, e1, e2⟩ := pyAt_ok q e
        exact .inl ⟨_, vs, _, w, rfl, rfl, s, e1, k.now r e2 f⟩
      · exact f.elim
    · exact f.elim
  · rename_i ns i
    have vr := vx.vr rfl
    cases vr with
    | scr sq =>
      cases vy.int
      obtain ⟨f0, n, f2, f3⟩ := f
      have hl : i.toNat < ns.length := (List.getElem?_eq_some_iff.mp f2).1
      refine .inl ⟨_, _, i, .int n, rfl, rfl, sq.l, ?_, k.now r (.int _) f3⟩
      unfold atI ixN
      rw [List.length_map, if_pos f0, if_pos (by omega)]
      show (ns.map V.int)[i.toNat]? = _
      rw [List.getElem?_map, f2]
      rfl
  · rename_i s i
    cases vx.str; cases vy.int
    obtain ⟨f0, f1, c, f2, f3⟩ := f
    refine .inr (.inr ⟨s, i, c, rfl, rfl, f1, ?_, k.now r (.str _) f3⟩)
    have hl : i.toNat < s.cps.toList.length := (List.getElem?_eq_some_iff.mp f2).1
    unfold atI ixN
    rw [if_pos f0, if_pos (by omega)]
    exact f2
  · exact f.elim
end
/-- the items of xs[lo:hi] -/
def cutW (xs : List Val) (lo hi : Option Int) : List Val := (xs.drop (HT.sIx xs.length 0 lo)).take (HT.sIx xs.length xs.length hi - HT.sIx xs.length 0 lo)
def vSl (x : Val) (lo hi : Option Int) (h : IH) (Q : KV) : Prop := match x with
  | .tup xs => Q (.tup (cutW xs lo hi)) h
  | .ref a => match h.seq a with
    | some xs => ∀ p, h p = none → Q (.ref p) (put h p (.lst (cutW xs lo hi)))
    | none => False
  | _ => False
section
variable {X : Cx} {hp : List (Addr × Obj)}
theorem cutW_ok {K : PySem.W.Frag} {mg : Str → Option Value} {H : Hp} {xs : List Val} {vs : List V} (r : VRs K mg H xs vs) (lo hi : Option Int) : VRs K mg H (cutW xs lo hi) (cutV vs lo hi) := by
  unfold cutW cutV
  rw [r.length]
  exact (r.drop _).take _
theorem o_sl : SlR X (fun x lo hi H Q => rSlA X.K x lo hi H Q ∨ rSlL X.K x lo hi H Q) := sl_tupA.or sl_list
theorem cut_whole {α : Type} (xs : List α) {i j : Nat} (h1 : i = 0) (h2 : j = xs.length) : (xs.drop i).take (j - i) = xs := by
  subst h1; subst h2; simp
theorem k_sl : SlOk X.K X.mg hp vSl (fun x lo hi H Q => rSlA X.K x lo hi H Q ∨ rSlL X.K x lo hi H Q) := by
  intro x v i j h H Q' Q vx r f k
  unfold vSl at f
  split at f
  · rename_i xs
    obtain ⟨a, vs, rfl, s, q⟩ := vx.tp
    refine .inl ⟨a, vs, rfl, s, fun z => ?_, fun _ => k.tup r (cutW_ok q i j) f⟩
    have e : cutW xs i j = xs := cut_whole xs (by rw [q.length]; exact z.1) (by rw [q.length]; exact z.2)
    rw [e] at f
    exact k.now r (.tup s q) f
  · split at f
    · rename_i xs e0
      cases vx.rf
      obtain ⟨vs, s, q⟩ := r.seq e0
      exact .inr ⟨_, vs, rfl, s, k.lst r (cutW_ok q i j) f⟩
    · exact f.elim
  · exact f.elim
end
end WS

/-! WS3: built-in functions and methods by plain values. -/
namespace WS
open PySem PySem.Spec L2

def vLen (x : Val) (h : IH) : Option Nat := match x with
  | .str s => if s.length ≤ sizeLine then some s.length else none
  | .tup xs => some xs.length
  | .scr ns => some ns.length
  | .ref a => match h.seq a with
    | some xs => some xs.length
    | none => none
  | _ => none
def bLen (vs : List Val) (h : IH) (Q : KV) : Prop := match vs with
  | [x] => match vLen x h with
    | some n => Q (.int n) h
    | none => False
  | _ => False
def bAbs (vs : List Val) (h : IH) (Q : KV) : Prop := match vs with
  | [.int i] => Q (.int (if i < 0 then -i else i)) h
  | _ => False
def bMax (vs : List Val) (h : IH) (Q : KV) : Prop := match vs with
  | [.int i, .int j] => Q (.int (if j > i then j else i)) h
  | _ => False
def bMin (vs : List Val) (h : IH) (Q : KV) : Prop := match vs with
  | [.int i, .int j] => Q (.int (if j < i then j else i)) h
  | _ => False
def bDivmod (vs : List Val) (h : IH) (Q : KV) : Prop := match vs with
  | [.int i, .int j] => 0 < j ∧ divOk j ∧ Q (.tup [.int (i / j), .int (i % j)]) h
  | _ => False
def bInt (vs : List Val) (h : IH) (Q : KV) : Prop := match vs with
  | [.int i] => Q (.int i) h
  | [.bl b] => Q (.int (if b then 1 else 0)) h
  | _ => False
def bTuple (vs : List Val) (h : IH) (Q : KV) : Prop := match vs with
  | [.tup xs] => Q (.tup xs) h
  | [.ref a] => match h.seq a with
    | some xs => Q (.tup xs) h
    | none => False
  | _ => False
def bList (vs : List Val) (h : IH) (Q : KV) : Prop := match vs with
  | [.tup xs] => ∀ p, h p = none → Q (.ref p) (put h p (.lst xs))
  | [.ref a] => match h.seq a with
    | some xs => ∀ p, h p = none → Q (.ref p) (put h p (.lst xs))
    | none => False
  | _ => False
def asBool : Val → Option Bool
  | .bl b => some b
  | _ => none
def asInt : Val → Option Int
  | .int i => some i
  | _ => none
def asStr : Val → Option Str
  | .str s => some s
  | _ => none
def allAs {α : Type} (f : Val → Option α) : List Val → Option (List α)
  | [] => some []
  | x :: xs => match f x, allAs f xs with
    | some a, some r => some (a :: r)
    | _, _ => none
theorem allAs_bools : ∀ {xs : List Val} {bs : List Bool}, allAs asBool xs = some bs → xs = bs.map Val.bl
  | [], _, e => by cases e; rfl
  | x :: xs, _, e => by
    unfold allAs at e
    split at e
    · rename_i a r e1 e2
      cases e
      cases x <;> first | (cases e1; rw [allAs_bools e2]; rfl) | exact nomatch e1
    · cases e
theorem allAs_ints : ∀ {xs : List Val} {bs : List Int}, allAs asInt xs = some bs → xs = bs.map Val.int
  | [], _, e => by cases e; rfl
  | x :: xs, _, e => by
    unfold allAs at e
    split at e
    · rename_i a r e1 e2
      cases e
      cases x <;> first | (cases e1; rw [allAs_ints e2]; rfl) | exact nomatch e1
    · cases e
theorem allAs_strs : ∀ {xs : List Val} {bs : List Str}, allAs asStr xs = some bs → xs = bs.map Val.str
  | [], _, e => by cases e; rfl
  | x :: xs, _, e => by
    unfold allAs at e
    split at e
    · rename_i a r e1 e2
      cases e
      cases x <;> first | (cases e1; rw [allAs_strs e2]; rfl) | exact nomatch e1
    · cases e
def bAll (vs : List Val) (h : IH) (Q : KV) : Prop := match vs with
  | [.ref a] => match h.seq a with
    | some xs => match allAs asBool xs with
      | some bs => Q (.bl (bs.all id)) h
      | none => False
    | none => False
  | _ => False
def bAny (vs : List Val) (h : IH) (Q : KV) : Prop := match vs with
  | [.ref a] => match h.seq a with
    | some xs => match allAs asBool xs with
      | some bs => Q (.bl (bs.any id)) h
      | none => False
    | none => False
  | _ => False
def bSum (vs : List Val) (h : IH) (Q : KV) : Prop := match vs with
  | [.ref a] => match h.seq a with
    | some xs => match allAs asInt xs with
      | some ns => Q (.int ns.sum) h
      | none => False
    | none => False
  | _ => False
section
variable {X : Cx} {hp : List (Addr × Obj)}
theorem p1 {H : Hp} {x : Val} {vs : List V} (p : Paired (VX X.K X.mg hp H) [x] vs) : ∃ v, vs = [v] ∧ VX X.K X.mg hp H x v := by
  cases p with
  | cons a b => cases b; exact ⟨_, rfl, a⟩
theorem p2 {H : Hp} {x y : Val} {vs : List V} (p : Paired (VX X.K X.mg hp H) [x, y] vs) : ∃ v u, vs = [v, u] ∧ VX X.K X.mg hp H x v ∧ VX X.K X.mg hp H y u := by
  cases p with
  | cons a b =>
    obtain ⟨u, rfl, c⟩ := p1 b
    exact ⟨_, _, rfl, a, c⟩
theorem p3 {H : Hp} {x y z : Val} {vs : List V} (p : Paired (VX X.K X.mg hp H) [x, y, z] vs) : ∃ v u w, vs = [v, u, w] ∧ VX X.K X.mg hp H x v ∧ VX X.K X.mg hp H y u ∧ VX X.K X.mg hp H z w := by
  cases p with
  | cons a b =>
    obtain ⟨u, w, rfl, c, d⟩ := p2 b
    exact ⟨_, _, _, rfl, a, c, d⟩
theorem k_len : BiOk X.K X.mg hp bLen (fun xs H Q => ∃ x n, xs = [x] ∧ LenV X.K x H n ∧ Q (.int n) H) := by
  intro xs vs h H Q' Q p r f k
  unfold bLen at f
  split at f
  · rename_i x
    obtain ⟨v, rfl, vx⟩ := p1 p
    split at f
    · rename_i n e
      refine ⟨v, n, rfl, ?_, k.now r (.int _) f⟩
      unfold vLen at e
      split at e
      · cases vx.str
        split at e
        · cases e; exact ⟨by assumption, rfl⟩
        · cases e
      · obtain ⟨a, ws, rfl, s, q⟩ := vx.tp
        cases e
        exact .inr ⟨ws, s, q.length⟩
      · have vr := vx.vr rfl
        cases vr with
        | scr sq =>
          cases e
          exact .inl ⟨_, sq.l, by rw [List.length_map]⟩
      · split at e
        · rename_i ys e0
          cases vx.rf
          cases e
          obtain ⟨ws, s, q⟩ := r.seq e0
          exact .inl ⟨ws, s, q.length⟩
        · cases e
      · cases e
    · exact f.elim
  · exact f.elim
theorem k_abs : BiOk X.K X.mg hp bAbs (fun xs H Q => ∃ i, xs = [.int i] ∧ Q (.int (if i < 0 then -i else i)) H) := by
  intro xs vs h H Q' Q p r f k
  unfold bAbs at f
  split at f
  · obtain ⟨v, rfl, vx⟩ := p1 p
    cases vx.int
    exact ⟨_, rfl, k.now r (.int _) f⟩
  · exact f.elim
theorem k_max : BiOk X.K X.mg hp bMax (fun xs H Q => ∃ i j, xs = [.int i, .int j] ∧ Q (.int (if j > i then j else i)) H) := by
  intro xs vs h H Q' Q p r f k
  unfold bMax at f
  split at f
  · obtain ⟨v, u, rfl, vx, vy⟩ := p2 p
    cases vx.int; cases vy.int
    exact ⟨_, _, rfl, k.now r (.int _) f⟩
  · exact f.elim
theorem k_min : BiOk X.K X.mg hp bMin (fun xs H Q => ∃ i j, xs = [.int i, .int j] ∧ Q (.int (if j < i then j else i)) H) := by
  intro xs vs h H Q' Q p r f k
  unfold bMin at f
  split at f
  · obtain ⟨v, u, rfl, vx, vy⟩ := p2 p
    cases vx.int; cases vy.int
    exact ⟨_, _, rfl, k.now r (.int _) f⟩
  · exact f.elim
theorem c_divmod : CallR X (.builtin "divmod") (fun xs H Q => ∃ i j, xs = [.int i, .int j] ∧ CDivW i j ∧ ∀ p, H p = none → Q (.ref p) (upd H p (.tup [.int (i / j), .int (i % j)]))) := by
  intro pins s σ H xs us Q I r h
  obtain ⟨i, j, rfl, ⟨h1, h2⟩, q⟩ := h
  obtain ⟨u, w', rfl, ⟨t, rfl⟩, ⟨t', rfl⟩⟩ := vals2 r
  refine PyProof.Rows.divmod_int (by omega) ?_ (.inl (PyProof.noPylong_of_log2 h2))
  rw [Int.fdiv_eq_ediv_of_nonneg i (by omega), Int.fmod_eq_emod_of_nonneg i (by omega)]
  have hn : H s.heap.objs.size = none := I.hok.fresh (Nat.le_refl _)
  refine ⟨.ref s.heap.objs.size, _, ?_, rfl, q _ hn⟩
  refine I.laid (fun b o e => Heap.get?_push_of_some _ e) (Nat.le_refl _) ⟨by simp only [List.length_cons, List.length_nil]; rw [sizeLine_eq]; decide, [.int (i / j) s.toks, .int (i % j) (s.toks + 1)], .cons ⟨_, rfl⟩ (.cons ⟨_, rfl⟩ .nil), ?_⟩
  exact ⟨_, Heap.get?_push_size s.heap rfl, rfl, 0, rfl⟩
theorem k_divmod : BiOk X.K X.mg hp bDivmod (fun xs H Q => ∃ i j, xs = [.int i, .int j] ∧ CDivW i j ∧ ∀ p, H p = none → Q (.ref p) (upd H p (.tup [.int (i / j), .int (i % j)]))) := by
  intro xs vs h H Q' Q p r f k
  unfold bDivmod at f
  split at f
  · obtain ⟨v, u, rfl, vx, vy⟩ := p2 p
    cases vx.int; cases vy.int
    exact ⟨_, _, rfl, ⟨f.1, f.2.1⟩, k.tup r (.cons (.int _) (.cons (.int _) .nil)) f.2.2⟩
  · exact f.elim
theorem k_int : BiOk X.K X.mg hp bInt (fun xs H Q => (∃ i, xs = [.int i] ∧ Q (.int i) H) ∨ ∃ k, xs = [.bl k] ∧ Q (.int (if k then 1 else 0)) H) := by
  intro xs vs h H Q' Q p r f k
  unfold bInt at f
  split at f
  · obtain ⟨v, rfl, vx⟩ := p1 p
    cases vx.int
    exact .inl ⟨_, rfl, k.now r (.int _) f⟩
  · obtain ⟨v, rfl, vx⟩ := p1 p
    cases vx.bl
    exact .inr ⟨_, rfl, k.now r (.int _) f⟩
  · exact f.elim
theorem k_tuple : BiOk X.K X.mg hp bTuple (fun xs H Q => ∃ p ys, xs = [.ref p] ∧ ((SqL X.K H p ys ∧ ∀ l, H l = none → Q (.ref l) (upd H l (.tup ys))) ∨ (SqT X.K H p ys ∧ Q (.ref p) H))) := by
  intro xs vs h H Q' Q p r f k
  unfold bTuple at f
  split at f
  · obtain ⟨v, rfl, vx⟩ := p1 p
    obtain ⟨a, ws, rfl, s, q⟩ := vx.tp
    exact ⟨a, ws, rfl, .inr ⟨s, k.now r (.tup s q) f⟩⟩
  · split at f
    · rename_i ys e0
      obtain ⟨v, rfl, vx⟩ := p1 p
      cases vx.rf
      obtain ⟨ws, s, q⟩ := r.seq e0
      exact ⟨_, ws, rfl, .inl ⟨s, k.tup r q f⟩⟩
    · exact f.elim
  · exact f.elim
theorem k_list : BiOk X.K X.mg hp bList (fun xs H Q => ∃ p ys, xs = [.ref p] ∧ (SqL X.K H p ys ∨ SqT X.K H p ys) ∧ ∀ l, H l = none → Q (.ref l) (upd H l (.lst ys))) := by
  intro xs vs h H Q' Q p r f k
  unfold bList at f
  split at f
  · obtain ⟨v, rfl, vx⟩ := p1 p
    obtain ⟨a, ws, rfl, s, q⟩ := vx.tp
    exact ⟨a, ws, rfl, .inr s, k.lst r q f⟩
  · split at f
    · rename_i ys e0
      obtain ⟨v, rfl, vx⟩ := p1 p
      cases vx.rf
      obtain ⟨ws, s, q⟩ := r.seq e0
      exact ⟨_, ws, rfl, .inl s, k.lst r q f⟩
    · exact f.elim
  · exact f.elim
theorem k_all : BiOk X.K X.mg hp bAll (rAll X.K) := by
  intro xs vs h H Q' Q p r f k
  unfold bAll at f
  split at f
  · split at f
    · rename_i ys e0
      split at f
      · rename_i bs eb
        obtain ⟨v, rfl, vx⟩ := p1 p
        cases vx.rf
        obtain ⟨ws, s, q⟩ := r.seq e0
        rw [allAs_bools eb] at q
        have e := q.bls
        subst e
        exact ⟨_, bs, rfl, s, k.now r (.bl _) f⟩
      · exact f.elim
    · exact f.elim
  · exact f.elim
theorem k_any : BiOk X.K X.mg hp bAny (rAny X.K) := by
  intro xs vs h H Q' Q p r f k
  unfold bAny at f
  split at f
  · split at f
    · rename_i ys e0
      split at f
      · rename_i bs eb
        obtain ⟨v, rfl, vx⟩ := p1 p
        cases vx.rf
        obtain ⟨ws, s, q⟩ := r.seq e0
        rw [allAs_bools eb] at q
        have e := q.bls
        subst e
        exact ⟨_, bs, rfl, s, k.now r (.bl _) f⟩
      · exact f.elim
    · exact f.elim
  · exact f.elim
theorem k_sum : BiOk X.K X.mg hp bSum (rSum X.K) := by
  intro xs vs h H Q' Q p r f k
  unfold bSum at f
  split at f
  · split at f
    · rename_i ys e0
      split at f
      · rename_i bs eb
        obtain ⟨v, rfl, vx⟩ := p1 p
        cases vx.rf
        obtain ⟨ws, s, q⟩ := r.seq e0
        rw [allAs_ints eb] at q
        have e := q.ints
        subst e
        exact ⟨_, bs, rfl, s, k.now r (.int _) f⟩
      · exact f.elim
    · exact f.elim
  · exact f.elim
end

/-! ### isinstance of built-in classes -/
def tyN (x : Val) (h : IH) : Option String := match x with
  | .non => some "NoneType"
  | .bl _ => some "bool"
  | .int _ => some "int"
  | .str _ => some "str"
  | .tup _ => some "tuple"
  | .ref a => match h a with
    | some (.lst _) => some "list"
    | some (.ro _) => some "list"
    | some (.dct _) => some "dict"
    | _ => none
  | _ => none
def tyUp (a b : String) : Bool := a == b || (a == "bool" && b == "int")
def tyKnown : List String := ["bool", "int", "str", "tuple", "list", "dict"]
def vIsi (x c : Val) (h : IH) : Option Bool := match c with
  | .ty b => match tyN x h with
    | some a => if b ∈ tyKnown then some (tyUp a b) else none
    | none => none
  | _ => none
def bIsi (vs : List Val) (h : IH) (Q : KV) : Prop := match vs with
  | [x, c] => match vIsi x c h with
    | some b => Q (.bl b) h
    | none => False
  | _ => False
theorem kit_tys {K : PySem.W.Frag} {a b : String} (ha : a ∈ ["NoneType", "bool", "int", "str", "tuple", "list", "dict"]) (hb : b ∈ tyKnown) : PySem.W.kitOne K (.type a) (.type b) = some (tyUp a b) := by
  have h : ∀ a ∈ ["NoneType", "bool", "int", "str", "tuple", "list", "dict"], ∀ b ∈ tyKnown, kitB a b = some (tyUp a b) := by decide +kernel
  exact kit_ty (h a ha b hb)
theorem Rd.tyx {K : PySem.W.Frag} {H : Hp} {a : Addr} {vs : List V} (s : SqT K H a vs) : TyX K H (.ref a) (.type "tuple") := by
  rcases s with (s | ⟨o, s⟩) | ⟨o, its, n, e, c, _⟩
  · exact .base (.tup s)
  · exact .fTuple s
  · exact .kTuple e c
section
variable {X : Cx} {hp : List (Addr × Obj)}
theorem tyN_ok {x : Val} {v : V} {h : IH} {H : Hp} {a : String} (vx : VX X.K X.mg hp H x v) (r : RH X.K X.mg h H) (e : tyN x h = some a) : TyX X.K H v (.type a) ∧ a ∈ ["NoneType", "bool", "int", "str", "tuple", "list", "dict"] := by
  unfold tyN at e
  split at e
  · cases vx.non; cases e; exact ⟨.base .non, by decide⟩
  · cases vx.bl; cases e; exact ⟨.base (.bl _), by decide⟩
  · cases vx.int; cases e; exact ⟨.base (.int _), by decide⟩
  · cases vx.str; cases e; exact ⟨.base (.str _), by decide⟩
  · obtain ⟨b, ws, rfl, s, q⟩ := vx.tp
    cases e
    exact ⟨Rd.tyx s, by decide⟩
  · cases vx.rf
    split at e
    · rename_i hx
      cases e
      obtain ⟨o, e1, e2⟩ := r _ _ hx
      cases e2
      exact ⟨.base (.lst e1), by decide⟩
    · rename_i hx
      cases e
      obtain ⟨o, e1, e2⟩ := r _ _ hx
      cases e2
      exact ⟨.base (.frz e1), by decide⟩
    · rename_i hx
      cases e
      obtain ⟨o, e1, e2⟩ := r _ _ hx
      cases e2
      exact ⟨.base (.dK e1), by decide⟩
    · cases e
  · cases e
theorem k_isi : BiOk X.K X.mg hp bIsi (rIsi X.K) := by
  intro xs vs h H Q' Q p r f k
  unfold bIsi at f
  split at f
  · rename_i x c
    obtain ⟨v, u, rfl, vx, vc⟩ := p2 p
    split at f
    · rename_i b e
      unfold vIsi at e
      split at e
      · rename_i n
        split at e
        · rename_i a ea
          split at e
          · rename_i hb
            cases e
            cases vc.ty
            obtain ⟨t1, t2⟩ := tyN_ok vx r ea
            exact ⟨v, .ty n, .type a, .type n, _, rfl, .ty n, t1, kit_tys t2 hb, k.now r (.bl _) f⟩
          · cases e
        · cases e
      · cases e
    · exact f.elim
  · exact f.elim
end

/-! ### methods of lists -/
def mAppend (x : Val) (vs : List Val) (h : IH) (Q : KV) : Prop := match x, vs with
  | .ref a, [y] => match h a with
    | some (.lst xs) => plain y = true ∧ xs.length < sizeLine ∧ Q .non (put h a (.lst (xs ++ [y])))
    | _ => False
  | _, _ => False
/-- xs.insert(i, y), 0 ≤ i -/
def mPop (x : Val) (vs : List Val) (h : IH) (Q : KV) : Prop := match x, vs with
  | .ref a, [] => match h a with
    | some (.lst xs) => match xs[xs.length - 1]? with
      | some y => Q y (put h a (.lst xs.dropLast))
      | none => False
    | _ => False
  | _, _ => False
theorem VRs.dropLast {K : PySem.W.Frag} {mg : Str → Option Value} {H : Hp} {xs : List Val} {vs : List V} (r : VRs K mg H xs vs) : VRs K mg H xs.dropLast vs.dropLast := by
  rw [List.dropLast_eq_take, List.dropLast_eq_take, r.length]
  exact r.take _
section
variable {X : Cx} {hp : List (Addr × Obj)}
theorem k_append : MtOk X.K X.mg hp "list" mAppend rAppend := by
  intro x xs v vs h H Q' Q vx p r f k
  unfold mAppend at f
  split at f
  · rename_i a y
    split at f
    · rename_i ys e0
      cases vx.rf
      obtain ⟨u, rfl, vy⟩ := p1 p
      obtain ⟨ws, e1, q⟩ := r.lst e0
      have z := vy.vr f.1
      obtain ⟨r2, e2⟩ := r.write e0 e1 (fun _ _ e => nomatch e) (CR.lst (q.append (.cons z .nil)))
      exact ⟨_, ws, u, rfl, rfl, e1, by rw [← q.length]; exact f.2.1, k .non .non _ _ (.inl .non) r2 e2 f.2.2⟩
    · exact f.elim
  · exact f.elim
theorem k_pop : MtOk X.K X.mg hp "list" mPop rPop := by
  intro x xs v vs h H Q' Q vx p r f k
  unfold mPop at f
  split at f
  · rename_i a
    split at f
    · rename_i ys e0
      split at f
      · rename_i y ey
        cases vx.rf
        cases p
        obtain ⟨ws, e1, q⟩ := r.lst e0
        obtain ⟨u, eu, z⟩ := q.get ey
        obtain ⟨r2, e2⟩ := r.write e0 e1 (fun _ _ e => nomatch e) (CR.lst q.dropLast)
        exact ⟨_, ws, u, rfl, rfl, e1, by rw [← q.length]; exact eu, k y u _ _ (.inl (z.mono (e2.tup r))) r2 e2 f⟩
      · exact f.elim
    · exact f.elim
  · exact f.elim
end
end WS

/-! WSA: more words: a display read at once, repr. -/
namespace WS
open PySem PySem.Spec L2

/-! ### [a, b, ..][i]: the list is read once and told of by nobody -/
def eLix (a : DA) (i : DE) : DE := fun C ρ h Q E => a C ρ h (fun xs h1 => plains xs = true ∧ xs.length ≤ sizeLine ∧ i C ρ h1 (fun y h2 => match y with
  | .int k => match pyAt xs k with
    | some z => Q z h2
    | none => False
  | _ => False) E) E
section
variable {X : Cx} {hp : List (Addr × Obj)} {W : WX} {C : Calls}
theorem sub_put {h : IH} {a : Addr} {c : Cell} (n : h a = none) : Sub h (put h a c) := fun b d e => by
  rw [put_ne (fun z => by rw [z, n] at e; cases e)]
  exact e
theorem r_lix {es : List Expr} {b : Expr} {ca : DA} {cb : DE} {p0 pos : Pos} (hpx : PlainIx b) (ha : PA X es (rdA X.K X.mg hp W C ca)) (hb : PE X b (rdE X.K X.mg hp W C cb)) :
    PE X (.Subscript (.List es p0) b pos) (rdE X.K X.mg hp W C (eLix ca cb)) := by
  refine PE.weak (pe_ix ix_list (pe_lst ha) hb hpx) ?_
  rintro σ H Q ⟨ρ, h, Q', E, s, rh, q, k, xw⟩
  refine rdA.step s rh q xw fun ys vs h1 H1 vy r1 e1 s1 xw1 q1 => ?_
  obtain ⟨pl, z, q1⟩ := q1
  have vr := pair_vrs vy pl
  refine ⟨by rw [← vr.length]; exact z, fun D nD => ?_⟩
  obtain ⟨r2, e2, n'⟩ := r1.alloc nD (CR.lst vr)
  have sb : Sub h1 (put h1 D (.lst ys)) := sub_put n'
  have r3 := r2.sub sb
  have e3 := e2.sub sb
  refine rdE.step (s1.mono r1 e3) r3 q1 (xw1.mono e3) fun y v h2 H2 vy2 r4 e4 s4 xw4 q2 => ?_
  have hD : H2 D = some (.lst vs) := e4.fr D _ upd_same n'
  have e34 := e3.trans e4
  have vr2 := vr.mono (e34.tup r1)
  split at q2
  · rename_i i
    cases vy2.int
    split at q2
    · rename_i w e
      obtain ⟨u, a1, a2⟩ := pyAt_ok vr2 e
      exact ⟨D, vs, i, u, rfl, rfl, SqL.of hD, a1, k w u h2 H2 (.inl a2) r4 (e1.trans e34) q2⟩
    · exact q2.elim
  · exact q2.elim
end

/-! ### repr of data -/
def bRepr (vs : List Val) (h : IH) (Q : KV) : Prop := match vs with
  | [x] => match dat h 8 x with
    | some d => d.showable = true ∧ d.shown.length ≤ sizeLine ∧ Q (.str d.shown) h
    | none => False
  | _ => False
def rRepr (K : PySem.W.Frag) : List V → Hp → VK → Prop := fun xs H Q => ∃ v d, xs = [v] ∧ Dp K H v d ∧ d.showable = true ∧ d.hasDict = false ∧ d.depth ≤ 8 ∧ d.shown.length ≤ sizeLine ∧ Q (.str d.shown) H
section
variable {X : Cx} {hp : List (Addr × Obj)}
theorem cr_repr (gd : X.A.guards = some []) (hu : X.A.units + 66 < cLine) : CallR X (.builtin "repr") (rRepr X.K) := by
  intro pins s σ H xs us Q I r h
  obtain ⟨v, d, rfl, dp, sh, nd, dl, sz, q⟩ := h
  obtain ⟨u, rfl, ru⟩ := vals1 r
  obtain ⟨as, rd⟩ := Dp.reads I d v u dp ru
  cases dp with
  | non =>
    cases ru
    exact PySem.P.repr_of_none ⟨.str _, H, I.tok _, ⟨_, rfl⟩, q⟩
  | bl b =>
    cases ru
    exact PySem.P.repr_of_bool ⟨.str _, H, I.tok _, ⟨_, rfl⟩, q⟩
  | int i =>
    obtain ⟨t, rfl⟩ := ru
    exact PySem.P.repr_of_int (by simpa [PyData.showable] using sh) ⟨.str _, H, I.tok _, ⟨_, rfl⟩, q⟩
  | str x =>
    obtain ⟨t, rfl⟩ := ru
    exact PySem.P.repr_of_str (h := ⟨.str _, H, I.tok _, ⟨_, rfl⟩, q⟩) (hsz := by simpa [PyData.shown] using sz)
  | lst a b =>
    cases ru
    exact repr_of_reads' rd sh (PyData.noDict_hsm nd) gd (by omega) (fun _ _ e => e) (fun h' u tk keep => ⟨.str _, H, I.kept keep, ⟨_, rfl⟩, q⟩) sz
  | tup a b =>
    cases ru
    exact repr_of_reads' rd sh (PyData.noDict_hsm nd) gd (by omega) (fun _ _ e => e) (fun h' u tk keep => ⟨.str _, H, I.kept keep, ⟨_, rfl⟩, q⟩) sz
theorem k_repr : BiOk X.K X.mg hp bRepr (rRepr X.K) := by
  intro xs vs h H Q' Q vx r f k
  unfold bRepr at f
  split at f
  · rename_i x
    split at f
    · rename_i d e
      obtain ⟨v, rfl, v1⟩ := p1 vx
      obtain ⟨c1, c2⟩ := dat_ok h 8 x d e
      exact ⟨v, d, rfl, dat_dp r _ _ _ _ (v1.vr (dat_plain e)) e, f.1, PyData.hasDict_of_canLay d c1, c2, f.2.1, k.now r (.str _) f.2.2⟩
    · exact f.elim
  · exact f.elim
end

/-! ### str of a number, of a text -/
def bStr (vs : List Val) (h : IH) (Q : KV) : Prop := match vs with
  | [.int i] => i.natAbs.log2 < 1920 ∧ Q (.str (toString i)) h
  | [.str s] => Q (.str s) h
  | _ => False
def rStrC : List V → Hp → VK → Prop := fun xs H Q => (∃ i, xs = [.int i] ∧ i.natAbs.log2 < 1920 ∧ Q (.str (toString i)) H) ∨ ∃ a, xs = [.str a] ∧ Q (.str a) H
section
variable {X : Cx} {hp : List (Addr × Obj)}
theorem cr_str : CallR X (.type "str") rStrC := by
  intro pins s σ H xs us Q I r h
  rcases h with ⟨i, rfl, hz, q⟩ | ⟨a, rfl, q⟩
  · obtain ⟨u, rfl, t, rfl⟩ := vals1 r
    exact PySem.P.str_of_int hz ⟨.str _, H, I.tok _, ⟨_, rfl⟩, q⟩
  · obtain ⟨u, rfl, t, rfl⟩ := vals1 r
    exact PySem.P.str_of_str ⟨.str a, H, I, ⟨t, rfl⟩, q⟩
theorem k_str : BiOk X.K X.mg hp bStr rStrC := by
  intro xs vs h H Q' Q vx r f k
  unfold bStr at f
  split at f
  · obtain ⟨v, rfl, v1⟩ := p1 vx
    cases v1.int
    exact .inl ⟨_, rfl, f.1, k.now r (.str _) f.2⟩
  · obtain ⟨v, rfl, v1⟩ := p1 vx
    cases v1.str
    exact .inr ⟨_, rfl, k.now r (.str _) f⟩
  · exact f.elim
end
end WS

/-! WS4: targets, statements, loops, comprehensions, calls of defs, exceptions. -/
namespace WS
open PySem PySem.Spec L2

/-! ### targets -/
abbrev DG := Calls → Val → Rho → IH → (Rho → IH → Prop) → XC → Prop
abbrev DGs := Calls → List Val → Rho → IH → (Rho → IH → Prop) → XC → Prop
def gN (i : Nat) : DG := fun _ x ρ h Q _ => Q (ρ.set i (some x)) h
def gsNil : DGs := fun _ xs ρ h Q _ => match xs with
  | [] => Q ρ h
  | _ => False
def gsCons (g : DG) (r : DGs) : DGs := fun C xs ρ h Q E => match xs with
  | x :: xs => g C x ρ h (fun ρ1 h1 => r C xs ρ1 h1 Q E) E
  | _ => False
def gT (n : Nat) (r : DGs) : DG := fun C x ρ h Q E => match x with
  | .tup xs => xs.length = n ∧ r C xs ρ h Q E
  | .ref a => match h.seq a with
    | some xs => xs.length = n ∧ r C xs ρ h Q E
    | none => False
  | _ => False
/-- xs[i] = v -/
def vSet (o i v : Val) (h : IH) (Q : IH → Prop) : Prop := match o, i with
  | .ref a, .int k => match h a with
    | some (.lst xs) => plain v = true ∧ ((0 ≤ k ∧ k < xs.length ∧ Q (put h a (.lst (xs.set k.toNat v)))) ∨ (k < 0 ∧ -(xs.length : Int) ≤ k ∧ Q (put h a (.lst (xs.set (k + xs.length).toNat v)))))
    | _ => False
  | _, _ => False
def gIx (o i : DE) : DG := fun C v ρ h Q E => o C ρ h (fun x h1 => i C ρ h1 (fun y h2 => vSet x y v h2 (fun h3 => Q ρ h3)) E) E

/-! ### statements -/
def sPass : DS := fun _ D ρ h => D.nx ρ h
def sBreak : DS := fun _ D ρ h => D.bk ρ h
def sCont : DS := fun _ D ρ h => D.ct ρ h
def sSeq (a b : DS) : DS := fun C D ρ h => a C { D with nx := fun ρ1 h1 => b C D ρ1 h1 } ρ h
def sExpr (e : DE) : DS := fun C D ρ h => e C ρ h (fun _ h1 => D.nx ρ h1) (D.ex ρ)
def sRet (e : DE) : DS := fun C D ρ h => e C ρ h D.rt (D.ex ρ)
def sRetN : DS := fun _ D _ h => D.rt .non h
def sIf (t : DT) (a b : DS) : DS := fun C D ρ h => t C ρ h (fun k h1 => match k with
  | true => a C D ρ h1
  | false => b C D ρ h1) (D.ex ρ)
def sSet (i : Nat) (e : DE) : DS := fun C D ρ h => e C ρ h (fun x h1 => D.nx (ρ.set i (some x)) h1) (D.ex ρ)
def noX : XC := fun _ _ => False
def sAsg (g : DG) (e : DE) : DS := fun C D ρ h => e C ρ h (fun x h1 => g C x ρ h1 D.nx noX) (D.ex ρ)
def sPar (i j : Nat) (a : DA) : DS := fun C D ρ h => a C ρ h (fun xs h1 => match xs with
  | [x, y] => D.nx ((ρ.set i (some x)).set j (some y)) h1
  | _ => False) (D.ex ρ)
def sPar3 (i j l : Nat) (a : DA) : DS := fun C D ρ h => a C ρ h (fun xs h1 => match xs with
  | [x, y, z] => D.nx (((ρ.set i (some x)).set j (some y)).set l (some z)) h1
  | _ => False) (D.ex ρ)
def wlN (C : Calls) (t : DT) (b : DS) (D : SEnds) : Nat → Rho → IH → Prop
  | 0, _, _ => False
  | n + 1, ρ', h' => ∃ ρ h, SubR ρ ρ' ∧ Sub h h' ∧ t C ρ h (fun k h1 => match k with
    | true => b C { D with nx := wlN C t b D n, ct := wlN C t b D n, bk := D.nx } ρ h1
    | false => D.nx ρ h1) (D.ex ρ)
def sWhile (t : DT) (b : DS) : DS := fun C D ρ h => ∃ n, wlN C t b D n ρ h
/-- what a loop walks: the items, what must stand at each turn -/
structure Wk where
  its : List Val
  keep : IH → Prop
abbrev DI := Calls → Rho → IH → (Wk → IH → Prop) → XC → Prop
def lpF (C : Calls) (keep : IH → Prop) (g : DG) (b : DS) (D : SEnds) : List Val → Rho → IH → Prop
  | [], ρ', h' => ∃ ρ h, SubR ρ ρ' ∧ Sub h h' ∧ keep h ∧ D.nx ρ h
  | x :: xs, ρ', h' => ∃ ρ h, SubR ρ ρ' ∧ Sub h h' ∧ keep h ∧ g C x ρ h (fun ρ1 h1 => b C { D with nx := lpF C keep g b D xs, ct := lpF C keep g b D xs, bk := D.nx } ρ1 h1) noX
def sFor (it : DI) (g : DG) (b : DS) : DS := fun C D ρ h => it C ρ h (fun w h1 => lpF C w.keep g b D w.its ρ h1) (D.ex ρ)
def lpC (C : Calls) (keep : IH → Prop) (g : DG) (t : DT) (e : DE) (ρ : Rho) (Q : List Val → IH → Prop) : List Val → List Val → IH → Prop
  | [], acc, h' => ∃ h, Sub h h' ∧ keep h ∧ Q acc h
  | x :: xs, acc, h' => ∃ h, Sub h h' ∧ keep h ∧ g C x ρ h (fun ρ2 h2 => t C ρ2 h2 (fun b h3 => match b with
    | true => e C ρ2 h3 (fun y h4 => plain y = true ∧ acc.length < sizeLine ∧ lpC C keep g t e ρ Q xs (acc ++ [y]) h4) noX
    | false => lpC C keep g t e ρ Q xs acc h3) noX) noX
def plainR : Rho → Bool
  | [] => true
  | none :: r => plainR r
  | some x :: r => plain x && plainR r
def eLc (it : DI) (g : DG) (t : DT) (e : DE) (vs : List Nat) : DE := fun C ρ h Q E => it C ρ h (fun w h1 => plainR (wipeR ρ vs) = true ∧ lpC C w.keep g t e (wipeR ρ vs) (fun acc h2 => ∀ p, h2 p = none → Q (.ref p) (put h2 p (.lst acc))) w.its [] h1) E
def tYes' : DT := fun _ _ h Q _ => Q true h
def lstK (a : Addr) (xs : List Val) : IH → Prop := fun h => h.seq a = some xs
/-- a list or a tuple -/
def iSeq (e : DE) : DI := fun C ρ h R E => e C ρ h (fun x h1 => match x with
  | .tup xs => R ⟨xs, fun _ => True⟩ h1
  | .ref a => match h1.seq a with
    | some xs => R ⟨xs, lstK a xs⟩ h1
    | none => False
  | .str s => R ⟨s.cps.toList.map fun c => Val.str ⟨#[c]⟩, fun _ => True⟩ h1
  | _ => False) E
def upTo (lo : Int) (n : Nat) : List Val := (List.range n).map fun (k : Nat) => Val.int (lo + k)
def iRng1' (a : DA) : DI := fun C ρ h R E => a C ρ h (fun xs h1 => match xs with
  | [.int j] => j < 2 ^ 62 ∧ -(2 ^ 62) ≤ j ∧ R ⟨upTo 0 j.toNat, fun _ => True⟩ h1
  | _ => False) E
def iRng2' (a : DA) : DI := fun C ρ h R E => a C ρ h (fun xs h1 => match xs with
  | [.int i, .int j] => (-(2 ^ 62) ≤ i ∧ i < 2 ^ 62 ∧ -(2 ^ 62) ≤ j ∧ j < 2 ^ 62) ∧ R ⟨upTo i (j - i).toNat, fun _ => True⟩ h1
  | _ => False) E

/-! ### rules: targets -/
section
variable {X : Cx} {hp : List (Addr × Obj)} {W : WX} {C : Calls}
/-- but for the slots gs nothing is stored -/
def OnlyAt (gs : List Nat) (σ σ' : L2.St) : Prop := σ'.length = σ.length ∧ ∀ j, j ∉ gs → σ'[j]? = σ[j]?
theorem OnlyAt.refl {gs : List Nat} {σ : L2.St} : OnlyAt gs σ σ := ⟨rfl, fun _ _ => rfl⟩
theorem OnlyAt.trans {gs : List Nat} {σ σ1 σ2 : L2.St} (a : OnlyAt gs σ σ1) (b : OnlyAt gs σ1 σ2) : OnlyAt gs σ σ2 := ⟨b.1.trans a.1, fun j h => (b.2 j h).trans (a.2 j h)⟩
theorem OnlyAt.mono {gs gs' : List Nat} {σ σ' : L2.St} (a : OnlyAt gs σ σ') (h : ∀ j ∈ gs, j ∈ gs') : OnlyAt gs' σ σ' := ⟨a.1, fun j n => a.2 j fun z => n (h j z)⟩
theorem wipe_get {vs : List Nat} {σ : L2.St} {j : Nat} (h : j ∈ vs) (hl : j < σ.length) : (L2.wipe σ vs)[j]? = some none := by
  induction vs with
  | nil => cases h
  | cons v vs ih =>
    show ((L2.wipe σ vs).set v none)[j]? = some none
    by_cases e : v = j
    · subst e
      rw [List.getElem?_set_self (by rw [L2.wipe_length]; exact hl)]
    · rw [List.getElem?_set_ne e]
      exact ih ((List.mem_cons.mp h).resolve_left fun z => e z.symm)
theorem wipe_eq {vs : List Nat} {σ σ' : L2.St} (a : OnlyAt vs σ σ') : L2.wipe σ' vs = L2.wipe σ vs := by
  refine List.ext_getElem? fun j => ?_
  by_cases h : j ∈ vs
  · by_cases hl : j < σ.length
    · rw [wipe_get h hl, wipe_get h (by rw [a.1]; exact hl)]
    · rw [List.getElem?_eq_none_iff.mpr (by rw [L2.wipe_length, a.1]; omega), List.getElem?_eq_none_iff.mpr (by rw [L2.wipe_length]; omega)]
  · rw [L2.wipe_out h, L2.wipe_out h]
    exact a.2 j h
theorem PG.weak {tg : Expr} {t t' : TG} (p : PG X tg t) (h : ∀ v σ H Q, t' v σ H Q → t v σ H Q) : PG X tg t' := ⟨fun pins s σ H v u Q I r q => p.run pins s σ H v u Q I r (h v σ H Q q)⟩
theorem PGs.weak {tg : List Expr} {t t' : TGs} (p : PGs X tg t) (h : ∀ v σ H Q, t' v σ H Q → t v σ H Q) : PGs X tg t' := ⟨fun pins s σ H v u Q I r q => p.run pins s σ H v u Q I r (h v σ H Q q)⟩
theorem PG.or {tg : Expr} {t t' : TG} (p : PG X tg t) (p' : PG X tg t') : PG X tg (fun v σ H Q => t v σ H Q ∨ t' v σ H Q) := ⟨fun pins s σ H v u Q I r q => q.elim (p.run pins s σ H v u Q I r) (p'.run pins s σ H v u Q I r)⟩
def GW (K : PySem.W.Frag) (mg : Str → Option Value) (hp : List (Addr × Obj)) (gs : List Nat) (h : IH) (H : Hp) (σ : L2.St) (Q' : Rho → IH → Prop) (Q : L2.St → Hp → Prop) : Prop := ∀ ρ' σ' h' H', SR K mg hp H' ρ' σ' → RH K mg h' H' → Ext h H h' H' → OnlyAt gs σ σ' → Q' ρ' h' → Q σ' H'
def rdG (K : PySem.W.Frag) (mg : Str → Option Value) (hp : List (Addr × Obj)) (W : WX) (C : Calls) (gs : List Nat) (c : DG) : TG := fun v σ H Q => ∃ ρ h x Q' E', SR K mg hp H ρ σ ∧ RH K mg h H ∧ VX K mg hp H x v ∧ c C x ρ h Q' E' ∧ GW K mg hp gs h H σ Q' Q ∧ (∀ σ', OnlyAt gs σ σ' → XW K mg W h H σ' E')
def rdGs (K : PySem.W.Frag) (mg : Str → Option Value) (hp : List (Addr × Obj)) (W : WX) (C : Calls) (gs : List Nat) (c : DGs) : TGs := fun vs σ H Q => ∃ ρ h xs Q' E', SR K mg hp H ρ σ ∧ RH K mg h H ∧ VRs K mg H xs vs ∧ c C xs ρ h Q' E' ∧ GW K mg hp gs h H σ Q' Q ∧ (∀ σ', OnlyAt gs σ σ' → XW K mg W h H σ' E')
theorem only_set {i : Nat} {gs : List Nat} (hi : i ∈ gs) {σ : L2.St} {v : Option V} : OnlyAt gs σ (σ.set i v) := ⟨List.length_set .., fun j h => List.getElem?_set_ne (fun e => h (by rw [← e]; exact hi))⟩
theorem q_name {i : Nat} {x : Str} {pos : Pos} {gs : List Nat} (hg : i ∈ gs) (hN : X.N.Nodup) (hi : X.N[i]? = some x) (hx : Loc X.env.scope x) (hf : X.fn x = true ∨ X.env.scope.names.lookup x = some .local) : PG X (.Name x pos) (rdG X.K X.mg hp W C gs (gN i)) := by
  refine PG.weak (pg_name hN hi hx hf) ?_
  rintro v σ H Q ⟨ρ, h, y, Q', E', s, r, vx, q, k, xw⟩
  exact k _ _ h H (s.set vx) r .refl (only_set hg) q
theorem qs_nil {gs : List Nat} : PGs X [] (rdGs X.K X.mg hp W C gs gsNil) := by
  refine PGs.weak pgs_nil ?_
  rintro v σ H Q ⟨ρ, h, y, Q', E', s, r, vx, q, k, xw⟩
  cases vx with
  | nil => exact ⟨rfl, k ρ σ h H s r .refl .refl q⟩
  | cons _ _ => exact q.elim
theorem qs_cons {e : Expr} {es : List Expr} {gs : List Nat} {g : DG} {r : DGs} (h1 : PG X e (rdG X.K X.mg hp W C gs g)) (h2 : PGs X es (rdGs X.K X.mg hp W C gs r)) (hs : (assignEach (e :: es) X.env).map (·.2) = assign e X.env :: (assignEach es X.env).map (·.2)) :
    PGs X (e :: es) (rdGs X.K X.mg hp W C gs (gsCons g r)) := by
  refine PGs.weak (pgs_cons h1 h2 hs) ?_
  rintro v σ H Q ⟨ρ, h, y, Q', E', s, rh, vx, q, k, xw⟩
  cases vx with
  | nil => exact q.elim
  | cons a b =>
    refine ⟨_, _, rfl, ρ, h, _, _, E', s, rh, .inl a, q, fun ρ1 σ1 h3 H3 s3 r3 e3 o3 q3 => ?_, xw⟩
    exact ⟨ρ1, h3, _, Q', E', s3, r3, b.mono (e3.tup rh), q3, fun ρ2 σ2 h4 H4 s4 r4 e4 o4 q4 => k ρ2 σ2 h4 H4 s4 r4 (e3.trans e4) (o3.trans o4) q4, fun σ' o' => (xw σ' (o3.trans o')).mono e3⟩
theorem q_tup {es : List Expr} {m n : Nat} {pos : Pos} {gs : List Nat} {r : DGs} (hc : X.calm = true) (h : PGs X es (rdGs X.K X.mg hp W C gs r)) (hn : (assignEach es X.env).length = n) (hst : (assignEach es X.env).findIdx? (·.1) = none) : PG X (.Tuple es m pos) (rdG X.K X.mg hp W C gs (gT n r)) := by
  refine PG.weak (PG.or (pg_tup hc h hn hst) (pg_lst hc h hn hst)) ?_
  rintro v σ H Q ⟨ρ, h, y, Q', E', s, rh, vx, q, k, xw⟩
  unfold gT at q
  split at q
  · obtain ⟨a, vs, rfl, t, p⟩ := vx.tp
    exact .inl ⟨a, vs, rfl, t, p.length.symm.trans q.1, ρ, h, _, Q', E', s, rh, p, q.2, k, xw⟩
  · split at q
    · rename_i xs e
      cases vx.rf
      obtain ⟨vs, t, p⟩ := rh.seq e
      exact .inr ⟨_, vs, rfl, t, p.length.symm.trans q.1, ρ, h, _, Q', E', s, rh, p, q.2, k, xw⟩
    · exact q.elim
  · exact q.elim
theorem q_ix {o i : Expr} {co ci : DE} {pos : Pos} {gs : List Nat} (ho : PE X o (rdE X.K X.mg hp W C co)) (hi : PE X i (rdE X.K X.mg hp W C ci)) (ha : ∀ v, assign (.Subscript o i pos) X.env v = (do
      let ov ← holding [v] (eval o X.env)
      let iv ← holding [v, ov] (eval i X.env)
      standAt pos
      holding [v, ov, iv] (setItem ov iv v)
      release [v, ov, iv] [])) : PG X (.Subscript o i pos) (rdG X.K X.mg hp W C gs (gIx co ci)) := by
  refine PG.weak (pg_sub ho hi set_list ha) ?_
  rintro v σ H Q ⟨ρ, h, y, Q', E', s, rh, vx, q, k, xw⟩
  refine rdE.step s rh q (xw σ .refl) fun ov v1 h1 H1 vo r1 e1 s1 xw1 q1 => ?_
  refine rdE.step s1 r1 q1 xw1 fun iv v2 h2 H2 vi r2 e2 s2 xw2 q2 => ?_
  unfold vSet at q2
  split at q2
  · split at q2
    · rename_i xs hx
      cases (vo.mono r1 e2).rf
      cases vi.int
      obtain ⟨p, q2⟩ := q2
      have vr := ((vx.mono rh e1).mono r1 e2).vr p
      obtain ⟨ws, e3, t3⟩ := r2.lst hx
      rcases q2 with ⟨a0, a1, q2⟩ | ⟨a0, a1, q2⟩
      · obtain ⟨r4, e4⟩ := r2.write hx e3 (fun _ _ e => nomatch e) (CR.lst (t3.set vr _))
        refine ⟨_, ws, _, _, rfl, rfl, e3, ?_, k ρ σ _ _ (s2.mono r2 e4) r4 ((e1.trans e2).trans e4) .refl q2⟩
        unfold ixN
        rw [if_pos a0, if_pos (by rw [← t3.length]; exact a1)]
      · obtain ⟨r4, e4⟩ := r2.write hx e3 (fun _ _ e => nomatch e) (CR.lst (t3.set vr _))
        refine ⟨_, ws, _, _, rfl, rfl, e3, ?_, k ρ σ _ _ (s2.mono r2 e4) r4 ((e1.trans e2).trans e4) .refl q2⟩
        unfold ixN
        rw [if_neg (by omega), if_pos (by rw [← t3.length]; exact a1), ← t3.length]
    · exact q2.elim
  · exact q2.elim

/-! ### rules: what is walked -/
/-- J walks w's items -/
def WkOk (K : PySem.W.Frag) (mg : Str → Option Value) (J : It) (w : Wk) (h0 : IH) (H0 : Hp) : Prop := ∀ i h H, RH K mg h H → Ext h0 H0 h H → w.keep h →
  (∀ x, w.its[i]? = some x → J.go i H ∧ ∀ v H', J.yld i H v H' → RH K mg h H' ∧ Ext h H h H' ∧ VR K mg H' x v) ∧ (w.its.length ≤ i → J.stop i H)
def rdI (K : PySem.W.Frag) (mg : Str → Option Value) (hp : List (Addr × Obj)) (W : WX) (C : Calls) (c : DI) : TI := fun σ H R => ∃ ρ h Q' E', SR K mg hp H ρ σ ∧ RH K mg h H ∧ c C ρ h Q' E' ∧ (∀ w J h' H', WkOk K mg J w h' H' → RH K mg h' H' → Ext h H h' H' → Q' w h' → R J H') ∧ XW K mg W h H σ E'
theorem PI.weak {tg iter : Expr} {t t' : TI} (p : PI X tg iter t) (h : ∀ σ H R, t' σ H R → t σ H R) : PI X tg iter t' := ⟨fun pins s σ H R I q => p.run pins s σ H R I (h σ H R q)⟩

/-! ### rules: statements -/
/-- what the ends of a block want -/
def DW (K : PySem.W.Frag) (mg : Str → Option Value) (hp : List (Addr × Obj)) (W : WX) (h : IH) (H : Hp) (D' : SEnds) (D : Ends) : Prop :=
  (∀ ρ' σ' h' H', SR K mg hp H' ρ' σ' → RH K mg h' H' → Ext h H h' H' → (D'.nx ρ' h' → D.nx σ' H') ∧ (D'.bk ρ' h' → D.bk σ' H') ∧ (D'.ct ρ' h' → D.ct σ' H')) ∧
  (∀ y v h' H', VX K mg hp H' y v → RH K mg h' H' → Ext h H h' H' → D'.rt y h' → D.rt v H') ∧
  (∀ ρ' σ' e h' H' cls d, SR K mg hp H' ρ' σ' → ER K mg H' e cls d → RH K mg h' H' → Ext h H h' H' → D'.ex ρ' e h' → W cls d σ' H')
theorem DW.mono {h h1 : IH} {H H1 : Hp} {D' : SEnds} {D : Ends} (k : DW X.K X.mg hp W h H D' D) (e : Ext h H h1 H1) : DW X.K X.mg hp W h1 H1 D' D :=
  ⟨fun ρ σ h' H' s r z => k.1 ρ σ h' H' s r (e.trans z), fun y v h' H' a r z => k.2.1 y v h' H' a r (e.trans z), fun ρ σ x h' H' c d s a r z => k.2.2 ρ σ x h' H' c d s a r (e.trans z)⟩
theorem DW.xw {h : IH} {H : Hp} {D' : SEnds} {D : Ends} (k : DW X.K X.mg hp W h H D' D) {ρ : Rho} {σ : L2.St} (r : RH X.K X.mg h H) (s : SR X.K X.mg hp H ρ σ) : XW X.K X.mg W h H σ (D'.ex ρ) := fun e h' H' cls d a r' z q => k.2.2 ρ σ e h' H' cls d (s.mono r z) a r' z q
theorem rdS_mk {c : DS} {D : Ends} {σ : L2.St} {H : Hp} {ρ : Rho} {h : IH} {D' : SEnds} (s : SR X.K X.mg hp H ρ σ) (r : RH X.K X.mg h H) (q : c C D' ρ h) (k : DW X.K X.mg hp W h H D' D) : rdS X.K X.mg hp W C c D σ H := ⟨ρ, h, D', s, r, q, k⟩
theorem r_pass {pos : Pos} : PS X (.Pass pos) (rdS X.K X.mg hp W C sPass) := by
  refine PS.weak ps_pass ?_
  rintro D σ H ⟨ρ, h, D', s, r, q, k⟩
  exact (k.1 ρ σ h H s r .refl).1 q
theorem r_break {pos : Pos} : PS X (.Break pos) (rdS X.K X.mg hp W C sBreak) := by
  refine PS.weak ps_break ?_
  rintro D σ H ⟨ρ, h, D', s, r, q, k⟩
  exact (k.1 ρ σ h H s r .refl).2.1 q
theorem r_cont {pos : Pos} : PS X (.Continue pos) (rdS X.K X.mg hp W C sCont) := by
  refine PS.weak ps_continue ?_
  rintro D σ H ⟨ρ, h, D', s, r, q, k⟩
  exact (k.1 ρ σ h H s r .refl).2.2 q
theorem rs_nil : PSs X [] (rdS X.K X.mg hp W C sPass) := by
  refine PSs.weak pss_nil ?_
  rintro D σ H ⟨ρ, h, D', s, r, q, k⟩
  exact (k.1 ρ σ h H s r .refl).1 q
theorem rs_one {st : Stmt} {c : DS} (h : PS X st (rdS X.K X.mg hp W C c)) : PSs X [st] (rdS X.K X.mg hp W C c) := pss_one h
theorem rs_cons {st : Stmt} {sts : List Stmt} {c d : DS} (h1 : PS X st (rdS X.K X.mg hp W C c)) (h2 : PSs X sts (rdS X.K X.mg hp W C d)) : PSs X (st :: sts) (rdS X.K X.mg hp W C (sSeq c d)) := by
  refine PSs.weak (pss_cons h1 h2) ?_
  rintro D σ H ⟨ρ, h, D', s, r, q, k⟩
  refine ⟨ρ, h, _, s, r, q, fun ρ1 σ1 h1 H1 s1 r1 e1 => ⟨fun q1 => ⟨ρ1, h1, D', s1, r1, q1, DW.mono k e1⟩, (k.1 ρ1 σ1 h1 H1 s1 r1 e1).2⟩, k.2⟩
theorem r_expr {e : Expr} {c : DE} {pos : Pos} (he : PE X e (rdE X.K X.mg hp W C c)) (hs : swapsWith e none pos.line X.env = pure false) : PS X (.Expr e pos) (rdS X.K X.mg hp W C (sExpr c)) := by
  refine PS.weak (ps_expr he hs) ?_
  rintro D σ H ⟨ρ, h, D', s, r, q, k⟩
  exact rdE.step s r q (DW.xw k r s) fun y v h1 H1 vy r1 e1 s1 xw1 q1 => (k.1 ρ σ h1 H1 s1 r1 e1).1 q1
theorem r_ret {e : Expr} {c : DE} {pos : Pos} (he : PE X e (rdE X.K X.mg hp W C c)) : PS X (.Return (some e) pos) (rdS X.K X.mg hp W C (sRet c)) := by
  refine PS.weak (ps_ret he) ?_
  rintro D σ H ⟨ρ, h, D', s, r, q, k⟩
  exact rdE.step s r q (DW.xw k r s) fun y v h1 H1 vy r1 e1 s1 xw1 q1 => k.2.1 y v h1 H1 vy r1 e1 q1
theorem r_retN {pos : Pos} : PS X (.Return none pos) (rdS X.K X.mg hp W C sRetN) := by
  refine PS.weak ps_retN ?_
  rintro D σ H ⟨ρ, h, D', s, r, q, k⟩
  exact k.2.1 .non .non h H (.inl .non) r .refl q
theorem r_ifS {t : Expr} {a b : List Stmt} {ct : DT} {ca cb : DS} {pos : Pos} (ht : PT X t (rdT X.K X.mg hp W C ct)) (ha : PSs X a (rdS X.K X.mg hp W C ca)) (hb : PSs X b (rdS X.K X.mg hp W C cb)) : PS X (.If t a b pos) (rdS X.K X.mg hp W C (sIf ct ca cb)) := by
  refine PS.weak (ps_if ht ha hb) ?_
  rintro D σ H ⟨ρ, h, D', s, r, q, k⟩
  refine rdT.step s r q (DW.xw k r s) fun b h1 H1 r1 e1 s1 xw1 q1 => ?_
  cases b with
  | true => rw [if_pos rfl]; exact ⟨ρ, h1, D', s1, r1, q1, DW.mono k e1⟩
  | false => rw [if_neg Bool.false_ne_true]; exact ⟨ρ, h1, D', s1, r1, q1, DW.mono k e1⟩
theorem r_set {i : Nat} {x : Str} {e : Expr} {c : DE} {pos pos' : Pos} (hN : X.N.Nodup) (hi : X.N[i]? = some x) (hx : Loc X.env.scope x) (hf : X.fn x = true ∨ X.env.scope.names.lookup x = some .local) (hs : swapsWith e (some (.Name x pos')) pos.line X.env = pure false) (he : PE X e (rdE X.K X.mg hp W C c)) :
    PS X (.Assign [.Name x pos'] e pos) (rdS X.K X.mg hp W C (sSet i c)) := by
  refine PS.weak (ps_set hN hi hx he hs hf) ?_
  rintro D σ H ⟨ρ, h, D', s, r, q, k⟩
  exact rdE.step s r q (DW.xw k r s) fun y v h1 H1 vy r1 e1 s1 xw1 q1 => (k.1 _ _ h1 H1 (s1.set vy) r1 e1).1 q1
theorem r_asg {tg e : Expr} {c : DE} {g : DG} {gs : List Nat} {pos : Pos} (he : PE X e (rdE X.K X.mg hp W C c)) (hg : PG X tg (rdG X.K X.mg hp W C gs g)) (hs : swapsWithSole [tg] e pos.line X.env = pure false) (hw : swappedStores [tg] e X.env = pure none) (h1 : (assignEach [tg] X.env).map (·.2) = [assign tg X.env]) : PS X (.Assign [tg] e pos) (rdS X.K X.mg hp W C (sAsg g c)) := by
  refine PS.weak (ps_asg he hg hs hw h1) ?_
  rintro D σ H ⟨ρ, h, D', s, r, q, k⟩
  refine rdE.step s r q (DW.xw k r s) fun y v h1 H1 vy r1 e1 s1 xw1 q1 => ?_
  exact ⟨ρ, h1, y, _, _, s1, r1, vy, q1, fun ρ2 σ2 h2 H2 s2 r2 e2 _ q2 => (k.1 ρ2 σ2 h2 H2 s2 r2 (e1.trans e2)).1 q2, fun σ' o e h2 H2 cls d a r2 z q2 => q2.elim⟩
theorem r_while {t : Expr} {body : List Stmt} {ct : DT} {cb : DS} {pos : Pos} (hpo : PassesOwn (model X.prog X.w) X.A X.env X.xe) (ht : PT X t (rdT X.K X.mg hp W C ct)) (hb : PSs X body (rdS X.K X.mg hp W C cb)) : PS X (.While t body [] pos) (rdS X.K X.mg hp W C (sWhile ct cb)) := by
  refine PS.weak (ps_while hpo ht hb) ?_
  rintro D σ H ⟨ρ, h, D', s, r, ⟨n, q⟩, k⟩
  refine ⟨fun m σ1 H1 => ∃ ρ1 h1, SR X.K X.mg hp H1 ρ1 σ1 ∧ RH X.K X.mg h1 H1 ∧ Ext h H h1 H1 ∧ wlN C ct cb D' m ρ1 h1, ⟨n, ρ, h, s, r, .refl, q⟩, ?_⟩
  rintro m σ1 H1 ⟨ρ1, h1, s1, r1, e1, q1⟩
  cases m with
  | zero => exact q1.elim
  | succ m =>
    obtain ⟨ρ0, h0, sb, sh, q1⟩ := q1
    replace s1 := s1.sub sb
    replace r1 := r1.sub sh
    replace e1 := e1.sub sh
    clear sb sh ρ1 h1
    revert s1 r1 e1 q1
    revert ρ0 h0
    intro ρ1 h1 q1 s1 r1 e1
    refine rdT.step s1 r1 q1 ((DW.mono k e1).xw r1 s1) fun b h2 H2 r2 e2 s2 xw2 q2 => ?_
    cases b with
    | true =>
      rw [if_pos rfl]
      refine ⟨fun σ' H' => ∃ ρ1 h1, SR X.K X.mg hp H' ρ1 σ' ∧ RH X.K X.mg h1 H' ∧ Ext h H h1 H' ∧ wlN C ct cb D' m ρ1 h1, fun σ' H' z => ⟨m, Nat.lt_succ_self m, z⟩, ?_⟩
      refine ⟨ρ1, h2, _, s2, r2, q2, fun ρ3 σ3 h3 H3 s3 r3 e3 => ?_, (DW.mono k (e1.trans e2)).2⟩
      have e := (e1.trans e2).trans e3
      exact ⟨fun z => ⟨ρ3, h3, s3, r3, e, z⟩, fun z => (k.1 ρ3 σ3 h3 H3 s3 r3 e).1 z, fun z => ⟨ρ3, h3, s3, r3, e, z⟩⟩
    | false =>
      rw [if_neg Bool.false_ne_true]
      exact (k.1 ρ1 σ1 h2 H2 s2 r2 (e1.trans e2)).1 q2
theorem r_for {tg iter : Expr} {body : List Stmt} {ci : DI} {g : DG} {gs : List Nat} {cb : DS} {pos : Pos} (hpo : PassesOwn (model X.prog X.w) X.A X.env X.xe) (hc : X.calm = true) (hs : ∀ x, foldedSetIterable iter X.env x = pure x)
    (hi : PI X tg iter (rdI X.K X.mg hp W C ci)) (hg : PG X tg (rdG X.K X.mg hp W C gs g)) (hb : PSs X body (rdS X.K X.mg hp W C cb)) : PS X (.For tg iter body [] pos) (rdS X.K X.mg hp W C (sFor ci g cb)) := by
  refine PS.weak (ps_for hpo hc hi hg hb hs) ?_
  rintro D σ H ⟨ρ, h, D', s, r, q, k⟩
  refine ⟨ρ, h, _, _, s, r, q, fun w J h1 H1 wk r1 e1 q1 => ?_, DW.xw k r s⟩
  refine ⟨fun i m σ2 H2 => ∃ ρ2 h2, SR X.K X.mg hp H2 ρ2 σ2 ∧ RH X.K X.mg h2 H2 ∧ Ext h1 H1 h2 H2 ∧ m + i = w.its.length ∧ lpF C w.keep g cb D' (w.its.drop i) ρ2 h2, ⟨w.its.length, ρ, h1, s.mono r e1, r1, .refl, rfl, q1⟩, ?_⟩
  rintro i m σ2 H2 ⟨ρ2, h2, s2, r2, e2, hm, q2⟩
  cases hx : w.its[i]? with
  | none =>
    have hl : w.its.length ≤ i := List.getElem?_eq_none_iff.mp hx
    rw [List.drop_eq_nil_of_le hl] at q2
    obtain ⟨ρ0, h0, sb, sh, q2⟩ := q2
    exact .inl ⟨(wk i h0 H2 (r2.sub sh) (e2.sub sh) q2.1).2 hl, (k.1 ρ0 σ2 h0 H2 (s2.sub sb) (r2.sub sh) ((e1.trans e2).sub sh)).1 q2.2⟩
  | some x =>
    have hl : i < w.its.length := (List.getElem?_eq_some_iff.mp hx).1
    have hd : w.its.drop i = x :: w.its.drop (i + 1) := by
      rw [List.drop_eq_getElem_cons hl]
      congr 1
      exact (List.getElem?_eq_some_iff.mp hx).2
    rw [hd] at q2
    obtain ⟨ρ0, h0, sb, sh, q2⟩ := q2
    replace s2 := s2.sub sb
    replace r2 := r2.sub sh
    replace e2 := e2.sub sh
    clear sb sh ρ2 h2
    revert s2 r2 e2 q2
    revert ρ0 h0
    intro ρ2 h2 q2 s2 r2 e2
    obtain ⟨go, yl⟩ := (wk i h2 H2 r2 e2 q2.1).1 x hx
    refine .inr ⟨go, fun σ' H' => ∃ ρ2 h2, SR X.K X.mg hp H' ρ2 σ' ∧ RH X.K X.mg h2 H' ∧ Ext h1 H1 h2 H' ∧ (m - 1) + (i + 1) = w.its.length ∧ lpF C w.keep g cb D' (w.its.drop (i + 1)) ρ2 h2, fun σ' H' z => ⟨m - 1, by omega, z⟩, fun v H3 y => ?_⟩
    obtain ⟨r3, e3, vr⟩ := yl v H3 y
    refine ⟨ρ2, h2, x, _, _, s2.mono r2 e3, r3, .inl vr, q2.2, fun ρ4 σ4 h4 H4 s4 r4 e4 _ q4 => ?_, fun σ' o e h2 H2 cls d a r2 z q2 => q2.elim⟩
    have e := (e2.trans e3).trans e4
    refine ⟨ρ4, h4, _, s4, r4, q4, fun ρ5 σ5 h5 H5 s5 r5 e5 => ?_, (DW.mono k (e1.trans e)).2⟩
    exact ⟨fun z => ⟨ρ5, h5, s5, r5, e.trans e5, by omega, z⟩, fun z => (k.1 ρ5 σ5 h5 H5 s5 r5 (e1.trans (e.trans e5))).1 z, fun z => ⟨ρ5, h5, s5, r5, e.trans e5, by omega, z⟩⟩
end
end WS

/-! WS5: what is walked, comprehensions, calls of defs, exceptions. -/
namespace WS
open PySem PySem.Spec L2
/-! ### a def, called where no repr is under way -/
structure FnG (P : Program) (w : World) (K : PySem.W.Frag) (mg : Str → Option Value) (base : Heap) (k : Nat) (f : Addr) (fd : FuncData) (ps : List Str) (sp : Sp) : Prop where
  len : ∀ vs H Q E, sp vs H Q E → vs.length = ps.length
  run : ∀ (A : Around) (outer : List Env) (s : Shared) (H : Hp) (args : Args) (us : List Value) (vs : List V) (Q : VK) (E : XK),
    Room k A → A.guards = some [] → Env0 P w K mg base A outer s H → BindsTo s fd args (ps.zip us) → Vals vs us → sp vs H Q E →
    codeAny (model P w) A (.call (.ref f) args) (L2.CR (L2N.CX P w) outer P w H s Q E) s
theorem gd_deeper {A : Around} {env : Env} (h : A.guards = some []) : (A.deeper env).guards = some [] := h
theorem fnG_of {P : Program} {w : World} {K : PySem.W.Frag} {mg : Str → Option Value} {base : Heap} {k : Nat} {f : Addr} {nm ql : Str} {ar : Arguments} {bd : List Stmt} {sc : Scope} {dV kV doc pm cdv ct oc : Value} {an od : Option Addr} {osl : Array (Option Value)}
    {N ps : List Str} {sp : Sp} (lk : K.lookup f = some ⟨oc, od, .func (PySem.W.fnOf nm ql ar bd sc dV kV doc pm an cdv ct), osl⟩) (hcd : PySem.W.codeIn K cdv ql = true) (S : FnScope N ps sc) (len : ∀ vs H Q E, sp vs H Q E → vs.length = ps.length)
    (hb : ∀ (A : Around) (outer : List Env) (s : Shared) (H : Hp) (vs : List V) (Q : VK) (E : XK), A.guards = some [] → Room k (A.deeper (PyProof.Rows.envOfC ql sc s.heap.objs.size f cdv)) → sp vs H Q E →
      ∃ t, PSs (cxOf (L2N.CX P w) P w K mg base N ql sc f cdv A outer s H E) bd t ∧ t { nx := fun _ H' => Q .non H', rt := Q } (L2.start N vs) H) :
    FnG P w K mg base (k + 1) f (PySem.W.fnOf nm ql ar bd sc dV kV doc pm an cdv ct) ps sp := by
  refine ⟨len, fun A outer s H args us vs Q E room gd e0 bind rv hsp => ?_⟩
  have n1 := len _ _ _ _ hsp
  have kin := e0.mod.kin.keeps fun b o e => (e0.bs b o e).1
  have lim := e0.mod.nolimit.keeps fun b o e => (e0.bs b o e).1
  have pars : ∀ y ∈ ps.zip us, sc.names.lookup y.1 = some .local ∨ (sc.names.lookup y.1 = some .cell ∧ ((cellsFrom (s.heap.objs.size + 1) sc.names []).lookup y.1).isSome = true) := by
    rintro ⟨n, v⟩ hy
    refine (S.par n (List.of_mem_zip hy).1).imp id fun q => ⟨q, ?_⟩
    exact PySem.W.cellsFrom_some _ _ _ (.inl q)
  refine codeAny_call_function room.depth (kin _ _ lk) rfl S.co S.gen rfl (PySem.W.codeRec_of kin hcd) (bind _ _ _ _ ?_)
  refine wpAny_newFunctionEnv_cells S.kind pars fun env henv s1 x => ?_
  subst henv
  refine ⟨lim.keeps x.toInCall.keep, codeAny_func ?_⟩
  obtain ⟨t, ht, hq⟩ := hb A outer s H vs Q E gd (room.deeper _) hsp
  have I0 := inv_start (CX := L2N.CX P w) (E := E) (cd := cdv) (f := f) S room.hd e0 n1 rv x
  refine wpAny_mono (ht.run [] s1 (L2.start N vs) H _ I0 hq) (fun fl s' z => ?_) fun _ _ z => z
  cases fl with
  | ret u => exact let ⟨v, _, H', J, rr, q⟩ := z; ⟨v, H', J.os, J.bare, J.base, J.hok, rr, q⟩
  | next => exact let ⟨_, H', J, q⟩ := z; ⟨.non, H', J.os, J.bare, J.base, J.hok, rfl, q⟩
  | brk => exact let ⟨_, _, _, q⟩ := z; q.elim
  | cont => exact let ⟨_, _, _, q⟩ := z; q.elim
section
variable {X : Cx} {hp : List (Addr × Obj)} {W : WX} {C : Calls}

/-! ### walks -/
theorem wk_list {a : Addr} {xs : List Val} {h0 : IH} {H0 : Hp} : WkOk X.K X.mg (Itl X.K a) ⟨xs, lstK a xs⟩ h0 H0 := by
  intro i h H r e k
  obtain ⟨vs, s, q⟩ := r.seq k
  refine ⟨fun x hx => ?_, fun hl => ⟨vs, s, by rw [← q.length]; exact hl⟩⟩
  obtain ⟨v, e1, e2⟩ := q.get hx
  refine ⟨⟨vs, v, s, e1⟩, fun w H' y => ?_⟩
  obtain ⟨rfl, z⟩ := y
  have e3 := z vs s
  rw [e1] at e3
  cases e3
  exact ⟨r, .refl, e2⟩
theorem wk_tup {a : Addr} {xs : List Val} {vs : List V} {h0 : IH} {H0 : Hp} (r0 : RH X.K X.mg h0 H0) (s : SqT X.K H0 a vs) (q : VRs X.K X.mg H0 xs vs) : WkOk X.K X.mg (Itt X.K a) ⟨xs, fun _ => True⟩ h0 H0 := by
  intro i h H r e _
  have k := e.tup r0
  have s' := k.1 _ _ s
  have q' := q.mono k
  refine ⟨fun x hx => ?_, fun hl => ⟨vs, s', by rw [← q'.length]; exact hl⟩⟩
  obtain ⟨v, e1, e2⟩ := q'.get hx
  refine ⟨⟨vs, v, s', e1⟩, fun w H' y => ?_⟩
  obtain ⟨rfl, z⟩ := y
  have e3 := z vs s'
  rw [e1] at e3
  cases e3
  exact ⟨r, .refl, e2⟩
theorem wk_rng {lo : Int} {n : Nat} {h0 : IH} {H0 : Hp} : WkOk X.K X.mg (Itr lo n) ⟨upTo lo n, fun _ => True⟩ h0 H0 := by
  intro i h H r e _
  have hl : (upTo lo n).length = n := by unfold upTo; simp
  refine ⟨fun x hx => ?_, fun h1 => ?_⟩
  · have hi := (List.getElem?_eq_some_iff.mp hx).1
    rw [hl] at hi
    have ex : x = .int (lo + i) := by
      unfold upTo at hx
      rw [List.getElem?_map, List.getElem?_range hi] at hx
      exact (Option.some.inj hx).symm
    subst ex
    refine ⟨hi, fun w H' y => ?_⟩
    obtain ⟨rfl, rfl⟩ := y
    exact ⟨r, .refl, .int _⟩
  · show n ≤ i
    have z : (upTo lo n).length ≤ i := h1
    rw [hl] at z
    exact z
def chars (s : Str) : List Val := s.cps.toList.map fun c => Val.str ⟨#[c]⟩
theorem wk_str {s : Str} {h0 : IH} {H0 : Hp} : WkOk X.K X.mg (Its s) ⟨chars s, fun _ => True⟩ h0 H0 := by
  intro i h H r e _
  have hl : (chars s).length = s.cps.size := by unfold chars; simp
  refine ⟨fun x hx => ?_, fun h1 => ?_⟩
  · have hi := (List.getElem?_eq_some_iff.mp hx).1
    rw [hl] at hi
    refine ⟨hi, fun w H' y => ?_⟩
    obtain ⟨rfl, c, e1, rfl⟩ := y
    unfold chars at hx
    rw [List.getElem?_map, Array.getElem?_toList, e1] at hx
    cases hx
    exact ⟨r, .refl, .str _⟩
  · show s.cps.size ≤ i
    have z : (chars s).length ≤ i := h1
    rw [hl] at z
    exact z
/-- iter(v) of a known value -/
def ItV (X : Cx) (tg : Expr) (P : V → Hp → (It → Hp → Prop) → Prop) : Prop := ∀ (pins : List (Addr × Obj)) (s : Shared) (σ : L2.St) (H : Hp) (x : V) (v : Value) (R : It → Hp → Prop), Inv X pins σ H s → RelV x v → P x H R → wpAny (model X.prog X.w) X.A (pyIter v) (PIE X pins σ tg R) X.xe s
def pSeq (K : PySem.W.Frag) : V → Hp → (It → Hp → Prop) → Prop := fun x H R => (∃ a xs, x = .ref a ∧ SqL K H a xs ∧ R (Itl K a) H) ∨ (∃ a xs, x = .ref a ∧ SqT K H a xs ∧ R (Itt K a) H) ∨ ∃ s, x = .str s ∧ R (Its s) H
theorem itv_seq {tg : Expr} : ItV X tg (pSeq X.K) := by
  intro pins s σ H x v R I r q
  rcases q with ⟨a, xs, rfl, hs, q⟩ | ⟨a, xs, rfl, hs, q⟩ | ⟨z, rfl, q⟩
  · cases r
    obtain ⟨its, _, p, _⟩ := I.list hs
    exact wpAny_pyIter_list p.isList (pi_one (tk := s.toks) I _ (turn_list a _) ⟨_, Heap.get?_push_size _ rfl, rfl, rfl⟩ q)
  · cases r
    obtain ⟨its, _, p, _⟩ := I.tuple hs
    have p' : s.heap.IsTuple a its.toArray := p
    exact wpAny_pyIter_tuple p' (pi_one (tk := s.toks) I _ (turn_tuple a _) ⟨_, Heap.get?_push_size _ rfl, rfl, rfl⟩ q)
  · obtain ⟨t, rfl⟩ := r
    cases ha : z.cps.all (· < 128) with
    | false => exact wpAny_pyIter_wide ha (pi_one (tk := s.toks) I _ (turn_str _ z t _ (.inr rfl)) ⟨_, Heap.get?_push_size _ rfl, rfl, rfl⟩ q)
    | true => exact wpAny_pyIter_ascii ha (pi_one (tk := s.toks) I _ (turn_str _ z t _ (.inl rfl)) ⟨_, Heap.get?_push_size _ rfl, rfl, rfl⟩ q)
theorem pi_of {tg l : Expr} {te : TE} {P : V → Hp → (It → Hp → Prop) → Prop} (hv : ItV X tg P) (hl : PE X l te) : PI X tg l (fun σ H R => te σ H fun x H1 => P x H1 R) :=
  ⟨fun pins s σ H R I q => thn (hl.run pins s σ H _ I q) fun _ s1 ⟨x, H1, I1, r1, q1⟩ => hv pins s1 σ H1 x _ R I1 r1 q1⟩
theorem w_seq {tg l : Expr} {c : DE} (hl : PE X l (rdE X.K X.mg hp W C c)) : PI X tg l (rdI X.K X.mg hp W C (iSeq c)) := by
  refine PI.weak (pi_of itv_seq hl) ?_
  rintro σ H R ⟨ρ, h, Q', E', s, r, q, k, xw⟩
  refine rdE.step s r q xw fun y v h1 H1 vy r1 e1 s1 xw1 q1 => ?_
  cases y with
  | tup xs =>
    obtain ⟨a, vs, rfl, t, p⟩ := vy.tp
    exact .inr (.inl ⟨a, vs, rfl, t, k _ _ h1 H1 (wk_tup r1 t p) r1 e1 q1⟩)
  | ref a =>
    cases vy.rf
    dsimp only at q1
    cases hx : h1.seq a with
    | none => rw [hx] at q1; exact q1.elim
    | some xs =>
      rw [hx] at q1
      obtain ⟨vs, t, p⟩ := r1.seq hx
      exact .inl ⟨a, vs, rfl, t, k _ _ h1 H1 wk_list r1 e1 q1⟩
  | str z =>
    cases vy.str
    exact .inr (.inr ⟨z, rfl, k _ _ h1 H1 wk_str r1 e1 q1⟩)
  | _ => exact q1.elim
theorem w_rng1 {tg a : Expr} {c : DA} {p pos : Pos} (hg : Gl X "range") (hm : X.mg "range" = none) (hs : starEach [a] X.env = [(false, eval a X.env)]) (ha : PA X [a] (rdA X.K X.mg hp W C c)) : PI X tg (.Call (.Name "range" p) [a] [] pos) (rdI X.K X.mg hp W C (iRng1' c)) := by
  refine PI.weak (pi_range1 hg hm ha hs) ?_
  rintro σ H R ⟨ρ, h, Q', E', s, r, q, k, xw⟩
  refine rdA.step s r q xw fun ys vs h1 H1 vy r1 e1 s1 xw1 q1 => ?_
  split at q1
  · obtain ⟨v, rfl, vx⟩ := p1 vy
    cases vx.int
    exact ⟨_, rfl, q1.2.1, q1.1, k _ _ h1 H1 wk_rng r1 e1 q1.2.2⟩
  · exact q1.elim
theorem w_rng2 {tg a b : Expr} {c : DA} {p pos : Pos} (hg : Gl X "range") (hm : X.mg "range" = none) (hs : starEach [a, b] X.env = [(false, eval a X.env), (false, eval b X.env)]) (hs2 : starEach [b] X.env = [(false, eval b X.env)]) (ha : PA X [a, b] (rdA X.K X.mg hp W C c)) :
    PI X tg (.Call (.Name "range" p) [a, b] [] pos) (rdI X.K X.mg hp W C (iRng2' c)) := by
  refine PI.weak (pi_range2 hg hm ha hs hs2) ?_
  rintro σ H R ⟨ρ, h, Q', E', s, r, q, k, xw⟩
  refine rdA.step s r q xw fun ys vs h1 H1 vy r1 e1 s1 xw1 q1 => ?_
  split at q1
  · obtain ⟨v, u, rfl, va, vb⟩ := p2 vy
    cases va.int; cases vb.int
    exact ⟨_, _, rfl, q1.1, k _ _ h1 H1 wk_rng r1 e1 q1.2⟩
  · exact q1.elim

/-! ### comprehensions -/
theorem q_yes : PTs X [] (rdT X.K X.mg hp W C tYes') := by
  refine ⟨fun pins s σ H Q I h => pts_nil.run pins s σ H Q I ?_⟩
  obtain ⟨ρ, h, Q', E', s, r, q, k, xw⟩ := h
  exact k true h H r .refl q
theorem q_test {c : Expr} {t : DT} (h : PT X c (rdT X.K X.mg hp W C t)) : PTs X [c] (rdT X.K X.mg hp W C t) := pts_one h
theorem plainR_nil {K : PySem.W.Frag} {mg : Str → Option Value} {pn : List (Addr × Obj)} {H : Hp} {ρ : Rho} {σ : L2.St} (s : SR K mg pn H ρ σ) (p : plainR ρ = true) (pn' : List (Addr × Obj)) : SR K mg pn' H ρ σ := by
  have g : ∀ {ρ : Rho} {i : Nat} {x : Val}, plainR ρ = true → ρ[i]? = some (some x) → plain x = true := by
    intro ρ
    induction ρ with
    | nil => intro i x _ e; simp at e
    | cons o r ih =>
      intro i x p e
      cases o with
      | none =>
        cases i with
        | zero => simp at e
        | succ i => exact ih p (by simpa using e)
      | some y =>
        have q := Bool.and_eq_true_iff.mp p
        cases i with
        | zero =>
          have e' : y = x := by simpa using e
          rw [← e']; exact q.1
        | succ i => exact ih q.2 (by simpa using e)
  exact ⟨s.1, fun i x e => let ⟨v, a, b⟩ := s.2 i x e; ⟨v, a, .inl (b.vr (g p e))⟩⟩
theorem wipe_two (vs : List Nat) (σ : L2.St) : L2.wipe (L2.wipe σ vs) vs = L2.wipe σ vs := by
  refine List.ext_getElem? fun j => ?_
  by_cases hj : j ∈ vs
  · by_cases hl : j < σ.length
    · rw [wipe_get hj (by rw [L2.wipe_length]; exact hl), wipe_get hj hl]
    · rw [List.getElem?_eq_none_iff.mpr (by rw [L2.wipe_length, L2.wipe_length]; omega), List.getElem?_eq_none_iff.mpr (by rw [L2.wipe_length]; omega)]
  · rw [L2.wipe_out hj]
theorem rd_lc {it : DI} {g : DG} {gs : List Nat} {t : DT} {e : DE} {vs : List Nat} (hg : ∀ j ∈ gs, j ∈ vs) {σ : L2.St} {H : Hp} {Q : VK}
    (z : rdE X.K X.mg hp W C (eLc it g t e vs) σ H Q) : tLc (rdI X.K X.mg hp W C it) (rdG X.K X.mg [] (fun _ _ _ _ => False) C gs g) (rdT X.K X.mg [] (fun _ _ _ _ => False) C t) (rdE X.K X.mg [] (fun _ _ _ _ => False) C e) vs σ H Q := by
  obtain ⟨ρ, h, Q', E', s, r, q, k, xw⟩ := z
  refine ⟨ρ, h, _, E', s, r, q, fun w J h1 H1 wk r1 e1 q1 => ?_, xw⟩
  obtain ⟨pl, q1⟩ := q1
  intro D nD
  have hD : h1 D = none := (r1.alloc (c := .lst []) nD (CR.lst .nil)).2.2
  have s1 : SR X.K X.mg [] H1 (wipeR ρ vs) (L2.wipe σ vs) := plainR_nil ((s.mono r e1).wipe vs) pl _
  -- the list that grows, told of by nobody
  have grow : ∀ {h2 : IH} {H2 : Hp} {us : List V} (us' : List V), RH X.K X.mg h2 H2 → h2 D = none → (H2 D = none ∨ H2 D = some (.lst us)) → TupKeep X.K H2 (upd H2 D (.lst us')) ∧ RH X.K X.mg h2 (upd H2 D (.lst us')) := by
    intro h2 H2 us us' r2 n2 d2
    have tk : TupKeep X.K H2 (upd H2 D (.lst us')) := by
      refine ⟨fun a ws sq => ?_, fun a ws sq => ?_⟩
      · rcases sq with (sq | ⟨o, sq⟩) | sq
        · exact .inl (.inl (by rw [upd_ne (fun z => by rw [z] at sq; rcases d2 with d2 | d2 <;> rw [d2] at sq <;> cases sq)]; exact sq))
        · exact .inl (.inr ⟨o, by rw [upd_ne (fun z => by rw [z] at sq; rcases d2 with d2 | d2 <;> rw [d2] at sq <;> cases sq)]; exact sq⟩)
        · exact .inr sq
      · rcases sq with ⟨o, sq⟩ | sq
        · exact .inl ⟨o, by rw [upd_ne (fun z => by rw [z] at sq; rcases d2 with d2 | d2 <;> rw [d2] at sq <;> cases sq)]; exact sq⟩
        · exact .inr sq
    refine ⟨tk, fun a c ea => ?_⟩
    obtain ⟨o, e1, e2⟩ := r2 a c ea
    exact ⟨o, by rw [upd_ne (fun z => by rw [z, n2] at ea; cases ea)]; exact e1, e2.mono tk⟩
  have exD : ∀ {h2 : IH} {H2 : Hp} (us' : List V), Ext h1 H1 h2 H2 → Ext h1 H1 h2 (upd H2 D (.lst us')) := fun us' e2 =>
    ⟨fun a o ea na => by rw [upd_ne (fun z => by rw [z, nD] at ea; cases ea)]; exact e2.fr a o ea na, e2.nw, fun a ob u ea => by rw [upd_ne (fun z => by rw [z, nD] at ea; cases ea)]; exact e2.fz a ob u ea⟩
  let P : List Val → List Val → IH → Hp → Prop := fun rest acc h2 H2 => ∃ us, H2 D = some (.lst us) ∧ h2 D = none ∧ VRs X.K X.mg H2 acc us ∧ RH X.K X.mg h2 H2 ∧ Ext h1 H1 h2 H2 ∧
    lpC C w.keep g t e (wipeR ρ vs) (fun acc h2 => ∀ p, h2 p = none → Q' (.ref p) (put h2 p (.lst acc))) rest acc h2
  refine ⟨fun i m H2 => ∃ acc h2, m + i = w.its.length ∧ P (w.its.drop i) acc h2 H2, ⟨w.its.length, [], h1, rfl, [], upd_same, hD, .nil, (grow (us := []) [] r1 hD (.inl nD)).2, exD [] .refl, q1⟩, ?_⟩
  rintro i m H2 ⟨acc, h2, hm, us, d2, n2, va, r2, e2, q2⟩
  cases hx : w.its[i]? with
  | none =>
    have hl : w.its.length ≤ i := List.getElem?_eq_none_iff.mp hx
    rw [List.drop_eq_nil_of_le hl] at q2
    obtain ⟨h0, sh, q2⟩ := q2
    replace r2 := r2.sub sh
    replace e2 := e2.sub sh
    replace n2 : h0 D = none := by
      cases z : h0 D with
      | none => rfl
      | some c => have z1 := sh D c z; rw [n2] at z1; cases z1
    clear sh
    revert r2 e2 n2 q2
    clear h2
    revert h0
    intro h2
    intro q2 r2 e2 n2
    refine .inl ⟨(wk i h2 H2 r2 e2 q2.1).2 hl, k (.ref D) (.ref D) (put h2 D (.lst acc)) H2 (.inl (.ref D)) (fun a c ea => ?_) ?_ (q2.2 D n2)⟩
    · by_cases za : a = D
      · subst za
        rw [put_same] at ea; cases ea
        exact ⟨_, d2, .lst va⟩
      · rw [put_ne za] at ea
        exact r2 a c ea
    · have e3 := e1.trans e2
      refine ⟨e3.fr, fun a o ea na => ?_, e3.fz⟩
      have h3 := e1.fr a o ea na
      rw [put_ne (fun z => by rw [z, nD] at h3; cases h3)]
      exact e3.nw a o ea na
  | some x =>
    have hl : i < w.its.length := (List.getElem?_eq_some_iff.mp hx).1
    have hd : w.its.drop i = x :: w.its.drop (i + 1) := by
      rw [List.drop_eq_getElem_cons hl]
      congr 1
      exact (List.getElem?_eq_some_iff.mp hx).2
    rw [hd] at q2
    obtain ⟨h0, sh, q2⟩ := q2
    replace r2 := r2.sub sh
    replace e2 := e2.sub sh
    replace n2 : h0 D = none := by
      cases z : h0 D with
      | none => rfl
      | some c => have z1 := sh D c z; rw [n2] at z1; cases z1
    clear sh
    revert r2 e2 n2 q2
    clear h2
    revert h0
    intro h2
    intro q2 r2 e2 n2
    obtain ⟨go, yl⟩ := (wk i h2 H2 r2 e2 q2.1).1 x hx
    refine .inr ⟨go, fun H' => ∃ acc h2, (m - 1) + (i + 1) = w.its.length ∧ P (w.its.drop (i + 1)) acc h2 H', fun H' z => ⟨m - 1, by omega, z⟩, fun v H3 y => ?_⟩
    obtain ⟨r3, e3, vr⟩ := yl v H3 y
    have d3 := e3.fr D _ d2 n2
    have n3 := e3.nw D _ d2 n2
    have s3 : SR X.K X.mg [] H3 (wipeR ρ vs) (L2.wipe σ vs) := s1.mono r1 (e2.trans e3)
    refine ⟨wipeR ρ vs, h2, x, _, noX, s3, r3, .inl vr, q2.2, fun ρ4 σ4 h4 H4 s4 r4 e4 o4 q4 => ⟨?_, ?_⟩, fun σ' o e h2 H2 cls d a r2 z q2 => q2.elim⟩
    · rw [wipe_eq (o4.mono hg)]
      exact wipe_two vs σ
    · refine ⟨ρ4, h4, _, noX, s4, r4, q4, fun b h5 H5 r5 e5 q5 => ?_, fun e h2 H2 cls d a r2 z q2 => q2.elim⟩
      have d4 := e4.fr D _ d3 n3
      have n4 := e4.nw D _ d3 n3
      have d5 := e5.fr D _ d4 n4
      have n5 := e5.nw D _ d4 n4
      have e35 := e3.trans (e4.trans e5)
      have va5 := va.mono (e35.tup r2)
      cases b with
      | false =>
        refine iteF ?_
        exact ⟨acc, h5, by omega, us, d5, n5, va5, r5, e2.trans e35, q5⟩
      | true =>
        refine iteT ?_
        refine ⟨ρ4, h5, _, noX, s4.mono r4 e5, r5, q5, fun y v h6 H6 vy r6 e6 q6 => ?_, fun e h2 H2 cls d a r2 z q2 => q2.elim⟩
        · obtain ⟨py, lz, q6⟩ := q6
          have d6 := e6.fr D _ d5 n5
          have n6 := e6.nw D _ d5 n5
          have va6 := va5.mono (e6.tup r5)
          obtain ⟨tk, r7⟩ := grow (us ++ [v]) r6 n6 (.inr d6)
          refine ⟨us, d6, by rw [← va.length]; exact lz, acc ++ [y], h6, by omega, us ++ [v], upd_same, n6, (va6.append (.cons (vy.vr py) .nil)).mono tk, r7, exD _ (e2.trans (e35.trans e6)), q6⟩
theorem r_lc {elt tg iter : Expr} {ifs : List Expr} {scope : Scope} {own : List (Str × Nat)} {pos : Pos} {it : DI} {g : DG} {gs : List Nat} {t : DT} {e : DE} (hc : X.calm = true) (hN : X.N.Nodup) (hi : PI X tg iter (rdI X.K X.mg hp W C it)) (ok : BlkOk X.N X.env.scope scope own) (hgs : ∀ j ∈ gs, j ∈ own.map (·.2))
    (hg : ∀ (s : Shared) (H : Hp) (D : Addr) (cl : List (Str × Addr)) (fp : List Addr), PG (X.blk s H scope (compEnvC scope cl D X.env) fp) tg (rdG X.K X.mg [] (fun _ _ _ _ => False) C gs g))
    (ht : ∀ (s : Shared) (H : Hp) (D : Addr) (cl : List (Str × Addr)) (fp : List Addr), PTs (X.blk s H scope (compEnvC scope cl D X.env) fp) ifs (rdT X.K X.mg [] (fun _ _ _ _ => False) C t))
    (he : ∀ (s : Shared) (H : Hp) (D : Addr) (cl : List (Str × Addr)) (fp : List Addr), PE (X.blk s H scope (compEnvC scope cl D X.env) fp) elt (rdE X.K X.mg [] (fun _ _ _ _ => False) C e))
    (hs : ∀ x, foldedSetIterable iter X.env x = pure x) : PE X (.ListComp elt [⟨tg, iter, ifs, 0⟩] scope pos) (rdE X.K X.mg hp W C (eLc it g t e (own.map (·.2)))) :=
  PE.weak (pe_lc (g := rdG X.K X.mg [] (fun _ _ _ _ => False) C gs g) (tt := rdT X.K X.mg [] (fun _ _ _ _ => False) C t) (te := rdE X.K X.mg [] (fun _ _ _ _ => False) C e) hc hN hi ok hg ht he hs) fun σ H Q z => rd_lc hgs z
theorem r_setLc {i : Nat} {y : Str} {py spos : Pos} {elt tg iter : Expr} {ifs : List Expr} {scope : Scope} {own : List (Str × Nat)} {pos : Pos} {it : DI} {g : DG} {gs : List Nat} {t : DT} {e : DE} (hc : X.calm = true) (hN : X.N.Nodup) (hy : X.N[i]? = some y) (hyl : X.env.scope.names.lookup y = some .local)
    (hsw : swapsWith (.ListComp elt [⟨tg, iter, ifs, 0⟩] scope pos) (some (.Name y py)) spos.line X.env = pure true) (hi : PI X tg iter (rdI X.K X.mg hp W C it)) (ok : BlkOk X.N X.env.scope scope own) (hgs : ∀ j ∈ gs, j ∈ own.map (·.2))
    (hg : ∀ (s : Shared) (H : Hp) (D : Addr) (cl : List (Str × Addr)) (fp : List Addr), PG (X.blk s H scope (compEnvC scope cl D X.env) fp) tg (rdG X.K X.mg [] (fun _ _ _ _ => False) C gs g))
    (ht : ∀ (s : Shared) (H : Hp) (D : Addr) (cl : List (Str × Addr)) (fp : List Addr), PTs (X.blk s H scope (compEnvC scope cl D X.env) fp) ifs (rdT X.K X.mg [] (fun _ _ _ _ => False) C t))
    (he : ∀ (s : Shared) (H : Hp) (D : Addr) (cl : List (Str × Addr)) (fp : List Addr), PE (X.blk s H scope (compEnvC scope cl D X.env) fp) elt (rdE X.K X.mg [] (fun _ _ _ _ => False) C e))
    (hs : ∀ x, foldedSetIterable iter X.env x = pure x) : PS X (.Assign [.Name y py] (.ListComp elt [⟨tg, iter, ifs, 0⟩] scope pos) spos) (rdS X.K X.mg hp W C (sSet i (eLc it g t e (own.map (·.2))))) := by
  refine PS.weak (ps_setLc (g := rdG X.K X.mg [] (fun _ _ _ _ => False) C gs g) (tt := rdT X.K X.mg [] (fun _ _ _ _ => False) C t) (te := rdE X.K X.mg [] (fun _ _ _ _ => False) C e) hc hN hy hyl hsw hi ok hg ht he hs) ?_
  rintro D σ H ⟨ρ, h, D', s, r, q, k⟩
  refine rd_lc hgs ⟨ρ, h, _, _, s, r, q, fun y v h1 H1 vy r1 e1 q1 => ?_, DW.xw k r s⟩
  exact (k.1 _ _ h1 H1 ((s.mono r e1).set vy) r1 e1).1 q1
/-- a, b = x, y: stored from the right -/
theorem r_par {i j : Nat} {x y : Str} {a b : Expr} {px py pt pos : Pos} {kt k2 : Nat} {pt2 : Pos} {ca : DA} (hc : X.calm = true) (hN : X.N.Nodup) (hi : X.N[i]? = some x) (hj : X.N[j]? = some y) (hij : i ≠ j) (hx : X.env.scope.names.lookup x = some .local) (hy : X.env.scope.names.lookup y = some .local)
    (hw : swappedStores [.Tuple [.Name x px, .Name y py] kt pt] (.Tuple [a, b] k2 pt2) X.env = pure (some [x, y])) (ha : PA X [a, b] (rdA X.K X.mg hp W C ca)) : PS X (.Assign [.Tuple [.Name x px, .Name y py] kt pt] (.Tuple [a, b] k2 pt2) pos) (rdS X.K X.mg hp W C (sPar i j ca)) := by
  refine PS.weak (ps_par hc hN hi hj hij hx hy ha hw) ?_
  rintro D σ H ⟨ρ, h, D', s, r, q, k⟩
  refine rdA.step s r q (DW.xw k r s) fun ys vs h1 H1 vy r1 e1 s1 xw1 q1 => ?_
  split at q1
  · obtain ⟨v, u, rfl, va, vb⟩ := p2 vy
    exact ⟨v, u, rfl, (k.1 _ _ h1 H1 ((s1.set va).set vb) r1 e1).1 q1⟩
  · exact q1.elim

/-! ### calls of defs -/
/-- the promise of a def: what c does with its values -/
def spOf (K : PySem.W.Frag) (mg : Str → Option Value) (c : List Val → IH → KV → XC → Prop) : Sp := fun vs H Q E => ∃ ys h Q' E', VRs K mg H ys vs ∧ RH K mg h H ∧ c ys h Q' E' ∧
  (∀ y v h' H', VR K mg H' y v → RH K mg h' H' → Ext h H h' H' → Q' y h' → Q v H') ∧ (∀ e h' H' cls d, ER K mg H' e cls d → RH K mg h' H' → Ext h H h' H' → E' e h' → E cls d H')
theorem r_call {n : Str} {p pos : Pos} {e : Expr} {es : List Expr} {ca : DA} {k : Nat} {f : Addr} {fd : FuncData} {ps : List Str} {dv : List Val} {dvs : List V} {ds : List Value}
    (F : FnG X.prog X.w X.K X.mg X.base k f fd ps (spOf X.K X.mg (C.run n))) (hr : Room k X.A) (gd : X.A.guards = some []) (hg : Gl X n) (hm : X.mg n = some (.ref f)) (hk : PySem.W.keepIn X.K (.ref f) = true) (hb : Binds X.K fd ps ds) (hd : Vals dvs ds) (hdv : ∀ H, VRs X.K X.mg H dv dvs)
    (tk : L2N.Takes X W) (hdb : (n == ("__debug__" : Str)) = false) (he : starEach (e :: es) X.env = (false, eval e X.env) :: starEach es X.env) (hpl : (backTo pos (starEach es X.env)).any (·.1) = false) (ha : PA X (e :: es) (rdA X.K X.mg hp W C ca)) :
    PE X (.Call (.Name n p) (e :: es) [] pos) (rdE X.K X.mg hp W C (eCall n dv ca)) := by
  refine ⟨fun pins s σ H Q I z => ?_⟩
  obtain ⟨ρ, h, Q', E', sr, r, q, kk, xw⟩ := z
  refine wpAny_Call_Name_kw (ld_glob I hg hm ?_ hdb)
  have za : rdA X.K X.mg hp W C ca σ H fun vs H1 => ∃ ys h1, VRs X.K X.mg H1 ys vs ∧ RH X.K X.mg h1 H1 ∧ Ext h H h1 H1 ∧ C.run n (ys ++ dv) h1 Q' E' := rdA.step sr r q xw fun ys vs h1 H1 vy r1 e1 _ _ q1 => ⟨ys, h1, pair_vrs vy q1.1, r1, e1, q1.2⟩
  refine PySem.W.callWith_K (h₀ := X.base) I.ok.mod.kin hk (thn (ha.run pos pins s σ H _ I za) ?_) he hpl
  rintro us s1 ⟨vs, H1, I1, rv, ys, h1, vy, r1, e1, q1⟩
  refine ⟨I1.kIn, ?_⟩
  have hsp : spOf X.K X.mg (C.run n) (vs ++ dvs) H1 Q (WE W σ) := ⟨ys ++ dv, h1, Q', E', vy.append (hdv H1), r1, q1, fun y v h' H' a b c d => kk y v h' H' (.inl a) b (e1.trans c) d, fun e h' H' cls d a b c q => xw e h' H' cls d a b (e1.trans c) q⟩
  have rv2 := rv.append hd
  have hl : (us ++ ds).length = ps.length := by rw [← rv2.length]; exact F.len _ _ _ _ hsp
  refine wpAny_call (codeAny_mono (F.run X.A X.stack s1 H1 ⟨us, []⟩ (us ++ ds) (vs ++ dvs) Q (WE W σ) hr gd I1.env0 (hb s1 us I1.kIn hl) rv2 hsp) ?_)
  intro res s2 z
  cases res with
  | error x => exact L2N.passAt tk σ pins H1 s1 x s2 I1 z
  | ok fl => cases fl with
    | ret u => exact I1.after z
    | _ => exact z.elim

/-! ### exceptions -/
def sRaise (c : Str) : DS := fun _ D ρ h => D.ex ρ ⟨c, [], []⟩ h
theorem r_raise {c m : Str} {j : Nat} {p p2 pos pos' : Pos} {a : Addr} {bmB : List Value} {B newId initId : String} (hc : X.calm = true) (tk : L2N.Takes X W) (F : ExcBaseFacts B newId initId bmB) (q : PySem.W.excIn X.K a bmB newId = true) (gC : X.mg c = some (.ref a)) (kC : PySem.W.keepIn X.K (.ref a) = true)
    (r : Raises X (.ref a)) (hg : Gl X c) (hdb : (c == ("__debug__" : Str)) = false) : PS X (.Raise (some (.Call (.Name c p) [.Constant (.str m) j p2] [] pos)) none pos') (rdS X.K X.mg hp W C (sRaise c)) := by
  refine PS.weak (L2N.ps_raise hc tk (L2N.pmk_own F q gC kC r hg hdb)) ?_
  rintro D σ H ⟨ρ, h, D', s, rh, q, k⟩
  exact k.2.2 ρ σ _ h H _ _ s ⟨⟨a, gC, rfl⟩, .inl ⟨rfl, rfl, rfl⟩⟩ rh .refl q
end
end WS

/-! WS6: exceptions handled, defs called where one is handled. -/
namespace WS
open PySem PySem.Spec L2

/-- what an exception class of ours says of its instances -/
structure ExcK (K : PySem.W.Frag) (D : Addr) : Prop where
  cl : (PySem.W.clsIn K D).isSome = true
  ga : PySem.W.findIn K (.ref D) "__getattribute__" = some (some (.builtin "BaseException.__getattribute__"))
  gg : PySem.W.findIn K (.ref D) "__getattr__" = some none
  sb : PySem.W.subIn K (.ref D) (.type "BaseException") = some true
  hd : PySem.W.hasDictIn K D = true
  ca : PySem.W.findIn K (.ref D) "__class__" = some (some (.builtin "object.__class__"))
  gt : PySem.W.specialIn K (.builtin "object.__class__") "__get__" = some (some (.builtin "getset_descriptor.__get__"))
  tk : PySem.W.takesIn K (.builtin "object.__class__") = some true
  mo : PySem.W.mroIn K D (.type "object") = some true
/-- which class is one of which -/
structure XOk (K : PySem.W.Frag) (mg : Str → Option Value) (isa : Str → Str → Option Bool) : Prop where
  own : ∀ n m b, isa n m = some b → ∀ C, mg n = some (.ref C) → ExcK K C
  isi : ∀ n m b, isa n m = some b → ∀ C, mg n = some (.ref C) → ∀ u, mg m = some u → PySem.W.kitOne K (.ref C) u = some b ∧ PySem.W.exmOne K (.ref C) u = some b
  val : ∀ n b, isa n "ValueError" = some b → ∀ C, mg n = some (.ref C) → PySem.W.kitOne K (.ref C) (.type "ValueError") = some b
  no : ∀ n C f, mg n = some (.ref C) → (isa n n).isSome = true → f ∈ (["person", "many", "seats", "owed", "at"] : List Str) → PySem.W.findIn K (.ref C) f = some none

/-! ### isinstance of it -/
def isaAny (isa : Str → Str → Option Bool) (n : Str) : List Val → Option Bool
  | [] => some false
  | .glob m :: r => match isa n m, isaAny isa n r with
    | some b, some c => some (b || c)
    | _, _ => none
  | _ => none
def vIsX (isa : Str → Str → Option Bool) (x c : Val) (h : IH) : Option Bool := match x with
  | .exc n _ _ => match c with
    | .glob m => isa n m
    | .ty t => if t = "ValueError" then isa n "ValueError" else none
    | .tup (c :: cs) => isaAny isa n (c :: cs)
    | _ => none
  | _ => vIsi x c h
def eIsi (a : DA) : DE := fun C ρ h Q E => a C ρ h (fun xs h1 => match xs with
  | [x, c] => match vIsX C.isa x c h1 with
    | some b => Q (.bl b) h1
    | none => False
  | _ => False) E
/-- the exception at a, pinned as oe -/
structure PinX (X : Cx) (H : Hp) (a D : Addr) : Prop where
  ex : ∃ oe d, (a, oe) ∈ X.pn ∧ Zc (.ref D) d oe ∧ (∃ fs, oe.data = .fields fs) ∧ (d = none ∨ ∃ dd fs, d = some dd ∧ H dd = some (.xd fs))
section
variable {X : Cx} {pins : List (Addr × Obj)} {σ : L2.St} {H : Hp} {s : Shared} {a D : Addr}
theorem PinX.inst (p : PinX X H a D) (I : Inv X pins σ H s) : ∃ oe od, PySem.W.InstAt s.heap a oe D od := by
  obtain ⟨oe, d, hm, hz, ⟨fs, hf⟩, hd⟩ := p.ex
  obtain ⟨g, _⟩ := I.pin (a, oe) (List.mem_append_left _ hm)
  rcases hd with rfl | ⟨dd, gs, rfl, hx⟩
  · exact ⟨oe, none, g, hz.1, by unfold PySem.W.notCls; rw [hf] <;> rfl, by rw [hz.2]; trivial⟩
  · obtain ⟨mA, hns, _⟩ := (show ObjOk X.prog X.w H s.heap dd (.xd gs) from I.hok dd _ hx)
    obtain ⟨od, ho, _⟩ := lookIn_ns hns
    exact ⟨oe, some od, g, hz.1, by unfold PySem.W.notCls; rw [hf] <;> rfl, by rw [hz.2]; exact ho⟩
end
def rIsE1 (X : Cx) : List V → Hp → VK → Prop := fun xs H Q => ∃ (a D : Addr) (c : V) (cv : Value) (b : Bool), xs = [.ref a, c] ∧ PinX X H a D ∧ ExcK X.K D ∧ (∀ u, RelV c u → u = cv) ∧ PySem.W.kitOne X.K (.ref D) cv = some b ∧ Q (.bl b) H
def rIsET (X : Cx) : List V → Hp → VK → Prop := fun xs H Q => ∃ (a D tp : Addr) (cs : List V) (us : List Value) (b : Bool), xs = [.ref a, .ref tp] ∧ PinX X H a D ∧ ExcK X.K D ∧ SqT X.K H tp cs ∧ (∀ ws, Vals cs ws → ws = us) ∧ PySem.W.kitAny X.K (.ref D) us = some b ∧ Q (.bl b) H
section
variable {X : Cx} {hp : List (Addr × Obj)} {W : WX} {C : Calls}
theorem c_isX : CallR X (.builtin "isinstance") (rIsE1 X) := by
  intro pins s σ H xs us Q I r h
  obtain ⟨a, D, c, cv, b, rfl, px, ek, hc, hk, q⟩ := h
  obtain ⟨u1, u2, rfl, r1, r2⟩ := vals2 r
  cases r1
  obtain ⟨oe, od, J⟩ := px.inst I
  rw [hc _ r2]
  exact PySem.W.kia_one (PySem.W.kitx_exc (ox := oe) (od := od) ek.cl ek.ga ek.gg ek.sb ek.ca ek.gt ek.tk ek.mo) I.kIn J hk (fun z => nomatch z) fun tk => ⟨.bl b, H, I.kept (t' := tk) (fun _ _ z => z), rfl, q⟩
theorem c_isXT : CallR X (.builtin "isinstance") (rIsET X) := by
  intro pins s σ H xs us Q I r h
  obtain ⟨a, D, tp, cs, ws, b, rfl, px, ek, ht, hc, hk, q⟩ := h
  obtain ⟨u1, u2, rfl, r1, r2⟩ := vals2 r
  cases r1
  cases r2
  obtain ⟨oe, od, J⟩ := px.inst I
  obtain ⟨its, rv, ⟨o, h1, h2, n, h3⟩, _⟩ := I.tuple ht
  have e3 := hc _ rv
  subst e3
  obtain ⟨oc, odd, dt, sl⟩ := o
  simp only at h2 h3
  subst h2 h3
  exact PySem.W.kia_tup (PySem.W.kitx_exc (ox := oe) (od := od) ek.cl ek.ga ek.gg ek.sb ek.ca ek.gt ek.tk ek.mo) I.kIn J h1 hk (fun z => nomatch z) fun tk => ⟨.bl b, H, I.kept (t' := tk) (fun _ _ z => z), rfl, q⟩
theorem kitAny_or {K : PySem.W.Frag} {t c : Value} {cs : List Value} {b r : Bool} (h : PySem.W.kitOne K t c = some b) (hr : PySem.W.kitAny K t cs = some r) : PySem.W.kitAny K t (c :: cs) = some (b || r) :=
  kitAny_cons h (fun e => by rw [e]; exact hr) (fun e => by rw [e]; rfl)
/-- an exception among the values: where it lies -/
theorem VX.exc {H : Hp} {c : Str} {ns : List Str} {vs : List Val} {v : V} (hs : ∀ q ∈ hp, q ∈ X.pn) (x : VX X.K X.mg hp H (.exc c ns vs) v) : ∃ a D, v = .ref a ∧ X.mg c = some (.ref D) ∧ PinX X H a D ∧ ∃ oe d, (a, oe) ∈ hp ∧ Zc (.ref D) d oe ∧ (∃ fs, oe.data = .fields fs) ∧ ER X.K X.mg H ⟨c, ns, vs⟩ (.ref D) d := by
  rcases x with x | ⟨c', ns', vs', a, oe, cls, d, e, rfl, hm, hz, hf, er⟩
  · cases x
  · cases e
    obtain ⟨⟨D, e1, rfl⟩, e2⟩ := er
    refine ⟨a, D, rfl, e1, ⟨oe, d, hs _ hm, hz, hf, ?_⟩, oe, d, hm, hz, hf, ⟨D, e1, rfl⟩, e2⟩
    rcases e2 with ⟨_, _, z⟩ | ⟨dd, us, z1, z2, _⟩
    · exact .inl z
    · exact .inr ⟨dd, _, z1, z2⟩
theorem glob_eq {K : PySem.W.Frag} {D : Addr} {u w' : Value} {v : V} {b : Bool} (k : PySem.W.kitOne K (.ref D) u = some b) (r : RelV v u) (r' : RelV v w') : w' = u := by
  cases v with
  | non => cases r; cases r'; rfl
  | bl _ => cases r; cases r'; rfl
  | ref _ => cases r; cases r'; rfl
  | ty _ => cases r; cases r'; rfl
  | int i => obtain ⟨t, rfl⟩ := r; exact nomatch k
  | str i => obtain ⟨t, rfl⟩ := r; exact nomatch k
  | byt i => obtain ⟨t, rfl⟩ := r; exact nomatch k
  | flt i => obtain ⟨t, rfl⟩ := r; exact nomatch k
/-- the classes of a tuple, as values -/
theorem isaAny_ok {isa : Str → Str → Option Bool} (xo : XOk X.K X.mg isa) {n : Str} {D : Addr} (hn : X.mg n = some (.ref D)) {H : Hp} : ∀ {cs : List Val} {vs : List V} {b : Bool}, VRs X.K X.mg H cs vs → isaAny isa n cs = some b →
    ∃ us, (∀ ws, Vals vs ws → ws = us) ∧ PySem.W.kitAny X.K (.ref D) us = some b
  | _, _, _, .nil, e => ⟨[], (fun ws r => by cases r; rfl), by cases e; exact kitAny_nil⟩
  | x :: cs, _, b, .cons hx hr, e => by
    cases x with
    | glob m =>
      have e' : (match isa n m, isaAny isa n cs with
        | some b, some c => some (b || c)
        | _, _ => none) = some b := e
      split at e'
      · rename_i b1 c1 e1 e2
        cases e'
        obtain ⟨us, h1, h2⟩ := isaAny_ok xo hn hr e2
        cases hx with
        | glob hm rv =>
          rename_i v _ u
          have k := (xo.isi n m b1 e1 D hn u hm).1
          refine ⟨u :: us, fun ws r => ?_, kitAny_or k h2⟩
          cases r with
          | cons r1 r2 =>
            rw [h1 _ r2]
            congr 1
            exact glob_eq k rv r1
      · cases e'
    | _ => cases e
abbrev rIsAll (X : Cx) : List V → Hp → VK → Prop := fun xs H Q => rIsi X.K xs H Q ∨ rIsE1 X xs H Q ∨ rIsET X xs H Q
theorem r_isi {a : DA} {x : Str} {p pos : Pos} {e : Expr} {es : List Expr} (xo : XOk X.K X.mg C.isa) (hsb : ∀ q ∈ hp, q ∈ X.pn) (hg : Gl X x) (hm : X.mg x = none) (hv : bootBuiltins x = some (.builtin "isinstance"))
    (hn : x ≠ "__name__") (hdb : (x == ("__debug__" : Str)) = false) (he : starEach (e :: es) X.env = (false, eval e X.env) :: starEach es X.env) (hpl : (backTo pos (starEach es X.env)).any (·.1) = false) (ha : PA X (e :: es) (rdA X.K X.mg hp W C a)) :
    PE X (.Call (.Name x p) (e :: es) [] pos) (rdE X.K X.mg hp W C (eIsi a)) := by
  refine PE.weak (pe_callB (call_isi.or (c_isX.or c_isXT)) hg hm hv ha hn hdb he hpl) ?_
  rintro σ H Q ⟨ρ, h, Q', E', s, r, q, k, xw⟩
  refine rdA.step s r q xw fun ys vs h1 H1 vy r1 e1 s1 xw1 q1 => ?_
  replace k := KW.mono (Q' := Q') k e1
  split at q1
  · rename_i x c
    obtain ⟨v, u, rfl, vx, vc⟩ := p2 vy
    split at q1
    · rename_i b eb
      unfold vIsX at eb
      split at eb
      · rename_i n ns ws
        obtain ⟨a, D, rfl, hn, px, oe, d, hm', hz, hf, er⟩ := vx.exc hsb
        split at eb
        · rename_i m
          have vr := vc.vr rfl
          cases vr with
          | glob hm rv =>
            have ki := (xo.isi n m b eb D hn _ hm).1
            exact .inr (.inl ⟨a, D, u, _, b, rfl, px, xo.own n m b eb D hn, fun w' r' => glob_eq ki rv r', ki, k.now r1 (.bl b) q1⟩)
        · rename_i t
          split at eb
          · rename_i et
            subst et
            cases vc.ty
            exact .inr (.inl ⟨a, D, _, .type "ValueError", b, rfl, px, xo.own n _ b eb D hn, fun w' r' => r', xo.val n b eb D hn, k.now r1 (.bl b) q1⟩)
          · cases eb
        · rename_i c0 cr
          obtain ⟨tp, us, rfl, t1, t2⟩ := vc.tp
          obtain ⟨ws', k1, k2⟩ := isaAny_ok xo hn t2 eb
          have ek : ExcK X.K D := by
            cases c0 with
            | glob m0 =>
              have e' : (match C.isa n m0, isaAny C.isa n cr with
                | some b, some c => some (b || c)
                | _, _ => none) = some b := eb
              split at e'
              · rename_i b1 c1 e1 e2
                exact xo.own n m0 b1 e1 D hn
              · cases e'
            | _ => cases eb
          exact .inr (.inr ⟨a, D, tp, us, ws', b, rfl, px, ek, t1, k1, k2, k.now r1 (.bl b) q1⟩)
        · cases eb
      · have z := k_isi (hp := hp) [_, _] _ h1 H1 Q' Q (.cons vx (.cons vc .nil)) r1 (by unfold bIsi; dsimp only; rw [eb]; exact q1) k
        exact .inl z
    · exact q1.elim
  · exact q1.elim
theorem c_isAll : CallR X (.builtin "isinstance") (rIsAll X) := call_isi.or (c_isX.or c_isXT)
end
end WS

/-! WS7: try, defs called where an exception is handled. -/
namespace WS
open PySem PySem.Spec L2 L2H

/-! ### a def, called while the exception at p is handled -/
def spOfZ (K : PySem.W.Frag) (mg : Str → Option Value) (hp : List (Addr × Obj)) (c : List Val → IH → KV → XC → Prop) : Sp := fun vs H Q _ => ∃ ys h Q', Paired (VX K mg hp H) ys vs ∧ RH K mg h H ∧ c ys h Q' noX ∧
  ∀ y v h' H', VX K mg hp H' y v → RH K mg h' H' → Ext h H h' H' → Q' y h' → Q v H'
structure FnZ (P : Program) (w : World) (K : PySem.W.Frag) (mg : Str → Option Value) (base : Heap) (k : Nat) (f : Addr) (fd : FuncData) (ps : List Str) (sp : Sp) (p : Addr × Obj) : Prop where
  len : ∀ vs H Q E, sp vs H Q E → vs.length = ps.length
  run : ∀ (A : Around) (outer : List Env) (s : Shared) (H : Hp) (args : Args) (us : List Value) (vs : List V) (Q : VK) (E : XK),
    RoomH k A → A.guards = some [] → Hot1 A p → PinOk outer H s p → Env0 P w K mg base A outer s H → BindsTo s fd args (ps.zip us) → Vals vs us → sp vs H Q E →
    codeAny (model P w) A (.call (.ref f) args) (L2.CR (L2N.CX P w) outer P w H s Q E) s
theorem fnZ_of {P : Program} {w : World} {K : PySem.W.Frag} {mg : Str → Option Value} {base : Heap} {k : Nat} {f : Addr} {nm ql : Str} {ar : Arguments} {bd : List Stmt} {sc : Scope} {dV kV doc pm cdv ct oc : Value} {an od : Option Addr} {osl : Array (Option Value)}
    {N ps : List Str} {sp : Sp} {p : Addr × Obj} (lk : K.lookup f = some ⟨oc, od, .func (PySem.W.fnOf nm ql ar bd sc dV kV doc pm an cdv ct), osl⟩) (hcd : PySem.W.codeIn K cdv ql = true) (S : FnScope N ps sc) (len : ∀ vs H Q E, sp vs H Q E → vs.length = ps.length)
    (hb : ∀ (A : Around) (outer : List Env) (s : Shared) (H : Hp) (vs : List V) (Q : VK) (E : XK), A.guards = some [] → Hot1 A p → RoomH k (A.deeper (PyProof.Rows.envOfC ql sc s.heap.objs.size f cdv)) → sp vs H Q E →
      ∃ t, PSs (cxH (L2N.CX P w) P w K mg base N ql sc f cdv A outer s H E p) bd t ∧ t { nx := fun _ H' => Q .non H', rt := Q } (L2.start N vs) H) :
    FnZ P w K mg base (k + 1) f (PySem.W.fnOf nm ql ar bd sc dV kV doc pm an cdv ct) ps sp p := by
  refine ⟨len, fun A outer s H args us vs Q E room gd hot pin e0 bind rv hsp => ?_⟩
  have n1 := len _ _ _ _ hsp
  have kin := e0.mod.kin.keeps fun b o e => (e0.bs b o e).1
  have lim := e0.mod.nolimit.keeps fun b o e => (e0.bs b o e).1
  have pars : ∀ y ∈ ps.zip us, sc.names.lookup y.1 = some .local ∨ (sc.names.lookup y.1 = some .cell ∧ ((cellsFrom (s.heap.objs.size + 1) sc.names []).lookup y.1).isSome = true) := by
    rintro ⟨n, v⟩ hy
    refine (S.par n (List.of_mem_zip hy).1).imp id fun q => ⟨q, ?_⟩
    exact PySem.W.cellsFrom_some _ _ _ (.inl q)
  refine codeAny_call_function room.depth (kin _ _ lk) rfl S.co S.gen rfl (PySem.W.codeRec_of kin hcd) (bind _ _ _ _ ?_)
  refine wpAny_newFunctionEnv_cells S.kind pars fun env henv s1 x => ?_
  subst henv
  refine ⟨lim.keeps x.toInCall.keep, codeAny_func ?_⟩
  obtain ⟨t, ht, hq⟩ := hb A outer s H vs Q E gd hot (room.deeper _) hsp
  have I0 := inv_startH (CX := L2N.CX P w) (E := E) (cd := cdv) (f := f) S pin e0 n1 rv x
  refine wpAny_mono (ht.run [] s1 (L2.start N vs) H _ I0 hq) (fun fl s' z => ?_) fun _ _ z => z
  cases fl with
  | ret u => exact let ⟨v, _, H', J, rr, q⟩ := z; ⟨v, H', J.os, J.bare, J.base, J.hok, rr, q⟩
  | next => exact let ⟨_, H', J, q⟩ := z; ⟨.non, H', J.os, J.bare, J.base, J.hok, rfl, q⟩
  | brk => exact let ⟨_, _, _, q⟩ := z; q.elim
  | cont => exact let ⟨_, _, _, q⟩ := z; q.elim
def eCallH (n : Str) (a : DA) : DE := fun C ρ h Q E => a C ρ h (fun xs h1 => C.hot n xs h1 Q noX) E
section
variable {X : Cx} {hp : List (Addr × Obj)} {W : WX} {C : Calls}
theorem r_callH {n : Str} {p pos : Pos} {e : Expr} {es : List Expr} {ca : DA} {k : Nat} {f : Addr} {fd : FuncData} {ps : List Str} {pz : Addr × Obj}
    (F : FnZ X.prog X.w X.K X.mg X.base k f fd ps (spOfZ X.K X.mg [pz] (C.hot n)) pz) (hr : RoomH k X.A) (gd : X.A.guards = some []) (hot : Hot1 X.A pz) (hpz : pz ∈ X.pn) (hg : Gl X n) (hm : X.mg n = some (.ref f)) (hk : PySem.W.keepIn X.K (.ref f) = true) (hb : Binds X.K fd ps [])
    (hdb : (n == ("__debug__" : Str)) = false) (he : starEach (e :: es) X.env = (false, eval e X.env) :: starEach es X.env) (hpl : (backTo pos (starEach es X.env)).any (·.1) = false) (ha : PA X (e :: es) (rdA X.K X.mg [pz] W C ca)) :
    PE X (.Call (.Name n p) (e :: es) [] pos) (rdE X.K X.mg [pz] W C (eCallH n ca)) := by
  refine ⟨fun pins s σ H Q I z => ?_⟩
  obtain ⟨ρ, h, Q', E', sr, r, q, kk, xw⟩ := z
  refine wpAny_Call_Name_kw (ld_glob I hg hm ?_ hdb)
  have za : rdA X.K X.mg [pz] W C ca σ H fun vs H1 => ∃ ys h1, Paired (VX X.K X.mg [pz] H1) ys vs ∧ RH X.K X.mg h1 H1 ∧ Ext h H h1 H1 ∧ C.hot n ys h1 Q' noX := rdA.step sr r q xw fun ys vs h1 H1 vy r1 e1 _ _ q1 => ⟨ys, h1, vy, r1, e1, q1⟩
  refine PySem.W.callWith_K (h₀ := X.base) I.ok.mod.kin hk (thn (ha.run pos pins s σ H _ I za) ?_) he hpl
  rintro us s1 ⟨vs, H1, I1, rv, ys, h1, vy, r1, e1, q1⟩
  refine ⟨I1.kIn, ?_⟩
  have hsp : spOfZ X.K X.mg [pz] (C.hot n) vs H1 Q (fun _ _ _ => False) := ⟨ys, h1, Q', vy, r1, q1, fun y v h' H' a b c d => kk y v h' H' a b (e1.trans c) d⟩
  have P1 := I1.pin pz (List.mem_append_left _ hpz)
  have hl : us.length = ps.length := by rw [← rv.length]; exact F.len _ _ _ _ hsp
  have b := hb s1 us I1.kIn (by rw [List.append_nil]; exact hl)
  rw [List.append_nil] at b
  have pk : PinOk X.stack H1 s1 pz := ⟨P1.1, P1.2.1, fun z => (List.mem_cons.mp (I1.stkSub pz.1 z)).elim (fun z => P1.2.2.1 z) (fun z => P1.2.2.2.1 z), P1.2.2.2.2⟩
  refine wpAny_call (codeAny_mono (F.run X.A X.stack s1 H1 ⟨us, []⟩ us vs Q _ hr gd hot pk I1.env0 b rv hsp) ?_)
  intro res s2 z
  cases res with
  | error x => obtain ⟨_, _, _, _, _, _, _, _, _, _, _, _, f⟩ := z; exact f.elim
  | ok fl => cases fl with
    | ret u => exact I1.after z
    | _ => exact z.elim

/-! ### e.f of the handled exception -/
def eXf (f : Str) (a : DE) : DE := fun C ρ h Q E => a C ρ h (fun x h1 => match x with
  | .exc c ns vs => (C.isa c c).isSome = true ∧ f ∈ (["person", "many", "seats", "owed", "at"] : List Str) ∧ match (ns.zip vs).lookup f with
    | some y => Q y h1
    | none => False
  | _ => False) E
theorem zip_look {H : Hp} {f : Str} {y : Val} : ∀ {ns : List Str} {vs : List Val} {us : List V}, VRs X.K X.mg H vs us → (ns.zip vs).lookup f = some y → ∃ u, (ns.zip us).lookup f = some u ∧ VR X.K X.mg H y u
  | [], _, _, _, e => by simp at e
  | n :: ns, _, _, .nil, e => by simp at e
  | n :: ns, _, _, .cons a b, e => by
    rw [List.zip_cons_cons, List.lookup_cons] at e
    rw [List.zip_cons_cons, List.lookup_cons]
    cases q : f == n with
    | true =>
      rw [q] at e
      cases e
      exact ⟨_, rfl, a⟩
    | false =>
      rw [q] at e
      exact zip_look b e
theorem r_xf {e : Expr} {f : Str} {c : DE} {pos : Pos} (xo : XOk X.K X.mg C.isa) (hfi : ∀ n D, X.mg n = some (.ref D) → (C.isa n n).isSome = true → f ∈ (["person", "many", "seats", "owed", "at"] : List Str) → PySem.W.findIn X.K (.ref D) f = some none) (hs : ∀ q ∈ hp, q ∈ X.pn)
    (hb : attributeBase e f X.env (eval e X.env) = eval e X.env) (he : PE X e (rdE X.K X.mg hp W C c)) : PE X (.Attribute e f pos) (rdE X.K X.mg hp W C (eXf f c)) := by
  refine ⟨fun pins s σ H Q I z => ?_⟩
  obtain ⟨ρ, h, Q', E', sr, r, q, kk, xw⟩ := z
  refine attr_of hb (thn (he.run pins s σ H _ I (rdE.step (R := fun v H1 => ∃ y h1, VX X.K X.mg hp H1 y v ∧ RH X.K X.mg h1 H1 ∧ Ext h H h1 H1 ∧ (match y with
    | .exc c ns vs => (C.isa c c).isSome = true ∧ f ∈ (["person", "many", "seats", "owed", "at"] : List Str) ∧ match (ns.zip vs).lookup f with
      | some y => Q' y h1
      | none => False
    | _ => False)) sr r q xw fun y v h1 H1 vy r1 e1 _ _ q1 => ⟨y, h1, vy, r1, e1, q1⟩)) ?_)
  rintro u s1 ⟨v, H1, I1, rv, y, h1, vy, r1, e1, q1⟩
  cases y with
  | exc cn ns ws =>
    obtain ⟨i1, i2, q1⟩ := q1
    obtain ⟨a, D, rfl, hn, px, oe, d, hm, hz, ⟨fs, hf⟩, er⟩ := vy.exc hs
    cases hl : (ns.zip ws).lookup f with
    | none => rw [hl] at q1; exact q1.elim
    | some x =>
      rw [hl] at q1
      cases rv
      rcases er.2 with ⟨z1, z2, _⟩ | ⟨dd, us, rfl, hx, hv, _⟩
      · have z1' : ns = [] := z1
        subst z1'
        simp at hl
      · obtain ⟨mA, hns, hr⟩ := (show ObjOk X.prog X.w H1 s1.heap dd (.xd (ns.zip us)) from I1.hok dd _ hx)
        obtain ⟨od, ho, hlk⟩ := lookIn_ns hns
        obtain ⟨w', hw, vw⟩ := zip_look hv hl
        obtain ⟨u', hu, ru⟩ := RelO.some_of (v := w') (o := mA f) (by rw [← hw]; exact hr f)
        obtain ⟨g, _⟩ := I1.pin (a, oe) (List.mem_append_left _ (hs _ hm))
        have J : PySem.W.InstAt s1.heap a oe D (some od) := ⟨g, hz.1, by unfold PySem.W.notCls; rw [hf] <;> rfl, by rw [hz.2]; exact ho⟩
        cases hi : C.isa cn cn with
        | none => rw [hi] at i1; cases i1
        | some bb =>
          have ek := xo.own cn cn bb hi D hn
          exact HandSPX.exc_get I1.kIn J ek.ga ek.gg ek.sb (PySem.W.findObj_own ek.hd (hfi cn D hn i1 i2) rfl (by rw [hlk, hu])) (handed_of ru) ⟨w', H1, I1.tok _, ru, kk x w' h1 H1 (.inl vw) r1 e1 q1⟩
  | _ => exact q1.elim

/-! ### try -/
/-- what a suite wants: behind it no exception is held by a name -/
def suD (D : SEnds) : SEnds := ⟨fun ρ h => plainR ρ = true ∧ D.nx ρ h, fun y h => plain y = true ∧ D.rt y h, fun ρ h => plainR ρ = true ∧ D.bk ρ h, fun ρ h => plainR ρ = true ∧ D.ct ρ h, fun _ => noX⟩
def hnd (C : Calls) (D : SEnds) (ρ : Rho) (e : Exc) (h : IH) : List (Str × DS) → Prop
  | [] => D.ex ρ e h
  | (c, u) :: r => match C.isa e.c c with
    | some true => plainR ρ = true ∧ u C (suD D) ρ h
    | some false => hnd C D ρ e h r
    | none => False
def sTry (hs : List (Str × DS)) (b : DS) : DS := fun C D ρ h => b C { D with ex := fun ρ1 e h1 => hnd C D ρ1 e h1 hs } ρ h
def suI (i : Nat) (D : SEnds) : SEnds := ⟨fun ρ h => plainR (ρ.set i none) = true ∧ D.nx (ρ.set i none) h, fun y h => plain y = true ∧ D.rt y h, fun ρ h => plainR (ρ.set i none) = true ∧ D.bk (ρ.set i none) h, fun ρ h => plainR (ρ.set i none) = true ∧ D.ct (ρ.set i none) h, fun _ => noX⟩
def sTryAs (c : Str) (i : Nat) (u b : DS) : DS := fun C D ρ h => b C { D with ex := fun ρ1 e h1 => match C.isa e.c c with
  | some true => plainR ρ1 = true ∧ u C (suI i D) (ρ1.set i (some (.exc e.c e.ns e.vs))) h1
  | some false => D.ex ρ1 e h1
  | none => False } ρ h
/-- the reading of a suite, for whatever lies at a -/
def tsX (K : PySem.W.Frag) (mg : Str → Option Value) (C : Calls) (u : DS) : Addr → Value → Option Addr → TS := fun a cls d D σ H => ∀ oe, L2N.Zn cls d oe → (∃ vs, oe.data = .fields vs) → rdS K mg [(a, oe)] (fun _ _ _ _ => False) C u D σ H
/-- the classes that handlers name, as values -/
def HdV (X : Cx) : List (Str × DS) → List (Value × (Addr → Value → Option Addr → TS)) → Calls → Prop
  | [], [], _ => True
  | (c, u) :: r, (v, ts) :: l, C => X.mg c = some v ∧ ts = tsX X.K X.mg C u ∧ HdV X r l C
  | _, _, _ => False
theorem dw_pins {D' : SEnds} {D : Ends} {h : IH} {H : Hp} {hp' : List (Addr × Obj)} (k : DW X.K X.mg hp W h H D' D) : DW X.K X.mg hp' (fun _ _ _ _ => False) h H (suD D') D :=
  ⟨fun ρ' σ' h' H' s r e => ⟨fun z => (k.1 ρ' σ' h' H' (plainR_nil s z.1 _) r e).1 z.2, fun z => (k.1 ρ' σ' h' H' (plainR_nil s z.1 _) r e).2.1 z.2, fun z => (k.1 ρ' σ' h' H' (plainR_nil s z.1 _) r e).2.2 z.2⟩,
    fun y v h' H' a r e z => k.2.1 y v h' H' (.inl (a.vr z.1)) r e z.2, fun ρ' σ' x h' H' c d s a r e z => z.elim⟩
theorem hnd_ok (xo : XOk X.K X.mg C.isa) {D' : SEnds} {D : Ends} {h : IH} {H : Hp} {ρ : Rho} {σ : L2.St} {e : Exc} {cls : Value} {d : Option Addr} (s : SR X.K X.mg hp H ρ σ) (r : RH X.K X.mg h H) (er : ER X.K X.mg H e cls d) (k : DW X.K X.mg hp W h H D' D) :
    ∀ {hs : List (Str × DS)} {l : List (Value × (Addr → Value → Option Addr → TS))}, HdV X hs l C → hnd C D' ρ e h hs → wMany X.K W D l cls d σ H
  | [], [], _, q => k.2.2 ρ σ e h H cls d s er r .refl q
  | [], _ :: _, z, _ => z.elim
  | _ :: _, [], z, _ => z.elim
  | (c, u) :: hs, (v, ts) :: l, ⟨hm, ht, hr⟩, q => by
    obtain ⟨⟨Dc, hn, rfl⟩, _⟩ := id er
    have q' : (match C.isa e.c c with
      | some true => plainR ρ = true ∧ u C (suD D') ρ h
      | some false => hnd C D' ρ e h hs
      | none => False) := q
    split at q'
    · rename_i hb
      refine ⟨true, (xo.isi _ _ _ hb _ hn _ hm).2, fun _ a na => ?_, fun z => nomatch z⟩
      subst ht
      intro oe zn hf
      exact ⟨ρ, h, suD D', plainR_nil s q'.1 _, r, q'.2, dw_pins k⟩
    · rename_i hb
      exact ⟨false, (xo.isi _ _ _ hb _ hn _ hm).2, fun z => (Bool.false_ne_true z).elim, fun _ => hnd_ok xo s r er k hr q'⟩
    · exact q'.elim
theorem r_try {body : List Stmt} {h₀ : ExceptHandler} {hds : List ExceptHandler} {l : List (Value × (Addr → Value → Option Addr → TS))} {pos : Pos} {cb : DS} {hs : List (Str × DS)} (xo : XOk X.K X.mg C.isa) (hst : X.stack = X.env :: X.outer) (hf : X.env.frame = some X.env.locals) (tk : L2N.Takes X W)
    (hb : ∀ (W : WX) (pn : List (Addr × Obj)) (xe : Value → Shared → Prop), L2N.Takes (X.tr pn xe) W → PassesOwn (model X.prog X.w) X.A X.env xe → PSs (X.tr pn xe) body (rdS X.K X.mg hp W C cb)) (hh : L2N.HdsOk X (h₀ :: hds) l) (hv : HdV X hs l C) :
    PS X (.Try body (h₀ :: hds) [] [] pos) (rdS X.K X.mg hp W C (sTry hs cb)) := by
  refine PS.weak (L2N.ps_try_many hst hf tk hb hh) ?_
  rintro D σ H ⟨ρ, h, D', s, r, q, k⟩
  exact ⟨ρ, h, _, s, r, q, k.1, k.2.1, fun ρ' σ' e h' H' cls d s' a r' e' z => hnd_ok xo s' r' a (DW.mono k e') hv z⟩
theorem r_tryAs {body suite : List Stmt} {b₀ : Stmt} {c n : Str} {i : Nat} {np pos pos' : Pos} {v : Value} {cb cu : DS} (xo : XOk X.K X.mg C.isa) (hst : X.stack = X.env :: X.outer) (hf : X.env.frame = some X.env.locals) (hN : X.N.Nodup) (hi : X.N[i]? = some n) (hln : X.env.kindOf n = some .local)
    (hc : Names X c v) (hm : X.mg c = some v) (tk : L2N.Takes X W)
    (hb : ∀ (W : WX) (pn : List (Addr × Obj)) (xe : Value → Shared → Prop), L2N.Takes (X.tr pn xe) W → PassesOwn (model X.prog X.w) X.A X.env xe → PSs (X.tr pn xe) body (rdS X.K X.mg hp W C cb))
    (hsu : ∀ (a : Addr) (oe : Obj) (cls : Value) (d : Option Addr) (pn : List (Addr × Obj)), L2N.Zn cls d oe → (∃ vs, oe.data = .fields vs) → PSs (X.suite a ((a, oe) :: pn)) (b₀ :: suite) (rdS X.K X.mg [(a, oe)] (fun _ _ _ _ => False) C cu)) :
    PS X (.Try body [.ExceptHandler (some (.Name c np)) (some n) (b₀ :: suite) pos'] [] [] pos) (rdS X.K X.mg hp W C (sTryAs c i cu cb)) := by
  refine PS.weak (L2N.ps_try_as (ts := tsX X.K X.mg C cu) hst hf hN hi hln hc tk hb fun a oe cls d pn zn hfs => PSs.weak (hsu a oe cls d pn zn hfs) fun D σ H z => z oe zn hfs) ?_
  rintro D σ H ⟨ρ, h, D', s, r, q, k⟩
  refine ⟨ρ, h, _, s, r, q, k.1, k.2.1, fun ρ1 σ1 e h1 H1 cls d s1 er r1 e1 z => ?_⟩
  obtain ⟨⟨Dc, hn, rfl⟩, _⟩ := id er
  have k1 := DW.mono k e1
  have z' : (match C.isa e.c c with
    | some true => plainR ρ1 = true ∧ cu C (suI i D') (ρ1.set i (some (.exc e.c e.ns e.vs))) h1
    | some false => D'.ex ρ1 e h1
    | none => False) := z
  split at z'
  · rename_i hb'
    refine ⟨true, (xo.isi _ _ _ hb' _ hn _ hm).2, fun _ a na oe zn hfs => ?_, fun z => nomatch z⟩
    have vx : VX X.K X.mg [(a, oe)] H1 (.exc e.c e.ns e.vs) (.ref a) := .inr ⟨e.c, e.ns, e.vs, a, oe, _, d, rfl, rfl, by simp, L2N.Zn.zc zn, hfs, er⟩
    refine ⟨ρ1.set i (some (.exc e.c e.ns e.vs)), h1, suI i D', (plainR_nil s1 z'.1 _).set vx, r1, z'.2, fun ρ2 σ2 h2 H2 s2 r2 e2 => ?_, fun y v h2 H2 a r2 e2 z => k1.2.1 y v h2 H2 (.inl (a.vr z.1)) r2 e2 z.2, fun ρ2 σ2 x h2 H2 c d s a r e z => z.elim⟩
    exact ⟨fun z => (k1.1 _ _ h2 H2 (plainR_nil s2.unset z.1 _) r2 e2).1 z.2, fun z => (k1.1 _ _ h2 H2 (plainR_nil s2.unset z.1 _) r2 e2).2.1 z.2, fun z => (k1.1 _ _ h2 H2 (plainR_nil s2.unset z.1 _) r2 e2).2.2 z.2⟩
  · rename_i hb'
    exact ⟨false, (xo.isi _ _ _ hb' _ hn _ hm).2, fun z => (Bool.false_ne_true z).elim, fun _ => k1.2.2 ρ1 σ1 e h1 H1 _ d s1 er r1 .refl z'⟩
  · exact z'.elim
end
end WS

/-! WSB: any, all where an exception is handled. -/
namespace WS
open PySem PySem.Spec L2 L2H

section
variable {prog : Program} {w : World} {A : Around} {E : Value → Shared → Prop} {s : Shared}
/-- a list's iterator at its end, while the exception at x1 is handled -/
theorem list_end_hot {J l x1 : Addr} {i : Nat} {items : Array Value} {Q : Option Value → Shared → Prop} (hot : HotX.HotAt A x1 s.heap) (ne : J ≠ x1) (jt : s.heap.IsListIter J l i) (jl : s.heap.IsList l items) (jx : items[i]? = none)
    (k : ∀ h', Heap.ExtBut J s.heap h' → Q none { s with heap := h' }) : wpAny (model prog w) A (pyNext (.ref J)) Q E s := by
  obtain ⟨o, ho, hc, hd⟩ := id jt
  obtain ⟨ol, hol, _, nl, hdl⟩ := jl
  obtain ⟨hh, o1, vs1, h1, d1, c1⟩ := hot
  unfold pyNext
  have T := jt.typeIs
  refine wpAny_bind (wpAny_attempt (wpAny_callSpecial?_slot T slot_listiter_next (wpAny_call_entry slot_listiter_next T entry_listiter_next ?_ (args_listiter_next _)))); show wpAny _ _ (field (.ref J) 0 >>= _) _ _ s
  refine wpAny_bind (wpAny_field ho hd (x := .ref l) rfl ?_); show wpAny _ _ (if (Value.ref l == Value.none) = true then _ else _) _ _ s
  refine (if_neg (show ¬ ((Value.ref l == Value.none) = true) from Bool.false_ne_true)) ▸ ?_; show wpAny _ _ (field (.ref J) 1 >>= _) _ _ s
  refine wpAny_bind (wpAny_field ho hd (x := .int i 0) rfl ?_); show wpAny _ _ (seqItems? (.ref l) >>= _) _ _ s
  refine wpAny_bind (wpAny_seqItems hol hdl ?_); simp only [Int.toNat_natCast, jx]
  refine wpAny_bind (wpAny_rule (wpAny_bind (wpAny_setField ho hd (by simp) ?_))); show wpAny _ _ (newExc (.type "StopIteration") [] >>= _) _ _ _
  refine wpAny_bind ?_; simp only [newExc, newTuple]
  refine wpAny_bind (wpAny_newObj_type ?_ (by size_fits)); refine wpAny_bind (m := firstArgMember _ _) (wpAny_of_eq (a := Value.none) (by first | rfl | (simp only [firstArgMember]; rfl)) ?_)
  refine wpAny_newObj_type ?_ (by size_fits)
  have g1 : (s.heap.update J (Obj.mapFields (·.setIfInBounds 0 Value.none))).get? x1 = some o1 := by
    rw [Heap.get?_update_other _ _ ne]
    exact h1
  refine HotX.raiseNew_hot ⟨hh, o1, vs1, Heap.get?_push_of_some _ (Heap.get?_push_of_some _ g1), d1, c1⟩ (Nat.ne_of_lt (Heap.lt_size (Heap.get?_push_of_some _ g1))) (Heap.get?_push_size _ rfl) rfl (by first | (simp; done) | (simp; omega)) ?_
  refine wpAny_bind (wpAny_isInstance (T := "StopIteration") (b := true) ⟨_, Heap.get?_update_self _ (Heap.get?_push_size _ rfl) rfl, rfl⟩ isSubtype_stop ?_)
  refine wpAny_pure (k _ fun b u nb e => ?_)
  have g2 : (s.heap.update J (Obj.mapFields (·.setIfInBounds 0 Value.none))).get? b = some u := by
    rw [Heap.get?_update_other _ _ (Ne.symm nb)]
    exact e
  have g3 := Heap.get?_push_of_some { cls := .type "tuple", data := .seq #[] } g2
  rw [Heap.get?_update_other _ _ (Nat.ne_of_gt (Heap.lt_size (Heap.get?_push_of_some _ g2)))]
  exact Heap.get?_push_of_some _ (Heap.get?_push_of_some _ g2)
theorem Walks.listH {x1 : Addr} (hh : A.handled = some (.ref x1)) (J ax : Addr) (hne : ax ≠ J) (nx : J ≠ x1) (items : Array Value) :
    Walks prog w A J [J, ax, x1] [J] items.size (fun i v => items[i]? = some v) (fun i h => (h.IsListIter J ax i ∧ h.IsList ax items) ∧ HotX.HotAt A x1 h) where
  sub := fun b hb => by rw [List.mem_singleton.mp hb]; exact List.mem_cons_self
  frame := fun _ h h' st hk => by
    refine ⟨⟨st.1.1.at fun o e => hk J (by simp) o e, st.1.2.at fun o e => hk ax (by simp) o e⟩, hh, ?_⟩
    obtain ⟨_, o, vs, a, b⟩ := st.2
    exact ⟨o, vs, hk x1 (by simp) o a, b⟩
  item := fun i s Q E hi st hQ => by
    refine wpAny_pyNext_list_item st.1.1 st.1.2 (x := items[i]) (by simp [hi]) fun h' hit' hs' => ?_
    refine hQ _ h' s.toks (by simp [hi]) ⟨⟨hit', st.1.2.extBut hs'.extBut hne⟩, hh, ?_⟩ fun b o hb e => hs'.extBut b o (fun h => hb (by simp [h])) e
    obtain ⟨_, o, vs, a, b⟩ := st.2
    exact ⟨o, vs, hs'.extBut x1 o (Ne.symm nx) a, b⟩
  done := fun s Q E st hQ => list_end_hot st.2 nx st.1.1 st.1.2 (by simp) fun h' he' => hQ h' s.toks fun b o hb e => he' b o (fun h => hb (by simp [h])) e
  self := fun _ _ _ _ st hQ => wpAny_pyIter_listiter st.1.1 hQ
end
section
variable {X : Cx} {p : Addr × Obj}
theorem cr_anyH (hot : Hot1 X.A p) (hp : p ∈ X.pn) : CallR X (.builtin "any") (rAny X.K) := by
  intro pins s σ H vs us Q I r h
  obtain ⟨a, bs, rfl, hs, q⟩ := h
  obtain ⟨its, rv, hl, _⟩ := I.list hs
  rw [Vals.ref1 r]
  have hb := rv.bls
  obtain ⟨g, _⟩ := I.pin p (List.mem_append_left _ hp)
  refine call_any_walk (iter_any hl.isList fun s₂ e2 st hne => ?_)
  subst e2
  have gn : p.1 ≠ s.heap.objs.size := Nat.ne_of_lt (Heap.lt_size g)
  refine ⟨_, _, _, _, _, _, _, rfl, Walks.listH (A := X.A.in1) hot.1 _ a hne (Ne.symm gn) its.toArray, ⟨st, hot.1, p.2, ?_⟩, truth_bools hb, fun h' tk hk => ?_⟩
  · obtain ⟨vs, h1, h2⟩ := hot.2
    exact ⟨vs, Heap.get?_push_of_some _ g, h1, h2⟩
  refine ⟨.bl _, H, I.kept fun b o eo => hk b o (fun hm => ?_) (Heap.get?_push_of_some _ eo), ?_, q⟩
  · rcases List.mem_cons.mp hm with e1 | hm
    · exact absurd (e1 ▸ Heap.lt_size eo) (Nat.lt_irrefl _)
    · cases hm
  · show Value.bool _ = Value.bool _
    rw [← any_range, hb, List.size_toArray, List.length_map]
end

/-! ### {}, {k: v} -/
def eD0 : DE := fun _ _ h Q _ => ∀ p, h p = none → Q (.ref p) (put h p (.dct []))
def keyOf : Val → Option Key
  | .int i => some (.inl i)
  | .str s => some (.inr s)
  | _ => none
def eD1 (a b : DE) : DE := fun C ρ h Q E => a C ρ h (fun x h1 => b C ρ h1 (fun y h2 => (keyOf x).isSome = true ∧ plain y = true ∧ ∀ p, h2 p = none → Q (.ref p) (put h2 p (.dct [(x, y)]))) E) E
section
variable {X : Cx} {hp : List (Addr × Obj)} {W : WX} {C : Calls}
theorem r_d0 {pos : Pos} : PE X (.Dict [] [] pos) (rdE X.K X.mg hp W C eD0) := by
  refine PE.weak pe_dnewK ?_
  rintro σ H Q ⟨ρ, h, Q', E, s, rh, q, k, xw⟩ p n
  have c : CR X.K X.mg H (.dct []) (.dK []) := .dct (ks := []) (us := []) rfl .nil rfl
  obtain ⟨r2, e2, n'⟩ := rh.alloc n c
  exact k (.ref p) (.ref p) _ _ (.inl (.ref p)) r2 e2 (q p n')
/-- an object that nobody told of is written, no tuple or list that is read stood there -/
theorem keep_dk {H : Hp} {p : Addr} {kvs kvs' : List (Key × V)} (e : H p = some (.dK kvs)) : TupKeep X.K H (upd H p (.dK kvs')) := by
  refine ⟨fun a vs s => ?_, fun a vs s => ?_⟩
  · rcases s with (s | ⟨o, s⟩) | s
    · exact .inl (.inl (by rw [upd_ne (fun z => by rw [z, e] at s; cases s)]; exact s))
    · exact .inl (.inr ⟨o, by rw [upd_ne (fun z => by rw [z, e] at s; cases s)]; exact s⟩)
    · exact .inr s
  · rcases s with ⟨o, s⟩ | s
    · exact .inl ⟨o, by rw [upd_ne (fun z => by rw [z, e] at s; cases s)]; exact s⟩
    · exact .inr s
theorem keyOf_ok {H : Hp} {x : Val} {v : V} (vx : VX X.K X.mg hp H x v) (h : (keyOf x).isSome = true) : ∃ k : Key, v = kV k ∧ x = (match k with | .inl i => Val.int i | .inr s => Val.str s) := by
  cases x with
  | int i => cases vx.int; exact ⟨.inl i, rfl, rfl⟩
  | str z => cases vx.str; exact ⟨.inr z, rfl, rfl⟩
  | _ => cases h
theorem r_d1 {a b : Expr} {ca cb : DE} {pos : Pos} (ha : PE X a (rdE X.K X.mg hp W C ca)) (hb : PE X b (rdE X.K X.mg hp W C cb)) : PE X (.Dict [some a] [b] pos) (rdE X.K X.mg hp W C (eD1 ca cb)) := by
  refine PE.weak (pe_disp (pps_cons ha hb pps_nil) rfl rfl (by simp) (by simp)) ?_
  rintro σ H Q ⟨ρ, h, Q', E, s, rh, q, k, xw⟩ p n
  have c : CR X.K X.mg H (.dct []) (.dK []) := .dct (ks := []) (us := []) rfl .nil rfl
  obtain ⟨r0, e0, n'⟩ := rh.alloc n c
  have sb : Sub h (put h p (.dct [])) := sub_put n'
  have r1 := r0.sub sb
  have e1 := e0.sub sb
  refine rdE.step (s.mono rh e1) r1 q (xw.mono e1) fun x v h2 H2 vx r2 e2 s2 xw2 q2 => ?_
  refine rdE.step s2 r2 q2 xw2 fun y u h3 H3 vy r3 e3 s3 xw3 q3 => ?_
  obtain ⟨kx, py, q3⟩ := q3
  have d2 : H2 p = some (.dK []) := e2.fr p _ upd_same n'
  have n2 : h2 p = none := e2.nw p _ upd_same n'
  have d3 : H3 p = some (.dK []) := e3.fr p _ d2 n2
  have n3 : h3 p = none := e3.nw p _ d2 n2
  obtain ⟨kk, rfl, ex⟩ := keyOf_ok (vx.mono r2 e3) kx
  have tk : TupKeep X.K H3 (upd H3 p (.dK (mergeK [] [(kk, u)]))) := keep_dk d3
  have eq1 : mergeK [] [(kk, u)] = [(kk, u)] := by
    cases kk <;> rfl
  have cr : CR X.K X.mg (upd H3 p (.dK (mergeK [] [(kk, u)]))) (.dct [(x, y)]) (.dK (mergeK [] [(kk, u)])) := by
    rw [eq1]
    rw [eq1] at tk
    have z : CR X.K X.mg (upd H3 p (.dK [(kk, u)])) (.dct [(x, y)]) (.dK ([kk].zip [u])) := .dct (by rw [ex]; cases kk <;> rfl) (.cons ((vy.vr py).mono tk) .nil) rfl
    exact z
  refine ⟨d3, [(kk, u)], rfl, by simp, k (.ref p) (.ref p) (put h3 p (.dct [(x, y)])) _ (.inl (.ref p)) (fun a d ea => ?_) ?_ (q3 p n3)⟩
  · by_cases za : a = p
    · subst za
      rw [put_same] at ea
      cases ea
      exact ⟨_, upd_same, cr⟩
    · rw [put_ne za] at ea
      obtain ⟨o, g1, g2⟩ := r3 a d ea
      exact ⟨o, by rw [upd_ne za]; exact g1, g2.mono tk⟩
  · have e4 := e1.trans (e2.trans e3)
    refine ⟨fun a o g1 g2 => ?_, fun a o g1 g2 => ?_, fun a ob z g1 => ?_⟩
    · have na : a ≠ p := fun z => by rw [z, n] at g1; cases g1
      rw [upd_ne na]
      exact e4.fr a o g1 g2
    · have na : a ≠ p := fun z => by rw [z, n] at g1; cases g1
      rw [put_ne na]
      exact e4.nw a o g1 g2
    · have na : a ≠ p := fun z => by rw [z, n] at g1; cases g1
      rw [upd_ne na]
      exact e4.fz a ob z g1
end
end WS

/-! WSC: enumerate and zip of lists and tuples. -/
namespace WS
open PySem PySem.Spec L2 PyProof.Rows
/-! ### where items come from -/
inductive Src where
  | l | t
def SqS (K : PySem.W.Frag) (H : Hp) : Src → Addr → List V → Prop
  | .l, a, xs => SqL K H a xs
  | .t, a, xs => SqT K H a xs
def IsIt (h : Heap) : Src → Addr → Addr → Nat → Prop
  | .l, it, a, i => h.IsListIter it a i
  | .t, it, a, i => h.IsTupleIter it a i
def IsSq (h : Heap) : Src → Addr → Array Value → Prop
  | .l, a, v => h.IsList a v
  | .t, a, v => h.IsTuple a v
def srcO : Src → Addr → Obj
  | .l, a => { cls := .type "list_iterator", data := .fields #[.ref a, .int 0 0] }
  | .t, a => { cls := .type "tuple_iterator", data := .fields #[.ref a, .int 0 0] }
theorem src_begins : ∀ (k : Src) (a : Addr) (its : Array Value), Begins (.ref a) (srcO k a) (fun h => IsSq h k a its)
  | .l, a, its => begins_list a its
  | .t, a, its => begins_tuple a its
theorem src_it {h : Heap} : ∀ {k : Src} {it a : Addr}, h.get? it = some (srcO k a) → IsIt h k it a 0
  | .l, _, _, e => ⟨_, e, rfl, rfl⟩
  | .t, _, _, e => ⟨_, e, rfl, rfl⟩
theorem src_at {h h' : Heap} : ∀ {k : Src} {it a : Addr} {i : Nat}, IsIt h k it a i → (∀ o, h.get? it = some o → h'.get? it = some o) → IsIt h' k it a i
  | .l, _, _, _, x, e => x.at e
  | .t, _, _, _, x, e => x.at e
theorem src_sq {h h' : Heap} : ∀ {k : Src} {a : Addr} {v : Array Value}, IsSq h k a v → (∀ o, h.get? a = some o → h'.get? a = some o) → IsSq h' k a v
  | .l, _, _, x, e => x.at e
  | .t, _, _, x, e => x.at e
theorem src_rec {h : Heap} : ∀ {k : Src} {it a : Addr} {i : Nat}, IsIt h k it a i → ∃ o, h.get? it = some o ∧ ∀ v, o.data ≠ .cell v
  | .l, _, _, _, ⟨o, e, _, d⟩ => ⟨o, e, fun v q => by rw [d] at q; cases q⟩
  | .t, _, _, _, ⟨o, e, _, d⟩ => ⟨o, e, fun v q => by rw [d] at q; cases q⟩
theorem src_lt {h : Heap} {k : Src} {it a : Addr} {i : Nat} (x : IsIt h k it a i) : it < h.objs.size := let ⟨_, e, _⟩ := src_rec x; Heap.lt_size e
theorem sq_lt {h : Heap} : ∀ {k : Src} {a : Addr} {v : Array Value}, IsSq h k a v → a < h.objs.size
  | .l, _, _, ⟨_, e, _⟩ => Heap.lt_size e
  | .t, _, _, ⟨_, e, _⟩ => Heap.lt_size e
theorem src_draws {prog : Program} {w : World} {A : Around} (hh : A.handled = none) {it a : Addr} (hne : a ≠ it) : ∀ (k : Src) (its : Array Value),
    Draws prog w A it [it, a] its.size (fun i v => its[i]? = some v) (fun i h => IsIt h k it a i ∧ IsSq h k a its)
  | .l, its => Draws.list hh it a hne its
  | .t, its => Draws.tuple hh it a hne its
theorem src_past {prog : Program} {w : World} {A : Around} (hh : A.handled = none) {it a : Addr} : ∀ (k : Src) (its : Array Value) {i : Nat}, its.size ≤ i →
    Draws prog w A it [it, a] i (fun _ _ => True) (fun j h => j = i ∧ IsIt h k it a j ∧ IsSq h k a its)
  | k, its, i, hi => {
      live := fun _ _ st => let ⟨o, ho, _⟩ := src_rec st.2.1; ⟨o, ho⟩
      frame := fun _ _ _ st hk => ⟨st.1, src_at st.2.1 fun o e => hk it (by simp) o e, src_sq st.2.2 fun o e => hk a (by simp) o e⟩
      item := fun j s Q E hj st hQ => absurd hj (by rw [st.1]; exact Nat.lt_irrefl _)
      done := fun s Q E st hE => by
        obtain ⟨_, s1, s2⟩ := st
        cases k with
        | l => exact wpAny_nextOf_list_end hh s1 s2 (by simp [hi]) hE
        | t => exact wpAny_nextOf_tuple_end hh s1 s2 (by simp [hi]) hE }
def GoS (K : PySem.W.Frag) (k : Src) (a : Addr) (i : Nat) (H : Hp) : Prop := ∃ (xs : List V) (x : V), SqS K H k a xs ∧ xs[i]? = some x
def AtS (K : PySem.W.Frag) (k : Src) (a : Addr) (i : Nat) (H : Hp) (x : V) : Prop := ∀ xs, SqS K H k a xs → xs[i]? = some x
def OnS (K : PySem.W.Frag) (k : Src) (a : Addr) (H : Hp) : Prop := ∃ xs : List V, SqS K H k a xs
def StS (K : PySem.W.Frag) (k : Src) (a : Addr) (i : Nat) (H : Hp) : Prop := ∃ xs : List V, SqS K H k a xs ∧ xs.length ≤ i
section
variable {X : Cx} {pins : List (Addr × Obj)} {σ : L2.St} {H : Hp} {s : Shared} {a it : Addr} {i : Nat}
theorem src_on (I : Inv X pins σ H s) : ∀ {k : Src} {xs : List V}, SqS X.K H k a xs → ∃ its : Array Value, IsSq s.heap k a its ∧ its.size = xs.length ∧ ∀ (j : Nat) (x : V), xs[j]? = some x → ∀ u, its[j]? = some u → RelV x u
  | .l, xs, h => by
    obtain ⟨its, rv, p, _⟩ := I.list h
    refine ⟨its.toArray, p.isList, by simp [rv.length], fun j x hx u hu => ?_⟩
    obtain ⟨u', e, r⟩ := rv.get hx
    rw [List.getElem?_toArray, e] at hu
    cases hu
    exact r
  | .t, xs, h => by
    obtain ⟨its, rv, p, _⟩ := I.tuple h
    refine ⟨its.toArray, p, by simp [rv.length], fun j x hx u hu => ?_⟩
    obtain ⟨u', e, r⟩ := rv.get hx
    rw [List.getElem?_toArray, e] at hu
    cases hu
    exact r
theorem src_inj (I : Inv X pins σ H s) : ∀ {k : Src} {xs ys : List V}, SqS X.K H k a xs → SqS X.K H k a ys → xs = ys
  | .l, _, _, x, y => I.list_inj x y
  | .t, _, _, x, y => I.tuple_inj x y
theorem src_go {k : Src} (I : Inv X pins σ H s) (h : GoS X.K k a i H) : ∃ (its : Array Value) (x : V), IsSq s.heap k a its ∧ i < its.size ∧ (∀ u, its[i]? = some u → RelV x u) ∧ AtS X.K k a i H x := by
  obtain ⟨xs, x, h1, h2⟩ := h
  obtain ⟨its, h3, h4, h5⟩ := src_on I h1
  exact ⟨its, x, h3, by rw [h4]; exact (List.getElem?_eq_some_iff.mp h2).1, h5 i x h2, fun ys hy => by rw [src_inj I hy h1]; exact h2⟩
/-- what is drawn at turn i, the items past or not -/
theorem src_any {prog : Program} {w : World} {A : Around} {k : Src} (hh : A.handled = none) (I : Inv X pins σ H s) (h : OnS X.K k a H) (hit : IsIt s.heap k it a i) (hne : a ≠ it) : ∃ n P St, Draws prog w A it [it, a] n P St ∧ St i s.heap ∧ i ≤ n ∧ (StS X.K k a i H → i = n) := by
  obtain ⟨xs, h1⟩ := h
  obtain ⟨its, h3, h4, _⟩ := src_on I h1
  by_cases q : its.size ≤ i
  · exact ⟨i, _, _, src_past hh k its q, ⟨rfl, hit, h3⟩, Nat.le_refl _, fun _ => rfl⟩
  · refine ⟨its.size, _, _, src_draws hh hne k its, ⟨hit, h3⟩, by omega, fun ⟨ys, e1, e2⟩ => ?_⟩
    rw [src_inj I e1 h1] at e2
    omega
end
/-! ### enumerate -/
def ItE (K : PySem.W.Frag) (k : Src) (a : Addr) (c : Int) : It :=
  ⟨GoS K k a, fun i H v H' => ∃ T x, v = .ref T ∧ H T = none ∧ H' = upd H T (.tup [.int (c + (i : Nat)), x]) ∧ AtS K k a i H x, StS K k a⟩
theorem turn_enumS {P : Program} {w : World} {K : PySem.W.Frag} {elts : List Expr} {kk : Nat} {tpos : Pos} (k : Src) (a e it : Addr) (c : Int) :
    Turn P w K (.Tuple elts kk tpos) (ItE K k a c) [e, it] e (fun i h => (∃ old, IsEnum h e it (c + (i : Nat)) old) ∧ IsIt h k it a i ∧ e ≠ it ∧ e ≠ a ∧ a ≠ it) where
  mem := by simp
  obj := fun i h st b hb => by
    obtain ⟨⟨old, he⟩, hi, _⟩ := st
    rcases List.mem_cons.mp hb with z | z
    · rw [z]; exact ⟨_, he, fun v q => nomatch q⟩
    · rw [List.mem_singleton.mp z]; exact src_rec hi
  keep := fun i h h' st kp => let ⟨⟨old, he⟩, hi, ap⟩ := st; ⟨⟨old, kp e (by simp) _ he⟩, src_at hi fun o q => kp it (by simp) o q, ap⟩
  item := by
    intro X hP hw hK hc i pins s σ H E I hf st hg
    subst hP hw hK
    obtain ⟨⟨old, he⟩, hit, ap⟩ := st
    obtain ⟨its, x, hsq, hlt, hru, hat⟩ := src_go I hg
    have hh : X.A.in1.handled = none := I.ok.hd hc
    refine wpAny_pyNext_enum_itemC (src_draws hh ap.2.2 k its) he ⟨hit, hsq⟩ hlt ap.1 (by simp [ap.1, ap.2.1]) fun u h' tk hu ho st' hT hsz hk => ?_
    refine ⟨_, rfl, wpAny_letOwnedTupleGo_enum (s := { s with heap := h', toks := tk + 1 }) ho fun h'' he' sb => ?_⟩
    have hel := Heap.lt_size he
    have hT2 := (sb.2 _ (Nat.ne_of_gt hel)).trans hT
    have new : ObjOk X.prog X.w (upd H s.heap.objs.size (.tup [.int (c + (i : Nat)), x])) h'' s.heap.objs.size (.tup [.int (c + (i : Nat)), x]) :=
      ⟨by show 2 ≤ sizeLine; decide, [.int (c + (i : Nat)) tk, u], .cons ⟨_, rfl⟩ (.cons (hru u hu) .nil), ⟨_, hT2, rfl, _, rfl⟩⟩
    refine ⟨.ref s.heap.objs.size, _, I.turnedNew (t' := tk + 1) (ch := [e, it]) (fun b ob hb q => ?_) hf (Nat.le_refl _) new, rfl, ⟨_, x, rfl, I.hok.fresh (Nat.le_refl _), rfl, hat⟩, ⟨⟨u, ?_⟩, src_at st'.1 fun o q => (sb.2 it (Ne.symm ap.1)).trans q, ap⟩, fun b hb => ?_⟩
    · have n1 : b ≠ e := fun z => hb (by simp [z])
      have n2 : b ≠ it := fun z => hb (by simp [z])
      exact (sb.2 b n1).trans (hk b ob n1 n2 q)
    · have e1 : c + ((i + 1 : Nat) : Int) = c + (i : Nat) + 1 := by omega
      rw [e1]; exact he'
    · have hb' : b < s.heap.objs.size := by
        rcases List.mem_cons.mp hb with z | z
        · rw [z]; exact hel
        · rw [List.mem_singleton.mp z]; exact src_lt hit
      rw [upd_ne (Nat.ne_of_lt hb')]
      exact (hf b hb).1
  done := by
    intro X hP hw hK hc i pins s σ H E I hf st hg
    subst hP hw hK
    obtain ⟨⟨old, he⟩, hit, ap⟩ := st
    obtain ⟨f0, f1, f2, f3, f4, f5⟩ := hf it (by simp)
    have hh : X.A.in1.handled = none := I.ok.hd hc
    obtain ⟨n, P, St, D, st, _, en⟩ := src_any (prog := X.prog) (w := X.w) hh I ⟨_, hg.choose_spec.1⟩ hit ap.2.2
    have e0 := en hg
    subst e0
    exact wpAny_pyNext_enum_endD D he st fun h' eb => ⟨rfl, I.turned (t' := s.toks) (fun b o hb q => eb b o hb q) f0 f1 f3 f4 f5⟩
  self := fun A i s Q E st h => let ⟨⟨_, he⟩, _⟩ := st; wpAny_pyIter_enum he h
/-- an enumerate just made -/
theorem pie_enum {X : Cx} {elts : List Expr} {kk : Nat} {tpos : Pos} {pins : List (Addr × Obj)} {σ : L2.St} {H : Hp} {s : Shared} {h' : Heap} {k : Src} {a : Addr} {c : Int} {R : It → Hp → Prop} (I : Inv X pins σ H s) (ha : a < s.heap.objs.size)
    (he : IsEnum h' (s.heap.objs.size + 1) s.heap.objs.size c .none) (hit : IsIt h' k s.heap.objs.size a 0) (hk : ∀ b o, s.heap.get? b = some o → h'.get? b = some o) (q : R (ItE X.K k a c) H) : PIE X pins σ (.Tuple elts kk tpos) R (.ref (s.heap.objs.size + 1)) { s with heap := h' } := by
  refine ⟨s.heap.objs.size + 1, [s.heap.objs.size + 1, s.heap.objs.size], _, _, H, rfl, I.kept (t' := s.toks) hk, turn_enumS k a (s.heap.objs.size + 1) s.heap.objs.size c, ⟨⟨.none, ?_⟩, hit, Nat.succ_ne_self _, (Nat.ne_of_lt (Nat.lt_succ_of_lt ha)).symm, Nat.ne_of_lt ha⟩, fun b hb => ?_, q⟩
  · have e0 : c + ((0 : Nat) : Int) = c := by simp
    rw [e0]; exact he
  · have hle : s.heap.objs.size ≤ b := by
      rcases List.mem_cons.mp hb with z | z
      · rw [z]; exact Nat.le_add_right _ _
      · rw [List.mem_singleton.mp z]; exact Nat.le_refl _
    exact I.fpOk hle (I.hok.fresh hle)
theorem enum1_new {v : Value} {o : Obj} {B : Heap → Prop} (b : Begins v o B) :
    Meets (Builtin.«enumerate.__new__» ⟨[.type "enumerate", v], []⟩) (fun _ R s => B s.heap ∧
      R (.ok (.ret (.ref (s.heap.push o).objs.size))) { s with heap := (s.heap.push o).push { cls := .type "enumerate", data := .fields #[.none, .bool false, .ref s.heap.objs.size, rawInt 0, .none, .none] } }) :=
  .of_wp fun prog w A R s h => by
    obtain ⟨hp, g, d, tk, os⟩ := s; obtain ⟨h1, h⟩ := h
    have hsub := sub_enumerate
    have q1 : ∀ {A' : Around} {E : Value → Shared → Prop} {Q : Value → Shared → Prop}, Q (.ref hp.objs.size) ⟨hp.push o, g, d, tk, os⟩ → wpAny (model prog w) A' (pyIter v) Q E ⟨hp, g, d, tk, os⟩ :=
      fun q => b.iter prog w _ _ ⟨hp, g, d, tk, os⟩ _ h1 q
    wp_walk using q1
    refine wpAny_stack_any fun st => wpAny_pure ?_
    split
    · rename_i c _ _ _ _ _
      cases (c == Value.type "enumerate") <;> (wp_walk using q1; exact ⟨_, rfl, h⟩)
    · wp_walk using q1
      exact ⟨_, rfl, h⟩
section
variable {prog : Program} {w : World} {A : Around} {E : Value → Shared → Prop} {s : Shared}
theorem enum1_begins {v : Value} {o : Obj} {B : Heap → Prop} {Q : Value → Shared → Prop} (b : Begins v o B) (h1 : B s.heap)
    (h : ∀ h', IsEnum h' (s.heap.objs.size + 1) s.heap.objs.size 0 .none → h'.get? s.heap.objs.size = some o → (∀ b o, s.heap.get? b = some o → h'.get? b = some o) → Q (.ref (s.heap.objs.size + 1)) { s with heap := h' }) :
    wpAny (model prog w) A (call (.type "enumerate") [v]) Q E s := by
  refine callType_new F.called_enumerate (by decide) (F.typeCall_enumerate_1 _) (F.newCall_enumerate_1 _) (fun obj => F.args_object_init_2 obj _) F.entry_enumerate_new (enum1_new b) ⟨h1, ?_⟩
  have hz : (s.heap.push o).objs.size = s.heap.objs.size + 1 := Heap.size_push ..
  have he := Heap.get?_push_size (s.heap.push o) (o := { cls := .type "enumerate", data := .fields #[.none, .bool false, .ref s.heap.objs.size, rawInt 0, .none, .none] }) rfl
  show _ ∧ _
  rw [hz] at he ⊢
  exact ⟨⟨_, he, rfl⟩, h _ he (Heap.get?_push_of_some _ (Heap.get?_push_size _ b.free)) fun b o x => Heap.get?_push_of_some _ (Heap.get?_push_of_some _ x)⟩
end
/-! ### zip -/
theorem apN {a b : Nat} (h : a = b) (n : ¬ a = b) : False := n h
theorem apM {a b c : Nat} (h : a ∈ [b, c]) (n : ¬ a = b) (m : ¬ a = c) : False := (List.mem_cons.mp h).elim n fun q => m (List.mem_singleton.mp q)
def ItZ2 (K : PySem.W.Frag) (k1 : Src) (a1 : Addr) (k2 : Src) (a2 : Addr) : It :=
  ⟨fun i H => GoS K k1 a1 i H ∧ GoS K k2 a2 i H,
    fun i H v H' => ∃ T x1 x2, v = .ref T ∧ H T = none ∧ H' = upd H T (.tup [x1, x2]) ∧ AtS K k1 a1 i H x1 ∧ AtS K k2 a2 i H x2,
    fun i H => OnS K k1 a1 H ∧ OnS K k2 a2 H ∧ (StS K k1 a1 i H ∨ StS K k2 a2 i H)⟩
theorem turn_zipS2 {P : Program} {w : World} {K : PySem.W.Frag} {elts : List Expr} {kk : Nat} {tpos : Pos} {k1 k2 : Src} {a1 a2 z TI TO i1 i2 : Addr} (D : ZipSep2 z TI TO i1 i2 [i1, a1] [i2, a2]) (hne : a1 ≠ i1 ∧ a2 ≠ i2) :
    Turn P w K (.Tuple elts kk tpos) (ItZ2 K k1 a1 k2 a2) [z, TI, TO, i1, i2] z (fun i h => IsZip h z TI TO .none ∧ IsTupOf2 h TI (.ref i1) (.ref i2) ∧ (∃ u1 u2, IsTupOf2 h TO u1 u2) ∧ IsIt h k1 i1 a1 i ∧ IsIt h k2 i2 a2 i) where
  mem := by simp
  obj := fun i h st c hc => by
    obtain ⟨hz, hTI, ⟨u1, u2, hTO⟩, h1, h2⟩ := st
    have e' : c = z ∨ c = TI ∨ c = TO ∨ c = i1 ∨ c = i2 := by simpa using hc
    rcases e' with q | q | q | q | q
    · rw [q]; exact ⟨_, hz, fun v q => nomatch q⟩
    · rw [q]; exact ⟨_, hTI, fun v q => nomatch q⟩
    · rw [q]; exact ⟨_, hTO, fun v q => nomatch q⟩
    · rw [q]; exact src_rec h1
    · rw [q]; exact src_rec h2
  keep := fun i h h' st kp => by
    obtain ⟨hz, hTI, ⟨u1, u2, hTO⟩, h1, h2⟩ := st
    exact ⟨kp z (by simp) _ hz, kp TI (by simp) _ hTI, ⟨u1, u2, kp TO (by simp) _ hTO⟩, src_at h1 fun o q => kp i1 (by simp) o q, src_at h2 fun o q => kp i2 (by simp) o q⟩
  item := by
    intro X hP hw hK hc i pins s σ H E I hf st hg
    subst hP hw hK
    obtain ⟨hz, hTI, ⟨u1, u2, hTO⟩, h1, h2⟩ := st
    have hh : X.A.in1.handled = none := I.ok.hd hc
    obtain ⟨g1, g2⟩ := hg
    obtain ⟨l1, x1, q1, lt1, ru1, at1⟩ := src_go I g1
    obtain ⟨l2, x2, q2, lt2, ru2, at2⟩ := src_go I g2
    refine wpAny_pyNext_zipD2_item D (src_draws hh hne.1 k1 l1) (src_draws hh hne.2 k2 l2) hz hTI hTO ⟨h1, q1⟩ ⟨h2, q2⟩ lt1 lt2 fun w1 w2 h' tk e1 e2 z' TO' s1 s2 hT hsz hk => ?_
    refine ⟨_, rfl, wpAny_letOwnedTupleGo_zip (s := { s with heap := h', toks := tk }) z' fun h'' z'' sb => ?_⟩
    have zl := Heap.lt_size hz
    have hT2 := (sb.2 _ (Nat.ne_of_gt zl)).trans hT
    have new : ObjOk X.prog X.w (upd H s.heap.objs.size (.tup [x1, x2])) h'' s.heap.objs.size (.tup [x1, x2]) := ⟨by show 2 ≤ sizeLine; decide, [w1, w2], .cons (ru1 w1 e1) (.cons (ru2 w2 e2) (.nil)), ⟨_, hT2, rfl, _, rfl⟩⟩
    refine ⟨.ref s.heap.objs.size, _, I.turnedNew (t' := tk) (ch := [z, TI, TO, i1, i2]) (fun c o hb q => ?_) hf (Nat.le_refl _) new, rfl, ⟨_, x1, x2, rfl, I.hok.fresh (Nat.le_refl _), rfl, at1, at2⟩, ⟨z'', ?_, ⟨w1, w2, ?_⟩, ?_, ?_⟩, fun c hcm => ?_⟩
    · have nz : c ≠ z := fun x => hb (by simp [x])
      have nT : c ≠ TO := fun x => hb (by simp [x])
      have n1 : c ≠ i1 := fun x => hb (by simp [x])
      have n2 : c ≠ i2 := fun x => hb (by simp [x])
      exact (sb.2 c nz).trans (hk c o nz nT n1 n2 q)
    · exact (sb.2 _ D.TIz).trans (hk _ _ D.TIz D.TITO D.TIi1 D.TIi2 hTI)
    · exact (sb.2 _ D.TOz).trans TO'
    · exact src_at s1.1 fun o q => (sb.2 _ (Ne.symm D.zi1)).trans q
    · exact src_at s2.1 fun o q => (sb.2 _ (Ne.symm D.zi2)).trans q
    · have hlt : c < s.heap.objs.size := by
        have e' : c = z ∨ c = TI ∨ c = TO ∨ c = i1 ∨ c = i2 := by simpa using hcm
        rcases e' with q | q | q | q | q
        · rw [q]; exact zl
        · rw [q]; exact Heap.lt_size hTI
        · rw [q]; exact Heap.lt_size hTO
        · rw [q]; exact src_lt h1
        · rw [q]; exact src_lt h2
      rw [upd_ne (Nat.ne_of_lt hlt)]
      exact (hf c hcm).1
  done := by
    intro X hP hw hK hc i pins s σ H E I hf st hg
    subst hP hw hK
    obtain ⟨hz, hTI, ⟨u1, u2, hTO⟩, h1, h2⟩ := st
    have hh : X.A.in1.handled = none := I.ok.hd hc
    obtain ⟨g1, g2, hend⟩ := hg
    obtain ⟨n1, P1, St1, D1, s1, le1, en1⟩ := src_any (prog := X.prog) (w := X.w) hh I g1 h1 hne.1
    obtain ⟨n2, P2, St2, D2, s2, le2, en2⟩ := src_any (prog := X.prog) (w := X.w) hh I g2 h2 hne.2
    refine wpAny_pyNext_zipD2_end D D1 D2 hz hTI hTO s1 s2 le1 le2 (hend.imp en1 en2) fun h' tk hk => ⟨rfl, I.turnedL (t' := tk) (ch := [z, TI, TO, i1, i2]) (fun c o hb q => hk c o (fun x => hb (by simp [x])) (fun x => hb (by simp [x])) (fun x => hb (by simp [x])) (fun x => hb (by simp [x])) q) hf⟩
  self := fun A i s Q E st h => wpAny_pyIter_zip st.1 h
theorem apart2 {n a1 a2 : Nat} (b1 : a1 < n) (b2 : a2 < n) : ZipSep2 (n + 4) (n + 2) (n + 3) n (n + 1) [n, a1] [n + 1, a2] := by
  constructor <;> first | exact List.mem_cons_self .. | exact fun h => apN h (by omega) | exact fun h => apM h (by omega) (by omega)
theorem pie_zip2 {X : Cx} {elts : List Expr} {kk : Nat} {tpos : Pos} {pins : List (Addr × Obj)} {σ : L2.St} {H : Hp} {s : Shared} {k1 k2 : Src} {a1 a2 : Addr} {E : Value → Shared → Prop} {R : It → Hp → Prop} {v1 : List V} {v2 : List V} (I : Inv X pins σ H s) (h1 : SqS X.K H k1 a1 v1) (h2 : SqS X.K H k2 a2 v2) (q : R (ItZ2 X.K k1 a1 k2 a2) H) :
    wpAny (model X.prog X.w) X.A (call (.type "zip") [.ref a1, .ref a2]) (fun v s1 => wpAny (model X.prog X.w) X.A (pyIter v) (PIE X pins σ (.Tuple elts kk tpos) R) E s1) E s := by
  obtain ⟨l1, q1, _⟩ := src_on I h1
  have b1 := sq_lt q1
  obtain ⟨l2, q2, _⟩ := src_on I h2
  have b2 := sq_lt q2
  refine zip_begins2 (src_begins k1 a1 l1) (src_begins k2 a2 l2) q1 q2 fun h' hz hTI hTO g1 g2 hsz hk => wpAny_pyIter_zip hz ?_
  refine ⟨s.heap.objs.size + 4, [s.heap.objs.size + 4, s.heap.objs.size + 2, s.heap.objs.size + 3, s.heap.objs.size, s.heap.objs.size + 1], _, _, H, rfl, I.kept (t' := s.toks) hk, turn_zipS2 (apart2 b1 b2) (⟨Nat.ne_of_lt b1, Nat.ne_of_lt (Nat.lt_add_right 1 b2)⟩), ⟨hz, hTI, ⟨_, _, hTO⟩, src_it g1, src_it g2⟩, fun c hcm => ?_, q⟩
  have e' : c = s.heap.objs.size + 4 ∨ c = s.heap.objs.size + 2 ∨ c = s.heap.objs.size + 3 ∨ c = s.heap.objs.size ∨ c = s.heap.objs.size + 1 := by simpa using hcm
  have hle : s.heap.objs.size ≤ c := by
    rcases e' with q | q | q | q | q <;> (rw [q]; first | exact Nat.le_refl _ | exact Nat.le_add_right _ _)
  exact I.fpOk hle (I.hok.fresh hle)
def ItZ3 (K : PySem.W.Frag) (k1 : Src) (a1 : Addr) (k2 : Src) (a2 : Addr) (k3 : Src) (a3 : Addr) : It :=
  ⟨fun i H => GoS K k1 a1 i H ∧ GoS K k2 a2 i H ∧ GoS K k3 a3 i H,
    fun i H v H' => ∃ T x1 x2 x3, v = .ref T ∧ H T = none ∧ H' = upd H T (.tup [x1, x2, x3]) ∧ AtS K k1 a1 i H x1 ∧ AtS K k2 a2 i H x2 ∧ AtS K k3 a3 i H x3,
    fun i H => OnS K k1 a1 H ∧ OnS K k2 a2 H ∧ OnS K k3 a3 H ∧ (StS K k1 a1 i H ∨ StS K k2 a2 i H ∨ StS K k3 a3 i H)⟩
theorem turn_zipS3 {P : Program} {w : World} {K : PySem.W.Frag} {elts : List Expr} {kk : Nat} {tpos : Pos} {k1 k2 k3 : Src} {a1 a2 a3 z TI TO i1 i2 i3 : Addr} (D : ZipSep3 z TI TO i1 i2 i3 [i1, a1] [i2, a2] [i3, a3]) (hne : a1 ≠ i1 ∧ a2 ≠ i2 ∧ a3 ≠ i3) :
    Turn P w K (.Tuple elts kk tpos) (ItZ3 K k1 a1 k2 a2 k3 a3) [z, TI, TO, i1, i2, i3] z (fun i h => IsZip h z TI TO .none ∧ IsTupOf3 h TI (.ref i1) (.ref i2) (.ref i3) ∧ (∃ u1 u2 u3, IsTupOf3 h TO u1 u2 u3) ∧ IsIt h k1 i1 a1 i ∧ IsIt h k2 i2 a2 i ∧ IsIt h k3 i3 a3 i) where
  mem := by simp
  obj := fun i h st c hc => by
    obtain ⟨hz, hTI, ⟨u1, u2, u3, hTO⟩, h1, h2, h3⟩ := st
    have e' : c = z ∨ c = TI ∨ c = TO ∨ c = i1 ∨ c = i2 ∨ c = i3 := by simpa using hc
    rcases e' with q | q | q | q | q | q
    · rw [q]; exact ⟨_, hz, fun v q => nomatch q⟩
    · rw [q]; exact ⟨_, hTI, fun v q => nomatch q⟩
    · rw [q]; exact ⟨_, hTO, fun v q => nomatch q⟩
    · rw [q]; exact src_rec h1
    · rw [q]; exact src_rec h2
    · rw [q]; exact src_rec h3
  keep := fun i h h' st kp => by
    obtain ⟨hz, hTI, ⟨u1, u2, u3, hTO⟩, h1, h2, h3⟩ := st
    exact ⟨kp z (by simp) _ hz, kp TI (by simp) _ hTI, ⟨u1, u2, u3, kp TO (by simp) _ hTO⟩, src_at h1 fun o q => kp i1 (by simp) o q, src_at h2 fun o q => kp i2 (by simp) o q, src_at h3 fun o q => kp i3 (by simp) o q⟩
  item := by
    intro X hP hw hK hc i pins s σ H E I hf st hg
    subst hP hw hK
    obtain ⟨hz, hTI, ⟨u1, u2, u3, hTO⟩, h1, h2, h3⟩ := st
    have hh : X.A.in1.handled = none := I.ok.hd hc
    obtain ⟨g1, g2, g3⟩ := hg
    obtain ⟨l1, x1, q1, lt1, ru1, at1⟩ := src_go I g1
    obtain ⟨l2, x2, q2, lt2, ru2, at2⟩ := src_go I g2
    obtain ⟨l3, x3, q3, lt3, ru3, at3⟩ := src_go I g3
    refine wpAny_pyNext_zipD3_item D (src_draws hh hne.1 k1 l1) (src_draws hh hne.2.1 k2 l2) (src_draws hh hne.2.2 k3 l3) hz hTI hTO ⟨h1, q1⟩ ⟨h2, q2⟩ ⟨h3, q3⟩ lt1 lt2 lt3 fun w1 w2 w3 h' tk e1 e2 e3 z' TO' s1 s2 s3 hT hsz hk => ?_
    refine ⟨_, rfl, wpAny_letOwnedTupleGo_zip (s := { s with heap := h', toks := tk }) z' fun h'' z'' sb => ?_⟩
    have zl := Heap.lt_size hz
    have hT2 := (sb.2 _ (Nat.ne_of_gt zl)).trans hT
    have new : ObjOk X.prog X.w (upd H s.heap.objs.size (.tup [x1, x2, x3])) h'' s.heap.objs.size (.tup [x1, x2, x3]) := ⟨by show 3 ≤ sizeLine; decide, [w1, w2, w3], .cons (ru1 w1 e1) (.cons (ru2 w2 e2) (.cons (ru3 w3 e3) (.nil))), ⟨_, hT2, rfl, _, rfl⟩⟩
    refine ⟨.ref s.heap.objs.size, _, I.turnedNew (t' := tk) (ch := [z, TI, TO, i1, i2, i3]) (fun c o hb q => ?_) hf (Nat.le_refl _) new, rfl, ⟨_, x1, x2, x3, rfl, I.hok.fresh (Nat.le_refl _), rfl, at1, at2, at3⟩, ⟨z'', ?_, ⟨w1, w2, w3, ?_⟩, ?_, ?_, ?_⟩, fun c hcm => ?_⟩
    · have nz : c ≠ z := fun x => hb (by simp [x])
      have nT : c ≠ TO := fun x => hb (by simp [x])
      have n1 : c ≠ i1 := fun x => hb (by simp [x])
      have n2 : c ≠ i2 := fun x => hb (by simp [x])
      have n3 : c ≠ i3 := fun x => hb (by simp [x])
      exact (sb.2 c nz).trans (hk c o nz nT n1 n2 n3 q)
    · exact (sb.2 _ D.TIz).trans (hk _ _ D.TIz D.TITO D.TIi1 D.TIi2 D.TIi3 hTI)
    · exact (sb.2 _ D.TOz).trans TO'
    · exact src_at s1.1 fun o q => (sb.2 _ (Ne.symm D.zi1)).trans q
    · exact src_at s2.1 fun o q => (sb.2 _ (Ne.symm D.zi2)).trans q
    · exact src_at s3.1 fun o q => (sb.2 _ (Ne.symm D.zi3)).trans q
    · have hlt : c < s.heap.objs.size := by
        have e' : c = z ∨ c = TI ∨ c = TO ∨ c = i1 ∨ c = i2 ∨ c = i3 := by simpa using hcm
        rcases e' with q | q | q | q | q | q
        · rw [q]; exact zl
        · rw [q]; exact Heap.lt_size hTI
        · rw [q]; exact Heap.lt_size hTO
        · rw [q]; exact src_lt h1
        · rw [q]; exact src_lt h2
        · rw [q]; exact src_lt h3
      rw [upd_ne (Nat.ne_of_lt hlt)]
      exact (hf c hcm).1
  done := by
    intro X hP hw hK hc i pins s σ H E I hf st hg
    subst hP hw hK
    obtain ⟨hz, hTI, ⟨u1, u2, u3, hTO⟩, h1, h2, h3⟩ := st
    have hh : X.A.in1.handled = none := I.ok.hd hc
    obtain ⟨g1, g2, g3, hend⟩ := hg
    obtain ⟨n1, P1, St1, D1, s1, le1, en1⟩ := src_any (prog := X.prog) (w := X.w) hh I g1 h1 hne.1
    obtain ⟨n2, P2, St2, D2, s2, le2, en2⟩ := src_any (prog := X.prog) (w := X.w) hh I g2 h2 hne.2.1
    obtain ⟨n3, P3, St3, D3, s3, le3, en3⟩ := src_any (prog := X.prog) (w := X.w) hh I g3 h3 hne.2.2
    refine wpAny_pyNext_zipD3_end D D1 D2 D3 hz hTI hTO s1 s2 s3 le1 le2 le3 (hend.imp en1 (Or.imp en2 en3)) fun h' tk hk => ⟨rfl, I.turnedL (t' := tk) (ch := [z, TI, TO, i1, i2, i3]) (fun c o hb q => hk c o (fun x => hb (by simp [x])) (fun x => hb (by simp [x])) (fun x => hb (by simp [x])) (fun x => hb (by simp [x])) (fun x => hb (by simp [x])) q) hf⟩
  self := fun A i s Q E st h => wpAny_pyIter_zip st.1 h
theorem apart3 {n a1 a2 a3 : Nat} (b1 : a1 < n) (b2 : a2 < n) (b3 : a3 < n) : ZipSep3 (n + 5) (n + 3) (n + 4) n (n + 1) (n + 2) [n, a1] [n + 1, a2] [n + 2, a3] := by
  constructor <;> first | exact List.mem_cons_self .. | exact fun h => apN h (by omega) | exact fun h => apM h (by omega) (by omega)
theorem pie_zip3 {X : Cx} {elts : List Expr} {kk : Nat} {tpos : Pos} {pins : List (Addr × Obj)} {σ : L2.St} {H : Hp} {s : Shared} {k1 k2 k3 : Src} {a1 a2 a3 : Addr} {E : Value → Shared → Prop} {R : It → Hp → Prop} {v1 : List V} {v2 : List V} {v3 : List V} (I : Inv X pins σ H s) (h1 : SqS X.K H k1 a1 v1) (h2 : SqS X.K H k2 a2 v2) (h3 : SqS X.K H k3 a3 v3) (q : R (ItZ3 X.K k1 a1 k2 a2 k3 a3) H) :
    wpAny (model X.prog X.w) X.A (call (.type "zip") [.ref a1, .ref a2, .ref a3]) (fun v s1 => wpAny (model X.prog X.w) X.A (pyIter v) (PIE X pins σ (.Tuple elts kk tpos) R) E s1) E s := by
  obtain ⟨l1, q1, _⟩ := src_on I h1
  have b1 := sq_lt q1
  obtain ⟨l2, q2, _⟩ := src_on I h2
  have b2 := sq_lt q2
  obtain ⟨l3, q3, _⟩ := src_on I h3
  have b3 := sq_lt q3
  refine zip_begins3 (src_begins k1 a1 l1) (src_begins k2 a2 l2) (src_begins k3 a3 l3) q1 q2 q3 fun h' hz hTI hTO g1 g2 g3 hsz hk => wpAny_pyIter_zip hz ?_
  refine ⟨s.heap.objs.size + 5, [s.heap.objs.size + 5, s.heap.objs.size + 3, s.heap.objs.size + 4, s.heap.objs.size, s.heap.objs.size + 1, s.heap.objs.size + 2], _, _, H, rfl, I.kept (t' := s.toks) hk, turn_zipS3 (apart3 b1 b2 b3) (⟨Nat.ne_of_lt b1, Nat.ne_of_lt (Nat.lt_add_right 1 b2), Nat.ne_of_lt (Nat.lt_add_right 2 b3)⟩), ⟨hz, hTI, ⟨_, _, _, hTO⟩, src_it g1, src_it g2, src_it g3⟩, fun c hcm => ?_, q⟩
  have e' : c = s.heap.objs.size + 5 ∨ c = s.heap.objs.size + 3 ∨ c = s.heap.objs.size + 4 ∨ c = s.heap.objs.size ∨ c = s.heap.objs.size + 1 ∨ c = s.heap.objs.size + 2 := by simpa using hcm
  have hle : s.heap.objs.size ≤ c := by
    rcases e' with q | q | q | q | q | q <;> (rw [q]; first | exact Nat.le_refl _ | exact Nat.le_add_right _ _)
  exact I.fpOk hle (I.hok.fresh hle)
/-! ### transformers and rules -/
/-- a list or a tuple, and what keeps it so -/
def seqW (x : Val) (h : IH) (R : List Val → (IH → Prop) → Prop) : Prop := match x with
  | .tup xs => R xs fun _ => True
  | .ref a => match h.seq a with
    | some xs => R xs (lstK a xs)
    | none => False
  | _ => False
def enumL : Int → List Val → List Val
  | _, [] => []
  | c, x :: xs => .tup [.int c, x] :: enumL (c + 1) xs
def zipL (xs ys : List Val) : List Val := List.zipWith (fun x y => Val.tup [x, y]) xs ys
def zip3L : List Val → List Val → List Val → List Val
  | x :: xs, y :: ys, z :: zs => .tup [x, y, z] :: zip3L xs ys zs
  | _, _, _ => []
def iEnum' (a : DA) : DI := fun C ρ h R E => a C ρ h (fun ys h1 => match ys with
  | [x] => seqW x h1 fun xs k => R ⟨enumL 0 xs, k⟩ h1
  | [x, .int c] => (-(2 ^ 63) ≤ c ∧ c < 2 ^ 63) ∧ seqW x h1 fun xs k => R ⟨enumL c xs, k⟩ h1
  | _ => False) E
def iZip' (a : DA) : DI := fun C ρ h R E => a C ρ h (fun vs h1 => match vs with
  | [x, y] => seqW x h1 fun xs k => seqW y h1 fun ys l => R ⟨zipL xs ys, fun h => k h ∧ l h⟩ h1
  | [x, y, z] => seqW x h1 fun xs k => seqW y h1 fun ys l => seqW z h1 fun zs m => R ⟨zip3L xs ys zs, fun h => k h ∧ l h ∧ m h⟩ h1
  | _ => False) E
theorem enumL_get : ∀ {xs : List Val} {c : Int} {i : Nat} {y : Val}, (enumL c xs)[i]? = some y → ∃ x, xs[i]? = some x ∧ y = .tup [.int (c + (i : Nat)), x]
  | [], _, _, _, e => by simp [enumL] at e
  | x :: xs, c, 0, y, e => by
    have e' : Val.tup [.int c, x] = y := by simpa [enumL] using e
    exact ⟨x, rfl, by rw [← e']; simp⟩
  | x :: xs, c, i + 1, y, e => by
    obtain ⟨x', e1, e2⟩ := enumL_get (xs := xs) (c := c + 1) (i := i) (y := y) (by simpa [enumL] using e)
    refine ⟨x', by simpa using e1, ?_⟩
    have e3 : c + 1 + ((i : Nat) : Int) = c + ((i + 1 : Nat) : Int) := by omega
    rw [e2, e3]
theorem enumL_len : ∀ {xs : List Val} {c : Int}, (enumL c xs).length = xs.length
  | [], _ => rfl
  | _ :: xs, c => congrArg (· + 1) (enumL_len (xs := xs) (c := c + 1))
theorem zipL_get : ∀ {xs ys : List Val} {i : Nat} {z : Val}, (zipL xs ys)[i]? = some z → ∃ x y, xs[i]? = some x ∧ ys[i]? = some y ∧ z = .tup [x, y]
  | [], _, _, _, e => by simp [zipL] at e
  | _ :: _, [], _, _, e => by simp [zipL] at e
  | x :: xs, y :: ys, 0, z, e => ⟨x, y, rfl, rfl, by simpa [zipL] using e.symm⟩
  | x :: xs, y :: ys, i + 1, z, e => zipL_get (xs := xs) (ys := ys) (i := i) (by simpa [zipL] using e)
theorem zipL_len {xs ys : List Val} : (zipL xs ys).length = min xs.length ys.length := by simp [zipL]
theorem zip3L_get : ∀ {xs ys zs : List Val} {i : Nat} {w : Val}, (zip3L xs ys zs)[i]? = some w → ∃ x y z, xs[i]? = some x ∧ ys[i]? = some y ∧ zs[i]? = some z ∧ w = .tup [x, y, z]
  | [], _, _, _, _, e => by simp [zip3L] at e
  | _ :: _, [], _, _, _, e => by simp [zip3L] at e
  | _ :: _, _ :: _, [], _, _, e => by simp [zip3L] at e
  | x :: xs, y :: ys, z :: zs, 0, w, e => ⟨x, y, z, rfl, rfl, rfl, by simpa [zip3L] using e.symm⟩
  | x :: xs, y :: ys, z :: zs, i + 1, w, e => zip3L_get (xs := xs) (ys := ys) (zs := zs) (i := i) (by simpa [zip3L] using e)
theorem zip3L_len : ∀ {xs ys zs : List Val}, (zip3L xs ys zs).length = min (min xs.length ys.length) zs.length
  | [], _, _ => by simp [zip3L]
  | _ :: _, [], _ => by simp [zip3L]
  | _ :: _, _ :: _, [] => by simp [zip3L]
  | x :: xs, y :: ys, z :: zs => by simp [zip3L, zip3L_len (xs := xs) (ys := ys) (zs := zs)]
/-- what is known of a source while it is walked -/
def SrcOk (K : PySem.W.Frag) (mg : Str → Option Value) (k : Src) (a : Addr) (xs : List Val) (kp : IH → Prop) (h0 : IH) (H0 : Hp) : Prop := ∀ h H, RH K mg h H → Ext h0 H0 h H → kp h → ∃ vs, SqS K H k a vs ∧ VRs K mg H xs vs
section
variable {X : Cx} {hp : List (Addr × Obj)} {W : WX} {C : Calls}
theorem seqW_src {x : Val} {v : V} {h : IH} {H : Hp} {R : List Val → (IH → Prop) → Prop} (r : RH X.K X.mg h H) (vx : VX X.K X.mg hp H x v) (q : seqW x h R) : ∃ k a vs xs kp, v = .ref a ∧ SqS X.K H k a vs ∧ SrcOk X.K X.mg k a xs kp h H ∧ R xs kp := by
  cases x with
  | tup xs =>
    obtain ⟨a, vs, rfl, t, p⟩ := vx.tp
    exact ⟨.t, a, vs, xs, _, rfl, t, fun h' H' r' e _ => ⟨vs, (e.tup r).1 _ _ t, p.mono (e.tup r)⟩, q⟩
  | ref a =>
    cases vx.rf
    dsimp only [seqW] at q
    cases hx : h.seq a with
    | none => rw [hx] at q; exact q.elim
    | some xs =>
      rw [hx] at q
      obtain ⟨vs, t, p⟩ := r.seq hx
      exact ⟨.l, a, vs, xs, _, rfl, t, fun h' H' r' e k => r'.seq k, q⟩
  | _ => exact q.elim
theorem wk_enum {k : Src} {a : Addr} {xs : List Val} {kp : IH → Prop} {c : Int} {h0 : IH} {H0 : Hp} (s : SrcOk X.K X.mg k a xs kp h0 H0) : WkOk X.K X.mg (ItE X.K k a c) ⟨enumL c xs, kp⟩ h0 H0 := by
  intro i h H r e kk
  obtain ⟨vs, t, p⟩ := s h H r e kk
  refine ⟨fun y hy => ?_, fun hl => ⟨vs, t, by rw [← p.length]; rw [enumL_len] at hl; exact hl⟩⟩
  obtain ⟨x, hx, rfl⟩ := enumL_get hy
  obtain ⟨v, e1, e2⟩ := p.get hx
  refine ⟨⟨vs, v, t, e1⟩, fun w H' z => ?_⟩
  obtain ⟨T, u, rfl, n, rfl, au⟩ := z
  have e3 := au vs t
  rw [e1] at e3
  cases e3
  obtain ⟨r2, x2⟩ := r.tuple (vs := [.int (c + (i : Nat)), v]) n
  exact ⟨r2, x2, .tup (SqT.of upd_same) (.cons (.int _) (.cons (e2.mono (x2.tup r)) .nil))⟩
theorem wk_zip2 {k1 k2 : Src} {a1 a2 : Addr} {xs ys : List Val} {kp1 kp2 : IH → Prop} {h0 : IH} {H0 : Hp} (s1 : SrcOk X.K X.mg k1 a1 xs kp1 h0 H0) (s2 : SrcOk X.K X.mg k2 a2 ys kp2 h0 H0) : WkOk X.K X.mg (ItZ2 X.K k1 a1 k2 a2) ⟨zipL xs ys, fun h => kp1 h ∧ kp2 h⟩ h0 H0 := by
  intro i h H r e kk
  obtain ⟨vs1, t1, p1⟩ := s1 h H r e kk.1
  obtain ⟨vs2, t2, p2⟩ := s2 h H r e kk.2
  have l1 := p1.length
  have l2 := p2.length
  refine ⟨fun y hy => ?_, fun hl => ⟨⟨vs1, t1⟩, ⟨vs2, t2⟩, ?_⟩⟩
  · obtain ⟨x, y', hx, hy', rfl⟩ := zipL_get hy
    obtain ⟨v1, e1, f1⟩ := p1.get hx
    obtain ⟨v2, e2, f2⟩ := p2.get hy'
    refine ⟨⟨⟨vs1, v1, t1, e1⟩, ⟨vs2, v2, t2, e2⟩⟩, fun w H' z => ?_⟩
    obtain ⟨T, u1, u2, rfl, n, rfl, au1, au2⟩ := z
    have e3 := au1 vs1 t1
    rw [e1] at e3
    cases e3
    have e4 := au2 vs2 t2
    rw [e2] at e4
    cases e4
    obtain ⟨r2, x2⟩ := r.tuple (vs := [v1, v2]) n
    exact ⟨r2, x2, .tup (SqT.of upd_same) (.cons (f1.mono (x2.tup r)) (.cons (f2.mono (x2.tup r)) .nil))⟩
  · have hl' : min xs.length ys.length ≤ i := by rw [← zipL_len]; exact hl
    rcases Nat.le_total xs.length ys.length with q | q
    · exact .inl ⟨vs1, t1, by omega⟩
    · exact .inr ⟨vs2, t2, by omega⟩
theorem wk_zip3 {k1 k2 k3 : Src} {a1 a2 a3 : Addr} {xs ys zs : List Val} {kp1 kp2 kp3 : IH → Prop} {h0 : IH} {H0 : Hp} (s1 : SrcOk X.K X.mg k1 a1 xs kp1 h0 H0) (s2 : SrcOk X.K X.mg k2 a2 ys kp2 h0 H0) (s3 : SrcOk X.K X.mg k3 a3 zs kp3 h0 H0) :
    WkOk X.K X.mg (ItZ3 X.K k1 a1 k2 a2 k3 a3) ⟨zip3L xs ys zs, fun h => kp1 h ∧ kp2 h ∧ kp3 h⟩ h0 H0 := by
  intro i h H r e kk
  obtain ⟨vs1, t1, p1⟩ := s1 h H r e kk.1
  obtain ⟨vs2, t2, p2⟩ := s2 h H r e kk.2.1
  obtain ⟨vs3, t3, p3⟩ := s3 h H r e kk.2.2
  have l1 := p1.length
  have l2 := p2.length
  have l3 := p3.length
  refine ⟨fun y hy => ?_, fun hl => ⟨⟨vs1, t1⟩, ⟨vs2, t2⟩, ⟨vs3, t3⟩, ?_⟩⟩
  · obtain ⟨x, y', z', hx, hy', hz', rfl⟩ := zip3L_get hy
    obtain ⟨v1, e1, f1⟩ := p1.get hx
    obtain ⟨v2, e2, f2⟩ := p2.get hy'
    obtain ⟨v3, e3, f3⟩ := p3.get hz'
    refine ⟨⟨⟨vs1, v1, t1, e1⟩, ⟨vs2, v2, t2, e2⟩, ⟨vs3, v3, t3, e3⟩⟩, fun w H' z => ?_⟩
    obtain ⟨T, u1, u2, u3, rfl, n, rfl, au1, au2, au3⟩ := z
    have g1 := au1 vs1 t1
    rw [e1] at g1
    cases g1
    have g2 := au2 vs2 t2
    rw [e2] at g2
    cases g2
    have g3 := au3 vs3 t3
    rw [e3] at g3
    cases g3
    obtain ⟨r2, x2⟩ := r.tuple (vs := [v1, v2, v3]) n
    exact ⟨r2, x2, .tup (SqT.of upd_same) (.cons (f1.mono (x2.tup r)) (.cons (f2.mono (x2.tup r)) (.cons (f3.mono (x2.tup r)) .nil)))⟩
  · have hl' : min (min xs.length ys.length) zs.length ≤ i := by rw [← zip3L_len]; exact hl
    by_cases q1 : xs.length ≤ i
    · exact .inl ⟨vs1, t1, by omega⟩
    · by_cases q2 : ys.length ≤ i
      · exact .inr (.inl ⟨vs2, t2, by omega⟩)
      · exact .inr (.inr ⟨vs3, t3, by omega⟩)
theorem rel_ref {a : Addr} {u : Value} (r : RelV (.ref a) u) : u = .ref a := r
theorem w_enum {elts : List Expr} {kk : Nat} {tpos p pos : Pos} {e : Expr} {es : List Expr} {c : DA} (hg : Gl X "enumerate") (hm : X.mg "enumerate" = none) (hs : starEach (e :: es) X.env = (false, eval e X.env) :: starEach es X.env) (hpl : (backTo pos (starEach es X.env)).any (·.1) = false)
    (ha : PA X (e :: es) (rdA X.K X.mg hp W C c)) : PI X (.Tuple elts kk tpos) (.Call (.Name "enumerate" p) (e :: es) [] pos) (rdI X.K X.mg hp W C (iEnum' c)) := by
  refine ⟨fun pins s σ H R I z => ?_⟩
  obtain ⟨ρ, h, Q', E', sr, r, q, k, xw⟩ := z
  let T : List V → Hp → Prop := fun vs H1 => ∃ (k : Src) (a : Addr) (ws : List V) (c : Int), (vs = [.ref a] ∧ c = 0 ∨ vs = [.ref a, .int c] ∧ -(2 ^ 63) ≤ c ∧ c < 2 ^ 63) ∧ SqS X.K H1 k a ws ∧ R (ItE X.K k a c) H1
  have za : rdA X.K X.mg hp W C c σ H T := rdA.step sr r q xw fun ys vs h1 H1 vy r1 e1 _ _ q1 => by
    split at q1
    · obtain ⟨v, rfl, va⟩ := p1 vy
      obtain ⟨kd, a, ws, xs, kp, rfl, t, sk, q1⟩ := seqW_src r1 va q1
      exact ⟨kd, a, ws, 0, .inl ⟨rfl, rfl⟩, t, k _ _ h1 H1 (wk_enum sk) r1 e1 q1⟩
    · obtain ⟨v, u, rfl, va, vb⟩ := p2 vy
      cases vb.int
      obtain ⟨kd, a, ws, xs, kp, rfl, t, sk, q2⟩ := seqW_src r1 va q1.2
      exact ⟨kd, a, ws, _, .inr ⟨rfl, q1.1⟩, t, k _ _ h1 H1 (wk_enum sk) r1 e1 q2⟩
    · exact q1.elim
  refine Call_ (ld_blt I hg hm boot_enumerate (PyProof.Rows.callWith_type1 (thn (ha.run pos pins s σ H T I za) ?_) hs hpl))
  rintro us s1 ⟨vs, H1, I1, rv, kd, a, ws, c, hv, t, q⟩
  obtain ⟨its, hq, _⟩ := src_on I1 t
  rcases hv with ⟨rfl, rfl⟩ | ⟨rfl, c0, c1⟩
  · cases rv with
    | cons r1 rr =>
      cases rr
      cases rel_ref r1
      exact enum1_begins (src_begins kd a its) hq fun h' he hi hk => wpAny_pyIter_enum he (pie_enum I1 (sq_lt hq) he (src_it hi) hk q)
  · cases rv with
    | cons r1 rr =>
      cases rr with
      | cons r2 rr =>
        cases rr
        cases rel_ref r1
        obtain ⟨tk, rfl⟩ := r2
        exact enum_begins (src_begins kd a its) hq c0 c1 fun h' he hi _ hk => wpAny_pyIter_enum he (pie_enum I1 (sq_lt hq) he (src_it hi) hk q)
theorem w_zip {elts : List Expr} {kk : Nat} {tpos p pos : Pos} {e : Expr} {es : List Expr} {c : DA} (hg : Gl X "zip") (hm : X.mg "zip" = none) (hs : starEach (e :: es) X.env = (false, eval e X.env) :: starEach es X.env) (hpl : (backTo pos (starEach es X.env)).any (·.1) = false)
    (ha : PA X (e :: es) (rdA X.K X.mg hp W C c)) : PI X (.Tuple elts kk tpos) (.Call (.Name "zip" p) (e :: es) [] pos) (rdI X.K X.mg hp W C (iZip' c)) := by
  refine ⟨fun pins s σ H R I z => ?_⟩
  obtain ⟨ρ, h, Q', E', sr, r, q, k, xw⟩ := z
  let T : List V → Hp → Prop := fun vs H1 => (∃ (k1 k2 : Src) (a1 a2 : Addr) (w1 w2 : List V), vs = [.ref a1, .ref a2] ∧ SqS X.K H1 k1 a1 w1 ∧ SqS X.K H1 k2 a2 w2 ∧ R (ItZ2 X.K k1 a1 k2 a2) H1) ∨
    ∃ (k1 k2 k3 : Src) (a1 a2 a3 : Addr) (w1 w2 w3 : List V), vs = [.ref a1, .ref a2, .ref a3] ∧ SqS X.K H1 k1 a1 w1 ∧ SqS X.K H1 k2 a2 w2 ∧ SqS X.K H1 k3 a3 w3 ∧ R (ItZ3 X.K k1 a1 k2 a2 k3 a3) H1
  have za : rdA X.K X.mg hp W C c σ H T := rdA.step sr r q xw fun ys vs h1 H1 vy r1 e1 _ _ q1 => by
    split at q1
    · obtain ⟨v, u, rfl, va, vb⟩ := p2 vy
      obtain ⟨k1, a1, w1, xs, kp1, rfl, t1, sk1, q1⟩ := seqW_src r1 va q1
      obtain ⟨k2, a2, w2, ys, kp2, rfl, t2, sk2, q1⟩ := seqW_src r1 vb q1
      exact .inl ⟨k1, k2, a1, a2, w1, w2, rfl, t1, t2, k _ _ h1 H1 (wk_zip2 sk1 sk2) r1 e1 q1⟩
    · obtain ⟨v, u, w, rfl, va, vb, vc⟩ := p3 vy
      obtain ⟨k1, a1, w1, xs, kp1, rfl, t1, sk1, q1⟩ := seqW_src r1 va q1
      obtain ⟨k2, a2, w2, ys, kp2, rfl, t2, sk2, q1⟩ := seqW_src r1 vb q1
      obtain ⟨k3, a3, w3, zs, kp3, rfl, t3, sk3, q1⟩ := seqW_src r1 vc q1
      exact .inr ⟨k1, k2, k3, a1, a2, a3, w1, w2, w3, rfl, t1, t2, t3, k _ _ h1 H1 (wk_zip3 sk1 sk2 sk3) r1 e1 q1⟩
    · exact q1.elim
  refine Call_ (ld_blt I hg hm PyProof.Rows.boot_zip (PyProof.Rows.callWith_type1 (thn (ha.run pos pins s σ H T I za) ?_) hs hpl))
  rintro us s1 ⟨vs, H1, I1, rv, hT⟩
  rcases hT with ⟨k1, k2, a1, a2, w1, w2, rfl, t1, t2, q⟩ | ⟨k1, k2, k3, a1, a2, a3, w1, w2, w3, rfl, t1, t2, t3, q⟩
  · cases rv with
    | cons r1 rr =>
      cases rr with
      | cons r2 rr =>
        cases rr
        cases rel_ref r1
        cases rel_ref r2
        exact pie_zip2 I1 t1 t2 q
  · cases rv with
    | cons r1 rr =>
      cases rr with
      | cons r2 rr =>
        cases rr with
        | cons r3 rr =>
          cases rr
          cases rel_ref r1
          cases rel_ref r2
          cases rel_ref r3
          exact pie_zip3 I1 t1 t2 t3 q
end
end WS

/-! WSD: rows turned about, sorted numbers, list(range(..)), more methods of lists. -/
namespace WS
open PySem PySem.Spec L2 PyProof.Rows HT
section
variable {prog : Program} {w : World} {A : Around} {E : Value → Shared → Prop} {s : Shared}
theorem places_back (n : Nat) : Builtin.Slice.slicePlaces ((n : Int) - 1) (-1) (-1) = n := by
  unfold Builtin.Slice.slicePlaces
  rw [if_neg (by decide)]
  simp only [Int.neg_neg, Int.ediv_one]
  split <;> omega
theorem back_pick (xs : List Value) : ((List.range xs.length).filterMap fun (k : Nat) => xs.toArray[((xs.length : Int) - 1 + (k : Int) * (-1)).toNat]?) = xs.reverse := by
  have e : ∀ n, n ≤ xs.length → ((List.range n).filterMap fun (k : Nat) => xs.toArray[((xs.length : Int) - 1 + (k : Int) * (-1)).toNat]?) = xs.reverse.take n := by
    intro n
    induction n with
    | zero => intro _; simp
    | succ n ih =>
      intro hn
      rw [List.range_succ, List.filterMap_append, ih (by omega), List.take_add_one]
      congr 1
      have e1 : ((xs.length : Int) - 1 + (n : Int) * (-1)).toNat = xs.length - 1 - n := by omega
      rw [List.filterMap_cons, e1, List.getElem?_toArray, List.getElem?_reverse (by omega)]
      cases xs[xs.length - 1 - n]? <;> rfl
  rw [e _ (Nat.le_refl _), List.take_of_length_le (by simp)]
theorem back_applied {sl : Addr} {vl vu vs : Value} {n : Nat} {Q : Int × Int × Nat → Shared → Prop} (hs : s.heap.IsSliceOf sl vl vu vs) (pl : IsPart vl none) (pu : IsPart vu none) (ps : IsPart vs (some (-1)))
    (h : Q ((n : Int) - 1, -1, n) s) : wpAny (model prog w) A (Builtin.Slice.sliceApplied (.ref sl) (pure (n : Int))) Q E s := by
  obtain ⟨os, hos, hcs, hds⟩ := id hs
  unfold Builtin.Slice.sliceApplied Builtin.Slice.sliceFields
  refine wpAny_bind (wpAny_bind (wpAny_field hos hds (x := vl) rfl (wpAny_bind (wpAny_field hos hds (x := vu) rfl (wpAny_bind (wpAny_field hos hds (x := vs) rfl (wpAny_pure ?_)))))))
  refine wpAny_bind (slicePart_ ps ?_)
  show wpAny _ _ (if ((-1 : Int) == 0) = true then _ else _) _ _ s
  rw [if_neg (by decide)]
  refine wpAny_bind (slicePart_ pl (wpAny_bind (slicePart_ pu (wpAny_bind (wpAny_pure ?_)))))
  show wpAny _ _ (pure ((n : Int) - 1, (-1 : Int), Builtin.Slice.slicePlaces ((n : Int) - 1) (-1) (-1))) _ _ s
  rw [places_back]
  exact wpAny_pure h
theorem tuple_back {t sl : Addr} {items : List Value} {vl vu vs : Value} {Q : Value → Shared → Prop} (ht : IsTup s.heap t items.toArray) (hs : s.heap.IsSliceOf sl vl vu vs) (pl : IsPart vl none) (pu : IsPart vu none) (ps : IsPart vs (some (-1)))
    (h : Q (.ref s.heap.objs.size) { s with heap := s.heap.push { cls := .type "tuple", data := .seq items.reverse.toArray } }) (hsz : items.length ≤ sizeLine) : wpAny (model prog w) A (getItem (.ref t) (.ref sl)) Q E s := by
  have hok : sizeOk (.seq items.reverse.toArray) := by
    show items.reverse.toArray.size ≤ sizeLine
    rw [List.size_toArray, List.length_reverse]; exact hsz
  obtain ⟨os, hos, hcs, hds⟩ := id hs
  have hTs : s.TypeIs (.ref sl) "slice" := ⟨os, hos, hcs⟩
  unfold getItem
  try with_reducible refine wpAny_holding ?_
  first | refine wpAny_bind (wpAny_pure ?_) | skip
  refine wpAny_bind (wpAny_sequenceKey ht.typeIs (by decide) ?_)
  refine wpAny_bind (wpAny_callSpecial?_slot (name := Str.ofString "__getitem__") ht.typeIs PyProof.Rows.slot_tuple_getitem
    (wpAny_call_entry PyProof.Rows.slot_tuple_getitem ht.typeIs entry_tuple_getitem ?_ (args_tuple_getitem _ _)))
  show wpAny _ _ (Builtin.Tuple.tupleItemsOf (.ref t) >>= _) _ _ s
  refine wpAny_bind (tupleItemsOf_ ht ?_)
  refine wpAny_bind (wpAny_typeOf hTs ?_)
  rw [if_pos (by decide)]
  refine wpAny_bind (back_applied (n := items.toArray.size) hs pl pu ps ?_)
  have hno : ¬ (((((items.toArray.size : Nat) : Int) - 1) == 0 && (-1 : Int) == 1 && items.toArray.size == items.toArray.size) = true) := by simp
  show wpAny _ _ (if ((((items.toArray.size : Nat) : Int) - 1) == 0 && (-1 : Int) == 1 && items.toArray.size == items.toArray.size) = true then _ else _) _ _ s
  rw [if_neg hno, List.size_toArray, back_pick]
  first
    | exact wpAny_bind (m := Builtin.Tuple.tupleExact _) (wpAny_newObj_type (wpAny_pure ⟨_, rfl, wpAny_pure h⟩) hok)
    | exact wpAny_bind (m := Builtin.Tuple.tupleExact _) (wpAny_newObj_type (wpAny_bind (wpAny_pure (wpAny_pure ⟨_, rfl, wpAny_pure h⟩))) hok)
    | exact wpAny_bind (wpAny_bind (m := Builtin.Tuple.tupleExact _) (wpAny_newObj_type (wpAny_pure (wpAny_pure ⟨_, rfl, wpAny_pure h⟩)) hok))
    | exact wpAny_bind (wpAny_bind (m := Builtin.Tuple.tupleExact _) (wpAny_newObj_type (wpAny_pure ⟨_, rfl, wpAny_pure h⟩) hok))
theorem sl_from0 (n : Nat) : sliceBounds none (some 0) (some (-1)) n = ((n : Int) - 1, ((min n 1 : Nat) : Int) - 1, -1) := by
  simp only [sliceBounds]
  simp
  omega
theorem rng_from0 (n : Nat) : sliceRange ((n : Int) - 1) (((min n 1 : Nat) : Int) - 1) (-1) = (List.range (n - 1)).map fun k => n - 1 - k := by
  unfold sliceRange
  have h1 : ¬ ((-1 : Int) > 0) := by decide
  rw [if_neg h1]
  by_cases h : (n : Int) - 1 > ((min n 1 : Nat) : Int) - 1
  · rw [if_pos h]
    have e : ((((n : Int) - 1 - (((min n 1 : Nat) : Int) - 1) - -1 - 1) / - -1)).toNat = n - 1 := by
      simp only [Int.neg_neg, Int.ediv_one]
      omega
    show (List.range ((((n : Int) - 1 - (((min n 1 : Nat) : Int) - 1) - -1 - 1) / - -1)).toNat).map (fun (k : Nat) => ((n : Int) - 1 + -1 * (k : Int)).toNat) = _
    rw [e]
    refine List.map_congr_left fun k hk => ?_
    have := List.mem_range.mp hk
    omega
  · rw [if_neg h]
    have e : n - 1 = 0 := by omega
    rw [e]; rfl
theorem pick_from0 (xs : List Value) : slicePick xs.toArray none (some 0) (some (-1)) = (xs.drop 1).reverse.toArray := by
  unfold slicePick
  rw [sl_from0]
  show ((sliceRange ((xs.toArray.size : Int) - 1) (((min xs.toArray.size 1 : Nat) : Int) - 1) (-1)).filterMap (xs.toArray[·]?)).toArray = _
  rw [rng_from0, List.size_toArray, List.filterMap_map]
  congr 1
  have e : ∀ n, n ≤ xs.length - 1 → (List.range n).filterMap ((fun x => xs.toArray[x]?) ∘ fun k => xs.length - 1 - k) = xs.reverse.take n := by
    intro n
    induction n with
    | zero => intro _; simp
    | succ n ih =>
      intro hn
      rw [List.range_succ, List.filterMap_append, ih (by omega), List.take_add_one]
      congr 1
      rw [List.filterMap_cons]
      have e1 : ((fun x => xs.toArray[x]?) ∘ fun k => xs.length - 1 - k) n = xs[xs.length - 1 - n]? := List.getElem?_toArray ..
      rw [e1, List.getElem?_reverse (by omega)]
      cases xs[xs.length - 1 - n]? <;> rfl
  rw [e _ (Nat.le_refl _), List.reverse_drop]
end
/-! ### [::-1], [:0:-1] -/
def vRev (x : Val) (h : IH) (Q : KV) : Prop := match x with
  | .tup xs => Q (.tup xs.reverse) h
  | .ref a => match h.seq a with
    | some xs => ∀ p, h p = none → Q (.ref p) (put h p (.lst xs.reverse))
    | none => False
  | _ => False
def vRev0 (x : Val) (h : IH) (Q : KV) : Prop := match x with
  | .ref a => match h.seq a with
    | some xs => ∀ p, h p = none → Q (.ref p) (put h p (.lst (xs.drop 1).reverse))
    | none => False
  | _ => False
section
variable {X : Cx} {hp : List (Addr × Obj)} {W : WX} {C : Calls}
theorem r_rev {e : Expr} {c : DE} {k : Nat} {p1 p2 p3 pos : Pos} (he : PE X e (rdE X.K X.mg hp W C c)) : PE X (.Subscript e (.Slice none none (some (.UnaryOp .USub (.Constant (.int 1) k p1) p2)) p3) pos) (rdE X.K X.mg hp W C (eUn vRev c)) := by
  refine ⟨fun pins s σ H Q I z => ?_⟩
  have za : rdE X.K X.mg hp W C c σ H fun x H1 => (∃ a xs, x = .ref a ∧ SqL X.K H1 a xs ∧ ∀ p, H1 p = none → Q (.ref p) (upd H1 p (.lst xs.reverse))) ∨ ∃ a xs, x = .ref a ∧ SqT X.K H1 a xs ∧ ∀ p, H1 p = none → Q (.ref p) (upd H1 p (.tup xs.reverse)) := by
    obtain ⟨ρ, h, Q', E', sr, r, q, k, xw⟩ := z
    refine rdE.step sr r q xw fun x v h1 H1 vx r1 e1 _ _ q1 => ?_
    have k := KW.mono k e1
    cases x with
    | tup xs =>
      obtain ⟨a, vs, rfl, t, p⟩ := vx.tp
      exact .inr ⟨a, vs, rfl, t, k.tup r1 p.reverse q1⟩
    | ref a =>
      cases vx.rf
      dsimp only [vRev] at q1
      cases hx : h1.seq a with
      | none => rw [hx] at q1; exact q1.elim
      | some xs =>
        rw [hx] at q1
        obtain ⟨vs, t, p⟩ := r1.seq hx
        exact .inl ⟨a, vs, rfl, t, k.lst r1 p.reverse q1⟩
    | _ => exact q1.elim
  refine Subscript_ (thn (he.run pins s σ H _ I za) fun v s1 ⟨x, H1, I1, r1, q1⟩ => ?_)
  have hst : PO X (some (.UnaryOp .USub (.Constant (.int 1) k p1) p2)) (tPart (tUn (rU fun i => .int (-i)) (tC (.int 1)))) := po_some (pe_un un_neg pe_int)
  refine wpAny_Slice (thn (po_none.run pins s1 σ H1 (fun o H2 => o = none ∧ H2 = H1) I1 ⟨rfl, rfl⟩) fun vl s2 ⟨l, H2, I2, pl, el, e2⟩ => ?_)
  subst el e2
  refine thn (po_none.run pins s2 σ H2 (fun o H3 => o = none ∧ H3 = H2) I2 ⟨rfl, rfl⟩) fun vu s3 ⟨u, H3, I3, pu, eu, e3⟩ => ?_
  subst eu e3
  refine thn (hst.run pins s3 σ H3 (fun o H4 => o = some (-1) ∧ H4 = H3) I3 ⟨1, rfl, -1, rfl, rfl, rfl⟩) fun vs s4 ⟨o, H4, I4, ps, eo, e4⟩ => ?_
  subst eo e4
  have I5 : Inv X pins σ H4 { s4 with heap := s4.heap.push { cls := .type "slice", data := .fields #[vl, vu, vs] } } := I4.kept (t' := s4.toks) fun b ob q => Heap.get?_push_of_some _ q
  rcases q1 with ⟨a, xs, rfl, hx, q⟩ | ⟨a, xs, rfl, hx, q⟩
  · cases r1
    obtain ⟨its, r, ht, hz⟩ := I5.list hx
    have hlen := r.length
    refine tail_any (ops := [.ref a, .ref s4.heap.objs.size]) ht.isList.typeIs (PySem.slot_list_getitem.lookup) ?_ (by with_unfolding_all rfl)
    refine wpAny_getItem_list_slice ht.isList (Heap.IsSliceOf.new _ vl vu vs) pl pu ps (by decide) ?_ (by rw [List.size_toArray]; omega)
    rw [PySem.W.krv_pick]
    refine ⟨.ref _, _, I5.laid (t' := s4.toks) (o := .lst xs.reverse) (fun b ob q => Heap.get?_push_of_some _ q) (Nat.le_refl _) ?_, rfl, q _ (I5.hok.fresh (Nat.le_refl _))⟩
    exact ⟨by rw [List.length_reverse]; exact hz, _, 0, r.reverse, Heap.get?_push_size _ rfl⟩
  · cases r1
    obtain ⟨its, r, ht, hz⟩ := I5.tuple hx
    have hlen := r.length
    refine tail_any (ops := [.ref a, .ref s4.heap.objs.size]) ht.typeIs (PyProof.Rows.slot_tuple_getitem.lookup) ?_ (by with_unfolding_all rfl)
    refine tuple_back ht (Heap.IsSliceOf.new _ vl vu vs) pl pu ps ?_ (by omega)
    refine ⟨.ref _, _, I5.laid (t' := s4.toks) (o := .tup xs.reverse) (fun b ob q => Heap.get?_push_of_some _ q) (Nat.le_refl _) ?_, rfl, q _ (I5.hok.fresh (Nat.le_refl _))⟩
    exact ⟨by rw [List.length_reverse]; exact hz, _, r.reverse, ⟨_, Heap.get?_push_size _ rfl, rfl, _, rfl⟩⟩
theorem r_rev0 {e : Expr} {c : DE} {k k' : Nat} {p0 p1 p2 p3 pos : Pos} (he : PE X e (rdE X.K X.mg hp W C c)) : PE X (.Subscript e (.Slice none (some (.Constant (.int 0) k' p0)) (some (.UnaryOp .USub (.Constant (.int 1) k p1) p2)) p3) pos) (rdE X.K X.mg hp W C (eUn vRev0 c)) := by
  refine ⟨fun pins s σ H Q I z => ?_⟩
  have za : rdE X.K X.mg hp W C c σ H fun x H1 => ∃ a xs, x = .ref a ∧ SqL X.K H1 a xs ∧ ∀ p, H1 p = none → Q (.ref p) (upd H1 p (.lst (xs.drop 1).reverse)) := by
    obtain ⟨ρ, h, Q', E', sr, r, q, k, xw⟩ := z
    refine rdE.step sr r q xw fun x v h1 H1 vx r1 e1 _ _ q1 => ?_
    have k := KW.mono k e1
    cases x with
    | ref a =>
      cases vx.rf
      dsimp only [vRev0] at q1
      cases hx : h1.seq a with
      | none => rw [hx] at q1; exact q1.elim
      | some xs =>
        rw [hx] at q1
        obtain ⟨vs, t, p⟩ := r1.seq hx
        exact ⟨a, vs, rfl, t, k.lst r1 (p.drop 1).reverse q1⟩
    | _ => exact q1.elim
  refine Subscript_ (thn (he.run pins s σ H _ I za) fun v s1 ⟨x, H1, I1, r1, q1⟩ => ?_)
  have hst : PO X (some (.UnaryOp .USub (.Constant (.int 1) k p1) p2)) (tPart (tUn (rU fun i => .int (-i)) (tC (.int 1)))) := po_some (pe_un un_neg pe_int)
  have hhi : PO X (some (.Constant (.int 0) k' p0)) (tPart (tC (.int 0))) := po_some pe_int
  refine wpAny_Slice (thn (po_none.run pins s1 σ H1 (fun o H2 => o = none ∧ H2 = H1) I1 ⟨rfl, rfl⟩) fun vl s2 ⟨l, H2, I2, pl, el, e2⟩ => ?_)
  subst el e2
  refine thn (hhi.run pins s2 σ H2 (fun o H3 => o = some 0 ∧ H3 = H2) I2 ⟨0, rfl, rfl, rfl⟩) fun vu s3 ⟨u, H3, I3, pu, eu, e3⟩ => ?_
  subst eu e3
  refine thn (hst.run pins s3 σ H3 (fun o H4 => o = some (-1) ∧ H4 = H3) I3 ⟨1, rfl, -1, rfl, rfl, rfl⟩) fun vs s4 ⟨o, H4, I4, ps, eo, e4⟩ => ?_
  subst eo e4
  have I5 : Inv X pins σ H4 { s4 with heap := s4.heap.push { cls := .type "slice", data := .fields #[vl, vu, vs] } } := I4.kept (t' := s4.toks) fun b ob q => Heap.get?_push_of_some _ q
  obtain ⟨a, xs, rfl, hx, q⟩ := q1
  cases r1
  obtain ⟨its, r, ht, hz⟩ := I5.list hx
  have hlen := r.length
  refine tail_any (ops := [.ref a, .ref s4.heap.objs.size]) ht.isList.typeIs (PySem.slot_list_getitem.lookup) ?_ (by with_unfolding_all rfl)
  refine wpAny_getItem_list_slice ht.isList (Heap.IsSliceOf.new _ vl vu vs) pl pu ps (by decide) ?_ (by rw [List.size_toArray]; omega)
  rw [pick_from0]
  refine ⟨.ref _, _, I5.laid (t' := s4.toks) (o := .lst (xs.drop 1).reverse) (fun b ob q => Heap.get?_push_of_some _ q) (Nat.le_refl _) ?_, rfl, q _ (I5.hok.fresh (Nat.le_refl _))⟩
  exact ⟨by rw [List.length_reverse, List.length_drop]; omega, _, 0, (r.drop 1).reverse, Heap.get?_push_size _ rfl⟩
end
/-! ### sorted numbers, list(range(..)) -/
def bSorted (vs : List Val) (h : IH) (Q : KV) : Prop := match vs with
  | [.ref a] => match h.seq a with
    | some xs => ∃ ns : List Int, xs = ns.map Val.int ∧ ∀ ns' : List Int, ns'.Perm ns → ns'.Pairwise (· ≤ ·) → ∀ p, h p = none → Q (.ref p) (put h p (.lst (ns'.map Val.int)))
    | none => False
  | _ => False
def eLRng1 (a : DA) : DE := fun C ρ h Q E => a C ρ h (fun xs h1 => match xs with
  | [.int j] => (j ≤ 16777216 ∧ 0 ≤ j) ∧ ∀ p, h1 p = none → Q (.ref p) (put h1 p (.lst (upTo 0 j.toNat)))
  | _ => False) E
theorem VRs.toInts {K : PySem.W.Frag} {mg : Str → Option Value} {H : Hp} : ∀ {ns : List Int} {vs : List V}, VRs K mg H (ns.map Val.int) vs → vs = ns.map V.int
  | [], _, .nil => rfl
  | n :: ns, _, .cons a b => by
    cases a
    rw [VRs.toInts b]
    rfl
section
variable {X : Cx} {hp : List (Addr × Obj)} {W : WX} {C : Calls}
theorem k_sorted : BiOk X.K X.mg hp bSorted (rSortedI X.K) := by
  intro xs vs h H Q' Q p r f k
  unfold bSorted at f
  split at f
  · split at f
    · rename_i ys e0
      obtain ⟨v, rfl, vx⟩ := p1 p
      cases vx.rf
      obtain ⟨ns, rfl, f⟩ := f
      obtain ⟨ws, t, q⟩ := r.seq e0
      cases q.toInts
      exact ⟨_, ns, rfl, t, fun ns' p hp1 hp2 hn => k.lst r (VRs.ofInts ns') (f ns' hp1 hp2) p hn⟩
    · exact f.elim
  · exact f.elim
theorem rgV_up {j : Int} : rgV 0 j = (List.range j.toNat).map fun (k : Nat) => V.int (0 + (k : Int)) := by unfold rgV; rw [Int.sub_zero]
theorem r_lrng1 {a : Expr} {c : DA} {p p2 pos pos2 : Pos} (hc : X.calm = true) (hg : Gl X "list") (hm : X.mg "list" = none) (hg2 : Gl X "range") (hm2 : X.mg "range" = none) (hs : starEach [a] X.env = [(false, eval a X.env)]) (ha : PA X [a] (rdA X.K X.mg hp W C c)) :
    PE X (.Call (.Name "list" p) [.Call (.Name "range" p2) [a] [] pos2] [] pos) (rdE X.K X.mg hp W C (eLRng1 c)) := by
  have hr : PRg X (.Call (.Name "range" p2) [a] [] pos2) (fun σ H R => rdA X.K X.mg hp W C c σ H fun vs H1 => ∃ j, vs = [.int j] ∧ R 0 j H1) := by
    intro pins s σ H Q I h
    refine Call_ (ld_blt I hg2 hm2 boot_range (PyProof.Rows.callWith_type1 (thn (ha.run _ pins s σ H _ I h) fun us s1 ⟨vs, H1, I1, rv, q1⟩ => ?_) hs rfl))
    obtain ⟨j, rfl, q⟩ := q1
    cases rv with
    | cons r1 rr =>
      cases rr
      obtain ⟨t, rfl⟩ := r1
      exact call_range_1 ⟨_, 0, j, _, _, _, H1, rfl, IsRange.new _ _ _ _ _ _ _, I1.kept fun b u e => Heap.get?_push_of_some _ e, q⟩
  refine PE.weak (pe_listRg hc hg hm hr) ?_
  rintro σ H Q ⟨ρ, h, Q', E', s, r, q, k, xw⟩
  refine rdA.step s r q xw fun ys vs h1 H1 vy r1 e1 s1 xw1 q1 => ?_
  split at q1
  · obtain ⟨v, rfl, vx⟩ := p1 vy
    rename_i j
    cases vx.int
    refine ⟨_, rfl, .of_le (by decide) q1.1.1 (by decide) q1.1.2, ?_⟩
    refine (KW.mono k e1).lst r1 ?_ q1.2
    rw [rgV_up]
    have z := VRs.ofInts (K := X.K) (mg := X.mg) (H := H1) ((List.range j.toNat).map fun (k : Nat) => (0 : Int) + (k : Int))
    rw [List.map_map, List.map_map] at z
    exact z
  · exact q1.elim
end
/-! ### methods of lists -/
def mReverse (x : Val) (vs : List Val) (h : IH) (Q : KV) : Prop := match x, vs with
  | .ref a, [] => match h a with
    | some (.lst xs) => Q .non (put h a (.lst xs.reverse))
    | _ => False
  | _, _ => False
def mClear (x : Val) (vs : List Val) (h : IH) (Q : KV) : Prop := match x, vs with
  | .ref a, [] => match h a with
    | some (.lst _) => Q .non (put h a (.lst []))
    | _ => False
  | _, _ => False
def mPopAt (x : Val) (vs : List Val) (h : IH) (Q : KV) : Prop := match x, vs with
  | .ref a, [.int i] => match h a with
    | some (.lst xs) => (0 ≤ i ∧ i < 2 ^ 63) ∧ match xs[i.toNat]? with
      | some y => Q y (put h a (.lst (xs.eraseIdx i.toNat)))
      | none => False
    | _ => False
  | _, _ => False
def mExtend (x : Val) (vs : List Val) (h : IH) (Q : KV) : Prop := match x, vs with
  | .ref a, [.ref b] => match h a, h b with
    | some (.lst xs), some (.lst ys) => xs.length + ys.length ≤ sizeLine ∧ Q .non (put h a (.lst (xs ++ ys)))
    | _, _ => False
  | _, _ => False
def mInsert (x : Val) (vs : List Val) (h : IH) (Q : KV) : Prop := match x, vs with
  | .ref a, [.int i, y] => match h a with
    | some (.lst xs) => (plain y = true ∧ xs.length < sizeLine ∧ 0 ≤ i ∧ i < 2 ^ 63) ∧ Q .non (put h a (.lst (xs.take i.toNat ++ [y] ++ xs.drop i.toNat)))
    | _ => False
  | _, _ => False
section
variable {X : Cx} {hp : List (Addr × Obj)}
theorem k_reverse : MtOk X.K X.mg hp "list" mReverse rReverse := by
  intro x xs v vs h H Q' Q vx p r f k
  unfold mReverse at f
  split at f
  · split at f
    · rename_i ys e0
      cases vx.rf
      cases p
      obtain ⟨ws, e1, q⟩ := r.lst e0
      obtain ⟨r2, e2⟩ := r.write e0 e1 (fun _ _ e => nomatch e) (CR.lst q.reverse)
      exact ⟨_, ws, rfl, rfl, e1, k .non .non _ _ (.inl .non) r2 e2 f⟩
    · exact f.elim
  · exact f.elim
theorem k_clear : MtOk X.K X.mg hp "list" mClear rClear := by
  intro x xs v vs h H Q' Q vx p r f k
  unfold mClear at f
  split at f
  · split at f
    · rename_i ys e0
      cases vx.rf
      cases p
      obtain ⟨ws, e1, q⟩ := r.lst e0
      obtain ⟨r2, e2⟩ := r.write e0 e1 (fun _ _ e => nomatch e) (CR.lst .nil)
      exact ⟨_, ws, rfl, rfl, e1, k .non .non _ _ (.inl .non) r2 e2 f⟩
    · exact f.elim
  · exact f.elim
theorem k_popAt : MtOk X.K X.mg hp "list" mPopAt rPopAt := by
  intro x xs v vs h H Q' Q vx p r f k
  unfold mPopAt at f
  split at f
  · rename_i a i
    split at f
    · rename_i ys e0
      obtain ⟨f0, f⟩ := f
      split at f
      · rename_i y ey
        cases vx.rf
        obtain ⟨u, rfl, vi⟩ := p1 p
        cases vi.int
        obtain ⟨ws, e1, q⟩ := r.lst e0
        obtain ⟨u, eu, z⟩ := q.get ey
        obtain ⟨r2, e2⟩ := r.write e0 e1 (fun _ _ e => nomatch e) (CR.lst (q.eraseIdx i.toNat))
        have hl := (List.getElem?_eq_some_iff.mp ey).1
        refine ⟨_, ws, i, i.toNat, u, rfl, rfl, e1, by omega, f0.2, ?_, eu, k y u _ _ (.inl (z.mono (e2.tup r))) r2 e2 f⟩
        unfold seqIndex?
        have c1 : ¬ i < 0 := by omega
        have c2 : i < (ws.length : Int) := by rw [← q.length]; omega
        simp [c1, c2, f0.1]
      · exact f.elim
    · exact f.elim
  · exact f.elim
theorem k_extend : MtOk X.K X.mg hp "list" mExtend rExtend := by
  intro x xs v vs h H Q' Q vx p r f k
  unfold mExtend at f
  split at f
  · split at f
    · rename_i ys zs e0 e1
      obtain ⟨f0, f⟩ := f
      cases vx.rf
      obtain ⟨u, rfl, vb⟩ := p1 p
      cases vb.rf
      obtain ⟨ws, g0, q⟩ := r.lst e0
      obtain ⟨us, g1, q1⟩ := r.lst e1
      obtain ⟨r2, e2⟩ := r.write e0 g0 (fun _ _ e => nomatch e) (CR.lst (q.append q1))
      exact ⟨_, _, ws, us, rfl, rfl, g0, g1, by rw [← q.length, ← q1.length]; exact f0, k .non .non _ _ (.inl .non) r2 e2 f⟩
    · exact f.elim
  · exact f.elim
theorem k_insert : MtOk X.K X.mg hp "list" mInsert (fun x vs H Q => ∃ (l : Addr) (xs : List V) (i : Int) (y : V), x = .ref l ∧ vs = [.int i, y] ∧ H l = some (.lst xs) ∧ xs.length < sizeLine ∧ 0 ≤ i ∧ i < 2 ^ 63 ∧
    Q .non (upd H l (.lst (xs.take i.toNat ++ [y] ++ xs.drop i.toNat)))) := by
  intro x xs v vs h H Q' Q vx p r f k
  unfold mInsert at f
  split at f
  · rename_i a i y
    split at f
    · rename_i ys e0
      obtain ⟨f0, f⟩ := f
      cases vx.rf
      obtain ⟨u, w, rfl, vi, vy⟩ := p2 p
      cases vi.int
      obtain ⟨ws, e1, q⟩ := r.lst e0
      obtain ⟨r2, e2⟩ := r.write e0 e1 (fun _ _ e => nomatch e) (CR.lst (((q.take i.toNat).append (.cons (vy.vr f0.1) .nil)).append (q.drop i.toNat)))
      exact ⟨_, ws, i, w, rfl, rfl, e1, by rw [← q.length]; exact f0.2.1, f0.2.2.1, f0.2.2.2, k .non .non _ _ (.inl .non) r2 e2 f⟩
    · exact f.elim
  · exact f.elim
end
end WS

/-! WS8: from the row's syntax to transformers. -/
namespace WS
open PySem PySem.Spec L2 L2H

/-! ### forms -/
def noStar : Expr → Bool
  | .Starred _ _ => false
  | _ => true
def noStars (es : List Expr) : Bool := es.all noStar
theorem noStar_each {e : Expr} {es : List Expr} {env : Env} (h : noStar e = true) : starEach (e :: es) env = (false, eval e env) :: starEach es env := by
  cases e <;> first | rfl | exact (Bool.false_ne_true h).elim
theorem noStars_plain {pos : Pos} {env : Env} : ∀ {es : List Expr}, noStars es = true → (backTo pos (starEach es env)).any (·.1) = false
  | [], _ => rfl
  | e :: es, h => by
    have q := Bool.and_eq_true_iff.mp (show (noStar e && noStars es) = true from h)
    rw [noStar_each q.1]
    have i := noStars_plain (pos := pos) (env := env) q.2
    unfold backTo at i ⊢
    rw [List.map_cons, List.any_cons, i]
    rfl
theorem noStar_asg {e : Expr} {es : List Expr} {env : Env} (h : noStar e = true) : assignEach (e :: es) env = (false, assign e env) :: assignEach es env := by
  cases e <;> first | rfl | exact (Bool.false_ne_true h).elim
theorem asg_len {env : Env} : ∀ {es : List Expr}, noStars es = true → (assignEach es env).length = es.length
  | [], _ => rfl
  | e :: es, h => by
    have q := Bool.and_eq_true_iff.mp (show (noStar e && noStars es) = true from h)
    rw [noStar_asg q.1, List.length_cons, List.length_cons, asg_len q.2]
theorem asg_find {env : Env} : ∀ {es : List Expr}, noStars es = true → (assignEach es env).findIdx? (·.1) = none
  | [], _ => rfl
  | e :: es, h => by
    have q := Bool.and_eq_true_iff.mp (show (noStar e && noStars es) = true from h)
    rw [noStar_asg q.1, List.findIdx?_cons, if_neg Bool.false_ne_true, asg_find q.2]
    rfl
def noSlice : Expr → Bool
  | .Slice _ _ _ _ => false
  | _ => true
theorem plainIx_of {b : Expr} (h : noSlice b = true) : PlainIx b := by
  intro o i
  cases b <;> first | rfl | exact (Bool.false_ne_true h).elim
def noComp : Expr → Bool
  | .ListComp _ _ _ _ => false
  | .SetComp _ _ _ _ => false
  | .DictComp _ _ _ _ _ => false
  | _ => true
theorem swaps_none {e : Expr} (h : noComp e = true) (t : Option Expr) (l : Nat) (env : Env) : swapsWith e t l env = pure false := by
  cases e <;> first | rfl | exact (Bool.false_ne_true h).elim
def noSet : Expr → Bool
  | .Set _ _ _ => false
  | _ => true
theorem folded_none {e : Expr} (h : noSet e = true) (env : Env) (x : Value) : foldedSetIterable e env x = pure x := by
  cases e <;> first | rfl | exact (Bool.false_ne_true h).elim
theorem marks_none {e : Expr} (h : noSet e = true) (op : CmpOp) : behindInMarks op e = false := by
  cases e <;> first | rfl | exact (Bool.false_ne_true h).elim
def noCallE : Expr → Bool
  | .Call _ _ _ _ => false
  | _ => true
theorem base_of {o : Expr} (h : noCallE o = true) (n : Str) (env : Env) : attributeBase o n env (eval o env) = eval o env := by
  cases o <;> first | rfl | exact (Bool.false_ne_true h).elim
def nmOk (x : Str) : Bool := !(x == ("__debug__" : Str)) && !(x == ("__classdict__" : Str)) && !(x == ("__name__" : Str))
theorem nm1 {x : Str} (h : nmOk x = true) : (x == ("__debug__" : Str)) = false := by
  have a := (Bool.and_eq_true_iff.mp (Bool.and_eq_true_iff.mp h).1).1
  simpa using a
theorem nm2 {x : Str} (h : nmOk x = true) : (x == ("__classdict__" : Str)) = false := by
  have a := (Bool.and_eq_true_iff.mp (Bool.and_eq_true_iff.mp h).1).2
  simpa using a
theorem nm3 {x : Str} (h : nmOk x = true) : x ≠ "__name__" := by
  have a := (Bool.and_eq_true_iff.mp h).2
  simpa using a

/-! ### built-in functions by their names -/
structure Bi where
  nm : Str
  id : String
  ty : Bool
  calm : Bool
  f : List Val → IH → KV → Prop
def bis : List Bi := [⟨"len", "len", false, false, bLen⟩, ⟨"abs", "abs", false, false, bAbs⟩, ⟨"max", "max", false, true, bMax⟩, ⟨"min", "min", false, true, bMin⟩, ⟨"divmod", "divmod", false, false, bDivmod⟩,
  ⟨"int", "int", true, false, bInt⟩, ⟨"tuple", "tuple", true, false, bTuple⟩, ⟨"list", "list", true, false, bList⟩, ⟨"all", "all", false, true, bAll⟩, ⟨"any", "any", false, true, bAny⟩, ⟨"sum", "sum", false, true, bSum⟩, ⟨"repr", "repr", false, false, bRepr⟩, ⟨"str", "str", true, false, bStr⟩, ⟨"sorted", "sorted", false, false, bSorted⟩]
def BiGood (b : Bi) : Prop := bootBuiltins b.nm = some (if b.ty then .type b.id else .builtin b.id) ∧ nmOk b.nm = true ∧
  ∀ (X : Cx) (hp : List (Addr × Obj)), (b.calm = true → X.calm = true) → X.A.guards = some [] → X.A.units + 66 < cLine → ∃ r, BiOk X.K X.mg hp b.f r ∧ CallR X (if b.ty then .type b.id else .builtin b.id) r
theorem bis_good : ∀ b ∈ bis, BiGood b := by
  have h1 : ∀ b ∈ bis, bootBuiltins b.nm = some (if b.ty then .type b.id else .builtin b.id) ∧ nmOk b.nm = true := by decide +kernel
  intro b hb
  refine ⟨(h1 b hb).1, (h1 b hb).2, fun X hp hc gd hu => ?_⟩
  unfold bis at hb
  simp only [List.mem_cons, List.not_mem_nil, or_false] at hb
  rcases hb with rfl | rfl | rfl | rfl | rfl | rfl | rfl | rfl | rfl | rfl | rfl | rfl | rfl | rfl
  · exact ⟨_, k_len, call_len⟩
  · exact ⟨_, k_abs, call_abs⟩
  · exact ⟨_, k_max, call_max2 (hc rfl)⟩
  · exact ⟨_, k_min, call_min2 (hc rfl)⟩
  · exact ⟨_, k_divmod, c_divmod⟩
  · exact ⟨_, k_int, call_int1⟩
  · exact ⟨_, k_tuple, call_tuple_of⟩
  · exact ⟨_, k_list, call_list_of⟩
  · exact ⟨_, k_all, cr_all (hc rfl)⟩
  · exact ⟨_, k_any, cr_any (hc rfl)⟩
  · exact ⟨_, k_sum, cr_sum (hc rfl)⟩
  · exact ⟨_, k_repr, cr_repr gd hu⟩
  · exact ⟨_, k_str, cr_str⟩
  · exact ⟨_, k_sorted, cr_sortedI⟩
/-- built-in classes as values -/
def tyTab : List (Str × String) := [("int", "int"), ("bool", "bool"), ("str", "str"), ("tuple", "tuple"), ("list", "list"), ("dict", "dict"), ("ValueError", "ValueError")]
theorem tyTab_good : ∀ p ∈ tyTab, bootBuiltins p.1 = some (.type p.2) ∧ nmOk p.1 = true := by decide +kernel

/-! ### what is known of the text -/
/-- how many values a call writes, which ones stand behind them -/
abbrev FSig : Type := List (Nat × List Val)
structure TC where
  N : List Str
  sc : Scope
  hot : Bool
  top : Bool
  fns : List (Str × FSig)
  hots : List Str
  cns : List (Str × Val)
  cls : List Str
  rse : List Str
  kws : List (Str × Str × Nat)
  blt : List Str
def TC.slot (tc : TC) (x : Str) : Option Nat := match tc.sc.names.lookup x with
  | some .local => tc.N.findIdx? (· == x)
  | some .cell => tc.N.findIdx? (· == x)
  | some .free => tc.N.findIdx? (· == x)
  | _ => none
def TC.glb (tc : TC) (x : Str) : Bool := match tc.sc.names.lookup x with
  | some .globalImplicit => true
  | _ => false
/-- the defs keep their promises, the names hold what the text says -/
structure TabOk (tc : TC) (P : Program) (w : World) (K : PySem.W.Frag) (mg : Str → Option Value) (base : Heap) (C : Calls) (k : Nat) : Prop where
  fns : ∀ n s, tc.fns.lookup n = some s → nmOk n = true ∧ ∃ f, mg n = some (.ref f) ∧ PySem.W.keepIn K (.ref f) = true ∧ ∃ fd ps, FnG P w K mg base k f fd ps (spOf K mg (C.run n)) ∧
    ∀ m dv, s.lookup m = some dv → ∃ dvs ds, Binds K fd ps ds ∧ Vals dvs ds ∧ ∀ H, VRs K mg H dv dvs
  kws : ∀ n q m, (n, q, m) ∈ tc.kws → nmOk n = true ∧ ∃ f, mg n = some (.ref f) ∧ PySem.W.keepIn K (.ref f) = true ∧ ∃ fd ps, FnG P w K mg base k f fd ps (spOf K mg (C.run n)) ∧ KBn K fd ps m [q] (fun us ws => us ++ ws) (fun vs zs => vs ++ zs)
  hots : ∀ n ∈ tc.hots, nmOk n = true ∧ ∃ f, mg n = some (.ref f) ∧ PySem.W.keepIn K (.ref f) = true ∧ ∃ fd ps, Binds K fd ps [] ∧ ∀ p, FnZ P w K mg base k f fd ps (spOfZ K mg [p] (C.hot n)) p
  cns : ∀ n v, tc.cns.lookup n = some v → nmOk n = true ∧ ∃ u x, mg n = some u ∧ RelV x u ∧ ∀ H, VR K mg H v x
  cls : ∀ n ∈ tc.cls, nmOk n = true ∧ ∃ a, mg n = some (.ref a)
  rse : ∀ n ∈ tc.rse, ∀ a, mg n = some (.ref a) → PySem.W.excIn K a HandSPX.veTail "ValueError.__new__" = true ∧ PySem.W.keepIn K (.ref a) = true ∧ PySem.W.subIn K (.ref a) (.type "BaseException") = some true ∧ PySem.W.typeIn K (.ref a) = some (.type "type")
  rsc : ∀ n ∈ tc.rse, nmOk n = true ∧ ∃ a, mg n = some (.ref a)
  blt : ∀ n ∈ tc.blt, mg n = none
  xo : XOk K mg C.isa
structure CxOk (tc : TC) (X : Cx) (W : WX) (C : Calls) (hp : List (Addr × Obj)) (k : Nat) : Prop where
  N : X.N = tc.N
  nd : tc.N.Nodup
  sc : ∀ x k, tc.sc.names.lookup x = some k → X.env.scope.names.lookup x = some k ∨ (k = .free ∧ X.env.scope.names.lookup x = some .cell)
  kd : X.env.scope.kind = .function
  fn : ∀ x, tc.sc.names.lookup x = some .cell → X.fn x = true
  calm : tc.hot = false → X.calm = true ∧ Room k X.A ∧ hp = []
  gd : X.A.guards = some []
  hotp : tc.hot = true → RoomH k X.A ∧ ∃ p, hp = [p] ∧ Hot1 X.A p
  sub : ∀ q ∈ hp, q ∈ X.pn
  un : X.A.units + 66 < cLine
  tk : L2N.Takes X W
  po : PassesOwn (model X.prog X.w) X.A X.env X.xe
  tab : TabOk tc X.prog X.w X.K X.mg X.base C k
  top : tc.top = true → X.env.scope = tc.sc ∧ X.stack = X.env :: X.outer ∧ X.env.frame = some X.env.locals
section
variable {tc : TC} {X : Cx} {W : WX} {C : Calls} {hp : List (Addr × Obj)} {k : Nat}
theorem findIdx_at {N : List Str} {x : Str} {i : Nat} (h : N.findIdx? (· == x) = some i) : N[i]? = some x := by
  rw [List.findIdx?_eq_some_iff_getElem] at h
  obtain ⟨hl, e, _⟩ := h
  rw [List.getElem?_eq_getElem hl]
  exact congrArg some (by simpa using e)
theorem CxOk.slot (c : CxOk tc X W C hp k) {x : Str} {i : Nat} (h : tc.slot x = some i) : X.N[i]? = some x ∧ Vis X.env.scope x := by
  unfold TC.slot at h
  split at h
  · rename_i e
    refine ⟨by rw [c.N]; exact findIdx_at h, ?_⟩
    rcases c.sc _ _ e with z | ⟨z, _⟩
    · exact .inl z
    · cases z
  · rename_i e
    refine ⟨by rw [c.N]; exact findIdx_at h, ?_⟩
    rcases c.sc _ _ e with z | ⟨z, _⟩
    · exact .inr (.inl z)
    · cases z
  · rename_i e
    refine ⟨by rw [c.N]; exact findIdx_at h, ?_⟩
    rcases c.sc _ _ e with z | ⟨_, z⟩
    · exact .inr (.inr z)
    · exact .inr (.inl z)
  · cases h
theorem CxOk.glb (c : CxOk tc X W C hp k) {x : Str} (h : tc.glb x = true) : Gl X x := by
  unfold TC.glb at h
  split at h
  · rename_i e
    rcases c.sc _ _ e with z | ⟨z, _⟩
    · exact z
    · cases z
  · cases h
theorem CxOk.ndX (c : CxOk tc X W C hp k) : X.N.Nodup := by rw [c.N]; exact c.nd
/-- a name that is stored -/
def TC.sto (tc : TC) (x : Str) : Option Nat := match tc.sc.names.lookup x with
  | some .local => tc.N.findIdx? (· == x)
  | some .cell => tc.N.findIdx? (· == x)
  | _ => none
theorem CxOk.sto (c : CxOk tc X W C hp k) {x : Str} {i : Nat} (h : tc.sto x = some i) : X.N[i]? = some x ∧ Loc X.env.scope x ∧ (X.fn x = true ∨ X.env.scope.names.lookup x = some .local) := by
  unfold TC.sto at h
  split at h
  · rename_i e
    refine ⟨by rw [c.N]; exact findIdx_at h, ?_⟩
    rcases c.sc _ _ e with z | ⟨z, _⟩
    · exact ⟨.inl z, .inr z⟩
    · cases z
  · rename_i e
    refine ⟨by rw [c.N]; exact findIdx_at h, ?_⟩
    rcases c.sc _ _ e with z | ⟨z, _⟩
    · exact ⟨.inr z, .inl (c.fn _ e)⟩
    · cases z
  · cases h
end

/-! ### the step: the parts' translators made the whole's -/
structure Trs where
  E : TC → Expr → Option DE
  T : TC → Expr → Option DT
  A : TC → List Expr → Option DA
  S : TC → Stmt → Option DS
  B : TC → List Stmt → Option DS
  G : TC → Expr → Option (DG × List Nat)
  Gs : TC → List Expr → Option (DGs × List Nat)
  I : TC → Expr → Expr → Option DI
end WS

/-! WS9: the translator of expressions, sound. -/
namespace WS
open PySem PySem.Spec L2 L2H

/-! ### options -/
def o1 {α γ : Type} (a : Option α) (f : α → γ) : Option γ := match a with
  | some x => some (f x)
  | none => none
def o2 {α β γ : Type} (a : Option α) (b : Option β) (f : α → β → γ) : Option γ := match a, b with
  | some x, some y => some (f x y)
  | _, _ => none
def o3 {α β δ γ : Type} (a : Option α) (b : Option β) (d : Option δ) (f : α → β → δ → γ) : Option γ := match a, b, d with
  | some x, some y, some z => some (f x y z)
  | _, _, _ => none
def oG {α : Type} (b : Bool) (a : Option α) : Option α := match b with
  | true => a
  | false => none
theorem o1_some {α γ : Type} {a : Option α} {f : α → γ} {c : γ} (h : o1 a f = some c) : ∃ x, a = some x ∧ f x = c := by
  cases a with
  | none => cases h
  | some x => exact ⟨x, rfl, Option.some.inj h⟩
theorem o2_some {α β γ : Type} {a : Option α} {b : Option β} {f : α → β → γ} {c : γ} (h : o2 a b f = some c) : ∃ x y, a = some x ∧ b = some y ∧ f x y = c := by
  cases a with
  | none => cases h
  | some x =>
    cases b with
    | none => cases h
    | some y => exact ⟨x, y, rfl, rfl, Option.some.inj h⟩
theorem o3_some {α β δ γ : Type} {a : Option α} {b : Option β} {d : Option δ} {f : α → β → δ → γ} {c : γ} (h : o3 a b d f = some c) : ∃ x y z, a = some x ∧ b = some y ∧ d = some z ∧ f x y z = c := by
  cases a with
  | none => cases h
  | some x =>
    cases b with
    | none => cases h
    | some y =>
      cases d with
      | none => cases h
      | some z => exact ⟨x, y, z, rfl, rfl, rfl, Option.some.inj h⟩
theorem oG_some {α : Type} {b : Bool} {a : Option α} {c : α} (h : oG b a = some c) : b = true ∧ a = some c := by
  cases b with
  | true => exact ⟨rfl, h⟩
  | false => cases h

/-! ### soundness, said -/
structure Snd (R : Trs) : Prop where
  E : ∀ {tc X W C hp k e c}, CxOk tc X W C hp k → R.E tc e = some c → PE X e (rdE X.K X.mg hp W C c)
  T : ∀ {tc X W C hp k e c}, CxOk tc X W C hp k → R.T tc e = some c → PT X e (rdT X.K X.mg hp W C c)
  A : ∀ {tc X W C hp k es c}, CxOk tc X W C hp k → R.A tc es = some c → PA X es (rdA X.K X.mg hp W C c)
  S : ∀ {tc X W C hp k e c}, CxOk tc X W C hp k → R.S tc e = some c → PS X e (rdS X.K X.mg hp W C c)
  B : ∀ {tc X W C hp k e c}, CxOk tc X W C hp k → R.B tc e = some c → PSs X e (rdS X.K X.mg hp W C c)
  G : ∀ {tc X W C hp k e g l}, CxOk tc X W C hp k → R.G tc e = some (g, l) → ∀ gs, (∀ i ∈ l, i ∈ gs) → PG X e (rdG X.K X.mg hp W C gs g)
  Gs : ∀ {tc X W C hp k es g l}, CxOk tc X W C hp k → R.Gs tc es = some (g, l) → ∀ gs, (∀ i ∈ l, i ∈ gs) → PGs X es (rdGs X.K X.mg hp W C gs g)
  I : ∀ {tc X W C hp k tg e c}, CxOk tc X W C hp k → R.I tc tg e = some c → PI X tg e (rdI X.K X.mg hp W C c)


/-! ### names -/
def tyNm (tc : TC) (x : Str) : Option DE := match tyTab.lookup x with
  | some t => oG (tc.blt.elem x) (some (eC (.ty t)))
  | none => none
def clsNm (tc : TC) (x : Str) : Option DE := match tc.cls.elem x with
  | true => some (eC (.glob x))
  | false => tyNm tc x
def glbNm (tc : TC) (x : Str) : Option DE := match tc.cns.lookup x with
  | some v => some (eC v)
  | none => clsNm tc x
def nmE (tc : TC) (x : Str) : Option DE := match tc.slot x with
  | some i => oG (nmOk x) (some (eV i))
  | none => oG (tc.glb x) (glbNm tc x)
section
variable {tc : TC} {X : Cx} {W : WX} {C : Calls} {hp : List (Addr × Obj)} {k : Nat} {R : Trs}
theorem bltE (c : CxOk tc X W C hp k) {x : Str} (h : tc.blt.elem x = true) : X.mg x = none := c.tab.blt x (by simpa using h)
theorem snd_nm (c : CxOk tc X W C hp k) {x : Str} {pos : Pos} {d : DE} (h : nmE tc x = some d) : PE X (.Name x pos) (rdE X.K X.mg hp W C d) := by
  unfold nmE at h
  split at h
  · rename_i i hi
    obtain ⟨h1, h2⟩ := oG_some h
    cases h2
    obtain ⟨a, b⟩ := c.slot hi
    exact r_var a b (nm1 h1) (nm2 h1)
  · obtain ⟨h1, h2⟩ := oG_some h
    have hg := c.glb h1
    unfold glbNm at h2
    split at h2
    · rename_i v hv
      cases h2
      obtain ⟨a, u, y, hm, rv, vr⟩ := c.tab.cns x v hv
      exact r_glob hg hm rv (nm1 a) vr
    · unfold clsNm at h2
      split at h2
      · rename_i he
        cases h2
        obtain ⟨a, y, hm⟩ := c.tab.cls x (by simpa using he)
        exact r_glob (v := .ref y) hg hm rfl (nm1 a) fun H => .glob hm rfl
      · unfold tyNm at h2
        split at h2
        · rename_i t ht
          obtain ⟨h3, h4⟩ := oG_some h2
          cases h4
          obtain ⟨g1, g2⟩ := tyTab_good _ (PySem.mem_of_lookup ht)
          exact rd_C (v := .ty t) (pe_bltn hg (bltE c h3) g1 rfl (nm3 g2) (nm1 g2)) fun _ => .ty t
        · cases h2
end

/-! ### operators -/
def binF : Operator → Option (Val → Val → IH → KV → Prop)
  | .Add => some vAdd
  | .Sub => some vSub
  | .Mult => some vMul
  | .FloorDiv => some vDiv
  | .Mod => some vMod
  | .Pow => some vPow
  | _ => none
def cmpF : CmpOp → Option (Val → Val → IH → KV → Prop)
  | .Eq => some vEq
  | .NotEq => some vNe
  | .Lt => some vLt
  | .LtE => some vLe
  | .Gt => some vGt
  | .GtE => some vGe
  | .In => some vIn
  | .NotIn => some vNotIn
  | .Is => some vIs
  | .IsNot => some vIsNot
section
variable {tc : TC} {X : Cx} {W : WX} {C : Calls} {hp : List (Addr × Obj)} {k : Nat} {R : Trs}
theorem snd_bin {op : Operator} {f : Val → Val → IH → KV → Prop} (h : binF op = some f) : ∃ r, OpR X (binaryOp op) r ∧ OpOk X.K X.mg hp f r := by
  cases op <;> cases h
  · exact ⟨_, o_add, k_add⟩
  · exact ⟨_, op_sub, k_sub⟩
  · exact ⟨_, o_mul, k_mul⟩
  · exact ⟨_, op_mod, k_mod⟩
  · exact ⟨_, op_pow, k_pow⟩
  · exact ⟨_, op_fdivW, k_div⟩
theorem snd_cmp (hu : X.A.units + 66 < cLine) {op : CmpOp} {f : Val → Val → IH → KV → Prop} (h : cmpF op = some f) : ∃ r, OpR X (compareOp op) r ∧ OpOk X.K X.mg hp f r := by
  cases op <;> cases h
  · exact ⟨_, o_eq (by omega), k_eq⟩
  · exact ⟨_, o_ne (by omega), k_ne⟩
  · exact ⟨_, op_lt, k_lt⟩
  · exact ⟨_, op_le, k_le⟩
  · exact ⟨_, op_gt, k_gt⟩
  · exact ⟨_, op_ge, k_ge⟩
  · exact ⟨_, o_is, k_is⟩
  · exact ⟨_, o_isNot, k_isNot⟩
  · exact ⟨_, o_in, k_in⟩
  · exact ⟨_, o_notIn, k_notIn⟩
end

/-! ### method calls of lists -/
def isLst (x : Val) (h : IH) : Prop := match x with
  | .ref a => match h a with
    | some (.lst _) => True
    | _ => False
  | _ => False
def eMtL (f : Val → List Val → IH → KV → Prop) (o : DE) (a : DA) : DE := fun C ρ h Q E => o C ρ h (fun x h1 => isLst x h1 ∧ a C ρ h1 (fun xs h2 => f x xs h2 Q) E) E
theorem isLst_ty {K : PySem.W.Frag} {mg : Str → Option Value} {hp : List (Addr × Obj)} {x : Val} {v : V} {h : IH} {H : Hp} (vx : VX K mg hp H x v) (r : RH K mg h H) (q : isLst x h) : tyV K "list" v H := by
  unfold isLst at q
  split at q
  · split at q
    · rename_i e
      cases vx.rf
      obtain ⟨vs, e1, _⟩ := r.lst e
      exact .inl ⟨rfl, _, SqL.of e1⟩
    · exact q.elim
  · exact q.elim
theorem stars_all {pos : Pos} {env : Env} : ∀ {es : List Expr}, noStars es = true → (backTo pos (starEach es env)).all (fun x => !x.1) = true
  | [], _ => rfl
  | e :: es, h => by
    have q := Bool.and_eq_true_iff.mp (show (noStar e && noStars es) = true from h)
    rw [noStar_each q.1]
    have i := stars_all (pos := pos) (env := env) q.2
    unfold backTo at i ⊢
    rw [List.map_cons, List.all_cons, i]
    rfl
section
variable {tc : TC} {X : Cx} {W : WX} {C : Calls} {hp : List (Addr × Obj)} {k : Nat} {R : Trs}
theorem r_mtL0 {id : String} {name : Str} {r : V → List V → Hp → VK → Prop} {f : Val → List Val → IH → KV → Prop} {o : Expr} {apos cpos : Pos} {co : DE} (slot : Slot "list" name id) (hty : typeOf (.builtin id) = pure (.type "method_descriptor")) (hm : MtR X id r)
    (mo : MtOk X.K X.mg hp "list" f r) (hb : noCallE o = true) (hl : (apos.endLine == cpos.line) = true) (ho : PE X o (rdE X.K X.mg hp W C co)) : PE X (.Call (.Attribute o name apos) [] [] cpos) (rdE X.K X.mg hp W C (eMtL f co aNil)) := by
  refine PE.weak (pe_bm0 PySem.F.plainAttrs_list slot hty hm ho (base_of hb name X.env) hl) ?_
  rintro σ H Q ⟨ρ, h0, Q', E, sr, rh, q, k, xw⟩
  refine rdE.step sr rh q xw fun x v h1 H1 vx r1 e1 s1 xw1 q1 => ⟨isLst_ty vx r1 q1.1, ?_⟩
  exact mo x [] v [] h1 H1 Q' Q vx .nil r1 q1.2 (KW.mono k e1)
theorem r_mtL {id : String} {name : Str} {r : V → List V → Hp → VK → Prop} {f : Val → List Val → IH → KV → Prop} {o e : Expr} {es : List Expr} {apos cpos : Pos} {co : DE} {ca : DA} (slot : Slot "list" name id) (hty : typeOf (.builtin id) = pure (.type "method_descriptor")) (hm : MtR X id r)
    (mo : MtOk X.K X.mg hp "list" f r) (hb : noCallE o = true) (hl : (apos.endLine == cpos.line) = true) (hs : noStars (e :: es) = true) (hn : es.length < 29) (ho : PE X o (rdE X.K X.mg hp W C co)) (ha : PA X (e :: es) (rdA X.K X.mg hp W C ca)) :
    PE X (.Call (.Attribute o name apos) (e :: es) [] cpos) (rdE X.K X.mg hp W C (eMtL f co ca)) := by
  have q := Bool.and_eq_true_iff.mp (show (noStar e && noStars es) = true from hs)
  refine PE.weak (pe_bm PySem.F.plainAttrs_list slot hty hm ho ha (base_of hb name X.env) ?_ hl (noStar_each q.1) (noStars_plain q.2)) ?_
  · rw [stars_all hs]
    simp [backToKw, keywordEach]
    omega
  · rintro σ H Q ⟨ρ, h0, Q', E, sr, rh, q, k, xw⟩
    refine rdE.step sr rh q xw fun x v h1 H1 vx r1 e1 s1 xw1 q1 => ⟨isLst_ty vx r1 q1.1, ?_⟩
    refine ⟨ρ, h1, _, E, s1, r1, q1.2, fun ys vs h2 H2 vy r2 e2 q2 => ?_, xw1⟩
    exact mo x ys v vs h2 H2 Q' Q (vx.mono r1 e2) vy r2 q2 (KW.mono k (e1.trans e2))
/-- f(e, .., q = v): the keyword fills the last place -/
def eCallK (n : Str) (m : Nat) (a : DA) (e : DE) : DE := fun C ρ h Q E => a C ρ h (fun xs h1 => e C ρ h1 (fun x h2 => plains xs = true ∧ plain x = true ∧ xs.length = m ∧ C.run n (xs ++ [x]) h2 Q E) E) E
theorem r_callK {n q : Str} {p pos kpos : Pos} {e ev : Expr} {es : List Expr} {ca : DA} {cv : DE} {f : Addr} {fd : FuncData} {ps : List Str} {m : Nat}
    (F : FnG X.prog X.w X.K X.mg X.base k f fd ps (spOf X.K X.mg (C.run n))) (hr : Room k X.A) (gd : X.A.guards = some []) (hg : Gl X n) (hm : X.mg n = some (.ref f)) (hk : PySem.W.keepIn X.K (.ref f) = true) (hb : KBn X.K fd ps m [q] (fun us ws => us ++ ws) (fun vs zs => vs ++ zs))
    (tk : L2N.Takes X W) (hdb : (n == ("__debug__" : Str)) = false) (hs : noStars (e :: es) = true) (ha : PA X (e :: es) (rdA X.K X.mg hp W C ca)) (hv : PE X ev (rdE X.K X.mg hp W C cv)) :
    PE X (.Call (.Name n p) (e :: es) [⟨some q, ev, kpos⟩] pos) (rdE X.K X.mg hp W C (eCallK n m ca cv)) := by
  have sq := Bool.and_eq_true_iff.mp (show (noStar e && noStars es) = true from hs)
  refine ⟨fun pins s σ H Q I z => ?_⟩
  obtain ⟨ρ, h, Q', E', sr, r, qq, kk, xw⟩ := z
  refine wpAny_Call_Name_kw (ld_glob I hg hm ?_ hdb)
  have za : rdA X.K X.mg hp W C ca σ H fun vs H1 => ∃ ys h1, Paired (VX X.K X.mg hp H1) ys vs ∧ RH X.K X.mg h1 H1 ∧ Ext h H h1 H1 ∧ SR X.K X.mg hp H1 ρ σ ∧ XW X.K X.mg W h1 H1 σ E' ∧
      cv C ρ h1 (fun x h2 => plains ys = true ∧ plain x = true ∧ ys.length = m ∧ C.run n (ys ++ [x]) h2 Q' E') E' := rdA.step sr r qq xw fun ys vs h1 H1 vy r1 e1 s1 x1 q1 => ⟨ys, h1, vy, r1, e1, s1, x1, q1⟩
  refine PySem.W.callWith_KW (h₀ := X.base) I.ok.mod.kin hk rfl (thn (ha.run pos pins s σ H _ I za) fun us s1 ⟨vs, H1, I1, rv, ys, h1, vy, r1, e1, s1', x1, q1⟩ => ?_) ?_ (noStar_each sq.1)
  · have zk := (pk_cons (nm := some q) (kpos := kpos) hv pk_nil).run pos pins s1 σ H1 (fun zs H2 => ∃ y h2 v, zs = [v] ∧ VX X.K X.mg hp H2 y v ∧ RH X.K X.mg h2 H2 ∧ Ext h1 H1 h2 H2 ∧ plains ys = true ∧ plain y = true ∧ ys.length = m ∧ C.run n (ys ++ [y]) h2 Q' E') I1
      (rdE.step s1' r1 q1 x1 fun y v h2 H2 vy2 r2 e2 s2 x2 q2 => ⟨y, h2, v, rfl, vy2, r2, e2, q2⟩)
    refine thn zk fun ws s2 ⟨zs, H2, I2, rz, y, h2, v, ez, vy2, r2, e2, pl, py, lm, q2⟩ => ⟨I2.kIn, ?_⟩
    subst ez
    have vr := (pair_vrs vy pl).mono (e2.tup r1)
    have hsp : spOf X.K X.mg (C.run n) (vs ++ [v]) H2 Q (WE W σ) := ⟨ys ++ [y], h2, Q', E', vr.append (.cons (vy2.vr py) .nil), r2, q2, fun y v h' H' a b c d => kk y v h' H' (.inl a) b ((e1.trans e2).trans c) d, fun e h' H' cls d a b c q => xw e h' H' cls d a b ((e1.trans e2).trans c) q⟩
    have hlv : vs.length = m := by rw [← vr.length]; exact lm
    have rr := hb.rel rv rz
    refine wpAny_call (codeAny_mono (F.run X.A X.stack s2 H2 ⟨us, [q].zip ws⟩ (us ++ ws) (vs ++ [v]) Q (WE W σ) hr gd I2.env0 (hb.to s2 us ws I2.kIn (rv.length.symm.trans hlv) rz.length.symm) rr hsp) fun r s' hq => ?_)
    cases r with
    | error e => exact L2N.passAt tk σ pins H2 s2 e s' I2 hq
    | ok fl =>
      cases fl with
      | ret u => exact I2.after hq
      | next => exact False.elim hq
      | brk => exact False.elim hq
      | cont => exact False.elim hq
  · have z := noStars_plain (pos := pos) (env := X.env) hs
    rw [z]
    rfl
end
end WS

/-! WS10: the translator's steps: expressions, tests, argument lists. -/
namespace WS
open PySem PySem.Spec L2 L2H

/-! ### calls -/
def biCall (tc : TC) (n : Str) : Option (DA → DE) := oG (tc.blt.elem n) (match n == ("isinstance" : Str) with
  | true => some eIsi
  | false => match tc.hot && n == ("any" : Str) with
    | true => some (eBi bAny)
    | false => match bis.find? (fun b => b.nm == n) with
      | some b => oG (!b.calm || !tc.hot) (some (eBi b.f))
      | none => none)
def fnCall (tc : TC) (n : Str) (m : Nat) : Option (DA → DE) := match tc.hot with
  | false => match tc.fns.lookup n with
    | some s => o1 (s.lookup m) (eCall n)
    | none => biCall tc n
  | true => match tc.hots.elem n with
    | true => some (eCallH n)
    | false => biCall tc n
def kwCall (tc : TC) (n q : Str) (m : Nat) : Option (DA → DE → DE) := oG (!tc.hot && tc.kws.any fun z => z.1 == n && z.2.1 == q && z.2.2 == m) (some (eCallK n m))
def callE (R : Trs) (tc : TC) (n : Str) (es : List Expr) : Option DE := match es with
  | [] => none
  | _ :: _ => oG (noStars es && tc.glb n) (o2 (fnCall tc n es.length) (R.A tc es) fun f a => f a)
def callKE (R : Trs) (tc : TC) (n q : Str) (es : List Expr) (v : Expr) : Option DE := match es with
  | [] => none
  | _ :: _ => oG (noStars es && tc.glb n) (o3 (kwCall tc n q es.length) (R.A tc es) (R.E tc v) fun f a e => f a e)
def mt0 (m : Str) : Option (Val → List Val → IH → KV → Prop) := match m == ("pop" : Str) with
  | true => some mPop
  | false => match m == ("reverse" : Str) with
    | true => some mReverse
    | false => match m == ("clear" : Str) with
      | true => some mClear
      | false => none
def mt1 (m : Str) : Option (Val → List Val → IH → KV → Prop) := match m == ("append" : Str) with
  | true => some mAppend
  | false => match m == ("pop" : Str) with
    | true => some mPopAt
    | false => match m == ("extend" : Str) with
      | true => some mExtend
      | false => none
def mt2 (m : Str) : Option (Val → List Val → IH → KV → Prop) := match m == ("insert" : Str) with
  | true => some mInsert
  | false => none
def mtE (R : Trs) (tc : TC) (o : Expr) (m : Str) (es : List Expr) : Option DE := match es with
  | [] => o2 (mt0 m) (R.E tc o) fun f co => eMtL f co aNil
  | [e] => oG (noStar e) (o3 (mt1 m) (R.E tc o) (R.A tc [e]) fun f co ca => eMtL f co ca)
  | [e, e'] => oG (noStars [e, e']) (o3 (mt2 m) (R.E tc o) (R.A tc [e, e']) fun f co ca => eMtL f co ca)
  | _ => none
def optE (R : Trs) (tc : TC) : Option Expr → Option (Option DE)
  | none => some none
  | some e => o1 (R.E tc e) some
section
variable {tc : TC} {X : Cx} {W : WX} {C : Calls} {hp : List (Addr × Obj)} {k : Nat} {R : Trs}
theorem elem_mem {n : Str} {l : List Str} (h : l.elem n = true) : n ∈ l := by simpa using h
theorem snd_bi (c : CxOk tc X W C hp k) {n : Str} {f : DA → DE} (h : biCall tc n = some f) (hg : Gl X n) {e : Expr} {es : List Expr} {p pos : Pos} {ca : DA} (hs : noStars (e :: es) = true) (ha : PA X (e :: es) (rdA X.K X.mg hp W C ca)) :
    PE X (.Call (.Name n p) (e :: es) [] pos) (rdE X.K X.mg hp W C (f ca)) := by
  have sq := Bool.and_eq_true_iff.mp (show (noStar e && noStars es) = true from hs)
  unfold biCall at h
  obtain ⟨h1, h2⟩ := oG_some h
  have hm := bltE c h1
  split at h2
  · rename_i hn
    cases h2
    have e : n = "isinstance" := by simpa using hn
    subst e
    exact r_isi c.tab.xo c.sub hg hm (by decide +kernel) (by decide +kernel) (by decide +kernel) (noStar_each sq.1) (noStars_plain sq.2) ha
  · split at h2
    · rename_i hn
      cases h2
      obtain ⟨hh, hn⟩ := Bool.and_eq_true_iff.mp hn
      have e : n = "any" := by simpa using hn
      subst e
      obtain ⟨_, p', rfl, z1⟩ := c.hotp hh
      exact r_callB k_any (cr_anyH z1 (c.sub p' (by simp))) hg hm (by decide +kernel) (by decide +kernel) (by decide +kernel) (noStar_each sq.1) (noStars_plain sq.2) ha
    split at h2
    · rename_i b hb
      obtain ⟨h3, h4⟩ := oG_some h2
      cases h4
      have hn : b.nm = n := by simpa using List.find?_some hb
      obtain ⟨g1, g2, g3⟩ := bis_good b (List.mem_of_find?_eq_some hb)
      subst hn
      obtain ⟨r, g4, g5⟩ := g3 X hp (fun z => by
        rw [z] at h3
        exact (c.calm (by simpa using h3)).1) c.gd c.un
      cases ht : b.ty with
      | true =>
        rw [ht, if_pos rfl] at g1 g5
        exact r_callTy g4 g5 hg hm g1 (nm3 g2) (nm1 g2) (noStar_each sq.1) (noStars_plain sq.2) ha
      | false =>
        rw [ht, if_neg Bool.false_ne_true] at g1 g5
        exact r_callB g4 g5 hg hm g1 (nm3 g2) (nm1 g2) (noStar_each sq.1) (noStars_plain sq.2) ha
    · cases h2
theorem snd_fn (c : CxOk tc X W C hp k) {n : Str} {f : DA → DE} {e : Expr} {es : List Expr} (h : fnCall tc n (e :: es).length = some f) (hg : Gl X n) {p pos : Pos} {ca : DA} (hs : noStars (e :: es) = true) (ha : PA X (e :: es) (rdA X.K X.mg hp W C ca)) :
    PE X (.Call (.Name n p) (e :: es) [] pos) (rdE X.K X.mg hp W C (f ca)) := by
  have sq := Bool.and_eq_true_iff.mp (show (noStar e && noStars es) = true from hs)
  unfold fnCall at h
  split at h
  · rename_i hh
    split at h
    · rename_i s hs'
      obtain ⟨dv, h1, rfl⟩ := o1_some h
      obtain ⟨a, f, hm, hk, fd, ps, F, hb⟩ := c.tab.fns n s hs'
      obtain ⟨dvs, ds, b, vd, rd⟩ := hb _ dv h1
      exact r_call F (c.calm hh).2.1 c.gd hg hm hk b vd rd c.tk (nm1 a) (noStar_each sq.1) (noStars_plain sq.2) ha
    · exact snd_bi c h hg hs ha
  · rename_i hh
    split at h
    · rename_i he
      cases h
      obtain ⟨a, f, hm, hk, fd, ps, b, F⟩ := c.tab.hots n (elem_mem he)
      obtain ⟨hr, p', rfl, h1⟩ := c.hotp hh
      exact r_callH (F p') hr c.gd h1 (c.sub p' (by simp)) hg hm hk b (nm1 a) (noStar_each sq.1) (noStars_plain sq.2) ha
    · exact snd_bi c h hg hs ha
theorem snd_call (hR : Snd R) (c : CxOk tc X W C hp k) {n : Str} {es : List Expr} {d : DE} {p pos : Pos} (h : callE R tc n es = some d) : PE X (.Call (.Name n p) es [] pos) (rdE X.K X.mg hp W C d) := by
  unfold callE at h
  split at h
  · cases h
  · rename_i e es
    obtain ⟨h1, h2⟩ := oG_some h
    obtain ⟨hs, hg⟩ := Bool.and_eq_true_iff.mp h1
    obtain ⟨f, a, h3, h4, rfl⟩ := o2_some h2
    exact snd_fn c h3 (c.glb hg) hs (hR.A c h4)
theorem snd_callK (hR : Snd R) (c : CxOk tc X W C hp k) {n q : Str} {es : List Expr} {v : Expr} {d : DE} {p pos kpos : Pos} (h : callKE R tc n q es v = some d) : PE X (.Call (.Name n p) es [⟨some q, v, kpos⟩] pos) (rdE X.K X.mg hp W C d) := by
  unfold callKE at h
  split at h
  · cases h
  · rename_i e es
    obtain ⟨h1, h2⟩ := oG_some h
    obtain ⟨hs, hg⟩ := Bool.and_eq_true_iff.mp h1
    obtain ⟨f, a, e, h3, h4, h5, rfl⟩ := o3_some h2
    unfold kwCall at h3
    obtain ⟨h6, h7⟩ := oG_some h3
    cases h7
    obtain ⟨h8, h9⟩ := Bool.and_eq_true_iff.mp h6
    obtain ⟨z, hz, h10⟩ := List.any_eq_true.mp h9
    obtain ⟨z1, z2, z3⟩ := z
    simp only [Bool.and_eq_true, beq_iff_eq] at h10
    obtain ⟨⟨rfl, rfl⟩, e3⟩ := h10
    obtain ⟨b1, f, hm, hk, fd, ps, F, hb⟩ := c.tab.kws _ _ _ hz
    rw [← e3]
    exact r_callK F (c.calm (by simpa using h8)).2.1 c.gd (c.glb hg) hm hk hb c.tk (nm1 b1) hs (hR.A c h4) (hR.E c h5)
theorem snd_mt (hR : Snd R) (c : CxOk tc X W C hp k) {o : Expr} {m : Str} {es : List Expr} {d : DE} {apos cpos : Pos} (h : mtE R tc o m es = some d) (hb : noCallE o = true) (hl : (apos.endLine == cpos.line) = true) : PE X (.Call (.Attribute o m apos) es [] cpos) (rdE X.K X.mg hp W C d) := by
  unfold mtE at h
  split at h
  · obtain ⟨f, co, h1, h2, rfl⟩ := o2_some h
    unfold mt0 at h1
    split at h1
    · rename_i hn
      cases h1
      have e : m = "pop" := by simpa using hn
      subst e
      exact r_mtL0 PySem.F.slot_list_pop PySem.F.type_list_pop mt_pop k_pop hb hl (hR.E c h2)
    · split at h1
      · rename_i hn
        cases h1
        have e : m = "reverse" := by simpa using hn
        subst e
        exact r_mtL0 PySem.F.slot_list_reverse PySem.F.type_list_reverse mt_reverse k_reverse hb hl (hR.E c h2)
      · split at h1
        · rename_i hn
          cases h1
          have e : m = "clear" := by simpa using hn
          subst e
          exact r_mtL0 PySem.F.slot_list_clear PySem.F.type_list_clear mt_clear k_clear hb hl (hR.E c h2)
        · cases h1
  · rename_i e
    obtain ⟨hs, h⟩ := oG_some h
    obtain ⟨f, co, ca, h1, h2, h3, rfl⟩ := o3_some h
    unfold mt1 at h1
    split at h1
    · rename_i hn
      cases h1
      have e : m = "append" := by simpa using hn
      subst e
      exact r_mtL PySem.F.slot_list_append PySem.F.type_list_append mt_append k_append hb hl (by unfold noStars; rw [List.all_cons, hs]; rfl) (by decide) (hR.E c h2) (hR.A c h3)
    · split at h1
      · rename_i hn
        cases h1
        have e : m = "pop" := by simpa using hn
        subst e
        exact r_mtL PySem.F.slot_list_pop PySem.F.type_list_pop mt_popAt k_popAt hb hl (by unfold noStars; rw [List.all_cons, hs]; rfl) (by decide) (hR.E c h2) (hR.A c h3)
      · split at h1
        · rename_i hn
          cases h1
          have e : m = "extend" := by simpa using hn
          subst e
          exact r_mtL PySem.F.slot_list_extend PySem.F.type_list_extend mt_extend k_extend hb hl (by unfold noStars; rw [List.all_cons, hs]; rfl) (by decide) (hR.E c h2) (hR.A c h3)
        · cases h1
  · rename_i e e'
    obtain ⟨hs, h⟩ := oG_some h
    obtain ⟨f, co, ca, h1, h2, h3, rfl⟩ := o3_some h
    unfold mt2 at h1
    split at h1
    · rename_i hn
      cases h1
      have e : m = "insert" := by simpa using hn
      subst e
      exact r_mtL PySem.F.slot_list_insert PySem.F.type_list_insert mt_insert k_insert hb hl hs (by simp) (hR.E c h2) (hR.A c h3)
    · cases h1
  · cases h
theorem snd_opt (hR : Snd R) (c : CxOk tc X W C hp k) {o : Option Expr} {d : Option DE} (h : optE R tc o = some d) : PO X o (rdO X.K X.mg hp W C d) := by
  unfold optE at h
  split at h
  · cases h; exact po_none
  · obtain ⟨x, h1, rfl⟩ := o1_some h
    exact po_some (hR.E c h1)
end
end WS

/-! WS11: expressions, tests, argument lists, walks, targets. -/
namespace WS
open PySem PySem.Spec L2 L2H

theorem pe_bool1 {X : Cx} {a : Expr} {op : BoolOp} {pos : Pos} {t : TE} (h : PE X a t) : PE X (.BoolOp op [a] pos) t := ⟨fun pins s σ H Q I q => h.run pins s σ H Q I q⟩

def comE (R : Trs) (tc : TC) (elt tg it : Expr) (ifs : List Expr) (sc : Scope) : Option DE :=
  let own := sc.names.filterMap fun y => match y.2 with
    | .local => o1 (tc.N.findIdx? (· == y.1)) fun i => (y.1, i)
    | .cell => o1 (tc.N.findIdx? (· == y.1)) fun i => (y.1, i)
    | _ => none
  let tc' : TC := { tc with sc := sc, top := false }
  oG (!tc.hot && (sc.kind == .function) && sc.names.all (fun y => sc.names.lookup y.1 == some y.2) && sc.names.all (fun y => !(y.2 == .free) || tc.sc.names.lookup y.1 == some .cell || tc.sc.names.lookup y.1 == some .free) && noSet it)
    (match R.I tc tg it, R.G tc' tg, (match ifs with
      | [] => some tYes'
      | [c] => R.T tc' c
      | _ => none), R.E tc' elt with
    | some i, some (g, l), some t, some e => oG (l.all fun j => (own.map (·.2)).elem j) (some (eLc i g t e (own.map (·.2))))
    | _, _, _, _ => none)
def isM1 : Expr → Bool
  | .UnaryOp .USub (.Constant (.int i) _ _) _ => i == 1
  | _ => false
def isC0 : Expr → Bool
  | .Constant (.int i) _ _ => i == 0
  | _ => false
def stepE (R : Trs) (tc : TC) : Expr → Option DE
  | .Name x _ => nmE tc x
  | .Constant (.int i) _ _ => some (eC (.int i))
  | .Constant (.bool b) _ _ => some (eC (.bl b))
  | .Constant .none _ _ => some (eC .non)
  | .Constant (.str s) _ _ => some (eC (.str s))
  | .BinOp a op b _ => o3 (binF op) (R.E tc a) (R.E tc b) fun f x y => eBin f x y
  | .UnaryOp .USub a _ => o1 (R.E tc a) fun x => eUn vNeg x
  | .UnaryOp .Not a _ => o1 (R.E tc a) eNot
  | .Compare a [op] [b] _ => oG (noSet b) (o3 (cmpF op) (R.E tc a) (R.E tc b) fun f x y => eBin f x y)
  | .Compare a [op, op'] [b, c] _ => oG (!(lastMarks [op, op'] [b, c])) (o2 (o2 (cmpF op) (cmpF op') Prod.mk) (o3 (R.E tc a) (R.E tc b) (R.E tc c) fun x y z => (x, y, z)) fun f x => eChain f.1 f.2 x.1 x.2.1 x.2.2)
  | .BoolOp _ [a] _ => R.E tc a
  | .BoolOp .And (a :: b :: r) p => o2 (R.E tc a) (R.E tc (.BoolOp .And (b :: r) p)) eAnd
  | .BoolOp .Or (a :: b :: r) p => o2 (R.E tc a) (R.E tc (.BoolOp .Or (b :: r) p)) eOr
  | .IfExp t a b _ => o3 (R.T tc t) (R.E tc a) (R.E tc b) eIf
  | .Tuple es _ _ => o1 (R.A tc es) eTup
  | .List es _ => o1 (R.A tc es) eLst
  | .Subscript a (.Slice lo hi none _) _ => o3 (R.E tc a) (optE R tc lo) (optE R tc hi) fun x l u => eSl l u x vSl
  | .Subscript a (.Slice none none (some st) _) _ => oG (isM1 st) (o1 (R.E tc a) (eUn vRev))
  | .Subscript a (.Slice none (some hi) (some st) _) _ => oG (isM1 st && isC0 hi) (o1 (R.E tc a) (eUn vRev0))
  | .Subscript (.List es _) b _ => oG (noSlice b) (o2 (R.A tc es) (R.E tc b) eLix)
  | .Subscript a b _ => oG (noSlice b) (o2 (R.E tc a) (R.E tc b) fun x y => eBin vIx x y)
  | .Dict [] [] _ => some eD0
  | .Dict [some a] [b] _ => o2 (R.E tc a) (R.E tc b) eD1
  | .Call (.Name n _) [.Call (.Name m pm) [a] [] qm] [] _ => match n == ("list" : Str) && m == ("range" : Str) with
    | true => oG (!tc.hot && tc.glb n && tc.blt.elem n && tc.glb m && tc.blt.elem m && noStars [a]) (o1 (R.A tc [a]) eLRng1)
    | false => callE R tc n [.Call (.Name m pm) [a] [] qm]
  | .Call (.Name n _) es [] _ => callE R tc n es
  | .Call (.Name n _) es [⟨some q, v, _⟩] _ => callKE R tc n q es v
  | .Call (.Attribute o m p) es [] c => oG (noCallE o && p.endLine == c.line) (mtE R tc o m es)
  | .Attribute o f _ => oG (noCallE o) (o1 (R.E tc o) fun x => eXf f x)
  | .ListComp elt [⟨tg, it, ifs, 0⟩] sc _ => comE R tc elt tg it ifs sc
  | _ => none
def chainT (R : Trs) (tc : TC) (f : DT → DT → DT) : List Expr → Option DT
  | [] => none
  | [a] => R.T tc a
  | a :: b :: r => o2 (R.T tc a) (chainT R tc f (b :: r)) f
def stepT (R : Trs) (tc : TC) : Expr → Option DT
  | .UnaryOp .Not a _ => o1 (R.T tc a) tNot
  | .BoolOp .And es _ => chainT R tc tAnd es
  | .BoolOp .Or es _ => chainT R tc tOr es
  | .Compare a [op] [b] _ => oG (noSet b) (o3 (cmpF op) (R.E tc a) (R.E tc b) fun f x y => tBool (eBin f x y))
  | .Compare a [op, op'] [b, c] _ => oG (!(lastMarks [op, op'] [b, c])) (o2 (o2 (cmpF op) (cmpF op') Prod.mk) (o3 (R.E tc a) (R.E tc b) (R.E tc c) fun x y z => (x, y, z)) fun f x => tBool (eChain f.1 f.2 x.1 x.2.1 x.2.2))
  | e => oG (truthOwn e) (o1 (R.E tc e) tTru)
def stepA (R : Trs) (tc : TC) : List Expr → Option DA
  | [] => some aNil
  | e :: es => oG (noStar e) (o2 (R.E tc e) (R.A tc es) aCons)
def stepI0 (R : Trs) (tc : TC) : Expr → Option DI
  | .Call (.Name n p) [a] [] q => match n == ("range" : Str) with
    | true => oG (tc.glb n && tc.blt.elem n && noStars [a]) (o1 (R.A tc [a]) iRng1')
    | false => o1 (R.E tc (.Call (.Name n p) [a] [] q)) iSeq
  | .Call (.Name n p) [a, b] [] q => match n == ("range" : Str) with
    | true => oG (tc.glb n && tc.blt.elem n && noStars [a, b]) (o1 (R.A tc [a, b]) iRng2')
    | false => o1 (R.E tc (.Call (.Name n p) [a, b] [] q)) iSeq
  | e => o1 (R.E tc e) iSeq
def isTup : Expr → Bool
  | .Tuple _ _ _ => true
  | _ => false
def stepJ (R : Trs) (tc : TC) (tg : Expr) : Expr → Option DI
  | .Call (.Name n p) (e :: es) [] q => oG (isTup tg && tc.glb n && tc.blt.elem n && noStars (e :: es)) (match n == ("enumerate" : Str) with
    | true => o1 (R.A tc (e :: es)) iEnum'
    | false => oG (n == ("zip" : Str)) (o1 (R.A tc (e :: es)) iZip'))
  | _ => none
def stepI (R : Trs) (tc : TC) (tg e : Expr) : Option DI := match stepJ R tc tg e with
  | some d => some d
  | none => stepI0 R tc e
def stepG (R : Trs) (tc : TC) : Expr → Option (DG × List Nat)
  | .Name x _ => o1 (tc.sto x) fun i => (gN i, [i])
  | .Tuple es _ _ => oG (!tc.hot && noStars es) (o1 (R.Gs tc es) fun g => (gT es.length g.1, g.2))
  | .Subscript o i _ => oG (noSlice i) (o2 (R.E tc o) (R.E tc i) fun x y => (gIx x y, []))
  | _ => none
def stepGs (R : Trs) (tc : TC) : List Expr → Option (DGs × List Nat)
  | [] => some (gsNil, [])
  | e :: es => oG (noStar e) (o2 (R.G tc e) (R.Gs tc es) fun g r => (gsCons g.1 r.1, g.2 ++ r.2))

/-! ### sound -/
section
variable {tc : TC} {X : Cx} {W : WX} {C : Calls} {hp : List (Addr × Obj)} {k : Nat} {R : Trs}
theorem snd_chainA (hR : Snd R) (c : CxOk tc X W C hp k) {pos : Pos} : ∀ {es : List Expr} {d : DT}, chainT R tc tAnd es = some d → PW X (.BoolOp .And es pos) (rdT X.K X.mg hp W C d)
  | [], _, h => nomatch h
  | [a], _, h => r_and1 (hR.T c h)
  | a :: b :: r, _, h => by
    unfold chainT at h
    obtain ⟨x, y, h1, h2, rfl⟩ := o2_some h
    exact r_andT (hR.T c h1) (snd_chainA hR c h2)
theorem snd_chainO (hR : Snd R) (c : CxOk tc X W C hp k) {pos : Pos} : ∀ {es : List Expr} {d : DT}, chainT R tc tOr es = some d → PW X (.BoolOp .Or es pos) (rdT X.K X.mg hp W C d)
  | [], _, h => nomatch h
  | [a], _, h => r_or1 (hR.T c h)
  | a :: b :: r, _, h => by
    unfold chainT at h
    obtain ⟨x, y, h1, h2, rfl⟩ := o2_some h
    exact r_orT (hR.T c h1) (snd_chainO hR c h2)
theorem snd_T (hR : Snd R) (c : CxOk tc X W C hp k) {e : Expr} {d : DT} (h : stepT R tc e = some d) : PT X e (rdT X.K X.mg hp W C d) := by
  unfold stepT at h
  split at h
  · obtain ⟨x, h1, rfl⟩ := o1_some h
    exact r_notT (hR.T c h1)
  · exact (snd_chainA hR c h).pt
  · exact (snd_chainO hR c h).pt
  · obtain ⟨h0, h⟩ := oG_some h
    obtain ⟨f, x, y, h1, h2, h3, rfl⟩ := o3_some h
    obtain ⟨r, a, b⟩ := snd_cmp (X := X) (hp := hp) c.un h1
    exact r_cmpT a b (marks_none h0 _) (hR.E c h2) (hR.E c h3)
  · obtain ⟨h0, h⟩ := oG_some h
    obtain ⟨f, x, h1, h2, rfl⟩ := o2_some h
    obtain ⟨f1, f2, h3, h4, rfl⟩ := o2_some h1
    obtain ⟨x1, x2, x3, h5, h6, h7, rfl⟩ := o3_some h2
    obtain ⟨r, a, b⟩ := snd_cmp (X := X) (hp := hp) c.un h3
    obtain ⟨r', a', b'⟩ := snd_cmp (X := X) (hp := hp) c.un h4
    exact r_chainT a a' b b' (by simpa using h0) (hR.E c h5) (hR.E c h6) (hR.E c h7)
  · obtain ⟨h0, h⟩ := oG_some h
    obtain ⟨x, h1, rfl⟩ := o1_some h
    exact r_tru h0 (hR.E c h1)
theorem snd_A (hR : Snd R) (c : CxOk tc X W C hp k) {e : List Expr} {d : DA} (h : stepA R tc e = some d) : PA X e (rdA X.K X.mg hp W C d) := by
  unfold stepA at h
  split at h
  · cases h
    exact r_nil
  · obtain ⟨h0, h⟩ := oG_some h
    obtain ⟨x, y, h1, h2, rfl⟩ := o2_some h
    exact r_cons (hR.E c h1) (hR.A c h2) (noStar_each h0)
theorem stars1 {a : Expr} {env : Env} (h : noStars [a] = true) : starEach [a] env = [(false, eval a env)] := by
  have q := Bool.and_eq_true_iff.mp (show (noStar a && noStars []) = true from h)
  rw [noStar_each q.1]
  rfl
theorem snd_I0 (hR : Snd R) (c : CxOk tc X W C hp k) {e : Expr} {d : DI} (h : stepI0 R tc e = some d) (tg : Expr) : PI X tg e (rdI X.K X.mg hp W C d) := by
  unfold stepI0 at h
  split at h
  · split at h
    · rename_i hn
      obtain ⟨h8, h9⟩ := oG_some h
      obtain ⟨h7, hs⟩ := Bool.and_eq_true_iff.mp h8
      obtain ⟨hg, hb⟩ := Bool.and_eq_true_iff.mp h7
      have hn := beq_iff_eq.mp hn
      subst hn
      obtain ⟨x, h1, rfl⟩ := o1_some h9
      exact w_rng1 (c.glb hg) (bltE c hb) (stars1 hs) (hR.A c h1)
    · obtain ⟨x, h1, rfl⟩ := o1_some h
      exact w_seq (hR.E c h1)
  · split at h
    · rename_i hn
      obtain ⟨h8, h9⟩ := oG_some h
      obtain ⟨h7, hs⟩ := Bool.and_eq_true_iff.mp h8
      obtain ⟨hg, hb⟩ := Bool.and_eq_true_iff.mp h7
      have hn := beq_iff_eq.mp hn
      subst hn
      obtain ⟨x, h1, rfl⟩ := o1_some h9
      rename_i a b _ _
      have q := Bool.and_eq_true_iff.mp (show (noStar a && noStars [b]) = true from hs)
      exact w_rng2 (c.glb hg) (bltE c hb) (by rw [noStar_each q.1, stars1 q.2]) (stars1 q.2) (hR.A c h1)
    · obtain ⟨x, h1, rfl⟩ := o1_some h
      exact w_seq (hR.E c h1)
  · obtain ⟨x, h1, rfl⟩ := o1_some h
    exact w_seq (hR.E c h1)
theorem snd_J (hR : Snd R) (c : CxOk tc X W C hp k) {tg e : Expr} {d : DI} (h : stepJ R tc tg e = some d) : PI X tg e (rdI X.K X.mg hp W C d) := by
  unfold stepJ at h
  split at h
  · obtain ⟨h8, h9⟩ := oG_some h
    obtain ⟨h7, hs⟩ := Bool.and_eq_true_iff.mp h8
    obtain ⟨h6, hb⟩ := Bool.and_eq_true_iff.mp h7
    obtain ⟨ht, hg⟩ := Bool.and_eq_true_iff.mp h6
    rename_i e0 es0 _
    have q := Bool.and_eq_true_iff.mp (show (noStar e0 && noStars es0) = true from hs)
    cases tg with
    | Tuple elts kk tpos =>
      split at h9
      · rename_i hn
        have hn := beq_iff_eq.mp hn
        subst hn
        obtain ⟨x, h1, rfl⟩ := o1_some h9
        exact w_enum (c.glb hg) (bltE c hb) (noStar_each q.1) (noStars_plain q.2) (hR.A c h1)
      · obtain ⟨hn, h9⟩ := oG_some h9
        have hn := beq_iff_eq.mp hn
        subst hn
        obtain ⟨x, h1, rfl⟩ := o1_some h9
        exact w_zip (c.glb hg) (bltE c hb) (noStar_each q.1) (noStars_plain q.2) (hR.A c h1)
    | _ => exact (Bool.false_ne_true ht).elim
  · cases h
theorem snd_I (hR : Snd R) (c : CxOk tc X W C hp k) {tg e : Expr} {d : DI} (h : stepI R tc tg e = some d) : PI X tg e (rdI X.K X.mg hp W C d) := by
  unfold stepI at h
  split at h
  · rename_i d' h1
    cases h
    exact snd_J hR c h1
  · exact snd_I0 hR c h tg
theorem sub_ix {o i : Expr} {pos : Pos} {env : Env} (h : noSlice i = true) (v : Value) : assign (.Subscript o i pos) env v = (do
      let ov ← holding [v] (eval o env)
      let iv ← holding [v, ov] (eval i env)
      standAt pos
      holding [v, ov, iv] (setItem ov iv v)
      release [v, ov, iv] []) := by
  cases i <;> first | rfl | exact (Bool.false_ne_true h).elim
theorem snd_G (hR : Snd R) (c : CxOk tc X W C hp k) {e : Expr} {g : DG} {l : List Nat} (h : stepG R tc e = some (g, l)) (gs : List Nat) (hl : ∀ i ∈ l, i ∈ gs) : PG X e (rdG X.K X.mg hp W C gs g) := by
  unfold stepG at h
  split at h
  · obtain ⟨x, h1, h2⟩ := o1_some h
    cases h2
    obtain ⟨a, b, d⟩ := c.sto h1
    exact q_name (hl x (by simp)) c.ndX a b d
  · obtain ⟨h0, h⟩ := oG_some h
    obtain ⟨h0, hs⟩ := Bool.and_eq_true_iff.mp h0
    obtain ⟨x, h1, h2⟩ := o1_some h
    cases h2
    exact q_tup (c.calm (by simpa using h0)).1 (hR.Gs c (g := x.1) (l := x.2) h1 gs hl) (asg_len hs) (asg_find hs)
  · obtain ⟨h0, h⟩ := oG_some h
    obtain ⟨x, y, h1, h2, h3⟩ := o2_some h
    cases h3
    exact q_ix (hR.E c h1) (hR.E c h2) (sub_ix h0)
  · cases h
theorem snd_Gs (hR : Snd R) (c : CxOk tc X W C hp k) {e : List Expr} {g : DGs} {l : List Nat} (h : stepGs R tc e = some (g, l)) (gs : List Nat) (hl : ∀ i ∈ l, i ∈ gs) : PGs X e (rdGs X.K X.mg hp W C gs g) := by
  unfold stepGs at h
  split at h
  · cases h
    exact qs_nil
  · obtain ⟨h0, h⟩ := oG_some h
    obtain ⟨x, y, h1, h2, h3⟩ := o2_some h
    cases h3
    refine qs_cons (hR.G c (g := x.1) (l := x.2) h1 gs fun i q => hl i (List.mem_append_left _ q)) (hR.Gs c (g := y.1) (l := y.2) h2 gs fun i q => hl i (List.mem_append_right _ q)) ?_
    rw [noStar_asg h0]
    rfl
end
end WS

/-! WS12: comprehensions; expressions, sound. -/
namespace WS
open PySem PySem.Spec L2 L2H

theorem relS_fwd {sc : Scope} : ∀ {names : List (Str × NameKind)} {x : Str} {k : NameKind}, names.lookup x = some k →
    (names.map fun (n, k) => if (k == NameKind.free && sc.kind == .function && sc.names.lookup n == some .cell) then (n, NameKind.cell) else (n, k)).lookup x = some k ∨
    (k = .free ∧ (names.map fun (n, k) => if (k == NameKind.free && sc.kind == .function && sc.names.lookup n == some .cell) then (n, NameKind.cell) else (n, k)).lookup x = some .cell)
  | [], _, _, h => by simp at h
  | (n, k₀) :: r, x, k, h => by
    have ih := @relS_fwd sc r x k
    rw [List.map_cons]
    rw [List.lookup_cons] at h
    cases hx : x == n with
    | true =>
      rw [hx] at h
      cases h
      by_cases hc : (k₀ == NameKind.free && sc.kind == .function && sc.names.lookup n == some .cell) = true
      · simp only [hc, if_true]
        rw [List.lookup_cons, hx]
        refine .inr ⟨?_, rfl⟩
        have z := (Bool.and_eq_true_iff.mp (Bool.and_eq_true_iff.mp hc).1).1
        simpa using z
      · simp only [hc, Bool.false_eq_true, if_false]
        rw [List.lookup_cons, hx]
        exact .inl rfl
    | false =>
      rw [hx] at h
      by_cases hc : (k₀ == NameKind.free && sc.kind == .function && sc.names.lookup n == some .cell) = true
      · simp only [hc, if_true]
        rw [List.lookup_cons, hx]
        exact ih h
      · simp only [hc, Bool.false_eq_true, if_false]
        rw [List.lookup_cons, hx]
        exact ih h
theorem TabOk.re {tc tc' : TC} {P : Program} {w : World} {K : PySem.W.Frag} {mg : Str → Option Value} {base : Heap} {C : Calls} {k : Nat} (t : TabOk tc P w K mg base C k) (h1 : tc'.fns = tc.fns) (h2 : tc'.kws = tc.kws) (h3 : tc'.hots = tc.hots) (h4 : tc'.cns = tc.cns) (h5 : tc'.cls = tc.cls) (h6 : tc'.rse = tc.rse) (h7 : tc'.blt = tc.blt) : TabOk tc' P w K mg base C k := by
  obtain ⟨a1, a2, a3, a4, a5, a6, a7, a8, a9⟩ := tc'
  obtain ⟨b1, b2, b3, b4, b5, b6, b7, b8, b9⟩ := tc
  simp only at h1 h2 h3 h4 h5 h6 h7
  subst h1 h2 h3 h4 h5 h6 h7
  exact ⟨t.fns, t.kws, t.hots, t.cns, t.cls, t.rse, t.rsc, t.blt, t.xo⟩
section
variable {tc : TC} {X : Cx} {W : WX} {C : Calls} {hp : List (Addr × Obj)} {k : Nat} {R : Trs}
theorem CxOk.blk (c : CxOk tc X W C hp k) (hh : tc.hot = false) {sc : Scope} (hk : sc.kind = .function) (s : Shared) (H : Hp) (D : Addr) (cl : List (Str × Addr)) (fp : List Addr) :
    CxOk { tc with sc := sc, top := false } (X.blk s H sc (compEnvC sc cl D X.env) fp) (fun _ _ _ _ => False) C [] k where
  N := c.N
  nd := c.nd
  sc := fun x k h => relS_fwd h
  kd := hk
  fn := fun x h => by
    show (sc.names.lookup x == some .cell) = true
    rw [h]
    rfl
  calm := fun _ => ⟨(c.calm hh).1, (c.calm hh).2.1, rfl⟩
  gd := c.gd
  hotp := fun z => by rw [show tc.hot = true from z] at hh; cases hh
  sub := fun q z => by cases z
  un := c.un
  tk := fun u s' ⟨_, _, _, _, _, _, _, _, _, _, _, _, _, _, _, _, z⟩ => z.elim
  po := PassesOwn.never
  tab := c.tab.re rfl rfl rfl rfl rfl rfl rfl
  top := fun z => nomatch z
def ownOf (N : List Str) (sc : Scope) : List (Str × Nat) := sc.names.filterMap fun y => match y.2 with
  | .local => o1 (N.findIdx? (· == y.1)) fun i => (y.1, i)
  | .cell => o1 (N.findIdx? (· == y.1)) fun i => (y.1, i)
  | _ => none
theorem CxOk.blkOk (c : CxOk tc X W C hp k) {sc : Scope} (hk : sc.kind = .function) (h1 : sc.names.all (fun y => sc.names.lookup y.1 == some y.2) = true) (h2 : sc.names.all (fun y => !(y.2 == .free) || tc.sc.names.lookup y.1 == some .cell || tc.sc.names.lookup y.1 == some .free) = true) :
    BlkOk X.N X.env.scope sc (ownOf tc.N sc) := by
  refine ⟨hk, fun y hy => ?_, fun p hp => ?_, fun y hy hf => ?_, fun y hy hl => ?_⟩
  · have z := List.all_eq_true.mp h1 y hy
    exact beq_iff_eq.mp z
  · obtain ⟨y, hy, e⟩ := List.mem_filterMap.mp hp
    rw [c.N]
    split at e
    · obtain ⟨i, e1, rfl⟩ := o1_some e
      exact findIdx_at e1
    · obtain ⟨i, e1, rfl⟩ := o1_some e
      exact findIdx_at e1
    · cases e
  · have z := List.all_eq_true.mp h2 y hy
    rw [hf] at z
    replace z : ((tc.sc.names.lookup y.1 == some .cell) || (tc.sc.names.lookup y.1 == some .free)) = true := z
    rcases Bool.or_eq_true_iff.mp z with z | z
    · rcases c.sc _ _ (beq_iff_eq.mp z) with q | ⟨q, _⟩
      · exact .inl q
      · cases q
    · rcases c.sc _ _ (beq_iff_eq.mp z) with q | ⟨_, q⟩
      · exact .inr q
      · exact .inl q
  · cases e : tc.N.findIdx? (· == y.1) with
    | none =>
      refine .inr fun hm => ?_
      rw [c.N] at hm
      have z := List.findIdx?_eq_none_iff.mp e y.1 hm
      simp at z
    | some i =>
      refine .inl (List.mem_map.mpr ⟨(y.1, i), List.mem_filterMap.mpr ⟨y, hy, ?_⟩, rfl⟩)
      rcases hl with hl | hl
      · rw [hl]; dsimp only; rw [e]; rfl
      · rw [hl]; dsimp only; rw [e]; rfl
/-- what a comprehension needs -/
structure ComOk (R : Trs) (tc : TC) (elt tg it : Expr) (ifs : List Expr) (sc : Scope) (i : DI) (g : DG) (l : List Nat) (t : DT) (e : DE) : Prop where
  hot : tc.hot = false
  kind : sc.kind = .function
  u : sc.names.all (fun y => sc.names.lookup y.1 == some y.2) = true
  f : sc.names.all (fun y => !(y.2 == .free) || tc.sc.names.lookup y.1 == some .cell || tc.sc.names.lookup y.1 == some .free) = true
  ns : noSet it = true
  hi : R.I tc tg it = some i
  hg : R.G { tc with sc := sc, top := false } tg = some (g, l)
  ht : (match ifs with
      | [] => some tYes'
      | [c] => R.T { tc with sc := sc, top := false } c
      | _ => none) = some t
  he : R.E { tc with sc := sc, top := false } elt = some e
  hl : ∀ j ∈ l, j ∈ (ownOf tc.N sc).map (·.2)
theorem com_ok {elt tg it : Expr} {ifs : List Expr} {sc : Scope} {d : DE} (h : comE R tc elt tg it ifs sc = some d) : ∃ i g l t e, ComOk R tc elt tg it ifs sc i g l t e ∧ d = eLc i g t e ((ownOf tc.N sc).map (·.2)) := by
  unfold comE at h
  obtain ⟨h0, h⟩ := oG_some h
  obtain ⟨h0, a5⟩ := Bool.and_eq_true_iff.mp h0
  obtain ⟨h0, a4⟩ := Bool.and_eq_true_iff.mp h0
  obtain ⟨h0, a3⟩ := Bool.and_eq_true_iff.mp h0
  obtain ⟨a1, a2⟩ := Bool.and_eq_true_iff.mp h0
  split at h
  · rename_i i g l t e b1 b2 b3 b4
    obtain ⟨h1, h2⟩ := oG_some h
    cases h2
    refine ⟨i, g, l, t, e, ⟨by simpa using a1, beq_iff_eq.mp a2, a3, a4, a5, b1, b2, b3, b4, fun j hj => ?_⟩, rfl⟩
    have z := List.all_eq_true.mp h1 j hj
    have z' : ((ownOf tc.N sc).map (·.2)).elem j = true := z
    simpa using z'
  · cases h
theorem ComOk.tests (hR : Snd R) (c : CxOk tc X W C hp k) {elt tg it : Expr} {ifs : List Expr} {sc : Scope} {i : DI} {g : DG} {l : List Nat} {t : DT} {e : DE} (o : ComOk R tc elt tg it ifs sc i g l t e) (s : Shared) (H : Hp) (D : Addr) (cl : List (Str × Addr)) (fp : List Addr) :
    PTs (X.blk s H sc (compEnvC sc cl D X.env) fp) ifs (rdT X.K X.mg [] (fun _ _ _ _ => False) C t) := by
  have z := o.ht
  split at z
  · cases z
    exact q_yes (X := X.blk s H sc (compEnvC sc cl D X.env) fp)
  · exact q_test (X := X.blk s H sc (compEnvC sc cl D X.env) fp) (hR.T (c.blk o.hot o.kind s H D cl fp) z)
  · cases z
theorem snd_com (hR : Snd R) (c : CxOk tc X W C hp k) {elt tg it : Expr} {ifs : List Expr} {sc : Scope} {pos : Pos} {d : DE} (h : comE R tc elt tg it ifs sc = some d) : PE X (.ListComp elt [⟨tg, it, ifs, 0⟩] sc pos) (rdE X.K X.mg hp W C d) := by
  obtain ⟨i, g, l, t, e, o, rfl⟩ := com_ok h
  exact r_lc (c.calm o.hot).1 c.ndX (hR.I c o.hi) (c.blkOk o.kind o.u o.f) o.hl (fun s H D cl fp => hR.G (c.blk o.hot o.kind s H D cl fp) o.hg l fun _ q => q) (fun s H D cl fp => o.tests hR c s H D cl fp)
    (fun s H D cl fp => hR.E (c.blk o.hot o.kind s H D cl fp) o.he) (folded_none o.ns X.env)
theorem isM1_is {e : Expr} (h : isM1 e = true) : ∃ k p1 p2, e = .UnaryOp .USub (.Constant (.int 1) k p1) p2 := by
  unfold isM1 at h
  split at h
  · rename_i i k p1 p2
    have q : i = 1 := beq_iff_eq.mp h
    subst q
    exact ⟨k, p1, p2, rfl⟩
  · cases h
theorem isC0_is {e : Expr} (h : isC0 e = true) : ∃ k p1, e = .Constant (.int 0) k p1 := by
  unfold isC0 at h
  split at h
  · rename_i i k p1
    have q : i = 0 := beq_iff_eq.mp h
    subst q
    exact ⟨k, p1, rfl⟩
  · cases h
theorem snd_E (hR : Snd R) (c : CxOk tc X W C hp k) {e : Expr} {d : DE} (h : stepE R tc e = some d) : PE X e (rdE X.K X.mg hp W C d) := by
  unfold stepE at h
  split at h
  · exact snd_nm c h
  · cases h; exact r_int
  · cases h; exact r_bl
  · cases h; exact r_non
  · cases h; exact r_str
  · obtain ⟨f, x, y, h1, h2, h3, rfl⟩ := o3_some h
    obtain ⟨r, a, b⟩ := snd_bin (X := X) (hp := hp) h1
    exact r_bin a b (hR.E c h2) (hR.E c h3)
  · obtain ⟨x, h1, rfl⟩ := o1_some h
    exact r_un un_neg k_neg (hR.E c h1)
  · obtain ⟨x, h1, rfl⟩ := o1_some h
    exact r_not (hR.E c h1)
  · obtain ⟨h0, h⟩ := oG_some h
    obtain ⟨f, x, y, h1, h2, h3, rfl⟩ := o3_some h
    obtain ⟨r, a, b⟩ := snd_cmp (X := X) (hp := hp) c.un h1
    exact r_cmp a b (marks_none h0 _) (hR.E c h2) (hR.E c h3)
  · obtain ⟨h0, h⟩ := oG_some h
    obtain ⟨f, x, h1, h2, rfl⟩ := o2_some h
    obtain ⟨f1, f2, h3, h4, rfl⟩ := o2_some h1
    obtain ⟨x1, x2, x3, h5, h6, h7, rfl⟩ := o3_some h2
    obtain ⟨r, a, b⟩ := snd_cmp (X := X) (hp := hp) c.un h3
    obtain ⟨r', a', b'⟩ := snd_cmp (X := X) (hp := hp) c.un h4
    exact r_chain a a' b b' (by simpa using h0) (hR.E c h5) (hR.E c h6) (hR.E c h7)
  · exact pe_bool1 (hR.E c h)
  · obtain ⟨x, y, h1, h2, rfl⟩ := o2_some h
    exact r_and (hR.E c h1) (hR.E c h2)
  · obtain ⟨x, y, h1, h2, rfl⟩ := o2_some h
    exact r_or (hR.E c h1) (hR.E c h2)
  · obtain ⟨f, x, y, h1, h2, h3, rfl⟩ := o3_some h
    exact r_if (hR.T c h1) (hR.E c h2) (hR.E c h3)
  · obtain ⟨x, h1, rfl⟩ := o1_some h
    exact r_tup (hR.A c h1)
  · obtain ⟨x, h1, rfl⟩ := o1_some h
    exact r_lst (hR.A c h1)
  · obtain ⟨f, x, y, h1, h2, h3, rfl⟩ := o3_some h
    exact r_sl o_sl k_sl (hR.E c h1) (snd_opt hR c h2) (snd_opt hR c h3)
  · obtain ⟨h0, h⟩ := oG_some h
    obtain ⟨x, h1, rfl⟩ := o1_some h
    obtain ⟨k, p1, p2, rfl⟩ := isM1_is h0
    exact r_rev (hR.E c h1)
  · obtain ⟨h0, h⟩ := oG_some h
    obtain ⟨x, h1, rfl⟩ := o1_some h
    obtain ⟨h0, h2⟩ := Bool.and_eq_true_iff.mp h0
    obtain ⟨k, p1, p2, rfl⟩ := isM1_is h0
    obtain ⟨k', p0, rfl⟩ := isC0_is h2
    exact r_rev0 (hR.E c h1)
  · obtain ⟨h0, h⟩ := oG_some h
    obtain ⟨x, y, h1, h2, rfl⟩ := o2_some h
    exact r_lix (plainIx_of h0) (hR.A c h1) (hR.E c h2)
  · obtain ⟨h0, h⟩ := oG_some h
    obtain ⟨x, y, h1, h2, rfl⟩ := o2_some h
    exact r_ix ix_seq k_ix (plainIx_of h0) (hR.E c h1) (hR.E c h2)
  · cases h; exact r_d0
  · obtain ⟨x, y, h1, h2, rfl⟩ := o2_some h
    exact r_d1 (hR.E c h1) (hR.E c h2)
  · split at h
    · rename_i hn
      obtain ⟨h8, h9⟩ := oG_some h
      obtain ⟨h7, hs⟩ := Bool.and_eq_true_iff.mp h8
      obtain ⟨h6, b2⟩ := Bool.and_eq_true_iff.mp h7
      obtain ⟨h5, g2⟩ := Bool.and_eq_true_iff.mp h6
      obtain ⟨h4, b1⟩ := Bool.and_eq_true_iff.mp h5
      obtain ⟨h3, g1⟩ := Bool.and_eq_true_iff.mp h4
      obtain ⟨n1, n2⟩ := Bool.and_eq_true_iff.mp hn
      have n1 := beq_iff_eq.mp n1
      have n2 := beq_iff_eq.mp n2
      subst n1 n2
      obtain ⟨x, h1, rfl⟩ := o1_some h9
      exact r_lrng1 (c.calm (by simpa using h3)).1 (c.glb g1) (bltE c b1) (c.glb g2) (bltE c b2) (stars1 hs) (hR.A c h1)
    · exact snd_call hR c h
  · exact snd_call hR c h
  · exact snd_callK hR c h
  · obtain ⟨h0, h⟩ := oG_some h
    obtain ⟨h1, h2⟩ := Bool.and_eq_true_iff.mp h0
    exact snd_mt hR c h h1 h2
  · obtain ⟨h0, h⟩ := oG_some h
    obtain ⟨x, h1, rfl⟩ := o1_some h
    exact r_xf c.tab.xo (fun n D a b d => c.tab.xo.no n D _ a b d) c.sub (base_of h0 _ _) (hR.E c h1)
  · exact snd_com hR c h
  · cases h
end
end WS

/-! WS13: statements, the whole translator, sound. -/
namespace WS
open PySem PySem.Spec L2 L2H

/-! ### several targets from a tuple -/
def isStarred : Expr → Bool
  | .Starred _ _ => true
  | _ => false
def swapF (sc : Scope) (t v : Expr) : Option (Option (List Str)) := match t, v with
  | .Tuple ts _ _, .Tuple vs _ _ =>
    if (!(ts.length == 2 || ts.length == 3) || vs.length != ts.length) = true then some none else
    if (vs.any fun | .Starred .. => true | _ => false) = true then some none else
    let line := (ts.head?.map (·.pos.line)).getD 0
    let names := ts.filterMap fun
      | .Name id pos => if sc.names.lookup id == some .local && pos.line == line then some id else none
      | _ => none
    if (names.length != ts.length || names.eraseDups.length != names.length) = true then some none else
    if vs.all (foldedForSure 8) = true then some none else
    if vs.all (constantsAlone 8) = true then none else some (some names)
  | .List _ _, .Tuple _ _ _ => none
  | _, _ => some none
theorem blk_fn {env : Env} (h : env.scope.kind = .function) : env.blockKind = .function := by
  unfold Env.blockKind
  rw [h]
  rfl
theorem swapF_ok {env : Env} {sc : Scope} (h : env.scope = sc) (hk : env.blockKind = .function) {t v : Expr} {r : Option (List Str)} (q : swapF sc t v = some r) : swappedStores [t] v env = pure r := by
  subst h
  unfold swapF at q
  split at q
  · rename_i ts k1 p1 vs k2 p2
    unfold swappedStores
    rw [hk]
    have z : (ScopeKind.function != ScopeKind.function) = false := by decide
    simp only [Env.kindOf, z, Bool.or_false] at q ⊢
    split at q
    · rename_i c
      cases q
      exact if_pos c
    · rename_i c
      refine (if_neg c).trans ?_
      split at q
      · rename_i c1
        cases q
        exact if_pos c1
      · rename_i c1
        refine (if_neg c1).trans ?_
        split at q
        · rename_i c2
          cases q
          exact if_pos c2
        · rename_i c2
          refine (if_neg c2).trans ?_
          split at q
          · rename_i c3
            cases q
            exact if_pos c3
          · rename_i c3
            refine (if_neg c3).trans ?_
            split at q
            · cases q
            · rename_i c4
              cases q
              exact if_neg c4
  · cases q
  · cases q
    rename_i h1 h2
    unfold swappedStores
    split
    · rename_i e
      exfalso
      split at e
      · rename_i e1
        cases e1
        exact h1 _ _ _ _ _ _ rfl rfl
      · rename_i e1
        cases e1
        exact h2 _ _ _ _ _ rfl rfl
      · cases e
    · rfl

/-! ### statements -/
def setS (R : Trs) (tc : TC) (x : Str) : Expr → Option DS
  | .ListComp elt [⟨tg, it, ifs, 0⟩] sc _ => o2 (tc.sto x) (comE R tc elt tg it ifs sc) sSet
  | v => oG (noComp v) (o2 (tc.sto x) (R.E tc v) sSet)
def nmLocal (sc : Scope) (x : Str) : Bool := sc.names.lookup x == some .local
def parS (R : Trs) (tc : TC) (ns : List Str) (tg v : Expr) : Option DS := match ns, tg, v with
  | [x', y'], .Tuple [.Name x _, .Name y _] _ _, .Tuple [a, b] _ _ => oG (!tc.hot && x == x' && y == y' && nmLocal tc.sc x && nmLocal tc.sc y && !(x == y)) (o3 (tc.sto x) (tc.sto y) (R.A tc [a, b]) fun i j c => sPar i j c)
  | [x', y', z'], .Tuple [.Name x _, .Name y _, .Name z _] _ _, .Tuple [a, b, d] _ _ =>
    oG (!tc.hot && x == x' && y == y' && z == z' && nmLocal tc.sc x && nmLocal tc.sc y && nmLocal tc.sc z && !(x == y) && !(x == z) && !(y == z)) (o2 (o3 (tc.sto x) (tc.sto y) (tc.sto z) fun i j l => (i, j, l)) (R.A tc [a, b, d]) fun i c => sPar3 i.1 i.2.1 i.2.2 c)
  | _, _, _ => none
def asgS (R : Trs) (tc : TC) (tg v : Expr) : Option DS := oG (tc.top && (noComp v && noStar tg)) (match swapF tc.sc tg v with
  | some none => o2 (R.G tc tg) (R.E tc v) fun g c => sAsg g.1 c
  | some (some ns) => parS R tc ns tg v
  | none => none)
def hdsS (R : Trs) (tc : TC) : List ExceptHandler → Option (List (Str × DS))
  | [] => some []
  | .ExceptHandler (some (.Name x _)) none (b :: su) _ :: r => oG (tc.cls.elem x && tc.glb x && nmOk x) (o2 (R.B { tc with hot := true, top := false } (b :: su)) (hdsS R tc r) fun u l => (x, u) :: l)
  | _ => none
def tryS (R : Trs) (tc : TC) (body : List Stmt) (hds : List ExceptHandler) : Option DS := oG (tc.top && !tc.hot) (match hds with
  | [.ExceptHandler (some (.Name c _)) (some n) (b :: su) _] => oG (tc.cls.elem c && tc.glb c && nmOk c && nmLocal tc.sc n) (o3 (tc.sto n) (R.B { tc with hot := true, top := false } (b :: su)) (R.B tc body) fun i u b => sTryAs c i u b)
  | [] => none
  | _ :: _ => o2 (hdsS R tc hds) (R.B tc body) fun l b => sTry l b)
def stepS (R : Trs) (tc : TC) : Stmt → Option DS
  | .Pass _ => some sPass
  | .Break _ => some sBreak
  | .Continue _ => some sCont
  | .Expr e _ => oG (noComp e) (o1 (R.E tc e) sExpr)
  | .Return (some e) _ => o1 (R.E tc e) sRet
  | .Return none _ => some sRetN
  | .If t a b _ => o3 (R.T tc t) (R.B tc a) (R.B tc b) sIf
  | .Assign [.Name x _] v _ => setS R tc x v
  | .Assign [tg] v _ => asgS R tc tg v
  | .While t b [] _ => o2 (R.T tc t) (R.B tc b) sWhile
  | .For tg it b [] _ => oG (!tc.hot && noSet it) (o3 (R.I tc tg it) (R.G tc tg) (R.B tc b) fun i g b => sFor i g.1 b)
  | .Raise (some (.Call (.Name c _) [.Constant (.str _) _ _] [] _)) none _ => oG (!tc.hot && tc.rse.elem c && tc.glb c) (some (sRaise c))
  | .Try body hds [] [] _ => tryS R tc body hds
  | _ => none
def stepB (R : Trs) (tc : TC) : List Stmt → Option DS
  | [] => some sPass
  | [s] => R.S tc s
  | s :: r => o2 (R.S tc s) (R.B tc r) sSeq
def stepX (R : Trs) : Trs := ⟨stepE R, stepT R, stepA R, stepS R, stepB R, stepG R, stepGs R, stepI R⟩
def trs : Nat → Trs
  | 0 => ⟨fun _ _ => none, fun _ _ => none, fun _ _ => none, fun _ _ => none, fun _ _ => none, fun _ _ => none, fun _ _ => none, fun _ _ _ => none⟩
  | n + 1 => stepX (trs n)

/-! ### sound -/
section
variable {tc : TC} {X : Cx} {W : WX} {C : Calls} {hp : List (Addr × Obj)} {k : Nat} {R : Trs}
theorem swaps_name {env : Env} (hk : env.blockKind = .function) {x : Str} {px : Pos} {elt : Expr} {gens : List Comprehension} {sc : Scope} {pos : Pos} {l : Nat} :
    swapsWith (.ListComp elt gens sc pos) (some (.Name x px)) l env = pure (env.kindOf x == some .local && px.line == pos.line && !(sc.names.any fun (n, k) => n == x && (k == .local || k == .cell))) := by
  unfold swapsWith
  simp only [hk, Expr.pos]
  rfl
theorem snd_set (hR : Snd R) (c : CxOk tc X W C hp k) {x : Str} {v : Expr} {px pos : Pos} {d : DS} (h : setS R tc x v = some d) : PS X (.Assign [.Name x px] v pos) (rdS X.K X.mg hp W C d) := by
  unfold setS at h
  split at h
  · rename_i elt tg it ifs sc vp
    obtain ⟨i, e, h1, h2, rfl⟩ := o2_some h
    obtain ⟨a, b, z⟩ := c.sto h1
    have sw := swaps_name (blk_fn c.kd) (x := x) (px := px) (elt := elt) (gens := [⟨tg, it, ifs, 0⟩]) (sc := sc) (pos := vp) (l := pos.line) (env := X.env)
    generalize hb : (X.env.kindOf x == some .local && px.line == vp.line && !(sc.names.any fun (n, k) => n == x && (k == .local || k == .cell))) = bb at sw
    cases bb with
    | true =>
      obtain ⟨q1, _⟩ := Bool.and_eq_true_iff.mp hb
      obtain ⟨q1, _⟩ := Bool.and_eq_true_iff.mp q1
      obtain ⟨i, g, l, t, e, o, rfl⟩ := com_ok h2
      exact r_setLc (c.calm o.hot).1 c.ndX a (beq_iff_eq.mp q1) sw (hR.I c o.hi) (c.blkOk o.kind o.u o.f) o.hl (fun s H D cl fp => hR.G (c.blk o.hot o.kind s H D cl fp) o.hg l fun _ q => q) (fun s H D cl fp => o.tests hR c s H D cl fp)
        (fun s H D cl fp => hR.E (c.blk o.hot o.kind s H D cl fp) o.he) (folded_none o.ns X.env)
    | false => exact r_set c.ndX a b z sw (snd_com hR c h2)
  · obtain ⟨h0, h⟩ := oG_some h
    obtain ⟨i, e, h1, h2, rfl⟩ := o2_some h
    obtain ⟨a, b, z⟩ := c.sto h1
    exact r_set c.ndX a b z (swaps_none h0 _ _ _) (hR.E c h2)

theorem r_par3 {i j l : Nat} {x y z : Str} {a b d : Expr} {px py pz pt pos : Pos} {kt k2 : Nat} {pt2 : Pos} {ca : DA} (hc : X.calm = true) (hN : X.N.Nodup) (hi : X.N[i]? = some x) (hj : X.N[j]? = some y) (hl : X.N[l]? = some z) (hij : i ≠ j) (hil : i ≠ l) (hjl : j ≠ l)
    (hx : X.env.scope.names.lookup x = some .local) (hy : X.env.scope.names.lookup y = some .local) (hz : X.env.scope.names.lookup z = some .local)
    (hw : swappedStores [.Tuple [.Name x px, .Name y py, .Name z pz] kt pt] (.Tuple [a, b, d] k2 pt2) X.env = pure (some [x, y, z])) (ha : PA X [a, b, d] (rdA X.K X.mg hp W C ca)) : PS X (.Assign [.Tuple [.Name x px, .Name y py, .Name z pz] kt pt] (.Tuple [a, b, d] k2 pt2) pos) (rdS X.K X.mg hp W C (sPar3 i j l ca)) := by
  refine PS.weak (ps_par3 hc hN hi hj hl hij hil hjl hx hy hz ha hw) ?_
  rintro D σ H ⟨ρ, h, D', s, r, q, k⟩
  refine rdA.step s r q (DW.xw k r s) fun ys vs h1 H1 vy r1 e1 s1 xw1 q1 => ?_
  split at q1
  · obtain ⟨v, u, w, rfl, va, vb, vc⟩ := p3 vy
    exact ⟨v, u, w, rfl, (k.1 _ _ h1 H1 (((s1.set va).set vb).set vc) r1 e1).1 q1⟩
  · exact q1.elim
theorem nmLocal_at (c : CxOk tc X W C hp k) {x : Str} (h : nmLocal tc.sc x = true) : X.env.scope.names.lookup x = some .local := by
  rcases c.sc _ _ (beq_iff_eq.mp h) with z | ⟨z, _⟩
  · exact z
  · cases z
theorem slot_ne (c : CxOk tc X W C hp k) {x y : Str} {i j : Nat} (hi : tc.sto x = some i) (hj : tc.sto y = some j) (h : (!(x == y)) = true) : i ≠ j := by
  intro e
  subst e
  have a := (c.sto hi).1
  rw [(c.sto hj).1] at a
  cases a
  simp at h
theorem snd_asg (hR : Snd R) (c : CxOk tc X W C hp k) {tg v : Expr} {pos : Pos} {d : DS} (h : asgS R tc tg v = some d) : PS X (.Assign [tg] v pos) (rdS X.K X.mg hp W C d) := by
  unfold asgS at h
  obtain ⟨h0, h⟩ := oG_some h
  obtain ⟨ht, hn⟩ := Bool.and_eq_true_iff.mp h0
  obtain ⟨hn, hst⟩ := Bool.and_eq_true_iff.mp hn
  obtain ⟨t1, t2, t3⟩ := c.top ht
  have hk := blk_fn c.kd
  split at h
  · rename_i hs
    have sw := swapF_ok t1 hk hs
    obtain ⟨g, e, h1, h2, rfl⟩ := o2_some h
    have h3 : (assignEach [tg] X.env).map (·.2) = [assign tg X.env] := by
      rw [noStar_asg hst]
      rfl
    exact r_asg (gs := g.2) (hR.E c h2) (hR.G c (g := g.1) (l := g.2) h1 g.2 fun _ q => q) (swaps_none hn _ _ _) sw h3
  · rename_i ns hs
    have sw := swapF_ok t1 hk hs
    unfold parS at h
    split at h
    · obtain ⟨h8, h9⟩ := oG_some h
      simp only [Bool.and_eq_true, beq_iff_eq] at h8
      obtain ⟨⟨⟨⟨⟨h4, e1⟩, e2⟩, n1⟩, n2⟩, u1⟩ := h8
      subst e1 e2
      obtain ⟨i, j, ca, m1, m2, m3, rfl⟩ := o3_some h9
      exact r_par (c.calm (by simpa using h4)).1 c.ndX (c.sto m1).1 (c.sto m2).1 (slot_ne c m1 m2 u1) (nmLocal_at c n1) (nmLocal_at c n2) sw (hR.A c m3)
    · obtain ⟨h8, h9⟩ := oG_some h
      simp only [Bool.and_eq_true, beq_iff_eq] at h8
      obtain ⟨⟨⟨⟨⟨⟨⟨⟨⟨h4, e1⟩, e2⟩, e3⟩, n1⟩, n2⟩, n3⟩, u1⟩, u2⟩, u3⟩ := h8
      subst e1 e2 e3
      obtain ⟨q, ca, m0, m3, rfl⟩ := o2_some h9
      obtain ⟨i, j, l, m1, m2, m4, rfl⟩ := o3_some m0
      exact r_par3 (c.calm (by simpa using h4)).1 c.ndX (c.sto m1).1 (c.sto m2).1 (c.sto m4).1 (slot_ne c m1 m2 u1) (slot_ne c m1 m4 u2) (slot_ne c m2 m4 u3) (nmLocal_at c n1) (nmLocal_at c n2) (nmLocal_at c n3) sw (hR.A c m3)
    · cases h
  · cases h
theorem suite_ok (c : CxOk tc X W C hp k) (hh : tc.hot = false) {a : Addr} {oe : Obj} {cls : Value} {d : Option Addr} (pn : List (Addr × Obj)) (zn : L2N.Zn cls d oe) (hf : ∃ vs, oe.data = .fields vs) :
    CxOk { tc with hot := true, top := false } (X.suite a ((a, oe) :: pn)) (fun _ _ _ _ => False) C [(a, oe)] k where
  N := c.N
  nd := c.nd
  sc := c.sc
  kd := c.kd
  fn := c.fn
  calm := fun z => nomatch z
  gd := c.gd
  hotp := fun _ => ⟨roomH_mark (c.calm hh).2.1 _, (a, oe), rfl, rfl, let ⟨vs, e⟩ := hf; ⟨vs, e, zn.2.2 vs e⟩⟩
  sub := fun q z => by
    rw [List.mem_singleton] at z
    subst z
    exact List.mem_cons_self ..
  un := c.un
  tk := fun u s' ⟨_, _, _, _, _, _, _, _, _, _, _, _, _, _, _, _, z⟩ => z.elim
  po := PassesOwn.never
  tab := c.tab.re rfl rfl rfl rfl rfl rfl rfl
  top := fun z => nomatch z
theorem tr_ok (c : CxOk tc X W C hp k) (hh : tc.hot = false) {W' : WX} {pn : List (Addr × Obj)} {xe : Value → Shared → Prop} (tk : L2N.Takes (X.tr pn xe) W') (po : PassesOwn (model X.prog X.w) X.A X.env xe) : CxOk tc (X.tr pn xe) W' C hp k where
  N := c.N
  nd := c.nd
  sc := c.sc
  kd := c.kd
  fn := c.fn
  calm := c.calm
  gd := c.gd
  hotp := fun z => by rw [z] at hh; cases hh
  sub := fun q z => by rw [(c.calm hh).2.2] at z; cases z
  un := c.un
  tk := tk
  po := po
  tab := c.tab
  top := c.top
theorem names_ok (c : CxOk tc X W C hp k) {x : Str} (h1 : tc.cls.elem x = true) (h2 : tc.glb x = true) (h3 : nmOk x = true) : ∃ v, Names X x v ∧ X.mg x = some v := by
  obtain ⟨_, a, e⟩ := c.tab.cls x (elem_mem h1)
  exact ⟨_, ⟨c.glb h2, nm1 h3, .inl e⟩, e⟩
theorem snd_hds (hR : Snd R) (c : CxOk tc X W C hp k) (hh : tc.hot = false) : ∀ {hds : List ExceptHandler} {l : List (Str × DS)}, hdsS R tc hds = some l → ∃ vs, L2N.HdsOk X hds vs ∧ HdV X l vs C
  | [], _, h => by cases h; exact ⟨[], .nil, trivial⟩
  | .ExceptHandler (some (.Name x np)) none (b :: su) p :: r, l, h => by
    unfold hdsS at h
    obtain ⟨h0, h⟩ := oG_some h
    obtain ⟨h0, n3⟩ := Bool.and_eq_true_iff.mp h0
    obtain ⟨n1, n2⟩ := Bool.and_eq_true_iff.mp h0
    obtain ⟨u, l', h1, h2, rfl⟩ := o2_some h
    obtain ⟨v, nx, mx⟩ := names_ok c n1 n2 n3
    obtain ⟨vs, q1, q2⟩ := snd_hds hR c hh h2
    refine ⟨(v, tsX X.K X.mg C u) :: vs, .cons nx (fun a oe cls d pn zn hf => ?_) q1, mx, rfl, q2⟩
    exact PSs.weak (hR.B (suite_ok c hh pn zn hf) h1) fun D σ H z => z oe zn hf
  | .ExceptHandler none _ _ _ :: _, _, h => by simp [hdsS] at h
  | .ExceptHandler (some (.Name x np)) none [] p :: r, l, h => by simp [hdsS] at h
  | .ExceptHandler (some (.Name x np)) (some _) _ p :: r, l, h => by simp [hdsS] at h
  | .ExceptHandler (some (.BoolOp ..)) _ _ _ :: _, _, h => by simp [hdsS] at h
  | .ExceptHandler (some (.NamedExpr ..)) _ _ _ :: _, _, h => by simp [hdsS] at h
  | .ExceptHandler (some (.BinOp ..)) _ _ _ :: _, _, h => by simp [hdsS] at h
  | .ExceptHandler (some (.UnaryOp ..)) _ _ _ :: _, _, h => by simp [hdsS] at h
  | .ExceptHandler (some (.Lambda ..)) _ _ _ :: _, _, h => by simp [hdsS] at h
  | .ExceptHandler (some (.IfExp ..)) _ _ _ :: _, _, h => by simp [hdsS] at h
  | .ExceptHandler (some (.Dict ..)) _ _ _ :: _, _, h => by simp [hdsS] at h
  | .ExceptHandler (some (.Set ..)) _ _ _ :: _, _, h => by simp [hdsS] at h
  | .ExceptHandler (some (.ListComp ..)) _ _ _ :: _, _, h => by simp [hdsS] at h
  | .ExceptHandler (some (.SetComp ..)) _ _ _ :: _, _, h => by simp [hdsS] at h
  | .ExceptHandler (some (.DictComp ..)) _ _ _ :: _, _, h => by simp [hdsS] at h
  | .ExceptHandler (some (.GeneratorExp ..)) _ _ _ :: _, _, h => by simp [hdsS] at h
  | .ExceptHandler (some (.Await ..)) _ _ _ :: _, _, h => by simp [hdsS] at h
  | .ExceptHandler (some (.Yield ..)) _ _ _ :: _, _, h => by simp [hdsS] at h
  | .ExceptHandler (some (.YieldFrom ..)) _ _ _ :: _, _, h => by simp [hdsS] at h
  | .ExceptHandler (some (.Compare ..)) _ _ _ :: _, _, h => by simp [hdsS] at h
  | .ExceptHandler (some (.Call ..)) _ _ _ :: _, _, h => by simp [hdsS] at h
  | .ExceptHandler (some (.FormattedValue ..)) _ _ _ :: _, _, h => by simp [hdsS] at h
  | .ExceptHandler (some (.JoinedStr ..)) _ _ _ :: _, _, h => by simp [hdsS] at h
  | .ExceptHandler (some (.Constant ..)) _ _ _ :: _, _, h => by simp [hdsS] at h
  | .ExceptHandler (some (.Attribute ..)) _ _ _ :: _, _, h => by simp [hdsS] at h
  | .ExceptHandler (some (.Subscript ..)) _ _ _ :: _, _, h => by simp [hdsS] at h
  | .ExceptHandler (some (.Starred ..)) _ _ _ :: _, _, h => by simp [hdsS] at h
  | .ExceptHandler (some (.List ..)) _ _ _ :: _, _, h => by simp [hdsS] at h
  | .ExceptHandler (some (.Tuple ..)) _ _ _ :: _, _, h => by simp [hdsS] at h
  | .ExceptHandler (some (.Slice ..)) _ _ _ :: _, _, h => by simp [hdsS] at h

theorem snd_try (hR : Snd R) (c : CxOk tc X W C hp k) {body : List Stmt} {hds : List ExceptHandler} {pos : Pos} {d : DS} (h : tryS R tc body hds = some d) : PS X (.Try body hds [] [] pos) (rdS X.K X.mg hp W C d) := by
  unfold tryS at h
  obtain ⟨h0, h⟩ := oG_some h
  obtain ⟨ht, hh⟩ := Bool.and_eq_true_iff.mp h0
  have hh : tc.hot = false := by simpa using hh
  obtain ⟨t1, t2, t3⟩ := c.top ht
  split at h
  · obtain ⟨h0, h⟩ := oG_some h
    obtain ⟨h0, n4⟩ := Bool.and_eq_true_iff.mp h0
    obtain ⟨h0, n3⟩ := Bool.and_eq_true_iff.mp h0
    obtain ⟨n1, n2⟩ := Bool.and_eq_true_iff.mp h0
    obtain ⟨i, u, b, m1, m2, m3, rfl⟩ := o3_some h
    obtain ⟨v, nx, mx⟩ := names_ok c n1 n2 n3
    exact r_tryAs c.tab.xo t2 t3 c.ndX (c.sto m1).1 (nmLocal_at c n4) nx mx c.tk (fun W pn xe tk po => hR.B (tr_ok c hh tk po) m3) fun a oe cls d pn zn hf => hR.B (suite_ok c hh pn zn hf) m2
  · cases h
  · obtain ⟨l, b, m1, m2, rfl⟩ := o2_some h
    obtain ⟨vs, q1, q2⟩ := snd_hds hR c hh m1
    exact r_try c.tab.xo t2 t3 c.tk (fun W pn xe tk po => hR.B (tr_ok c hh tk po) m2) q1 q2
theorem snd_S (hR : Snd R) (c : CxOk tc X W C hp k) {e : Stmt} {d : DS} (h : stepS R tc e = some d) : PS X e (rdS X.K X.mg hp W C d) := by
  unfold stepS at h
  split at h
  · cases h; exact r_pass
  · cases h; exact r_break
  · cases h; exact r_cont
  · obtain ⟨h0, h⟩ := oG_some h
    obtain ⟨x, h1, rfl⟩ := o1_some h
    exact r_expr (hR.E c h1) (swaps_none h0 _ _ _)
  · obtain ⟨x, h1, rfl⟩ := o1_some h
    exact r_ret (hR.E c h1)
  · cases h; exact r_retN
  · obtain ⟨f, x, y, h1, h2, h3, rfl⟩ := o3_some h
    exact r_ifS (hR.T c h1) (hR.B c h2) (hR.B c h3)
  · exact snd_set hR c h
  · exact snd_asg hR c h
  · obtain ⟨x, y, h1, h2, rfl⟩ := o2_some h
    exact r_while c.po (hR.T c h1) (hR.B c h2)
  · obtain ⟨h0, h⟩ := oG_some h
    obtain ⟨hh, hn⟩ := Bool.and_eq_true_iff.mp h0
    obtain ⟨f, x, y, h1, h2, h3, rfl⟩ := o3_some h
    exact r_for (gs := x.2) c.po (c.calm (by simpa using hh)).1 (folded_none hn X.env) (hR.I c h1) (hR.G c (g := x.1) (l := x.2) h2 x.2 fun _ q => q) (hR.B c h3)
  · obtain ⟨h0, h⟩ := oG_some h
    cases h
    obtain ⟨h0, hg⟩ := Bool.and_eq_true_iff.mp h0
    obtain ⟨hh, hr⟩ := Bool.and_eq_true_iff.mp h0
    obtain ⟨nm, a, ea⟩ := c.tab.rsc _ (elem_mem hr)
    obtain ⟨q1, q2, q3, q4⟩ := c.tab.rse _ (elem_mem hr) a ea
    exact r_raise (c.calm (by simpa using hh)).1 c.tk PySem.F.excBase_ValueError q1 ea q2 (raises_own q3 q4) (c.glb hg) (nm1 nm)
  · exact snd_try hR c h
  · cases h
theorem snd_B (hR : Snd R) (c : CxOk tc X W C hp k) {e : List Stmt} {d : DS} (h : stepB R tc e = some d) : PSs X e (rdS X.K X.mg hp W C d) := by
  unfold stepB at h
  split at h
  · cases h; exact rs_nil
  · exact rs_one (hR.S c h)
  · obtain ⟨x, y, h1, h2, rfl⟩ := o2_some h
    exact rs_cons (hR.S c h1) (hR.B c h2)
theorem snd_step (hR : Snd R) : Snd (stepX R) := ⟨fun c h => snd_E hR c h, fun c h => snd_T hR c h, fun c h => snd_A hR c h, fun c h => snd_S hR c h, fun c h => snd_B hR c h, fun c h gs hl => snd_G hR c h gs hl, fun c h gs hl => snd_Gs hR c h gs hl, fun c h => snd_I hR c h⟩
theorem none_no {α : Type} {x : α} {P : Prop} (h : (none : Option α) = some x) : P := nomatch h
theorem snd : ∀ n, Snd (trs n) := by
  intro n
  induction n with
  | zero => exact ⟨fun _ h => none_no h, fun _ h => none_no h, fun _ h => none_no h, fun _ h => none_no h, fun _ h => none_no h, fun _ h _ _ => none_no h, fun _ h _ _ => none_no h, fun _ h => none_no h⟩
  | succ n ih => exact snd_step ih
end
end WS

/-! WS14: a table of defs, what they do level by level. -/
namespace WS
open PySem PySem.Spec L2 L2H

/-- a def: its text, its parameters, its slots, what it does -/
structure DefT where
  st : Stmt
  ps : List Str
  N : List Str
  ds : DS
def topD (Q : KV) (E : XC) : SEnds := ⟨fun _ h => Q .non h, Q, fun _ _ => False, fun _ _ => False, fun _ => E⟩
def startR (N : List Str) (xs : List Val) : Rho := xs.map some ++ List.replicate (N.length - xs.length) none
/-- behind a call less may be told of -/
def fgK (Q : KV) : KV := fun y h => ∃ h', Sub h' h ∧ Q y h'
def fgX (E : XC) : XC := fun e h => ∃ h', Sub h' h ∧ E e h'
def runT (tab : List (Str × DefT)) (C : Calls) (n : Str) (xs : List Val) (h : IH) (Q : KV) (E : XC) : Prop := match tab.lookup n with
  | some d => xs.length = d.ps.length ∧ d.ds C (topD (fgK Q) (fgX E)) (startR d.N xs) h
  | none => False
def callK (isa : Str → Str → Option Bool) (tab htab : List (Str × DefT)) : Nat → Calls
  | 0 => ⟨fun _ _ _ _ _ => False, fun _ _ _ _ _ => False, isa⟩
  | k + 1 => ⟨runT tab (callK isa tab htab k), runT htab (callK isa tab htab k), isa⟩
theorem callK_isa (isa : Str → Str → Option Bool) (tab htab : List (Str × DefT)) : ∀ k, (callK isa tab htab k).isa = isa
  | 0 => rfl
  | _ + 1 => rfl

/-- what the whole text has in common -/
structure Know (G : TC) (isa : Str → Str → Option Bool) (tab htab : List (Str × DefT)) (K : PySem.W.Frag) (mg : Str → Option Value) : Prop where
  fns : ∀ n s, G.fns.lookup n = some s → nmOk n = true ∧ ∃ f, mg n = some (.ref f) ∧ PySem.W.keepIn K (.ref f) = true ∧ ∃ d fd, tab.lookup n = some d ∧ (∃ dvs kws, FunD K n n (defArgs d.st) (defBody d.st) (defScope d.st) dvs kws f fd) ∧
    ∀ m dv, s.lookup m = some dv → ∃ dvs ds, Binds K fd d.ps ds ∧ Vals dvs ds ∧ ∀ H, VRs K mg H dv dvs
  kws : ∀ n q m, (n, q, m) ∈ G.kws → nmOk n = true ∧ ∃ f, mg n = some (.ref f) ∧ PySem.W.keepIn K (.ref f) = true ∧ ∃ d fd, tab.lookup n = some d ∧ (∃ dvs kws, FunD K n n (defArgs d.st) (defBody d.st) (defScope d.st) dvs kws f fd) ∧ KBn K fd d.ps m [q] (fun us ws => us ++ ws) (fun vs zs => vs ++ zs)
  hots : ∀ n ∈ G.hots, nmOk n = true ∧ ∃ f, mg n = some (.ref f) ∧ PySem.W.keepIn K (.ref f) = true ∧ ∃ d fd, htab.lookup n = some d ∧ (∃ dvs kws, FunD K n n (defArgs d.st) (defBody d.st) (defScope d.st) dvs kws f fd) ∧ Binds K fd d.ps []
  cns : ∀ n v, G.cns.lookup n = some v → nmOk n = true ∧ ∃ u x, mg n = some u ∧ RelV x u ∧ ∀ H, VR K mg H v x
  cls : ∀ n ∈ G.cls, nmOk n = true ∧ ∃ a, mg n = some (.ref a)
  rse : ∀ n ∈ G.rse, ∀ a, mg n = some (.ref a) → PySem.W.excIn K a HandSPX.veTail "ValueError.__new__" = true ∧ PySem.W.keepIn K (.ref a) = true ∧ PySem.W.subIn K (.ref a) (.type "BaseException") = some true ∧ PySem.W.typeIn K (.ref a) = some (.type "type")
  rsc : ∀ n ∈ G.rse, nmOk n = true ∧ ∃ a, mg n = some (.ref a)
  blt : ∀ n ∈ G.blt, mg n = none
  xo : XOk K mg isa
/-- the text of each def, translated -/
structure Told (G : TC) (tab htab : List (Str × DefT)) : Prop where
  s : ∀ n d, tab.lookup n = some d → FnScope d.N d.ps (defScope d.st)
  t : ∀ n d, tab.lookup n = some d → ∃ z, (trs z).B { G with N := d.N, sc := defScope d.st, hot := false, top := true } (defBody d.st) = some d.ds
  hs : ∀ n d, htab.lookup n = some d → FnScope d.N d.ps (defScope d.st)
  ht : ∀ n d, htab.lookup n = some d → ∃ z, (trs z).B { G with N := d.N, sc := defScope d.st, hot := true, top := false } (defBody d.st) = some d.ds
section
variable {G : TC} {isa : Str → Str → Option Bool} {tab htab : List (Str × DefT)} {K : PySem.W.Frag} {mg : Str → Option Value} {P : Program} {w : World} {base : Heap}
theorem paired_get {R : Val → V → Prop} : ∀ {ys : List Val} {vs : List V} {i : Nat} {y : Val}, Paired R ys vs → ys[i]? = some y → ∃ v, vs[i]? = some v ∧ R y v
  | _, _, _, _, .nil, e => by simp at e
  | _, _, 0, _, .cons h _, e => by simp at e; subst e; exact ⟨_, rfl, h⟩
  | _, _, i + 1, y, .cons _ r, e => by
    obtain ⟨v, h1, h2⟩ := paired_get (i := i) (y := y) r (by simpa using e)
    exact ⟨v, by simpa using h1, h2⟩
theorem startR_sr {hp : List (Addr × Obj)} {H : Hp} {N : List Str} {ys : List Val} {vs : List V} (r : Paired (VX K mg hp H) ys vs) : SR K mg hp H (startR N ys) (L2.start N vs) := by
  have l := r.length
  unfold startR L2.start
  refine ⟨by simp [l], fun i x e => ?_⟩
  by_cases hi : i < ys.length
  · rw [List.getElem?_append_left (by simpa using hi), List.getElem?_map] at e
    cases hy : ys[i]? with
    | none => rw [hy] at e; cases e
    | some y =>
      rw [hy] at e
      have e2 : y = x := by simpa using e
      subst e2
      obtain ⟨v, h1, h2⟩ := paired_get r hy
      refine ⟨v, ?_, h2⟩
      rw [List.getElem?_append_left (by rw [List.length_map, ← l]; exact hi), List.getElem?_map, h1]
      rfl
  · rw [List.getElem?_append_right (by simpa using hi)] at e
    rw [List.getElem?_replicate] at e
    split at e <;> cases e
theorem vrs_pair {H : Hp} : ∀ {ys : List Val} {vs : List V}, VRs K mg H ys vs → Paired (VX K mg [] H) ys vs
  | _, _, .nil => .nil
  | _, _, .cons a b => .cons (.inl a) (vrs_pair b)
theorem vx_nil {H : Hp} {x : Val} {v : V} (h : VX K mg [] H x v) : VR K mg H x v := by
  rcases h with h | ⟨_, _, _, _, _, _, _, _, _, z, _⟩
  · exact h
  · cases z
theorem fn_step (td : Told G tab htab) {k : Nat} (ih : TabOk G P w K mg base (callK isa tab htab k) k) (n : Str) (d : DefT) (f : Addr) (fd : FuncData) (hd : tab.lookup n = some d) (hF : ∃ dvs kws, FunD K n n (defArgs d.st) (defBody d.st) (defScope d.st) dvs kws f fd) :
    FnG P w K mg base (k + 1) f fd d.ps (spOf K mg ((callK isa tab htab (k + 1)).run n)) := by
  obtain ⟨dvs, kws, FD⟩ := hF
  have run : ∀ xs h Q E, (callK isa tab htab (k + 1)).run n xs h Q E → xs.length = d.ps.length ∧ d.ds (callK isa tab htab k) (topD (fgK Q) (fgX E)) (startR d.N xs) h := by
    intro xs h Q E z
    have z' : (match tab.lookup n with
      | some d => xs.length = d.ps.length ∧ d.ds (callK isa tab htab k) (topD (fgK Q) (fgX E)) (startR d.N xs) h
      | none => False) := z
    rw [hd] at z'
    exact z'
  obtain ⟨oc, od, dV, kV, doc, pm, an, cdv, ct, osl, rfl, lk, hcd, _, _⟩ := FD.ex
  refine fnG_of lk hcd (td.s n d hd) (fun vs H Q E ⟨ys, h, Q', E', r, rh, z, _⟩ => r.length.symm.trans (run _ _ _ _ z).1) fun A outer s H vs Q E gd hr ⟨ys, h, Q', E', r, rh, z, k1, k2⟩ => ?_
  obtain ⟨z0, tr⟩ := td.t n d hd
  have S := td.s n d hd
  let X := cxOf (L2N.CX P w) P w K mg base d.N n (defScope d.st) f cdv A outer s H E
  have c : CxOk { G with N := d.N, sc := defScope d.st, hot := false, top := true } X (fun cls d _ H => E cls d H) (callK isa tab htab k) [] k :=
    { N := rfl, nd := S.nd, sc := fun x k h => .inl h, kd := S.kind, fn := fun _ _ => rfl, calm := fun _ => ⟨rfl, hr, rfl⟩, gd := gd, hotp := (fun z => nomatch z), sub := fun q z => (by cases z), un := (by have := hr.un; show (A.deeper _).units + 66 < cLine; omega),
      tk := L2N.takes_of (X := X) rfl rfl rfl rfl, po := L2.passes_of (X := X) rfl, tab := TabOk.re ih rfl rfl rfl rfl rfl rfl rfl, top := fun _ => ⟨rfl, rfl, rfl⟩ }
  refine ⟨_, (snd z0).B c tr, startR d.N ys, h, topD (fgK Q') (fgX E'), startR_sr (vrs_pair r), rh, (run _ _ _ _ z).2, fun ρ' σ' h' H' s r e => ⟨fun ⟨h2, sb, q⟩ => k1 .non .non h2 H' .non (r.sub sb) (e.sub sb) q, fun q => q.elim, fun q => q.elim⟩, fun y v h' H' a r e ⟨h2, sb, q⟩ => k1 y v h2 H' (vx_nil a) (r.sub sb) (e.sub sb) q, fun ρ' σ' e h' H' cls d s a r e' ⟨h2, sb, q⟩ => k2 e h2 H' cls d a (r.sub sb) (e'.sub sb) q⟩
theorem fn_level (kn : Know G isa tab htab K mg) (td : Told G tab htab) : ∀ k, TabOk G P w K mg base (callK isa tab htab k) k := by
  intro k
  induction k with
  | zero =>
    refine ⟨fun n s h => ?_, fun n q m h => ?_, fun n h => ?_, kn.cns, kn.cls, kn.rse, kn.rsc, kn.blt, kn.xo⟩
    · obtain ⟨a, f, hm, hk, d, fd, hd, _, hb⟩ := kn.fns n s h
      exact ⟨a, f, hm, hk, fd, d.ps, ⟨fun vs H Q E ⟨_, _, _, _, _, _, z, _⟩ => z.elim, fun A outer s H args us vs Q E _ _ _ _ _ ⟨_, _, _, _, _, _, z, _⟩ => z.elim⟩, hb⟩
    · obtain ⟨a, f, hm, hk, d, fd, hd, _, hb⟩ := kn.kws n q m h
      exact ⟨a, f, hm, hk, fd, d.ps, ⟨fun vs H Q E ⟨_, _, _, _, _, _, z, _⟩ => z.elim, fun A outer s H args us vs Q E _ _ _ _ _ ⟨_, _, _, _, _, _, z, _⟩ => z.elim⟩, hb⟩
    · obtain ⟨a, f, hm, hk, d, fd, hd, _, hb⟩ := kn.hots n h
      exact ⟨a, f, hm, hk, fd, d.ps, hb, fun p => ⟨fun vs H Q E ⟨_, _, _, _, _, z, _⟩ => z.elim, fun A outer s H args us vs Q E _ _ _ _ _ _ _ ⟨_, _, _, _, _, z, _⟩ => z.elim⟩⟩
  | succ k ih =>
    have F := fn_step (isa := isa) td ih
    refine ⟨fun n s h => ?_, fun n q m h => ?_, fun n h => ?_, kn.cns, kn.cls, kn.rse, kn.rsc, kn.blt, kn.xo⟩
    · obtain ⟨a, f, hm, hk, d, fd, hd, FD, hb⟩ := kn.fns n s h
      exact ⟨a, f, hm, hk, fd, d.ps, F n d f fd hd FD, hb⟩
    · obtain ⟨a, f, hm, hk, d, fd, hd, FD, hb⟩ := kn.kws n q m h
      exact ⟨a, f, hm, hk, fd, d.ps, F n d f fd hd FD, hb⟩
    · obtain ⟨a, f, hm, hk, d, fd, hd, ⟨dvs, kws, FD⟩, hb⟩ := kn.hots n h
      refine ⟨a, f, hm, hk, fd, d.ps, hb, fun p => ?_⟩
      have run : ∀ xs h Q E, (callK isa tab htab (k + 1)).hot n xs h Q E → xs.length = d.ps.length ∧ d.ds (callK isa tab htab k) (topD (fgK Q) (fgX E)) (startR d.N xs) h := by
        intro xs h Q E z
        have z' : (match htab.lookup n with
          | some d => xs.length = d.ps.length ∧ d.ds (callK isa tab htab k) (topD (fgK Q) (fgX E)) (startR d.N xs) h
          | none => False) := z
        rw [hd] at z'
        exact z'
      obtain ⟨oc, od, dV, kV, doc, pm, an, cdv, ct, osl, rfl, lk, hcd, _, _⟩ := FD.ex
      have S := td.hs n d hd
      refine fnZ_of lk hcd S (fun vs H Q E ⟨ys, h, Q', r, rh, z, _⟩ => r.length.symm.trans (run _ _ _ _ z).1) fun A outer s H vs Q E gd hot hr ⟨ys, h, Q', r, rh, z, k1⟩ => ?_
      obtain ⟨z0, tr⟩ := td.ht n d hd
      let X := cxH (L2N.CX P w) P w K mg base d.N n (defScope d.st) f cdv A outer s H E p
      have c : CxOk { G with N := d.N, sc := defScope d.st, hot := true, top := false } X (fun _ _ _ _ => False) (callK isa tab htab k) [p] k :=
        { N := rfl, nd := S.nd, sc := fun x k h => .inl h, kd := S.kind, fn := fun _ _ => rfl, calm := (fun z => nomatch z), hotp := fun _ => ⟨hr, p, rfl, hot⟩, gd := gd, sub := fun q z => z, un := (by have := hr.un; show (A.deeper _).units + 66 < cLine; omega),
          tk := fun u s' ⟨_, _, _, _, _, _, _, _, _, _, _, _, _, _, _, _, z⟩ => z.elim, po := L2.passes_of (X := X) rfl, tab := TabOk.re ih rfl rfl rfl rfl rfl rfl rfl, top := fun z => nomatch z }
      refine ⟨_, (snd z0).B c tr, startR d.N ys, h, topD (fgK Q') (fgX noX), startR_sr r, rh, (run _ _ _ _ z).2, fun ρ' σ' h' H' s r e => ⟨fun ⟨h2, sb, q⟩ => k1 .non .non h2 H' (.inl .non) (r.sub sb) (e.sub sb) q, fun q => q.elim, fun q => q.elim⟩, fun y v h' H' a r e ⟨h2, sb, q⟩ => k1 y v h2 H' a (r.sub sb) (e.sub sb) q, fun ρ' σ' e h' H' cls d s a r e' ⟨h2, sb, q⟩ => q.elim⟩
end
end WS

/-! WS15: what is read off the heap at the head's end. -/
namespace WS
open PySem PySem.Spec L2 L2H

/-! ### the hook: defs, and a test of the text's own -/
def obsW (b : PySem.W.Frag → Bool) (fn : List He.DefD) (K : PySem.W.Frag) : He.AlD := (b K && fn.all (fun d => d.ok K), fn.map fun d => He.fnW K d.at_)
def SaysW (b : PySem.W.Frag → Bool) (fn : List He.DefD) (K : PySem.W.Frag) : Prop := obsW b fn K = He.valD fn
def obsWG (n : Nat) (b : PySem.W.Frag → Bool) (fn : List He.DefD) (g : Addr → Option Obj) : He.AlD := obsW b fn (He.frG g (He.asD g n))
def hookW (n : Nat) (b : PySem.W.Frag → Bool) (fn : List He.DefD) : PySem.W.Hook where
  α := He.AlD
  obs := fun s => obsWG n b fn s.heap.get?
  val := fun _ => He.valD fn
  says := fun _ h => ∃ K : PySem.W.Frag, K.In h ∧ SaysW b fn K
  of := fun _ _ e => ⟨_, He.frG_in, e⟩
  keeps := fun _ _ _ z k => z.elim fun K z => ⟨K, PySem.W.Frag.In.keeps z.1 k, z.2⟩
theorem obsWG_eq {n : Nat} {b : PySem.W.Frag → Bool} {fn : List He.DefD} {g : Addr → Option Obj} {s : Shared} (h : ∀ a, g a = s.heap.get? a) : obsWG n b fn g = (hookW n b fn).obs s := congrArg (obsWG n b fn) (funext h)
section
variable {b : PySem.W.Frag → Bool} {fn : List He.DefD} {K : PySem.W.Frag}
theorem SaysW.two (c : SaysW b fn K) : b K = true ∧ fn.all (fun d => d.ok K) = true := Bool.and_eq_true_iff.mp (congrArg Prod.fst c)
theorem SaysW.fun_ (c : SaysW b fn K) {d : He.DefD} (h : d ∈ fn) : ∃ fd, FunD K d.name d.qual d.params d.body d.scope (d.dvs K) (d.kws K) (He.fAd K d.at_) fd := by
  obtain ⟨i, hi⟩ := List.mem_iff_getElem?.mp h
  have e : (fn.map fun d => He.fnW K d.at_)[i]? = (fn.map He.DefD.val)[i]? := congrArg (fun z : He.AlD => z.2[i]?) c
  rw [List.getElem?_map, List.getElem?_map, hi] at e
  exact He.DefD.funD (Option.some.inj e) (List.all_eq_true.mp c.two.2 d h)
end

/-! ### the test -/
/-- own classes: each with those that it is one of -/
def isaOf (t : List (Str × List Str)) (n m : Str) : Option Bool := match t.lookup n with
  | some l => oG (t.any (fun p => p.1 == m) || m == ("ValueError" : Str)) (some (l.elem m))
  | none => none
def xFields : List Str := ["person", "many", "seats", "owed", "at"]
def clsB (K : PySem.W.Frag) (D : Addr) : Bool := (PySem.W.clsIn K D).isSome && He.eqO (PySem.W.findIn K (.ref D) "__getattribute__") (some (some (.builtin "BaseException.__getattribute__"))) && He.eqO (PySem.W.findIn K (.ref D) "__getattr__") (some none) &&
  decide (PySem.W.subIn K (.ref D) (.type "BaseException") = some true) && PySem.W.hasDictIn K D && He.eqO (PySem.W.findIn K (.ref D) "__class__") (some (some (.builtin "object.__class__"))) &&
  He.eqO (PySem.W.specialIn K (.builtin "object.__class__") "__get__") (some (some (.builtin "getset_descriptor.__get__"))) && decide (PySem.W.takesIn K (.builtin "object.__class__") = some true) && decide (PySem.W.mroIn K D (.type "object") = some true) &&
  xFields.all fun f => He.eqO (PySem.W.findIn K (.ref D) f) (some none)
def isB (K : PySem.W.Frag) (C : Value) (D : Value) (b : Bool) : Bool := decide (PySem.W.kitOne K C D = some b)
def pairB (K : PySem.W.Frag) (x y : Str) (b : Bool) : Bool := isB K (.ref (He.ga K x)) (.ref (He.ga K y)) b && decide (PySem.W.exmOne K (.ref (He.ga K x)) (.ref (He.ga K y)) = some b)
def clssB (t : List (Str × List Str)) (K : PySem.W.Frag) : Bool := t.all fun p => clsB K (He.ga K p.1) && isB K (.ref (He.ga K p.1)) (.type "ValueError") (p.2.elem ("ValueError" : Str)) && t.all fun q => pairB K p.1 q.1 (p.2.elem q.1)
def dvOf : Val → Option He.Dv
  | .non => some .non
  | .bl b => some (.bl b)
  | .int i => some (.int i)
  | .str s => some (.str s)
  | _ => none
def dvsOf : List Val → Option (List He.Dv)
  | [] => some []
  | x :: xs => o2 (dvOf x) (dvsOf xs) (· :: ·)
def cnB (K : PySem.W.Frag) (x : Str) : Val → Bool
  | .int i => (He.Fa.int x i).ok K
  | .str s => (He.Fa.str x s).ok K
  | .tup xs => (He.Fa.glo x).ok K && match dvsOf xs with
    | some ds => He.tupB K x ds
    | none => false
  | _ => false
def gloB (K : PySem.W.Frag) (l : List Str) : Bool := l.all fun x => (He.Fa.glo x).ok K
def freeB (K : PySem.W.Frag) (l : List Str) : Bool := l.all fun x => (He.Fa.free x).ok K
def excB (K : PySem.W.Frag) (l : List Str) : Bool := l.all fun x => (He.Fa.exc x).ok K
def cnsB (K : PySem.W.Frag) (l : List (Str × Val)) : Bool := l.all fun p => cnB K p.1 p.2
/-- the whole test; fs: the names of defs -/
def testB (G : TC) (t : List (Str × List Str)) (fs : List Str) (K : PySem.W.Frag) : Bool := gloB K fs && (gloB K (t.map (·.1)) && (freeB K G.blt && (freeB K ["ValueError"] && (excB K G.rse && (cnsB K G.cns && clssB t K)))))
section
variable {K : PySem.W.Frag} {h : Heap} {mg : Str → Option Value} {t : List (Str × List Str)} {G : TC} {fs : List Str}
theorem dvsOf_vr {H : Hp} : ∀ {xs : List Val} {ds : List He.Dv}, dvsOf xs = some ds → VRs K mg H xs (ds.map (He.Dv.v K))
  | [], _, e => by cases e; exact .nil
  | x :: xs, _, e => by
    unfold dvsOf at e
    obtain ⟨d, l, e1, e2, rfl⟩ := o2_some e
    refine .cons ?_ (dvsOf_vr e2)
    cases x <;> cases e1
    · exact .non
    · exact .bl _
    · exact .int _
    · exact .str _
theorem cnB_ok (X : K.In h) (N : h.Ns mainGlobals mg) {x : Str} {v : Val} (c : cnB K x v = true) : ∃ u y, mg x = some u ∧ RelV y u ∧ ∀ H, VR K mg H v y := by
  cases v with
  | int i =>
    obtain ⟨k, e⟩ := He.int_ok X N (show (He.Fa.int x i).ok K = true from c)
    exact ⟨_, .int i, e, ⟨k, rfl⟩, fun H => .int i⟩
  | str s =>
    obtain ⟨k, e⟩ := He.str_ok X N (show (He.Fa.str x s).ok K = true from c)
    exact ⟨_, .str s, e, ⟨k, rfl⟩, fun H => .str s⟩
  | tup xs =>
    obtain ⟨c1, c2⟩ := Bool.and_eq_true_iff.mp (show ((He.Fa.glo x).ok K && match dvsOf xs with
      | some ds => He.tupB K x ds
      | none => false) = true from c)
    split at c2
    · rename_i ds e
      exact ⟨_, .ref (He.ga K x), He.glo_ok X N c1, rfl, fun H => .tup (He.tupB_ok c2 H) (dvsOf_vr e)⟩
    · cases c2
  | _ => cases c
theorem tupB_vr {x : Str} {xs : List Val} (c : cnB K x (.tup xs) = true) (H : Hp) : VR K mg H (.tup xs) (.ref (He.ga K x)) := by
  obtain ⟨c1, c2⟩ := Bool.and_eq_true_iff.mp (show ((He.Fa.glo x).ok K && match dvsOf xs with
    | some ds => He.tupB K x ds
    | none => false) = true from c)
  split at c2
  · rename_i ds e
    exact .tup (He.tupB_ok c2 H) (dvsOf_vr e)
  · cases c2
theorem clsB_ok {D : Addr} (c : clsB K D = true) : ExcK K D ∧ ∀ f ∈ xFields, PySem.W.findIn K (.ref D) f = some none := by
  unfold clsB at c
  simp only [Bool.and_eq_true] at c
  obtain ⟨⟨⟨⟨⟨⟨⟨⟨⟨c1, c2⟩, c3⟩, c4⟩, c5⟩, c6⟩, c7⟩, c8⟩, c9⟩, c10⟩ := c
  exact ⟨⟨c1, He.eqO_ok c2, He.eqO_ok c3, of_decide_eq_true c4, c5, He.eqO_ok c6, He.eqO_ok c7, of_decide_eq_true c8, of_decide_eq_true c9⟩, fun f hf => He.eqO_ok (List.all_eq_true.mp c10 f hf)⟩
theorem isaOf_some {n m : Str} {b : Bool} (e : isaOf t n m = some b) : ∃ l, (n, l) ∈ t ∧ b = l.elem m ∧ ((∃ l', (m, l') ∈ t) ∨ m = "ValueError") := by
  unfold isaOf at e
  split at e
  · rename_i l hl
    obtain ⟨e1, e2⟩ := oG_some e
    refine ⟨l, PySem.mem_of_lookup hl, (Option.some.inj e2).symm, ?_⟩
    rcases Bool.or_eq_true_iff.mp e1 with e1 | e1
    · obtain ⟨p, hp, e3⟩ := List.any_eq_true.mp e1
      obtain ⟨p1, p2⟩ := p
      have e4 : p1 = m := beq_iff_eq.mp e3
      subst e4
      exact .inl ⟨_, hp⟩
    · exact .inr (beq_iff_eq.mp e1)
  · cases e
/-- what the test says -/
structure TestOk (G : TC) (t : List (Str × List Str)) (fs : List Str) (K : PySem.W.Frag) (mg : Str → Option Value) : Prop where
  f : ∀ n ∈ fs, mg n = some (.ref (He.ga K n))
  c : ∀ n l, (n, l) ∈ t → mg n = some (.ref (He.ga K n))
  b : ∀ n ∈ G.blt, mg n = none
  r : ∀ n ∈ G.rse, PySem.W.excIn K (He.ga K n) HandSPX.veTail "ValueError.__new__" = true ∧ PySem.W.keepIn K (.ref (He.ga K n)) = true ∧ PySem.W.subIn K (.ref (He.ga K n)) (.type "BaseException") = some true ∧ PySem.W.typeIn K (.ref (He.ga K n)) = some (.type "type")
  k : ∀ n v, (n, v) ∈ G.cns → ∃ u y, mg n = some u ∧ RelV y u ∧ ∀ H, VR K mg H v y
  kt : ∀ n xs, (n, Val.tup xs) ∈ G.cns → ∀ H, VR K mg H (.tup xs) (.ref (He.ga K n))
  x : XOk K mg (isaOf t)
theorem test_ok (X : K.In h) (N : h.Ns mainGlobals mg) (c : testB G t fs K = true) : TestOk G t fs K mg := by
  obtain ⟨c1, c⟩ := Bool.and_eq_true_iff.mp c
  obtain ⟨c2, c⟩ := Bool.and_eq_true_iff.mp c
  obtain ⟨c3, c⟩ := Bool.and_eq_true_iff.mp c
  obtain ⟨c4, c⟩ := Bool.and_eq_true_iff.mp c
  obtain ⟨c5, c⟩ := Bool.and_eq_true_iff.mp c
  obtain ⟨c6, c7⟩ := Bool.and_eq_true_iff.mp c
  have gc : ∀ n l, (n, l) ∈ t → mg n = some (.ref (He.ga K n)) := fun n l hn => He.glo_ok X N (List.all_eq_true.mp c2 n (List.mem_map.mpr ⟨_, hn, rfl⟩))
  have cl : ∀ n l, (n, l) ∈ t → clsB K (He.ga K n) = true ∧ isB K (.ref (He.ga K n)) (.type "ValueError") (l.elem ("ValueError" : Str)) = true ∧ ∀ m l', (m, l') ∈ t → pairB K n m (l.elem m) = true := by
    intro n l hn
    have z := List.all_eq_true.mp c7 (n, l) hn
    simp only [Bool.and_eq_true] at z
    exact ⟨z.1.1, z.1.2, fun m l' hm => List.all_eq_true.mp z.2 (m, l') hm⟩
  have fv : mg "ValueError" = none := He.free_ok X N (List.all_eq_true.mp c4 _ (List.mem_singleton.mpr rfl))
  refine ⟨fun n hn => He.glo_ok X N (List.all_eq_true.mp c1 n hn), gc, fun n hn => He.free_ok X N (List.all_eq_true.mp c3 n hn), fun n hn => He.exc_ok (List.all_eq_true.mp c5 n hn), fun n v hn => cnB_ok X N (List.all_eq_true.mp c6 (n, v) hn), fun n xs hn => tupB_vr (List.all_eq_true.mp c6 (n, .tup xs) hn), ⟨fun n m b e C hC => ?_, fun n m b e C hC u hu => ?_, fun n b e C hC => ?_, fun n C f hC e hf => ?_⟩⟩
  · obtain ⟨l, h1, _⟩ := isaOf_some e
    have e1 := gc n l h1
    rw [hC] at e1
    cases e1
    exact (clsB_ok (cl n l h1).1).1
  · obtain ⟨l, h1, h2, h3⟩ := isaOf_some e
    have e1 := gc n l h1
    rw [hC] at e1
    cases e1
    rcases h3 with ⟨l', h3⟩ | h3
    · have e2 := gc m l' h3
      rw [hu] at e2
      cases e2
      have z := (cl n l h1).2.2 m l' h3
      obtain ⟨z1, z2⟩ := Bool.and_eq_true_iff.mp z
      rw [h2]
      exact ⟨of_decide_eq_true z1, of_decide_eq_true z2⟩
    · subst h3
      rw [fv] at hu
      cases hu
  · obtain ⟨l, h1, h2, h3⟩ := isaOf_some e
    have e1 := gc n l h1
    rw [hC] at e1
    cases e1
    rw [h2]
    exact of_decide_eq_true (cl n l h1).2.1
  · cases e1 : isaOf t n n with
    | none => rw [e1] at e; cases e
    | some b =>
      obtain ⟨l, h1, _⟩ := isaOf_some e1
      have e2 := gc n l h1
      rw [hC] at e2
      cases e2
      exact (clsB_ok (cl n l h1).1).2 f hf
end

/-! ### lists of facts -/
def AllP {α : Type} (P : α → Prop) : List α → Prop
  | [] => True
  | x :: r => P x ∧ AllP P r
theorem AllP.mem {α : Type} {P : α → Prop} : ∀ {l : List α}, AllP P l → ∀ x ∈ l, P x
  | _ :: _, h, _, .head _ => h.1
  | _ :: _, h, x, .tail _ m => AllP.mem h.2 x m
def sgB (d : DefT) : Bool := let sc := defScope d.st
  (sc.kind == .function) && (!sc.isCoroutine && (!sc.isGenerator && (decide d.N.Nodup && (decide (d.N.take d.ps.length = d.ps) && (d.ps.all (fun x => sc.names.lookup x == some .local || sc.names.lookup x == some .cell) && sc.names.all fun y => !(y.2 == .free))))))
theorem sg_ok {d : DefT} (c : sgB d = true) : FnScope d.N d.ps (defScope d.st) := by
  obtain ⟨c1, c⟩ := Bool.and_eq_true_iff.mp c
  obtain ⟨c2, c⟩ := Bool.and_eq_true_iff.mp c
  obtain ⟨c3, c⟩ := Bool.and_eq_true_iff.mp c
  obtain ⟨c4, c⟩ := Bool.and_eq_true_iff.mp c
  obtain ⟨c5, c⟩ := Bool.and_eq_true_iff.mp c
  obtain ⟨c6, c7⟩ := Bool.and_eq_true_iff.mp c
  refine ⟨beq_iff_eq.mp c1, by simpa using c2, by simpa using c3, of_decide_eq_true c4, of_decide_eq_true c5, fun x hx => ?_, fun y hy e => ?_⟩
  · have z := List.all_eq_true.mp c6 x hx
    simp only [Bool.or_eq_true, beq_iff_eq] at z
    exact z
  · have z := List.all_eq_true.mp c7 y hy
    rw [e] at z
    cases z
theorem told_of {G : TC} {tab htab : List (Str × DefT)} (c1 : tab.all (fun p => sgB p.2) = true) (c2 : htab.all (fun p => sgB p.2) = true)
    (h1 : AllP (fun p : Str × DefT => ∃ z, (trs z).B { G with N := p.2.N, sc := defScope p.2.st, hot := false, top := true } (defBody p.2.st) = some p.2.ds) tab)
    (h2 : AllP (fun p : Str × DefT => ∃ z, (trs z).B { G with N := p.2.N, sc := defScope p.2.st, hot := true, top := false } (defBody p.2.st) = some p.2.ds) htab) : Told G tab htab :=
  ⟨fun n d h => sg_ok (List.all_eq_true.mp c1 (n, d) (PySem.mem_of_lookup h)), fun n d h => h1.mem (n, d) (PySem.mem_of_lookup h), fun n d h => sg_ok (List.all_eq_true.mp c2 (n, d) (PySem.mem_of_lookup h)), fun n d h => h2.mem (n, d) (PySem.mem_of_lookup h)⟩
/-- a def's datum for the head -/
def defD (n : Str) (st : Stmt) (dfl : List He.Dv) (kwd : List (Str × He.Dv)) : He.DefD := ⟨(n, none), n, n, defArgs st, defBody st, defScope st, dfl, kwd⟩
theorem sigc {m k : Nat} {dv d : List Val} {r : List (Nat × List Val)} (h : List.lookup m ((k, d) :: r) = some dv) : (m = k ∧ dv = d) ∨ List.lookup m r = some dv := by
  rw [List.lookup_cons] at h
  split at h
  · rename_i e
    exact .inl ⟨beq_iff_eq.mp e, (Option.some.inj h).symm⟩
  · exact .inr h
theorem sig1 {m k : Nat} {dv dv0 : List Val} (h : List.lookup m [(k, dv0)] = some dv) : m = k ∧ dv = dv0 := by
  rw [List.lookup_cons] at h
  split at h
  · rename_i e
    exact ⟨beq_iff_eq.mp e, (Option.some.inj h).symm⟩
  · cases h
section
variable {G : TC} {t : List (Str × List Str)} {fs : List Str} {tab htab : List (Str × DefT)} {K : PySem.W.Frag} {mg : Str → Option Value}
/-- one def among those that are called -/
def FnP (K : PySem.W.Frag) (mg : Str → Option Value) (tab : List (Str × DefT)) (p : Str × FSig) : Prop := ∃ d fd, tab.lookup p.1 = some d ∧ (∃ dvs kws, FunD K p.1 p.1 (defArgs d.st) (defBody d.st) (defScope d.st) dvs kws (He.ga K p.1) fd) ∧
  ∀ m dv, p.2.lookup m = some dv → ∃ dvs ds, Binds K fd d.ps ds ∧ Vals dvs ds ∧ ∀ H, VRs K mg H dv dvs
def KwP (K : PySem.W.Frag) (tab : List (Str × DefT)) (p : Str × Str × Nat) : Prop := ∃ d fd, tab.lookup p.1 = some d ∧ (∃ dvs kws, FunD K p.1 p.1 (defArgs d.st) (defBody d.st) (defScope d.st) dvs kws (He.ga K p.1) fd) ∧ KBn K fd d.ps p.2.2 [p.2.1] (fun us ws => us ++ ws) (fun vs zs => vs ++ zs)
def HtP (K : PySem.W.Frag) (htab : List (Str × DefT)) (n : Str) : Prop := ∃ d fd, htab.lookup n = some d ∧ (∃ dvs kws, FunD K n n (defArgs d.st) (defBody d.st) (defScope d.st) dvs kws (He.ga K n) fd) ∧ Binds K fd d.ps []
theorem know_of (k : TestOk G t fs K mg) (nm : (fs ++ (G.cns.map (·.1) ++ (t.map (·.1) ++ G.rse))).all nmOk = true) (s1 : (G.fns.map (·.1) ++ (G.kws.map (·.1) ++ G.hots)).all (fun x => fs.elem x) = true) (s2 : (G.cls ++ G.rse).all (fun x => (t.map (·.1)).elem x) = true)
    (h1 : AllP (FnP K mg tab) G.fns) (h2 : AllP (KwP K tab) G.kws) (h3 : AllP (HtP K htab) G.hots) : Know G (isaOf t) tab htab K mg := by
  have nmO : ∀ n, n ∈ fs ∨ n ∈ G.cns.map (·.1) ∨ n ∈ t.map (·.1) ∨ n ∈ G.rse → nmOk n = true := fun n hn => List.all_eq_true.mp nm n (by simpa [List.mem_append] using hn)
  have inF : ∀ n, n ∈ G.fns.map (·.1) ∨ n ∈ G.kws.map (·.1) ∨ n ∈ G.hots → n ∈ fs := fun n hn => by
    have z := List.all_eq_true.mp s1 n (by simpa [List.mem_append] using hn)
    simpa using z
  have inC : ∀ n, n ∈ G.cls ∨ n ∈ G.rse → ∃ l, (n, l) ∈ t := fun n hn => by
    have z := List.all_eq_true.mp s2 n (by simpa [List.mem_append] using hn)
    have z : n ∈ t.map (·.1) := elem_mem z
    obtain ⟨p, hp, rfl⟩ := List.mem_map.mp z
    exact ⟨p.2, hp⟩
  refine ⟨fun n s h => ?_, fun n q m h => ?_, fun n h => ?_, fun n v h => ?_, fun n h => ?_, fun n h a e => ?_, fun n h => ?_, k.b, k.x⟩
  · have hm := PySem.mem_of_lookup h
    have hf := inF n (.inl (List.mem_map.mpr ⟨_, hm, rfl⟩))
    obtain ⟨d, fd, q1, ⟨dvs, kws, q2⟩, q3⟩ := h1.mem _ hm
    exact ⟨nmO n (.inl hf), _, k.f n hf, q2.kp, d, fd, q1, ⟨dvs, kws, q2⟩, q3⟩
  · have hf := inF n (.inr (.inl (List.mem_map.mpr ⟨_, h, rfl⟩)))
    obtain ⟨d, fd, q1, ⟨dvs, kws, q2⟩, q3⟩ := h2.mem _ h
    exact ⟨nmO n (.inl hf), _, k.f n hf, q2.kp, d, fd, q1, ⟨dvs, kws, q2⟩, q3⟩
  · have hf := inF n (.inr (.inr h))
    obtain ⟨d, fd, q1, ⟨dvs, kws, q2⟩, q3⟩ := h3.mem _ h
    exact ⟨nmO n (.inl hf), _, k.f n hf, q2.kp, d, fd, q1, ⟨dvs, kws, q2⟩, q3⟩
  · have hm := PySem.mem_of_lookup h
    exact ⟨nmO n (.inr (.inl (List.mem_map.mpr ⟨_, hm, rfl⟩))), k.k n v hm⟩
  · obtain ⟨l, hl⟩ := inC n (.inl h)
    exact ⟨nmO n (.inr (.inr (.inl (List.mem_map.mpr ⟨_, hl, rfl⟩)))), _, k.c n l hl⟩
  · obtain ⟨l, hl⟩ := inC n (.inr h)
    have e1 := k.c n l hl
    rw [e] at e1
    cases e1
    exact k.r n h
  · obtain ⟨l, hl⟩ := inC n (.inr h)
    exact ⟨nmO n (.inr (.inr (.inr h))), _, k.c n l hl⟩
end

/-! ### the end -/
theorem rh_none {K : PySem.W.Frag} {mg : Str → Option Value} {H : Hp} : RH K mg (fun _ => none) H := fun _ _ e => nomatch e
theorem sq_scr {K : PySem.W.Frag} {H : Hp} {a : Addr} {xs : List V} (o : Only H) (s : SqL K H a xs) : SqZ K H a xs := by
  rcases s with (s | s) | s
  · rcases o a with e | ⟨ob, us, e⟩
    · rw [e] at s; cases s
    · rw [e] at s; cases s
  · exact .inl s
  · exact .inr s
open PyProof.Rows in
/-- the law's def is called at the head's end, by what FnG promises -/
theorem law_callG {P : Program} {w : World} {K : PySem.W.Frag} {mg mb : Str → Option Value} {k : Nat} {F0 L : Addr} {fd : FuncData} {x : Str} {sp : Sp} {s0 : Shared} {us : List Value} {ns : List Int}
    (kin : K.In s0.heap) (nsG : s0.heap.Ns mainGlobals mg) (nsB : s0.heap.Ns builtinsNs mb) (eB : ∀ x : Str, x ≠ "__name__" → mb x = bootBuiltins x) (lim : s0.heap.NoLimit) (gn : s0.gens = #[])
    (at_ : s0.heap.get? L = some { cls := .type "list", data := .seq us.toArray }) (ia : IntsAre us ns) (sz : ns.length ≤ sizeLine) (rm : Room k callerA)
    (fn : ∀ base : Heap, K.In base → base.Ns mainGlobals mg → FnG P w K mg base k F0 fd [x] sp) (bd : ∀ (s : Shared) (u : Value), BindsTo s fd ⟨[u], []⟩ [(x, u)])
    (hs : ∀ H : Hp, Only H → SqL K H L (ns.map V.int) → sp [.ref L] H (fun v _ => v = .bl true) fun _ _ _ => False) :
    codeAny (model P w) callerA (.call (.ref F0) ⟨[.ref L], []⟩) (fun r s' => r = .ok (.ret (.bool true)) ∧ OldK s0.heap s'.heap ∧ s'.os = s0.os ∧ AllBare s'.gens) s0 := by
  have rel := vals_ints ia
  have len := ia.length
  have go : ∀ H : Hp, Only H → SqL K H L (ns.map V.int) → HOk P w H s0.heap → (∀ b, H b ≠ none → b = L) → (H L ≠ none → K.lookup L = none) →
      codeAny (model P w) callerA (.call (.ref F0) ⟨[.ref L], []⟩) (fun r s' => r = .ok (.ret (.bool true)) ∧ OldK s0.heap s'.heap ∧ s'.os = s0.os ∧ AllBare s'.gens) s0 := by
    intro H onl sq hk own out
    have lone : ∀ b, H b ≠ none → b ≠ L → False := fun b z n => n (own b z)
    have dictNone : ∀ {b : Addr} {o : Obj} {es : Array DictEntry} {ep : Nat}, s0.heap.get? b = some o → o.data = .dict es ep → H b = none := by
      intro b o es ep e1 e2
      by_cases z : H b = none
      · exact z
      · have z2 := own b z
        rw [z2, at_] at e1
        cases e1
        cases e2
    have ns2 : ∀ {b : Addr} {m : Str → Option Value}, s0.heap.Ns b m → (hidT s0.heap H).Ns b m := by
      rintro b m ⟨o, es, ep, e1, e2, e3⟩
      exact ⟨o, es, ep, hidT_get e1 (dictNone e1 e2), e2, e3⟩
    have kin2 : K.In (hidT s0.heap H) := by
      intro b o e
      refine hidT_get (kin b o e) ?_
      by_cases z : H b = none
      · exact z
      · have z2 := own b z
        subst z2
        rw [out z] at e
        cases e
    have md : Mod K mg (hidT s0.heap H) := by
      obtain ⟨mc, l1, l2⟩ := lim
      exact ⟨kin2, ns2 nsG, ⟨mb, ns2 nsB, eB⟩, ⟨mc, ns2 l1, l2⟩⟩
    have en : Env0 P w K mg (hidT s0.heap H) callerA [] s0 H :=
      ⟨rfl, md, fun _ _ e => of_hidT e, Nat.le_of_eq (hidT_size _ _), trivial, fun b z => absurd z (List.not_mem_nil (a := b)), hk, .of_eq gn⟩
    have step := (fn _ kin2 (ns2 nsG)).run callerA [] s0 H ⟨[.ref L], []⟩ [.ref L] [.ref L] _ _ rm rfl en (bd s0 (.ref L)) (.cons rfl .nil) (hs H onl sq)
    refine codeAny_mono step ?_
    intro r s' z
    cases r with
    | error e =>
      obtain ⟨_, _, _, _, _, _, _, _, _, _, _, _, f⟩ := z
      exact f.elim
    | ok fl =>
      cases fl with
      | ret u =>
        obtain ⟨v, H', z1, z2, un, hk', rv, z3⟩ := z
        have z3 : v = .bl true := z3
        subst z3
        have rv : u = Value.bool true := rv
        subst rv
        refine ⟨rfl, OldK.of_keep ?_, z1, z2⟩
        intro b o e
        rcases onl b with q | ⟨ob, xs, q⟩
        · exact un.keep b o e q (fun z => absurd z (List.not_mem_nil (a := b))) (by simp)
        · have q2 := un.frzs b ob _ q
          have a1 := (hk b _ q).1
          have a2 := (hk' b _ q2).1
          rw [e] at a1
          cases a1
          exact a2
      | _ => exact z.elim
  by_cases hl : ∃ o, K.lookup L = some o
  · obtain ⟨o, hl⟩ := hl
    have e := kin L o hl
    rw [at_] at e
    cases e
    have sq0 : SqL K (fun _ => none) L (ns.map V.int) := .inr ⟨_, us.toArray, _, hl, rfl, rfl, rfl, by rw [List.size_toArray, len]; exact sz, by simpa using rel⟩
    exact go (fun _ => none) (fun _ => .inl rfl) sq0 (fun b u z => nomatch z) (fun b z => absurd rfl z) (fun z => absurd rfl z)
  · have hl : K.lookup L = none := by
      cases z : K.lookup L with
      | none => rfl
      | some o => exact absurd ⟨o, z⟩ hl
    let H1 : Hp := fun b => if b = L then some (.frz { cls := .type "list", data := .seq us.toArray } (.lst (ns.map V.int))) else none
    have h1 : H1 L = some (.frz { cls := .type "list", data := .seq us.toArray } (.lst (ns.map V.int))) := if_pos rfl
    have h2 : ∀ b, b ≠ L → H1 b = none := fun b n => if_neg n
    refine go H1 (fun b => ?_) (.inl (.inr ⟨_, h1⟩)) (fun b u z => ?_) (fun b z => ?_) fun _ => hl
    · by_cases n : b = L
      · subst n; exact .inr ⟨_, _, h1⟩
      · exact .inl (h2 b n)
    · by_cases n : b = L
      · subst n
        rw [h1] at z
        cases z
        exact ⟨at_, by rw [List.length_map]; exact sz, us, _, rel, at_⟩
      · rw [h2 b n] at z
        cases z
    · by_cases n : b = L
      · exact n
      · exact absurd (h2 b n) z
open PyProof.Rows in
theorem walk_end {l : PySem.W.OpenLaw} {n nn k : Nat} {q : Program} {loose : List Str} {XP : (Str → Option Value) → Heap → Prop} {d : DefRec} {b : PySem.W.Frag → Bool} {fn : List He.DefD} {G : TC} {isa : Str → Str → Option Bool} {tab htab : List (Str × DefT)} {st : Stmt} {N : List Str} {dl : DS}
    (hn : l.most = some n) (hn2 : n ≤ sizeLine) (hdf : d.params.defaults = []) (hname : d.name = ("law" : Str)) (hm : defD "law" st [] [] ∈ fn) (hr : Room (k + 1) callerA) (ht : tab.lookup ("law" : Str) = some ⟨st, ["script"], N, dl⟩) (told : Told G tab htab)
    (know : ∀ (K : PySem.W.Frag) (mg : Str → Option Value) (h : Heap), K.In h → h.Ns mainGlobals mg → SaysW b fn K → Know G isa tab htab K mg ∧ mg ("law" : Str) = some (.ref (He.ga K "law")))
    (hb : ∀ (K : PySem.W.Frag) (fd : FuncData), FunD K "law" "law" (defArgs st) (defBody st) (defScope st) [] [] (He.ga K "law") fd → ∀ (s : Shared) (u : Value), BindsTo s fd ⟨[u], []⟩ [("script", u)])
    (ok : ∀ ns : List Int, ns.length ≤ n → (callK isa tab htab (k + 1)).run "law" [.scr ns] (fun _ => none) (fun y _ => y = .bl true) noX) :
    PySem.W.WalkO q loose XP (hookW nn b fn).says l.row.toRowW d [] (fun f vs => PySem.call f vs) := by
  refine Att.attach_call hn hdf fun w s0 s1 mg mb fa ob pm cd doc a vs ns TG ⟨K, KX, sd⟩ _ _ _ hmg hobj hi hlen hg => ?_
  have kw := fun (base : Heap) (X : K.In base) (Nb : base.Ns mainGlobals mg) => know K mg base X Nb sd
  have kn := know K mg _ KX TG.T.g sd
  rw [hname, kn.2] at hmg
  cases hmg
  obtain ⟨fd, FD⟩ := sd.fun_ hm
  refine law_callG (k := k + 1) (sp := spOf K mg ((callK isa tab htab (k + 1)).run "law")) KX TG.T.g TG.T.b TG.T.builtins TG.T.nolimit hg hobj hi (Nat.le_trans hlen hn2) hr
    (fun base X Nb => fn_step told (fn_level (kw base X Nb).1 told k) "law" ⟨st, ["script"], N, dl⟩ (He.ga K "law") fd ht ⟨_, _, FD⟩) (hb K fd FD) (fun H hO hS => ?_)
  · exact ⟨[.scr ns], fun _ => none, _, _, .cons (.scr (sq_scr hO hS)) .nil, rh_none, ok ns hlen, fun y v h' H' vr _ _ e => (by subst e; cases vr; rfl), fun e h' H' cls d' _ _ _ z => z.elim⟩
end WS

/-! WS16: plain lemmas for what the transformers do. -/
namespace WS
open PySem PySem.Spec L2

theorem run_of {isa : Str → Str → Option Bool} {tab htab : List (Str × DefT)} {k : Nat} {n : Str} {xs : List Val} {h : IH} {Q : KV} {E : XC} {d : DefT} (e : tab.lookup n = some d) (l : xs.length = d.ps.length) (z : d.ds (callK isa tab htab k) (topD (fgK Q) (fgX E)) (startR d.N xs) h) :
    (callK isa tab htab (k + 1)).run n xs h Q E := by
  show runT tab (callK isa tab htab k) n xs h Q E
  unfold runT
  rw [e]
  exact ⟨l, z⟩
theorem hot_of {isa : Str → Str → Option Bool} {tab htab : List (Str × DefT)} {k : Nat} {n : Str} {xs : List Val} {h : IH} {Q : KV} {E : XC} {d : DefT} (e : htab.lookup n = some d) (l : xs.length = d.ps.length) (z : d.ds (callK isa tab htab k) (topD (fgK Q) (fgX E)) (startR d.N xs) h) :
    (callK isa tab htab (k + 1)).hot n xs h Q E := by
  show runT htab (callK isa tab htab k) n xs h Q E
  unfold runT
  rw [e]
  exact ⟨l, z⟩
theorem put_put {h : IH} {a : Addr} {c d : Cell} : put (put h a c) a d = put h a d := by
  funext b
  unfold put
  split <;> rfl
theorem put_self {h : IH} {a : Addr} {c : Cell} (e : h a = some c) : put h a c = h := by
  funext b
  unfold put
  split
  · rename_i z; rw [z, e]
  · rfl
theorem put_comm {h : IH} {a b : Addr} {c d : Cell} (n : a ≠ b) : put (put h a c) b d = put (put h b d) a c := by
  funext x
  unfold put
  split
  · rename_i e
    rw [if_neg (fun z => n (z.symm.trans e))]
  · rfl

/-! ### loops -/
theorem SubR.trans {a b c : Rho} (x : SubR a b) (y : SubR b c) : SubR a c := ⟨x.1.trans y.1, fun i v e => y.2 i v (x.2 i v e)⟩
theorem wlN.forget {C : Calls} {t : DT} {b : DS} {D : SEnds} {n : Nat} {ρ ρ' : Rho} {h h' : IH} (z : wlN C t b D n ρ h) (sr : SubR ρ ρ') (sh : Sub h h') : wlN C t b D n ρ' h' := by
  cases n with
  | zero => exact z
  | succ n =>
    obtain ⟨ρ0, h0, s1, s2, q⟩ := z
    exact ⟨ρ0, h0, s1.trans sr, s2.trans sh, q⟩
theorem lpF_forget {C : Calls} {keep : IH → Prop} {g : DG} {b : DS} {D : SEnds} {xs : List Val} {ρ ρ' : Rho} {h h' : IH} (z : lpF C keep g b D xs ρ h) (sr : SubR ρ ρ') (sh : Sub h h') : lpF C keep g b D xs ρ' h' := by
  cases xs with
  | nil =>
    obtain ⟨ρ0, h0, s1, s2, q⟩ := z
    exact ⟨ρ0, h0, s1.trans sr, s2.trans sh, q⟩
  | cons x xs =>
    obtain ⟨ρ0, h0, s1, s2, q⟩ := z
    exact ⟨ρ0, h0, s1.trans sr, s2.trans sh, q⟩
theorem lpC_forget {C : Calls} {keep : IH → Prop} {g : DG} {t : DT} {e : DE} {ρ : Rho} {Q : List Val → IH → Prop} {xs acc : List Val} {h h' : IH} (z : lpC C keep g t e ρ Q xs acc h) (sh : Sub h h') : lpC C keep g t e ρ Q xs acc h' := by
  cases xs with
  | nil =>
    obtain ⟨h0, s2, q⟩ := z
    exact ⟨h0, s2.trans sh, q⟩
  | cons x xs =>
    obtain ⟨h0, s2, q⟩ := z
    exact ⟨h0, s2.trans sh, q⟩
theorem wl_by {C : Calls} {t : DT} {b : DS} {D : SEnds} (P : Rho → IH → Prop) (μ : Rho → IH → Nat)
    (step : ∀ ρ h (Q : Rho → IH → Prop), P ρ h → (∀ ρ1 h1 ρ' h', SubR ρ' ρ1 → Sub h' h1 → P ρ' h' → μ ρ' h' < μ ρ h → Q ρ1 h1) → t C ρ h (fun k h1 => match k with
      | true => b C { D with nx := Q, ct := Q, bk := D.nx } ρ h1
      | false => D.nx ρ h1) (D.ex ρ)) {ρ : Rho} {h : IH} (h0 : P ρ h) : sWhile t b C D ρ h := by
  have go : ∀ n ρ h, P ρ h → μ ρ h < n → wlN C t b D n ρ h := by
    intro n
    induction n with
    | zero => intro ρ h _ z; exact absurd z (Nat.not_lt_zero _)
    | succ n ih =>
      intro ρ h p z
      exact ⟨ρ, h, .refl, .refl, step ρ h (wlN C t b D n) p fun ρ1 h1 ρ' h' sr sh p' l => (ih ρ' h' p' (by omega)).forget sr sh⟩
  exact ⟨μ ρ h + 1, go _ ρ h h0 (Nat.lt_succ_self _)⟩
theorem lp_by {C : Calls} {keep : IH → Prop} {g : DG} {b : DS} {D : SEnds} {its : List Val} (P : Nat → Rho → IH → Prop)
    (step : ∀ i x ρ h (Q : Rho → IH → Prop), its[i]? = some x → P i ρ h → (∀ ρ1 h1 ρ' h', SubR ρ' ρ1 → Sub h' h1 → P (i + 1) ρ' h' → Q ρ1 h1) → keep h ∧ g C x ρ h (fun ρ1 h1 => b C { D with nx := Q, ct := Q, bk := D.nx } ρ1 h1) noX)
    (fin : ∀ ρ h, P its.length ρ h → keep h ∧ D.nx ρ h) {ρ : Rho} {h : IH} (h0 : P 0 ρ h) : lpF C keep g b D its ρ h := by
  have go : ∀ (n i : Nat) ρ h, i + n = its.length → P i ρ h → lpF C keep g b D (its.drop i) ρ h := by
    intro n
    induction n with
    | zero =>
      intro i ρ h e p
      rw [List.drop_eq_nil_of_le (by omega)]
      have e' : i = its.length := by omega
      subst e'
      exact ⟨ρ, h, .refl, .refl, fin ρ h p⟩
    | succ n ih =>
      intro i ρ h e p
      have hl : i < its.length := by omega
      rw [List.drop_eq_getElem_cons hl]
      exact ⟨ρ, h, .refl, .refl, step i its[i] ρ h _ (List.getElem?_eq_getElem hl) p fun ρ1 h1 ρ' h' sr sh p' => lpF_forget (ih (i + 1) ρ' h' (by omega) p') sr sh⟩
  exact go its.length 0 ρ h (by omega) h0
theorem lc_by {C : Calls} {keep : IH → Prop} {g : DG} {t : DT} {e : DE} {ρ : Rho} {Q : List Val → IH → Prop} {its : List Val} (P : Nat → List Val → IH → Prop)
    (step : ∀ i x acc h (R : List Val → IH → Prop), its[i]? = some x → P i acc h → (∀ acc' h1 h', Sub h' h1 → P (i + 1) acc' h' → R acc' h1) → keep h ∧ g C x ρ h (fun ρ2 h2 => t C ρ2 h2 (fun b h3 => match b with
      | true => e C ρ2 h3 (fun y h4 => plain y = true ∧ acc.length < sizeLine ∧ R (acc ++ [y]) h4) noX
      | false => R acc h3) noX) noX)
    (fin : ∀ acc h, P its.length acc h → keep h ∧ Q acc h) {h : IH} (h0 : P 0 [] h) : lpC C keep g t e ρ Q its [] h := by
  have go : ∀ (n i : Nat) acc h, i + n = its.length → P i acc h → lpC C keep g t e ρ Q (its.drop i) acc h := by
    intro n
    induction n with
    | zero =>
      intro i acc h e p
      rw [List.drop_eq_nil_of_le (by omega)]
      have e' : i = its.length := by omega
      subst e'
      exact ⟨h, .refl, fin acc h p⟩
    | succ n ih =>
      intro i acc h e p
      have hl : i < its.length := by omega
      rw [List.drop_eq_getElem_cons hl]
      exact ⟨h, .refl, step i its[i] acc h _ (List.getElem?_eq_getElem hl) p fun acc' h1 h' sh p' => lpC_forget (ih (i + 1) acc' h' (by omega) p') sh⟩
  exact go its.length 0 [] h (by omega) h0

/-! ### sizes -/
/-- less than B bits -/
def Bd (B : Nat) (i : Int) : Prop := i.natAbs < 2 ^ B
theorem Bd.mono {B B' : Nat} {i : Int} (h : Bd B i) (l : B ≤ B') : Bd B' i := Nat.lt_of_lt_of_le h (Nat.pow_le_pow_right (by omega) l)
theorem Bd.log {B : Nat} {i : Int} (h : Bd B i) : i.natAbs.log2 ≤ B := by
  by_cases z : i.natAbs = 0
  · rw [z]; simp
  · have := (Nat.log2_lt z).mpr h
    omega
theorem Bd.mul {A B : Nat} {i j : Int} (a : Bd A i) (b : Bd B j) : Bd (A + B) (i * j) := by
  unfold Bd at *
  rw [Int.natAbs_mul, Nat.pow_add]
  exact Nat.mul_lt_mul'' a b
theorem Bd.add {A : Nat} {i j : Int} (a : Bd A i) (b : Bd A j) : Bd (A + 1) (i + j) := by
  unfold Bd at *
  have := Int.natAbs_add_le i j
  rw [Nat.pow_succ]
  omega
theorem Bd.neg {A : Nat} {i : Int} (a : Bd A i) : Bd A (-i) := by
  unfold Bd at *
  rw [Int.natAbs_neg]; exact a
theorem Bd.sub {A : Nat} {i j : Int} (a : Bd A i) (b : Bd A j) : Bd (A + 1) (i - j) := by
  rw [Int.sub_eq_add_neg]; exact a.add b.neg
theorem Bd.le {A : Nat} {i j : Int} (a : Bd A i) (h : j.natAbs ≤ i.natAbs) : Bd A j := Nat.lt_of_le_of_lt h a
theorem Bd.div {A : Nat} {i j : Int} (a : Bd A i) (h : 0 < j) : Bd A (i / j) := by
  refine a.le ?_
  have := Int.natAbs_ediv_le_natAbs i j
  exact this
theorem Bd.mulOk {A B : Nat} {i j : Int} (a : Bd A i) (b : Bd B j) (h : A + B < 100000000) : WS.mulOk i j := by
  unfold WS.mulOk
  have := a.log; have := b.log
  omega
theorem Bd.divOk {B : Nat} {j : Int} (b : Bd B j) (h : B < 9000) : WS.divOk j := by
  unfold WS.divOk
  have := b.log
  omega
theorem Bd.lit {B : Nat} {i : Int} (h : i.natAbs < 2 ^ B) : Bd B i := h
theorem bd_of_lt {B : Nat} {i : Int} (h0 : 0 ≤ i) (h : i < 2 ^ B) : Bd B i := by
  unfold Bd
  have e : ((2 ^ B : Nat) : Int) = 2 ^ B := by simp
  omega

/-! ### parts: fractions in lowest terms -/
theorem gcd_mod (x y : Int) : Int.gcd y (x % y) = Int.gcd x y := by
  have e := Int.gcd_add_mul_left_right y (x % y) (x / y)
  rw [Int.emod_add_mul_ediv] at e
  rw [← e, Int.gcd_comm]
/-- in lowest terms, as the text finds it -/
def low (a b : Int) : Int × Int := (a / (Int.gcd a b : Int), b / (Int.gcd a b : Int))
abbrev pt (p : Int × Int) : Val := .tup [.int p.1, .int p.2]
def padd (p q : Int × Int) : Int × Int := low (p.1 * q.2 + q.1 * p.2) (p.2 * q.2)
/-- a part: its below above nought, nothing in common -/
structure Pt (p : Int × Int) : Prop where
  pos : 0 < p.2
  cop : Int.gcd p.1 p.2 = 1
theorem gcd_pos {a b : Int} (hb : 0 < b) : 0 < (Int.gcd a b : Int) := by
  have := Int.gcd_pos_of_ne_zero_right a (b := b) (by omega)
  omega
theorem low1 (a b : Int) : (low a b).1 * (Int.gcd a b : Int) = a := Int.ediv_mul_cancel (Int.gcd_dvd_left a b)
theorem low2 (a b : Int) : (low a b).2 * (Int.gcd a b : Int) = b := Int.ediv_mul_cancel (Int.gcd_dvd_right a b)
theorem low_pt {a b : Int} (hb : 0 < b) : Pt (low a b) := by
  have g := gcd_pos (a := a) hb
  refine ⟨Int.ediv_pos_of_pos_of_dvd hb (by omega) (Int.gcd_dvd_right a b), ?_⟩
  show Int.gcd (a / _) (b / _) = 1
  rw [Int.gcd_ediv (Int.gcd_dvd_left a b) (Int.gcd_dvd_right a b)]
  have e : ((Int.gcd a b : Int)).natAbs = Int.gcd a b := by omega
  rw [e]
  exact Nat.div_self (by omega)
theorem cop_dvd {a b c : Int} (h : Int.gcd a b = 1) (d : a ∣ b * c) : a ∣ c := by
  have e := Int.gcd_mul_right_right_of_gcd_eq_one (k := c) h
  rw [Int.gcd_eq_natAbs_left_iff_dvd.mpr d] at e
  exact Int.gcd_eq_natAbs_left_iff_dvd.mp e.symm
theorem low_uniq {a b c d : Int} (hb : 0 < b) (hd : 0 < d) (hc : Int.gcd c d = 1) (e : a * d = c * b) : low a b = (c, d) := by
  have g := gcd_pos (a := a) hb
  have l1 := low1 a b
  have l2 := low2 a b
  have P := low_pt (a := a) hb
  generalize low a b = r at *
  obtain ⟨p, q⟩ := r
  obtain ⟨hq, hp⟩ := P
  simp only at l1 l2 hq hp
  have e1 : p * d = c * q := by
    refine Int.eq_of_mul_eq_mul_right (a := (Int.gcd a b : Int)) (by omega) ?_
    calc p * d * (Int.gcd a b : Int) = (p * (Int.gcd a b : Int)) * d := by rw [Int.mul_right_comm]
      _ = c * b := by rw [l1, e]
      _ = c * q * (Int.gcd a b : Int) := by rw [Int.mul_assoc, l2]
  have d1 : q ∣ d := cop_dvd (b := p) (by rw [Int.gcd_comm]; exact hp) ⟨c, by rw [e1, Int.mul_comm]⟩
  have d2 : d ∣ q := cop_dvd (b := c) (by rw [Int.gcd_comm]; exact hc) ⟨p, by rw [← e1, Int.mul_comm]⟩
  have e2 : q = d := Int.dvd_antisymm (by omega) (by omega) d1 d2
  subst e2
  have e3 : p = c := Int.eq_of_mul_eq_mul_right (by omega) e1
  rw [e3]
theorem low_self {p : Int × Int} (h : Pt p) : low p.1 p.2 = p := low_uniq h.pos h.pos h.cop rfl
theorem low_cross (a b : Int) : (low a b).1 * b = a * (low a b).2 := by
  have l1 := low1 a b
  have l2 := low2 a b
  generalize low a b = r at *
  obtain ⟨p, q⟩ := r
  simp only at l1 l2 ⊢
  calc p * b = p * (q * (Int.gcd a b : Int)) := by rw [l2]
    _ = (p * (Int.gcd a b : Int)) * q := by rw [Int.mul_assoc, Int.mul_comm (Int.gcd a b : Int) q]
    _ = a * q := by rw [l1]
theorem padd_comm (p q : Int × Int) : padd p q = padd q p := by
  unfold padd
  rw [Int.add_comm, Int.mul_comm p.2 q.2]
theorem padd_pt {p q : Int × Int} (hp : Pt p) (hq : Pt q) : Pt (padd p q) := low_pt (Int.mul_pos hp.pos hq.pos)
theorem padd_zero {p : Int × Int} (hp : Pt p) : padd (0, 1) p = p := by
  unfold padd
  simp only [Int.zero_mul, Int.mul_one, Int.one_mul, Int.zero_add]
  exact low_self hp
theorem low_bd1 {A : Nat} {a b : Int} (h : Bd A a) (hb : 0 < b) : Bd A (low a b).1 := h.div (gcd_pos hb)
theorem low_bd2 {A : Nat} {a b : Int} (h : Bd A b) (hb : 0 < b) : Bd A (low a b).2 := h.div (gcd_pos hb)
/-- both less than so many bits -/
structure PB (B : Nat) (p : Int × Int) : Prop where
  a : Bd B p.1
  b : Bd B p.2
theorem PB.mono {B B' : Nat} {p : Int × Int} (h : PB B p) (l : B ≤ B') : PB B' p := ⟨h.a.mono l, h.b.mono l⟩
theorem low_pb {B : Nat} {a b : Int} (h : Bd B a) (h' : Bd B b) (hb : 0 < b) : PB B (low a b) := ⟨low_bd1 h hb, low_bd2 h' hb⟩
theorem padd_pb {A B : Nat} {p q : Int × Int} (hp : PB A p) (hq : PB B q) (p1 : Pt p) (q1 : Pt q) : PB (A + B + 1) (padd p q) :=
  low_pb ((hp.a.mul hq.b).add ((hq.a.mul hp.b).mono (by omega))) ((hp.b.mul hq.b).mono (by omega)) (Int.mul_pos p1.pos q1.pos)

/-! ### equality of plain values -/
theorem vEq_int {i j : Int} {h : IH} {Q : KV} : vEq (.int i) (.int j) h Q = Q (.bl (decide (i = j))) h := rfl
theorem vNe_int {i j : Int} {h : IH} {Q : KV} : vNe (.int i) (.int j) h Q = Q (.bl (!decide (i = j))) h := rfl
theorem vEq_str {i j : Str} {h : IH} {Q : KV} : vEq (.str i) (.str j) h Q = Q (.bl (decide (i = j))) h := rfl
theorem vNe_str {i j : Str} {h : IH} {Q : KV} : vNe (.str i) (.str j) h Q = Q (.bl (!decide (i = j))) h := rfl
theorem vEq_bl {i j : Bool} {h : IH} {Q : KV} : vEq (.bl i) (.bl j) h Q = Q (.bl (decide (i = j))) h := rfl
theorem vNe_bl {i j : Bool} {h : IH} {Q : KV} : vNe (.bl i) (.bl j) h Q = Q (.bl (!decide (i = j))) h := rfl
theorem eqD_pt (p : Int × Int) (h : IH) : eqD (pt p) (pt p) h = some true := by
  unfold eqD eqF dat datL
  simp [dat, datL, PyData.eqv, PyData.eqvAll]
theorem vEq_pt {p : Int × Int} {h : IH} {Q : KV} : vEq (pt p) (pt p) h Q = Q (.bl true) h := by
  unfold vEq
  rw [eqD_pt]
/-! ### heaps: what is looked up, what is forgotten -/
theorem put_ne' {h : IH} {a b : Addr} {c d : Cell} (n : b ≠ a) (e : h b = some d) : put h a c b = some d := by rw [put_ne n]; exact e
theorem ne_none {h : IH} {a p : Addr} {c : Cell} (e : h a = some c) (n : h p = none) : a ≠ p := fun z => by rw [z, n] at e; cases e
theorem put_none {h : IH} {a p : Addr} {c : Cell} (n : put h a c p = none) : p ≠ a ∧ h p = none := by
  unfold put at n
  split at n
  · cases n
  · exact ⟨by assumption, n⟩
def SubX (ks : List Addr) (h2 h : IH) : Prop := ∀ b c, b ∉ ks → h2 b = some c → h b = some c
theorem SubX.refl {ks : List Addr} {h : IH} : SubX ks h h := fun _ _ _ e => e
theorem Sub.of {h2 h : IH} (s : SubX [] h2 h) : Sub h2 h := fun b c e => s b c (List.not_mem_nil) e
theorem SubX.l {ks : List Addr} {h2 h : IH} {a : Addr} {c : Cell} (e : h a = some c) (s : SubX (a :: ks) h2 h) : SubX ks (put h2 a c) h := fun b d n q => by
  unfold put at q
  split at q
  · rename_i z
    subst z
    cases q
    exact e
  · rename_i z
    exact s b d (fun m => (List.mem_cons.mp m).elim z n) q
theorem SubX.r {ks : List Addr} {h2 h : IH} {a : Addr} {c : Cell} (e : a ∈ ks) (s : SubX ks h2 h) : SubX ks h2 (put h a c) := fun b d n q => by
  rw [put_ne (fun z => n (by rw [z]; exact e))]
  exact s b d n q
theorem SubX.r0 {ks : List Addr} {h2 h : IH} {a : Addr} {c : Cell} (s : SubX (a :: ks) h2 h) : SubX (a :: ks) h2 (put h a c) := s.r (by simp)
theorem SubX.r1 {ks : List Addr} {h2 h : IH} {a b : Addr} {c : Cell} (s : SubX (b :: a :: ks) h2 h) : SubX (b :: a :: ks) h2 (put h a c) := s.r (by simp)
theorem SubX.r2 {ks : List Addr} {h2 h : IH} {a b b2 : Addr} {c : Cell} (s : SubX (b2 :: b :: a :: ks) h2 h) : SubX (b2 :: b :: a :: ks) h2 (put h a c) := s.r (by simp)
theorem SubX.r3 {ks : List Addr} {h2 h : IH} {a b b2 b3 : Addr} {c : Cell} (s : SubX (b3 :: b2 :: b :: a :: ks) h2 h) : SubX (b3 :: b2 :: b :: a :: ks) h2 (put h a c) := s.r (by simp)
theorem SubX.n {ks : List Addr} {h2 h : IH} {a : Addr} {c : Cell} (e : h2 a = none) (s : SubX ks h2 h) : SubX ks h2 (put h a c) := fun b d n q => by
  rw [put_ne (fun z => by rw [z, e] at q; cases q)]
  exact s b d n q
theorem SubR.of {ρ' ρ : Rho} (l : ρ'.length = ρ.length) (e : ∀ p ∈ ρ'.zip ρ, p.1 = none ∨ p.1 = p.2) : SubR ρ' ρ := by
  refine ⟨l, fun i x q => ?_⟩
  obtain ⟨hi, q2⟩ := List.getElem?_eq_some_iff.mp q
  have hz : (ρ'.zip ρ)[i]? = some (some x, ρ[i]'(by omega)) := by
    rw [List.getElem?_zip_eq_some]
    exact ⟨q, List.getElem?_eq_getElem _⟩
  rcases e _ (List.mem_of_getElem? hz) with z | z
  · cases z
  · rw [List.getElem?_eq_getElem (by omega)]
    exact congrArg some z.symm
theorem SubR.nil : SubR [] [] := .refl
theorem SubR.s {x : Option Val} {r r' : Rho} (s : SubR r' r) : SubR (x :: r') (x :: r) := ⟨congrArg Nat.succ s.1, fun i y e => match i, e with
  | 0, e => e
  | i + 1, e => s.2 i y e⟩
theorem SubR.f {x : Option Val} {r r' : Rho} (s : SubR r' r) : SubR (none :: r') (x :: r) := ⟨congrArg Nat.succ s.1, fun i y e => match i, e with
  | 0, e => by simp at e
  | i + 1, e => s.2 i y e⟩
theorem fg {Q : KV} {y : Val} {h h' : IH} (s : Sub h' h) (q : Q y h') : fgK Q y h := ⟨h', s, q⟩
theorem fgx {E : XC} {e : Exc} {h h' : IH} (s : Sub h' h) (q : E e h') : fgX E e h := ⟨h', s, q⟩

/-! ### pots -/
/-- two whole numbers behind a pot -/
structure PotB (x y : Int) : Prop where
  x : 0 ≤ x
  y0 : 0 ≤ y
  y : y < 2 ^ 32
abbrev potC (x y : Int) : Cell := .lst [.int x, .int y]
/-- the pot at a has gone on, what stood elsewhere stands -/
structure Ev (h : IH) (a : Addr) (h' : IH) : Prop where
  pot : ∃ x y, h' a = some (potC x y) ∧ PotB x y
  fr : ∀ b c, b ≠ a → h b = some c → h' b = some c
theorem Ev.get {h h' : IH} {a b : Addr} {c : Cell} (e : Ev h a h') (n : b ≠ a) (z : h b = some c) : h' b = some c := e.fr b c n z
theorem Ev.tr {ks : List Addr} {h g h' : IH} {a : Addr} (e : Ev g a h') (s : SubX (a :: ks) h g) : SubX (a :: ks) h h' := fun b c n q => e.fr b c (fun z => n (by rw [z]; exact List.mem_cons_self)) (s b c n q)
theorem Ev.mk' {h h' : IH} {a : Addr} {x y : Int} (e : h' a = some (potC x y)) (b : PotB x y) (s : SubX [a] h h') : Ev h a h' := ⟨⟨x, y, e, b⟩, fun d c n z => s d c (by simpa using n) z⟩

/-! ### items of written rows -/
theorem pyAt_0 {x0 : Val} {r : List Val} : pyAt (x0 :: r) 0 = some x0 := rfl
theorem pyAt_1 {x0 x1 : Val} {r : List Val} : pyAt (x0 :: x1 :: r) 1 = some x1 := rfl
theorem pyAt_2 {x0 x1 x2 : Val} {r : List Val} : pyAt (x0 :: x1 :: x2 :: r) 2 = some x2 := rfl
theorem pyAt_3 {x0 x1 x2 x3 : Val} {r : List Val} : pyAt (x0 :: x1 :: x2 :: x3 :: r) 3 = some x3 := rfl
theorem pyAt_4 {x0 x1 x2 x3 x4 : Val} {r : List Val} : pyAt (x0 :: x1 :: x2 :: x3 :: x4 :: r) 4 = some x4 := rfl
theorem pyAt_5 {x0 x1 x2 x3 x4 x5 : Val} {r : List Val} : pyAt (x0 :: x1 :: x2 :: x3 :: x4 :: x5 :: r) 5 = some x5 := rfl
theorem pyAt_6 {x0 x1 x2 x3 x4 x5 x6 : Val} {r : List Val} : pyAt (x0 :: x1 :: x2 :: x3 :: x4 :: x5 :: x6 :: r) 6 = some x6 := rfl
theorem pyAt_7 {x0 x1 x2 x3 x4 x5 x6 x7 : Val} {r : List Val} : pyAt (x0 :: x1 :: x2 :: x3 :: x4 :: x5 :: x6 :: x7 :: r) 7 = some x7 := rfl
theorem pyAt_8 {x0 x1 x2 x3 x4 x5 x6 x7 x8 : Val} {r : List Val} : pyAt (x0 :: x1 :: x2 :: x3 :: x4 :: x5 :: x6 :: x7 :: x8 :: r) 8 = some x8 := rfl
theorem pyAt_9 {x0 x1 x2 x3 x4 x5 x6 x7 x8 x9 : Val} {r : List Val} : pyAt (x0 :: x1 :: x2 :: x3 :: x4 :: x5 :: x6 :: x7 :: x8 :: x9 :: r) 9 = some x9 := rfl
theorem pyAt_10 {x0 x1 x2 x3 x4 x5 x6 x7 x8 x9 x10 : Val} {r : List Val} : pyAt (x0 :: x1 :: x2 :: x3 :: x4 :: x5 :: x6 :: x7 :: x8 :: x9 :: x10 :: r) 10 = some x10 := rfl
theorem pyAt_11 {x0 x1 x2 x3 x4 x5 x6 x7 x8 x9 x10 x11 : Val} {r : List Val} : pyAt (x0 :: x1 :: x2 :: x3 :: x4 :: x5 :: x6 :: x7 :: x8 :: x9 :: x10 :: x11 :: r) 11 = some x11 := rfl
theorem pyAt_12 {x0 x1 x2 x3 x4 x5 x6 x7 x8 x9 x10 x11 x12 : Val} {r : List Val} : pyAt (x0 :: x1 :: x2 :: x3 :: x4 :: x5 :: x6 :: x7 :: x8 :: x9 :: x10 :: x11 :: x12 :: r) 12 = some x12 := rfl
theorem pyAt_13 {x0 x1 x2 x3 x4 x5 x6 x7 x8 x9 x10 x11 x12 x13 : Val} {r : List Val} : pyAt (x0 :: x1 :: x2 :: x3 :: x4 :: x5 :: x6 :: x7 :: x8 :: x9 :: x10 :: x11 :: x12 :: x13 :: r) 13 = some x13 := rfl
theorem pyAt_14 {x0 x1 x2 x3 x4 x5 x6 x7 x8 x9 x10 x11 x12 x13 x14 : Val} {r : List Val} : pyAt (x0 :: x1 :: x2 :: x3 :: x4 :: x5 :: x6 :: x7 :: x8 :: x9 :: x10 :: x11 :: x12 :: x13 :: x14 :: r) 14 = some x14 := rfl
theorem pyAt_15 {x0 x1 x2 x3 x4 x5 x6 x7 x8 x9 x10 x11 x12 x13 x14 x15 : Val} {r : List Val} : pyAt (x0 :: x1 :: x2 :: x3 :: x4 :: x5 :: x6 :: x7 :: x8 :: x9 :: x10 :: x11 :: x12 :: x13 :: x14 :: x15 :: r) 15 = some x15 := rfl
theorem pyAt_16 {x0 x1 x2 x3 x4 x5 x6 x7 x8 x9 x10 x11 x12 x13 x14 x15 x16 : Val} {r : List Val} : pyAt (x0 :: x1 :: x2 :: x3 :: x4 :: x5 :: x6 :: x7 :: x8 :: x9 :: x10 :: x11 :: x12 :: x13 :: x14 :: x15 :: x16 :: r) 16 = some x16 := rfl
theorem pyAt_17 {x0 x1 x2 x3 x4 x5 x6 x7 x8 x9 x10 x11 x12 x13 x14 x15 x16 x17 : Val} {r : List Val} : pyAt (x0 :: x1 :: x2 :: x3 :: x4 :: x5 :: x6 :: x7 :: x8 :: x9 :: x10 :: x11 :: x12 :: x13 :: x14 :: x15 :: x16 :: x17 :: r) 17 = some x17 := rfl
theorem topD_nx {Q : KV} {E : XC} {ρ : Rho} {h : IH} : (topD Q E).nx ρ h = Q .non h := rfl
theorem topD_rt {Q : KV} {E : XC} : (topD Q E).rt = Q := rfl
theorem topD_bk {Q : KV} {E : XC} {ρ : Rho} {h : IH} : (topD Q E).bk ρ h = False := rfl
theorem topD_ct {Q : KV} {E : XC} {ρ : Rho} {h : IH} : (topD Q E).ct ρ h = False := rfl
theorem topD_ex {Q : KV} {E : XC} {ρ : Rho} : (topD Q E).ex ρ = E := rfl

/-! ### all([.. for k in range(..)]) -/
theorem allAs_bl : ∀ bs : List Bool, allAs asBool (bs.map Val.bl) = some bs
  | [] => rfl
  | b :: r => by
    rw [List.map_cons]
    unfold allAs
    rw [allAs_bl r]
    rfl
theorem bAll_of {h : IH} {a : Addr} {bs : List Bool} {Q : KV} (e : h a = some (.lst (bs.map Val.bl))) (q : Q (.bl (bs.all id)) h) : bAll [.ref a] h Q := by
  unfold bAll IH.seq
  simp only [e, allAs_bl]
  exact q
theorem bAny_of {h : IH} {a : Addr} {bs : List Bool} {Q : KV} (e : h a = some (.lst (bs.map Val.bl))) (q : Q (.bl (bs.any id)) h) : bAny [.ref a] h Q := by
  unfold bAny IH.seq
  simp only [e, allAs_bl]
  exact q
theorem upTo_len {lo : Int} {n : Nat} : (upTo lo n).length = n := by unfold upTo; simp
theorem upTo_get {lo : Int} {n i : Nat} {x : Val} (h : (upTo lo n)[i]? = some x) : i < n ∧ x = .int (lo + i) := by
  have hi := (List.getElem?_eq_some_iff.mp h).1
  rw [upTo_len] at hi
  unfold upTo at h
  rw [List.getElem?_map, List.getElem?_range hi] at h
  exact ⟨hi, (Option.some.inj h).symm⟩
/-- each turn tells True, nothing that it made is told of behind it -/
theorem law_turns {C : Calls} {j n : Nat} {e : DE} {ρ : Rho} {Q : KV} (hn : n ≤ 1000) (step : ∀ (i : Nat) (R : KV), i < n → (∀ h', R (.bl true) h') → e C (ρ.set j (some (.int i))) (fun _ => none) R noX) (q : ∀ h, Q (.bl true) h) :
    lpC C (fun _ => True) (gN j) tYes' e ρ (fun acc h2 => ∀ p, h2 p = none → bAll [.ref p] (put h2 p (.lst acc)) Q) (upTo 0 n) [] (fun _ => none) := by
  refine lc_by (fun i acc h => h = (fun _ => none) ∧ acc = (List.replicate i true).map Val.bl) ?_ ?_ ⟨rfl, rfl⟩
  · rintro i x acc h R hx ⟨rfl, rfl⟩ hR
    obtain ⟨hi, rfl⟩ := upTo_get hx
    refine ⟨trivial, ?_⟩
    show e C (ρ.set j (some (.int (0 + i)))) (fun _ => none) _ noX
    rw [Int.zero_add]
    refine step i _ hi fun h' => ⟨rfl, ?_, ?_⟩
    · rw [List.length_map, List.length_replicate]
      show i < 2 ^ 24
      omega
    · refine hR _ _ (fun _ => none) (fun _ _ e => nomatch e) ⟨rfl, ?_⟩
      rw [List.replicate_succ', List.map_append]
      rfl
  · rintro acc h ⟨rfl, rfl⟩
    refine ⟨trivial, fun p _ => bAll_of put_same ?_⟩
    have z : (List.replicate (upTo 0 n).length true).all id = true := by simp
    rw [z]
    exact q _
/-- a list that is read -/
theorem seq_of {h : IH} {a : Addr} {xs : List Val} (e : h a = some (.lst xs)) : h.seq a = some xs := by
  unfold IH.seq
  rw [e]
theorem seq_put {h : IH} {a : Addr} {xs : List Val} : (put h a (.lst xs)).seq a = some xs := seq_of put_same
theorem m_seq {h : IH} {a : Addr} {xs : List Val} {R : List Val → Prop} (e : h a = some (.lst xs)) (z : R xs) : match h.seq a with
    | some xs => R xs
    | none => False := by
  rw [seq_of e]
  exact z

/-! ### plain values, truth -/
theorem plains_nil : plains [] = true := rfl
theorem plains_cons {x : Val} {xs : List Val} : plains (x :: xs) = (plain x && plains xs) := rfl
theorem plain_int {i : Int} : plain (.int i) = true := rfl
theorem plain_bl {i : Bool} : plain (.bl i) = true := rfl
theorem plain_str {i : Str} : plain (.str i) = true := rfl
theorem plain_non : plain .non = true := rfl
theorem plain_ref {i : Addr} : plain (.ref i) = true := rfl
theorem plain_tup {i : List Val} : plain (.tup i) = true := rfl
theorem plain_ty {i : String} : plain (.ty i) = true := rfl
theorem plain_glob {i : Str} : plain (.glob i) = true := rfl
theorem plain_scr {i : List Int} : plain (.scr i) = true := rfl
theorem plain_exc {c : Str} {ns : List Str} {vs : List Val} : plain (.exc c ns vs) = false := rfl
theorem truth_bl {b : Bool} {h : IH} : vTruth (.bl b) h = some b := rfl
theorem truth_non {h : IH} : vTruth .non h = some false := rfl
theorem truth_int {i : Int} {h : IH} : vTruth (.int i) h = some (i != 0) := rfl
/-- two lists, one behind the other -/
theorem m_add {o1 o2 : Option Cell} {xs ys : List Val} {R : List Val → List Val → Prop} (e1 : o1 = some (.lst xs)) (e2 : o2 = some (.lst ys)) (z : R xs ys) : match (generalizing := false) o1, o2 with
    | some (.lst xs), some (.lst ys) => R xs ys
    | _, _ => False := by
  subst e1
  subst e2
  exact z
end WS

/-! WS17: data, their texts. -/
namespace WS
open PySem PySem.Spec L2

mutual
/-- no text of a datum is longer -/
def cost : PyData → Nat
  | .none => 5
  | .bool _ => 5
  | .int _ => 1921
  | .str s => 10 * s.length + 2
  | .list ds => costAll ds + 3
  | .tuple ds => costAll ds + 3
  | .dict _ => 0
def costAll : List PyData → Nat
  | [] => 0
  | d :: ds => cost d + 2 + costAll ds
end
theorem shownAll_len : ∀ ds : List PyData, (PyData.shownAll ds).length = ds.length
  | [] => rfl
  | d :: ds => congrArg Nat.succ (shownAll_len ds)
theorem strOk_lt {s : Str} (h : PyData.strOk s = true) : ∀ c ∈ s.cps.toList, c < 16 ^ 8 := by
  intro c hc
  unfold PyData.strOk at h
  rw [Array.all_eq_true] at h
  obtain ⟨i, hi, rfl⟩ := List.mem_iff_getElem.mp hc
  have z := h i (by simpa using hi)
  simp only [decide_eq_true_eq] at z
  have e : s.cps.toList[i] = s.cps[i]'(by simpa using hi) := by simp
  rw [e]
  omega
mutual
theorem shown_le : ∀ d : PyData, d.showable = true → d.canLay0 = true → d.shown.length ≤ cost d
  | .none, _, _ => by decide +kernel
  | .bool b, _, _ => by cases b <;> decide +kernel
  | .int i, h, _ => PyProof.Rows.int_text_len_1921 (by simpa [PyData.showable] using h)
  | .str s, _, h => StrLaws.reprText_len s (strOk_lt (by simpa [PyData.canLay0] using h))
  | .list ds, h, k => by
    have a := listText_len_le (PyData.shownAll ds)
    have b := shownAll_le ds (by simpa [PyData.showable] using h) (by simpa [PyData.canLay0] using k)
    rw [shownAll_len] at a
    simp only [PyData.shown, cost]
    omega
  | .tuple ds, h, k => by
    have a := tupleText_len_le (PyData.shownAll ds)
    have b := shownAll_le ds (by simpa [PyData.showable] using h) (by simpa [PyData.canLay0] using k)
    rw [shownAll_len] at a
    simp only [PyData.shown, cost]
    omega
  | .dict _, _, k => by simp [PyData.canLay0] at k
theorem shownAll_le : ∀ ds : List PyData, PyData.showableAll ds = true → PyData.canLayAll0 ds = true → ((PyData.shownAll ds).map (·.length)).sum + 2 * ds.length ≤ costAll ds
  | [], _, _ => Nat.le_refl _
  | d :: ds, h, k => by
    simp only [PyData.showableAll, Bool.and_eq_true] at h
    simp only [PyData.canLayAll0, Bool.and_eq_true] at k
    have a := shown_le d h.1 k.1
    have b := shownAll_le ds h.2 k.2
    simp only [PyData.shownAll, List.map_cons, List.sum_cons, costAll, List.length_cons]
    omega
end
theorem costAll_map {α : Type} {f : α → PyData} {c : Nat} : ∀ {xs : List α}, (∀ x ∈ xs, cost (f x) ≤ c) → costAll (xs.map f) ≤ xs.length * (c + 2)
  | [], _ => Nat.zero_le _
  | x :: xs, h => by
    have a := h x (by simp)
    have b := costAll_map (f := f) (c := c) (xs := xs) fun y hy => h y (by simp [hy])
    rw [List.map_cons, List.length_cons, Nat.succ_mul]
    simp only [costAll]
    omega
theorem showAll_map {α : Type} {f : α → PyData} : ∀ {xs : List α}, (∀ x ∈ xs, (f x).showable = true) → PyData.showableAll (xs.map f) = true
  | [], _ => rfl
  | x :: xs, h => by
    rw [List.map_cons]
    simp only [PyData.showableAll, Bool.and_eq_true]
    exact ⟨h x (by simp), showAll_map fun y hy => h y (by simp [hy])⟩
theorem datL_map {α : Type} {f : Val → Option PyData} {g : α → Val} {e : α → PyData} : ∀ {xs : List α}, (∀ x ∈ xs, f (g x) = some (e x)) → datL f (xs.map g) = some (xs.map e)
  | [], _ => rfl
  | x :: xs, h => by
    rw [List.map_cons, List.map_cons]
    unfold datL
    rw [h x (by simp), datL_map fun y hy => h y (by simp [hy])]
/-- repr of a datum -/
theorem bRepr_of {x : Val} {d : PyData} {h : IH} {Q : KV} (e : dat h 8 x = some d) (s : d.showable = true) (c : cost d ≤ 16000000) (q : Q (.str d.shown) h) : bRepr [x] h Q := by
  unfold bRepr
  simp only [e]
  have k := shown_le d s (dat_ok h 8 x d e).1
  refine ⟨s, Nat.le_trans k (Nat.le_trans c ?_), q⟩
  show 16000000 ≤ 2 ^ 24
  decide
/-- a part as a datum -/
def dpt (p : Int × Int) : PyData := .tuple [.int p.1, .int p.2]
theorem dat_pt {h : IH} {n : Nat} {p : Int × Int} : dat h (n + 2) (pt p) = some (dpt p) := rfl
theorem Bd.show {B : Nat} {i : Int} (b : Bd B i) (h : B < 1920) : (PyData.int i).showable = true := by
  have := b.log
  simp only [PyData.showable, decide_eq_true_eq]
  omega
theorem dpt_show {B : Nat} {p : Int × Int} (b : PB B p) (h : B < 1920) : (dpt p).showable = true := by
  unfold dpt
  simp only [PyData.showable, PyData.showableAll, Bool.and_true, Bool.and_eq_true]
  exact ⟨b.a.show h, b.b.show h⟩
theorem dpt_cost {p : Int × Int} : cost (dpt p) = 3849 := rfl
theorem bRepr_pt {B : Nat} {p : Int × Int} {h : IH} {Q : KV} (b : PB B p) (hB : B < 1920) (q : Q (.str (dpt p).shown) h) : bRepr [pt p] h Q :=
  bRepr_of dat_pt (dpt_show b hB) (by rw [dpt_cost]; decide) q

theorem eqD_pt2 (p q : Int × Int) (h : IH) : eqD (pt p) (pt q) h = some (decide (p = q)) := by
  obtain ⟨a, b⟩ := p
  obtain ⟨c, d⟩ := q
  have e : (decide ((a, b) = (c, d))) = (decide (a = c) && decide (b = d)) := by
    rw [← Bool.decide_and]
    congr 1
    simp
  rw [e]
  unfold eqD eqF dat datL
  simp only [dat, datL, PyData.eqv, PyData.eqvAll, Option.map_some, Bool.and_true]
  rfl
theorem vEq_pt2 {p q : Int × Int} {h : IH} {Q : KV} : vEq (pt p) (pt q) h Q = Q (.bl (decide (p = q))) h := by
  unfold vEq
  rw [eqD_pt2]
theorem vNe_pt2 {p q : Int × Int} {h : IH} {Q : KV} : vNe (pt p) (pt q) h Q = Q (.bl (!decide (p = q))) h := by
  unfold vNe
  rw [eqD_pt2]
/-- what is known of a thing that is asked about -/
def Kn (x : Val) (h : IH) : Prop := (∃ t, tyN x h = some t) ∧ ∀ xs, x = .tup xs → ∀ y ∈ xs, (∃ t, tyN y h = some t) ∧ ∀ i, y = .int i → Bd 4000 i
/-- whether a thing is a part -/
def isPartV : Val → Bool
  | .tup [.int a, .int b] => decide (0 < b) && decide (low a b = (a, b))
  | _ => false
theorem isPartV_pt {p : Int × Int} (h : Pt p) : isPartV (pt p) = true := by
  show (decide (0 < p.2) && decide (low p.1 p.2 = (p.1, p.2))) = true
  rw [low_self h, decide_eq_true h.pos]
  simp

/-- a list or a dict -/
def tyC : Cell → Bool
  | .lst _ => true
  | .dct _ => true
  | _ => false
theorem ty_put {v : Val} {h : IH} {a : Addr} {c : Cell} (k : ∃ t, tyN v h = some t) (hc : tyC c = true) : ∃ t, tyN v (put h a c) = some t := by
  obtain ⟨t, e⟩ := k
  cases v with
  | ref p =>
    unfold put tyN
    dsimp only
    by_cases z : p = a
    · rw [if_pos z]
      cases c <;> first | exact ⟨_, rfl⟩ | cases hc
    · rw [if_neg z]
      exact ⟨t, e⟩
  | _ => exact ⟨t, e⟩
theorem Kn.put {v : Val} {h : IH} {a : Addr} {c : Cell} (k : Kn v h) (hc : tyC c = true) : Kn v (put h a c) := ⟨ty_put k.1 hc, fun xs e y hy => ⟨ty_put (k.2 xs e y hy).1 hc, (k.2 xs e y hy).2⟩⟩
theorem ty_ref {h : IH} {p : Addr} {c : Cell} (e : h p = some c) (hc : tyC c = true) : ∃ t, tyN (.ref p) h = some t := by
  unfold tyN
  dsimp only
  rw [e]
  cases c <;> first | exact ⟨_, rfl⟩ | cases hc
theorem Kn.ref {h : IH} {p : Addr} {c : Cell} (e : h p = some c) (hc : tyC c = true) : Kn (.ref p) h := ⟨ty_ref e hc, fun xs e => nomatch e⟩
theorem Kn.int {h : IH} {i : Int} : Kn (.int i) h := ⟨⟨_, rfl⟩, fun xs e => nomatch e⟩
theorem Kn.bl {h : IH} {i : Bool} : Kn (.bl i) h := ⟨⟨_, rfl⟩, fun xs e => nomatch e⟩
theorem Kn.str {h : IH} {i : Str} : Kn (.str i) h := ⟨⟨_, rfl⟩, fun xs e => nomatch e⟩
theorem Kn.non {h : IH} : Kn .non h := ⟨⟨_, rfl⟩, fun xs e => nomatch e⟩
theorem Kn.tup {h : IH} {xs : List Val} (k : ∀ y ∈ xs, (∃ t, tyN y h = some t) ∧ ∀ i, y = .int i → Bd 4000 i) : Kn (.tup xs) h := ⟨⟨_, rfl⟩, fun ys e => by cases e; exact k⟩
theorem Kn.sub {v : Val} {h h' : IH} (k : Kn v h) (s : ∀ b c, h b = some c → ∃ c', h' b = some c' ∧ (tyC c = true → tyC c' = true) ∧ (tyC c = false → c' = c)) : Kn v h' := by
  have one : ∀ v, (∃ t, tyN v h = some t) → ∃ t, tyN v h' = some t := by
    rintro v ⟨t, e⟩
    cases v with
    | ref p =>
      unfold tyN at e
      dsimp only at e
      cases z : h p with
      | none => rw [z] at e; cases e
      | some c =>
        obtain ⟨c', e1, e2, e3⟩ := s p c z
        rw [z] at e
        cases hc : tyC c with
        | true => exact ty_ref e1 (e2 hc)
        | false =>
          rw [e3 hc] at e1
          unfold tyN
          dsimp only
          rw [e1]
          exact ⟨t, e⟩
    | _ => exact ⟨t, e⟩
  exact ⟨one v k.1, fun xs e y hy => ⟨one y (k.2 xs e y hy).1, (k.2 xs e y hy).2⟩⟩
theorem vEq_nil {h : IH} {p q : Addr} {Q : KV} (e1 : h p = some (.lst [])) (e2 : h q = some (.lst [])) : vEq (.ref p) (.ref q) h Q = Q (.bl true) h := by
  unfold vEq
  have e : eqD (.ref p) (.ref q) h = some true := by
    unfold eqD eqF dat
    simp only [seq_of e1, seq_of e2, datL, Option.map_some]
    rfl
  rw [e]
end WS

namespace LawNs
open PySem PySem.Spec L2 L2H WS PyProof.Rows
set_option maxHeartbeats 0
abbrev pgm : Program := PySem.Challenge.pw_whoserves_k18_whole_within_both_sides
def top (i : Nat) : Stmt := pgm.main.body.getD i (.Pass ⟨0, 0, 0, 0⟩)
def d_common_2 : DS := (sRet (eV 0))
def d_common : DS := (sSeq (sWhile (tBool (eBin vGt (eV 1) (eC (.int 0)))) (sPar 0 1 (aCons (eV 1) (aCons (eBin vMod (eV 0) (eV 1)) aNil)))) d_common_2)
def d_lowest_2 : DS := (sRet (eTup (aCons (eBin vDiv (eV 0) (eV 2)) (aCons (eBin vDiv (eV 1) (eV 2)) aNil))))
def d_lowest : DS := (sSeq (sSet 2 (eCall "common" [] (aCons (eBi bAbs (aCons (eV 0) aNil)) (aCons (eV 1) aNil)))) d_lowest_2)
def d_plus : DS := (sRet (eCall "lowest" [] (aCons (eBin vAdd (eBin vMul (eBin vIx (eV 0) (eC (.int 0))) (eBin vIx (eV 1) (eC (.int 1)))) (eBin vMul (eBin vIx (eV 1) (eC (.int 0))) (eBin vIx (eV 0) (eC (.int 1))))) (aCons (eBin vMul (eBin vIx (eV 0) (eC (.int 1))) (eBin vIx (eV 1) (eC (.int 1)))) aNil))))
def d_is_less : DS := (sRet (eBin vLt (eBin vMul (eBin vIx (eV 0) (eC (.int 0))) (eBin vIx (eV 1) (eC (.int 1)))) (eBin vMul (eBin vIx (eV 1) (eC (.int 0))) (eBin vIx (eV 0) (eC (.int 1))))))
def d_greatest_first_3 : DS := (sRet (eV 1))
def d_greatest_first_2a_2 : DS := (sExpr (eMtL mInsert (eV 1) (aCons (eV 4) (aCons (eV 2) aNil))))
def d_greatest_first_2a : DS := (sSeq (sSet 4 (eBi bLen (aCons (eLc (iSeq (eV 1)) (gN 5) (tNot (tTru (eCall "is_less" [] (aCons (eBin vIx (eV 0) (eV 5)) (aCons (eV 3) aNil))))) (eV 5) [5]) aNil))) d_greatest_first_2a_2)
def d_greatest_first_2 : DS := (sSeq (sFor (iEnum' (aCons (eV 0) aNil)) (gT 2 (gsCons (gN 2) (gsCons (gN 3) gsNil))) d_greatest_first_2a) d_greatest_first_3)
def d_greatest_first : DS := (sSeq (sSet 1 (eLst aNil)) d_greatest_first_2)
def d_sums_ahead_3 : DS := (sRet (eV 1))
def d_sums_ahead_2 : DS := (sSeq (sFor (iSeq (eCall "greatest_first" [] (aCons (eV 0) aNil))) (gN 2) (sExpr (eMtL mAppend (eV 1) (aCons (eCall "plus" [] (aCons (eBin vIx (eV 1) (eUn vNeg (eC (.int 1)))) (aCons (eBin vIx (eV 0) (eV 2)) aNil))) aNil)))) d_sums_ahead_3)
def d_sums_ahead : DS := (sSeq (sSet 1 (eLst (aCons (eC (.tup [.int 0, .int 1])) aNil))) d_sums_ahead_2)
def d_most : DS := (sRet (eCall "lowest" [] (aCons (eBin vMul (eBin vMul (eV 0) (eV 2)) (eBin vSub (eV 1) (eV 2))) (aCons (eC (.int 2)) aNil))))
def d_fall_2 : DS := (sRet (eC (.non)))
def d_fall_1a : DS := (sIf (tTru (eCall "is_less" [] (aCons (eCall "most" [] (aCons (eV 0) (aCons (eBi bLen (aCons (eV 1) aNil)) (aCons (eV 2) aNil)))) (aCons (eV 3) aNil)))) (sRet (eV 2)) sPass)
def d_fall : DS := (sSeq (sFor (iEnum' (aCons (eCall "sums_ahead" [] (aCons (eV 1) aNil)) aNil)) (gT 2 (gsCons (gN 2) (gsCons (gN 3) gsNil))) d_fall_1a) d_fall_2)
def d_is_within : DS := (sRet (eAnd (eBin vEq (eBin vIx (eCall "sums_ahead" [] (aCons (eV 1) aNil)) (eUn vNeg (eC (.int 1)))) (eC (.tup [.int 0, .int 1]))) (eBin vIs (eCall "fall" [] (aCons (eV 0) (aCons (eV 1) aNil))) (eC (.non)))))
def d__law_pot_3 : DS := (sRet (eLst (aCons (eBi bMax (aCons (eC (.int 0)) (aCons (eBin vSub (eV 2) (eBin vPow (eC (.int 10)) (eC (.int 18)))) aNil))) (aCons (eBin vAdd (eBin vMod (eBin vPow (eBin vAdd (eBin vAdd (eBin vMod (eV 2) (eC (.int 2147483423))) (eBin vMul (eC (.int 89)) (eV 1))) (eC (.int 7))) (eC (.int 2))) (eC (.int 2147483399))) (eC (.int 1))) aNil))))
def d__law_pot_2 : DS := (sSeq (sIf (tBool (eBin vLt (eV 1) (eBi bLen (aCons (eV 0) aNil)))) (sSet 2 (eBi bAbs (aCons (eBin vIx (eV 0) (eV 1)) aNil))) sPass) d__law_pot_3)
def d__law_pot : DS := (sSeq (sSet 2 (eC (.int 0))) d__law_pot_2)
def d__law_digit_3 : DS := (sRet (eBin vMod (eBin vDiv (eBin vMod (eBin vMul (eBin vIx (eV 0) (eC (.int 1))) (eBin vIx (eV 0) (eC (.int 1)))) (eC (.int 2147483477))) (eC (.int 7))) (eV 1)))
def d__law_digit_2 : DS := (sSeq (sAsg (gIx (eV 0) (eC (.int 1))) (eBin vMod (eBin vAdd (eBin vMul (eBin vIx (eV 0) (eC (.int 1))) (eC (.int 45763))) (eC (.int 10061))) (eC (.int 2147483563)))) d__law_digit_3)
def d__law_digit_1a_2 : DS := (sRet (eV 2))
def d__law_digit_1a : DS := (sSeq (sAsg (gT 2 (gsCons (gIx (eV 0) (eC (.int 0))) (gsCons (gN 2) gsNil))) (eBi bDivmod (aCons (eBin vIx (eV 0) (eC (.int 0))) (aCons (eV 1) aNil)))) d__law_digit_1a_2)
def d__law_digit : DS := (sSeq (sIf (tBool (eBin vGt (eBin vIx (eV 0) (eC (.int 0))) (eC (.int 0)))) d__law_digit_1a sPass) d__law_digit_2)
def d__law_low_3 : DS := (sRet (eTup (aCons (eBin vDiv (eV 0) (eV 2)) (aCons (eBin vDiv (eV 1) (eV 2)) aNil))))
def d__law_low_2 : DS := (sSeq (sWhile (tBool (eBin vGt (eV 3) (eC (.int 0)))) (sPar 2 3 (aCons (eV 3) (aCons (eBin vMod (eV 2) (eV 3)) aNil)))) d__law_low_3)
def d__law_low : DS := (sSeq (sPar 2 3 (aCons (eBi bAbs (aCons (eV 0) aNil)) (aCons (eV 1) aNil))) d__law_low_2)
def d__law_plus : DS := (sRet (eCall "_law_low" [] (aCons (eBin vAdd (eBin vMul (eBin vIx (eV 0) (eC (.int 0))) (eBin vIx (eV 1) (eC (.int 1)))) (eBin vMul (eBin vIx (eV 1) (eC (.int 0))) (eBin vIx (eV 0) (eC (.int 1))))) (aCons (eBin vMul (eBin vIx (eV 0) (eC (.int 1))) (eBin vIx (eV 1) (eC (.int 1)))) aNil))))
def d__law_less : DS := (sRet (eBin vLt (eBin vMul (eBin vIx (eV 0) (eC (.int 0))) (eBin vIx (eV 1) (eC (.int 1)))) (eBin vMul (eBin vIx (eV 1) (eC (.int 0))) (eBin vIx (eV 0) (eC (.int 1))))))
def d__law_sum_3 : DS := (sRet (eV 1))
def d__law_sum_2 : DS := (sSeq (sFor (iSeq (eV 0)) (gN 2) (sSet 1 (eCall "_law_plus" [] (aCons (eV 1) (aCons (eV 2) aNil))))) d__law_sum_3)
def d__law_sum : DS := (sSeq (sSet 1 (eTup (aCons (eC (.int 0)) (aCons (eC (.int 1)) aNil)))) d__law_sum_2)
def d__law_first_4 : DS := (sRet (eV 2))
def d__law_first_3a_4 : DS := (sSet 1 (eLc (iSeq (eV 1)) (gN 4) (tBool (eBin vNe (eV 4) (eV 3))) (eV 4) [4]))
def d__law_first_3a_3 : DS := (sSeq (sExpr (eMtL mAppend (eV 2) (aCons (eV 3) aNil))) d__law_first_3a_4)
def d__law_first_3a_2a : DS := (sIf (tTru (eCall "_law_less" [] (aCons (eBin vIx (eV 0) (eV 3)) (aCons (eBin vIx (eV 0) (eV 4)) aNil)))) (sSet 3 (eV 4)) sPass)
def d__law_first_3a_2 : DS := (sSeq (sFor (iSeq (eV 1)) (gN 4) d__law_first_3a_2a) d__law_first_3a_3)
def d__law_first_3a : DS := (sSeq (sSet 3 (eBin vIx (eV 1) (eC (.int 0)))) d__law_first_3a_2)
def d__law_first_3 : DS := (sSeq (sWhile (tBool (eBin vNe (eV 1) (eLst aNil))) d__law_first_3a) d__law_first_4)
def d__law_first_2 : DS := (sSeq (sSet 2 (eLst aNil)) d__law_first_3)
def d__law_first : DS := (sSeq (sSet 1 (eLRng1 (aCons (eBi bLen (aCons (eV 0) aNil)) aNil))) d__law_first_2)
def d__law_most : DS := (sRet (eCall "_law_low" [] (aCons (eBin vMul (eBin vMul (eV 0) (eV 2)) (eBin vSub (eV 1) (eV 2))) (aCons (eC (.int 2)) aNil))))
def d__law_number_2 : DS := (sRet (eLix (aCons (eBin vSub (eCall "_law_digit" [] (aCons (eV 0) (aCons (eC (.int 7)) aNil))) (eC (.int 3))) (aCons (eBin vSub (eCall "_law_digit" [] (aCons (eV 0) (aCons (eC (.int 7)) aNil))) (eC (.int 3))) (aCons (eBin vSub (eCall "_law_digit" [] (aCons (eV 0) (aCons (eC (.int 201)) aNil))) (eC (.int 100))) (aCons (eV 1) aNil)))) (eCall "_law_digit" [] (aCons (eV 0) (aCons (eC (.int 4)) aNil)))))
def d__law_number : DS := (sSeq (sSet 1 (eBin vAdd (eBin vSub (eCall "_law_digit" [] (aCons (eV 0) (aCons (eBin vSub (eBin vMul (eC (.int 2)) (eBin vPow (eC (.int 10)) (eC (.int 29)))) (eC (.int 1))) aNil))) (eBin vPow (eC (.int 10)) (eC (.int 29)))) (eC (.int 1)))) d__law_number_2)
def d__law_row_3 : DS := (sRet (eLc (iSeq (eV 2)) (gN 5) tYes' (eCall "_law_plus" [] (aCons (eV 5) (aCons (eCall "_law_low" [] (aCons (eBin vSub (eC (.int 0)) (eBin vIx (eV 3) (eC (.int 0)))) (aCons (eBin vMul (eBin vIx (eV 3) (eC (.int 1))) (eV 1)) aNil))) aNil))) [5]))
def d__law_row_2 : DS := (sSeq (sSet 3 (eCall "_law_sum" [] (aCons (eV 2) aNil))) d__law_row_3)
def d__law_row : DS := (sSeq (sSet 2 (eLc (iRng1' (aCons (eV 1) aNil)) (gN 4) tYes' (eCall "_law_low" [] (aCons (eCall "_law_number" [] (aCons (eV 0) aNil)) (aCons (eLix (aCons (eC (.int 1)) (aCons (eC (.int 1)) (aCons (eC (.int 2)) (aCons (eC (.int 3)) (aCons (eC (.int 4)) (aCons (eC (.int 12)) (aCons (eC (.int 60)) aNil))))))) (eCall "_law_digit" [] (aCons (eV 0) (aCons (eC (.int 7)) aNil)))) aNil))) [4])) d__law_row_2)
def d__law_weight_4 : DS := (sRet (eV 1))
def d__law_weight_3a_3 : DS := (sSet 1 (eBi bMax (aCons (eV 1) (aCons (eBin vDiv (eBin vSub (eBin vAdd (eBin vMul (eC (.int 2)) (eV 4)) (eV 6)) (eC (.int 1))) (eV 6)) aNil))))
def d__law_weight_3a_2 : DS := (sSeq (sSet 6 (eBin vMul (eBin vMul (eV 5) (eV 3)) (eBin vSub (eBi bLen (aCons (eV 0) aNil)) (eV 3)))) d__law_weight_3a_3)
def d__law_weight_3a : DS := (sSeq (sAsg (gT 2 (gsCons (gN 4) (gsCons (gN 5) gsNil))) (eCall "_law_sum" [] (aCons (eLc (iSeq (eSl none (some (eV 3)) (eV 2) vSl)) (gN 7) tYes' (eBin vIx (eV 0) (eV 7)) [7]) aNil))) d__law_weight_3a_2)
def d__law_weight_3 : DS := (sSeq (sFor (iRng2' (aCons (eC (.int 1)) (aCons (eBi bLen (aCons (eV 0) aNil)) aNil))) (gN 3) d__law_weight_3a) d__law_weight_4)
def d__law_weight_2 : DS := (sSeq (sSet 2 (eCall "_law_first" [] (aCons (eV 0) aNil))) d__law_weight_3)
def d__law_weight : DS := (sSeq (sSet 1 (eC (.int 1))) d__law_weight_2)
def d__law_sets_3 : DS := (sRet (eV 1))
def d__law_sets_2 : DS := (sSeq (sFor (iRng1' (aCons (eV 0) aNil)) (gN 2) (sSet 1 (eBin vAdd (eV 1) (eLc (iSeq (eV 1)) (gN 3) tYes' (eBin vAdd (eV 3) (eLst (aCons (eV 2) aNil))) [3])))) d__law_sets_3)
def d__law_sets : DS := (sSeq (sSet 1 (eLst (aCons (eLst aNil) aNil))) d__law_sets_2)
def d__law_due_3 : DS := (sRet (eC (.bl true)))
def d__law_due_2a_3 : DS := (sIf (tOr (tTru (eCall "_law_less" [] (aCons (eV 4) (aCons (eV 3) aNil)))) (tTru (eCall "_law_less" [] (aCons (eV 3) (aCons (eTup (aCons (eBin vSub (eC (.int 0)) (eBin vIx (eV 4) (eC (.int 0)))) (aCons (eBin vIx (eV 4) (eC (.int 1))) aNil))) aNil))))) (sRet (eC (.bl false))) sPass)
def d__law_due_2a_2 : DS := (sSeq (sSet 4 (eCall "_law_most" [] (aCons (eV 0) (aCons (eBi bLen (aCons (eV 1) aNil)) (aCons (eBi bLen (aCons (eV 2) aNil)) aNil))))) d__law_due_2a_3)
def d__law_due_2a : DS := (sSeq (sSet 3 (eCall "_law_sum" [] (aCons (eLc (iSeq (eV 2)) (gN 5) tYes' (eBin vIx (eV 1) (eV 5)) [5]) aNil))) d__law_due_2a_2)
def d__law_due_2 : DS := (sSeq (sFor (iSeq (eCall "_law_sets" [] (aCons (eBi bLen (aCons (eV 1) aNil)) aNil))) (gN 2) d__law_due_2a) d__law_due_3)
def d__law_due : DS := (sSeq (sIf (tBool (eBin vNe (eCall "_law_sum" [] (aCons (eV 1) aNil)) (eTup (aCons (eC (.int 0)) (aCons (eC (.int 1)) aNil))))) (sRet (eC (.bl false))) sPass) d__law_due_2)
def d__law_turned_4 : DS := (sRet (eBi bTuple (aCons (eV 3) aNil)))
def d__law_turned_3 : DS := (sSeq (sFor (iRng1' (aCons (eBi bLen (aCons (eV 1) aNil)) aNil)) (gN 4) (sExpr (eMtL mAppend (eV 3) (aCons (eMtL mPopAt (eV 2) (aCons (eCall "_law_digit" [] (aCons (eV 0) (aCons (eBi bLen (aCons (eV 2) aNil)) aNil))) aNil)) aNil)))) d__law_turned_4)
def d__law_turned_2 : DS := (sSeq (sSet 3 (eLst aNil)) d__law_turned_3)
def d__law_turned : DS := (sSeq (sSet 2 (eBi bList (aCons (eV 1) aNil))) d__law_turned_2)
def d__law_one_7 : DS := (sRet (eC (.bl true)))
def d__law_one_6a_2 : DS := (sIf (tOr (tNot (tTru (eIsi (aCons (eV 7) (aCons (eC (.ty "bool")) aNil))))) (tBool (eBin vNe (eV 7) (eV 5)))) (sRet (eC (.bl false))) sPass)
def d__law_one_6a : DS := (sSeq (sSet 7 (eCall "is_within" [] (aCons (eV 3) (aCons (eV 6) aNil)))) d__law_one_6a_2)
def d__law_one_6 : DS := (sSeq (sFor (iSeq (eLst (aCons (eBi bTuple (aCons (eV 1) aNil)) (aCons (eCall "_law_turned" [] (aCons (eV 0) (aCons (eV 1) aNil))) (aCons (eBi bTuple (aCons (eUn vRev (eV 1)) aNil)) aNil))))) (gN 6) d__law_one_6a) d__law_one_7)
def d__law_one_5 : DS := (sSeq (sSet 5 (eCall "_law_due" [] (aCons (eV 3) (aCons (eV 1) aNil)))) d__law_one_6)
def d__law_one_4a_2 : DS := (sAsg (gIx (eV 1) (eC (.int 0))) (eCall "_law_plus" [] (aCons (eBin vIx (eV 1) (eC (.int 0))) (aCons (eV 4) aNil))))
def d__law_one_4a : DS := (sSeq (sSet 4 (eLix (aCons (eTup (aCons (eC (.int 1)) (aCons (eC (.int 1)) aNil))) (aCons (eTup (aCons (eUn vNeg (eC (.int 1))) (aCons (eC (.int 1)) aNil))) (aCons (eTup (aCons (eC (.int 1)) (aCons (eC (.int 60)) aNil))) (aCons (eTup (aCons (eUn vNeg (eC (.int 1))) (aCons (eBin vPow (eC (.int 10)) (eC (.int 20))) aNil))) aNil)))) (eCall "_law_digit" [] (aCons (eV 0) (aCons (eC (.int 4)) aNil))))) d__law_one_4a_2)
def d__law_one_4 : DS := (sSeq (sIf (tAnd (tBool (eBin vNe (eV 1) (eLst aNil))) (tBool (eBin vEq (eCall "_law_digit" [] (aCons (eV 0) (aCons (eC (.int 5)) aNil))) (eC (.int 0))))) d__law_one_4a sPass) d__law_one_5)
def d__law_one_3 : DS := (sSeq (sSet 3 (eLix (aCons (eV 2) (aCons (eBi bMax (aCons (eC (.int 1)) (aCons (eBin vSub (eV 2) (eC (.int 1))) aNil))) (aCons (eBin vAdd (eV 2) (eC (.int 1))) (aCons (eBin vAdd (eC (.int 1)) (eCall "_law_digit" [] (aCons (eV 0) (aCons (eBin vSub (eBin vPow (eC (.int 10)) (eC (.int 30))) (eC (.int 1))) aNil)))) aNil)))) (eCall "_law_digit" [] (aCons (eV 0) (aCons (eC (.int 4)) aNil))))) d__law_one_4)
def d__law_one_2 : DS := (sSeq (sSet 2 (eIf (tBool (eBin vNe (eV 1) (eLst aNil))) (eCall "_law_weight" [] (aCons (eV 1) aNil)) (eC (.int 1)))) d__law_one_3)
def d__law_one : DS := (sSeq (sSet 1 (eCall "_law_row" [] (aCons (eV 0) (aCons (eCall "_law_digit" [] (aCons (eV 0) (aCons (eC (.int 8)) aNil))) aNil)))) d__law_one_2)
def d_law : DS := (sRet (eBi bAll (aCons (eLc (iRng1' (aCons (eBi bMax (aCons (eC (.int 1)) (aCons (eBi bMin (aCons (eBi bLen (aCons (eV 0) aNil)) (aCons (eC (.int 6)) aNil))) aNil))) aNil)) (gN 1) tYes' (eCall "_law_one" [] (aCons (eCall "_law_pot" [] (aCons (eV 0) (aCons (eV 1) aNil))) aNil)) [1]) aNil)))
def tab : List (Str × DefT) := [("common", ⟨top 2, ["one", "other"], ["one", "other"], d_common⟩),
  ("lowest", ⟨top 3, ["above", "below"], ["above", "below", "share"], d_lowest⟩),
  ("plus", ⟨top 4, ["one", "other"], ["one", "other"], d_plus⟩),
  ("is_less", ⟨top 5, ["one", "other"], ["one", "other"], d_is_less⟩),
  ("greatest_first", ⟨top 7, ["row"], ["row", "found", "place", "one", "at", "k"], d_greatest_first⟩),
  ("sums_ahead", ⟨top 8, ["row"], ["row", "found", "place"], d_sums_ahead⟩),
  ("most", ⟨top 9, ["weight", "seats", "many"], ["weight", "seats", "many"], d_most⟩),
  ("fall", ⟨top 10, ["weight", "row"], ["weight", "row", "many", "one"], d_fall⟩),
  ("is_within", ⟨top 11, ["weight", "row"], ["weight", "row"], d_is_within⟩),
  ("_law_pot", ⟨top 13, ["script", "k"], ["script", "k", "cell"], d__law_pot⟩),
  ("_law_digit", ⟨top 14, ["pot", "many"], ["pot", "many", "digit"], d__law_digit⟩),
  ("_law_low", ⟨top 15, ["above", "below"], ["above", "below", "one", "other"], d__law_low⟩),
  ("_law_plus", ⟨top 16, ["one", "other"], ["one", "other"], d__law_plus⟩),
  ("_law_less", ⟨top 17, ["one", "other"], ["one", "other"], d__law_less⟩),
  ("_law_sum", ⟨top 18, ["parts"], ["parts", "found", "one"], d__law_sum⟩),
  ("_law_first", ⟨top 19, ["row"], ["row", "left", "found", "at", "k"], d__law_first⟩),
  ("_law_most", ⟨top 20, ["weight", "many", "k"], ["weight", "many", "k"], d__law_most⟩),
  ("_law_number", ⟨top 21, ["pot"], ["pot", "far"], d__law_number⟩),
  ("_law_row", ⟨top 22, ["pot", "many"], ["pot", "many", "row", "whole", "k", "one"], d__law_row⟩),
  ("_law_weight", ⟨top 23, ["row"], ["row", "weight", "order", "k", "above", "below", "by", "at"], d__law_weight⟩),
  ("_law_sets", ⟨top 24, ["many"], ["many", "found", "k", "some"], d__law_sets⟩),
  ("_law_due", ⟨top 25, ["weight", "row"], ["weight", "row", "some", "told", "bound", "k"], d__law_due⟩),
  ("_law_turned", ⟨top 26, ["pot", "row"], ["pot", "row", "left", "found", "k"], d__law_turned⟩),
  ("_law_one", ⟨top 27, ["pot"], ["pot", "row", "least", "weight", "more", "due", "some", "told"], d__law_one⟩),
  ("law", ⟨top 28, ["script"], ["script", "k"], d_law⟩)]
def htab : List (Str × DefT) := []
def sigs : List (Str × FSig) := [("common", [(2, [])]), ("lowest", [(2, [])]), ("plus", [(2, [])]), ("is_less", [(2, [])]), ("greatest_first", [(1, [])]), ("sums_ahead", [(1, [])]), ("most", [(3, [])]), ("fall", [(2, [])]), ("is_within", [(2, [])]), ("_law_pot", [(2, [])]), ("_law_digit", [(2, [])]), ("_law_low", [(2, [])]), ("_law_plus", [(2, [])]), ("_law_less", [(2, [])]), ("_law_sum", [(1, [])]), ("_law_first", [(1, [])]), ("_law_most", [(3, [])]), ("_law_number", [(1, [])]), ("_law_row", [(2, [])]), ("_law_weight", [(1, [])]), ("_law_sets", [(1, [])]), ("_law_due", [(2, [])]), ("_law_turned", [(2, [])]), ("_law_one", [(1, [])])]
def cnsT : List (Str × Val) := [("NOUGHT", .tup [.int 0, .int 1])]
def G : TC := { N := [], sc := { kind := .function, names := [], isGenerator := false, isCoroutine := false }, hot := false, top := true, fns := sigs, hots := [], cns := cnsT, cls := [], rse := [], kws := [], blt := ["all", "range", "max", "min", "len", "abs", "tuple", "isinstance", "bool", "divmod", "list", "enumerate"] }
def clsT : List (Str × List Str) := []
def C (k : Nat) : Calls := callK (isaOf clsT) tab htab k
theorem C_isa (k : Nat) : (C k).isa = isaOf clsT := callK_isa _ _ _ k
theorem run_common (k : Nat) {x0 x1 : Val} {h : IH} {Q : KV} {E : XC} (z : d_common (C k) (topD (fgK Q) (fgX E)) [some x0, some x1] h) : (C (k + 1)).run "common" [x0, x1] h Q E := run_of (d := ⟨top 2, ["one", "other"], ["one", "other"], d_common⟩) (by kernel_rfl) rfl z
theorem run_lowest (k : Nat) {x0 x1 : Val} {h : IH} {Q : KV} {E : XC} (z : d_lowest (C k) (topD (fgK Q) (fgX E)) [some x0, some x1, none] h) : (C (k + 1)).run "lowest" [x0, x1] h Q E := run_of (d := ⟨top 3, ["above", "below"], ["above", "below", "share"], d_lowest⟩) (by kernel_rfl) rfl z
theorem run_plus (k : Nat) {x0 x1 : Val} {h : IH} {Q : KV} {E : XC} (z : d_plus (C k) (topD (fgK Q) (fgX E)) [some x0, some x1] h) : (C (k + 1)).run "plus" [x0, x1] h Q E := run_of (d := ⟨top 4, ["one", "other"], ["one", "other"], d_plus⟩) (by kernel_rfl) rfl z
theorem run_is_less (k : Nat) {x0 x1 : Val} {h : IH} {Q : KV} {E : XC} (z : d_is_less (C k) (topD (fgK Q) (fgX E)) [some x0, some x1] h) : (C (k + 1)).run "is_less" [x0, x1] h Q E := run_of (d := ⟨top 5, ["one", "other"], ["one", "other"], d_is_less⟩) (by kernel_rfl) rfl z
theorem run_greatest_first (k : Nat) {x0 : Val} {h : IH} {Q : KV} {E : XC} (z : d_greatest_first (C k) (topD (fgK Q) (fgX E)) [some x0, none, none, none, none, none] h) : (C (k + 1)).run "greatest_first" [x0] h Q E := run_of (d := ⟨top 7, ["row"], ["row", "found", "place", "one", "at", "k"], d_greatest_first⟩) (by kernel_rfl) rfl z
theorem run_sums_ahead (k : Nat) {x0 : Val} {h : IH} {Q : KV} {E : XC} (z : d_sums_ahead (C k) (topD (fgK Q) (fgX E)) [some x0, none, none] h) : (C (k + 1)).run "sums_ahead" [x0] h Q E := run_of (d := ⟨top 8, ["row"], ["row", "found", "place"], d_sums_ahead⟩) (by kernel_rfl) rfl z
theorem run_most (k : Nat) {x0 x1 x2 : Val} {h : IH} {Q : KV} {E : XC} (z : d_most (C k) (topD (fgK Q) (fgX E)) [some x0, some x1, some x2] h) : (C (k + 1)).run "most" [x0, x1, x2] h Q E := run_of (d := ⟨top 9, ["weight", "seats", "many"], ["weight", "seats", "many"], d_most⟩) (by kernel_rfl) rfl z
theorem run_fall (k : Nat) {x0 x1 : Val} {h : IH} {Q : KV} {E : XC} (z : d_fall (C k) (topD (fgK Q) (fgX E)) [some x0, some x1, none, none] h) : (C (k + 1)).run "fall" [x0, x1] h Q E := run_of (d := ⟨top 10, ["weight", "row"], ["weight", "row", "many", "one"], d_fall⟩) (by kernel_rfl) rfl z
theorem run_is_within (k : Nat) {x0 x1 : Val} {h : IH} {Q : KV} {E : XC} (z : d_is_within (C k) (topD (fgK Q) (fgX E)) [some x0, some x1] h) : (C (k + 1)).run "is_within" [x0, x1] h Q E := run_of (d := ⟨top 11, ["weight", "row"], ["weight", "row"], d_is_within⟩) (by kernel_rfl) rfl z
theorem run__law_pot (k : Nat) {x0 x1 : Val} {h : IH} {Q : KV} {E : XC} (z : d__law_pot (C k) (topD (fgK Q) (fgX E)) [some x0, some x1, none] h) : (C (k + 1)).run "_law_pot" [x0, x1] h Q E := run_of (d := ⟨top 13, ["script", "k"], ["script", "k", "cell"], d__law_pot⟩) (by kernel_rfl) rfl z
theorem run__law_digit (k : Nat) {x0 x1 : Val} {h : IH} {Q : KV} {E : XC} (z : d__law_digit (C k) (topD (fgK Q) (fgX E)) [some x0, some x1, none] h) : (C (k + 1)).run "_law_digit" [x0, x1] h Q E := run_of (d := ⟨top 14, ["pot", "many"], ["pot", "many", "digit"], d__law_digit⟩) (by kernel_rfl) rfl z
theorem run__law_low (k : Nat) {x0 x1 : Val} {h : IH} {Q : KV} {E : XC} (z : d__law_low (C k) (topD (fgK Q) (fgX E)) [some x0, some x1, none, none] h) : (C (k + 1)).run "_law_low" [x0, x1] h Q E := run_of (d := ⟨top 15, ["above", "below"], ["above", "below", "one", "other"], d__law_low⟩) (by kernel_rfl) rfl z
theorem run__law_plus (k : Nat) {x0 x1 : Val} {h : IH} {Q : KV} {E : XC} (z : d__law_plus (C k) (topD (fgK Q) (fgX E)) [some x0, some x1] h) : (C (k + 1)).run "_law_plus" [x0, x1] h Q E := run_of (d := ⟨top 16, ["one", "other"], ["one", "other"], d__law_plus⟩) (by kernel_rfl) rfl z
theorem run__law_less (k : Nat) {x0 x1 : Val} {h : IH} {Q : KV} {E : XC} (z : d__law_less (C k) (topD (fgK Q) (fgX E)) [some x0, some x1] h) : (C (k + 1)).run "_law_less" [x0, x1] h Q E := run_of (d := ⟨top 17, ["one", "other"], ["one", "other"], d__law_less⟩) (by kernel_rfl) rfl z
theorem run__law_sum (k : Nat) {x0 : Val} {h : IH} {Q : KV} {E : XC} (z : d__law_sum (C k) (topD (fgK Q) (fgX E)) [some x0, none, none] h) : (C (k + 1)).run "_law_sum" [x0] h Q E := run_of (d := ⟨top 18, ["parts"], ["parts", "found", "one"], d__law_sum⟩) (by kernel_rfl) rfl z
theorem run__law_first (k : Nat) {x0 : Val} {h : IH} {Q : KV} {E : XC} (z : d__law_first (C k) (topD (fgK Q) (fgX E)) [some x0, none, none, none, none] h) : (C (k + 1)).run "_law_first" [x0] h Q E := run_of (d := ⟨top 19, ["row"], ["row", "left", "found", "at", "k"], d__law_first⟩) (by kernel_rfl) rfl z
theorem run__law_most (k : Nat) {x0 x1 x2 : Val} {h : IH} {Q : KV} {E : XC} (z : d__law_most (C k) (topD (fgK Q) (fgX E)) [some x0, some x1, some x2] h) : (C (k + 1)).run "_law_most" [x0, x1, x2] h Q E := run_of (d := ⟨top 20, ["weight", "many", "k"], ["weight", "many", "k"], d__law_most⟩) (by kernel_rfl) rfl z
theorem run__law_number (k : Nat) {x0 : Val} {h : IH} {Q : KV} {E : XC} (z : d__law_number (C k) (topD (fgK Q) (fgX E)) [some x0, none] h) : (C (k + 1)).run "_law_number" [x0] h Q E := run_of (d := ⟨top 21, ["pot"], ["pot", "far"], d__law_number⟩) (by kernel_rfl) rfl z
theorem run__law_row (k : Nat) {x0 x1 : Val} {h : IH} {Q : KV} {E : XC} (z : d__law_row (C k) (topD (fgK Q) (fgX E)) [some x0, some x1, none, none, none, none] h) : (C (k + 1)).run "_law_row" [x0, x1] h Q E := run_of (d := ⟨top 22, ["pot", "many"], ["pot", "many", "row", "whole", "k", "one"], d__law_row⟩) (by kernel_rfl) rfl z
theorem run__law_weight (k : Nat) {x0 : Val} {h : IH} {Q : KV} {E : XC} (z : d__law_weight (C k) (topD (fgK Q) (fgX E)) [some x0, none, none, none, none, none, none, none] h) : (C (k + 1)).run "_law_weight" [x0] h Q E := run_of (d := ⟨top 23, ["row"], ["row", "weight", "order", "k", "above", "below", "by", "at"], d__law_weight⟩) (by kernel_rfl) rfl z
theorem run__law_sets (k : Nat) {x0 : Val} {h : IH} {Q : KV} {E : XC} (z : d__law_sets (C k) (topD (fgK Q) (fgX E)) [some x0, none, none, none] h) : (C (k + 1)).run "_law_sets" [x0] h Q E := run_of (d := ⟨top 24, ["many"], ["many", "found", "k", "some"], d__law_sets⟩) (by kernel_rfl) rfl z
theorem run__law_due (k : Nat) {x0 x1 : Val} {h : IH} {Q : KV} {E : XC} (z : d__law_due (C k) (topD (fgK Q) (fgX E)) [some x0, some x1, none, none, none, none] h) : (C (k + 1)).run "_law_due" [x0, x1] h Q E := run_of (d := ⟨top 25, ["weight", "row"], ["weight", "row", "some", "told", "bound", "k"], d__law_due⟩) (by kernel_rfl) rfl z
theorem run__law_turned (k : Nat) {x0 x1 : Val} {h : IH} {Q : KV} {E : XC} (z : d__law_turned (C k) (topD (fgK Q) (fgX E)) [some x0, some x1, none, none, none] h) : (C (k + 1)).run "_law_turned" [x0, x1] h Q E := run_of (d := ⟨top 26, ["pot", "row"], ["pot", "row", "left", "found", "k"], d__law_turned⟩) (by kernel_rfl) rfl z
theorem run__law_one (k : Nat) {x0 : Val} {h : IH} {Q : KV} {E : XC} (z : d__law_one (C k) (topD (fgK Q) (fgX E)) [some x0, none, none, none, none, none, none, none] h) : (C (k + 1)).run "_law_one" [x0] h Q E := run_of (d := ⟨top 27, ["pot"], ["pot", "row", "least", "weight", "more", "due", "some", "told"], d__law_one⟩) (by kernel_rfl) rfl z
theorem run_law (k : Nat) {x0 : Val} {h : IH} {Q : KV} {E : XC} (z : d_law (C k) (topD (fgK Q) (fgX E)) [some x0, none] h) : (C (k + 1)).run "law" [x0] h Q E := run_of (d := ⟨top 28, ["script"], ["script", "k"], d_law⟩) (by kernel_rfl) rfl z
theorem td_common : (trs 60).B { G with N := ["one", "other"], sc := defScope (top 2), hot := false, top := true } (defBody (top 2)) = some d_common := by kernel_rfl
theorem td_lowest : (trs 60).B { G with N := ["above", "below", "share"], sc := defScope (top 3), hot := false, top := true } (defBody (top 3)) = some d_lowest := by kernel_rfl
theorem td_plus : (trs 60).B { G with N := ["one", "other"], sc := defScope (top 4), hot := false, top := true } (defBody (top 4)) = some d_plus := by kernel_rfl
theorem td_is_less : (trs 60).B { G with N := ["one", "other"], sc := defScope (top 5), hot := false, top := true } (defBody (top 5)) = some d_is_less := by kernel_rfl
theorem td_greatest_first : (trs 60).B { G with N := ["row", "found", "place", "one", "at", "k"], sc := defScope (top 7), hot := false, top := true } (defBody (top 7)) = some d_greatest_first := by kernel_rfl
theorem td_sums_ahead : (trs 60).B { G with N := ["row", "found", "place"], sc := defScope (top 8), hot := false, top := true } (defBody (top 8)) = some d_sums_ahead := by kernel_rfl
theorem td_most : (trs 60).B { G with N := ["weight", "seats", "many"], sc := defScope (top 9), hot := false, top := true } (defBody (top 9)) = some d_most := by kernel_rfl
theorem td_fall : (trs 60).B { G with N := ["weight", "row", "many", "one"], sc := defScope (top 10), hot := false, top := true } (defBody (top 10)) = some d_fall := by kernel_rfl
theorem td_is_within : (trs 60).B { G with N := ["weight", "row"], sc := defScope (top 11), hot := false, top := true } (defBody (top 11)) = some d_is_within := by kernel_rfl
theorem td__law_pot : (trs 60).B { G with N := ["script", "k", "cell"], sc := defScope (top 13), hot := false, top := true } (defBody (top 13)) = some d__law_pot := by kernel_rfl
theorem td__law_digit : (trs 60).B { G with N := ["pot", "many", "digit"], sc := defScope (top 14), hot := false, top := true } (defBody (top 14)) = some d__law_digit := by kernel_rfl
theorem td__law_low : (trs 60).B { G with N := ["above", "below", "one", "other"], sc := defScope (top 15), hot := false, top := true } (defBody (top 15)) = some d__law_low := by kernel_rfl
theorem td__law_plus : (trs 60).B { G with N := ["one", "other"], sc := defScope (top 16), hot := false, top := true } (defBody (top 16)) = some d__law_plus := by kernel_rfl
theorem td__law_less : (trs 60).B { G with N := ["one", "other"], sc := defScope (top 17), hot := false, top := true } (defBody (top 17)) = some d__law_less := by kernel_rfl
theorem td__law_sum : (trs 60).B { G with N := ["parts", "found", "one"], sc := defScope (top 18), hot := false, top := true } (defBody (top 18)) = some d__law_sum := by kernel_rfl
theorem td__law_first : (trs 60).B { G with N := ["row", "left", "found", "at", "k"], sc := defScope (top 19), hot := false, top := true } (defBody (top 19)) = some d__law_first := by kernel_rfl
theorem td__law_most : (trs 60).B { G with N := ["weight", "many", "k"], sc := defScope (top 20), hot := false, top := true } (defBody (top 20)) = some d__law_most := by kernel_rfl
theorem td__law_number : (trs 60).B { G with N := ["pot", "far"], sc := defScope (top 21), hot := false, top := true } (defBody (top 21)) = some d__law_number := by kernel_rfl
theorem td__law_row : (trs 60).B { G with N := ["pot", "many", "row", "whole", "k", "one"], sc := defScope (top 22), hot := false, top := true } (defBody (top 22)) = some d__law_row := by kernel_rfl
theorem td__law_weight : (trs 60).B { G with N := ["row", "weight", "order", "k", "above", "below", "by", "at"], sc := defScope (top 23), hot := false, top := true } (defBody (top 23)) = some d__law_weight := by kernel_rfl
theorem td__law_sets : (trs 60).B { G with N := ["many", "found", "k", "some"], sc := defScope (top 24), hot := false, top := true } (defBody (top 24)) = some d__law_sets := by kernel_rfl
theorem td__law_due : (trs 60).B { G with N := ["weight", "row", "some", "told", "bound", "k"], sc := defScope (top 25), hot := false, top := true } (defBody (top 25)) = some d__law_due := by kernel_rfl
theorem td__law_turned : (trs 60).B { G with N := ["pot", "row", "left", "found", "k"], sc := defScope (top 26), hot := false, top := true } (defBody (top 26)) = some d__law_turned := by kernel_rfl
theorem td__law_one : (trs 60).B { G with N := ["pot", "row", "least", "weight", "more", "due", "some", "told"], sc := defScope (top 27), hot := false, top := true } (defBody (top 27)) = some d__law_one := by kernel_rfl
theorem td_law : (trs 60).B { G with N := ["script", "k"], sc := defScope (top 28), hot := false, top := true } (defBody (top 28)) = some d_law := by kernel_rfl
def fnames : List Str := ((["common", "lowest", "plus", "is_less", "greatest_first", "sums_ahead", "most", "fall", "is_within", "_law_pot", "_law_digit", "_law_low", "_law_plus", "_law_less", "_law_sum", "_law_first", "_law_most", "_law_number", "_law_row", "_law_weight"] : List Str) ++ (["_law_sets", "_law_due", "_law_turned", "_law_one", "law"] : List Str))
def q_common : He.DefD := defD "common" (top 2) [] []
def q_lowest : He.DefD := defD "lowest" (top 3) [] []
def q_plus : He.DefD := defD "plus" (top 4) [] []
def q_is_less : He.DefD := defD "is_less" (top 5) [] []
def q_greatest_first : He.DefD := defD "greatest_first" (top 7) [] []
def q_sums_ahead : He.DefD := defD "sums_ahead" (top 8) [] []
def q_most : He.DefD := defD "most" (top 9) [] []
def q_fall : He.DefD := defD "fall" (top 10) [] []
def q_is_within : He.DefD := defD "is_within" (top 11) [] []
def q__law_pot : He.DefD := defD "_law_pot" (top 13) [] []
def q__law_digit : He.DefD := defD "_law_digit" (top 14) [] []
def q__law_low : He.DefD := defD "_law_low" (top 15) [] []
def q__law_plus : He.DefD := defD "_law_plus" (top 16) [] []
def q__law_less : He.DefD := defD "_law_less" (top 17) [] []
def q__law_sum : He.DefD := defD "_law_sum" (top 18) [] []
def q__law_first : He.DefD := defD "_law_first" (top 19) [] []
def q__law_most : He.DefD := defD "_law_most" (top 20) [] []
def q__law_number : He.DefD := defD "_law_number" (top 21) [] []
def q__law_row : He.DefD := defD "_law_row" (top 22) [] []
def q__law_weight : He.DefD := defD "_law_weight" (top 23) [] []
def q__law_sets : He.DefD := defD "_law_sets" (top 24) [] []
def q__law_due : He.DefD := defD "_law_due" (top 25) [] []
def q__law_turned : He.DefD := defD "_law_turned" (top 26) [] []
def q__law_one : He.DefD := defD "_law_one" (top 27) [] []
def q_law : He.DefD := defD "law" (top 28) [] []
def fn : List He.DefD := [q_common, q_lowest, q_plus, q_is_less, q_greatest_first, q_sums_ahead, q_most, q_fall, q_is_within, q__law_pot, q__law_digit, q__law_low, q__law_plus, q__law_less, q__law_sum, q__law_first, q__law_most, q__law_number, q__law_row, q__law_weight, q__law_sets, q__law_due, q__law_turned, q__law_one, q_law]
theorem m_common : q_common ∈ fn := List.mem_of_getElem? (i := 0) rfl
theorem m_lowest : q_lowest ∈ fn := List.mem_of_getElem? (i := 1) rfl
theorem m_plus : q_plus ∈ fn := List.mem_of_getElem? (i := 2) rfl
theorem m_is_less : q_is_less ∈ fn := List.mem_of_getElem? (i := 3) rfl
theorem m_greatest_first : q_greatest_first ∈ fn := List.mem_of_getElem? (i := 4) rfl
theorem m_sums_ahead : q_sums_ahead ∈ fn := List.mem_of_getElem? (i := 5) rfl
theorem m_most : q_most ∈ fn := List.mem_of_getElem? (i := 6) rfl
theorem m_fall : q_fall ∈ fn := List.mem_of_getElem? (i := 7) rfl
theorem m_is_within : q_is_within ∈ fn := List.mem_of_getElem? (i := 8) rfl
theorem m__law_pot : q__law_pot ∈ fn := List.mem_of_getElem? (i := 9) rfl
theorem m__law_digit : q__law_digit ∈ fn := List.mem_of_getElem? (i := 10) rfl
theorem m__law_low : q__law_low ∈ fn := List.mem_of_getElem? (i := 11) rfl
theorem m__law_plus : q__law_plus ∈ fn := List.mem_of_getElem? (i := 12) rfl
theorem m__law_less : q__law_less ∈ fn := List.mem_of_getElem? (i := 13) rfl
theorem m__law_sum : q__law_sum ∈ fn := List.mem_of_getElem? (i := 14) rfl
theorem m__law_first : q__law_first ∈ fn := List.mem_of_getElem? (i := 15) rfl
theorem m__law_most : q__law_most ∈ fn := List.mem_of_getElem? (i := 16) rfl
theorem m__law_number : q__law_number ∈ fn := List.mem_of_getElem? (i := 17) rfl
theorem m__law_row : q__law_row ∈ fn := List.mem_of_getElem? (i := 18) rfl
theorem m__law_weight : q__law_weight ∈ fn := List.mem_of_getElem? (i := 19) rfl
theorem m__law_sets : q__law_sets ∈ fn := List.mem_of_getElem? (i := 20) rfl
theorem m__law_due : q__law_due ∈ fn := List.mem_of_getElem? (i := 21) rfl
theorem m__law_turned : q__law_turned ∈ fn := List.mem_of_getElem? (i := 22) rfl
theorem m__law_one : q__law_one ∈ fn := List.mem_of_getElem? (i := 23) rfl
theorem m_law : q_law ∈ fn := List.mem_of_getElem? (i := 24) rfl
theorem told : Told G tab htab := told_of (by decide +kernel) (by decide +kernel) ⟨⟨60, td_common⟩, ⟨60, td_lowest⟩, ⟨60, td_plus⟩, ⟨60, td_is_less⟩, ⟨60, td_greatest_first⟩, ⟨60, td_sums_ahead⟩, ⟨60, td_most⟩, ⟨60, td_fall⟩, ⟨60, td_is_within⟩, ⟨60, td__law_pot⟩, ⟨60, td__law_digit⟩, ⟨60, td__law_low⟩, ⟨60, td__law_plus⟩, ⟨60, td__law_less⟩, ⟨60, td__law_sum⟩, ⟨60, td__law_first⟩, ⟨60, td__law_most⟩, ⟨60, td__law_number⟩, ⟨60, td__law_row⟩, ⟨60, td__law_weight⟩, ⟨60, td__law_sets⟩, ⟨60, td__law_due⟩, ⟨60, td__law_turned⟩, ⟨60, td__law_one⟩, ⟨60, td_law⟩, trivial⟩ trivial
abbrev bT : PySem.W.Frag → Bool := testB G clsT fnames
section
variable {K : PySem.W.Frag} {mg : Str → Option Value} {h : Heap}
theorem p_common (c : SaysW bT fn K) (k : TestOk G clsT fnames K mg) : FnP K mg tab ("common", [(2, [])]) := by
  obtain ⟨fd, FD⟩ := c.fun_ m_common
  refine ⟨⟨top 2, ["one", "other"], ["one", "other"], d_common⟩, fd, by kernel_rfl, ⟨_, _, FD⟩, fun m dv h => ?_⟩
  obtain ⟨rfl, rfl⟩ := sig1 h
  exact ⟨[], [], FunD.bindsN FD fun _ _ _ _ _ _ us hl => (match us, hl with | [_, _], _ => rfl), .nil, fun _ => .nil⟩
theorem p_lowest (c : SaysW bT fn K) (k : TestOk G clsT fnames K mg) : FnP K mg tab ("lowest", [(2, [])]) := by
  obtain ⟨fd, FD⟩ := c.fun_ m_lowest
  refine ⟨⟨top 3, ["above", "below"], ["above", "below", "share"], d_lowest⟩, fd, by kernel_rfl, ⟨_, _, FD⟩, fun m dv h => ?_⟩
  obtain ⟨rfl, rfl⟩ := sig1 h
  exact ⟨[], [], FunD.bindsN FD fun _ _ _ _ _ _ us hl => (match us, hl with | [_, _], _ => rfl), .nil, fun _ => .nil⟩
theorem p_plus (c : SaysW bT fn K) (k : TestOk G clsT fnames K mg) : FnP K mg tab ("plus", [(2, [])]) := by
  obtain ⟨fd, FD⟩ := c.fun_ m_plus
  refine ⟨⟨top 4, ["one", "other"], ["one", "other"], d_plus⟩, fd, by kernel_rfl, ⟨_, _, FD⟩, fun m dv h => ?_⟩
  obtain ⟨rfl, rfl⟩ := sig1 h
  exact ⟨[], [], FunD.bindsN FD fun _ _ _ _ _ _ us hl => (match us, hl with | [_, _], _ => rfl), .nil, fun _ => .nil⟩
theorem p_is_less (c : SaysW bT fn K) (k : TestOk G clsT fnames K mg) : FnP K mg tab ("is_less", [(2, [])]) := by
  obtain ⟨fd, FD⟩ := c.fun_ m_is_less
  refine ⟨⟨top 5, ["one", "other"], ["one", "other"], d_is_less⟩, fd, by kernel_rfl, ⟨_, _, FD⟩, fun m dv h => ?_⟩
  obtain ⟨rfl, rfl⟩ := sig1 h
  exact ⟨[], [], FunD.bindsN FD fun _ _ _ _ _ _ us hl => (match us, hl with | [_, _], _ => rfl), .nil, fun _ => .nil⟩
theorem p_greatest_first (c : SaysW bT fn K) (k : TestOk G clsT fnames K mg) : FnP K mg tab ("greatest_first", [(1, [])]) := by
  obtain ⟨fd, FD⟩ := c.fun_ m_greatest_first
  refine ⟨⟨top 7, ["row"], ["row", "found", "place", "one", "at", "k"], d_greatest_first⟩, fd, by kernel_rfl, ⟨_, _, FD⟩, fun m dv h => ?_⟩
  obtain ⟨rfl, rfl⟩ := sig1 h
  exact ⟨[], [], FunD.bindsN FD fun _ _ _ _ _ _ us hl => (match us, hl with | [_], _ => rfl), .nil, fun _ => .nil⟩
theorem p_sums_ahead (c : SaysW bT fn K) (k : TestOk G clsT fnames K mg) : FnP K mg tab ("sums_ahead", [(1, [])]) := by
  obtain ⟨fd, FD⟩ := c.fun_ m_sums_ahead
  refine ⟨⟨top 8, ["row"], ["row", "found", "place"], d_sums_ahead⟩, fd, by kernel_rfl, ⟨_, _, FD⟩, fun m dv h => ?_⟩
  obtain ⟨rfl, rfl⟩ := sig1 h
  exact ⟨[], [], FunD.bindsN FD fun _ _ _ _ _ _ us hl => (match us, hl with | [_], _ => rfl), .nil, fun _ => .nil⟩
theorem p_most (c : SaysW bT fn K) (k : TestOk G clsT fnames K mg) : FnP K mg tab ("most", [(3, [])]) := by
  obtain ⟨fd, FD⟩ := c.fun_ m_most
  refine ⟨⟨top 9, ["weight", "seats", "many"], ["weight", "seats", "many"], d_most⟩, fd, by kernel_rfl, ⟨_, _, FD⟩, fun m dv h => ?_⟩
  obtain ⟨rfl, rfl⟩ := sig1 h
  exact ⟨[], [], FunD.bindsN FD fun _ _ _ _ _ _ us hl => (match us, hl with | [_, _, _], _ => rfl), .nil, fun _ => .nil⟩
theorem p_fall (c : SaysW bT fn K) (k : TestOk G clsT fnames K mg) : FnP K mg tab ("fall", [(2, [])]) := by
  obtain ⟨fd, FD⟩ := c.fun_ m_fall
  refine ⟨⟨top 10, ["weight", "row"], ["weight", "row", "many", "one"], d_fall⟩, fd, by kernel_rfl, ⟨_, _, FD⟩, fun m dv h => ?_⟩
  obtain ⟨rfl, rfl⟩ := sig1 h
  exact ⟨[], [], FunD.bindsN FD fun _ _ _ _ _ _ us hl => (match us, hl with | [_, _], _ => rfl), .nil, fun _ => .nil⟩
theorem p_is_within (c : SaysW bT fn K) (k : TestOk G clsT fnames K mg) : FnP K mg tab ("is_within", [(2, [])]) := by
  obtain ⟨fd, FD⟩ := c.fun_ m_is_within
  refine ⟨⟨top 11, ["weight", "row"], ["weight", "row"], d_is_within⟩, fd, by kernel_rfl, ⟨_, _, FD⟩, fun m dv h => ?_⟩
  obtain ⟨rfl, rfl⟩ := sig1 h
  exact ⟨[], [], FunD.bindsN FD fun _ _ _ _ _ _ us hl => (match us, hl with | [_, _], _ => rfl), .nil, fun _ => .nil⟩
theorem p__law_pot (c : SaysW bT fn K) (k : TestOk G clsT fnames K mg) : FnP K mg tab ("_law_pot", [(2, [])]) := by
  obtain ⟨fd, FD⟩ := c.fun_ m__law_pot
  refine ⟨⟨top 13, ["script", "k"], ["script", "k", "cell"], d__law_pot⟩, fd, by kernel_rfl, ⟨_, _, FD⟩, fun m dv h => ?_⟩
  obtain ⟨rfl, rfl⟩ := sig1 h
  exact ⟨[], [], FunD.bindsN FD fun _ _ _ _ _ _ us hl => (match us, hl with | [_, _], _ => rfl), .nil, fun _ => .nil⟩
theorem p__law_digit (c : SaysW bT fn K) (k : TestOk G clsT fnames K mg) : FnP K mg tab ("_law_digit", [(2, [])]) := by
  obtain ⟨fd, FD⟩ := c.fun_ m__law_digit
  refine ⟨⟨top 14, ["pot", "many"], ["pot", "many", "digit"], d__law_digit⟩, fd, by kernel_rfl, ⟨_, _, FD⟩, fun m dv h => ?_⟩
  obtain ⟨rfl, rfl⟩ := sig1 h
  exact ⟨[], [], FunD.bindsN FD fun _ _ _ _ _ _ us hl => (match us, hl with | [_, _], _ => rfl), .nil, fun _ => .nil⟩
theorem p__law_low (c : SaysW bT fn K) (k : TestOk G clsT fnames K mg) : FnP K mg tab ("_law_low", [(2, [])]) := by
  obtain ⟨fd, FD⟩ := c.fun_ m__law_low
  refine ⟨⟨top 15, ["above", "below"], ["above", "below", "one", "other"], d__law_low⟩, fd, by kernel_rfl, ⟨_, _, FD⟩, fun m dv h => ?_⟩
  obtain ⟨rfl, rfl⟩ := sig1 h
  exact ⟨[], [], FunD.bindsN FD fun _ _ _ _ _ _ us hl => (match us, hl with | [_, _], _ => rfl), .nil, fun _ => .nil⟩
theorem p__law_plus (c : SaysW bT fn K) (k : TestOk G clsT fnames K mg) : FnP K mg tab ("_law_plus", [(2, [])]) := by
  obtain ⟨fd, FD⟩ := c.fun_ m__law_plus
  refine ⟨⟨top 16, ["one", "other"], ["one", "other"], d__law_plus⟩, fd, by kernel_rfl, ⟨_, _, FD⟩, fun m dv h => ?_⟩
  obtain ⟨rfl, rfl⟩ := sig1 h
  exact ⟨[], [], FunD.bindsN FD fun _ _ _ _ _ _ us hl => (match us, hl with | [_, _], _ => rfl), .nil, fun _ => .nil⟩
theorem p__law_less (c : SaysW bT fn K) (k : TestOk G clsT fnames K mg) : FnP K mg tab ("_law_less", [(2, [])]) := by
  obtain ⟨fd, FD⟩ := c.fun_ m__law_less
  refine ⟨⟨top 17, ["one", "other"], ["one", "other"], d__law_less⟩, fd, by kernel_rfl, ⟨_, _, FD⟩, fun m dv h => ?_⟩
  obtain ⟨rfl, rfl⟩ := sig1 h
  exact ⟨[], [], FunD.bindsN FD fun _ _ _ _ _ _ us hl => (match us, hl with | [_, _], _ => rfl), .nil, fun _ => .nil⟩
theorem p__law_sum (c : SaysW bT fn K) (k : TestOk G clsT fnames K mg) : FnP K mg tab ("_law_sum", [(1, [])]) := by
  obtain ⟨fd, FD⟩ := c.fun_ m__law_sum
  refine ⟨⟨top 18, ["parts"], ["parts", "found", "one"], d__law_sum⟩, fd, by kernel_rfl, ⟨_, _, FD⟩, fun m dv h => ?_⟩
  obtain ⟨rfl, rfl⟩ := sig1 h
  exact ⟨[], [], FunD.bindsN FD fun _ _ _ _ _ _ us hl => (match us, hl with | [_], _ => rfl), .nil, fun _ => .nil⟩
theorem p__law_first (c : SaysW bT fn K) (k : TestOk G clsT fnames K mg) : FnP K mg tab ("_law_first", [(1, [])]) := by
  obtain ⟨fd, FD⟩ := c.fun_ m__law_first
  refine ⟨⟨top 19, ["row"], ["row", "left", "found", "at", "k"], d__law_first⟩, fd, by kernel_rfl, ⟨_, _, FD⟩, fun m dv h => ?_⟩
  obtain ⟨rfl, rfl⟩ := sig1 h
  exact ⟨[], [], FunD.bindsN FD fun _ _ _ _ _ _ us hl => (match us, hl with | [_], _ => rfl), .nil, fun _ => .nil⟩
theorem p__law_most (c : SaysW bT fn K) (k : TestOk G clsT fnames K mg) : FnP K mg tab ("_law_most", [(3, [])]) := by
  obtain ⟨fd, FD⟩ := c.fun_ m__law_most
  refine ⟨⟨top 20, ["weight", "many", "k"], ["weight", "many", "k"], d__law_most⟩, fd, by kernel_rfl, ⟨_, _, FD⟩, fun m dv h => ?_⟩
  obtain ⟨rfl, rfl⟩ := sig1 h
  exact ⟨[], [], FunD.bindsN FD fun _ _ _ _ _ _ us hl => (match us, hl with | [_, _, _], _ => rfl), .nil, fun _ => .nil⟩
theorem p__law_number (c : SaysW bT fn K) (k : TestOk G clsT fnames K mg) : FnP K mg tab ("_law_number", [(1, [])]) := by
  obtain ⟨fd, FD⟩ := c.fun_ m__law_number
  refine ⟨⟨top 21, ["pot"], ["pot", "far"], d__law_number⟩, fd, by kernel_rfl, ⟨_, _, FD⟩, fun m dv h => ?_⟩
  obtain ⟨rfl, rfl⟩ := sig1 h
  exact ⟨[], [], FunD.bindsN FD fun _ _ _ _ _ _ us hl => (match us, hl with | [_], _ => rfl), .nil, fun _ => .nil⟩
theorem p__law_row (c : SaysW bT fn K) (k : TestOk G clsT fnames K mg) : FnP K mg tab ("_law_row", [(2, [])]) := by
  obtain ⟨fd, FD⟩ := c.fun_ m__law_row
  refine ⟨⟨top 22, ["pot", "many"], ["pot", "many", "row", "whole", "k", "one"], d__law_row⟩, fd, by kernel_rfl, ⟨_, _, FD⟩, fun m dv h => ?_⟩
  obtain ⟨rfl, rfl⟩ := sig1 h
  exact ⟨[], [], FunD.bindsN FD fun _ _ _ _ _ _ us hl => (match us, hl with | [_, _], _ => rfl), .nil, fun _ => .nil⟩
theorem p__law_weight (c : SaysW bT fn K) (k : TestOk G clsT fnames K mg) : FnP K mg tab ("_law_weight", [(1, [])]) := by
  obtain ⟨fd, FD⟩ := c.fun_ m__law_weight
  refine ⟨⟨top 23, ["row"], ["row", "weight", "order", "k", "above", "below", "by", "at"], d__law_weight⟩, fd, by kernel_rfl, ⟨_, _, FD⟩, fun m dv h => ?_⟩
  obtain ⟨rfl, rfl⟩ := sig1 h
  exact ⟨[], [], FunD.bindsN FD fun _ _ _ _ _ _ us hl => (match us, hl with | [_], _ => rfl), .nil, fun _ => .nil⟩
theorem p__law_sets (c : SaysW bT fn K) (k : TestOk G clsT fnames K mg) : FnP K mg tab ("_law_sets", [(1, [])]) := by
  obtain ⟨fd, FD⟩ := c.fun_ m__law_sets
  refine ⟨⟨top 24, ["many"], ["many", "found", "k", "some"], d__law_sets⟩, fd, by kernel_rfl, ⟨_, _, FD⟩, fun m dv h => ?_⟩
  obtain ⟨rfl, rfl⟩ := sig1 h
  exact ⟨[], [], FunD.bindsN FD fun _ _ _ _ _ _ us hl => (match us, hl with | [_], _ => rfl), .nil, fun _ => .nil⟩
theorem p__law_due (c : SaysW bT fn K) (k : TestOk G clsT fnames K mg) : FnP K mg tab ("_law_due", [(2, [])]) := by
  obtain ⟨fd, FD⟩ := c.fun_ m__law_due
  refine ⟨⟨top 25, ["weight", "row"], ["weight", "row", "some", "told", "bound", "k"], d__law_due⟩, fd, by kernel_rfl, ⟨_, _, FD⟩, fun m dv h => ?_⟩
  obtain ⟨rfl, rfl⟩ := sig1 h
  exact ⟨[], [], FunD.bindsN FD fun _ _ _ _ _ _ us hl => (match us, hl with | [_, _], _ => rfl), .nil, fun _ => .nil⟩
theorem p__law_turned (c : SaysW bT fn K) (k : TestOk G clsT fnames K mg) : FnP K mg tab ("_law_turned", [(2, [])]) := by
  obtain ⟨fd, FD⟩ := c.fun_ m__law_turned
  refine ⟨⟨top 26, ["pot", "row"], ["pot", "row", "left", "found", "k"], d__law_turned⟩, fd, by kernel_rfl, ⟨_, _, FD⟩, fun m dv h => ?_⟩
  obtain ⟨rfl, rfl⟩ := sig1 h
  exact ⟨[], [], FunD.bindsN FD fun _ _ _ _ _ _ us hl => (match us, hl with | [_, _], _ => rfl), .nil, fun _ => .nil⟩
theorem p__law_one (c : SaysW bT fn K) (k : TestOk G clsT fnames K mg) : FnP K mg tab ("_law_one", [(1, [])]) := by
  obtain ⟨fd, FD⟩ := c.fun_ m__law_one
  refine ⟨⟨top 27, ["pot"], ["pot", "row", "least", "weight", "more", "due", "some", "told"], d__law_one⟩, fd, by kernel_rfl, ⟨_, _, FD⟩, fun m dv h => ?_⟩
  obtain ⟨rfl, rfl⟩ := sig1 h
  exact ⟨[], [], FunD.bindsN FD fun _ _ _ _ _ _ us hl => (match us, hl with | [_], _ => rfl), .nil, fun _ => .nil⟩
theorem know (X : K.In h) (N : h.Ns mainGlobals mg) (c : SaysW bT fn K) : Know G (isaOf clsT) tab htab K mg :=
  have k : TestOk G clsT fnames K mg := test_ok X N c.two.1
  know_of k (by decide +kernel) (by decide +kernel) (by decide +kernel) ⟨p_common c k, p_lowest c k, p_plus c k, p_is_less c k, p_greatest_first c k, p_sums_ahead c k, p_most c k, p_fall c k, p_is_within c k, p__law_pot c k, p__law_digit c k, p__law_low c k, p__law_plus c k, p__law_less c k, p__law_sum c k, p__law_first c k, p__law_most c k, p__law_number c k, p__law_row c k, p__law_weight c k, p__law_sets c k, p__law_due c k, p__law_turned c k, p__law_one c k, trivial⟩ trivial trivial
theorem law_g (X : K.In h) (N : h.Ns mainGlobals mg) (c : SaysW bT fn K) : mg ("law" : Str) = some (.ref (He.ga K "law")) := (test_ok X N c.two.1).f "law" (by decide +kernel)
end
def loose : List Str := ((["__name__", "NOUGHT", "common", "lowest", "plus", "is_less", "greatest_first", "sums_ahead", "most", "fall", "is_within", "_law_pot", "_law_digit", "_law_low", "_law_plus", "_law_less", "_law_sum", "_law_first", "_law_most", "_law_number"] : List Str) ++ (["_law_row", "_law_weight", "_law_sets", "_law_due", "_law_turned", "_law_one"] : List Str))
abbrev R : PySem.W.OpenRow := PySem.W.OpenLaw.row PySem.Challenge.rw_whoserves_k18_whole_within_both_sides
abbrev hk : PySem.W.Hook := hookW 5 bT fn
def ob (s : PySem.W.SharedT) : He.AlD := obsWG 5 bT fn (HandSHeadRun.getT s)
theorem ob_eq (s : PySem.W.SharedT) : ob s = hk.obs s.abs := obsWG_eq (HandSHeadRun.getT_eq s)
theorem run (w : World) : HandSHeadRun.RunEq R (PySem.W.view R.prog [28]) hk ob 40000 loose w := by
  intro os
  kernel_rfl
set_option maxHeartbeats 1000000
local macro_rules | `(tactic| walk_at "ws") => `(tactic| ((try dsimp only [WS.topD_nx, WS.topD_rt, WS.topD_bk, WS.topD_ct, WS.topD_ex, WS.sSeq, WS.sSet, WS.sRet, WS.sRetN, WS.sPass, WS.sBreak, WS.sCont, WS.sIf, WS.sExpr, WS.sAsg, WS.sPar, WS.sPar3, WS.sRaise, WS.eV, WS.rg, WS.eC, WS.eBin, WS.eUn, WS.eChain, WS.eTup, WS.eLst, WS.eBi, WS.eMtL, WS.eCall, WS.eCallK, WS.eSl, WS.eIf, WS.eAnd, WS.eOr, WS.eNot, WS.eIsi, WS.aNil, WS.aCons, WS.tBool, WS.tTru, WS.tAnd, WS.tOr, WS.tNot, WS.tYes', WS.eLix, WS.plains_nil, WS.plains_cons, WS.plain_int, WS.plain_bl, WS.plain_str, WS.plain_non, WS.plain_ref, WS.plain_tup, WS.plain_ty, WS.plain_glob, WS.plain_scr, WS.plain_exc, WS.truth_bl, WS.truth_non, WS.truth_int, WS.eCallH, WS.vAdd, WS.vSub, WS.vMul, WS.vDiv, WS.vMod, WS.vPow, WS.vNeg, WS.vLt, WS.vLe, WS.vGt, WS.vGe, WS.vIs, WS.vIsNot, WS.vIx, WS.vSl, WS.pyAt_0, WS.pyAt_1, WS.pyAt_2, WS.pyAt_3, WS.pyAt_4, WS.pyAt_5, WS.pyAt_6, WS.pyAt_7, WS.pyAt_8, WS.pyAt_9, WS.pyAt_10, WS.pyAt_11, WS.pyAt_12, WS.pyAt_13, WS.pyAt_14, WS.pyAt_15, WS.pyAt_16, WS.pyAt_17, WS.gN, WS.gT, WS.gsCons, WS.gsNil, WS.gIx, WS.vSet, WS.bAbs, WS.bLen, WS.vLen, WS.bMax, WS.bMin, WS.bDivmod, WS.bInt, WS.bTuple, WS.bList, WS.isLst, WS.mAppend, WS.mPop, WS.eD0, WS.eD1, WS.keyOf, WS.bStr, WS.vRev, WS.vRev0, WS.bSorted, WS.eLRng1, WS.mReverse, WS.mClear, WS.mPopAt, WS.mExtend, WS.mInsert, WS.seqW, WS.iEnum', WS.iZip', WS.iSeq, WS.iRng1', WS.iRng2', WS.sFor, WS.eLc, WS.wipeR, WS.plainR, WS.sTry, WS.sTryAs, WS.hnd, WS.suD, WS.suI, WS.noX, WS.eXf, List.set, List.length_cons, List.length_nil, List.append_nil, List.cons_append, List.nil_append]); (try simp only [Int.cast_ofNat_Int, false_and, or_false, false_or, and_false, List.set_cons_zero, List.set_cons_succ, true_and, and_true, Bool.true_and, Bool.and_true, Bool.false_and, Bool.and_false, if_true, if_false, ite_true, ite_false, reduceIte, decide_true, decide_false, Bool.not_true, Bool.not_false, Bool.false_eq_true, Int.reducePow, Int.reduceNeg, Int.reduceSub, Int.reduceAdd, Int.reduceMul, Int.reduceToNat, Int.reduceLE, Int.reduceLT, Nat.reduceAdd, Nat.reduceLT, Nat.reduceLeDiff, Nat.zero_add, Int.toNat_zero, Int.toNat_one, List.getElem?_cons_zero, List.getElem?_cons_succ, List.length_cons, List.length_nil, List.append_nil, List.cons_append, List.nil_append, WS.put_put, WS.put_same, WS.seq_put, WS.plains_nil, WS.plains_cons, WS.plain_int, WS.plain_bl, WS.plain_str, WS.plain_non, WS.plain_ref, WS.plain_tup, WS.plain_ty, WS.plain_glob, WS.plain_scr, WS.plain_exc, WS.truth_bl, WS.truth_non, WS.truth_int, WS.vEq_int, WS.vNe_int, WS.vEq_str, WS.vNe_str, WS.vEq_bl, WS.vNe_bl, WS.pyAt_0, WS.pyAt_1, WS.pyAt_2, WS.pyAt_3, WS.pyAt_4, WS.pyAt_5, WS.pyAt_6, WS.pyAt_7, WS.pyAt_8, WS.pyAt_9, WS.pyAt_10, WS.pyAt_11, WS.pyAt_12, WS.pyAt_13, WS.pyAt_14, WS.pyAt_15, WS.pyAt_16, WS.pyAt_17])))
theorem gcd_abs (a b : Int) : Int.gcd (if a < 0 then -a else a) b = Int.gcd a b := by
  split
  · exact Int.neg_gcd
  · rfl
theorem abs_nn (a : Int) : 0 ≤ (if a < 0 then -a else a) := by split <;> omega
theorem gcd_bd {B : Nat} {a b : Int} (hb : 0 < b) (h : Bd B b) : Bd B (Int.gcd a b : Int) := by
  refine h.le ?_
  have := Int.gcd_le_natAbs_right a (b := b) (by omega)
  omega
/-- sums and multiples of parts, by any fractions that they stand for -/
theorem low_eq {a b c d : Int} (hb : 0 < b) (hd : 0 < d) (e : a * d = c * b) : low a b = low c d := by
  have P := low_pt (a := c) hd
  have x := low_cross c d
  generalize low c d = r at *
  obtain ⟨r1, r2⟩ := r
  refine low_uniq hb P.pos P.cop ?_
  simp only at x
  refine Int.eq_of_mul_eq_mul_right (a := d) (by omega) ?_
  grind
theorem low_inj {a b c d : Int} (hb : 0 < b) (hd : 0 < d) (e : low a b = low c d) : a * d = c * b := by
  have P := low_pt (a := a) hb
  have x := low_cross a b
  have y := low_cross c d
  rw [← e] at y
  have z := P.pos
  generalize low a b = r at *
  refine Int.eq_of_mul_eq_mul_right (a := r.2) (by omega) ?_
  grind
theorem low_padd {a b c d : Int} (hb : 0 < b) (hd : 0 < d) : padd (low a b) (low c d) = low (a * d + c * b) (b * d) := by
  have P := low_pt (a := a) hb
  have R := low_pt (a := c) hd
  have x := low_cross a b
  have y := low_cross c d
  have p0 := P.pos
  have r0 := R.pos
  unfold padd
  generalize low a b = p at *
  generalize low c d = r at *
  refine low_eq (Int.mul_pos p0 r0) (Int.mul_pos hb hd) ?_
  grind
def ptimes (p : Int × Int) (m : Int) : Int × Int := low (p.1 * m) p.2
theorem low_ptimes {a b m : Int} (hb : 0 < b) : ptimes (low a b) m = low (a * m) b := by
  have P := low_pt (a := a) hb
  have x := low_cross a b
  have p0 := P.pos
  unfold ptimes
  generalize low a b = p at *
  refine low_eq p0 hb ?_
  grind
theorem ptimes_pt {p : Int × Int} {m : Int} (h : Pt p) : Pt (ptimes p m) := low_pt h.pos
theorem ptimes_pb {A B : Nat} {p : Int × Int} {m : Int} (h : Pt p) (b : PB A p) (bm : Bd B m) : PB (A + B) (ptimes p m) := low_pb (b.a.mul bm) (b.b.mono (by omega)) h.pos
/-- less, of parts -/
def plt (p q : Int × Int) : Bool := decide (p.1 * q.2 < q.1 * p.2)
theorem plt_low {a b c d : Int} (hb : 0 < b) (hd : 0 < d) : plt (low a b) (low c d) = decide (a * d < c * b) := by
  have P := low_pt (a := a) hb
  have R := low_pt (a := c) hd
  have g := gcd_pos (a := a) hb
  have g2 := gcd_pos (a := c) hd
  have x1 := low1 a b
  have x2 := low2 a b
  have y1 := low1 c d
  have y2 := low2 c d
  unfold plt
  generalize low a b = p at *
  generalize low c d = r at *
  generalize (Int.gcd a b : Int) = u at *
  generalize (Int.gcd c d : Int) = v at *
  have uv : 0 < u * v := Int.mul_pos g g2
  have e1 : a * d = p.1 * r.2 * (u * v) := by grind
  have e2 : c * b = r.1 * p.2 * (u * v) := by grind
  rw [e1, e2]
  by_cases h : p.1 * r.2 < r.1 * p.2
  · rw [decide_eq_true h, decide_eq_true (Int.mul_lt_mul_of_pos_right h uv)]
  · rw [decide_eq_false h, decide_eq_false fun z => h (Int.lt_of_mul_lt_mul_right z (by omega))]
def wholeB : Val → Bool
  | .int _ => true
  | _ => false
theorem isi_ty {isa : Str → Str → Option Bool} {x : Val} {h : IH} {t b : String} (ht : tyN x h = some t) (hb : b ∈ tyKnown) : vIsX isa x (.ty b) h = some (tyUp t b) := by
  have e : vIsX isa x (.ty b) h = vIsi x (.ty b) h := by
    cases x <;> first | rfl | cases ht
  rw [e]
  unfold vIsi
  simp only [ht]
  rw [if_pos hb]
theorem s_common (k : Nat) {a b : Int} {h : IH} {Q : KV} {E : XC} (ha : 0 ≤ a) (hb : 0 ≤ b) (q : Q (.int (Int.gcd a b)) h) : (C (k + 1)).run "common" [.int a, .int b] h Q E := by
  refine run_common k ?_
  unfold d_common sSeq
  refine wl_by (fun ρ h1 => ∃ x y : Int, ρ = [some (.int x), some (.int y)] ∧ h1 = h ∧ 0 ≤ x ∧ 0 ≤ y ∧ Int.gcd x y = Int.gcd a b) (fun ρ _ => match ρ with
    | [_, some (.int y)] => y.toNat
    | _ => 0) ?_ ⟨a, b, rfl, rfl, ha, hb, rfl⟩
  rintro ρ h1 R ⟨x, y, rfl, rfl, hx, hy, hg⟩ hR
  walk_at "ws"
  by_cases hp : 0 < y
  · simp only [hp, decide_true, true_and]
    refine hR _ _ _ _ .refl .refl ⟨y, x % y, rfl, rfl, hy, Int.emod_nonneg _ (by omega), ?_⟩ ?_
    · rw [← hg]
      exact gcd_mod x y
    · have := Int.emod_lt_of_pos x hp
      show (x % y).toNat < y.toNat
      omega
  · simp only [hp, decide_false]
    have e : y = 0 := by omega
    subst e
    rw [← hg, Int.gcd_zero_right] at q
    have e2 : ((x.natAbs : Nat) : Int) = x := by omega
    rw [e2] at q
    (unfold d_common_2; walk_at "ws")
    exact fg .refl q
theorem s_lowest (k : Nat) {a b : Int} {B : Nat} {h : IH} {Q : KV} {E : XC} (hb : 0 < b) (bd : Bd B b) (hB : B < 9000) (q : Q (pt (low a b)) h) : (C (k + 2)).run "lowest" [.int a, .int b] h Q E := by
  refine run_lowest (k + 1) ?_
  (unfold d_lowest; obtain ⟨D0', e0'⟩ : ∃ D : WS.DS, D = d_lowest_2 := ⟨_, rfl⟩; rw [← e0']; walk_at "ws"; subst e0')
  refine s_common k (abs_nn a) (by omega) ?_
  rw [gcd_abs]
  (unfold d_lowest_2; walk_at "ws")
  have g := gcd_pos (a := a) hb
  have d := (gcd_bd (a := a) hb bd).divOk hB
  exact ⟨g, d, g, d, by decide, fg .refl q⟩
theorem s_plus (k : Nat) {p q : Int × Int} {A B : Nat} {h : IH} {Q : KV} {E : XC} (hp : Pt p) (hq : Pt q) (bp : PB A p) (bq : PB B q) (hB : A + B < 9000) (z : Q (pt (padd p q)) h) : (C (k + 3)).run "plus" [pt p, pt q] h Q E := by
  refine run_plus (k + 2) ?_
  (unfold d_plus; walk_at "ws")
  refine ⟨bp.a.mulOk bq.b (by omega), bq.a.mulOk bp.b (by omega), bp.b.mulOk bq.b (by omega), ?_⟩
  exact s_lowest k (Int.mul_pos hp.pos hq.pos) (bp.b.mul bq.b) hB (fg .refl z)
def psum (s : Int × Int) (ps : List (Int × Int)) : Int × Int := ps.foldl padd s
theorem psum_ok {B : Nat} : ∀ {ps : List (Int × Int)} {s : Int × Int} {A : Nat}, Pt s → PB A s → (∀ p ∈ ps, Pt p ∧ PB B p) → Pt (psum s ps) ∧ PB (A + ps.length * (B + 1)) (psum s ps)
  | [], s, A, h1, h2, _ => ⟨h1, by simpa [psum] using h2⟩
  | p :: ps, s, A, h1, h2, h3 => by
    obtain ⟨q1, q2⟩ := h3 p (by simp)
    have r := psum_ok (ps := ps) (s := padd s p) (A := A + B + 1) (padd_pt h1 q1) (padd_pb h2 q2 h1 q1) fun x hx => h3 x (by simp [hx])
    refine ⟨r.1, r.2.mono ?_⟩
    rw [List.length_cons, Nat.add_mul]
    omega
theorem psum_take {s : Int × Int} {ps : List (Int × Int)} {i : Nat} {p : Int × Int} (h : ps[i]? = some p) : psum s (ps.take (i + 1)) = padd (psum s (ps.take i)) p := by
  unfold psum
  rw [List.take_succ, h]
  simp
theorem zero_pt : Pt (0, 1) := ⟨by decide, by decide⟩
theorem zero_pb : PB 1 (0, 1) := ⟨by unfold Bd; decide, by unfold Bd; decide⟩
theorem map_get {ps : List (Int × Int)} {i : Nat} {x : Val} (h : (ps.map pt)[i]? = some x) : ∃ p, ps[i]? = some p ∧ x = pt p ∧ p ∈ ps ∧ i < ps.length := by
  rw [List.getElem?_map] at h
  cases e : ps[i]? with
  | none => rw [e] at h; cases h
  | some p =>
    rw [e] at h
    cases h
    exact ⟨p, rfl, rfl, List.mem_of_getElem? e, (List.getElem?_eq_some_iff.mp e).1⟩
/-- what part is handed: a whole number of so many bits, or a thing that is none -/
def OkV (v : Val) (h : IH) : Prop := Kn v h ∧ (wholeB v = false ∨ ∃ i, v = .int i ∧ Bd 345 i)
theorem OkV.put {v : Val} {h : IH} {a : Addr} {c : Cell} (o : OkV v h) (hc : tyC c = true) : OkV v (put h a c) := ⟨o.1.put hc, o.2⟩
theorem OkV.ev {v : Val} {h h' : IH} {a : Addr} {x y : Int} (o : OkV v h) (ha : h a = some (potC x y)) (e : Ev h a h') : OkV v h' := by
  refine ⟨o.1.sub fun b c z => ?_, o.2⟩
  by_cases n : b = a
  · subst n
    obtain ⟨x', y', e1, _⟩ := e.pot
    rw [ha] at z
    cases z
    exact ⟨_, e1, fun _ => rfl, fun t => nomatch t⟩
  · exact ⟨c, e.fr b c n z, fun t => t, fun _ => rfl⟩
theorem OkV.int {h : IH} {i : Int} (b : Bd 345 i) : OkV (.int i) h := ⟨.int, .inr ⟨i, rfl, b⟩⟩
theorem OkV.one {h : IH} {v : Val} (o : OkV v h) : (∃ t, tyN v h = some t) ∧ ∀ j, v = .int j → Bd 4000 j := by
  refine ⟨o.1.1, fun j e => ?_⟩
  subst e
  rcases o.2 with z | ⟨i, e, b⟩
  · cases z
  · cases e; exact b.mono (by decide)
def qv (p : Int × Int) : Rat := (p.1 : Rat) / (p.2 : Rat)
def qsum : List Rat → Rat
  | [] => 0
  | x :: xs => x + qsum xs
theorem qsum_perm {a b : List Rat} (h : a.Perm b) : qsum a = qsum b := by
  induction h with
  | nil => rfl
  | cons x _ ih => simp only [qsum, ih]
  | swap x y l => simp only [qsum]; grind
  | trans _ _ i j => exact i.trans j
theorem qsum_append (a b : List Rat) : qsum (a ++ b) = qsum a + qsum b := by
  induction a with
  | nil => simp only [List.nil_append, qsum]; grind
  | cons x a ih => simp only [List.cons_append, qsum, ih]; grind
/-- so many of the greatest come to no less than any so many -/
theorem top_sum : ∀ (L : List Rat), L.Pairwise (fun a b => b ≤ a) → ∀ S R : List Rat, (S ++ R).Perm L → qsum S ≤ qsum (L.take S.length)
  | [], _, S, R, h => by
    have e := List.append_eq_nil_iff.mp (List.Perm.eq_nil h)
    rw [e.1]; exact Rat.le_refl
  | x :: L, hs, [], R, h => by simp [qsum]
  | x :: L, hs, y :: S, R, h => by
    obtain ⟨h1, h2⟩ := List.pairwise_cons.mp hs
    have hx : x ∈ (y :: S) ++ R := h.mem_iff.mpr List.mem_cons_self
    have hle : ∀ z ∈ (y :: S) ++ R, z ≤ x := fun z hz => by
      rcases List.mem_cons.mp (h.mem_iff.mp hz) with e | e
      · rw [e]; exact Rat.le_refl
      · exact h1 z e
    show qsum (y :: S) ≤ qsum (x :: L.take S.length)
    rcases List.mem_append.mp hx with hx | hx
    · obtain ⟨S', hS⟩ : ∃ S', (y :: S).Perm (x :: S') := ⟨(y :: S).erase x, List.perm_cons_erase hx⟩
      have hp : (S' ++ R).Perm L := List.Perm.cons_inv (((hS.append_right R).symm).trans h)
      have hl : S'.length = S.length := by have := hS.length_eq; simpa using this.symm
      have ih := top_sum L h2 S' R hp
      rw [qsum_perm hS, ← hl]
      simp only [qsum]
      grind
    · obtain ⟨R', hR⟩ : ∃ R', R.Perm (x :: R') := ⟨R.erase x, List.perm_cons_erase hx⟩
      have hp : (S ++ (y :: R')).Perm L := by
        refine List.Perm.cons_inv (a := x) (List.Perm.trans ?_ h)
        have a1 : (x :: (S ++ y :: R')).Perm (x :: y :: (S ++ R')) := List.Perm.cons x List.perm_middle
        have a2 : ((y :: S) ++ R).Perm ((y :: S) ++ (x :: R')) := List.Perm.append_left _ hR
        have a3 : ((y :: S) ++ (x :: R')).Perm (x :: ((y :: S) ++ R')) := List.perm_middle
        have a4 : (x :: ((y :: S) ++ R')) = x :: y :: (S ++ R') := rfl
        exact a1.trans ((a4 ▸ a3).symm.trans a2.symm)
      have ih := top_sum L h2 S (y :: R') hp
      have := hle y (by simp)
      simp only [qsum]
      grind
/-! the greatest first -/
def insG (v : Nat → Rat) (f : List Nat) (i : Nat) : List Nat :=
  f.take (f.filter fun k => decide (v i ≤ v k)).length ++ [i] ++ f.drop (f.filter fun k => decide (v i ≤ v k)).length
def gf (v : Nat → Rat) : Nat → List Nat
  | 0 => []
  | i + 1 => insG v (gf v i) i
def RR (v : Nat → Rat) (a b : Nat) : Prop := v b < v a ∨ (v b = v a ∧ a < b)
theorem filter_front {P : Nat → Bool} : ∀ {f : List Nat}, f.Pairwise (fun a b => P b = true → P a = true) → f.take (f.filter P).length = f.filter P ∧ f.drop (f.filter P).length = f.filter (fun x => !P x)
  | [], _ => ⟨rfl, rfl⟩
  | x :: f, h => by
    obtain ⟨h1, h2⟩ := List.pairwise_cons.mp h
    cases hx : P x with
    | true =>
      obtain ⟨i1, i2⟩ := filter_front h2
      simp [List.filter_cons, hx, i1, i2]
    | false =>
      have no : ∀ y ∈ f, P y = false := fun y hy => by
        cases hy' : P y with
        | false => rfl
        | true => have := h1 y hy hy'; rw [hx] at this; cases this
      have e1 : f.filter P = [] := List.filter_eq_nil_iff.mpr fun y hy => by simp [no y hy]
      have e2 : f.filter (fun x => !P x) = f := List.filter_eq_self.mpr fun y hy => by simp [no y hy]
      simp [List.filter_cons, hx, e1, e2]
theorem insG_perm {v : Nat → Rat} {f : List Nat} {i : Nat} : (insG v f i).Perm (i :: f) := by
  unfold insG
  generalize (f.filter fun k => decide (v i ≤ v k)).length = n
  have a : (f.take n ++ [i] ++ f.drop n).Perm ([i] ++ f.take n ++ f.drop n) := List.Perm.append_right _ List.perm_append_comm
  simpa [List.take_append_drop] using a
theorem insG_sort {v : Nat → Rat} {f : List Nat} {i : Nat} (hf : f.Pairwise (RR v)) (hi : ∀ k ∈ f, k < i) : (insG v f i).Pairwise (RR v) := by
  have mono : f.Pairwise (fun a b => decide (v i ≤ v b) = true → decide (v i ≤ v a) = true) := hf.imp fun {a b} r q => by
    have q := of_decide_eq_true q
    refine decide_eq_true ?_
    rcases r with r | r
    · grind
    · grind
  obtain ⟨e1, e2⟩ := filter_front mono
  unfold insG
  rw [e1, e2, List.append_assoc]
  refine List.pairwise_append.mpr ⟨hf.sublist List.filter_sublist, ?_, ?_⟩
  · refine List.pairwise_append.mpr ⟨List.pairwise_singleton .., hf.sublist List.filter_sublist, fun a ha b hb => ?_⟩
    have hb := (List.mem_filter.mp hb).2
    have : a = i := by simpa using ha
    subst this
    have hb : ¬ v a ≤ v b := by simpa using hb
    exact .inl (Rat.not_le.mp hb)
  · intro a ha b hb
    obtain ⟨a1, a2⟩ := List.mem_filter.mp ha
    have a2 : v i ≤ v a := of_decide_eq_true a2
    rcases List.mem_append.mp hb with hb | hb
    · have : b = i := by simpa using hb
      subst this
      have := hi a a1
      unfold RR
      by_cases q : v b < v a
      · exact .inl q
      · exact .inr ⟨by grind, this⟩
    · have hb := (List.mem_filter.mp hb).2
      have hb : ¬ v i ≤ v b := by simpa using hb
      exact .inl (by grind)
theorem gf_perm {v : Nat → Rat} : ∀ n, (gf v n).Perm (List.range n)
  | 0 => .refl _
  | n + 1 => by
    have a : (gf v (n + 1)).Perm (n :: gf v n) := insG_perm
    rw [List.range_succ]
    exact a.trans ((List.Perm.cons n (gf_perm n)).trans (List.perm_append_singleton n _).symm)
theorem gf_lt {v : Nat → Rat} {n k : Nat} (h : k ∈ gf v n) : k < n := List.mem_range.mp ((gf_perm n).mem_iff.mp h)
theorem gf_len {v : Nat → Rat} {n : Nat} : (gf v n).length = n := by rw [(gf_perm n).length_eq, List.length_range]
theorem gf_sort {v : Nat → Rat} : ∀ n, (gf v n).Pairwise (RR v)
  | 0 => .nil
  | n + 1 => insG_sort (gf_sort n) fun k hk => gf_lt hk
theorem gf_nodup {v : Nat → Rat} {n : Nat} : (gf v n).Nodup := (gf_perm n).nodup_iff.mpr List.nodup_range
theorem gf_desc {v : Nat → Rat} {n : Nat} : ((gf v n).map v).Pairwise (fun a b => b ≤ a) := by
  refine List.pairwise_map.mpr ((gf_sort n).imp fun {a b} r => ?_)
  rcases r with r | r <;> grind
/-- any places of the row come to no more than so many of the first ones -/
theorem gf_top {v : Nat → Rat} {n : Nat} {s : List Nat} (h : s.Sublist (List.range n)) : qsum (s.map v) ≤ qsum (((gf v n).take s.length).map v) := by
  obtain ⟨r, hr⟩ := h.exists_perm_append
  have hp : (s.map v ++ r.map v).Perm ((gf v n).map v) := by
    rw [← List.map_append]
    exact (hr.symm.trans (gf_perm n).symm).map v
  have := top_sum _ gf_desc _ _ hp
  rwa [List.length_map, ← List.map_take] at this
/-- .. and so many places come to just that -/
theorem gf_hit {v : Nat → Rat} {n m : Nat} (hm : m ≤ n) : ∃ s : List Nat, s.Sublist (List.range n) ∧ s.length = m ∧ qsum (s.map v) = qsum (((gf v n).take m).map v) := by
  have hp : ((List.range n).filter fun k => ((gf v n).take m).contains k).Perm ((gf v n).take m) := by
    refine (List.perm_ext_iff_of_nodup (List.nodup_range.sublist List.filter_sublist) (gf_nodup.sublist (List.take_sublist _ _))).mpr fun k => ?_
    constructor
    · intro h; simpa using (List.mem_filter.mp h).2
    · intro h
      exact List.mem_filter.mpr ⟨List.mem_range.mpr (gf_lt (List.mem_of_mem_take h)), by simpa using h⟩
  refine ⟨_, List.filter_sublist, ?_, qsum_perm (hp.map v)⟩
  rw [hp.length_eq, List.length_take, gf_len]
  omega
theorem qv_cross {a b c d : Int} (hb : 0 < b) (hd : 0 < d) (e : a * d = c * b) : qv (a, b) = qv (c, d) := by
  have hb' : (b : Rat) ≠ 0 := by
    intro z
    have : b = 0 := by exact_mod_cast z
    omega
  have hd' : (d : Rat) ≠ 0 := by
    intro z
    have : d = 0 := by exact_mod_cast z
    omega
  have e' : (a : Rat) * d = c * b := by exact_mod_cast e
  show (a : Rat) / b = (c : Rat) / d
  grind
theorem qv_low {a b : Int} (hb : 0 < b) : qv (low a b) = qv (a, b) := by
  have h := (low_pt (a := a) hb).pos
  exact qv_cross h hb (low_cross a b)
theorem plt_qv {p q : Int × Int} (hp : 0 < p.2) (hq : 0 < q.2) : plt p q = decide (qv p < qv q) := by
  unfold plt
  have hb : (0 : Rat) < (p.2 : Rat) := by exact_mod_cast hp
  have hd : (0 : Rat) < (q.2 : Rat) := by exact_mod_cast hq
  have e : p.1 * q.2 < q.1 * p.2 ↔ qv p < qv q := by
    unfold qv
    rw [Rat.div_lt_iff hb]
    have e2 : (q.1 : Rat) / q.2 * p.2 = ((q.1 : Rat) * p.2) / q.2 := by grind
    rw [e2, Rat.lt_div_iff hd]
    constructor
    · intro h; exact_mod_cast h
    · intro h; exact_mod_cast h
  exact decide_eq_decide.mpr e
theorem qv_add {p q : Int × Int} (hp : 0 < p.2) (hq : 0 < q.2) : qv (padd p q) = qv p + qv q := by
  unfold padd
  rw [qv_low (Int.mul_pos hp hq)]
  have hb' : (p.2 : Rat) ≠ 0 := by
    intro z
    have : p.2 = 0 := by exact_mod_cast z
    omega
  have hd' : (q.2 : Rat) ≠ 0 := by
    intro z
    have : q.2 = 0 := by exact_mod_cast z
    omega
  show ((p.1 * q.2 + q.1 * p.2 : Int) : Rat) / ((p.2 * q.2 : Int) : Rat) = (p.1 : Rat) / p.2 + (q.1 : Rat) / q.2
  push_cast
  grind
theorem qv_inj {p q : Int × Int} (hp : Pt p) (hq : Pt q) (e : qv p = qv q) : p = q := by
  have h1 : plt p q = false := by rw [plt_qv hp.pos hq.pos, e]; exact decide_eq_false Rat.lt_irrefl
  have h2 : plt q p = false := by rw [plt_qv hq.pos hp.pos, e]; exact decide_eq_false Rat.lt_irrefl
  have h1 := of_decide_eq_false h1
  have h2 := of_decide_eq_false h2
  have c : p.1 * q.2 = q.1 * p.2 := by omega
  have z := low_eq hp.pos hq.pos c
  rw [low_self hp, low_self hq] at z
  exact z
theorem qv_zero : qv (0, 1) = 0 := by unfold qv; grind
theorem qv_psum {ps : List (Int × Int)} : ∀ {s : Int × Int}, Pt s → (∀ p ∈ ps, Pt p) → qv (psum s ps) = qv s + qsum (ps.map qv) := by
  induction ps with
  | nil => intro s _ _; simp only [psum, List.foldl_nil, List.map_nil, qsum]; grind
  | cons p ps ih =>
    intro s hs hp
    have h1 := hp p List.mem_cons_self
    show qv (psum (padd s p) ps) = qv s + (qv p + qsum (ps.map qv))
    rw [ih (padd_pt hs h1) fun x hx => hp x (List.mem_cons_of_mem _ hx), qv_add hs.pos h1.pos]
    grind
/-- the places of a row, the greatest first -/
def gfr (rs : List (Int × Int)) : List Nat := gf (fun k => qv (rs.getD k (0, 1))) rs.length
def natV (n : Nat) : Val := .int n
/-- what so many of the first ones come to -/
def topS (rs : List (Int × Int)) (m : Nat) : Int × Int := psum (0, 1) (((gfr rs).take m).map fun k => rs.getD k (0, 1))
theorem gfr_len {rs : List (Int × Int)} : (gfr rs).length = rs.length := gf_len
theorem gfr_lt {rs : List (Int × Int)} {k : Nat} (h : k ∈ gfr rs) : k < rs.length := gf_lt h
theorem getD_mem {rs : List (Int × Int)} {k : Nat} (h : k < rs.length) : rs.getD k (0, 1) ∈ rs := by
  rw [List.getD_eq_getElem?_getD, List.getElem?_eq_getElem h]; exact List.getElem_mem h
theorem topS_ok {B : Nat} {rs : List (Int × Int)} {m : Nat} (hp : ∀ p ∈ rs, Pt p ∧ PB B p) : Pt (topS rs m) ∧ PB (1 + rs.length * (B + 1)) (topS rs m) := by
  have z := psum_ok (B := B) (ps := ((gfr rs).take m).map fun k => rs.getD k (0, 1)) zero_pt zero_pb fun p hp' => by
    obtain ⟨k, hk, rfl⟩ := List.mem_map.mp hp'
    exact hp _ (getD_mem (gfr_lt (List.mem_of_mem_take hk)))
  refine ⟨z.1, z.2.mono ?_⟩
  have l : (((gfr rs).take m).map fun k => rs.getD k (0, 1)).length ≤ rs.length := by
    rw [List.length_map, List.length_take, gfr_len]; omega
  have := Nat.mul_le_mul_right (B + 1) l
  omega
theorem topS_qv {rs : List (Int × Int)} {m : Nat} (hp : ∀ p ∈ rs, Pt p) : qv (topS rs m) = qsum (((gfr rs).take m).map fun k => qv (rs.getD k (0, 1))) := by
  unfold topS
  rw [qv_psum zero_pt fun p hp' => by
    obtain ⟨k, hk, rfl⟩ := List.mem_map.mp hp'
    exact hp _ (getD_mem (gfr_lt (List.mem_of_mem_take hk))), List.map_map, qv_zero]
  show (0 : Rat) + qsum (List.map (fun k => qv (rs.getD k (0, 1))) _) = _
  grind
theorem topS_succ {rs : List (Int × Int)} {i k : Nat} (h : (gfr rs)[i]? = some k) : topS rs (i + 1) = padd (topS rs i) (rs.getD k (0, 1)) := by
  unfold topS
  rw [List.take_add_one, h, List.map_append]
  simp [psum, List.foldl_append]
theorem pyAt_nat {xs : List Val} {k : Nat} (h : k < xs.length) : pyAt xs (k : Int) = xs[k]? := by
  unfold pyAt
  simp [h]
theorem ix_pt {rs : List (Int × Int)} {k : Nat} {R : Val → Prop} (h : k < rs.length) (q : R (pt (rs.getD k (0, 1)))) : match pyAt (rs.map pt) (k : Int) with
    | some y => R y
    | none => False := by
  rw [pyAt_nat (by rw [List.length_map]; exact h), List.getElem?_map, List.getElem?_eq_getElem h]
  rw [List.getD_eq_getElem?_getD, List.getElem?_eq_getElem h] at q
  exact q
theorem natV_get {f : List Nat} {i : Nat} {x : Val} (h : (f.map natV)[i]? = some x) : ∃ k, f[i]? = some k ∧ x = .int (k : Int) ∧ k ∈ f := by
  rw [List.getElem?_map] at h
  cases e : f[i]? with
  | none => rw [e] at h; cases h
  | some k => rw [e] at h; cases h; exact ⟨k, rfl, rfl, List.mem_of_getElem? e⟩
theorem s_is_less (k : Nat) {p q : Int × Int} {A B : Nat} {h : IH} {Q : KV} {E : XC} (bp : PB A p) (bq : PB B q) (hB : A + B < 100000) (z : Q (.bl (plt p q)) h) : (C (k + 1)).run "is_less" [pt p, pt q] h Q E := by
  refine run_is_less k ?_
  (unfold d_is_less; walk_at "ws")
  exact ⟨bp.a.mulOk bq.b (by omega), bq.a.mulOk bp.b (by omega), fg .refl z⟩
theorem s_greatest_first (k : Nat) {rs : List (Int × Int)} {B : Nat} {h : IH} {Q : KV} {E : XC} (hp : ∀ p ∈ rs, Pt p ∧ PB B p) (hB : B < 4000) (hl : rs.length ≤ 10000) (q : ∀ a, h a = none → Q (.ref a) (put h a (.lst ((gfr rs).map natV)))) :
    (C (k + 2)).run "greatest_first" [.tup (rs.map pt)] h Q E := by
  refine run_greatest_first (k + 1) ?_
  (unfold d_greatest_first; obtain ⟨D0', e0'⟩ : ∃ D : WS.DS, D = d_greatest_first_2 := ⟨_, rfl⟩; rw [← e0']; walk_at "ws"; subst e0')
  refine ⟨by decide, ?_⟩
  (intro p n_p)
  (unfold d_greatest_first_2; obtain ⟨D0', e0'⟩ : ∃ D : WS.DS, D = d_greatest_first_2a := ⟨_, rfl⟩; rw [← e0']; obtain ⟨D1', e1'⟩ : ∃ D : WS.DS, D = d_greatest_first_3 := ⟨_, rfl⟩; rw [← e1']; walk_at "ws"; subst e0'; subst e1')
  let v : Nat → Rat := fun k => qv (rs.getD k (0, 1))
  refine lp_by (fun i ρ h1 => i ≤ rs.length ∧ h1 = put h p (.lst ((gf v i).map natV)) ∧ ρ = [some (.tup (rs.map pt)), some (.ref p), none, none, none, none]) ?_ ?_ ⟨Nat.zero_le _, rfl, rfl⟩
  · rintro i x ρ h1 R hx ⟨hi, rfl, rfl⟩ hR
    obtain ⟨y, hy, rfl⟩ := enumL_get hx
    obtain ⟨one, h1, rfl, mem, hil⟩ := map_get hy
    have e0 : (0 : Int) + (i : Nat) = (i : Int) := by omega
    have ev : rs.getD i (0, 1) = one := by rw [List.getD_eq_getElem?_getD, h1]; rfl
    rw [e0]
    have fl : (gf v i).length = i := gf_len
    have fm : ∀ k ∈ gf v i, k < rs.length := fun k hk => Nat.lt_trans (gf_lt hk) hil
    walk_at "ws"
    (unfold d_greatest_first_2a; obtain ⟨D0', e0'⟩ : ∃ D : WS.DS, D = d_greatest_first_2a_2 := ⟨_, rfl⟩; rw [← e0']; walk_at "ws"; subst e0')
    refine lc_by (fun j acc h2 => h2 = put h p (.lst ((gf v i).map natV)) ∧ acc = (((gf v i).take j).filter fun k => decide (v i ≤ v k)).map natV) ?_ ?_ ⟨rfl, rfl⟩
    · rintro j w acc h2 R' hw ⟨rfl, rfl⟩ hR'
      obtain ⟨k', hk1, rfl, hk2⟩ := natV_get hw
      have lk := fm k' hk2
      refine ⟨by unfold lstK; exact seq_put, ?_⟩
      walk_at "ws"
      refine ix_pt lk ?_
      have mk := getD_mem lk
      refine ⟨rfl, s_is_less k (hp _ mk).2 (hp _ mem).2 (by omega) ?_⟩
      rw [plt_qv (hp _ mk).1.pos (hp _ mem).1.pos]
      have e1 : (!decide (qv (rs.getD k' (0, 1)) < qv one)) = decide (v i ≤ v k') := by
        show (!decide (v k' < qv one)) = decide (v i ≤ v k')
        have e2 : v i = qv one := congrArg qv ev
        rw [← e2]
        by_cases c : v k' < v i
        · rw [decide_eq_true c, decide_eq_false (Rat.not_le.mpr c)]; rfl
        · rw [decide_eq_false c, decide_eq_true (Rat.not_lt.mp c)]; rfl
      (walk_at "ws"; (try simp only [e1]); walk_at "ws")
      have e3 : ((gf v i).take (j + 1)).filter (fun k => decide (v i ≤ v k)) = ((gf v i).take j).filter (fun k => decide (v i ≤ v k)) ++ (if v i ≤ v k' then [k'] else []) := by
        rw [List.take_add_one, hk1, List.filter_append]
        by_cases c : v i ≤ v k' <;> simp [List.filter_cons, c]
      by_cases c : v i ≤ v k'
      · rw [decide_eq_true c]
        rw [if_pos c] at e3
        refine ⟨?_, hR' _ _ _ .refl ⟨rfl, by rw [e3, List.map_append]; rfl⟩⟩
        rw [List.length_map]
        have := List.length_filter_le (fun k => decide (v i ≤ v k)) ((gf v i).take j)
        have l2 : ((gf v i).take j).length ≤ i := by rw [List.length_take]; omega
        show _ < 2 ^ 24
        omega
      · rw [decide_eq_false c]
        rw [if_neg c, List.append_nil] at e3
        exact hR' _ _ _ .refl ⟨rfl, by rw [e3]⟩
    · rintro acc h2 ⟨rfl, rfl⟩
      refine ⟨by unfold lstK; exact seq_put, ?_⟩
      (intro r n_r; obtain ⟨_, n_r⟩ := WS.put_none n_r)
      have rp : p ≠ r := Ne.symm (by assumption)
      have e5 : (gf v i).take ((gf v i).map natV).length = gf v i := by rw [List.length_map, List.take_length]
      rw [e5]
      (unfold d_greatest_first_2a_2; (walk_at "ws"; (try simp only [WS.put_ne rp]); walk_at "ws"))
      have l3 := List.length_filter_le (fun k => decide (v i ≤ v k)) (gf v i)
      refine ⟨⟨?_, by omega, ?_⟩, ?_⟩
      · rw [List.length_map]
        show _ < 2 ^ 24
        omega
      · rw [List.length_map]
        omega
      · have e6 : put (put (put h p (.lst ((gf v i).map natV))) r (.lst (((gf v i).filter fun k => decide (v i ≤ v k)).map natV))) p (.lst ((gf v (i + 1)).map natV)) = put (put h p (.lst ((gf v (i + 1)).map natV))) r (.lst (((gf v i).filter fun k => decide (v i ≤ v k)).map natV)) := by
          rw [WS.put_comm (Ne.symm rp), WS.put_put]
        have e7 : (gf v (i + 1)).map natV = ((gf v i).map natV).take ((((gf v i).filter fun k => decide (v i ≤ v k)).map natV).length : Int).toNat ++ [Val.int i] ++ ((gf v i).map natV).drop ((((gf v i).filter fun k => decide (v i ≤ v k)).map natV).length : Int).toNat := by
          show (insG v (gf v i) i).map natV = _
          unfold insG
          rw [List.map_append, List.map_append, List.map_take, List.map_drop, List.length_map]
          rfl
        refine hR _ _ _ (put h p (.lst ((gf v (i + 1)).map natV))) (by (repeat (first | with_reducible exact WS.SubR.refl | with_reducible refine WS.SubR.s ?_ | with_reducible refine WS.SubR.f ?_))) ?_ ⟨hil, rfl, rfl⟩
        rw [← e7, e6]
        (refine WS.Sub.of ?_; (repeat (with_reducible refine WS.SubX.l (by (repeat (first | with_reducible exact WS.put_same | assumption | with_reducible refine WS.put_ne' (by first | assumption | exact Ne.symm (by assumption)) ?_ | with_reducible refine WS.Ev.get (by assumption) (by first | assumption | exact Ne.symm (by assumption)) ?_))) ?_)); (repeat (first | exact WS.SubX.refl | with_reducible refine WS.SubX.r0 ?_ | with_reducible refine WS.SubX.r1 ?_ | with_reducible refine WS.SubX.r2 ?_ | with_reducible refine WS.SubX.r3 ?_ | with_reducible refine WS.SubX.n (by assumption) ?_ | with_reducible refine WS.Ev.tr (by assumption) ?_)))
  · rintro ρ h1 ⟨_, rfl, rfl⟩
    refine ⟨trivial, ?_⟩
    (unfold d_greatest_first_3; walk_at "ws")
    rw [enumL_len, List.length_map]
    exact fg .refl (q _ n_p)
/-- what W k (n - k) / 2 is -/
def mst (w n k : Int) : Int × Int := low (w * k * (n - k)) 2
theorem mst_pt {w n k : Int} : Pt (mst w n k) := low_pt (by decide)
theorem mst_pb {w n k : Int} (hw : 0 < w) (hw2 : w < 10 ^ 31) (k0 : 0 ≤ k) (kn : k ≤ n) (n2 : n ≤ 200) : PB 125 (mst w n k) := by
  refine low_pb ?_ (by unfold Bd; decide) (by decide)
  have b1 : Bd 105 w := by unfold Bd; omega
  have b2 : Bd 8 k := by unfold Bd; omega
  have b3 : Bd 8 (n - k) := by unfold Bd; omega
  exact ((b1.mul b2).mul b3).mono (by decide)
theorem mst_pbB {A B : Nat} {w n m : Int} (bw : Bd A w) (bm : Bd B m) (bn : Bd B (n - m)) : PB (A + B + B + 2) (mst w n m) :=
  low_pb (((bw.mul bm).mul bn).mono (by omega)) (by unfold Bd; exact Nat.lt_of_lt_of_le (by decide : 2 < 2 ^ 2) (Nat.pow_le_pow_right (by decide) (by omega))) (by decide)
theorem s_mostB (k : Nat) {A B : Nat} {w n m : Int} {h : IH} {Q : KV} {E : XC} (bw : Bd A w) (bm : Bd B m) (bn : Bd B (n - m)) (hA : A + B + B < 100000) (q : Q (pt (mst w n m)) h) : (C (k + 3)).run "most" [.int w, .int n, .int m] h Q E := by
  refine run_most (k + 2) ?_
  (unfold d_most; walk_at "ws")
  refine ⟨bw.mulOk bm (by omega), (bw.mul bm).mulOk bn (by omega), ?_⟩
  exact s_lowest k (B := 2) (by decide) (by unfold Bd; decide) (by decide) (fg .refl q)
theorem ix_last {xs : List Val} {x : Val} {R : Val → Prop} (e : xs[xs.length - 1]? = some x) (q : R x) : match pyAt xs (-1) with
    | some y => R y
    | none => False := by
  have hl := (List.getElem?_eq_some_iff.mp e).1
  have e1 : pyAt xs (-1) = some x := by
    unfold pyAt
    rw [if_neg (by decide), if_pos (by omega)]
    have e2 : (-1 + (xs.length : Int)).toNat = xs.length - 1 := by omega
    rw [e2, e]
  rw [e1]
  exact q
/-- what sums_ahead tells of a row -/
def sumsV (rs : List (Int × Int)) (n : Nat) : List Val := (List.range n).map fun m => pt (topS rs m)
theorem sumsV_len {rs : List (Int × Int)} {n : Nat} : (sumsV rs n).length = n := by unfold sumsV; simp
theorem sumsV_get {rs : List (Int × Int)} {n i : Nat} (h : i < n) : (sumsV rs n)[i]? = some (pt (topS rs i)) := by
  unfold sumsV
  rw [List.getElem?_map, List.getElem?_range h]
  rfl
theorem sumsV_succ {rs : List (Int × Int)} {n : Nat} : sumsV rs (n + 1) = sumsV rs n ++ [pt (topS rs n)] := by
  unfold sumsV
  rw [List.range_succ, List.map_append]
  rfl
theorem topS_zero {rs : List (Int × Int)} : topS rs 0 = (0, 1) := rfl
theorem s_sums_ahead (k : Nat) {rs : List (Int × Int)} {B : Nat} {h : IH} {Q : KV} {E : XC} (hp : ∀ p ∈ rs, Pt p ∧ PB B p) (hB : 1 + rs.length * (B + 1) + B < 9000) (hl : rs.length ≤ 10000) (hB2 : B < 4000) (q : ∀ a, h a = none → Q (.ref a) (put h a (.lst (sumsV rs (rs.length + 1))))) :
    (C (k + 4)).run "sums_ahead" [.tup (rs.map pt)] h Q E := by
  refine run_sums_ahead (k + 3) ?_
  (unfold d_sums_ahead; obtain ⟨D0', e0'⟩ : ∃ D : WS.DS, D = d_sums_ahead_2 := ⟨_, rfl⟩; rw [← e0']; walk_at "ws"; subst e0')
  refine ⟨by decide, ?_⟩
  (intro p n_p)
  (unfold d_sums_ahead_2; obtain ⟨D0', e0'⟩ : ∃ D : WS.DS, D = d_sums_ahead_3 := ⟨_, rfl⟩; rw [← e0']; walk_at "ws"; subst e0')
  refine s_greatest_first (k + 1) hp hB2 hl ?_
  (intro g n_g; obtain ⟨_, n_g⟩ := WS.put_none n_g)
  have gp : p ≠ g := Ne.symm (by assumption)
  walk_at "ws"
  refine lp_by (fun i ρ h1 => i ≤ rs.length ∧ h1 = put (put h p (.lst (sumsV rs (i + 1)))) g (.lst ((gfr rs).map natV)) ∧ ρ = [some (.tup (rs.map pt)), some (.ref p), none]) ?_ ?_ ⟨Nat.zero_le _, rfl, rfl⟩
  · rintro i x ρ h1 R hx ⟨hi, rfl, rfl⟩ hR
    obtain ⟨k', hk1, rfl, hk2⟩ := natV_get hx
    have lk := gfr_lt hk2
    have hil : i < rs.length := by
      have := (List.getElem?_eq_some_iff.mp hk1).1
      rwa [gfr_len] at this
    refine ⟨by unfold lstK; exact seq_put, ?_⟩
    (walk_at "ws"; (try simp only [WS.put_ne gp, IH.seq]); walk_at "ws")
    refine ix_last (x := pt (topS rs i)) (by rw [sumsV_len]; exact sumsV_get (by omega)) ?_
    refine ix_pt lk ?_
    have mk := hp _ (getD_mem lk)
    have tk := topS_ok (m := i) hp
    refine ⟨rfl, s_plus k tk.1 mk.1 tk.2 mk.2 hB ?_⟩
    (walk_at "ws"; (try simp only [WS.put_ne gp]); walk_at "ws")
    refine ⟨by rw [sumsV_len]; show _ < 2 ^ 24; omega, ?_⟩
    rw [← topS_succ hk1, ← sumsV_succ]
    refine hR _ _ _ (put (put h p (.lst (sumsV rs (i + 1 + 1)))) g (.lst ((gfr rs).map natV))) (by (repeat (first | with_reducible exact WS.SubR.refl | with_reducible refine WS.SubR.s ?_ | with_reducible refine WS.SubR.f ?_))) ?_ ⟨hil, rfl, rfl⟩
    rw [WS.put_comm (Ne.symm gp), WS.put_put]
    exact .refl
  · rintro ρ h1 ⟨_, rfl, rfl⟩
    refine ⟨by unfold lstK; exact seq_put, ?_⟩
    (unfold d_sums_ahead_3; walk_at "ws")
    rw [List.length_map, gfr_len]
    exact fg (by (refine WS.Sub.of ?_; (repeat (with_reducible refine WS.SubX.l (by (repeat (first | with_reducible exact WS.put_same | assumption | with_reducible refine WS.put_ne' (by first | assumption | exact Ne.symm (by assumption)) ?_ | with_reducible refine WS.Ev.get (by assumption) (by first | assumption | exact Ne.symm (by assumption)) ?_))) ?_)); (repeat (first | exact WS.SubX.refl | with_reducible refine WS.SubX.r0 ?_ | with_reducible refine WS.SubX.r1 ?_ | with_reducible refine WS.SubX.r2 ?_ | with_reducible refine WS.SubX.r3 ?_ | with_reducible refine WS.SubX.n (by assumption) ?_ | with_reducible refine WS.Ev.tr (by assumption) ?_)))) (q _ n_p)
def optV : Option Nat → Val
  | none => .non
  | some m => .int m
/-- the least number of parts that come to more than the most -/
def fallN (w : Int) (rs : List (Int × Int)) (n : Nat) : Option Nat := (List.range n).find? fun m => plt (mst w rs.length m) (topS rs m)
theorem fallN_succ {w : Int} {rs : List (Int × Int)} {n : Nat} (h : fallN w rs n = none) : fallN w rs (n + 1) = if plt (mst w rs.length n) (topS rs n) = true then some n else none := by
  unfold fallN at h ⊢
  rw [List.range_succ, List.find?_append, h]
  cases e : plt (mst w rs.length n) (topS rs n) <;> simp [e]
theorem fallN_some {w : Int} {rs : List (Int × Int)} {n m k : Nat} (h : fallN w rs n = some k) (l : n ≤ m) : fallN w rs m = some k := by
  unfold fallN at h ⊢
  have e : List.range m = List.range n ++ (List.range (m - n)).map (n + ·) := by
    rw [← List.range_add]
    congr 1
    omega
  rw [e, List.find?_append, h]
  rfl
theorem s_fall (k : Nat) {w : Int} {rs : List (Int × Int)} {A B : Nat} {h : IH} {Q : KV} {E : XC} (bw : Bd A w) (hA : A < 20000) (hp : ∀ p ∈ rs, Pt p ∧ PB B p) (hB2 : B < 4000) (hB : 1 + rs.length * (B + 1) + B < 9000) (hl : rs.length ≤ 10000) (q : Q (optV (fallN w rs (rs.length + 1))) h) :
    (C (k + 5)).run "fall" [.int w, .tup (rs.map pt)] h Q E := by
  refine run_fall (k + 4) ?_
  (unfold d_fall; obtain ⟨D0', e0'⟩ : ∃ D : WS.DS, D = d_fall_1a := ⟨_, rfl⟩; rw [← e0']; obtain ⟨D1', e1'⟩ : ∃ D : WS.DS, D = d_fall_2 := ⟨_, rfl⟩; rw [← e1']; walk_at "ws"; subst e0'; subst e1')
  refine s_sums_ahead k hp (by omega) hl (by omega) ?_
  (intro g n_g)
  walk_at "ws"
  refine lp_by (fun i ρ h1 => fallN w rs i = none ∧ i ≤ rs.length + 1 ∧ h1 = put h g (.lst (sumsV rs (rs.length + 1))) ∧ ρ = [some (.int w), some (.tup (rs.map pt)), none, none]) ?_ ?_ ⟨rfl, Nat.zero_le _, rfl, rfl⟩
  · rintro i x ρ h1 R hx ⟨hn, hi, rfl, rfl⟩ hR
    obtain ⟨y, hy, rfl⟩ := enumL_get hx
    have e0 : (0 : Int) + (i : Nat) = (i : Int) := by omega
    rw [e0]
    have hil : i < rs.length + 1 := by
      have := (List.getElem?_eq_some_iff.mp hy).1
      rwa [sumsV_len] at this
    rw [sumsV_get hil] at hy
    cases hy
    refine ⟨by unfold lstK; exact seq_put, ?_⟩
    walk_at "ws"
    (unfold d_fall_1a; walk_at "ws")
    have bm : Bd 20 (i : Int) := by unfold Bd; omega
    have bn : Bd 20 ((rs.length : Int) - i) := by unfold Bd; omega
    rw [List.length_map]
    refine s_mostB (k + 1) bw bm bn (by omega) ⟨rfl, ?_⟩
    have tk := topS_ok (m := i) hp
    refine s_is_less (k + 3) (mst_pbB bw bm bn) tk.2 (by omega) ?_
    have e1 := fallN_succ hn
    cases e2 : plt (mst w rs.length i) (topS rs i) with
    | true =>
      rw [if_pos e2] at e1
      have e3 := fallN_some e1 (show i + 1 ≤ rs.length + 1 by omega)
      rw [e3] at q
      walk_at "ws"
      exact fg (by (refine WS.Sub.of ?_; (repeat (with_reducible refine WS.SubX.l (by (repeat (first | with_reducible exact WS.put_same | assumption | with_reducible refine WS.put_ne' (by first | assumption | exact Ne.symm (by assumption)) ?_ | with_reducible refine WS.Ev.get (by assumption) (by first | assumption | exact Ne.symm (by assumption)) ?_))) ?_)); (repeat (first | exact WS.SubX.refl | with_reducible refine WS.SubX.r0 ?_ | with_reducible refine WS.SubX.r1 ?_ | with_reducible refine WS.SubX.r2 ?_ | with_reducible refine WS.SubX.r3 ?_ | with_reducible refine WS.SubX.n (by assumption) ?_ | with_reducible refine WS.Ev.tr (by assumption) ?_)))) q
    | false =>
      rw [e2, if_neg (by decide)] at e1
      walk_at "ws"
      exact hR _ _ _ _ (by (repeat (first | with_reducible exact WS.SubR.refl | with_reducible refine WS.SubR.s ?_ | with_reducible refine WS.SubR.f ?_))) .refl ⟨e1, by omega, rfl, rfl⟩
  · rintro ρ h1 ⟨hn, _, rfl, rfl⟩
    refine ⟨by unfold lstK; exact seq_put, ?_⟩
    (unfold d_fall_2; walk_at "ws")
    rw [enumL_len, sumsV_len] at hn
    rw [hn] at q
    exact fg (by (refine WS.Sub.of ?_; (repeat (with_reducible refine WS.SubX.l (by (repeat (first | with_reducible exact WS.put_same | assumption | with_reducible refine WS.put_ne' (by first | assumption | exact Ne.symm (by assumption)) ?_ | with_reducible refine WS.Ev.get (by assumption) (by first | assumption | exact Ne.symm (by assumption)) ?_))) ?_)); (repeat (first | exact WS.SubX.refl | with_reducible refine WS.SubX.r0 ?_ | with_reducible refine WS.SubX.r1 ?_ | with_reducible refine WS.SubX.r2 ?_ | with_reducible refine WS.SubX.r3 ?_ | with_reducible refine WS.SubX.n (by assumption) ?_ | with_reducible refine WS.Ev.tr (by assumption) ?_)))) q
/-- a row comes to nought, and falls nowhere -/
def withinB (w : Int) (rs : List (Int × Int)) : Bool := decide (topS rs rs.length = (0, 1)) && (fallN w rs (rs.length + 1)).isNone
theorem s_is_within (k : Nat) {w : Int} {rs : List (Int × Int)} {A B : Nat} {h : IH} {Q : KV} {E : XC} (bw : Bd A w) (hA : A < 20000) (hp : ∀ p ∈ rs, Pt p ∧ PB B p) (hB2 : B < 4000) (hB : 1 + rs.length * (B + 1) + B < 9000) (hl : rs.length ≤ 10000) (q : Q (.bl (withinB w rs)) h) :
    (C (k + 6)).run "is_within" [.int w, .tup (rs.map pt)] h Q E := by
  refine run_is_within (k + 5) ?_
  (unfold d_is_within; walk_at "ws")
  refine s_sums_ahead (k + 1) hp (by omega) hl (by omega) ?_
  (intro g n_g)
  walk_at "ws"
  refine ix_last (x := pt (topS rs rs.length)) (by rw [sumsV_len]; exact sumsV_get (by omega)) ?_
  refine (vEq_pt2 (p := topS rs rs.length) (q := (0, 1))).mpr ?_
  cases e : decide (topS rs rs.length = (0, 1)) with
  | false =>
    walk_at "ws"
    unfold withinB at q
    rw [e] at q
    exact fg (by (refine WS.Sub.of ?_; (repeat (with_reducible refine WS.SubX.l (by (repeat (first | with_reducible exact WS.put_same | assumption | with_reducible refine WS.put_ne' (by first | assumption | exact Ne.symm (by assumption)) ?_ | with_reducible refine WS.Ev.get (by assumption) (by first | assumption | exact Ne.symm (by assumption)) ?_))) ?_)); (repeat (first | exact WS.SubX.refl | with_reducible refine WS.SubX.r0 ?_ | with_reducible refine WS.SubX.r1 ?_ | with_reducible refine WS.SubX.r2 ?_ | with_reducible refine WS.SubX.r3 ?_ | with_reducible refine WS.SubX.n (by assumption) ?_ | with_reducible refine WS.Ev.tr (by assumption) ?_)))) q
  | true =>
    walk_at "ws"
    refine s_fall k bw hA hp hB2 hB hl ?_
    unfold withinB at q
    rw [e] at q
    cases e2 : fallN w rs (rs.length + 1) with
    | none => rw [e2] at q; (walk_at "ws"; (try simp only [optV]); walk_at "ws"); exact fg (by (refine WS.Sub.of ?_; (repeat (with_reducible refine WS.SubX.l (by (repeat (first | with_reducible exact WS.put_same | assumption | with_reducible refine WS.put_ne' (by first | assumption | exact Ne.symm (by assumption)) ?_ | with_reducible refine WS.Ev.get (by assumption) (by first | assumption | exact Ne.symm (by assumption)) ?_))) ?_)); (repeat (first | exact WS.SubX.refl | with_reducible refine WS.SubX.r0 ?_ | with_reducible refine WS.SubX.r1 ?_ | with_reducible refine WS.SubX.r2 ?_ | with_reducible refine WS.SubX.r3 ?_ | with_reducible refine WS.SubX.n (by assumption) ?_ | with_reducible refine WS.Ev.tr (by assumption) ?_)))) q
    | some m => rw [e2] at q; (walk_at "ws"; (try simp only [optV]); walk_at "ws"); exact fg (by (refine WS.Sub.of ?_; (repeat (with_reducible refine WS.SubX.l (by (repeat (first | with_reducible exact WS.put_same | assumption | with_reducible refine WS.put_ne' (by first | assumption | exact Ne.symm (by assumption)) ?_ | with_reducible refine WS.Ev.get (by assumption) (by first | assumption | exact Ne.symm (by assumption)) ?_))) ?_)); (repeat (first | exact WS.SubX.refl | with_reducible refine WS.SubX.r0 ?_ | with_reducible refine WS.SubX.r1 ?_ | with_reducible refine WS.SubX.r2 ?_ | with_reducible refine WS.SubX.r3 ?_ | with_reducible refine WS.SubX.n (by assumption) ?_ | with_reducible refine WS.Ev.tr (by assumption) ?_)))) q
theorem datL_pts {h : IH} {n : Nat} {rs : List (Int × Int)} : datL (dat h (n + 2)) (rs.map pt) = some (rs.map dpt) := datL_map fun _ _ => dat_pt
theorem eqv_nil {ds : List PyData} : PyData.eqv (.list ds) (.list []) = ds.isEmpty := by
  cases ds <;> rfl
theorem vNe_nil {h : IH} {p r : Addr} {xs : List Val} {ds : List PyData} {Q : KV} (e1 : h p = some (.lst xs)) (e2 : h r = some (.lst [])) (ed : datL (dat h 7) xs = some ds) : vNe (.ref p) (.ref r) h Q = Q (.bl (!ds.isEmpty)) h := by
  unfold vNe
  have e : eqD (.ref p) (.ref r) h = some ds.isEmpty := by
    unfold eqD eqF
    have d1 : dat h 8 (.ref p) = some (.list ds) := by
      unfold dat
      simp only [seq_of e1, ed, Option.map_some]
    have d2 : dat h 8 (.ref r) = some (.list []) := by
      unfold dat
      simp only [seq_of e2, datL, Option.map_some]
    simp only [d1, d2, eqv_nil]
  rw [e]
theorem vNe_alike {h : IH} {p r : Addr} {xs : List Val} {ds : List PyData} {Q : KV} (e1 : h p = some (.lst xs)) (e2 : h r = some (.lst xs)) (ed : datL (dat h 7) xs = some ds) : vNe (.ref p) (.ref r) h Q = Q (.bl false) h := by
  unfold vNe
  have e : eqD (.ref p) (.ref r) h = some true := by
    unfold eqD eqF
    have d1 : dat h 8 (.ref p) = some (.list ds) := by
      unfold dat
      simp only [seq_of e1, ed, Option.map_some]
    have d2 : dat h 8 (.ref r) = some (.list ds) := by
      unfold dat
      simp only [seq_of e2, ed, Option.map_some]
    simp only [d1, d2, SeqAt.eqv_refl _ (dat_ok h 8 _ _ d1).1]
  rw [e]
  rfl
theorem datL_nats {h : IH} {n : Nat} {f : List Nat} : datL (dat h (n + 1)) (f.map natV) = some (f.map fun (k : Nat) => PyData.int (k : Int)) := datL_map fun _ _ => rfl
theorem s__law_pot (k : Nat) {ns : List Int} {j : Nat} {h : IH} {Q : KV} {E : XC} (hj : j < 100) (q : ∀ p x y, h p = none → PotB x y → Q (.ref p) (put h p (potC x y))) : (C (k + 1)).run "_law_pot" [.scr ns, .int j] h Q E := by
  refine run__law_pot k ?_
  have pb : ∀ c x : Int, 0 ≤ x → PotB x ((c % 2147483423 + 89 * (j : Int) + 7) ^ 2 % 2147483399 + 1) := fun c x hx => ⟨hx, by have := Int.emod_nonneg ((c % 2147483423 + 89 * (j : Int) + 7) ^ 2) (b := 2147483399) (by omega); omega, by have := Int.emod_lt_of_pos ((c % 2147483423 + 89 * (j : Int) + 7) ^ 2) (b := 2147483399) (by omega); omega⟩
  have c10 : CPow 10 18 := ⟨by decide, by decide, by decide⟩
  have m89 : mulOk 89 (j : Int) := Bd.mulOk (A := 7) (B := 7) (by unfold Bd; decide) (by unfold Bd; omega) (by decide)
  have cp : ∀ c : Int, CPow (c % 2147483423 + 89 * (j : Int) + 7) 2 := fun c => ⟨by decide, by decide, by
    have := Int.emod_nonneg c (b := 2147483423) (by omega)
    have := Int.emod_lt_of_pos c (b := 2147483423) (by omega)
    omega⟩
  (unfold d__law_pot; obtain ⟨D0', e0'⟩ : ∃ D : WS.DS, D = d__law_pot_2 := ⟨_, rfl⟩; rw [← e0']; walk_at "ws"; subst e0')
  (unfold d__law_pot_2; obtain ⟨D0', e0'⟩ : ∃ D : WS.DS, D = d__law_pot_3 := ⟨_, rfl⟩; rw [← e0']; walk_at "ws"; subst e0')
  by_cases hl : (j : Int) < (ns.length : Int)
  · have hg : ns[j]? = some ns[j] := List.getElem?_eq_getElem (by omega)
    have nn : (0 : Int) ≤ (j : Int) := by omega
    simp only [decide_eq_true hl, if_pos nn, Int.toNat_natCast, hg]
    refine ⟨nn, _, rfl, ?_⟩
    (unfold d__law_pot_3; walk_at "ws")
    exact ⟨c10, m89, cp _, by decide, fun p hp => fg .refl (q p _ _ hp (pb _ _ (by split <;> omega)))⟩
  · simp only [decide_eq_false hl]
    (unfold d__law_pot_3; walk_at "ws")
    exact ⟨c10, m89, cp 0, by decide, fun p hp => fg .refl (q p _ _ hp (pb 0 _ (by split <;> omega)))⟩
theorem dig_ok {m : Int} (h : 0 < m) (b : m < 2 ^ 250) : divOk m := (bd_of_lt (B := 250) (by omega) b).divOk (by decide)
theorem s_dig (k : Nat) {a : Addr} {x y m : Int} {h : IH} {Q : KV} {E : XC} (ha : h a = some (potC x y)) (hb : PotB x y) (hm : 0 < m) (bm : m < 2 ^ 250) (q : ∀ d x y, 0 ≤ d → d < m → PotB x y → Q (.int d) (put h a (potC x y))) :
    (C (k + 1)).run "_law_digit" [.ref a, .int m] h Q E := by
  refine run__law_digit k ?_
  (unfold d__law_digit; obtain ⟨D0', e0'⟩ : ∃ D : WS.DS, D = d__law_digit_1a := ⟨_, rfl⟩; rw [← e0']; obtain ⟨D1', e1'⟩ : ∃ D : WS.DS, D = d__law_digit_2 := ⟨_, rfl⟩; rw [← e1']; (walk_at "ws"; (try simp only [IH.seq, ha]); walk_at "ws"); subst e0'; subst e1')
  by_cases hx : 0 < x
  · simp only [decide_eq_true hx]
    (unfold d__law_digit_1a; obtain ⟨D0', e0'⟩ : ∃ D : WS.DS, D = d__law_digit_1a_2 := ⟨_, rfl⟩; rw [← e0']; (walk_at "ws"; (try simp only [IH.seq, ha]); walk_at "ws"); subst e0')
    have := Int.emod_nonneg x (b := m) (by omega)
    have := Int.ediv_nonneg (a := x) (b := m) (by omega) (by omega)
    refine ⟨hm, dig_ok hm bm, ?_⟩
    (unfold d__law_digit_1a_2; walk_at "ws")
    exact fg .refl (q _ _ _ (by omega) (Int.emod_lt_of_pos x hm) ⟨by omega, hb.y0, hb.y⟩)
  · simp only [decide_eq_false hx]
    (unfold d__law_digit_2; obtain ⟨D0', e0'⟩ : ∃ D : WS.DS, D = d__law_digit_3 := ⟨_, rfl⟩; rw [← e0']; (walk_at "ws"; (try simp only [IH.seq, ha]); walk_at "ws"); subst e0')
    have := Int.emod_nonneg (y * 45763 + 10061) (b := 2147483563) (by omega)
    have := Int.emod_lt_of_pos (y * 45763 + 10061) (b := 2147483563) (by omega)
    have b1 : Bd 32 y := bd_of_lt hb.y0 hb.y
    have b2 : Bd 32 ((y * 45763 + 10061) % 2147483563) := bd_of_lt (by omega) (by omega)
    refine ⟨b1.mulOk (B := 16) (by unfold Bd; decide) (by decide), ?_⟩
    (unfold d__law_digit_3; walk_at "ws")
    refine ⟨b2.mulOk b2 (by decide), by unfold divOk; decide, hm, ?_⟩
    exact fg .refl (q _ _ _ (Int.emod_nonneg _ (by omega)) (Int.emod_lt_of_pos _ hm) ⟨hb.x, by omega, by omega⟩)
theorem s__law_low (k : Nat) {a b : Int} {B : Nat} {h : IH} {Q : KV} {E : XC} (hb : 0 < b) (bd : Bd B b) (hB : B < 9000) (q : Q (pt (low a b)) h) : (C (k + 1)).run "_law_low" [.int a, .int b] h Q E := by
  refine run__law_low k ?_
  (unfold d__law_low; obtain ⟨D0', e0'⟩ : ∃ D : WS.DS, D = d__law_low_2 := ⟨_, rfl⟩; rw [← e0']; walk_at "ws"; subst e0')
  unfold d__law_low_2 sSeq
  refine wl_by (fun ρ h1 => ∃ x y : Int, ρ = [some (.int a), some (.int b), some (.int x), some (.int y)] ∧ h1 = h ∧ 0 ≤ x ∧ 0 ≤ y ∧ Int.gcd x y = Int.gcd a b) (fun ρ _ => match ρ with
    | [_, _, _, some (.int y)] => y.toNat
    | _ => 0) ?_ ⟨_, b, rfl, rfl, abs_nn a, by omega, gcd_abs a b⟩
  rintro ρ h1 R ⟨x, y, rfl, rfl, hx, hy, hg⟩ hR
  walk_at "ws"
  by_cases hp : 0 < y
  · simp only [decide_eq_true hp]
    refine ⟨hp, hR _ _ _ _ .refl .refl ⟨y, x % y, rfl, rfl, hy, Int.emod_nonneg _ (by omega), ?_⟩ ?_⟩
    · rw [← hg]
      exact gcd_mod x y
    · have := Int.emod_lt_of_pos x hp
      show (x % y).toNat < y.toNat
      omega
  · simp only [decide_eq_false hp]
    have e : y = 0 := by omega
    subst e
    rw [Int.gcd_zero_right] at hg
    have e2 : x = (Int.gcd a b : Int) := by omega
    subst e2
    have g := gcd_pos (a := a) hb
    have d := (gcd_bd (a := a) hb bd).divOk hB
    (unfold d__law_low_3; walk_at "ws")
    exact ⟨g, d, g, d, by decide, fg .refl q⟩
theorem s__law_plus (k : Nat) {p q : Int × Int} {A B : Nat} {h : IH} {Q : KV} {E : XC} (hp : Pt p) (hq : Pt q) (bp : PB A p) (bq : PB B q) (hB : A + B < 9000) (z : Q (pt (padd p q)) h) : (C (k + 2)).run "_law_plus" [pt p, pt q] h Q E := by
  refine run__law_plus (k + 1) ?_
  (unfold d__law_plus; walk_at "ws")
  refine ⟨bp.a.mulOk bq.b (by omega), bq.a.mulOk bp.b (by omega), bp.b.mulOk bq.b (by omega), ?_⟩
  exact s__law_low k (Int.mul_pos hp.pos hq.pos) (bp.b.mul bq.b) hB (fg .refl z)
theorem s__law_sum (k : Nat) {a : Addr} {ps : List (Int × Int)} {B : Nat} {h : IH} {Q : KV} {E : XC} (ha : h a = some (.lst (ps.map pt))) (hp : ∀ p ∈ ps, Pt p ∧ PB B p) (hB : (ps.length + 1) * (B + 1) + 1 < 9000) (z : Q (pt (psum (0, 1) ps)) h) :
    (C (k + 3)).run "_law_sum" [.ref a] h Q E := by
  refine run__law_sum (k + 2) ?_
  (unfold d__law_sum; obtain ⟨D0', e0'⟩ : ∃ D : WS.DS, D = d__law_sum_2 := ⟨_, rfl⟩; rw [← e0']; walk_at "ws"; subst e0')
  refine ⟨by decide, ?_⟩
  (unfold d__law_sum_2; obtain ⟨D0', e0'⟩ : ∃ D : WS.DS, D = d__law_sum_3 := ⟨_, rfl⟩; rw [← e0']; (walk_at "ws"; (try simp only [IH.seq, ha]); walk_at "ws"); subst e0')
  refine lp_by (fun i ρ h1 => h1 = h ∧ ρ = [some (.ref a), some (pt (psum (0, 1) (ps.take i))), none]) ?_ ?_ ⟨rfl, by simp [psum]⟩
  · rintro i x ρ h1 R hx ⟨rfl, rfl⟩ hR
    obtain ⟨p, hpi, rfl, mem, hl⟩ := map_get hx
    refine ⟨seq_of ha, ?_⟩
    walk_at "ws"
    have r := psum_ok (ps := ps.take i) zero_pt zero_pb fun q hq => hp q (List.mem_of_mem_take hq)
    have l : (ps.take i).length ≤ ps.length := by rw [List.length_take]; omega
    have l2 : (ps.take i).length * (B + 1) ≤ ps.length * (B + 1) := Nat.mul_le_mul_right _ l
    rw [Nat.add_mul] at hB
    refine s__law_plus k r.1 (hp p mem).1 r.2 (hp p mem).2 (by omega) ?_
    rw [← psum_take hpi]
    exact hR _ _ _ _ (by (repeat (first | with_reducible exact WS.SubR.refl | with_reducible refine WS.SubR.s ?_ | with_reducible refine WS.SubR.f ?_))) .refl ⟨rfl, rfl⟩
  · rintro ρ h1 ⟨rfl, rfl⟩
    refine ⟨seq_of ha, ?_⟩
    (unfold d__law_sum_3; walk_at "ws")
    rw [List.length_map, List.take_length]
    exact fg .refl z
/-- what a display holds at a place -/
theorem ix_all {P : Val → Prop} {xs : List Val} {i : Int} {R : Val → Prop} (h0 : 0 ≤ i) (h1 : i < xs.length) (hP : ∀ x ∈ xs, P x) (q : ∀ x, P x → R x) : match pyAt xs i with
    | some z => R z
    | none => False := by
  unfold pyAt
  rw [if_pos h0]
  have e : xs[i.toNat]? = some xs[i.toNat] := List.getElem?_eq_getElem (by omega)
  rw [e]
  exact q _ (hP _ (List.getElem_mem _))
theorem s__law_less (k : Nat) {p q : Int × Int} {A B : Nat} {h : IH} {Q : KV} {E : XC} (bp : PB A p) (bq : PB B q) (hB : A + B < 100000) (z : Q (.bl (plt p q)) h) : (C (k + 1)).run "_law_less" [pt p, pt q] h Q E := by
  refine run__law_less k ?_
  (unfold d__law_less; walk_at "ws")
  exact ⟨bp.a.mulOk bq.b (by omega), bq.a.mulOk bp.b (by omega), fg .refl z⟩
theorem sub_non {h h' : IH} {p : Addr} (s : Sub h h') (n : h' p = none) : h p = none := by
  cases e : h p with
  | none => rfl
  | some c => have := s p c e; rw [n] at this; cases this
theorem sub_put {h : IH} {p : Addr} {c : Cell} (n : h p = none) : Sub h (put h p c) := fun b d e => by rw [put_ne (fun z => by rw [z, n] at e; cases e)]; exact e
/-- the sets of the first many places, as they are told -/
def setsOf : Nat → List (List Nat)
  | 0 => [[]]
  | n + 1 => setsOf n ++ (setsOf n).map (· ++ [n])
theorem setsOf_len : ∀ n, (setsOf n).length = 2 ^ n
  | 0 => rfl
  | n + 1 => by
    show (setsOf n ++ (setsOf n).map (· ++ [n])).length = _
    rw [List.length_append, List.length_map, setsOf_len n]
    omega
theorem setsOf_sub : ∀ {n : Nat} {s : List Nat}, s ∈ setsOf n → s.Sublist (List.range n)
  | 0, s, h => by
    have e : s = [] := by simpa [setsOf] using h
    rw [e]; exact List.nil_sublist _
  | n + 1, s, h => by
    rw [List.range_succ]
    rcases List.mem_append.mp h with h | h
    · exact (setsOf_sub h).trans (List.sublist_append_left _ _)
    · obtain ⟨t, ht, rfl⟩ := List.mem_map.mp h
      exact (setsOf_sub ht).append (List.Sublist.refl _)
theorem setsOf_all : ∀ {n : Nat} {s : List Nat}, s.Sublist (List.range n) → s ∈ setsOf n
  | 0, s, h => by
    have e : s = [] := List.sublist_nil.mp h
    rw [e]; exact List.mem_singleton.mpr rfl
  | n + 1, s, h => by
    rw [List.range_succ] at h
    obtain ⟨a, b, rfl, ha, hb⟩ := List.sublist_append_iff.mp h
    have hb' : b = [] ∨ b = [n] := by
      cases hb with
      | cons _ hb => exact .inl (List.sublist_nil.mp hb)
      | cons_cons _ hb => exact .inr (by rw [List.sublist_nil.mp hb])
    rcases hb' with rfl | rfl
    · rw [List.append_nil]; exact List.mem_append_left _ (setsOf_all ha)
    · exact List.mem_append_right _ (List.mem_map.mpr ⟨a, setsOf_all ha, rfl⟩)
theorem setsOf_get_len {n : Nat} {s : List Nat} (h : s ∈ setsOf n) : s.length ≤ n := by
  have := (setsOf_sub h).length_le
  rwa [List.length_range] at this
/-- lists of places, each at a new address -/
structure SetsAt (h0 h : IH) (ps : List Addr) (ss : List (List Nat)) : Prop where
  len : ps.length = ss.length
  get : ∀ (i : Nat) (s : List Nat), ss[i]? = some s → ∃ p, ps[i]? = some p ∧ h0 p = none ∧ h p = some (.lst (s.map natV))
theorem SetsAt.mono {h0 h h' : IH} {ps : List Addr} {ss : List (List Nat)} (x : SetsAt h0 h ps ss) (s : Sub h h') : SetsAt h0 h' ps ss :=
  ⟨x.len, fun i t e => let ⟨p, a, b, c⟩ := x.get i t e; ⟨p, a, b, s _ _ c⟩⟩
theorem SetsAt.append {h0 h : IH} {ps qs : List Addr} {ss ts : List (List Nat)} (x : SetsAt h0 h ps ss) (y : SetsAt h0 h qs ts) : SetsAt h0 h (ps ++ qs) (ss ++ ts) := by
  refine ⟨by rw [List.length_append, List.length_append, x.len, y.len], fun i s e => ?_⟩
  by_cases hi : i < ss.length
  · rw [List.getElem?_append_left hi] at e
    obtain ⟨p, a, b⟩ := x.get i s e
    exact ⟨p, by rw [List.getElem?_append_left (by rw [x.len]; exact hi)]; exact a, b⟩
  · rw [List.getElem?_append_right (by omega)] at e
    obtain ⟨p, a, b⟩ := y.get _ s e
    exact ⟨p, by rw [List.getElem?_append_right (by rw [x.len]; omega), x.len]; exact a, b⟩
theorem SetsAt.one {h0 h : IH} {p : Addr} {s : List Nat} (n : h0 p = none) (e : h p = some (.lst (s.map natV))) : SetsAt h0 h [p] [s] :=
  ⟨rfl, fun i t q => by
    cases i with
    | zero => cases q; exact ⟨p, rfl, n, e⟩
    | succ i => simp at q⟩
theorem refs_get {ps : List Addr} {i : Nat} {x : Val} (h : (ps.map Val.ref)[i]? = some x) : ∃ p, ps[i]? = some p ∧ x = .ref p := by
  rw [List.getElem?_map] at h
  cases e : ps[i]? with
  | none => rw [e] at h; cases h
  | some p => rw [e] at h; cases h; exact ⟨p, rfl, rfl⟩
theorem s__law_sets (k : Nat) {n : Nat} {h : IH} {Q : KV} {E : XC} (hn : n ≤ 12) (q : ∀ a ps h', Sub h h' → h a = none → h' a = some (.lst (ps.map Val.ref)) → SetsAt h h' ps (setsOf n) → Q (.ref a) h') : (C (k + 1)).run "_law_sets" [.int n] h Q E := by
  refine run__law_sets k ?_
  (unfold d__law_sets; obtain ⟨D0', e0'⟩ : ∃ D : WS.DS, D = d__law_sets_2 := ⟨_, rfl⟩; rw [← e0']; walk_at "ws"; subst e0')
  refine ⟨by decide, ?_⟩
  (intro p n_p)
  refine ⟨by decide, ?_⟩
  (intro r n_r; obtain ⟨_, n_r⟩ := WS.put_none n_r)
  have rp : r ≠ p := by assumption
  (unfold d__law_sets_2; obtain ⟨D0', e0'⟩ : ∃ D : WS.DS, D = d__law_sets_3 := ⟨_, rfl⟩; rw [← e0']; walk_at "ws"; subst e0')
  refine ⟨by omega, by omega, ?_⟩
  have s0 : Sub h (put (put h p (.lst [])) r (.lst [.ref p])) := (sub_put n_p).trans (sub_put (by rw [put_ne rp]; exact n_r))
  refine lp_by (fun i ρ h1 => ∃ a ps, ρ = [some (.int n), some (.ref a), none, none] ∧ i ≤ n ∧ Sub h h1 ∧ h a = none ∧ h1 a = some (.lst (ps.map Val.ref)) ∧ SetsAt h h1 ps (setsOf i)) ?_ ?_ ⟨r, [p], rfl, Nat.zero_le _, s0, n_r, put_same, .one n_p (by rw [put_ne (Ne.symm rp)]; exact put_same)⟩
  · rintro i x ρ h1 R hx ⟨a, ps, rfl, hi, sb, na, ea, sa⟩ hR
    obtain ⟨hi2, rfl⟩ := upTo_get hx
    have e0 : (0 : Int) + (i : Nat) = (i : Int) := by omega
    have hin : i < n := by omega
    rw [e0]
    (walk_at "ws"; (try simp only [seq_of ea]); walk_at "ws")
    have lps : ps.length = 2 ^ i := by rw [sa.len, setsOf_len]
    have l12 : 2 ^ i ≤ 2 ^ 12 := Nat.pow_le_pow_right (by decide) (by omega)
    refine lc_by (fun j acc h2 => ∃ qs : List Addr, acc = qs.map Val.ref ∧ Sub h1 h2 ∧ SetsAt h h2 qs (((setsOf i).take j).map (· ++ [i]))) ?_ ?_ ⟨[], rfl, .refl, rfl, fun i s e => by simp at e⟩
    · rintro j w acc h2 R' hw ⟨qs, rfl, sb2, sq⟩ hR'
      obtain ⟨p', hp', rfl⟩ := refs_get hw
      have hj : j < (setsOf i).length := by rw [← sa.len]; exact (List.getElem?_eq_some_iff.mp hp').1
      obtain ⟨p2, c1, c2, c3⟩ := sa.get j _ (List.getElem?_eq_getElem hj)
      rw [hp'] at c1
      cases c1
      have c4 := sb2 _ _ c3
      refine ⟨seq_of (sb2 _ _ ea), ?_⟩
      walk_at "ws"
      refine ⟨by decide, ?_⟩
      (intro x n_x)
      have e1 : put h2 x (.lst [.int (i : Int)]) p' = some (.lst (((setsOf i)[j]).map natV)) := sub_put n_x _ _ c4
      walk_at "ws"
      refine m_add e1 rfl ?_
      have lset := setsOf_get_len (List.getElem_mem hj)
      refine ⟨by rw [List.length_map]; show _ ≤ 2 ^ 24; simp; omega, ?_⟩
      (intro y n_y; obtain ⟨_, n_y⟩ := WS.put_none n_y)
      have yx : y ≠ x := by assumption
      refine ⟨by rw [List.length_map, sq.len, List.length_map, List.length_take]; show _ < 2 ^ 24; rw [setsOf_len] at *; omega, ?_⟩
      have sx : Sub h2 (put h2 x (.lst [.int (i : Int)])) := sub_put n_x
      have sy : Sub h2 (put (put h2 x (.lst [.int (i : Int)])) y (.lst (((setsOf i)[j]).map natV ++ [.int (i : Int)]))) := sx.trans (sub_put (by rw [put_ne yx]; exact n_y))
      refine hR' _ _ _ .refl ⟨qs ++ [y], by simp, sb2.trans sy, ?_⟩
      have e2 : ((setsOf i).take (j + 1)).map (· ++ [i]) = ((setsOf i).take j).map (· ++ [i]) ++ [(setsOf i)[j] ++ [i]] := by
        rw [List.take_add_one, List.getElem?_eq_getElem hj, List.map_append]
        rfl
      rw [e2]
      refine (sq.mono sy).append (.one (sub_non sb (sub_non sb2 n_y)) ?_)
      rw [put_same, List.map_append]
      rfl
    · rintro acc h2 ⟨qs, rfl, sb2, sq⟩
      have ea2 := sb2 _ _ ea
      refine ⟨seq_of ea2, ?_⟩
      (intro r2 n_r2)
      have e3 : put h2 r2 (.lst (qs.map Val.ref)) a = some (.lst (ps.map Val.ref)) := sub_put n_r2 _ _ ea2
      walk_at "ws"
      refine m_add e3 rfl ?_
      have e4 : (setsOf i).take (ps.map Val.ref).length = setsOf i := by rw [List.length_map, sa.len, List.take_length]
      rw [e4] at sq
      have lqs : qs.length = 2 ^ i := by rw [sq.len, List.length_map, setsOf_len]
      refine ⟨by rw [List.length_map, List.length_map]; show _ ≤ 2 ^ 24; omega, ?_⟩
      (intro r3 n_r3; obtain ⟨_, n_r3⟩ := WS.put_none n_r3)
      have r32 : r3 ≠ r2 := by assumption
      have s2 : Sub h2 (put h2 r2 (.lst (qs.map Val.ref))) := sub_put n_r2
      have s3 : Sub h2 (put (put h2 r2 (.lst (qs.map Val.ref))) r3 (.lst (ps.map Val.ref ++ qs.map Val.ref))) := s2.trans (sub_put (by rw [put_ne r32]; exact n_r3))
      refine hR _ _ _ _ (by (repeat (first | with_reducible exact WS.SubR.refl | with_reducible refine WS.SubR.s ?_ | with_reducible refine WS.SubR.f ?_))) .refl ⟨r3, ps ++ qs, rfl, by omega, sb.trans (sb2.trans s3), sub_non sb (sub_non sb2 n_r3), by rw [put_same, List.map_append], ?_⟩
      exact ((sa.mono sb2).append sq).mono s3
  · rintro ρ h1 ⟨a, ps, rfl, _, sb, na, ea, sa⟩
    refine ⟨trivial, ?_⟩
    (unfold d__law_sets_3; walk_at "ws")
    rw [upTo_len] at sa
    have e5 : ((n : Int)).toNat = n := by omega
    rw [e5] at sa
    exact fg .refl (q a ps h1 sb na ea sa)
theorem s__law_mostB (k : Nat) {A B : Nat} {w n m : Int} {h : IH} {Q : KV} {E : XC} (bw : Bd A w) (bm : Bd B m) (bn : Bd B (n - m)) (hA : A + B + B < 100000) (q : Q (pt (mst w n m)) h) : (C (k + 2)).run "_law_most" [.int w, .int n, .int m] h Q E := by
  refine run__law_most (k + 1) ?_
  (unfold d__law_most; walk_at "ws")
  refine ⟨bw.mulOk bm (by omega), (bw.mul bm).mulOk bn (by omega), ?_⟩
  exact s__law_low k (B := 2) (by decide) (by unfold Bd; decide) (by decide) (fg .refl q)
/-- what some places of a row come to -/
def setSum (rs : List (Int × Int)) (s : List Nat) : Int × Int := psum (0, 1) (s.map fun k => rs.getD k (0, 1))
theorem setSum_ok {B : Nat} {rs : List (Int × Int)} {s : List Nat} (hp : ∀ p ∈ rs, Pt p ∧ PB B p) (hs : s.Sublist (List.range rs.length)) : Pt (setSum rs s) ∧ PB (1 + rs.length * (B + 1)) (setSum rs s) := by
  have z := psum_ok (B := B) (ps := s.map fun k => rs.getD k (0, 1)) zero_pt zero_pb fun p hp' => by
    obtain ⟨k, hk, rfl⟩ := List.mem_map.mp hp'
    exact hp _ (getD_mem (List.mem_range.mp (hs.mem hk)))
  refine ⟨z.1, z.2.mono ?_⟩
  have l : (s.map fun k => rs.getD k (0, 1)).length ≤ rs.length := by
    have := hs.length_le
    rw [List.length_range] at this
    rw [List.length_map]; exact this
  have := Nat.mul_le_mul_right (B + 1) l
  omega
theorem setSum_qv {rs : List (Int × Int)} {s : List Nat} (hp : ∀ p ∈ rs, Pt p) (hs : s.Sublist (List.range rs.length)) : qv (setSum rs s) = qsum (s.map fun k => qv (rs.getD k (0, 1))) := by
  unfold setSum
  rw [qv_psum zero_pt fun p hp' => by
    obtain ⟨k, hk, rfl⟩ := List.mem_map.mp hp'
    exact hp _ (getD_mem (List.mem_range.mp (hs.mem hk))), List.map_map, qv_zero]
  show (0 : Rat) + qsum (List.map (fun k => qv (rs.getD k (0, 1))) _) = _
  grind
/-- no so many places come to more than so many of the first ones -/
theorem setSum_le {rs : List (Int × Int)} {s : List Nat} (hp : ∀ p ∈ rs, Pt p) (hs : s.Sublist (List.range rs.length)) : qv (setSum rs s) ≤ qv (topS rs s.length) := by
  rw [setSum_qv hp hs, topS_qv hp]
  exact gf_top (v := fun k => qv (rs.getD k (0, 1))) hs
theorem setSum_hit {rs : List (Int × Int)} {m : Nat} (hp : ∀ p ∈ rs, Pt p) (hm : m ≤ rs.length) : ∃ s, s.Sublist (List.range rs.length) ∧ s.length = m ∧ qv (setSum rs s) = qv (topS rs m) := by
  obtain ⟨s, h1, h2, h3⟩ := gf_hit (v := fun k => qv (rs.getD k (0, 1))) hm
  exact ⟨s, h1, h2, by rw [setSum_qv hp h1, topS_qv hp, h3]; rfl⟩
theorem cut_1 {xs : List Val} : cutW xs (some 1) none = xs.drop 1 := by
  unfold cutW HT.sIx
  cases xs with
  | nil => rfl
  | cons x xs => simp
theorem cut_to {xs : List Val} {k : Nat} (h : k ≤ xs.length) : cutW xs none (some (k : Int)) = xs.take k := by
  unfold cutW HT.sIx
  have e : ¬ (k : Int) < 0 := by omega
  simp [h, e]
theorem map_getD (rs : List (Int × Int)) : (List.range rs.length).map (fun k => qv (rs.getD k (0, 1))) = rs.map qv := by
  refine List.ext_getElem? fun i => ?_
  by_cases h : i < rs.length
  · rw [List.getElem?_map, List.getElem?_map, List.getElem?_range h, List.getElem?_eq_getElem h]
    simp [List.getD_eq_getElem?_getD, h]
  · rw [List.getElem?_eq_none_iff.mpr (by simp; omega), List.getElem?_eq_none_iff.mpr (by simp; omega)]
theorem gfr_map_perm (rs : List (Int × Int)) : ((gfr rs).map fun k => qv (rs.getD k (0, 1))).Perm (rs.map qv) := by
  rw [← map_getD]
  exact (gf_perm rs.length).map _
/-- what a row within its weight is, the order aside -/
def DD (w : Int) (n : Nat) (L : List Rat) : Prop := qsum L = 0 ∧ ∀ S R : List Rat, (S ++ R).Perm L → qsum S ≤ qv (mst w n S.length)
theorem DD.perm {w : Int} {n : Nat} {L M : List Rat} (p : L.Perm M) (d : DD w n L) : DD w n M := ⟨by rw [← qsum_perm p]; exact d.1, fun S R h => d.2 S R (h.trans p.symm)⟩
theorem zero_iff {p : Int × Int} (h : Pt p) : p = (0, 1) ↔ qv p = 0 := ⟨fun e => by rw [e]; exact qv_zero, fun e => qv_inj h zero_pt (by rw [e, qv_zero])⟩
theorem topS_take {rs : List (Int × Int)} {m : Nat} (hp : ∀ p ∈ rs, Pt p) : qv (topS rs m) = qsum (((gfr rs).map fun k => qv (rs.getD k (0, 1))).take m) := by rw [topS_qv hp, List.map_take]
theorem topS_ptm {rs : List (Int × Int)} {m : Nat} (hp : ∀ p ∈ rs, Pt p) : Pt (topS rs m) := by
  unfold topS
  generalize hq : ((gfr rs).take m).map (fun k => rs.getD k (0, 1)) = ps
  have h : ∀ p ∈ ps, Pt p := fun p hp' => by
    rw [← hq] at hp'
    obtain ⟨k, hk, rfl⟩ := List.mem_map.mp hp'
    exact hp _ (getD_mem (gfr_lt (List.mem_of_mem_take hk)))
  clear hq
  suffices z : ∀ (ps : List (Int × Int)) (s : Int × Int), Pt s → (∀ p ∈ ps, Pt p) → Pt (psum s ps) from z ps _ zero_pt h
  intro ps
  induction ps with
  | nil => intro s hs _; exact hs
  | cons p ps ih => intro s hs h; exact ih _ (padd_pt hs (h p List.mem_cons_self)) fun x hx => h x (List.mem_cons_of_mem _ hx)
theorem le_of_plt {p q : Int × Int} (hp : Pt p) (hq : Pt q) (h : plt p q = false) : qv q ≤ qv p := by
  rw [plt_qv hp.pos hq.pos] at h
  exact Rat.not_lt.mp (of_decide_eq_false h)
theorem plt_of_le {p q : Int × Int} (hp : 0 < p.2) (hq : 0 < q.2) (h : qv q ≤ qv p) : plt p q = false := by
  rw [plt_qv hp hq]
  exact decide_eq_false (Rat.not_lt.mpr h)
theorem within_iff {w : Int} {rs : List (Int × Int)} (hp : ∀ p ∈ rs, Pt p) : withinB w rs = true ↔ DD w rs.length (rs.map qv) := by
  have hperm := gfr_map_perm rs
  have hd : ((gfr rs).map fun k => qv (rs.getD k (0, 1))).Pairwise (fun a b => b ≤ a) := gf_desc
  have hlen : ((gfr rs).map fun k => qv (rs.getD k (0, 1))).length = rs.length := by rw [List.length_map, gfr_len]
  have htop : qv (topS rs rs.length) = qsum (rs.map qv) := by
    rw [topS_take hp, List.take_of_length_le (by omega), qsum_perm hperm]
  unfold withinB
  rw [Bool.and_eq_true, decide_eq_true_eq, zero_iff (topS_ptm hp), htop]
  have hfall : (fallN w rs (rs.length + 1)).isNone = true ↔ ∀ m, m ≤ rs.length → qv (topS rs m) ≤ qv (mst w rs.length m) := by
    rw [Option.isNone_iff_eq_none]
    unfold fallN
    rw [List.find?_eq_none]
    constructor
    · intro h m hm
      have z := h m (List.mem_range.mpr (by omega))
      exact le_of_plt mst_pt (topS_ptm hp) (by simpa using z)
    · intro h m hm
      have hm := List.mem_range.mp hm
      simp [plt_of_le mst_pt.pos (topS_ptm hp).pos (h m (by omega))]
  rw [hfall]
  constructor
  · rintro ⟨h1, h2⟩
    refine ⟨h1, fun S R h => ?_⟩
    have z := top_sum _ hd S R (h.trans hperm.symm)
    have l : S.length ≤ rs.length := by
      have := h.length_eq
      rw [List.length_append, List.length_map] at this
      omega
    have z2 := h2 S.length l
    rw [topS_take hp] at z2
    grind
  · rintro ⟨h1, h2⟩
    refine ⟨h1, fun m hm => ?_⟩
    have z := h2 _ _ (show ((((gfr rs).map fun k => qv (rs.getD k (0, 1))).take m) ++ (((gfr rs).map fun k => qv (rs.getD k (0, 1))).drop m)).Perm (rs.map qv) by rw [List.take_append_drop]; exact hperm)
    rw [List.length_take, hlen, Nat.min_eq_left hm] at z
    rw [topS_take hp]
    exact z
theorem mst_other18 {w n m : Int} : mst w n (n - m) = mst w n m := by
  unfold mst
  congr 1
  grind
def negp (p : Int × Int) : Int × Int := (0 - p.1, p.2)
theorem qv_neg {p : Int × Int} : qv (negp p) = - qv p := by
  unfold qv negp
  have e : ((0 - p.1 : Int) : Rat) = - (p.1 : Rat) := by push_cast; grind
  rw [e]
  grind
/-- what the law finds of some places -/
def setOkB (w : Int) (rs : List (Int × Int)) (s : List Nat) : Bool := !plt (mst w rs.length s.length) (setSum rs s) && !plt (setSum rs s) (negp (mst w rs.length s.length))
def dueB (w : Int) (rs : List (Int × Int)) : Bool := decide (psum (0, 1) rs = (0, 1)) && (setsOf rs.length).all (setOkB w rs)
theorem due_iff {w : Int} {rs : List (Int × Int)} {B : Nat} (hp' : ∀ p ∈ rs, Pt p ∧ PB B p) : dueB w rs = true ↔ DD w rs.length (rs.map qv) := by
  have hp : ∀ p ∈ rs, Pt p := fun p h => (hp' p h).1
  have hps : Pt (psum (0, 1) rs) := (psum_ok zero_pt zero_pb hp').1
  have hsum : qv (psum (0, 1) rs) = qsum (rs.map qv) := by
    rw [qv_psum zero_pt hp, qv_zero]
    grind
  have hset : ∀ s, s ∈ setsOf rs.length → Pt (setSum rs s) ∧ qv (setSum rs s) = qsum (s.map fun k => qv (rs.getD k (0, 1))) := fun s h => ⟨(setSum_ok hp' (setsOf_sub h)).1, setSum_qv hp (setsOf_sub h)⟩
  unfold dueB
  rw [Bool.and_eq_true, decide_eq_true_eq, zero_iff hps, hsum, List.all_eq_true]
  constructor
  · rintro ⟨h1, h2⟩
    refine ⟨h1, fun S R h => ?_⟩
    have hperm := gfr_map_perm rs
    have z := top_sum _ gf_desc S R (h.trans hperm.symm)
    have l : S.length ≤ rs.length := by
      have := h.length_eq
      rw [List.length_append, List.length_map] at this
      omega
    obtain ⟨s, s1, s2, s3⟩ := setSum_hit hp l
    have a := h2 s (setsOf_all s1)
    unfold setOkB at a
    rw [Bool.and_eq_true] at a
    have a1 := le_of_plt mst_pt (hset s (setsOf_all s1)).1 (by simpa using a.1)
    rw [s2, s3, topS_take hp] at a1
    exact Rat.le_trans z a1
  · rintro ⟨h1, h2⟩
    refine ⟨h1, fun s hs => ?_⟩
    obtain ⟨r, hr⟩ := (setsOf_sub hs).exists_perm_append
    have hperm : (s.map (fun k => qv (rs.getD k (0, 1))) ++ r.map (fun k => qv (rs.getD k (0, 1)))).Perm (rs.map qv) := by
      rw [← map_getD, ← List.map_append]
      exact hr.symm.map _
    have u := h2 _ _ hperm
    have lo := h2 _ _ (List.perm_append_comm.trans hperm)
    have hl := hperm.length_eq
    rw [List.length_append, List.length_map, List.length_map, List.length_map] at hl
    rw [List.length_map] at u lo
    have e : (r.length : Int) = (rs.length : Int) - s.length := by omega
    rw [e, mst_other18] at lo
    have hz : qsum (s.map (fun k => qv (rs.getD k (0, 1)))) + qsum (r.map (fun k => qv (rs.getD k (0, 1)))) = 0 := by
      rw [← qsum_append, qsum_perm hperm]; exact h1
    have hq := hset s hs
    unfold setOkB
    rw [Bool.and_eq_true]
    refine ⟨?_, ?_⟩
    · rw [plt_of_le mst_pt.pos hq.1.pos (by rw [hq.2]; exact u)]; rfl
    · rw [plt_of_le hq.1.pos (show 0 < (negp (mst w rs.length s.length)).2 from mst_pt.pos) (by rw [qv_neg, hq.2]; grind)]; rfl
/-- in any order the answer is the law's -/
theorem within_due {w : Int} {rs rs' : List (Int × Int)} {B : Nat} (hp : ∀ p ∈ rs, Pt p ∧ PB B p) (h : rs'.Perm rs) : withinB w rs' = dueB w rs := by
  have hp1 : ∀ p ∈ rs', Pt p := fun p hp' => (hp p (h.mem_iff.mp hp')).1
  rw [Bool.eq_iff_iff, within_iff hp1, due_iff hp, h.length_eq]
  exact ⟨fun d => d.perm (h.map qv), fun d => d.perm (h.map qv).symm⟩
theorem s__law_number18 (k : Nat) {a : Addr} {x y : Int} {h : IH} {Q : KV} {E : XC} (ha : h a = some (potC x y)) (hb : PotB x y) (q : ∀ n x y, Bd 100 n → PotB x y → Q (.int n) (put h a (potC x y))) :
    (C (k + 2)).run "_law_number" [.ref a] h Q E := by
  refine run__law_number (k + 1) ?_
  have c10 : CPow 10 29 := ⟨by decide, by decide, by decide⟩
  (unfold d__law_number; obtain ⟨D0', e0'⟩ : ∃ D : WS.DS, D = d__law_number_2 := ⟨_, rfl⟩; rw [← e0']; walk_at "ws"; subst e0')
  refine ⟨c10, Bd.mulOk (A := 3) (B := 170) (by unfold Bd; decide) (by unfold Bd; decide) (by decide), ?_⟩
  (refine s_dig _ (by (repeat (first | with_reducible exact WS.put_same | assumption | with_reducible refine WS.put_ne' (by first | assumption | exact Ne.symm (by assumption)) ?_ | with_reducible refine WS.Ev.get (by assumption) (by first | assumption | exact Ne.symm (by assumption)) ?_))) (by assumption) (by first | assumption | decide | omega) (by first | assumption | decide | omega) fun d1 x_d1 y_d1 l_d1 u_d1 b_d1 => ?_; walk_at "ws")
  refine ⟨c10, ?_⟩
  (unfold d__law_number_2; walk_at "ws")
  (refine s_dig _ (by (repeat (first | with_reducible exact WS.put_same | assumption | with_reducible refine WS.put_ne' (by first | assumption | exact Ne.symm (by assumption)) ?_ | with_reducible refine WS.Ev.get (by assumption) (by first | assumption | exact Ne.symm (by assumption)) ?_))) (by assumption) (by first | assumption | decide | omega) (by first | assumption | decide | omega) fun d2 x_d2 y_d2 l_d2 u_d2 b_d2 => ?_; walk_at "ws")
  walk_at "ws"
  (refine s_dig _ (by (repeat (first | with_reducible exact WS.put_same | assumption | with_reducible refine WS.put_ne' (by first | assumption | exact Ne.symm (by assumption)) ?_ | with_reducible refine WS.Ev.get (by assumption) (by first | assumption | exact Ne.symm (by assumption)) ?_))) (by assumption) (by first | assumption | decide | omega) (by first | assumption | decide | omega) fun d3 x_d3 y_d3 l_d3 u_d3 b_d3 => ?_; walk_at "ws")
  walk_at "ws"
  (refine s_dig _ (by (repeat (first | with_reducible exact WS.put_same | assumption | with_reducible refine WS.put_ne' (by first | assumption | exact Ne.symm (by assumption)) ?_ | with_reducible refine WS.Ev.get (by assumption) (by first | assumption | exact Ne.symm (by assumption)) ?_))) (by assumption) (by first | assumption | decide | omega) (by first | assumption | decide | omega) fun d4 x_d4 y_d4 l_d4 u_d4 b_d4 => ?_; walk_at "ws")
  walk_at "ws"
  refine ⟨by decide, ?_⟩
  (refine s_dig _ (by (repeat (first | with_reducible exact WS.put_same | assumption | with_reducible refine WS.put_ne' (by first | assumption | exact Ne.symm (by assumption)) ?_ | with_reducible refine WS.Ev.get (by assumption) (by first | assumption | exact Ne.symm (by assumption)) ?_))) (by assumption) (by first | assumption | decide | omega) (by first | assumption | decide | omega) fun d5 x_d5 y_d5 l_d5 u_d5 b_d5 => ?_; walk_at "ws")
  have bd : ∀ i : Int, i.natAbs < 2 ^ 100 → Bd 100 i := fun i h => h
  have c : d5 = 0 ∨ d5 = 1 ∨ d5 = 2 ∨ d5 = 3 := by omega
  walk_at "ws"
  rcases c with rfl | rfl | rfl | rfl
  all_goals
    walk_at "ws"
    refine fg (by (refine WS.Sub.of ?_; (repeat (with_reducible refine WS.SubX.l (by (repeat (first | with_reducible exact WS.put_same | assumption | with_reducible refine WS.put_ne' (by first | assumption | exact Ne.symm (by assumption)) ?_ | with_reducible refine WS.Ev.get (by assumption) (by first | assumption | exact Ne.symm (by assumption)) ?_))) ?_)); (repeat (first | exact WS.SubX.refl | with_reducible refine WS.SubX.r0 ?_ | with_reducible refine WS.SubX.r1 ?_ | with_reducible refine WS.SubX.r2 ?_ | with_reducible refine WS.SubX.r3 ?_ | with_reducible refine WS.SubX.n (by assumption) ?_ | with_reducible refine WS.Ev.tr (by assumption) ?_)))) (q _ _ _ (bd _ (by omega)) b_d5)
theorem s__law_row18 (k : Nat) {a : Addr} {x y : Int} {m : Nat} {h : IH} {Q : KV} {E : XC} (ha : h a = some (potC x y)) (hb : PotB x y) (hm : m ≤ 7) (q : ∀ (rs : List (Int × Int)) p x y, rs.length = m → (∀ p ∈ rs, Pt p ∧ PB 813 p) → PotB x y → h p = none → p ≠ a → Q (.ref p) (put (put h a (potC x y)) p (.lst (rs.map pt)))) :
    (C (k + 4)).run "_law_row" [.ref a, .int m] h Q E := by
  refine run__law_row (k + 3) ?_
  (unfold d__law_row; obtain ⟨D0', e0'⟩ : ∃ D : WS.DS, D = d__law_row_2 := ⟨_, rfl⟩; rw [← e0']; walk_at "ws"; subst e0')
  refine ⟨by omega, by omega, ?_⟩
  have em : ((m : Int)).toNat = m := by omega
  refine lc_by (fun i acc h2 => ∃ (ps : List (Int × Int)) (x y : Int), ps.length = i ∧ (∀ p ∈ ps, Pt p ∧ PB 100 p) ∧ PotB x y ∧ h2 = put h a (potC x y) ∧ acc = ps.map pt) ?_ ?_ ⟨[], x, y, rfl, (fun _ z => nomatch z), hb, (put_self ha).symm, rfl⟩
  · rintro i w acc h1 R hw ⟨ps, x1, y1, hl, hp, b1, rfl, rfl⟩ hR
    obtain ⟨hi2, rfl⟩ := upTo_get hw
    refine ⟨trivial, ?_⟩
    walk_at "ws"
    refine s__law_number18 (k + 1) (by (repeat (first | with_reducible exact WS.put_same | assumption | with_reducible refine WS.put_ne' (by first | assumption | exact Ne.symm (by assumption)) ?_ | with_reducible refine WS.Ev.get (by assumption) (by first | assumption | exact Ne.symm (by assumption)) ?_))) b1 fun n x2 y2 bn b2 => ?_
    walk_at "ws"
    refine ⟨by decide, ?_⟩
    (refine s_dig _ (by (repeat (first | with_reducible exact WS.put_same | assumption | with_reducible refine WS.put_ne' (by first | assumption | exact Ne.symm (by assumption)) ?_ | with_reducible refine WS.Ev.get (by assumption) (by first | assumption | exact Ne.symm (by assumption)) ?_))) (by assumption) (by first | assumption | decide | omega) (by first | assumption | decide | omega) fun d2 x_d2 y_d2 l_d2 u_d2 b_d2 => ?_; walk_at "ws")
    refine ix_all (P := fun v => ∃ b, v = .int b ∧ 0 < b ∧ b.natAbs < 2 ^ 7) (by omega) (by simpa using u_d2) ?_ ?_
    · simp only [List.forall_mem_cons]
      exact ⟨⟨_, rfl, by omega, by omega⟩, ⟨_, rfl, by omega, by omega⟩, ⟨_, rfl, by omega, by omega⟩, ⟨_, rfl, by omega, by omega⟩, ⟨_, rfl, by omega, by omega⟩, ⟨_, rfl, by omega, by omega⟩, ⟨_, rfl, by omega, by omega⟩, fun _ z => nomatch z⟩
    rintro v ⟨b, rfl, hb0, bb⟩
    refine ⟨rfl, s__law_low (k + 2) hb0 (B := 7) bb (by decide) ?_⟩
    have po : Pt (low n b) ∧ PB 100 (low n b) := ⟨low_pt hb0, low_pb bn (Bd.mono (show Bd 7 b from bb) (by decide)) hb0⟩
    refine ⟨rfl, by rw [List.length_map]; show _ < 2 ^ 24; omega, hR _ _ _ .refl ⟨ps ++ [low n b], x_d2, y_d2, by simp [hl], fun r hr => ?_, b_d2, rfl, by simp⟩⟩
    rcases List.mem_append.mp hr with hr | hr
    · exact hp r hr
    · rw [List.mem_singleton.mp hr]; exact po
  · rintro acc h1 ⟨ps, x1, y1, hl, hp, b1, rfl, rfl⟩
    rw [upTo_len, em] at hl
    refine ⟨trivial, ?_⟩
    (intro p n_p; obtain ⟨_, n_p⟩ := WS.put_none n_p)
    have pa : p ≠ a := by assumption
    (unfold d__law_row_2; obtain ⟨D0', e0'⟩ : ∃ D : WS.DS, D = d__law_row_3 := ⟨_, rfl⟩; rw [← e0']; walk_at "ws"; subst e0')
    have h101 : (ps.length + 1) * (100 + 1) ≤ 8 * 101 := Nat.mul_le_mul_right _ (by omega)
    refine s__law_sum (k + 0) put_same (B := 100) hp (by omega) ?_
    have ws := psum_ok (B := 100) zero_pt zero_pb hp
    have ws2 : PB 708 (psum (0, 1) ps) := ws.2.mono (by omega)
    have wp := ws.1
    generalize psum (0, 1) ps = W at wp ws2
    (unfold d__law_row_3; walk_at "ws")
    let f : Int × Int → Int × Int := fun one => padd one (low (0 - W.1) (W.2 * m))
    have hf : ∀ one, 0 < m → Pt one ∧ PB 100 one → Pt (low (0 - W.1) (W.2 * m)) ∧ PB 712 (low (0 - W.1) (W.2 * m)) ∧ Pt (f one) ∧ PB 813 (f one) := by
      intro one m0 o
      have m1 : 0 < W.2 * (m : Int) := Int.mul_pos wp.pos (by omega)
      have b3 : Bd 4 (m : Int) := by unfold Bd; omega
      have c1 : Bd 709 (0 - W.1) := (show Bd 708 (0 : Int) by unfold Bd; decide).sub ws2.a
      have c2 : PB 712 (low (0 - W.1) (W.2 * m)) := low_pb (c1.mono (by decide)) (ws2.b.mul b3) m1
      exact ⟨low_pt m1, c2, padd_pt o.1 (low_pt m1), padd_pb o.2 c2 o.1 (low_pt m1)⟩
    refine lc_by (fun i acc h2 => h2 = put (put h a (potC x1 y1)) p (.lst (ps.map pt)) ∧ acc = ((ps.take i).map f).map pt) ?_ ?_ ⟨rfl, rfl⟩
    · rintro i w acc h2 R hw ⟨rfl, rfl⟩ hR
      obtain ⟨one, h1, rfl, mem, hil⟩ := map_get hw
      have z := hf one (by omega) (hp one mem)
      refine ⟨seq_put, ?_⟩
      walk_at "ws"
      have b3 : Bd 4 (m : Int) := by unfold Bd; omega
      have m1 : 0 < W.2 * (m : Int) := Int.mul_pos wp.pos (by omega)
      refine ⟨ws2.b.mulOk b3 (by decide), s__law_low (k + 2) m1 (ws2.b.mul b3) (by decide) ?_⟩
      refine ⟨rfl, s__law_plus (k + 1) (hp one mem).1 z.1 (hp one mem).2 z.2.1 (by decide) ?_⟩
      refine ⟨rfl, ?_, hR _ _ _ .refl ⟨rfl, ?_⟩⟩
      · rw [List.length_map, List.length_map, List.length_take]
        show _ < 2 ^ 24
        omega
      · rw [List.take_add_one, h1]
        simp [f]
    · rintro acc h2 ⟨rfl, rfl⟩
      refine ⟨seq_put, ?_⟩
      (intro r n_r; obtain ⟨_, n_r⟩ := WS.put_none n_r; obtain ⟨_, n_r⟩ := WS.put_none n_r)
      rw [List.length_map, List.take_length]
      refine fg ?_ (q (ps.map f) r x1 y1 (by rw [List.length_map]; exact hl) (fun o ho => ?_) b1 (by assumption) (by assumption))
      · intro c d e
        by_cases z : c = r
        · rw [z, put_same] at e ⊢; exact e
        · rw [put_ne z] at e ⊢
          exact sub_put (by rw [put_ne pa]; exact n_p) _ _ e
      · obtain ⟨one, h1, rfl⟩ := List.mem_map.mp ho
        have hpos : 0 < m := by
          have := List.length_pos_of_mem h1
          omega
        exact (hf one hpos (hp one h1)).2.2
def lenAt (ρ : Rho) (h : IH) : Nat := match ρ with
  | _ :: some (.ref l) :: _ => (match h l with
    | some (.lst xs) => xs.length
    | _ => 0)
  | _ => 0
/-- the greatest first, as the law finds it: only that it is some places of the row -/
theorem s__law_first (k : Nat) {a : Addr} {rs : List (Int × Int)} {B : Nat} {h : IH} {Q : KV} {E : XC} (ha : h a = some (.lst (rs.map pt))) (hp : ∀ p ∈ rs, Pt p ∧ PB B p) (hB : B < 4000) (hl : rs.length ≤ 1000) (q : ∀ p h' (f : List Nat), Sub h h' → h p = none → h' p = some (.lst (f.map natV)) → f.length = rs.length → (∀ x ∈ f, x < rs.length) → Q (.ref p) h') :
    (C (k + 2)).run "_law_first" [.ref a] h Q E := by
  refine run__law_first (k + 1) ?_
  (unfold d__law_first; obtain ⟨D0', e0'⟩ : ∃ D : WS.DS, D = d__law_first_2 := ⟨_, rfl⟩; rw [← e0']; (walk_at "ws"; (try simp only [seq_of ha]); walk_at "ws"); subst e0')
  rw [List.length_map]
  refine ⟨by omega, ?_⟩
  (intro l n_l)
  have la : l ≠ a := Ne.symm (ne_none ha n_l)
  (unfold d__law_first_2; obtain ⟨D0', e0'⟩ : ∃ D : WS.DS, D = d__law_first_3 := ⟨_, rfl⟩; rw [← e0']; walk_at "ws"; subst e0')
  refine ⟨by decide, ?_⟩
  (intro g n_g; obtain ⟨_, n_g⟩ := WS.put_none n_g)
  have gl : g ≠ l := by assumption
  have ga : g ≠ a := Ne.symm (ne_none ha (by assumption))
  have e0 : WS.upTo 0 ((rs.length : Int)).toNat = (List.range rs.length).map natV := by
    unfold WS.upTo natV
    rw [Int.toNat_natCast]
    refine List.map_congr_left fun k _ => ?_
    have e : (0 : Int) + (k : Int) = k := by omega
    rw [e]
  rw [e0]
  (unfold d__law_first_3; obtain ⟨D0', e0'⟩ : ∃ D : WS.DS, D = d__law_first_3a := ⟨_, rfl⟩; rw [← e0']; obtain ⟨D1', e1'⟩ : ∃ D : WS.DS, D = d__law_first_4 := ⟨_, rfl⟩; rw [← e1']; walk_at "ws"; subst e0'; subst e1')
  let P : Rho → IH → Prop := fun ρ h1 => ∃ (l : Addr) (left f : List Nat), ρ = [some (.ref a), some (.ref l), some (.ref g), none, none] ∧ Sub h h1 ∧ l ≠ g ∧ h l = none ∧ h1 l = some (.lst (left.map natV)) ∧ h1 g = some (.lst (f.map natV)) ∧ left.Nodup ∧ (∀ x ∈ left, x < rs.length) ∧ (∀ x ∈ f, x < rs.length) ∧ left.length + f.length = rs.length
  refine wl_by P lenAt ?_ ⟨l, List.range rs.length, [], rfl, ?_, Ne.symm gl, n_l, put_ne' (Ne.symm gl) put_same, put_same, List.nodup_range, fun x hx => List.mem_range.mp hx, (fun _ z => nomatch z), by simp⟩
  · rintro ρ h1 R ⟨l, left, f, rfl, sb, lg, nl, el, eg, nd, ll, lf, lsum⟩ hR
    have ea := sb _ _ ha
    walk_at "ws"
    refine ⟨by decide, ?_⟩
    (intro r n_r)
    have rl : r ≠ l := Ne.symm (ne_none el n_r)
    rw [vNe_nil (put_ne' (Ne.symm rl) el) put_same datL_nats]
    have s1 : Sub h1 (put h1 r (.lst [])) := sub_put n_r
    have el2 := s1 _ _ el
    have eg2 := s1 _ _ eg
    have ea2 := s1 _ _ ea
    have sb2 := Sub.trans sb s1
    generalize put h1 r (.lst []) = H at s1 el2 eg2 ea2 sb2
    cases left with
    | nil =>
      (walk_at "ws"; (try simp only [List.map_nil, List.isEmpty_nil]); walk_at "ws")
      (unfold d__law_first_4; walk_at "ws")
      exact fg .refl (q g H f sb2 (by assumption) eg2 (by simpa using lsum) lf)
    | cons x left =>
      (walk_at "ws"; (try simp only [List.map_cons, List.isEmpty_cons]); walk_at "ws")
      have e1 : pyAt ((x :: left).map natV) 0 = some (.int (x : Int)) := rfl
      (unfold d__law_first_3a; obtain ⟨D0', e0'⟩ : ∃ D : WS.DS, D = d__law_first_3a_2 := ⟨_, rfl⟩; rw [← e0']; (walk_at "ws"; (try simp only [seq_of el2, e1]); walk_at "ws"); subst e0')
      (unfold d__law_first_3a_2; obtain ⟨D0', e0'⟩ : ∃ D : WS.DS, D = d__law_first_3a_2a := ⟨_, rfl⟩; rw [← e0']; obtain ⟨D1', e1'⟩ : ∃ D : WS.DS, D = d__law_first_3a_3 := ⟨_, rfl⟩; rw [← e1']; (walk_at "ws"; (try simp only [seq_of el2]); walk_at "ws"); subst e0'; subst e1')
      refine lp_by (fun i ρ h3 => ∃ at' : Nat, at' ∈ x :: left ∧ h3 = H ∧ ρ = [some (.ref a), some (.ref l), some (.ref g), some (.int (at' : Int)), none]) ?_ ?_ ⟨x, List.mem_cons_self, rfl, rfl⟩
      · rintro i w ρ h3 R' hw ⟨at', hat, rfl, rfl⟩ hR'
        obtain ⟨k', hk1, rfl, hk2⟩ := natV_get hw
        have l1 := ll at' hat
        have l2 := ll k' hk2
        refine ⟨seq_of el2, ?_⟩
        walk_at "ws"
        (unfold d__law_first_3a_2a; walk_at "ws")
        refine m_seq ea2 (ix_pt l1 (m_seq ea2 (ix_pt l2 ?_)))
        refine ⟨rfl, s__law_less k (hp _ (getD_mem l1)).2 (hp _ (getD_mem l2)).2 (by omega) ?_⟩
        cases plt (rs.getD at' (0, 1)) (rs.getD k' (0, 1)) with
        | true =>
          walk_at "ws"
          exact hR' _ _ _ _ (by (repeat (first | with_reducible exact WS.SubR.refl | with_reducible refine WS.SubR.s ?_ | with_reducible refine WS.SubR.f ?_))) .refl ⟨k', hk2, rfl, rfl⟩
        | false =>
          walk_at "ws"
          exact hR' _ _ _ _ (by (repeat (first | with_reducible exact WS.SubR.refl | with_reducible refine WS.SubR.s ?_ | with_reducible refine WS.SubR.f ?_))) .refl ⟨at', hat, rfl, rfl⟩
      · rintro ρ h3 ⟨at', hat, rfl, rfl⟩
        refine ⟨seq_of el2, ?_⟩
        (unfold d__law_first_3a_3; obtain ⟨D0', e0'⟩ : ∃ D : WS.DS, D = d__law_first_3a_4 := ⟨_, rfl⟩; rw [← e0']; (walk_at "ws"; (try simp only [eg2]); walk_at "ws"); subst e0')
        have lf' : f.length < rs.length := by
          simp only [List.length_cons] at lsum
          omega
        refine ⟨by rw [List.length_map]; show _ < 2 ^ 24; omega, ?_⟩
        have el3 : put h3 g (.lst (f.map natV ++ [.int (at' : Int)])) l = some (.lst ((x :: left).map natV)) := put_ne' lg el2
        have sg : Sub h (put h3 g (.lst (f.map natV ++ [.int (at' : Int)]))) := fun c d e => by
          by_cases z : c = g
          · subst z
            have : h c = none := by assumption
            rw [this] at e; cases e
          · rw [put_ne z]; exact sb2 _ _ e
        have eg3 : put h3 g (.lst (f.map natV ++ [.int (at' : Int)])) g = some (.lst ((f ++ [at']).map natV)) := by rw [put_same, List.map_append]; rfl
        generalize put h3 g (.lst (f.map natV ++ [.int (at' : Int)])) = H3 at el3 sg eg3
        (unfold d__law_first_3a_4; (walk_at "ws"; (try simp only [seq_of el3]); walk_at "ws"))
        refine lc_by (fun i acc h4 => h4 = H3 ∧ acc = (((x :: left).take i).filter fun k => k != at').map natV) ?_ ?_ ⟨rfl, rfl⟩
        · rintro i w acc h4 R' hw ⟨rfl, rfl⟩ hR'
          obtain ⟨k', hk1, rfl, hk2⟩ := natV_get hw
          refine ⟨seq_of el3, ?_⟩
          walk_at "ws"
          have e5 : ((x :: left).take (i + 1)).filter (fun k => k != at') = ((x :: left).take i).filter (fun k => k != at') ++ (if k' = at' then [] else [k']) := by
            rw [List.take_add_one, hk1, List.filter_append]
            by_cases c : k' = at' <;> simp [List.filter_cons, c]
          by_cases c : k' = at'
          · have c' : (k' : Int) = (at' : Int) := by rw [c]
            rw [if_pos c, List.append_nil] at e5
            (walk_at "ws"; (try simp only [decide_eq_true c']); walk_at "ws")
            exact hR' _ _ _ .refl ⟨rfl, by rw [e5]⟩
          · have c' : ¬ (k' : Int) = (at' : Int) := by omega
            rw [if_neg c] at e5
            (walk_at "ws"; (try simp only [decide_eq_false c']); walk_at "ws")
            refine ⟨?_, hR' _ _ _ .refl ⟨rfl, by rw [e5, List.map_append]; rfl⟩⟩
            rw [List.length_map]
            have z1 := List.length_filter_le (fun k => k != at') ((x :: left).take i)
            have z2 : ((x :: left).take i).length ≤ (x :: left).length := by rw [List.length_take]; omega
            show _ < 2 ^ 24
            omega
        · rintro acc h4 ⟨rfl, rfl⟩
          refine ⟨seq_of el3, ?_⟩
          (intro r3 n_r3)
          rw [List.length_map, List.take_length]
          have ef : (x :: left).filter (fun k => k != at') = (x :: left).erase at' := (List.Nodup.erase_eq_filter nd at').symm
          have elen : ((x :: left).erase at').length = (x :: left).length - 1 := List.length_erase_of_mem hat
          rw [ef]
          have s4 : Sub h4 (put h4 r3 (.lst (((x :: left).erase at').map natV))) := sub_put n_r3
          refine hR _ _ _ _ (by (repeat (first | with_reducible exact WS.SubR.refl | with_reducible refine WS.SubR.s ?_ | with_reducible refine WS.SubR.f ?_))) .refl ⟨r3, (x :: left).erase at', f ++ [at'], rfl, Sub.trans sg s4, Ne.symm (ne_none eg3 n_r3), sub_non sg n_r3, put_same, s4 _ _ eg3, nd.erase _, fun y hy => ll y (List.mem_of_mem_erase hy), fun y hy => ?_, ?_⟩ ?_
          · rcases List.mem_append.mp hy with hy | hy
            · exact lf y hy
            · rw [List.mem_singleton.mp hy]; exact ll at' hat
          · rw [elen, List.length_append]
            simp only [List.length_cons, List.length_nil] at lsum ⊢
            omega
          · show lenAt [_, some (.ref r3), _, _, _] _ < lenAt [_, some (.ref l), _, _, _] _
            simp only [lenAt, put_same, el, List.length_map, elen, List.length_cons]
            omega
  · exact Sub.trans (sub_put n_l) (sub_put (by rw [put_ne gl]; assumption))
theorem s__law_weight18 (k : Nat) {a : Addr} {rs : List (Int × Int)} {h : IH} {Q : KV} {E : XC} (ha : h a = some (.lst (rs.map pt))) (hp : ∀ p ∈ rs, Pt p ∧ PB 813 p) (hl : rs.length ≤ 7) (q : ∀ n, Bd 6000 n → Q (.int n) h) :
    (C (k + 4)).run "_law_weight" [.ref a] h Q E := by
  refine run__law_weight (k + 3) ?_
  (unfold d__law_weight; obtain ⟨D0', e0'⟩ : ∃ D : WS.DS, D = d__law_weight_2 := ⟨_, rfl⟩; rw [← e0']; walk_at "ws"; subst e0')
  (unfold d__law_weight_2; obtain ⟨D0', e0'⟩ : ∃ D : WS.DS, D = d__law_weight_3 := ⟨_, rfl⟩; rw [← e0']; walk_at "ws"; subst e0')
  refine s__law_first (k + 1) ha hp (by decide) (by omega) ?_
  intro g H f sb ng eg lf hf
  have ea := sb _ _ ha
  (unfold d__law_weight_3; obtain ⟨D0', e0'⟩ : ∃ D : WS.DS, D = d__law_weight_3a := ⟨_, rfl⟩; rw [← e0']; obtain ⟨D1', e1'⟩ : ∃ D : WS.DS, D = d__law_weight_4 := ⟨_, rfl⟩; rw [← e1']; (walk_at "ws"; (try simp only [seq_of ea]); walk_at "ws"); subst e0'; subst e1')
  rw [List.length_map]
  refine ⟨by omega, ?_⟩
  refine lp_by (fun i ρ h1 => ∃ least, Bd 6000 least ∧ h1 = H ∧ ρ = [some (.ref a), some (.int least), some (.ref g), none, none, none, none, none]) ?_ ?_ ⟨1, by unfold Bd; exact Nat.lt_of_lt_of_le (by decide : 1 < 2 ^ 1) (Nat.pow_le_pow_right (by decide) (by decide)), rfl, rfl⟩
  · rintro i w ρ h1 R hw ⟨least, bl, rfl, rfl⟩ hR
    obtain ⟨hi2, rfl⟩ := upTo_get hw
    have hi3 : 1 + i < rs.length := by omega
    refine ⟨trivial, ?_⟩
    have e1 : (1 : Int) + (i : Nat) = ((1 + i : Nat) : Int) := by omega
    rw [e1]
    walk_at "ws"
    (unfold d__law_weight_3a; obtain ⟨D0', e0'⟩ : ∃ D : WS.DS, D = d__law_weight_3a_2 := ⟨_, rfl⟩; rw [← e0']; (walk_at "ws"; (try simp only [seq_of eg]); walk_at "ws"); subst e0')
    (intro c n_c)
    have cut : cutW (f.map natV) none (some ((1 + i : Nat) : Int)) = (f.take (1 + i)).map natV := by rw [cut_to (by rw [List.length_map]; omega), List.map_take]
    rw [cut]
    have ca : c ≠ a := Ne.symm (ne_none ea n_c)
    have ea2 : put h1 c (.lst ((f.take (1 + i)).map natV)) a = some (.lst (rs.map pt)) := put_ne' (Ne.symm ca) ea
    refine lc_by (fun j acc h2 => h2 = put h1 c (.lst ((f.take (1 + i)).map natV)) ∧ acc = (((f.take (1 + i)).take j).map fun k => rs.getD k (0, 1)).map pt) ?_ ?_ ⟨rfl, rfl⟩
    · rintro j w acc h2 R' hw ⟨rfl, rfl⟩ hR'
      obtain ⟨k', hk1, rfl, hk2⟩ := natV_get hw
      have lk := hf k' (List.mem_of_mem_take hk2)
      refine ⟨seq_put, ?_⟩
      walk_at "ws"
      refine m_seq ea2 (ix_pt lk ?_)
      refine ⟨rfl, ?_, hR' _ _ _ .refl ⟨rfl, ?_⟩⟩
      · rw [List.length_map, List.length_map, List.length_take, List.length_take]
        show _ < 2 ^ 24
        omega
      · rw [List.take_add_one, hk1]
        simp
    · rintro acc h2 ⟨rfl, rfl⟩
      refine ⟨seq_put, ?_⟩
      (intro d n_d; obtain ⟨_, n_d⟩ := WS.put_none n_d)
      have dc : d ≠ c := by assumption
      have da : d ≠ a := Ne.symm (ne_none ea (by assumption))
      rw [List.length_map, List.take_length]
      have hpp : ∀ p ∈ (f.take (1 + i)).map (fun k => rs.getD k (0, 1)), Pt p ∧ PB 813 p := fun p hp' => by
        obtain ⟨k', hk, rfl⟩ := List.mem_map.mp hp'
        exact hp _ (getD_mem (hf _ (List.mem_of_mem_take hk)))
      have hlen : ((f.take (1 + i)).map (fun k => rs.getD k (0, 1))).length ≤ 7 := by rw [List.length_map, List.length_take]; omega
      have h813 : (((f.take (1 + i)).map (fun k => rs.getD k (0, 1))).length + 1) * (813 + 1) ≤ 8 * 814 := Nat.mul_le_mul_right _ (by omega)
      have h814 : ((f.take (1 + i)).map (fun k => rs.getD k (0, 1))).length * (813 + 1) ≤ 7 * 814 := Nat.mul_le_mul_right _ (by omega)
      refine s__law_sum (k + 0) put_same (B := 813) hpp (by omega) ?_
      have z := psum_ok (B := 813) zero_pt zero_pb hpp
      have z2 : PB 5700 (psum (0, 1) ((f.take (1 + i)).map (fun k => rs.getD k (0, 1)))) := z.2.mono (by omega)
      have zp := z.1.pos
      have ea3 : put (put h1 c (.lst ((f.take (1 + i)).map natV))) d (.lst (((f.take (1 + i)).map fun k => rs.getD k (0, 1)).map pt)) a = some (.lst (rs.map pt)) := put_ne' (Ne.symm da) ea2
      generalize psum (0, 1) ((f.take (1 + i)).map (fun k => rs.getD k (0, 1))) = t at z2 zp
      have sH : Sub h1 (put (put h1 c (.lst ((f.take (1 + i)).map natV))) d (.lst (((f.take (1 + i)).map fun k => rs.getD k (0, 1)).map pt))) := Sub.trans (sub_put n_c) (sub_put (by rw [put_ne dc]; assumption))
      generalize put (put h1 c (.lst ((f.take (1 + i)).map natV))) d (.lst (((f.take (1 + i)).map fun k => rs.getD k (0, 1)).map pt)) = H4 at ea3 sH
      have bk : Bd 4 ((1 + i : Nat) : Int) := by unfold Bd; omega
      have bn : Bd 4 ((rs.length : Int) - ((1 + i : Nat) : Int)) := by unfold Bd; omega
      generalize hm : ((1 + i : Nat) : Int) = m at bk bn
      have m0 : 0 < m := by omega
      have m1 : 0 < (rs.length : Int) - m := by omega
      walk_at "ws"
      (unfold d__law_weight_3a_2; obtain ⟨D0', e0'⟩ : ∃ D : WS.DS, D = d__law_weight_3a_3 := ⟨_, rfl⟩; rw [← e0']; (walk_at "ws"; (try simp only [seq_of ea3]); walk_at "ws"); subst e0')
      rw [List.length_map]
      generalize hd : (rs.length : Int) - m = dd at bn m1
      refine ⟨z2.b.mulOk bk (by decide), (z2.b.mul bk).mulOk bn (by decide), ?_⟩
      have bby := (z2.b.mul bk).mul bn
      have pby : 0 < t.2 * m * dd := Int.mul_pos (Int.mul_pos zp m0) m1
      generalize t.2 * m * dd = by' at bby pby
      (unfold d__law_weight_3a_3; walk_at "ws")
      have b2 : Bd 2 (2 : Int) := by unfold Bd; decide
      have bup : Bd 5900 (2 * t.1 + by' - 1) := by
        have z1 := ((b2.mul z2.a).mono (show 2 + 5700 ≤ 5710 by decide)).add (bby.mono (show 5700 + 4 + 4 ≤ 5710 by decide))
        have z2 := z1.sub (show Bd 5711 (1 : Int) by unfold Bd; exact Nat.lt_of_lt_of_le (by decide : 1 < 2 ^ 1) (Nat.pow_le_pow_right (by decide) (by decide)))
        exact z2.mono (by decide)
      refine ⟨b2.mulOk z2.a (by decide), pby, bby.divOk (by decide), ?_⟩
      have bq : Bd 6000 ((2 * t.1 + by' - 1) / by') := (bup.div pby).mono (by decide)
      refine hR _ _ _ h1 (by (repeat (first | with_reducible exact WS.SubR.refl | with_reducible refine WS.SubR.s ?_ | with_reducible refine WS.SubR.f ?_))) sH ⟨_, ?_, rfl, rfl⟩
      split
      · exact bq
      · exact bl
  · rintro ρ h1 ⟨least, bl, rfl, rfl⟩
    refine ⟨trivial, ?_⟩
    (unfold d__law_weight_4; walk_at "ws")
    exact fg sb (q least bl)
theorem s__law_due18 (k : Nat) {a : Addr} {w : Int} {rs : List (Int × Int)} {h : IH} {Q : KV} {E : XC} (ha : h a = some (.lst (rs.map pt))) (bw : Bd 6002 w) (hp : ∀ p ∈ rs, Pt p ∧ PB 930 p) (hl : rs.length ≤ 7) (q : Q (.bl (dueB w rs)) h) :
    (C (k + 4)).run "_law_due" [.int w, .ref a] h Q E := by
  refine run__law_due (k + 3) ?_
  (unfold d__law_due; obtain ⟨D0', e0'⟩ : ∃ D : WS.DS, D = d__law_due_2 := ⟨_, rfl⟩; rw [← e0']; walk_at "ws"; subst e0')
  have h931 : (rs.length + 1) * (930 + 1) ≤ 8 * 931 := Nat.mul_le_mul_right _ (by omega)
  have h930 : rs.length * (930 + 1) ≤ 7 * 931 := Nat.mul_le_mul_right _ (by omega)
  refine s__law_sum (k + 0) ha (B := 930) hp (by omega) ?_
  refine ⟨by decide, (vNe_pt2 (p := psum (0, 1) rs) (q := (0, 1))).mpr ?_⟩
  by_cases hz : psum (0, 1) rs = (0, 1)
  · rw [decide_eq_true hz]
    walk_at "ws"
    have hq : dueB w rs = (setsOf rs.length).all (setOkB w rs) := by unfold dueB; rw [decide_eq_true hz, Bool.true_and]
    rw [hq] at q
    (unfold d__law_due_2; obtain ⟨D0', e0'⟩ : ∃ D : WS.DS, D = d__law_due_2a := ⟨_, rfl⟩; rw [← e0']; obtain ⟨D1', e1'⟩ : ∃ D : WS.DS, D = d__law_due_3 := ⟨_, rfl⟩; rw [← e1']; (walk_at "ws"; (try simp only [seq_of ha]); walk_at "ws"); subst e0'; subst e1')
    rw [List.length_map]
    refine s__law_sets (k + 2) (by omega) ?_
    intro b ps H sb nb eb sa
    have eaH := sb _ _ ha
    (walk_at "ws"; (try simp only [seq_of eb]); walk_at "ws")
    refine lp_by (fun j ρ h3 => ((setsOf rs.length).take j).all (setOkB w rs) = true ∧ h3 = H ∧ ρ = [some (.int w), some (.ref a), none, none, none, none]) ?_ ?_ ⟨rfl, rfl, rfl⟩
    · rintro j v ρ h3 R hv ⟨hall, rfl, rfl⟩ hR
      obtain ⟨p', hp', rfl⟩ := refs_get hv
      have hj2 : j < (setsOf rs.length).length := by rw [← sa.len]; exact (List.getElem?_eq_some_iff.mp hp').1
      obtain ⟨p2, c1, c2, c3⟩ := sa.get j _ (List.getElem?_eq_getElem hj2)
      rw [hp'] at c1
      cases c1
      have et0 : (setsOf rs.length).take (j + 1) = (setsOf rs.length).take j ++ [(setsOf rs.length)[j]] := by rw [List.take_add_one, List.getElem?_eq_getElem hj2]; rfl
      generalize hs : (setsOf rs.length)[j] = s at c3 et0
      have ms : s ∈ setsOf rs.length := hs ▸ List.getElem_mem hj2
      have ss := setsOf_sub ms
      have lset := setsOf_get_len ms
      refine ⟨seq_of eb, ?_⟩
      walk_at "ws"
      (unfold d__law_due_2a; obtain ⟨D0', e0'⟩ : ∃ D : WS.DS, D = d__law_due_2a_2 := ⟨_, rfl⟩; rw [← e0']; (walk_at "ws"; (try simp only [seq_of c3]); walk_at "ws"); subst e0')
      refine lc_by (fun i acc h2 => h2 = h3 ∧ acc = ((s.take i).map fun k => rs.getD k (0, 1)).map pt) ?_ ?_ ⟨rfl, rfl⟩
      · rintro i u acc h2 R' hu ⟨rfl, rfl⟩ hR'
        obtain ⟨k', hk1, rfl, hk2⟩ := natV_get hu
        have lk : k' < rs.length := List.mem_range.mp (ss.mem hk2)
        refine ⟨seq_of c3, ?_⟩
        walk_at "ws"
        refine m_seq eaH (ix_pt lk ⟨rfl, ?_, hR' _ _ _ .refl ⟨rfl, ?_⟩⟩)
        · rw [List.length_map, List.length_map, List.length_take]
          show _ < 2 ^ 24
          omega
        · rw [List.take_add_one, hk1]
          simp
      · rintro acc h2 ⟨rfl, rfl⟩
        refine ⟨seq_of c3, ?_⟩
        (intro c n_c)
        rw [List.length_map, List.take_length]
        refine s__law_sum (k + 0) put_same (B := 930) (fun p hp' => ?_) ?_ ?_
        · obtain ⟨k', hk, rfl⟩ := List.mem_map.mp hp'
          exact hp _ (getD_mem (List.mem_range.mp (ss.mem hk)))
        · rw [List.length_map]
          have : (s.length + 1) * (930 + 1) ≤ 8 * 931 := Nat.mul_le_mul_right _ (by omega)
          omega
        have sc : Sub h2 (put h2 c (.lst ((s.map fun k => rs.getD k (0, 1)).map pt))) := sub_put n_c
        have ea4 := sc _ _ eaH
        have ep4 := sc _ _ c3
        generalize put h2 c (.lst ((s.map fun k => rs.getD k (0, 1)).map pt)) = H4 at sc ea4 ep4
        have tk := setSum_ok hp ss
        have tkB : PB 6520 (setSum rs s) := tk.2.mono (by omega)
        have bm : Bd 20 (s.length : Int) := by unfold Bd; omega
        have bn : Bd 20 ((rs.length : Int) - s.length) := by unfold Bd; omega
        show d__law_due_2a_2 _ _ [_, _, _, some (pt (setSum rs s)), _, _] _
        (unfold d__law_due_2a_2; obtain ⟨D0', e0'⟩ : ∃ D : WS.DS, D = d__law_due_2a_3 := ⟨_, rfl⟩; rw [← e0']; (walk_at "ws"; (try simp only [seq_of ea4, seq_of ep4]); walk_at "ws"); subst e0')
        rw [List.length_map, List.length_map]
        refine s__law_mostB (k + 1) bw bm bn (by decide) ?_
        have mb := mst_pbB bw bm bn
        (unfold d__law_due_2a_3; walk_at "ws")
        refine s__law_less (k + 2) mb tkB (by decide) ?_
        have nbd : PB 6050 (negp (mst w rs.length s.length)) := ⟨((show Bd 6048 (0 : Int) by unfold Bd; exact Nat.pow_pos (by decide)).sub (mb.a.mono (by decide))).mono (by decide), mb.b.mono (by decide)⟩
        have all1 : setOkB w rs s = false → fgK Q (.bl false) H4 := fun z => by
          have e : (setsOf rs.length).all (setOkB w rs) = false := by
            rw [Bool.eq_false_iff]
            intro hh
            rw [List.all_eq_true.mp hh s ms] at z
            cases z
          rw [e] at q
          exact fg (Sub.trans sb sc) q
        cases d1 : plt (mst w rs.length s.length) (setSum rs s) with
        | true =>
          walk_at "ws"
          exact all1 (by unfold setOkB; rw [d1]; rfl)
        | false =>
          walk_at "ws"
          refine ⟨by decide, ?_⟩
          show (C (k + 3)).run "_law_less" [pt (setSum rs s), pt (negp (mst w rs.length s.length))] _ _ _
          refine s__law_less (k + 2) tkB nbd (by decide) ?_
          cases d2 : plt (setSum rs s) (negp (mst w rs.length s.length)) with
          | true =>
            walk_at "ws"
            exact all1 (by unfold setOkB; rw [d1, d2]; rfl)
          | false =>
            walk_at "ws"
            refine hR _ _ _ h2 (by (repeat (first | with_reducible exact WS.SubR.refl | with_reducible refine WS.SubR.s ?_ | with_reducible refine WS.SubR.f ?_))) sc ⟨?_, rfl, rfl⟩
            rw [et0, List.all_append, hall]
            simp [setOkB, d1, d2]
    · rintro ρ h3 ⟨hall, rfl, rfl⟩
      refine ⟨seq_of eb, ?_⟩
      (unfold d__law_due_3; walk_at "ws")
      rw [List.length_map, sa.len, List.take_length] at hall
      rw [hall] at q
      exact fg sb q
  · rw [decide_eq_false hz]
    walk_at "ws"
    have hq : dueB w rs = false := by unfold dueB; rw [decide_eq_false hz, Bool.false_and]
    rw [hq] at q
    exact fg .refl q
theorem erase_map {α β : Type} (f : α → β) : ∀ (l : List α) (n : Nat), (l.map f).eraseIdx n = (l.eraseIdx n).map f
  | [], _ => rfl
  | _ :: _, 0 => rfl
  | x :: l, n + 1 => congrArg (f x :: ·) (erase_map f l n)
theorem erase_perm {α : Type} : ∀ (l : List α) (n : Nat) (h : n < l.length), (l[n] :: l.eraseIdx n).Perm l
  | [], _, h => absurd h (Nat.not_lt_zero _)
  | _ :: _, 0, _ => List.Perm.refl _
  | x :: l, n + 1, h => (List.Perm.swap ..).trans (List.Perm.cons x (erase_perm l n (Nat.lt_of_succ_lt_succ h)))
theorem s__law_turned (k : Nat) {a p : Addr} {x y : Int} {rs : List (Int × Int)} {h : IH} {Q : KV} {E : XC} (ha : h a = some (potC x y)) (hb : PotB x y) (hr : h p = some (.lst (rs.map pt))) (hl : rs.length ≤ 7) (q : ∀ (rs' : List (Int × Int)) x y, rs'.Perm rs → PotB x y → Q (.tup (rs'.map pt)) (put h a (potC x y))) :
    (C (k + 2)).run "_law_turned" [.ref a, .ref p] h Q E := by
  refine run__law_turned (k + 1) ?_
  (unfold d__law_turned; obtain ⟨D0', e0'⟩ : ∃ D : WS.DS, D = d__law_turned_2 := ⟨_, rfl⟩; rw [← e0']; (walk_at "ws"; (try simp only [seq_of hr]); walk_at "ws"); subst e0')
  (intro l n_l)
  have la : l ≠ a := Ne.symm (ne_none ha n_l)
  have lp : l ≠ p := Ne.symm (ne_none hr n_l)
  (unfold d__law_turned_2; obtain ⟨D0', e0'⟩ : ∃ D : WS.DS, D = d__law_turned_3 := ⟨_, rfl⟩; rw [← e0']; walk_at "ws"; subst e0')
  refine ⟨by decide, ?_⟩
  (intro f n_f; obtain ⟨_, n_f⟩ := WS.put_none n_f)
  have fl : f ≠ l := by assumption
  have fa : f ≠ a := Ne.symm (ne_none ha (by assumption))
  have fp : f ≠ p := Ne.symm (ne_none hr (by assumption))
  have er : put (put h l (.lst (rs.map pt))) f (.lst []) p = some (.lst (rs.map pt)) := put_ne' (Ne.symm fp) (put_ne' (Ne.symm lp) hr)
  (unfold d__law_turned_3; obtain ⟨D0', e0'⟩ : ∃ D : WS.DS, D = d__law_turned_4 := ⟨_, rfl⟩; rw [← e0']; (walk_at "ws"; (try simp only [seq_of er]); walk_at "ws"); subst e0')
  rw [List.length_map]
  refine ⟨by omega, by omega, ?_⟩
  refine lp_by (fun i ρ h1 => ∃ (lt fd : List (Int × Int)) (x y : Int), (fd ++ lt).Perm rs ∧ fd.length = i ∧ PotB x y ∧ h1 = put (put (put h l (.lst (lt.map pt))) f (.lst (fd.map pt))) a (potC x y) ∧ ρ = [some (.ref a), some (.ref p), some (.ref l), some (.ref f), none]) ?_ ?_ ⟨rs, [], x, y, List.Perm.refl _, rfl, hb, (put_self (put_ne' (Ne.symm fa) (put_ne' (Ne.symm la) ha))).symm, rfl⟩
  · rintro i w ρ h1 R hw ⟨lt, fd, x1, y1, hpm, hi, b1, rfl, rfl⟩ hR
    obtain ⟨hi2, rfl⟩ := upTo_get hw
    have hlen := hpm.length_eq
    rw [List.length_append] at hlen
    refine ⟨trivial, ?_⟩
    have el : put (put (put h l (.lst (lt.map pt))) f (.lst (fd.map pt))) a (potC x1 y1) l = some (.lst (lt.map pt)) := put_ne' la (put_ne' (Ne.symm fl) put_same)
    have ef : put (put (put h l (.lst (lt.map pt))) f (.lst (fd.map pt))) a (potC x1 y1) f = some (.lst (fd.map pt)) := put_ne' fa put_same
    (walk_at "ws"; (try simp only [el, ef, seq_of el]); walk_at "ws")
    rw [List.length_map]
    refine s_dig _ put_same b1 (by omega) (by omega) fun d x_d y_d l_d u_d b_d => ?_
    have el2 : put (put (put h l (.lst (lt.map pt))) f (.lst (fd.map pt))) a (potC x_d y_d) l = some (.lst (lt.map pt)) := put_ne' la (put_ne' (Ne.symm fl) put_same)
    obtain ⟨n, rfl⟩ : ∃ n : Nat, d = (n : Int) := ⟨d.toNat, by omega⟩
    have hn : n < lt.length := by omega
    have e3 : (lt.map pt)[((n : Int)).toNat]? = some (pt lt[n]) := by
      rw [Int.toNat_natCast, List.getElem?_map, List.getElem?_eq_getElem hn]; rfl
    have ef2 : put (put (put (put h l (.lst (lt.map pt))) f (.lst (fd.map pt))) a (potC x_d y_d)) l (.lst ((lt.map pt).eraseIdx ((n : Int)).toNat)) f = some (.lst (fd.map pt)) := put_ne' fl (put_ne' fa put_same)
    (walk_at "ws"; (try simp only [el2, e3, ef2]); walk_at "ws")
    refine ⟨⟨by omega, by omega⟩, by rw [List.length_map]; show _ < 2 ^ 24; omega, ?_⟩
    have e4 : (lt.map pt).eraseIdx ((n : Int)).toNat = (lt.eraseIdx n).map pt := by rw [Int.toNat_natCast, erase_map]
    have e5 : fd.map pt ++ [pt lt[n]] = (fd ++ [lt[n]]).map pt := by simp
    rw [e4, e5]
    refine hR _ _ _ (put (put (put h l (.lst ((lt.eraseIdx n).map pt))) f (.lst ((fd ++ [lt[n]]).map pt))) a (potC x_d y_d)) (by (repeat (first | with_reducible exact WS.SubR.refl | with_reducible refine WS.SubR.s ?_ | with_reducible refine WS.SubR.f ?_))) ?_ ⟨lt.eraseIdx n, fd ++ [lt[n]], x_d, y_d, ?_, by simp [hi], b_d, rfl, rfl⟩
    · intro c dd e
      by_cases z1 : c = f
      · subst z1
        rw [put_ne fa, put_same] at e
        rw [put_same]; exact e
      · rw [put_ne z1]
        by_cases z2 : c = l
        · subst z2
          rw [put_ne la, put_ne (Ne.symm fl), put_same] at e
          rw [put_same]; exact e
        · rw [put_ne z2]
          by_cases z3 : c = a
          · subst z3
            rw [put_same] at e ⊢; exact e
          · rw [put_ne z3, put_ne z1, put_ne z2] at e ⊢; exact e
    · have g : (lt[n] :: lt.eraseIdx n).Perm lt := erase_perm lt n hn
      rw [List.append_assoc]
      exact (List.Perm.append_left fd g).trans hpm
  · rintro ρ h1 ⟨lt, fd, x1, y1, hpm, hi, b1, rfl, rfl⟩
    refine ⟨trivial, ?_⟩
    have hlen := hpm.length_eq
    rw [List.length_append] at hlen
    rw [upTo_len] at hi
    have e0 : lt = [] := List.eq_nil_of_length_eq_zero (by omega)
    subst e0
    rw [List.append_nil] at hpm
    have ef : put (put (put h l (.lst [])) f (.lst (fd.map pt))) a (potC x1 y1) f = some (.lst (fd.map pt)) := put_ne' fa put_same
    (unfold d__law_turned_4; (walk_at "ws"; (try simp only [List.map_nil, seq_of ef]); walk_at "ws"))
    refine fg ?_ (q fd x1 y1 hpm b1)
    rw [WS.put_comm fa, WS.put_comm la]
    exact Sub.trans (sub_put (by rw [put_ne la]; exact n_l)) (sub_put (by rw [put_ne fl, put_ne fa]; assumption))
theorem s__law_one (k : Nat) {a : Addr} {x y : Int} {h : IH} {Q : KV} {E : XC} (ha : h a = some (potC x y)) (hb : PotB x y) (q : ∀ h', Q (.bl true) h') : (C (k + 7)).run "_law_one" [.ref a] h Q E := by
  refine run__law_one (k + 6) ?_
  (unfold d__law_one; obtain ⟨D0', e0'⟩ : ∃ D : WS.DS, D = d__law_one_2 := ⟨_, rfl⟩; rw [← e0']; walk_at "ws"; subst e0')
  (refine s_dig _ (by (repeat (first | with_reducible exact WS.put_same | assumption | with_reducible refine WS.put_ne' (by first | assumption | exact Ne.symm (by assumption)) ?_ | with_reducible refine WS.Ev.get (by assumption) (by first | assumption | exact Ne.symm (by assumption)) ?_))) (by assumption) (by first | assumption | decide | omega) (by first | assumption | decide | omega) fun d0 x_d0 y_d0 l_d0 u_d0 b_d0 => ?_; walk_at "ws")
  obtain ⟨m, rfl⟩ : ∃ m : Nat, d0 = (m : Int) := ⟨d0.toNat, by omega⟩
  refine s__law_row18 (k + 2) (by (repeat (first | with_reducible exact WS.put_same | assumption | with_reducible refine WS.put_ne' (by first | assumption | exact Ne.symm (by assumption)) ?_ | with_reducible refine WS.Ev.get (by assumption) (by first | assumption | exact Ne.symm (by assumption)) ?_))) b_d0 (by omega) fun rs p x1 y1 hlen hp b1 np pa => ?_
  have hl : rs.length ≤ 7 := by omega
  rw [WS.put_put]
  have e0a : put (put h a (potC x1 y1)) p (.lst (rs.map pt)) a = some (potC x1 y1) := put_ne' (Ne.symm pa) put_same
  have e0p : put (put h a (potC x1 y1)) p (.lst (rs.map pt)) p = some (.lst (rs.map pt)) := put_same
  generalize put (put h a (potC x1 y1)) p (.lst (rs.map pt)) = H0 at e0a e0p
  have f5 : ∀ (w least : Int) (xm : Option Val) (rs2 : List (Int × Int)) (x y : Int) (H : IH), Bd 6002 w → rs2.length ≤ 7 → (∀ p ∈ rs2, Pt p ∧ PB 930 p) → PotB x y → H a = some (potC x y) → H p = some (.lst (rs2.map pt)) → d__law_one_5 (C (k + 6)) (topD (fgK Q) (fgX E)) [some (.ref a), some (.ref p), some (.int least), some (.int w), xm, none, none, none] H := by
    intro w least xm rs2 x y H bw l2 hp2 b eHa eHp
    (unfold d__law_one_5; obtain ⟨D0', e0'⟩ : ∃ D : WS.DS, D = d__law_one_6 := ⟨_, rfl⟩; rw [← e0']; walk_at "ws"; subst e0')
    refine s__law_due18 (k + 2) eHp bw hp2 l2 ?_
    (unfold d__law_one_6; obtain ⟨D0', e0'⟩ : ∃ D : WS.DS, D = d__law_one_6a := ⟨_, rfl⟩; rw [← e0']; obtain ⟨D1', e1'⟩ : ∃ D : WS.DS, D = d__law_one_7 := ⟨_, rfl⟩; rw [← e1']; (walk_at "ws"; (try simp only [seq_of eHp]); walk_at "ws"); subst e0'; subst e1')
    refine s__law_turned (k + 4) eHa b eHp l2 fun rs3 x3 y3 pm b3 => ?_
    have eHp3 : put H a (potC x3 y3) p = some (.lst (rs2.map pt)) := put_ne' pa eHp
    (walk_at "ws"; (try simp only [seq_of eHp3]); walk_at "ws")
    (intro r n_r; obtain ⟨_, n_r⟩ := WS.put_none n_r)
    refine ⟨by decide, ?_⟩
    (intro z n_z; obtain ⟨_, n_z⟩ := WS.put_none n_z; obtain ⟨_, n_z⟩ := WS.put_none n_z)
    refine lp_by (fun i ρ h1 => True ∧ h1 = put (put (put H a (potC x3 y3)) r (.lst (rs2.map pt).reverse)) z (.lst [.tup (rs2.map pt), .tup (rs3.map pt), .tup (rs2.map pt).reverse]) ∧ ρ = [some (.ref a), some (.ref p), some (.int least), some (.int w), xm, some (.bl (dueB w rs2)), none, none]) ?_ ?_ ⟨trivial, rfl, rfl⟩
    · rintro i v ρ h1 R hv ⟨_, rfl, rfl⟩ hR
      refine ⟨seq_put, ?_⟩
      have hmem := List.mem_of_getElem? hv
      obtain ⟨rs4, rfl, pm4⟩ : ∃ rs4 : List (Int × Int), v = .tup (rs4.map pt) ∧ rs4.Perm rs2 := by
        simp only [List.mem_cons, List.not_mem_nil, or_false] at hmem
        rcases hmem with rfl | rfl | rfl
        · exact ⟨rs2, rfl, List.Perm.refl _⟩
        · exact ⟨rs3, rfl, pm⟩
        · exact ⟨rs2.reverse, by rw [List.map_reverse], List.reverse_perm _⟩
      have l4 : rs4.length ≤ 7 := by rw [pm4.length_eq]; exact l2
      have hp4 : ∀ p ∈ rs4, Pt p ∧ PB 930 p := fun o ho => hp2 o (pm4.mem_iff.mp ho)
      have hB4 : rs4.length * (930 + 1) ≤ 7 * 931 := Nat.mul_le_mul_right _ l4
      walk_at "ws"
      (unfold d__law_one_6a; obtain ⟨D0', e0'⟩ : ∃ D : WS.DS, D = d__law_one_6a_2 := ⟨_, rfl⟩; rw [← e0']; walk_at "ws"; subst e0')
      refine s_is_within k bw (by decide) hp4 (by decide) (by omega) (by omega) ?_
      rw [within_due hp2 pm4]
      have ib : ∀ h, vIsX (C (k + 6)).isa (.bl (dueB w rs2)) (.ty "bool") h = some true := fun h => by
        rw [isi_ty (t := "bool") rfl (show "bool" ∈ tyKnown by decide)]
        exact congrArg some (show tyUp "bool" "bool" = true by decide +kernel)
      (unfold d__law_one_6a_2; (walk_at "ws"; (try simp only [ib]); walk_at "ws"))
      exact hR _ _ _ _ (by (repeat (first | with_reducible exact WS.SubR.refl | with_reducible refine WS.SubR.s ?_ | with_reducible refine WS.SubR.f ?_))) .refl ⟨trivial, rfl, rfl⟩
    · rintro ρ h1 ⟨_, rfl, rfl⟩
      refine ⟨seq_put, ?_⟩
      (unfold d__law_one_7; walk_at "ws")
      exact fg .refl (q _)
  have b6 : ∀ i : Int, i.natAbs < 2 ^ 200 → Bd 6000 i := fun i h => Nat.lt_of_lt_of_le h (Nat.pow_le_pow_right (by decide) (by decide))
  have f4 : ∀ (w least : Int) (x y : Int) (H : IH), Bd 6002 w → PotB x y → H a = some (potC x y) → H p = some (.lst (rs.map pt)) → d__law_one_4 (C (k + 6)) (topD (fgK Q) (fgX E)) [some (.ref a), some (.ref p), some (.int least), some (.int w), none, none, none, none] H := by
    intro w least x y H bw b eHa eHp
    have hp930 : ∀ p ∈ rs, Pt p ∧ PB 930 p := fun o ho => ⟨(hp o ho).1, (hp o ho).2.mono (by decide)⟩
    (unfold d__law_one_4; obtain ⟨D0', e0'⟩ : ∃ D : WS.DS, D = d__law_one_4a := ⟨_, rfl⟩; rw [← e0']; obtain ⟨D1', e1'⟩ : ∃ D : WS.DS, D = d__law_one_5 := ⟨_, rfl⟩; rw [← e1']; walk_at "ws"; subst e0'; subst e1')
    refine ⟨by decide, ?_⟩
    (intro r n_r)
    have rp : r ≠ p := Ne.symm (ne_none eHp n_r)
    have ra : r ≠ a := Ne.symm (ne_none eHa n_r)
    rw [vNe_nil (put_ne' (Ne.symm rp) eHp) put_same datL_pts]
    have eHp2 : put H r (.lst []) p = some (.lst (rs.map pt)) := put_ne' (Ne.symm rp) eHp
    have eHa2 : put H r (.lst []) a = some (potC x y) := put_ne' (Ne.symm ra) eHa
    generalize put H r (.lst []) = H2 at eHp2 eHa2
    by_cases hn : rs = []
    · have e0 : (rs.map dpt).isEmpty = true := by rw [hn]; rfl
      rw [e0]
      walk_at "ws"
      exact f5 w least none rs x y H2 bw hl hp930 b eHa2 eHp2
    · have e0 : (rs.map dpt).isEmpty = false := by cases rs with
        | nil => exact absurd rfl hn
        | cons _ _ => rfl
      have hpos : 0 < rs.length := by cases rs with
        | nil => exact absurd rfl hn
        | cons _ _ => exact Nat.succ_pos _
      rw [e0]
      walk_at "ws"
      refine s_dig _ eHa2 b (by first | assumption | decide | omega) (by first | assumption | decide | omega) fun d3 x_d3 y_d3 l_d3 u_d3 b_d3 => ?_
      walk_at "ws"
      have eHp3 : put H2 a (potC x_d3 y_d3) p = some (.lst (rs.map pt)) := put_ne' pa eHp2
      by_cases c : d3 = 0
      · rw [decide_eq_true c]
        walk_at "ws"
        (unfold d__law_one_4a; obtain ⟨D0', e0'⟩ : ∃ D : WS.DS, D = d__law_one_4a_2 := ⟨_, rfl⟩; rw [← e0']; walk_at "ws"; subst e0')
        refine ⟨by decide, by decide, by decide, ⟨by decide, by decide, by decide⟩, by decide, by decide, ?_⟩
        refine s_dig _ put_same b_d3 (by first | assumption | decide | omega) (by first | assumption | decide | omega) fun d4 x_d4 y_d4 l_d4 u_d4 b_d4 => ?_
        walk_at "ws"
        have eHp4 : put H2 a (potC x_d4 y_d4) p = some (.lst (rs.map pt)) := put_ne' pa eHp2
        have eHa4 : put H2 a (potC x_d4 y_d4) a = some (potC x_d4 y_d4) := put_same
        generalize put H2 a (potC x_d4 y_d4) = H4 at eHp4 eHa4
        refine ix_all (P := fun v => ∃ mo, v = pt mo ∧ Pt mo ∧ PB 70 mo) (by omega) (by simpa using u_d4) ?_ ?_
        · simp only [List.forall_mem_cons]
          exact ⟨⟨(1, 1), rfl, ⟨by decide, by decide⟩, ⟨by unfold Bd; decide, by unfold Bd; decide⟩⟩, ⟨(-1, 1), rfl, ⟨by decide, by decide⟩, ⟨by unfold Bd; decide, by unfold Bd; decide⟩⟩, ⟨(1, 60), rfl, ⟨by decide, by decide⟩, ⟨by unfold Bd; decide, by unfold Bd; decide⟩⟩, ⟨(-1, 100000000000000000000), rfl, ⟨by decide, by decide⟩, ⟨by unfold Bd; decide, by unfold Bd; decide⟩⟩, fun _ z => nomatch z⟩
        · rintro v ⟨mo, rfl, pmo, bmo⟩
          obtain ⟨o, rs1, ers⟩ : ∃ o rs1, rs = o :: rs1 := by cases rs with
            | nil => exact absurd rfl hn
            | cons o rs1 => exact ⟨o, rs1, rfl⟩
          have ho := hp o (by rw [ers]; exact List.mem_cons_self)
          have e6 : pyAt (rs.map pt) 0 = some (pt o) := by rw [ers]; rfl
          (unfold d__law_one_4a_2; (walk_at "ws"; (try simp only [seq_of eHp4, e6]); walk_at "ws"))
          refine s__law_plus (k + 4) ho.1 pmo ho.2 bmo (by decide) ?_
          have l0 : (0 : Int) < ((rs.map pt).length : Int) := by rw [List.length_map]; omega
          have e7 : (rs.map pt).set 0 (pt (padd o mo)) = (padd o mo :: rs1).map pt := by rw [ers]; rfl
          (walk_at "ws"; (try simp only [eHp4, Int.toNat_zero, e7]); walk_at "ws")
          refine ⟨l0, f5 w least (some (pt mo)) (padd o mo :: rs1) x_d4 y_d4 _ bw ?_ ?_ b_d4 (put_ne' (Ne.symm pa) eHa4) put_same⟩
          · rw [ers] at hl
            simpa using hl
          · intro r2 hr2
            rcases List.mem_cons.mp hr2 with z | z
            · rw [z]
              exact ⟨padd_pt ho.1 pmo, (padd_pb ho.2 bmo ho.1 pmo).mono (by decide)⟩
            · have := hp r2 (by rw [ers]; exact List.mem_cons_of_mem _ z)
              exact ⟨this.1, this.2.mono (by decide)⟩
      · rw [decide_eq_false c]
        walk_at "ws"
        exact f5 w least none rs x_d3 y_d3 _ bw hl hp930 b_d3 put_same eHp3
  have f3 : ∀ (least : Int) (H : IH), Bd 6000 least → H a = some (potC x1 y1) → H p = some (.lst (rs.map pt)) → d__law_one_3 (C (k + 6)) (topD (fgK Q) (fgX E)) [some (.ref a), some (.ref p), some (.int least), none, none, none, none, none] H := by
    intro least H bl eHa eHp
    have c10 : CPow 10 30 := ⟨by decide, by decide, by decide⟩
    (unfold d__law_one_3; obtain ⟨D0', e0'⟩ : ∃ D : WS.DS, D = d__law_one_4 := ⟨_, rfl⟩; rw [← e0']; walk_at "ws"; subst e0')
    refine ⟨c10, ?_⟩
    refine s_dig _ eHa b1 (by first | assumption | decide | omega) (by first | assumption | decide | omega) fun d3 x_d3 y_d3 l_d3 u_d3 b_d3 => ?_
    walk_at "ws"
    refine ⟨by decide, ?_⟩
    refine s_dig _ put_same b_d3 (by first | assumption | decide | omega) (by first | assumption | decide | omega) fun d4 x_d4 y_d4 l_d4 u_d4 b_d4 => ?_
    walk_at "ws"
    refine ix_all (P := fun v => ∃ w, v = .int w ∧ Bd 6002 w) (by omega) (by simpa using u_d4) ?_ ?_
    · simp only [List.forall_mem_cons]
      refine ⟨⟨_, rfl, bl.mono (by decide)⟩, ⟨_, rfl, ?_⟩, ⟨_, rfl, (bl.add (b6 1 (by decide))).mono (by decide)⟩, ⟨_, rfl, (b6 _ (by omega)).mono (by decide)⟩, fun _ z => nomatch z⟩
      split
      · exact (bl.sub (b6 1 (by decide))).mono (by decide)
      · exact (b6 1 (by decide)).mono (by decide)
    · rintro v ⟨w, rfl, bw⟩
      exact f4 w least x_d4 y_d4 _ bw b_d4 put_same (put_ne' pa eHp)
  (unfold d__law_one_2; obtain ⟨D0', e0'⟩ : ∃ D : WS.DS, D = d__law_one_3 := ⟨_, rfl⟩; rw [← e0']; walk_at "ws"; subst e0')
  refine ⟨by decide, ?_⟩
  (intro r n_r)
  have rp : r ≠ p := Ne.symm (ne_none e0p n_r)
  have ra : r ≠ a := Ne.symm (ne_none e0a n_r)
  rw [vNe_nil (put_ne' (Ne.symm rp) e0p) put_same datL_pts]
  have e1p : put H0 r (.lst []) p = some (.lst (rs.map pt)) := put_ne' (Ne.symm rp) e0p
  have e1a : put H0 r (.lst []) a = some (potC x1 y1) := put_ne' (Ne.symm ra) e0a
  generalize put H0 r (.lst []) = H2 at e1p e1a
  cases (rs.map dpt).isEmpty with
  | true =>
    walk_at "ws"
    exact f3 1 H2 (b6 1 (by decide)) e1a e1p
  | false =>
    walk_at "ws"
    exact s__law_weight18 (k + 2) e1p hp hl fun n bn => f3 n H2 bn e1a e1p
theorem s_law (k : Nat) {ns : List Int} {Q : KV} {E : XC} (hl : ns.length ≤ 63) (q : ∀ h, Q (.bl true) h) : (C (k + 8)).run "law" [.scr ns] (fun _ => none) Q E := by
  refine run_law (k + 7) ?_
  (unfold d_law; walk_at "ws")
  refine ⟨by split <;> split <;> omega, by split <;> split <;> omega, ?_⟩
  refine law_turns (by split <;> split <;> omega) (fun i R hi hR => ?_) fun h => fg .refl (q h)
  have hi : i < 100 := by
    revert hi
    split <;> split <;> omega
  walk_at "ws"
  refine s__law_pot (k + 6) hi fun p x y _ b => ⟨rfl, ?_⟩
  exact s__law_one k put_same b hR
theorem binds_law (K : PySem.W.Frag) (fd : FuncData) (FD : FunD K "law" "law" (defArgs (top 28)) (defBody (top 28)) (defScope (top 28)) [] [] (He.ga K "law") fd) : ∀ (s : Shared) (u : Value), BindsTo s fd ⟨[u], []⟩ [("script", u)] :=
  fun s u => (FunD.bindsA (ps := ["script"]) FD fun _ _ _ _ _ _ us hl => (match us, hl with | [_], _ => rfl)) s [u] rfl
theorem law_ok : ∀ ns : List Int, ns.length ≤ 63 → (callK (isaOf clsT) tab htab (40 + 1)).run "law" [.scr ns] (fun _ => none) (fun y _ => y = .bl true) noX :=
  fun ns hl => s_law 33 hl fun _ => rfl
end LawNs
open PySem PySem.W PySem.Calls PyProof.Rows
theorem PySem.Challenge.cw_whoserves_k18_whole_within_both_sides_holds : PySem.Challenge.rw_whoserves_k18_whole_within_both_sides.Holds := by
  w_on; o_law
  refine HandSHeadRun.head_any (r := OpenLaw.row PySem.Challenge.rw_whoserves_k18_whole_within_both_sides) (q := view (OpenLaw.row PySem.Challenge.rw_whoserves_k18_whole_within_both_sides).prog [28]) (H := LawNs.hk) (ob := LawNs.ob) (M := 40000) (loose := LawNs.loose) (d := HandSHeadRun.topDef (OpenLaw.row PySem.Challenge.rw_whoserves_k18_whole_within_both_sides).prog 28) (kwd := []) LawNs.ob_eq
    (by kernel_rfl) (fun s => by kernel_rfl) LawNs.run (by kernel_rfl) (by kernel_rfl) (by kernel_rfl) (by rfl) (by first | assumption | decide +kernel) (by decide +kernel) ⟨rfl, rfl, rfl, rfl, rfl, by decide +kernel⟩ ?hw ?hc
  case hw => w_witness2
  case hc => exact WS.walk_end (l := PySem.Challenge.rw_whoserves_k18_whole_within_both_sides) rfl (by decide) (by kernel_rfl) (by kernel_rfl) LawNs.m_law (by constructor <;> decide +kernel) rfl LawNs.told (fun K mg h X N c => ⟨LawNs.know X N c, LawNs.law_g X N c⟩) LawNs.binds_law LawNs.law_ok
