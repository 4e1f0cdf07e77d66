import PyProof.Rows.All
import Wide.All
import OpenK.AllK
import Wide.FinOn
import HandS.ForMost
import HandS.Nested
import KE.KeyNested
import HandS.TupAny
import HandS.WideBits
import PyProof.ReprRoads
import KE.SortKeyHeap
import KE.SortLaws
import HandS.SortKw
import HandS.Keys
import HandS.DictSubView
import HandS.Small
import HandS.IsInst
import HandS.Conv
import KE.DataMinMax
import PyProof.StrBlock2
import KE.IntBitsLaws
import PySem.Challenge.RW_manyclocks_k61_stretches
import HandS.EndBits
import HandS.EndTab
import HandS.HeadWalk
import HandS.Head0
import HandS.Head1
import HandS.Head2
import HandS.HeadEnd
import HandS.HeadHook1
import HandS.HeadHook2
import HandS.HeadHook3
import HandS.HeadHook4
set_option Elab.async false
set_option linter.all false
set_option maxRecDepth 100000
set_option maxHeartbeats 4000000
/-! Dw1: data level. Immutable values by value (W), mutable objects by address (Mh). -/
namespace Dw
open PySem L2 NdefX LamX

/-- a value: immutable data by value; ref: a mutable object -/
inductive W where
  | non | bl (b : Bool) | int (i : Int) | str (x : Str) | tup (l : List W) | frl (l : List W) | ref (a : Addr)

/-- a list that nobody writes -/
def FrzL (K : PySem.W.Frag) (H : Hp) (a : Addr) (xs : List V) : Prop := (∃ o, H a = some (.frz o (.lst xs))) ∨ SqL K (fun _ => none) a xs
theorem FrzL.sq {K : PySem.W.Frag} {H : Hp} {a : Addr} {xs : List V} (h : FrzL K H a xs) : SqL K H a xs := by
  rcases h with ⟨o, h⟩ | (h | ⟨o, h⟩) | h
  · exact .inl (.inr ⟨o, h⟩)
  · cases h
  · cases h
  · exact .inr h

mutual
inductive Rep (K : PySem.W.Frag) (H : Hp) : V → W → Prop
  | non : Rep K H .non .non
  | bl (b : Bool) : Rep K H (.bl b) (.bl b)
  | int (i : Int) : Rep K H (.int i) (.int i)
  | str (x : Str) : Rep K H (.str x) (.str x)
  | tup {a : Addr} {xs : List V} {l : List W} : SqT K H a xs → Reps K H xs l → Rep K H (.ref a) (.tup l)
  | frl {a : Addr} {xs : List V} {l : List W} : FrzL K H a xs → Reps K H xs l → Rep K H (.ref a) (.frl l)
  | ref (a : Addr) : Rep K H (.ref a) (.ref a)
inductive Reps (K : PySem.W.Frag) (H : Hp) : List V → List W → Prop
  | nil : Reps K H [] []
  | cons {v : V} {vs : List V} {w : W} {ws : List W} : Rep K H v w → Reps K H vs ws → Reps K H (v :: vs) (w :: ws)
end

/-- tuples and locked things stay -/
structure Ti (H H' : Hp) : Prop where
  t : ∀ a xs, H a = some (.tup xs) → H' a = some (.tup xs)
  f : ∀ a o u, H a = some (.frz o u) → H' a = some (.frz o u)
  x : ∀ a q, H a = some (CodeO a q) → H' a = some (CodeO a q)
section
variable {K : PySem.W.Frag} {H H' H1 H2 : Hp}
theorem Ti.refl : Ti H H := ⟨fun _ _ h => h, fun _ _ _ h => h, fun _ _ h => h⟩
theorem Ti.trans (a : Ti H H1) (b : Ti H1 H2) : Ti H H2 := ⟨fun x y h => b.t x y (a.t x y h), fun x y z h => b.f x y z (a.f x y z h), fun x y h => b.x x y (a.x x y h)⟩
theorem Ti.ext (e : ExtN H H') : Ti H H' := ⟨fun a xs h => e _ _ h (fun _ z => by cases z), fun a o u h => e _ _ h (fun _ z => by cases z), fun a u h => e _ _ h codeO_ne⟩
theorem Ti.same (e : ∀ b o, H b = some o → H' b = some o) : Ti H H' := Ti.ext (ExtN.of e)
theorem Ti.rd {a : Addr} {xs : List V} (T : Ti H H') (h : Rd H a (.tup xs)) : Rd H' a (.tup xs) := by
  rcases h with h | ⟨o, h⟩
  · exact .inl (T.t _ _ h)
  · exact .inr ⟨o, T.f _ _ _ h⟩
theorem Ti.sqt {a : Addr} {xs : List V} (T : Ti H H') (h : SqT K H a xs) : SqT K H' a xs := h.elim (fun z => .inl (T.rd z)) .inr
theorem Ti.frl {a : Addr} {xs : List V} (T : Ti H H') (h : FrzL K H a xs) : FrzL K H' a xs := h.elim (fun ⟨o, z⟩ => .inl ⟨o, T.f _ _ _ z⟩) .inr
mutual
theorem Rep.mono (T : Ti H H') : ∀ (w : W) (v : V), Rep K H v w → Rep K H' v w
  | .non, _, h => by cases h; exact .non
  | .bl _, _, h => by cases h; exact .bl _
  | .int _, _, h => by cases h; exact .int _
  | .str _, _, h => by cases h; exact .str _
  | .ref _, _, h => by cases h; exact .ref _
  | .tup l, _, h => by
    cases h with
    | tup h1 h2 => exact .tup (T.sqt h1) (Reps.mono T l _ h2)
  | .frl l, _, h => by
    cases h with
    | frl h1 h2 => exact .frl (T.frl h1) (Reps.mono T l _ h2)
theorem Reps.mono (T : Ti H H') : ∀ (ws : List W) (vs : List V), Reps K H vs ws → Reps K H' vs ws
  | [], _, h => by cases h; exact .nil
  | w :: ws, _, h => by
    cases h with
    | cons h1 h2 => exact .cons (Rep.mono T w _ h1) (Reps.mono T ws _ h2)
end
theorem Rep.up {v : V} {w : W} (h : Rep K H v w) (T : Ti H H') : Rep K H' v w := Rep.mono T w v h
theorem Reps.up {v : List V} {w : List W} (h : Reps K H v w) (T : Ti H H') : Reps K H' v w := Reps.mono T w v h
theorem Reps.len {vs : List V} {ws : List W} (h : Reps K H vs ws) : vs.length = ws.length := by
  induction ws generalizing vs with
  | nil => cases h; rfl
  | cons w ws ih => cases h with | cons h1 h2 => simp [ih h2]
theorem Reps.get {vs : List V} {ws : List W} (h : Reps K H vs ws) {i : Nat} {w : W} (e : ws[i]? = some w) : ∃ v, vs[i]? = some v ∧ Rep K H v w := by
  induction ws generalizing vs i with
  | nil => simp at e
  | cons w0 ws ih =>
    cases h with
    | cons h1 h2 =>
      cases i with
      | zero => simp at e; subst e; exact ⟨_, rfl, h1⟩
      | succ i => simp at e; obtain ⟨v, a, b⟩ := ih h2 e; exact ⟨v, by simpa using a, b⟩
theorem Reps.get' {vs : List V} {ws : List W} (h : Reps K H vs ws) {i : Nat} {v : V} (e : vs[i]? = some v) : ∃ w, ws[i]? = some w ∧ Rep K H v w := by
  have hl := h.len
  have hi : i < ws.length := by rw [← hl]; exact (List.getElem?_eq_some_iff.mp e).1
  obtain ⟨v', a, b⟩ := h.get (List.getElem?_eq_getElem hi)
  rw [e] at a; cases a
  exact ⟨_, List.getElem?_eq_getElem hi, b⟩
theorem Reps.append {vs vs' : List V} {ws ws' : List W} (h : Reps K H vs ws) (h' : Reps K H vs' ws') : Reps K H (vs ++ vs') (ws ++ ws') := by
  induction ws generalizing vs with
  | nil => cases h; exact h'
  | cons w ws ih => cases h with | cons h1 h2 => exact .cons h1 (ih h2)
theorem Reps.one {v : V} {w : W} (h : Rep K H v w) : Reps K H [v] [w] := .cons h .nil
theorem Reps.take {vs : List V} {ws : List W} (n : Nat) (h : Reps K H vs ws) : Reps K H (vs.take n) (ws.take n) := by
  induction ws generalizing vs n with
  | nil => cases h; simp; exact .nil
  | cons w ws ih =>
    cases h with
    | cons h1 h2 =>
      cases n with
      | zero => exact .nil
      | succ n => exact .cons h1 (ih n h2)
theorem Reps.drop {vs : List V} {ws : List W} (n : Nat) (h : Reps K H vs ws) : Reps K H (vs.drop n) (ws.drop n) := by
  induction ws generalizing vs n with
  | nil => cases h; simp; exact .nil
  | cons w ws ih =>
    cases h with
    | cons h1 h2 =>
      cases n with
      | zero => exact .cons h1 h2
      | succ n => exact ih n h2
theorem Reps.set {vs : List V} {ws : List W} (n : Nat) {v : V} {w : W} (h : Reps K H vs ws) (r : Rep K H v w) : Reps K H (vs.set n v) (ws.set n w) := by
  induction ws generalizing vs n with
  | nil => cases h; exact .nil
  | cons w0 ws ih =>
    cases h with
    | cons h1 h2 =>
      cases n with
      | zero => exact .cons r h2
      | succ n => exact .cons h1 (ih n h2)
theorem Reps.ints {ns : List Int} : Reps K H (ns.map V.int) (ns.map W.int) := by
  induction ns with
  | nil => exact .nil
  | cons n ns ih => exact .cons (.int n) ih
end

/-! ### mutable objects -/
inductive MO where
  | lst (l : List W)
  | ins (C : Addr) (fs : List (Str × W))
  | dic (hf : NestedKey → Int) (kvs : List (NestedKey × W))
  | raw (o : HO)
abbrev Mh := Addr → Option MO
def updM (M : Mh) (a : Addr) (o : MO) : Mh := fun b => if b = a then some o else M b
theorem updM_same {M : Mh} {a : Addr} {o : MO} : updM M a o a = some o := by unfold updM; rw [if_pos rfl]
theorem updM_ne {M : Mh} {a b : Addr} {o : MO} (h : b ≠ a) : updM M a o b = M b := by unfold updM; rw [if_neg h]
theorem updM_updM {M : Mh} {a : Addr} {o u : MO} : updM (updM M a o) a u = updM M a u := by
  funext b; unfold updM; split <;> rfl
theorem updM_self {M : Mh} {a : Addr} {o : MO} (h : M a = some o) : updM M a o = M := by
  funext b; unfold updM; split
  · rename_i e; subst e; exact h.symm
  · rfl
theorem updM_comm {M : Mh} {a b : Addr} {o u : MO} (h : a ≠ b) : updM (updM M a o) b u = updM (updM M b u) a o := by
  funext c; unfold updM
  by_cases h1 : c = a
  · subst h1; rw [if_neg h]; simp
  · by_cases h2 : c = b
    · subst h2; simp [h1]
    · simp [h1, h2]
/-- one memory in another -/
def Sub (M M' : Mh) : Prop := ∀ a o, M a = some o → M' a = some o
theorem Sub.refl {M : Mh} : Sub M M := fun _ _ h => h
theorem Sub.trans {M M1 M2 : Mh} (a : Sub M M1) (b : Sub M1 M2) : Sub M M2 := fun x o h => b x o (a x o h)
theorem Sub.new {M : Mh} {p : Addr} {o : MO} (h : M p = none) : Sub M (updM M p o) := fun a u e => by
  rw [updM_ne (fun z => by rw [z, h] at e; cases e)]; exact e
theorem Sub.upd {M M' : Mh} {p : Addr} {o : MO} (h : Sub M M') : Sub (updM M p o) (updM M' p o) := fun a u e => by
  by_cases z : a = p
  · subst z; rw [updM_same] at e ⊢; exact e
  · rw [updM_ne z] at e ⊢; exact h a u e

/-- fields -/
def RepF (K : PySem.W.Frag) (H : Hp) : List (Str × V) → List (Str × W) → Prop := Paired fun p q => p.1 = q.1 ∧ Rep K H p.2 q.2
/-- no table, no tuple, nothing locked, no code object -/
def Plain (p : Addr) : HO → Prop
  | .lst _ => True
  | .dK _ => True
  | .dT _ => True
  | .ins _ _ _ => True
  | .set _ _ => True
  | .ext φ => ∀ q, HO.ext φ ≠ CodeO p q
  | _ => False
theorem Plain.code {p c : Addr} {o : HO} {q : Str} {H : Hp} (h : H p = some o) (pl : Plain p o) (e : H c = some (CodeO c q)) : c ≠ p := fun z => by
  subst z
  rw [e] at h
  have h := Option.some.inj h
  subst h
  exact pl q rfl
/-- a dict's object, told as it is -/
def DicO (a : Addr) (o : Obj) : HO := .ext fun h => h.get? a = some o
theorem dicO_plain {a : Addr} {o : Obj} {es : Array DictEntry} {ep : Nat} (hd : o.data = .dict es ep) : Plain a (DicO a o) := fun q z => by
  have e : (fun h : Heap => h.get? a = some o) = _ := HO.ext.inj z
  have hh : Heap.get? ({ objs := Array.replicate (a + 1) o } : Heap) a = some o := by
    rw [Heap.get?_some_iff]
    refine ⟨?_, Obj.isFreed_of_dict hd⟩
    show (Array.replicate (a + 1) o)[a]? = some o
    simp
  have h2 := (congrFun e ({ objs := Array.replicate (a + 1) o } : Heap)).mp hh
  obtain ⟨oc, vs, t, h3, h4, _⟩ := h2
  rw [hh] at h3
  cases h3
  rw [hd] at h4
  cases h4
mutual
/-- a key as a value -/
def kw : NestedKey → W
  | .none => .non
  | .num i => .int i
  | .text x => .str x
  | .tup ks => .tup (kws ks)
def kws : List NestedKey → List W
  | [] => []
  | k :: ks => kw k :: kws ks
end
def EntR (K : PySem.W.Frag) (H : Hp) (x : NestedKey × Value × Value) (p : NestedKey × W) : Prop := x.1 = p.1 ∧ p.1.depth ≤ 8 ∧ (∃ v, RelV v x.2.1 ∧ Rep K H v (kw p.1)) ∧ ∃ v, RelV v x.2.2 ∧ Rep K H v p.2
def hEnt (hf : NestedKey → Int) (x : NestedKey × Value × Value) : DictEntry := ⟨hf x.1, x.2.1, x.2.2⟩
def AbsO (K : PySem.W.Frag) (H : Hp) (a : Addr) : MO → Prop
  | .lst l => ∃ xs, H a = some (.lst xs) ∧ Reps K H xs l
  | .ins C fs => ∃ dx fv, H a = some (.ins C dx fv) ∧ RepF K H fv fs
  | .dic hf kvs => (a == sysModules) = false ∧ kvs.length ≤ sizeLine ∧ (kvs.map (·.1)).Nodup ∧ ∃ o es ep xs, H a = some (DicO a o) ∧ o.ExactDict ∧ o.data = .dict es ep ∧ es.toList = xs.map (hEnt hf) ∧ Paired (EntR K H) xs kvs
  | .raw o => H a = some o ∧ (∀ ps, o ≠ .tbl ps)
/-- what stands where, and the tables of code objects -/
structure Ok (K : PySem.W.Frag) (T : List NTab) (H : Hp) (M : Mh) : Prop where
  mem : ∀ a o, M a = some o → AbsO K H a o
  tab : TabsN T H

section
variable {K : PySem.W.Frag} {H H' H1 H2 : Hp} {M M' : Mh} {T : List NTab} {a p : Addr} {o o0 : HO} {mo : MO}
theorem RepF.up {fv : List (Str × V)} {fs : List (Str × W)} (h : RepF K H fv fs) (t : Ti H H') : RepF K H' fv fs := Paired.mapP h fun _ _ z => ⟨z.1, z.2.up t⟩
theorem EntR.up {x : NestedKey × Value × Value} {p : NestedKey × W} (h : EntR K H x p) (t : Ti H H') : EntR K H' x p := let ⟨a, b, ⟨v, c, d⟩, ⟨u, e, f⟩⟩ := h; ⟨a, b, ⟨v, c, d.up t⟩, ⟨u, e, f.up t⟩⟩
theorem dicO_ne {a : Addr} {o : Obj} (ps : Array Value) : DicO a o ≠ .tbl ps := fun z => by unfold DicO at z; cases z
theorem AbsO.some (h : AbsO K H a mo) : ∃ o, H a = some o := by
  cases mo with
  | dic hf kvs => obtain ⟨_, _, _, o, es, ep, xs, e, _⟩ := h; exact ⟨_, e⟩
  | lst l => obtain ⟨_, e, _⟩ := h; exact ⟨_, e⟩
  | ins C fs => obtain ⟨_, _, e, _⟩ := h; exact ⟨_, e⟩
  | raw o => exact ⟨_, h.1⟩
theorem AbsO.ext (h : AbsO K H a mo) (e : ExtN H H') : AbsO K H' a mo := by
  have t := Ti.ext e
  cases mo with
  | dic hf kvs => obtain ⟨h0, hz, hn, o, es, ep, xs, h1, h2, h3, h4, h5⟩ := h; exact ⟨h0, hz, hn, o, es, ep, xs, e _ _ h1 dicO_ne, h2, h3, h4, Paired.mapP h5 fun _ _ z => z.up t⟩
  | lst l => obtain ⟨_, e1, r⟩ := h; exact ⟨_, e _ _ e1 (fun _ z => by cases z), r.up t⟩
  | ins C fs => obtain ⟨_, _, e1, r⟩ := h; exact ⟨_, _, e _ _ e1 (fun _ z => by cases z), r.up t⟩
  | raw o => exact ⟨e _ _ h.1 h.2, h.2⟩
theorem Ok.noM (k : Ok K T H M) (h : H p = none) : M p = none := by
  cases e : M p with
  | none => rfl
  | some o => obtain ⟨u, z⟩ := (k.mem p o e).some; rw [h] at z; cases z
theorem Ok.sub (k : Ok K T H M) (s : Sub M' M) : Ok K T H M' := ⟨fun a o e => k.mem a o (s a o e), k.tab⟩
theorem Ok.ext (k : Ok K T H M) (e : ExtN H H') (t : TabsN T H') : Ok K T H' M := ⟨fun a o h => (k.mem a o h).ext e, t⟩
theorem Ok.same (k : Ok K T H M) (e : ∀ b o, H b = some o → H' b = some o) : Ok K T H' M := k.ext (ExtN.of e) (k.tab.ext e)
theorem ext_new (h : H p = none) : ∀ b u, H b = some u → upd H p o b = some u := fun b u e => by rw [upd_ne (ne_of_none e h)]; exact e
theorem Ti.new (h : H p = none) : Ti H (upd H p o) := Ti.same (ext_new h)
theorem Ok.new (k : Ok K T H M) (h : H p = none) : Ok K T (upd H p o) M := k.same (ext_new h)
theorem Ok.alloc (k : Ok K T H M) (h : H p = none) (n : AbsO K (upd H p o) p mo) : Ok K T (upd H p o) (updM M p mo) := by
  have k2 := k.new (o := o) h
  refine ⟨fun a u e => ?_, k2.tab⟩
  by_cases z : a = p
  · subst z; rw [updM_same] at e; cases e; exact n
  · rw [updM_ne z] at e; exact k2.mem a u e
theorem Ti.write (h : H p = some o0) (pl : Plain p o0) : Ti H (upd H p o) := by
  refine ⟨fun a xs e => ?_, fun a u v e => ?_, fun a u e => ?_⟩
  · rw [upd_ne (ne_of e h (fun z => by subst z; exact pl))]; exact e
  · rw [upd_ne (ne_of e h (fun z => by subst z; exact pl))]; exact e
  · rw [upd_ne (Plain.code h pl e)]; exact e
theorem tabs_write (t : TabsN T H) (h : H p = some o0) (pl : Plain p o0) : TabsN T (upd H p o) := by
  intro q hq
  obtain ⟨ps, h1, h2, h3⟩ := t q hq
  refine ⟨ps, by rw [upd_ne (ne_of h1 h (fun z => by subst z; exact pl))]; exact h1, h2, fun pos cv hc => ?_⟩
  obtain ⟨c, e1, e2⟩ := h3 pos cv hc
  exact ⟨c, e1, by rw [upd_ne (Plain.code h pl e2)]; exact e2⟩
theorem Ok.write (k : Ok K T H M) (h : H p = some o0) (pl : Plain p o0) (n : AbsO K (upd H p o) p mo) : Ok K T (upd H p o) (updM M p mo) := by
  have t : Ti H (upd H p o) := Ti.write h pl
  refine ⟨fun a u e => ?_, tabs_write k.tab h pl⟩
  by_cases z : a = p
  · subst z; rw [updM_same] at e; cases e; exact n
  · rw [updM_ne z] at e
    have q := k.mem a u e
    cases u with
    | dic hf kvs => obtain ⟨h0, hz, hn, o', es, ep, xs, h1, h2, h3, h4, h5⟩ := q; exact ⟨h0, hz, hn, o', es, ep, xs, by rw [upd_ne z]; exact h1, h2, h3, h4, Paired.mapP h5 fun _ _ y => y.up t⟩
    | lst l => obtain ⟨xs, e1, r⟩ := q; exact ⟨xs, by rw [upd_ne z]; exact e1, r.up t⟩
    | ins C fs => obtain ⟨dx, fv, e1, r⟩ := q; exact ⟨dx, fv, by rw [upd_ne z]; exact e1, r.up t⟩
    | raw v => exact ⟨by rw [upd_ne z]; exact q.1, q.2⟩
theorem Ok.lst (k : Ok K T H M) {l : List W} (h : M p = some (.lst l)) : ∃ xs, H p = some (.lst xs) ∧ Reps K H xs l := k.mem p _ h
theorem Ok.newL (k : Ok K T H M) (h : H p = none) {xs : List V} {l : List W} (r : Reps K H xs l) : Ok K T (upd H p (.lst xs)) (updM M p (.lst l)) :=
  k.alloc h ⟨xs, upd_same, r.up (Ti.new h)⟩
theorem Ok.writeL (k : Ok K T H M) {ys xs : List V} {l : List W} (h : H p = some (.lst ys)) (r : Reps K H xs l) : Ok K T (upd H p (.lst xs)) (updM M p (.lst l)) :=
  k.write h trivial ⟨xs, upd_same, r.up (Ti.write h trivial)⟩
end

/-! ### the judgements -/
abbrev Env := List (Option W)
structure Rel (K : PySem.W.Frag) (T : List NTab) (σ : L2.St) (H : Hp) (Γ : Env) (M : Mh) : Prop where
  env : ∀ (i : Nat) (w : W), Γ[i]? = some (some w) → ∃ v, σ[i]? = some (some v) ∧ Rep K H v w
  len : σ.length = Γ.length
  ok : Ok K T H M
abbrev WK := W → Mh → Prop
abbrev TEw := Env → Mh → WK → Prop
abbrev TTw := Env → Mh → (Bool → Mh → Prop) → Prop
abbrev TAw := Env → Mh → (List W → Mh → Prop) → Prop
structure EndsW where
  nx : Env → Mh → Prop
  rt : WK
  bk : Env → Mh → Prop := fun _ _ => False
  ct : Env → Mh → Prop := fun _ _ => False
abbrev TSw := EndsW → Env → Mh → Prop
structure LeD (D D' : EndsW) : Prop where
  nx : ∀ Γ M, D.nx Γ M → D'.nx Γ M
  rt : ∀ w M, D.rt w M → D'.rt w M
  bk : ∀ Γ M, D.bk Γ M → D'.bk Γ M
  ct : ∀ Γ M, D.ct Γ M → D'.ct Γ M
section
variable (K : PySem.W.Frag) (T : List NTab)
/-- what is wanted behind an expression, told of the heap -/
def liQ (σ : L2.St) (H : Hp) (Γ : Env) (Q : VK) : WK := fun w M' => ∀ v H', Ti H H' → Rep K H' v w → Rel K T σ H' Γ M' → Q v H'
def liB (σ : L2.St) (H : Hp) (Γ : Env) (Q : Bool → Hp → Prop) : Bool → Mh → Prop := fun b M' => ∀ H', Ti H H' → Rel K T σ H' Γ M' → Q b H'
def liA (σ : L2.St) (H : Hp) (Γ : Env) (Q : List V → Hp → Prop) : List W → Mh → Prop := fun ws M' => ∀ vs H', Ti H H' → Reps K H' vs ws → Rel K T σ H' Γ M' → Q vs H'
def liR (H : Hp) (Q : VK) : WK := fun w M' => ∀ v H', Ti H H' → Rep K H' v w → Ok K T H' M' → Q v H'
def liS (H : Hp) (n : L2.St → Hp → Prop) : Env → Mh → Prop := fun Γ' M' => ∀ σ' H', Ti H H' → Rel K T σ' H' Γ' M' → n σ' H'
def liD (H : Hp) (D : Ends) : EndsW := { nx := liS K T H D.nx, rt := liR K T H D.rt, bk := liS K T H D.bk, ct := liS K T H D.ct }
def low (t : TEw) : TE := fun σ H Q => ∃ Γ M, Rel K T σ H Γ M ∧ t Γ M (liQ K T σ H Γ Q)
def lowT (t : TTw) : TT := fun σ H Q => ∃ Γ M, Rel K T σ H Γ M ∧ t Γ M (liB K T σ H Γ Q)
def lowA (t : TAw) : TA := fun σ H Q => ∃ Γ M, Rel K T σ H Γ M ∧ t Γ M (liA K T σ H Γ Q)
def lowS (t : TSw) : TS := fun D σ H => ∃ Γ M, Rel K T σ H Γ M ∧ t (liD K T H D) Γ M
end
def MonE (t : TEw) : Prop := ∀ Γ M (Q Q' : WK), (∀ w M', Q w M' → Q' w M') → t Γ M Q → t Γ M Q'
def MonT (t : TTw) : Prop := ∀ Γ M (Q Q' : Bool → Mh → Prop), (∀ w M', Q w M' → Q' w M') → t Γ M Q → t Γ M Q'
def MonA (t : TAw) : Prop := ∀ Γ M (Q Q' : List W → Mh → Prop), (∀ w M', Q w M' → Q' w M') → t Γ M Q → t Γ M Q'
def MonS (t : TSw) : Prop := ∀ D D' Γ M, LeD D D' → t D Γ M → t D' Γ M
structure EW (X : Cx) (T : List NTab) (e : Expr) (t : TEw) : Prop where
  pe : PE X e (low X.K T t)
  mo : MonE t
structure TW (X : Cx) (T : List NTab) (e : Expr) (t : TTw) : Prop where
  pt : PT X e (lowT X.K T t)
  mo : MonT t
structure AW (X : Cx) (T : List NTab) (es : List Expr) (t : TAw) : Prop where
  pa : PA X es (lowA X.K T t)
  mo : MonA t
structure SW (X : Cx) (T : List NTab) (st : Stmt) (t : TSw) : Prop where
  ps : PS X st (lowS X.K T t)
  mo : MonS t
structure SsW (X : Cx) (T : List NTab) (st : List Stmt) (t : TSw) : Prop where
  ps : PSs X st (lowS X.K T t)
  mo : MonS t

section
variable {X : Cx} {T : List NTab} {K : PySem.W.Frag} {σ : L2.St} {H H' : Hp} {Γ : Env} {M M' : Mh}
theorem PE.weak {e : Expr} {t t' : TE} (h : PE X e t) (q : ∀ σ H Q, t' σ H Q → t σ H Q) : PE X e t' := ⟨fun p s σ H Q I z => h.run p s σ H Q I (q _ _ _ z)⟩
theorem PT.weak {e : Expr} {t t' : TT} (h : PT X e t) (q : ∀ σ H Q, t' σ H Q → t σ H Q) : PT X e t' := ⟨fun p s σ H Q I z => h.run p s σ H Q I (q _ _ _ z)⟩
theorem PA.weak {e : List Expr} {t t' : TA} (h : PA X e t) (q : ∀ σ H Q, t' σ H Q → t σ H Q) : PA X e t' := ⟨fun o p s σ H Q I z => h.run o p s σ H Q I (q _ _ _ z)⟩
theorem PS.weak {e : Stmt} {t t' : TS} (h : PS X e t) (q : ∀ D σ H, t' D σ H → t D σ H) : PS X e t' := ⟨fun p s σ H D I z => h.run p s σ H D I (q _ _ _ z)⟩
theorem PSs.weak {e : List Stmt} {t t' : TS} (h : PSs X e t) (q : ∀ D σ H, t' D σ H → t D σ H) : PSs X e t' := ⟨fun p s σ H D I z => h.run p s σ H D I (q _ _ _ z)⟩
theorem Rel.up (R : Rel K T σ H Γ M) (t : Ti H H') (k : Ok K T H' M') : Rel K T σ H' Γ M' := ⟨fun i w e => let ⟨v, a, b⟩ := R.env i w e; ⟨v, a, b.up t⟩, R.len, k⟩
theorem Rel.set (R : Rel K T σ H Γ M) (i : Nat) {v : V} {w : W} (r : Rep K H v w) : Rel K T (σ.set i (some v)) H (Γ.set i (some w)) M := by
  refine ⟨fun j u e => ?_, by simp [R.len], R.ok⟩
  by_cases hj : i = j
  · subst hj
    by_cases hl : i < Γ.length
    · rw [List.getElem?_set_self hl] at e
      cases e
      exact ⟨v, List.getElem?_set_self (by rw [R.len]; exact hl), r⟩
    · rw [List.getElem?_eq_none (by simpa using hl)] at e; cases e
  · rw [List.getElem?_set_ne hj] at e
    obtain ⟨x, a, b⟩ := R.env j u e
    exact ⟨x, by rw [List.getElem?_set_ne hj]; exact a, b⟩
theorem LeD.li {D : Ends} (t : Ti H H') : LeD (liD K T H D) (liD K T H' D) :=
  ⟨fun _ _ q σ' H2 a R => q σ' H2 (t.trans a) R, fun _ _ q v H2 a r k => q v H2 (t.trans a) r k, fun _ _ q σ' H2 a R => q σ' H2 (t.trans a) R, fun _ _ q σ' H2 a R => q σ' H2 (t.trans a) R⟩
theorem LeD.refl {D : EndsW} : LeD D D := ⟨fun _ _ h => h, fun _ _ h => h, fun _ _ h => h, fun _ _ h => h⟩
end
end Dw
set_option maxRecDepth 100000
set_option maxHeartbeats 4000000
/-! Dw2: rules at the data level: expressions, tests, arguments, statements, loops. -/
namespace Dw
open PySem L2 NdefX LamX

/-! ### names, constants -/
def wVar (i : Nat) : TEw := fun Γ M Q => ∃ w, Γ[i]? = some (some w) ∧ Q w M
def wC (w : W) : TEw := fun _ M Q => Q w M
section
variable {X : Cx} {T : List NTab} {pos : Pos}
theorem ew_var {i : Nat} {x : Str} (hN : X.N[i]? = some x) (hv : Vis X.env.scope x) (hd : (x == ("__debug__" : Str)) = false := by decide) (hcd : (x == ("__classdict__" : Str)) = false := by decide) : EW X T (.Name x pos) (wVar i) := by
  refine ⟨PE.weak (pe_var hN hv hd hcd) fun σ H Q ⟨Γ, M, R, w, e, h⟩ => ?_, fun Γ M Q Q' k ⟨w, e, h⟩ => ⟨w, e, k _ _ h⟩⟩
  obtain ⟨v, a, r⟩ := R.env i w e
  exact ⟨v, a, h v H Ti.refl r R⟩
theorem ew_c {e : Expr} {v : V} {w : W} (h : PE X e (tC v)) (r : ∀ H, Rep X.K H v w) : EW X T e (wC w) :=
  ⟨PE.weak h fun σ H Q ⟨Γ, M, R, q⟩ => q v H Ti.refl (r H) R, fun Γ M Q Q' k q => k _ _ q⟩
theorem ew_int {i j} : EW X T (.Constant (.int i) j pos) (wC (.int i)) := ew_c pe_int fun _ => .int i
theorem ew_bl {b j} : EW X T (.Constant (.bool b) j pos) (wC (.bl b)) := ew_c pe_bl fun _ => .bl b
theorem ew_non {j} : EW X T (.Constant .none j pos) (wC .non) := ew_c pe_non fun _ => .non
theorem ew_str {x j} : EW X T (.Constant (.str x) j pos) (wC (.str x)) := ew_c pe_str fun _ => .str x
theorem ew_glob {x : Str} {v : V} {u : Value} {w : W} (hg : Gl X x) (hm : X.mg x = some u) (r : RelV v u) (rp : ∀ H, Rep X.K H v w) (hd : (x == ("__debug__" : Str)) = false := by decide) : EW X T (.Name x pos) (wC w) := ew_c (pe_glob hg hm r hd) rp
end

/-! ### operators by values -/
abbrev R2w := W → W → Mh → WK → Prop
abbrev R1w := W → Mh → WK → Prop
abbrev RCw := List W → Mh → WK → Prop
def lowR2 (K : PySem.W.Frag) (T : List NTab) (r : R2w) : R2 := fun x y H Q => ∃ wx wy M, Rep K H x wx ∧ Rep K H y wy ∧ Ok K T H M ∧ r wx wy M (liR K T H Q)
def lowR1 (K : PySem.W.Frag) (T : List NTab) (r : R1w) : V → Hp → VK → Prop := fun x H Q => ∃ wx M, Rep K H x wx ∧ Ok K T H M ∧ r wx M (liR K T H Q)
def lowRC (K : PySem.W.Frag) (T : List NTab) (r : RCw) : List V → Hp → VK → Prop := fun xs H Q => ∃ ws M, Reps K H xs ws ∧ Ok K T H M ∧ r ws M (liR K T H Q)
def Mon2 (r : R2w) : Prop := ∀ x y M (Q Q' : WK), (∀ w M', Q w M' → Q' w M') → r x y M Q → r x y M Q'
def Mon1 (r : R1w) : Prop := ∀ x M (Q Q' : WK), (∀ w M', Q w M' → Q' w M') → r x M Q → r x M Q'
def MonC (r : RCw) : Prop := ∀ x M (Q Q' : WK), (∀ w M', Q w M' → Q' w M') → r x M Q → r x M Q'
structure OpW (X : Cx) (T : List NTab) (f : Value → Value → Sem Value) (r : R2w) : Prop where
  run : OpR X f (lowR2 X.K T r)
  mo : Mon2 r
structure IxW (X : Cx) (T : List NTab) (r : R2w) : Prop where
  run : IxR X (lowR2 X.K T r)
  mo : Mon2 r
structure UnW (X : Cx) (T : List NTab) (f : Value → Sem Value) (r : R1w) : Prop where
  run : UnR X f (lowR1 X.K T r)
  mo : Mon1 r
structure CallW (X : Cx) (T : List NTab) (f : Value) (r : RCw) : Prop where
  run : CallR X f (lowRC X.K T r)
  mo : MonC r
def orR (r r' : R2w) : R2w := fun x y M Q => r x y M Q ∨ r' x y M Q
def orC (r r' : RCw) : RCw := fun x M Q => r x M Q ∨ r' x M Q
def wOp (r : R2w) (ta tb : TEw) : TEw := fun Γ M Q => ta Γ M fun x M1 => tb Γ M1 fun y M2 => r x y M2 Q
def wUn (r : R1w) (ta : TEw) : TEw := fun Γ M Q => ta Γ M fun x M1 => r x M1 Q
section
variable {X : Cx} {T : List NTab} {pos : Pos} {a b : Expr} {ta tb : TEw} {r r' : R2w} {f : Value → Value → Sem Value}
theorem OpR.weak {r r' : R2} (h : OpR X f r) (q : ∀ x y H Q, r' x y H Q → r x y H Q) : OpR X f r' := fun p s σ H x y v u Q I rx ry z => h p s σ H x y v u Q I rx ry (q _ _ _ _ z)
theorem IxR.weak {r r' : R2} (h : IxR X r) (q : ∀ x y H Q, r' x y H Q → r x y H Q) : IxR X r' := fun a b p s σ H x y v u Q I rx ry z => h a b p s σ H x y v u Q I rx ry (q _ _ _ _ z)
theorem CallR.weak {f : Value} {r r' : List V → Hp → VK → Prop} (h : CallR X f r) (q : ∀ x H Q, r' x H Q → r x H Q) : CallR X f r' := fun p s σ H x v Q I rx z => h p s σ H x v Q I rx (q _ _ _ z)
theorem OpW.or (h : OpW X T f r) (h' : OpW X T f r') : OpW X T f (orR r r') := by
  refine ⟨OpR.weak (OpR.or h.run h'.run) fun x y H Q ⟨wx, wy, M, rx, ry, k, q⟩ => ?_, fun x y M Q Q' k q => q.elim (fun z => .inl (h.mo _ _ _ _ _ k z)) fun z => .inr (h'.mo _ _ _ _ _ k z)⟩
  exact q.elim (fun z => .inl ⟨wx, wy, M, rx, ry, k, z⟩) fun z => .inr ⟨wx, wy, M, rx, ry, k, z⟩
theorem IxW.or (h : IxW X T r) (h' : IxW X T r') : IxW X T (orR r r') := by
  refine ⟨IxR.weak (IxR.or h.run h'.run) fun x y H Q ⟨wx, wy, M, rx, ry, k, q⟩ => ?_, fun x y M Q Q' k q => q.elim (fun z => .inl (h.mo _ _ _ _ _ k z)) fun z => .inr (h'.mo _ _ _ _ _ k z)⟩
  exact q.elim (fun z => .inl ⟨wx, wy, M, rx, ry, k, z⟩) fun z => .inr ⟨wx, wy, M, rx, ry, k, z⟩
theorem CallW.or {f : Value} {r r' : RCw} (h : CallW X T f r) (h' : CallW X T f r') : CallW X T f (orC r r') := by
  refine ⟨CallR.weak (CallR.or h.run h'.run) fun xs H Q ⟨ws, M, rs, k, q⟩ => ?_, fun x M Q Q' k q => q.elim (fun z => .inl (h.mo _ _ _ _ k z)) fun z => .inr (h'.mo _ _ _ _ k z)⟩
  exact q.elim (fun z => .inl ⟨ws, M, rs, k, z⟩) fun z => .inr ⟨ws, M, rs, k, z⟩
/-- the two operands, one behind the other -/
theorem low_two {K : PySem.W.Frag} {σ : L2.St} {H : Hp} {Q : VK} (hb : MonE tb) (ha : MonE ta) (hr : Mon2 r) (h : low K T (wOp r ta tb) σ H Q) :
    low K T ta σ H fun x H1 => low K T tb σ H1 fun y H2 => lowR2 K T r x y H2 Q := by
  obtain ⟨Γ, M, R, h⟩ := h
  refine ⟨Γ, M, R, ha _ _ _ _ (fun wx M1 h1 vx H1 t1 rx R1 => ⟨Γ, M1, R1, hb _ _ _ _ (fun wy M2 h2 vy H2 t2 ry R2 => ⟨wx, wy, M2, rx.up t2, ry, R2.ok, hr _ _ _ _ _ (fun w M3 h3 v H3 t3 r3 k3 => ?_) h2⟩) h1⟩) h⟩
  exact h3 v H3 ((t1.trans t2).trans t3) r3 (R2.up t3 k3)
theorem mon_op (ha : MonE ta) (hb : MonE tb) (hr : Mon2 r) : MonE (wOp r ta tb) := fun Γ M Q Q' k h => ha _ _ _ _ (fun x M1 h1 => hb _ _ _ _ (fun y M2 h2 => hr _ _ _ _ _ k h2) h1) h
theorem ew_op {op : Operator} (ho : OpW X T (binaryOp op) r) (ha : EW X T a ta) (hb : EW X T b tb) : EW X T (.BinOp a op b pos) (wOp r ta tb) :=
  ⟨PE.weak (pe_op ho.run ha.pe hb.pe) fun σ H Q h => low_two hb.mo ha.mo ho.mo h, mon_op ha.mo hb.mo ho.mo⟩
theorem ew_cmp {op : CmpOp} (ho : OpW X T (compareOp op) r) (ha : EW X T a ta) (hb : EW X T b tb) (hm : behindInMarks op b = false) : EW X T (.Compare a [op] [b] pos) (wOp r ta tb) :=
  ⟨PE.weak (pe_cmpR ho.run ha.pe hb.pe hm) fun σ H Q h => low_two hb.mo ha.mo ho.mo h, mon_op ha.mo hb.mo ho.mo⟩
theorem ew_ix (ho : IxW X T r) (ha : EW X T a ta) (hb : EW X T b tb) (hs : PlainIx b) : EW X T (.Subscript a b pos) (wOp r ta tb) :=
  ⟨PE.weak (pe_ix ho.run ha.pe hb.pe hs) fun σ H Q h => low_two hb.mo ha.mo ho.mo h, mon_op ha.mo hb.mo ho.mo⟩
theorem ew_un {op : UnaryOp} {r : R1w} (ho : UnW X T (unaryOp op) r) (ha : EW X T a ta) : EW X T (.UnaryOp op a pos) (wUn r ta) := by
  refine ⟨PE.weak (pe_un ho.run ha.pe) fun σ H Q ⟨Γ, M, R, h⟩ => ?_, fun Γ M Q Q' k h => ha.mo _ _ _ _ (fun x M1 h1 => ho.mo _ _ _ _ k h1) h⟩
  exact ⟨Γ, M, R, ha.mo _ _ _ _ (fun wx M1 h1 vx H1 t1 rx R1 => ⟨wx, M1, rx, R1.ok, ho.mo _ _ _ _ (fun w M3 h3 v H3 t3 r3 k3 => h3 v H3 (t1.trans t3) r3 (R1.up t3 k3)) h1⟩) h⟩
end

/-! ints -/
def oI (C : Int → Int → Prop) (g : Int → Int → W) : R2w := fun x y M Q => ∃ i j, x = .int i ∧ y = .int j ∧ C i j ∧ Q (g i j) M
def uI (g : Int → W) : R1w := fun x M Q => ∃ i, x = .int i ∧ Q (g i) M
section
variable {X : Cx} {T : List NTab} {f : Value → Value → Sem Value} {K : PySem.W.Frag} {H : Hp}
theorem Rep.int_inv {v : V} {i : Int} (r : Rep K H v (.int i)) : v = .int i := by cases r; rfl
theorem Rep.str_inv {v : V} {i : Str} (r : Rep K H v (.str i)) : v = .str i := by cases r; rfl
theorem Rep.bl_inv {v : V} {i : Bool} (r : Rep K H v (.bl i)) : v = .bl i := by cases r; rfl
theorem Rep.non_inv {v : V} (r : Rep K H v .non) : v = .non := by cases r; rfl
theorem Rep.ref_inv {v : V} {a : Addr} (r : Rep K H v (.ref a)) : v = .ref a := by cases r; rfl
theorem Rep.tup_inv {v : V} {l : List W} (r : Rep K H v (.tup l)) : ∃ a xs, v = .ref a ∧ SqT K H a xs ∧ Reps K H xs l := by cases r; exact ⟨_, _, rfl, by assumption, by assumption⟩
theorem Rep.frl_inv {v : V} {l : List W} (r : Rep K H v (.frl l)) : ∃ a xs, v = .ref a ∧ FrzL K H a xs ∧ Reps K H xs l := by cases r; exact ⟨_, _, rfl, by assumption, by assumption⟩
theorem opw_I {C : Int → Int → Prop} {g : Int → Int → V} {gw : Int → Int → W} (h : OpR X f (rI C g)) (hg : ∀ i j H, Rep X.K H (g i j) (gw i j)) : OpW X T f (oI C gw) := by
  refine ⟨OpR.weak h fun x y H Q ⟨wx, wy, M, rx, ry, k, q⟩ => ?_, fun x y M Q Q' k ⟨i, j, e1, e2, c, q⟩ => ⟨i, j, e1, e2, c, k _ _ q⟩⟩
  obtain ⟨i, j, rfl, rfl, c, q⟩ := q
  exact ⟨i, j, rx.int_inv, ry.int_inv, c, q _ _ Ti.refl (hg i j H) k⟩
theorem opw_I0 {g : Int → Int → V} {gw : Int → Int → W} (h : OpR X f (rI0 g)) (hg : ∀ i j H, Rep X.K H (g i j) (gw i j)) : OpW X T f (oI (fun _ _ => True) gw) :=
  opw_I (C := fun _ _ => True) (OpR.weak h fun x y H Q ⟨i, j, e1, e2, _, q⟩ => ⟨i, j, e1, e2, q⟩) hg
abbrev oAddI : R2w := oI (fun _ _ => True) fun i j => .int (i + j)
abbrev oSubI : R2w := oI (fun _ _ => True) fun i j => .int (i - j)
abbrev oMulI : R2w := oI CMulX fun i j => .int (i * j)
abbrev oModI : R2w := oI (fun _ j => 0 < j) fun i j => .int (i % j)
abbrev oPowI : R2w := oI CPow fun i j => .int (i ^ j.toNat)
abbrev oLtI : R2w := oI (fun _ _ => True) fun i j => .bl (decide (i < j))
abbrev oLeI : R2w := oI (fun _ _ => True) fun i j => .bl (decide (i ≤ j))
abbrev oGtI : R2w := oI (fun _ _ => True) fun i j => .bl (decide (j < i))
abbrev oGeI : R2w := oI (fun _ _ => True) fun i j => .bl (decide (j ≤ i))
/-- // by a positive number: of less than 9000 bits -/
def CDivW2 (_ j : Int) : Prop := 0 < j ∧ j.natAbs.log2 < 9000
abbrev oDivI : R2w := oI CDivW2 fun i j => .int (i / j)
theorem opw_add : OpW X T (binaryOp .Add) oAddI := opw_I0 op_add fun _ _ _ => .int _
theorem opw_sub : OpW X T (binaryOp .Sub) oSubI := opw_I0 op_sub fun _ _ _ => .int _
theorem opw_mul : OpW X T (binaryOp .Mult) oMulI := opw_I op_mulX fun _ _ _ => .int _
theorem opw_mod : OpW X T (binaryOp .Mod) oModI := opw_I op_mod fun _ _ _ => .int _
theorem opw_pow : OpW X T (binaryOp .Pow) oPowI := opw_I op_pow fun _ _ _ => .int _
theorem opw_div : OpW X T (binaryOp .FloorDiv) oDivI := opw_I (C := CDivW2) op_fdivW fun _ _ _ => .int _
theorem opw_lt : OpW X T (compareOp .Lt) oLtI := opw_I0 op_lt fun _ _ _ => .bl _
theorem opw_le : OpW X T (compareOp .LtE) oLeI := opw_I0 op_le fun _ _ _ => .bl _
theorem opw_gt : OpW X T (compareOp .Gt) oGtI := opw_I0 op_gt fun _ _ _ => .bl _
theorem opw_ge : OpW X T (compareOp .GtE) oGeI := opw_I0 op_ge fun _ _ _ => .bl _
theorem unw_neg : UnW X T (unaryOp .USub) (uI fun i => .int (-i)) := by
  refine ⟨fun p s σ H x v Q I rx ⟨wx, M, r, k, q⟩ => ?_, fun x M Q Q' k ⟨i, e, q⟩ => ⟨i, e, k _ _ q⟩⟩
  obtain ⟨i, rfl, q⟩ := q
  exact un_neg p s σ H x v Q I rx ⟨i, r.int_inv, q _ _ Ti.refl (.int _) k⟩
/-- a is None, a is not None -/
def isNonW : W → Bool
  | .non => true
  | _ => false
theorem Rep.isNon {v : V} {w : W} (r : Rep K H v w) : decide (v = .non) = isNonW w := by
  cases r <;> simp [isNonW]
def oIsN (neg : Bool) : R2w := fun x y M Q => y = .non ∧ Q (.bl (xor neg (isNonW x))) M
theorem opw_is : OpW X T (compareOp .Is) (oIsN false) := by
  refine ⟨OpR.weak op_isN fun x y H Q ⟨wx, wy, M, rx, ry, k, e, q⟩ => ?_, fun x y M Q Q' k ⟨e, q⟩ => ⟨e, k _ _ q⟩⟩
  subst e
  refine ⟨ry.non_inv, q _ _ Ti.refl ?_ k⟩
  rw [rx.isNon, Bool.false_xor]
  exact .bl _
theorem opw_isnot : OpW X T (compareOp .IsNot) (oIsN true) := by
  refine ⟨OpR.weak op_notN fun x y H Q ⟨wx, wy, M, rx, ry, k, e, q⟩ => ?_, fun x y M Q Q' k ⟨e, q⟩ => ⟨e, k _ _ q⟩⟩
  subst e
  refine ⟨ry.non_inv, q _ _ Ti.refl ?_ k⟩
  rw [rx.isNon, Bool.true_xor]
  exact .bl _
/-- texts -/
def oS (C : Str → Str → Prop) (g : Str → Str → W) : R2w := fun x y M Q => ∃ i j, x = .str i ∧ y = .str j ∧ C i j ∧ Q (g i j) M
theorem opw_addS : OpW X T (binaryOp .Add) (oS (fun i j => i.length + j.length ≤ sizeLine) fun i j => .str (i ++ j)) := by
  refine ⟨OpR.weak op_add_str fun x y H Q ⟨wx, wy, M, rx, ry, k, q⟩ => ?_, fun x y M Q Q' k ⟨i, j, e1, e2, c, q⟩ => ⟨i, j, e1, e2, c, k _ _ q⟩⟩
  obtain ⟨i, j, rfl, rfl, c, q⟩ := q
  exact ⟨i, j, rx.str_inv, ry.str_inv, c, q _ _ Ti.refl (.str _) k⟩
/-- tuples put together -/
def oCatT : R2w := fun x y M Q => ∃ l k, x = .tup l ∧ y = .tup k ∧ l.length + k.length ≤ sizeLine ∧ Q (.tup (l ++ k)) M
theorem opw_catT : OpW X T (binaryOp .Add) oCatT := by
  refine ⟨OpR.weak op_catA fun x y H Q ⟨wx, wy, M, rx, ry, k, q⟩ => ?_, fun x y M Q Q' k ⟨i, j, e1, e2, c, q⟩ => ⟨i, j, e1, e2, c, k _ _ q⟩⟩
  obtain ⟨l, m, rfl, rfl, c, q⟩ := q
  obtain ⟨a, xs, rfl, sx, r1⟩ := rx.tup_inv
  obtain ⟨b, ys, rfl, sy, r2⟩ := ry.tup_inv
  refine ⟨a, b, xs, ys, rfl, rfl, sx, sy, by rw [r1.len, r2.len]; exact c, fun e => ?_, fun _ e => ?_, fun _ _ p hp => ?_⟩
  · subst e
    cases r1
    exact q _ _ Ti.refl (.tup sy r2) k
  · subst e
    cases r2
    rw [List.append_nil] at q
    exact q _ _ Ti.refl (.tup sx r1) k
  · have t : Ti H (upd H p (.tup (xs ++ ys))) := Ti.new hp
    exact q _ _ t (.tup (SqT.of upd_same) ((r1.up t).append (r2.up t))) (k.new hp)
/-- lists put together: a new one -/
def itemsL (M : Mh) : W → List W → Prop
  | .ref a, l => M a = some (.lst l)
  | .frl k, l => k = l
  | _, _ => False
theorem Ok.items {T : List NTab} {M : Mh} (k : Ok K T H M) {v : V} {w : W} {l : List W} (r : Rep K H v w) (h : itemsL M w l) : ∃ a xs, v = .ref a ∧ SqL K H a xs ∧ Reps K H xs l := by
  cases w with
  | ref a =>
    obtain ⟨xs, e, rs⟩ := k.lst h
    exact ⟨a, xs, r.ref_inv, SqL.of e, rs⟩
  | frl j =>
    cases (show j = l from h)
    obtain ⟨a, xs, e, f, rs⟩ := r.frl_inv
    exact ⟨a, xs, e, f.sq, rs⟩
  | _ => exact False.elim h
def oCatL : R2w := fun x y M Q => ∃ a b l m, x = .ref a ∧ y = .ref b ∧ M a = some (.lst l) ∧ M b = some (.lst m) ∧ l.length + m.length ≤ sizeLine ∧ ∀ p, M p = none → Q (.ref p) (updM M p (.lst (l ++ m)))
theorem opw_catL : OpW X T (binaryOp .Add) oCatL := by
  refine ⟨OpR.weak op_cat fun x y H Q ⟨wx, wy, M, rx, ry, k, q⟩ => ?_, fun x y M Q Q' k ⟨a, b, l, m, e1, e2, e3, e4, c, q⟩ => ⟨a, b, l, m, e1, e2, e3, e4, c, fun p hp => k _ _ (q p hp)⟩⟩
  obtain ⟨a, b, l, m, rfl, rfl, h1, h2, c, q⟩ := q
  obtain ⟨xs, e1, r1⟩ := k.lst h1
  obtain ⟨ys, e2, r2⟩ := k.lst h2
  refine ⟨a, b, xs, ys, rx.ref_inv, ry.ref_inv, e1, e2, by rw [r1.len, r2.len]; exact c, fun p hp => ?_⟩
  exact q p (k.noM hp) _ _ (Ti.new hp) (.ref p) (k.newL hp (r1.append r2))
abbrev oAdd : R2w := orR oAddI (orR oCatT (orR oCatL (oS (fun i j => i.length + j.length ≤ sizeLine) fun i j => .str (i ++ j))))
theorem opw_addA : OpW X T (binaryOp .Add) oAdd := opw_add.or (opw_catT.or (opw_catL.or opw_addS))
/-- a[i] -/
def oIxT : R2w := fun x y M Q => ∃ l i w, x = .tup l ∧ y = .int i ∧ atI l i = some w ∧ Q w M
def oIxL : R2w := fun x y M Q => ∃ l i w, itemsL M x l ∧ y = .int i ∧ atI l i = some w ∧ Q w M
def oIxS : R2w := fun x y M Q => ∃ z i c, x = .str z ∧ y = .int i ∧ z.length ≤ sizeLine ∧ atI z.cps.toList i = some c ∧ Q (.str ⟨#[c]⟩) M
theorem Reps.at {vs : List V} {ws : List W} (h : Reps K H vs ws) {i : Int} {w : W} (e : atI ws i = some w) : ∃ v, atI vs i = some v ∧ Rep K H v w := by
  unfold atI at e ⊢
  rw [h.len]
  cases q : ixN ws.length i with
  | none => rw [q] at e; cases e
  | some j =>
    rw [q] at e
    obtain ⟨v, a, b⟩ := h.get (i := j) e
    exact ⟨v, a, b⟩
theorem ixw_tup : IxW X T oIxT := by
  refine ⟨IxR.weak ix_tup fun x y H Q ⟨wx, wy, M, rx, ry, k, q⟩ => ?_, fun x y M Q Q' k ⟨l, i, w, e1, e2, e3, q⟩ => ⟨l, i, w, e1, e2, e3, k _ _ q⟩⟩
  obtain ⟨l, i, w, rfl, rfl, e, q⟩ := q
  obtain ⟨a, xs, rfl, sx, r1⟩ := rx.tup_inv
  obtain ⟨v, e', rv⟩ := r1.at e
  exact ⟨a, xs, i, v, rfl, ry.int_inv, sx, e', q _ _ Ti.refl rv k⟩
theorem ixw_lst : IxW X T oIxL := by
  refine ⟨IxR.weak ix_list fun x y H Q ⟨wx, wy, M, rx, ry, k, q⟩ => ?_, fun x y M Q Q' k ⟨l, i, w, e1, e2, e3, q⟩ => ⟨l, i, w, e1, e2, e3, k _ _ q⟩⟩
  obtain ⟨l, i, w, hi, rfl, e, q⟩ := q
  obtain ⟨a, xs, rfl, sx, r1⟩ := k.items rx hi
  obtain ⟨v, e', rv⟩ := r1.at e
  exact ⟨a, xs, i, v, rfl, ry.int_inv, sx, e', q _ _ Ti.refl rv k⟩
theorem ixw_str : IxW X T oIxS := by
  refine ⟨IxR.weak ix_str fun x y H Q ⟨wx, wy, M, rx, ry, k, q⟩ => ?_, fun x y M Q Q' k ⟨l, i, w, e1, e2, e3, e4, q⟩ => ⟨l, i, w, e1, e2, e3, e4, k _ _ q⟩⟩
  obtain ⟨z, i, c, rfl, rfl, e1, e2, q⟩ := q
  exact ⟨z, i, c, rx.str_inv, ry.int_inv, e1, e2, q _ _ Ti.refl (.str _) k⟩
abbrev oIx : R2w := orR oIxT (orR oIxL oIxS)
theorem ixw_any : IxW X T oIx := ixw_tup.or (ixw_lst.or ixw_str)
end

/-! ### slices -/
abbrev TOw := Env → Mh → (Option Int → Mh → Prop) → Prop
def MonO (t : TOw) : Prop := ∀ Γ M (Q Q' : Option Int → Mh → Prop), (∀ w M', Q w M' → Q' w M') → t Γ M Q → t Γ M Q'
def liO (K : PySem.W.Frag) (T : List NTab) (σ : L2.St) (H : Hp) (Γ : Env) (Q : Option Int → Hp → Prop) : Option Int → Mh → Prop := fun b M' => ∀ H', Ti H H' → Rel K T σ H' Γ M' → Q b H'
def lowO (K : PySem.W.Frag) (T : List NTab) (t : TOw) : TO := fun σ H Q => ∃ Γ M, Rel K T σ H Γ M ∧ t Γ M (liO K T σ H Γ Q)
structure OW (X : Cx) (T : List NTab) (e : Option Expr) (t : TOw) : Prop where
  po : PO X e (lowO X.K T t)
  mo : MonO t
def wNo : TOw := fun _ M Q => Q none M
def wPart (t : TEw) : TOw := fun Γ M Q => t Γ M fun x M1 => ∃ i, x = .int i ∧ Q (some i) M1
abbrev RSw := W → Option Int → Option Int → Mh → WK → Prop
def MonSl (r : RSw) : Prop := ∀ x i j M (Q Q' : WK), (∀ w M', Q w M' → Q' w M') → r x i j M Q → r x i j M Q'
structure SlW (X : Cx) (T : List NTab) (r : RSw) : Prop where
  run : SlR X fun x i j H Q => ∃ w M, Rep X.K H x w ∧ Ok X.K T H M ∧ r w i j M (liR X.K T H Q)
  mo : MonSl r
def cutW (l : List W) (lo hi : Option Int) : List W := (l.drop (HT.sIx l.length 0 lo)).take (HT.sIx l.length l.length hi - HT.sIx l.length 0 lo)
def sT : RSw := fun x i j M Q => ∃ l, x = .tup l ∧ Q (.tup (cutW l i j)) M
def sL : RSw := fun x i j M Q => ∃ l, itemsL M x l ∧ ∀ p, M p = none → Q (.ref p) (updM M p (.lst (cutW l i j)))
def sTL : RSw := fun x i j M Q => sT x i j M Q ∨ sL x i j M Q
def wSl (r : RSw) (te : TEw) (tl th : TOw) : TEw := fun Γ M Q => te Γ M fun x M1 => tl Γ M1 fun l M2 => th Γ M2 fun u M3 => r x l u M3 Q
section
variable {X : Cx} {T : List NTab} {pos p2 : Pos} {e : Expr} {te : TEw} {lo hi : Option Expr} {tl th : TOw} {K : PySem.W.Frag} {H : Hp}
theorem PO.weak {e : Option Expr} {t t' : TO} (h : PO X e t) (q : ∀ σ H Q, t' σ H Q → t σ H Q) : PO X e t' := ⟨fun p s σ H Q I z => h.run p s σ H Q I (q _ _ _ z)⟩
theorem SlR.weak {r r' : V → Option Int → Option Int → Hp → VK → Prop} (h : SlR X r) (q : ∀ x i j H Q, r' x i j H Q → r x i j H Q) : SlR X r' := fun p s σ H x v vl vu i j sl Q I rx a b c z => h p s σ H x v vl vu i j sl Q I rx a b c (q _ _ _ _ _ z)
theorem ow_no : OW X T none wNo := ⟨PO.weak po_none fun σ H Q ⟨Γ, M, R, q⟩ => q H Ti.refl R, fun Γ M Q Q' k q => k _ _ q⟩
theorem ow_some (h : EW X T e te) : OW X T (some e) (wPart te) := by
  refine ⟨PO.weak (po_some h.pe) fun σ H Q ⟨Γ, M, R, q⟩ => ?_, fun Γ M Q Q' k q => h.mo _ _ _ _ (fun w M1 ⟨i, e, z⟩ => ⟨i, e, k _ _ z⟩) q⟩
  exact ⟨Γ, M, R, h.mo _ _ _ _ (fun w M1 ⟨i, e, z⟩ v H1 t1 r1 R1 => ⟨i, by subst e; exact r1.int_inv, z H1 t1 R1⟩) q⟩
theorem ew_slice {r : RSw} (hr : SlW X T r) (he : EW X T e te) (hl : OW X T lo tl) (hh : OW X T hi th) : EW X T (.Subscript e (.Slice lo hi none p2) pos) (wSl r te tl th) := by
  refine ⟨PE.weak (pe_slice hr.run he.pe hl.po hh.po) fun σ H Q ⟨Γ, M, R, q⟩ => ?_, fun Γ M Q Q' k q => he.mo _ _ _ _ (fun x M1 q1 => hl.mo _ _ _ _ (fun l M2 q2 => hh.mo _ _ _ _ (fun u M3 q3 => hr.mo _ _ _ _ _ _ k q3) q2) q1) q⟩
  refine ⟨Γ, M, R, he.mo _ _ _ _ (fun w M1 q1 v H1 t1 r1 R1 => ⟨Γ, M1, R1, hl.mo _ _ _ _ (fun l M2 q2 H2 t2 R2 => ⟨Γ, M2, R2, hh.mo _ _ _ _ (fun u M3 q3 H3 t3 R3 => ⟨w, M3, (r1.up t2).up t3, R3.ok, hr.mo _ _ _ _ _ _ (fun y M4 q4 v4 H4 t4 r4 k4 => ?_) q3⟩) q2⟩) q1⟩) q⟩
  exact q4 v4 H4 (((t1.trans t2).trans t3).trans t4) r4 (R3.up t4 k4)
theorem Reps.cut {vs : List V} {l : List W} (h : Reps K H vs l) (i j : Option Int) : Reps K H (cutV vs i j) (cutW l i j) := by
  unfold cutV cutW
  rw [h.len]
  exact (h.drop _).take _
theorem cutW_all {l : List W} {i j : Option Int} (h : HT.sIx l.length 0 i = 0 ∧ HT.sIx l.length l.length j = l.length) : cutW l i j = l := by
  unfold cutW
  rw [h.1, h.2]
  simp
theorem slw_tup : SlW X T sT := by
  refine ⟨SlR.weak sl_tupA fun x i j H Q ⟨w, M, rx, k, l, e, q⟩ => ?_, fun x i j M Q Q' k ⟨l, e, q⟩ => ⟨l, e, k _ _ q⟩⟩
  subst e
  obtain ⟨a, xs, rfl, sx, r1⟩ := rx.tup_inv
  refine ⟨a, xs, rfl, sx, fun hw => ?_, fun _ p hp => ?_⟩
  · rw [r1.len] at hw
    rw [cutW_all hw] at q
    exact q _ _ Ti.refl (.tup sx r1) k
  · have t : Ti H (upd H p (.tup (cutV xs i j))) := Ti.new hp
    exact q _ _ t (.tup (SqT.of upd_same) ((r1.cut i j).up t)) (k.new hp)
theorem slw_lst : SlW X T sL := by
  refine ⟨SlR.weak sl_list fun x i j H Q ⟨w, M, rx, k, l, e, q⟩ => ?_, fun x i j M Q Q' k ⟨l, e, q⟩ => ⟨l, e, fun p hp => k _ _ (q p hp)⟩⟩
  obtain ⟨a, xs, rfl, sx, r1⟩ := k.items rx e
  exact ⟨a, xs, rfl, sx, fun p hp => q p (k.noM hp) _ _ (Ti.new hp) (.ref p) (k.newL hp (r1.cut i j))⟩
theorem slw_any : SlW X T sTL := by
  refine ⟨SlR.weak (SlR.or (slw_tup (T := T)).run (slw_lst (T := T)).run) fun x i j H Q ⟨w, M, rx, k, q⟩ => ?_, fun x i j M Q Q' k q => q.elim (fun z => .inl (slw_tup.mo (X := X) (T := T) _ _ _ _ _ _ k z)) fun z => .inr (slw_lst.mo (X := X) (T := T) _ _ _ _ _ _ k z)⟩
  exact q.elim (fun z => .inl ⟨w, M, rx, k, z⟩) fun z => .inr ⟨w, M, rx, k, z⟩
end

/-! ### tests, and, or, not -/
def wTest (t : TEw) : TTw := fun Γ M Q => t Γ M fun x M1 => ∃ k, x = .bl k ∧ Q k M1
def wAnd (t u : TTw) : TTw := fun Γ M Q => t Γ M fun c M1 => if c = true then u Γ M1 Q else Q false M1
def wOr (t u : TTw) : TTw := fun Γ M Q => t Γ M fun c M1 => if c = true then Q true M1 else u Γ M1 Q
def wNot (t : TTw) : TTw := fun Γ M Q => t Γ M fun c M1 => Q (!c) M1
def wAndV (ta tb : TEw) : TEw := fun Γ M Q => ta Γ M fun x M1 => ∃ c, x = .bl c ∧ if c = true then tb Γ M1 Q else Q (.bl false) M1
def wOrV (ta tb : TEw) : TEw := fun Γ M Q => ta Γ M fun x M1 => ∃ c, x = .bl c ∧ if c = true then Q (.bl true) M1 else tb Γ M1 Q
def wNotV (ta : TEw) : TEw := fun Γ M Q => ta Γ M fun x M1 => ∃ c, x = .bl c ∧ Q (.bl (!c)) M1
def wIfE (t : TTw) (ta tb : TEw) : TEw := fun Γ M Q => t Γ M fun c M1 => if c = true then ta Γ M1 Q else tb Γ M1 Q
structure WW (X : Cx) (T : List NTab) (e : Expr) (t : TTw) : Prop where
  pw : PW X e (lowT X.K T t)
  mo : MonT t
section
variable {X : Cx} {T : List NTab} {pos : Pos} {a b c : Expr} {ta tb : TEw} {t u : TTw} {rest : List Expr} {K : PySem.W.Frag}
theorem PW.weak {e : Expr} {t t' : TT} (h : PW X e t) (q : ∀ σ H Q, t' σ H Q → t σ H Q) : PW X e t' := ⟨fun w p s σ H Q I z => h.run w p s σ H Q I (q _ _ _ z)⟩
theorem low_test {σ : L2.St} {H : Hp} {Q : Bool → Hp → Prop} (ha : MonE ta) (h : lowT K T (wTest ta) σ H Q) : tB (low K T ta) σ H Q := by
  obtain ⟨Γ, M, R, q⟩ := h
  exact ⟨Γ, M, R, ha _ _ _ _ (fun w M1 ⟨k, e, z⟩ v H1 t1 r1 R1 => ⟨k, by subst e; exact r1.bl_inv, z H1 t1 R1⟩) q⟩
theorem mon_test (ha : MonE ta) : MonT (wTest ta) := fun Γ M Q Q' k q => ha _ _ _ _ (fun w M1 ⟨c, e, z⟩ => ⟨c, e, k _ _ z⟩) q
theorem tw_val (h : EW X T a ta) (he : ∀ whole, isTrue a X.env whole = (do let v ← whole; standAt a.pos; holding [v] (truthy v)) := by intro _; rfl) : TW X T a (wTest ta) :=
  ⟨PT.weak (pt_val h.pe he) fun σ H Q q => low_test h.mo q, mon_test h.mo⟩
theorem tw_cmp {op : CmpOp} {r : R2w} (ho : OpW X T (compareOp op) r) (ha : EW X T a ta) (hb : EW X T b tb) (hm : behindInMarks op b = false) : TW X T (.Compare a [op] [b] pos) (wTest (wOp r ta tb)) := by
  refine ⟨PT.weak (pt_cmpR ho.run ha.pe hb.pe hm) fun σ H Q q => ?_, mon_test (mon_op ha.mo hb.mo ho.mo)⟩
  obtain ⟨Γ, M, R, q⟩ := q
  refine low_two hb.mo ha.mo ho.mo ⟨Γ, M, R, mon_op ha.mo hb.mo ho.mo _ _ _ _ (fun w M1 ⟨k, e, z⟩ v H1 t1 r1 R1 => ⟨k, by subst e; exact r1.bl_inv, z H1 t1 R1⟩) q⟩
theorem low_and {σ : L2.St} {H : Hp} {Q : Bool → Hp → Prop} (ht : MonT t) (hu : MonT u) (h : lowT K T (wAnd t u) σ H Q) : tAnd (lowT K T t) (lowT K T u) σ H Q := by
  obtain ⟨Γ, M, R, q⟩ := h
  refine ⟨Γ, M, R, ht _ _ _ _ (fun c M1 z H1 t1 R1 => ?_) q⟩
  cases c with
  | true => exact ⟨Γ, M1, R1, hu _ _ _ _ (fun d M2 y H2 t2 R2 => y H2 (t1.trans t2) R2) z⟩
  | false => exact z H1 t1 R1
theorem low_or {σ : L2.St} {H : Hp} {Q : Bool → Hp → Prop} (ht : MonT t) (hu : MonT u) (h : lowT K T (wOr t u) σ H Q) : tOr (lowT K T t) (lowT K T u) σ H Q := by
  obtain ⟨Γ, M, R, q⟩ := h
  refine ⟨Γ, M, R, ht _ _ _ _ (fun c M1 z H1 t1 R1 => ?_) q⟩
  cases c with
  | false => exact ⟨Γ, M1, R1, hu _ _ _ _ (fun d M2 y H2 t2 R2 => y H2 (t1.trans t2) R2) z⟩
  | true => exact z H1 t1 R1
theorem mon_and (ht : MonT t) (hu : MonT u) : MonT (wAnd t u) := fun Γ M Q Q' k q => ht _ _ _ _ (fun c M1 z => by cases c with | true => exact hu _ _ _ _ k z | false => exact k _ _ z) q
theorem mon_or (ht : MonT t) (hu : MonT u) : MonT (wOr t u) := fun Γ M Q Q' k q => ht _ _ _ _ (fun c M1 z => by cases c with | false => exact hu _ _ _ _ k z | true => exact k _ _ z) q
theorem ww_and1 (h : TW X T a t) : WW X T (.BoolOp .And [a] pos) t := ⟨pw_and1 h.pt, h.mo⟩
theorem ww_or1 (h : TW X T a t) : WW X T (.BoolOp .Or [a] pos) t := ⟨pw_or1 h.pt, h.mo⟩
theorem ww_and (h : TW X T a t) (k : WW X T (.BoolOp .And (b :: rest) pos) u) : WW X T (.BoolOp .And (a :: b :: rest) pos) (wAnd t u) := ⟨PW.weak (pw_and h.pt k.pw) fun σ H Q q => low_and h.mo k.mo q, mon_and h.mo k.mo⟩
theorem ww_or (h : TW X T a t) (k : WW X T (.BoolOp .Or (b :: rest) pos) u) : WW X T (.BoolOp .Or (a :: b :: rest) pos) (wOr t u) := ⟨PW.weak (pw_or h.pt k.pw) fun σ H Q q => low_or h.mo k.mo q, mon_or h.mo k.mo⟩
theorem WW.tw (h : WW X T a t) : TW X T a t := ⟨h.pw.pt, h.mo⟩
theorem tw_not (h : TW X T a t) : TW X T (.UnaryOp .Not a pos) (wNot t) :=
  ⟨PT.weak (pt_not h.pt) fun σ H Q ⟨Γ, M, R, q⟩ => ⟨Γ, M, R, h.mo _ _ _ _ (fun c M1 z H1 t1 R1 => z H1 t1 R1) q⟩, fun Γ M Q Q' k q => h.mo _ _ _ _ (fun c M1 z => k _ _ z) q⟩
theorem ew_one {op} (h : EW X T a ta) : EW X T (.BoolOp op [a] pos) ta := ⟨pe_one h.pe, h.mo⟩
theorem ew_and (h : EW X T a ta) (k : EW X T (.BoolOp .And (b :: rest) pos) tb) : EW X T (.BoolOp .And (a :: b :: rest) pos) (wAndV ta tb) := by
  refine ⟨PE.weak (pe_and h.pe k.pe) fun σ H Q ⟨Γ, M, R, q⟩ => ?_, fun Γ M Q Q' m q => h.mo _ _ _ _ (fun x M1 ⟨c, e, z⟩ => ⟨c, e, by cases c with | true => exact k.mo _ _ _ _ m z | false => exact m _ _ z⟩) q⟩
  refine ⟨Γ, M, R, h.mo _ _ _ _ (fun w M1 ⟨c, e, z⟩ v H1 t1 r1 R1 => ⟨c, by subst e; exact r1.bl_inv, ?_⟩) q⟩
  cases c with
  | true => exact ⟨Γ, M1, R1, k.mo _ _ _ _ (fun d M2 y v2 H2 t2 r2 R2 => y v2 H2 (t1.trans t2) r2 R2) z⟩
  | false => exact z _ H1 t1 (.bl false) R1
theorem ew_or (h : EW X T a ta) (k : EW X T (.BoolOp .Or (b :: rest) pos) tb) : EW X T (.BoolOp .Or (a :: b :: rest) pos) (wOrV ta tb) := by
  refine ⟨PE.weak (pe_or h.pe k.pe) fun σ H Q ⟨Γ, M, R, q⟩ => ?_, fun Γ M Q Q' m q => h.mo _ _ _ _ (fun x M1 ⟨c, e, z⟩ => ⟨c, e, by cases c with | false => exact k.mo _ _ _ _ m z | true => exact m _ _ z⟩) q⟩
  refine ⟨Γ, M, R, h.mo _ _ _ _ (fun w M1 ⟨c, e, z⟩ v H1 t1 r1 R1 => ⟨c, by subst e; exact r1.bl_inv, ?_⟩) q⟩
  cases c with
  | false => exact ⟨Γ, M1, R1, k.mo _ _ _ _ (fun d M2 y v2 H2 t2 r2 R2 => y v2 H2 (t1.trans t2) r2 R2) z⟩
  | true => exact z _ H1 t1 (.bl true) R1
theorem ew_not (h : EW X T a ta) : EW X T (.UnaryOp .Not a pos) (wNotV ta) := by
  refine ⟨PE.weak (pe_not h.pe) fun σ H Q ⟨Γ, M, R, q⟩ => ?_, fun Γ M Q Q' m q => h.mo _ _ _ _ (fun x M1 ⟨c, e, z⟩ => ⟨c, e, m _ _ z⟩) q⟩
  exact ⟨Γ, M, R, h.mo _ _ _ _ (fun w M1 ⟨c, e, z⟩ v H1 t1 r1 R1 => ⟨c, by subst e; exact r1.bl_inv, z _ H1 t1 (.bl _) R1⟩) q⟩
theorem ew_ifExp (hc : TW X T c t) (ha : EW X T a ta) (hb : EW X T b tb) : EW X T (.IfExp c a b pos) (wIfE t ta tb) := by
  refine ⟨PE.weak (pe_ifExp hc.pt ha.pe hb.pe) fun σ H Q ⟨Γ, M, R, q⟩ => ?_, fun Γ M Q Q' m q => hc.mo _ _ _ _ (fun x M1 z => by cases x with | true => exact ha.mo _ _ _ _ m z | false => exact hb.mo _ _ _ _ m z) q⟩
  refine ⟨Γ, M, R, hc.mo _ _ _ _ (fun x M1 z H1 t1 R1 => ?_) q⟩
  cases x with
  | true => exact ⟨Γ, M1, R1, ha.mo _ _ _ _ (fun d M2 y v2 H2 t2 r2 R2 => y v2 H2 (t1.trans t2) r2 R2) z⟩
  | false => exact ⟨Γ, M1, R1, hb.mo _ _ _ _ (fun d M2 y v2 H2 t2 r2 R2 => y v2 H2 (t1.trans t2) r2 R2) z⟩
end

/-! ### displays, arguments, calls -/
def wNil : TAw := fun _ M Q => Q [] M
def wCons (ta : TEw) (tr : TAw) : TAw := fun Γ M Q => ta Γ M fun x M1 => tr Γ M1 fun xs M2 => Q (x :: xs) M2
def wTup (t : TAw) : TEw := fun Γ M Q => t Γ M fun l M1 => l.length ≤ sizeLine ∧ Q (.tup l) M1
def wLst (t : TAw) : TEw := fun Γ M Q => t Γ M fun l M1 => l.length ≤ sizeLine ∧ ∀ p, M1 p = none → Q (.ref p) (updM M1 p (.lst l))
def wCB (r : RCw) (t : TAw) : TEw := fun Γ M Q => t Γ M fun l M1 => r l M1 Q
section
variable {X : Cx} {T : List NTab} {pos p : Pos} {e : Expr} {es : List Expr} {te : TEw} {t : TAw} {x : Str} {id : String}
theorem aw_nil : AW X T [] wNil := ⟨PA.weak pa_nil fun σ H Q ⟨Γ, M, R, q⟩ => q [] H Ti.refl .nil R, fun Γ M Q Q' k q => k _ _ q⟩
theorem aw_cons (h : EW X T e te) (k : AW X T es t) (hs : starEach (e :: es) X.env = (false, eval e X.env) :: starEach es X.env := by rfl) : AW X T (e :: es) (wCons te t) := by
  refine ⟨PA.weak (pa_cons h.pe k.pa hs) fun σ H Q ⟨Γ, M, R, q⟩ => ?_, fun Γ M Q Q' m q => h.mo _ _ _ _ (fun x M1 z => k.mo _ _ _ _ (fun xs M2 y => m _ _ y) z) q⟩
  exact ⟨Γ, M, R, h.mo _ _ _ _ (fun w M1 z v H1 t1 r1 R1 => ⟨Γ, M1, R1, k.mo _ _ _ _ (fun ws M2 y vs H2 t2 r2 R2 => y _ H2 (t1.trans t2) (.cons (r1.up t2) r2) R2) z⟩) q⟩
theorem ew_tup {x1} (h : AW X T es t) : EW X T (.Tuple es x1 pos) (wTup t) := by
  refine ⟨PE.weak (pe_tup h.pa) fun σ H Q ⟨Γ, M, R, q⟩ => ?_, fun Γ M Q Q' m q => h.mo _ _ _ _ (fun l M1 ⟨a, b⟩ => ⟨a, m _ _ b⟩) q⟩
  refine ⟨Γ, M, R, h.mo _ _ _ _ (fun l M1 ⟨a, b⟩ vs H1 t1 r1 R1 => ⟨by rw [r1.len]; exact a, fun p hp => ?_⟩) q⟩
  have t2 : Ti H1 (upd H1 p (.tup vs)) := Ti.new hp
  exact b _ _ (t1.trans t2) (.tup (SqT.of upd_same) (r1.up t2)) (R1.up t2 (R1.ok.new hp))
theorem ew_lst (h : AW X T es t) : EW X T (.List es pos) (wLst t) := by
  refine ⟨PE.weak (pe_lst h.pa) fun σ H Q ⟨Γ, M, R, q⟩ => ?_, fun Γ M Q Q' m q => h.mo _ _ _ _ (fun l M1 ⟨a, b⟩ => ⟨a, fun p hp => m _ _ (b p hp)⟩) q⟩
  refine ⟨Γ, M, R, h.mo _ _ _ _ (fun l M1 ⟨a, b⟩ vs H1 t1 r1 R1 => ⟨by rw [r1.len]; exact a, fun p hp => ?_⟩) q⟩
  have t2 : Ti H1 (upd H1 p (.lst vs)) := Ti.new hp
  exact b p (R1.ok.noM hp) _ _ (t1.trans t2) (.ref p) (R1.up t2 (R1.ok.newL hp r1))
theorem low_cb {K : PySem.W.Frag} {r : RCw} (ha : MonA t) (hr : MonC r) {σ : L2.St} {H : Hp} {Q : VK} (h : low K T (wCB r t) σ H Q) : lowA K T t σ H fun vs H1 => lowRC K T r vs H1 Q := by
  obtain ⟨Γ, M, R, q⟩ := h
  exact ⟨Γ, M, R, ha _ _ _ _ (fun l M1 z vs H1 t1 r1 R1 => ⟨l, M1, r1, R1.ok, hr _ _ _ _ (fun w M2 y v H2 t2 r2 k2 => y v H2 (t1.trans t2) r2 (R1.up t2 k2)) z⟩) q⟩
theorem mon_cb {r : RCw} (ha : MonA t) (hr : MonC r) : MonE (wCB r t) := fun Γ M Q Q' m q => ha _ _ _ _ (fun l M1 z => hr _ _ _ _ m z) q
theorem ew_callB {r : RCw} (hc : CallW X T (.builtin id) r) (hg : Gl X x) (hm : X.mg x = none) (hv : bootBuiltins x = some (.builtin id)) (ha : AW X T (e :: es) t) (hn : x ≠ "__name__" := by decide) (hdb : (x == ("__debug__" : Str)) = false := by decide)
    (he : starEach (e :: es) X.env = (false, eval e X.env) :: starEach es X.env := by rfl) (hpl : (backTo pos (starEach es X.env)).any (·.1) = false := by rfl) : EW X T (.Call (.Name x p) (e :: es) [] pos) (wCB r t) :=
  ⟨PE.weak (pe_callB hc.run hg hm hv ha.pa hn hdb he hpl) fun σ H Q q => low_cb ha.mo hc.mo q, mon_cb ha.mo hc.mo⟩
theorem ew_callTy {r : RCw} (hc : CallW X T (.type id) r) (hg : Gl X x) (hm : X.mg x = none) (hv : bootBuiltins x = some (.type id)) (ha : AW X T (e :: es) t) (hn : x ≠ "__name__" := by decide) (hdb : (x == ("__debug__" : Str)) = false := by decide)
    (he : starEach (e :: es) X.env = (false, eval e X.env) :: starEach es X.env := by rfl) (hpl : (backTo pos (starEach es X.env)).any (·.1) = false := by rfl) : EW X T (.Call (.Name x p) (e :: es) [] pos) (wCB r t) :=
  ⟨PE.weak (pe_callTy hc.run hg hm hv ha.pa hn hdb he hpl) fun σ H Q q => low_cb ha.mo hc.mo q, mon_cb ha.mo hc.mo⟩
end
end Dw
set_option maxRecDepth 100000
set_option maxHeartbeats 4000000
/-! Dw3: defs and their promises, statements, targets, loops, comprehensions. -/
namespace Dw
open PySem PySem.Spec PyProof.Rows L2 NdefX LamX

/-! ### defs -/
abbrev Spw := List W → Mh → WK → Prop
/-- a def's promise: kept wherever no guard is on the stack, and nothing is raised -/
structure FnG (P : Program) (w : World) (K : PySem.W.Frag) (mg : Str → Option Value) (base : Heap) (k : Nat) (f : Addr) (fd : FuncData) (ps : List Str) (sp : List V → Hp → VK → Prop) : Prop where
  len : ∀ vs H Q, sp vs H Q → vs.length = ps.length
  go : ∀ (A : Around) (outer : List PySem.Env) (s : Shared) (H : Hp) (args : Args) (us : List Value) (vs : List V) (Q : VK), Room k A → A.guards = some [] → Env0 P w K mg base A outer s H → BindsTo s fd args (ps.zip us) → Vals vs us → sp vs H Q →
    codeAny (model P w) A (.call (.ref f) args) (CR CX0 outer P w H s Q E0) s
structure FnW (P : Program) (w : World) (K : PySem.W.Frag) (mg : Str → Option Value) (base : Heap) (T : List NTab) (k : Nat) (f : Addr) (fd : FuncData) (ps : List Str) (sp : Spw) : Prop where
  ok : FnG P w K mg base k f fd ps (lowRC K T sp)
  mo : MonC sp
/-- the def of the name x keeps the promise sp -/
structure DefW (P : Program) (w : World) (K : PySem.W.Frag) (mg : Str → Option Value) (base : Heap) (T : List NTab) (x : Str) (k : Nat) (sp : Spw) : Prop where
  ex : ∃ f fd ps, FnW P w K mg base T k f fd ps sp ∧ mg x = some (.ref f) ∧ PySem.W.keepIn K (.ref f) = true ∧ Binds K fd ps []
/-- .. as the top has left it -/
structure FunW (K : PySem.W.Frag) (mg : Str → Option Value) (x : Str) (st : Stmt) (ps : List Str) : Prop where
  ex : ∃ f fd, Fun K x x st f fd ∧ mg x = some (.ref f) ∧ PySem.W.keepIn K (.ref f) = true ∧ Binds K fd ps []
/-- what is wanted may be shown with less memory -/
def Anti (Q : WK) : Prop := ∀ w M M', Sub M M' → Q w M → Q w M'
/-- the code of the def at f -/
def CodeAt (K : PySem.W.Frag) (f : Addr) (cdv : Value) : Prop := ∃ oc od fd osl, K.lookup f = some ⟨oc, od, .func fd, osl⟩ ∧ fd.code = cdv
def startW (N : List Str) (ws : List W) : Env := ws.map some ++ List.replicate (N.length - ws.length) none
section
variable {P : Program} {w : World} {K : PySem.W.Frag} {mg : Str → Option Value} {base : Heap} {T : List NTab}
theorem FnG.up {i k : Nat} {f : Addr} {fd : FuncData} {ps : List Str} {sp : List V → Hp → VK → Prop} (F : FnG P w K mg base i f fd ps sp) (h : i ≤ k) : FnG P w K mg base k f fd ps sp :=
  ⟨F.len, fun A outer s H args us vs Q r => F.go A outer s H args us vs Q (r.mono h)⟩
theorem fng_of {x qual : Str} {st : Stmt} {f : Addr} {fd : FuncData} {N ps : List Str} {k : Nat} {sp : List V → Hp → VK → Prop} (F : Fun K x qual st f fd) (Sc : FnScope N ps (defScope st)) (hlen : ∀ vs H Q, sp vs H Q → vs.length = ps.length)
    (body : ∀ (cdv : Value) (A : Around) (outer : List PySem.Env) (s : Shared) (H : Hp) (vs : List V) (Q : VK), CodeAt K f cdv → Room k (A.deeper (envOfC qual (defScope st) s.heap.objs.size f cdv)) → A.guards = some [] → sp vs H Q →
      ∃ t, PSs (cxOf CX0 P w K mg base N qual (defScope st) f cdv A outer s H E0).nox (defBody st) t ∧ t { nx := fun _ H2 => Q .non H2, rt := Q } (L2.start N vs) H) : FnG P w K mg base (k + 1) f fd ps sp := by
  obtain ⟨oc, od, kV, doc, pm, an, cdv, ct, osl, rfl, look, code⟩ := F.ex
  refine ⟨hlen, fun A outer s H args us vs Q room gd en bind rel want => ?_⟩
  have n1 := hlen _ _ _ want
  have inK : K.In s.heap := en.mod.kin.keeps fun c o e => (en.bs c o e).1
  have noL : s.heap.NoLimit := en.mod.nolimit.keeps fun c o e => (en.bs c o e).1
  have kinds : ∀ y ∈ ps.zip us, (defScope st).names.lookup y.1 = some .local ∨ ((defScope st).names.lookup y.1 = some .cell ∧ ((cellsFrom (s.heap.objs.size + 1) (defScope st).names []).lookup y.1).isSome = true) := by
    rintro ⟨n, u⟩ hy
    rcases Sc.par n (List.of_mem_zip hy).1 with q | q
    · exact .inl q
    · exact .inr ⟨q, PySem.W.cellsFrom_some _ _ _ (.inl q)⟩
  refine codeAny_call_function room.depth (inK _ _ look) rfl Sc.co Sc.gen rfl (PySem.W.codeRec_of inK code) (bind _ _ _ _ (wpAny_newFunctionEnv_cells Sc.kind kinds fun env he t0 entry => ?_))
  subst he
  refine ⟨noL.keeps entry.toInCall.keep, codeAny_func ?_⟩
  obtain ⟨t, dt, hq⟩ := body cdv A outer s H vs Q ⟨_, _, _, _, look, rfl⟩ (room.deeper _) gd want
  have J := inv_start (CX := CX0) (E := E0) (w := w) Sc room.hd en n1 rel entry
  refine wpAny_mono (dt.nox.run [] t0 (L2.start N vs) H _ J hq) (fun fl t1 hs => ?_) fun e t1 hs => hs
  cases fl with
  | ret u => obtain ⟨v, σ2, H2, J2, rv, q⟩ := hs; exact ⟨v, H2, J2.os, J2.bare, J2.base, J2.hok, rv, q⟩
  | next => obtain ⟨σ2, H2, J2, q⟩ := hs; exact ⟨.non, H2, J2.os, J2.bare, J2.base, J2.hok, rfl, q⟩
  | brk => obtain ⟨_, _, _, q⟩ := hs; exact q.elim
  | cont => obtain ⟨_, _, _, q⟩ := hs; exact q.elim
theorem anti_li {H : Hp} {Q : VK} : Anti (liR K T H Q) := fun w M M' s q v H' t r k => q v H' t r (k.sub s)
theorem start_rel {N : List Str} {vs : List V} {ws : List W} {H : Hp} {M : Mh} (r : Reps K H vs ws) (hl : ws.length ≤ N.length) (k : Ok K T H M) : Rel K T (L2.start N vs) H (startW N ws) M := by
  have e := r.len
  refine ⟨fun i u h => ?_, by unfold L2.start startW; simp [e], k⟩
  unfold startW at h
  unfold L2.start
  by_cases hi : i < ws.length
  · rw [List.getElem?_append_left (by simpa using hi), List.getElem?_map] at h
    cases q : ws[i]? with
    | none => rw [q] at h; cases h
    | some x =>
      rw [q] at h
      cases h
      obtain ⟨v, a, b⟩ := r.get q
      exact ⟨v, by rw [List.getElem?_append_left (by simpa [e] using hi), List.getElem?_map, a]; rfl, b⟩
  · rw [List.getElem?_append_right (by simpa using hi), List.getElem?_replicate] at h
    split at h <;> cases h
theorem Fun.okW {x qual : Str} {st : Stmt} {f : Addr} {fd : FuncData} {N ps : List Str} {k : Nat} {sp : Spw} (F : Fun K x qual st f fd) (S : FnScope N ps (defScope st)) (mo : MonC sp) (len : ∀ ws M Q, sp ws M Q → ws.length = ps.length)
    (hbody : ∀ (cdv : Value) (A : Around) (outer : List PySem.Env) (s : Shared) (H : Hp), CodeAt K f cdv → Room k (A.deeper (envOfC qual (defScope st) s.heap.objs.size f cdv)) → A.guards = some [] → ∀ (ws : List W) (M : Mh) (Q : WK), Anti Q → sp ws M Q →
      ∃ t, SsW (cxOf CX0 P w K mg base N qual (defScope st) f cdv A outer s H E0).nox T (defBody st) t ∧ t { nx := fun _ M' => Q .non M', rt := Q } (startW N ws) M) : FnW P w K mg base T (k + 1) f fd ps sp := by
  refine ⟨fng_of F S (fun vs H Q ⟨ws, M, r, k, h⟩ => by rw [r.len]; exact len _ _ _ h) fun cdv A outer s H vs Q hcd hr hg ⟨ws, M, r, k, h⟩ => ?_, mo⟩
  obtain ⟨t, ht, q⟩ := hbody cdv A outer s H hcd hr hg ws M _ anti_li h
  refine ⟨_, ht.ps, startW N ws, M, start_rel r ?_ k, ht.mo { nx := fun _ M' => liR K T H Q .non M', rt := liR K T H Q } _ _ _ ⟨fun Γ M' q σ' H' t R => q _ _ t .non R.ok, fun w M' q => q, fun _ _ z => z.elim, fun _ _ z => z.elim⟩ q⟩
  have hp := S.pre
  have hl := len _ _ _ h
  have := congrArg List.length hp
  rw [List.length_take] at this
  omega
theorem FunW.ok {x : Str} {st : Stmt} {N ps : List Str} {k : Nat} {sp : Spw} (F : FunW K mg x st ps) (S : FnScope N ps (defScope st)) (mo : MonC sp) (len : ∀ ws M Q, sp ws M Q → ws.length = ps.length)
    (hbody : ∀ (f : Addr) (cdv : Value) (A : Around) (outer : List PySem.Env) (s : Shared) (H : Hp), mg x = some (.ref f) → CodeAt K f cdv → Room k (A.deeper (envOfC x (defScope st) s.heap.objs.size f cdv)) → A.guards = some [] → ∀ (ws : List W) (M : Mh) (Q : WK), Anti Q → sp ws M Q →
      ∃ t, SsW (cxOf CX0 P w K mg base N x (defScope st) f cdv A outer s H E0).nox T (defBody st) t ∧ t { nx := fun _ M' => Q .non M', rt := Q } (startW N ws) M) : DefW P w K mg base T x (k + 1) sp := by
  obtain ⟨f, fd, F, h1, h2, h3⟩ := F.ex
  exact ⟨f, fd, ps, Fun.okW F S mo len (fun cdv A outer s H => hbody f cdv A outer s H h1), h1, h2, h3⟩
theorem DefW.up {x : Str} {j k : Nat} {sp : Spw} (D : DefW P w K mg base T x j sp) (h : j ≤ k) : DefW P w K mg base T x k sp := by
  obtain ⟨f, fd, ps, F, h1, h2, h3⟩ := D.ex
  exact ⟨f, fd, ps, ⟨F.ok.up h, F.mo⟩, h1, h2, h3⟩
theorem DefW.mo {x : Str} {j : Nat} {sp : Spw} (D : DefW P w K mg base T x j sp) : MonC sp := by
  obtain ⟨f, fd, ps, F, _⟩ := D.ex
  exact F.mo
end
section
variable {X : Cx} {T : List NTab} {pos p : Pos} {e : Expr} {es : List Expr} {t : TAw} {x : Str}
/-- a call by value, from any place below the running frame -/
theorem run_fng {n : Nat} {f : Addr} {fd : FuncData} {ps : List Str} {sp : List V → Hp → VK → Prop} {A : Around} {E : Value → Shared → Prop} {pins : List (Addr × Obj)} {σ : L2.St} {H : Hp} {s : Shared} {Q : VK} {us : List Value} {vs : List V} (F : FnG X.prog X.w X.K X.mg X.base n f fd ps sp)
    (hr : Room n A) (hg : A.guards = some []) (en : Env0 X.prog X.w X.K X.mg X.base A X.stack s H) (hb : Binds X.K fd ps []) (I : Inv X pins σ H s) (r : Vals vs us) (h : sp vs H Q) : wpAny (model X.prog X.w) A (call (.ref f) us) (EP X pins σ Q) E s := by
  have bd := hb s us I.kIn (by rw [List.append_nil, ← r.length]; exact F.len _ _ _ h)
  rw [List.append_nil] at bd
  refine wpAny_call (codeAny_mono (F.go A X.stack s H ⟨us, []⟩ us vs Q hr hg en bd r h) fun o s2 hq => ?_)
  match o, hq with
  | .ok (.ret u), hq => exact I.after hq
theorem ew_call {n m : Nat} {sp : Spw} (D : DefW X.prog X.w X.K X.mg X.base T x n sp) (hr : Room m X.A) (hG : X.A.guards = some []) (hn : n ≤ m) (hg : Gl X x) (ha : AW X T (e :: es) t) (hdb : (x == ("__debug__" : Str)) = false := by decide)
    (he : starEach (e :: es) X.env = (false, eval e X.env) :: starEach es X.env := by rfl) (hpl : (backTo pos (starEach es X.env)).any (·.1) = false := by rfl) : EW X T (.Call (.Name x p) (e :: es) [] pos) (wCB sp t) := by
  refine ⟨?_, mon_cb ha.mo D.mo⟩
  obtain ⟨f, fd, ps, F, h1, h2, h3⟩ := D.ex
  refine ⟨fun pins s σ H Q I q => wpAny_Call_Name_kw (ld_glob I hg h1 (PySem.W.callWith_K (h₀ := X.base) I.mod.kin h2 (thn (ha.pa.run pos pins s σ H _ I (low_cb ha.mo F.mo q)) fun us s1 ⟨vs, H1, I1, r, z⟩ => ⟨I1.kIn, ?_⟩) he hpl) hdb)⟩
  exact run_fng F.ok (hr.mono hn) hG I1.env0 h3 I1 r z
end

/-! ### targets -/
abbrev TGw := W → Env → Mh → (Env → Mh → Prop) → Prop
abbrev TGsw := List W → Env → Mh → (Env → Mh → Prop) → Prop
def MonG (g : TGw) : Prop := ∀ w Γ M (Q Q' : Env → Mh → Prop), (∀ Γ M, Q Γ M → Q' Γ M) → g w Γ M Q → g w Γ M Q'
def MonGs (g : TGsw) : Prop := ∀ w Γ M (Q Q' : Env → Mh → Prop), (∀ Γ M, Q Γ M → Q' Γ M) → g w Γ M Q → g w Γ M Q'
def lowG (K : PySem.W.Frag) (T : List NTab) (g : TGw) : TG := fun v σ H Q => ∃ w Γ M, Rep K H v w ∧ Rel K T σ H Γ M ∧ g w Γ M (liS K T H Q)
def lowGs (K : PySem.W.Frag) (T : List NTab) (g : TGsw) : TGs := fun v σ H Q => ∃ w Γ M, Reps K H v w ∧ Rel K T σ H Γ M ∧ g w Γ M (liS K T H Q)
structure GW (X : Cx) (T : List NTab) (e : Expr) (g : TGw) : Prop where
  pg : PG X e (lowG X.K T g)
  mo : MonG g
structure GsW (X : Cx) (T : List NTab) (e : List Expr) (g : TGsw) : Prop where
  pg : PGs X e (lowGs X.K T g)
  mo : MonGs g
def wgName (i : Nat) : TGw := fun w Γ M Q => Q (Γ.set i (some w)) M
def wgNil : TGsw := fun l Γ M Q => l = [] ∧ Q Γ M
def wgCons (g : TGw) (u : TGsw) : TGsw := fun l Γ M Q => ∃ x r, l = x :: r ∧ g x Γ M fun Γ' M' => u r Γ' M' Q
def wgTup (n : Nat) (u : TGsw) : TGw := fun w Γ M Q => ∃ l, w = .tup l ∧ l.length = n ∧ u l Γ M Q
/-- o[i] = v -/
abbrev TSetw := W → W → W → Mh → (Mh → Prop) → Prop
def lowSet (K : PySem.W.Frag) (T : List NTab) (t : TSetw) : TSet := fun o i v H Q => ∃ wo wi wv M, Rep K H o wo ∧ Rep K H i wi ∧ Rep K H v wv ∧ Ok K T H M ∧ t wo wi wv M fun M' => ∀ H', Ti H H' → Ok K T H' M' → Q H'
def MonSet (t : TSetw) : Prop := ∀ o i v M (Q Q' : Mh → Prop), (∀ M, Q M → Q' M) → t o i v M Q → t o i v M Q'
structure SetW (X : Cx) (T : List NTab) (t : TSetw) : Prop where
  run : PSet X (lowSet X.K T t)
  mo : MonSet t
def wgSub (to ti : TEw) (t : TSetw) : TGw := fun w Γ M Q => to Γ M fun o M1 => ti Γ M1 fun i M2 => t o i w M2 fun M3 => Q Γ M3
def setL : TSetw := fun o i v M Q => ∃ a l k j, o = .ref a ∧ i = .int k ∧ M a = some (.lst l) ∧ ixN l.length k = some j ∧ Q (updM M a (.lst (l.set j v)))
section
variable {X : Cx} {T : List NTab} {pos : Pos} {K : PySem.W.Frag}
theorem PG.weak {e : Expr} {t t' : TG} (h : PG X e t) (q : ∀ v σ H Q, t' v σ H Q → t v σ H Q) : PG X e t' := ⟨fun p s σ H v u Q I r z => h.run p s σ H v u Q I r (q _ _ _ _ z)⟩
theorem PGs.weak {e : List Expr} {t t' : TGs} (h : PGs X e t) (q : ∀ v σ H Q, t' v σ H Q → t v σ H Q) : PGs X e t' := ⟨fun p s σ H v u Q I r z => h.run p s σ H v u Q I r (q _ _ _ _ z)⟩
theorem gw_name {i : Nat} {x : Str} (hN : X.N.Nodup) (hi : X.N[i]? = some x) (hx : Loc X.env.scope x) (hf : X.fn x = true ∨ X.env.scope.names.lookup x = some .local := by first | exact .inl rfl | exact .inr rfl | assumption) : GW X T (.Name x pos) (wgName i) :=
  ⟨PG.weak (pg_name hN hi hx hf) fun v σ H Q ⟨w, Γ, M, r, R, q⟩ => q _ H Ti.refl (R.set i r), fun w Γ M Q Q' k q => k _ _ q⟩
theorem gsw_nil : GsW X T [] wgNil := by
  refine ⟨PGs.weak pgs_nil fun v σ H Q ⟨w, Γ, M, r, R, e, q⟩ => ?_, fun w Γ M Q Q' k ⟨e, q⟩ => ⟨e, k _ _ q⟩⟩
  subst e
  cases r
  exact ⟨rfl, q _ H Ti.refl R⟩
theorem gsw_cons {e : Expr} {es : List Expr} {g : TGw} {u : TGsw} (h : GW X T e g) (k : GsW X T es u) (hs : (assignEach (e :: es) X.env).map (·.2) = assign e X.env :: (assignEach es X.env).map (·.2) := by rfl) : GsW X T (e :: es) (wgCons g u) := by
  refine ⟨PGs.weak (pgs_cons h.pg k.pg hs) fun v σ H Q ⟨w, Γ, M, r, R, x, rr, e, q⟩ => ?_, fun w Γ M Q Q' m ⟨x, r, e, q⟩ => ⟨x, r, e, h.mo _ _ _ _ _ (fun Γ' M' z => k.mo _ _ _ _ _ m z) q⟩⟩
  subst e
  cases r with
  | cons r1 r2 =>
    refine ⟨_, _, rfl, x, Γ, M, r1, R, h.mo _ _ _ _ _ (fun Γ' M' z σ' H' t R' => ⟨rr, Γ', M', r2.up t, R', k.mo _ _ _ _ _ (fun Γ2 M2 y σ2 H2 t2 R2 => y σ2 H2 (t.trans t2) R2) z⟩) q⟩
theorem gw_tup {es : List Expr} {k : Nat} {u : TGsw} {n : Nat} (hc : X.calm = true) (h : GsW X T es u) (hn : (assignEach es X.env).length = n := by rfl) (hst : (assignEach es X.env).findIdx? (·.1) = none := by rfl) : GW X T (.Tuple es k pos) (wgTup n u) := by
  refine ⟨PG.weak (pg_tup hc h.pg hn hst) fun v σ H Q ⟨w, Γ, M, r, R, l, e, hl, q⟩ => ?_, fun w Γ M Q Q' m ⟨l, e, hl, q⟩ => ⟨l, e, hl, h.mo _ _ _ _ _ m q⟩⟩
  subst e
  obtain ⟨a, xs, rfl, sx, r1⟩ := r.tup_inv
  exact ⟨a, xs, rfl, sx, by rw [r1.len]; exact hl, l, Γ, M, r1, R, q⟩
theorem gw_sub {o i : Expr} {to ti : TEw} {t : TSetw} (ho : EW X T o to) (hi : EW X T i ti) (hs : SetW X T t)
    (ha : ∀ v, assign (.Subscript o i pos) X.env v = (do
      let ov ← holding [v] (eval o X.env)
      let iv ← holding [v, ov] (eval i X.env)
      standAt pos
      holding [v, ov, iv] (setItem ov iv v)
      release [v, ov, iv] []) := by intro _; rfl) : GW X T (.Subscript o i pos) (wgSub to ti t) := by
  refine ⟨PG.weak (pg_sub ho.pe hi.pe hs.run ha) fun v σ H Q ⟨w, Γ, M, r, R, q⟩ => ?_, fun w Γ M Q Q' k q => ho.mo _ _ _ _ (fun x M1 q1 => hi.mo _ _ _ _ (fun y M2 q2 => hs.mo _ _ _ _ _ _ (fun M3 q3 => k _ _ q3) q2) q1) q⟩
  refine ⟨Γ, M, R, ho.mo _ _ _ _ (fun x M1 q1 vx H1 t1 r1 R1 => ⟨Γ, M1, R1, hi.mo _ _ _ _ (fun y M2 q2 vy H2 t2 r2 R2 => ⟨x, y, w, M2, r1.up t2, r2, (r.up t1).up t2, R2.ok, hs.mo _ _ _ _ _ _ (fun M3 q3 H3 t3 k3 => ?_) q2⟩) q1⟩) q⟩
  exact q3 σ H3 ((t1.trans t2).trans t3) (R2.up t3 k3)
theorem setw_list : SetW X T setL := by
  refine ⟨fun p s σ H o i v ov iv u Q I ro ri rv ⟨wo, wi, wv, M, r1, r2, r3, k, a, l, n, j, e1, e2, e3, e4, q⟩ => ?_, fun o i v M Q Q' m ⟨a, l, n, j, e1, e2, e3, e4, q⟩ => ⟨a, l, n, j, e1, e2, e3, e4, m _ q⟩⟩
  subst e1 e2
  obtain ⟨xs, hx, rs⟩ := k.lst e3
  refine set_list p s σ H o i v ov iv u Q I ro ri rv ⟨a, xs, n, j, r1.ref_inv, r2.int_inv, hx, by rw [rs.len]; exact e4, ?_⟩
  exact q _ (Ti.write hx trivial) (k.writeL hx (rs.set j r3))
end

/-! ### statements -/
def wNext : TSw := fun D Γ M => D.nx Γ M
def wSeq (t u : TSw) : TSw := fun D Γ M => t { D with nx := u D } Γ M
def wBreak : TSw := fun D Γ M => D.bk Γ M
def wCont : TSw := fun D Γ M => D.ct Γ M
def wDrop (te : TEw) : TSw := fun D Γ M => te Γ M fun _ M1 => D.nx Γ M1
def wRet (te : TEw) : TSw := fun D Γ M => te Γ M D.rt
def wRetN : TSw := fun D Γ M => D.rt .non M
def wIf (c : TTw) (t u : TSw) : TSw := fun D Γ M => c Γ M fun b M1 => if b = true then t D Γ M1 else u D Γ M1
def wNever : TSw := fun _ _ _ => False
def wAsg (te : TEw) (g : TGw) : TSw := fun D Γ M => te Γ M fun x M1 => g x Γ M1 D.nx
def wPar (i j : Nat) (ta : TAw) : TSw := fun D Γ M => ta Γ M fun l M1 => ∃ x y, l = [x, y] ∧ D.nx ((Γ.set i (some x)).set j (some y)) M1
/-- the word W with its measure -/
def wWhile (c : TTw) (tb : TSw) : TSw := fun D Γ M => ∃ Wd : Nat → Env → Mh → Prop, (∃ m, Wd m Γ M) ∧ ∀ m Γ M, Wd m Γ M →
  c Γ M fun b M1 => if b = true then ∃ N : Env → Mh → Prop, (∀ Γ' M', N Γ' M' → ∃ m', m' < m ∧ Wd m' Γ' M') ∧ tb { D with nx := N, ct := N, bk := D.nx } Γ M1 else D.nx Γ M1
section
variable {X : Cx} {T : List NTab} {pos : Pos} {st : Stmt} {rest a b : List Stmt} {t u : TSw} {e : Expr} {te : TEw} {K : PySem.W.Frag}
theorem ssw_nil : SsW X T [] wNext := ⟨PSs.weak pss_nil fun D σ H ⟨Γ, M, R, q⟩ => q σ H Ti.refl R, fun D D' Γ M l q => l.nx _ _ q⟩
theorem ssw_cons (h : SW X T st t) (k : SsW X T rest u) : SsW X T (st :: rest) (wSeq t u) := by
  refine ⟨PSs.weak (pss_cons h.ps k.ps) fun D σ H ⟨Γ, M, R, q⟩ => ?_, fun D D' Γ M l q => h.mo { D with nx := u D } _ _ _ ⟨fun Γ M z => k.mo _ _ _ _ l z, l.rt, l.bk, l.ct⟩ q⟩
  refine ⟨Γ, M, R, h.mo { liD X.K T H D with nx := u (liD X.K T H D) } _ _ _ ⟨fun Γ' M' z σ' H' t R' => ⟨Γ', M', R', k.mo _ _ _ _ (LeD.li t) z⟩, fun _ _ z => z, fun _ _ z => z, fun _ _ z => z⟩ q⟩
theorem ssw_one (h : SW X T st t) : SsW X T [st] t := ⟨pss_one h.ps, h.mo⟩
theorem sw_pass : SW X T (.Pass pos) wNext := ⟨PS.weak ps_pass fun D σ H ⟨Γ, M, R, q⟩ => q σ H Ti.refl R, fun D D' Γ M l q => l.nx _ _ q⟩
theorem sw_break : SW X T (.Break pos) wBreak := ⟨PS.weak ps_break fun D σ H ⟨Γ, M, R, q⟩ => q σ H Ti.refl R, fun D D' Γ M l q => l.bk _ _ q⟩
theorem sw_cont : SW X T (.Continue pos) wCont := ⟨PS.weak ps_continue fun D σ H ⟨Γ, M, R, q⟩ => q σ H Ti.refl R, fun D D' Γ M l q => l.ct _ _ q⟩
theorem sw_never : SW X T st wNever := ⟨PS.weak ps_never fun D σ H ⟨Γ, M, R, q⟩ => q, fun _ _ _ _ _ q => q⟩
theorem ssw_never {sts : List Stmt} : SsW X T sts wNever := ⟨PSs.weak pss_never fun D σ H ⟨Γ, M, R, q⟩ => q, fun _ _ _ _ _ q => q⟩
theorem sw_expr (h : EW X T e te) (hs : swapsWith e none pos.line X.env = pure false := by rfl) : SW X T (.Expr e pos) (wDrop te) :=
  ⟨PS.weak (ps_expr h.pe hs) fun D σ H ⟨Γ, M, R, q⟩ => ⟨Γ, M, R, h.mo _ _ _ _ (fun w M1 z v H1 t1 r1 R1 => z σ H1 t1 R1) q⟩, fun D D' Γ M l q => h.mo _ _ _ _ (fun _ _ z => l.nx _ _ z) q⟩
theorem sw_ret (h : EW X T e te) : SW X T (.Return (some e) pos) (wRet te) :=
  ⟨PS.weak (ps_ret h.pe) fun D σ H ⟨Γ, M, R, q⟩ => ⟨Γ, M, R, h.mo _ _ _ _ (fun w M1 z v H1 t1 r1 R1 => z v H1 t1 r1 R1.ok) q⟩, fun D D' Γ M l q => h.mo _ _ _ _ (fun _ _ z => l.rt _ _ z) q⟩
theorem sw_retN : SW X T (.Return none pos) wRetN := ⟨PS.weak ps_retN fun D σ H ⟨Γ, M, R, q⟩ => q _ H Ti.refl .non R.ok, fun D D' Γ M l q => l.rt _ _ q⟩
theorem sw_if {c : Expr} {tc : TTw} (hc : TW X T c tc) (ha : SsW X T a t) (hb : SsW X T b u) : SW X T (.If c a b pos) (wIf tc t u) := by
  refine ⟨PS.weak (ps_if hc.pt ha.ps hb.ps) fun D σ H ⟨Γ, M, R, q⟩ => ⟨Γ, M, R, hc.mo _ _ _ _ (fun d M1 z H1 t1 R1 => ?_) q⟩, fun D D' Γ M l q => hc.mo _ _ _ _ (fun d M1 z => ?_) q⟩
  · cases d with
    | true => exact ⟨Γ, M1, R1, ha.mo _ _ _ _ (LeD.li t1) z⟩
    | false => exact ⟨Γ, M1, R1, hb.mo _ _ _ _ (LeD.li t1) z⟩
  · cases d with
    | true => exact ha.mo _ _ _ _ l z
    | false => exact hb.mo _ _ _ _ l z
theorem low_asg {g : TGw} {D : Ends} {σ : L2.St} {H : Hp} (he : MonE te) (hg : MonG g) (h : lowS K T (wAsg te g) D σ H) : tAsg (low K T te) (lowG K T g) D σ H := by
  obtain ⟨Γ, M, R, q⟩ := h
  exact ⟨Γ, M, R, he _ _ _ _ (fun w M1 z v H1 t1 r1 R1 => ⟨w, Γ, M1, r1, R1, hg _ _ _ _ _ (fun Γ2 M2 y σ2 H2 t2 R2 => y σ2 H2 (t1.trans t2) R2) z⟩) q⟩
theorem mon_asg {g : TGw} (he : MonE te) (hg : MonG g) : MonS (wAsg te g) := fun D D' Γ M l q => he _ _ _ _ (fun w M1 z => hg _ _ _ _ _ (fun Γ M y => l.nx _ _ y) z) q
theorem sw_asg {tg : Expr} {g : TGw} (he : EW X T e te) (hg : GW X T tg g) (hs : swapsWithSole [tg] e pos.line X.env = pure false := by rfl) (hw : swappedStores [tg] e X.env = pure none := by rfl) (h1 : (assignEach [tg] X.env).map (·.2) = [assign tg X.env] := by rfl) :
    SW X T (.Assign [tg] e pos) (wAsg te g) := ⟨PS.weak (ps_asg he.pe hg.pg hs hw h1) fun D σ H q => low_asg he.mo hg.mo q, mon_asg he.mo hg.mo⟩
theorem mon_name {i : Nat} : MonG (wgName i) := fun w Γ M Q Q' k q => k _ _ q
theorem sw_set {i : Nat} {x : Str} {pos' : Pos} (hN : X.N.Nodup) (hi : X.N[i]? = some x) (hx : Loc X.env.scope x) (he : EW X T e te) (hs : swapsWith e (some (.Name x pos')) pos.line X.env = pure false := by rfl)
    (hf : X.fn x = true ∨ X.env.scope.names.lookup x = some .local := by first | exact .inl rfl | exact .inr rfl | assumption) : SW X T (.Assign [.Name x pos'] e pos) (wAsg te (wgName i)) := by
  refine ⟨PS.weak (ps_set hN hi hx he.pe hs hf) fun D σ H ⟨Γ, M, R, q⟩ => ?_, mon_asg he.mo mon_name⟩
  exact ⟨Γ, M, R, he.mo _ _ _ _ (fun w M1 z v H1 t1 r1 R1 => z _ H1 t1 (R1.set i r1)) q⟩
theorem sw_par {i j : Nat} {x y : Str} {a b : Expr} {ta : TAw} {px py pt : Pos} {kt k2 pt2} (hc : X.calm = true) (hN : X.N.Nodup) (hi : X.N[i]? = some x) (hj : X.N[j]? = some y) (hij : i ≠ j)
    (hx : X.env.scope.names.lookup x = some .local) (hy : X.env.scope.names.lookup y = some .local) (ha : AW X T [a, b] ta)
    (hw : swappedStores [.Tuple [.Name x px, .Name y py] kt pt] (.Tuple [a, b] k2 pt2) X.env = pure (some [x, y]))
    (hs : swapsWithSole [.Tuple [.Name x px, .Name y py] kt pt] (.Tuple [a, b] k2 pt2) pos.line X.env = pure false := by rfl) :
    SW X T (.Assign [.Tuple [.Name x px, .Name y py] kt pt] (.Tuple [a, b] k2 pt2) pos) (wPar i j ta) := by
  refine ⟨PS.weak (ps_par hc hN hi hj hij hx hy ha.pa hw hs) fun D σ H ⟨Γ, M, R, q⟩ => ?_, fun D D' Γ M l q => ha.mo _ _ _ _ (fun k M1 ⟨x, y, e, z⟩ => ⟨x, y, e, l.nx _ _ z⟩) q⟩
  refine ⟨Γ, M, R, ha.mo _ _ _ _ (fun k M1 ⟨x, y, e, z⟩ vs H1 t1 r1 R1 => ?_) q⟩
  subst e
  cases r1 with
  | cons ra r2 =>
    cases r2 with
    | cons rb r3 =>
      cases r3
      exact ⟨_, _, rfl, z _ H1 t1 ((R1.set i ra).set j rb)⟩
theorem sw_while {c : Expr} {body : List Stmt} {tc : TTw} {tb : TSw} (hp : PassesOwn (model X.prog X.w) X.A X.env X.xe) (hc : TW X T c tc) (hb : SsW X T body tb) : SW X T (.While c body [] pos) (wWhile tc tb) := by
  refine ⟨PS.weak (ps_while hp hc.pt hb.ps) fun D σ H ⟨Γ, M, R, Wd, ⟨m0, h0⟩, turn⟩ => ?_, fun D D' Γ M l ⟨Wd, h0, turn⟩ => ⟨Wd, h0, fun m Γ M hw => hc.mo _ _ _ _ (fun d M1 z => ?_) (turn m Γ M hw)⟩⟩
  · refine ⟨fun m σ' H' => Ti H H' ∧ ∃ Γ' M', Rel X.K T σ' H' Γ' M' ∧ Wd m Γ' M', ⟨m0, Ti.refl, Γ, M, R, h0⟩, ?_⟩
    rintro m σ' H' ⟨t, Γ', M', R', hw⟩
    refine ⟨Γ', M', R', hc.mo _ _ _ _ (fun d M1 z H1 t1 R1 => ?_) (turn m Γ' M' hw)⟩
    cases d with
    | true =>
      obtain ⟨N, hN, z⟩ := z
      refine ⟨fun σ2 H2 => Ti H H2 ∧ ∃ Γ2 M2, Rel X.K T σ2 H2 Γ2 M2 ∧ N Γ2 M2, fun σ2 H2 ⟨t2, Γ2, M2, R2, n2⟩ => ?_, Γ', M1, R1, hb.mo _ _ _ _ ?_ z⟩
      · obtain ⟨m', lt, w2⟩ := hN _ _ n2
        exact ⟨m', lt, t2, Γ2, M2, R2, w2⟩
      · have tt := t.trans t1
        exact ⟨fun Γ2 M2 y σ2 H2 t2 R2 => ⟨tt.trans t2, Γ2, M2, R2, y⟩, fun w M2 y v H2 t2 r k => y v H2 (tt.trans t2) r k, fun Γ2 M2 y σ2 H2 t2 R2 => y σ2 H2 (tt.trans t2) R2, fun Γ2 M2 y σ2 H2 t2 R2 => ⟨tt.trans t2, Γ2, M2, R2, y⟩⟩
    | false => exact z σ' H1 (t.trans t1) R1
  · cases d with
    | true =>
      obtain ⟨N, hN, z⟩ := z
      exact ⟨N, hN, hb.mo { D with nx := N, ct := N, bk := D.nx } _ _ _ ⟨fun _ _ y => y, l.rt, l.nx, fun _ _ y => y⟩ z⟩
    | false => exact l.nx _ _ z
end

/-! ### what is walked -/
structure ItW where
  go : Nat → Mh → W → Prop
  stop : Nat → Mh → Prop
structure JRel (K : PySem.W.Frag) (T : List NTab) (H0 : Hp) (J : It) (j : ItW) : Prop where
  stop : ∀ i H M, Ti H0 H → Ok K T H M → j.stop i M → J.stop i H
  go : ∀ i H M x, Ti H0 H → Ok K T H M → j.go i M x → J.go i H ∧ ∀ v H', J.yld i H v H' → Ti H H' ∧ Rep K H' v x ∧ Ok K T H' M
abbrev TIw := Env → Mh → (ItW → Mh → Prop) → Prop
def MonI (t : TIw) : Prop := ∀ Γ M (Q Q' : ItW → Mh → Prop), (∀ w M', Q w M' → Q' w M') → t Γ M Q → t Γ M Q'
def liI (K : PySem.W.Frag) (T : List NTab) (σ : L2.St) (H : Hp) (Γ : Env) (R : It → Hp → Prop) : ItW → Mh → Prop := fun j M1 => ∀ J H1, Ti H H1 → JRel K T H1 J j → Rel K T σ H1 Γ M1 → R J H1
def lowI (K : PySem.W.Frag) (T : List NTab) (t : TIw) : TI := fun σ H R => ∃ Γ M, Rel K T σ H Γ M ∧ t Γ M (liI K T σ H Γ R)
structure IW (X : Cx) (T : List NTab) (tg iter : Expr) (t : TIw) : Prop where
  pi : PI X tg iter (lowI X.K T t)
  mo : MonI t
/-- a list, a locked list, a tuple -/
def itSeq (w : W) : ItW where
  go i M x := ∃ l, (w = .tup l ∨ itemsL M w l) ∧ l[i]? = some x
  stop i M := ∃ l, (w = .tup l ∨ itemsL M w l) ∧ l.length ≤ i
def itRng (lo : Int) (n : Nat) : ItW where
  go i _ x := i < n ∧ x = .int (lo + i)
  stop i _ := n ≤ i
def seqW (M : Mh) (w : W) : Prop := ∃ l, w = .tup l ∨ itemsL M w l
def wiSeq (t : TEw) : TIw := fun Γ M Q => t Γ M fun w M1 => seqW M1 w ∧ Q (itSeq w) M1
def wiRng1 (t : TAw) : TIw := fun Γ M Q => t Γ M fun l M1 => ∃ j : Int, l = [.int j] ∧ -(2 ^ 62) ≤ j ∧ j < 2 ^ 62 ∧ Q (itRng 0 j.toNat) M1
def wiRng2 (t : TAw) : TIw := fun Γ M Q => t Γ M fun l M1 => ∃ i j : Int, l = [.int i, .int j] ∧ (-(2 ^ 62) ≤ i ∧ i < 2 ^ 62 ∧ -(2 ^ 62) ≤ j ∧ j < 2 ^ 62) ∧ Q (itRng i (j - i).toNat) M1
section
variable {X : Cx} {T : List NTab} {pos p : Pos} {tg l : Expr} {tl : TEw} {K : PySem.W.Frag}
theorem PI.weak {t t' : TI} (h : PI X tg l t) (q : ∀ σ H R, t' σ H R → t σ H R) : PI X tg l t' := ⟨fun p s σ H R I z => h.run p s σ H R I (q _ _ _ z)⟩
theorem pi_seq {tl : TE} (hl : PE X l tl) : PI X tg l (fun σ H R => tl σ H fun x H1 => ∃ a, x = .ref a ∧ (((∃ xs, SqL X.K H1 a xs) ∧ R (Itl X.K a) H1) ∨ ((∃ xs, SqT X.K H1 a xs) ∧ R (Itt X.K a) H1))) := by
  refine ⟨fun ps s σ H R I h => thn (hl.run ps s σ H _ I h) fun v s1 ⟨x, H1, I1, r1, a, e, z⟩ => ?_⟩
  subst e
  cases r1
  rcases z with ⟨⟨xs, hq⟩, z⟩ | ⟨⟨xs, hq⟩, z⟩
  · obtain ⟨its, rv, pl, hz⟩ := I1.list hq
    refine wpAny_pyIter_list pl.isList ⟨s1.heap.objs.size, [s1.heap.objs.size], _, _, H1, rfl, I1.kept (t' := s1.toks) (fun b o e => Heap.get?_push_of_some _ e), turn_list a _, ⟨_, Heap.get?_push_size _ rfl, rfl, rfl⟩, fun b hb => ?_, z⟩
    rw [List.mem_singleton.mp hb]
    exact I1.fpOk (Nat.le_refl _) (I1.hok.fresh (Nat.le_refl _))
  · obtain ⟨its, rv, pl, hz⟩ := I1.tuple hq
    refine wpAny_pyIter_tuple (show s1.heap.IsTuple a its.toArray from pl) ⟨s1.heap.objs.size, [s1.heap.objs.size], _, _, H1, rfl, I1.kept (t' := s1.toks) (fun b o e => Heap.get?_push_of_some _ e), turn_tuple a _, ⟨_, Heap.get?_push_size _ rfl, rfl, rfl⟩, fun b hb => ?_, z⟩
    rw [List.mem_singleton.mp hb]
    exact I1.fpOk (Nat.le_refl _) (I1.hok.fresh (Nat.le_refl _))
theorem jrel_tup {H : Hp} {a : Addr} {xs : List V} {l : List W} (s : SqT K H a xs) (r : Reps K H xs l) : JRel K T H (Itt K a) (itSeq (.tup l)) := by
  have key : ∀ {M : Mh} {k : List W}, (W.tup l = .tup k ∨ itemsL M (.tup l) k) → k = l := fun h => h.elim (fun e => (W.tup.inj e).symm) fun e => e.elim
  refine ⟨fun i H' M t k ⟨j, e, h⟩ => ?_, fun i H' M x t k ⟨j, e, h⟩ => ?_⟩
  · cases key e
    exact ⟨xs, t.sqt s, by rw [r.len]; exact h⟩
  · cases key e
    obtain ⟨v, hv, rv⟩ := r.get h
    refine ⟨⟨xs, v, t.sqt s, hv⟩, fun u H2 ⟨e2, y⟩ => ?_⟩
    subst e2
    have := y xs (t.sqt s)
    rw [hv] at this
    cases this
    exact ⟨Ti.refl, rv.up t, k⟩
theorem jrel_lst {H : Hp} {a : Addr} {xs : List V} {w : W} (s : FrzL K H a xs ∧ (∃ l, w = .frl l ∧ Reps K H xs l) ∨ w = .ref a) : JRel K T H (Itl K a) (itSeq w) := by
  have key : ∀ {H' : Hp} {M : Mh} {k : List W}, Ti H H' → Ok K T H' M → (w = .tup k ∨ itemsL M w k) → ∃ ys, SqL K H' a ys ∧ Reps K H' ys k := by
    intro H' M k t o h
    rcases s with ⟨f, l, e, r⟩ | e
    · subst e
      rcases h with e | e
      · cases e
      · cases (show l = k from e)
        exact ⟨xs, (t.frl f).sq, r.up t⟩
    · subst e
      rcases h with e | e
      · cases e
      · obtain ⟨ys, h1, h2⟩ := o.lst e
        exact ⟨ys, SqL.of h1, h2⟩
  refine ⟨fun i H' M t k ⟨j, e, h⟩ => ?_, fun i H' M x t k ⟨j, e, h⟩ => ?_⟩
  · obtain ⟨ys, h1, h2⟩ := key t k e
    exact ⟨ys, h1, by rw [h2.len]; exact h⟩
  · obtain ⟨ys, h1, h2⟩ := key t k e
    obtain ⟨v, hv, rv⟩ := h2.get h
    refine ⟨⟨ys, v, h1, hv⟩, fun u H2 ⟨e2, y⟩ => ?_⟩
    subst e2
    have := y ys h1
    rw [hv] at this
    cases this
    exact ⟨Ti.refl, rv, k⟩
theorem iw_seq (h : EW X T l tl) : IW X T tg l (wiSeq tl) := by
  refine ⟨PI.weak (pi_seq h.pe) fun σ H R ⟨Γ, M, Rl, q⟩ => ?_, fun Γ M Q Q' k q => h.mo _ _ _ _ (fun w M1 ⟨a, b⟩ => ⟨a, k _ _ b⟩) q⟩
  refine ⟨Γ, M, Rl, h.mo _ _ _ _ (fun w M1 ⟨⟨l, sq⟩, z⟩ v H1 t1 r1 R1 => ?_) q⟩
  rcases sq with e | e
  · subst e
    obtain ⟨a, xs, rfl, sx, rs⟩ := r1.tup_inv
    exact ⟨a, rfl, .inr ⟨⟨xs, sx⟩, z _ _ t1 (jrel_tup sx rs) R1⟩⟩
  · cases w with
    | ref a =>
      obtain ⟨xs, h1, h2⟩ := R1.ok.lst e
      exact ⟨a, r1.ref_inv, .inl ⟨⟨xs, SqL.of h1⟩, z _ _ t1 (jrel_lst (xs := xs) (.inr rfl)) R1⟩⟩
    | frl j =>
      obtain ⟨a, xs, rfl, f, rs⟩ := r1.frl_inv
      exact ⟨a, rfl, .inl ⟨⟨xs, f.sq⟩, z _ _ t1 (jrel_lst (.inl ⟨f, j, rfl, rs⟩)) R1⟩⟩
    | _ => exact False.elim e
theorem jrel_rng {H : Hp} {lo : Int} {n : Nat} : JRel K T H (Itr lo n) (itRng lo n) := by
  refine ⟨fun i H' M t k h => h, fun i H' M x t k ⟨h, e⟩ => ⟨h, fun v H2 ⟨e2, y⟩ => ?_⟩⟩
  subst e e2 y
  exact ⟨Ti.refl, .int _, k⟩
theorem Reps.one_inv {H : Hp} {vs : List V} {i : Int} (r : Reps K H vs [.int i]) : vs = [.int i] := by
  cases r with
  | cons a b => cases b; rw [a.int_inv]
theorem Reps.two_inv {H : Hp} {vs : List V} {i j : Int} (r : Reps K H vs [.int i, .int j]) : vs = [.int i, .int j] := by
  cases r with
  | cons a b => rw [b.one_inv, a.int_inv]
theorem iw_rng1 {a : Expr} {ta : TAw} (hg : Gl X "range") (hm : X.mg "range" = none) (h : AW X T [a] ta) (hs : starEach [a] X.env = [(false, eval a X.env)] := by rfl) : IW X T tg (.Call (.Name "range" p) [a] [] pos) (wiRng1 ta) := by
  refine ⟨PI.weak (pi_range1 hg hm h.pa hs) fun σ H R ⟨Γ, M, Rl, q⟩ => ?_, fun Γ M Q Q' k q => h.mo _ _ _ _ (fun w M1 ⟨j, e, a, b, z⟩ => ⟨j, e, a, b, k _ _ z⟩) q⟩
  refine ⟨Γ, M, Rl, h.mo _ _ _ _ (fun w M1 ⟨j, e, a, b, z⟩ v H1 t1 r1 R1 => ?_) q⟩
  subst e
  exact ⟨j, r1.one_inv, a, b, z _ _ t1 jrel_rng R1⟩
theorem iw_rng2 {a b : Expr} {ta : TAw} (hg : Gl X "range") (hm : X.mg "range" = none) (h : AW X T [a, b] ta) (hs : starEach [a, b] X.env = [(false, eval a X.env), (false, eval b X.env)] := by rfl) (hs2 : starEach [b] X.env = [(false, eval b X.env)] := by rfl) :
    IW X T tg (.Call (.Name "range" p) [a, b] [] pos) (wiRng2 ta) := by
  refine ⟨PI.weak (pi_range2 hg hm h.pa hs hs2) fun σ H R ⟨Γ, M, Rl, q⟩ => ?_, fun Γ M Q Q' k q => h.mo _ _ _ _ (fun w M1 ⟨i, j, e, a, z⟩ => ⟨i, j, e, a, k _ _ z⟩) q⟩
  refine ⟨Γ, M, Rl, h.mo _ _ _ _ (fun w M1 ⟨i, j, e, a, z⟩ v H1 t1 r1 R1 => ?_) q⟩
  subst e
  exact ⟨i, j, r1.two_inv, a, z _ _ t1 jrel_rng R1⟩
end

/-! ### for -/
/-- n turns; P by the turn -/
def wFor (wi : TIw) (g : TGw) (tb : TSw) : TSw := fun D Γ M => wi Γ M fun J M1 => ∃ (n : Nat) (P : Nat → Env → Mh → Prop), P 0 Γ M1 ∧ ∀ i Γ' M', i ≤ n → P i Γ' M' →
  (i = n → J.stop i M' ∧ D.nx Γ' M') ∧ (i < n → ∃ x, J.go i M' x ∧ g x Γ' M' fun Γ2 M2 => tb { D with nx := P (i + 1), ct := P (i + 1), bk := D.nx } Γ2 M2)
section
variable {X : Cx} {T : List NTab} {pos : Pos} {tg iter : Expr} {body : List Stmt} {wi : TIw} {g : TGw} {tb : TSw}
theorem sw_for (hp : PassesOwn (model X.prog X.w) X.A X.env X.xe) (hc : X.calm = true) (hi : IW X T tg iter wi) (hg : GW X T tg g) (hb : SsW X T body tb) (hs : ∀ x, foldedSetIterable iter X.env x = pure x := by intro _; rfl) : SW X T (.For tg iter body [] pos) (wFor wi g tb) := by
  refine ⟨PS.weak (ps_for hp hc hi.pi hg.pg hb.ps hs) fun D σ H ⟨Γ, M, R, q⟩ => ?_, fun D D' Γ M l q => hi.mo _ _ _ _ (fun J M1 ⟨n, P, p0, turn⟩ => ⟨n, P, p0, fun i Γ' M' hi p => ⟨fun e => ⟨((turn i Γ' M' hi p).1 e).1, l.nx _ _ ((turn i Γ' M' hi p).1 e).2⟩, fun e => ?_⟩⟩) q⟩
  · refine ⟨Γ, M, R, hi.mo _ _ _ _ (fun j M1 ⟨n, P, p0, turn⟩ J H1 t1 jr R1 => ?_) q⟩
    refine ⟨fun i m σ' H' => m = n - i ∧ i ≤ n ∧ Ti H1 H' ∧ ∃ Γ' M', Rel X.K T σ' H' Γ' M' ∧ P i Γ' M', ⟨n, by simp, Nat.zero_le _, Ti.refl, Γ, M1, R1, p0⟩, ?_⟩
    rintro i m σ' H' ⟨rfl, hin, t, Γ', M', R', p⟩
    obtain ⟨h1, h2⟩ := turn i Γ' M' hin p
    by_cases hn : i = n
    · obtain ⟨s, d⟩ := h1 hn
      exact .inl ⟨jr.stop i H' M' t R'.ok s, d σ' H' (t1.trans t) R'⟩
    · obtain ⟨x, go, z⟩ := h2 (by omega)
      obtain ⟨g1, g2⟩ := jr.go i H' M' x t R'.ok go
      refine .inr ⟨g1, fun σ2 H2 => Ti H1 H2 ∧ ∃ Γ2 M2, Rel X.K T σ2 H2 Γ2 M2 ∧ P (i + 1) Γ2 M2, fun σ2 H2 ⟨t2, Γ2, M2, R2, p2⟩ => ⟨n - (i + 1), by omega, rfl, by omega, t2, Γ2, M2, R2, p2⟩, fun v H3 y => ?_⟩
      obtain ⟨t3, rv, k3⟩ := g2 v H3 y
      refine ⟨x, Γ', M', rv, R'.up t3 k3, hg.mo _ _ _ _ _ (fun Γ4 M4 z4 σ4 H4 t4 R4 => ⟨Γ4, M4, R4, hb.mo { liD X.K T H D with nx := P (i + 1), ct := P (i + 1), bk := (liD X.K T H D).nx } _ _ _ ?_ z4⟩) z⟩
      have tt : Ti H1 H4 := (t.trans t3).trans t4
      exact ⟨fun Γ5 M5 p5 σ5 H5 t5 R5 => ⟨tt.trans t5, Γ5, M5, R5, p5⟩, fun w M5 q5 v5 H5 t5 r5 k5 => q5 v5 H5 ((t1.trans tt).trans t5) r5 k5, fun Γ5 M5 q5 σ5 H5 t5 R5 => q5 σ5 H5 ((t1.trans tt).trans t5) R5, fun Γ5 M5 p5 σ5 H5 t5 R5 => ⟨tt.trans t5, Γ5, M5, R5, p5⟩⟩
  · obtain ⟨x, go, z⟩ := (turn i Γ' M' hi p).2 e
    exact ⟨x, go, hg.mo _ _ _ _ _ (fun Γ4 M4 z4 => hb.mo { D with nx := P (i + 1), ct := P (i + 1), bk := D.nx } _ _ _ ⟨fun _ _ y => y, l.rt, l.nx, fun _ _ y => y⟩ z4) z⟩
end
end Dw
set_option maxRecDepth 100000
set_option maxHeartbeats 4000000
/-! Dw4: list comprehensions, methods of lists, built-in calls. -/
namespace Dw
open PySem PySem.Spec PyProof.Rows L2 NdefX LamX

/-! ### comprehensions -/
structure PTsW (X : Cx) (T : List NTab) (ifs : List Expr) (t : TTw) : Prop where
  pt : PTs X ifs (lowT X.K T t)
  mo : MonT t
def wYes : TTw := fun _ M Q => Q true M
def wipeW (Γ : Env) : List Nat → Env
  | [] => Γ
  | v :: vs => (wipeW Γ vs).set v none
/-- a target of a comprehension: it stores into the slots vs alone -/
structure GcW (X : Cx) (T : List NTab) (vs : List Nat) (tg : Expr) (gv : TG) (g : TGw) : Prop where
  pg : PG X tg gv
  mo : MonG g
  run : ∀ v w σ H Γ M Q, Rep X.K H v w → Rel X.K T σ H Γ M → g w Γ M Q → gv v σ H fun σ2 H2 => H2 = H ∧ wipe σ2 vs = wipe σ vs ∧ ∃ Γ2 M2, Rel X.K T σ2 H Γ2 M2 ∧ Q Γ2 M2
structure GcsW (X : Cx) (T : List NTab) (vs : List Nat) (tg : List Expr) (gv : TGs) (g : TGsw) : Prop where
  pg : PGs X tg gv
  mo : MonGs g
  run : ∀ v w σ H Γ M Q, Reps X.K H v w → Rel X.K T σ H Γ M → g w Γ M Q → gv v σ H fun σ2 H2 => H2 = H ∧ wipe σ2 vs = wipe σ vs ∧ ∃ Γ2 M2, Rel X.K T σ2 H Γ2 M2 ∧ Q Γ2 M2
def wLc (wi : TIw) (g : TGw) (tt : TTw) (te : TEw) (vs : List Nat) : TEw := fun Γ M Q => wi Γ M fun J M1 => ∀ D, M1 D = none → ∃ (n : Nat) (P : Nat → Mh → Prop), P 0 (updM M1 D (.lst [])) ∧ ∀ i M', i ≤ n → P i M' →
  (i = n → J.stop i M' ∧ Q (.ref D) M') ∧ (i < n → ∃ x, J.go i M' x ∧ g x (wipeW Γ vs) M' fun Γ2 M2 => tt Γ2 M2 fun b M3 =>
    if b = true then te Γ2 M3 fun y M4 => ∃ acc, M4 D = some (.lst acc) ∧ acc.length < sizeLine ∧ P (i + 1) (updM M4 D (.lst (acc ++ [y]))) else P (i + 1) M3)
section
variable {X : Cx} {T : List NTab} {pos : Pos} {K : PySem.W.Frag}
theorem PTs.weak {e : List Expr} {t t' : TT} (h : PTs X e t) (q : ∀ σ H Q, t' σ H Q → t σ H Q) : PTs X e t' := ⟨fun p s σ H Q I z => h.run p s σ H Q I (q _ _ _ z)⟩
theorem ptsw_nil : PTsW X T [] wYes := ⟨PTs.weak pts_nil fun σ H Q ⟨Γ, M, R, q⟩ => q H Ti.refl R, fun Γ M Q Q' k q => k _ _ q⟩
theorem ptsw_one {c : Expr} {t : TTw} (h : TW X T c t) : PTsW X T [c] t := ⟨pts_one h.pt, h.mo⟩
theorem wipe_get {σ : L2.St} {i : Nat} : ∀ {vs : List Nat}, i ∉ vs → (wipe σ vs)[i]? = σ[i]?
  | [], _ => rfl
  | v :: vs, h => by
    simp only [List.mem_cons, not_or] at h
    unfold wipe
    rw [List.getElem?_set_ne (fun e => h.1 e.symm), wipe_get h.2]
theorem wipe_in {σ : L2.St} {i : Nat} : ∀ {vs : List Nat}, i ∈ vs → i < σ.length → (wipe σ vs)[i]? = some none
  | v :: vs, h, hl => by
    unfold wipe
    by_cases e : v = i
    · subst e; rw [List.getElem?_set_self (by rw [wipe_length]; exact hl)]
    · rw [List.getElem?_set_ne e]
      exact wipe_in (by rcases List.mem_cons.mp h with z | z; exact absurd z.symm e; exact z) hl
theorem wipe_ext {σ σ' : L2.St} {vs : List Nat} (hl : σ.length = σ'.length) (h : ∀ i, i ∉ vs → σ[i]? = σ'[i]?) : wipe σ vs = wipe σ' vs := by
  apply List.ext_getElem?
  intro i
  by_cases hi : i ∈ vs
  · by_cases hlt : i < σ.length
    · rw [wipe_in hi hlt, wipe_in hi (by omega)]
    · rw [List.getElem?_eq_none (by rw [wipe_length]; omega), List.getElem?_eq_none (by rw [wipe_length]; omega)]
  · rw [wipe_get hi, wipe_get hi, h i hi]
theorem wipe_set {σ : L2.St} {vs : List Nat} {j : Nat} {x : Option V} (h : j ∈ vs) : wipe (σ.set j x) vs = wipe σ vs :=
  wipe_ext (by simp) fun i hi => by rw [List.getElem?_set_ne (fun (e : j = i) => hi (by rw [← e]; exact h))]
theorem wipe_wipe {σ : L2.St} {vs : List Nat} : wipe (wipe σ vs) vs = wipe σ vs := wipe_ext (wipe_length _ _) fun i hi => wipe_get hi
theorem wipeW_length (Γ : Env) : ∀ vs : List Nat, (wipeW Γ vs).length = Γ.length
  | [] => rfl
  | v :: vs => by unfold wipeW; rw [List.length_set, wipeW_length Γ vs]
theorem wipeW_some {Γ : Env} {i : Nat} {x : W} : ∀ {vs : List Nat}, (wipeW Γ vs)[i]? = some (some x) → Γ[i]? = some (some x) ∧ i ∉ vs
  | [], h => ⟨h, by simp⟩
  | v :: vs, h => by
    unfold wipeW at h
    by_cases hi : v = i
    · subst hi
      by_cases hv : v < (wipeW Γ vs).length
      · rw [List.getElem?_set_self hv] at h; cases h
      · rw [List.getElem?_eq_none (by simpa using hv)] at h; cases h
    · rw [List.getElem?_set_ne hi] at h
      obtain ⟨h1, h2⟩ := wipeW_some h
      exact ⟨h1, by simp only [List.mem_cons, not_or]; exact ⟨fun e => hi e.symm, h2⟩⟩
theorem Rel.wipe {σ : L2.St} {H : Hp} {Γ : Env} {M : Mh} (R : Rel K T σ H Γ M) (vs : List Nat) : Rel K T (L2.wipe σ vs) H (wipeW Γ vs) M := by
  refine ⟨fun i w e => ?_, by rw [wipe_length, wipeW_length]; exact R.len, R.ok⟩
  obtain ⟨h1, h2⟩ := wipeW_some e
  obtain ⟨v, a, b⟩ := R.env i w h1
  exact ⟨v, by rw [wipe_get h2]; exact a, b⟩
theorem gcw_name {vs : List Nat} {i : Nat} {x : Str} (hm : i ∈ vs) (hN : X.N.Nodup) (hi : X.N[i]? = some x) (hx : Loc X.env.scope x) (hf : X.fn x = true ∨ X.env.scope.names.lookup x = some .local := by first | exact .inl rfl | exact .inr rfl | assumption) : GcW X T vs (.Name x pos) (gName i) (wgName i) :=
  ⟨pg_name hN hi hx hf, mon_name, fun v w σ H Γ M Q r R q => ⟨rfl, wipe_set hm, _, _, R.set i r, q⟩⟩
theorem gcsw_nil {vs : List Nat} : GcsW X T vs [] gNil wgNil := by
  refine ⟨pgs_nil, fun w Γ M Q Q' k ⟨e, q⟩ => ⟨e, k _ _ q⟩, fun v w σ H Γ M Q r R ⟨e, q⟩ => ?_⟩
  subst e
  cases r
  exact ⟨rfl, rfl, rfl, Γ, M, R, q⟩
theorem gcsw_cons {vs : List Nat} {e : Expr} {es : List Expr} {gv : TG} {uv : TGs} {g : TGw} {u : TGsw} (h : GcW X T vs e gv g) (k : GcsW X T vs es uv u) (mv : ∀ l σ H Q Q', (∀ σ H, Q σ H → Q' σ H) → uv l σ H Q → uv l σ H Q') (mg : ∀ l σ H Q Q', (∀ σ H, Q σ H → Q' σ H) → gv l σ H Q → gv l σ H Q')
    (hs : (assignEach (e :: es) X.env).map (·.2) = assign e X.env :: (assignEach es X.env).map (·.2) := by rfl) : GcsW X T vs (e :: es) (gCons gv uv) (wgCons g u) := by
  refine ⟨pgs_cons h.pg k.pg hs, fun w Γ M Q Q' m ⟨x, r, e, q⟩ => ⟨x, r, e, h.mo _ _ _ _ _ (fun Γ' M' z => k.mo _ _ _ _ _ m z) q⟩, fun v w σ H Γ M Q r R ⟨x, rr, e, q⟩ => ?_⟩
  subst e
  cases r with
  | cons r1 r2 =>
    refine ⟨_, _, rfl, mg _ _ _ _ _ (fun σ2 H2 z => ?_) (h.run _ x σ H Γ M _ r1 R q)⟩
    obtain ⟨e2, w2, Γ2, M2, R2, q2⟩ := z
    subst e2
    refine mv _ _ _ _ _ (fun σ3 H3 z => ?_) (k.run _ rr σ2 _ Γ2 M2 _ r2 R2 q2)
    obtain ⟨e3, w3, Γ3, M3, R3, q3⟩ := z
    exact ⟨e3, w3.trans w2, Γ3, M3, R3, q3⟩
theorem gcw_tup {vs : List Nat} {es : List Expr} {k : Nat} {uv : TGs} {u : TGsw} {n : Nat} (hc : X.calm = true) (h : GcsW X T vs es uv u) (hn : (assignEach es X.env).length = n := by rfl) (hst : (assignEach es X.env).findIdx? (·.1) = none := by rfl) :
    GcW X T vs (.Tuple es k pos) (gTup X.K n uv) (wgTup n u) := by
  refine ⟨pg_tup hc h.pg hn hst, fun w Γ M Q Q' m ⟨l, e, hl, q⟩ => ⟨l, e, hl, h.mo _ _ _ _ _ m q⟩, fun v w σ H Γ M Q r R ⟨l, e, hl, q⟩ => ?_⟩
  subst e
  obtain ⟨a, xs, rfl, sx, r1⟩ := r.tup_inv
  exact ⟨a, xs, rfl, sx, by rw [r1.len]; exact hl, h.run _ l σ H Γ M Q r1 R q⟩
theorem mv_name {i : Nat} : ∀ (v : V) σ H (Q Q' : L2.St → Hp → Prop), (∀ σ H, Q σ H → Q' σ H) → gName i v σ H Q → gName i v σ H Q' := fun v σ H Q Q' k q => k _ _ q
theorem mv_nil : ∀ (v : List V) σ H (Q Q' : L2.St → Hp → Prop), (∀ σ H, Q σ H → Q' σ H) → gNil v σ H Q → gNil v σ H Q' := fun v σ H Q Q' k ⟨e, q⟩ => ⟨e, k _ _ q⟩
theorem mv_cons {g : TG} {u : TGs} (mg : ∀ v σ H (Q Q' : L2.St → Hp → Prop), (∀ σ H, Q σ H → Q' σ H) → g v σ H Q → g v σ H Q') (mu : ∀ v σ H (Q Q' : L2.St → Hp → Prop), (∀ σ H, Q σ H → Q' σ H) → u v σ H Q → u v σ H Q') :
    ∀ (v : List V) σ H (Q Q' : L2.St → Hp → Prop), (∀ σ H, Q σ H → Q' σ H) → gCons g u v σ H Q → gCons g u v σ H Q' := fun v σ H Q Q' k ⟨x, r, e, q⟩ => ⟨x, r, e, mg _ _ _ _ _ (fun σ2 H2 z => mu _ _ _ _ _ k z) q⟩
theorem mv_tup {n : Nat} {u : TGs} (mu : ∀ v σ H (Q Q' : L2.St → Hp → Prop), (∀ σ H, Q σ H → Q' σ H) → u v σ H Q → u v σ H Q') : ∀ (v : V) σ H (Q Q' : L2.St → Hp → Prop), (∀ σ H, Q σ H → Q' σ H) → gTup K n u v σ H Q → gTup K n u v σ H Q' :=
  fun v σ H Q Q' k ⟨a, xs, e1, e2, e3, q⟩ => ⟨a, xs, e1, e2, e3, mu _ _ _ _ _ k q⟩
section
variable {elt tg iter : Expr} {ifs : List Expr} {scope : Scope} {own : List (Str × Nat)} {wi : TIw} {gv : TG} {g : TGw} {tt : TTw} {te : TEw} {vs : List Nat}
theorem low_lc {σ : L2.St} {H : Hp} {Q : VK} (hi : MonI wi) (hg : MonG g) (ht : MonT tt) (he : MonE te)
    (mg : ∀ v σ H (Q Q' : L2.St → Hp → Prop), (∀ σ H, Q σ H → Q' σ H) → gv v σ H Q → gv v σ H Q')
    (run : ∀ v w σ H Γ M Q, Rep K H v w → Rel K T σ H Γ M → g w Γ M Q → gv v σ H fun σ2 H2 => H2 = H ∧ wipe σ2 vs = wipe σ vs ∧ ∃ Γ2 M2, Rel K T σ2 H Γ2 M2 ∧ Q Γ2 M2)
    (h : low K T (wLc wi g tt te vs) σ H Q) : tLc (lowI K T wi) gv (lowT K T tt) (low K T te) vs σ H Q := by
  obtain ⟨Γ, M, R, q⟩ := h
  refine ⟨Γ, M, R, hi _ _ _ _ (fun j M1 z J H1 t1 jr R1 D hD => ?_) q⟩
  obtain ⟨n, P, p0, turn⟩ := z D (R1.ok.noM hD)
  have tD : Ti H1 (upd H1 D (.lst [])) := Ti.new hD
  refine ⟨fun i m H' => m = n - i ∧ i ≤ n ∧ Ti H1 H' ∧ ∃ M', Rel K T σ H' Γ M' ∧ P i M', ⟨n, by simp, Nat.zero_le _, tD, _, R1.up tD (R1.ok.newL hD .nil), p0⟩, ?_⟩
  rintro i m H' ⟨rfl, hin, t, M', R', p⟩
  obtain ⟨h1, h2⟩ := turn i M' hin p
  by_cases hn : i = n
  · obtain ⟨s, d⟩ := h1 hn
    exact .inl ⟨jr.stop i H' M' t R'.ok s, d _ H' (t1.trans t) (.ref D) R'⟩
  · obtain ⟨x, go, z⟩ := h2 (by omega)
    obtain ⟨g1, g2⟩ := jr.go i H' M' x t R'.ok go
    refine .inr ⟨g1, fun H2 => Ti H1 H2 ∧ ∃ M2, Rel K T σ H2 Γ M2 ∧ P (i + 1) M2, fun H2 ⟨t2, M2, R2, p2⟩ => ⟨n - (i + 1), by omega, rfl, by omega, t2, M2, R2, p2⟩, fun v H3 y => ?_⟩
    obtain ⟨t3, rv, k3⟩ := g2 v H3 y
    have R3 : Rel K T σ H3 Γ M' := R'.up t3 k3
    refine mg _ _ _ _ _ (fun σ4 H4 c => ?_) (run v x _ H3 _ M' _ rv (R3.wipe vs) z)
    obtain ⟨e4, w4, Γ4, M4, R4, z4⟩ := c
    subst e4
    refine ⟨w4.trans wipe_wipe, Γ4, M4, R4, ht _ _ _ _ (fun b M5 z5 H5 t5 R5 => ?_) z4⟩
    have tt5 : Ti H1 H5 := (t.trans t3).trans t5
    have back : ∀ {H6 : Hp} {M6 : Mh}, Ti H1 H6 → Ok K T H6 M6 → Rel K T σ H6 Γ M6 := fun t6 k6 => R1.up t6 k6
    cases b with
    | false => exact ⟨tt5, M5, back tt5 R5.ok, z5⟩
    | true =>
      refine ⟨Γ4, M5, R5, he _ _ _ _ (fun w M6 ⟨acc, e6, l6, p6⟩ v6 H6 t6 r6 R6 => ?_) z5⟩
      obtain ⟨xs, hx, rs⟩ := R6.ok.lst e6
      have t7 : Ti H6 (upd H6 D (.lst (xs ++ [v6]))) := Ti.write hx trivial
      have tt7 := (tt5.trans t6).trans t7
      exact ⟨xs, hx, by rw [rs.len]; exact l6, tt7, _, back tt7 (R6.ok.writeL hx (rs.append (Reps.one r6))), p6⟩
theorem mon_lc (hi : MonI wi) (hg : MonG g) (ht : MonT tt) (he : MonE te) : MonE (wLc wi g tt te vs) := fun Γ M Q Q' k q => hi _ _ _ _ (fun j M1 z D hD => by
  obtain ⟨n, P, p0, turn⟩ := z D hD
  exact ⟨n, P, p0, fun i M' a b => ⟨fun e => ⟨((turn i M' a b).1 e).1, k _ _ ((turn i M' a b).1 e).2⟩, (turn i M' a b).2⟩⟩) q
theorem ew_lc (hc : X.calm = true) (hN : X.N.Nodup) (hi : IW X T tg iter wi) (ok : BlkOk X.N X.env.scope scope own)
    (hg : ∀ (s : Shared) (H : Hp) (C : Addr) (cl : List (Str × Addr)) (fp : List Addr), GcW (X.blk s H scope (compEnvC scope cl C X.env) fp) T (own.map (·.2)) tg gv g)
    (mg : ∀ v σ H (Q Q' : L2.St → Hp → Prop), (∀ σ H, Q σ H → Q' σ H) → gv v σ H Q → gv v σ H Q')
    (ht : ∀ (s : Shared) (H : Hp) (C : Addr) (cl : List (Str × Addr)) (fp : List Addr), PTsW (X.blk s H scope (compEnvC scope cl C X.env) fp) T ifs tt)
    (he : ∀ (s : Shared) (H : Hp) (C : Addr) (cl : List (Str × Addr)) (fp : List Addr), EW (X.blk s H scope (compEnvC scope cl C X.env) fp) T elt te) (hs : ∀ x, foldedSetIterable iter X.env x = pure x := by intro _; rfl) :
    EW X T (.ListComp elt [⟨tg, iter, ifs, 0⟩] scope pos) (wLc wi g tt te (own.map (·.2))) := by
  have g0 := hg X.s_0 (fun _ => none) 0 [] []
  have t0 := ht X.s_0 (fun _ => none) 0 [] []
  have e0 := he X.s_0 (fun _ => none) 0 [] []
  exact ⟨PE.weak (pe_lc (tt := lowT X.K T tt) (te := low X.K T te) hc hN hi.pi ok (fun s H C cl fp => (hg s H C cl fp).pg) (fun s H C cl fp => (ht s H C cl fp).pt) (fun s H C cl fp => (he s H C cl fp).pe) hs) fun σ H Q h => low_lc hi.mo g0.mo t0.mo e0.mo mg g0.run h, mon_lc hi.mo g0.mo t0.mo e0.mo⟩
theorem sw_setLc {i : Nat} {y : Str} {py spos : Pos} (hc : X.calm = true) (hN : X.N.Nodup) (hy : X.N[i]? = some y) (hyl : X.env.scope.names.lookup y = some .local) (hsw : swapsWith (.ListComp elt [⟨tg, iter, ifs, 0⟩] scope pos) (some (.Name y py)) spos.line X.env = pure true)
    (hi : IW X T tg iter wi) (ok : BlkOk X.N X.env.scope scope own)
    (hg : ∀ (s : Shared) (H : Hp) (C : Addr) (cl : List (Str × Addr)) (fp : List Addr), GcW (X.blk s H scope (compEnvC scope cl C X.env) fp) T (own.map (·.2)) tg gv g)
    (mg : ∀ v σ H (Q Q' : L2.St → Hp → Prop), (∀ σ H, Q σ H → Q' σ H) → gv v σ H Q → gv v σ H Q')
    (ht : ∀ (s : Shared) (H : Hp) (C : Addr) (cl : List (Str × Addr)) (fp : List Addr), PTsW (X.blk s H scope (compEnvC scope cl C X.env) fp) T ifs tt)
    (he : ∀ (s : Shared) (H : Hp) (C : Addr) (cl : List (Str × Addr)) (fp : List Addr), EW (X.blk s H scope (compEnvC scope cl C X.env) fp) T elt te) (hs : ∀ x, foldedSetIterable iter X.env x = pure x := by intro _; rfl) :
    SW X T (.Assign [.Name y py] (.ListComp elt [⟨tg, iter, ifs, 0⟩] scope pos) spos) (wAsg (wLc wi g tt te (own.map (·.2))) (wgName i)) := by
  have g0 := hg X.s_0 (fun _ => none) 0 [] []
  have t0 := ht X.s_0 (fun _ => none) 0 [] []
  have e0 := he X.s_0 (fun _ => none) 0 [] []
  have m0 := mon_lc (vs := own.map (·.2)) hi.mo g0.mo t0.mo e0.mo
  refine ⟨PS.weak (ps_setLc (tt := lowT X.K T tt) (te := low X.K T te) hc hN hy hyl hsw hi.pi ok (fun s H C cl fp => (hg s H C cl fp).pg) (fun s H C cl fp => (ht s H C cl fp).pt) (fun s H C cl fp => (he s H C cl fp).pe) hs) fun D σ H ⟨Γ, M, R, q⟩ => ?_, mon_asg m0 mon_name⟩
  refine low_lc hi.mo g0.mo t0.mo e0.mo mg g0.run ⟨Γ, M, R, m0 _ _ _ _ (fun w M1 z v H1 t1 r1 R1 => ?_) q⟩
  exact z _ H1 t1 (R1.set i r1)
end
end

/-! ### methods of lists -/
abbrev RMw := W → List W → Mh → WK → Prop
structure MtW (X : Cx) (T : List NTab) (id : String) (r : RMw) : Prop where
  run : MtR X id fun x xs H Q => ∃ w ws M, Rep X.K H x w ∧ Reps X.K H xs ws ∧ Ok X.K T H M ∧ r w ws M (liR X.K T H Q)
  mo : ∀ x xs M (Q Q' : WK), (∀ w M', Q w M' → Q' w M') → r x xs M Q → r x xs M Q'
def wBM (r : RMw) (to : TEw) (t : TAw) : TEw := fun Γ M Q => to Γ M fun x M1 => (∃ a l, x = .ref a ∧ M1 a = some (.lst l)) ∧ t Γ M1 fun xs M2 => r x xs M2 Q
def wBM0 (r : RMw) (to : TEw) : TEw := fun Γ M Q => to Γ M fun x M1 => (∃ a l, x = .ref a ∧ M1 a = some (.lst l)) ∧ r x [] M1 Q
def mAppend : RMw := fun x xs M Q => ∃ a l y, x = .ref a ∧ xs = [y] ∧ M a = some (.lst l) ∧ l.length < sizeLine ∧ Q .non (updM M a (.lst (l ++ [y])))
section
variable {X : Cx} {T : List NTab} {o e : Expr} {es : List Expr} {to : TEw} {t : TAw} {name : Str} {apos cpos : Pos} {id : String} {r : RMw}
theorem MtR.weak {r r' : V → List V → Hp → VK → Prop} (h : MtR X id r) (q : ∀ x xs H Q, r' x xs H Q → r x xs H Q) : MtR X id r' := fun p s σ H x xs v us Q I rx rs z => h p s σ H x xs v us Q I rx rs (q _ _ _ _ z)
theorem ew_bm (slot : Slot "list" name id) (hty : typeOf (.builtin id) = pure (.type "method_descriptor")) (hm : MtW X T id r) (ho : EW X T o to) (ha : AW X T (e :: es) t)
    (hbase : attributeBase o name X.env (eval o X.env) = eval o X.env := by rfl)
    (hfew : ((backTo cpos (starEach (e :: es) X.env)).all (fun x => !x.1) && (backToKw cpos (keywordEach [] X.env)).all (fun x => x.1.isSome)
      && decide ((e :: es).length + ([] : List Keyword).length + (if ([] : List Keyword).isEmpty then 0 else 1) < 30)) = true := by rfl)
    (hline : (apos.endLine == cpos.line) = true := by rfl) (hs : starEach (e :: es) X.env = (false, eval e X.env) :: starEach es X.env := by rfl) (hplain : (backTo cpos (starEach es X.env)).any (·.1) = false := by rfl) :
    EW X T (.Call (.Attribute o name apos) (e :: es) [] cpos) (wBM r to t) := by
  refine ⟨PE.weak (pe_bm PySem.F.plainAttrs_list slot hty hm.run ho.pe ha.pa hbase hfew hline hs hplain) fun σ H Q ⟨Γ, M, R, q⟩ => ?_, fun Γ M Q Q' k q => ho.mo _ _ _ _ (fun x M1 ⟨a, z⟩ => ⟨a, ha.mo _ _ _ _ (fun xs M2 y => hm.mo _ _ _ _ _ k y) z⟩) q⟩
  refine ⟨Γ, M, R, ho.mo _ _ _ _ (fun x M1 ⟨⟨a, l, e1, e2⟩, z⟩ v H1 t1 r1 R1 => ⟨?_, Γ, M1, R1, ha.mo _ _ _ _ (fun xs M2 y vs H2 t2 r2 R2 => ⟨x, xs, M2, r1.up t2, r2, R2.ok, hm.mo _ _ _ _ _ (fun w M3 c v3 H3 t3 r3 k3 => ?_) y⟩) z⟩) q⟩
  · subst e1
    obtain ⟨xs, hx, _⟩ := R1.ok.lst e2
    rw [r1.ref_inv]
    exact .inl ⟨rfl, xs, SqL.of hx⟩
  · exact c v3 H3 ((t1.trans t2).trans t3) r3 (R2.up t3 k3)
theorem ew_bm0 (slot : Slot "list" name id) (hty : typeOf (.builtin id) = pure (.type "method_descriptor")) (hm : MtW X T id r) (ho : EW X T o to)
    (hbase : attributeBase o name X.env (eval o X.env) = eval o X.env := by rfl) (hline : (apos.endLine == cpos.line) = true := by rfl) : EW X T (.Call (.Attribute o name apos) [] [] cpos) (wBM0 r to) := by
  refine ⟨PE.weak (pe_bm0 PySem.F.plainAttrs_list slot hty hm.run ho.pe hbase hline) fun σ H Q ⟨Γ, M, R, q⟩ => ?_, fun Γ M Q Q' k q => ho.mo _ _ _ _ (fun x M1 ⟨a, z⟩ => ⟨a, hm.mo _ _ _ _ _ k z⟩) q⟩
  refine ⟨Γ, M, R, ho.mo _ _ _ _ (fun x M1 ⟨⟨a, l, e1, e2⟩, z⟩ v H1 t1 r1 R1 => ⟨?_, x, [], M1, r1, .nil, R1.ok, hm.mo _ _ _ _ _ (fun w M3 c v3 H3 t3 r3 k3 => ?_) z⟩) q⟩
  · subst e1
    obtain ⟨xs, hx, _⟩ := R1.ok.lst e2
    rw [r1.ref_inv]
    exact .inl ⟨rfl, xs, SqL.of hx⟩
  · exact c v3 H3 (t1.trans t3) r3 (R1.up t3 k3)
theorem mtw_append : MtW X T "list.append" mAppend := by
  refine ⟨MtR.weak mt_append fun x xs H Q ⟨w, ws, M, rx, rs, k, a, l, y, e1, e2, e3, e4, q⟩ => ?_, fun x xs M Q Q' k ⟨a, l, y, e1, e2, e3, e4, q⟩ => ⟨a, l, y, e1, e2, e3, e4, k _ _ q⟩⟩
  subst e1 e2
  cases rs with
  | cons r1 r2 =>
    cases r2
    obtain ⟨ys, hx, rl⟩ := k.lst e3
    exact ⟨a, ys, _, rx.ref_inv, rfl, hx, by rw [rl.len]; exact e4, q _ _ (Ti.write hx trivial) .non (k.writeL hx (rl.append (Reps.one r1)))⟩
theorem ew_append (ho : EW X T o to) (ha : AW X T [e] t) (hbase : attributeBase o "append" X.env (eval o X.env) = eval o X.env := by rfl)
    (hfew : ((backTo cpos (starEach [e] X.env)).all (fun x => !x.1) && (backToKw cpos (keywordEach [] X.env)).all (fun x => x.1.isSome)
      && decide (([e] : List Expr).length + ([] : List Keyword).length + (if ([] : List Keyword).isEmpty then 0 else 1) < 30)) = true := by rfl)
    (hline : (apos.endLine == cpos.line) = true := by rfl) (hs : starEach [e] X.env = (false, eval e X.env) :: starEach [] X.env := by rfl) : EW X T (.Call (.Attribute o "append" apos) [e] [] cpos) (wBM mAppend to t) :=
  ew_bm PySem.F.slot_list_append PySem.F.type_list_append mtw_append ho ha hbase hfew hline hs rfl
end

/-! ### built-in calls by values -/
def cI1 (g : Int → W) : RCw := fun l M Q => ∃ i, l = [.int i] ∧ Q (g i) M
def cI2 (g : Int → Int → W) : RCw := fun l M Q => ∃ i j, l = [.int i, .int j] ∧ Q (g i j) M
def cInt : RCw := fun l M Q => (∃ i, l = [.int i] ∧ Q (.int i) M) ∨ ∃ k, l = [.bl k] ∧ Q (.int (if k then 1 else 0)) M
def lenW (M : Mh) (w : W) (n : Nat) : Prop := (∃ l, (w = .tup l ∨ itemsL M w l) ∧ l.length = n) ∨ ∃ s, w = .str s ∧ s.length ≤ sizeLine ∧ s.length = n
def cLen : RCw := fun l M Q => ∃ w n, l = [w] ∧ lenW M w n ∧ Q (.int (n : Int)) M
def cListOf : RCw := fun l M Q => ∃ w k, l = [w] ∧ (w = .tup k ∨ itemsL M w k) ∧ ∀ p, M p = none → Q (.ref p) (updM M p (.lst k))
def cTupOf : RCw := fun l M Q => ∃ w k, l = [w] ∧ (w = .tup k ∨ itemsL M w k) ∧ Q (.tup k) M
section
variable {X : Cx} {T : List NTab} {K : PySem.W.Frag} {H : Hp}
theorem cw_abs : CallW X T (.builtin "abs") (cI1 fun i => .int (if i < 0 then -i else i)) := by
  refine ⟨CallR.weak call_abs fun x H Q ⟨ws, M, rs, k, i, e, q⟩ => ?_, fun x M Q Q' k ⟨i, e, q⟩ => ⟨i, e, k _ _ q⟩⟩
  subst e
  exact ⟨i, rs.one_inv, q _ _ Ti.refl (.int _) k⟩
theorem cw_max2 (hc : X.calm = true) : CallW X T (.builtin "max") (cI2 fun i j => .int (if j > i then j else i)) := by
  refine ⟨CallR.weak (call_max2 hc) fun x H Q ⟨ws, M, rs, k, i, j, e, q⟩ => ?_, fun x M Q Q' k ⟨i, j, e, q⟩ => ⟨i, j, e, k _ _ q⟩⟩
  subst e
  exact ⟨i, j, rs.two_inv, q _ _ Ti.refl (.int _) k⟩
theorem cw_min2 (hc : X.calm = true) : CallW X T (.builtin "min") (cI2 fun i j => .int (if j < i then j else i)) := by
  refine ⟨CallR.weak (call_min2 hc) fun x H Q ⟨ws, M, rs, k, i, j, e, q⟩ => ?_, fun x M Q Q' k ⟨i, j, e, q⟩ => ⟨i, j, e, k _ _ q⟩⟩
  subst e
  exact ⟨i, j, rs.two_inv, q _ _ Ti.refl (.int _) k⟩
theorem cw_int : CallW X T (.type "int") cInt := by
  refine ⟨CallR.weak call_int1 fun x H Q ⟨ws, M, rs, k, q⟩ => ?_, fun x M Q Q' k q => q.elim (fun ⟨i, e, q⟩ => .inl ⟨i, e, k _ _ q⟩) fun ⟨i, e, q⟩ => .inr ⟨i, e, k _ _ q⟩⟩
  rcases q with ⟨i, e, q⟩ | ⟨i, e, q⟩
  · subst e
    exact .inl ⟨i, rs.one_inv, q _ _ Ti.refl (.int _) k⟩
  · subst e
    cases rs with
    | cons a b =>
      cases b
      rw [a.bl_inv]
      exact .inr ⟨i, rfl, q _ _ Ti.refl (.int _) k⟩
theorem Reps.one_of {vs : List V} {w : W} (r : Reps K H vs [w]) : ∃ v, vs = [v] ∧ Rep K H v w := by
  cases r with
  | cons a b => cases b; exact ⟨_, rfl, a⟩
theorem Reps.two_of {vs : List V} {w u : W} (r : Reps K H vs [w, u]) : ∃ v z, vs = [v, z] ∧ Rep K H v w ∧ Rep K H z u := by
  cases r with
  | cons a b => obtain ⟨z, rfl, c⟩ := b.one_of; exact ⟨_, _, rfl, a, c⟩
theorem Ok.seq {M : Mh} (k : Ok K T H M) {v : V} {w : W} {l : List W} (r : Rep K H v w) (h : w = .tup l ∨ itemsL M w l) : ∃ a xs, v = .ref a ∧ (SqL K H a xs ∨ SqT K H a xs) ∧ Reps K H xs l := by
  rcases h with e | e
  · subst e
    obtain ⟨a, xs, rfl, s, rs⟩ := r.tup_inv
    exact ⟨a, xs, rfl, .inr s, rs⟩
  · obtain ⟨a, xs, rfl, s, rs⟩ := k.items r e
    exact ⟨a, xs, rfl, .inl s, rs⟩
theorem cw_len : CallW X T (.builtin "len") cLen := by
  refine ⟨CallR.weak call_len fun x H Q ⟨ws, M, rs, k, w, n, e, hl, q⟩ => ?_, fun x M Q Q' k ⟨w, n, e, hl, q⟩ => ⟨w, n, e, hl, k _ _ q⟩⟩
  subst e
  obtain ⟨v, rfl, r⟩ := rs.one_of
  refine ⟨v, n, rfl, ?_, q _ _ Ti.refl (.int _) k⟩
  rcases hl with ⟨l, h, e⟩ | ⟨s, e1, e2, e3⟩
  · obtain ⟨a, xs, rfl, hs, r1⟩ := k.seq r h
    rcases hs with hs | hs
    · exact .inl ⟨xs, hs, by rw [r1.len, e]⟩
    · exact .inr ⟨xs, hs, by rw [r1.len, e]⟩
  · subst e1
    rw [r.str_inv]
    exact ⟨e2, e3.symm⟩
theorem cw_listOf : CallW X T (.type "list") cListOf := by
  refine ⟨CallR.weak call_list_of fun x H Q ⟨ws, M, rs, k, w, l, e, h, q⟩ => ?_, fun x M Q Q' k ⟨w, l, e, h, q⟩ => ⟨w, l, e, h, fun p hp => k _ _ (q p hp)⟩⟩
  subst e
  obtain ⟨v, rfl, r⟩ := rs.one_of
  obtain ⟨a, xs, rfl, hs, r1⟩ := k.seq r h
  exact ⟨a, xs, rfl, hs, fun p hp => q p (k.noM hp) _ _ (Ti.new hp) (.ref p) (k.newL hp r1)⟩
theorem cw_tupOf : CallW X T (.type "tuple") cTupOf := by
  refine ⟨CallR.weak call_tuple_of fun x H Q ⟨ws, M, rs, k, w, l, e, h, q⟩ => ?_, fun x M Q Q' k ⟨w, l, e, h, q⟩ => ⟨w, l, e, h, k _ _ q⟩⟩
  subst e
  obtain ⟨v, rfl, r⟩ := rs.one_of
  obtain ⟨a, xs, rfl, hs, r1⟩ := k.seq r h
  rcases hs with hs | hs
  · refine ⟨a, xs, rfl, .inl ⟨hs, fun p hp => ?_⟩⟩
    have t : Ti H (upd H p (.tup xs)) := Ti.new hp
    exact q _ _ t (.tup (SqT.of upd_same) (r1.up t)) (k.new hp)
  · exact ⟨a, xs, rfl, .inr ⟨hs, q _ _ Ti.refl (.tup hs r1) k⟩⟩
end
end Dw
set_option maxRecDepth 100000
set_option maxHeartbeats 4000000
/-! Dw5: values as data: ==, repr. -/
namespace Dw
open PySem PySem.Spec PyProof.Rows L2 NdefX LamX
mutual
def W.data : W → PyData
  | .non => .none
  | .bl b => .bool b
  | .int i => .int i
  | .str x => .str x
  | .tup l => .tuple (datas l)
  | .frl l => .list (datas l)
  | .ref _ => .none
def datas : List W → List PyData
  | [] => []
  | w :: ws => w.data :: datas ws
end
mutual
def W.pure : W → Bool
  | .ref _ => false
  | .tup l => pures l
  | .frl l => pures l
  | _ => true
def pures : List W → Bool
  | [] => true
  | w :: ws => w.pure && pures ws
end
theorem datas_map : ∀ l : List W, datas l = l.map W.data
  | [] => rfl
  | w :: ws => by rw [datas, datas_map ws, List.map_cons]
theorem pures_all : ∀ l : List W, pures l = l.all W.pure
  | [] => rfl
  | w :: ws => by rw [pures, pures_all ws, List.all_cons]
section
variable {K : PySem.W.Frag} {H : Hp}
mutual
theorem Rep.dp : ∀ (w : W) (v : V), w.pure = true → Rep K H v w → Dp K H v w.data
  | .non, _, _, h => by cases h; exact .non
  | .bl _, _, _, h => by cases h; exact .bl _
  | .int _, _, _, h => by cases h; exact .int _
  | .str _, _, _, h => by cases h; exact .str _
  | .ref _, _, p, _ => by simp [W.pure] at p
  | .tup l, _, p, h => by
    cases h with
    | tup h1 h2 => exact .tup h1 (Reps.dp l _ (by simpa [W.pure] using p) h2)
  | .frl l, _, p, h => by
    cases h with
    | frl h1 h2 => exact .lst h1.sq (Reps.dp l _ (by simpa [W.pure] using p) h2)
theorem Reps.dp : ∀ (ws : List W) (vs : List V), pures ws = true → Reps K H vs ws → DpAll K H vs (datas ws)
  | [], _, _, h => by cases h; exact .nil
  | w :: ws, _, p, h => by
    rw [pures, Bool.and_eq_true] at p
    cases h with
    | cons h1 h2 => exact .cons (Rep.dp w _ p.1 h1) (Reps.dp ws _ p.2 h2)
end
end
/-- what a value is as data, its lists read -/
def datW (M : Mh) (w : W) (d : PyData) : Prop := (w.pure = true ∧ w.data = d) ∨ ∃ l, itemsL M w l ∧ pures l = true ∧ PyData.list (datas l) = d
theorem Ok.dat {K : PySem.W.Frag} {T : List NTab} {H : Hp} {M : Mh} (k : Ok K T H M) {v : V} {w : W} {d : PyData} (r : Rep K H v w) (h : datW M w d) : Dp K H v d := by
  rcases h with ⟨p, e⟩ | ⟨l, i, p, e⟩
  · subst e; exact Rep.dp w v p r
  · subst e
    obtain ⟨a, xs, rfl, s, rs⟩ := k.items r i
    exact .lst s (Reps.dp l _ p rs)
/-! ### ==, != -/
def oEqD (neg : Bool) : R2w := fun x y M Q => ∃ d e, datW M x d ∧ datW M y e ∧ SeqAt.shaped d = true ∧ SeqAt.shaped e = true ∧ Q (.bl (xor neg (PyData.eqv d e))) M
section
variable {X : Cx} {T : List NTab}
theorem opw_eq (hu : X.A.units + 64 < cLine) : OpW X T (compareOp .Eq) (oEqD false) := by
  refine ⟨OpR.weak (op_eqD hu) fun x y H Q ⟨wx, wy, M, rx, ry, k, d, e, h1, h2, s1, s2, q⟩ => ?_, fun x y M Q Q' k ⟨d, e, h1, h2, s1, s2, q⟩ => ⟨d, e, h1, h2, s1, s2, k _ _ q⟩⟩
  rw [Bool.false_xor] at q
  exact ⟨d, e, k.dat rx h1, k.dat ry h2, s1, s2, q _ _ Ti.refl (.bl _) k⟩
theorem opw_ne (hu : X.A.units + 64 < cLine) : OpW X T (compareOp .NotEq) (oEqD true) := by
  refine ⟨OpR.weak (op_neD hu) fun x y H Q ⟨wx, wy, M, rx, ry, k, d, e, h1, h2, s1, s2, q⟩ => ?_, fun x y M Q Q' k ⟨d, e, h1, h2, s1, s2, q⟩ => ⟨d, e, h1, h2, s1, s2, k _ _ q⟩⟩
  rw [Bool.true_xor] at q
  exact ⟨d, e, k.dat rx h1, k.dat ry h2, s1, s2, q _ _ Ti.refl (.bl _) k⟩
/-! ### repr -/
def cRepr : RCw := fun l M Q => ∃ a k d, l = [.ref a] ∧ M a = some (.lst k) ∧ pures k = true ∧ d = PyData.list (datas k) ∧ d.showable = true ∧ d.hasDict = false ∧ d.depth ≤ 60 ∧ d.shown.length ≤ sizeLine ∧ Q (.str d.shown) M
theorem cw_repr (hg : X.A.guards = some []) (hu : X.A.units + 64 < cLine) : CallW X T (.builtin "repr") cRepr := by
  refine ⟨fun p s σ H xs us Q I rs ⟨ws, M, r, k, a, l, d, e, h1, h2, h3, h4, h5, h6, h7, q⟩ => ?_, fun x M Q Q' k ⟨a, l, d, e, h1, h2, h3, h4, h5, h6, h7, q⟩ => ⟨a, l, d, e, h1, h2, h3, h4, h5, h6, h7, k _ _ q⟩⟩
  subst e
  obtain ⟨v, rfl, r1⟩ := r.one_of
  obtain rfl := r1.ref_inv
  cases rs with
  | cons r2 r3 =>
    cases r3
    cases r2
    have dp : Dp X.K H (.ref a) d := k.dat (w := .ref a) (.ref a) (.inr ⟨l, h1, h2, h3.symm⟩)
    obtain ⟨as, rd⟩ := Dp.reads I d (.ref a) (.ref a) dp rfl
    refine repr_of_reads' rd h4 (fun z => by rw [h5] at z; cases z) hg (by omega) (fun _ _ z => z) (fun h' u tk hk => ?_) h7
    exact ⟨.str d.shown, H, I.kept hk, ⟨u, rfl⟩, q _ _ Ti.refl (.str _) k⟩
end
end Dw
set_option maxRecDepth 100000
set_option maxHeartbeats 4000000
/-! Dw6: sorted(xs, key=lambda x: ..): the state is carried by the invariant through the calls of the key. -/
namespace Dw
open PySem PySem.Spec PyProof.Rows L2 NdefX LamX
open PySem.W (AllAlike Sortable KeyedOut EachIs each_snoc)
section
variable {X : Cx} {pins : List (Addr × Obj)} {σ : L2.St} {H : Hp} {s : Shared}
/-- records of our own have turned -/
theorem inv_turn {h2 : Heap} {t2 : Nat} {ch : List Addr} (I : Inv X pins σ H s) (k : ∀ b o, b ∉ ch → s.heap.get? b = some o → h2.get? b = some o)
    (hf : ∀ b ∈ ch, H b = none ∧ X.s_0.heap.objs.size ≤ b ∧ b ≠ X.env.locals ∧ (∀ x c, X.env.cells.lookup x = some c → c ≠ b) ∧ ∀ p ∈ X.pn ++ pins, p.1 ≠ b) : Inv X pins σ H { s with heap := h2, toks := t2 } := by
  have nch : ∀ b u, H b = some u → b ∉ ch := fun b u e z => by rw [(hf b z).1] at e; cases e
  refine I.step (g' := s.gens) (d' := s.drawn) (ch := ch) (fun b hb => ⟨.inr (hf b hb).2.1, (hf b hb).2.2⟩) (fun b o _ _ c e _ => k b o c e) (fun b o _ _ c e _ => ⟨o.slots, k b o c e⟩) (fun _ _ _ _ n => n) (fun b o c e => ⟨o, k b o c e⟩)
    (fun _ _ e => e) (fun _ _ _ e => e) (fun b ps e => ⟨#[], by rw [e]; simp⟩) (fun m hm => ?_) (fun b u e => ?_) I.bare
  · obtain ⟨o, es, ep, ho, r⟩ := hm
    exact ⟨o, es, ep, k _ o (fun z => (hf _ z).2.2.1 rfl) ho, r⟩
  · refine (I.hok b u e).stay (fun c v hc q => k c v ?_ q) (fun _ q => q) fun _ _ q => q
    exact hc.elim (fun z => by rw [z]; exact nch b u e) fun z => nch c _ z
/-- an address behind all that the frame knew -/
structure Own (X : Cx) (pins : List (Addr × Obj)) (b : Addr) : Prop where
  new : X.s_0.heap.objs.size ≤ b
  loc : b ≠ X.env.locals
  cel : ∀ x c, X.env.cells.lookup x = some c → c ≠ b
  pin : ∀ p ∈ X.pn ++ pins, p.1 ≠ b
  nfr : b ∉ X.fs
theorem own_of (I : Inv X pins σ H s) {b : Addr} (hb : s.heap.objs.size ≤ b) : Own X pins b := by
  refine ⟨Nat.le_trans I.sz hb, Nat.ne_of_gt (Nat.lt_of_lt_of_le I.lt hb), fun x c e z => ?_, fun p hp z => ?_, I.nofs hb⟩
  · obtain ⟨v, q⟩ := I.cell x c e
    exact absurd (Nat.lt_of_lt_of_le q.lt (by rw [z]; exact hb)) (Nat.lt_irrefl _)
  · exact absurd (Nat.lt_of_lt_of_le (Heap.lt_size (I.pin p hp).1) (by rw [z]; exact hb)) (Nat.lt_irrefl _)
theorem Own.step {b : Addr} (o : Own X pins b) (h : H b = none) : H b = none ∧ X.s_0.heap.objs.size ≤ b ∧ b ≠ X.env.locals ∧ (∀ x c, X.env.cells.lookup x = some c → c ≠ b) ∧ ∀ p ∈ X.pn ++ pins, p.1 ≠ b := ⟨h, o.new, o.loc, o.cel, o.pin⟩
/-- a pin more, a pin less -/
theorem inv_unpin {p : Addr × Obj} (I : Inv X (p :: pins) σ H s) : Inv X pins σ H s := I.pins_of fun q hq => I.pin q (List.mem_append_right _ (List.mem_cons_of_mem _ hq))
theorem inv_addpin {b : Addr} {o : Obj} (I : Inv X pins σ H s) (w : Own X pins b) (e : s.heap.get? b = some o) (n : H b = none) (nc : ∀ v, o.data ≠ .cell v) : Inv X ((b, o) :: pins) σ H s :=
  I.pins_of fun q hq => (List.mem_cons.mp hq).elim (fun z => by subst z; exact ⟨e, n, w.loc, w.nfr, nc⟩) fun z => I.pin q (List.mem_append_right _ z)
theorem Own.more {b : Addr} {p : Addr × Obj} (o : Own X pins b) (h : p.1 ≠ b) : Own X (p :: pins) b := ⟨o.new, o.loc, o.cel, fun q hq => by
  rcases List.mem_append.mp hq with z | z
  · exact o.pin q (List.mem_append_left _ z)
  · rcases List.mem_cons.mp z with z | z
    · subst z; exact h
    · exact o.pin q (List.mem_append_right _ z), o.nfr⟩
end
/-- a key that is read as d -/
def KeyR (K : PySem.W.Frag) (H : Hp) (u : Value) (d : PyData) : Prop := ∃ v w, RelV v u ∧ Rep K H v w ∧ w.pure = true ∧ w.data = d
theorem KeyR.up {K : PySem.W.Frag} {H H' : Hp} {u : Value} {d : PyData} (k : KeyR K H u d) (t : Ti H H') : KeyR K H' u d := by
  obtain ⟨v, w, a, b, c⟩ := k
  exact ⟨v, w, a, b.up t, c⟩
section
variable {X : Cx} {pins : List (Addr × Obj)} {σ : L2.St} {H : Hp} {s : Shared} {A : Around} {E : Value → Shared → Prop} {J : Hp → Prop} {vs : List Value} {kz : List PyData} {f : Value}
/-- what the key's call does, at each turn -/
def KTurn (X : Cx) (pins : List (Addr × Obj)) (σ : L2.St) (A : Around) (J : Hp → Prop) (f v : Value) (d : PyData) : Prop :=
  ∀ (pn : List (Addr × Obj)) (s1 : Shared) (H1 : Hp), Inv X (pn ++ pins) σ H1 s1 → J H1 → wpAny (model X.prog X.w) A (call f [v]) (fun u s2 => ∃ H2, Inv X (pn ++ pins) σ H2 s2 ∧ J H2 ∧ Ti H1 H2 ∧ KeyR X.K H2 u d) (fun _ _ => False) s1
theorem sk_rest {a kS : Addr} {e1 : Nat} {P : PySem.Fin → Shared → Prop} (I : Inv X ((kS, seqObj "list" #[] 0) :: (a, seqObj "list" #[] e1) :: pins) σ H s) (j0 : J H) (oa : Own X pins a) (ok : Own X pins kS) (ne : kS ≠ a)
    (hl : kz.length = vs.length) (hZ : vs.length ≤ sizeLine) (hal : AllAlike kz) (hsk : Sortable kz) (hu : ∀ d, d ∈ kz → A.units + d.depth < cLine)
    (turn : ∀ (i : Nat) (v : Value) (d : PyData), vs[i]? = some v → kz[i]? = some d → KTurn X pins σ A J f v d)
    (h : ∀ H2 s2 out c, Inv X pins σ H2 s2 → J H2 → Ti H H2 → H2 a = none → s2.heap.get? a = some (seqObj "list" (List.toArray out) c) → KeyedOut false kz vs out → P (.done (.ret .none)) s2) :
    wpAny (model X.prog X.w) A (ksk_rest a f false vs.toArray e1 (.ref kS)) P E s := by
  unfold ksk_rest
  refine wpAny_bind (wpAny_rule ?_)
  rw [List.forIn_toArray]
  refine wpAny_bind (ksk_fold (fun i s2 => ∃ H2 kA e, Inv X ((kS, seqObj "list" kA e) :: (a, seqObj "list" #[] e1) :: pins) σ H2 s2 ∧ J H2 ∧ Ti H H2 ∧ EachIs (KeyR X.K H2) kA.toList (kz.take i)) vs 0 s ⟨H, #[], 0, I, j0, Ti.refl, by rw [List.take_zero]; exact .nil⟩ ?step ?done)
  case step =>
    rintro j x s1 hx ⟨H1, kA, e, I1, j1, t1, each⟩
    simp only [Nat.zero_add] at each ⊢
    have hj : j < vs.length := (List.getElem?_eq_some_iff.mp hx).1
    obtain ⟨d, hd⟩ : ∃ d, kz[j]? = some d := ⟨_, List.getElem?_eq_getElem (by omega)⟩
    have hz : kA.size ≤ vs.length := by
      have z := each.length
      rw [Array.length_toList, List.length_take] at z
      omega
    refine wpAny_bind (wpAny_attempt (wpAny_mono (turn j x d hx hd [(kS, seqObj "list" kA e), (a, seqObj "list" #[] e1)] s1 H1 I1 j1) (fun u s2 ⟨H2, I2, j2, t2, kr⟩ => ?_) fun _ _ z => z.elim))
    have I2' : Inv X ((kS, seqObj "list" kA e) :: (a, seqObj "list" #[] e1) :: pins) σ H2 s2 := I2
    obtain ⟨q1, n1, _, _, c1⟩ := I2'.pin (kS, seqObj "list" kA e) (List.mem_append_right _ List.mem_cons_self)
    have q1 : s2.heap.get? kS = some (seqObj "list" kA e) := q1
    have n1 : H2 kS = none := n1
    have sb := Heap.SameBut.update s2.heap kS (Obj.mapSeq (·.push u))
    obtain ⟨c2, hc2⟩ : ∃ c2, (s2.heap.update kS (Obj.mapSeq (·.push u))).get? kS = some (seqObj "list" (kA.push u) c2) := ⟨_, get?_update_seq q1 (·.push u)⟩
    try dsimp only
    refine wpAny_bind (listUpdate_at q1 rfl ?_ (Nat.le_trans hz hZ) (Nat.le_trans (Nat.le_of_eq (Array.size_push ..)) (Nat.succ_le_succ (Nat.le_trans hz hZ))))
    have ok2 : Own X ((a, seqObj "list" #[] e1) :: pins) kS := ok.more (Ne.symm ne)
    have I3 : Inv X ((a, seqObj "list" #[] e1) :: pins) σ H2 { s2 with heap := s2.heap.update kS (Obj.mapSeq (·.push u)), toks := s2.toks } :=
      inv_turn (ch := [kS]) (inv_unpin I2') (fun b o nb q => (sb.2 b (fun z => nb (by simp [z]))).trans q) fun b hb => by rw [List.mem_singleton.mp hb]; exact ok2.step n1
    have I4 := inv_addpin I3 ok2 hc2 n1 (fun v z => by cases z)
    refine wpAny_pure ⟨rfl, H2, kA.push u, c2, I4, j2, t1.trans t2, ?_⟩
    have ek : kz.take (j + 1) = kz.take j ++ [d] := by rw [List.take_add_one, hd]; rfl
    rw [Array.toList_push, ek]
    exact each_snoc kr (each.mono fun _ _ z => z.up t2)
  case done =>
    rintro s1 ⟨H1, kA, e, I1, j1, t1, each⟩
    rw [Nat.zero_add, List.take_of_length_le (by omega)] at each
    obtain ⟨q1, n1, _, _, _⟩ := I1.pin (kS, seqObj "list" kA e) (List.mem_append_right _ List.mem_cons_self)
    obtain ⟨q2, n2, _, _, _⟩ := I1.pin (a, seqObj "list" #[] e1) (List.mem_append_right _ (List.mem_cons_of_mem _ List.mem_cons_self))
    have q1 : s1.heap.get? kS = some (seqObj "list" kA e) := q1
    have q2 : s1.heap.get? a = some (seqObj "list" #[] e1) := q2
    have n1 : H1 kS = none := n1
    have n2 : H1 a = none := n2
    have rd : EachIs (fun u d => ∃ as, Reads s1.heap u d as) kA.toList kz := each.mono fun u d ⟨v, w, a, b, c, z⟩ => Dp.reads I1 d v u (by rw [← z]; exact Rep.dp w v c b) a
    have hsz : kA.size = vs.length := by
      have z := rd.length
      rw [Array.length_toList] at z
      omega
    try dsimp only
    refine wpAny_bind (listItems_at q1 rfl ?_)
    refine PySem.W.keyH_end (κ := PySem.W.dataKind s1.heap kz) (h₁ := PySem.W.hideAll s1.heap [kS]) (fun b o _ z => PySem.W.of_hideAll _ z) (PySem.W.hideAll_none _ List.mem_cons_self) q1 q2 ne (PySem.W.SortsAt.data (s := s1) rd hal hsk hu) hsz hZ fun h3 tk3 c k3 n3 => ?_
    have I2 : Inv X pins σ H1 { s1 with heap := h3, toks := tk3 } := inv_turn (ch := [a, kS]) (inv_unpin (inv_unpin I1)) (fun b o nb z => k3 b o (fun y => nb (by simp [y])) (PySem.W.hideAll_get _ z (fun y => nb (by simp [List.mem_singleton.mp y])))) fun b hb => by
      rcases List.mem_cons.mp hb with z | z
      · rw [z]; exact oa.step n2
      · rw [List.mem_singleton.mp z]; exact ok.step n1
    exact h H1 _ _ c I2 j1 t1 n2 n3 ⟨s1.heap, kA.toList, hal, rfl, rd⟩
/-- sorted(xs, key=f) -/
theorem sk_sorted {l q : Addr} {Q : Value → Shared → Prop} (I : Inv X pins σ H s) (j0 : J H) (hx : s.heap.IsList l vs.toArray) (hl : kz.length = vs.length) (hZ : vs.length ≤ sizeLine) (hal : AllAlike kz) (hsk : Sortable kz) (hu : ∀ d, d ∈ kz → A.units + 2 + d.depth < cLine)
    (turn : ∀ (i : Nat) (v : Value) (d : PyData), vs[i]? = some v → kz[i]? = some d → KTurn X pins σ A.in1.in1 J (.ref q) v d)
    (h : ∀ H2 s2 out c, Inv X pins σ H2 s2 → J H2 → Ti H H2 → H2 (s.heap.objs.size + 1) = none → s2.heap.get? (s.heap.objs.size + 1) = some (seqObj "list" (List.toArray out) c) → KeyedOut false kz vs out → Own X pins (s.heap.objs.size + 1) → Q (.ref (s.heap.objs.size + 1)) s2) :
    wpAny (model X.prog X.w) A (call (.builtin "sorted") [.ref l] [(Str.ofString "key", .ref q)]) Q E s := by
  refine PySem.W.sorted_of_sort hx hZ (ksk_s1 _ _) (fun x => ksk_l1 _ _) fun E' => ?_
  rw [ksk_t1]
  unfold ksk_tree
  have ho := PySem.W.copyHeap_at s.heap vs
  have oa : Own X pins (s.heap.objs.size + 1) := own_of I (Nat.le_succ _)
  have la : s.heap.objs.size + 1 < (PySem.W.copyHeap s.heap vs).objs.size := Heap.lt_size ho
  generalize hA : s.heap.objs.size + 1 = a at *
  obtain ⟨e1, ho1⟩ : ∃ e1, ((PySem.W.copyHeap s.heap vs).update a (Obj.mapSeq fun _ => (#[] : Array Value))).get? a = some (seqObj "list" #[] e1) := ⟨_, get?_update_seq ho fun _ => #[]⟩
  refine wpAny_bind (listItems_at ho rfl ?_)
  refine wpAny_bind (listUpdate_at ho rfl ?_ (by rw [List.size_toArray]; exact hZ) (Nat.zero_le _))
  refine wpAny_bind (seqEpoch_at ho1 rfl ?_)
  refine wpAny_bind (wpAny_newTuple ?_ (by show vs.length ≤ _; exact hZ))
  refine wpAny_bind (wpAny_newList ?_ (Nat.zero_le _))
  refine wpAny_holding ?_
  have sz : (((PySem.W.copyHeap s.heap vs).update a (Obj.mapSeq fun _ => (#[] : Array Value))).push (seqObj "tuple" vs.toArray 0)).objs.size = (PySem.W.copyHeap s.heap vs).objs.size + 1 := by rw [size_push', Heap.size_update]
  have ok : Own X pins (((PySem.W.copyHeap s.heap vs).update a (Obj.mapSeq fun _ => (#[] : Array Value))).push (seqObj "tuple" vs.toArray 0)).objs.size := own_of I (by rw [sz]; omega)
  have ne : (((PySem.W.copyHeap s.heap vs).update a (Obj.mapSeq fun _ => (#[] : Array Value))).push (seqObj "tuple" vs.toArray 0)).objs.size ≠ a := by rw [sz]; omega
  have I1 : Inv X pins σ H { s with heap := PySem.W.sortingHeap (PySem.W.copyHeap s.heap vs) a vs, toks := s.toks } := I.kept fun b o e => PySem.W.sortingHeap_old (Nat.ne_of_lt (Nat.lt_of_lt_of_le (Heap.lt_size e) (by omega))) (PySem.W.copyHeap_old e)
  have na : H a = none := I.hok.fresh (by omega)
  have nk : H (((PySem.W.copyHeap s.heap vs).update a (Obj.mapSeq fun _ => (#[] : Array Value))).push (seqObj "tuple" vs.toArray 0)).objs.size = none := I.hok.fresh (by rw [sz]; omega)
  have I2 := inv_addpin I1 oa (o := seqObj "list" #[] e1) (Heap.get?_push_of_some _ (Heap.get?_push_of_some _ ho1)) na (fun v z => by cases z)
  have I3 := inv_addpin I2 (ok.more (Ne.symm ne)) (o := seqObj "list" #[] 0) (Heap.get?_push_size _ rfl) nk (fun v z => by cases z)
  exact sk_rest I3 j0 oa ok ne hl hZ hal hsk (fun d hd => hu d hd) turn fun H2 s2 out c J1 J2 t n g ko => ⟨rfl, h H2 s2 out c J1 J2 t n g ko oa⟩
end
end Dw
set_option maxRecDepth 100000
set_option maxHeartbeats 4000000
/-! Dw7: a lambda as the key of sorted. -/
namespace Dw
open PySem PySem.Spec PyProof.Rows L2 NdefX LamX
open PySem.W (AllAlike Sortable KeyedOut EachIs each_snoc dataLe)
abbrev lamF (q : Str) (params : Arguments) (scope : Scope) (cl : List (Str × Addr)) (c : Addr) : NF := ⟨"<lambda>", q, params, [], scope, cl, c⟩
section
variable {X : Cx} {pins : List (Addr × Obj)} {σ : L2.St} {H : Hp} {s : Shared} {A : Around} {E : Value → Shared → Prop}
/-- a lambda is called -/
theorem lm_call {k : Nat} {f c : Addr} {q : Str} {params : Arguments} {body : Expr} {scope : Scope} {cl : List (Str × Addr)} {pm ctv : Value} {N ps fr : List Str} {ws : List (Option V)} {us : List Value} {vs : List V} {Q : VK} {t : TE} (I : Inv X pins σ H s)
    (ho : s.heap.get? f = some (PySem.W.kla_obj "<lambda>" q params body scope cl pm c ctv)) (hc : H c = some (CodeO c q)) (S : NScope N ps fr scope) (C : CellsAt cl fr ws s.heap H)
    (hb : ∀ us : List Value, us.length = ps.length → bindArgs (PySem.W.kla_fn "<lambda>" q params body scope cl pm (.ref c) ctv) ⟨us, []⟩ = pure (ps.zip us)) (room : Room (k + 1) A) (en : Env0 X.prog X.w X.K X.mg X.base A X.stack s H) (r : Vals vs us) (hl : vs.length = ps.length)
    (hbody : PE (ncx CX0 X.prog X.w X.K X.mg X.base N (lamF q params scope cl c) f A X.stack s H E0).nox body t) (want : t (startF N vs ws) H Q) : wpAny (model X.prog X.w) A (call (.ref f) us) (EP X pins σ Q) E s := by
  have lu : us.length = ps.length := by rw [← r.length]; exact hl
  have run : codeAny (model X.prog X.w) A (.call (.ref f) ⟨us, []⟩) (CR CX0 X.stack X.prog X.w H s Q E0) s := by
    refine PySem.W.kla_callFunE room.depth ho rfl S.co S.gen rfl (codeO_at I.hok hc) ?_
    rw [hb us lu]
    refine wpAny_pure (wpAny_newFunctionEnv S.nocell (fun ⟨n, _⟩ hy => S.par n (List.of_mem_zip hy).1) (fun h₁ hns hsb => ⟨I.nolimit.fresh _ hsb, ?_⟩) S.kind)
    have kp : ∀ b o, s.heap.get? b = some o → h₁.get? b = some o := fun b o e => hsb.extBut b o (Nat.ne_of_lt (Heap.lt_size e)) (Heap.get?_push_of_some _ e)
    have J : Inv (ncx CX0 X.prog X.w X.K X.mg X.base N (lamF q params scope cl c) f A X.stack s H E0) [] (startF N vs ws) H { s with heap := h₁, toks := s.toks + (ps.zip us).length } := inv_startN (F := lamF q params scope cl c) S room.hd en hl r C hns kp
    refine PySem.W.kla_codeExpr (wpAny_mono (hbody.nox.run [] _ _ H Q J want) (fun v s2 ⟨w2, H2, J2, rv, q2⟩ => ?_) fun e s2 h2 => h2)
    exact ⟨w2, H2, J2.os, J2.bare, J2.base, J2.hok, rv, q2⟩
  refine wpAny_call (codeAny_mono run fun o s2 hq => ?_)
  match o, hq with
  | .ok (.ret u), hq => exact I.after hq
end
/-! ### at the data level -/
def capW (Γ : Env) (js : List Nat) : Env := js.map fun j => (Γ[j]?).join
def lamW (N : List Str) (xs : List W) (cs : Env) : Env := xs.map some ++ (cs ++ List.replicate (N.length - xs.length - cs.length) none)
abbrev tabs (T : List (Addr × Str)) : List NTab := T.map fun p => (p.1, fun _ _ => p.2)
theorem tabs_iff {T : List (Addr × Str)} {H : Hp} : TabsN (tabs T) H ↔ Tabs T H :=
  ⟨fun h p hp => TabN.to (h (p.1, fun _ _ => p.2) (List.mem_map.mpr ⟨p, hp, rfl⟩)), fun h p hp => by
    obtain ⟨q, hq, rfl⟩ := List.mem_map.mp hp
    exact TabN.of (h q hq)⟩
theorem lam_rel {K : PySem.W.Frag} {T : List NTab} {σ : L2.St} {H H0 : Hp} {Γ : Env} {M M0 : Mh} {N : List Str} {vs : List V} {xs : List W} {js : List Nat} (R : Rel K T σ H0 Γ M0) (t : Ti H0 H) (r : Reps K H vs xs) (k : Ok K T H M) :
    Rel K T (startF N vs (js.map (slotAt σ))) H (lamW N xs (capW Γ js)) M := by
  have e := r.len
  refine ⟨fun i u h => ?_, by unfold startF lamW capW; simp [e], k⟩
  unfold lamW at h
  unfold startF
  by_cases hi : i < xs.length
  · rw [List.getElem?_append_left (by simpa using hi), List.getElem?_map] at h
    cases q : xs[i]? with
    | none => rw [q] at h; cases h
    | some x =>
      rw [q] at h
      cases h
      obtain ⟨v, a, b⟩ := r.get q
      exact ⟨v, by rw [List.getElem?_append_left (by simpa [e] using hi), List.getElem?_map, a]; rfl, b⟩
  · rw [List.getElem?_append_right (by simpa using hi), List.length_map] at h
    have e2 : (vs.map some).length = xs.length := by rw [List.length_map, e]
    rw [List.getElem?_append_right (by rw [e2]; omega), e2]
    by_cases h2 : i - xs.length < js.length
    · rw [List.getElem?_append_left (by simpa [capW] using h2)] at h
      rw [List.getElem?_append_left (by simpa using h2)]
      unfold capW at h
      rw [List.getElem?_map] at h ⊢
      cases q : js[i - xs.length]? with
      | none => rw [q] at h; cases h
      | some j =>
        rw [q] at h
        have h : (Γ[j]?).join = some u := Option.some.inj h
        cases q2 : Γ[j]? with
        | none => rw [q2] at h; cases h
        | some o =>
          rw [q2] at h
          have h : o = some u := h
          subst h
          obtain ⟨v, a, b⟩ := R.env j u q2
          exact ⟨v, by show some (slotAt σ j) = some (some v); rw [slotAt_of a], b.up t⟩
    · rw [List.getElem?_append_right (by simpa [capW] using h2), List.getElem?_replicate] at h
      split at h <;> cases h
/-- sorted(e, key=lambda x: b) -/
def sortRest (N : List Str) (js : List Nat) (tb : TEw) (Γ : Env) (Q : WK) : WK := fun w M1 => ∃ (l : List W) (ks : List PyData), itemsL M1 w l ∧ ks.length = l.length ∧ AllAlike ks ∧ Sortable ks ∧ (∀ d, d ∈ ks → d.depth ≤ 60) ∧
  (∀ (i : Nat) (x : W) (d : PyData), l[i]? = some x → ks[i]? = some d → tb (lamW N [x] (capW Γ js)) M1 fun y M2 => Sub M1 M2 ∧ y.pure = true ∧ y.data = d) ∧
  ∀ p, M1 p = none → Q (.ref p) (updM M1 p (.lst (((l.zip ks).mergeSort (dataLe false Prod.snd)).map Prod.fst)))
def wSortK (N : List Str) (js : List Nat) (te tb : TEw) : TEw := fun Γ M Q => te Γ M (sortRest N js tb Γ Q)
theorem each_reps {K : PySem.W.Frag} {H : Hp} {B : Type} {g : B → W} : ∀ {us : List Value} {bs : List B}, EachIs (fun u b => ∃ v, RelV v u ∧ Rep K H v (g b)) us bs → ∃ vs, Vals vs us ∧ Reps K H vs (bs.map g)
  | _, _, .nil => ⟨[], .nil, .nil⟩
  | _, _, .cons ⟨v, a, b⟩ t => by
    obtain ⟨vs, c, d⟩ := each_reps t
    exact ⟨v :: vs, .cons a c, .cons b d⟩
theorem reps_each {K : PySem.W.Frag} {H : Hp} : ∀ {vs : List V} {us : List Value} {ws : List W} {ks : List PyData}, Vals vs us → Reps K H vs ws → ks.length = ws.length → EachIs (fun u (b : W × PyData) => ∃ v, RelV v u ∧ Rep K H v b.1) us (ws.zip ks)
  | _, _, [], ks, a, b, e => by cases b; cases a; exact .nil
  | _, _, w :: ws, [], a, b, e => by simp at e
  | _, _, w :: ws, k :: ks, a, b, e => by
    cases b with
    | cons b1 b2 =>
      cases a with
      | cons a1 a2 => exact .cons ⟨_, a1, b1⟩ (reps_each a2 b2 (by simpa using e))
section
variable {X : Cx}
theorem ew_sortK {T : List (Addr × Str)} {c P : Addr} {e body : Expr} {te tb : TEw} {params : Arguments} {scope : Scope} {N fr : List Str} {x : Str} {js : List Nat} {k : Nat} {p1 pos lpos kpos : Pos} (TB : TabB X.base X.mg c P) (hcode : X.env.code = .ref c) (hmT : (P, X.env.qual ++ "<lambda>") ∈ T)
    (hu : ∀ p ∈ T, p.1 = P → p.2 = X.env.qual ++ "<lambda>") (hr : Room (k + 3) X.A) (hG : X.A.guards = some []) (hg : Gl X "sorted") (hm : X.mg "sorted" = none) (S : NScope N [x] fr scope) (hfree : ndefB X.env.scope scope fr = true) (hjs : js.map (fun j => X.N[j]?) = fr.map some) (hdef : defaultsOf params X.env = ([], []))
    (hbind : ∀ (q : Str) (cl : List (Str × Addr)) (pm cv ctv : Value) (us : List Value), us.length = [x].length → bindArgs (PySem.W.kla_fn "<lambda>" q params body scope cl pm cv ctv) ⟨us, []⟩ = pure ([x].zip us))
    (he : EW X (tabs T) e te) (hb : ∀ (A : Around) (s : Shared) (H : Hp) (f c' : Addr), Room k (A.deeper (envF (lamF (X.env.qual ++ "<lambda>") params scope (cloFrom X.env.cells scope.names []) c') f s.heap.objs.size)) → A.guards = some [] →
      EW (ncx CX0 X.prog X.w X.K X.mg X.base N (lamF (X.env.qual ++ "<lambda>") params scope (cloFrom X.env.cells scope.names []) c') f A X.stack s H E0).nox (tabs T) body tb) (mb : MonE tb)
    (hs : starEach [e] X.env = (false, eval e X.env) :: starEach [] X.env := by rfl) (hbt : backTo pos (starEach [e] X.env) = (false, eval e X.env) :: backTo pos (starEach [] X.env) := by rfl) (hpl : (backTo pos (starEach [e] X.env)).any (·.1) = false := by rfl) :
    EW X (tabs T) (.Call (.Name "sorted" p1) [e] [⟨some "key", .Lambda params body scope lpos, kpos⟩] pos) (wSortK N js te tb) := by
  have mo : MonE (wSortK N js te tb) := fun Γ M Q Q' m q => he.mo _ _ _ _ (fun w M1 ⟨l, ks, h1, h2, h3, h4, h5, h6, h7⟩ => ⟨l, ks, h1, h2, h3, h4, h5, h6, fun p hp => m _ _ (h7 p hp)⟩) q
  refine ⟨⟨fun pins s σ H Q I ⟨Γ, M, R, q⟩ => ?_⟩, mo⟩
  have free2 : ∀ y ∈ scope.names, y.2 = .free → ∃ a, X.env.cells.lookup y.1 = some a := fun y hy z => (ndef_free hfree y hy z).elim (fun u => I.ok.has _ (.inl u)) fun u => I.ok.has _ (.inr u)
  refine wpAny_Call_Name_kw (ld_blt I hg hm boot_sorted (PyProof.Rows.callWith_kw (thn ((pa_cons he.pe pa_nil hs).run pos pins s σ H (fun vs H1 => ∃ v, vs = [v] ∧ ∃ w M1, Rep X.K H1 v w ∧ Ti H H1 ∧ Rel X.K (tabs T) σ H1 Γ M1 ∧ sortRest N js tb Γ (liQ X.K (tabs T) σ H Γ Q) w M1) I ⟨Γ, M, R, he.mo _ _ _ _ (fun w M1 z v H1 t1 r1 R1 => ⟨v, rfl, w, M1, r1, t1, R1, z⟩) q⟩)
    fun us s1 ⟨vs, H1, I1, r1, v, ev, w, M1, rw1, t1, R1, l, ks, h1, h2, h3, h4, h5, h6, h7⟩ => ?_) hbt hpl rfl rfl) (by decide) (by decide))
  subst ev
  obtain ⟨u, rfl, ru⟩ : ∃ u, us = [u] ∧ RelV v u := by cases r1 with | cons a b => cases b; exact ⟨_, rfl, a⟩
  refine wpAny_evalAll_cons (wpAny_bind (lam_make2 I1 TB hcode hmT hu (tabs_iff.mp R1.ok.tab) hdef free2 fun f c' pm ctv H2 s2 I2 eN T2 hf hfn hfr hco => wpAny_bind (wpAny_standAt (wpAny_pure (wpAny_evalAll_nil ?_)))))
  have t2 : Ti H1 H2 := Ti.ext eN
  have R2 : Rel X.K (tabs T) σ H2 Γ M1 := R1.up t2 (R1.ok.ext eN (tabs_iff.mpr T2))
  obtain ⟨a, xs, rfl, sq, rs⟩ := R2.ok.items (rw1.up t2) h1
  obtain rfl : u = Value.ref a := ru
  obtain ⟨its, rv, pl, hz⟩ := I2.list sq
  have il : its.length = l.length := by rw [← rv.length, rs.len]
  have I3 : Inv X ((f, PySem.W.kla_obj "<lambda>" (X.env.qual ++ "<lambda>") params body scope (cloFrom X.env.cells scope.names []) pm c' ctv) :: pins) σ H2 s2 := by
    refine I2.pins_of fun p hp => (List.mem_cons.mp hp).elim (fun z => ?_) fun z => I2.pin p (List.mem_append_right _ z)
    subst z
    refine ⟨hf, hfn, fun z => ?_, fun z => hfr ?_, fun v z => by cases z⟩
    · obtain ⟨m, ⟨o, es, ep, ho, hd, _⟩, _⟩ := I2.loc
      have z : f = X.env.locals := z
      rw [z, ho] at hf
      cases hf
      cases hd
    · rcases I2.ok.stk with e | ⟨e, hfm⟩
      · rw [e]; exact z
      · rw [e]; unfold frs; rw [List.filterMap_cons, hfm]; exact List.mem_cons_of_mem _ z
  have hun := hr.units
  show wpAny _ _ (call (.builtin "sorted") [.ref a] [(Str.ofString "key", .ref f)]) _ _ s2
  refine sk_sorted (kz := ks) (vs := its) (J := fun H3 => Ti H2 H3 ∧ Ok X.K (tabs T) H3 M1) I3 ⟨Ti.refl, R2.ok⟩ pl.isList (by rw [il]; exact h2) (by rw [← rv.length]; exact hz) h3 h4 (fun d hd => by have := h5 d hd; omega) (fun i v d hv hd pn s3 H3 I4 ⟨t3, k3⟩ => ?_) fun H3 s3 out c3 I4 ⟨t3, k3⟩ _ n3 g3 ko ow => ?_
  · have hi : i < xs.length := by rw [rv.length]; exact (List.getElem?_eq_some_iff.mp hv).1
    obtain ⟨v2, e2, rv2⟩ := rv.get (List.getElem?_eq_getElem hi)
    rw [hv] at e2
    cases e2
    obtain ⟨x2, ex, rx⟩ := rs.get' (List.getElem?_eq_getElem hi)
    have hpin := (I4.pin (f, PySem.W.kla_obj "<lambda>" (X.env.qual ++ "<lambda>") params body scope (cloFrom X.env.cells scope.names []) pm c' ctv) (List.mem_append_right _ (List.mem_append_right _ List.mem_cons_self))).1
    have room : Room (k + 1) X.A.in1.in1 := hr.in1.in1
    refine wpAny_mono (lm_call (Q := fun y H4 => (Ti H2 H4 ∧ Ok X.K (tabs T) H4 M1) ∧ Ti H3 H4 ∧ ∃ z, Rep X.K H4 y z ∧ z.pure = true ∧ z.data = d) I4 hpin (t3.x c' _ hco) S (cells_of I4 (Caps.made I4.ok (ndef_free hfree) (ndef_fr hfree) hjs)) (fun us => hbind _ _ _ _ _ us) room I4.env0.in1.in1 (.cons rv2 .nil) rfl (hb _ s3 H3 f c' (room.deeper _) hG).pe ?_)
      (fun y s4 ⟨y2, H4, I5, ry, z1, z2, z3, z4, z5⟩ => ⟨H4, I5, z1, z2, y2, z3, ry, z4, z5⟩) fun _ _ z => z
    exact ⟨_, M1, lam_rel R2 t3 (Reps.one (rx.up t3)) k3, mb _ _ _ _ (fun y M2 ⟨sb, py, dy⟩ v3 H4 t4 r4 R4 => ⟨⟨t3.trans t4, R4.ok.sub sb⟩, t4, y, r4, py, dy⟩) (h6 i x2 d ex hd)⟩
  · have e3 : (l.zip ks).map Prod.snd = ks := List.map_snd_zip (by omega)
    have ko2 : KeyedOut false ((l.zip ks).map Prod.snd) its out := by rw [e3]; exact ko
    obtain ⟨zs, rz, rp⟩ := each_reps (g := Prod.fst) (PySem.W.keyedOut_each Prod.snd ko2 (reps_each rv (rs.up t3) h2))
    have hn := k3.noM n3
    have I5 : Inv X pins σ H3 s3 := inv_unpin I4
    have lz : zs.length ≤ sizeLine := by
      rw [rp.len, List.length_map, List.length_mergeSort, List.length_zip, h2, Nat.min_self, ← rs.len]
      exact hz
    have I6 : Inv X pins σ (upd H3 (s2.heap.objs.size + 1) (.lst zs)) s3 := Inv.take (h' := s3.heap) (t' := s3.toks) I5 (fun b ob _ e => e) ⟨n3, ow.loc, ow.nfr, .inr ow.new, ow.cel, fun p hp => ow.pin p (by
      rcases List.mem_append.mp hp with z | z
      · exact List.mem_append_left _ z
      · exact List.mem_append_right _ (List.mem_cons_of_mem _ z))⟩ ⟨lz, out, c3, rz, g3⟩
    exact ⟨.ref _, _, I6, rfl, h7 _ hn _ _ (((t1.trans t2).trans t3).trans (Ti.new n3)) (.ref _) (R2.up (t3.trans (Ti.new n3)) (k3.newL n3 rp))⟩
end
end Dw
set_option maxRecDepth 100000
set_option maxHeartbeats 4000000
/-! Dk: dicts whose keys are None, whole numbers, texts, tuples of these, mixed: find, get, set. -/
namespace Dk
open PySem SeqAt
abbrev KEnt := NestedKey × Value × Value
def ent (w : World) (x : KEnt) : DictEntry := ⟨x.1.hash w, x.2.1, x.2.2⟩
structure Keys (h : Heap) (xs : List KEnt) : Prop where
  is : ∀ x ∈ xs, NestedIs h x.1 x.2.1 ∧ x.1.depth ≤ 8
  nd : (xs.map (·.1)).Nodup
section
variable {prog : Program} {w : World} {A : Around} {E : Value → Shared → Prop} {s : Shared} {es : Array DictEntry} {xs : List KEnt} {k : NestedKey} {key : Value} {d : Addr} {o : Obj} {ep : Nat}
theorem ent_at (he : es.toList = xs.map (ent w)) (j : Nat) : es[j]? = (xs[j]?).map (ent w) := by rw [← Array.getElem?_toList, he, List.getElem?_map]
theorem ent_sz (he : es.toList = xs.map (ent w)) : es.size = xs.length := by rw [← Array.length_toList, he, List.length_map]
theorem one_place (n : (xs.map (·.1)).Nodup) {i j : Nat} {p q : Value × Value} (hi : xs[i]? = some (k, p)) (hj : xs[j]? = some (k, q)) : i = j := by
  have a : (xs.map (·.1))[i]? = some k := by rw [List.getElem?_map, hi]; rfl
  have b : (xs.map (·.1))[j]? = some k := by rw [List.getElem?_map, hj]; rfl
  exact (List.getElem?_inj (List.getElem?_eq_some_iff.mp a).1 n).mp (a.trans b.symm)
/-- what the walk over the places of one hash has seen ahead of place i -/
def Seen (w : World) (es : Array DictEntry) (xs : List KEnt) (k : NestedKey) (i : Nat) (rest : List Nat) : Prop :=
  rest = (List.range' i (es.size - i)).filter (fun i => (es[i]?.map (·.hash)) == some (k.hash w)) ∧ i ≤ es.size
theorem seen_start : Seen w es xs k 0 (placesWithHash es.size (fun i => es[i]?.map (·.hash)) (k.hash w)) := ⟨by rw [placesWithHash, List.range_eq_range', Nat.sub_zero], Nat.zero_le _⟩
theorem seen_cons {i x : Nat} {rest : List Nat} (he : es.toList = xs.map (ent w)) (h : Seen w es xs k i (x :: rest)) : i ≤ x ∧ x < xs.length ∧ Seen w es xs k (x + 1) rest ∧ (∀ (j : Nat) (p : Value × Value), i ≤ j → j < x → xs[j]? ≠ some (k, p)) ∧ ∃ k2 a v, xs[x]? = some (k2, a, v) ∧ es[x]? = some ⟨k2.hash w, a, v⟩ := by
  obtain ⟨a, b, c, e, f⟩ := filter_range'_cons _ _ _ _ _ h.1.symm
  have sz := ent_sz he
  have hx : x < xs.length := by omega
  refine ⟨a, hx, ⟨by rw [f]; congr 2; omega, by omega⟩, fun j p h1 h2 h3 => ?_, _, _, _, List.getElem?_eq_getElem hx, ?_⟩
  · have z := e j h1 h2
    rw [ent_at he j, h3] at z
    simp [ent] at z
  · rw [ent_at he x, List.getElem?_eq_getElem hx]; rfl
theorem seen_nil {i : Nat} (he : es.toList = xs.map (ent w)) (h : Seen w es xs k i []) : ∀ (j : Nat) (p : Value × Value), i ≤ j → xs[j]? ≠ some (k, p) := fun j p h1 h3 => by
  have hj := (List.getElem?_eq_some_iff.mp h3).1
  have sz := ent_sz he
  have z := List.filter_eq_nil_iff.mp h.1.symm j (List.mem_range'_1.mpr ⟨h1, by omega⟩)
  rw [ent_at he j, h3] at z
  simp [ent] at z
theorem eq_each (hu : A.units + 8 < cLine) (hk : NestedIs s.heap k key) (K : Keys s.heap xs) {x : KEnt} (hx : x ∈ xs) : EqAt A s x.2.1 key (decide (x.1 = k)) := by
  rw [NestedKey.decide_eq]
  exact eqAt_key x.1 k A s _ _ (K.is x hx).1 hk (by have := (K.is x hx).2; omega)
theorem walk_plain {Q : Option Nat → Shared → Prop} (hu : A.units + 8 < cLine) (hk : NestedIs s.heap k key) (ho : s.heap.get? d = some o) (hd : o.data = .dict es ep) (he : es.toList = xs.map (ent w)) (K : Keys s.heap xs)
    (no : (∀ (j : Nat) (p : Value × Value), xs[j]? ≠ some (k, p)) → Q none s) (yes : ∀ (j : Nat) (p : Value × Value), xs[j]? = some (k, p) → Q (some j) s) :
    wpAny (model prog w) A (dictWalkPlain d key (k.hash w) es (placesWithHash es.size (fun i => es[i]?.map (·.hash)) (k.hash w))) Q E s := by
  unfold dictWalkPlain
  refine wpAny_bind ?_
  refine wpAny_forIn_list _ (fun rest b s' => s' = s ∧ b = (none, ()) ∧ ∃ i, Seen w es xs k i rest ∧ ∀ (j : Nat) (p : Value × Value), j < i → xs[j]? ≠ some (k, p)) _ ?_ ?_ _ _ ⟨rfl, rfl, 0, seen_start, fun _ _ z => absurd z (Nat.not_lt_zero _)⟩
  · rintro x rest b s' ⟨rfl, rfl, i, sn, ahead⟩
    obtain ⟨h1, h2, h3, h4, k2, a, v, h5, h6⟩ := seen_cons he sn
    have far : k2 ≠ k → ∀ (j : Nat) (p : Value × Value), j < x + 1 → xs[j]? ≠ some (k, p) := fun ne j p hj z => by
      rcases Nat.lt_or_ge j i with q | q
      · exact ahead j p q z
      · rcases Nat.lt_or_ge j x with q2 | q2
        · exact h4 j p q q2 z
        · obtain rfl : j = x := by omega
          rw [h5] at z
          cases z
          exact ne rfl
    rw [h6]
    dsimp only
    by_cases hh : (k2.hash w == k.hash w) = true
    · rw [if_pos hh]
      refine wpAny_bind (wpAny_dictEpoch ho hd (wpAny_bind (eq_each hu hk K (List.mem_of_getElem? h5) _ _ _ _ (wpAny_bind (wpAny_dictEpoch ho hd ?_)))))
      show wpAny _ _ (if (ep != ep) = true then _ else _) _ E _
      rw [if_neg (by simp)]
      by_cases hkk : k2 = k
      · rw [decide_eq_true hkk]
        subst hkk
        exact wpAny_bind (wpAny_rule (wpAny_pure (wpAny_pure (yes x _ h5))))
      · rw [decide_eq_false hkk]
        exact wpAny_bind (wpAny_rule (wpAny_pure ⟨rfl, rfl, x + 1, h3, far hkk⟩))
    · rw [if_neg hh]
      exact wpAny_pure ⟨rfl, rfl, x + 1, h3, far fun z => hh (by rw [z]; simp)⟩
  · rintro b s' ⟨rfl, rfl, i, sn, ahead⟩
    exact wpAny_pure (no fun j p z => by
      rcases Nat.lt_or_ge j i with q | q
      · exact ahead j p q z
      · exact seen_nil he sn j p q z)
theorem quiet_all {stored : List Value} {Q : Bool → Shared → Prop} (hk : NestedIs s.heap k key) (kd : k.depth ≤ 8) (hs : ∀ v ∈ stored, ∃ k2, NestedIs s.heap k2 v ∧ k2.depth ≤ 8) (h : Q false s) : wpAny (model prog w) A (tableMayTell key stored) Q E s := by
  unfold tableMayTell
  split
  · exact wpAny_pure h
  · refine wpAny_bind (quiet_key k key 8 s hk kd A E _ ?_)
    simp only [Bool.not_true, Bool.false_eq_true, if_false]
    refine wpAny_bind ?_
    refine wpAny_forIn_list _ (fun rest r t => t = s ∧ r = (none, ()) ∧ ∀ v ∈ rest, ∃ k2, NestedIs s.heap k2 v ∧ k2.depth ≤ 8) _ ?_ ?_ _ _ ⟨rfl, rfl, hs⟩
    · rintro x rest r t ⟨rfl, rfl, hr⟩
      obtain ⟨k2, a, b⟩ := hr x List.mem_cons_self
      refine wpAny_bind (quiet_key k2 x 8 _ a b A E _ ?_)
      simp only [Bool.not_true, Bool.false_eq_true, if_false]
      exact wpAny_pure ⟨rfl, rfl, fun v hv => hr v (List.mem_cons_of_mem _ hv)⟩
    · rintro r t ⟨rfl, rfl, _⟩
      exact wpAny_pure h
theorem by_value {Q : Option Nat → Shared → Prop} {x : Str} {t : Tok} (hu : A.units + 8 < cLine) (hk : NestedIs s.heap (NestedKey.text x) (.str x t)) (ho : s.heap.get? d = some o) (hd : o.data = .dict es ep) (he : es.toList = xs.map (ent w)) (K : Keys s.heap xs)
    (hall : (es.all fun e => isExactStrKey e.key) = true) (no : (∀ (j : Nat) (p : Value × Value), xs[j]? ≠ some (NestedKey.text x, p)) → Q none s) (yes : ∀ (j : Nat) (p : Value × Value), xs[j]? = some (NestedKey.text x, p) → Q (some j) s) :
    wpAny (model prog w) A (foundByValue d (.str x t) es x) Q E s := by
  have sz := ent_sz he
  have isx : ∀ (j : Nat) (hj : j < es.size) (k2 : NestedKey) (a v : Value), xs[j]? = some (k2, a, v) → (es[j].key.isStr x = true ↔ k2 = .text x) := fun j hj k2 a v hx => by
    have e1 := ent_at he j
    rw [Array.getElem?_eq_getElem hj, hx] at e1
    have e2 : es[j] = ⟨k2.hash w, a, v⟩ := Option.some.inj e1
    have e3 := Array.all_eq_true.mp hall j hj
    rw [e2] at e3 ⊢
    have hi := (K.is _ (List.mem_of_getElem? hx)).1
    dsimp only at e3 ⊢
    cases hi with
    | none => cases e3
    | bool e => cases e3
    | int i t => cases e3
    | tup h1 h2 h3 h4 => cases e3
    | text y u => simp [Value.isStr]
  unfold foundByValue
  cases hf : es.findIdx? (fun e => e.key.isStr x) with
  | none =>
    refine wpAny_pure (no fun j p z => ?_)
    have hj : j < es.size := by rw [sz]; exact (List.getElem?_eq_some_iff.mp z).1
    have q := Array.findIdx?_eq_none_iff.mp hf es[j] (Array.getElem_mem hj)
    rw [(isx j hj _ p.1 p.2 z).mpr rfl] at q
    cases q
  | some i =>
    obtain ⟨hlt, hi, _⟩ := Array.findIdx?_eq_some_iff_getElem.mp hf
    have hx : i < xs.length := by omega
    obtain ⟨⟨k2, a, v⟩, h5⟩ : ∃ y, xs[i]? = some y := ⟨_, List.getElem?_eq_getElem hx⟩
    have kk : k2 = .text x := (isx i hlt k2 a v h5).mp hi
    have h6 : es[i]? = some ⟨k2.hash w, a, v⟩ := by rw [ent_at he i, h5]; rfl
    dsimp only
    rw [h6]
    dsimp only
    refine wpAny_bind (wpAny_dictEpoch ho hd (wpAny_bind (eq_each hu hk K (List.mem_of_getElem? h5) _ _ _ _ (wpAny_bind (wpAny_dictEpoch ho hd ?_)))))
    show wpAny _ _ (if (ep != ep) = true then _ else _) _ E _
    rw [if_neg (by simp), decide_eq_true kk]
    subst kk
    exact wpAny_bind (wpAny_rule (wpAny_pure (yes i _ h5)))
/-- the walk that asks on behind a hit -/
def WI (w : World) (es : Array DictEntry) (xs : List KEnt) (k : NestedKey) (rest : List Nat) (b : Option (Option Nat) × Option Nat) : Prop :=
  ∃ i hit, b = (none, hit) ∧ Seen w es xs k i rest ∧ ((hit = none ∧ ∀ (j : Nat) (p : Value × Value), j < i → xs[j]? ≠ some (k, p)) ∨ ∃ j p, hit = some j ∧ j < i ∧ xs[j]? = some (k, p))
theorem wi_start : WI w es xs k (placesWithHash es.size (fun i => es[i]?.map (·.hash)) (k.hash w)) (none, none) := ⟨0, none, rfl, seen_start, .inl ⟨rfl, fun _ _ z => absurd z (Nat.not_lt_zero _)⟩⟩
theorem ff_and {c : Bool} : ¬ (false && c) = true := fun z => Bool.noConfusion (show false = true from z)
theorem find {Q : Option Nat → Shared → Prop} (hu : A.units + 8 < cLine) (hk : NestedIs s.heap k key) (kd : k.depth ≤ 8) (ho : s.heap.get? d = some o) (hd : o.data = .dict es ep) (he : es.toList = xs.map (ent w)) (K : Keys s.heap xs)
    (no : (∀ (j : Nat) (p : Value × Value), xs[j]? ≠ some (k, p)) → Q none s) (yes : ∀ (j : Nat) (p : Value × Value), xs[j]? = some (k, p) → Q (some j) s) : wpAny (model prog w) A (dictFind d key (k.hash w)) Q E s := by
  have plain := walk_plain (prog := prog) (E := E) hu hk ho hd he K no yes
  have hk0 := hk
  have hst : ∀ v ∈ (placesWithHash es.size (fun i => es[i]?.map (·.hash)) (k.hash w)).filterMap (fun i => es[i]?.map (·.key)), ∃ k2, NestedIs s.heap k2 v ∧ k2.depth ≤ 8 := by
    intro v hv
    obtain ⟨i, _, hi⟩ := List.mem_filterMap.mp hv
    rw [ent_at he i] at hi
    cases hx : xs[i]? with
    | none => rw [hx] at hi; cases hi
    | some x =>
      rw [hx] at hi
      have hi : some x.2.1 = some v := hi
      cases hi
      exact ⟨x.1, K.is x (List.mem_of_getElem? hx)⟩
  have hany : ∀ a, key = .ref a → ¬ (es.any fun e => e.key == key && e.hash != k.hash w) = true := by
    rintro a rfl hc
    rw [← Array.any_toList, List.any_eq_true] at hc
    obtain ⟨e, hin, hc⟩ := hc
    rw [he] at hin
    obtain ⟨x, hx, rfl⟩ := List.mem_map.mp hin
    simp only [ent, Bool.and_eq_true, beq_iff_eq, bne_iff_ne, ne_eq] at hc
    have hi := (K.is x hx).1
    rw [hc.1] at hi
    exact hc.2 (by rw [NestedIs.inj _ _ _ hi hk])
  by_cases hS : ∃ x t, key = .str x t ∧ (es.all fun e => isExactStrKey e.key) = true
  · obtain ⟨x, t, rfl, hS⟩ := hS
    unfold dictFind
    try with_reducible refine wpAny_holding ?_
    refine wpAny_bind (wpAny_dictEntries ho hd ?_)
    dsimp only
    rw [if_pos hS]
    cases hk
    exact by_value hu hk0 ho hd he K hS no yes
  have hS2 : ∀ x t, key = .str x t → ¬ (es.all fun e => isExactStrKey e.key) = true := fun x t e h => hS ⟨x, t, e, h⟩
  by_cases hV : ((key :: (placesWithHash es.size (fun i => es[i]?.map (·.hash)) (k.hash w)).filterMap (fun i => es[i]?.map (·.key))).all carriedByValue) = true
  · unfold dictFind
    try with_reducible refine wpAny_holding ?_
    refine wpAny_bind (wpAny_dictEntries ho hd ?_)
    cases hk <;> dsimp only
    case text => rw [if_neg (hS2 _ _ rfl), if_pos hV]; exact plain
    all_goals rw [if_pos hV]; exact plain
  have turn : ∀ (x : Nat) (rest : List Nat) (i : Nat) (hit : Option Nat), Seen w es xs k i (x :: rest) → ((hit = none ∧ ∀ (j : Nat) (p : Value × Value), j < i → xs[j]? ≠ some (k, p)) ∨ ∃ j p, hit = some j ∧ j < i ∧ xs[j]? = some (k, p)) →
      ∃ k2 a v, xs[x]? = some (k2, a, v) ∧ es[x]? = some ⟨k2.hash w, a, v⟩ ∧ Seen w es xs k (x + 1) rest ∧ (k2 = k → hit = none) ∧ (k2 ≠ k → ((hit = none ∧ ∀ (j : Nat) (p : Value × Value), j < x + 1 → xs[j]? ≠ some (k, p)) ∨ ∃ j p, hit = some j ∧ j < x + 1 ∧ xs[j]? = some (k, p))) := by
    intro x rest i hit sn hH
    obtain ⟨h1, h2, h3, h4, k2, a, v, h5, h6⟩ := seen_cons he sn
    refine ⟨k2, a, v, h5, h6, h3, fun e => ?_, fun ne => ?_⟩
    · rcases hH with ⟨z, _⟩ | ⟨j, p, _, z1, z2⟩
      · exact z
      · rw [e] at h5
        have := one_place K.nd z2 h5
        omega
    · rcases hH with ⟨z, ahead⟩ | ⟨j, p, z, z1, z2⟩
      · refine .inl ⟨z, fun j p hj y => ?_⟩
        rcases Nat.lt_or_ge j i with q | q
        · exact ahead j p q y
        · rcases Nat.lt_or_ge j x with q2 | q2
          · exact h4 j p q q2 y
          · obtain rfl : j = x := by omega
            rw [h5] at y
            cases y
            exact ne rfl
      · exact .inr ⟨j, p, z, by omega, z2⟩
  obtain ⟨k0, ek⟩ : ∃ k0, k0 = k := ⟨k, rfl⟩
  by_cases hone : ((placesWithHash es.size (fun i => es[i]?.map (·.hash)) (k.hash w)).filterMap (fun i => es[i]?.map (·.key)) == [key]) = true <;> (
    unfold dictFind
    try with_reducible refine wpAny_holding ?_
    refine wpAny_bind (wpAny_dictEntries ho hd ?_)
    cases hk <;> dsimp only <;> (
      first | rw [if_neg (hS2 _ _ rfl), if_neg hV] | rw [if_neg hV, if_neg (hany _ rfl)] | rw [if_neg hV]
      first | rw [if_pos hone] | rw [if_neg hone]
      first | refine wpAny_bind (wpAny_pure ?_) | refine wpAny_bind (quiet_all hk0 kd hst ?_)
      rw [if_neg ff_and]
      refine wpAny_bind ?_
      refine wpAny_forIn_list _ (fun rest b s' => s' = s ∧ WI w es xs _ rest b) _ ?_ ?_ _ _ ⟨rfl, wi_start⟩
      · rintro x rest b s' ⟨rfl, i, hit, rfl, sn, hH⟩
        obtain ⟨k2, a, v, h5, h6, h3, hsame, hother⟩ := turn x rest i hit sn hH
        rw [h6]
        dsimp only
        by_cases hh : (k2.hash w == k0.hash w) = true <;> rw [ek] at hh
        · rw [if_pos hh]
          refine wpAny_bind (wpAny_dictEpoch ho hd (wpAny_bind (eq_each hu hk0 K (List.mem_of_getElem? h5) _ _ _ _ (wpAny_bind (wpAny_dictEpoch ho hd ?_)))))
          show wpAny _ _ (if (ep != ep) = true then _ else _) _ E _
          rw [if_neg (by simp)]
          by_cases hkk : k2 = k0 <;> rw [ek] at hkk
          · rw [decide_eq_true hkk]
            have z := hsame hkk
            subst z
            subst hkk
            try dsimp only
            rw [if_pos rfl, if_neg (show ¬ (Option.none : Option Nat).isSome = true from Bool.false_ne_true)]
            refine wpAny_bind (wpAny_rule ?_)
            split
            · exact wpAny_pure (wpAny_pure (yes x _ h5))
            · exact wpAny_pure ⟨rfl, x + 1, some x, rfl, h3, .inr ⟨x, _, rfl, Nat.lt_succ_self x, h5⟩⟩
          · rw [decide_eq_false hkk, if_neg Bool.false_ne_true]
            refine wpAny_bind (wpAny_rule ?_)
            rw [if_neg ff_and]
            exact wpAny_pure ⟨rfl, x + 1, hit, rfl, h3, hother hkk⟩
        · rw [if_neg hh]
          refine wpAny_pure ⟨rfl, x + 1, hit, rfl, h3, hother fun z => hh (by rw [z]; simp)⟩
      · rintro b s' ⟨rfl, i, hit, rfl, sn, hH⟩
        rcases hH with ⟨rfl, hno⟩ | ⟨j, p, rfl, _, hj⟩
        · refine wpAny_pure (no fun j p z => ?_)
          rcases Nat.lt_or_ge j i with q | q
          · exact hno j p q z
          · exact seen_nil he sn j p q z
        · exact wpAny_pure (yes j p hj)))
/-- what a key leads to -/
def look (xs : List KEnt) (k : NestedKey) : Option (Value × Value) := (xs.find? fun x => decide (x.1 = k)).map (·.2)
def put1 (k : NestedKey) (v : Value) (x : KEnt) : KEnt := if x.1 = k then (x.1, x.2.1, v) else x
def put (xs : List KEnt) (k : NestedKey) (key v : Value) : List KEnt := if (look xs k).isSome then xs.map (put1 k v) else xs ++ [(k, key, v)]
theorem look_none (h : ∀ (j : Nat) (p : Value × Value), xs[j]? ≠ some (k, p)) : look xs k = none := by
  unfold look
  rw [Option.map_eq_none_iff, List.find?_eq_none]
  intro x hx z
  obtain ⟨j, hj⟩ := List.mem_iff_getElem?.mp hx
  exact h j x.2 (by rw [hj, ← of_decide_eq_true z])
theorem look_some (n : (xs.map (·.1)).Nodup) {j : Nat} {p : Value × Value} (h : xs[j]? = some (k, p)) : look xs k = some p := by
  unfold look
  cases e : xs.find? (fun x => decide (x.1 = k)) with
  | none => exact absurd (by simp) ((List.find?_eq_none.mp e) (k, p) (List.mem_of_getElem? h))
  | some x =>
    have h1 := List.mem_of_find?_eq_some e
    have h2 : x.1 = k := of_decide_eq_true (List.find?_some (p := fun x : KEnt => decide (x.1 = k)) e)
    obtain ⟨i, hi⟩ := List.mem_iff_getElem?.mp h1
    obtain ⟨x1, x2⟩ := x
    subst h2
    have := one_place n hi h
    subst this
    rw [h] at hi
    cases hi
    rfl
theorem put_old {v : Value} (n : (xs.map (·.1)).Nodup) {j : Nat} {p : Value × Value} (h : xs[j]? = some (k, p)) (he : es.toList = xs.map (ent w)) : (es.modify j fun e => { e with val := v }).toList = (put xs k key v).map (ent w) := by
  unfold put
  rw [look_some n h, if_pos (show (some p).isSome = true from rfl), Array.toList_modify, he]
  apply List.ext_getElem?
  intro i
  rw [List.getElem?_modify, List.getElem?_map, List.getElem?_map, List.getElem?_map]
  cases hi : xs[i]? with
  | none => by_cases e : j = i <;> simp [e]
  | some x =>
    obtain ⟨x1, x2⟩ := x
    by_cases e : j = i
    · subst e
      rw [h] at hi
      cases hi
      simp [put1, ent]
    · have : x1 ≠ k := fun z => by
        subst z
        exact e (one_place n h hi)
      simp [e, put1, this]
theorem put_new {v : Value} (h : ∀ (j : Nat) (p : Value × Value), xs[j]? ≠ some (k, p)) (he : es.toList = xs.map (ent w)) : (es.push ⟨k.hash w, key, v⟩).toList = (put xs k key v).map (ent w) := by
  unfold put
  rw [look_none h, Array.toList_push, he]
  simp [ent]
/-- the dict at d -/
def IsD (w : World) (h : Heap) (d : Addr) (xs : List KEnt) : Prop := ∃ o es ep, h.get? d = some o ∧ o.ExactDict ∧ o.data = .dict es ep ∧ es.toList = xs.map (ent w) ∧ Keys h xs
theorem IsD.typeIs (m : IsD w s.heap d xs) : s.TypeIs (.ref d) "dict" := let ⟨o, _, _, ho, hc, _⟩ := m; ⟨o, ho, hc.1⟩
theorem get {Q : Option Value → Shared → Prop} (hu : A.units + 8 < cLine) (hk : NestedIs s.heap k key) (kd : k.depth ≤ 8) (m : IsD w s.heap d xs) (h : Q ((look xs k).map (·.2)) { s with toks := s.toks + k.draws }) : wpAny (model prog w) A (dictGet d key) Q E s := by
  obtain ⟨o, es, ep, ho, _, hd, he, K⟩ := m
  unfold dictGet
  try with_reducible refine wpAny_holding ?_
  refine wpAny_bind (pyHash_key k key A s _ hk (by omega) (wpAny_bind (find (s := { s with toks := s.toks + k.draws }) hu hk kd ho hd he K ?_ ?_)))
  · intro no
    rw [look_none no] at h
    exact wpAny_pure h
  · intro j p hj
    rw [look_some K.nd hj] at h
    refine wpAny_bind (wpAny_dictEntries (s := { s with toks := s.toks + k.draws }) ho hd ?_)
    rw [ent_at he j, hj]
    exact wpAny_pure h
theorem set {v : Value} {Q : Unit → Shared → Prop} (hu : A.units + 8 < cLine) (hk : NestedIs s.heap k key) (kd : k.depth ≤ 8) (m : IsD w s.heap d xs) (hz : xs.length ≤ sizeLine)
    (hQ : ∀ o' es' ep' h', h'.get? d = some o' → Heap.SameBut d s.heap h' → o'.ExactDict → o'.data = .dict es' ep' → es'.toList = (put xs k key v).map (ent w) → Q () { s with heap := h', toks := s.toks + k.draws }) : wpAny (model prog w) A (dictSet d key v) Q E s := by
  obtain ⟨o, es, ep, ho, hc, hd, he, K⟩ := m
  unfold dictSet
  try with_reducible refine wpAny_holding ?_
  refine wpAny_bind (pyHash_key k key A s _ hk (by omega) ?_)
  unfold dictSetHashed
  try with_reducible refine wpAny_holding ?_
  refine wpAny_bind (find (s := { s with toks := s.toks + k.draws }) hu hk kd ho hd he K ?_ ?_)
  · intro no
    refine wpAny_bind (wpAny_rule (wpAny_updateDictKeys (hz := by have := ent_sz he; omega) (s := { s with toks := s.toks + k.draws }) ho hd (hQ _ _ (ep + 1) _ (Heap.get?_update_self _ ho (Obj.isFreed_of_dict (Obj.data_mapDictKeys hd _))) (Heap.SameBut.update ..) (hc.mapDictKeys _) (Obj.data_mapDictKeys hd _) (put_new no he))))
  · intro j p hj
    refine wpAny_bind (wpAny_rule (wpAny_bind (wpAny_updateDict (s := { s with toks := s.toks + k.draws }) ho hd (wpAny_point (hQ _ _ ep _ (Heap.get?_update_self _ ho (Obj.isFreed_of_dict (Obj.data_mapDict hd _))) (Heap.SameBut.update ..) (hc.mapDict _) (Obj.data_mapDict hd _) (put_old K.nd hj he))))))
end
end Dk
set_option maxRecDepth 100000
set_option maxHeartbeats 4000000
/-! Dw8: dicts with mixed keys at the data level. -/
namespace Dk
open PySem
section
variable {prog : Program} {w : World} {A : Around} {E : Value → Shared → Prop} {s : Shared} {xs : List KEnt} {k : NestedKey} {key : Value} {d : Addr}
theorem getItem_D {p : Value × Value} {Q : Value → Shared → Prop} (hu : A.units + 9 < cLine) (hk : NestedIs s.heap k key) (kd : k.depth ≤ 8) (m : IsD w s.heap d xs) (hp : look xs k = some p) (h : Q p.2 { s with toks := s.toks + k.draws }) : wpAny (model prog w) A (getItem (.ref d) key) Q E s := by
  unfold getItem
  try with_reducible refine wpAny_holding ?_
  refine wpAny_bind (wpAny_sequenceKey m.typeIs (by decide) (wpAny_bind (wpAny_callSpecial?_slot (name := Str.ofString "__getitem__") m.typeIs slot_dict_getitem (wpAny_call_entry slot_dict_getitem m.typeIs entry_dict_getitem ?_ (args_dict_getitem _ _)))))
  show wpAny _ _ (dictGet d key >>= _) _ _ s
  refine wpAny_bind (get (by rw [Around.in1_units]; omega) hk kd m ?_)
  rw [hp]
  exact wpAny_pure ⟨p.2, rfl, wpAny_pure h⟩
theorem setItem_D {v : Value} {Q : Unit → Shared → Prop} (hu : A.units + 9 < cLine) (hk : NestedIs s.heap k key) (kd : k.depth ≤ 8) (m : IsD w s.heap d xs) (hz : xs.length ≤ sizeLine)
    (hQ : ∀ o' es' ep' h', h'.get? d = some o' → Heap.SameBut d s.heap h' → o'.ExactDict → o'.data = .dict es' ep' → es'.toList = (put xs k key v).map (ent w) → Q () { s with heap := h', toks := s.toks + k.draws }) : wpAny (model prog w) A (setItem (.ref d) key v) Q E s := by
  unfold setItem
  try with_reducible refine wpAny_holding ?_
  refine wpAny_bind (wpAny_sequenceKey m.typeIs (by decide) (wpAny_bind (wpAny_callSpecial?_slot (name := Str.ofString "__setitem__") m.typeIs slot_dict_setitem (wpAny_call_entry slot_dict_setitem m.typeIs entry_dict_setitem ?_ (args_dict_setitem _ _ _)))))
  show wpAny _ _ (Builtin.Dict.notOrdered "__setitem__" ⟨[.ref d, key, v], []⟩ >>= _) _ _ s
  refine wpAny_bind (wpAny_notOrdered_dict m.typeIs ?_)
  show wpAny _ _ (dictSet d key v >>= _) _ _ s
  exact wpAny_bind (set (by rw [Around.in1_units]; omega) hk kd m hz fun o' es' ep' h' a b c e f => wpAny_pure ⟨.none, rfl, wpAny_pure (hQ o' es' ep' h' a b c e f)⟩)
end
end Dk
namespace Dw
open PySem PySem.Spec PyProof.Rows L2 NdefX LamX
section
variable {X : Cx} {pins : List (Addr × Obj)} {σ : L2.St} {H : Hp} {s : Shared}
mutual
theorem key_is (I : Inv X pins σ H s) : ∀ (k : NestedKey) (v : V) (u : Value), Rep X.K H v (kw k) → RelV v u → NestedIs s.heap k u
  | .none, v, u, r, e => by cases r; cases e; exact .none
  | .num i, v, u, r, e => by cases r; obtain ⟨t, rfl⟩ := e; exact .int i t
  | .text x, v, u, r, e => by cases r; obtain ⟨t, rfl⟩ := e; exact .text x t
  | .tup ks, v, u, r, e => by
    cases r with
    | tup h1 h2 =>
      obtain rfl := (show u = Value.ref _ from e)
      obtain ⟨its, rv, pl, _⟩ := I.tuple h1
      obtain ⟨o, h3, h4, n, h5⟩ := pl
      exact .tup h3 h4 h5 (keys_are I ks _ _ h2 rv)
theorem keys_are (I : Inv X pins σ H s) : ∀ (ks : List NestedKey) (vs : List V) (us : List Value), Reps X.K H vs (kws ks) → Vals vs us → NestedAll s.heap ks us
  | [], vs, us, r, e => by cases r; cases e; exact .nil
  | k :: ks, vs, us, r, e => by
    cases r with
    | cons h1 h2 =>
      cases e with
      | cons e1 e2 => exact .cons (key_is I k _ _ h1 e1) (keys_are I ks _ _ h2 e2)
end
def dget (kvs : List (NestedKey × W)) (k : NestedKey) : Option W := (kvs.find? fun x => decide (x.1 = k)).map (·.2)
def dput1 (k : NestedKey) (v : W) (x : NestedKey × W) : NestedKey × W := if x.1 = k then (x.1, v) else x
def dput (kvs : List (NestedKey × W)) (k : NestedKey) (v : W) : List (NestedKey × W) := if (dget kvs k).isSome then kvs.map (dput1 k v) else kvs ++ [(k, v)]
/-- the dict at a, whole -/
theorem dic_at {T : List NTab} {M : Mh} {a : Addr} {kvs : List (NestedKey × W)} (I : Inv X pins σ H s) (k : Ok X.K T H M) (e : M a = some (.dic (NestedKey.hash X.w) kvs)) :
    (a == sysModules) = false ∧ kvs.length ≤ sizeLine ∧ (kvs.map (·.1)).Nodup ∧ ∃ o es ep xs, H a = some (DicO a o) ∧ s.heap.get? a = some o ∧ o.ExactDict ∧ o.data = .dict es ep ∧ es.toList = xs.map (Dk.ent X.w) ∧ Dk.Keys s.heap xs ∧ Paired (EntR X.K H) xs kvs := by
  obtain ⟨h0, hz, hn, o, es, ep, xs, h1, h2, h3, h4, h5⟩ := k.mem a _ e
  have ho : s.heap.get? a = some o := (show ObjOk X.prog X.w H s.heap a (DicO a o) from I.hok a _ h1).1
  have ek : xs.map (·.1) = kvs.map (·.1) := by
    clear h4 hz hn e
    induction h5 with
    | nil => rfl
    | cons r t ih => rw [List.map_cons, List.map_cons, ih, r.1]
  refine ⟨h0, hz, hn, o, es, ep, xs, h1, ho, h2, h3, h4, ⟨?_, by rw [ek]; exact hn⟩, h5⟩
  clear h4 hz hn e ek
  induction h5 with
  | nil => intro x hx; cases hx
  | cons r t ih =>
    intro x hx
    rcases List.mem_cons.mp hx with z | z
    · subst z
      obtain ⟨e1, e2, ⟨v, e3, e4⟩, _⟩ := r
      rw [e1]
      exact ⟨key_is I _ v _ e4 e3, e2⟩
    · exact ih x z
theorem look_rel {K : PySem.W.Frag} {xs : List Dk.KEnt} {kvs : List (NestedKey × W)} {k : NestedKey} (r : Paired (EntR K H) xs kvs) : (∃ p v, Dk.look xs k = some p ∧ dget kvs k = some v ∧ ∃ y, RelV y p.2 ∧ Rep K H y v) ∨ (Dk.look xs k = none ∧ dget kvs k = none) := by
  induction r with
  | nil => exact .inr ⟨rfl, rfl⟩
  | @cons x p xs kvs r t ih =>
    obtain ⟨e1, e2, e3, y, e4, e5⟩ := r
    unfold Dk.look dget
    rw [List.find?_cons, List.find?_cons, e1]
    by_cases hk : p.1 = k
    · simp only [hk, decide_true]
      exact .inl ⟨_, _, rfl, rfl, y, e4, e5⟩
    · simp only [hk, decide_false]
      exact ih
theorem put_rel {K : PySem.W.Frag} {xs : List Dk.KEnt} {kvs : List (NestedKey × W)} {k : NestedKey} {key u : Value} {w : W} (r : Paired (EntR K H) xs kvs) (kd : k.depth ≤ 8) (hk : ∃ v, RelV v key ∧ Rep K H v (kw k)) (hv : ∃ v, RelV v u ∧ Rep K H v w) : Paired (EntR K H) (Dk.put xs k key u) (dput kvs k w) := by
  have e : (Dk.look xs k).isSome = (dget kvs k).isSome := by
    rcases look_rel (k := k) r with ⟨p, v, a, b, _⟩ | ⟨a, b⟩ <;> rw [a, b] <;> rfl
  unfold Dk.put dput
  rw [e]
  split
  · rename_i hc
    clear e hc
    induction r with
    | nil => exact .nil
    | @cons x p xs kvs r t ih =>
      refine .cons ?_ ih
      obtain ⟨e1, e2, e3, e4⟩ := r
      unfold Dk.put1 dput1
      rw [e1]
      by_cases hkk : p.1 = k
      · rw [if_pos hkk, if_pos hkk]
        exact ⟨rfl, e2, e3, hv⟩
      · rw [if_neg hkk, if_neg hkk]
        exact ⟨e1, e2, e3, e4⟩
  · rename_i hc
    clear e hc
    induction r with
    | nil => exact .cons ⟨rfl, kd, hk, hv⟩ .nil
    | cons r t ih => exact .cons r ih
theorem dput_keys {kvs : List (NestedKey × W)} {k : NestedKey} {v : W} (hn : (kvs.map (·.1)).Nodup) : ((dput kvs k v).map (·.1)).Nodup := by
  unfold dput
  split
  · have : (kvs.map (dput1 k v)).map (·.1) = kvs.map (·.1) := by
      rw [List.map_map]
      congr 1
      funext x
      show (dput1 k v x).1 = x.1
      unfold dput1
      split <;> rfl
    rw [this]
    exact hn
  · rename_i h
    rw [List.map_append, List.nodup_append]
    refine ⟨hn, by simp, fun x hx y hy z => ?_⟩
    simp only [List.map_cons, List.map_nil, List.mem_singleton] at hy
    subst hy z
    apply h
    obtain ⟨p, hp, e⟩ := List.mem_map.mp hx
    unfold dget
    rw [Option.isSome_map, List.find?_isSome]
    exact ⟨p, hp, decide_eq_true e⟩
theorem dput_len {kvs : List (NestedKey × W)} {k : NestedKey} {v : W} (h : kvs.length < sizeLine) : (dput kvs k v).length ≤ sizeLine := by
  unfold dput
  split
  · rw [List.length_map]; omega
  · rw [List.length_append, List.length_singleton]; omega
end
/-! ### the rules -/
def wDNew (hf : NestedKey → Int) : TEw := fun _ M Q => ∀ p, M p = none → Q (.ref p) (updM M p (.dic hf []))
def ixD (hf : NestedKey → Int) : R2w := fun x y M Q => ∃ a kvs k v, x = .ref a ∧ y = kw k ∧ k.depth ≤ 8 ∧ M a = some (.dic hf kvs) ∧ dget kvs k = some v ∧ Q v M
def setD (hf : NestedKey → Int) : TSetw := fun o i v M Q => ∃ a kvs k, o = .ref a ∧ i = kw k ∧ k.depth ≤ 8 ∧ M a = some (.dic hf kvs) ∧ kvs.length < sizeLine ∧ Q (updM M a (.dic hf (dput kvs k v)))
def wDVals (hf : NestedKey → Int) (td : TEw) : TEw := fun Γ M Q => td Γ M fun x M1 => ∃ a kvs, x = .ref a ∧ M1 a = some (.dic hf kvs) ∧ ∀ p, M1 p = none → Q (.ref p) (updM M1 p (.lst (kvs.map (·.2))))
theorem dicO_ok {P : Program} {w : World} {H : Hp} {h : Heap} {a : Addr} {o : Obj} (e : h.get? a = some o) : ObjOk P w H h a (DicO a o) := ⟨e, ⟨o, e⟩, fun h1 h2 q k => k _ q⟩
section
variable {X : Cx} {T : List NTab} {pos : Pos}
theorem ew_dnew : EW X T (.Dict [] [] pos) (wDNew (NestedKey.hash X.w)) := by
  refine ⟨⟨fun pins s σ H Q I ⟨Γ, M, R, q⟩ => wpAny_Dict_empty ?_⟩, fun Γ M Q Q' k q p hp => k _ _ (q p hp)⟩
  have hp : H s.heap.objs.size = none := I.hok.fresh (Nat.le_refl _)
  have e : (s.heap.push { cls := .type "dict", data := .dict #[] }).get? s.heap.objs.size = some { cls := .type "dict", data := .dict #[] } := Heap.get?_push_size _ rfl
  have t : Ti H (upd H s.heap.objs.size (DicO s.heap.objs.size { cls := .type "dict", data := .dict #[] })) := Ti.new hp
  refine ⟨.ref s.heap.objs.size, _, I.laid (a := s.heap.objs.size) (o := DicO s.heap.objs.size { cls := .type "dict", data := .dict #[] }) (t' := s.toks) (fun _ _ q => Heap.get?_push_of_some _ q) (Nat.le_refl _) (dicO_ok e), rfl, ?_⟩
  refine q _ (R.ok.noM hp) _ _ t (.ref _) (R.up t (R.ok.alloc hp ⟨beq_eq_false_iff_ne.mpr (Ne.symm (Nat.ne_of_lt I.big)), Nat.zero_le _, List.nodup_nil, _, #[], 0, [], upd_same, ⟨rfl, rfl, rfl⟩, rfl, rfl, .nil⟩))
theorem ixw_D (hu : X.A.units + 9 < cLine) : IxW X T (ixD (NestedKey.hash X.w)) := by
  refine ⟨fun a b p s σ H x y v u Q I rx ry ⟨wx, wy, M, r1, r2, k, a, kvs, nk, z, e1, e2, e3, e4, e5, q⟩ hs => ?_, fun x y M Q Q' k ⟨a, kvs, nk, v, e1, e2, e3, e4, e5, q⟩ => ⟨a, kvs, nk, v, e1, e2, e3, e4, e5, k _ _ q⟩⟩
  subst e1 e2
  cases r1.ref_inv
  obtain rfl : v = Value.ref a := rx
  obtain ⟨h0, hz, hn, o, es, ep, xs, h1, ho, h2, h3, h4, h5, h6⟩ := dic_at I k e4
  have m : Dk.IsD X.w s.heap a xs := ⟨o, es, ep, ho, h2, h3, h4, h5⟩
  rcases look_rel (k := nk) h6 with ⟨pp, vv, l1, l2, yy, l3, l4⟩ | ⟨_, l2⟩
  · rw [e5] at l2
    cases l2
    exact tail_any m.typeIs slot_dict_getitem.lookup (Dk.getItem_D hu (key_is I nk y u r2 ry) e3 m l1 ⟨yy, H, I.tok _, l3, q _ _ Ti.refl l4 k⟩) hs
  · rw [e5] at l2
    cases l2
theorem setw_D (hu : X.A.units + 9 < cLine) : SetW X T (setD (NestedKey.hash X.w)) := by
  refine ⟨fun p s σ H o i v ov iv u Q I ro ri rv ⟨wo, wi, wv, M, r1, r2, r3, k, a, kvs, nk, e1, e2, e3, e4, e5, q⟩ => ?_, fun o i v M Q Q' k ⟨a, kvs, nk, e1, e2, e3, e4, e5, q⟩ => ⟨a, kvs, nk, e1, e2, e3, e4, e5, k _ q⟩⟩
  subst e1 e2
  cases r1.ref_inv
  obtain rfl : ov = Value.ref a := ro
  obtain ⟨h0, hz, hn, ob, es, ep, xs, h1, ho, h2, h3, h4, h5, h6⟩ := dic_at I k e4
  have m : Dk.IsD X.w s.heap a xs := ⟨ob, es, ep, ho, h2, h3, h4, h5⟩
  have lx : xs.length ≤ sizeLine := by rw [Paired.length h6]; exact hz
  refine Dk.setItem_D hu (key_is I nk i iv r2 ri) e3 m lx fun o' es' ep' h' g1 g2 g3 g4 g5 => ?_
  have t : Ti H (upd H a (DicO a o')) := Ti.write h1 (dicO_plain h3)
  refine ⟨upd H a (DicO a o'), I.write (h' := h') (t' := s.toks + nk.draws) (x := a) (e := a) (by rw [h1]; trivial) (.inl rfl) (fun b w hb e => (g2.2 b hb).trans e) ⟨_, g1⟩ (dicO_ok g1), ?_⟩
  refine q _ t (k.write h1 (dicO_plain h3) ⟨h0, dput_len e5, dput_keys hn, o', es', ep', _, upd_same, g3, g4, g5, ?_⟩)
  exact Paired.mapP (put_rel h6 e3 ⟨i, ri, r2⟩ ⟨v, rv, r3⟩) fun _ _ z => z.up t
end
end Dw
set_option maxRecDepth 100000
set_option maxHeartbeats 4000000
/-! Dw9: texts repeated, isinstance(.., list), max with default, list(d.values()). -/
namespace Dw
open PySem PySem.Spec PyProof.Rows L2 NdefX LamX
def oMulS : R2w := fun x y M Q => ∃ z n, x = .str z ∧ y = .int n ∧ MulOk z n ∧ Q (.str (Txt.mul z n)) M
/-- isinstance(e, list) of a list -/
def wIsL (te : TEw) : TEw := fun Γ M Q => te Γ M fun x M1 => (∃ l, itemsL M1 x l) ∧ Q (.bl true) M1
/-- max(e, default=d), ints -/
def wMaxD (te td : TEw) : TEw := fun Γ M Q => te Γ M fun x M1 => td Γ M1 fun d M2 => ∃ (l : List W) (is : List Int), itemsL M2 x l ∧ l = is.map .int ∧ (is = [] → Q d M2) ∧ ∀ n ns, is = n :: ns → Q (.int (ns.foldl max n)) M2
theorem vals_meet {prog : Program} {w : World} (d : Addr) (hd : (d == sysModules) = false) : MeetsIn prog w (Builtin.«dict.values» ⟨[.ref d], []⟩) (fun _ R s => s.TypeIs (.ref d) "dict" ∧ R (.ok (.ret (.ref s.heap.objs.size))) { s with heap := s.heap.push (DSub.viewOb "dict_values" d) }) :=
  .of_wp fun A R s ⟨ty, want⟩ => by
    refine wpAny_bind ?_
    unfold Builtin.Dict.noArgs
    refine wpAny_bind (wpAny_notOrdered_dict ty ?_)
    show wpAny _ A.in1 (pure d) _ _ s
    refine wpAny_pure ?_
    show wpAny _ A.in1 (Builtin.Dict.showsAll d >>= _) _ _ s
    unfold Builtin.Dict.showsAll
    rw [hd, if_neg Bool.false_ne_true]
    exact wpAny_bind (wpAny_pure (wpAny_bind (wpAny_newObj_type (wpAny_pure ⟨_, rfl, want⟩))))
theorem vals_src {prog : Program} {w : World} {d r : Addr} {o : Obj} {es : Array DictEntry} {ep : Nat} (hd : o.data = .dict es ep) : PySem.W.KdlSrc prog w "dict_values" r d es.size (fun i v => ∃ e : DictEntry, es[i]? = some e ∧ v = e.val) (fun h => h.get? r = some (DSub.viewOb "dict_values" d) ∧ h.get? d = some o) where
  type := fun _ m => ⟨_, m.1, rfl⟩
  there := fun _ m => ⟨Heap.lt_size m.1, Heap.lt_size m.2⟩
  keep := fun _ _ m k => ⟨k r (.inl rfl) _ m.1, k d (.inr rfl) _ m.2⟩
  notList := by decide
  notTuple := by decide
  hint := fun _ _ s _ m q => PySem.W.kdl_hint_values (s := s) ⟨_, m.1, rfl⟩ q
  iter := fun _ s hh m => ⟨DVw.valOb d 0 es.size ep, _, fun _ _ q => DSub.iter_vals m.1 m.2 hd q, DSub.walksVal hh (Nat.ne_of_lt (Heap.lt_size m.2)) hd (fun i e he => ⟨e, he, rfl⟩), ⟨Heap.get?_push_size _ rfl, Heap.get?_push_of_some _ m.2⟩⟩
theorem vals_rel {K : PySem.W.Frag} {H : Hp} {xs : List Dk.KEnt} {kvs : List (NestedKey × W)} (r : Paired (EntR K H) xs kvs) : ∃ vs, Vals vs (xs.map (·.2.2)) ∧ Reps K H vs (kvs.map (·.2)) := by
  induction r with
  | nil => exact ⟨[], .nil, .nil⟩
  | cons r t ih =>
    obtain ⟨vs, a, b⟩ := ih
    obtain ⟨_, _, _, v, c, d⟩ := r
    exact ⟨v :: vs, .cons c a, .cons d b⟩
section
variable {X : Cx} {T : List NTab} {e : Expr} {te td : TEw} {p p2 pos apos cpos kpos : Pos}
theorem opw_mulS : OpW X T (binaryOp .Mult) oMulS := by
  refine ⟨fun p s σ H x y v u Q I rx ry ⟨wx, wy, M, r1, r2, k, z, n, e1, e2, ok, q⟩ => ?_, fun x y M Q Q' k ⟨z, n, e1, e2, ok, q⟩ => ⟨z, n, e1, e2, ok, k _ _ q⟩⟩
  subst e1 e2
  cases r1.str_inv
  cases r2.int_inv
  obtain ⟨t, rfl⟩ := rx
  obtain ⟨t2, rfl⟩ := ry
  exact SB.mul ok fun t' tk => ⟨.str (Txt.mul z n), H, I.tok tk, ⟨t', rfl⟩, q _ _ Ti.refl (.str _) k⟩
theorem ew_isL (hg : Gl X "isinstance") (hm : X.mg "isinstance" = none) (hg2 : Gl X "list") (hm2 : X.mg "list" = none) (he : EW X T e te)
    (hs : starEach [e, .Name "list" p2] X.env = (false, eval e X.env) :: starEach [.Name "list" p2] X.env := by rfl) : EW X T (.Call (.Name "isinstance" p) [e, .Name "list" p2] [] pos) (wIsL te) := by
  refine ⟨PE.weak (pe_callB call_isi hg hm (by decide +kernel) (pa_cons he.pe (pa_cons (pe_bltn (v := .ty "list") (u := .type "list") hg2 hm2 (by decide +kernel) rfl) pa_nil rfl) hs) (by decide) (by decide) hs rfl) fun σ H Q ⟨Γ, M, R, q⟩ => ?_, fun Γ M Q Q' k q => he.mo _ _ _ _ (fun w M1 ⟨a, b⟩ => ⟨a, k _ _ b⟩) q⟩
  refine ⟨Γ, M, R, he.mo _ _ _ _ (fun w M1 ⟨⟨l, h1⟩, z⟩ v H1 t1 r1 R1 => ?_) q⟩
  have ty : TyX X.K H1 v (.type "list") := by
    cases w with
    | ref a =>
      obtain ⟨xs, h2, _⟩ := R1.ok.lst h1
      rw [r1.ref_inv]
      exact .base (.lst h2)
    | frl j =>
      obtain ⟨a, xs, rfl, f, _⟩ := r1.frl_inv
      rcases f with ⟨o, f⟩ | (f | ⟨o, f⟩) | ⟨o, its, n, f, c, _⟩
      · exact .base (.frz f)
      · cases f
      · cases f
      · exact .kList f c
    | _ => exact h1.elim
  exact ⟨v, .ty "list", .type "list", .type "list", true, rfl, .ty "list", ty, rfl, z _ _ t1 (.bl true) R1⟩
theorem ew_maxD {d : Expr} (hc : X.calm = true) (hu : X.A.units + 64 < cLine) (hg : Gl X "max") (hm : X.mg "max" = none) (he : EW X T e te) (hd : EW X T d td)
    (hs : starEach [e] X.env = (false, eval e X.env) :: starEach [] X.env := by rfl) (hbt : backTo pos (starEach [e] X.env) = (false, eval e X.env) :: backTo pos (starEach [] X.env) := by rfl) (hpl : (backTo pos (starEach [e] X.env)).any (·.1) = false := by rfl) : EW X T (.Call (.Name "max" p) [e] [⟨some "default", d, kpos⟩] pos) (wMaxD te td) := by
  have mo : MonE (wMaxD te td) := fun Γ M Q Q' k q => he.mo _ _ _ _ (fun w M1 z => hd.mo _ _ _ _ (fun u M2 ⟨l, is, a, b, c, f⟩ => ⟨l, is, a, b, fun h => k _ _ (c h), fun n ns h => k _ _ (f n ns h)⟩) z) q
  refine ⟨PE.weak (pe_callBK (id := "max") (he := hbt) (hpl := hpl) (ks := [Str.ofString "default"]) (r := fun xs zs H Q => ∃ x z w u M2, xs = [x] ∧ zs = [z] ∧ Rep X.K H x w ∧ Rep X.K H z u ∧ Ok X.K T H M2 ∧ ∃ (l : List W) (is : List Int), itemsL M2 w l ∧ l = is.map .int ∧ (is = [] → liR X.K T H Q u M2) ∧ ∀ n ns, is = n :: ns → liR X.K T H Q (.int (ns.foldl max n)) M2) ?_ hg hm (by decide +kernel) (pa_cons he.pe pa_nil hs) (pk_cons hd.pe pk_nil)) fun σ H Q ⟨Γ, M, R, q⟩ => ?_, mo⟩
  · rintro pins s σ H xs zs us ws Q I rx rz ⟨x, z, w, u, M2, rfl, rfl, r1, r2, k, l, is, h1, h2, h3, h4⟩
    obtain ⟨a, ys, rfl, sq, rs⟩ := k.items r1 h1
    obtain ⟨its, rv, pl, hz⟩ := I.list sq
    cases rx with
    | cons rx rx2 =>
      cases rx2
      cases rz with
      | cons rz rz2 =>
        cases rz2
        rename_i ua ub
        obtain rfl : ua = Value.ref a := rx
        subst h2
        have eY : ys = is.map V.int := by
          clear h1 h3 h4 rv pl hz sq
          induction is generalizing ys with
          | nil => cases rs; rfl
          | cons i is ih => cases rs with | cons a b => rw [List.map_cons, ih _ b, a.int_inv]
        have rd : ∃ as, ReadsAll s.heap its (is.map PyData.int) as := by
          refine Dp.readsAll I _ ys its ?_ rv
          rw [eY]
          clear eY h1 h3 h4 rv rs pl hz sq
          induction is with
          | nil => exact .nil
          | cons i is ih => exact .cons (.int i) ih
        obtain ⟨as, rd⟩ := rd
        have dep : PyData.depthAll (is.map PyData.int) = 0 := PySem.W.depth_ints is
        have alk : PySem.W.AlikeAll (is.map PyData.int) := ⟨fun x hx y hy => by
          obtain ⟨i, _, rfl⟩ := List.mem_map.mp hx
          obtain ⟨j, _, rfl⟩ := List.mem_map.mp hy
          simp [PySem.W.alike], fun x hx z => by
          obtain ⟨i, _, rfl⟩ := List.mem_map.mp hx
          cases z⟩
        show wpAny _ _ (call (.builtin "max") [.ref a] [(Str.ofString "default", ub)]) _ _ s
        refine PySem.W.max_list_default (A := X.A) (xs := is.map PyData.int) (as := as) (I.ok.hd hc) pl.isList (by simpa using rd) alk (by rw [dep]; omega) (fun e0 h' tk kp => ?_) fun y yy i v h' tk bs e1 e2 e3 kp => ?_
        · exact ⟨z, H, I.kept (t' := tk) kp, rz, h3 (List.map_eq_nil_iff.mp e0) _ _ Ti.refl r2 k⟩
        · cases is with
          | nil => cases e1
          | cons n ns =>
            rw [List.map_cons, List.cons.injEq] at e1
            obtain ⟨rfl, rfl⟩ := e1
            rw [PySem.W.maxD_ints] at e3
            cases e3
            exact ⟨.int (ns.foldl max n), H, I.kept (t' := tk) kp, ⟨_, rfl⟩, h4 n ns rfl _ _ Ti.refl (.int _) k⟩
  · refine ⟨Γ, M, R, he.mo _ _ _ _ (fun w M1 z v H1 t1 r1 R1 => ⟨Γ, M1, R1, hd.mo _ _ _ _ (fun u M2 ⟨l, is, a, b, c, f⟩ v2 H2 t2 r2 R2 => ⟨v, v2, w, u, M2, rfl, rfl, r1.up t2, r2, R2.ok, l, is, a, b, fun h v3 H3 t3 r3 k3 => c h v3 H3 ((t1.trans t2).trans t3) r3 (R2.up t3 k3), fun n ns h v3 H3 t3 r3 k3 => f n ns h v3 H3 ((t1.trans t2).trans t3) r3 (R2.up t3 k3)⟩) z⟩) q⟩
/-- list(e.values()) -/
theorem ew_dVals (hc : X.calm = true) (hg : Gl X "list") (hm : X.mg "list" = none) (he : EW X T e te) (hbase : attributeBase e "values" X.env (eval e X.env) = eval e X.env := by rfl) (hline : (apos.endLine == cpos.line) = true := by rfl)
    (hs : starEach [.Call (.Attribute e "values" apos) [] [] cpos] X.env = (false, eval (.Call (.Attribute e "values" apos) [] [] cpos) X.env) :: starEach [] X.env := by rfl) :
    EW X T (.Call (.Name "list" p) [.Call (.Attribute e "values" apos) [] [] cpos] [] pos) (wDVals (NestedKey.hash X.w) te) := by
  refine ⟨⟨fun pins s σ H Q I ⟨Γ, M, R, q⟩ => ?_⟩, fun Γ M Q Q' k q => he.mo _ _ _ _ (fun w M1 ⟨a, kvs, b, c, f⟩ => ⟨a, kvs, b, c, fun p hp => k _ _ (f p hp)⟩) q⟩
  refine wpAny_Call_Name_kw (ld_blt I hg hm boot_list (PyProof.Rows.callWith_type1 ?_ hs rfl) (by decide) (by decide))
  rw [hs]
  refine Calls.spliced_cons ?_
  refine wpAny_Call_method0_late hbase hline (thn (he.pe.run pins s σ H (fun v H1 => ∃ w M1, Ti H H1 ∧ Rep X.K H1 v w ∧ Rel X.K T σ H1 Γ M1 ∧ ∃ a kvs, w = .ref a ∧ M1 a = some (.dic (NestedKey.hash X.w) kvs) ∧ ∀ p, M1 p = none → liQ X.K T σ H Γ Q (.ref p) (updM M1 p (.lst (kvs.map (·.2))))) I
    ⟨Γ, M, R, he.mo _ _ _ _ (fun w M1 z v H1 t1 r1 R1 => ⟨w, M1, t1, r1, R1, z⟩) q⟩) fun u s1 ⟨v, H1, I1, rv, w, M1, t1, r1, R1, a, kvs, e1, e2, z⟩ => ?_)
  subst e1
  cases r1.ref_inv
  obtain rfl : u = Value.ref a := rv
  obtain ⟨h0, hz, hn, ob, es, ep, xs, h1, ho, h2, h3, h4, h5, h6⟩ := dic_at I1 R1.ok e2
  have ty : s1.TypeIs (.ref a) "dict" := ⟨ob, ho, h2.1⟩
  refine ⟨"dict", "dict.values", F.plainAttrs_dict, F.slot_dict_values, F.type_dict_values, ty, fun b e => ?_, Calls.callWith_builtin rfl (PySem.evalArgs_none ?_)⟩
  · cases e
    exact ⟨ob, ho, h2.2.1⟩
  refine call_meetsIn F.slot_dict_values ty F.entry_dict_values (F.args_dict_values_1 _) (vals_meet a h0) ⟨ty, ?_⟩
  have I2 : Inv X pins σ H1 { s1 with heap := s1.heap.push (DSub.viewOb "dict_values" a) } := I1.kept (t' := s1.toks) fun b u e => Heap.get?_push_of_some _ e
  refine Calls.spliced_nil (PySem.W.kdl_call (vals_src (r := s1.heap.objs.size) (d := a) h3) (I1.ok.hd hc) ⟨Heap.get?_push_size _ rfl, Heap.get?_push_of_some _ ho⟩ (by have := Dk.ent_sz h4; have := Paired.length h6; omega) fun h' tk acc c kp hl io => ?_)
  have sz := Dk.ent_sz h4
  have ea : acc.toList = xs.map (·.2.2) := by
    apply List.ext_getElem?
    intro j
    rw [List.getElem?_map, Array.getElem?_toList]
    cases hj : acc[j]? with
    | none =>
      have := Array.getElem?_eq_none_iff.mp hj
      rw [List.getElem?_eq_none (by rw [← sz, ← io.1]; exact this)]
      rfl
    | some y =>
      obtain ⟨en, q1, q2⟩ := io.2 j y hj
      rw [Dk.ent_at h4 j] at q1
      cases hx : xs[j]? with
      | none => rw [hx] at q1; cases q1
      | some x => rw [hx] at q1; cases q1; rw [q2]; rfl
  obtain ⟨vs, rvs, rps⟩ := vals_rel h6
  have hp : H1 (s1.heap.push (DSub.viewOb "dict_values" a)).objs.size = none := I2.hok.fresh (Nat.le_refl _)
  have t2 : Ti H1 (upd H1 (s1.heap.push (DSub.viewOb "dict_values" a)).objs.size (.lst vs)) := Ti.new hp
  refine ⟨.ref _, _, I2.laid (a := (s1.heap.push (DSub.viewOb "dict_values" a)).objs.size) (o := .lst vs) (t' := tk) kp (Nat.le_refl _) ⟨?_, acc.toList, c, ?_, ?_⟩, rfl, z _ (R1.ok.noM hp) _ _ (t1.trans t2) (.ref _) (R1.up t2 (R1.ok.newL hp rps))⟩
  · rw [rps.len, List.length_map]; exact hz
  · rw [ea]; exact rvs
  · rw [Array.toArray_toList]; exact hl
end
end Dw
set_option maxRecDepth 100000
set_option maxHeartbeats 4000000
/-! Dwl: readings answered step by step. -/
namespace Dw
open PySem PySem.Spec PyProof.Rows L2 NdefX LamX
/-- two texts that differ -/
def oNeS : R2w := fun x y M Q => ∃ a b : Str, x = .str a ∧ y = .str b ∧ Q (.bl (!decide (a = b))) M
theorem opw_neS {X : Cx} {T : List NTab} : OpW X T (compareOp .NotEq) oNeS := by
  refine ⟨OpR.weak op_ne fun x y H Q ⟨wx, wy, M, rx, ry, k, a, b, h1, h2, q⟩ => ?_, fun x y M Q Q' k ⟨a, b, h1, h2, q⟩ => ⟨a, b, h1, h2, k _ _ q⟩⟩
  subst h1 h2
  cases rx
  cases ry
  refine ⟨rfl, ?_⟩
  have e : decide (V.str a = V.str b) = decide (a = b) := decide_eq_decide.mpr ⟨fun h => by injection h, fun h => by rw [h]⟩
  rw [e]
  exact q _ _ Ti.refl (.bl _) k
section
variable {Γ Γ' : Env} {M M1 : Mh} {Q : WK} {ta tb te : TEw} {w x y : W} {i j : Nat} {a b : Int} {k : Bool} {l ws : List W} {p : Addr} {n r' : Env → Mh → Prop} {r : WK} {bk ct : Env → Mh → Prop}
theorem s_var (e : Γ[i]? = some (some w)) (h : Q w M) : wVar i Γ M Q := ⟨w, e, h⟩
theorem s_c (h : Q w M) : wC w Γ M Q := h
theorem s_op {o : R2w} (h : ta Γ M fun x M1 => tb Γ M1 fun y M2 => o x y M2 Q) : wOp o ta tb Γ M Q := h
theorem s_un {o : R1w} (h : ta Γ M fun x M1 => o x M1 Q) : wUn o ta Γ M Q := h
theorem s_neg {g : Int → W} (h : Q (g a) M) : uI g (.int a) M Q := ⟨a, rfl, h⟩
theorem s_addI (h : Q (.int (a + b)) M) : oAdd (.int a) (.int b) M Q := .inl ⟨a, b, rfl, rfl, trivial, h⟩
theorem s_addT {l m : List W} (z : l.length + m.length ≤ sizeLine) (h : Q (.tup (l ++ m)) M) : oAdd (.tup l) (.tup m) M Q := .inr (.inl ⟨l, m, rfl, rfl, z, h⟩)
theorem s_addL {a b : Addr} {l m : List W} (e1 : M a = some (.lst l)) (e2 : M b = some (.lst m)) (z : l.length + m.length ≤ sizeLine) (h : ∀ p, M p = none → Q (.ref p) (updM M p (.lst (l ++ m)))) : oAdd (.ref a) (.ref b) M Q := .inr (.inr (.inl ⟨a, b, l, m, rfl, rfl, e1, e2, z, h⟩))
theorem s_sub (h : Q (.int (a - b)) M) : oSubI (.int a) (.int b) M Q := ⟨a, b, rfl, rfl, trivial, h⟩
theorem s_mul (c : CMulX a b) (h : Q (.int (a * b)) M) : orR oMulI oMulS (.int a) (.int b) M Q := .inl ⟨a, b, rfl, rfl, c, h⟩
theorem s_mulS {z : Str} (c : MulOk z b) (h : Q (.str (Txt.mul z b)) M) : orR oMulI oMulS (.str z) (.int b) M Q := .inr ⟨z, b, rfl, rfl, c, h⟩
theorem s_div (c : CDivW2 a b) (h : Q (.int (a / b)) M) : oDivI (.int a) (.int b) M Q := ⟨a, b, rfl, rfl, c, h⟩
theorem s_mod (c : 0 < b) (h : Q (.int (a % b)) M) : oModI (.int a) (.int b) M Q := ⟨a, b, rfl, rfl, c, h⟩
theorem s_pow (c : CPow a b) (h : Q (.int (a ^ b.toNat)) M) : oPowI (.int a) (.int b) M Q := ⟨a, b, rfl, rfl, c, h⟩
theorem s_lt (h : Q (.bl (decide (a < b))) M) : oLtI (.int a) (.int b) M Q := ⟨a, b, rfl, rfl, trivial, h⟩
theorem s_le (h : Q (.bl (decide (a ≤ b))) M) : oLeI (.int a) (.int b) M Q := ⟨a, b, rfl, rfl, trivial, h⟩
theorem s_gt (h : Q (.bl (decide (b < a))) M) : oGtI (.int a) (.int b) M Q := ⟨a, b, rfl, rfl, trivial, h⟩
theorem s_ge (h : Q (.bl (decide (b ≤ a))) M) : oGeI (.int a) (.int b) M Q := ⟨a, b, rfl, rfl, trivial, h⟩
theorem s_is (h : Q (.bl (isNonW x)) M) : oIsN false x .non M Q := ⟨rfl, by rw [Bool.false_xor]; exact h⟩
theorem s_isnot (h : Q (.bl (!isNonW x)) M) : oIsN true x .non M Q := ⟨rfl, by rw [Bool.true_xor]; exact h⟩
theorem s_eqI (h : Q (.bl (decide (a = b))) M) : oEqD false (.int a) (.int b) M Q := ⟨.int a, .int b, .inl ⟨rfl, rfl⟩, .inl ⟨rfl, rfl⟩, rfl, rfl, by
  rw [Bool.false_xor]
  have e : PyData.eqv (.int a) (.int b) = decide (a = b) := by
    simp only [PyData.eqv]
    by_cases h : a = b <;> simp [h]
  rw [e]; exact h⟩
theorem s_ixT {l : List W} (e : atI l a = some w) (h : Q w M) : oIx (.tup l) (.int a) M Q := .inl ⟨l, a, w, rfl, rfl, e, h⟩
theorem s_ixR {l : List W} {p : Addr} (m : M p = some (.lst l)) (e : atI l a = some w) (h : Q w M) : oIx (.ref p) (.int a) M Q := .inr (.inl ⟨l, a, w, m, rfl, e, h⟩)
theorem s_ixF {l : List W} (e : atI l a = some w) (h : Q w M) : oIx (.frl l) (.int a) M Q := .inr (.inl ⟨l, a, w, rfl, rfl, e, h⟩)
theorem s_ixS {z : Str} {c : Nat} (s : z.length ≤ sizeLine) (e : atI z.cps.toList a = some c) (h : Q (.str ⟨#[c]⟩) M) : oIx (.str z) (.int a) M Q := .inr (.inr ⟨z, a, c, rfl, rfl, s, e, h⟩)
theorem s_tup {t : TAw} (h : t Γ M fun l M1 => l.length ≤ sizeLine ∧ Q (.tup l) M1) : wTup t Γ M Q := h
theorem s_lst {t : TAw} (h : t Γ M fun l M1 => l.length ≤ sizeLine ∧ ∀ p, M1 p = none → Q (.ref p) (updM M1 p (.lst l))) : wLst t Γ M Q := h
theorem s_fit {R : Prop} {l : List W} (z : l.length ≤ sizeLine) (h : R) : l.length ≤ sizeLine ∧ R := ⟨z, h⟩
theorem s_cons {tr : TAw} {R : List W → Mh → Prop} (h : ta Γ M fun x M1 => tr Γ M1 fun xs M2 => R (x :: xs) M2) : wCons ta tr Γ M R := h
theorem s_nil {R : List W → Mh → Prop} (h : R [] M) : wNil Γ M R := h
theorem s_cb {sp : RCw} {t : TAw} (h : t Γ M fun l M1 => sp l M1 Q) : wCB sp t Γ M Q := h
theorem s_ret (h : te Γ M r) : wRet te ⟨n, r, bk, ct⟩ Γ M := h
theorem s_retN (h : r .non M) : wRetN ⟨n, r, bk, ct⟩ Γ M := h
theorem s_asg {g : TGw} (h : te Γ M fun x M1 => g x Γ M1 n) : wAsg te g ⟨n, r, bk, ct⟩ Γ M := h
theorem s_gname {R : Env → Mh → Prop} (h : R (Γ.set i (some w)) M) : wgName i w Γ M R := h
theorem s_gtup {u : TGsw} {R : Env → Mh → Prop} {m : Nat} {l : List W} (e : l.length = m) (h : u l Γ M R) : wgTup m u (.tup l) Γ M R := ⟨l, rfl, e, h⟩
theorem s_gcons {g : TGw} {u : TGsw} {R : Env → Mh → Prop} (h : g w Γ M fun Γ' M' => u ws Γ' M' R) : wgCons g u (w :: ws) Γ M R := ⟨w, ws, rfl, h⟩
theorem s_gnil {R : Env → Mh → Prop} (h : R Γ M) : wgNil [] Γ M R := ⟨rfl, h⟩
theorem s_gsub {to ti : TEw} {t : TSetw} {R : Env → Mh → Prop} (h : to Γ M fun o M1 => ti Γ M1 fun i M2 => t o i w M2 fun M3 => R Γ M3) : wgSub to ti t w Γ M R := h
theorem s_setL {R : Mh → Prop} {l : List W} {m : Nat} (e : M p = some (.lst l)) (e2 : ixN l.length a = some m) (h : R (updM M p (.lst (l.set m w)))) : setL (.ref p) (.int a) w M R := ⟨p, l, a, m, rfl, rfl, e, e2, h⟩
theorem s_if {c : TTw} {t u : TSw} {D : EndsW} (h : c Γ M fun b M1 => if b = true then t D Γ M1 else u D Γ M1) : wIf c t u D Γ M := h
theorem s_ifb {A B : Prop} (h1 : k = true → A) (h2 : k = false → B) : if k = true then A else B := by cases k; exact h2 rfl; exact h1 rfl
theorem s_test {R : Bool → Mh → Prop} (h : te Γ M fun x M1 => ∃ k, x = .bl k ∧ R k M1) : wTest te Γ M R := h
theorem s_bl {R : Bool → Prop} (h : R k) : ∃ c, W.bl k = .bl c ∧ R c := ⟨k, rfl, h⟩
theorem s_and {t u : TTw} {R : Bool → Mh → Prop} (h : t Γ M fun c M1 => if c = true then u Γ M1 R else R false M1) : wAnd t u Γ M R := h
theorem s_or {t u : TTw} {R : Bool → Mh → Prop} (h : t Γ M fun c M1 => if c = true then R true M1 else u Γ M1 R) : wOr t u Γ M R := h
theorem s_not {t : TTw} {R : Bool → Mh → Prop} (h : t Γ M fun c M1 => R (!c) M1) : wNot t Γ M R := h
theorem s_andV (h : ta Γ M fun x M1 => ∃ c, x = .bl c ∧ if c = true then tb Γ M1 Q else Q (.bl false) M1) : wAndV ta tb Γ M Q := h
theorem s_orV (h : ta Γ M fun x M1 => ∃ c, x = .bl c ∧ if c = true then Q (.bl true) M1 else tb Γ M1 Q) : wOrV ta tb Γ M Q := h
theorem s_notV (h : ta Γ M fun x M1 => ∃ c, x = .bl c ∧ Q (.bl (!c)) M1) : wNotV ta Γ M Q := h
theorem s_ifE {c : TTw} (h : c Γ M fun b M1 => if b = true then ta Γ M1 Q else tb Γ M1 Q) : wIfE c ta tb Γ M Q := h
theorem s_seq {t u : TSw} (h : t ⟨u ⟨n, r, bk, ct⟩, r, bk, ct⟩ Γ M) : wSeq t u ⟨n, r, bk, ct⟩ Γ M := h
theorem s_par {t : TAw} (h : t Γ M fun l M1 => ∃ x y, l = [x, y] ∧ n ((Γ.set i (some x)).set j (some y)) M1) : wPar i j t ⟨n, r, bk, ct⟩ Γ M := h
theorem s_two {R : W → W → Prop} (h : R x y) : ∃ a b, [x, y] = [a, b] ∧ R a b := ⟨x, y, rfl, h⟩
theorem s_drop (h : te Γ M fun _ M1 => n Γ M1) : wDrop te ⟨n, r, bk, ct⟩ Γ M := h
theorem s_next (h : n Γ M) : wNext ⟨n, r, bk, ct⟩ Γ M := h
theorem s_brk (h : bk Γ M) : wBreak ⟨n, r, bk, ct⟩ Γ M := h
theorem s_cont (h : ct Γ M) : wCont ⟨n, r, bk, ct⟩ Γ M := h
theorem s_i1 {g : Int → W} (h : Q (g a) M) : cI1 g [.int a] M Q := ⟨a, rfl, h⟩
theorem s_i2 {g : Int → Int → W} (h : Q (g a b) M) : cI2 g [.int a, .int b] M Q := ⟨a, b, rfl, h⟩
theorem s_intI (h : Q (.int a) M) : cInt [.int a] M Q := .inl ⟨a, rfl, h⟩
theorem s_intB (h : Q (.int (if k = true then 1 else 0)) M) : cInt [.bl k] M Q := .inr ⟨k, rfl, h⟩
theorem s_lenL {l : List W} (e : M p = some (.lst l)) (h : Q (.int (l.length : Int)) M) : cLen [.ref p] M Q := ⟨_, _, rfl, .inl ⟨l, .inr e, rfl⟩, h⟩
theorem s_lenF {l : List W} (h : Q (.int (l.length : Int)) M) : cLen [.frl l] M Q := ⟨_, _, rfl, .inl ⟨l, .inr rfl, rfl⟩, h⟩
theorem s_lenT {l : List W} (h : Q (.int (l.length : Int)) M) : cLen [.tup l] M Q := ⟨_, _, rfl, .inl ⟨l, .inl rfl, rfl⟩, h⟩
theorem s_listOf {l : List W} (e : M p = some (.lst l)) (h : ∀ q, M q = none → Q (.ref q) (updM M q (.lst l))) : cListOf [.ref p] M Q := ⟨_, l, rfl, .inr e, h⟩
theorem s_tupOf {l : List W} (e : M p = some (.lst l)) (h : Q (.tup l) M) : cTupOf [.ref p] M Q := ⟨_, l, rfl, .inr e, h⟩
theorem s_bm {rm : RMw} {t : TAw} (h : te Γ M fun x M1 => (∃ a l, x = .ref a ∧ M1 a = some (.lst l)) ∧ t Γ M1 fun xs M2 => rm x xs M2 Q) : wBM rm te t Γ M Q := h
theorem s_isl {R : Prop} {l : List W} (e : M p = some (.lst l)) (h : R) : (∃ a l, W.ref p = .ref a ∧ M a = some (.lst l)) ∧ R := ⟨⟨p, l, rfl, e⟩, h⟩
theorem s_app {l : List W} (e : M p = some (.lst l)) (z : l.length < sizeLine) (h : Q .non (updM M p (.lst (l ++ [x])))) : mAppend (.ref p) [x] M Q := ⟨p, l, x, rfl, rfl, e, z, h⟩
theorem s_slT {lo hi : Option Int} {l : List W} (h : Q (.tup (cutW l lo hi)) M) : sTL (.tup l) lo hi M Q := .inl ⟨l, rfl, h⟩
theorem s_sl {o : RSw} {tl th : TOw} (h : te Γ M fun x M1 => tl Γ M1 fun l M2 => th Γ M2 fun u M3 => o x l u M3 Q) : wSl o te tl th Γ M Q := h
theorem s_no {R : Option Int → Mh → Prop} (h : R none M) : wNo Γ M R := h
theorem s_part {R : Option Int → Mh → Prop} (h : te Γ M fun x M1 => ∃ i, x = .int i ∧ R (some i) M1) : wPart te Γ M R := h
theorem s_int {R : Int → Prop} (h : R a) : ∃ c, W.int a = .int c ∧ R c := ⟨a, rfl, h⟩
theorem s_dnew {hf : NestedKey → Int} (h : ∀ p, M p = none → Q (.ref p) (updM M p (.dic hf []))) : wDNew hf Γ M Q := h
theorem s_ixD {hf : NestedKey → Int} {kvs : List (NestedKey × W)} {k : NestedKey} {v : W} (e : M p = some (.dic hf kvs)) (hk : y = kw k) (kd : k.depth ≤ 8) (g : dget kvs k = some v) (h : Q v M) : ixD hf (.ref p) y M Q := ⟨p, kvs, k, v, rfl, hk, kd, e, g, h⟩
theorem s_setD {hf : NestedKey → Int} {kvs : List (NestedKey × W)} {k : NestedKey} {R : Mh → Prop} (e : M p = some (.dic hf kvs)) (hk : y = kw k) (kd : k.depth ≤ 8) (z : kvs.length < sizeLine) (h : R (updM M p (.dic hf (dput kvs k w)))) : setD hf (.ref p) y w M R := ⟨p, kvs, k, rfl, hk, kd, e, z, h⟩
/-- a while, by a word with its measure -/
theorem s_while {c : TTw} {tb : TSw} (Wd : Nat → Env → Mh → Prop) (m : Nat) (h0 : Wd m Γ M) (turn : ∀ m Γ M, Wd m Γ M → c Γ M fun b M1 => if b = true then ∃ N : Env → Mh → Prop, (∀ Γ' M', N Γ' M' → ∃ m', m' < m ∧ Wd m' Γ' M') ∧ tb ⟨N, r, n, N⟩ Γ M1 else n Γ M1) : wWhile c tb ⟨n, r, bk, ct⟩ Γ M := ⟨Wd, ⟨m, h0⟩, turn⟩
/-! loops, comprehensions -/
def forK (g : TGw) (tb : TSw) (D : EndsW) (Γ : Env) : ItW → Mh → Prop := fun J M1 => ∃ (n : Nat) (P : Nat → Env → Mh → Prop), P 0 Γ M1 ∧ ∀ i Γ' M', i ≤ n → P i Γ' M' →
  (i = n → J.stop i M' ∧ D.nx Γ' M') ∧ (i < n → ∃ x, J.go i M' x ∧ g x Γ' M' fun Γ2 M2 => tb { D with nx := P (i + 1), ct := P (i + 1), bk := D.nx } Γ2 M2)
def lcK (g : TGw) (tt : TTw) (te : TEw) (vs : List Nat) (Γ : Env) (Q : WK) : ItW → Mh → Prop := fun J M1 => ∀ D, M1 D = none → ∃ (n : Nat) (P : Nat → Mh → Prop), P 0 (updM M1 D (.lst [])) ∧ ∀ i M', i ≤ n → P i M' →
  (i = n → J.stop i M' ∧ Q (.ref D) M') ∧ (i < n → ∃ x, J.go i M' x ∧ g x (wipeW Γ vs) M' fun Γ2 M2 => tt Γ2 M2 fun b M3 =>
    if b = true then te Γ2 M3 fun y M4 => ∃ acc, M4 D = some (.lst acc) ∧ acc.length < sizeLine ∧ P (i + 1) (updM M4 D (.lst (acc ++ [y]))) else P (i + 1) M3)
theorem s_for {wi : TIw} {g : TGw} {tb : TSw} {D : EndsW} (h : wi Γ M (forK g tb D Γ)) : wFor wi g tb D Γ M := h
theorem s_lc {wi : TIw} {g : TGw} {tt : TTw} {vs : List Nat} (h : wi Γ M (lcK g tt te vs Γ Q)) : wLc wi g tt te vs Γ M Q := h
theorem s_iseq {R : ItW → Mh → Prop} (h : te Γ M fun w M1 => seqW M1 w ∧ R (itSeq w) M1) : wiSeq te Γ M R := h
theorem s_irng {R : ItW → Mh → Prop} {t : TAw} (h : t Γ M fun l M1 => ∃ j : Int, l = [.int j] ∧ -(2 ^ 62) ≤ j ∧ j < 2 ^ 62 ∧ R (itRng 0 j.toNat) M1) : wiRng1 t Γ M R := h
/-- a walk over a list's items: P by the turn -/
theorem f_seq {g : TGw} {tb : TSw} {l : List W} (e : w = .tup l ∨ itemsL M w l) (P : Nat → Env → Mh → Prop) (p0 : P 0 Γ M) (st : ∀ i Γ' M', i ≤ l.length → P i Γ' M' → (w = .tup l ∨ itemsL M' w l)) (fin : ∀ Γ' M', P l.length Γ' M' → n Γ' M')
    (turn : ∀ i x Γ' M', l[i]? = some x → P i Γ' M' → g x Γ' M' fun Γ2 M2 => tb ⟨P (i + 1), r, n, P (i + 1)⟩ Γ2 M2) : seqW M w ∧ forK g tb ⟨n, r, bk, ct⟩ Γ (itSeq w) M := by
  refine ⟨⟨l, e⟩, l.length, P, p0, fun i Γ' M' hi p => ⟨fun z => ?_, fun z => ?_⟩⟩
  · subst z; exact ⟨⟨l, st _ _ _ hi p, Nat.le_refl _⟩, fin _ _ p⟩
  · exact ⟨l[i], ⟨l, st _ _ _ hi p, List.getElem?_eq_getElem z⟩, turn i _ _ _ (List.getElem?_eq_getElem z) p⟩
theorem f_rng {g : TGw} {tb : TSw} (b1 : -(2 ^ 62) ≤ a) (b2 : a < 2 ^ 62) (P : Nat → Env → Mh → Prop) (p0 : P 0 Γ M) (fin : ∀ Γ' M', P a.toNat Γ' M' → n Γ' M')
    (turn : ∀ (i : Nat) Γ' M', i < a.toNat → P i Γ' M' → g (.int i) Γ' M' fun Γ2 M2 => tb ⟨P (i + 1), r, n, P (i + 1)⟩ Γ2 M2) : ∃ j : Int, [W.int a] = [.int j] ∧ -(2 ^ 62) ≤ j ∧ j < 2 ^ 62 ∧ forK g tb ⟨n, r, bk, ct⟩ Γ (itRng 0 j.toNat) M := by
  refine ⟨a, rfl, b1, b2, a.toNat, P, p0, fun i Γ' M' hi p => ⟨fun z => ?_, fun z => ?_⟩⟩
  · subst z; exact ⟨Nat.le_refl _, fin _ _ p⟩
  · exact ⟨.int (0 + i), ⟨z, rfl⟩, by rw [Int.zero_add]; exact turn i _ _ z p⟩
theorem items_upd {D : Addr} {o : MO} {l : List W} (h : w = .tup l ∨ itemsL M w l) (hD : M D = none) : w = .tup l ∨ itemsL (updM M D o) w l := by
  rcases h with h | h
  · exact .inl h
  · right
    cases w with
    | ref a =>
      have h : M a = some (.lst l) := h
      show updM M D o a = some (.lst l)
      rw [updM_ne (fun z => by rw [z, hD] at h; cases h)]
      exact h
    | frl k => exact h
    | _ => exact h.elim
/-- a comprehension that changes nothing: f tells what an item adds -/
theorem f_lcP {g : TGw} {tt : TTw} {vs : List Nat} {l : List W} (f : W → Option W) (e : w = .tup l ∨ itemsL M w l) (hz : l.length < sizeLine)
    (turn : ∀ (D : Addr) (acc : List W) (x : W) (K1 : WK) (K2 : Mh → Prop), M D = none → x ∈ l → (∀ y, f x = some y → K1 y (updM M D (.lst acc))) → (f x = none → K2 (updM M D (.lst acc))) →
      g x (wipeW Γ vs) (updM M D (.lst acc)) fun Γ2 M2 => tt Γ2 M2 fun b M3 => if b = true then te Γ2 M3 K1 else K2 M3)
    (fin : ∀ D, M D = none → Q (.ref D) (updM M D (.lst (l.filterMap f)))) : seqW M w ∧ lcK g tt te vs Γ Q (itSeq w) M := by
  refine ⟨⟨l, e⟩, fun D hD => ⟨l.length, fun i M' => M' = updM M D (.lst ((l.take i).filterMap f)), by show _ = updM M D (.lst ((l.take 0).filterMap f)); rw [List.take_zero]; rfl, ?_⟩⟩
  rintro i M' hi rfl
  refine ⟨fun z => ?_, fun z => ?_⟩
  · subst z
    rw [List.take_length]
    exact ⟨⟨l, items_upd e hD, Nat.le_refl _⟩, fin D hD⟩
  · have hx : l[i]? = some l[i] := List.getElem?_eq_getElem z
    refine ⟨l[i], ⟨l, items_upd e hD, hx⟩, turn D _ _ _ _ hD (List.getElem_mem z) (fun y hy => ⟨_, updM_same, ?_, ?_⟩) fun hy => ?_⟩
    · refine Nat.lt_of_le_of_lt (List.length_filterMap_le ..) ?_
      rw [List.length_take]; omega
    · show _ = updM M D (.lst ((l.take (i + 1)).filterMap f))
      rw [updM_updM, List.take_add_one, hx, List.filterMap_append]
      simp [hy]
    · show _ = updM M D (.lst ((l.take (i + 1)).filterMap f))
      rw [List.take_add_one, hx, List.filterMap_append]
      simp [hy]
theorem f_lcR {g : TGw} {tt : TTw} {vs : List Nat} (f : Nat → W) (b1 : -(2 ^ 62) ≤ a) (b2 : a < 2 ^ 62) (hz : a.toNat < sizeLine)
    (turn : ∀ (D : Addr) (acc : List W) (i : Nat) (K1 : WK) (K2 : Mh → Prop), M D = none → i < a.toNat → K1 (f i) (updM M D (.lst acc)) → g (.int i) (wipeW Γ vs) (updM M D (.lst acc)) fun Γ2 M2 => tt Γ2 M2 fun b M3 => if b = true then te Γ2 M3 K1 else K2 M3)
    (fin : ∀ D, M D = none → Q (.ref D) (updM M D (.lst ((List.range a.toNat).map f)))) : ∃ j : Int, [W.int a] = [.int j] ∧ -(2 ^ 62) ≤ j ∧ j < 2 ^ 62 ∧ lcK g tt te vs Γ Q (itRng 0 j.toNat) M := by
  refine ⟨a, rfl, b1, b2, fun D hD => ⟨a.toNat, fun i M' => M' = updM M D (.lst ((List.range i).map f)), rfl, ?_⟩⟩
  rintro i M' hi rfl
  refine ⟨fun z => ?_, fun z => ?_⟩
  · subst z
    exact ⟨Nat.le_refl _, fin D hD⟩
  · refine ⟨.int (0 + i), ⟨z, rfl⟩, by
      rw [Int.zero_add]
      refine turn D _ i _ _ hD z ⟨_, updM_same, ?_, ?_⟩
      · rw [List.length_map, List.length_range]; omega
      · show _ = updM M D (.lst ((List.range (i + 1)).map f))
        rw [updM_updM, List.range_succ, List.map_append]; rfl⟩
theorem s_sortK {N : List Str} {js : List Nat} (h : te Γ M (sortRest N js tb Γ Q)) : wSortK N js te tb Γ M Q := h
end
end Dw
set_option maxRecDepth 100000
set_option maxHeartbeats 4000000
/-! Km: the plain mathematics of k61: times as sixtieths, sounds, their order. -/
namespace K61
open PySem Dw
open L2 (atI ixN)
theorem pos_of_mul {a b : Int} (h : 0 < a) (h2 : 0 < a * b) : 0 < b := by
  rcases Int.lt_trichotomy 0 b with h3 | h3 | h3
  · exact h3
  · subst h3; simp at h2
  · have := Int.mul_neg_of_pos_of_neg h h3; omega
theorem mul_cancel {a b c : Int} (h : 0 < a) (e : a * b = a * c) : b = c := Int.eq_of_mul_eq_mul_left (by omega) e
theorem gcd_pos2 {x y : Int} (h : 0 < y) : 0 < (Int.gcd x y : Int) := by
  have : 0 < Int.gcd x y := Int.gcd_pos_of_ne_zero_right x (by omega)
  omega
/-- one number, told by two fractions: lowest terms -/
theorem red_eq {x y k m : Int} (hy : 0 < y) (hm : 0 < m) (h : x * m = k * y) : x / (Int.gcd x y : Int) = k / (Int.gcd k m : Int) ∧ y / (Int.gcd x y : Int) = m / (Int.gcd k m : Int) := by
  have e1 : Int.gcd (x * m) (y * m) = Int.gcd x y * m.natAbs := Int.gcd_mul_right ..
  have e2 : Int.gcd (k * y) (m * y) = Int.gcd k m * y.natAbs := Int.gcd_mul_right ..
  have e3 : y * m = m * y := Int.mul_comm ..
  rw [h, e3, e2] at e1
  have e4 : (Int.gcd k m : Int) * y = (Int.gcd x y : Int) * m := by
    have := congrArg (fun n : Nat => (n : Int)) e1
    simp only [Int.natCast_mul, Int.natAbs_of_nonneg (Int.le_of_lt hy), Int.natAbs_of_nonneg (Int.le_of_lt hm)] at this
    exact this
  have g1 := gcd_pos2 (x := x) hy
  have g2 := gcd_pos2 (x := k) hm
  obtain ⟨p, hp⟩ := Int.gcd_dvd_left x y
  obtain ⟨q, hq⟩ := Int.gcd_dvd_right x y
  obtain ⟨p', hp'⟩ := Int.gcd_dvd_left k m
  obtain ⟨q', hq'⟩ := Int.gcd_dvd_right k m
  generalize (Int.gcd x y : Int) = g at *
  generalize (Int.gcd k m : Int) = g' at *
  subst hp hq hp' hq'
  have qq : q = q' := by
    refine mul_cancel (a := g * g') (Int.mul_pos g1 g2) ?_
    grind
  subst qq
  have hq0 : 0 < q := pos_of_mul g1 hy
  have pp : p = p' := by
    refine mul_cancel (a := g * g' * q) (Int.mul_pos (Int.mul_pos g1 g2) hq0) ?_
    grind
  subst pp
  rw [Int.mul_ediv_cancel_left _ (by omega), Int.mul_ediv_cancel_left _ (by omega), Int.mul_ediv_cancel_left _ (by omega), Int.mul_ediv_cancel_left _ (by omega)]
  exact ⟨rfl, rfl⟩
def fr (a b : Int) : W := .tup [.int a, .int b]
def gc (k : Int) : Int := (Int.gcd k 60 : Nat)
/-- numerator, denominator of k sixtieths -/
def nu (k : Int) : Int := k / gc k
def de (k : Int) : Int := 60 / gc k
/-- k sixtieths, in lowest terms -/
def tm (k : Int) : W := fr (nu k) (de k)
theorem gc_pos (k : Int) : 0 < gc k := gcd_pos2 (by decide)
theorem gc_dvd (k : Int) : gc k ∣ k := Int.gcd_dvd_left ..
theorem gc_dvd60 (k : Int) : gc k ∣ 60 := Int.gcd_dvd_right ..
theorem gc_le (k : Int) : gc k ≤ 60 := Int.le_of_dvd (by decide) (gc_dvd60 k)
theorem nu_mul (k : Int) : gc k * nu k = k := Int.mul_ediv_cancel' (gc_dvd k)
theorem de_mul (k : Int) : gc k * de k = 60 := Int.mul_ediv_cancel' (gc_dvd60 k)
theorem de_pos (k : Int) : 0 < de k := pos_of_mul (gc_pos k) (by rw [de_mul]; decide)
theorem de_le (k : Int) : de k ≤ 60 := Int.le_of_dvd (by decide) ⟨gc k, by rw [Int.mul_comm]; exact (de_mul k).symm⟩
theorem de_dvd (k : Int) : de k ∣ 60 := ⟨gc k, by rw [Int.mul_comm]; exact (de_mul k).symm⟩
theorem nu_de (k : Int) : nu k * 60 = k * de k := by
  have h1 := nu_mul k
  have h2 := de_mul k
  refine mul_cancel (gc_pos k) ?_
  grind
/-- what lowest terms of a fraction of the value k/60 are -/
theorem red_tm {x y k : Int} (hy : 0 < y) (h : x * 60 = k * y) : x / (Int.gcd x y : Int) = nu k ∧ y / (Int.gcd x y : Int) = de k := red_eq hy (by decide) h
theorem tm_lt (a b : Int) : nu a * de b < nu b * de a ↔ a < b := by
  have h1 := nu_de a
  have h2 := nu_de b
  have h3 := Int.mul_pos (de_pos a) (de_pos b)
  constructor
  · intro h
    have : a * (de a * de b) < b * (de a * de b) := by
      have e1 : nu a * de b * 60 = a * (de a * de b) := by grind
      have e2 : nu b * de a * 60 = b * (de a * de b) := by grind
      omega
    exact Int.lt_of_mul_lt_mul_right this (Int.le_of_lt h3)
  · intro h
    have : a * (de a * de b) < b * (de a * de b) := Int.mul_lt_mul_of_pos_right h h3
    have e1 : nu a * de b * 60 = a * (de a * de b) := by grind
    have e2 : nu b * de a * 60 = b * (de a * de b) := by grind
    omega
theorem tm_sub (a b : Int) : (nu a * de b - nu b * de a) * 60 = (a - b) * (de a * de b) := by
  have h1 := nu_de a
  have h2 := nu_de b
  grind
theorem tm_add (a b : Int) : (nu a * de b + nu b * de a) * 60 = (a + b) * (de a * de b) := by
  have h1 := nu_de a
  have h2 := nu_de b
  grind
/-- the key of a time -/
def tkey (k : Int) : NestedKey := .tup [.num (nu k), .num (de k)]
theorem kw_tkey (k : Int) : kw (tkey k) = tm k := rfl
theorem nu_de_inj {a b : Int} (h : nu a = nu b) (h2 : de a = de b) : a = b := by
  have h1 := nu_de a
  have h3 := nu_de b
  rw [h, h2] at h1
  exact Int.eq_of_mul_eq_mul_right (Int.ne_of_gt (de_pos b)) (h1.symm.trans h3)
theorem tkey_inj {a b : Int} (h : tkey a = tkey b) : a = b := by
  unfold tkey at h
  injection h with h
  injection h with h h2
  injection h with h
  injection h2 with h2
  injection h2 with h2
  exact nu_de_inj h h2
/-- the rank of k, by a common bottom -/
def rkOf (L k : Int) : Int := nu k * (L / de k)
theorem rk_mul {L k : Int} (h : de k ∣ L) : rkOf L k * 60 = k * L := by
  obtain ⟨c, rfl⟩ := h
  unfold rkOf
  rw [Int.mul_ediv_cancel_left _ (Int.ne_of_gt (de_pos k))]
  have := nu_de k
  grind
theorem rk_lt {L a b : Int} (hL : 0 < L) (ha : de a ∣ L) (hb : de b ∣ L) : rkOf L a < rkOf L b ↔ a < b := by
  have h1 := rk_mul ha
  have h2 := rk_mul hb
  constructor
  · intro h
    have : a * L < b * L := by omega
    exact Int.lt_of_mul_lt_mul_right this (Int.le_of_lt hL)
  · intro h
    have : a * L < b * L := Int.mul_lt_mul_of_pos_right h hL
    omega
/-! bounds -/
theorem nu_abs {k B : Int} (h1 : -B ≤ k) (h2 : k ≤ B) : -B ≤ nu k ∧ nu k ≤ B := by
  have h := nu_mul k
  have g := gc_pos k
  constructor
  · by_cases z : nu k < -B
    · have : gc k * nu k ≤ 1 * nu k := Int.mul_le_mul_of_nonpos_right (by omega) (by omega)
      omega
    · omega
  · by_cases z : B < nu k
    · have : 1 * nu k ≤ gc k * nu k := Int.mul_le_mul_of_nonneg_right (by omega) (by omega)
      omega
    · omega
/-- what may be multiplied -/
theorem cm {i j : Int} (h1 : i.natAbs < 2 ^ 64) (h2 : j.natAbs < 2 ^ 64) : L2.CMulX i j := by
  have a := PySem.intBits_le_iff.mpr h1
  have b := PySem.intBits_le_iff.mpr h2
  unfold L2.CMulX
  omega
theorem cmX {i j : Int} {m n : Nat} (h1 : i.natAbs < 2 ^ m) (h2 : j.natAbs < 2 ^ n) (h : m + n ≤ 134217728) : L2.CMulX i j := by
  have a := PySem.intBits_le_iff.mpr h1
  have b := PySem.intBits_le_iff.mpr h2
  unfold L2.CMulX
  omega
theorem cd {i j : Int} (h : 0 < j) (h2 : j < 2 ^ 64) : CDivW2 i j := by
  refine ⟨h, ?_⟩
  have h3 : j.natAbs < 2 ^ 64 := by omega
  have : j.natAbs.log2 < 64 := (Nat.log2_lt (by omega)).mpr h3
  omega
/-! ### sounds -/
/-- bounds of times -/
def TB (k : Int) : Prop := -100000000 ≤ k ∧ k ≤ 100000000
def om : Option Int → W
  | none => .non
  | some k => tm k
structure Snd where
  b : Int
  e : Option Int
  n : Str
  v : Int
  ps : List Int
def Snd.w (s : Snd) : W := .tup [tm s.b, om s.e, .str s.n, .int s.v, .tup (s.ps.map .int)]
/-- times of few figures; the end behind the begin -/
structure SndOk (s : Snd) : Prop where
  b : TB s.b
  e : ∀ k, s.e = some k → TB k ∧ s.b < k
/-- does it sound between x and y? -/
def btw (x y b : Int) (e : Option Int) : Bool := decide (b < y) && (match e with
  | none => true
  | some k => decide (x < k))
def mn (y : Int) : Option Int → Int
  | none => y
  | some k => if y < k then y else k
/-- moved, cut at both times -/
def cut (x y : Int) (s : Snd) : Snd := { s with b := (if s.b < x then x else s.b) - x, e := some (mn y s.e - x) }
def eKey (f : Int → Int) : Option Int → PyData
  | none => .tuple [.int 1, .int 0]
  | some k => .tuple [.int 0, .int (f k)]
/-- the order of times, then name, voice, pitches -/
def ck (s : Snd) : PyData := .tuple [.int s.b, eKey id s.e, .str s.n, .int s.v, .tuple (s.ps.map .int)]
def srt (ss : List Snd) : List Snd := ss.mergeSort (PySem.W.dataLe false ck)
def strt (x y : Int) (ss : List Snd) : List Snd := srt ((ss.filter fun s => btw x y s.b s.e).map (cut x y))
def eKeyW (f : Int → Int) : Option Int → W
  | none => .tup [.int 1, .int 0]
  | some k => .tup [.int 0, .int (f k)]
def lawKey (L : Int) (s : Snd) : W := .tup [.int (rkOf L s.b), eKeyW (rkOf L) s.e, .str s.n, .int s.v, .tup (s.ps.map .int)]
def NameOk (x : Str) : Prop := x.length ≤ 8 ∧ ∀ c ∈ x.cps.toList, 97 ≤ c ∧ c ≤ 122
def PitOk (ps : List Int) : Prop := ps.length ≤ 10 ∧ ∀ p ∈ ps, -1000 ≤ p ∧ p ≤ 1000
/-- a sound of the law -/
structure SndIn (s : Snd) : Prop where
  b : 0 ≤ s.b ∧ s.b ≤ 70000
  e : ∀ k, s.e = some k → s.b < k ∧ k ≤ 80000
  n : NameOk s.n
  v : 0 ≤ s.v ∧ s.v ≤ 3
  p : PitOk s.ps
theorem SndIn.ok {s : Snd} (h : SndIn s) : SndOk s := ⟨by have := h.b; unfold TB; omega, fun k e => by have := h.e k e; have := h.b; unfold TB; omega⟩
end K61
set_option maxRecDepth 100000
set_option maxHeartbeats 4000000
/-! Kt: the promises of the defs of k61, and their readings (printed by gen.py). -/
namespace K61
open PySem Dw
/-! ### promises -/
def sp_divisor : Spw := fun ws M Q => ∃ a b : Int, ws = [.int a, .int b] ∧ Q (.int (Int.gcd a b : Nat)) M
def sp_part : Spw := fun ws M Q => ∃ x y : Int, ws = [.int x, .int y] ∧ 0 < y ∧ y < 2 ^ 64 ∧ Q (fr (x / (Int.gcd x y : Nat)) (y / (Int.gcd x y : Nat))) M
def sp_minus : Spw := fun ws M Q => ∃ a b : Int, ws = [tm a, tm b] ∧ TB a ∧ TB b ∧ Q (tm (a - b)) M
def sp_less : Spw := fun ws M Q => ∃ a b : Int, ws = [tm a, tm b] ∧ TB a ∧ TB b ∧ Q (.bl (decide (a < b))) M
def sp_common_bottom : Spw := fun ws M Q => ∃ (p : Addr) (ks : List Int), ws = [.ref p] ∧ M p = some (.lst (ks.map tm)) ∧ ∀ L : Int, 0 < L → L ∣ 60 → (∀ k ∈ ks, de k ∣ L) → Q (.int L) M
def sp_ranks (hf : NestedKey → Int) : Spw := fun ws M Q => ∃ (p : Addr) (ms : List (Option Int)), ws = [.ref p] ∧ M p = some (.lst (ms.map om)) ∧ (∀ k, some k ∈ ms → TB k) ∧ ms.length ≤ 1000000 ∧
  ∀ (q : Addr) (M' : Mh) (kvs : List (NestedKey × W)) (L top : Int), Sub M M' → M' q = some (.dic hf kvs) → 0 < L → (∀ k, some k ∈ ms → de k ∣ L) → (∀ k, some k ∈ ms → dget kvs (tkey k) = some (.int (rkOf L k)) ∧ rkOf L k < top) → dget kvs .none = some (.int top) → Q (.ref q) M'
def sp_in_order : Spw := fun ws M Q => ∃ (p : Addr) (ss : List Snd), ws = [.ref p] ∧ M p = some (.lst (ss.map Snd.w)) ∧ (∀ s ∈ ss, SndOk s) ∧ ss.length ≤ 100000 ∧ ∀ (q : Addr) (M' : Mh), Sub M M' → M q = none → M' q = some (.lst ((srt ss).map Snd.w)) → Q (.ref q) M'
def sp_is_between : Spw := fun ws M Q => ∃ (b : Int) (e : Option Int) (x y : Int), ws = [tm b, om e, tm x, tm y] ∧ TB b ∧ (∀ k, e = some k → TB k) ∧ TB x ∧ TB y ∧ Q (.bl (btw x y b e)) M
def sp_cut_out : Spw := fun ws M Q => ∃ (s : Snd) (x y : Int), ws = [Snd.w s, tm x, tm y] ∧ SndOk s ∧ TB x ∧ TB y ∧ Q (Snd.w (cut x y s)) M
def sp_stretch : Spw := fun ws M Q => ∃ (p : Addr) (ss : List Snd) (x y : Int), ws = [.ref p, tm x, tm y] ∧ M p = some (.lst (ss.map Snd.w)) ∧ (∀ s ∈ ss, SndOk s) ∧ ss.length ≤ 100000 ∧ (0 ≤ x ∧ x < y ∧ y ≤ 10000000) ∧ ∀ (q : Addr) (M' : Mh), Sub M M' → M q = none → M' q = some (.lst ((strt x y ss).map Snd.w)) → Q (.ref q) M'
/-- the hand: its digits, its seed, its count -/
def Hand (a : Addr) (n : Int) (M : Mh) : Prop := ∃ x y z : Int, M a = some (.lst [.int x, .int y, .int z]) ∧ 0 ≤ x ∧ x.natAbs < 2 ^ 4000000 ∧ 0 ≤ y ∧ y < 2 ^ 62 ∧ 0 ≤ z ∧ z ≤ n
/-- all but a kept -/
def KB (a : Addr) (M M' : Mh) : Prop := ∀ b o, b ≠ a → M b = some o → M' b = some o
def sp_law_hand : Spw := fun ws M Q => ∃ (ns : List Int) (k : Int), ws = [.frl (ns.map .int), .int k] ∧ 0 ≤ k ∧ k ≤ 1000 ∧ (∀ z ∈ ns, Builtin.Int.intBits z ≤ 1048576) ∧ ns.length ≤ 63 ∧ ∀ (a : Addr) (M' : Mh), Sub M M' → M a = none → Hand a 0 M' → Q (.ref a) M'
def sp_law_take : Spw := fun ws M Q => ∃ (a : Addr) (m n : Int), ws = [.ref a, .int m] ∧ 0 < m ∧ m ≤ 1000000 ∧ Hand a n M ∧ n ≤ 1000000 ∧ ∀ (r : Int) (M' : Mh), 0 ≤ r → r < m → KB a M M' → Hand a (n + 1) M' → Q (.int r) M'
def sp_law_low : Spw := fun ws M Q => ∃ x y : Int, ws = [.int x, .int y] ∧ 0 < y ∧ y < 2 ^ 64 ∧ Q (fr (x / (Int.gcd x y : Nat)) (y / (Int.gcd x y : Nat))) M
def sp_law_plus : Spw := fun ws M Q => ∃ a b : Int, ws = [tm a, tm b] ∧ TB a ∧ TB b ∧ Q (tm (a + b)) M
def sp_law_minus : Spw := sp_minus
def sp_law_less : Spw := sp_less
def sp_law_length : Spw := fun ws M Q => ∃ (a : Addr) (n : Int), ws = [.ref a] ∧ Hand a n M ∧ n ≤ 1000000 ∧ ∀ (k : Int) (M' : Mh), 0 < k → k ≤ 300 → KB a M M' → Hand a (n + 1) M' → Q (tm k) M'
def sp_law_place : Spw := fun ws M Q => ∃ (a : Addr) (n : Int), ws = [.ref a] ∧ Hand a n M ∧ n ≤ 900000 ∧ ∀ (k : Int) (M' : Mh), 0 ≤ k → k ≤ 60000 → KB a M M' → Hand a (n + 3) M' → Q (tm k) M'
def sp_law_names : Spw := fun ws M Q => ∃ (a : Addr) (m n : Int), ws = [.ref a, .int m] ∧ 0 ≤ m ∧ m ≤ 1000 ∧ Hand a n M ∧ n ≤ 900000 ∧ ∀ (q : Addr) (xs : List Str) (M' : Mh), KB a M M' → M q = none → M' q = some (.lst (xs.map .str)) → (xs.length : Int) = m → (∀ x ∈ xs, NameOk x) → Hand a (n + 2) M' → Q (.ref q) M'
def sp_law_pitches : Spw := fun ws M Q => ∃ (a : Addr) (n : Int), ws = [.ref a] ∧ Hand a n M ∧ n ≤ 900000 ∧ ∀ (ps : List Int) (M' : Mh), KB a M M' → PitOk ps → Hand a (n + 7) M' → Q (.tup (ps.map .int)) M'
def sp_law_key : Spw := fun ws M Q => ∃ (s : Snd) (L : Int), ws = [Snd.w s, .int L] ∧ SndOk s ∧ 0 < L ∧ L ∣ 60 ∧ de s.b ∣ L ∧ (∀ k, s.e = some k → de k ∣ L) ∧ Q (lawKey L s) M
def sp_law_sorted : Spw := sp_in_order
def sp_law_cut : Spw := sp_stretch
def sp_law_sounds : Spw := fun ws M Q => ∃ (a : Addr) (n : Int), ws = [.ref a] ∧ Hand a n M ∧ n ≤ 800000 ∧ ∀ (q : Addr) (ss : List Snd) (M' : Mh), KB a M M' → M q = none → M' q = some (.lst (ss.map Snd.w)) → (∀ s ∈ ss, SndIn s) → ss.length ≤ 300 → Hand a (n + 10000) M' → Q (.ref q) M'
def sp_law_time : Spw := fun ws M Q => ∃ (a q : Addr) (n : Int) (ss : List Snd), ws = [.ref a, .ref q] ∧ a ≠ q ∧ Hand a n M ∧ n ≤ 800000 ∧ M q = some (.lst (ss.map Snd.w)) ∧ (∀ s ∈ ss, SndIn s) ∧ ss.length ≤ 300 ∧ ∀ (k : Int) (M' : Mh), 0 ≤ k → k ≤ 100000 → KB a M M' → Hand a (n + 10) M' → Q (tm k) M'
def sp_law : Spw := fun ws M Q => ∃ ns : List Int, ws = [.frl (ns.map .int)] ∧ ns.length ≤ 63 ∧ (∀ z ∈ ns, Builtin.Int.intBits z ≤ 1048576) ∧ ∀ M', Q (.bl true) M'
/-! ### readings -/
abbrev N_divisor : List Str := ["one", "other"]
def t_divisor : TSw :=
  (wSeq (wPar 0 1 (wCons (wCB (cI1 fun i => .int (if i < 0 then -i else i)) (wCons (wVar 0) wNil)) (wCons (wCB (cI1 fun i => .int (if i < 0 then -i else i)) (wCons (wVar 1) wNil)) wNil)))
  (wSeq (wWhile (wTest (wOp oGtI (wVar 1) (wC (.int 0)))) (wPar 0 1 (wCons (wVar 1) (wCons (wOp oModI (wVar 0) (wVar 1)) wNil))))
  (wRet (wVar 0))))
abbrev N_part : List Str := ["top", "bottom", "by"]
def t_part : TSw :=
  (wSeq (wIf (wTest (wOp oLtI (wVar 1) (wC (.int 0)))) (wPar 0 1 (wCons (wUn (uI fun i => .int (-i)) (wVar 0)) (wCons (wUn (uI fun i => .int (-i)) (wVar 1)) wNil))) wNext)
  (wSeq (wAsg (wCB sp_divisor (wCons (wVar 0) (wCons (wVar 1) wNil))) (wgName 2))
  (wRet (wTup (wCons (wOp oDivI (wVar 0) (wVar 2)) (wCons (wOp oDivI (wVar 1) (wVar 2)) wNil))))))
abbrev N_minus : List Str := ["one", "other"]
def t_minus : TSw :=
  (wRet (wCB sp_part (wCons (wOp oSubI (wOp (orR oMulI oMulS) (wOp oIx (wVar 0) (wC (.int 0))) (wOp oIx (wVar 1) (wC (.int 1)))) (wOp (orR oMulI oMulS) (wOp oIx (wVar 1) (wC (.int 0))) (wOp oIx (wVar 0) (wC (.int 1))))) (wCons (wOp (orR oMulI oMulS) (wOp oIx (wVar 0) (wC (.int 1))) (wOp oIx (wVar 1) (wC (.int 1)))) wNil))))
abbrev N_less : List Str := ["one", "other"]
def t_less : TSw :=
  (wRet (wOp oLtI (wOp (orR oMulI oMulS) (wOp oIx (wVar 0) (wC (.int 0))) (wOp oIx (wVar 1) (wC (.int 1)))) (wOp (orR oMulI oMulS) (wOp oIx (wVar 1) (wC (.int 0))) (wOp oIx (wVar 0) (wC (.int 1))))))
abbrev N_common_bottom : List Str := ["parts", "bottom", "one"]
def t_common_bottom : TSw :=
  (wSeq (wAsg (wC (.int 1)) (wgName 1))
  (wSeq (wFor (wiSeq (wVar 0)) (wgName 2) (wAsg (wOp (orR oMulI oMulS) (wVar 1) (wOp oDivI (wOp oIx (wVar 2) (wC (.int 1))) (wCB sp_divisor (wCons (wVar 1) (wCons (wOp oIx (wVar 2) (wC (.int 1))) wNil))))) (wgName 1)))
  (wRet (wVar 1))))
abbrev N_ranks : List Str := ["moments", "time", "bottom", "found"]
def t_ranks (hf : NestedKey → Int) : TSw :=
  (wSeq (wAsg (wCB sp_common_bottom (wCons (wLc (wiSeq (wVar 0)) (wgName 1) (wTest (wOp (oIsN true) (wVar 1) (wC .non))) (wVar 1) [1]) wNil)) (wgName 2))
  (wSeq (wAsg (wDNew hf) (wgName 3))
  (wSeq (wFor (wiSeq (wVar 0)) (wgName 1) (wIf (wTest (wOp (oIsN true) (wVar 1) (wC .non))) (wAsg (wOp (orR oMulI oMulS) (wOp oIx (wVar 1) (wC (.int 0))) (wOp oDivI (wVar 2) (wOp oIx (wVar 1) (wC (.int 1))))) (wgSub (wVar 3) (wVar 1) (setD hf))) wNext))
  (wSeq (wAsg (wOp oAdd (wC (.int 1)) (wMaxD (wDVals hf (wVar 3)) (wC (.int 0)))) (wgSub (wVar 3) (wC .non) (setD hf)))
  (wRet (wVar 3))))))
abbrev N_in_order : List Str := ["some", "known", "sound"]
def t_in_order (hf : NestedKey → Int) : TSw :=
  (wSeq (wAsg (wCB (sp_ranks hf) (wCons (wOp oAdd (wLc (wiSeq (wVar 0)) (wgName 2) wYes (wOp oIx (wVar 2) (wC (.int 0))) [2]) (wLc (wiSeq (wVar 0)) (wgName 2) wYes (wOp oIx (wVar 2) (wC (.int 1))) [2])) wNil)) (wgName 1))
  (wRet (wSortK ["sound", "known"] [1] (wVar 0) (wOp oAdd (wTup (wCons (wOp (ixD hf) (wVar 1) (wOp oIx (wVar 0) (wC (.int 0)))) (wCons (wOp (ixD hf) (wVar 1) (wOp oIx (wVar 0) (wC (.int 1)))) wNil))) (wSl sTL (wVar 0) (wPart (wC (.int 2))) wNo)))))
abbrev N_is_between : List Str := ["begin", "end", "one", "other"]
def t_is_between : TSw :=
  (wRet (wAndV (wCB sp_less (wCons (wVar 0) (wCons (wVar 3) wNil))) (wOrV (wOp (oIsN false) (wVar 1) (wC .non)) (wCB sp_less (wCons (wVar 2) (wCons (wVar 1) wNil))))))
abbrev N_cut_out : List Str := ["sound", "one", "other", "begin", "end", "name", "voice", "pitches"]
def t_cut_out : TSw :=
  (wSeq (wAsg (wVar 0) (wgTup 5 (wgCons (wgName 3) (wgCons (wgName 4) (wgCons (wgName 5) (wgCons (wgName 6) (wgCons (wgName 7) wgNil)))))))
  (wSeq (wIf (wTest (wCB sp_less (wCons (wVar 3) (wCons (wVar 1) wNil)))) (wAsg (wVar 1) (wgName 3)) wNext)
  (wSeq (wIf (wOr (wTest (wOp (oIsN false) (wVar 4) (wC .non))) (wTest (wCB sp_less (wCons (wVar 2) (wCons (wVar 4) wNil))))) (wAsg (wVar 2) (wgName 4)) wNext)
  (wRet (wTup (wCons (wCB sp_minus (wCons (wVar 3) (wCons (wVar 1) wNil))) (wCons (wCB sp_minus (wCons (wVar 4) (wCons (wVar 1) wNil))) (wCons (wVar 5) (wCons (wVar 6) (wCons (wVar 7) wNil))))))))))
abbrev N_stretch : List Str := ["told", "one", "other", "sound"]
def t_stretch : TSw :=
  (wRet (wCB sp_in_order (wCons (wLc (wiSeq (wVar 0)) (wgName 3) (wTest (wCB sp_is_between (wCons (wOp oIx (wVar 3) (wC (.int 0))) (wCons (wOp oIx (wVar 3) (wC (.int 1))) (wCons (wVar 1) (wCons (wVar 2) wNil)))))) (wCB sp_cut_out (wCons (wVar 3) (wCons (wVar 1) (wCons (wVar 2) wNil)))) [3]) wNil)))
abbrev N_law_hand : List Str := ["_law_script", "_law_k", "_law_cell"]
def t_law_hand : TSw :=
  (wSeq (wAsg (wC (.int 0)) (wgName 2))
  (wSeq (wIf (wTest (wOp oLtI (wVar 1) (wCB cLen (wCons (wVar 0) wNil)))) (wAsg (wOp oIx (wVar 0) (wVar 1)) (wgName 2)) wNext)
  (wRet (wLst (wCons (wOp (orR oMulI oMulS) (wVar 2) (wCB cInt (wCons (wOp oGeI (wVar 2) (wOp oPowI (wC (.int 10)) (wC (.int 18)))) wNil))) (wCons (wOp oAdd (wOp oAdd (wOp oModI (wVar 2) (wC (.int 2305843009213693951))) (wOp (orR oMulI oMulS) (wC (.int 7919)) (wVar 1))) (wC (.int 3))) (wCons (wC (.int 0)) wNil)))))))
abbrev N_law_take : List Str := ["_law_hand_here", "_law_many", "_law_digit", "_law_turn", "_law_mixed", "_law_rest"]
def t_law_take : TSw :=
  (wSeq (wIf (wTest (wOp oGtI (wOp oIx (wVar 0) (wC (.int 0))) (wC (.int 0)))) (wSeq (wAsg (wOp oModI (wOp oIx (wVar 0) (wC (.int 0))) (wVar 1)) (wgName 2))
  (wSeq (wAsg (wOp oDivI (wOp oIx (wVar 0) (wC (.int 0))) (wVar 1)) (wgSub (wVar 0) (wC (.int 0)) setL))
  (wRet (wVar 2)))) wNext)
  (wSeq (wAsg (wOp oAdd (wOp oIx (wVar 0) (wC (.int 2))) (wC (.int 1))) (wgSub (wVar 0) (wC (.int 2)) setL))
  (wSeq (wAsg (wOp oIx (wVar 0) (wC (.int 2))) (wgName 3))
  (wSeq (wAsg (wOp oModI (wOp (orR oMulI oMulS) (wOp oIx (wVar 0) (wC (.int 1))) (wOp oAdd (wOp oAdd (wC (.int 48271)) (wOp (orR oMulI oMulS) (wOp (orR oMulI oMulS) (wC (.int 2)) (wVar 3)) (wVar 3))) (wOp (orR oMulI oMulS) (wC (.int 65537)) (wVar 3)))) (wC (.int 2305843009213693921))) (wgName 4))
  (wSeq (wAsg (wOp oAdd (wOp oAdd (wOp oModI (wVar 4) (wC (.int 1000003))) (wOp (orR oMulI oMulS) (wVar 3) (wC (.int 99991)))) (wC (.int 11))) (wgName 5))
  (wSeq (wAsg (wOp oModI (wOp (orR oMulI oMulS) (wVar 4) (wVar 5)) (wC (.int 2305843009213693907))) (wgName 4))
  (wRet (wOp oModI (wOp oAdd (wOp oDivI (wVar 4) (wC (.int 97))) (wOp oDivI (wVar 4) (wC (.int 1000033)))) (wVar 1)))))))))
abbrev N_law_low : List Str := ["_law_top", "_law_bottom", "_law_one", "_law_other"]
def t_law_low : TSw :=
  (wSeq (wPar 2 3 (wCons (wCB (cI1 fun i => .int (if i < 0 then -i else i)) (wCons (wVar 0) wNil)) (wCons (wVar 1) wNil)))
  (wSeq (wWhile (wTest (wOp oGtI (wVar 3) (wC (.int 0)))) (wPar 2 3 (wCons (wVar 3) (wCons (wOp oModI (wVar 2) (wVar 3)) wNil))))
  (wRet (wTup (wCons (wOp oDivI (wVar 0) (wVar 2)) (wCons (wOp oDivI (wVar 1) (wVar 2)) wNil))))))
abbrev N_law_plus : List Str := ["_law_one", "_law_other"]
def t_law_plus : TSw :=
  (wRet (wCB sp_law_low (wCons (wOp oAdd (wOp (orR oMulI oMulS) (wOp oIx (wVar 0) (wC (.int 0))) (wOp oIx (wVar 1) (wC (.int 1)))) (wOp (orR oMulI oMulS) (wOp oIx (wVar 1) (wC (.int 0))) (wOp oIx (wVar 0) (wC (.int 1))))) (wCons (wOp (orR oMulI oMulS) (wOp oIx (wVar 0) (wC (.int 1))) (wOp oIx (wVar 1) (wC (.int 1)))) wNil))))
abbrev N_law_minus : List Str := ["_law_one", "_law_other"]
def t_law_minus : TSw :=
  (wRet (wCB sp_law_low (wCons (wOp oSubI (wOp (orR oMulI oMulS) (wOp oIx (wVar 0) (wC (.int 0))) (wOp oIx (wVar 1) (wC (.int 1)))) (wOp (orR oMulI oMulS) (wOp oIx (wVar 1) (wC (.int 0))) (wOp oIx (wVar 0) (wC (.int 1))))) (wCons (wOp (orR oMulI oMulS) (wOp oIx (wVar 0) (wC (.int 1))) (wOp oIx (wVar 1) (wC (.int 1)))) wNil))))
abbrev N_law_less : List Str := ["_law_one", "_law_other"]
def t_law_less : TSw :=
  (wRet (wOp oLtI (wOp (orR oMulI oMulS) (wOp oIx (wVar 0) (wC (.int 0))) (wOp oIx (wVar 1) (wC (.int 1)))) (wOp (orR oMulI oMulS) (wOp oIx (wVar 1) (wC (.int 0))) (wOp oIx (wVar 0) (wC (.int 1))))))
abbrev N_law_length : List Str := ["_law_hand_here", "_law_some"]
def t_law_length : TSw :=
  (wSeq (wAsg (wLst (wCons (wTup (wCons (wC (.int 1)) (wCons (wC (.int 1)) wNil))) (wCons (wTup (wCons (wC (.int 1)) (wCons (wC (.int 2)) wNil))) (wCons (wTup (wCons (wC (.int 1)) (wCons (wC (.int 4)) wNil))) (wCons (wTup (wCons (wC (.int 3)) (wCons (wC (.int 4)) wNil))) (wCons (wTup (wCons (wC (.int 2)) (wCons (wC (.int 1)) wNil))) (wCons (wTup (wCons (wC (.int 1)) (wCons (wC (.int 3)) wNil))) (wCons (wTup (wCons (wC (.int 3)) (wCons (wC (.int 2)) wNil))) (wCons (wTup (wCons (wC (.int 2)) (wCons (wC (.int 3)) wNil))) (wCons (wTup (wCons (wC (.int 1)) (wCons (wC (.int 5)) wNil))) (wCons (wTup (wCons (wC (.int 7)) (wCons (wC (.int 5)) wNil))) (wCons (wTup (wCons (wC (.int 9)) (wCons (wC (.int 10)) wNil))) (wCons (wTup (wCons (wC (.int 5)) (wCons (wC (.int 1)) wNil))) wNil))))))))))))) (wgName 1))
  (wRet (wOp oIx (wVar 1) (wCB sp_law_take (wCons (wVar 0) (wCons (wC (.int 12)) wNil))))))
abbrev N_law_place : List Str := ["_law_hand_here", "_law_top"]
def t_law_place : TSw :=
  (wSeq (wAsg (wCB sp_law_take (wCons (wVar 0) (wCons (wOp oIx (wLst (wCons (wC (.int 9)) (wCons (wC (.int 40)) (wCons (wC (.int 999)) wNil)))) (wOp oDivI (wCB sp_law_take (wCons (wVar 0) (wCons (wC (.int 8)) wNil))) (wC (.int 3)))) wNil))) (wgName 1))
  (wRet (wCB sp_law_low (wCons (wVar 1) (wCons (wOp oIx (wLst (wCons (wC (.int 1)) (wCons (wC (.int 2)) (wCons (wC (.int 3)) (wCons (wC (.int 5)) (wCons (wC (.int 12)) wNil)))))) (wCB sp_law_take (wCons (wVar 0) (wCons (wC (.int 5)) wNil)))) wNil)))))
abbrev N_law_names : List Str := ["_law_hand_here", "_law_many", "_law_letters", "_law_first", "_law_step", "_law_k"]
def t_law_names : TSw :=
  (wSeq (wAsg (wC (.str "abcdefghijklmnopqrstuvwxyz")) (wgName 2))
  (wSeq (wAsg (wCB sp_law_take (wCons (wVar 0) (wCons (wC (.int 26)) wNil))) (wgName 3))
  (wSeq (wAsg (wOp oIx (wLst (wCons (wC (.int 1)) (wCons (wC (.int 3)) (wCons (wC (.int 5)) (wCons (wC (.int 7)) (wCons (wC (.int 9)) (wCons (wC (.int 11)) wNil))))))) (wCB sp_law_take (wCons (wVar 0) (wCons (wC (.int 6)) wNil)))) (wgName 4))
  (wRet (wLc (wiRng1 (wCons (wVar 1) wNil)) (wgName 5) wYes (wOp (orR oMulI oMulS) (wOp oIx (wVar 2) (wOp oModI (wOp oAdd (wVar 3) (wOp (orR oMulI oMulS) (wVar 4) (wVar 5))) (wC (.int 26)))) (wOp oAdd (wC (.int 1)) (wOp oModI (wOp oAdd (wVar 5) (wVar 3)) (wC (.int 8))))) [5])))))
abbrev N_law_pitches : List Str := ["_law_hand_here", "_law_pitches_here", "_law_k"]
def t_law_pitches : TSw :=
  (wSeq (wAsg (wLst (wCons (wOp oSubI (wCB sp_law_take (wCons (wVar 0) (wCons (wC (.int 60)) wNil))) (wC (.int 9))) wNil)) (wgName 1))
  (wSeq (wFor (wiRng1 (wCons (wOp oIx (wLst (wCons (wC (.int 0)) (wCons (wC (.int 0)) (wCons (wC (.int 0)) (wCons (wC (.int 1)) (wCons (wC (.int 2)) (wCons (wC (.int 5)) wNil))))))) (wCB sp_law_take (wCons (wVar 0) (wCons (wC (.int 6)) wNil)))) wNil)) (wgName 2) (wDrop (wBM mAppend (wVar 1) (wCons (wOp oAdd (wOp oAdd (wOp oIx (wVar 1) (wUn (uI fun i => .int (-i)) (wC (.int 1)))) (wC (.int 1))) (wCB sp_law_take (wCons (wVar 0) (wCons (wC (.int 7)) wNil)))) wNil))))
  (wRet (wCB cTupOf (wCons (wVar 1) wNil)))))
abbrev N_law_key : List Str := ["_law_sound", "_law_bottom", "_law_begin", "_law_end", "_law_name", "_law_voice", "_law_pitches_here", "_law_last"]
def t_law_key : TSw :=
  (wSeq (wAsg (wVar 0) (wgTup 5 (wgCons (wgName 2) (wgCons (wgName 3) (wgCons (wgName 4) (wgCons (wgName 5) (wgCons (wgName 6) wgNil)))))))
  (wSeq (wAsg (wTup (wCons (wC (.int 1)) (wCons (wC (.int 0)) wNil))) (wgName 7))
  (wSeq (wIf (wTest (wOp (oIsN true) (wVar 3) (wC .non))) (wAsg (wTup (wCons (wC (.int 0)) (wCons (wOp (orR oMulI oMulS) (wOp oIx (wVar 3) (wC (.int 0))) (wOp oDivI (wVar 1) (wOp oIx (wVar 3) (wC (.int 1))))) wNil))) (wgName 7)) wNext)
  (wRet (wTup (wCons (wOp (orR oMulI oMulS) (wOp oIx (wVar 2) (wC (.int 0))) (wOp oDivI (wVar 1) (wOp oIx (wVar 2) (wC (.int 1))))) (wCons (wVar 7) (wCons (wVar 4) (wCons (wVar 5) (wCons (wVar 6) wNil))))))))))
abbrev N_law_sorted : List Str := ["_law_told_ones", "_law_begin", "_law_end", "_law_name", "_law_voice", "_law_pitches_here", "_law_time_here", "_law_bottom"]
def t_law_sorted : TSw :=
  (wSeq (wAsg (wC (.int 1)) (wgName 7))
  (wSeq (wFor (wiSeq (wVar 0)) (wgTup 5 (wgCons (wgName 1) (wgCons (wgName 2) (wgCons (wgName 3) (wgCons (wgName 4) (wgCons (wgName 5) wgNil)))))) (wFor (wiSeq (wLst (wCons (wVar 1) (wCons (wVar 2) wNil)))) (wgName 6) (wIf (wTest (wOp (oIsN true) (wVar 6) (wC .non))) (wAsg (wOp (orR oMulI oMulS) (wVar 7) (wOp oIx (wCB sp_law_low (wCons (wVar 7) (wCons (wOp oIx (wVar 6) (wC (.int 1))) wNil))) (wC (.int 1)))) (wgName 7)) wNext)))
  (wRet (wSortK ["_law_sound", "_law_bottom"] [7] (wVar 0) (wCB sp_law_key (wCons (wVar 0) (wCons (wVar 1) wNil)))))))
abbrev N_law_cut : List Str := ["_law_told_ones", "_law_one", "_law_other", "_law_made", "_law_begin", "_law_end", "_law_name", "_law_voice", "_law_pitches_here", "_law_low_here", "_law_high"]
def t_law_cut : TSw :=
  (wSeq (wAsg (wLst wNil) (wgName 3))
  (wSeq (wFor (wiSeq (wVar 0)) (wgTup 5 (wgCons (wgName 4) (wgCons (wgName 5) (wgCons (wgName 6) (wgCons (wgName 7) (wgCons (wgName 8) wgNil)))))) (wSeq (wAsg (wOp oIx (wLst (wCons (wVar 4) (wCons (wVar 1) wNil))) (wCB cInt (wCons (wCB sp_law_less (wCons (wVar 4) (wCons (wVar 1) wNil))) wNil))) (wgName 9))
  (wSeq (wAsg (wVar 2) (wgName 10))
  (wSeq (wIf (wAnd (wTest (wOp (oIsN true) (wVar 5) (wC .non))) (wTest (wCB sp_law_less (wCons (wVar 5) (wCons (wVar 2) wNil))))) (wAsg (wVar 5) (wgName 10)) wNext)
  (wIf (wTest (wCB sp_law_less (wCons (wVar 9) (wCons (wVar 10) wNil)))) (wDrop (wBM mAppend (wVar 3) (wCons (wTup (wCons (wCB sp_law_minus (wCons (wVar 9) (wCons (wVar 1) wNil))) (wCons (wCB sp_law_minus (wCons (wVar 10) (wCons (wVar 1) wNil))) (wCons (wVar 6) (wCons (wVar 7) (wCons (wVar 8) wNil)))))) wNil))) wNext)))))
  (wRet (wCB sp_law_sorted (wCons (wVar 3) wNil)))))
abbrev N_law_sounds : List Str := ["_law_hand_here", "_law_many", "_law_names_here", "_law_told_ones", "_law_k", "_law_time_here", "_law_j", "_law_end", "_law_told"]
def t_law_sounds : TSw :=
  (wSeq (wAsg (wOp oAdd (wOp oAdd (wC (.int 1)) (wCB sp_law_take (wCons (wVar 0) (wCons (wC (.int 6)) wNil)))) (wOp (orR oMulI oMulS) (wC (.int 10)) (wCB cInt (wCons (wOp (oEqD false) (wCB sp_law_take (wCons (wVar 0) (wCons (wC (.int 8)) wNil))) (wC (.int 0))) wNil)))) (wgName 1))
  (wSeq (wAsg (wCB sp_law_names (wCons (wVar 0) (wCons (wOp oAdd (wOp oAdd (wC (.int 1)) (wOp oDivI (wOp oSubI (wVar 1) (wC (.int 1))) (wC (.int 4)))) (wCB sp_law_take (wCons (wVar 0) (wCons (wC (.int 3)) wNil)))) wNil))) (wgName 2))
  (wSeq (wAsg (wLst wNil) (wgName 3))
  (wSeq (wFor (wiRng1 (wCons (wVar 1) wNil)) (wgName 4) (wSeq (wAsg (wCB sp_law_place (wCons (wVar 0) wNil)) (wgName 5))
  (wFor (wiRng1 (wCons (wCB sp_law_take (wCons (wVar 0) (wCons (wC (.int 9)) wNil))) wNil)) (wgName 6) (wSeq (wIf (wTest (wOp (oEqD false) (wCB sp_law_take (wCons (wVar 0) (wCons (wC (.int 3)) wNil))) (wC (.int 0)))) (wAsg (wCB sp_law_plus (wCons (wVar 5) (wCons (wCB sp_law_length (wCons (wVar 0) wNil)) wNil))) (wgName 5)) wNext)
  (wSeq (wAsg (wCB sp_law_plus (wCons (wVar 5) (wCons (wCB sp_law_length (wCons (wVar 0) wNil)) wNil))) (wgName 7))
  (wSeq (wAsg (wOp oIx (wLst (wCons (wVar 7) (wCons (wC .non) wNil))) (wCB cInt (wCons (wOp (oEqD false) (wCB sp_law_take (wCons (wVar 0) (wCons (wC (.int 12)) wNil))) (wC (.int 0))) wNil))) (wgName 8))
  (wSeq (wDrop (wBM mAppend (wVar 3) (wCons (wTup (wCons (wVar 5) (wCons (wVar 8) (wCons (wOp oIx (wVar 2) (wOp oDivI (wVar 4) (wC (.int 4)))) (wCons (wOp oModI (wVar 4) (wC (.int 4))) (wCons (wCB sp_law_pitches (wCons (wVar 0) wNil)) wNil)))))) wNil)))
  (wSeq (wAsg (wVar 7) (wgName 5))
  (wIf (wTest (wOp (oIsN false) (wVar 8) (wC .non))) wBreak wNext)))))))))
  (wRet (wCB sp_law_sorted (wCons (wVar 3) wNil)))))))
abbrev N_law_time : List Str := ["_law_hand_here", "_law_told_ones", "_law_begin", "_law_end"]
def t_law_time : TSw :=
  (wSeq (wIf (wOr (wTest (wOp (oEqD false) (wCB cLen (wCons (wVar 1) wNil)) (wC (.int 0)))) (wTest (wOp (oEqD false) (wCB sp_law_take (wCons (wVar 0) (wCons (wC (.int 2)) wNil))) (wC (.int 0))))) (wRet (wCB sp_law_place (wCons (wVar 0) wNil))) wNext)
  (wSeq (wAsg (wSl sTL (wOp oIx (wVar 1) (wCB sp_law_take (wCons (wVar 0) (wCons (wCB cLen (wCons (wVar 1) wNil)) wNil)))) wNo (wPart (wC (.int 2)))) (wgTup 2 (wgCons (wgName 2) (wgCons (wgName 3) wgNil))))
  (wRet (wOp oIx (wLst (wCons (wVar 2) (wCons (wVar 2) (wCons (wVar 2) (wCons (wVar 3) wNil))))) (wOp (orR oMulI oMulS) (wOp (orR oMulI oMulS) (wCB sp_law_take (wCons (wVar 0) (wCons (wC (.int 2)) wNil))) (wC (.int 3))) (wCB cInt (wCons (wOp (oIsN true) (wVar 3) (wC .non)) wNil)))))))
abbrev N_law : List Str := ["_law_script", "_law_k", "_law_hand_here", "_law_told_ones", "_law_one", "_law_other", "_law_handed", "_law_due", "_law_found"]
def t_law : TSw :=
  (wSeq (wFor (wiRng1 (wCons (wCB (cI2 fun i j => .int (if j > i then j else i)) (wCons (wC (.int 1)) (wCons (wCB (cI2 fun i j => .int (if j < i then j else i)) (wCons (wCB cLen (wCons (wVar 0) wNil)) (wCons (wC (.int 10)) wNil))) wNil))) wNil)) (wgName 1) (wSeq (wAsg (wCB sp_law_hand (wCons (wVar 0) (wCons (wVar 1) wNil))) (wgName 2))
  (wSeq (wAsg (wCB sp_law_sounds (wCons (wVar 2) wNil)) (wgName 3))
  (wSeq (wPar 4 5 (wCons (wCB sp_law_time (wCons (wVar 2) (wCons (wVar 3) wNil))) (wCons (wCB sp_law_time (wCons (wVar 2) (wCons (wVar 3) wNil))) wNil)))
  (wSeq (wIf (wNot (wTest (wCB sp_law_less (wCons (wVar 4) (wCons (wVar 5) wNil))))) (wPar 4 5 (wCons (wVar 5) (wCons (wCB sp_law_plus (wCons (wVar 4) (wCons (wCB sp_law_length (wCons (wVar 2) wNil)) wNil))) wNil))) wNext)
  (wSeq (wAsg (wCB cListOf (wCons (wVar 3) wNil)) (wgName 6))
  (wSeq (wAsg (wCB sp_law_cut (wCons (wVar 3) (wCons (wVar 4) (wCons (wVar 5) wNil)))) (wgName 7))
  (wSeq (wAsg (wCB sp_stretch (wCons (wVar 6) (wCons (wVar 4) (wCons (wVar 5) wNil)))) (wgName 8))
  (wSeq (wIf (wOr (wNot (wTest (wIsL (wVar 8)))) (wOr (wTest (wOp (orR oNeS (oEqD true)) (wCB cRepr (wCons (wVar 8) wNil)) (wCB cRepr (wCons (wVar 7) wNil)))) (wTest (wOp (orR oNeS (oEqD true)) (wVar 6) (wVar 3))))) (wRet (wC (.bl false))) wNext)
  (wSeq (wDrop (wBM mAppend (wVar 8) (wCons (wTup (wCons (wC (.str "more")) wNil)) wNil)))
  (wIf (wTest (wOp (orR oNeS (oEqD true)) (wCB cRepr (wCons (wCB sp_stretch (wCons (wVar 6) (wCons (wVar 4) (wCons (wVar 5) wNil)))) wNil)) (wCB cRepr (wCons (wVar 7) wNil)))) (wRet (wC (.bl false))) wNext)))))))))))
  (wRet (wC (.bl true))))
end K61
set_option maxRecDepth 100000
set_option maxHeartbeats 4000000
/-! Kp1: the plain laws of the defs of k61. -/
namespace K61
open PySem Dw
local macro_rules | `(tactic| walk_at "w1") => `(tactic| first
  | with_reducible apply s_seq | with_reducible apply s_ret | with_reducible apply s_asg | with_reducible apply s_gname
  | ((with_reducible apply s_var); rfl) | with_reducible apply s_c | with_reducible apply s_op | with_reducible apply s_cb | with_reducible apply s_cons | with_reducible apply s_nil
  | with_reducible apply s_addI | with_reducible apply s_sub | ((with_reducible apply s_mul); rotate_left) | ((with_reducible apply s_mod); rotate_left) | ((with_reducible apply s_div); rotate_left)
  | with_reducible apply s_lt | with_reducible apply s_gt | with_reducible apply s_le | with_reducible apply s_ge | with_reducible apply s_is | with_reducible apply s_isnot | with_reducible apply s_eqI
  | ((with_reducible apply s_ixT); rfl) | with_reducible apply s_un | with_reducible apply s_neg
  | with_reducible apply s_tup | ((with_reducible apply s_fit); rotate_left) | with_reducible apply s_lst
  | with_reducible apply s_if | with_reducible apply s_test | with_reducible apply s_bl | with_reducible apply s_and | with_reducible apply s_or | with_reducible apply s_not | with_reducible apply s_andV | with_reducible apply s_orV | with_reducible apply s_notV | with_reducible apply s_ifE
  | with_reducible apply s_par | with_reducible apply s_two | with_reducible apply s_drop | with_reducible apply s_next | with_reducible apply s_brk | with_reducible apply s_cont
  | with_reducible apply s_i1 | with_reducible apply s_i2 | with_reducible apply s_intI | with_reducible apply s_intB
  | with_reducible apply s_gcons | with_reducible apply s_gnil | with_reducible apply s_gsub | with_reducible apply s_bm | with_reducible apply s_sl | with_reducible apply s_no | with_reducible apply s_part | with_reducible apply s_int | with_reducible apply s_slT
  | with_reducible apply s_for | with_reducible apply s_lc | with_reducible apply s_iseq | with_reducible apply s_irng | with_reducible apply s_dnew | with_reducible apply s_sortK)
local macro_rules | `(tactic| walk_at "w") => `(tactic| repeat walk_at "w1")
theorem s_t0 {k : Int} {M : Mh} {Q : WK} (h : Q (.int (nu k)) M) : oIx (tm k) (.int 0) M Q := .inl ⟨_, 0, _, rfl, rfl, rfl, h⟩
theorem s_t1 {k : Int} {M : Mh} {Q : WK} (h : Q (.int (de k)) M) : oIx (tm k) (.int 1) M Q := .inl ⟨_, 1, _, rfl, rfl, rfl, h⟩
local macro_rules | `(tactic| walk_at "w1") => `(tactic| first | with_reducible apply s_t0 | with_reducible apply s_t1)
theorem s_ifT {A B : Prop} (h : A) : if true = true then A else B := h
theorem s_ifF {A B : Prop} (h : B) : if false = true then A else B := h
theorem nu_sm {k : Int} (h : TB k) : (nu k).natAbs < 2 ^ 30 := by
  have := nu_abs h.1 h.2
  omega
theorem de_sm (k : Int) : (de k).natAbs < 2 ^ 30 := by
  have := de_pos k
  have := de_le k
  omega
theorem cm_nd {a b : Int} (h : TB a) : L2.CMulX (nu a) (de b) := cm (Nat.lt_trans (nu_sm h) (by decide)) (Nat.lt_trans (de_sm b) (by decide))
theorem cm_dd {a b : Int} : L2.CMulX (de a) (de b) := cm (Nat.lt_trans (de_sm a) (by decide)) (Nat.lt_trans (de_sm b) (by decide))
section
variable {ws : List W} {M : Mh} {Q : WK}
theorem pure_less (h : sp_less ws M Q) : t_less ⟨fun _ M' => Q .non M', Q, fun _ _ => False, fun _ _ => False⟩ (startW N_less ws) M := by
  obtain ⟨a, b, rfl, ha, hb, q⟩ := h
  unfold t_less
  walk_at "w"
  all_goals first | exact cm_nd (by assumption) | skip
  rw [show decide (nu a * de b < nu b * de a) = decide (a < b) from decide_eq_decide.mpr (tm_lt a b)]
  exact q
abbrev DR (Q : WK) : EndsW := ⟨fun _ M' => Q .non M', Q, fun _ _ => False, fun _ _ => False⟩
theorem abs_nat (a : Int) : (if a < 0 then -a else a) = (a.natAbs : Int) := by split <;> omega
theorem pure_divisor (h : sp_divisor ws M Q) : t_divisor (DR Q) (startW N_divisor ws) M := by
  obtain ⟨a, b, rfl, q⟩ := h
  unfold t_divisor
  walk_at "w"
  refine s_while (fun m Γ M' => ∃ x y : Nat, Γ = [some (.int x), some (.int y)] ∧ M' = M ∧ Nat.gcd x y = Nat.gcd a.natAbs b.natAbs ∧ m = y) b.natAbs ⟨a.natAbs, b.natAbs, ?_, rfl, rfl, rfl⟩ ?_
  · rw [abs_nat, abs_nat]; rfl
  · rintro m Γ M' ⟨x, y, rfl, rfl, hg, rfl⟩
    walk_at "w"
    refine s_ifb (fun e => ⟨fun Γ M2 => ∃ x' y' : Nat, Γ = [some (.int x'), some (.int y')] ∧ M2 = M' ∧ Nat.gcd x' y' = Nat.gcd a.natAbs b.natAbs ∧ y' < m, ?_, ?_⟩) fun e => ?_
    · rintro Γ M2 ⟨x', y', rfl, rfl, h1, h2⟩
      exact ⟨y', h2, x', y', rfl, rfl, h1, rfl⟩
    · have hy : 0 < m := by have := of_decide_eq_true e; omega
      walk_at "w"
      · refine ⟨m, x % m, ?_, rfl, ?_, Nat.mod_lt _ hy⟩
        · rw [show ((x % m : Nat) : Int) = (x : Int) % (m : Int) by simp]; rfl
        · rw [← hg, Nat.gcd_comm x m, Nat.gcd_rec m x, Nat.gcd_comm]
      · omega
    · have hy : m = 0 := by have := of_decide_eq_false e; omega
      subst hy
      walk_at "w"
      rw [Nat.gcd_zero_right] at hg
      rw [hg]
      exact q
theorem pure_law_low (h : sp_law_low ws M Q) : t_law_low (DR Q) (startW N_law_low ws) M := by
  obtain ⟨a, b, rfl, hb, hb2, q⟩ := h
  unfold t_law_low
  walk_at "w"
  refine s_while (fun m Γ M' => ∃ x y : Nat, Γ = [some (.int a), some (.int b), some (.int x), some (.int y)] ∧ M' = M ∧ Nat.gcd x y = Nat.gcd a.natAbs b.natAbs ∧ m = y) b.natAbs ⟨a.natAbs, b.natAbs, ?_, rfl, rfl, rfl⟩ ?_
  · rw [abs_nat, show (b.natAbs : Int) = b by omega]; rfl
  · rintro m Γ M' ⟨x, y, rfl, rfl, hg, rfl⟩
    walk_at "w"
    refine s_ifb (fun e => ⟨fun Γ M2 => ∃ x' y' : Nat, Γ = [some (.int a), some (.int b), some (.int x'), some (.int y')] ∧ M2 = M' ∧ Nat.gcd x' y' = Nat.gcd a.natAbs b.natAbs ∧ y' < m, ?_, ?_⟩) fun e => ?_
    · rintro Γ M2 ⟨x', y', rfl, rfl, h1, h2⟩
      exact ⟨y', h2, x', y', rfl, rfl, h1, rfl⟩
    · have hy : 0 < m := by have := of_decide_eq_true e; omega
      walk_at "w"
      · refine ⟨m, x % m, ?_, rfl, ?_, Nat.mod_lt _ hy⟩
        · rw [show ((x % m : Nat) : Int) = (x : Int) % (m : Int) by simp]; rfl
        · rw [← hg, Nat.gcd_comm x m, Nat.gcd_rec m x, Nat.gcd_comm]
      · omega
    · have hy : m = 0 := by have := of_decide_eq_false e; omega
      subst hy
      rw [Nat.gcd_zero_right] at hg
      have gp : 0 < x := by rw [hg]; exact Nat.gcd_pos_of_pos_right _ (by omega)
      have gle : x ≤ b.natAbs := by rw [hg]; exact Nat.gcd_le_right _ (by omega)
      walk_at "w"
      · rw [hg]; exact q
      all_goals first | exact cd (by omega) (by omega) | (show 2 ≤ sizeLine; decide)
theorem pure_part (h : sp_part ws M Q) : t_part (DR Q) (startW N_part ws) M := by
  obtain ⟨a, b, rfl, hb, hb2, q⟩ := h
  unfold t_part
  walk_at "w"
  refine s_ifb (fun e => ?_) fun e => ?_
  · have := of_decide_eq_true e; omega
  · walk_at "w"
    refine ⟨a, b, rfl, ?_⟩
    have g1 : 0 < (Int.gcd a b : Int) := gcd_pos2 hb
    have g2 : (Int.gcd a b : Int) ≤ b := Int.le_of_dvd hb (Int.gcd_dvd_right ..)
    walk_at "w"
    · exact q
    all_goals first | exact cd g1 (by omega) | (show 2 ≤ sizeLine; decide)
theorem tm_mul_lt (a b : Int) : 0 < de a * de b ∧ de a * de b < 2 ^ 64 := by
  refine ⟨Int.mul_pos (de_pos a) (de_pos b), ?_⟩
  have h1 := de_le a
  have h2 := de_le b
  have h3 := de_pos a
  have h4 := de_pos b
  have : de a * de b ≤ 60 * 60 := Int.mul_le_mul h1 h2 (by omega) (by omega)
  omega
theorem pure_minus (h : sp_minus ws M Q) : t_minus (DR Q) (startW N_minus ws) M := by
  obtain ⟨a, b, rfl, ha, hb, q⟩ := h
  unfold t_minus
  walk_at "w"
  · refine ⟨_, _, rfl, (tm_mul_lt a b).1, (tm_mul_lt a b).2, ?_⟩
    obtain ⟨e1, e2⟩ := red_tm (tm_mul_lt a b).1 (tm_sub a b)
    rw [e1, e2]
    exact q
  · exact cm_nd ha
  · exact cm_nd hb
  · exact cm_dd
theorem pure_law_minus (h : sp_law_minus ws M Q) : t_law_minus (DR Q) (startW N_law_minus ws) M := by
  obtain ⟨a, b, rfl, ha, hb, q⟩ := h
  unfold t_law_minus
  walk_at "w"
  · refine ⟨_, _, rfl, (tm_mul_lt a b).1, (tm_mul_lt a b).2, ?_⟩
    obtain ⟨e1, e2⟩ := red_tm (tm_mul_lt a b).1 (tm_sub a b)
    rw [e1, e2]
    exact q
  · exact cm_nd ha
  · exact cm_nd hb
  · exact cm_dd
theorem pure_law_plus (h : sp_law_plus ws M Q) : t_law_plus (DR Q) (startW N_law_plus ws) M := by
  obtain ⟨a, b, rfl, ha, hb, q⟩ := h
  unfold t_law_plus
  walk_at "w"
  · refine ⟨_, _, rfl, (tm_mul_lt a b).1, (tm_mul_lt a b).2, ?_⟩
    obtain ⟨e1, e2⟩ := red_tm (tm_mul_lt a b).1 (tm_add a b)
    rw [e1, e2]
    exact q
  · exact cm_nd ha
  · exact cm_nd hb
  · exact cm_dd
theorem pure_law_less (h : sp_law_less ws M Q) : t_law_less (DR Q) (startW N_law_less ws) M := pure_less h
theorem isNonW_om (e : Option Int) : isNonW (om e) = e.isNone := by cases e <;> rfl
theorem pure_is_between (h : sp_is_between ws M Q) : t_is_between (DR Q) (startW N_is_between ws) M := by
  obtain ⟨b, e, x, y, rfl, hb, he, hx, hy, q⟩ := h
  unfold t_is_between
  walk_at "w"
  refine ⟨b, y, rfl, hb, hy, ?_⟩
  unfold btw at q
  walk_at "w"
  refine s_ifb (fun c => ?_) fun c => ?_
  · walk_at "w"
    rw [isNonW_om]
    rw [c, Bool.true_and] at q
    cases e with
    | none => exact q
    | some k =>
      refine s_ifb (fun z => by cases z) fun _ => ?_
      walk_at "w"
      exact ⟨x, k, rfl, hx, he k rfl, q⟩
  · rw [c] at q
    exact q
theorem cut_fin {b x : Int} {Q : WK} {M : Mh} {z u : Int} {n : Str} {v : Int} {ps : List Int} {a0 a2 : Option W} (hz : TB z) (hu : TB u) (hx : TB x) (q : Q (.tup [tm (z - x), tm (u - x), .str n, .int v, .tup (ps.map .int)]) M) :
      wRet (wTup (wCons (wCB sp_minus (wCons (wVar 3) (wCons (wVar 1) wNil))) (wCons (wCB sp_minus (wCons (wVar 4) (wCons (wVar 1) wNil))) (wCons (wVar 5) (wCons (wVar 6) (wCons (wVar 7) wNil)))))) (DR Q) [a0, some (tm x), a2, some (tm z), some (tm u), some (.str n), some (.int v), some (.tup (ps.map .int))] M := by
  walk_at "w"
  refine ⟨z, x, rfl, hz, hx, ?_⟩
  walk_at "w"
  refine ⟨u, x, rfl, hu, hx, ?_⟩
  walk_at "w"
  · exact q
  · show 5 ≤ sizeLine; decide
theorem cut_mid {b x y : Int} {e : Option Int} {Q : WK} {M : Mh} {z : Int} {n : Str} {v : Int} {ps : List Int} {a0 : Option W} (he : ∀ k, e = some k → TB k ∧ b < k) (hz : TB z) (hx : TB x) (hy : TB y) (q : Q (.tup [tm (z - x), tm ((mn y e) - x), .str n, .int v, .tup (ps.map .int)]) M) :
      wSeq (wIf (wOr (wTest (wOp (oIsN false) (wVar 4) (wC .non))) (wTest (wCB sp_less (wCons (wVar 2) (wCons (wVar 4) wNil))))) (wAsg (wVar 2) (wgName 4)) wNext)
  (wRet (wTup (wCons (wCB sp_minus (wCons (wVar 3) (wCons (wVar 1) wNil))) (wCons (wCB sp_minus (wCons (wVar 4) (wCons (wVar 1) wNil))) (wCons (wVar 5) (wCons (wVar 6) (wCons (wVar 7) wNil))))))) (DR Q) [a0, some (tm x), some (tm y), some (tm z), some (om e), some (.str n), some (.int v), some (.tup (ps.map .int))] M := by
  walk_at "w"
  rw [isNonW_om]
  cases e with
  | none =>
    apply s_ifT
    apply s_ifT
    apply s_asg; apply s_var; rfl
    apply s_gname
    exact cut_fin (b := b) hz hy hx q
  | some k =>
    apply s_ifF
    walk_at "w"
    refine ⟨y, k, rfl, hy, (he k rfl).1, ?_⟩
    refine s_bl ?_
    refine s_ifb (fun c => ?_) fun c => ?_
    · apply s_asg; apply s_var; rfl
      apply s_gname
      refine cut_fin (b := b) hz hy hx ?_
      simp only [mn] at q
      rw [if_pos (of_decide_eq_true c)] at q
      exact q
    · apply s_next
      refine cut_fin (b := b) hz (he k rfl).1 hx ?_
      simp only [mn] at q
      rw [if_neg (of_decide_eq_false c)] at q
      exact q
theorem pure_cut_out (h : sp_cut_out ws M Q) : t_cut_out (DR Q) (startW N_cut_out ws) M := by
  obtain ⟨s, x, y, rfl, hs, hx, hy, q⟩ := h
  obtain ⟨b, e, n, v, ps⟩ := s
  obtain ⟨hb, he⟩ := hs
  unfold t_cut_out
  walk_at "w"
  refine s_gtup (l := [tm b, om e, .str n, .int v, .tup (ps.map .int)]) rfl ?_
  walk_at "w"
  refine ⟨b, x, rfl, hb, hx, ?_⟩
  unfold cut at q
  dsimp only at q hb he
  refine s_bl ?_
  refine s_ifb (fun c => ?_) fun c => ?_
  · apply s_asg; apply s_var; rfl
    apply s_gname
    refine cut_mid (b := b) he hx hx hy ?_
    rw [if_pos (of_decide_eq_true c)] at q
    exact q
  · apply s_next
    refine cut_mid (b := b) he hb hx hy ?_
    rw [if_neg (of_decide_eq_false c)] at q
    exact q
end
end K61
set_option maxRecDepth 100000
set_option maxHeartbeats 4000000
/-! Kp2: the hand of numbers of the law, and what is drawn from it. -/
namespace K61
open PySem Dw
open L2 (atI ixN)
local macro_rules | `(tactic| walk_at "w1") => `(tactic| first
  | with_reducible apply s_seq | with_reducible apply s_ret | with_reducible apply s_asg | with_reducible apply s_gname
  | ((with_reducible apply s_var); rfl) | with_reducible apply s_c | with_reducible apply s_op | with_reducible apply s_cb | with_reducible apply s_cons | with_reducible apply s_nil
  | with_reducible apply s_addI | with_reducible apply s_sub | ((with_reducible apply s_mul); rotate_left) | ((with_reducible apply s_mod); rotate_left) | ((with_reducible apply s_div); rotate_left)
  | with_reducible apply s_lt | with_reducible apply s_gt | with_reducible apply s_le | with_reducible apply s_ge | with_reducible apply s_is | with_reducible apply s_isnot | with_reducible apply s_eqI
  | ((with_reducible apply s_ixT); rfl) | with_reducible apply s_un | with_reducible apply s_neg
  | with_reducible apply s_tup | ((with_reducible apply s_fit); rotate_left) | with_reducible apply s_lst
  | with_reducible apply s_if | with_reducible apply s_test | with_reducible apply s_bl | with_reducible apply s_and | with_reducible apply s_or | with_reducible apply s_not | with_reducible apply s_andV | with_reducible apply s_orV | with_reducible apply s_notV | with_reducible apply s_ifE
  | with_reducible apply s_par | with_reducible apply s_two | with_reducible apply s_drop | with_reducible apply s_next | with_reducible apply s_brk | with_reducible apply s_cont
  | with_reducible apply s_i1 | with_reducible apply s_i2 | with_reducible apply s_intI | with_reducible apply s_intB
  | with_reducible apply s_gcons | with_reducible apply s_gnil | with_reducible apply s_gsub | with_reducible apply s_bm | with_reducible apply s_sl | with_reducible apply s_no | with_reducible apply s_part | with_reducible apply s_int | with_reducible apply s_slT
  | with_reducible apply s_for | with_reducible apply s_lc | with_reducible apply s_iseq | with_reducible apply s_irng | with_reducible apply s_dnew | with_reducible apply s_sortK)
local macro_rules | `(tactic| walk_at "w") => `(tactic| repeat walk_at "w1")
local macro_rules | `(tactic| walk_at "w1") => `(tactic| first | with_reducible apply s_t0 | with_reducible apply s_t1)
section
variable {ws : List W} {M : Mh} {Q : WK}
theorem KB.rfl' {a : Addr} : KB a M M := fun _ _ _ h => h
theorem KB.trans {a : Addr} {M1 M2 M3 : Mh} (h : KB a M1 M2) (h2 : KB a M2 M3) : KB a M1 M3 := fun b o n e => h2 b o n (h b o n e)
theorem KB.upd {a : Addr} {M1 : Mh} {o : MO} : KB a M1 (updM M1 a o) := fun b o' n e => by rw [updM_ne n]; exact e
theorem KB.new {a q : Addr} {M1 : Mh} {o : MO} (h : M1 q = none) : KB a M1 (updM M1 q o) := fun b o' n e => by rw [updM_ne (fun z => by rw [z, h] at e; cases e)]; exact e
theorem Hand.mono {a : Addr} {n m : Int} (h : Hand a n M) (l : n ≤ m) : Hand a m M := by
  obtain ⟨x, y, z, e, h0, h1, h2, h3, h4, h5⟩ := h
  exact ⟨x, y, z, e, h0, h1, h2, h3, h4, Int.le_trans h5 l⟩
theorem Hand.new {a q : Addr} {n : Int} {o : MO} (h : Hand a n M) (e : M q = none) : Hand a n (updM M q o) := by
  obtain ⟨x, y, z, e2, h⟩ := h
  refine ⟨x, y, z, ?_, h⟩
  rw [updM_ne (fun z => by rw [z, e] at e2; cases e2)]; exact e2
theorem Hand.upd {a q : Addr} {n : Int} {o : MO} (h : Hand a n M) (e : a ≠ q) : Hand a n (updM M q o) := by
  obtain ⟨x, y, z, e2, h⟩ := h
  refine ⟨x, y, z, ?_, h⟩
  rw [updM_ne e]; exact e2
theorem Sub.new {q : Addr} {o : MO} (h : M q = none) : Sub M (updM M q o) := fun b o' e => by rw [updM_ne (fun z => by rw [z, h] at e; cases e)]; exact e
theorem szb {l : List W} (h : Nat.ble l.length 64 = true) : l.length ≤ sizeLine := Nat.le_trans (Nat.le_of_ble_eq_true h) (by show 64 ≤ sizeLine; decide)
def Hid (P : Prop) : Prop := P
theorem sq_sm {t : Int} (h : 0 ≤ t) (h2 : t ≤ 1000001) : 0 ≤ t * t ∧ t * t ≤ 1000001 * 1000001 := ⟨Int.mul_nonneg h h, Int.mul_le_mul h2 h2 h (by decide)⟩
theorem pure_law_take (h : sp_law_take ws M Q) : t_law_take (DR Q) (startW N_law_take ws) M := by
  obtain ⟨a, m, n, rfl, m0, m1, ⟨x, y, z, hM, x0, x1, y0, y1, z0, z1⟩, hn, q⟩ := h
  unfold t_law_take
  walk_at "w"
  refine s_ixR hM rfl ?_
  walk_at "w"
  refine s_ifb (fun c => ?_) fun c => ?_
  · have c := of_decide_eq_true c
    have lx : x / m ≤ x := Int.ediv_le_self _ x0
    have gx : 0 ≤ x / m := Int.ediv_nonneg x0 (Int.le_of_lt m0)
    walk_at "w"
    refine s_ixR hM rfl ?_
    walk_at "w"
    · refine s_ixR hM rfl ?_
      walk_at "w"
      · refine s_setL hM rfl ?_
        walk_at "w"
        refine q _ _ (Int.emod_nonneg _ (by omega)) (Int.emod_lt_of_pos _ m0) KB.upd ⟨x / m, y, z, updM_same, gx, ?_, y0, y1, z0, by omega⟩
        exact Nat.lt_of_le_of_lt (by clear x1; omega) x1
      · exact cd m0 (by clear x1; omega)
    · exact m0
  · have hx : Hid (0 ≤ x ∧ x.natAbs < 2 ^ 4000000) := ⟨x0, x1⟩
    clear x1 x0 c
    obtain ⟨t, ht⟩ : ∃ t, t = z + 1 := ⟨_, rfl⟩
    have hM2 : updM M a (.lst [.int x, .int y, .int t]) a = some (.lst [.int x, .int y, .int t]) := updM_same
    obtain ⟨s1, s2⟩ := sq_sm (t := t) (by omega) (by omega)
    have s3 : 2 * t * t = 2 * (t * t) := Int.mul_assoc ..
    walk_at "w"
    refine s_ixR hM rfl ?_
    walk_at "w"
    refine s_setL hM rfl ?_
    rw [← ht]
    walk_at "w"
    refine s_ixR hM2 rfl ?_
    walk_at "w"
    refine s_ixR hM2 rfl ?_
    walk_at "w"
    · refine q _ _ (Int.emod_nonneg _ (by omega)) (Int.emod_lt_of_pos _ m0) KB.upd ⟨x, y, t, updM_same, hx.1, hx.2, y0, y1, by omega, by omega⟩
    all_goals first | (with_reducible exact m0) | (with_reducible refine cm ?_ ?_ <;> omega) | (with_reducible refine cd ?_ ?_ <;> omega) | omega
theorem pure_law_hand (h : sp_law_hand ws M Q) : t_law_hand (DR Q) (startW N_law_hand ws) M := by
  obtain ⟨ns, k, rfl, k0, k1, hb, hl, q⟩ := h
  unfold t_law_hand
  walk_at "w"
  refine s_lenF ?_
  walk_at "w"
  have hlen : (ns.map W.int).length ≤ 63 := by rw [List.length_map]; exact hl
  have fin : ∀ c : Int, Builtin.Int.intBits c ≤ 1048576 → ∀ {Γ : Dw.Env}, Γ = [some (.frl (ns.map .int)), some (.int k), some (.int c)] →
      wRet (wLst (wCons (wOp (orR oMulI oMulS) (wVar 2) (wCB cInt (wCons (wOp oGeI (wVar 2) (wOp oPowI (wC (.int 10)) (wC (.int 18)))) wNil))) (wCons (wOp oAdd (wOp oAdd (wOp oModI (wVar 2) (wC (.int 2305843009213693951))) (wOp (orR oMulI oMulS) (wC (.int 7919)) (wVar 1))) (wC (.int 3))) (wCons (wC (.int 0)) wNil)))) (DR Q) Γ M := by
    rintro c hc Γ rfl
    have hc2 := PySem.intBits_le_iff.mp hc
    have hc3 : c.natAbs < 2 ^ 4000000 := Nat.lt_of_lt_of_le hc2 (Nat.pow_le_pow_right (by decide) (by decide))
    walk_at "w"
    refine s_pow ⟨by decide, by decide, by decide⟩ ?_
    walk_at "w"
    · intro p hp
      refine q p _ (Sub.new hp) ?_ ?_
      · exact hp
      · refine ⟨_, _, _, updM_same, ?_⟩
        have hm : 0 ≤ c % 2305843009213693951 := Int.emod_nonneg _ (by omega)
        have hm2 : c % 2305843009213693951 < 2305843009213693951 := Int.emod_lt_of_pos _ (by omega)
        generalize c % 2305843009213693951 = d at *
        refine ⟨?_, ?_, ?_, ?_, by decide, by decide⟩
        · clear hc2 hc3; by_cases z : (10:Int) ^ (18:Int).toNat ≤ c
          · rw [decide_eq_true z]
            have : (0:Int) < (10:Int) ^ (18:Int).toNat := by decide
            generalize (10:Int) ^ (18:Int).toNat = e at *
            simp only [if_true]; omega
          · rw [decide_eq_false z]
            simp
        · cases decide ((10:Int) ^ (18:Int).toNat ≤ c)
          · simp only [Bool.false_eq_true, if_false, Int.mul_zero]
            exact Nat.pow_pos (by decide)
          · simp only [if_true, Int.mul_one]
            exact hc3
        · clear hc2 hc3; omega
        · clear hc2 hc3; omega
    · refine cmX (m := 1048576) (n := 1) hc2 ?_ (by decide)
      split <;> decide
    all_goals clear hc2 hc3
    all_goals first | exact szb rfl | (with_reducible refine cm ?_ ?_ <;> omega) | (with_reducible refine cd ?_ ?_ <;> omega) | omega
  refine s_ifb (fun z => ?_) fun z => ?_
  · have z := of_decide_eq_true z
    rw [List.length_map] at z
    have hk : k.toNat < ns.length := by omega
    apply s_asg; apply s_op; apply s_var; rfl; apply s_var; rfl
    refine s_ixF (w := .int ns[k.toNat]) ?_ ?_
    · have e : (ns.map W.int)[k.toNat]? = some (.int ns[k.toNat]) := by rw [List.getElem?_map, List.getElem?_eq_getElem hk]; rfl
      have := L2.atI_nat e
      rwa [show ((k.toNat : Nat) : Int) = k by omega] at this
    · apply s_gname
      exact fin _ (hb _ (List.getElem_mem hk)) rfl
  · apply s_next
    exact fin 0 (by decide) rfl
/-- a draw -/
theorem s_take {a : Addr} {m n : Int} (m0 : 0 < m) (m1 : m ≤ 1000000) (h : Hand a n M) (hn : n ≤ 1000000) (q : ∀ (r : Int) (M' : Mh), 0 ≤ r → r < m → KB a M M' → Hand a (n + 1) M' → Q (.int r) M') : sp_law_take [.ref a, .int m] M Q := ⟨a, m, n, rfl, m0, m1, h, hn, q⟩
theorem s_new {a : Addr} {R : Addr → Mh → Prop} {o : MO} {n : Int} (h : Hand a n M) (q : ∀ p, M p = none → KB a M (updM M p o) → Hand a n (updM M p o) → R p (updM M p o)) : ∀ p, M p = none → R p (updM M p o) := fun p e => q p e (KB.new e) (h.new e)
theorem s_ixRL {p : Addr} {l : List W} {k : Int} (e : M p = some (.lst l)) (h0 : 0 ≤ k) (hk : k < l.length) (h : ∀ w, w ∈ l → Q w M) : oIx (.ref p) (.int k) M Q := by
  have hk2 : k.toNat < l.length := by omega
  refine s_ixR (w := l[k.toNat]) e ?_ (h _ (List.getElem_mem hk2))
  have := L2.atI_nat (List.getElem?_eq_getElem hk2)
  rwa [show ((k.toNat : Nat) : Int) = k by omega] at this
theorem ne_upd {a p : Addr} {n : Int} (h : Hand a n M) (e : M p = none) : p ≠ a := by
  obtain ⟨x, y, z, e2, h⟩ := h
  intro z; rw [z, e2] at e; cases e
theorem pure_law_length (h : sp_law_length ws M Q) : t_law_length (DR Q) (startW N_law_length ws) M := by
  obtain ⟨a, n, rfl, hh, hn, q⟩ := h
  unfold t_law_length
  walk_at "w"
  all_goals first | exact szb rfl | skip
  intro p hp
  walk_at "w"
  refine s_take (by decide) (by decide) (hh.new hp) (by omega) fun r M' r0 r1 kb hh2 => ?_
  have hp2 := kb p _ (ne_upd hh hp) updM_same
  refine s_ixRL hp2 r0 (by show r < 12; omega) fun w hw => ?_
  have fin : ∀ k : Int, 0 < k → k ≤ 300 → Q (tm k) M' := fun k k0 k1 => q k M' k0 k1 ((KB.new hp).trans kb) hh2
  simp only [List.mem_cons, List.not_mem_nil, or_false] at hw
  rcases hw with h | h | h | h | h | h | h | h | h | h | h | h <;> subst h
  · exact fin 60 (by decide) (by decide)
  · exact fin 30 (by decide) (by decide)
  · exact fin 15 (by decide) (by decide)
  · exact fin 45 (by decide) (by decide)
  · exact fin 120 (by decide) (by decide)
  · exact fin 20 (by decide) (by decide)
  · exact fin 90 (by decide) (by decide)
  · exact fin 40 (by decide) (by decide)
  · exact fin 12 (by decide) (by decide)
  · exact fin 84 (by decide) (by decide)
  · exact fin 54 (by decide) (by decide)
  · exact fin 300 (by decide) (by decide)
theorem KB.upd2 {a p : Addr} {M M' : Mh} {o : MO} (h : KB a M M') (e : M p = none) : KB a M (updM M' p o) := fun b o' n e2 => by
  rw [updM_ne (fun z => by rw [z, e] at e2; cases e2)]; exact h b o' n e2
theorem s_low {x y : Int} (hy : 0 < y) (hy2 : y < 2 ^ 64) {k : Int} (h : x * 60 = k * y) (q : Q (tm k) M) : sp_law_low [.int x, .int y] M Q := by
  refine ⟨x, y, rfl, hy, hy2, ?_⟩
  obtain ⟨e1, e2⟩ := red_tm hy h
  rw [e1, e2]; exact q
theorem pure_law_place (h : sp_law_place ws M Q) : t_law_place (DR Q) (startW N_law_place ws) M := by
  obtain ⟨a, n, rfl, hh, hn, q⟩ := h
  unfold t_law_place
  walk_at "w"
  all_goals first | exact szb rfl | skip
  intro p hp
  walk_at "w"
  refine s_take (by decide) (by decide) (hh.new hp) (by omega) fun r M1 r0 r1 kb hh2 => ?_
  have kb1 := (KB.new (a := a) hp).trans kb
  have hp2 := kb p _ (ne_upd hh hp) updM_same
  walk_at "w"
  · refine s_ixRL hp2 (by omega) (by show r / 3 < 3; omega) fun w hw => ?_
    obtain ⟨d, rfl, d0, d1⟩ : ∃ d : Int, w = .int d ∧ 0 < d ∧ d ≤ 999 := by
      simp only [List.mem_cons, List.not_mem_nil, or_false] at hw
      rcases hw with h | h | h <;> subst h
      all_goals exact ⟨_, rfl, by decide, by decide⟩
    apply s_nil
    refine s_take d0 (by omega) hh2 (by omega) fun t M2 t0 t1 kb2 hh3 => ?_
    have kb3 := kb1.trans kb2
    walk_at "w"
    all_goals first | exact szb rfl | skip
    intro p2 hp2
    walk_at "w"
    refine s_take (by decide) (by decide) (hh3.new hp2) (by omega) fun r M3 r0 r1 kb4 hh4 => ?_
    have hp3 := kb4 p2 _ (ne_upd hh3 hp2) updM_same
    refine s_ixRL hp3 r0 (by show r < 5; omega) fun w hw => ?_
    have fin : ∀ k : Int, 0 ≤ k → k ≤ 60000 → Q (tm k) M3 := fun k k0 k1 => q k M3 k0 k1 (kb3.trans ((KB.new hp2).trans kb4)) (hh4.mono (by omega))
    simp only [List.mem_cons, List.not_mem_nil, or_false] at hw
    rcases hw with h | h | h | h | h <;> subst h
    · exact s_low (by decide) (by decide) (k := t * 60) (by omega) (fin _ (by omega) (by omega))
    · exact s_low (by decide) (by decide) (k := t * 30) (by omega) (fin _ (by omega) (by omega))
    · exact s_low (by decide) (by decide) (k := t * 20) (by omega) (fin _ (by omega) (by omega))
    · exact s_low (by decide) (by decide) (k := t * 12) (by omega) (fin _ (by omega) (by omega))
    · exact s_low (by decide) (by decide) (k := t * 5) (by omega) (fin _ (by omega) (by omega))
  · exact cd (by decide) (by decide)
theorem s_yes {Γ : Dw.Env} {R : Bool → Mh → Prop} (h : R true M) : wYes Γ M R := h
theorem lets : ∀ c ∈ (Str.ofString "abcdefghijklmnopqrstuvwxyz").cps.toList, 97 ≤ c ∧ c ≤ 122 := by decide +kernel
theorem letsl : (Str.ofString "abcdefghijklmnopqrstuvwxyz").cps.toList.length = 26 := by decide +kernel
theorem mul_name {c : Nat} {n : Int} (h : 97 ≤ c ∧ c ≤ 122) (n0 : 1 ≤ n) (n1 : n ≤ 8) : MulOk ⟨#[c]⟩ n ∧ NameOk (Txt.mul ⟨#[c]⟩ n) := by
  obtain ⟨k, rfl⟩ : ∃ k : Nat, n = (k : Int) := ⟨n.toNat, by omega⟩
  have h1 : k = 1 ∨ k = 2 ∨ k = 3 ∨ k = 4 ∨ k = 5 ∨ k = 6 ∨ k = 7 ∨ k = 8 := by omega
  have hc : ∀ (m : Nat) (x : Str), m ≤ 8 → x.cps.toList = List.replicate m c → NameOk x := by
    intro m x hm e
    refine ⟨?_, ?_⟩
    · show x.cps.size ≤ 8
      rw [← Array.length_toList, e, List.length_replicate]; exact hm
    · intro d hd
      rw [e, List.mem_replicate] at hd
      rw [hd.2]; exact h
  rcases h1 with z | z | z | z | z | z | z | z <;> subst z
  all_goals refine ⟨⟨by decide, fun _ _ => ?_, fun _ _ => rfl⟩, ?_⟩
  any_goals (show ¬ ((1:Int) > _); decide)
  · exact hc 1 _ (by decide) rfl
  · exact hc 2 _ (by decide) rfl
  · exact hc 3 _ (by decide) rfl
  · exact hc 4 _ (by decide) rfl
  · exact hc 5 _ (by decide) rfl
  · exact hc 6 _ (by decide) rfl
  · exact hc 7 _ (by decide) rfl
  · exact hc 8 _ (by decide) rfl
theorem pure_law_names (h : sp_law_names ws M Q) : t_law_names (DR Q) (startW N_law_names ws) M := by
  obtain ⟨a, m, n, rfl, m0, m1, hh, hn, q⟩ := h
  unfold t_law_names
  walk_at "w"
  refine s_take (by decide) (by decide) hh (by omega) fun r M1 r0 r1 kb1 hh1 => ?_
  walk_at "w"
  all_goals first | exact szb rfl | skip
  intro p hp
  walk_at "w"
  refine s_take (by decide) (by decide) (hh1.new hp) (by omega) fun t M2 t0 t1 kb2 hh2 => ?_
  have hp2 := kb2 p _ (ne_upd hh1 hp) updM_same
  have kb3 := kb1.trans ((KB.new hp).trans kb2)
  refine s_ixRL hp2 t0 (by show t < 6; omega) fun w hw => ?_
  obtain ⟨d, rfl, d0, d1⟩ : ∃ d : Int, w = .int d ∧ 0 < d ∧ d ≤ 11 := by
    simp only [List.mem_cons, List.not_mem_nil, or_false] at hw
    rcases hw with h | h | h | h | h | h <;> subst h
    all_goals exact ⟨_, rfl, by decide, by decide⟩
  walk_at "w"
  have hi : ∀ i : Nat, ((r + d * i) % 26).toNat < (Str.ofString "abcdefghijklmnopqrstuvwxyz").cps.toList.length := fun i => by rw [letsl]; omega
  have hn8 : ∀ i : Nat, 1 ≤ 1 + ((i : Int) + r) % 8 ∧ 1 + ((i : Int) + r) % 8 ≤ 8 := fun i => by omega
  refine f_lcR (fun i => .str (Txt.mul ⟨#[(Str.ofString "abcdefghijklmnopqrstuvwxyz").cps.toList[((r + d * i) % 26).toNat]'(hi i)]⟩ (1 + ((i : Int) + r) % 8))) (by omega) (by omega) (Nat.lt_of_lt_of_le (show m.toNat < 1001 by omega) (by show 1001 ≤ sizeLine; decide)) ?_ ?_
  · intro D acc i K1 K2 hD him h1
    walk_at "w"
    apply s_yes
    apply s_ifT
    walk_at "w"
    · refine s_ixS (z := Str.ofString "abcdefghijklmnopqrstuvwxyz") (by decide +kernel) (c := (Str.ofString "abcdefghijklmnopqrstuvwxyz").cps.toList[((r + d * i) % 26).toNat]'(hi i)) ?_ ?_
      · have := L2.atI_nat (List.getElem?_eq_getElem (hi i))
        rwa [show ((((r + d * i) % 26).toNat : Nat) : Int) = (r + d * i) % 26 by have := (hi i); rw [letsl] at this; omega] at this
      · walk_at "w"
        · refine s_mulS (mul_name (lets _ (List.getElem_mem _)) (hn8 i).1 (hn8 i).2).1 ?_
          exact h1
        · omega
    all_goals first | (with_reducible refine cm ?_ ?_ <;> omega) | omega
  · intro D hD
    refine q D ((List.range m.toNat).map fun (i : Nat) => Txt.mul ⟨#[(Str.ofString "abcdefghijklmnopqrstuvwxyz").cps.toList[((r + d * i) % 26).toNat]'(hi i)]⟩ (1 + ((i : Int) + r) % 8)) _ (kb3.trans (KB.new hD)) ?_ ?_ ?_ ?_ ?_
    · cases e : M D with
      | none => rfl
      | some o =>
        by_cases z : D = a
        · subst z; obtain ⟨_, _, _, e2, _⟩ := hh2; rw [hD] at e2; cases e2
        · rw [kb3 D o z e] at hD; cases hD
    · rw [updM_same, List.map_map]; rfl
    · rw [List.length_map, List.length_range]; omega
    · intro x hx
      obtain ⟨i, _, rfl⟩ := List.mem_map.mp hx
      exact (mul_name (lets _ (List.getElem_mem _)) (hn8 i).1 (hn8 i).2).2
    · exact (hh2.new hD).mono (by omega)
theorem atI_last {l : List W} {w : W} : atI (l ++ [w]) (-1) = some w := by
  unfold atI ixN
  rw [if_neg (by decide), if_pos (by rw [List.length_append]; simp; omega), List.length_append]
  show (l ++ [w])[((-1 : Int) + ((l.length + 1 : Nat) : Int)).toNat]? = some w
  rw [show ((-1 : Int) + ((l.length + 1 : Nat) : Int)).toNat = l.length by omega]
  simp
theorem pure_law_pitches (h : sp_law_pitches ws M Q) : t_law_pitches (DR Q) (startW N_law_pitches ws) M := by
  obtain ⟨a, n, rfl, hh, hn, q⟩ := h
  unfold t_law_pitches
  walk_at "w"
  all_goals first | exact szb rfl | skip
  refine s_take (by decide) (by decide) hh (by omega) fun r M1 r0 r1 kb1 hh1 => ?_
  walk_at "w"
  all_goals first | exact szb rfl | skip
  intro p hp
  have kb2 := kb1.trans (KB.new (o := .lst [.int (r - 9)]) hp)
  have hpM : M p = none := by
    cases e : M p with
    | none => rfl
    | some o =>
      by_cases z : p = a
      · subst z; obtain ⟨_, _, _, e2, _⟩ := hh1; rw [hp] at e2; cases e2
      · rw [kb1 p o z e] at hp; cases hp
  walk_at "w"
  all_goals first | exact szb rfl | skip
  intro p2 hp2
  have hh2 := hh1.new (o := .lst [.int (r - 9)]) hp
  walk_at "w"
  refine s_take (by decide) (by decide) (hh2.new hp2) (by omega) fun t M2 t0 t1 kb3 hh3 => ?_
  have hp3 := kb3 p2 _ (ne_upd hh2 hp2) updM_same
  have pp : p ≠ p2 := fun z => by rw [← z, updM_same] at hp2; cases hp2
  have hpp : M2 p = some (.lst [.int (r - 9)]) := kb3 p _ (ne_upd hh1 hp) (by rw [updM_ne pp]; exact updM_same)
  have kb4 := kb2.trans ((KB.new hp2).trans kb3)
  refine s_ixRL hp3 t0 (by show t < 6; omega) fun w hw => ?_
  obtain ⟨d, rfl, d0, d1⟩ : ∃ d : Int, w = .int d ∧ 0 ≤ d ∧ d ≤ 5 := by
    simp only [List.mem_cons, List.not_mem_nil, or_false] at hw
    rcases hw with h | h | h | h | h | h <;> subst h
    all_goals exact ⟨_, rfl, by decide, by decide⟩
  walk_at "w"
  refine f_rng (by omega) (by omega) (fun i Γ M' => ∃ (ps : List Int) (z : Int) (c : Option W), Γ = [some (.ref a), some (.ref p), c] ∧ M' p = some (.lst ((ps ++ [z]).map .int)) ∧ ps.length = i ∧ (∀ y ∈ ps ++ [z], -1000 ≤ y ∧ y ≤ 60 + 7 * i) ∧ KB a M M' ∧ Hand a (n + 2 + i) M') ?_ ?_ ?_
  · exact ⟨[], r - 9, _, rfl, hpp, rfl, fun y hy => by simp at hy; subst hy; omega, kb4, hh3.mono (by omega)⟩
  · rintro Γ M' ⟨ps, z, c, rfl, e1, e2, e3, e4, e5⟩
    walk_at "w"
    refine s_tupOf e1 ?_
    refine q _ _ e4 ⟨by rw [List.length_append]; simp; omega, fun y hy => ?_⟩ (e5.mono (by omega))
    have := e3 y hy; omega
  · rintro i Γ M' hi ⟨ps, z, c, rfl, e1, e2, e3, e4, e5⟩
    walk_at "w"
    refine s_isl e1 ?_
    walk_at "w"
    refine s_ixR (w := .int z) e1 (by rw [List.map_append]; exact atI_last) ?_
    walk_at "w"
    refine s_take (by decide) (by decide) e5 (by omega) fun u M3 u0 u1 kb5 hh5 => ?_
    have pa : p ≠ a := ne_upd hh1 hp
    have e6 := kb5 p _ pa e1
    walk_at "w"
    refine s_app e6 (Nat.lt_of_le_of_lt (m := 10) (by simp; omega) (by show 10 < sizeLine; decide)) ?_
    refine ⟨ps ++ [z], z + 1 + u, _, rfl, ?_, by simp [e2], ?_, (e4.trans kb5).upd2 hpM, (hh5.upd (fun z => pa z.symm)).mono (by omega)⟩
    · rw [updM_same]; simp
    · intro y hy
      have hz := e3 z (by simp)
      rw [List.mem_append] at hy
      rcases hy with hy | hy
      · have := e3 y hy; omega
      · simp at hy; subst hy; omega
end
end K61
set_option maxRecDepth 100000
set_option maxHeartbeats 4000000
/-! Ks: one order of the sounds, by whatever key. -/
namespace K61
open PySem Dw
open PySem.W (alike alikeAll AllAlike Sortable dataLt dataLe rowLt dataLt_cons dataLt_int dataLt_tuple sort_maps sort_congr)
/-- two pairs of data of one order -/
structure Same (x y x' y' : PyData) : Prop where
  a : alike x y = true
  a' : alike x' y' = true
  e : PyData.eqv x y = PyData.eqv x' y'
  l : dataLt x y = dataLt x' y'
theorem Same.int {f : Int → Int} {a b : Int} (h : f a < f b ↔ a < b) (h2 : f b < f a ↔ b < a) : Same (.int (f a)) (.int (f b)) (.int a) (.int b) := by
  refine ⟨by simp [alike], by simp [alike], ?_, ?_⟩
  · simp only [PyData.eqv]
    rw [Bool.eq_iff_iff]
    simp only [beq_iff_eq]
    constructor <;> intro e <;> omega
  · rw [dataLt_int, dataLt_int]
    exact decide_eq_decide.mpr h
theorem al_pi (a b c d : Int) : alike (.tuple [.int a, .int b]) (.tuple [.int c, .int d]) = true := by simp [alike, alikeAll]
theorem eq_pi (a b c d : Int) : PyData.eqv (.tuple [.int a, .int b]) (.tuple [.int c, .int d]) = (decide (a = c) && decide (b = d)) := by
  simp only [PyData.eqv, PyData.eqvAll, Bool.and_true]
  congr 1 <;> (rw [Bool.eq_iff_iff]; simp)
theorem Same.row {x y x' y' : PyData} (h : Same x y x' y') {xs ys xs' ys' : List PyData} (h2 : rowLt xs ys = rowLt xs' ys') : rowLt (x :: xs) (y :: ys) = rowLt (x' :: xs') (y' :: ys') := by
  have e1 := dataLt_cons h.a xs ys
  have e2 := dataLt_cons h.a' xs' ys'
  unfold rowLt at *
  rw [e1, e2, h.e, h.l, h2]
def restK (s : Snd) : List PyData := [.str s.n, .int s.v, .tuple (s.ps.map .int)]
theorem key_lt {p q : PyData} {a b : Snd} {f : Int → Int} (h : f a.b < f b.b ↔ a.b < b.b) (h2 : f b.b < f a.b ↔ b.b < a.b) (h3 : Same p q (eKey id a.e) (eKey id b.e)) :
    dataLt (.tuple (.int (f a.b) :: p :: restK a)) (.tuple (.int (f b.b) :: q :: restK b)) = dataLt (ck a) (ck b) := by
  rw [show ck a = .tuple (.int a.b :: eKey id a.e :: restK a) from rfl, show ck b = .tuple (.int b.b :: eKey id b.e :: restK b) from rfl, dataLt_tuple, dataLt_tuple]
  exact (Same.int h h2).row (h3.row rfl)
theorem Same.ek {f : Int → Int} {x y : Option Int} (h : ∀ a b, x = some a → y = some b → ((f a < f b ↔ a < b) ∧ (f b < f a ↔ b < a))) : Same (eKey f x) (eKey f y) (eKey id x) (eKey id y) := by
  cases x with
  | none => cases y with
    | none => exact ⟨al_pi .., al_pi .., rfl, rfl⟩
    | some b =>
      refine ⟨al_pi .., al_pi .., by rw [eKey, eKey, eKey, eKey, eq_pi, eq_pi]; rfl, ?_⟩
      rw [eKey, eKey, eKey, eKey, PySem.W.dataLt_ii, PySem.W.dataLt_ii]; exact decide_eq_decide.mpr (by omega)
  | some a => cases y with
    | none =>
      refine ⟨al_pi .., al_pi .., by rw [eKey, eKey, eKey, eKey, eq_pi, eq_pi]; rfl, ?_⟩
      rw [eKey, eKey, eKey, eKey, PySem.W.dataLt_ii, PySem.W.dataLt_ii]; exact decide_eq_decide.mpr (by omega)
    | some b =>
      obtain ⟨h1, h2⟩ := h a b rfl rfl
      refine ⟨al_pi .., al_pi .., ?_, ?_⟩
      · rw [eKey, eKey, eKey, eKey, eq_pi, eq_pi]
        congr 1
        exact decide_eq_decide.mpr (by show f a = f b ↔ id a = id b; simp only [id]; omega)
      · rw [eKey, eKey, eKey, eKey, PySem.W.dataLt_ii, PySem.W.dataLt_ii]; exact decide_eq_decide.mpr (by simpa using h1)
/-- an end by one rank, no end the last -/
def eTop (f : Int → Int) (top : Int) : Option Int → Int
  | none => top
  | some k => f k
theorem Same.top {f : Int → Int} {top : Int} {x y : Option Int} (hx : ∀ a, x = some a → f a < top) (hy : ∀ a, y = some a → f a < top) (h : ∀ a b, x = some a → y = some b → ((f a < f b ↔ a < b) ∧ (f b < f a ↔ b < a))) :
    Same (.int (eTop f top x)) (.int (eTop f top y)) (eKey id x) (eKey id y) := by
  cases x with
  | none => cases y with
    | none => refine ⟨by simp [alike], al_pi .., by simp [PyData.eqv, PyData.eqvAll, eKey], ?_⟩; rw [dataLt_int, eKey, PySem.W.dataLt_ii]; exact decide_eq_decide.mpr (by omega)
    | some b =>
      have := hy b rfl
      refine ⟨by simp [alike], al_pi .., ?_, ?_⟩
      · rw [eKey, eKey, eq_pi]; simp only [PyData.eqv, eTop]; rw [Bool.eq_iff_iff]; simp; omega
      · rw [dataLt_int, eKey, eKey, PySem.W.dataLt_ii]; exact decide_eq_decide.mpr (by simp only [eTop]; omega)
  | some a => cases y with
    | none =>
      have := hx a rfl
      refine ⟨by simp [alike], al_pi .., ?_, ?_⟩
      · rw [eKey, eKey, eq_pi]; simp only [PyData.eqv, eTop]; rw [Bool.eq_iff_iff]; simp; omega
      · rw [dataLt_int, eKey, eKey, PySem.W.dataLt_ii]; exact decide_eq_decide.mpr (by simp only [eTop]; omega)
    | some b =>
      obtain ⟨h1, h2⟩ := h a b rfl rfl
      refine ⟨by simp [alike], al_pi .., ?_, ?_⟩
      · rw [eKey, eKey, eq_pi]; simp only [PyData.eqv, eTop, id]; rw [Bool.eq_iff_iff]; simp; omega
      · rw [dataLt_int, eKey, eKey, PySem.W.dataLt_ii]; exact decide_eq_decide.mpr (by simpa [eTop] using h1)
/-- sorting by a key of that order -/
theorem srt_of {ss : List Snd} {key : Snd → PyData} (h : ∀ a ∈ ss, ∀ b ∈ ss, dataLt (key a) (key b) = dataLt (ck a) (ck b)) :
    (((ss.map Snd.w).zip (ss.map key)).mergeSort (dataLe false Prod.snd)).map Prod.fst = (srt ss).map Snd.w := by
  have e : (ss.map Snd.w).zip (ss.map key) = ss.map fun s => (s.w, key s) := by
    induction ss with
    | nil => rfl
    | cons a l ih => simp [ih fun a ha b hb => h a (List.mem_cons_of_mem _ ha) b (List.mem_cons_of_mem _ hb)]
  rw [e, ← sort_maps (r := dataLe false ck) (fun s => (s.w, key s)), List.map_map]
  · rfl
  · intro a ha b hb
    show (!dataLt (ck b) (ck a)) = (!dataLt (key b) (key a))
    rw [h b hb a ha]
theorem alikeAll_ints : ∀ xs ys : List Int, alikeAll (xs.map .int) (ys.map .int) = true
  | [], _ => by simp [alikeAll]
  | x :: xs, [] => by simp [alikeAll]
  | x :: xs, y :: ys => by simp only [List.map_cons, alikeAll, alike, Bool.true_and]; exact alikeAll_ints xs ys
theorem alike_key {p q : PyData} {a b : Int} {s t : Snd} (h : alike p q = true) : alike (.tuple (.int a :: p :: restK s)) (.tuple (.int b :: q :: restK t)) = true := by
  simp only [alike, alikeAll, restK, Bool.true_and, Bool.and_true, h]
  exact alikeAll_ints _ _
end K61
set_option maxRecDepth 100000
set_option maxHeartbeats 4000000
/-! Kp3: bottoms, ranks, orders. -/
namespace K61
open PySem Dw
open L2 (atI ixN)
open PySem.W (alike AllAlike Sortable dataLt dataLe)
local macro_rules | `(tactic| walk_at "w1") => `(tactic| first
  | with_reducible apply s_seq | with_reducible apply s_ret | with_reducible apply s_asg | with_reducible apply s_gname
  | ((with_reducible apply s_var); rfl) | with_reducible apply s_c | with_reducible apply s_op | with_reducible apply s_cb | with_reducible apply s_cons | with_reducible apply s_nil
  | with_reducible apply s_addI | with_reducible apply s_sub | ((with_reducible apply s_mul); rotate_left) | ((with_reducible apply s_mod); rotate_left) | ((with_reducible apply s_div); rotate_left)
  | with_reducible apply s_lt | with_reducible apply s_gt | with_reducible apply s_le | with_reducible apply s_ge | with_reducible apply s_is | with_reducible apply s_isnot | with_reducible apply s_eqI
  | ((with_reducible apply s_ixT); rfl) | with_reducible apply s_un | with_reducible apply s_neg
  | with_reducible apply s_tup | ((with_reducible apply s_fit); rotate_left) | with_reducible apply s_lst
  | with_reducible apply s_if | with_reducible apply s_test | with_reducible apply s_bl | with_reducible apply s_and | with_reducible apply s_or | with_reducible apply s_not | with_reducible apply s_andV | with_reducible apply s_orV | with_reducible apply s_notV | with_reducible apply s_ifE
  | with_reducible apply s_par | with_reducible apply s_two | with_reducible apply s_drop | with_reducible apply s_next | with_reducible apply s_brk | with_reducible apply s_cont
  | with_reducible apply s_i1 | with_reducible apply s_i2 | with_reducible apply s_intI | with_reducible apply s_intB
  | with_reducible apply s_gcons | with_reducible apply s_gnil | with_reducible apply s_gsub | with_reducible apply s_bm | with_reducible apply s_sl | with_reducible apply s_no | with_reducible apply s_part | with_reducible apply s_int | with_reducible apply s_slT
  | with_reducible apply s_for | with_reducible apply s_lc | with_reducible apply s_iseq | with_reducible apply s_irng | with_reducible apply s_dnew | with_reducible apply s_sortK)
local macro_rules | `(tactic| walk_at "w") => `(tactic| repeat walk_at "w1")
local macro_rules | `(tactic| walk_at "w1") => `(tactic| first | with_reducible apply s_t0 | with_reducible apply s_t1)
theorem s_o0 {k : Int} {M : Mh} {Q : WK} (h : Q (.int (nu k)) M) : oIx (om (some k)) (.int 0) M Q := s_t0 h
theorem s_o1 {k : Int} {M : Mh} {Q : WK} (h : Q (.int (de k)) M) : oIx (om (some k)) (.int 1) M Q := s_t1 h
local macro_rules | `(tactic| walk_at "w1") => `(tactic| first | with_reducible apply s_o0 | with_reducible apply s_o1)
section
variable {ws : List W} {M : Mh} {Q : WK}
theorem lcm_fact {L d : Int} (hL : 0 < L) (h60 : L ∣ 60) (hd : 0 < d) (hd60 : d ∣ 60) : 0 < L * (d / (Int.gcd L d : Nat)) ∧ L * (d / (Int.gcd L d : Nat)) ∣ 60 ∧ L ∣ L * (d / (Int.gcd L d : Nat)) ∧ d ∣ L * (d / (Int.gcd L d : Nat)) := by
  obtain ⟨l, rfl⟩ : ∃ l : Nat, L = (l : Int) := ⟨L.toNat, by omega⟩
  obtain ⟨e, rfl⟩ : ∃ e : Nat, d = (e : Int) := ⟨d.toNat, by omega⟩
  have hl : 0 < l := by omega
  have he : 0 < e := by omega
  have e1 : (l : Int) * ((e : Int) / (Int.gcd (l : Int) (e : Int) : Nat)) = ((Nat.lcm l e : Nat) : Int) := by
    rw [Int.gcd_natCast_natCast]
    unfold Nat.lcm
    rw [Nat.mul_div_assoc l (Nat.gcd_dvd_right l e), Int.natCast_mul, Int.natCast_ediv]
  rw [e1]
  have h1 : l ∣ 60 := Int.natCast_dvd_natCast.mp h60
  have h2 : e ∣ 60 := Int.natCast_dvd_natCast.mp hd60
  exact ⟨by have := Nat.lcm_pos hl he; omega, Int.natCast_dvd_natCast.mpr (Nat.lcm_dvd h1 h2), Int.natCast_dvd_natCast.mpr (Nat.dvd_lcm_left l e), Int.natCast_dvd_natCast.mpr (Nat.dvd_lcm_right l e)⟩
theorem le60 {L : Int} (h60 : L ∣ 60) : L ≤ 60 := Int.le_of_dvd (by decide) h60
theorem gcd_b {L d : Int} (hL : 0 < L) (hd : 0 < d) (h : d ≤ 60) : 0 < (Int.gcd L d : Int) ∧ (Int.gcd L d : Int) ≤ 60 ∧ 0 ≤ d / (Int.gcd L d : Nat) ∧ d / (Int.gcd L d : Nat) ≤ 60 := by
  have g1 := gcd_pos2 (x := L) hd
  have g2 : (Int.gcd L d : Int) ≤ d := Int.le_of_dvd hd (Int.gcd_dvd_right ..)
  refine ⟨g1, by omega, Int.ediv_nonneg (by omega) (by omega), ?_⟩
  have := Int.ediv_le_self (a := d) (Int.gcd L d : Nat) (by omega)
  omega
theorem pure_common_bottom (h : sp_common_bottom ws M Q) : t_common_bottom (DR Q) (startW N_common_bottom ws) M := by
  obtain ⟨p, ks, rfl, hM, q⟩ := h
  unfold t_common_bottom
  walk_at "w"
  refine f_seq (l := ks.map tm) (.inr hM) (fun i Γ M' => ∃ (L : Int) (c : Option W), Γ = [some (.ref p), some (.int L), c] ∧ M' = M ∧ 0 < L ∧ L ∣ 60 ∧ ∀ k ∈ ks.take i, de k ∣ L) ?_ ?_ ?_ ?_
  · exact ⟨1, none, rfl, rfl, by decide, ⟨60, rfl⟩, fun k hk => by simp at hk⟩
  · rintro i Γ M' hi ⟨L, c, rfl, rfl, _⟩; exact .inr hM
  · rintro Γ M' ⟨L, c, rfl, rfl, h1, h2, h3⟩
    rw [List.length_map, List.take_length] at h3
    walk_at "w"
    exact q L h1 h2 h3
  · rintro i x Γ M' hx ⟨L, c, rfl, rfl, h1, h2, h3⟩
    rw [List.getElem?_map] at hx
    cases hk : ks[i]? with
    | none => rw [hk] at hx; cases hx
    | some k =>
      rw [hk] at hx
      injection hx with hx; subst hx
      obtain ⟨f1, f2, f3, f4⟩ := lcm_fact h1 h2 (de_pos k) (de_dvd k)
      obtain ⟨g1, g2, g3, g4⟩ := gcd_b h1 (de_pos k) (de_le k)
      have := le60 h2
      walk_at "w"
      · refine ⟨L, de k, rfl, ?_⟩
        walk_at "w"
        · refine ⟨_, _, rfl, rfl, f1, f2, fun k' hk' => ?_⟩
          rw [List.take_add_one, hk, List.mem_append] at hk'
          rcases hk' with hk' | hk'
          · exact Int.dvd_trans (h3 k' hk') f3
          · simp at hk'; subst hk'; exact f4
        all_goals first | (with_reducible refine cm ?_ ?_ <;> omega) | exact cd g1 (by omega)
theorem ldiv {L k : Int} (h0 : 0 < L) (h60 : L ∣ 60) : (L / de k).natAbs < 2 ^ 64 := by
  have h1 := Int.ediv_nonneg (a := L) (b := de k) (by omega) (Int.le_of_lt (de_pos k))
  have h2 := Int.ediv_le_self (a := L) (de k) (by omega)
  have := le60 h60
  omega
theorem cm_rk {L k : Int} (hk : TB k) (h0 : 0 < L) (h60 : L ∣ 60) : L2.CMulX (nu k) (L / de k) := cm (Nat.lt_trans (nu_sm hk) (by decide)) (ldiv h0 h60)
theorem cd_de {L k : Int} : CDivW2 L (de k) := cd (de_pos k) (by have := de_le k; omega)
theorem key_mid {L : Int} {s : Snd} {p : W} (hb : TB s.b) (h0 : 0 < L) (h60 : L ∣ 60) (q : Q (.tup [.int (rkOf L s.b), p, .str s.n, .int s.v, .tup (s.ps.map .int)]) M) {c a b : Option W} :
    wRet (wTup (wCons (wOp (orR oMulI oMulS) (wOp oIx (wVar 2) (wC (.int 0))) (wOp oDivI (wVar 1) (wOp oIx (wVar 2) (wC (.int 1))))) (wCons (wVar 7) (wCons (wVar 4) (wCons (wVar 5) (wCons (wVar 6) wNil)))))) (DR Q) [a, some (.int L), some (tm s.b), b, some (.str s.n), some (.int s.v), some (.tup (s.ps.map .int)), some p] M := by
  walk_at "w"
  · exact q
  all_goals first | exact szb rfl | exact cm_rk hb h0 h60 | exact cd_de
theorem pure_law_key (h : sp_law_key ws M Q) : t_law_key (DR Q) (startW N_law_key ws) M := by
  obtain ⟨s, L, rfl, hs, h0, h60, d1, d2, q⟩ := h
  obtain ⟨b, e, n, v, ps⟩ := s
  unfold t_law_key
  walk_at "w"
  refine s_gtup (l := [tm b, om e, .str n, .int v, .tup (ps.map .int)]) rfl ?_
  walk_at "w"
  all_goals first | exact szb rfl | skip
  rw [isNonW_om]
  cases e with
  | none =>
    refine s_ifF ?_
    apply s_next
    exact key_mid (s := ⟨b, none, n, v, ps⟩) (c := none) hs.b h0 h60 q
  | some k =>
    refine s_ifT ?_
    apply s_asg
    refine s_tup ?_
    walk_at "w"
    · exact q
    all_goals first | exact szb rfl | exact cm_rk (hs.e k rfl).1 h0 h60 | exact cm_rk hs.b h0 h60 | exact cd_de
/-! ### orders -/
theorem datas_ints (ps : List Int) : datas (ps.map W.int) = ps.map PyData.int := by rw [datas_map, List.map_map]; rfl
theorem pures_ints (ps : List Int) : pures (ps.map W.int) = true := by rw [pures_all]; simp [W.pure]
theorem dep_ints (ps : List Int) : PyData.depthAll (ps.map PyData.int) = 0 := by
  induction ps with
  | nil => rfl
  | cons p l ih => simp [PyData.depthAll, PyData.depth, ih]
theorem lawKey_data (L : Int) (s : Snd) : (lawKey L s).data = .tuple (.int (rkOf L s.b) :: eKey (rkOf L) s.e :: restK s) := by
  unfold lawKey restK
  cases e : s.e <;> simp [W.data, datas, eKeyW, eKey, datas_ints]
theorem lawKey_pure (L : Int) (s : Snd) : (lawKey L s).pure = true := by
  unfold lawKey
  cases e : s.e <;> simp [W.pure, pures, eKeyW, pures_ints]
theorem eKey_dep (f : Int → Int) (e : Option Int) : (eKey f e).depth ≤ 1 := by cases e <;> simp [eKey, PyData.depth, PyData.depthAll]
theorem key_dep {a : Int} {p : PyData} {s : Snd} (h : p.depth ≤ 1) : (PyData.tuple (.int a :: p :: restK s)).depth ≤ 60 := by
  simp only [PyData.depth, PyData.depthAll, restK, dep_ints]
  omega
theorem srt_mem {ss : List Snd} {s : Snd} : s ∈ srt ss ↔ s ∈ ss := List.mem_mergeSort
theorem none_sub {M M' : Mh} {p : Addr} (h : Sub M M') (e : M' p = none) : M p = none := by
  cases z : M p with
  | none => rfl
  | some o => rw [h p o z] at e; cases e
/-- ranks of alike order -/
theorem rk_same {L : Int} (h0 : 0 < L) {a b : Int} (ha : de a ∣ L) (hb : de b ∣ L) : (rkOf L a < rkOf L b ↔ a < b) ∧ (rkOf L b < rkOf L a ↔ b < a) := ⟨rk_lt h0 ha hb, rk_lt h0 hb ha⟩
theorem set_map {α : Type} {ss : List α} {g : α → W} {i : Nat} {x : W} (h : (ss.map g)[i]? = some x) : ∃ s, ss[i]? = some s ∧ x = g s := by
  rw [List.getElem?_map] at h
  cases e : ss[i]? with
  | none => rw [e] at h; cases h
  | some s => rw [e] at h; injection h with h; exact ⟨s, rfl, h.symm⟩
theorem pure_law_sorted (h : sp_law_sorted ws M Q) : t_law_sorted (DR Q) (startW N_law_sorted ws) M := by
  obtain ⟨p, ss, rfl, hM, hs, hl, q⟩ := h
  unfold t_law_sorted
  walk_at "w"
  refine f_seq (l := ss.map Snd.w) (.inr hM) (fun i Γ M' => ∃ (L : Int) (c1 c2 c3 c4 c5 c6 : Option W), Γ = [some (.ref p), c1, c2, c3, c4, c5, c6, some (.int L)] ∧ Sub M M' ∧ 0 < L ∧ L ∣ 60 ∧ ∀ s ∈ ss.take i, de s.b ∣ L ∧ ∀ k, s.e = some k → de k ∣ L) ?_ ?_ ?_ ?_
  · exact ⟨1, none, none, none, none, none, none, rfl, Sub.refl, by decide, ⟨60, rfl⟩, fun k hk => by simp at hk⟩
  · rintro i Γ M' hi ⟨L, c1, c2, c3, c4, c5, c6, rfl, e, _⟩; exact .inr (e p _ hM)
  · rintro Γ M' ⟨L, c1, c2, c3, c4, c5, c6, rfl, sb, h1, h2, h3⟩
    rw [List.length_map, List.take_length] at h3
    walk_at "w"
    refine ⟨ss.map Snd.w, ss.map fun s => (lawKey L s).data, sb p _ hM, by simp, ?_, ?_, ?_, ?_, ?_⟩
    · intro d hd d' hd'
      obtain ⟨s, _, rfl⟩ := List.mem_map.mp hd
      obtain ⟨s', _, rfl⟩ := List.mem_map.mp hd'
      rw [lawKey_data, lawKey_data]
      exact alike_key (by cases s.e <;> cases s'.e <;> exact al_pi ..)
    · left
      intro d hd
      obtain ⟨s, _, rfl⟩ := List.mem_map.mp hd
      exact ⟨_, _, lawKey_data L s⟩
    · intro d hd
      obtain ⟨s, _, rfl⟩ := List.mem_map.mp hd
      rw [lawKey_data]
      exact key_dep (eKey_dep ..)
    · intro i x d hx hd
      obtain ⟨s, e1, rfl⟩ := set_map hx
      rw [List.getElem?_map, e1] at hd
      injection hd with hd
      subst hd
      have hm := List.mem_of_getElem? e1
      walk_at "w"
      refine ⟨s, L, rfl, hs s hm, h1, h2, (h3 s hm).1, (h3 s hm).2, Sub.refl, lawKey_pure L s, rfl⟩
    · intro r hr
      refine q r _ (Sub.trans sb (Sub.new hr)) (none_sub sb hr) ?_
      rw [updM_same, srt_of]
      intro a ha b hb
      rw [lawKey_data, lawKey_data]
      have r1 := rk_same h1 (h3 a ha).1 (h3 b hb).1
      exact key_lt r1.1 r1.2 (Same.ek fun x y ex ey => rk_same h1 ((h3 a ha).2 x ex) ((h3 b hb).2 y ey))
  · rintro i x Γ M' hx ⟨L, c1, c2, c3, c4, c5, c6, rfl, sb, h1, h2, h3⟩
    obtain ⟨s, e1, rfl⟩ := set_map hx
    have hm := List.mem_of_getElem? e1
    refine s_gtup (l := [tm s.b, om s.e, .str s.n, .int s.v, .tup (s.ps.map .int)]) rfl ?_
    walk_at "w"
    all_goals first | exact szb rfl | skip
    intro r hr
    refine f_seq (l := [tm s.b, om s.e]) (.inr updM_same) (fun j Γ M'' => ∃ (L' : Int) (c6 : Option W), Γ = [some (.ref p), some (tm s.b), some (om s.e), some (.str s.n), some (.int s.v), some (.tup (s.ps.map .int)), c6, some (.int L')] ∧ M'' = updM M' r (.lst [tm s.b, om s.e]) ∧ 0 < L' ∧ L' ∣ 60 ∧ L ∣ L' ∧ (1 ≤ j → de s.b ∣ L') ∧ (2 ≤ j → ∀ k, s.e = some k → de k ∣ L')) ?_ ?_ ?_ ?_
    · exact ⟨L, c6, rfl, rfl, h1, h2, Int.dvd_refl _, by omega, by omega⟩
    · rintro j Γ M'' hi ⟨L', c, rfl, rfl, _⟩; exact .inr updM_same
    · rintro Γ M'' ⟨L', c, rfl, rfl, g1, g2, g3, g4, g5⟩
      refine ⟨L', _, _, _, _, _, _, rfl, Sub.trans sb (Sub.new hr), g1, g2, fun s' hs' => ?_⟩
      rw [List.take_add_one, e1, List.mem_append] at hs'
      rcases hs' with hs' | hs'
      · exact ⟨Int.dvd_trans (h3 s' hs').1 g3, fun k e => Int.dvd_trans ((h3 s' hs').2 k e) g3⟩
      · simp at hs'; subst hs'; exact ⟨g4 (Nat.le_succ 1), g5 (Nat.le_refl 2)⟩
    · rintro j x Γ M'' hx ⟨L', c, rfl, rfl, g1, g2, g3, g4, g5⟩
      obtain ⟨o, rfl, ho⟩ : ∃ o, x = om o ∧ ((j = 0 ∧ o = some s.b) ∨ (j = 1 ∧ o = s.e)) := by
        rcases j with _ | _ | j
        · injection hx with hx; exact ⟨some s.b, hx.symm, .inl ⟨rfl, rfl⟩⟩
        · injection hx with hx; exact ⟨s.e, hx.symm, .inr ⟨rfl, rfl⟩⟩
        · simp at hx
      walk_at "w"
      rw [isNonW_om]
      cases o with
      | none =>
        refine s_ifF ?_
        apply s_next
        rcases ho with ⟨_, ho⟩ | ⟨rfl, ho⟩
        · cases ho
        · exact ⟨L', _, rfl, rfl, g1, g2, g3, fun _ => g4 (Nat.le_refl 1), fun _ k e => by rw [← ho] at e; cases e⟩
      | some k =>
        refine s_ifT ?_
        obtain ⟨f1, f2, f3, f4⟩ := lcm_fact g1 g2 (de_pos k) (de_dvd k)
        obtain ⟨y1, y2, y3, y4⟩ := gcd_b g1 (de_pos k) (de_le k)
        have := le60 g2
        walk_at "w"
        refine ⟨L', de k, rfl, de_pos k, by have := de_le k; omega, ?_⟩
        refine s_ixT (l := [.int (L' / (Int.gcd L' (de k) : Nat)), .int (de k / (Int.gcd L' (de k) : Nat))]) (w := .int (de k / (Int.gcd L' (de k) : Nat))) rfl ?_
        walk_at "w"
        · refine ⟨_, _, rfl, rfl, f1, f2, Int.dvd_trans g3 f3, fun h => ?_, fun h k' e => ?_⟩
          · rcases ho with ⟨rfl, ho⟩ | ⟨rfl, ho⟩
            · injection ho with ho; subst ho; exact f4
            · exact Int.dvd_trans (g4 (Nat.le_refl 1)) f3
          · rcases ho with ⟨rfl, ho⟩ | ⟨rfl, ho⟩
            · omega
            · rw [← ho] at e; injection e with e; subst e; exact f4
        all_goals first | (with_reducible refine cm ?_ ?_ <;> omega) | skip
end
end K61
set_option maxRecDepth 100000
set_option maxHeartbeats 4000000
/-! Kp4: ranks, the orders and the stretches. -/
namespace K61
open PySem Dw
open L2 (atI ixN)
open PySem.W (alike AllAlike Sortable dataLt dataLe)
local macro_rules | `(tactic| walk_at "w1") => `(tactic| first
  | with_reducible apply s_seq | with_reducible apply s_ret | with_reducible apply s_asg | with_reducible apply s_gname
  | ((with_reducible apply s_var); rfl) | with_reducible apply s_c | with_reducible apply s_op | with_reducible apply s_cb | with_reducible apply s_cons | with_reducible apply s_nil
  | with_reducible apply s_addI | with_reducible apply s_sub | ((with_reducible apply s_mul); rotate_left) | ((with_reducible apply s_mod); rotate_left) | ((with_reducible apply s_div); rotate_left)
  | with_reducible apply s_lt | with_reducible apply s_gt | with_reducible apply s_le | with_reducible apply s_ge | with_reducible apply s_is | with_reducible apply s_isnot | with_reducible apply s_eqI
  | ((with_reducible apply s_ixT); rfl) | with_reducible apply s_un | with_reducible apply s_neg
  | with_reducible apply s_tup | ((with_reducible apply s_fit); rotate_left) | with_reducible apply s_lst
  | with_reducible apply s_if | with_reducible apply s_test | with_reducible apply s_bl | with_reducible apply s_and | with_reducible apply s_or | with_reducible apply s_not | with_reducible apply s_andV | with_reducible apply s_orV | with_reducible apply s_notV | with_reducible apply s_ifE
  | with_reducible apply s_par | with_reducible apply s_two | with_reducible apply s_drop | with_reducible apply s_next | with_reducible apply s_brk | with_reducible apply s_cont
  | with_reducible apply s_i1 | with_reducible apply s_i2 | with_reducible apply s_intI | with_reducible apply s_intB
  | with_reducible apply s_gcons | with_reducible apply s_gnil | with_reducible apply s_gsub | with_reducible apply s_bm | with_reducible apply s_sl | with_reducible apply s_no | with_reducible apply s_part | with_reducible apply s_int | with_reducible apply s_slT
  | with_reducible apply s_for | with_reducible apply s_lc | with_reducible apply s_iseq | with_reducible apply s_irng | with_reducible apply s_dnew | with_reducible apply s_sortK)
local macro_rules | `(tactic| walk_at "w") => `(tactic| repeat walk_at "w1")
local macro_rules | `(tactic| walk_at "w1") => `(tactic| first | with_reducible apply s_t0 | with_reducible apply s_t1)
local macro_rules | `(tactic| walk_at "w1") => `(tactic| first | with_reducible apply s_o0 | with_reducible apply s_o1)
theorem dget_same {kvs : List (NestedKey × W)} {k : NestedKey} {v : W} : dget (dput kvs k v) k = some v := by
  unfold dput
  split
  · rename_i h
    unfold dget at *
    rw [List.find?_map]
    have e : ((fun x : NestedKey × W => decide (x.1 = k)) ∘ dput1 k v) = fun x => decide (x.1 = k) := by
      funext x; show decide ((dput1 k v x).1 = k) = _; unfold dput1; split <;> rfl
    rw [e]
    cases z : kvs.find? fun x => decide (x.1 = k) with
    | none => rw [z] at h; cases h
    | some x =>
      have := List.find?_some z
      simp only [Option.map_some, dput1, if_pos (of_decide_eq_true this)]
  · rename_i h
    unfold dget at *
    rw [List.find?_append]
    cases z : kvs.find? fun x => decide (x.1 = k) with
    | none => simp
    | some x => rw [z] at h; exact absurd rfl h
theorem dget_ne {kvs : List (NestedKey × W)} {k k' : NestedKey} {v : W} (n : k' ≠ k) : dget (dput kvs k v) k' = dget kvs k' := by
  unfold dput
  split
  · unfold dget
    rw [List.find?_map]
    have e : ((fun x : NestedKey × W => decide (x.1 = k')) ∘ dput1 k v) = fun x => decide (x.1 = k') := by
      funext x; show decide ((dput1 k v x).1 = k') = _; unfold dput1; split <;> rfl
    rw [e]
    cases z : kvs.find? fun x => decide (x.1 = k') with
    | none => rfl
    | some x =>
      have := List.find?_some z
      have := of_decide_eq_true this
      simp only [Option.map_some, dput1]
      rw [if_neg (fun y => n (this.symm.trans y))]
  · unfold dget
    rw [List.find?_append]
    cases z : kvs.find? fun x => decide (x.1 = k') with
    | none => simp [Ne.symm n]
    | some x => simp
theorem dput_mem {kvs : List (NestedKey × W)} {k : NestedKey} {v : W} {G : NestedKey × W → Prop} (h : ∀ x ∈ kvs, G x) (g : G (k, v)) : ∀ x ∈ dput kvs k v, G x := by
  unfold dput
  split
  · intro x hx
    obtain ⟨y, hy, rfl⟩ := List.mem_map.mp hx
    unfold dput1
    split
    · rename_i e; rw [e]; exact g
    · exact h y hy
  · intro x hx
    rw [List.mem_append] at hx
    rcases hx with hx | hx
    · exact h x hx
    · simp at hx; subst hx; exact g
theorem dput_le {kvs : List (NestedKey × W)} {k : NestedKey} {v : W} : (dput kvs k v).length ≤ kvs.length + 1 := by
  unfold dput
  split
  · rw [List.length_map]; omega
  · simp
theorem dget_mem {kvs : List (NestedKey × W)} {k : NestedKey} {v : W} (h : dget kvs k = some v) : v ∈ kvs.map (·.2) := by
  unfold dget at h
  cases z : kvs.find? fun x => decide (x.1 = k) with
  | none => rw [z] at h; cases h
  | some x => rw [z] at h; injection h with h; exact List.mem_map.mpr ⟨x, List.mem_of_find?_eq_some z, h⟩
theorem le_fold : ∀ (ns : List Int) (n : Int), n ≤ ns.foldl max n ∧ ∀ x ∈ ns, x ≤ ns.foldl max n
  | [], n => ⟨Int.le_refl _, by simp⟩
  | y :: ns, n => by
    obtain ⟨h1, h2⟩ := le_fold ns (max n y)
    rw [List.foldl_cons]
    refine ⟨by omega, fun x hx => ?_⟩
    rcases List.mem_cons.mp hx with hx | hx
    · subst hx; omega
    · exact h2 x hx
section
variable {ws : List W} {M : Mh} {Q : WK} {hf : NestedKey → Int}
theorem some_ones : ∀ ms : List (Option Int), (ms.map om).filterMap (fun w => if isNonW w = true then none else some w) = (ms.filterMap id).map tm
  | [] => rfl
  | none :: l => by
    rw [List.map_cons, List.filterMap_cons_none (by rfl), List.filterMap_cons_none (by rfl)]; exact some_ones l
  | some k :: l => by
    rw [List.map_cons, List.filterMap_cons_some (b := tm k) (by rfl), List.filterMap_cons_some (b := k) (by rfl), List.map_cons, some_ones l]
theorem s_maxD {Γ : Dw.Env} {te td : TEw} (h : te Γ M fun x M1 => td Γ M1 fun d M2 => ∃ (l : List W) (is : List Int), itemsL M2 x l ∧ l = is.map .int ∧ (is = [] → Q d M2) ∧ ∀ n ns, is = n :: ns → Q (.int (ns.foldl max n)) M2) : wMaxD te td Γ M Q := h
theorem s_dvals {Γ : Dw.Env} {td : TEw} (h : td Γ M fun x M1 => ∃ a kvs, x = .ref a ∧ M1 a = some (.dic hf kvs) ∧ ∀ p, M1 p = none → Q (.ref p) (updM M1 p (.lst (kvs.map (·.2))))) : wDVals hf td Γ M Q := h
theorem ints_of : ∀ {kvs : List (NestedKey × W)}, (∀ x ∈ kvs, ∃ n : Int, x.2 = .int n) → ∃ is : List Int, kvs.map (·.2) = is.map .int
  | [], _ => ⟨[], rfl⟩
  | x :: kvs, h => by
    obtain ⟨n, e⟩ := h x List.mem_cons_self
    obtain ⟨is, e2⟩ := ints_of (kvs := kvs) fun y hy => h y (List.mem_cons_of_mem _ hy)
    exact ⟨n :: is, by rw [List.map_cons, List.map_cons, e, e2]⟩
theorem pure_ranks (h : sp_ranks hf ws M Q) : t_ranks hf (DR Q) (startW N_ranks ws) M := by
  obtain ⟨p, ms, rfl, hM, hk, hl, q⟩ := h
  unfold t_ranks
  walk_at "w"
  refine f_lcP (l := ms.map om) (fun w => if isNonW w = true then none else some w) (.inr hM) (Nat.lt_of_le_of_lt (by rw [List.length_map]; exact hl) (by show 1000000 < sizeLine; decide)) ?_ ?_
  · intro D acc x K1 K2 hD hx h1 h2
    walk_at "w"
    refine s_ifb (fun c => ?_) fun c => ?_
    · walk_at "w"
      exact h1 x (by cases e : isNonW x <;> simp [e] at c ⊢)
    · exact h2 (by cases e : isNonW x <;> simp [e] at c ⊢)
  · intro D hD
    rw [some_ones]
    walk_at "w"
    refine ⟨D, ms.filterMap id, rfl, updM_same, fun L h0 h60 hd => ?_⟩
    have hd : ∀ k, some k ∈ ms → de k ∣ L := fun k hk => hd k (List.mem_filterMap.mpr ⟨some k, hk, rfl⟩)
    walk_at "w"
    intro r hr
    walk_at "w"
    have s1 : Sub M (updM M D (.lst ((ms.filterMap id).map tm))) := Sub.new hD
    have hrM := none_sub s1 hr
    refine f_seq (l := ms.map om) (.inr (Sub.new hr p _ (s1 p _ hM))) (fun i Γ M' => ∃ (c : Option W) (kvs : List (NestedKey × W)), Γ = [some (.ref p), c, some (.int L), some (.ref r)] ∧ Sub M M' ∧ M' r = some (.dic hf kvs) ∧ (∀ x ∈ kvs, ∃ n : Int, x.2 = .int n) ∧ (∀ k, some k ∈ ms.take i → dget kvs (tkey k) = some (.int (rkOf L k))) ∧ kvs.length ≤ i) ?_ ?_ ?_ ?_
    · exact ⟨_, [], rfl, Sub.trans s1 (Sub.new hr), updM_same, by simp, by simp, Nat.le_refl _⟩
    · rintro i Γ M' hi ⟨c, kvs, rfl, sb, _⟩; exact .inr (sb p _ hM)
    · rintro Γ M' ⟨c, kvs, rfl, sb, hr2, g1, g2, g3⟩
      rw [List.length_map] at g2 g3
      rw [List.take_length] at g2
      obtain ⟨is, ei⟩ := ints_of g1
      have fin : ∀ (top : Int) (M3 : Mh), Sub M' M3 → (∀ k, some k ∈ ms → rkOf L k < top) → setD hf (.ref r) .non (.int top) M3 fun M4 => wRet (wVar 3) (DR Q) [some (W.ref p), c, some (W.int L), some (W.ref r)] M4 := fun top M3 sb3 ht => by
        refine s_setD (sb3 r _ hr2) (k := .none) rfl (by simp [NestedKey.depth]) (Nat.lt_of_le_of_lt (m := 1000000) (by omega) (by show 1000000 < sizeLine; decide)) ?_
        apply s_ret; apply s_var; rfl
        refine q r _ (dput kvs .none (.int top)) L top ?_ updM_same h0 hd (fun k hk2 => ⟨?_, ht k hk2⟩) dget_same
        · intro b o' e
          rw [updM_ne (fun z => by rw [z, hrM] at e; cases e)]; exact sb3 b o' (sb b o' e)
        · rw [dget_ne (by unfold tkey; exact fun z => by cases z)]
          exact g2 k hk2
      have hmem : ∀ k, some k ∈ ms → rkOf L k ∈ is := fun k hk2 => by
        have := dget_mem (g2 k hk2)
        rw [ei] at this
        obtain ⟨n, hn, e⟩ := List.mem_map.mp this
        injection e with e; subst e; exact hn
      walk_at "w"
      refine s_maxD (s_dvals ?_)
      walk_at "w"
      refine ⟨r, kvs, rfl, hr2, fun u hu => ?_⟩
      walk_at "w"
      refine ⟨kvs.map (fun (x : NestedKey × W) => x.2), is, (show updM _ u _ u = _ from updM_same), ei, fun z => ?_, fun n ns z => ?_⟩
      · walk_at "w"
        refine fin _ _ (Sub.new hu) fun k hk2 => ?_
        have := hmem k hk2; rw [z] at this; cases this
      · walk_at "w"
        refine fin _ _ (Sub.new hu) fun k hk2 => ?_
        have h1 := hmem k hk2
        rw [z] at h1
        obtain ⟨b1, b2⟩ := le_fold ns n
        rcases List.mem_cons.mp h1 with h1 | h1
        · omega
        · have := b2 _ h1; omega
    · rintro i x Γ M' hx ⟨c, kvs, rfl, sb, hr2, g1, g2, g3⟩
      obtain ⟨o, e1, rfl⟩ := set_map hx
      have hm := List.mem_of_getElem? e1
      walk_at "w"
      rw [isNonW_om]
      have hi : i < ms.length := (List.getElem?_eq_some_iff.mp e1).1
      cases o with
      | none =>
        refine s_ifF ?_
        apply s_next
        refine ⟨_, kvs, rfl, sb, hr2, g1, fun k h => ?_, by omega⟩
        rw [List.take_add_one, e1, List.mem_append] at h
        rcases h with h | h
        · exact g2 k h
        · simp at h
      | some k =>
        refine s_ifT ?_
        walk_at "w"
        · refine s_setD hr2 (k := tkey k) rfl (by simp [tkey, NestedKey.depth, NestedKey.depthAll]) (Nat.lt_of_le_of_lt (m := 1000000) (by omega) (by show 1000000 < sizeLine; decide)) ?_
          refine ⟨_, dput kvs (tkey k) (.int (rkOf L k)), rfl, ?_, updM_same, dput_mem g1 ⟨_, rfl⟩, fun k' h => ?_, Nat.le_trans dput_le (by omega)⟩
          · intro b o' e
            rw [updM_ne (fun z => by rw [z, hrM] at e; cases e)]; exact sb b o' e
          · by_cases z : k' = k
            · subst z; exact dget_same
            · rw [dget_ne (fun y => z (tkey_inj y))]
              rw [List.take_add_one, e1, List.mem_append] at h
              rcases h with h | h
              · exact g2 k' h
              · simp at h; exact absurd h.symm (fun y => z (by omega))
        all_goals first | exact cm_rk (hk k hm) h0 h60 | exact cd_de
end
end K61
set_option maxRecDepth 100000
set_option maxHeartbeats 4000000
/-! Kp5: in order, the stretches. -/
namespace K61
open PySem Dw
open L2 (atI ixN)
open PySem.W (alike AllAlike Sortable dataLt dataLe)
local macro_rules | `(tactic| walk_at "w1") => `(tactic| first
  | with_reducible apply s_seq | with_reducible apply s_ret | with_reducible apply s_asg | with_reducible apply s_gname
  | ((with_reducible apply s_var); rfl) | with_reducible apply s_c | with_reducible apply s_op | with_reducible apply s_cb | with_reducible apply s_cons | with_reducible apply s_nil
  | with_reducible apply s_addI | with_reducible apply s_sub | ((with_reducible apply s_mul); rotate_left) | ((with_reducible apply s_mod); rotate_left) | ((with_reducible apply s_div); rotate_left)
  | with_reducible apply s_lt | with_reducible apply s_gt | with_reducible apply s_le | with_reducible apply s_ge | with_reducible apply s_is | with_reducible apply s_isnot | with_reducible apply s_eqI
  | ((with_reducible apply s_ixT); rfl) | with_reducible apply s_un | with_reducible apply s_neg
  | with_reducible apply s_tup | ((with_reducible apply s_fit); rotate_left) | with_reducible apply s_lst
  | with_reducible apply s_if | with_reducible apply s_test | with_reducible apply s_bl | with_reducible apply s_and | with_reducible apply s_or | with_reducible apply s_not | with_reducible apply s_andV | with_reducible apply s_orV | with_reducible apply s_notV | with_reducible apply s_ifE
  | with_reducible apply s_par | with_reducible apply s_two | with_reducible apply s_drop | with_reducible apply s_next | with_reducible apply s_brk | with_reducible apply s_cont
  | with_reducible apply s_i1 | with_reducible apply s_i2 | with_reducible apply s_intI | with_reducible apply s_intB
  | with_reducible apply s_gcons | with_reducible apply s_gnil | with_reducible apply s_gsub | with_reducible apply s_bm | with_reducible apply s_sl | with_reducible apply s_no | with_reducible apply s_part | with_reducible apply s_int | with_reducible apply s_slT
  | with_reducible apply s_for | with_reducible apply s_lc | with_reducible apply s_iseq | with_reducible apply s_irng | with_reducible apply s_dnew | with_reducible apply s_sortK)
local macro_rules | `(tactic| walk_at "w") => `(tactic| repeat walk_at "w1")
local macro_rules | `(tactic| walk_at "w1") => `(tactic| first | with_reducible apply s_t0 | with_reducible apply s_t1)
local macro_rules | `(tactic| walk_at "w1") => `(tactic| first | with_reducible apply s_o0 | with_reducible apply s_o1)
/-- a comprehension over told things -/
theorem f_lcM {α : Type} {Γ : Dw.Env} {M : Mh} {Q : WK} {w : W} {g : TGw} {tt : TTw} {te : TEw} {vs : List Nat} {ss : List α} (g0 : α → W) (f : α → Option W) (e : w = .tup (ss.map g0) ∨ itemsL M w (ss.map g0)) (hz : ss.length < sizeLine)
    (turn : ∀ (D : Addr) (acc : List W) (s : α) (K1 : WK) (K2 : Mh → Prop), M D = none → s ∈ ss → (∀ y, f s = some y → K1 y (updM M D (.lst acc))) → (f s = none → K2 (updM M D (.lst acc))) →
      g (g0 s) (wipeW Γ vs) (updM M D (.lst acc)) fun Γ2 M2 => tt Γ2 M2 fun b M3 => if b = true then te Γ2 M3 K1 else K2 M3)
    (fin : ∀ D, M D = none → Q (.ref D) (updM M D (.lst (ss.filterMap f)))) : seqW M w ∧ lcK g tt te vs Γ Q (itSeq w) M := by
  refine ⟨⟨_, e⟩, fun D hD => ⟨ss.length, fun i M' => M' = updM M D (.lst ((ss.take i).filterMap f)), by show _ = updM M D (.lst ((ss.take 0).filterMap f)); rw [List.take_zero]; rfl, ?_⟩⟩
  rintro i M' hi rfl
  refine ⟨fun z => ?_, fun z => ?_⟩
  · subst z
    rw [List.take_length]
    exact ⟨⟨_, items_upd e hD, by simp⟩, fin D hD⟩
  · have hx : ss[i]? = some ss[i] := List.getElem?_eq_getElem z
    refine ⟨g0 ss[i], ⟨_, items_upd e hD, by rw [List.getElem?_map, hx]; rfl⟩, turn D _ _ _ _ hD (List.getElem_mem z) (fun y hy => ⟨_, updM_same, ?_, ?_⟩) fun hy => ?_⟩
    · refine Nat.lt_of_le_of_lt (List.length_filterMap_le ..) ?_
      rw [List.length_take]; omega
    · show _ = updM M D (.lst ((ss.take (i + 1)).filterMap f))
      rw [updM_updM, List.take_add_one, hx, List.filterMap_append]
      simp [hy]
    · show _ = updM M D (.lst ((ss.take (i + 1)).filterMap f))
      rw [List.take_add_one, hx, List.filterMap_append]
      simp [hy]
theorem fm_map {α β : Type} (g : α → β) (ss : List α) : ss.filterMap (fun s => some (g s)) = ss.map g := by
  induction ss with
  | nil => rfl
  | cons a l ih => simp
section
variable {ws : List W} {M : Mh} {Q : WK} {hf : NestedKey → Int}
theorem pk_data (f : Int → Int) (top : Int) (s : Snd) : (W.tup [.int (f s.b), .int (eTop f top s.e), .str s.n, .int s.v, .tup (s.ps.map .int)]).data = .tuple (.int (f s.b) :: .int (eTop f top s.e) :: restK s) := by
  unfold restK
  simp [W.data, datas, datas_ints]
theorem pk_pure (f : Int → Int) (top : Int) (s : Snd) : (W.tup [.int (f s.b), .int (eTop f top s.e), .str s.n, .int s.v, .tup (s.ps.map .int)]).pure = true := by
  simp [W.pure, pures, pures_ints]
theorem pure_in_order (h : sp_in_order ws M Q) : t_in_order hf (DR Q) (startW N_in_order ws) M := by
  obtain ⟨p, ss, rfl, hM, hs, hl, q⟩ := h
  have hz : ss.length < sizeLine := Nat.lt_of_le_of_lt hl (by decide)
  unfold t_in_order
  walk_at "w"
  refine f_lcM Snd.w (fun s => some (tm s.b)) (.inr hM) hz ?_ ?_
  · intro D acc s K1 K2 hD hx h1 h2
    walk_at "w"
    apply s_yes
    apply s_ifT
    walk_at "w"
    exact s_ixT rfl (h1 _ rfl)
  intro D hD
  walk_at "w"
  have s1 : Sub M (updM M D (.lst (ss.filterMap fun s => some (tm s.b)))) := Sub.new hD
  refine f_lcM Snd.w (fun s => some (om s.e)) (.inr (s1 p _ hM)) hz ?_ ?_
  · intro D acc s K1 K2 hD hx h1 h2
    walk_at "w"
    apply s_yes
    apply s_ifT
    walk_at "w"
    exact s_ixT rfl (h1 _ rfl)
  intro E hE
  rw [fm_map, fm_map] at *
  have s2 : Sub (updM M D (.lst (ss.map fun s => tm s.b))) (updM (updM M D (.lst (ss.map fun s => tm s.b))) E (.lst (ss.map fun s => om s.e))) := Sub.new hE
  refine s_addL (s2 D _ updM_same) updM_same (by simp; exact Nat.le_trans (Nat.add_le_add hl hl) (by decide)) fun F hF => ?_
  have s3 := Sub.trans (Sub.trans s1 s2) (Sub.new (o := .lst ((ss.map fun s => tm s.b) ++ ss.map fun s => om s.e)) hF)
  walk_at "w"
  refine ⟨F, ss.map (fun s => some s.b) ++ ss.map (fun s => s.e), rfl, ?_, ?_, ?_, ?_⟩
  · rw [updM_same, List.map_append, List.map_map, List.map_map]; rfl
  · intro k hk
    rw [List.mem_append] at hk
    rcases hk with hk | hk
    · obtain ⟨s, h1, h2⟩ := List.mem_map.mp hk
      injection h2 with h2; subst h2; exact (hs s h1).b
    · obtain ⟨s, h1, h2⟩ := List.mem_map.mp hk
      exact ((hs s h1).e k h2).1
  · rw [List.length_append, List.length_map, List.length_map]; omega
  · intro r M' kvs L top sb hr h0 hd hk ht
    have mb : ∀ s ∈ ss, some s.b ∈ ss.map (fun s => some s.b) ++ ss.map (fun s => s.e) := fun s hs => List.mem_append_left _ (List.mem_map.mpr ⟨s, hs, rfl⟩)
    have me : ∀ s ∈ ss, ∀ k, s.e = some k → some k ∈ ss.map (fun s => some s.b) ++ ss.map (fun s => s.e) := fun s hs k e => List.mem_append_right _ (List.mem_map.mpr ⟨s, hs, e⟩)
    have s4 := Sub.trans s3 sb
    walk_at "w"
    refine ⟨ss.map Snd.w, ss.map fun s => (W.tup [.int (rkOf L s.b), .int (eTop (rkOf L) top s.e), .str s.n, .int s.v, .tup (s.ps.map .int)]).data, s4 p _ hM, by simp, ?_, ?_, ?_, ?_, ?_⟩
    · intro d hd d' hd'
      obtain ⟨s, _, rfl⟩ := List.mem_map.mp hd
      obtain ⟨s', _, rfl⟩ := List.mem_map.mp hd'
      rw [pk_data, pk_data]
      exact alike_key (by simp [alike])
    · left
      intro d hd
      obtain ⟨s, _, rfl⟩ := List.mem_map.mp hd
      exact ⟨_, _, pk_data _ _ s⟩
    · intro d hd
      obtain ⟨s, _, rfl⟩ := List.mem_map.mp hd
      rw [pk_data]
      exact key_dep (by simp [PyData.depth])
    · intro i x d hx hd2
      obtain ⟨s, e1, rfl⟩ := set_map hx
      rw [List.getElem?_map, e1] at hd2
      injection hd2 with hd2
      subst hd2
      have hm := List.mem_of_getElem? e1
      walk_at "w"
      refine s_ixT rfl ?_
      refine s_ixD hr (k := tkey s.b) rfl (by simp [tkey, NestedKey.depth, NestedKey.depthAll]) (hk s.b (mb s hm)).1 ?_
      walk_at "w"
      refine s_ixT (w := om s.e) rfl ?_
      have hd' : ∃ key, om s.e = kw key ∧ key.depth ≤ 8 ∧ dget kvs key = some (.int (eTop (rkOf L) top s.e)) := by
        cases e : s.e with
        | none => exact ⟨.none, rfl, by simp [NestedKey.depth], ht⟩
        | some k => exact ⟨tkey k, rfl, by simp [tkey, NestedKey.depth, NestedKey.depthAll], (hk k (me s hm k e)).1⟩
      obtain ⟨key, k1, k2, k3⟩ := hd'
      refine s_ixD hr k1 k2 k3 ?_
      walk_at "w"
      · refine s_slT (l := [tm s.b, om s.e, .str s.n, .int s.v, .tup (s.ps.map .int)]) ?_
        refine s_addT ?_ ?_
        · exact Nat.le_trans (m := 5) (by show 2 + 3 ≤ 5; decide) (by decide)
        · exact ⟨Sub.refl, pk_pure _ _ s, rfl⟩
      all_goals exact szb rfl
    · intro u hu
      refine q u _ (Sub.trans s4 (Sub.new hu)) (none_sub s4 hu) ?_
      rw [updM_same, srt_of]
      intro a ha b hb
      rw [pk_data, pk_data]
      have r1 := rk_same h0 (hd a.b (mb a ha)) (hd b.b (mb b hb))
      exact key_lt r1.1 r1.2 (Same.top (fun x ex => (hk x (me a ha x ex)).2) (fun x ex => (hk x (me b hb x ex)).2) fun x y ex ey => rk_same h0 (hd x (me a ha x ex)) (hd y (me b hb y ey)))
theorem btw_iff {x y b : Int} {e : Option Int} : btw x y b e = true ↔ b < y ∧ ∀ k, e = some k → x < k := by
  unfold btw
  cases e <;> simp
theorem cut_ok {x y : Int} {s : Snd} (hs : SndOk s) (h : 0 ≤ x ∧ x < y ∧ y ≤ 10000000) (b : btw x y s.b s.e = true) : SndOk (cut x y s) := by
  obtain ⟨b1, b2⟩ := btw_iff.mp b
  have h1 := hs.b
  unfold TB at h1
  constructor
  · show TB ((if s.b < x then x else s.b) - x)
    unfold TB
    split <;> omega
  · intro k e
    injection e with e
    subst e
    show TB (mn y s.e - x) ∧ (if s.b < x then x else s.b) - x < mn y s.e - x
    unfold TB
    cases e : s.e with
    | none => simp only [mn]; split <;> omega
    | some k =>
      have := b2 k e
      have := (hs.e k e).2
      simp only [mn]
      split <;> split <;> omega
theorem fm_cut (x y : Int) (ss : List Snd) : ss.filterMap (fun s => if btw x y s.b s.e = true then some (cut x y s).w else none) = ((ss.filter fun s => btw x y s.b s.e).map (cut x y)).map Snd.w := by
  induction ss with
  | nil => rfl
  | cons a l ih =>
    by_cases h : btw x y a.b a.e = true
    · rw [List.filterMap_cons_some (b := (cut x y a).w) (by simp only [if_pos h]), List.filter_cons_of_pos (p := fun s : Snd => btw x y s.b s.e) h, ih]; rfl
    · rw [List.filterMap_cons_none (by simp only [if_neg h]), List.filter_cons_of_neg (p := fun s : Snd => btw x y s.b s.e) h, ih]
theorem cut_all {x y : Int} {ss : List Snd} (hs : ∀ s ∈ ss, SndOk s) (h : 0 ≤ x ∧ x < y ∧ y ≤ 10000000) : ∀ s ∈ (ss.filter fun s => btw x y s.b s.e).map (cut x y), SndOk s := fun s h2 => by
  obtain ⟨a, ha, rfl⟩ := List.mem_map.mp h2
  obtain ⟨h3, h4⟩ := List.mem_filter.mp ha
  exact cut_ok (hs a h3) h h4
theorem cut_len {x y : Int} {ss : List Snd} (h : ss.length ≤ 100000) : ((ss.filter fun s => btw x y s.b s.e).map (cut x y)).length ≤ 100000 := by
  rw [List.length_map]
  exact Nat.le_trans (List.length_filter_le ..) h
theorem pure_stretch (h : sp_stretch ws M Q) : t_stretch (DR Q) (startW N_stretch ws) M := by
  obtain ⟨p, ss, x, y, rfl, hM, hs, hl, hxy, q⟩ := h
  have hz : ss.length < sizeLine := Nat.lt_of_le_of_lt hl (by decide)
  have hx : TB x := by unfold TB; omega
  have hy : TB y := by unfold TB; omega
  unfold t_stretch
  walk_at "w"
  refine f_lcM Snd.w (fun s => if btw x y s.b s.e = true then some (cut x y s).w else none) (.inr hM) hz ?_ ?_
  · intro D acc s K1 K2 hD hm h1 h2
    walk_at "w"
    refine s_ixT (w := tm s.b) rfl ?_
    walk_at "w"
    refine s_ixT (w := om s.e) rfl ?_
    walk_at "w"
    refine ⟨s.b, s.e, x, y, rfl, (hs s hm).b, fun k e => ((hs s hm).e k e).1, hx, hy, ?_⟩
    refine s_bl ?_
    refine s_ifb (fun c => ?_) fun c => ?_
    · walk_at "w"
      exact ⟨s, x, y, rfl, hs s hm, hx, hy, h1 _ (by simp only [if_pos c])⟩
    · exact h2 (by simp [c])
  · intro D hD
    rw [fm_cut]
    walk_at "w"
    refine ⟨D, _, rfl, updM_same, cut_all hs hxy, cut_len hl, fun r M' sb hr e => ?_⟩
    have s1 : Sub M (updM M D (.lst (((ss.filter fun s => btw x y s.b s.e).map (cut x y)).map Snd.w))) := Sub.new hD
    exact q r M' (Sub.trans s1 sb) (none_sub s1 hr) e
theorem cut_tail {n : Dw.Env → Mh → Prop} {r : WK} {bk ct : Dw.Env → Mh → Prop} {a0 a2 c4 c5 : Option W} {D : Addr} {x lo hi : Int} {nm : Str} {v : Int} {ps : List W} {L : List W} (hlo : TB lo) (hhi : TB hi) (hx : TB x) (e : M D = some (.lst L)) (hz : L.length < sizeLine)
    (q1 : lo < hi → n [a0, some (tm x), a2, some (.ref D), c4, c5, some (.str nm), some (.int v), some (.tup ps), some (tm lo), some (tm hi)] (updM M D (.lst (L ++ [W.tup [tm (lo - x), tm (hi - x), .str nm, .int v, .tup ps]]))))
    (q2 : ¬ lo < hi → n [a0, some (tm x), a2, some (.ref D), c4, c5, some (.str nm), some (.int v), some (.tup ps), some (tm lo), some (tm hi)] M) :
    wIf (wTest (wCB sp_law_less (wCons (wVar 9) (wCons (wVar 10) wNil)))) (wDrop (wBM mAppend (wVar 3) (wCons (wTup (wCons (wCB sp_law_minus (wCons (wVar 9) (wCons (wVar 1) wNil))) (wCons (wCB sp_law_minus (wCons (wVar 10) (wCons (wVar 1) wNil))) (wCons (wVar 6) (wCons (wVar 7) (wCons (wVar 8) wNil)))))) wNil))) wNext ⟨n, r, bk, ct⟩
      [a0, some (tm x), a2, some (.ref D), c4, c5, some (.str nm), some (.int v), some (.tup ps), some (tm lo), some (tm hi)] M := by
  walk_at "w"
  refine ⟨lo, hi, rfl, hlo, hhi, ?_⟩
  refine s_bl ?_
  refine s_ifb (fun c => ?_) fun c => ?_
  · walk_at "w"
    refine s_isl e ?_
    walk_at "w"
    refine ⟨lo, x, rfl, hlo, hx, ?_⟩
    walk_at "w"
    refine ⟨hi, x, rfl, hhi, hx, ?_⟩
    walk_at "w"
    · refine s_app e hz ?_
      exact q1 (of_decide_eq_true c)
    · exact szb rfl
  · exact q2 (of_decide_eq_false c)
theorem pure_law_cut (h : sp_law_cut ws M Q) : t_law_cut (DR Q) (startW N_law_cut ws) M := by
  obtain ⟨p, ss, x, y, rfl, hM, hs, hl, hxy, q⟩ := h
  have hx : TB x := by unfold TB; omega
  have hy : TB y := by unfold TB; omega
  unfold t_law_cut
  walk_at "w"
  all_goals first | exact szb rfl | skip
  intro D hD
  walk_at "w"
  have s1 : Sub M (updM M D (.lst [])) := Sub.new hD
  refine f_seq (l := ss.map Snd.w) (.inr (s1 p _ hM)) (fun i Γ M' => ∃ (c4 c5 c6 c7 c8 c9 c10 : Option W), Γ = [some (.ref p), some (tm x), some (tm y), some (.ref D), c4, c5, c6, c7, c8, c9, c10] ∧ Sub M M' ∧ M' D = some (.lst ((((ss.take i).filter fun s => btw x y s.b s.e).map (cut x y)).map Snd.w))) ?_ ?_ ?_ ?_
  · exact ⟨_, _, _, _, _, _, _, rfl, s1, updM_same⟩
  · rintro i Γ M' hi ⟨c4, c5, c6, c7, c8, c9, c10, rfl, sb, _⟩; exact .inr (sb p _ hM)
  · rintro Γ M' ⟨c4, c5, c6, c7, c8, c9, c10, rfl, sb, e⟩
    rw [List.length_map, List.take_length] at e
    walk_at "w"
    exact ⟨D, _, rfl, e, cut_all hs hxy, cut_len hl, fun r M2 sb2 hr e2 => q r M2 (Sub.trans sb sb2) (none_sub sb hr) e2⟩
  · rintro i w Γ M' hw ⟨c4, c5, c6, c7, c8, c9, c10, rfl, sb, e⟩
    obtain ⟨s, e1, rfl⟩ := set_map hw
    have hm := List.mem_of_getElem? e1
    refine s_gtup (l := [tm s.b, om s.e, .str s.n, .int s.v, .tup (s.ps.map .int)]) rfl ?_
    walk_at "w"
    all_goals first | exact szb rfl | skip
    intro E hE
    have s2 : Sub M' (updM M' E (.lst [tm s.b, tm x])) := Sub.new hE
    walk_at "w"
    refine ⟨s.b, x, rfl, (hs s hm).b, hx, ?_⟩
    walk_at "w"
    refine s_ixR (w := tm (if s.b < x then x else s.b)) updM_same (by by_cases c : s.b < x <;> simp [c] <;> rfl) ?_
    have eD := s2 D _ e
    have sb2 := Sub.trans sb s2
    have h1 := (hs s hm).b
    have hlo : TB (if s.b < x then x else s.b) := by split <;> assumption
    have hhi : TB (mn y s.e) := by
      cases ee : s.e with
      | none => exact hy
      | some k => have := ((hs s hm).e k ee).1; simp only [mn]; split <;> assumption
    have hb : (if s.b < x then x else s.b) < mn y s.e ↔ btw x y s.b s.e = true := by
      rw [btw_iff]
      cases ee : s.e with
      | none => simp only [mn]; refine ⟨fun h => ⟨by split at h <;> omega, fun k e => by cases e⟩, fun h => by split <;> omega⟩
      | some k =>
        have := ((hs s hm).e k ee).2
        simp only [mn]
        refine ⟨fun h => ⟨by split at h <;> split at h <;> omega, fun k e => by injection e with e; subst e; split at h <;> split at h <;> omega⟩, fun h => by have := h.2 k rfl; split <;> split <;> omega⟩
    have hz : ((((ss.take i).filter fun s => btw x y s.b s.e).map (cut x y)).map Snd.w).length < sizeLine := by
      rw [List.length_map, List.length_map]
      refine Nat.lt_of_le_of_lt (List.length_filter_le ..) (Nat.lt_of_le_of_lt (m := 100000) ?_ (by decide))
      rw [List.length_take]; omega
    have etake : (if s.b < x then x else s.b) < mn y s.e → (((ss.take (i + 1)).filter fun s => btw x y s.b s.e).map (cut x y)).map Snd.w = (((ss.take i).filter fun s => btw x y s.b s.e).map (cut x y)).map Snd.w ++ [W.tup [tm ((if s.b < x then x else s.b) - x), tm (mn y s.e - x), .str s.n, .int s.v, .tup (s.ps.map .int)]] := fun h => by
      rw [List.take_add_one, e1, List.filter_append, List.map_append, List.map_append]
      simp [hb.mp h]; rfl
    have etake2 : ¬ (if s.b < x then x else s.b) < mn y s.e → (((ss.take (i + 1)).filter fun s => btw x y s.b s.e).map (cut x y)).map Snd.w = (((ss.take i).filter fun s => btw x y s.b s.e).map (cut x y)).map Snd.w := fun h => by
      rw [List.take_add_one, e1, List.filter_append, List.map_append, List.map_append]
      simp [show btw x y s.b s.e = false by cases z : btw x y s.b s.e; rfl; exact absurd (hb.mpr z) h]
    have sbD : ∀ o, Sub M (updM (updM M' E (.lst [tm s.b, tm x])) D o) := fun o b o' q2 => by
      rw [updM_ne (fun z => by rw [z, hD] at q2; cases q2)]; exact sb2 b o' q2
    walk_at "w"
    rw [isNonW_om]
    cases ee : s.e with
    | none =>
      rw [ee] at hhi etake etake2
      refine s_ifF ?_
      apply s_next
      refine cut_tail hlo hhi hx eD hz (fun c => ?_) fun c => ?_
      · exact ⟨_, _, _, _, _, _, _, rfl, sbD _, by rw [updM_same, etake c]; rfl⟩
      · exact ⟨_, _, _, _, _, _, _, rfl, sb2, by rw [etake2 c]; exact eD⟩
    | some k =>
      rw [ee] at hhi etake etake2
      refine s_ifT ?_
      walk_at "w"
      refine ⟨k, y, rfl, ((hs s hm).e k ee).1, hy, ?_⟩
      refine s_bl ?_
      refine s_ifb (fun c => ?_) fun c => ?_
      · have c := of_decide_eq_true c
        have eh : mn y (some k) = k := by simp only [mn]; split <;> omega
        rw [eh] at hhi etake etake2
        apply s_asg; apply s_var; rfl
        apply s_gname
        refine cut_tail hlo hhi hx eD hz (fun c => ?_) fun c => ?_
        · exact ⟨_, _, _, _, _, _, _, rfl, sbD _, by rw [updM_same, etake c]⟩
        · exact ⟨_, _, _, _, _, _, _, rfl, sb2, by rw [etake2 c]; exact eD⟩
      · have c := of_decide_eq_false c
        have eh : mn y (some k) = y := by simp only [mn]; split <;> omega
        rw [eh] at hhi etake etake2
        apply s_next
        refine cut_tail hlo hhi hx eD hz (fun c => ?_) fun c => ?_
        · exact ⟨_, _, _, _, _, _, _, rfl, sbD _, by rw [updM_same, etake c]⟩
        · exact ⟨_, _, _, _, _, _, _, rfl, sb2, by rw [etake2 c]; exact eD⟩
end
end K61
set_option maxRecDepth 100000
set_option maxHeartbeats 4000000
/-! Kp6: drawn sounds, drawn times. -/
namespace K61
open PySem Dw
open L2 (atI ixN)
local macro_rules | `(tactic| walk_at "w1") => `(tactic| first
  | with_reducible apply s_seq | with_reducible apply s_ret | with_reducible apply s_asg | with_reducible apply s_gname
  | ((with_reducible apply s_var); rfl) | with_reducible apply s_c | with_reducible apply s_op | with_reducible apply s_cb | with_reducible apply s_cons | with_reducible apply s_nil
  | with_reducible apply s_addI | with_reducible apply s_sub | ((with_reducible apply s_mul); rotate_left) | ((with_reducible apply s_mod); rotate_left) | ((with_reducible apply s_div); rotate_left)
  | with_reducible apply s_lt | with_reducible apply s_gt | with_reducible apply s_le | with_reducible apply s_ge | with_reducible apply s_is | with_reducible apply s_isnot | with_reducible apply s_eqI
  | ((with_reducible apply s_ixT); rfl) | with_reducible apply s_un | with_reducible apply s_neg
  | with_reducible apply s_tup | ((with_reducible apply s_fit); rotate_left) | with_reducible apply s_lst
  | with_reducible apply s_if | with_reducible apply s_test | with_reducible apply s_bl | with_reducible apply s_and | with_reducible apply s_or | with_reducible apply s_not | with_reducible apply s_andV | with_reducible apply s_orV | with_reducible apply s_notV | with_reducible apply s_ifE
  | with_reducible apply s_par | with_reducible apply s_two | with_reducible apply s_drop | with_reducible apply s_next | with_reducible apply s_brk | with_reducible apply s_cont
  | with_reducible apply s_i1 | with_reducible apply s_i2 | with_reducible apply s_intI | with_reducible apply s_intB
  | with_reducible apply s_gcons | with_reducible apply s_gnil | with_reducible apply s_gsub | with_reducible apply s_bm | with_reducible apply s_sl | with_reducible apply s_no | with_reducible apply s_part | with_reducible apply s_int | with_reducible apply s_slT
  | with_reducible apply s_for | with_reducible apply s_lc | with_reducible apply s_iseq | with_reducible apply s_irng | with_reducible apply s_dnew | with_reducible apply s_sortK)
local macro_rules | `(tactic| walk_at "w") => `(tactic| repeat walk_at "w1")
local macro_rules | `(tactic| walk_at "w1") => `(tactic| first | with_reducible apply s_t0 | with_reducible apply s_t1)
local macro_rules | `(tactic| walk_at "w1") => `(tactic| first | with_reducible apply s_o0 | with_reducible apply s_o1)
section
variable {ws : List W} {M : Mh} {Q : WK}
theorem none_kb {a p : Addr} {n : Int} {M M' : Mh} (kb : KB a M M') (h : Hand a n M') (e : M' p = none) : M p = none := by
  cases z : M p with
  | none => rfl
  | some o =>
    by_cases y : p = a
    · subst y; obtain ⟨_, _, _, e2, _⟩ := h; rw [e] at e2; cases e2
    · rw [kb p o y z] at e; cases e
theorem tel {l : List Snd} {i : Int} (h0 : 0 ≤ i) (h : i < l.length) : ∃ s ∈ l, atI (l.map Snd.w) i = some s.w := by
  have hi : i.toNat < l.length := by omega
  refine ⟨l[i.toNat], List.getElem_mem hi, ?_⟩
  have := L2.atI_nat (xs := l.map Snd.w) (j := i.toNat) (v := l[i.toNat].w) (by rw [List.getElem?_map, List.getElem?_eq_getElem hi]; rfl)
  rwa [show ((i.toNat : Nat) : Int) = i by omega] at this
theorem pure_law_time (h : sp_law_time ws M Q) : t_law_time (DR Q) (startW N_law_time ws) M := by
  obtain ⟨a, p, n, ss, rfl, ne, hh, hn, hM, hs, hl, q⟩ := h
  unfold t_law_time
  walk_at "w"
  refine s_lenL hM ?_
  walk_at "w"
  rw [List.length_map]
  refine s_ifb (fun c => ?_) fun c => ?_
  · refine s_ifT ?_
    walk_at "w"
    refine ⟨a, n, rfl, hh, by omega, fun k M' k0 k1 kb h2 => q k M' k0 (by omega) kb (h2.mono (by omega))⟩
  have c := of_decide_eq_false c
  walk_at "w"
  refine s_take (m := 2) (by decide) (by decide) hh (by omega) fun r M1 r0 r1 kb1 h1 => ?_
  walk_at "w"
  refine s_ifb (fun c => ?_) fun c => ?_
  · skip
    walk_at "w"
    refine ⟨a, n + 1, rfl, h1, by omega, fun k M' k0 k1 kb h2 => q k M' k0 (by omega) (kb1.trans kb) (h2.mono (by omega))⟩
  skip
  have m1 := kb1 p _ (Ne.symm ne) hM
  apply s_next
  walk_at "w"
  refine s_lenL m1 ?_
  walk_at "w"
  rw [List.length_map]
  refine s_take (by omega) (by omega) h1 (by omega) fun t M2 t0 t1 kb2 h2 => ?_
  have m2 := kb2 p _ (Ne.symm ne) m1
  obtain ⟨s, hsm, es⟩ := tel t0 t1
  refine s_ixR m2 es ?_
  walk_at "w"
  refine s_slT (l := [tm s.b, om s.e, .str s.n, .int s.v, .tup (s.ps.map .int)]) ?_
  refine s_gtup (l := [tm s.b, om s.e]) rfl ?_
  walk_at "w"
  all_goals first | exact szb rfl | skip
  intro E hE
  walk_at "w"
  refine s_take (by decide) (by decide) (h2.new hE) (by omega) fun u M3 u0 u1 kb3 h3 => ?_
  have kb4 := (kb1.trans kb2).trans ((KB.new hE).trans kb3)
  have m3 := kb3 E _ (ne_upd h2 hE) updM_same
  have sb := (hs s hsm).b
  walk_at "w"
  · rw [isNonW_om]
    cases ee : s.e with
    | none =>
      refine s_ixR (w := tm s.b) m3 ?_ (q _ _ sb.1 (by omega) kb4 (h3.mono (by omega)))
      rw [show u * 3 * (if (!(none : Option Int).isNone) = true then 1 else 0) = 0 by simp]
      rfl
    | some k =>
      have se := (hs s hsm).e k ee
      rw [show u * 3 * (if (!(some k).isNone) = true then 1 else 0) = u * 3 by simp]
      rw [ee] at m3
      have hu : u = 0 ∨ u = 1 := by omega
      rcases hu with hu | hu <;> subst hu
      · exact s_ixR (w := tm s.b) m3 rfl (q _ _ sb.1 (by omega) kb4 (h3.mono (by omega)))
      · exact s_ixR (w := tm k) m3 rfl (q _ _ (by omega) (by omega) kb4 (h3.mono (by omega)))
  all_goals first | (with_reducible refine cm ?_ ?_ <;> first | omega | (split <;> omega)) | skip
theorem kb_sub2 {a p : Addr} {M0 M M' : Mh} (h : KB a M0 M) (h2 : KB a M M') : KB a M0 M' := h.trans h2
theorem sounds_tail {nn bk ct : Dw.Env → Mh → Prop} {r : WK} {M0 : Mh} {a qn qt : Addr} {many k t NB : Int} {xs : List Str} {ss : List Snd} {c6 c7 c8 : Option W} (hh : Hand a NB M) (hn : NB ≤ 890000) (hqn : M qn = some (.lst (xs.map .str))) (hqt : M qt = some (.lst (ss.map Snd.w)))
    (na : qn ≠ a) (ta : qt ≠ a) (nt : qn ≠ qt) (k0 : 0 ≤ k) (kx : k / 4 < xs.length) (hx : ∀ x ∈ xs, NameOk x) (t0 : 0 ≤ t) (t1 : t ≤ 70000) (hl : ss.length ≤ 299) (kb : KB a M0 M) (h0 : M0 qt = none)
    (q : ∀ (s : Snd) (c7 c8 : Option W) (e : Int) (M' : Mh), SndIn s → M' qn = some (.lst (xs.map .str)) → M' qt = some (.lst ((ss ++ [s]).map Snd.w)) → KB a M0 M' → Hand a (NB + 9) M' → t < e → e ≤ t + 300 →
      nn [some (.ref a), some (.int many), some (.ref qn), some (.ref qt), some (.int k), some (tm e), c6, c7, c8] M' ∧ bk [some (.ref a), some (.int many), some (.ref qn), some (.ref qt), some (.int k), some (tm e), c6, c7, c8] M') :
    (wSeq (wAsg (wCB sp_law_plus (wCons (wVar 5) (wCons (wCB sp_law_length (wCons (wVar 0) wNil)) wNil))) (wgName 7))
  (wSeq (wAsg (wOp oIx (wLst (wCons (wVar 7) (wCons (wC .non) wNil))) (wCB cInt (wCons (wOp (oEqD false) (wCB sp_law_take (wCons (wVar 0) (wCons (wC (.int 12)) wNil))) (wC (.int 0))) wNil))) (wgName 8))
  (wSeq (wDrop (wBM mAppend (wVar 3) (wCons (wTup (wCons (wVar 5) (wCons (wVar 8) (wCons (wOp oIx (wVar 2) (wOp oDivI (wVar 4) (wC (.int 4)))) (wCons (wOp oModI (wVar 4) (wC (.int 4))) (wCons (wCB sp_law_pitches (wCons (wVar 0) wNil)) wNil)))))) wNil)))
  (wSeq (wAsg (wVar 7) (wgName 5))
  (wIf (wTest (wOp (oIsN false) (wVar 8) (wC .non))) wBreak wNext))))) ⟨nn, r, bk, ct⟩ [some (.ref a), some (.int many), some (.ref qn), some (.ref qt), some (.int k), some (tm t), c6, c7, c8] M := by
  walk_at "w"
  refine ⟨a, NB, rfl, hh, by omega, fun d M1 d0 d1 kb1 h1 => ?_⟩
  walk_at "w"
  refine ⟨t, d, rfl, by unfold TB; omega, by unfold TB; omega, ?_⟩
  walk_at "w"
  all_goals first | exact szb rfl | skip
  intro E hE
  walk_at "w"
  refine s_take (by decide) (by decide) (h1.new hE) (by omega) fun u M2 u0 u1 kb2 h2 => ?_
  have mE := kb2 E _ (ne_upd h1 hE) updM_same
  have kb3 := kb1.trans ((KB.new hE).trans kb2)
  have n2 := kb3 qn _ na hqn
  have t2 := kb3 qt _ ta hqt
  walk_at "w"
  obtain ⟨o, ho, eo⟩ : ∃ o : Option Int, (o = none ∨ o = some (t + d)) ∧ atI [tm (t + d), W.non] (if decide (u = 0) = true then 1 else 0) = some (om o) := by
    by_cases z : u = 0
    · exact ⟨none, .inl rfl, by simp [z]; rfl⟩
    · exact ⟨some (t + d), .inr rfl, by simp [z]; rfl⟩
  refine s_ixR mE eo ?_
  walk_at "w"
  refine s_isl t2 ?_
  walk_at "w"
  · have hkx : (k / 4).toNat < xs.length := by omega
    have ex : atI (xs.map W.str) (k / 4) = some (.str xs[(k / 4).toNat]) := by
      have := L2.atI_nat (xs := xs.map W.str) (j := (k / 4).toNat) (v := .str xs[(k / 4).toNat]) (by rw [List.getElem?_map, List.getElem?_eq_getElem hkx]; rfl)
      rwa [show (((k / 4).toNat : Nat) : Int) = k / 4 by omega] at this
    refine s_ixR n2 ex ?_
    walk_at "w"
    · refine ⟨a, NB + 1 + 1, rfl, h2, by omega, fun ps M3 kb4 hp h3 => ?_⟩
      walk_at "w"
      all_goals first | exact szb rfl | skip
      have n3 := kb4 qn _ na n2
      have t3 := kb4 qt _ ta t2
      have fin := q ⟨t, o, xs[(k / 4).toNat], k % 4, ps⟩ (some (tm (t + d))) (some (om o)) (t + d) (updM M3 qt (.lst (ss.map Snd.w ++ [W.tup [tm t, om o, .str xs[(k / 4).toNat], .int (k % 4), .tup (ps.map .int)]])))
        ⟨⟨t0, t1⟩, fun k' e => by
          have e : o = some k' := e
          show t < k' ∧ k' ≤ 80000
          rcases ho with ho | ho
          · rw [ho] at e; cases e
          · rw [ho] at e; injection e with e; omega, hx _ (List.getElem_mem hkx), (show 0 ≤ k % 4 ∧ k % 4 ≤ 3 by omega), hp⟩
        (by rw [updM_ne nt]; exact n3) (by rw [updM_same, List.map_append]; rfl) (((kb.trans kb3).trans kb4).upd2 h0) ((h3.upd (Ne.symm ta)).mono (by omega)) (by omega) (by omega)
      refine s_app t3 (Nat.lt_of_le_of_lt (m := 299) (by rw [List.length_map]; exact hl) (by decide)) ?_
      walk_at "w"
      rw [isNonW_om]
      cases o with
      | none => exact fin.2
      | some _ => exact fin.1
    all_goals first | omega | skip
  all_goals first | exact cd (by decide) (by decide) | skip
theorem pure_law_sounds (h : sp_law_sounds ws M Q) : t_law_sounds (DR Q) (startW N_law_sounds ws) M := by
  obtain ⟨a, n, rfl, hh, hn, q⟩ := h
  unfold t_law_sounds
  walk_at "w"
  refine s_take (by decide) (by decide) hh (by omega) fun r6 M1 p0 p1 kb1 h1 => ?_
  walk_at "w"
  refine s_take (by decide) (by decide) h1 (by omega) fun r8 M2 p2 p3 kb2 h2 => ?_
  walk_at "w"
  · obtain ⟨many, hmany⟩ : ∃ many : Int, many = 1 + r6 + 10 * (if decide (r8 = 0) = true then 1 else 0) := ⟨_, rfl⟩
    have mb : 1 ≤ many ∧ many ≤ 16 := by split at hmany <;> omega
    rw [← hmany]
    have kb12 := kb1.trans kb2
    clear hmany
    refine s_take (by decide) (by decide) h2 (by omega) fun r3 M3 p4 p5 kb3 h3 => ?_
    walk_at "w"
    refine ⟨a, 1 + (many - 1) / 4 + r3, n + 1 + 1 + 1, rfl, by omega, by omega, h3, by omega, fun qn xs M4 kb4 hq3 hqn hxl hx h4 => ?_⟩
    have kb14 := (kb12.trans kb3).trans kb4
    have qnM := none_kb (kb12.trans kb3) h3 hq3
    have na : qn ≠ a := ne_upd h3 hq3
    walk_at "w"
    all_goals first | exact szb rfl | skip
    intro qt hqt
    have ta : qt ≠ a := ne_upd h4 hqt
    have qtM := none_kb kb14 h4 hqt
    have nt : qn ≠ qt := fun z => by rw [← z, hqn] at hqt; cases hqt
    walk_at "w"
    refine f_rng (by omega) (by omega) (fun i Γ M' => ∃ (c4 c5 c6 c7 c8 : Option W) (ss : List Snd), Γ = [some (.ref a), some (.int many), some (.ref qn), some (.ref qt), c4, c5, c6, c7, c8] ∧ M' qn = some (.lst (xs.map .str)) ∧ M' qt = some (.lst (ss.map Snd.w)) ∧ (∀ s ∈ ss, SndIn s) ∧ ss.length ≤ 9 * i ∧ KB a M M' ∧ Hand a (n + 5 + 120 * i) M') ?_ ?_ ?_
    · exact ⟨_, _, _, _, _, [], rfl, by rw [updM_ne nt]; exact hqn, updM_same, by simp, by simp, kb14.upd2 qtM, (h4.new hqt).mono (by omega)⟩
    · rintro Γ M' ⟨c4, c5, c6, c7, c8, ss, rfl, e1, e2, e3, e4, e5, e6⟩
      have hmn : many.toNat ≤ 16 := by omega
      walk_at "w"
      refine ⟨qt, ss, rfl, e2, fun s hs => (e3 s hs).ok, by omega, fun w M2 sb hw ew => ?_⟩
      refine q w (srt ss) M2 ?_ ?_ ew (fun s hs => e3 s (srt_mem.mp hs)) ?_ ?_
      · exact e5.trans fun b o _ e => sb b o e
      · exact none_kb e5 e6 hw
      · have : (srt ss).length = ss.length := List.length_mergeSort ..
        omega
      · obtain ⟨x, y, z, m, hrest⟩ := e6
        obtain ⟨g1, g2, g3, g4, g5, g6⟩ := hrest
        exact ⟨x, y, z, sb a _ m, g1, g2, g3, g4, g5, by clear g2; omega⟩
    · rintro i Γ M' hi ⟨c4, c5, c6, c7, c8, ss, rfl, e1, e2, e3, e4, e5, e6⟩
      have hi16 : i < 16 := by omega
      walk_at "w"
      refine ⟨a, _, rfl, e6, by omega, fun t M5 t0 t1 kb5 h5 => ?_⟩
      walk_at "w"
      refine s_take (by decide) (by decide) h5 (by omega) fun J M6 j0 j1 kb6 h6 => ?_
      walk_at "w"
      have kb56 := kb5.trans kb6
      refine f_rng (by omega) (by omega) (fun j Γ M' => ∃ (c6 c7 c8 : Option W) (t : Int) (ss : List Snd), Γ = [some (.ref a), some (.int many), some (.ref qn), some (.ref qt), some (.int i), some (tm t), c6, c7, c8] ∧ M' qn = some (.lst (xs.map .str)) ∧ M' qt = some (.lst (ss.map Snd.w)) ∧ (∀ s ∈ ss, SndIn s) ∧ ss.length ≤ 9 * i + j ∧ KB a M M' ∧ Hand a (n + 5 + 120 * i + 4 + 12 * j) M' ∧ 0 ≤ t ∧ t ≤ 60000 + 600 * j) ?_ ?_ ?_
      · exact ⟨_, _, _, t, ss, rfl, kb56 qn _ na e1, kb56 qt _ ta e2, e3, by omega, e5.trans kb56, h6.mono (by omega), t0, by omega⟩
      · rintro Γ M7 ⟨c6, c7, c8, t, ss, rfl, g1, g2, g3, g4, g5, g6, g7, g8⟩
        have hJ : J.toNat ≤ 8 := by omega
        exact ⟨_, _, _, _, _, ss, rfl, g1, g2, g3, by omega, g5, g6.mono (by omega)⟩
      · rintro j Γ M7 hj ⟨c6, c7, c8, t, ss, rfl, g1, g2, g3, g4, g5, g6, g7, g8⟩
        have hj8 : j < 8 := by omega
        walk_at "w"
        refine s_take (by decide) (by decide) g6 (by omega) fun u M8 u0 u1 kb8 h8 => ?_
        walk_at "w"
        have kb78 := g5.trans kb8
        have tl : ∀ {c6 : Option W} (s : Snd) (c7 c8 : Option W) (e : Int) (NB : Int) (M' : Mh), SndIn s → M' qn = some (.lst (xs.map .str)) → M' qt = some (.lst ((ss ++ [s]).map Snd.w)) → KB a M M' → Hand a (NB + 9) M' → NB ≤ n + 5 + 120 * i + 4 + 12 * j + 2 → 0 ≤ e → e ≤ t + 600 →
          (∃ (c6' c7' c8' : Option W) (t' : Int) (ss' : List Snd), [some (.ref a), some (.int many), some (.ref qn), some (.ref qt), some (.int i), some (tm e), c6, c7, c8] = [some (.ref a), some (.int many), some (.ref qn), some (.ref qt), some (.int i), some (tm t'), c6', c7', c8'] ∧ M' qn = some (.lst (xs.map .str)) ∧ M' qt = some (.lst (ss'.map Snd.w)) ∧ (∀ s ∈ ss', SndIn s) ∧ ss'.length ≤ 9 * i + (j + 1) ∧ KB a M M' ∧ Hand a (n + 5 + 120 * i + 4 + 12 * (j + 1 : Nat)) M' ∧ 0 ≤ t' ∧ t' ≤ 60000 + 600 * (j + 1 : Nat)) := by
          intro c6 s c7 c8 e NB M' hs m1 m2 kb hand b0 b1 b2
          refine ⟨c6, c7, c8, e, ss ++ [s], rfl, m1, m2, fun s' hs' => ?_, ?_, kb, hand.mono (by omega), b1, by omega⟩
          · rcases List.mem_append.mp hs' with h | h
            · exact g3 s' h
            · rw [List.mem_singleton.mp h]; exact hs
          · rw [List.length_append, List.length_singleton]; omega
        have bk : ∀ {c5 c6 c7 c8 : Option W} (s : Snd) (NB : Int) (M' : Mh), SndIn s → M' qn = some (.lst (xs.map .str)) → M' qt = some (.lst ((ss ++ [s]).map Snd.w)) → KB a M M' → Hand a (NB + 9) M' → NB ≤ n + 5 + 120 * i + 4 + 12 * j + 2 →
          (∃ (c4' c5' c6' c7' c8' : Option W) (ss' : List Snd), [some (.ref a), some (.int many), some (.ref qn), some (.ref qt), some (.int i), c5, c6, c7, c8] = [some (.ref a), some (.int many), some (.ref qn), some (.ref qt), c4', c5', c6', c7', c8'] ∧ M' qn = some (.lst (xs.map .str)) ∧ M' qt = some (.lst (ss'.map Snd.w)) ∧ (∀ s ∈ ss', SndIn s) ∧ ss'.length ≤ 9 * (i + 1) ∧ KB a M M' ∧ Hand a (n + 5 + 120 * (i + 1 : Nat)) M') := by
          intro c5 c6 c7 c8 s NB M' hs m1 m2 kb hand b0
          refine ⟨_, c5, c6, c7, c8, ss ++ [s], rfl, m1, m2, fun s' hs' => ?_, ?_, kb, hand.mono (by omega)⟩
          · rcases List.mem_append.mp hs' with h | h
            · exact g3 s' h
            · rw [List.mem_singleton.mp h]; exact hs
          · rw [List.length_append, List.length_singleton]; omega
        have hxk : ((i : Nat) : Int) / 4 < xs.length := by omega
        refine s_ifb (fun c => ?_) fun c => ?_
        · apply s_asg
          apply s_cb; apply s_cons; apply s_var; rfl
          apply s_cons; apply s_cb; apply s_cons; apply s_var; rfl
          apply s_nil
          refine ⟨a, _, rfl, h8, by omega, fun d M9 d0 d1 kb9 h9 => ?_⟩
          apply s_nil
          refine ⟨t, d, rfl, by unfold TB; omega, by unfold TB; omega, ?_⟩
          apply s_gname
          refine sounds_tail (M0 := M) (ss := ss) (t := t + d) h9 (by omega) (kb9 qn _ na (kb8 qn _ na g1)) (kb9 qt _ ta (kb8 qt _ ta g2)) na ta nt (by omega) hxk hx (by omega) (by omega) (by omega) (kb78.trans kb9) qtM fun s c7 c8 e M' hs m1 m2 kb hand b1 b2 => ⟨tl s c7 c8 e _ M' hs m1 m2 kb hand (by omega) (by omega) (by omega), bk s _ M' hs m1 m2 kb hand (by omega)⟩
        · apply s_next
          refine sounds_tail (M0 := M) (ss := ss) (t := t) h8 (by omega) (kb8 qn _ na g1) (kb8 qt _ ta g2) na ta nt (by omega) hxk hx (by omega) (by omega) (by omega) kb78 qtM fun s c7 c8 e M' hs m1 m2 kb hand b1 b2 => ⟨tl s c7 c8 e _ M' hs m1 m2 kb hand (by omega) (by omega) (by omega), bk s _ M' hs m1 m2 kb hand (by omega)⟩
    all_goals first | exact cd (by decide) (by decide) | skip
  all_goals first | exact cd (by decide) (by decide) | (with_reducible refine cm ?_ ?_ <;> first | omega | (split <;> omega)) | skip
end
end K61
set_option maxRecDepth 100000
set_option maxHeartbeats 4000000
/-! Kp7: what is shown; the law itself. -/
namespace K61
open PySem Dw
open L2 (atI ixN)
local macro_rules | `(tactic| walk_at "w1") => `(tactic| first
  | with_reducible apply s_seq | with_reducible apply s_ret | with_reducible apply s_asg | with_reducible apply s_gname
  | ((with_reducible apply s_var); rfl) | with_reducible apply s_c | with_reducible apply s_op | with_reducible apply s_cb | with_reducible apply s_cons | with_reducible apply s_nil
  | with_reducible apply s_addI | with_reducible apply s_sub | ((with_reducible apply s_mul); rotate_left) | ((with_reducible apply s_mod); rotate_left) | ((with_reducible apply s_div); rotate_left)
  | with_reducible apply s_lt | with_reducible apply s_gt | with_reducible apply s_le | with_reducible apply s_ge | with_reducible apply s_is | with_reducible apply s_isnot | with_reducible apply s_eqI
  | ((with_reducible apply s_ixT); rfl) | with_reducible apply s_un | with_reducible apply s_neg
  | with_reducible apply s_tup | ((with_reducible apply s_fit); rotate_left) | with_reducible apply s_lst
  | with_reducible apply s_if | with_reducible apply s_test | with_reducible apply s_bl | with_reducible apply s_and | with_reducible apply s_or | with_reducible apply s_not | with_reducible apply s_andV | with_reducible apply s_orV | with_reducible apply s_notV | with_reducible apply s_ifE
  | with_reducible apply s_par | with_reducible apply s_two | with_reducible apply s_drop | with_reducible apply s_next | with_reducible apply s_brk | with_reducible apply s_cont
  | with_reducible apply s_i1 | with_reducible apply s_i2 | with_reducible apply s_intI | with_reducible apply s_intB
  | with_reducible apply s_gcons | with_reducible apply s_gnil | with_reducible apply s_gsub | with_reducible apply s_bm | with_reducible apply s_sl | with_reducible apply s_no | with_reducible apply s_part | with_reducible apply s_int | with_reducible apply s_slT
  | with_reducible apply s_for | with_reducible apply s_lc | with_reducible apply s_iseq | with_reducible apply s_irng | with_reducible apply s_dnew | with_reducible apply s_sortK)
local macro_rules | `(tactic| walk_at "w") => `(tactic| repeat walk_at "w1")
local macro_rules | `(tactic| walk_at "w1") => `(tactic| first | with_reducible apply s_t0 | with_reducible apply s_t1)
local macro_rules | `(tactic| walk_at "w1") => `(tactic| first | with_reducible apply s_o0 | with_reducible apply s_o1)
/-- fit to be shown and to be compared, within B signs -/
structure Sh (B : Nat) (n : Nat) (d : PyData) : Prop where
  s : d.showable = true
  h : d.hasDict = false
  c : d.canLay0 = true
  dp : d.depth ≤ n
  l : d.shown.length ≤ B
theorem Sh.mono {B C n m : Nat} {d : PyData} (x : Sh B n d) (h : B ≤ C) (h2 : n ≤ m) : Sh C m d := ⟨x.s, x.h, x.c, Nat.le_trans x.dp h2, Nat.le_trans x.l h⟩
theorem Sh.int {i : Int} (h : i.natAbs < 2 ^ 64) : Sh 66 0 (.int i) := by
  have hl : i.natAbs.log2 < 64 := by
    by_cases z : i.natAbs = 0
    · rw [z]; decide
    · exact (Nat.log2_lt z).mpr h
  refine ⟨by simp only [PyData.showable, decide_eq_true_eq]; omega, rfl, rfl, Nat.le_refl _, ?_⟩
  show (Str.ofString (toString i)).length ≤ 66
  have := int_text_length_le (k := 64) (by decide) hl
  rw [ofString_length]; omega
theorem Sh.non : Sh 66 0 .none := ⟨rfl, rfl, rfl, Nat.le_refl _, by decide⟩
theorem Sh.str {x : Str} (h : NameOk x) : Sh 82 0 (.str x) := by
  refine ⟨rfl, rfl, ?_, Nat.le_refl _, ?_⟩
  · show x.cps.all _ = true
    rw [Array.all_eq_true']
    intro c hc
    have := h.2 c (Array.mem_toList_iff.mpr hc)
    simp only [decide_eq_true_eq]; omega
  · have := StrLaws.reprText_len x fun c hc => by have := h.2 c hc; omega
    have := h.1
    show (reprText x).length ≤ 82
    omega
theorem shown_sum {B : Nat} : ∀ ds : List PyData, (∀ d ∈ ds, d.shown.length ≤ B) → ((PyData.shownAll ds).map (·.length)).sum ≤ B * ds.length ∧ (PyData.shownAll ds).length = ds.length
  | [], _ => ⟨Nat.zero_le _, rfl⟩
  | d :: ds, h => by
    obtain ⟨h1, h2⟩ := shown_sum ds fun x hx => h x (List.mem_cons_of_mem _ hx)
    have h3 := h d List.mem_cons_self
    refine ⟨?_, by rw [PyData.shownAll, List.length_cons, List.length_cons, h2]⟩
    rw [PyData.shownAll, List.map_cons, List.sum_cons, List.length_cons, Nat.mul_succ]
    omega
theorem all_of {n B : Nat} : ∀ ds : List PyData, (∀ d ∈ ds, Sh B n d) → PyData.showableAll ds = true ∧ PyData.hasDictAll ds = false ∧ PyData.canLayAll0 ds = true ∧ PyData.depthAll ds ≤ n
  | [], _ => ⟨rfl, rfl, rfl, Nat.zero_le _⟩
  | d :: ds, h => by
    obtain ⟨h1, h2, h3, h4⟩ := all_of ds fun x hx => h x (List.mem_cons_of_mem _ hx)
    have hd := h d List.mem_cons_self
    refine ⟨by rw [PyData.showableAll, hd.s, h1]; rfl, by rw [PyData.hasDictAll, hd.h, h2]; rfl, by rw [PyData.canLayAll0, hd.c, h3]; rfl, ?_⟩
    rw [PyData.depthAll]
    have := hd.dp
    omega
theorem Sh.tup {n B m : Nat} {ds : List PyData} (h : ∀ d ∈ ds, Sh B n d) (hl : ds.length ≤ m) : Sh ((B + 2) * m + 3) (n + 1) (.tuple ds) := by
  obtain ⟨h1, h2, h3, h4⟩ := all_of ds h
  obtain ⟨h5, h6⟩ := shown_sum ds fun d hd => (h d hd).l
  refine ⟨by rw [PyData.showable]; exact h1, by rw [PyData.hasDict]; exact h2, by rw [PyData.canLay0]; exact h3, by rw [PyData.depth]; omega, ?_⟩
  have := PySem.tupleText_len_le (PyData.shownAll ds)
  rw [PyData.shown]
  have e : B * ds.length ≤ B * m := Nat.mul_le_mul_left _ hl
  have e2 : (B + 2) * m = B * m + 2 * m := Nat.add_mul ..
  omega
theorem Sh.lst {n B m : Nat} {ds : List PyData} (h : ∀ d ∈ ds, Sh B n d) (hl : ds.length ≤ m) : Sh ((B + 2) * m + 3) (n + 1) (.list ds) := by
  obtain ⟨h1, h2, h3, h4⟩ := all_of ds h
  obtain ⟨h5, h6⟩ := shown_sum ds fun d hd => (h d hd).l
  refine ⟨by rw [PyData.showable]; exact h1, by rw [PyData.hasDict]; exact h2, by rw [PyData.canLay0]; exact h3, by rw [PyData.depth]; omega, ?_⟩
  have := PySem.listText_len_le (PyData.shownAll ds)
  rw [PyData.shown]
  have e : B * ds.length ≤ B * m := Nat.mul_le_mul_left _ hl
  have e2 : (B + 2) * m = B * m + 2 * m := Nat.add_mul ..
  omega
/-- a sound of few signs -/
structure SndS (s : Snd) : Prop where
  o : SndOk s
  n : NameOk s.n
  v : 0 ≤ s.v ∧ s.v ≤ 3
  p : PitOk s.ps
theorem sh_tm {k : Int} (h : TB k) : Sh 139 1 (tm k).data := by
  have e : (tm k).data = .tuple [.int (nu k), .int (de k)] := rfl
  rw [e]
  refine (Sh.tup (B := 66) (n := 0) (m := 2) (fun d hd => ?_) (Nat.le_refl _)).mono (by decide) (Nat.le_refl _)
  simp only [List.mem_cons, List.not_mem_nil, or_false] at hd
  rcases hd with h2 | h2 <;> subst h2
  · exact Sh.int (Nat.lt_trans (nu_sm h) (by decide))
  · exact Sh.int (Nat.lt_trans (de_sm k) (by decide))
theorem sh_snd {s : Snd} (h : SndS s) : Sh 3428 2 s.w.data := by
  have e : s.w.data = .tuple [(tm s.b).data, (om s.e).data, .str s.n, .int s.v, .tuple (s.ps.map .int)] := by unfold Snd.w; simp [W.data, datas, datas_ints]
  rw [e]
  refine (Sh.tup (B := 683) (n := 1) (m := 5) (fun d hd => ?_) (Nat.le_refl _)).mono (by decide) (Nat.le_refl _)
  simp only [List.mem_cons, List.not_mem_nil, or_false] at hd
  rcases hd with h2 | h2 | h2 | h2 | h2 <;> subst h2
  · exact (sh_tm h.o.b).mono (by decide) (Nat.le_refl _)
  · cases ee : s.e with
    | none => exact Sh.non.mono (by decide) (by decide)
    | some k => exact (sh_tm (h.o.e k ee).1).mono (by decide) (Nat.le_refl _)
  · exact (Sh.str h.n).mono (by decide) (by decide)
  · exact (Sh.int (by have := h.v; omega)).mono (by decide) (by decide)
  · refine (Sh.tup (B := 66) (n := 0) (m := 10) (fun d hd => ?_) (by rw [List.length_map]; exact h.p.1)).mono (by decide) (Nat.le_refl _)
    obtain ⟨p, hp, rfl⟩ := List.mem_map.mp hd
    exact Sh.int (by have := h.p.2 p hp; omega)
theorem pure_om (e : Option Int) : (om e).pure = true := by cases e <;> simp [om, W.pure, tm, fr, pures]
theorem pure_snd (s : Snd) : s.w.pure = true := by
  unfold Snd.w
  simp [W.pure, pures, pure_om, pures_ints, tm, fr]
theorem pures_snds (ss : List Snd) : pures (ss.map Snd.w) = true := by
  rw [pures_all, List.all_map, List.all_eq_true]
  exact fun s _ => pure_snd s
theorem sh_snds {ss : List Snd} (h : ∀ s ∈ ss, SndS s) (hl : ss.length ≤ 300) : Sh 1029003 3 (.list (datas (ss.map Snd.w))) := by
  rw [datas_map, List.map_map]
  refine (Sh.lst (B := 3428) (n := 2) (m := 300) (fun d hd => ?_) (by rw [List.length_map]; exact hl)).mono (by decide) (Nat.le_refl _)
  obtain ⟨s, hs, rfl⟩ := List.mem_map.mp hd
  exact sh_snd (h s hs)
section
variable {ws : List W} {M : Mh} {Q : WK}
theorem s_repr {p : Addr} {ss : List Snd} (e : M p = some (.lst (ss.map Snd.w))) (h : ∀ s ∈ ss, SndS s) (hl : ss.length ≤ 300) (q : Q (.str (PyData.list (datas (ss.map Snd.w))).shown) M) : cRepr [.ref p] M Q := by
  have x := sh_snds h hl
  exact ⟨p, _, _, rfl, e, pures_snds ss, rfl, x.s, x.h, Nat.le_trans x.dp (show 3 ≤ 60 by decide), Nat.le_trans x.l (show 1029003 ≤ sizeLine by decide), q⟩
theorem s_neS {a b : Str} (h : Q (.bl (!decide (a = b))) M) : orR oNeS (oEqD true) (.str a) (.str b) M Q := .inl ⟨a, b, rfl, rfl, h⟩
theorem s_neL {p r : Addr} {ss : List Snd} (e1 : M p = some (.lst (ss.map Snd.w))) (e2 : M r = some (.lst (ss.map Snd.w))) (h : ∀ s ∈ ss, SndS s) (hl : ss.length ≤ 300) (q : Q (.bl false) M) : orR oNeS (oEqD true) (.ref p) (.ref r) M Q := by
  have x := sh_snds h hl
  have sp : SeqAt.shaped (PyData.list (datas (ss.map Snd.w))) = true := by
    unfold SeqAt.shaped
    rw [x.c, Bool.true_and, decide_eq_true_eq]
    exact Nat.le_trans x.dp (show 3 ≤ 64 by decide)
  refine .inr ⟨_, _, .inr ⟨_, e1, pures_snds ss, rfl⟩, .inr ⟨_, e2, pures_snds ss, rfl⟩, sp, sp, ?_⟩
  rw [SeqAt.eqv_refl _ x.c]
  exact q
theorem SndIn.s {s : Snd} (h : SndIn s) : SndS s := ⟨h.ok, h.n, h.v, h.p⟩
theorem strt_s {x y : Int} {ss : List Snd} (h : ∀ s ∈ ss, SndIn s) (hxy : 0 ≤ x ∧ x < y ∧ y ≤ 10000000) : ∀ s ∈ strt x y ss, SndS s := fun s hs => by
  have hs := srt_mem.mp hs
  have ok := cut_all (fun s hs => (h s hs).ok) hxy s hs
  obtain ⟨a, ha, rfl⟩ := List.mem_map.mp hs
  have hi := h a (List.mem_filter.mp ha).1
  exact ⟨ok, hi.n, hi.v, hi.p⟩
theorem strt_len {x y : Int} {ss : List Snd} (h : ss.length ≤ 300) : (strt x y ss).length ≤ 300 := by
  have e : (strt x y ss).length = ((ss.filter fun s => btw x y s.b s.e).map (cut x y)).length := List.length_mergeSort ..
  rw [e, List.length_map]
  exact Nat.le_trans (List.length_filter_le ..) h
theorem s_isL {Γ : Dw.Env} {te : TEw} (h : te Γ M fun x M1 => (∃ l, itemsL M1 x l) ∧ Q (.bl true) M1) : wIsL te Γ M Q := h
theorem law_turn {n bk ct : Dw.Env → Mh → Prop} {i : Nat} {ns : List Int} {a p : Addr} {N : Int} {ss : List Snd} {x y : Int} {c6 c7 c8 : Option W} (hM : M p = some (.lst (ss.map Snd.w))) (hs : ∀ s ∈ ss, SndIn s) (hl : ss.length ≤ 300) (hxy : 0 ≤ x ∧ x < y ∧ y ≤ 10000000)
    (q : ∀ (c1 c2 c3 c4 c5 c6 c7 c8 : Option W) M', n [some (.frl (ns.map .int)), c1, c2, c3, c4, c5, c6, c7, c8] M') :
    (wSeq (wAsg (wCB cListOf (wCons (wVar 3) wNil)) (wgName 6))
  (wSeq (wAsg (wCB sp_law_cut (wCons (wVar 3) (wCons (wVar 4) (wCons (wVar 5) wNil)))) (wgName 7))
  (wSeq (wAsg (wCB sp_stretch (wCons (wVar 6) (wCons (wVar 4) (wCons (wVar 5) wNil)))) (wgName 8))
  (wSeq (wIf (wOr (wNot (wTest (wIsL (wVar 8)))) (wOr (wTest (wOp (orR oNeS (oEqD true)) (wCB cRepr (wCons (wVar 8) wNil)) (wCB cRepr (wCons (wVar 7) wNil)))) (wTest (wOp (orR oNeS (oEqD true)) (wVar 6) (wVar 3))))) (wRet (wC (.bl false))) wNext)
  (wSeq (wDrop (wBM mAppend (wVar 8) (wCons (wTup (wCons (wC (.str "more")) wNil)) wNil)))
  (wIf (wTest (wOp (orR oNeS (oEqD true)) (wCB cRepr (wCons (wCB sp_stretch (wCons (wVar 6) (wCons (wVar 4) (wCons (wVar 5) wNil)))) wNil)) (wCB cRepr (wCons (wVar 7) wNil)))) (wRet (wC (.bl false))) wNext)))))) ⟨n, Q, bk, ct⟩ [some (.frl (ns.map .int)), some (.int i), some (.ref a), some (.ref p), some (tm x), some (tm y), c6, c7, c8] M := by
  have hok : ∀ s ∈ ss, SndOk s := fun s h => (hs s h).ok
  walk_at "w"
  refine s_listOf hM fun r hr => ?_
  have s1 : Sub M (updM M r (.lst (ss.map Snd.w))) := Sub.new hr
  walk_at "w"
  refine ⟨p, ss, x, y, rfl, s1 p _ hM, hok, by omega, hxy, fun u M2 sb2 hu e2 => ?_⟩
  have s2 := Sub.trans s1 sb2
  walk_at "w"
  have er2 := sb2 r _ (updM_same (M := M) (o := .lst (ss.map Snd.w)))
  refine ⟨r, ss, x, y, rfl, er2, hok, by omega, hxy, fun v M3 sb3 hv e3 => ?_⟩
  have eu3 := sb3 u _ e2
  have er3 := sb3 r _ er2
  have ep3 := Sub.trans s2 sb3 p _ hM
  have uv : u ≠ v := fun z => by rw [← z, e2] at hv; cases hv
  have rv : r ≠ v := fun z => by rw [← z, er2] at hv; cases hv
  have hS := strt_s hs hxy
  have hL := strt_len (x := x) (y := y) hl
  walk_at "w"
  refine s_isL ?_
  apply s_var; rfl
  refine ⟨⟨_, e3⟩, ?_⟩
  refine s_bl ?_
  walk_at "w"
  refine s_ifb (fun z => by cases z) fun _ => ?_
  walk_at "w"
  refine s_repr e3 hS hL ?_
  walk_at "w"
  refine s_repr eu3 hS hL ?_
  refine s_neS ?_
  refine s_bl ?_
  refine s_ifb (fun z => by simp at z) fun _ => ?_
  walk_at "w"
  refine s_neL er3 ep3 (fun s h => (hs s h).s) hl ?_
  refine s_bl ?_
  refine s_ifF ?_
  apply s_next
  walk_at "w"
  refine s_isl e3 ?_
  walk_at "w"
  all_goals first | exact szb rfl | skip
  refine s_app e3 (Nat.lt_of_le_of_lt (m := 300) (by rw [List.length_map]; exact hL) (by decide)) ?_
  have er4 : updM M3 v (.lst ((strt x y ss).map Snd.w ++ [.tup [.str (Str.ofString "more")]])) r = some (.lst (ss.map Snd.w)) := by rw [updM_ne rv]; exact er3
  have eu4 : updM M3 v (.lst ((strt x y ss).map Snd.w ++ [.tup [.str (Str.ofString "more")]])) u = some (.lst ((strt x y ss).map Snd.w)) := by rw [updM_ne uv]; exact eu3
  walk_at "w"
  refine ⟨r, ss, x, y, rfl, er4, hok, by omega, hxy, fun w M5 sb5 hw e5 => ?_⟩
  walk_at "w"
  refine s_repr e5 hS hL ?_
  walk_at "w"
  refine s_repr (sb5 u _ eu4) hS hL ?_
  refine s_neS ?_
  refine s_bl ?_
  refine s_ifb (fun z => by simp at z) fun _ => ?_
  apply s_next
  exact q ..
theorem pure_law (h : sp_law ws M Q) : t_law (DR Q) (startW N_law ws) M := by
  obtain ⟨ns, rfl, hl, hb, q⟩ := h
  unfold t_law
  walk_at "w"
  refine s_lenF ?_
  walk_at "w"
  rw [List.length_map]
  obtain ⟨T, hT⟩ : ∃ T : Int, T = (if (if (10:Int) < ns.length then 10 else (ns.length : Int)) > 1 then (if (10:Int) < ns.length then 10 else (ns.length : Int)) else 1) := ⟨_, rfl⟩
  have hT2 : 0 ≤ T ∧ T ≤ 10 := by split at hT <;> (try split at hT) <;> (try split at hT) <;> omega
  rw [← hT]
  clear hT
  refine f_rng (by omega) (by omega) (fun i Γ M' => ∃ c1 c2 c3 c4 c5 c6 c7 c8 : Option W, Γ = [some (.frl (ns.map .int)), c1, c2, c3, c4, c5, c6, c7, c8]) ?_ ?_ ?_
  · exact ⟨_, _, _, _, _, _, _, _, rfl⟩
  · rintro Γ M' ⟨c1, c2, c3, c4, c5, c6, c7, c8, rfl⟩
    walk_at "w"
    exact q _
  · rintro i Γ M' hi ⟨c1, c2, c3, c4, c5, c6, c7, c8, rfl⟩
    walk_at "w"
    refine ⟨ns, i, rfl, by omega, by omega, hb, hl, fun a M1 sb1 ha h1 => ?_⟩
    walk_at "w"
    refine ⟨a, 0, rfl, h1, by omega, fun p ss M2 kb2 hp ep hs hl2 h2 => ?_⟩
    have pa : p ≠ a := ne_upd h1 hp
    walk_at "w"
    refine ⟨a, p, _, ss, rfl, Ne.symm pa, h2, by omega, ep, hs, hl2, fun x M3 x0 x1 kb3 h3 => ?_⟩
    have ep3 := kb3 p _ pa ep
    walk_at "w"
    refine ⟨a, p, _, ss, rfl, Ne.symm pa, h3, by omega, ep3, hs, hl2, fun y M4 y0 y1 kb4 h4 => ?_⟩
    have ep4 := kb4 p _ pa ep3
    walk_at "w"
    refine ⟨x, y, rfl, by unfold TB; omega, by unfold TB; omega, ?_⟩
    refine s_bl ?_
    refine s_ifb (fun c => ?_) fun c => ?_
    · have c : ¬ x < y := of_decide_eq_false (by simpa using c)
      walk_at "w"
      refine ⟨a, _, rfl, h4, by omega, fun d M5 d0 d1 kb5 h5 => ?_⟩
      have ep5 := kb5 p _ pa ep4
      walk_at "w"
      refine ⟨x, d, rfl, by unfold TB; omega, by unfold TB; omega, ?_⟩
      apply s_nil
      refine s_two ?_
      exact law_turn (N := 0) ep5 hs hl2 (x := y) (y := x + d) (by omega) fun c1 c2 c3 c4 c5 c6 c7 c8 M' => ⟨_, _, _, _, _, _, _, _, rfl⟩
    · have c : x < y := of_decide_eq_true (by simpa using c)
      apply s_next
      exact law_turn (N := 0) ep4 hs hl2 (x := x) (y := y) (by omega) fun c1 c2 c3 c4 c5 c6 c7 c8 M' => ⟨_, _, _, _, _, _, _, _, rfl⟩
end
end K61
set_option maxRecDepth 100000
set_option maxHeartbeats 4000000
/-! Kd: the walks of the defs of k61 (printed by mkd.py from gen.py's derivations). -/
namespace K61
open PySem PySem.Spec PyProof.Rows Dw
open L2 (FnScope defScope defBody Room CX0 E0 cxOf)
open NdefX LamX
abbrev pw : Program := PySem.Challenge.pw_manyclocks_k61_stretches
def topS (i : Nat) : Stmt := pw.main.body.getD i (.Pass ⟨0, 0, 0, 0⟩)
theorem hun9_of {k : Nat} {A : Around} (r : Room k A) : A.units + 9 < cLine := by have := r.units; omega

theorem sc_divisor : FnScope N_divisor ["one", "other"] (defScope (topS 1)) := C8.fnScope_by (by decide +kernel)
theorem mc_divisor : MonC (sp_divisor) := by
  intro ws M Q Q' m h
  unfold sp_divisor at *
  repeat (obtain ⟨x, h⟩ := h; refine ⟨x, ?_⟩)
  first | exact m _ _ h | (intros; exact m _ _ (by apply h <;> assumption))
theorem ln_divisor : ∀ ws M Q, sp_divisor ws M Q → ws.length = 2 := by
  intro ws M Q h
  unfold sp_divisor at h
  repeat (obtain ⟨x, h⟩ := h; first | (subst x; rfl) | skip)
theorem sc_part : FnScope N_part ["top", "bottom"] (defScope (topS 2)) := C8.fnScope_by (by decide +kernel)
theorem mc_part : MonC (sp_part) := by
  intro ws M Q Q' m h
  unfold sp_part at *
  repeat (obtain ⟨x, h⟩ := h; refine ⟨x, ?_⟩)
  first | exact m _ _ h | (intros; exact m _ _ (by apply h <;> assumption))
theorem ln_part : ∀ ws M Q, sp_part ws M Q → ws.length = 2 := by
  intro ws M Q h
  unfold sp_part at h
  repeat (obtain ⟨x, h⟩ := h; first | (subst x; rfl) | skip)
theorem sc_minus : FnScope N_minus ["one", "other"] (defScope (topS 3)) := C8.fnScope_by (by decide +kernel)
theorem mc_minus : MonC (sp_minus) := by
  intro ws M Q Q' m h
  unfold sp_minus at *
  repeat (obtain ⟨x, h⟩ := h; refine ⟨x, ?_⟩)
  first | exact m _ _ h | (intros; exact m _ _ (by apply h <;> assumption))
theorem ln_minus : ∀ ws M Q, sp_minus ws M Q → ws.length = 2 := by
  intro ws M Q h
  unfold sp_minus at h
  repeat (obtain ⟨x, h⟩ := h; first | (subst x; rfl) | skip)
theorem sc_less : FnScope N_less ["one", "other"] (defScope (topS 4)) := C8.fnScope_by (by decide +kernel)
theorem mc_less : MonC (sp_less) := by
  intro ws M Q Q' m h
  unfold sp_less at *
  repeat (obtain ⟨x, h⟩ := h; refine ⟨x, ?_⟩)
  first | exact m _ _ h | (intros; exact m _ _ (by apply h <;> assumption))
theorem ln_less : ∀ ws M Q, sp_less ws M Q → ws.length = 2 := by
  intro ws M Q h
  unfold sp_less at h
  repeat (obtain ⟨x, h⟩ := h; first | (subst x; rfl) | skip)
theorem sc_common_bottom : FnScope N_common_bottom ["parts"] (defScope (topS 5)) := C8.fnScope_by (by decide +kernel)
theorem mc_common_bottom : MonC (sp_common_bottom) := by
  intro ws M Q Q' m h
  unfold sp_common_bottom at *
  repeat (obtain ⟨x, h⟩ := h; refine ⟨x, ?_⟩)
  first | exact m _ _ h | (intros; exact m _ _ (by apply h <;> assumption))
theorem ln_common_bottom : ∀ ws M Q, sp_common_bottom ws M Q → ws.length = 1 := by
  intro ws M Q h
  unfold sp_common_bottom at h
  repeat (obtain ⟨x, h⟩ := h; first | (subst x; rfl) | skip)
theorem sc_ranks : FnScope N_ranks ["moments"] (defScope (topS 7)) := C8.fnScope_by (by decide +kernel)
theorem mc_ranks (hf : NestedKey → Int) : MonC (sp_ranks hf) := by
  intro ws M Q Q' m h
  unfold sp_ranks at *
  repeat (obtain ⟨x, h⟩ := h; refine ⟨x, ?_⟩)
  first | exact m _ _ h | (intros; exact m _ _ (by apply h <;> assumption))
theorem ln_ranks (hf : NestedKey → Int) : ∀ ws M Q, sp_ranks hf ws M Q → ws.length = 1 := by
  intro ws M Q h
  unfold sp_ranks at h
  repeat (obtain ⟨x, h⟩ := h; first | (subst x; rfl) | skip)
theorem sc_in_order : FnScope N_in_order ["some"] (defScope (topS 9)) := C8.fnScope_by (by decide +kernel)
theorem mc_in_order : MonC (sp_in_order) := by
  intro ws M Q Q' m h
  unfold sp_in_order at *
  repeat (obtain ⟨x, h⟩ := h; refine ⟨x, ?_⟩)
  first | exact m _ _ h | (intros; exact m _ _ (by apply h <;> assumption))
theorem ln_in_order : ∀ ws M Q, sp_in_order ws M Q → ws.length = 1 := by
  intro ws M Q h
  unfold sp_in_order at h
  repeat (obtain ⟨x, h⟩ := h; first | (subst x; rfl) | skip)
theorem sc_is_between : FnScope N_is_between ["begin", "end", "one", "other"] (defScope (topS 11)) := C8.fnScope_by (by decide +kernel)
theorem mc_is_between : MonC (sp_is_between) := by
  intro ws M Q Q' m h
  unfold sp_is_between at *
  repeat (obtain ⟨x, h⟩ := h; refine ⟨x, ?_⟩)
  first | exact m _ _ h | (intros; exact m _ _ (by apply h <;> assumption))
theorem ln_is_between : ∀ ws M Q, sp_is_between ws M Q → ws.length = 4 := by
  intro ws M Q h
  unfold sp_is_between at h
  repeat (obtain ⟨x, h⟩ := h; first | (subst x; rfl) | skip)
theorem sc_cut_out : FnScope N_cut_out ["sound", "one", "other"] (defScope (topS 12)) := C8.fnScope_by (by decide +kernel)
theorem mc_cut_out : MonC (sp_cut_out) := by
  intro ws M Q Q' m h
  unfold sp_cut_out at *
  repeat (obtain ⟨x, h⟩ := h; refine ⟨x, ?_⟩)
  first | exact m _ _ h | (intros; exact m _ _ (by apply h <;> assumption))
theorem ln_cut_out : ∀ ws M Q, sp_cut_out ws M Q → ws.length = 3 := by
  intro ws M Q h
  unfold sp_cut_out at h
  repeat (obtain ⟨x, h⟩ := h; first | (subst x; rfl) | skip)
theorem sc_stretch : FnScope N_stretch ["told", "one", "other"] (defScope (topS 13)) := C8.fnScope_by (by decide +kernel)
theorem mc_stretch : MonC (sp_stretch) := by
  intro ws M Q Q' m h
  unfold sp_stretch at *
  repeat (obtain ⟨x, h⟩ := h; refine ⟨x, ?_⟩)
  first | exact m _ _ h | (intros; exact m _ _ (by apply h <;> assumption))
theorem ln_stretch : ∀ ws M Q, sp_stretch ws M Q → ws.length = 3 := by
  intro ws M Q h
  unfold sp_stretch at h
  repeat (obtain ⟨x, h⟩ := h; first | (subst x; rfl) | skip)
theorem sc_law_hand : FnScope N_law_hand ["_law_script", "_law_k"] (defScope (topS 15)) := C8.fnScope_by (by decide +kernel)
theorem mc_law_hand : MonC (sp_law_hand) := by
  intro ws M Q Q' m h
  unfold sp_law_hand at *
  repeat (obtain ⟨x, h⟩ := h; refine ⟨x, ?_⟩)
  first | exact m _ _ h | (intros; exact m _ _ (by apply h <;> assumption))
theorem ln_law_hand : ∀ ws M Q, sp_law_hand ws M Q → ws.length = 2 := by
  intro ws M Q h
  unfold sp_law_hand at h
  repeat (obtain ⟨x, h⟩ := h; first | (subst x; rfl) | skip)
theorem sc_law_take : FnScope N_law_take ["_law_hand_here", "_law_many"] (defScope (topS 16)) := C8.fnScope_by (by decide +kernel)
theorem mc_law_take : MonC (sp_law_take) := by
  intro ws M Q Q' m h
  unfold sp_law_take at *
  repeat (obtain ⟨x, h⟩ := h; refine ⟨x, ?_⟩)
  first | exact m _ _ h | (intros; exact m _ _ (by apply h <;> assumption))
theorem ln_law_take : ∀ ws M Q, sp_law_take ws M Q → ws.length = 2 := by
  intro ws M Q h
  unfold sp_law_take at h
  repeat (obtain ⟨x, h⟩ := h; first | (subst x; rfl) | skip)
theorem sc_law_low : FnScope N_law_low ["_law_top", "_law_bottom"] (defScope (topS 17)) := C8.fnScope_by (by decide +kernel)
theorem mc_law_low : MonC (sp_law_low) := by
  intro ws M Q Q' m h
  unfold sp_law_low at *
  repeat (obtain ⟨x, h⟩ := h; refine ⟨x, ?_⟩)
  first | exact m _ _ h | (intros; exact m _ _ (by apply h <;> assumption))
theorem ln_law_low : ∀ ws M Q, sp_law_low ws M Q → ws.length = 2 := by
  intro ws M Q h
  unfold sp_law_low at h
  repeat (obtain ⟨x, h⟩ := h; first | (subst x; rfl) | skip)
theorem sc_law_plus : FnScope N_law_plus ["_law_one", "_law_other"] (defScope (topS 18)) := C8.fnScope_by (by decide +kernel)
theorem mc_law_plus : MonC (sp_law_plus) := by
  intro ws M Q Q' m h
  unfold sp_law_plus at *
  repeat (obtain ⟨x, h⟩ := h; refine ⟨x, ?_⟩)
  first | exact m _ _ h | (intros; exact m _ _ (by apply h <;> assumption))
theorem ln_law_plus : ∀ ws M Q, sp_law_plus ws M Q → ws.length = 2 := by
  intro ws M Q h
  unfold sp_law_plus at h
  repeat (obtain ⟨x, h⟩ := h; first | (subst x; rfl) | skip)
theorem sc_law_minus : FnScope N_law_minus ["_law_one", "_law_other"] (defScope (topS 19)) := C8.fnScope_by (by decide +kernel)
theorem mc_law_minus : MonC sp_law_minus := mc_minus
theorem ln_law_minus : ∀ ws M Q, sp_law_minus ws M Q → ws.length = 2 := ln_minus
theorem sc_law_less : FnScope N_law_less ["_law_one", "_law_other"] (defScope (topS 20)) := C8.fnScope_by (by decide +kernel)
theorem mc_law_less : MonC sp_law_less := mc_less
theorem ln_law_less : ∀ ws M Q, sp_law_less ws M Q → ws.length = 2 := ln_less
theorem sc_law_length : FnScope N_law_length ["_law_hand_here"] (defScope (topS 21)) := C8.fnScope_by (by decide +kernel)
theorem mc_law_length : MonC (sp_law_length) := by
  intro ws M Q Q' m h
  unfold sp_law_length at *
  repeat (obtain ⟨x, h⟩ := h; refine ⟨x, ?_⟩)
  first | exact m _ _ h | (intros; exact m _ _ (by apply h <;> assumption))
theorem ln_law_length : ∀ ws M Q, sp_law_length ws M Q → ws.length = 1 := by
  intro ws M Q h
  unfold sp_law_length at h
  repeat (obtain ⟨x, h⟩ := h; first | (subst x; rfl) | skip)
theorem sc_law_place : FnScope N_law_place ["_law_hand_here"] (defScope (topS 22)) := C8.fnScope_by (by decide +kernel)
theorem mc_law_place : MonC (sp_law_place) := by
  intro ws M Q Q' m h
  unfold sp_law_place at *
  repeat (obtain ⟨x, h⟩ := h; refine ⟨x, ?_⟩)
  first | exact m _ _ h | (intros; exact m _ _ (by apply h <;> assumption))
theorem ln_law_place : ∀ ws M Q, sp_law_place ws M Q → ws.length = 1 := by
  intro ws M Q h
  unfold sp_law_place at h
  repeat (obtain ⟨x, h⟩ := h; first | (subst x; rfl) | skip)
theorem sc_law_names : FnScope N_law_names ["_law_hand_here", "_law_many"] (defScope (topS 23)) := C8.fnScope_by (by decide +kernel)
theorem mc_law_names : MonC (sp_law_names) := by
  intro ws M Q Q' m h
  unfold sp_law_names at *
  repeat (obtain ⟨x, h⟩ := h; refine ⟨x, ?_⟩)
  first | exact m _ _ h | (intros; exact m _ _ (by apply h <;> assumption))
theorem ln_law_names : ∀ ws M Q, sp_law_names ws M Q → ws.length = 2 := by
  intro ws M Q h
  unfold sp_law_names at h
  repeat (obtain ⟨x, h⟩ := h; first | (subst x; rfl) | skip)
theorem sc_law_pitches : FnScope N_law_pitches ["_law_hand_here"] (defScope (topS 24)) := C8.fnScope_by (by decide +kernel)
theorem mc_law_pitches : MonC (sp_law_pitches) := by
  intro ws M Q Q' m h
  unfold sp_law_pitches at *
  repeat (obtain ⟨x, h⟩ := h; refine ⟨x, ?_⟩)
  first | exact m _ _ h | (intros; exact m _ _ (by apply h <;> assumption))
theorem ln_law_pitches : ∀ ws M Q, sp_law_pitches ws M Q → ws.length = 1 := by
  intro ws M Q h
  unfold sp_law_pitches at h
  repeat (obtain ⟨x, h⟩ := h; first | (subst x; rfl) | skip)
theorem sc_law_key : FnScope N_law_key ["_law_sound", "_law_bottom"] (defScope (topS 25)) := C8.fnScope_by (by decide +kernel)
theorem mc_law_key : MonC (sp_law_key) := by
  intro ws M Q Q' m h
  unfold sp_law_key at *
  repeat (obtain ⟨x, h⟩ := h; refine ⟨x, ?_⟩)
  first | exact m _ _ h | (intros; exact m _ _ (by apply h <;> assumption))
theorem ln_law_key : ∀ ws M Q, sp_law_key ws M Q → ws.length = 2 := by
  intro ws M Q h
  unfold sp_law_key at h
  repeat (obtain ⟨x, h⟩ := h; first | (subst x; rfl) | skip)
theorem sc_law_sorted : FnScope N_law_sorted ["_law_told_ones"] (defScope (topS 26)) := C8.fnScope_by (by decide +kernel)
theorem mc_law_sorted : MonC sp_law_sorted := mc_in_order
theorem ln_law_sorted : ∀ ws M Q, sp_law_sorted ws M Q → ws.length = 1 := ln_in_order
theorem sc_law_cut : FnScope N_law_cut ["_law_told_ones", "_law_one", "_law_other"] (defScope (topS 27)) := C8.fnScope_by (by decide +kernel)
theorem mc_law_cut : MonC sp_law_cut := mc_stretch
theorem ln_law_cut : ∀ ws M Q, sp_law_cut ws M Q → ws.length = 3 := ln_stretch
theorem sc_law_sounds : FnScope N_law_sounds ["_law_hand_here"] (defScope (topS 28)) := C8.fnScope_by (by decide +kernel)
theorem mc_law_sounds : MonC (sp_law_sounds) := by
  intro ws M Q Q' m h
  unfold sp_law_sounds at *
  repeat (obtain ⟨x, h⟩ := h; refine ⟨x, ?_⟩)
  first | exact m _ _ h | (intros; exact m _ _ (by apply h <;> assumption))
theorem ln_law_sounds : ∀ ws M Q, sp_law_sounds ws M Q → ws.length = 1 := by
  intro ws M Q h
  unfold sp_law_sounds at h
  repeat (obtain ⟨x, h⟩ := h; first | (subst x; rfl) | skip)
theorem sc_law_time : FnScope N_law_time ["_law_hand_here", "_law_told_ones"] (defScope (topS 29)) := C8.fnScope_by (by decide +kernel)
theorem mc_law_time : MonC (sp_law_time) := by
  intro ws M Q Q' m h
  unfold sp_law_time at *
  repeat (obtain ⟨x, h⟩ := h; refine ⟨x, ?_⟩)
  first | exact m _ _ h | (intros; exact m _ _ (by apply h <;> assumption))
theorem ln_law_time : ∀ ws M Q, sp_law_time ws M Q → ws.length = 2 := by
  intro ws M Q h
  unfold sp_law_time at h
  repeat (obtain ⟨x, h⟩ := h; first | (subst x; rfl) | skip)
theorem sc_law : FnScope N_law ["_law_script"] (defScope (topS 30)) := C8.fnScope_by (by decide +kernel)
theorem mc_law : MonC (sp_law) := by
  intro ws M Q Q' m h
  unfold sp_law at *
  repeat (obtain ⟨x, h⟩ := h; refine ⟨x, ?_⟩)
  first | exact m _ _ h | (intros; exact m _ _ (by apply h <;> assumption))
theorem ln_law : ∀ ws M Q, sp_law ws M Q → ws.length = 1 := by
  intro ws M Q h
  unfold sp_law at h
  repeat (obtain ⟨x, h⟩ := h; first | (subst x; rfl) | skip)
/-- the name of the lambda in the def x -/
abbrev lamN (x : Str) : Str := (envOfC x (defScope (topS 9)) 0 0 .none).qual ++ "<lambda>"
theorem mon_op {o : R2w} {ta tb : TEw} (ho : Mon2 o) (ha : MonE ta) (hb : MonE tb) : MonE (wOp o ta tb) := fun Γ M Q Q' m h => ha _ _ _ _ (fun x M1 h => hb _ _ _ _ (fun y M2 h => ho _ _ _ _ _ m h) h) h
theorem mon_var {i : Nat} : MonE (wVar i) := fun Γ M Q Q' m ⟨x, e, h⟩ => ⟨x, e, m _ _ h⟩
theorem mon_c {x : W} : MonE (wC x) := fun Γ M Q Q' m h => m _ _ h
theorem mb_law_sorted : MonE (wCB sp_law_key (wCons (wVar 0) (wCons (wVar 1) wNil))) := fun Γ M Q Q' m ⟨x, e, y, e2, h⟩ => ⟨x, e, y, e2, mc_law_key _ _ _ _ m h⟩
theorem m2_o {C : Int → Int → Prop} {g : Int → Int → W} : Mon2 (oI C g) := fun x y M Q Q' m ⟨a, b, h1, h2, h3, h4⟩ => ⟨a, b, h1, h2, h3, m _ _ h4⟩
theorem m2_or {r r' : R2w} (h : Mon2 r) (h' : Mon2 r') : Mon2 (orR r r') := fun x y M Q Q' m z => z.elim (fun z => .inl (h _ _ _ _ _ m z)) fun z => .inr (h' _ _ _ _ _ m z)
theorem mb_in_order {hf : NestedKey → Int} (X : L2.Cx) (T : List NTab) : MonE (wOp oAdd (wTup (wCons (wOp (ixD hf) (wVar 1) (wOp oIx (wVar 0) (wC (.int 0)))) (wCons (wOp (ixD hf) (wVar 1) (wOp oIx (wVar 0) (wC (.int 1)))) wNil))) (wSl sTL (wVar 0) (wPart (wC (.int 2))) wNo)) := by
  have mon_ix : Mon2 oIx := (ixw_any (X := X) (T := T)).mo
  have mon_add : Mon2 oAdd := (opw_addA (X := X) (T := T)).mo
  have sl_mon : MonSl sTL := (slw_any (X := X) (T := T)).mo
  have hd : Mon2 (ixD hf) := fun x y M Q Q' m ⟨a, kvs, k, v, h1, h2, h3, h4, h5, h6⟩ => ⟨a, kvs, k, v, h1, h2, h3, h4, h5, m _ _ h6⟩
  have h1 : MonE (wOp (ixD hf) (wVar 1) (wOp oIx (wVar 0) (wC (.int 0)))) := mon_op hd mon_var (mon_op mon_ix mon_var mon_c)
  have h2 : MonE (wOp (ixD hf) (wVar 1) (wOp oIx (wVar 0) (wC (.int 1)))) := mon_op hd mon_var (mon_op mon_ix mon_var mon_c)
  refine mon_op mon_add (fun Γ M Q Q' m h => ?_) (fun Γ M Q Q' m h => ?_)
  · exact h1 _ _ _ _ (fun x M1 h => h2 _ _ _ _ (fun y M2 h => ⟨h.1, m _ _ h.2⟩) h) h
  · obtain ⟨x, e, i, e2, h⟩ := h
    exact ⟨x, e, i, e2, sl_mon _ _ _ _ _ _ m h⟩

section
variable {P : Program} {w : World} {K : PySem.W.Frag} {mg : Str → Option Value} {base : Heap} {T0 : List (Addr × Str)}

theorem ok_divisor (F : FunW K mg "divisor" (topS 1) ["one", "other"]) (m_abs : mg "abs" = none) : DefW P w K mg base (tabs T0) "divisor" 1 (sp_divisor) := by
  refine F.ok sc_divisor mc_divisor ln_divisor fun f cdv A outer s H hf0 hcode hr hG ws M Q anti h => ?_
  refine ⟨t_divisor, ?_, pure_divisor h⟩
  have hun := hr.units
  have hun9 := hun9_of hr
  exact (ssw_cons (sw_par (i := 0) (j := 1) rfl sc_divisor.nd rfl rfl (by decide) rfl rfl (aw_cons (ew_callB cw_abs rfl m_abs (by decide +kernel) (aw_cons (ew_var (i := 0) rfl (.inl rfl)) aw_nil)) (aw_cons (ew_callB cw_abs rfl m_abs (by decide +kernel) (aw_cons (ew_var (i := 1) rfl (.inl rfl)) aw_nil)) aw_nil)) rfl)
  (ssw_cons (sw_while PassesOwn.never (tw_cmp opw_gt (ew_var (i := 1) rfl (.inl rfl)) ew_int rfl)
  (ssw_one (sw_par (i := 0) (j := 1) rfl sc_divisor.nd rfl rfl (by decide) rfl rfl (aw_cons (ew_var (i := 1) rfl (.inl rfl)) (aw_cons (ew_op opw_mod (ew_var (i := 0) rfl (.inl rfl)) (ew_var (i := 1) rfl (.inl rfl))) aw_nil)) rfl)))
  (ssw_one (sw_ret (ew_var (i := 0) rfl (.inl rfl))))))
theorem ok_part (F : FunW K mg "part" (topS 2) ["top", "bottom"]) (D_divisor : DefW P w K mg base (tabs T0) "divisor" 1 (sp_divisor)) : DefW P w K mg base (tabs T0) "part" 2 (sp_part) := by
  refine F.ok sc_part mc_part ln_part fun f cdv A outer s H hf0 hcode hr hG ws M Q anti h => ?_
  refine ⟨t_part, ?_, pure_part h⟩
  have hun := hr.units
  have hun9 := hun9_of hr
  exact (ssw_cons (sw_if (tw_cmp opw_lt (ew_var (i := 1) rfl (.inl rfl)) ew_int rfl)
  (ssw_one (sw_par (i := 0) (j := 1) rfl sc_part.nd rfl rfl (by decide) rfl rfl (aw_cons (ew_un unw_neg (ew_var (i := 0) rfl (.inl rfl))) (aw_cons (ew_un unw_neg (ew_var (i := 1) rfl (.inl rfl))) aw_nil)) rfl))
  ssw_nil)
  (ssw_cons (sw_set (i := 2) sc_part.nd rfl (.inl rfl) (ew_call D_divisor hr hG (by decide) rfl (aw_cons (ew_var (i := 0) rfl (.inl rfl)) (aw_cons (ew_var (i := 1) rfl (.inl rfl)) aw_nil))))
  (ssw_one (sw_ret (ew_tup (aw_cons (ew_op opw_div (ew_var (i := 0) rfl (.inl rfl)) (ew_var (i := 2) rfl (.inl rfl))) (aw_cons (ew_op opw_div (ew_var (i := 1) rfl (.inl rfl)) (ew_var (i := 2) rfl (.inl rfl))) aw_nil)))))))
theorem ok_minus (F : FunW K mg "minus" (topS 3) ["one", "other"]) (D_part : DefW P w K mg base (tabs T0) "part" 2 (sp_part)) : DefW P w K mg base (tabs T0) "minus" 3 (sp_minus) := by
  refine F.ok sc_minus mc_minus ln_minus fun f cdv A outer s H hf0 hcode hr hG ws M Q anti h => ?_
  refine ⟨t_minus, ?_, pure_minus h⟩
  have hun := hr.units
  have hun9 := hun9_of hr
  exact (ssw_one (sw_ret (ew_call D_part hr hG (by decide) rfl (aw_cons (ew_op opw_sub (ew_op (opw_mul.or opw_mulS) (ew_ix ixw_any (ew_var (i := 0) rfl (.inl rfl)) ew_int (fun _ _ => rfl)) (ew_ix ixw_any (ew_var (i := 1) rfl (.inl rfl)) ew_int (fun _ _ => rfl))) (ew_op (opw_mul.or opw_mulS) (ew_ix ixw_any (ew_var (i := 1) rfl (.inl rfl)) ew_int (fun _ _ => rfl)) (ew_ix ixw_any (ew_var (i := 0) rfl (.inl rfl)) ew_int (fun _ _ => rfl)))) (aw_cons (ew_op (opw_mul.or opw_mulS) (ew_ix ixw_any (ew_var (i := 0) rfl (.inl rfl)) ew_int (fun _ _ => rfl)) (ew_ix ixw_any (ew_var (i := 1) rfl (.inl rfl)) ew_int (fun _ _ => rfl))) aw_nil)))))
theorem ok_less (F : FunW K mg "less" (topS 4) ["one", "other"]) : DefW P w K mg base (tabs T0) "less" 1 (sp_less) := by
  refine F.ok sc_less mc_less ln_less fun f cdv A outer s H hf0 hcode hr hG ws M Q anti h => ?_
  refine ⟨t_less, ?_, pure_less h⟩
  have hun := hr.units
  have hun9 := hun9_of hr
  exact (ssw_one (sw_ret (ew_cmp opw_lt (ew_op (opw_mul.or opw_mulS) (ew_ix ixw_any (ew_var (i := 0) rfl (.inl rfl)) ew_int (fun _ _ => rfl)) (ew_ix ixw_any (ew_var (i := 1) rfl (.inl rfl)) ew_int (fun _ _ => rfl))) (ew_op (opw_mul.or opw_mulS) (ew_ix ixw_any (ew_var (i := 1) rfl (.inl rfl)) ew_int (fun _ _ => rfl)) (ew_ix ixw_any (ew_var (i := 0) rfl (.inl rfl)) ew_int (fun _ _ => rfl))) rfl)))
theorem ok_common_bottom (F : FunW K mg "common_bottom" (topS 5) ["parts"]) (D_divisor : DefW P w K mg base (tabs T0) "divisor" 1 (sp_divisor)) : DefW P w K mg base (tabs T0) "common_bottom" 2 (sp_common_bottom) := by
  refine F.ok sc_common_bottom mc_common_bottom ln_common_bottom fun f cdv A outer s H hf0 hcode hr hG ws M Q anti h => ?_
  refine ⟨t_common_bottom, ?_, pure_common_bottom h⟩
  have hun := hr.units
  have hun9 := hun9_of hr
  exact (ssw_cons (sw_set (i := 1) sc_common_bottom.nd rfl (.inl rfl) ew_int)
  (ssw_cons (sw_for PassesOwn.never rfl (iw_seq (ew_var (i := 0) rfl (.inl rfl))) (gw_name (i := 2) sc_common_bottom.nd rfl (.inl rfl))
  (ssw_one (sw_set (i := 1) sc_common_bottom.nd rfl (.inl rfl) (ew_op (opw_mul.or opw_mulS) (ew_var (i := 1) rfl (.inl rfl)) (ew_op opw_div (ew_ix ixw_any (ew_var (i := 2) rfl (.inl rfl)) ew_int (fun _ _ => rfl)) (ew_call D_divisor hr hG (by decide) rfl (aw_cons (ew_var (i := 1) rfl (.inl rfl)) (aw_cons (ew_ix ixw_any (ew_var (i := 2) rfl (.inl rfl)) ew_int (fun _ _ => rfl)) aw_nil))))))))
  (ssw_one (sw_ret (ew_var (i := 1) rfl (.inl rfl))))))
theorem ok_ranks (F : FunW K mg "ranks" (topS 7) ["moments"]) (D_common_bottom : DefW P w K mg base (tabs T0) "common_bottom" 2 (sp_common_bottom)) (m_list : mg "list" = none) (m_max : mg "max" = none) : DefW P w K mg base (tabs T0) "ranks" 3 (sp_ranks (NestedKey.hash w)) := by
  refine F.ok sc_ranks (mc_ranks (NestedKey.hash w)) (ln_ranks (NestedKey.hash w)) fun f cdv A outer s H hf0 hcode hr hG ws M Q anti h => ?_
  refine ⟨t_ranks (NestedKey.hash w), ?_, pure_ranks h⟩
  have hun := hr.units
  have hun9 := hun9_of hr
  exact (ssw_cons (sw_set (i := 2) sc_ranks.nd rfl (.inl rfl) (ew_call D_common_bottom hr hG (by decide) rfl (aw_cons (ew_lc (own := [("time", 1)]) rfl sc_ranks.nd (iw_seq (ew_var (i := 0) rfl (.inl rfl))) (L2.blkOk_by rfl) (fun _ _ _ _ _ => (gcw_name (i := 1) (by decide) sc_ranks.nd rfl (.inl rfl) (.inr rfl))) mv_name (fun _ _ _ _ _ => (ptsw_one (tw_cmp opw_isnot (ew_var (i := 1) rfl (.inl rfl)) ew_non rfl))) (fun _ _ _ _ _ => (ew_var (i := 1) rfl (.inl rfl)))) aw_nil)))
  (ssw_cons (sw_set (i := 3) sc_ranks.nd rfl (.inl rfl) ew_dnew)
  (ssw_cons (sw_for PassesOwn.never rfl (iw_seq (ew_var (i := 0) rfl (.inl rfl))) (gw_name (i := 1) sc_ranks.nd rfl (.inl rfl))
  (ssw_one (sw_if (tw_cmp opw_isnot (ew_var (i := 1) rfl (.inl rfl)) ew_non rfl)
  (ssw_one (sw_asg (ew_op (opw_mul.or opw_mulS) (ew_ix ixw_any (ew_var (i := 1) rfl (.inl rfl)) ew_int (fun _ _ => rfl)) (ew_op opw_div (ew_var (i := 2) rfl (.inl rfl)) (ew_ix ixw_any (ew_var (i := 1) rfl (.inl rfl)) ew_int (fun _ _ => rfl)))) (gw_sub (ew_var (i := 3) rfl (.inl rfl)) (ew_var (i := 1) rfl (.inl rfl)) (setw_D hun9))))
  ssw_nil)))
  (ssw_cons (sw_asg (ew_op opw_addA ew_int (ew_maxD rfl hun rfl m_max (ew_dVals rfl rfl m_list (ew_var (i := 3) rfl (.inl rfl))) ew_int)) (gw_sub (ew_var (i := 3) rfl (.inl rfl)) ew_non (setw_D hun9)))
  (ssw_one (sw_ret (ew_var (i := 3) rfl (.inl rfl))))))))
theorem ok_in_order (F : FunW K mg "in_order" (topS 9) ["some"]) (D_ranks : DefW P w K mg base (tabs T0) "ranks" 3 (sp_ranks (NestedKey.hash w))) (m_sorted : mg "sorted" = none) {c Pt : Addr} (TB : TabB base mg c Pt) (hc : ∀ f cdv, mg "in_order" = some (.ref f) → CodeAt K f cdv → cdv = .ref c) (hmT : (Pt, lamN "in_order") ∈ T0) (huT : ∀ p ∈ T0, p.1 = Pt → p.2 = lamN "in_order") : DefW P w K mg base (tabs T0) "in_order" 7 (sp_in_order) := by
  refine F.ok sc_in_order mc_in_order ln_in_order fun f cdv A outer s H hf0 hcode hr hG ws M Q anti h => ?_
  obtain rfl := hc f cdv hf0 hcode
  refine ⟨t_in_order (NestedKey.hash w), ?_, pure_in_order h⟩
  have hun := hr.units
  have hun9 := hun9_of hr
  exact (ssw_cons (sw_set (i := 1) sc_in_order.nd rfl (.inr rfl) (ew_call D_ranks hr hG (by decide) rfl (aw_cons (ew_op opw_addA (ew_lc (own := [("sound", 2)]) rfl sc_in_order.nd (iw_seq (ew_var (i := 0) rfl (.inl rfl))) (L2.blkOk_by rfl) (fun _ _ _ _ _ => (gcw_name (i := 2) (by decide) sc_in_order.nd rfl (.inl rfl) (.inr rfl))) mv_name (fun _ _ _ _ _ => ptsw_nil) (fun _ _ _ _ _ => (ew_ix ixw_any (ew_var (i := 2) rfl (.inl rfl)) ew_int (fun _ _ => rfl)))) (ew_lc (own := [("sound", 2)]) rfl sc_in_order.nd (iw_seq (ew_var (i := 0) rfl (.inl rfl))) (L2.blkOk_by rfl) (fun _ _ _ _ _ => (gcw_name (i := 2) (by decide) sc_in_order.nd rfl (.inl rfl) (.inr rfl))) mv_name (fun _ _ _ _ _ => ptsw_nil) (fun _ _ _ _ _ => (ew_ix ixw_any (ew_var (i := 2) rfl (.inl rfl)) ew_int (fun _ _ => rfl))))) aw_nil)))
  (ssw_one (sw_ret (ew_sortK (N := ["sound", "known"]) (fr := ["known"]) (js := [1]) TB rfl hmT huT (k := 3) (hr.mono (by decide)) hG rfl m_sorted (nscope_by (by decide +kernel)) rfl rfl rfl (fun _ _ _ _ _ us hl => match us, hl with | [_], _ => rfl) (ew_var (i := 0) rfl (.inl rfl)) (fun A2 s2 H2 f2 c2 hr2 hG2 => have hun2 := hr2.units; have hun9 := hun9_of hr2; (ew_op opw_addA (ew_tup (aw_cons (ew_ix (ixw_D hun9) (ew_var (i := 1) rfl (by first | exact .inl rfl | exact .inr (.inl rfl) | exact .inr (.inr rfl))) (ew_ix ixw_any (ew_var (i := 0) rfl (.inl rfl)) ew_int (fun _ _ => rfl)) (fun _ _ => rfl)) (aw_cons (ew_ix (ixw_D hun9) (ew_var (i := 1) rfl (by first | exact .inl rfl | exact .inr (.inl rfl) | exact .inr (.inr rfl))) (ew_ix ixw_any (ew_var (i := 0) rfl (.inl rfl)) ew_int (fun _ _ => rfl)) (fun _ _ => rfl)) aw_nil))) (ew_slice slw_any (ew_var (i := 0) rfl (.inl rfl)) (ow_some ew_int) ow_no))) (mb_in_order (cxOf CX0 P w K mg base [] "" (defScope (topS 9)) f (.ref c) A outer s H E0) (tabs T0))))))
theorem ok_is_between (F : FunW K mg "is_between" (topS 11) ["begin", "end", "one", "other"]) (D_less : DefW P w K mg base (tabs T0) "less" 1 (sp_less)) : DefW P w K mg base (tabs T0) "is_between" 2 (sp_is_between) := by
  refine F.ok sc_is_between mc_is_between ln_is_between fun f cdv A outer s H hf0 hcode hr hG ws M Q anti h => ?_
  refine ⟨t_is_between, ?_, pure_is_between h⟩
  have hun := hr.units
  have hun9 := hun9_of hr
  exact (ssw_one (sw_ret (ew_and (ew_call D_less hr hG (by decide) rfl (aw_cons (ew_var (i := 0) rfl (.inl rfl)) (aw_cons (ew_var (i := 3) rfl (.inl rfl)) aw_nil))) (ew_one (ew_or (ew_cmp opw_is (ew_var (i := 1) rfl (.inl rfl)) ew_non rfl) (ew_one (ew_call D_less hr hG (by decide) rfl (aw_cons (ew_var (i := 2) rfl (.inl rfl)) (aw_cons (ew_var (i := 1) rfl (.inl rfl)) aw_nil)))))))))
theorem ok_cut_out (F : FunW K mg "cut_out" (topS 12) ["sound", "one", "other"]) (D_less : DefW P w K mg base (tabs T0) "less" 1 (sp_less)) (D_minus : DefW P w K mg base (tabs T0) "minus" 3 (sp_minus)) : DefW P w K mg base (tabs T0) "cut_out" 4 (sp_cut_out) := by
  refine F.ok sc_cut_out mc_cut_out ln_cut_out fun f cdv A outer s H hf0 hcode hr hG ws M Q anti h => ?_
  refine ⟨t_cut_out, ?_, pure_cut_out h⟩
  have hun := hr.units
  have hun9 := hun9_of hr
  exact (ssw_cons (sw_asg (ew_var (i := 0) rfl (.inl rfl)) (gw_tup (n := 5) rfl (gsw_cons (gw_name (i := 3) sc_cut_out.nd rfl (.inl rfl)) (gsw_cons (gw_name (i := 4) sc_cut_out.nd rfl (.inl rfl)) (gsw_cons (gw_name (i := 5) sc_cut_out.nd rfl (.inl rfl)) (gsw_cons (gw_name (i := 6) sc_cut_out.nd rfl (.inl rfl)) (gsw_cons (gw_name (i := 7) sc_cut_out.nd rfl (.inl rfl)) gsw_nil)))))))
  (ssw_cons (sw_if (tw_val (ew_call D_less hr hG (by decide) rfl (aw_cons (ew_var (i := 3) rfl (.inl rfl)) (aw_cons (ew_var (i := 1) rfl (.inl rfl)) aw_nil))))
  (ssw_one (sw_set (i := 3) sc_cut_out.nd rfl (.inl rfl) (ew_var (i := 1) rfl (.inl rfl))))
  ssw_nil)
  (ssw_cons (sw_if (WW.tw (ww_or (tw_cmp opw_is (ew_var (i := 4) rfl (.inl rfl)) ew_non rfl) (ww_or1 (tw_val (ew_call D_less hr hG (by decide) rfl (aw_cons (ew_var (i := 2) rfl (.inl rfl)) (aw_cons (ew_var (i := 4) rfl (.inl rfl)) aw_nil)))))))
  (ssw_one (sw_set (i := 4) sc_cut_out.nd rfl (.inl rfl) (ew_var (i := 2) rfl (.inl rfl))))
  ssw_nil)
  (ssw_one (sw_ret (ew_tup (aw_cons (ew_call D_minus hr hG (by decide) rfl (aw_cons (ew_var (i := 3) rfl (.inl rfl)) (aw_cons (ew_var (i := 1) rfl (.inl rfl)) aw_nil))) (aw_cons (ew_call D_minus hr hG (by decide) rfl (aw_cons (ew_var (i := 4) rfl (.inl rfl)) (aw_cons (ew_var (i := 1) rfl (.inl rfl)) aw_nil))) (aw_cons (ew_var (i := 5) rfl (.inl rfl)) (aw_cons (ew_var (i := 6) rfl (.inl rfl)) (aw_cons (ew_var (i := 7) rfl (.inl rfl)) aw_nil)))))))))))
theorem ok_stretch (F : FunW K mg "stretch" (topS 13) ["told", "one", "other"]) (D_cut_out : DefW P w K mg base (tabs T0) "cut_out" 4 (sp_cut_out)) (D_in_order : DefW P w K mg base (tabs T0) "in_order" 7 (sp_in_order)) (D_is_between : DefW P w K mg base (tabs T0) "is_between" 2 (sp_is_between)) : DefW P w K mg base (tabs T0) "stretch" 8 (sp_stretch) := by
  refine F.ok sc_stretch mc_stretch ln_stretch fun f cdv A outer s H hf0 hcode hr hG ws M Q anti h => ?_
  refine ⟨t_stretch, ?_, pure_stretch h⟩
  have hun := hr.units
  have hun9 := hun9_of hr
  exact (ssw_one (sw_ret (ew_call D_in_order hr hG (by decide) rfl (aw_cons (ew_lc (own := [("sound", 3)]) rfl sc_stretch.nd (iw_seq (ew_var (i := 0) rfl (.inl rfl))) (L2.blkOk_by rfl) (fun _ _ _ _ _ => (gcw_name (i := 3) (by decide) sc_stretch.nd rfl (.inl rfl) (.inr rfl))) mv_name (fun _ _ _ _ _ => (ptsw_one (tw_val (ew_call D_is_between hr hG (by decide) rfl (aw_cons (ew_ix ixw_any (ew_var (i := 3) rfl (.inl rfl)) ew_int (fun _ _ => rfl)) (aw_cons (ew_ix ixw_any (ew_var (i := 3) rfl (.inl rfl)) ew_int (fun _ _ => rfl)) (aw_cons (ew_var (i := 1) rfl (by first | exact .inl rfl | exact .inr (.inl rfl) | exact .inr (.inr rfl))) (aw_cons (ew_var (i := 2) rfl (by first | exact .inl rfl | exact .inr (.inl rfl) | exact .inr (.inr rfl))) aw_nil)))))))) (fun _ _ _ _ _ => (ew_call D_cut_out hr hG (by decide) rfl (aw_cons (ew_var (i := 3) rfl (.inl rfl)) (aw_cons (ew_var (i := 1) rfl (by first | exact .inl rfl | exact .inr (.inl rfl) | exact .inr (.inr rfl))) (aw_cons (ew_var (i := 2) rfl (by first | exact .inl rfl | exact .inr (.inl rfl) | exact .inr (.inr rfl))) aw_nil)))))) aw_nil))))
theorem ok_law_hand (F : FunW K mg "_law_hand" (topS 15) ["_law_script", "_law_k"]) (m_int : mg "int" = none) (m_len : mg "len" = none) : DefW P w K mg base (tabs T0) "_law_hand" 1 (sp_law_hand) := by
  refine F.ok sc_law_hand mc_law_hand ln_law_hand fun f cdv A outer s H hf0 hcode hr hG ws M Q anti h => ?_
  refine ⟨t_law_hand, ?_, pure_law_hand h⟩
  have hun := hr.units
  have hun9 := hun9_of hr
  exact (ssw_cons (sw_set (i := 2) sc_law_hand.nd rfl (.inl rfl) ew_int)
  (ssw_cons (sw_if (tw_cmp opw_lt (ew_var (i := 1) rfl (.inl rfl)) (ew_callB cw_len rfl m_len (by decide +kernel) (aw_cons (ew_var (i := 0) rfl (.inl rfl)) aw_nil)) rfl)
  (ssw_one (sw_set (i := 2) sc_law_hand.nd rfl (.inl rfl) (ew_ix ixw_any (ew_var (i := 0) rfl (.inl rfl)) (ew_var (i := 1) rfl (.inl rfl)) (fun _ _ => rfl))))
  ssw_nil)
  (ssw_one (sw_ret (ew_lst (aw_cons (ew_op (opw_mul.or opw_mulS) (ew_var (i := 2) rfl (.inl rfl)) (ew_callTy cw_int rfl m_int (by decide +kernel) (aw_cons (ew_cmp opw_ge (ew_var (i := 2) rfl (.inl rfl)) (ew_op opw_pow ew_int ew_int) rfl) aw_nil))) (aw_cons (ew_op opw_addA (ew_op opw_addA (ew_op opw_mod (ew_var (i := 2) rfl (.inl rfl)) ew_int) (ew_op (opw_mul.or opw_mulS) ew_int (ew_var (i := 1) rfl (.inl rfl)))) ew_int) (aw_cons ew_int aw_nil))))))))
theorem ok_law_take (F : FunW K mg "_law_take" (topS 16) ["_law_hand_here", "_law_many"]) : DefW P w K mg base (tabs T0) "_law_take" 1 (sp_law_take) := by
  refine F.ok sc_law_take mc_law_take ln_law_take fun f cdv A outer s H hf0 hcode hr hG ws M Q anti h => ?_
  refine ⟨t_law_take, ?_, pure_law_take h⟩
  have hun := hr.units
  have hun9 := hun9_of hr
  exact (ssw_cons (sw_if (tw_cmp opw_gt (ew_ix ixw_any (ew_var (i := 0) rfl (.inl rfl)) ew_int (fun _ _ => rfl)) ew_int rfl)
  (ssw_cons (sw_set (i := 2) sc_law_take.nd rfl (.inl rfl) (ew_op opw_mod (ew_ix ixw_any (ew_var (i := 0) rfl (.inl rfl)) ew_int (fun _ _ => rfl)) (ew_var (i := 1) rfl (.inl rfl))))
  (ssw_cons (sw_asg (ew_op opw_div (ew_ix ixw_any (ew_var (i := 0) rfl (.inl rfl)) ew_int (fun _ _ => rfl)) (ew_var (i := 1) rfl (.inl rfl))) (gw_sub (ew_var (i := 0) rfl (.inl rfl)) ew_int setw_list))
  (ssw_one (sw_ret (ew_var (i := 2) rfl (.inl rfl))))))
  ssw_nil)
  (ssw_cons (sw_asg (ew_op opw_addA (ew_ix ixw_any (ew_var (i := 0) rfl (.inl rfl)) ew_int (fun _ _ => rfl)) ew_int) (gw_sub (ew_var (i := 0) rfl (.inl rfl)) ew_int setw_list))
  (ssw_cons (sw_set (i := 3) sc_law_take.nd rfl (.inl rfl) (ew_ix ixw_any (ew_var (i := 0) rfl (.inl rfl)) ew_int (fun _ _ => rfl)))
  (ssw_cons (sw_set (i := 4) sc_law_take.nd rfl (.inl rfl) (ew_op opw_mod (ew_op (opw_mul.or opw_mulS) (ew_ix ixw_any (ew_var (i := 0) rfl (.inl rfl)) ew_int (fun _ _ => rfl)) (ew_op opw_addA (ew_op opw_addA ew_int (ew_op (opw_mul.or opw_mulS) (ew_op (opw_mul.or opw_mulS) ew_int (ew_var (i := 3) rfl (.inl rfl))) (ew_var (i := 3) rfl (.inl rfl)))) (ew_op (opw_mul.or opw_mulS) ew_int (ew_var (i := 3) rfl (.inl rfl))))) ew_int))
  (ssw_cons (sw_set (i := 5) sc_law_take.nd rfl (.inl rfl) (ew_op opw_addA (ew_op opw_addA (ew_op opw_mod (ew_var (i := 4) rfl (.inl rfl)) ew_int) (ew_op (opw_mul.or opw_mulS) (ew_var (i := 3) rfl (.inl rfl)) ew_int)) ew_int))
  (ssw_cons (sw_set (i := 4) sc_law_take.nd rfl (.inl rfl) (ew_op opw_mod (ew_op (opw_mul.or opw_mulS) (ew_var (i := 4) rfl (.inl rfl)) (ew_var (i := 5) rfl (.inl rfl))) ew_int))
  (ssw_one (sw_ret (ew_op opw_mod (ew_op opw_addA (ew_op opw_div (ew_var (i := 4) rfl (.inl rfl)) ew_int) (ew_op opw_div (ew_var (i := 4) rfl (.inl rfl)) ew_int)) (ew_var (i := 1) rfl (.inl rfl)))))))))))
theorem ok_law_low (F : FunW K mg "_law_low" (topS 17) ["_law_top", "_law_bottom"]) (m_abs : mg "abs" = none) : DefW P w K mg base (tabs T0) "_law_low" 1 (sp_law_low) := by
  refine F.ok sc_law_low mc_law_low ln_law_low fun f cdv A outer s H hf0 hcode hr hG ws M Q anti h => ?_
  refine ⟨t_law_low, ?_, pure_law_low h⟩
  have hun := hr.units
  have hun9 := hun9_of hr
  exact (ssw_cons (sw_par (i := 2) (j := 3) rfl sc_law_low.nd rfl rfl (by decide) rfl rfl (aw_cons (ew_callB cw_abs rfl m_abs (by decide +kernel) (aw_cons (ew_var (i := 0) rfl (.inl rfl)) aw_nil)) (aw_cons (ew_var (i := 1) rfl (.inl rfl)) aw_nil)) rfl)
  (ssw_cons (sw_while PassesOwn.never (tw_cmp opw_gt (ew_var (i := 3) rfl (.inl rfl)) ew_int rfl)
  (ssw_one (sw_par (i := 2) (j := 3) rfl sc_law_low.nd rfl rfl (by decide) rfl rfl (aw_cons (ew_var (i := 3) rfl (.inl rfl)) (aw_cons (ew_op opw_mod (ew_var (i := 2) rfl (.inl rfl)) (ew_var (i := 3) rfl (.inl rfl))) aw_nil)) rfl)))
  (ssw_one (sw_ret (ew_tup (aw_cons (ew_op opw_div (ew_var (i := 0) rfl (.inl rfl)) (ew_var (i := 2) rfl (.inl rfl))) (aw_cons (ew_op opw_div (ew_var (i := 1) rfl (.inl rfl)) (ew_var (i := 2) rfl (.inl rfl))) aw_nil)))))))
theorem ok_law_plus (F : FunW K mg "_law_plus" (topS 18) ["_law_one", "_law_other"]) (D_law_low : DefW P w K mg base (tabs T0) "_law_low" 1 (sp_law_low)) : DefW P w K mg base (tabs T0) "_law_plus" 2 (sp_law_plus) := by
  refine F.ok sc_law_plus mc_law_plus ln_law_plus fun f cdv A outer s H hf0 hcode hr hG ws M Q anti h => ?_
  refine ⟨t_law_plus, ?_, pure_law_plus h⟩
  have hun := hr.units
  have hun9 := hun9_of hr
  exact (ssw_one (sw_ret (ew_call D_law_low hr hG (by decide) rfl (aw_cons (ew_op opw_addA (ew_op (opw_mul.or opw_mulS) (ew_ix ixw_any (ew_var (i := 0) rfl (.inl rfl)) ew_int (fun _ _ => rfl)) (ew_ix ixw_any (ew_var (i := 1) rfl (.inl rfl)) ew_int (fun _ _ => rfl))) (ew_op (opw_mul.or opw_mulS) (ew_ix ixw_any (ew_var (i := 1) rfl (.inl rfl)) ew_int (fun _ _ => rfl)) (ew_ix ixw_any (ew_var (i := 0) rfl (.inl rfl)) ew_int (fun _ _ => rfl)))) (aw_cons (ew_op (opw_mul.or opw_mulS) (ew_ix ixw_any (ew_var (i := 0) rfl (.inl rfl)) ew_int (fun _ _ => rfl)) (ew_ix ixw_any (ew_var (i := 1) rfl (.inl rfl)) ew_int (fun _ _ => rfl))) aw_nil)))))
theorem ok_law_minus (F : FunW K mg "_law_minus" (topS 19) ["_law_one", "_law_other"]) (D_law_low : DefW P w K mg base (tabs T0) "_law_low" 1 (sp_law_low)) : DefW P w K mg base (tabs T0) "_law_minus" 2 (sp_law_minus) := by
  refine F.ok sc_law_minus mc_law_minus ln_law_minus fun f cdv A outer s H hf0 hcode hr hG ws M Q anti h => ?_
  refine ⟨t_law_minus, ?_, pure_law_minus h⟩
  have hun := hr.units
  have hun9 := hun9_of hr
  exact (ssw_one (sw_ret (ew_call D_law_low hr hG (by decide) rfl (aw_cons (ew_op opw_sub (ew_op (opw_mul.or opw_mulS) (ew_ix ixw_any (ew_var (i := 0) rfl (.inl rfl)) ew_int (fun _ _ => rfl)) (ew_ix ixw_any (ew_var (i := 1) rfl (.inl rfl)) ew_int (fun _ _ => rfl))) (ew_op (opw_mul.or opw_mulS) (ew_ix ixw_any (ew_var (i := 1) rfl (.inl rfl)) ew_int (fun _ _ => rfl)) (ew_ix ixw_any (ew_var (i := 0) rfl (.inl rfl)) ew_int (fun _ _ => rfl)))) (aw_cons (ew_op (opw_mul.or opw_mulS) (ew_ix ixw_any (ew_var (i := 0) rfl (.inl rfl)) ew_int (fun _ _ => rfl)) (ew_ix ixw_any (ew_var (i := 1) rfl (.inl rfl)) ew_int (fun _ _ => rfl))) aw_nil)))))
theorem ok_law_less (F : FunW K mg "_law_less" (topS 20) ["_law_one", "_law_other"]) : DefW P w K mg base (tabs T0) "_law_less" 1 (sp_law_less) := by
  refine F.ok sc_law_less mc_law_less ln_law_less fun f cdv A outer s H hf0 hcode hr hG ws M Q anti h => ?_
  refine ⟨t_law_less, ?_, pure_law_less h⟩
  have hun := hr.units
  have hun9 := hun9_of hr
  exact (ssw_one (sw_ret (ew_cmp opw_lt (ew_op (opw_mul.or opw_mulS) (ew_ix ixw_any (ew_var (i := 0) rfl (.inl rfl)) ew_int (fun _ _ => rfl)) (ew_ix ixw_any (ew_var (i := 1) rfl (.inl rfl)) ew_int (fun _ _ => rfl))) (ew_op (opw_mul.or opw_mulS) (ew_ix ixw_any (ew_var (i := 1) rfl (.inl rfl)) ew_int (fun _ _ => rfl)) (ew_ix ixw_any (ew_var (i := 0) rfl (.inl rfl)) ew_int (fun _ _ => rfl))) rfl)))
theorem ok_law_length (F : FunW K mg "_law_length" (topS 21) ["_law_hand_here"]) (D_law_take : DefW P w K mg base (tabs T0) "_law_take" 1 (sp_law_take)) : DefW P w K mg base (tabs T0) "_law_length" 2 (sp_law_length) := by
  refine F.ok sc_law_length mc_law_length ln_law_length fun f cdv A outer s H hf0 hcode hr hG ws M Q anti h => ?_
  refine ⟨t_law_length, ?_, pure_law_length h⟩
  have hun := hr.units
  have hun9 := hun9_of hr
  exact (ssw_cons (sw_set (i := 1) sc_law_length.nd rfl (.inl rfl) (ew_lst (aw_cons (ew_tup (aw_cons ew_int (aw_cons ew_int aw_nil))) (aw_cons (ew_tup (aw_cons ew_int (aw_cons ew_int aw_nil))) (aw_cons (ew_tup (aw_cons ew_int (aw_cons ew_int aw_nil))) (aw_cons (ew_tup (aw_cons ew_int (aw_cons ew_int aw_nil))) (aw_cons (ew_tup (aw_cons ew_int (aw_cons ew_int aw_nil))) (aw_cons (ew_tup (aw_cons ew_int (aw_cons ew_int aw_nil))) (aw_cons (ew_tup (aw_cons ew_int (aw_cons ew_int aw_nil))) (aw_cons (ew_tup (aw_cons ew_int (aw_cons ew_int aw_nil))) (aw_cons (ew_tup (aw_cons ew_int (aw_cons ew_int aw_nil))) (aw_cons (ew_tup (aw_cons ew_int (aw_cons ew_int aw_nil))) (aw_cons (ew_tup (aw_cons ew_int (aw_cons ew_int aw_nil))) (aw_cons (ew_tup (aw_cons ew_int (aw_cons ew_int aw_nil))) aw_nil))))))))))))))
  (ssw_one (sw_ret (ew_ix ixw_any (ew_var (i := 1) rfl (.inl rfl)) (ew_call D_law_take hr hG (by decide) rfl (aw_cons (ew_var (i := 0) rfl (.inl rfl)) (aw_cons ew_int aw_nil))) (fun _ _ => rfl)))))
theorem ok_law_place (F : FunW K mg "_law_place" (topS 22) ["_law_hand_here"]) (D_law_low : DefW P w K mg base (tabs T0) "_law_low" 1 (sp_law_low)) (D_law_take : DefW P w K mg base (tabs T0) "_law_take" 1 (sp_law_take)) : DefW P w K mg base (tabs T0) "_law_place" 2 (sp_law_place) := by
  refine F.ok sc_law_place mc_law_place ln_law_place fun f cdv A outer s H hf0 hcode hr hG ws M Q anti h => ?_
  refine ⟨t_law_place, ?_, pure_law_place h⟩
  have hun := hr.units
  have hun9 := hun9_of hr
  exact (ssw_cons (sw_set (i := 1) sc_law_place.nd rfl (.inl rfl) (ew_call D_law_take hr hG (by decide) rfl (aw_cons (ew_var (i := 0) rfl (.inl rfl)) (aw_cons (ew_ix ixw_any (ew_lst (aw_cons ew_int (aw_cons ew_int (aw_cons ew_int aw_nil)))) (ew_op opw_div (ew_call D_law_take hr hG (by decide) rfl (aw_cons (ew_var (i := 0) rfl (.inl rfl)) (aw_cons ew_int aw_nil))) ew_int) (fun _ _ => rfl)) aw_nil))))
  (ssw_one (sw_ret (ew_call D_law_low hr hG (by decide) rfl (aw_cons (ew_var (i := 1) rfl (.inl rfl)) (aw_cons (ew_ix ixw_any (ew_lst (aw_cons ew_int (aw_cons ew_int (aw_cons ew_int (aw_cons ew_int (aw_cons ew_int aw_nil)))))) (ew_call D_law_take hr hG (by decide) rfl (aw_cons (ew_var (i := 0) rfl (.inl rfl)) (aw_cons ew_int aw_nil))) (fun _ _ => rfl)) aw_nil))))))
theorem ok_law_names (F : FunW K mg "_law_names" (topS 23) ["_law_hand_here", "_law_many"]) (D_law_take : DefW P w K mg base (tabs T0) "_law_take" 1 (sp_law_take)) (m_range : mg "range" = none) : DefW P w K mg base (tabs T0) "_law_names" 2 (sp_law_names) := by
  refine F.ok sc_law_names mc_law_names ln_law_names fun f cdv A outer s H hf0 hcode hr hG ws M Q anti h => ?_
  refine ⟨t_law_names, ?_, pure_law_names h⟩
  have hun := hr.units
  have hun9 := hun9_of hr
  exact (ssw_cons (sw_set (i := 2) sc_law_names.nd rfl (.inr rfl) ew_str)
  (ssw_cons (sw_set (i := 3) sc_law_names.nd rfl (.inr rfl) (ew_call D_law_take hr hG (by decide) rfl (aw_cons (ew_var (i := 0) rfl (.inl rfl)) (aw_cons ew_int aw_nil))))
  (ssw_cons (sw_set (i := 4) sc_law_names.nd rfl (.inr rfl) (ew_ix ixw_any (ew_lst (aw_cons ew_int (aw_cons ew_int (aw_cons ew_int (aw_cons ew_int (aw_cons ew_int (aw_cons ew_int aw_nil))))))) (ew_call D_law_take hr hG (by decide) rfl (aw_cons (ew_var (i := 0) rfl (.inl rfl)) (aw_cons ew_int aw_nil))) (fun _ _ => rfl)))
  (ssw_one (sw_ret (ew_lc (own := [("_law_k", 5)]) rfl sc_law_names.nd (iw_rng1 rfl m_range (aw_cons (ew_var (i := 1) rfl (.inl rfl)) aw_nil)) (L2.blkOk_by rfl) (fun _ _ _ _ _ => (gcw_name (i := 5) (by decide) sc_law_names.nd rfl (.inl rfl) (.inr rfl))) mv_name (fun _ _ _ _ _ => ptsw_nil) (fun _ _ _ _ _ => (ew_op (opw_mul.or opw_mulS) (ew_ix ixw_any (ew_var (i := 2) rfl (by first | exact .inl rfl | exact .inr (.inl rfl) | exact .inr (.inr rfl))) (ew_op opw_mod (ew_op opw_addA (ew_var (i := 3) rfl (by first | exact .inl rfl | exact .inr (.inl rfl) | exact .inr (.inr rfl))) (ew_op (opw_mul.or opw_mulS) (ew_var (i := 4) rfl (by first | exact .inl rfl | exact .inr (.inl rfl) | exact .inr (.inr rfl))) (ew_var (i := 5) rfl (.inl rfl)))) ew_int) (fun _ _ => rfl)) (ew_op opw_addA ew_int (ew_op opw_mod (ew_op opw_addA (ew_var (i := 5) rfl (.inl rfl)) (ew_var (i := 3) rfl (by first | exact .inl rfl | exact .inr (.inl rfl) | exact .inr (.inr rfl)))) ew_int))))))))))
theorem ok_law_pitches (F : FunW K mg "_law_pitches" (topS 24) ["_law_hand_here"]) (D_law_take : DefW P w K mg base (tabs T0) "_law_take" 1 (sp_law_take)) (m_range : mg "range" = none) (m_tuple : mg "tuple" = none) : DefW P w K mg base (tabs T0) "_law_pitches" 2 (sp_law_pitches) := by
  refine F.ok sc_law_pitches mc_law_pitches ln_law_pitches fun f cdv A outer s H hf0 hcode hr hG ws M Q anti h => ?_
  refine ⟨t_law_pitches, ?_, pure_law_pitches h⟩
  have hun := hr.units
  have hun9 := hun9_of hr
  exact (ssw_cons (sw_set (i := 1) sc_law_pitches.nd rfl (.inl rfl) (ew_lst (aw_cons (ew_op opw_sub (ew_call D_law_take hr hG (by decide) rfl (aw_cons (ew_var (i := 0) rfl (.inl rfl)) (aw_cons ew_int aw_nil))) ew_int) aw_nil)))
  (ssw_cons (sw_for PassesOwn.never rfl (iw_rng1 rfl m_range (aw_cons (ew_ix ixw_any (ew_lst (aw_cons ew_int (aw_cons ew_int (aw_cons ew_int (aw_cons ew_int (aw_cons ew_int (aw_cons ew_int aw_nil))))))) (ew_call D_law_take hr hG (by decide) rfl (aw_cons (ew_var (i := 0) rfl (.inl rfl)) (aw_cons ew_int aw_nil))) (fun _ _ => rfl)) aw_nil)) (gw_name (i := 2) sc_law_pitches.nd rfl (.inl rfl))
  (ssw_one (sw_expr (ew_append (ew_var (i := 1) rfl (.inl rfl)) (aw_cons (ew_op opw_addA (ew_op opw_addA (ew_ix ixw_any (ew_var (i := 1) rfl (.inl rfl)) (ew_un unw_neg ew_int) (fun _ _ => rfl)) ew_int) (ew_call D_law_take hr hG (by decide) rfl (aw_cons (ew_var (i := 0) rfl (.inl rfl)) (aw_cons ew_int aw_nil)))) aw_nil)))))
  (ssw_one (sw_ret (ew_callTy cw_tupOf rfl m_tuple (by decide +kernel) (aw_cons (ew_var (i := 1) rfl (.inl rfl)) aw_nil))))))
theorem ok_law_key (F : FunW K mg "_law_key" (topS 25) ["_law_sound", "_law_bottom"]) : DefW P w K mg base (tabs T0) "_law_key" 1 (sp_law_key) := by
  refine F.ok sc_law_key mc_law_key ln_law_key fun f cdv A outer s H hf0 hcode hr hG ws M Q anti h => ?_
  refine ⟨t_law_key, ?_, pure_law_key h⟩
  have hun := hr.units
  have hun9 := hun9_of hr
  exact (ssw_cons (sw_asg (ew_var (i := 0) rfl (.inl rfl)) (gw_tup (n := 5) rfl (gsw_cons (gw_name (i := 2) sc_law_key.nd rfl (.inl rfl)) (gsw_cons (gw_name (i := 3) sc_law_key.nd rfl (.inl rfl)) (gsw_cons (gw_name (i := 4) sc_law_key.nd rfl (.inl rfl)) (gsw_cons (gw_name (i := 5) sc_law_key.nd rfl (.inl rfl)) (gsw_cons (gw_name (i := 6) sc_law_key.nd rfl (.inl rfl)) gsw_nil)))))))
  (ssw_cons (sw_set (i := 7) sc_law_key.nd rfl (.inl rfl) (ew_tup (aw_cons ew_int (aw_cons ew_int aw_nil))))
  (ssw_cons (sw_if (tw_cmp opw_isnot (ew_var (i := 3) rfl (.inl rfl)) ew_non rfl)
  (ssw_one (sw_set (i := 7) sc_law_key.nd rfl (.inl rfl) (ew_tup (aw_cons ew_int (aw_cons (ew_op (opw_mul.or opw_mulS) (ew_ix ixw_any (ew_var (i := 3) rfl (.inl rfl)) ew_int (fun _ _ => rfl)) (ew_op opw_div (ew_var (i := 1) rfl (.inl rfl)) (ew_ix ixw_any (ew_var (i := 3) rfl (.inl rfl)) ew_int (fun _ _ => rfl)))) aw_nil)))))
  ssw_nil)
  (ssw_one (sw_ret (ew_tup (aw_cons (ew_op (opw_mul.or opw_mulS) (ew_ix ixw_any (ew_var (i := 2) rfl (.inl rfl)) ew_int (fun _ _ => rfl)) (ew_op opw_div (ew_var (i := 1) rfl (.inl rfl)) (ew_ix ixw_any (ew_var (i := 2) rfl (.inl rfl)) ew_int (fun _ _ => rfl)))) (aw_cons (ew_var (i := 7) rfl (.inl rfl)) (aw_cons (ew_var (i := 4) rfl (.inl rfl)) (aw_cons (ew_var (i := 5) rfl (.inl rfl)) (aw_cons (ew_var (i := 6) rfl (.inl rfl)) aw_nil)))))))))))
theorem ok_law_sorted (F : FunW K mg "_law_sorted" (topS 26) ["_law_told_ones"]) (D_law_key : DefW P w K mg base (tabs T0) "_law_key" 1 (sp_law_key)) (D_law_low : DefW P w K mg base (tabs T0) "_law_low" 1 (sp_law_low)) (m_sorted : mg "sorted" = none) {c Pt : Addr} (TB : TabB base mg c Pt) (hc : ∀ f cdv, mg "_law_sorted" = some (.ref f) → CodeAt K f cdv → cdv = .ref c) (hmT : (Pt, lamN "_law_sorted") ∈ T0) (huT : ∀ p ∈ T0, p.1 = Pt → p.2 = lamN "_law_sorted") : DefW P w K mg base (tabs T0) "_law_sorted" 5 (sp_law_sorted) := by
  refine F.ok sc_law_sorted mc_law_sorted ln_law_sorted fun f cdv A outer s H hf0 hcode hr hG ws M Q anti h => ?_
  obtain rfl := hc f cdv hf0 hcode
  refine ⟨t_law_sorted, ?_, pure_law_sorted h⟩
  have hun := hr.units
  have hun9 := hun9_of hr
  exact (ssw_cons (sw_set (i := 7) sc_law_sorted.nd rfl (.inr rfl) ew_int)
  (ssw_cons (sw_for PassesOwn.never rfl (iw_seq (ew_var (i := 0) rfl (.inl rfl))) (gw_tup (n := 5) rfl (gsw_cons (gw_name (i := 1) sc_law_sorted.nd rfl (.inl rfl)) (gsw_cons (gw_name (i := 2) sc_law_sorted.nd rfl (.inl rfl)) (gsw_cons (gw_name (i := 3) sc_law_sorted.nd rfl (.inl rfl)) (gsw_cons (gw_name (i := 4) sc_law_sorted.nd rfl (.inl rfl)) (gsw_cons (gw_name (i := 5) sc_law_sorted.nd rfl (.inl rfl)) gsw_nil))))))
  (ssw_one (sw_for PassesOwn.never rfl (iw_seq (ew_lst (aw_cons (ew_var (i := 1) rfl (.inl rfl)) (aw_cons (ew_var (i := 2) rfl (.inl rfl)) aw_nil)))) (gw_name (i := 6) sc_law_sorted.nd rfl (.inl rfl))
  (ssw_one (sw_if (tw_cmp opw_isnot (ew_var (i := 6) rfl (.inl rfl)) ew_non rfl)
  (ssw_one (sw_set (i := 7) sc_law_sorted.nd rfl (.inr rfl) (ew_op (opw_mul.or opw_mulS) (ew_var (i := 7) rfl (.inr (.inl rfl))) (ew_ix ixw_any (ew_call D_law_low hr hG (by decide) rfl (aw_cons (ew_var (i := 7) rfl (.inr (.inl rfl))) (aw_cons (ew_ix ixw_any (ew_var (i := 6) rfl (.inl rfl)) ew_int (fun _ _ => rfl)) aw_nil))) ew_int (fun _ _ => rfl)))))
  ssw_nil)))))
  (ssw_one (sw_ret (ew_sortK (N := ["_law_sound", "_law_bottom"]) (fr := ["_law_bottom"]) (js := [7]) TB rfl hmT huT (k := 1) (hr.mono (by decide)) hG rfl m_sorted (nscope_by (by decide +kernel)) rfl rfl rfl (fun _ _ _ _ _ us hl => match us, hl with | [_], _ => rfl) (ew_var (i := 0) rfl (.inl rfl)) (fun A2 s2 H2 f2 c2 hr2 hG2 => have hun2 := hr2.units; have hun9 := hun9_of hr2; (ew_call D_law_key hr2 hG2 (by decide) rfl (aw_cons (ew_var (i := 0) rfl (.inl rfl)) (aw_cons (ew_var (i := 1) rfl (by first | exact .inl rfl | exact .inr (.inl rfl) | exact .inr (.inr rfl))) aw_nil)))) mb_law_sorted)))))
theorem ok_law_cut (F : FunW K mg "_law_cut" (topS 27) ["_law_told_ones", "_law_one", "_law_other"]) (D_law_less : DefW P w K mg base (tabs T0) "_law_less" 1 (sp_law_less)) (D_law_minus : DefW P w K mg base (tabs T0) "_law_minus" 2 (sp_law_minus)) (D_law_sorted : DefW P w K mg base (tabs T0) "_law_sorted" 5 (sp_law_sorted)) (m_int : mg "int" = none) : DefW P w K mg base (tabs T0) "_law_cut" 6 (sp_law_cut) := by
  refine F.ok sc_law_cut mc_law_cut ln_law_cut fun f cdv A outer s H hf0 hcode hr hG ws M Q anti h => ?_
  refine ⟨t_law_cut, ?_, pure_law_cut h⟩
  have hun := hr.units
  have hun9 := hun9_of hr
  exact (ssw_cons (sw_set (i := 3) sc_law_cut.nd rfl (.inl rfl) (ew_lst aw_nil))
  (ssw_cons (sw_for PassesOwn.never rfl (iw_seq (ew_var (i := 0) rfl (.inl rfl))) (gw_tup (n := 5) rfl (gsw_cons (gw_name (i := 4) sc_law_cut.nd rfl (.inl rfl)) (gsw_cons (gw_name (i := 5) sc_law_cut.nd rfl (.inl rfl)) (gsw_cons (gw_name (i := 6) sc_law_cut.nd rfl (.inl rfl)) (gsw_cons (gw_name (i := 7) sc_law_cut.nd rfl (.inl rfl)) (gsw_cons (gw_name (i := 8) sc_law_cut.nd rfl (.inl rfl)) gsw_nil))))))
  (ssw_cons (sw_set (i := 9) sc_law_cut.nd rfl (.inl rfl) (ew_ix ixw_any (ew_lst (aw_cons (ew_var (i := 4) rfl (.inl rfl)) (aw_cons (ew_var (i := 1) rfl (.inl rfl)) aw_nil))) (ew_callTy cw_int rfl m_int (by decide +kernel) (aw_cons (ew_call D_law_less hr hG (by decide) rfl (aw_cons (ew_var (i := 4) rfl (.inl rfl)) (aw_cons (ew_var (i := 1) rfl (.inl rfl)) aw_nil))) aw_nil)) (fun _ _ => rfl)))
  (ssw_cons (sw_set (i := 10) sc_law_cut.nd rfl (.inl rfl) (ew_var (i := 2) rfl (.inl rfl)))
  (ssw_cons (sw_if (WW.tw (ww_and (tw_cmp opw_isnot (ew_var (i := 5) rfl (.inl rfl)) ew_non rfl) (ww_and1 (tw_val (ew_call D_law_less hr hG (by decide) rfl (aw_cons (ew_var (i := 5) rfl (.inl rfl)) (aw_cons (ew_var (i := 2) rfl (.inl rfl)) aw_nil)))))))
  (ssw_one (sw_set (i := 10) sc_law_cut.nd rfl (.inl rfl) (ew_var (i := 5) rfl (.inl rfl))))
  ssw_nil)
  (ssw_one (sw_if (tw_val (ew_call D_law_less hr hG (by decide) rfl (aw_cons (ew_var (i := 9) rfl (.inl rfl)) (aw_cons (ew_var (i := 10) rfl (.inl rfl)) aw_nil))))
  (ssw_one (sw_expr (ew_append (ew_var (i := 3) rfl (.inl rfl)) (aw_cons (ew_tup (aw_cons (ew_call D_law_minus hr hG (by decide) rfl (aw_cons (ew_var (i := 9) rfl (.inl rfl)) (aw_cons (ew_var (i := 1) rfl (.inl rfl)) aw_nil))) (aw_cons (ew_call D_law_minus hr hG (by decide) rfl (aw_cons (ew_var (i := 10) rfl (.inl rfl)) (aw_cons (ew_var (i := 1) rfl (.inl rfl)) aw_nil))) (aw_cons (ew_var (i := 6) rfl (.inl rfl)) (aw_cons (ew_var (i := 7) rfl (.inl rfl)) (aw_cons (ew_var (i := 8) rfl (.inl rfl)) aw_nil)))))) aw_nil))))
  ssw_nil))))))
  (ssw_one (sw_ret (ew_call D_law_sorted hr hG (by decide) rfl (aw_cons (ew_var (i := 3) rfl (.inl rfl)) aw_nil))))))
theorem ok_law_sounds (F : FunW K mg "_law_sounds" (topS 28) ["_law_hand_here"]) (D_law_length : DefW P w K mg base (tabs T0) "_law_length" 2 (sp_law_length)) (D_law_names : DefW P w K mg base (tabs T0) "_law_names" 2 (sp_law_names)) (D_law_pitches : DefW P w K mg base (tabs T0) "_law_pitches" 2 (sp_law_pitches)) (D_law_place : DefW P w K mg base (tabs T0) "_law_place" 2 (sp_law_place)) (D_law_plus : DefW P w K mg base (tabs T0) "_law_plus" 2 (sp_law_plus)) (D_law_sorted : DefW P w K mg base (tabs T0) "_law_sorted" 5 (sp_law_sorted)) (D_law_take : DefW P w K mg base (tabs T0) "_law_take" 1 (sp_law_take)) (m_int : mg "int" = none) (m_range : mg "range" = none) : DefW P w K mg base (tabs T0) "_law_sounds" 6 (sp_law_sounds) := by
  refine F.ok sc_law_sounds mc_law_sounds ln_law_sounds fun f cdv A outer s H hf0 hcode hr hG ws M Q anti h => ?_
  refine ⟨t_law_sounds, ?_, pure_law_sounds h⟩
  have hun := hr.units
  have hun9 := hun9_of hr
  exact (ssw_cons (sw_set (i := 1) sc_law_sounds.nd rfl (.inl rfl) (ew_op opw_addA (ew_op opw_addA ew_int (ew_call D_law_take hr hG (by decide) rfl (aw_cons (ew_var (i := 0) rfl (.inl rfl)) (aw_cons ew_int aw_nil)))) (ew_op (opw_mul.or opw_mulS) ew_int (ew_callTy cw_int rfl m_int (by decide +kernel) (aw_cons (ew_cmp (opw_eq hun) (ew_call D_law_take hr hG (by decide) rfl (aw_cons (ew_var (i := 0) rfl (.inl rfl)) (aw_cons ew_int aw_nil))) ew_int rfl) aw_nil)))))
  (ssw_cons (sw_set (i := 2) sc_law_sounds.nd rfl (.inl rfl) (ew_call D_law_names hr hG (by decide) rfl (aw_cons (ew_var (i := 0) rfl (.inl rfl)) (aw_cons (ew_op opw_addA (ew_op opw_addA ew_int (ew_op opw_div (ew_op opw_sub (ew_var (i := 1) rfl (.inl rfl)) ew_int) ew_int)) (ew_call D_law_take hr hG (by decide) rfl (aw_cons (ew_var (i := 0) rfl (.inl rfl)) (aw_cons ew_int aw_nil)))) aw_nil))))
  (ssw_cons (sw_set (i := 3) sc_law_sounds.nd rfl (.inl rfl) (ew_lst aw_nil))
  (ssw_cons (sw_for PassesOwn.never rfl (iw_rng1 rfl m_range (aw_cons (ew_var (i := 1) rfl (.inl rfl)) aw_nil)) (gw_name (i := 4) sc_law_sounds.nd rfl (.inl rfl))
  (ssw_cons (sw_set (i := 5) sc_law_sounds.nd rfl (.inl rfl) (ew_call D_law_place hr hG (by decide) rfl (aw_cons (ew_var (i := 0) rfl (.inl rfl)) aw_nil)))
  (ssw_one (sw_for PassesOwn.never rfl (iw_rng1 rfl m_range (aw_cons (ew_call D_law_take hr hG (by decide) rfl (aw_cons (ew_var (i := 0) rfl (.inl rfl)) (aw_cons ew_int aw_nil))) aw_nil)) (gw_name (i := 6) sc_law_sounds.nd rfl (.inl rfl))
  (ssw_cons (sw_if (tw_cmp (opw_eq hun) (ew_call D_law_take hr hG (by decide) rfl (aw_cons (ew_var (i := 0) rfl (.inl rfl)) (aw_cons ew_int aw_nil))) ew_int rfl)
  (ssw_one (sw_set (i := 5) sc_law_sounds.nd rfl (.inl rfl) (ew_call D_law_plus hr hG (by decide) rfl (aw_cons (ew_var (i := 5) rfl (.inl rfl)) (aw_cons (ew_call D_law_length hr hG (by decide) rfl (aw_cons (ew_var (i := 0) rfl (.inl rfl)) aw_nil)) aw_nil)))))
  ssw_nil)
  (ssw_cons (sw_set (i := 7) sc_law_sounds.nd rfl (.inl rfl) (ew_call D_law_plus hr hG (by decide) rfl (aw_cons (ew_var (i := 5) rfl (.inl rfl)) (aw_cons (ew_call D_law_length hr hG (by decide) rfl (aw_cons (ew_var (i := 0) rfl (.inl rfl)) aw_nil)) aw_nil))))
  (ssw_cons (sw_set (i := 8) sc_law_sounds.nd rfl (.inl rfl) (ew_ix ixw_any (ew_lst (aw_cons (ew_var (i := 7) rfl (.inl rfl)) (aw_cons ew_non aw_nil))) (ew_callTy cw_int rfl m_int (by decide +kernel) (aw_cons (ew_cmp (opw_eq hun) (ew_call D_law_take hr hG (by decide) rfl (aw_cons (ew_var (i := 0) rfl (.inl rfl)) (aw_cons ew_int aw_nil))) ew_int rfl) aw_nil)) (fun _ _ => rfl)))
  (ssw_cons (sw_expr (ew_append (ew_var (i := 3) rfl (.inl rfl)) (aw_cons (ew_tup (aw_cons (ew_var (i := 5) rfl (.inl rfl)) (aw_cons (ew_var (i := 8) rfl (.inl rfl)) (aw_cons (ew_ix ixw_any (ew_var (i := 2) rfl (.inl rfl)) (ew_op opw_div (ew_var (i := 4) rfl (.inl rfl)) ew_int) (fun _ _ => rfl)) (aw_cons (ew_op opw_mod (ew_var (i := 4) rfl (.inl rfl)) ew_int) (aw_cons (ew_call D_law_pitches hr hG (by decide) rfl (aw_cons (ew_var (i := 0) rfl (.inl rfl)) aw_nil)) aw_nil)))))) aw_nil)))
  (ssw_cons (sw_set (i := 5) sc_law_sounds.nd rfl (.inl rfl) (ew_var (i := 7) rfl (.inl rfl)))
  (ssw_one (sw_if (tw_cmp opw_is (ew_var (i := 8) rfl (.inl rfl)) ew_non rfl)
  (ssw_one sw_break)
  ssw_nil)))))))))))
  (ssw_one (sw_ret (ew_call D_law_sorted hr hG (by decide) rfl (aw_cons (ew_var (i := 3) rfl (.inl rfl)) aw_nil))))))))
theorem ok_law_time (F : FunW K mg "_law_time" (topS 29) ["_law_hand_here", "_law_told_ones"]) (D_law_place : DefW P w K mg base (tabs T0) "_law_place" 2 (sp_law_place)) (D_law_take : DefW P w K mg base (tabs T0) "_law_take" 1 (sp_law_take)) (m_int : mg "int" = none) (m_len : mg "len" = none) : DefW P w K mg base (tabs T0) "_law_time" 3 (sp_law_time) := by
  refine F.ok sc_law_time mc_law_time ln_law_time fun f cdv A outer s H hf0 hcode hr hG ws M Q anti h => ?_
  refine ⟨t_law_time, ?_, pure_law_time h⟩
  have hun := hr.units
  have hun9 := hun9_of hr
  exact (ssw_cons (sw_if (WW.tw (ww_or (tw_cmp (opw_eq hun) (ew_callB cw_len rfl m_len (by decide +kernel) (aw_cons (ew_var (i := 1) rfl (.inl rfl)) aw_nil)) ew_int rfl) (ww_or1 (tw_cmp (opw_eq hun) (ew_call D_law_take hr hG (by decide) rfl (aw_cons (ew_var (i := 0) rfl (.inl rfl)) (aw_cons ew_int aw_nil))) ew_int rfl))))
  (ssw_one (sw_ret (ew_call D_law_place hr hG (by decide) rfl (aw_cons (ew_var (i := 0) rfl (.inl rfl)) aw_nil))))
  ssw_nil)
  (ssw_cons (sw_asg (ew_slice slw_any (ew_ix ixw_any (ew_var (i := 1) rfl (.inl rfl)) (ew_call D_law_take hr hG (by decide) rfl (aw_cons (ew_var (i := 0) rfl (.inl rfl)) (aw_cons (ew_callB cw_len rfl m_len (by decide +kernel) (aw_cons (ew_var (i := 1) rfl (.inl rfl)) aw_nil)) aw_nil))) (fun _ _ => rfl)) ow_no (ow_some ew_int)) (gw_tup (n := 2) rfl (gsw_cons (gw_name (i := 2) sc_law_time.nd rfl (.inl rfl)) (gsw_cons (gw_name (i := 3) sc_law_time.nd rfl (.inl rfl)) gsw_nil))))
  (ssw_one (sw_ret (ew_ix ixw_any (ew_lst (aw_cons (ew_var (i := 2) rfl (.inl rfl)) (aw_cons (ew_var (i := 2) rfl (.inl rfl)) (aw_cons (ew_var (i := 2) rfl (.inl rfl)) (aw_cons (ew_var (i := 3) rfl (.inl rfl)) aw_nil))))) (ew_op (opw_mul.or opw_mulS) (ew_op (opw_mul.or opw_mulS) (ew_call D_law_take hr hG (by decide) rfl (aw_cons (ew_var (i := 0) rfl (.inl rfl)) (aw_cons ew_int aw_nil))) ew_int) (ew_callTy cw_int rfl m_int (by decide +kernel) (aw_cons (ew_cmp opw_isnot (ew_var (i := 3) rfl (.inl rfl)) ew_non rfl) aw_nil))) (fun _ _ => rfl))))))
theorem ok_law {f0 : Addr} {fd0 : FuncData} (FF : L2.Fun K "law" "law" (topS 30) f0 fd0) (D_law_cut : DefW P w K mg base (tabs T0) "_law_cut" 6 (sp_law_cut)) (D_law_hand : DefW P w K mg base (tabs T0) "_law_hand" 1 (sp_law_hand)) (D_law_length : DefW P w K mg base (tabs T0) "_law_length" 2 (sp_law_length)) (D_law_less : DefW P w K mg base (tabs T0) "_law_less" 1 (sp_law_less)) (D_law_plus : DefW P w K mg base (tabs T0) "_law_plus" 2 (sp_law_plus)) (D_law_sounds : DefW P w K mg base (tabs T0) "_law_sounds" 6 (sp_law_sounds)) (D_law_time : DefW P w K mg base (tabs T0) "_law_time" 3 (sp_law_time)) (D_stretch : DefW P w K mg base (tabs T0) "stretch" 8 (sp_stretch)) (m_isinstance : mg "isinstance" = none) (m_len : mg "len" = none) (m_list : mg "list" = none) (m_max : mg "max" = none) (m_min : mg "min" = none) (m_range : mg "range" = none) (m_repr : mg "repr" = none) : FnW P w K mg base (tabs T0) 9 f0 fd0 ["_law_script"] sp_law := by
  refine Dw.Fun.okW FF sc_law mc_law ln_law fun cdv A outer s H hcode hr hG ws M Q anti h => ?_
  refine ⟨t_law, ?_, pure_law h⟩
  have hun := hr.units
  have hun9 := hun9_of hr
  exact (ssw_cons (sw_for PassesOwn.never rfl (iw_rng1 rfl m_range (aw_cons (ew_callB (cw_max2 rfl) rfl m_max (by decide +kernel) (aw_cons ew_int (aw_cons (ew_callB (cw_min2 rfl) rfl m_min (by decide +kernel) (aw_cons (ew_callB cw_len rfl m_len (by decide +kernel) (aw_cons (ew_var (i := 0) rfl (.inl rfl)) aw_nil)) (aw_cons ew_int aw_nil))) aw_nil))) aw_nil)) (gw_name (i := 1) sc_law.nd rfl (.inl rfl))
  (ssw_cons (sw_set (i := 2) sc_law.nd rfl (.inl rfl) (ew_call D_law_hand hr hG (by decide) rfl (aw_cons (ew_var (i := 0) rfl (.inl rfl)) (aw_cons (ew_var (i := 1) rfl (.inl rfl)) aw_nil))))
  (ssw_cons (sw_set (i := 3) sc_law.nd rfl (.inl rfl) (ew_call D_law_sounds hr hG (by decide) rfl (aw_cons (ew_var (i := 2) rfl (.inl rfl)) aw_nil)))
  (ssw_cons (sw_par (i := 4) (j := 5) rfl sc_law.nd rfl rfl (by decide) rfl rfl (aw_cons (ew_call D_law_time hr hG (by decide) rfl (aw_cons (ew_var (i := 2) rfl (.inl rfl)) (aw_cons (ew_var (i := 3) rfl (.inl rfl)) aw_nil))) (aw_cons (ew_call D_law_time hr hG (by decide) rfl (aw_cons (ew_var (i := 2) rfl (.inl rfl)) (aw_cons (ew_var (i := 3) rfl (.inl rfl)) aw_nil))) aw_nil)) rfl)
  (ssw_cons (sw_if (tw_not (tw_val (ew_call D_law_less hr hG (by decide) rfl (aw_cons (ew_var (i := 4) rfl (.inl rfl)) (aw_cons (ew_var (i := 5) rfl (.inl rfl)) aw_nil)))))
  (ssw_one (sw_par (i := 4) (j := 5) rfl sc_law.nd rfl rfl (by decide) rfl rfl (aw_cons (ew_var (i := 5) rfl (.inl rfl)) (aw_cons (ew_call D_law_plus hr hG (by decide) rfl (aw_cons (ew_var (i := 4) rfl (.inl rfl)) (aw_cons (ew_call D_law_length hr hG (by decide) rfl (aw_cons (ew_var (i := 2) rfl (.inl rfl)) aw_nil)) aw_nil))) aw_nil)) rfl))
  ssw_nil)
  (ssw_cons (sw_set (i := 6) sc_law.nd rfl (.inl rfl) (ew_callTy cw_listOf rfl m_list (by decide +kernel) (aw_cons (ew_var (i := 3) rfl (.inl rfl)) aw_nil)))
  (ssw_cons (sw_set (i := 7) sc_law.nd rfl (.inl rfl) (ew_call D_law_cut hr hG (by decide) rfl (aw_cons (ew_var (i := 3) rfl (.inl rfl)) (aw_cons (ew_var (i := 4) rfl (.inl rfl)) (aw_cons (ew_var (i := 5) rfl (.inl rfl)) aw_nil)))))
  (ssw_cons (sw_set (i := 8) sc_law.nd rfl (.inl rfl) (ew_call D_stretch hr hG (by decide) rfl (aw_cons (ew_var (i := 6) rfl (.inl rfl)) (aw_cons (ew_var (i := 4) rfl (.inl rfl)) (aw_cons (ew_var (i := 5) rfl (.inl rfl)) aw_nil)))))
  (ssw_cons (sw_if (WW.tw (ww_or (tw_not (tw_val (ew_isL rfl m_isinstance rfl m_list (ew_var (i := 8) rfl (.inl rfl))))) (ww_or (tw_cmp (opw_neS.or (opw_ne hun)) (ew_callB (cw_repr hG hun) rfl m_repr (by decide +kernel) (aw_cons (ew_var (i := 8) rfl (.inl rfl)) aw_nil)) (ew_callB (cw_repr hG hun) rfl m_repr (by decide +kernel) (aw_cons (ew_var (i := 7) rfl (.inl rfl)) aw_nil)) rfl) (ww_or1 (tw_cmp (opw_neS.or (opw_ne hun)) (ew_var (i := 6) rfl (.inl rfl)) (ew_var (i := 3) rfl (.inl rfl)) rfl)))))
  (ssw_one (sw_ret ew_bl))
  ssw_nil)
  (ssw_cons (sw_expr (ew_append (ew_var (i := 8) rfl (.inl rfl)) (aw_cons (ew_tup (aw_cons ew_str aw_nil)) aw_nil)))
  (ssw_one (sw_if (tw_cmp (opw_neS.or (opw_ne hun)) (ew_callB (cw_repr hG hun) rfl m_repr (by decide +kernel) (aw_cons (ew_call D_stretch hr hG (by decide) rfl (aw_cons (ew_var (i := 6) rfl (.inl rfl)) (aw_cons (ew_var (i := 4) rfl (.inl rfl)) (aw_cons (ew_var (i := 5) rfl (.inl rfl)) aw_nil)))) aw_nil)) (ew_callB (cw_repr hG hun) rfl m_repr (by decide +kernel) (aw_cons (ew_var (i := 7) rfl (.inl rfl)) aw_nil)) rfl)
  (ssw_one (sw_ret ew_bl))
  ssw_nil))))))))))))
  (ssw_one (sw_ret ew_bl)))
end
end K61
set_option maxRecDepth 100000
set_option maxHeartbeats 4000000
/-! Ke: the end of a law, for promises by value. -/
namespace Dw
open PySem PySem.Spec PyProof.Rows L2 NdefX LamX
/-- what is tracked when the law starts: its script and the tables of code objects -/
def trk0 (K : PySem.W.Frag) (a : Addr) (lo : Obj) (ns : List Int) (tb : List Addr) : Hp := fun b => if b = a ∧ K.lookup a = none then some (.frz lo (.lst (ns.map V.int))) else if b ∈ tb then some (.tbl #[]) else none
section
variable {K : PySem.W.Frag} {a b : Addr} {lo : Obj} {ns : List Int} {tb : List Addr} {u : HO}
theorem trk0_some (h : trk0 K a lo ns tb b = some u) : (b = a ∧ K.lookup a = none ∧ u = .frz lo (.lst (ns.map V.int))) ∨ (b ∈ tb ∧ u = .tbl #[]) := by
  unfold trk0 at h
  split at h
  · rename_i c; injection h with h; exact .inl ⟨c.1, c.2, h.symm⟩
  · split at h
    · rename_i c; injection h with h; exact .inr ⟨c, h.symm⟩
    · cases h
theorem trk0_tab (h : b ∈ tb) (n : b ≠ a) : trk0 K a lo ns tb b = some (.tbl #[]) := by
  unfold trk0
  rw [if_neg (fun z => n z.1), if_pos h]
theorem trk0_list (h : K.lookup a = none) : trk0 K a lo ns tb a = some (.frz lo (.lst (ns.map V.int))) := by
  unfold trk0
  rw [if_pos ⟨rfl, h⟩]
end
theorem reps_ints {K : PySem.W.Frag} {H : Hp} : ∀ ns : List Int, Reps K H (ns.map V.int) (ns.map W.int)
  | [] => .nil
  | n :: ns => .cons (.int n) (reps_ints ns)
section
variable {P : Program} {w : World} {K : PySem.W.Frag} {mg mb : Str → Option Value} {k : Nat} {fa a : Addr} {cs : List (Addr × Addr)} {fd : FuncData} {x : Str} {sp : Spw} {T0 : List (Addr × Str)} {st : Shared} {vs : List Value} {ns : List Int}
/-- a code object's head, in the part of the heap that is not tracked -/
theorem head_hid {Hq : Hp} {h : Heap} {c p : Addr} (C : PySem.W.CodeHd h c p) (n : ∀ o, h.get? c = some o → (∃ us, o.data = .fields us ∧ us ≠ #[]) → Hq c = none) : PySem.W.CodeHd (hidT h Hq) c p := by
  obtain ⟨ob, us, file, tf, flags, tg, inF, text, tt, q0, q1, q2, q3, q4⟩ := C
  refine ⟨ob, us, file, tf, flags, tg, inF, text, tt, hidT_get q0 (n ob q0 ⟨us, q2, fun z => ?_⟩), q1, q2, q3, q4⟩
  subst z
  simp at q3
theorem dw_end (kin : K.In st.heap) (glo : st.heap.Ns mainGlobals mg) (blt : st.heap.Ns builtinsNs mb) (boot : ∀ y : Str, y ≠ "__name__" → mb y = bootBuiltins y) (lim : st.heap.NoLimit) (still : st.gens = #[])
    (tEmpty : ∀ p ∈ cs, st.heap.get? p.2 = some { cls := .none, data := .fields #[] }) (tOut : ∀ p ∈ cs, K.lookup p.2 = none) (heads : ∀ p ∈ cs, PySem.W.CodeHd st.heap p.1 p.2)
    (bmod : ∃ (m : Addr) (om : Obj), mg "__builtins__" = some (.ref m) ∧ m ≠ builtinsNs ∧ st.heap.get? m = some om ∧ om.cls = .type "module" ∧ om.dict = some builtinsNs ∧ om.data = .plain)
    (script : st.heap.get? a = some { cls := .type "list", data := .seq vs.toArray }) (areI : IntsAre vs ns) (short : ns.length ≤ sizeLine) (room : Room k callerA)
    (names : ∀ p ∈ T0, p.1 ∈ cs.map (·.2))
    (F : ∀ base : Heap, K.In base → base.Ns mainGlobals mg → (∀ p ∈ cs, TabB base mg p.1 p.2) → FnW P w K mg base (tabs T0) k fa fd [x] sp)
    (bind : ∀ (s : Shared) (u : Value), BindsTo s fd ⟨[u], []⟩ [(x, u)])
    (want : ∀ Q : WK, (∀ M', Q (.bl true) M') → sp [.frl (ns.map W.int)] (fun _ => none) Q) :
    codeAny (model P w) callerA (.call (.ref fa) ⟨[.ref a], []⟩) (fun r s2 => r = .ok (.ret (.bool true)) ∧ OldK st.heap s2.heap ∧ s2.os = st.os ∧ AllBare s2.gens) st := by
  have ri := vals_ints areI
  have nl : (ns.map V.int).length ≤ sizeLine := by rw [List.length_map]; exact short
  obtain ⟨tb, etb⟩ : ∃ tb, tb = cs.map (·.2) := ⟨_, rfl⟩
  have inT : ∀ p ∈ cs, p.2 ∈ tb := fun p hp => by rw [etb]; exact List.mem_map.mpr ⟨p, hp, rfl⟩
  have atT : ∀ b, b ∈ tb → st.heap.get? b = some { cls := .none, data := .fields #[] } ∧ K.lookup b = none := fun b hb => by
    rw [etb] at hb
    obtain ⟨p, hp, rfl⟩ := List.mem_map.mp hb
    exact ⟨tEmpty p hp, tOut p hp⟩
  have notT : a ∉ tb := fun z => by
    have q := (atT a z).1
    rw [script] at q
    injection q with q
    injection q with _ _ q
    cases q
  obtain ⟨Hq, eHq⟩ : ∃ Hq, Hq = trk0 K a { cls := .type "list", data := .seq vs.toArray } ns tb := ⟨_, rfl⟩
  have hTab : ∀ b ∈ tb, Hq b = some (.tbl #[]) := fun b hb => by
    rw [eHq]; exact trk0_tab hb fun z => notT (z ▸ hb)
  -- an object of another make is not tracked
  have out : ∀ {b : Addr} {o : Obj}, st.heap.get? b = some o → (∀ us m, o.data ≠ .seq us m) → o.data ≠ .fields #[] → Hq b = none := fun {b o} e n1 n2 => by
    cases q : Hq b with
    | none => rfl
    | some u =>
      rw [eHq] at q
      rcases trk0_some q with ⟨z, _⟩ | ⟨z, _⟩
      · rw [z, script] at e
        injection e with e
        exact (n1 _ _ (by rw [← e])).elim
      · rw [(atT b z).1] at e
        injection e with e
        exact (n2 (by rw [← e])).elim
  have outD : ∀ {b : Addr} {o : Obj} {es : Array DictEntry} {ep : Nat}, st.heap.get? b = some o → o.data = .dict es ep → Hq b = none := fun {b o es ep} e d => out e (fun us m z => by rw [d] at z; cases z) fun z => by rw [d] at z; cases z
  have nsB : ∀ {b : Addr} {m : Str → Option Value}, st.heap.Ns b m → (hidT st.heap Hq).Ns b m := fun {b m} ⟨o, es, ep, e, d, r⟩ => ⟨o, es, ep, hidT_get e (outD e d), d, r⟩
  have kinB : K.In (hidT st.heap Hq) := fun b o e => hidT_get (kin b o e) (by
    cases q : Hq b with
    | none => rfl
    | some u =>
      rw [eHq] at q
      rcases trk0_some q with ⟨z, z2, _⟩ | ⟨z, _⟩
      · rw [z, z2] at e; cases e
      · rw [(atT b z).2] at e; cases e)
  have modB : L2.Mod K mg (hidT st.heap Hq) := ⟨kinB, nsB glo, ⟨mb, nsB blt, boot⟩, let ⟨mc, h1, h2⟩ := lim; ⟨mc, nsB h1, h2⟩⟩
  have tabB : ∀ p ∈ cs, TabB (hidT st.heap Hq) mg p.1 p.2 := fun p hp => by
    refine ⟨head_hid (heads p hp) fun o e ⟨us, d, ne⟩ => out e (fun us' m z => by rw [d] at z; cases z) fun z => ?_, ?_, fun z => ?_⟩
    · rw [d] at z; injection z with z; exact ne z
    · obtain ⟨m, om, c1, c2, c3, c4, c5, c6⟩ := bmod
      refine ⟨m, om, c1, c2, fun z => ?_, fun z => ?_, hidT_get c3 (out c3 (fun us q z => by rw [c6] at z; cases z) fun z => by rw [c6] at z; cases z), c4, c5, c6⟩
      · obtain ⟨o, es, ep, e, d, _⟩ := glo
        rw [z, e] at c3
        injection c3 with c3
        rw [c3, c6] at d; cases d
      · rw [z, tEmpty p hp] at c3
        injection c3 with c3
        rw [← c3] at c6; cases c6
    · obtain ⟨o, es, ep, e, d, _⟩ := glo
      rw [z, tEmpty p hp] at e
      injection e with e
      rw [← e] at d; cases d
  have okq : HOk P w Hq st.heap := fun b u z => by
    rw [eHq] at z
    rcases trk0_some z with ⟨e1, _, e2⟩ | ⟨e1, e2⟩
    · subst e1 e2; exact ⟨script, nl, vs, _, ri, script⟩
    · subst e2; exact (atT b e1).1
  have en : Env0 P w K mg (hidT st.heap Hq) callerA [] st Hq := ⟨rfl, modB, fun b o e => of_hidT e, Nat.le_of_eq (hidT_size _ _), trivial, fun b hb => absurd hb List.not_mem_nil, okq, .of_eq still⟩
  have frz : FrzL K Hq a (ns.map V.int) := by
    cases q : K.lookup a with
    | none => exact .inl ⟨_, by rw [eHq]; exact trk0_list q⟩
    | some o =>
      have e := kin a o q
      rw [script] at e
      injection e with e
      subst e
      exact .inr (.inr ⟨_, vs.toArray, _, q, rfl, rfl, rfl, by rw [List.size_toArray, areI.length]; exact short, by simpa using ri⟩)
  have okM : Ok K (tabs T0) Hq (fun _ => none) := ⟨fun b o z => (by cases z), tabs_iff.mpr fun p hp => TabS.nil (hTab p.1 (by rw [etb]; exact names p hp))⟩
  have wantH : lowRC K (tabs T0) sp [.ref a] Hq (fun v _ => v = .bl true) := ⟨[.frl (ns.map W.int)], fun _ => none, .cons (.frl frz (reps_ints ns)) .nil, okM, want _ fun M' v H' _ r _ => by cases r; rfl⟩
  refine codeAny_mono ((F _ kinB (nsB glo) tabB).ok.go callerA [] st Hq ⟨[.ref a], []⟩ [.ref a] [.ref a] _ room rfl en (bind st (.ref a)) (.cons rfl .nil) wantH) fun r s2 res => ?_
  cases r with
  | error e => exact res.elim
  | ok fl =>
    cases fl with
    | next => exact res.elim
    | brk => exact res.elim
    | cont => exact res.elim
    | ret u =>
      obtain ⟨v, H2, sameOs, bare, un, ok2, rv, q⟩ := res
      have q2 : v = .bl true := q
      subst q2
      obtain rfl : u = Value.bool true := rv
      have stay : ∀ b o, b ∉ tb → st.heap.get? b = some o → s2.heap.get? b = some o := fun b o nb e => by
        cases z : Hq b with
        | none => exact un.keep b o e z (fun y => absurd y List.not_mem_nil) (by simp)
        | some u =>
          have z0 := z
          rw [eHq] at z
          rcases trk0_some z with ⟨_, _, e2⟩ | ⟨e1, _⟩
          · subst e2
            have y1 := (okq b _ z0).1
            have y2 := (ok2 b _ (un.frzs b _ _ z0)).1
            rw [e] at y1
            injection y1 with y1
            rw [y1]; exact y2
          · exact absurd e1 nb
      have more : ∀ p ∈ cs, ∃ us : Array Value, s2.heap.get? p.2 = some { cls := .none, data := .fields us } := fun p hp => by
        obtain ⟨us, z⟩ := un.tbls p.2 #[] (hTab _ (inT p hp))
        exact ⟨_, ok2 p.2 _ z⟩
      refine ⟨rfl, ⟨fun b o e => ?_, fun b o e => ?_⟩, sameOs, bare⟩
      · by_cases hb : b ∈ tb
        · rw [etb] at hb
          obtain ⟨p, hp, rfl⟩ := List.mem_map.mp hb
          obtain ⟨us, z⟩ := more p hp
          rw [tEmpty p hp] at e
          injection e with e
          subst e
          exact .inr (.inl ⟨((heads p hp).tab (tEmpty p hp)).isCodeTable, rfl, #[], us, rfl, by rw [Array.empty_append]; exact z⟩)
        · exact .inl (stay b o hb e)
      · by_cases hb : b ∈ tb
        · rw [etb] at hb
          obtain ⟨p, hp, rfl⟩ := List.mem_map.mp hb
          obtain ⟨us, z⟩ := more p hp
          exact ⟨_, z⟩
        · exact ⟨o, stay b o hb e⟩
end
end Dw
set_option maxRecDepth 100000
set_option maxHeartbeats 0
/-! Kf: the head of k61 by facts, and the row (printed by mkf.py). -/
namespace K61
open PySem PySem.Spec PyProof.Rows Dw
open L2 (FnScope defArgs defScope defBody Room CX0 E0 cxOf)
open NdefX LamX
abbrev dn (i : Nat) (x : Str) : He.DefD := ⟨(x, none), x, x, defArgs (topS i), defBody (topS i), defScope (topS i), [], []⟩
def fn : List He.DefD := [dn 1 "divisor", dn 2 "part", dn 3 "minus", dn 4 "less", dn 5 "common_bottom", dn 7 "ranks", dn 9 "in_order", dn 11 "is_between", dn 12 "cut_out", dn 13 "stretch", dn 15 "_law_hand", dn 16 "_law_take", dn 17 "_law_low", dn 18 "_law_plus", dn 19 "_law_minus", dn 20 "_law_less", dn 21 "_law_length", dn 22 "_law_place", dn 23 "_law_names", dn 24 "_law_pitches", dn 25 "_law_key", dn 26 "_law_sorted", dn 27 "_law_cut", dn 28 "_law_sounds", dn 29 "_law_time", dn 30 "law"]
def fa : List He.Fa := [.glo "divisor", .glo "part", .glo "minus", .glo "less", .glo "common_bottom", .glo "ranks", .glo "in_order", .glo "is_between", .glo "cut_out", .glo "stretch", .glo "_law_hand", .glo "_law_take", .glo "_law_low", .glo "_law_plus", .glo "_law_minus", .glo "_law_less", .glo "_law_length", .glo "_law_place", .glo "_law_names", .glo "_law_pitches", .glo "_law_key", .glo "_law_sorted", .glo "_law_cut", .glo "_law_sounds", .glo "_law_time", .glo "law", .free "abs", .free "int", .free "isinstance", .free "len", .free "list", .free "max", .free "min", .free "range", .free "repr", .free "sorted", .free "tuple"]
def looseN : List Str := ["divisor", "part", "minus", "less", "common_bottom", "ranks", "in_order", "is_between", "cut_out", "stretch", "_law_hand", "_law_take", "_law_low", "_law_plus", "_law_minus", "_law_less", "_law_length", "_law_place", "_law_names", "_law_pitches", "_law_key", "_law_sorted", "_law_cut", "_law_sounds", "_law_time"]
def tf : List He.Defn := [("in_order", none), ("_law_sorted", none)]
def differ (K : PySem.W.Frag) : Bool := decide ((He.cT K ("in_order", none)).2 ≠ (He.cT K ("_law_sorted", none)).2)
abbrev R : PySem.W.OpenRow := PySem.W.OpenLaw.row PySem.Challenge.rw_manyclocks_k61_stretches
abbrev hk : PySem.W.Hook := He.hookX 4 fa fn [] tf differ
def ob (s : PySem.W.SharedT) : He.AlX := He.obsX 4 fa fn [] tf differ (HandSHeadRun.getT s)
theorem ob_eq (s : PySem.W.SharedT) : ob s = hk.obs s.abs := He.obsX_eq (HandSHeadRun.getT_eq s)
theorem run_top (w : World) : HandSHeadRun.RunEq R (PySem.W.view R.prog [30]) hk ob 1200 looseN w := by
  intro os
  kernel_rfl
theorem funw {K : PySem.W.Frag} {h : Heap} {mg : Str → Option Value} (X : K.In h) (G : h.Ns mainGlobals mg) (c : He.SaysD fa fn K) (j : Nat) {i : Nat} {x : Str} {ps : List Str} (hd : fn[j]? = some (dn i x)) (hg : fa[j]? = some (.glo x))
    (hb : ∀ (kV doc pm : Value) (an : Option Addr) (cdv ct : Value) (us : List Value), us.length = ps.length → bindArgs (PySem.W.fnOf x x (defArgs (topS i)) (defBody (topS i)) (defScope (topS i)) .none kV doc pm an cdv ct) ⟨us, []⟩ = pure (ps.zip us)) : FunW K mg x (topS i) ps := by
  obtain ⟨fd, D⟩ := c.def_ j hd
  have m := He.glo_ok X G (c.fact j hg)
  refine ⟨_, fd, ⟨?_, D.kp⟩, m, D.kp, D.bindsN hb⟩
  obtain ⟨oc, od, dV, kV, doc, pm, an, cdv, ct, osl, e, lk, hc, dfl, _⟩ := D.ex
  rcases dfl with ⟨_, rfl⟩ | ⟨z, _⟩
  · exact ⟨oc, od, kV, doc, pm, an, cdv, ct, osl, e, lk, hc⟩
  · exact absurd rfl z
theorem code_of {K : PySem.W.Frag} {h : Heap} {mg : Str → Option Value} (X : K.In h) (G : h.Ns mainGlobals mg) (c : He.SaysD fa fn K) (j : Nat) {i : Nat} {x : Str} (hd : fn[j]? = some (dn i x)) (hg : fa[j]? = some (.glo x)) :
    ∀ f cdv, mg x = some (.ref f) → CodeAt K f cdv → cdv = .ref (He.cT K (x, none)).1 := fun f cdv hm ⟨oc, od, fd, osl, lk, hcd⟩ => by
  have m := He.glo_ok X G (c.fact j hg)
  rw [m] at hm
  injection hm with hm
  injection hm with hm
  subst hm
  obtain ⟨fd2, D⟩ := c.def_ j hd
  obtain ⟨oc2, od2, dV, kV, doc, pm, an, cdv2, ct, osl2, e, lk2, hc, _⟩ := D.ex
  obtain ⟨c0, ec⟩ := He.codeIn_ref hc
  have lk3 : K.lookup (He.ga K x) = some ⟨oc2, od2, .func fd2, osl2⟩ := lk2
  rw [lk] at lk3
  injection lk3 with lk3
  injection lk3 with _ _ lk3 _
  injection lk3 with lk3
  subst lk3
  have e3 : fd.code = .ref c0 := by rw [e]; exact ec
  rw [← hcd, e3]
  congr 1
  exact (He.codeOf_eq (K := K) (p := (x, none)) lk e3).symm
theorem all_ok {P : Program} {w : World} {K : PySem.W.Frag} {h base : Heap} {mg : Str → Option Value} {T0 : List (Addr × Str)} {f0 : Addr} {fd0 : FuncData} (X : K.In h) (G : h.Ns mainGlobals mg) (c : He.SaysD fa fn K) (FF : L2.Fun K "law" "law" (topS 30) f0 fd0)
    (TB_in_order : TabB base mg (He.cT K ("in_order", none)).1 (He.cT K ("in_order", none)).2) (TB_law_sorted : TabB base mg (He.cT K ("_law_sorted", none)).1 (He.cT K ("_law_sorted", none)).2)
    (tm_in_order : ((He.cT K ("in_order", none)).2, lamN "in_order") ∈ T0) (tu_in_order : ∀ p ∈ T0, p.1 = (He.cT K ("in_order", none)).2 → p.2 = lamN "in_order")
    (tm_law_sorted : ((He.cT K ("_law_sorted", none)).2, lamN "_law_sorted") ∈ T0) (tu_law_sorted : ∀ p ∈ T0, p.1 = (He.cT K ("_law_sorted", none)).2 → p.2 = lamN "_law_sorted") :
    FnW P w K mg base (tabs T0) 9 f0 fd0 ["_law_script"] sp_law := by
  have F_divisor : FunW K mg "divisor" (topS 1) ["one", "other"] := funw X G c 0 rfl rfl fun _ _ _ _ _ _ us hl => match us, hl with | [_, _], _ => rfl
  have F_part : FunW K mg "part" (topS 2) ["top", "bottom"] := funw X G c 1 rfl rfl fun _ _ _ _ _ _ us hl => match us, hl with | [_, _], _ => rfl
  have F_minus : FunW K mg "minus" (topS 3) ["one", "other"] := funw X G c 2 rfl rfl fun _ _ _ _ _ _ us hl => match us, hl with | [_, _], _ => rfl
  have F_less : FunW K mg "less" (topS 4) ["one", "other"] := funw X G c 3 rfl rfl fun _ _ _ _ _ _ us hl => match us, hl with | [_, _], _ => rfl
  have F_common_bottom : FunW K mg "common_bottom" (topS 5) ["parts"] := funw X G c 4 rfl rfl fun _ _ _ _ _ _ us hl => match us, hl with | [_], _ => rfl
  have F_ranks : FunW K mg "ranks" (topS 7) ["moments"] := funw X G c 5 rfl rfl fun _ _ _ _ _ _ us hl => match us, hl with | [_], _ => rfl
  have F_in_order : FunW K mg "in_order" (topS 9) ["some"] := funw X G c 6 rfl rfl fun _ _ _ _ _ _ us hl => match us, hl with | [_], _ => rfl
  have F_is_between : FunW K mg "is_between" (topS 11) ["begin", "end", "one", "other"] := funw X G c 7 rfl rfl fun _ _ _ _ _ _ us hl => match us, hl with | [_, _, _, _], _ => rfl
  have F_cut_out : FunW K mg "cut_out" (topS 12) ["sound", "one", "other"] := funw X G c 8 rfl rfl fun _ _ _ _ _ _ us hl => match us, hl with | [_, _, _], _ => rfl
  have F_stretch : FunW K mg "stretch" (topS 13) ["told", "one", "other"] := funw X G c 9 rfl rfl fun _ _ _ _ _ _ us hl => match us, hl with | [_, _, _], _ => rfl
  have F_law_hand : FunW K mg "_law_hand" (topS 15) ["_law_script", "_law_k"] := funw X G c 10 rfl rfl fun _ _ _ _ _ _ us hl => match us, hl with | [_, _], _ => rfl
  have F_law_take : FunW K mg "_law_take" (topS 16) ["_law_hand_here", "_law_many"] := funw X G c 11 rfl rfl fun _ _ _ _ _ _ us hl => match us, hl with | [_, _], _ => rfl
  have F_law_low : FunW K mg "_law_low" (topS 17) ["_law_top", "_law_bottom"] := funw X G c 12 rfl rfl fun _ _ _ _ _ _ us hl => match us, hl with | [_, _], _ => rfl
  have F_law_plus : FunW K mg "_law_plus" (topS 18) ["_law_one", "_law_other"] := funw X G c 13 rfl rfl fun _ _ _ _ _ _ us hl => match us, hl with | [_, _], _ => rfl
  have F_law_minus : FunW K mg "_law_minus" (topS 19) ["_law_one", "_law_other"] := funw X G c 14 rfl rfl fun _ _ _ _ _ _ us hl => match us, hl with | [_, _], _ => rfl
  have F_law_less : FunW K mg "_law_less" (topS 20) ["_law_one", "_law_other"] := funw X G c 15 rfl rfl fun _ _ _ _ _ _ us hl => match us, hl with | [_, _], _ => rfl
  have F_law_length : FunW K mg "_law_length" (topS 21) ["_law_hand_here"] := funw X G c 16 rfl rfl fun _ _ _ _ _ _ us hl => match us, hl with | [_], _ => rfl
  have F_law_place : FunW K mg "_law_place" (topS 22) ["_law_hand_here"] := funw X G c 17 rfl rfl fun _ _ _ _ _ _ us hl => match us, hl with | [_], _ => rfl
  have F_law_names : FunW K mg "_law_names" (topS 23) ["_law_hand_here", "_law_many"] := funw X G c 18 rfl rfl fun _ _ _ _ _ _ us hl => match us, hl with | [_, _], _ => rfl
  have F_law_pitches : FunW K mg "_law_pitches" (topS 24) ["_law_hand_here"] := funw X G c 19 rfl rfl fun _ _ _ _ _ _ us hl => match us, hl with | [_], _ => rfl
  have F_law_key : FunW K mg "_law_key" (topS 25) ["_law_sound", "_law_bottom"] := funw X G c 20 rfl rfl fun _ _ _ _ _ _ us hl => match us, hl with | [_, _], _ => rfl
  have F_law_sorted : FunW K mg "_law_sorted" (topS 26) ["_law_told_ones"] := funw X G c 21 rfl rfl fun _ _ _ _ _ _ us hl => match us, hl with | [_], _ => rfl
  have F_law_cut : FunW K mg "_law_cut" (topS 27) ["_law_told_ones", "_law_one", "_law_other"] := funw X G c 22 rfl rfl fun _ _ _ _ _ _ us hl => match us, hl with | [_, _, _], _ => rfl
  have F_law_sounds : FunW K mg "_law_sounds" (topS 28) ["_law_hand_here"] := funw X G c 23 rfl rfl fun _ _ _ _ _ _ us hl => match us, hl with | [_], _ => rfl
  have F_law_time : FunW K mg "_law_time" (topS 29) ["_law_hand_here", "_law_told_ones"] := funw X G c 24 rfl rfl fun _ _ _ _ _ _ us hl => match us, hl with | [_, _], _ => rfl
  have m_abs : mg "abs" = none := He.free_ok X G (c.fact 26 (f := .free "abs") rfl)
  have m_int : mg "int" = none := He.free_ok X G (c.fact 27 (f := .free "int") rfl)
  have m_isinstance : mg "isinstance" = none := He.free_ok X G (c.fact 28 (f := .free "isinstance") rfl)
  have m_len : mg "len" = none := He.free_ok X G (c.fact 29 (f := .free "len") rfl)
  have m_list : mg "list" = none := He.free_ok X G (c.fact 30 (f := .free "list") rfl)
  have m_max : mg "max" = none := He.free_ok X G (c.fact 31 (f := .free "max") rfl)
  have m_min : mg "min" = none := He.free_ok X G (c.fact 32 (f := .free "min") rfl)
  have m_range : mg "range" = none := He.free_ok X G (c.fact 33 (f := .free "range") rfl)
  have m_repr : mg "repr" = none := He.free_ok X G (c.fact 34 (f := .free "repr") rfl)
  have m_sorted : mg "sorted" = none := He.free_ok X G (c.fact 35 (f := .free "sorted") rfl)
  have m_tuple : mg "tuple" = none := He.free_ok X G (c.fact 36 (f := .free "tuple") rfl)
  have D_divisor := ok_divisor (P := P) (w := w) (base := base) (T0 := T0) F_divisor m_abs
  have D_part := ok_part (P := P) (w := w) (base := base) (T0 := T0) F_part D_divisor
  have D_minus := ok_minus (P := P) (w := w) (base := base) (T0 := T0) F_minus D_part
  have D_less := ok_less (P := P) (w := w) (base := base) (T0 := T0) F_less
  have D_common_bottom := ok_common_bottom (P := P) (w := w) (base := base) (T0 := T0) F_common_bottom D_divisor
  have D_ranks := ok_ranks (P := P) (w := w) (base := base) (T0 := T0) F_ranks D_common_bottom m_list m_max
  have D_in_order := ok_in_order (P := P) (w := w) (base := base) (T0 := T0) F_in_order D_ranks m_sorted TB_in_order (code_of X G c 6 rfl rfl) tm_in_order tu_in_order
  have D_is_between := ok_is_between (P := P) (w := w) (base := base) (T0 := T0) F_is_between D_less
  have D_cut_out := ok_cut_out (P := P) (w := w) (base := base) (T0 := T0) F_cut_out D_less D_minus
  have D_stretch := ok_stretch (P := P) (w := w) (base := base) (T0 := T0) F_stretch D_cut_out D_in_order D_is_between
  have D_law_hand := ok_law_hand (P := P) (w := w) (base := base) (T0 := T0) F_law_hand m_int m_len
  have D_law_take := ok_law_take (P := P) (w := w) (base := base) (T0 := T0) F_law_take
  have D_law_low := ok_law_low (P := P) (w := w) (base := base) (T0 := T0) F_law_low m_abs
  have D_law_plus := ok_law_plus (P := P) (w := w) (base := base) (T0 := T0) F_law_plus D_law_low
  have D_law_minus := ok_law_minus (P := P) (w := w) (base := base) (T0 := T0) F_law_minus D_law_low
  have D_law_less := ok_law_less (P := P) (w := w) (base := base) (T0 := T0) F_law_less
  have D_law_length := ok_law_length (P := P) (w := w) (base := base) (T0 := T0) F_law_length D_law_take
  have D_law_place := ok_law_place (P := P) (w := w) (base := base) (T0 := T0) F_law_place D_law_low D_law_take
  have D_law_names := ok_law_names (P := P) (w := w) (base := base) (T0 := T0) F_law_names D_law_take m_range
  have D_law_pitches := ok_law_pitches (P := P) (w := w) (base := base) (T0 := T0) F_law_pitches D_law_take m_range m_tuple
  have D_law_key := ok_law_key (P := P) (w := w) (base := base) (T0 := T0) F_law_key
  have D_law_sorted := ok_law_sorted (P := P) (w := w) (base := base) (T0 := T0) F_law_sorted D_law_key D_law_low m_sorted TB_law_sorted (code_of X G c 21 rfl rfl) tm_law_sorted tu_law_sorted
  have D_law_cut := ok_law_cut (P := P) (w := w) (base := base) (T0 := T0) F_law_cut D_law_less D_law_minus D_law_sorted m_int
  have D_law_sounds := ok_law_sounds (P := P) (w := w) (base := base) (T0 := T0) F_law_sounds D_law_length D_law_names D_law_pitches D_law_place D_law_plus D_law_sorted D_law_take m_int m_range
  have D_law_time := ok_law_time (P := P) (w := w) (base := base) (T0 := T0) F_law_time D_law_place D_law_take m_int m_len
  exact ok_law (w := w) FF D_law_cut D_law_hand D_law_length D_law_less D_law_plus D_law_sounds D_law_time D_stretch m_isinstance m_len m_list m_max m_min m_range m_repr
end K61
open PySem PySem.W PySem.Calls PyProof.Rows
theorem PySem.Challenge.cw_manyclocks_k61_stretches_holds : PySem.Challenge.rw_manyclocks_k61_stretches.Holds := by
  w_on; o_law
  refine HandSHeadRun.head_any (r := OpenLaw.row PySem.Challenge.rw_manyclocks_k61_stretches) (q := view (OpenLaw.row PySem.Challenge.rw_manyclocks_k61_stretches).prog [30]) (H := K61.hk) (ob := K61.ob) (M := 1200) (loose := K61.looseN)
    (d := HandSHeadRun.topDef (OpenLaw.row PySem.Challenge.rw_manyclocks_k61_stretches).prog 30) (kwd := []) K61.ob_eq
    (by kernel_rfl) (fun s => by kernel_rfl) K61.run_top (by kernel_rfl) (by kernel_rfl) (by kernel_rfl) (by rfl) (by first | assumption | decide +kernel) (by decide +kernel) ⟨rfl, rfl, rfl, rfl, rfl, by decide +kernel⟩ ?hw ?hc
  case hw => w_witness2
  case hc =>
    refine Att.attach_callB (l := PySem.Challenge.rw_manyclocks_k61_stretches) (n := 63) rfl (by kernel_rfl) fun w s₀ s₁ mg mb fa o pm cd doc a vs ns G Y ho hd hcd hmg0 hobj hints hlen hbits hg => ?_
    have hmg : mg ("law" : PySem.Str) = some (.ref fa) := by
      have e : (HandSHeadRun.topDef (OpenLaw.row PySem.Challenge.rw_manyclocks_k61_stretches).prog 30).name = ("law" : PySem.Str) := by kernel_rfl
      rw [← e]
      exact hmg0
    obtain ⟨K, KX, S⟩ := Y
    have c := S.t.d
    obtain ⟨fd, D⟩ := c.def_ 25 (d := K61.dn 30 "law") rfl
    have e := hmg.symm.trans (He.glo_ok KX G.T.g (c.fact 25 (f := .glo "law") rfl))
    injection e with e
    injection e with e
    subst e
    have dif : (He.cT K ("in_order", none)).2 ≠ (He.cT K ("_law_sorted", none)).2 := of_decide_eq_true S.more
    have FF : L2.Fun K "law" "law" (K61.topS 30) (He.ga K "law") fd := by
      refine ⟨?_, D.kp⟩
      obtain ⟨oc, od, dV, kV, dc, pm2, an, cdv, ct, osl, e, lk, hc, dfl, _⟩ := D.ex
      rcases dfl with ⟨_, rfl⟩ | ⟨z, _⟩
      · exact ⟨oc, od, kV, dc, pm2, an, cdv, ct, osl, e, lk, hc⟩
      · exact absurd rfl z
    have hb := L2.FunD.bindsA (ps := ["_law_script"]) D fun _ _ _ _ _ _ us hl => match us, hl with | [_], _ => rfl
    refine Dw.dw_end (K := K) (k := 9) (x := "_law_script") (fd := fd) (sp := K61.sp_law) (cs := [He.cT K ("in_order", none), He.cT K ("_law_sorted", none)]) (T0 := [((He.cT K ("in_order", none)).2, K61.lamN "in_order"), ((He.cT K ("_law_sorted", none)).2, K61.lamN "_law_sorted")])
      KX G.T.g G.T.b G.T.builtins G.T.nolimit hg ?_ ?_ ?_ G.T.bmain hobj hints (Nat.le_trans hlen (by decide)) ⟨rfl, by decide, by decide⟩ ?_ (fun base kb nb tb => ?_) (fun s u => hb s [u] rfl) (fun Q hq => ⟨ns, rfl, hlen, hbits, hq⟩)
    · intro p hp
      rcases List.mem_cons.mp hp with z | z
      · subst z; exact S.empty ("in_order", none) (by decide)
      · rw [List.mem_singleton.mp z]; exact S.empty ("_law_sorted", none) (by decide)
    · intro p hp
      rcases List.mem_cons.mp hp with z | z
      · subst z; exact S.out ("in_order", none) (by decide)
      · rw [List.mem_singleton.mp z]; exact S.out ("_law_sorted", none) (by decide)
    · intro p hp
      rcases List.mem_cons.mp hp with z | z
      · subst z; exact codeHd_of_K KX (S.hd ("in_order", none) (by decide))
      · rw [List.mem_singleton.mp z]; exact codeHd_of_K KX (S.hd ("_law_sorted", none) (by decide))
    · intro p hp
      rcases List.mem_cons.mp hp with z | z
      · subst z; exact List.mem_cons_self
      · rw [List.mem_singleton.mp z]; exact List.mem_cons_of_mem _ List.mem_cons_self
    · refine K61.all_ok KX G.T.g c FF (tb _ List.mem_cons_self) (tb _ (List.mem_cons_of_mem _ List.mem_cons_self)) List.mem_cons_self ?_ (List.mem_cons_of_mem _ List.mem_cons_self) ?_
      · intro p hp hz
        rcases List.mem_cons.mp hp with z | z
        · rw [z]
        · rw [List.mem_singleton.mp z] at hz
          exact absurd hz.symm dif
      · intro p hp hz
        rcases List.mem_cons.mp hp with z | z
        · rw [z] at hz
          exact absurd hz dif
        · rw [List.mem_singleton.mp z]
