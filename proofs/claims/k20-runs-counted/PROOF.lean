import PyProof.Rows.All
import Wide.All
import OpenK.AllK
import Wide.FinOn
import HandS.ForMost
import HandS.ForExc
import HandS.Defaults
import HandS.IsInst
import HandS.CallSlots
import HandS.Wide
import HandS.TupAny
import HandS.TupMul
import HandS.EndBits
import HandS.Head0
import HandS.Head1
import HandS.Head2
import HandS.HeadHook1
import HandS.HeadHook2
import HandS.WordsExc
import HandS.Conv
import HandS.Style
import HandS.TupLe
import HandS.SortRule
import KE.SortData
import KE.DataCmp
import PySem.Challenge.RW_spillhall_k20_runs_counted
set_option Elab.async false
set_option linter.all false
set_option maxRecDepth 100000
/-! The data layer: Python values as trees, frozen objects, owned lists of the slots, handles. -/
namespace DL
open PySem L2

inductive D where
  | non | bl (b : Bool) | int (i : Int) | str (x : Str) | tup (ds : List D) | lst (ds : List D) | frl (ds : List D)
  | dct (ks : List Key) (vs : List D) | raw (v : V) | h (a : Addr)

mutual
inductive Rep (K : PySem.W.Frag) (F : Hp) : V → D → Prop
  | non : Rep K F .non .non
  | bl (b : Bool) : Rep K F (.bl b) (.bl b)
  | int (i : Int) : Rep K F (.int i) (.int i)
  | str (x : Str) : Rep K F (.str x) (.str x)
  | tup {a : Addr} {xs : List V} {ds : List D} : SqT K F a xs → RepA K F xs ds → Rep K F (.ref a) (.tup ds)
  | lst {a : Addr} {xs : List V} {ds : List D} : F a = some (.lst xs) → RepA K F xs ds → Rep K F (.ref a) (.lst ds)
  | frl {a : Addr} {xs : List V} {ds : List D} : SqL K F a xs → RepA K F xs ds → Rep K F (.ref a) (.frl ds)
  | dct {a : Addr} {ks : List Key} {xs : List V} {ds : List D} : F a = some (.dK (ks.zip xs)) → xs.length = ks.length → RepA K F xs ds → Rep K F (.ref a) (.dct ks ds)
  | raw (v : V) : Rep K F v (.raw v)
  | h (a : Addr) : Rep K F (.ref a) (.h a)
inductive RepA (K : PySem.W.Frag) (F : Hp) : List V → List D → Prop
  | nil : RepA K F [] []
  | cons {v : V} {vs : List V} {d : D} {ds : List D} : Rep K F v d → RepA K F vs ds → RepA K F (v :: vs) (d :: ds)
end

section
variable {K : PySem.W.Frag} {F F' H H' : Hp}
theorem same_sqT {a : Addr} {xs : List V} (e : Same F F') (h : SqT K F a xs) : SqT K F' a xs := by
  rcases h with (h | ⟨o, h⟩) | h
  · exact .inl (.inl (e _ _ h))
  · exact .inl (.inr ⟨o, e _ _ h⟩)
  · exact .inr h
mutual
theorem Rep.mono (hs : Same F F') : ∀ {v : V} {d : D}, Rep K F v d → Rep K F' v d
  | _, _, .non => .non
  | _, _, .bl b => .bl b
  | _, _, .int i => .int i
  | _, _, .str x => .str x
  | _, _, .tup h r => .tup (same_sqT hs h) (RepA.mono hs r)
  | _, _, .lst h r => .lst (hs _ _ h) (RepA.mono hs r)
  | _, _, .frl h r => .frl (hs.seq h) (RepA.mono hs r)
  | _, _, .dct h l r => .dct (hs _ _ h) l (RepA.mono hs r)
  | _, _, .raw v => .raw v
  | _, _, .h a => .h a
theorem RepA.mono (hs : Same F F') : ∀ {vs : List V} {ds : List D}, RepA K F vs ds → RepA K F' vs ds
  | _, _, .nil => .nil
  | _, _, .cons r t => .cons (Rep.mono hs r) (RepA.mono hs t)
end
theorem RepA.length : ∀ {vs : List V} {ds : List D}, RepA K F vs ds → vs.length = ds.length
  | _, _, .nil => rfl
  | _, _, .cons _ t => congrArg Nat.succ (RepA.length t)
theorem RepA.append : ∀ {xs ys : List V} {ds es : List D}, RepA K F xs ds → RepA K F ys es → RepA K F (xs ++ ys) (ds ++ es)
  | _, _, _, _, .nil, s => s
  | _, _, _, _, .cons r t, s => .cons r (RepA.append t s)
theorem RepA.get : ∀ {xs : List V} {ds : List D} {i : Nat} {x : V}, RepA K F xs ds → xs[i]? = some x → ∃ d, ds[i]? = some d ∧ Rep K F x d
  | _, _, _, _, .nil, e => by simp at e
  | _, _, 0, _, .cons r _, e => by simp at e; subst e; exact ⟨_, rfl, r⟩
  | _, _, i + 1, x, .cons _ t, e => by
    obtain ⟨u, h1, h2⟩ := RepA.get (i := i) (x := x) t (by simpa using e)
    exact ⟨u, by simpa using h1, h2⟩
theorem RepA.getD : ∀ {xs : List V} {ds : List D} {i : Nat} {d : D}, RepA K F xs ds → ds[i]? = some d → ∃ x, xs[i]? = some x ∧ Rep K F x d
  | _, _, _, _, .nil, e => by simp at e
  | _, _, 0, _, .cons r _, e => by simp at e; subst e; exact ⟨_, rfl, r⟩
  | _, _, i + 1, x, .cons _ t, e => by
    obtain ⟨u, h1, h2⟩ := RepA.getD (i := i) (d := x) t (by simpa using e)
    exact ⟨u, by simpa using h1, h2⟩
theorem RepA.set {x : V} {d : D} (r : Rep K F x d) : ∀ {xs : List V} {ds : List D} (i : Nat), RepA K F xs ds → RepA K F (xs.set i x) (ds.set i d)
  | _, _, _, .nil => .nil
  | _, _, 0, .cons _ t => .cons r t
  | _, _, i + 1, .cons q t => .cons q (RepA.set r i t)
theorem RepA.take : ∀ {xs : List V} {ds : List D} (n : Nat), RepA K F xs ds → RepA K F (xs.take n) (ds.take n)
  | _, _, 0, _ => .nil
  | _, _, _ + 1, .nil => .nil
  | _, _, n + 1, .cons r t => .cons r (RepA.take n t)
theorem RepA.drop : ∀ {xs : List V} {ds : List D} (n : Nat), RepA K F xs ds → RepA K F (xs.drop n) (ds.drop n)
  | _, _, 0, r => r
  | _, _, _ + 1, .nil => .nil
  | _, _, n + 1, .cons _ t => RepA.drop n t
theorem RepA.eraseIdx : ∀ {xs : List V} {ds : List D} (n : Nat), RepA K F xs ds → RepA K F (xs.eraseIdx n) (ds.eraseIdx n)
  | _, _, 0, .cons _ t => t
  | _, _, _, .nil => .nil
  | _, _, n + 1, .cons r t => .cons r (RepA.eraseIdx n t)
theorem RepA.reverse : ∀ {xs : List V} {ds : List D}, RepA K F xs ds → RepA K F xs.reverse ds.reverse
  | _, _, .nil => .nil
  | _, _, .cons r t => by
    simp only [List.reverse_cons]
    exact (RepA.reverse t).append (.cons r .nil)
theorem RepA.repl : ∀ (n : Nat) {x : V} {d : D}, Rep K F x d → RepA K F (List.replicate n x) (List.replicate n d)
  | 0, _, _, _ => .nil
  | n + 1, _, _, r => .cons r (RepA.repl n r)
theorem RepA.flat : ∀ (n : Nat) {xs : List V} {ds : List D}, RepA K F xs ds → RepA K F (List.replicate n xs).flatten (List.replicate n ds).flatten
  | 0, _, _, _ => .nil
  | n + 1, _, _, r => by
    simp only [List.replicate_succ, List.flatten_cons]
    exact r.append (RepA.flat n r)
/-- what is told of ints -/
theorem RepA.ints : ∀ {xs : List V} {ns : List Int}, RepA K F xs (ns.map D.int) → xs = ns.map V.int
  | [], [], _ => rfl
  | [], _ :: _, h => nomatch h
  | _ :: _, [], h => nomatch h
  | x :: xs, n :: ns, h => by
    cases h with
    | cons r t =>
      cases r
      rw [RepA.ints t]
      rfl
theorem repA_ints : ∀ (ns : List Int), RepA K F (ns.map V.int) (ns.map D.int)
  | [] => .nil
  | n :: ns => .cons (.int n) (repA_ints ns)
end

/-- what stands in a slot, or comes of an expression: a value (frozen), a fresh list of one's own, a list that is lent -/
inductive RV where
  | v (d : D) | o (ds : List D) | b (i : Nat)
/-- what a handle bears -/
inductive Ob where
  | lst (ds : List D) | lstP (P : List D → Prop)
abbrev Om := Addr → Option Ob
abbrev Env := List (Option RV)
/-- an exception: its class, its fields (none: without __init__) -/
structure Exn where
  cls : Addr
  fs : Option (List (Str × D))
abbrev DX := Exn → Env → Om → Prop
abbrev WE := DX → Env → Om → (RV → Env → Om → Prop) → Prop
abbrev WA := DX → Env → Om → (List RV → Env → Om → Prop) → Prop
abbrev WT := DX → Env → Om → (Bool → Env → Om → Prop) → Prop
abbrev WI := DX → Env → Om → (List D → Env → Om → Prop) → Prop
structure DEnds where
  nx : Env → Om → Prop
  rt : RV → Om → Prop
  bk : Env → Om → Prop := fun _ _ => False
  ct : Env → Om → Prop := fun _ _ => False
  xq : DX := fun _ _ _ => False
abbrev WS := DEnds → Env → Om → Prop
abbrev DF := List D → Om → (RV → Om → Prop) → (Exn → Om → Prop) → Prop

def ObOk (K : PySem.W.Frag) (F : Hp) : Option HO → Ob → Prop
  | some (.lst xs), .lst ds => RepA K F xs ds
  | some (.lst xs), .lstP P => ∃ ds, P ds ∧ RepA K F xs ds
  | _, _ => False
theorem ObOk.mono {K : PySem.W.Frag} {F F' : Hp} (hs : Same F F') : ∀ {o : Option HO} {ob : Ob}, ObOk K F o ob → ObOk K F' o ob := fun {o ob} h => by
  match o, ob with
  | some (.lst xs), .lst ds => exact RepA.mono hs (show RepA K F xs ds from h)
  | some (.lst xs), .lstP P =>
    obtain ⟨ds, p, r⟩ := (show ∃ ds, P ds ∧ RepA K F xs ds from h)
    exact ⟨ds, p, r.mono hs⟩
  | none, .lst _ => exact h.elim
  | none, .lstP _ => exact h.elim
  | some (.tup _), .lst _ => exact h.elim
  | some (.tup _), .lstP _ => exact h.elim
  | some (.dK _), .lst _ => exact h.elim
  | some (.dK _), .lstP _ => exact h.elim
  | some (.dT _), .lst _ => exact h.elim
  | some (.dT _), .lstP _ => exact h.elim
  | some (.set _ _), .lst _ => exact h.elim
  | some (.set _ _), .lstP _ => exact h.elim
  | some (.ins _ _ _), .lst _ => exact h.elim
  | some (.ins _ _ _), .lstP _ => exact h.elim
  | some (.own _), .lst _ => exact h.elim
  | some (.own _), .lstP _ => exact h.elim
  | some (.xd _), .lst _ => exact h.elim
  | some (.xd _), .lstP _ => exact h.elim
  | some (.met _ _), .lst _ => exact h.elim
  | some (.met _ _), .lstP _ => exact h.elim
  | some (.rng _ _), .lst _ => exact h.elim
  | some (.rng _ _), .lstP _ => exact h.elim
  | some (.frz _ _), .lst _ => exact h.elim
  | some (.frz _ _), .lstP _ => exact h.elim
  | some (.tbl _), .lst _ => exact h.elim
  | some (.tbl _), .lstP _ => exact h.elim
  | some (.ext _), .lst _ => exact h.elim
  | some (.ext _), .lstP _ => exact h.elim
theorem ObOk.some {K : PySem.W.Frag} {F : Hp} {o : Option HO} {ob : Ob} (h : ObOk K F o ob) : ∃ u, o = Option.some u := by
  cases o with
  | none => cases ob <;> exact h.elim
  | some u => exact ⟨u, rfl⟩
theorem ObOk.lst {K : PySem.W.Frag} {F : Hp} {o : Option HO} {ds : List D} (h : ObOk K F o (.lst ds)) : ∃ xs, o = Option.some (.lst xs) ∧ RepA K F xs ds := by
  obtain ⟨u, rfl⟩ := h.some
  cases u with
  | lst xs => exact ⟨xs, rfl, h⟩
  | _ => exact h.elim
theorem ObOk.lstP {K : PySem.W.Frag} {F : Hp} {o : Option HO} {P : List D → Prop} (h : ObOk K F o (.lstP P)) : ∃ xs ds, o = Option.some (.lst xs) ∧ P ds ∧ RepA K F xs ds := by
  obtain ⟨u, rfl⟩ := h.some
  cases u with
  | lst xs =>
    obtain ⟨ds, p, r⟩ := (show ∃ ds, P ds ∧ RepA K F xs ds from h)
    exact ⟨xs, ds, rfl, p, r⟩
  | _ => exact h.elim

/-- the state at a def's entry -/
structure Base where
  F : Hp
  om : Om
  H : Hp
structure Ext (B : Base) (F : Hp) (om : Om) (H : Hp) : Prop where
  f : Same B.F F
  new : ∀ b o, F b = some o → B.F b = none → B.H b = none
  keep : ∀ b o, B.H b = some o → B.om b = none → H b = some o
  dom : ∀ b, H b = none → B.H b = none
  ob : ∀ b o, om b = some o → B.om b = none → B.H b = none
  wf : ∀ b, B.H b = none → B.om b = none
structure RelH (K : PySem.W.Frag) (F : Hp) (om : Om) (H : Hp) : Prop where
  sub : Same F H
  obj : ∀ a ob, om a = some ob → F a = none ∧ ObOk K F (H a) ob
def Own (K : PySem.W.Frag) (B : Base) (F : Hp) (om : Om) (H : Hp) (a : Addr) (ds : List D) : Prop :=
  F a = none ∧ om a = none ∧ B.H a = none ∧ ∃ xs, H a = some (.lst xs) ∧ RepA K F xs ds
def Slot (K : PySem.W.Frag) (B : Base) (F : Hp) (om : Om) (H : Hp) (x : V) : RV → Prop
  | .v d => Rep K F x d
  | .o ds => ∃ a, x = .ref a ∧ Own K B F om H a ds
  | .b _ => False
structure Rel (K : PySem.W.Frag) (B : Base) (F : Hp) (om : Om) (H : Hp) (st : St) (r : Env) : Prop where
  rh : RelH K F om H
  ext : Ext B F om H
  len : r.length = st.length
  slot : ∀ (i : Nat) (x : RV), r[i]? = some (some x) → ∃ y, st[i]? = some (some y) ∧ Slot K B F om H y x
  dis : ∀ (i j : Nat) (a : Addr) (ds es : List D), r[i]? = some (some (.o ds)) → r[j]? = some (some (.o es)) → st[i]? = some (some (.ref a)) → st[j]? = some (some (.ref a)) → i = j
/-- what an expression hands back -/
def Res (K : PySem.W.Frag) (B : Base) (F : Hp) (om : Om) (H : Hp) (st : St) (r : Env) (x : V) : RV → Prop
  | .v d => Rep K F x d
  | .o ds => ∃ a, x = .ref a ∧ Own K B F om H a ds ∧ ∀ (j : Nat) (es : List D), r[j]? = some (some (.o es)) → st[j]? ≠ some (some (.ref a))
  | .b i => st[i]? = some (some x)
def ExOk (K : PySem.W.Frag) (F : Hp) (cls : Value) (d : Option Addr) (ex : Exn) : Prop :=
  cls = .ref ex.cls ∧ match ex.fs with
    | none => d = none
    | some fs => ∃ a xs, d = some a ∧ F a = some (.xd ((fs.map (·.1)).zip xs)) ∧ RepA K F xs (fs.map (·.2))
def XOk (K : PySem.W.Frag) (B : Base) (W : WX) (xq : DX) : Prop :=
  ∀ ex r om F H st cls d, Rel K B F om H st r → ExOk K F cls d ex → xq ex r om → W cls d st H
/-- slots stay assigned -/
def KeepE (_ _ : Env) : Prop := True
theorem KeepE.refl (r : Env) : KeepE r r := trivial
theorem KeepE.trans {r r1 r2 : Env} (a : KeepE r r1) (b : KeepE r1 r2) : KeepE r r2 := trivial

def SE (K : PySem.W.Frag) (W : WX) (t : TE) (w : WE) : Prop := ∀ (B : Base) (F : Hp) (om : Om) (H : Hp) (st : St) (r : Env) (xq : DX) (k : RV → Env → Om → Prop) (Q : VK),
  Rel K B F om H st r → XOk K B W xq →
  (∀ x r' om' F' H' y, Rel K B F' om' H' st r' → Same F F' → KeepE r r' → Res K B F' om' H' st r' y x → k x r' om' → Q y H') → w xq r om k → t st H Q
def ST (K : PySem.W.Frag) (W : WX) (t : TT) (w : WT) : Prop := ∀ (B : Base) (F : Hp) (om : Om) (H : Hp) (st : St) (r : Env) (xq : DX) (k : Bool → Env → Om → Prop) (Q : Bool → Hp → Prop),
  Rel K B F om H st r → XOk K B W xq →
  (∀ b r' om' F' H', Rel K B F' om' H' st r' → Same F F' → KeepE r r' → k b r' om' → Q b H') → w xq r om k → t st H Q
/-- arguments: frozen, or lent -/
def ResA (K : PySem.W.Frag) (F : Hp) (st : St) (r : Env) : List V → List RV → Prop
  | [], [] => True
  | y :: ys, .v d :: xs => Rep K F y d ∧ ResA K F st r ys xs
  | y :: ys, .b i :: xs => st[i]? = some (some y) ∧ ResA K F st r ys xs
  | _, _ => False
def SA (K : PySem.W.Frag) (W : WX) (t : TA) (w : WA) : Prop := ∀ (B : Base) (F : Hp) (om : Om) (H : Hp) (st : St) (r : Env) (xq : DX) (k : List RV → Env → Om → Prop) (Q : List V → Hp → Prop),
  Rel K B F om H st r → XOk K B W xq →
  (∀ xs r' om' F' H' ys, Rel K B F' om' H' st r' → Same F F' → KeepE r r' → ResA K F' st r' ys xs → k xs r' om' → Q ys H') → w xq r om k → t st H Q
structure EndsOk (K : PySem.W.Frag) (B : Base) (D : Ends) (e : DEnds) : Prop where
  nx : ∀ r om F H st, Rel K B F om H st r → e.nx r om → D.nx st H
  rt : ∀ x om F H y, RelH K F om H → Ext B F om H → Slot K B F om H y x → e.rt x om → D.rt y H
  bk : ∀ r om F H st, Rel K B F om H st r → e.bk r om → D.bk st H
  ct : ∀ r om F H st, Rel K B F om H st r → e.ct r om → D.ct st H
def SS (K : PySem.W.Frag) (W : WX) (t : TS) (w : WS) : Prop := ∀ (B : Base) (F : Hp) (om : Om) (H : Hp) (st : St) (r : Env) (D : Ends) (e : DEnds),
  Rel K B F om H st r → XOk K B W e.xq → EndsOk K B D e → w e r om → t D st H

/-! ### moves of the state -/
section
variable {K : PySem.W.Frag} {B : Base} {F F' : Hp} {om : Om} {H H' : Hp} {st : St} {r : Env}
theorem Own.ne (o : Own K B F om H a ds) {b : Addr} {u : HO} (h : F b = some u) : b ≠ a := fun e => by
  rw [e, o.1] at h; cases h
theorem Slot.mono {y : V} {x : RV} (hs : Same F F') (hn : ∀ b o, F' b = some o → F b = none → H b = none) (h : Slot K B F om H y x) : Slot K B F' om H y x := by
  cases x with
  | v d => exact Rep.mono hs h
  | o ds =>
    obtain ⟨a, e, o1, o2, o3, xs, o4, o5⟩ := h
    refine ⟨a, e, ?_, o2, o3, xs, o4, o5.mono hs⟩
    cases q : F' a with
    | none => rfl
    | some u => rw [hn a u q o1] at o4; cases o4
  | b _ => exact h
/-- fresh frozen things come; all of H is kept -/
theorem Rel.grow (R : Rel K B F om H st r) (hs : Same F F') (hh : Same H H') (hn : ∀ b o, F' b = some o → F b = none → H b = none) (hsub : Same F' H') : Rel K B F' om H' st r := by
  have dom : ∀ b, H' b = none → H b = none := fun b => hh.free
  refine ⟨⟨hsub, fun a ob e => ?_⟩, ⟨R.ext.f.trans hs, fun b o e n => ?_, fun b o e n => hh b o (R.ext.keep b o e n), fun b e => R.ext.dom b (dom b e), R.ext.ob, R.ext.wf⟩, R.len, fun i x e => ?_, R.dis⟩
  · obtain ⟨h1, h2⟩ := R.rh.obj a ob e
    obtain ⟨u, hu⟩ := h2.some
    refine ⟨?_, ?_⟩
    · cases q : F' a with
      | none => rfl
      | some v => rw [hn a v q h1] at hu; cases hu
    · rw [hh a u hu]
      rw [hu] at h2
      exact h2.mono hs
  · cases q : F b with
    | some u => exact R.ext.new b u q n
    | none => exact R.ext.dom b (hn b o e q)
  · obtain ⟨y, e1, s⟩ := R.slot i x e
    refine ⟨y, e1, ?_⟩
    have s2 := Slot.mono hs hn s
    cases x with
    | v d => exact s2
    | o ds =>
      obtain ⟨a, e, o1, o2, o3, xs, o4, o5⟩ := s2
      exact ⟨a, e, o1, o2, o3, xs, hh _ _ o4, o5⟩
    | b _ => exact s2
theorem Res.grow {y : V} {x : RV} (hs : Same F F') (hh : Same H H') (hn : ∀ b o, F' b = some o → F b = none → H b = none) (h : Res K B F om H st r y x) : Res K B F' om H' st r y x := by
  cases x with
  | v d => exact Rep.mono hs h
  | o ds =>
    obtain ⟨a, e, ⟨o1, o2, o3, xs, o4, o5⟩, o6⟩ := h
    refine ⟨a, e, ⟨?_, o2, o3, xs, hh _ _ o4, o5.mono hs⟩, o6⟩
    cases q : F' a with
    | none => rfl
    | some u => rw [hn a u q o1] at o4; cases o4
  | b _ => exact h
/-- a new frozen object at p -/
theorem same_upd {p : Addr} {o : HO} (hp : H p = none) : Same H (upd H p o) := fun b u e => by
  rw [upd_ne (ne_of_none e hp)]; exact e
theorem Rel.alloc (R : Rel K B F om H st r) {p : Addr} {o : HO} (hp : H p = none) : Same F (upd F p o) ∧ Rel K B (upd F p o) om (upd H p o) st r := by
  have fp : F p = none := R.rh.sub.free hp
  refine ⟨same_upd fp, R.grow (same_upd fp) (same_upd hp) (fun b u e n => ?_) fun b u e => ?_⟩
  · by_cases hb : b = p
    · subst hb; exact hp
    · rw [upd_ne hb, n] at e; cases e
  · by_cases hb : b = p
    · subst hb; rw [upd_same] at e ⊢; exact e
    · rw [upd_ne hb] at e ⊢; exact R.rh.sub b u e
/-- a new list of one's own at p -/
theorem Rel.allocO (R : Rel K B F om H st r) {p : Addr} {xs : List V} {ds : List D} (hp : H p = none) (hr : RepA K F xs ds) : Rel K B F om (upd H p (.lst xs)) st r ∧ Res K B F om (upd H p (.lst xs)) st r (.ref p) (.o ds) := by
  have fp : F p = none := R.rh.sub.free hp
  refine ⟨R.grow (Same.refl F) (same_upd hp) (fun b u e n => by rw [n] at e; cases e) (fun b u e => same_upd hp b u (R.rh.sub b u e)), p, rfl, ⟨fp, ?_, R.ext.dom p hp, xs, upd_same, hr⟩, fun j es e z => ?_⟩
  · cases q : om p with
    | none => rfl
    | some ob =>
      obtain ⟨u, hu⟩ := (R.rh.obj p ob q).2.some
      rw [hp] at hu; cases hu
  · obtain ⟨y, e1, a, e2, _, _, _, ys, e3, _⟩ := R.slot j (.o es) e
    rw [z] at e1
    cases e1
    cases e2
    rw [hp] at e3; cases e3
/-- an owned list is frozen where it stands -/
theorem Rel.freeze (R : Rel K B F om H st r) {a : Addr} {xs : List V} (h1 : F a = none) (h2 : om a = none) (h3 : B.H a = none) (h4 : H a = some (.lst xs)) (h5 : ∀ (j : Nat) (es : List D), r[j]? = some (some (.o es)) → st[j]? ≠ some (some (.ref a))) :
    Same F (upd F a (.lst xs)) ∧ Rel K B (upd F a (.lst xs)) om H st r := by
  have hs : Same F (upd F a (.lst xs)) := same_upd h1
  refine ⟨hs, ⟨fun b u e => ?_, fun b ob e => ?_⟩, ⟨R.ext.f.trans hs, fun b o e n => ?_, R.ext.keep, R.ext.dom, R.ext.ob, R.ext.wf⟩, R.len, fun i x e => ?_, R.dis⟩
  · by_cases hb : b = a
    · subst hb; rw [upd_same] at e; cases e; exact h4
    · rw [upd_ne hb] at e; exact R.rh.sub b u e
  · have nb : b ≠ a := fun z => by rw [z, h2] at e; cases e
    rw [upd_ne nb]
    exact ⟨(R.rh.obj b ob e).1, (R.rh.obj b ob e).2.mono hs⟩
  · by_cases hb : b = a
    · subst hb; exact h3
    · rw [upd_ne hb] at e; exact R.ext.new b o e n
  · obtain ⟨y, e1, s⟩ := R.slot i x e
    refine ⟨y, e1, ?_⟩
    cases x with
    | v d => exact Rep.mono hs s
    | o ds =>
      obtain ⟨b, rfl, o1, o2, o3, ys, o4, o5⟩ := s
      have nb : b ≠ a := fun z => h5 i ds e (by rw [e1, z])
      exact ⟨b, rfl, by rw [upd_ne nb]; exact o1, o2, o3, ys, o4, o5.mono hs⟩
    | b _ => exact s
/-- what is handed back is frozen or lent -/
def fz : RV → RV
  | .o ds => .v (.lst ds)
  | x => x
theorem Rel.fz (R : Rel K B F om H st r) {y : V} {x : RV} (h : Res K B F om H st r y x) : ∃ F', Same F F' ∧ Rel K B F' om H st r ∧ Res K B F' om H st r y (fz x) := by
  cases x with
  | v d => exact ⟨F, Same.refl F, R, h⟩
  | b i => exact ⟨F, Same.refl F, R, h⟩
  | o ds =>
    obtain ⟨a, rfl, ⟨o1, o2, o3, xs, o4, o5⟩, o6⟩ := h
    obtain ⟨s, R'⟩ := R.freeze o1 o2 o3 o4 o6
    exact ⟨_, s, R', Rep.lst upd_same (o5.mono s)⟩
/-- a slot is given a value -/
theorem Rel.put (R : Rel K B F om H st r) {i : Nat} {y : V} {x : RV} (h : Res K B F om H st r y x) (hb : ∀ j, x ≠ .b j) (hi : i < r.length) : Rel K B F om H (st.set i (some y)) (r.set i (some x)) := by
  have hi' : i < st.length := by rw [← R.len]; exact hi
  refine ⟨R.rh, R.ext, by simp [R.len], fun j z e => ?_, fun j k a ds es e1 e2 e3 e4 => ?_⟩
  · by_cases hj : i = j
    · subst hj
      rw [List.getElem?_set_self hi] at e
      cases e
      refine ⟨y, List.getElem?_set_self hi', ?_⟩
      cases x with
      | v d => exact h
      | o ds => obtain ⟨a, e, o, _⟩ := h; exact ⟨a, e, o⟩
      | b j => exact (hb j rfl).elim
    · rw [List.getElem?_set_ne hj] at e
      rw [List.getElem?_set_ne hj]
      exact R.slot j z e
  · have key : ∀ {j k : Nat} {a : Addr} {ds es : List D}, i = j → (r.set i (some x))[j]? = some (some (.o ds)) → (r.set i (some x))[k]? = some (some (.o es)) → (st.set i (some y))[j]? = some (some (.ref a)) → (st.set i (some y))[k]? = some (some (.ref a)) → j = k := by
      intro j k a ds es hj q1 q2 q3 q4
      by_cases hk : i = k
      · exact hj.symm.trans hk
      · subst hj
        rw [List.getElem?_set_self hi] at q1
        rw [List.getElem?_set_self hi'] at q3
        rw [List.getElem?_set_ne hk] at q2 q4
        obtain rfl : x = .o ds := Option.some.inj (Option.some.inj q1)
        obtain rfl : y = .ref a := Option.some.inj (Option.some.inj q3)
        obtain ⟨b, e, _, o6⟩ := h
        cases e
        exact (o6 k es q2 q4).elim
    by_cases hj : i = j
    · exact key hj e1 e2 e3 e4
    · by_cases hk : i = k
      · exact (key hk e2 e1 e4 e3).symm
      · rw [List.getElem?_set_ne hj] at e1 e3
        rw [List.getElem?_set_ne hk] at e2 e4
        exact R.dis j k a ds es e1 e2 e3 e4
/-- forget slots -/
theorem Rel.forget (R : Rel K B F om H st r) {r' : Env} {st' : St} (hl : r'.length = st'.length) (h : ∀ (i : Nat) (x : RV), r'[i]? = some (some x) → r[i]? = some (some x) ∧ st'[i]? = st[i]?) : Rel K B F om H st' r' := by
  refine ⟨R.rh, R.ext, hl, fun i x e => ?_, fun i j a ds es e1 e2 e3 e4 => ?_⟩
  · obtain ⟨h1, h2⟩ := h i x e
    obtain ⟨y, e1, s⟩ := R.slot i x h1
    exact ⟨y, by rw [h2]; exact e1, s⟩
  · obtain ⟨h1, h2⟩ := h i _ e1
    obtain ⟨h3, h4⟩ := h j _ e2
    exact R.dis i j a ds es h1 h3 (by rw [← h2]; exact e3) (by rw [← h4]; exact e4)
/-- an owned slot's list is written -/
theorem Rel.write (R : Rel K B F om H st r) {i : Nat} {a : Addr} {ds es : List D} {ys : List V} (e : r[i]? = some (some (.o ds))) (ea : st[i]? = some (some (.ref a))) (hr : RepA K F ys es) : Rel K B F om (upd H a (.lst ys)) st (r.set i (some (.o es))) := by
  obtain ⟨y, e1, b, e2, o1, o2, o3, xs, o4, o5⟩ := R.slot i _ e
  rw [ea] at e1
  cases e1
  cases e2
  have hi : i < r.length := (List.getElem?_eq_some_iff.mp e).1
  refine ⟨⟨fun b u q => ?_, fun b ob q => ?_⟩, ⟨R.ext.f, R.ext.new, fun b u q n => ?_, fun b q => ?_, R.ext.ob, R.ext.wf⟩, by simp [R.len], fun j z q => ?_, fun j k c d1 d2 q1 q2 q3 q4 => ?_⟩
  · have nb : b ≠ a := fun z => by rw [z, o1] at q; cases q
    rw [upd_ne nb]; exact R.rh.sub b u q
  · have nb : b ≠ a := fun z => by rw [z, o2] at q; cases q
    rw [upd_ne nb]; exact R.rh.obj b ob q
  · have nb : b ≠ a := fun z => by rw [z, o3] at q; cases q
    rw [upd_ne nb]; exact R.ext.keep b u q n
  · by_cases hb : b = a
    · subst hb; exact o3
    · rw [upd_ne hb] at q; exact R.ext.dom b q
  · by_cases hj : i = j
    · subst hj
      rw [List.getElem?_set_self hi] at q
      cases q
      exact ⟨_, ea, a, rfl, o1, o2, o3, ys, upd_same, hr⟩
    · rw [List.getElem?_set_ne hj] at q
      obtain ⟨y, e1, s⟩ := R.slot j z q
      refine ⟨y, e1, ?_⟩
      cases z with
      | v d => exact s
      | o d1 =>
        obtain ⟨c, rfl, p1, p2, p3, zs, p4, p5⟩ := s
        have nb : c ≠ a := fun z => hj (R.dis i j a ds d1 e q ea (by rw [e1, z]))
        exact ⟨c, rfl, p1, p2, p3, zs, by rw [upd_ne nb]; exact p4, p5⟩
      | b _ => exact s
  · have back : ∀ {j : Nat} {d1 : List D}, (r.set i (some (.o es)))[j]? = some (some (.o d1)) → ∃ d2, r[j]? = some (some (.o d2)) := fun {j d1} q => by
      by_cases hj : i = j
      · subst hj; exact ⟨ds, e⟩
      · rw [List.getElem?_set_ne hj] at q; exact ⟨d1, q⟩
    obtain ⟨d3, q5⟩ := back q1
    obtain ⟨d4, q6⟩ := back q2
    exact R.dis j k c d3 d4 q5 q6 q3 q4
/-- p, a list that nothing else knows, is guarded -/
def Base.guard (B : Base) (p : Addr) (o : HO) : Base := ⟨B.F, B.om, upd B.H p o⟩
theorem Rel.guard (R : Rel K B F om H st r) {p : Addr} {o : HO} (h1 : F p = none) (h2 : om p = none) (h4 : H p = some o) (h5 : ∀ (j : Nat) (es : List D), r[j]? = some (some (.o es)) → st[j]? ≠ some (some (.ref p))) : Rel K (B.guard p o) F om H st r := by
  refine ⟨R.rh, ⟨R.ext.f, fun b u e n => ?_, fun b u e n => ?_, fun b e => ?_, fun b u e n => ?_, fun b e => R.ext.wf b ?_⟩, R.len, fun i x e => ?_, R.dis⟩
  · have nb : b ≠ p := fun z => by rw [z, h1] at e; cases e
    show upd B.H p o b = none
    rw [upd_ne nb]; exact R.ext.new b u e n
  · by_cases hb : b = p
    · subst hb
      have e' : upd B.H b o b = some u := e
      rw [upd_same] at e'; cases e'; exact h4
    · have e' : upd B.H p o b = some u := e
      rw [upd_ne hb] at e'; exact R.ext.keep b u e' n
  · have nb : b ≠ p := fun z => by rw [z, h4] at e; cases e
    show upd B.H p o b = none
    rw [upd_ne nb]; exact R.ext.dom b e
  · have nb : b ≠ p := fun z => by rw [z, h2] at e; cases e
    show upd B.H p o b = none
    rw [upd_ne nb]; exact R.ext.ob b u e n
  · have e' : upd B.H p o b = none := e
    have nb : b ≠ p := fun z => by rw [z, upd_same] at e'; cases e'
    rw [upd_ne nb] at e'; exact e'
  · obtain ⟨y, e1, s⟩ := R.slot i x e
    refine ⟨y, e1, ?_⟩
    cases x with
    | v d => exact s
    | o ds =>
      obtain ⟨a, rfl, o1, o2, o3, xs, o4, o5⟩ := s
      have nb : a ≠ p := fun z => h5 i ds e (by rw [e1, z])
      exact ⟨a, rfl, o1, o2, by show upd B.H p o a = none; rw [upd_ne nb]; exact o3, xs, o4, o5⟩
    | b _ => exact s
theorem Rel.unguard {p : Addr} {o : HO} (R : Rel K (B.guard p o) F om H st r) (hF : B.F p = none) (hO : B.om p = none) (hp : B.H p = none) : Rel K B F om H st r ∧ F p = none ∧ om p = none ∧ H p = some o ∧ ∀ (j : Nat) (es : List D), r[j]? = some (some (.o es)) → st[j]? ≠ some (some (.ref p)) := by
  have gp : (B.guard p o).H p = some o := upd_same
  have back : ∀ b, (B.guard p o).H b = none → B.H b = none := fun b e => by
    have e' : upd B.H p o b = none := e
    by_cases hb : b = p
    · subst hb; exact hp
    · rw [upd_ne hb] at e'; exact e'
  have f1 : F p = none := by
    cases q : F p with
    | none => rfl
    | some u =>
      have := R.ext.new p u q hF
      rw [gp] at this; cases this
  have f2 : om p = none := by
    cases q : om p with
    | none => rfl
    | some u =>
      have := R.ext.ob p u q hO
      rw [gp] at this; cases this
  refine ⟨⟨R.rh, ⟨R.ext.f, fun b u e n => back b (R.ext.new b u e n), fun b u e n => R.ext.keep b u ?_ n, fun b e => back b (R.ext.dom b e), fun b u e n => back b (R.ext.ob b u e n), fun b e => ?_⟩, R.len, fun i x e => ?_, R.dis⟩, f1, f2, R.ext.keep p o gp hO, fun j es e z => ?_⟩
  · show upd B.H p o b = some u
    have nb : b ≠ p := fun z => by rw [z, hp] at e; cases e
    rw [upd_ne nb]; exact e
  · by_cases hb : b = p
    · rw [hb]; exact hO
    · exact R.ext.wf b (by show upd B.H p o b = none; rw [upd_ne hb]; exact e)
  · obtain ⟨y, e1, s⟩ := R.slot i x e
    refine ⟨y, e1, ?_⟩
    cases x with
    | v d => exact s
    | o ds =>
      obtain ⟨a, rfl, o1, o2, o3, xs, o4, o5⟩ := s
      exact ⟨a, rfl, o1, o2, back a o3, xs, o4, o5⟩
    | b _ => exact s
  · obtain ⟨y, e1, a, e2, _, _, o3, _⟩ := R.slot j _ e
    rw [z] at e1
    cases e1
    cases e2
    rw [gp] at o3; cases o3
/-- a list that nothing else knows is written -/
theorem Rel.writeX (R : Rel K B F om H st r) {p : Addr} {o : HO} (h1 : F p = none) (h2 : om p = none) (h3 : B.H p = none) (h5 : ∀ (j : Nat) (es : List D), r[j]? = some (some (.o es)) → st[j]? ≠ some (some (.ref p))) : Rel K B F om (upd H p o) st r := by
  refine ⟨⟨fun b u q => ?_, fun b ob q => ?_⟩, ⟨R.ext.f, R.ext.new, fun b u q n => ?_, fun b q => ?_, R.ext.ob, R.ext.wf⟩, R.len, fun j z q => ?_, R.dis⟩
  · have nb : b ≠ p := fun z => by rw [z, h1] at q; cases q
    rw [upd_ne nb]; exact R.rh.sub b u q
  · have nb : b ≠ p := fun z => by rw [z, h2] at q; cases q
    rw [upd_ne nb]; exact R.rh.obj b ob q
  · have nb : b ≠ p := fun z => by rw [z, h3] at q; cases q
    rw [upd_ne nb]; exact R.ext.keep b u q n
  · by_cases hb : b = p
    · subst hb; exact h3
    · rw [upd_ne hb] at q; exact R.ext.dom b q
  · obtain ⟨y, e1, s⟩ := R.slot j z q
    refine ⟨y, e1, ?_⟩
    cases z with
    | v d => exact s
    | o d1 =>
      obtain ⟨c, rfl, p1, p2, p3, zs, p4, p5⟩ := s
      have nb : c ≠ p := fun z => h5 j d1 q (by rw [e1, z])
      exact ⟨c, rfl, p1, p2, p3, zs, by rw [upd_ne nb]; exact p4, p5⟩
    | b _ => exact s
end
end DL

set_option Elab.async false
set_option linter.all false
set_option maxRecDepth 100000
namespace DL
open PySem L2

def wd {α : Type} : Option α → (α → Prop) → Prop
  | some a, k => k a
  | none, _ => False
@[simp] theorem wd_some {α : Type} (a : α) (k : α → Prop) : wd (some a) k = k a := rfl
@[simp] theorem wd_none {α : Type} (k : α → Prop) : wd none k = False := rfl
theorem wd_iff {α : Type} {o : Option α} {k : α → Prop} (h : wd o k) : ∃ a, o = some a ∧ k a := by
  cases o with
  | none => exact h.elim
  | some a => exact ⟨a, rfl, h⟩
def deref (om : Om) : D → D
  | .h a => match om a with
    | some (.lst ds) => .lst ds
    | _ => .h a
  | d => d
def datB (r : Env) (om : Om) : RV → Option D
  | .v d => some (deref om d)
  | .o ds => some (.lst ds)
  | .b i => match r[i]? with
    | some (some (.o ds)) => some (.lst ds)
    | some (some (.v d)) => some (deref om d)
    | _ => none
def datE : RV → Option D
  | .v d => some d
  | .o ds => some (.lst ds)
  | .b _ => none
def datsB (r : Env) (om : Om) : List RV → Option (List D)
  | [] => some []
  | x :: xs => match datB r om x, datsB r om xs with
    | some d, some ds => some (d :: ds)
    | _, _ => none
def datsE : List RV → Option (List D)
  | [] => some []
  | x :: xs => match datE x, datsE xs with
    | some d, some ds => some (d :: ds)
    | _, _ => none
/-- a value, or a list that stands somewhere -/
def RepB (K : PySem.W.Frag) (F H : Hp) (y : V) (d : D) : Prop := Rep K F y d ∨ ∃ a xs ds, y = .ref a ∧ d = .lst ds ∧ H a = some (.lst xs) ∧ RepA K F xs ds
def RepBs (K : PySem.W.Frag) (F H : Hp) : List V → List D → Prop
  | [], [] => True
  | y :: ys, d :: ds => RepB K F H y d ∧ RepBs K F H ys ds
  | _, _ => False
section
variable {K : PySem.W.Frag} {B : Base} {F F' : Hp} {om : Om} {H H' : Hp} {st : St} {r : Env} {W : WX}
theorem RelH.deref (R : RelH K F om H) {y : V} {d : D} (h : Rep K F y d) : RepB K F H y (deref om d) := by
  cases d with
  | h a =>
    cases h
    unfold DL.deref
    cases q : om a with
    | none => exact .inl (by simpa [q] using Rep.h a)
    | some ob =>
      cases ob with
      | lst ds =>
        obtain ⟨xs, e, rr⟩ := (R.obj a _ q).2.lst
        exact .inr ⟨a, xs, ds, rfl, by simp [q], e, rr⟩
      | lstP P => exact .inl (by simpa [q] using Rep.h a)
  | _ => exact .inl h
theorem Rel.datB (R : Rel K B F om H st r) {y : V} {x : RV} {d : D} (h : Res K B F om H st r y x) (e : datB r om x = some d) : RepB K F H y d := by
  cases x with
  | v d' =>
    have e' : DL.deref om d' = d := Option.some.inj e
    subst e'
    exact R.rh.deref h
  | o ds =>
    have e' : D.lst ds = d := Option.some.inj e
    subst e'
    obtain ⟨a, rfl, ⟨_, _, _, xs, h4, h5⟩, _⟩ := h
    exact .inr ⟨a, xs, ds, rfl, rfl, h4, h5⟩
  | b i =>
    have h1 : st[i]? = some (some y) := h
    simp only [DL.datB] at e
    obtain ⟨z, h2⟩ : ∃ z, r[i]? = some (some z) := by
      cases q : r[i]? with
      | none => rw [q] at e; cases e
      | some o =>
        cases o with
        | none => rw [q] at e; cases e
        | some z => exact ⟨z, rfl⟩
    obtain ⟨y', h3, s⟩ := R.slot i z h2
    rw [h1] at h3
    cases h3
    rw [h2] at e
    cases z with
    | v d' =>
      have e' : DL.deref om d' = d := Option.some.inj e
      subst e'
      exact R.rh.deref s
    | o ds =>
      have e' : D.lst ds = d := Option.some.inj e
      subst e'
      obtain ⟨a, rfl, _, _, _, xs, h4, h5⟩ := s
      exact .inr ⟨a, xs, ds, rfl, rfl, h4, h5⟩
    | b _ => exact s.elim
theorem datE_rep {y : V} {x : RV} {d : D} (h : Res K B F om H st r y (fz x)) (e : datE x = some d) : Rep K F y d := by
  cases x with
  | v d' => cases e; exact h
  | o ds => cases e; exact h
  | b i => cases e
theorem Res.later {y : V} {x : RV} {r' : Env} {om' : Om} (h : Res K B F om H st r y (fz x)) (hs : Same F F') (hk : KeepE r r') : Res K B F' om' H' st r' y (fz x) := by
  cases x with
  | v d => exact Rep.mono hs h
  | o ds => exact Rep.mono hs h
  | b i => exact h
theorem datB_fz {om : Om} {r : Env} {x : RV} {d : D} (e : datB r om x = some d) : datB r om (fz x) = some d := by
  cases x with
  | v d' => exact e
  | o ds => exact e
  | b i => exact e

/-! ### what an operation of values makes -/
structure Grow (F H F' H' : Hp) : Prop where
  f : Same F F'
  h : Same H H'
  new : ∀ b o, F' b = some o → F b = none → H b = none
  sub : Same F' H'
theorem Grow.refl (s : Same F H) : Grow F H F H := ⟨Same.refl _, Same.refl _, fun b o e n => (by rw [n] at e; cases e), s⟩
theorem Grow.alloc (s : Same F H) {p : Addr} {o : HO} (hp : H p = none) : Grow F H (upd F p o) (upd H p o) := by
  have fp : F p = none := s.free hp
  refine ⟨same_upd fp, same_upd hp, fun b u e n => ?_, fun b u e => ?_⟩
  · by_cases hb : b = p
    · subst hb; exact hp
    · rw [upd_ne hb, n] at e; cases e
  · by_cases hb : b = p
    · subst hb; rw [upd_same] at e ⊢; exact e
    · rw [upd_ne hb] at e ⊢; exact s b u e
theorem Grow.allocO (s : Same F H) {p : Addr} {o : HO} (hp : H p = none) : Grow F H F (upd H p o) :=
  ⟨Same.refl _, same_upd hp, fun b u e n => (by rw [n] at e; cases e), fun b u e => same_upd hp b u (s b u e)⟩
def ResP (K : PySem.W.Frag) (F' H H' : Hp) (y : V) : RV → Prop
  | .v d => Rep K F' y d
  | .o ds => ∃ a xs, y = .ref a ∧ H a = none ∧ F' a = none ∧ H' a = some (.lst xs) ∧ RepA K F' xs ds
  | .b _ => False
theorem ResP.newL (s : Same F H) {p : Addr} {xs : List V} {ds : List D} (hp : H p = none) (h : RepA K F xs ds) : ResP K F H (upd H p (.lst xs)) (.ref p) (.o ds) := ⟨p, xs, rfl, hp, s.free hp, upd_same, h⟩
theorem ResP.newT (s : Same F H) {p : Addr} {xs : List V} {ds : List D} (hp : H p = none) (h : RepA K F xs ds) : ResP K (upd F p (.tup xs)) H (upd H p (.tup xs)) (.ref p) (.v (.tup ds)) :=
  Rep.tup (SqT.of upd_same) (h.mono (same_upd (s.free hp)))
theorem Rel.finish (R : Rel K B F om H st r) (g : Grow F H F' H') {y : V} {x : RV} (h : ResP K F' H H' y x) : Rel K B F' om H' st r ∧ Res K B F' om H' st r y x := by
  have R' := R.grow g.f g.h g.new g.sub
  refine ⟨R', ?_⟩
  cases x with
  | v d => exact h
  | o ds =>
    obtain ⟨a, xs, rfl, hn, hf, hh, hr⟩ := h
    refine ⟨a, rfl, ⟨hf, ?_, R.ext.dom a hn, xs, hh, hr⟩, fun j es e z => ?_⟩
    · cases q : om a with
      | none => rfl
      | some ob =>
        obtain ⟨u, hu⟩ := (R.rh.obj a ob q).2.some
        rw [hn] at hu; cases hu
    · obtain ⟨y, e1, a', e2, _, _, _, ys, e3, _⟩ := R.slot j (.o es) e
      rw [z] at e1
      cases e1
      cases e2
      rw [hn] at e3; cases e3
  | b _ => exact h.elim

abbrev P2 := D → D → (RV → Prop) → Prop
abbrev P1 := D → (RV → Prop) → Prop
abbrev PN := List D → (RV → Prop) → Prop
def S2 (K : PySem.W.Frag) (rr : R2) (p : P2) : Prop := ∀ (F H : Hp) (x y : V) (d e : D) (c : RV → Prop) (Q : VK), Same F H → RepB K F H x d → RepB K F H y e → p d e c →
  (∀ z v F' H', Grow F H F' H' → ResP K F' H H' v z → c z → Q v H') → rr x y H Q
def S1 (K : PySem.W.Frag) (rr : V → Hp → VK → Prop) (p : P1) : Prop := ∀ (F H : Hp) (x : V) (d : D) (c : RV → Prop) (Q : VK), Same F H → RepB K F H x d → p d c →
  (∀ z v F' H', Grow F H F' H' → ResP K F' H H' v z → c z → Q v H') → rr x H Q
def SN (K : PySem.W.Frag) (rr : List V → Hp → VK → Prop) (p : PN) : Prop := ∀ (F H : Hp) (xs : List V) (ds : List D) (c : RV → Prop) (Q : VK), Same F H → RepBs K F H xs ds → p ds c →
  (∀ z v F' H', Grow F H F' H' → ResP K F' H H' v z → c z → Q v H') → rr xs H Q
theorem S2.or {r1 r2 : R2} {p p1 p2 : P2} (h1 : S2 K r1 p1) (h2 : S2 K r2 p2) (h : ∀ d e c, p d e c → p1 d e c ∨ p2 d e c) : S2 K (fun x y H Q => r1 x y H Q ∨ r2 x y H Q) p := fun F H x y d e c Q s rx ry q hQ => by
  rcases h d e c q with q | q
  · exact .inl (h1 F H x y d e c Q s rx ry q hQ)
  · exact .inr (h2 F H x y d e c Q s rx ry q hQ)
theorem OpR.or {X : Cx} {f : Value → Value → Sem Value} {r r' : R2} (h : OpR X f r) (h' : OpR X f r') : OpR X f (fun x y H Q => r x y H Q ∨ r' x y H Q) := by
  intro pins s σ H x y v u Q I rx ry q
  rcases q with q | q
  · exact h pins s σ H x y v u Q I rx ry q
  · exact h' pins s σ H x y v u Q I rx ry q
theorem CallR.or {X : Cx} {f : Value} {r r' : List V → Hp → VK → Prop} (h : CallR X f r) (h' : CallR X f r') : CallR X f (fun x H Q => r x H Q ∨ r' x H Q) := by
  intro pins s σ H x v Q I rx q
  rcases q with q | q
  · exact h pins s σ H x v Q I rx q
  · exact h' pins s σ H x v Q I rx q
theorem SN.or {r1 r2 : List V → Hp → VK → Prop} {p p1 p2 : PN} (h1 : SN K r1 p1) (h2 : SN K r2 p2) (h : ∀ d c, p d c → p1 d c ∨ p2 d c) : SN K (fun x H Q => r1 x H Q ∨ r2 x H Q) p := fun F H x d c Q s rx q hQ => by
  rcases h d c q with q | q
  · exact .inl (h1 F H x d c Q s rx q hQ)
  · exact .inr (h2 F H x d c Q s rx q hQ)

/-! ### expressions -/
def wVar (i : Nat) : WE := fun _ r om k => match r[i]? with
  | some (some (.v d)) => k (.v d) r om
  | some (some (.o ds)) => k (.v (.lst ds)) (r.set i (some (.v (.lst ds)))) om
  | _ => False
/-- lent -/
def wBor (i : Nat) : WE := fun _ r om k => match r[i]? with
  | some (some (.v d)) => k (.v d) r om
  | some (some (.o _)) => k (.b i) r om
  | _ => False
/-- moved out (a return) -/
def wMov (i : Nat) : WE := fun _ r om k => match r[i]? with
  | some (some (.v d)) => k (.v d) r om
  | some (some (.o ds)) => k (.o ds) r om
  | _ => False
def wC (d : D) : WE := fun _ r om k => k (.v d) r om
theorem KeepE.set {i : Nat} {x : RV} : KeepE r (r.set i (some x)) := trivial
theorem se_var (i : Nat) : SE K W (tVar i) (wVar i) := by
  intro B F om H st r xq k Q R hx hQ hw
  unfold wVar at hw
  cases e : r[i]? with
  | none => rw [e] at hw; exact hw.elim
  | some o =>
    rw [e] at hw
    cases o with
    | none => exact hw.elim
    | some x =>
      obtain ⟨y, e1, s⟩ := R.slot i x e
      refine ⟨y, e1, ?_⟩
      cases x with
      | v d => exact hQ (.v d) _ _ _ _ _ R (Same.refl _) (KeepE.refl _) s hw
      | o ds =>
        obtain ⟨a, rfl, o1, o2, o3, xs, o4, o5⟩ := s
        have hi := (List.getElem?_eq_some_iff.mp e).1
        -- the slot is forgotten, the list frozen, the slot given anew
        have R1 : Rel K B F om H st (r.set i none) := R.forget (by simp [R.len]) fun j z q => by
          by_cases hj : i = j
          · subst hj; rw [List.getElem?_set_self hi] at q; cases q
          · rw [List.getElem?_set_ne hj] at q; exact ⟨q, rfl⟩
        obtain ⟨hs, R2⟩ := R1.freeze o1 o2 o3 o4 (fun j es q z => by
          by_cases hj : i = j
          · subst hj; rw [List.getElem?_set_self hi] at q; cases q
          · rw [List.getElem?_set_ne hj] at q
            exact hj (R.dis i j a ds es e q e1 z))
        have rp : Rep K (upd F a (.lst xs)) (.ref a) (.lst ds) := Rep.lst upd_same (o5.mono hs)
        have R3 := R2.put (i := i) (y := .ref a) (x := .v (.lst ds)) rp (fun j z => by cases z) (by simpa using hi)
        rw [List.set_set] at R3
        have est : st.set i (some (.ref a)) = st := by
          apply List.ext_getElem?
          intro j
          by_cases hj : i = j
          · subst hj; rw [List.getElem?_set_self (by rw [← R.len]; exact hi), e1]
          · rw [List.getElem?_set_ne hj]
        rw [est] at R3
        exact hQ (.v (.lst ds)) _ _ _ _ _ R3 hs KeepE.set rp hw
      | b j => exact s.elim
theorem se_bor (i : Nat) : SE K W (tVar i) (wBor i) := by
  intro B F om H st r xq k Q R hx hQ hw
  unfold wBor at hw
  cases e : r[i]? with
  | none => rw [e] at hw; exact hw.elim
  | some o =>
    rw [e] at hw
    cases o with
    | none => exact hw.elim
    | some x =>
      obtain ⟨y, e1, s⟩ := R.slot i x e
      refine ⟨y, e1, ?_⟩
      cases x with
      | v d => exact hQ (.v d) _ _ _ _ _ R (Same.refl _) (KeepE.refl _) s hw
      | o ds => exact hQ (.b i) _ _ _ _ _ R (Same.refl _) (KeepE.refl _) e1 hw
      | b j => exact s.elim
theorem se_c {v : V} {d : D} (h : ∀ F, Rep K F v d) : SE K W (tC v) (wC d) := by
  intro B F om H st r xq k Q R hx hQ hw
  exact hQ (.v d) _ _ _ _ _ R (Same.refl _) (KeepE.refl _) (h F) hw
def wOp (p : P2) (wa wb : WE) : WE := fun xq r om k => wa xq r om fun x r1 om1 => wb xq r1 om1 fun y r2 om2 =>
  wd (datB r2 om2 x) fun d => wd (datB r2 om2 y) fun e => p d e fun z => k z r2 om2
theorem se_op {ta tb : TE} {wa wb : WE} {rr : R2} {p : P2} (ha : SE K W ta wa) (hb : SE K W tb wb) (hp : S2 K rr p) : SE K W (tOp rr ta tb) (wOp p wa wb) := by
  intro B F om H st r xq k Q R hx hQ hw
  refine ha B F om H st r xq _ _ R hx (fun x r1 om1 F1 H1 y R1 s1 k1 q1 hw => ?_) hw
  obtain ⟨F2, s2, R2, q2⟩ := R1.fz q1
  refine hb B F2 om1 H1 st r1 xq _ _ R2 hx (fun x' r3 om3 F3 H3 y' R3 s3 k3 q3 hw => ?_) hw
  obtain ⟨d, e1, hw⟩ := wd_iff hw
  obtain ⟨e, e2, hw⟩ := wd_iff hw
  have q2' := Res.later (H' := H3) (om' := om3) q2 s3 k3
  refine hp F3 H3 y y' d e _ _ R3.rh.sub (R3.datB q2' (datB_fz e1)) (R3.datB q3 e2) hw fun z v F4 H4 g rp hc => ?_
  obtain ⟨R4, q4⟩ := R3.finish g rp
  exact hQ _ _ _ _ _ _ R4 (((s1.trans s2).trans s3).trans g.f) (k1.trans k3) q4 hc
def wUn (p : P1) (wa : WE) : WE := fun xq r om k => wa xq r om fun x r1 om1 => wd (datB r1 om1 x) fun d => p d fun z => k z r1 om1
theorem se_un {ta : TE} {wa : WE} {rr : V → Hp → VK → Prop} {p : P1} (ha : SE K W ta wa) (hp : S1 K rr p) : SE K W (tUn rr ta) (wUn p wa) := by
  intro B F om H st r xq k Q R hx hQ hw
  refine ha B F om H st r xq _ _ R hx (fun x r1 om1 F1 H1 y R1 s1 k1 q1 hw => ?_) hw
  obtain ⟨d, e1, hw⟩ := wd_iff hw
  refine hp F1 H1 y d _ _ R1.rh.sub (R1.datB q1 e1) hw fun z v F4 H4 g rp hc => ?_
  obtain ⟨R4, q4⟩ := R1.finish g rp
  exact hQ _ _ _ _ _ _ R4 (s1.trans g.f) k1 q4 hc
/-! ### arguments -/
theorem ResA.later {r' : Env} : ∀ {ys : List V} {xs : List RV}, ResA K F st r ys xs → Same F F' → KeepE r r' → ResA K F' st r' ys xs
  | [], [], _, _, _ => trivial
  | y :: ys, .v d :: xs, h, s, k => ⟨Rep.mono s h.1, ResA.later h.2 s k⟩
  | y :: ys, .b i :: xs, h, s, k => ⟨h.1, ResA.later h.2 s k⟩
  | [], _ :: _, h, _, _ => h.elim
  | _ :: _, [], h, _, _ => h.elim
  | _ :: _, .o _ :: _, h, _, _ => h.elim
def wNil : WA := fun _ r om k => k [] r om
def wCons (wa : WE) (wr : WA) : WA := fun xq r om k => wa xq r om fun x r1 om1 => wr xq r1 om1 fun xs r2 om2 => k (fz x :: xs) r2 om2
theorem sa_nil : SA K W tNil wNil := by
  intro B F om H st r xq k Q R hx hQ hw
  exact hQ [] _ _ _ _ _ R (Same.refl _) (KeepE.refl _) trivial hw
theorem sa_cons {ta : TE} {wa : WE} {tr : TA} {wr : WA} (ha : SE K W ta wa) (hr : SA K W tr wr) : SA K W (tCons ta tr) (wCons wa wr) := by
  intro B F om H st r xq k Q R hx hQ hw
  refine ha B F om H st r xq _ _ R hx (fun x r1 om1 F1 H1 y R1 s1 k1 q1 hw => ?_) hw
  obtain ⟨F2, s2, R2, q2⟩ := R1.fz q1
  refine hr B F2 om1 H1 st r1 xq _ _ R2 hx (fun xs r3 om3 F3 H3 ys R3 s3 k3 q3 hw => ?_) hw
  refine hQ _ _ _ _ _ _ R3 ((s1.trans s2).trans s3) (k1.trans k3) ?_ hw
  have q2' := Res.later (H' := H3) (om' := om3) q2 s3 k3
  cases x with
  | v d => exact ⟨q2', q3⟩
  | o ds => exact ⟨q2', q3⟩
  | b i => exact ⟨q2', q3⟩
theorem Rel.datsB (R : Rel K B F om H st r) : ∀ {ys : List V} {xs : List RV} {ds : List D}, ResA K F st r ys xs → datsB r om xs = some ds → RepBs K F H ys ds
  | [], [], ds, _, e => by cases e; trivial
  | y :: ys, x :: xs, ds, h, e => by
    unfold DL.datsB at e
    cases e1 : DL.datB r om x with
    | none => rw [e1] at e; cases e
    | some d =>
      cases e2 : DL.datsB r om xs with
      | none => rw [e1, e2] at e; cases e
      | some es =>
        rw [e1, e2] at e
        cases e
        cases x with
        | v d' => exact ⟨R.datB (x := .v d') h.1 e1, R.datsB h.2 e2⟩
        | b i => exact ⟨R.datB (x := .b i) h.1 e1, R.datsB h.2 e2⟩
        | o _ => exact h.elim
  | [], _ :: _, _, h, _ => h.elim
  | _ :: _, [], _, h, _ => h.elim
theorem datsE_rep : ∀ {ys : List V} {xs : List RV} {ds : List D}, ResA K F st r ys xs → datsE xs = some ds → RepA K F ys ds
  | [], [], ds, _, e => by cases e; exact .nil
  | y :: ys, x :: xs, ds, h, e => by
    unfold datsE at e
    cases e1 : datE x with
    | none => rw [e1] at e; cases e
    | some d =>
      cases e2 : datsE xs with
      | none => rw [e1, e2] at e; cases e
      | some es =>
        rw [e1, e2] at e
        cases e
        cases x with
        | v d' => cases e1; exact .cons h.1 (datsE_rep h.2 e2)
        | b i => cases e1
        | o _ => exact h.elim
  | [], _ :: _, _, h, _ => h.elim
  | _ :: _, [], _, h, _ => h.elim
/-- a builtin's call -/
def wCB (p : PN) (wa : WA) : WE := fun xq r om k => wa xq r om fun xs r1 om1 => wd (datsB r1 om1 xs) fun ds => p ds fun z => k z r1 om1
theorem se_cb {ta : TA} {wa : WA} {rr : List V → Hp → VK → Prop} {p : PN} (ha : SA K W ta wa) (hp : SN K rr p) : SE K W (tCB rr ta) (wCB p wa) := by
  intro B F om H st r xq k Q R hx hQ hw
  refine ha B F om H st r xq _ _ R hx (fun xs r1 om1 F1 H1 ys R1 s1 k1 q1 hw => ?_) hw
  obtain ⟨ds, e1, hw⟩ := wd_iff hw
  refine hp F1 H1 ys ds _ _ R1.rh.sub (R1.datsB q1 e1) hw fun z v F4 H4 g rp hc => ?_
  obtain ⟨R4, q4⟩ := R1.finish g rp
  exact hQ _ _ _ _ _ _ R4 (s1.trans g.f) k1 q4 hc
/-- (a, b), [a, b] -/
def wTup (wa : WA) : WE := fun xq r om k => wa xq r om fun xs r1 om1 => wd (datsE xs) fun ds => ds.length ≤ sizeLine ∧ k (.v (.tup ds)) r1 om1
def wLst (wa : WA) : WE := fun xq r om k => wa xq r om fun xs r1 om1 => wd (datsE xs) fun ds => ds.length ≤ sizeLine ∧ k (.o ds) r1 om1
theorem se_tup {ta : TA} {wa : WA} (ha : SA K W ta wa) : SE K W (tTup ta) (wTup wa) := by
  intro B F om H st r xq k Q R hx hQ hw
  refine ha B F om H st r xq _ _ R hx (fun xs r1 om1 F1 H1 ys R1 s1 k1 q1 hw => ?_) hw
  obtain ⟨ds, e1, hl, hw⟩ := wd_iff hw
  have rp := datsE_rep q1 e1
  refine ⟨by rw [rp.length]; exact hl, fun p hp => ?_⟩
  obtain ⟨s2, R2⟩ := R1.alloc (o := .tup ys) hp
  exact hQ (.v (.tup ds)) _ _ _ _ _ R2 (s1.trans s2) k1 (Rep.tup (SqT.of upd_same) (rp.mono s2)) hw
theorem se_lst {ta : TA} {wa : WA} (ha : SA K W ta wa) : SE K W (tLst ta) (wLst wa) := by
  intro B F om H st r xq k Q R hx hQ hw
  refine ha B F om H st r xq _ _ R hx (fun xs r1 om1 F1 H1 ys R1 s1 k1 q1 hw => ?_) hw
  obtain ⟨ds, e1, hl, hw⟩ := wd_iff hw
  have rp := datsE_rep q1 e1
  refine ⟨by rw [rp.length]; exact hl, fun p hp => ?_⟩
  obtain ⟨R2, q2⟩ := R1.allocO hp rp
  exact hQ _ _ _ _ _ _ R2 s1 k1 q2 hw

/-! ### tests -/
/-- a value's truth -/
def truD : D → Option Bool
  | .non => some false
  | .bl b => some b
  | .int i => some (i != 0)
  | .tup ds => some !ds.isEmpty
  | .lst ds => some !ds.isEmpty
  | .frl ds => some !ds.isEmpty
  | .str x => if x.length ≤ sizeLine then some ((x.length : Int) != 0) else none
  | _ => none
def boolD : D → Option Bool
  | .bl b => some b
  | _ => none
theorem boolD_inv {d : D} {b : Bool} (e : boolD d = some b) : d = .bl b := by
  cases d with
  | bl c => cases e; rfl
  | _ => cases e
def wTru (wa : WE) : WT := fun xq r om k => wa xq r om fun x r1 om1 => wd (datB r1 om1 x) fun d => wd (truD d) fun b => k b r1 om1
def wTst (wa : WE) : WT := fun xq r om k => wa xq r om fun x r1 om1 => wd (datB r1 om1 x) fun d => wd (boolD d) fun b => k b r1 om1
theorem repA_emp {xs : List V} {ds : List D} (h : RepA K F xs ds) : (!xs.isEmpty) = !ds.isEmpty := by cases h <;> rfl
theorem RepB.lstS (s : Same F H) {y : V} {ds : List D} (h : RepB K F H y (.lst ds)) : ∃ a xs, y = .ref a ∧ H a = some (.lst xs) ∧ RepA K F xs ds := by
  rcases h with h | ⟨a, xs, es, e1, e2, h1, h2⟩
  · cases h with
    | lst q rr => exact ⟨_, _, rfl, s _ _ q, rr⟩
  · cases e2; exact ⟨a, xs, e1, h1, h2⟩
theorem RepB.frlS (s : Same F H) {y : V} {ds : List D} (h : RepB K F H y (.frl ds)) : ∃ a xs, y = .ref a ∧ SqL K H a xs ∧ RepA K F xs ds := by
  rcases h with h | ⟨a, xs, es, e1, e2, h1, h2⟩
  · cases h with
    | frl q rr => exact ⟨_, _, rfl, s.seq q, rr⟩
  · cases e2
theorem RepB.tupS (s : Same F H) {y : V} {ds : List D} (h : RepB K F H y (.tup ds)) : ∃ a xs, y = .ref a ∧ SqT K H a xs ∧ RepA K F xs ds := by
  rcases h with h | ⟨a, xs, es, e1, e2, h1, h2⟩
  · cases h with
    | tup q rr => exact ⟨_, _, rfl, same_sqT s q, rr⟩
  · cases e2
theorem RepB.intS {y : V} {i : Int} (h : RepB K F H y (.int i)) : y = .int i := by
  rcases h with h | ⟨a, xs, es, e1, e2, h1, h2⟩
  · cases h; rfl
  · cases e2
theorem RepB.blS {y : V} {i : Bool} (h : RepB K F H y (.bl i)) : y = .bl i := by
  rcases h with h | ⟨a, xs, es, e1, e2, h1, h2⟩
  · cases h; rfl
  · cases e2
theorem RepB.strS {y : V} {i : Str} (h : RepB K F H y (.str i)) : y = .str i := by
  rcases h with h | ⟨a, xs, es, e1, e2, h1, h2⟩
  · cases h; rfl
  · cases e2
theorem RepB.nonS {y : V} (h : RepB K F H y .non) : y = .non := by
  rcases h with h | ⟨a, xs, es, e1, e2, h1, h2⟩
  · cases h; rfl
  · cases e2
theorem tru_rep (s : Same F H) {y : V} {d : D} {b : Bool} (h : RepB K F H y d) (e : truD d = some b) : TruV K y H b := by
  cases d with
  | non => obtain rfl := h.nonS; cases e; rfl
  | bl c => obtain rfl := h.blS; cases e; rfl
  | int i => obtain rfl := h.intS; cases e; rfl
  | str x =>
    obtain rfl := h.strS
    simp only [truD] at e
    by_cases hx : x.length ≤ sizeLine
    · rw [if_pos hx] at e; cases e; exact ⟨hx, rfl⟩
    · rw [if_neg hx] at e; cases e
  | tup ds =>
    obtain ⟨a, xs, rfl, q, rr⟩ := h.tupS s
    cases e
    exact .inr (.inl ⟨xs, q, (repA_emp rr).symm⟩)
  | lst ds =>
    obtain ⟨a, xs, rfl, q, rr⟩ := h.lstS s
    cases e
    exact .inl ⟨xs, SqL.of q, (repA_emp rr).symm⟩
  | frl ds =>
    obtain ⟨a, xs, rfl, q, rr⟩ := h.frlS s
    cases e
    exact .inl ⟨xs, q, (repA_emp rr).symm⟩
  | _ => cases e
theorem st_tru {ta : TE} {wa : WE} (ha : SE K W ta wa) : ST K W (fun σ H Q => ta σ H fun x H' => ∃ k, TruV K x H' k ∧ Q k H') (wTru wa) := by
  intro B F om H st r xq k Q R hx hQ hw
  refine ha B F om H st r xq _ _ R hx (fun x r1 om1 F1 H1 y R1 s1 k1 q1 hw => ?_) hw
  obtain ⟨d, e1, hw⟩ := wd_iff hw
  obtain ⟨b, e2, hw⟩ := wd_iff hw
  exact ⟨b, tru_rep R1.rh.sub (R1.datB q1 e1) e2, hQ _ _ _ _ _ R1 s1 k1 hw⟩
theorem st_tst {ta : TE} {wa : WE} (ha : SE K W ta wa) : ST K W (tTest ta) (wTst wa) := by
  intro B F om H st r xq k Q R hx hQ hw
  refine ha B F om H st r xq _ _ R hx (fun x r1 om1 F1 H1 y R1 s1 k1 q1 hw => ?_) hw
  obtain ⟨d, e1, hw⟩ := wd_iff hw
  obtain ⟨b, e2, hw⟩ := wd_iff hw
  obtain rfl := boolD_inv e2
  exact ⟨b, (R1.datB q1 e1).blS, hQ _ _ _ _ _ R1 s1 k1 hw⟩
def wAnd (wa wb : WT) : WT := fun xq r om k => wa xq r om fun b r1 om1 => if b = true then wb xq r1 om1 k else k false r1 om1
def wOr (wa wb : WT) : WT := fun xq r om k => wa xq r om fun b r1 om1 => if b = true then k true r1 om1 else wb xq r1 om1 k
def wNot (wa : WT) : WT := fun xq r om k => wa xq r om fun b r1 om1 => k (!b) r1 om1
theorem st_and {ta tb : TT} {wa wb : WT} (ha : ST K W ta wa) (hb : ST K W tb wb) : ST K W (tAnd ta tb) (wAnd wa wb) := by
  intro B F om H st r xq k Q R hx hQ hw
  refine ha B F om H st r xq _ _ R hx (fun b r1 om1 F1 H1 R1 s1 k1 hw => ?_) hw
  cases b with
  | true => exact hb B F1 om1 H1 st r1 xq k Q R1 hx (fun b' r2 om2 F2 H2 R2 s2 k2 h => hQ _ _ _ _ _ R2 (s1.trans s2) (k1.trans k2) h) hw
  | false => exact hQ _ _ _ _ _ R1 s1 k1 hw
theorem st_or {ta tb : TT} {wa wb : WT} (ha : ST K W ta wa) (hb : ST K W tb wb) : ST K W (tOr ta tb) (wOr wa wb) := by
  intro B F om H st r xq k Q R hx hQ hw
  refine ha B F om H st r xq _ _ R hx (fun b r1 om1 F1 H1 R1 s1 k1 hw => ?_) hw
  cases b with
  | false => exact hb B F1 om1 H1 st r1 xq k Q R1 hx (fun b' r2 om2 F2 H2 R2 s2 k2 h => hQ _ _ _ _ _ R2 (s1.trans s2) (k1.trans k2) h) hw
  | true => exact hQ _ _ _ _ _ R1 s1 k1 hw
theorem st_not {ta : TT} {wa : WT} (ha : ST K W ta wa) : ST K W (tNot ta) (wNot wa) := by
  intro B F om H st r xq k Q R hx hQ hw
  exact ha B F om H st r xq _ _ R hx (fun b r1 om1 F1 H1 R1 s1 k1 hw => hQ _ _ _ _ _ R1 s1 k1 hw) hw
/-- and, or, not as values, of bools -/
def wAndV (wa wb : WE) : WE := fun xq r om k => wa xq r om fun x r1 om1 => wd (datB r1 om1 x) fun d => wd (boolD d) fun b => if b = true then wb xq r1 om1 k else k (.v (.bl false)) r1 om1
def wOrV (wa wb : WE) : WE := fun xq r om k => wa xq r om fun x r1 om1 => wd (datB r1 om1 x) fun d => wd (boolD d) fun b => if b = true then k (.v (.bl true)) r1 om1 else wb xq r1 om1 k
def wNotV (wa : WE) : WE := fun xq r om k => wa xq r om fun x r1 om1 => wd (datB r1 om1 x) fun d => wd (boolD d) fun b => k (.v (.bl (!b))) r1 om1
theorem se_andV {ta tb : TE} {wa wb : WE} (ha : SE K W ta wa) (hb : SE K W tb wb) : SE K W (tAndV ta tb) (wAndV wa wb) := by
  intro B F om H st r xq k Q R hx hQ hw
  refine ha B F om H st r xq _ _ R hx (fun x r1 om1 F1 H1 y R1 s1 k1 q1 hw => ?_) hw
  obtain ⟨d, e1, hw⟩ := wd_iff hw
  obtain ⟨b, e2, hw⟩ := wd_iff hw
  obtain rfl := boolD_inv e2
  refine ⟨b, (R1.datB q1 e1).blS, ?_⟩
  cases b with
  | true => exact hb B F1 om1 H1 st r1 xq k Q R1 hx (fun x r2 om2 F2 H2 y R2 s2 k2 q h => hQ _ _ _ _ _ _ R2 (s1.trans s2) (k1.trans k2) q h) hw
  | false => exact hQ _ _ _ _ _ _ R1 s1 k1 (show Res K B F1 om1 H1 st r1 (.bl false) (.v (.bl false)) from Rep.bl false) hw
theorem se_orV {ta tb : TE} {wa wb : WE} (ha : SE K W ta wa) (hb : SE K W tb wb) : SE K W (tOrV ta tb) (wOrV wa wb) := by
  intro B F om H st r xq k Q R hx hQ hw
  refine ha B F om H st r xq _ _ R hx (fun x r1 om1 F1 H1 y R1 s1 k1 q1 hw => ?_) hw
  obtain ⟨d, e1, hw⟩ := wd_iff hw
  obtain ⟨b, e2, hw⟩ := wd_iff hw
  obtain rfl := boolD_inv e2
  refine ⟨b, (R1.datB q1 e1).blS, ?_⟩
  cases b with
  | false => exact hb B F1 om1 H1 st r1 xq k Q R1 hx (fun x r2 om2 F2 H2 y R2 s2 k2 q h => hQ _ _ _ _ _ _ R2 (s1.trans s2) (k1.trans k2) q h) hw
  | true => exact hQ _ _ _ _ _ _ R1 s1 k1 (show Res K B F1 om1 H1 st r1 (.bl true) (.v (.bl true)) from Rep.bl true) hw
theorem se_notV {ta : TE} {wa : WE} (ha : SE K W ta wa) : SE K W (tNotV ta) (wNotV wa) := by
  intro B F om H st r xq k Q R hx hQ hw
  refine ha B F om H st r xq _ _ R hx (fun x r1 om1 F1 H1 y R1 s1 k1 q1 hw => ?_) hw
  obtain ⟨d, e1, hw⟩ := wd_iff hw
  obtain ⟨b, e2, hw⟩ := wd_iff hw
  obtain rfl := boolD_inv e2
  exact ⟨b, (R1.datB q1 e1).blS, hQ _ _ _ _ _ _ R1 s1 k1 (show Res K B F1 om1 H1 st r1 (.bl (!b)) (.v (.bl (!b))) from Rep.bl _) hw⟩
def wIf (wt : WT) (wa wb : WE) : WE := fun xq r om k => wt xq r om fun b r1 om1 => if b = true then wa xq r1 om1 k else wb xq r1 om1 k
theorem se_if {tt : TT} {wt : WT} {ta tb : TE} {wa wb : WE} (ht : ST K W tt wt) (ha : SE K W ta wa) (hb : SE K W tb wb) : SE K W (tIf tt ta tb) (wIf wt wa wb) := by
  intro B F om H st r xq k Q R hx hQ hw
  refine ht B F om H st r xq _ _ R hx (fun b r1 om1 F1 H1 R1 s1 k1 hw => ?_) hw
  cases b with
  | true => exact ha B F1 om1 H1 st r1 xq k Q R1 hx (fun x r2 om2 F2 H2 y R2 s2 k2 q h => hQ _ _ _ _ _ _ R2 (s1.trans s2) (k1.trans k2) q h) hw
  | false => exact hb B F1 om1 H1 st r1 xq k Q R1 hx (fun x r2 om2 F2 H2 y R2 s2 k2 q h => hQ _ _ _ _ _ _ R2 (s1.trans s2) (k1.trans k2) q h) hw
/-- a op b op c -/
def wChain (p p' : P2) (wa wb wc : WE) : WE := fun xq r om k => wa xq r om fun x r1 om1 => wb xq r1 om1 fun y r2 om2 => wd (datB r2 om2 x) fun d => wd (datB r2 om2 y) fun e =>
  p d e fun z => wd (datB r2 om2 z) fun f => wd (boolD f) fun b => if b = true then wc xq r2 om2 fun u r3 om3 => wd (datB r3 om3 y) fun e' => wd (datB r3 om3 u) fun g => p' e' g fun z => k z r3 om3 else k (.v (.bl false)) r2 om2
theorem se_chain {ta tb tc : TE} {wa wb wc : WE} {rr rr' : R2} {p p' : P2} (ha : SE K W ta wa) (hb : SE K W tb wb) (hc : SE K W tc wc) (hp : S2 K rr p) (hp' : S2 K rr' p') : SE K W (tChain rr rr' ta tb tc) (wChain p p' wa wb wc) := by
  intro B F om H st r xq k Q R hx hQ hw
  refine ha B F om H st r xq _ _ R hx (fun x r1 om1 F1 H1 y R1 s1 k1 q1 hw => ?_) hw
  obtain ⟨F2, s2, R2, q2⟩ := R1.fz q1
  refine hb B F2 om1 H1 st r1 xq _ _ R2 hx (fun x' r3 om3 F3 H3 y' R3 s3 k3 q3 hw => ?_) hw
  obtain ⟨d, e1, hw⟩ := wd_iff hw
  obtain ⟨e, e2, hw⟩ := wd_iff hw
  have q2' := Res.later (H' := H3) (om' := om3) q2 s3 k3
  obtain ⟨F4, s4, R4, q4⟩ := R3.fz q3
  have q2'' := Res.later (H' := H3) (om' := om3) q2' s4 (KeepE.refl _)
  refine hp F4 H3 y y' d e _ _ R4.rh.sub (R4.datB q2'' (datB_fz e1)) (R4.datB q4 (datB_fz e2)) hw fun z v F5 H5 g rp hz => ?_
  obtain ⟨R5, q5⟩ := R4.finish g rp
  obtain ⟨f, e3, hz⟩ := wd_iff hz
  obtain ⟨b, e4, hz⟩ := wd_iff hz
  obtain rfl := boolD_inv e4
  refine ⟨b, (R5.datB q5 e3).blS, ?_⟩
  have s5 : Same F F5 := (((s1.trans s2).trans s3).trans s4).trans g.f
  have q4' := Res.later (H' := H5) (om' := om3) q4 g.f (KeepE.refl _)
  cases b with
  | false => exact hQ _ _ _ _ _ _ R5 s5 (k1.trans k3) (show Res K B F5 om3 H5 st r3 (.bl false) (.v (.bl false)) from Rep.bl false) hz
  | true =>
    refine hc B F5 om3 H5 st r3 xq _ _ R5 hx (fun x6 r6 om6 F6 H6 y6 R6 s6 k6 q6 hz => ?_) hz
    obtain ⟨e', e5, hz⟩ := wd_iff hz
    obtain ⟨g', e6, hz⟩ := wd_iff hz
    have q7 := Res.later (H' := H6) (om' := om6) q4' s6 k6
    refine hp' F6 H6 y' y6 e' g' _ _ R6.rh.sub (R6.datB q7 (datB_fz e5)) (R6.datB q6 e6) hz fun z v F8 H8 g8 rp8 hz => ?_
    obtain ⟨R8, q8⟩ := R6.finish g8 rp8
    exact hQ _ _ _ _ _ _ R8 ((s5.trans s6).trans g8.f) ((k1.trans k3).trans k6) q8 hz
end
end DL

set_option Elab.async false
set_option linter.all false
set_option maxRecDepth 100000
namespace DL
open PySem L2
section
variable {K : PySem.W.Frag} {B : Base} {F F' : Hp} {om : Om} {H H' : Hp} {st : St} {r : Env} {W : WX}
/-! ### statements -/
def wNext : WS := fun e r om => e.nx r om
def wSeq (a b : WS) : WS := fun e r om => a { e with nx := b e } r om
def wIfS (wt : WT) (a b : WS) : WS := fun e r om => wt e.xq r om fun c r1 om1 => if c = true then a e r1 om1 else b e r1 om1
def wDrop (w : WE) : WS := fun e r om => w e.xq r om fun _ r1 om1 => e.nx r1 om1
def noB : RV → Prop
  | .b _ => False
  | _ => True
@[simp] theorem noB_v (d : D) : noB (.v d) = True := rfl
@[simp] theorem noB_o (d : List D) : noB (.o d) = True := rfl
@[simp] theorem noB_b (d : Nat) : noB (.b d) = False := rfl
def wRet (w : WE) : WS := fun e r om => w e.xq r om fun x _ om1 => noB x ∧ e.rt x om1
def wRetN : WS := fun e _ om => e.rt (.v .non) om
def wBrk : WS := fun e r om => e.bk r om
def wCnt : WS := fun e r om => e.ct r om
abbrev GT := RV → Env → (Env → Prop) → Prop
def gN (i : Nat) : GT := fun x r k => noB x ∧ i < r.length ∧ k (r.set i (some x))
def wAsg (w : WE) (g : GT) : WS := fun e r om => w e.xq r om fun x r1 om1 => g x r1 fun r2 => e.nx r2 om1
theorem ss_next : SS K W tNext wNext := fun B F om H st r D e R hx hE hw => hE.nx _ _ _ _ _ R hw
theorem ss_seq {ta tb : TS} {wa wb : WS} (ha : SS K W ta wa) (hb : SS K W tb wb) : SS K W (tSeq ta tb) (wSeq wa wb) := fun B F om H st r D e R hx hE hw =>
  ha B F om H st r { D with nx := tb D } { e with nx := wb e } R hx ⟨fun r1 om1 F1 H1 st1 R1 h => hb B F1 om1 H1 st1 r1 D e R1 hx hE h, hE.rt, hE.bk, hE.ct⟩ hw
theorem ss_if {tt : TT} {wt : WT} {ta tb : TS} {wa wb : WS} (ht : ST K W tt wt) (ha : SS K W ta wa) (hb : SS K W tb wb) : SS K W (tIfS tt ta tb) (wIfS wt wa wb) := fun B F om H st r D e R hx hE hw => by
  refine ht B F om H st r e.xq _ _ R hx (fun b r1 om1 F1 H1 R1 s1 k1 hw => ?_) hw
  cases b with
  | true => exact ha B F1 om1 H1 st r1 D e R1 hx hE hw
  | false => exact hb B F1 om1 H1 st r1 D e R1 hx hE hw
theorem ss_drop {ta : TE} {wa : WE} (ha : SE K W ta wa) : SS K W (tDrop ta) (wDrop wa) := fun B F om H st r D e R hx hE hw =>
  ha B F om H st r e.xq _ _ R hx (fun x r1 om1 F1 H1 y R1 s1 k1 q1 hw => hE.nx _ _ _ _ _ R1 hw) hw
theorem Res.slot {y : V} {x : RV} (h : Res K B F om H st r y x) (hb : noB x) : Slot K B F om H y x := by
  cases x with
  | v d => exact h
  | o ds => obtain ⟨a, e, o, _⟩ := h; exact ⟨a, e, o⟩
  | b i => exact hb.elim
theorem ss_ret {ta : TE} {wa : WE} (ha : SE K W ta wa) : SS K W (tRet ta) (wRet wa) := fun B F om H st r D e R hx hE hw =>
  ha B F om H st r e.xq _ _ R hx (fun x r1 om1 F1 H1 y R1 s1 k1 q1 hw => hE.rt _ _ _ _ _ R1.rh R1.ext (q1.slot hw.1) hw.2) hw
/-- return x, x a name: its list goes out whole -/
theorem ss_retV (i : Nat) : SS K W (tRet (tVar i)) (wRet (wMov i)) := fun B F om H st r D e R hx hE hw => by
  have hw' : wMov i e.xq r om fun x _ om1 => noB x ∧ e.rt x om1 := hw
  unfold wMov at hw'
  cases q : r[i]? with
  | none => rw [q] at hw'; exact hw'.elim
  | some o =>
    rw [q] at hw'
    cases o with
    | none => exact hw'.elim
    | some x =>
      obtain ⟨y, e1, s⟩ := R.slot i x q
      refine ⟨y, e1, ?_⟩
      cases x with
      | v d => exact hE.rt _ _ _ _ _ R.rh R.ext s hw'.2
      | o ds => exact hE.rt _ _ _ _ _ R.rh R.ext s hw'.2
      | b j => exact s.elim
theorem ss_retN : SS K W tRetN wRetN := fun B F om H st r D e R hx hE hw => hE.rt (.v .non) _ _ _ _ R.rh R.ext (show Slot K B F om H .non (.v .non) from Rep.non) hw
theorem ss_brk : SS K W tBreak wBrk := fun B F om H st r D e R hx hE hw => hE.bk _ _ _ _ _ R hw
theorem ss_cnt : SS K W tCont wCnt := fun B F om H st r D e R hx hE hw => hE.ct _ _ _ _ _ R hw
/-- targets -/
def SG (K : PySem.W.Frag) (g : TG) (w : GT) : Prop := ∀ (B : Base) (F : Hp) (om : Om) (H : Hp) (st : St) (r : Env) (y : V) (x : RV) (k : Env → Prop) (Q : St → Hp → Prop),
  Rel K B F om H st r → Res K B F om H st r y x → (∀ st' r', Rel K B F om H st' r' → k r' → Q st' H) → w x r k → g y st H Q
theorem sg_name (i : Nat) : SG K (gName i) (gN i) := fun B F om H st r y x k Q R h hQ hw => by
  obtain ⟨h1, h2, h3⟩ := hw
  exact hQ _ _ (R.put h (fun j z => by rw [z] at h1; exact h1) h2) h3
theorem ss_asg {ta : TE} {wa : WE} {g : TG} {w : GT} (ha : SE K W ta wa) (hg : SG K g w) : SS K W (tAsg ta g) (wAsg wa w) := fun B F om H st r D e R hx hE hw =>
  ha B F om H st r e.xq _ _ R hx (fun x r1 om1 F1 H1 y R1 s1 k1 q1 hw => hg B F1 om1 H1 st r1 y x _ _ R1 q1 (fun st' r' R' h => hE.nx _ _ _ _ _ R' h) hw) hw
/-- targets in a row, given values -/
abbrev GTs := List D → Env → (Env → Prop) → Prop
def gsNil : GTs := fun ds r k => ds = [] ∧ k r
def gsCons (i : Nat) (g : GTs) : GTs := fun ds r k => match ds with
  | [] => False
  | d :: ds => i < r.length ∧ g ds (r.set i (some (.v d))) k
def SGs (K : PySem.W.Frag) (g : TGs) (w : GTs) : Prop := ∀ (B : Base) (F : Hp) (om : Om) (H : Hp) (st : St) (r : Env) (ys : List V) (ds : List D) (k : Env → Prop) (Q : St → Hp → Prop),
  Rel K B F om H st r → RepA K F ys ds → (∀ st' r', Rel K B F om H st' r' → k r' → Q st' H) → w ds r k → g ys st H Q
theorem sgs_nil : SGs K gNil gsNil := fun B F om H st r ys ds k Q R h hQ hw => by
  obtain ⟨rfl, hw⟩ := hw
  cases h
  exact ⟨rfl, hQ _ _ R hw⟩
theorem sgs_cons (i : Nat) {g : TGs} {w : GTs} (hg : SGs K g w) : SGs K (gCons (gName i) g) (gsCons i w) := fun B F om H st r ys ds k Q R h hQ hw => by
  cases h with
  | nil => exact hw.elim
  | cons hr ht =>
    obtain ⟨h1, hw⟩ := hw
    refine ⟨_, _, rfl, ?_⟩
    exact hg B F om H _ _ _ _ _ _ (R.put (x := .v _) hr (fun j z => by cases z) h1) ht hQ hw
/-- (a, b) = a tuple -/
def gT (n : Nat) (g : GTs) : GT := fun x r k => match x with
  | .v (.tup ds) => ds.length = n ∧ g ds r k
  | _ => False
theorem sg_tup {n : Nat} {g : TGs} {w : GTs} (hg : SGs K g w) : SG K (gTup K n g) (gT n w) := fun B F om H st r y x k Q R h hQ hw => by
  cases x with
  | v d =>
    cases d with
    | tup ds =>
      obtain ⟨hl, hw⟩ := hw
      cases h with
      | tup q rr => exact ⟨_, _, rfl, same_sqT R.rh.sub q, by rw [rr.length]; exact hl, hg B F om H st r _ _ _ _ R rr hQ hw⟩
    | _ => exact hw.elim
  | o ds => exact hw.elim
  | b i => exact hw.elim

/-! ### loops -/
def loop (step : D → (Env → Om → Prop) → Env → Om → Prop) : List D → (Env → Om → Prop) → Env → Om → Prop
  | [], fin => fin
  | d :: ds, fin => step d (loop step ds fin)
@[simp] theorem loop_nil (step : D → (Env → Om → Prop) → Env → Om → Prop) (fin : Env → Om → Prop) : loop step [] fin = fin := rfl
theorem loop_cons (step : D → (Env → Om → Prop) → Env → Om → Prop) (d : D) (ds : List D) (fin : Env → Om → Prop) : loop step (d :: ds) fin = step d (loop step ds fin) := rfl
/-- what is walked: the iterator's turns yield the items -/
def ItOk (K : PySem.W.Frag) (J : It) (F : Hp) (items : List D) : Prop :=
  (∀ (i : Nat) (F' H : Hp), Same F F' → Same F' H → items.length ≤ i → J.stop i H) ∧
  (∀ (i : Nat) (d : D) (F' H : Hp), Same F F' → Same F' H → items[i]? = some d → J.go i H ∧ ∀ x H', J.yld i H x H' → ∃ F'', Grow F' H F'' H' ∧ Rep K F'' x d)
def SI (K : PySem.W.Frag) (W : WX) (t : TI) (w : WI) : Prop := ∀ (B : Base) (F : Hp) (om : Om) (H : Hp) (st : St) (r : Env) (xq : DX) (k : List D → Env → Om → Prop) (Q : It → Hp → Prop),
  Rel K B F om H st r → XOk K B W xq →
  (∀ J items r' om' F' H', Rel K B F' om' H' st r' → Same F F' → KeepE r r' → ItOk K J F' items → k items r' om' → Q J H') → w xq r om k → t st H Q
def stepOf (g : GT) (wb : WS) (e : DEnds) : D → (Env → Om → Prop) → Env → Om → Prop := fun d nx r om => g (.v d) r fun r' => wb { e with nx := nx, ct := nx, bk := e.nx } r' om
def wFor (wi : WI) (g : GT) (wb : WS) : WS := fun e r om => wi e.xq r om fun items r1 om1 => loop (stepOf g wb e) items e.nx r1 om1
theorem ss_for {ti : TI} {wi : WI} {g : TG} {w : GT} {tb : TS} {wb : WS} (hi : SI K W ti wi) (hg : SG K g w) (hb : SS K W tb wb) : SS K W (tFor ti g tb) (wFor wi w wb) := fun B F om H st r D e R hx hE hw => by
  refine hi B F om H st r e.xq _ _ R hx (fun J items r1 om1 F1 H1 R1 s1 k1 hJ hw => ?_) hw
  refine ⟨fun i m st' H' => m = items.length - i ∧ ∃ r' om' F', Rel K B F' om' H' st' r' ∧ Same F1 F' ∧ i ≤ items.length ∧ loop (stepOf w wb e) (items.drop i) e.nx r' om', ⟨items.length, by simp, r1, om1, F1, R1, Same.refl _, Nat.zero_le _, by simpa using hw⟩, ?_⟩
  rintro i m st2 H2 ⟨rfl, r2, om2, F2, R2, s2, hle, hl⟩
  by_cases hlt : i < items.length
  · have hd : items.drop i = items[i] :: items.drop (i + 1) := List.drop_eq_getElem_cons hlt
    rw [hd, loop_cons] at hl
    obtain ⟨go, yl⟩ := hJ.2 i items[i] F2 H2 s2 R2.rh.sub (List.getElem?_eq_getElem hlt)
    refine .inr ⟨go, fun st' H' => ∃ r' om' F', Rel K B F' om' H' st' r' ∧ Same F1 F' ∧ loop (stepOf w wb e) (items.drop (i + 1)) e.nx r' om', fun st' H' ⟨r', om', F', R', s', h'⟩ => ⟨items.length - (i + 1), by omega, rfl, r', om', F', R', s', hlt, h'⟩, fun x H' y => ?_⟩
    obtain ⟨F3, g3, rp⟩ := yl x H' y
    have R3 := R2.grow g3.f g3.h g3.new g3.sub
    have hl' : w (.v items[i]) r2 fun r' => wb { e with nx := loop (stepOf w wb e) (items.drop (i + 1)) e.nx, ct := loop (stepOf w wb e) (items.drop (i + 1)) e.nx, bk := e.nx } r' om2 := hl
    refine hg B F3 om2 H' st2 r2 x (.v items[i]) _ _ R3 rp (fun st4 r4 R4 hk => ?_) hl'
    have sub3 : Same F1 F3 := s2.trans g3.f
    -- the body; frozen things stay: remembered by a guard-free argument: every later F contains F1 through B? carried in the wish
    refine hb ⟨F3, B.om, B.H⟩ F3 om2 H' st4 r4 _ { e with nx := loop (stepOf w wb e) (items.drop (i + 1)) e.nx, ct := loop (stepOf w wb e) (items.drop (i + 1)) e.nx, bk := e.nx } ⟨R4.rh, ⟨Same.refl _, fun b o e' n => (by have n' : F3 b = none := n; rw [n'] at e'; cases e'), R4.ext.keep, R4.ext.dom, R4.ext.ob, R4.ext.wf⟩, R4.len, R4.slot, R4.dis⟩ ?_ ?_ hk
    · exact fun ex r5 om5 F5 H5 st5 cls d R5 hex hq => hx ex r5 om5 F5 H5 st5 cls d ⟨R5.rh, ⟨R4.ext.f.trans R5.ext.f, fun b o q n => by
        cases z : F3 b with
        | some u => exact R4.ext.new b u z n
        | none => exact R5.ext.new b o q z, R5.ext.keep, R5.ext.dom, R5.ext.ob, R5.ext.wf⟩, R5.len, R5.slot, R5.dis⟩ hex hq
    · have back : ∀ {r5 : Env} {om5 : Om} {F5 H5 : Hp} {st5 : St}, Rel K ⟨F3, B.om, B.H⟩ F5 om5 H5 st5 r5 → Rel K B F5 om5 H5 st5 r5 ∧ Same F1 F5 := fun {r5 om5 F5 H5 st5} R5 => ⟨⟨R5.rh, ⟨R4.ext.f.trans R5.ext.f, fun b o q n => by
        cases z : F3 b with
        | some u => exact R4.ext.new b u z n
        | none => exact R5.ext.new b o q z, R5.ext.keep, R5.ext.dom, R5.ext.ob, R5.ext.wf⟩, R5.len, R5.slot, R5.dis⟩, sub3.trans R5.ext.f⟩
      refine ⟨fun r5 om5 F5 H5 st5 R5 h => ?_, fun x5 om5 F5 H5 y5 rh5 ex5 sl5 h => ?_, fun r5 om5 F5 H5 st5 R5 h => ?_, fun r5 om5 F5 H5 st5 R5 h => ?_⟩
      · exact ⟨r5, om5, F5, (back R5).1, (back R5).2, h⟩
      · refine hE.rt x5 om5 F5 H5 y5 rh5 ⟨R4.ext.f.trans ex5.f, fun b o q n => ?_, ex5.keep, ex5.dom, ex5.ob, ex5.wf⟩ sl5 h
        cases z : F3 b with
        | some u => exact R4.ext.new b u z n
        | none => exact ex5.new b o q z
      · exact hE.nx _ _ _ _ _ (back R5).1 h
      · exact ⟨r5, om5, F5, (back R5).1, (back R5).2, h⟩
  · have e0 : items.drop i = [] := List.drop_eq_nil_of_le (by omega)
    rw [e0, loop_nil] at hl
    exact .inl ⟨hJ.1 i F2 H2 s2 R2.rh.sub (by omega), hE.nx _ _ _ _ _ R2 hl⟩
/-- while: an invariant with a measure -/
def wWhile (wt : WT) (wb : WS) : WS := fun e r om => ∃ I : Nat → Env → Om → Prop, (∃ m, I m r om) ∧ ∀ m r om, I m r om →
  wt e.xq r om fun b r1 om1 => if b = true then wb { e with nx := fun r' om' => ∃ m', m' < m ∧ I m' r' om', ct := fun r' om' => ∃ m', m' < m ∧ I m' r' om', bk := e.nx } r1 om1 else e.nx r1 om1
theorem ss_while {tt : TT} {wt : WT} {tb : TS} {wb : WS} (ht : ST K W tt wt) (hb : SS K W tb wb) : SS K W (tWhile tt tb) (wWhile wt wb) := fun B F om H st r D e R hx hE hw => by
  obtain ⟨I, ⟨m, i0⟩, hs⟩ := hw
  refine ⟨fun m st H => ∃ r om F, Rel K B F om H st r ∧ I m r om, ⟨m, r, om, F, R, i0⟩, ?_⟩
  rintro m st2 H2 ⟨r2, om2, F2, R2, i2⟩
  refine ht B F2 om2 H2 st2 r2 e.xq _ _ R2 hx (fun b r1 om1 F1 H1 R1 s1 k1 hw => ?_) (hs m r2 om2 i2)
  cases b with
  | true =>
    refine ⟨fun st H => ∃ r om F, Rel K B F om H st r ∧ ∃ m', m' < m ∧ I m' r om, fun st' H' ⟨r', om', F', R', m', hm, i'⟩ => ⟨m', hm, r', om', F', R', i'⟩, ?_⟩
    exact hb B F1 om1 H1 st2 r1 _ { e with nx := fun r' om' => ∃ m', m' < m ∧ I m' r' om', ct := fun r' om' => ∃ m', m' < m ∧ I m' r' om', bk := e.nx } R1 hx ⟨fun r om F H st R h => ⟨r, om, F, R, h⟩, hE.rt, hE.nx, fun r om F H st R h => ⟨r, om, F, R, h⟩⟩ hw
  | false => exact hE.nx _ _ _ _ _ R1 hw
/-- over a list or a tuple -/
def itemsD : D → Option (List D)
  | .lst ds => some ds
  | _ => none
def itemsT : D → Option (List D)
  | .tup ds => some ds
  | _ => none
def wiL (w : WE) : WI := fun xq r om k => w xq r om fun x r1 om1 => match fz x with
  | .v (.lst ds) => k ds r1 om1
  | .v (.frl ds) => k ds r1 om1
  | _ => False
def wiT (w : WE) : WI := fun xq r om k => w xq r om fun x r1 om1 => match x with
  | .v (.tup ds) => k ds r1 om1
  | _ => False
theorem sqL_inj {a : Addr} {xs ys : List V} (h : SqL K F a xs) (h' : SqL K F a ys) (hn : ∀ o, K.lookup a = some o → F a = none) : xs = ys := by
  rcases h with (h | ⟨o, h⟩) | ⟨o, its, n, hk, hc, hd, hs, hz, rv⟩
  · rcases h' with (h' | ⟨o', h'⟩) | ⟨o', its', n', hk', _⟩
    · rw [h] at h'; cases h'; rfl
    · rw [h] at h'; cases h'
    · rw [hn _ hk'] at h; cases h
  · rcases h' with (h' | ⟨o', h'⟩) | ⟨o', its', n', hk', _⟩
    · rw [h] at h'; cases h'
    · rw [h] at h'; cases h'; rfl
    · rw [hn _ hk'] at h; cases h
  · rcases h' with (h' | ⟨o', h'⟩) | ⟨o', its', n', hk', hc', hd', hs', hz', rv'⟩
    · rw [hn _ hk] at h'; cases h'
    · rw [hn _ hk] at h'; cases h'
    · rw [hk] at hk'
      cases hk'
      rw [hs] at hs'
      cases hs'
      exact rv.inj rv'
theorem itok_list {a : Addr} {xs : List V} {ds : List D} (q : SqL K F a xs) (rr : RepA K F xs ds) : ItOk K (Itl K a) F ds := by
  refine ⟨fun i F' H s s' hi => ⟨xs, s'.seq (s.seq q), by rw [rr.length]; exact hi⟩, fun i d F' H s s' hd => ?_⟩
  obtain ⟨x, hx, rp⟩ := rr.getD hd
  refine ⟨⟨xs, x, s'.seq (s.seq q), hx⟩, fun y H' hy => ?_⟩
  obtain ⟨rfl, hy⟩ := hy
  have e := hy xs (s'.seq (s.seq q))
  rw [hx] at e
  cases e
  exact ⟨F', Grow.refl s', rp.mono s⟩
theorem itok_tup {a : Addr} {xs : List V} {ds : List D} (q : SqT K F a xs) (rr : RepA K F xs ds) : ItOk K (Itt K a) F ds := by
  refine ⟨fun i F' H s s' hi => ⟨xs, same_sqT s' (same_sqT s q), by rw [rr.length]; exact hi⟩, fun i d F' H s s' hd => ?_⟩
  obtain ⟨x, hx, rp⟩ := rr.getD hd
  refine ⟨⟨xs, x, same_sqT s' (same_sqT s q), hx⟩, fun y H' hy => ?_⟩
  obtain ⟨rfl, hy⟩ := hy
  have e := hy xs (same_sqT s' (same_sqT s q))
  rw [hx] at e
  cases e
  exact ⟨F', Grow.refl s', rp.mono s⟩
theorem si_list {ta : TE} {wa : WE} (ha : SE K W ta wa) : SI K W (iList K ta) (wiL wa) := by
  intro B F om H st r xq k Q R hx hQ hw
  refine ha B F om H st r xq _ _ R hx (fun x r1 om1 F1 H1 y R1 s1 k1 q1 hw => ?_) hw
  obtain ⟨F2, s2, R2, q2⟩ := R1.fz q1
  cases hz : fz x with
  | v d =>
    rw [hz] at hw q2
    cases d with
    | lst ds =>
      cases q2 with
      | lst q rr => exact ⟨_, rfl, ⟨_, SqL.of (R2.rh.sub _ _ q)⟩, hQ _ _ _ _ _ _ R2 (s1.trans s2) k1 (itok_list (SqL.of q) rr) hw⟩
    | frl ds =>
      cases q2 with
      | frl q rr => exact ⟨_, rfl, ⟨_, R2.rh.sub.seq q⟩, hQ _ _ _ _ _ _ R2 (s1.trans s2) k1 (itok_list q rr) hw⟩
    | _ => exact hw.elim
  | o ds => rw [hz] at hw; exact hw.elim
  | b i => rw [hz] at hw; exact hw.elim
theorem si_tup {ta : TE} {wa : WE} (ha : SE K W ta wa) : SI K W (iTup K ta) (wiT wa) := by
  intro B F om H st r xq k Q R hx hQ hw
  refine ha B F om H st r xq _ _ R hx (fun x r1 om1 F1 H1 y R1 s1 k1 q1 hw => ?_) hw
  cases x with
  | v d =>
    cases d with
    | tup ds =>
      cases q1 with
      | tup q rr => exact ⟨_, rfl, ⟨_, same_sqT R1.rh.sub q⟩, hQ _ _ _ _ _ _ R1 s1 k1 (itok_tup q rr) hw⟩
    | _ => exact hw.elim
  | o ds => exact hw.elim
  | b i => exact hw.elim
/-- lo, lo + 1, .. -/
def rng (lo : Int) (n : Nat) : List D := (List.range n).map fun (k : Nat) => D.int (lo + (k : Int))
theorem rng_len (lo : Int) (n : Nat) : (rng lo n).length = n := by simp [rng]
theorem rng_get {lo : Int} {n i : Nat} {d : D} (h : (rng lo n)[i]? = some d) : i < n ∧ d = .int (lo + i) := by
  unfold rng at h
  rw [List.getElem?_map] at h
  by_cases hi : i < n
  · rw [List.getElem?_range hi] at h
    exact ⟨hi, (Option.some.inj h).symm⟩
  · rw [List.getElem?_eq_none (by simpa using hi)] at h
    cases h
theorem itok_range (lo : Int) (n : Nat) : ItOk K (Itr lo n) F (rng lo n) := by
  refine ⟨fun i F' H s s' hi => by rw [rng_len] at hi; exact hi, fun i d F' H s s' hd => ?_⟩
  obtain ⟨hi, rfl⟩ := rng_get hd
  refine ⟨hi, fun y H' hy => ?_⟩
  obtain ⟨rfl, rfl⟩ := hy
  exact ⟨F', Grow.refl s', Rep.int _⟩
def int1 : List D → Option Int
  | [.int j] => some j
  | _ => none
def int2 : List D → Option (Int × Int)
  | [.int i, .int j] => some (i, j)
  | _ => none
theorem int1_inv {ds : List D} {j : Int} (h : int1 ds = some j) : ds = [.int j] := by
  unfold int1 at h
  split at h
  · cases h; rfl
  · cases h
theorem int2_inv {ds : List D} {j : Int × Int} (h : int2 ds = some j) : ds = [.int j.1, .int j.2] := by
  unfold int2 at h
  split at h
  · cases h; rfl
  · cases h
def wiR1 (wa : WA) : WI := fun xq r om k => wa xq r om fun xs r1 om1 => wd (datsB r1 om1 xs) fun ds => wd (int1 ds) fun j =>
  (-(2 ^ 62) ≤ j ∧ j < 2 ^ 62) ∧ k (rng 0 j.toNat) r1 om1
def wiR2 (wa : WA) : WI := fun xq r om k => wa xq r om fun xs r1 om1 => wd (datsB r1 om1 xs) fun ds => wd (int2 ds) fun p =>
  (-(2 ^ 62) ≤ p.1 ∧ p.1 < 2 ^ 62 ∧ -(2 ^ 62) ≤ p.2 ∧ p.2 < 2 ^ 62) ∧ k (rng p.1 (p.2 - p.1).toNat) r1 om1
theorem repBs1 {ys : List V} {d : D} (h : RepBs K F H ys [d]) : ∃ y, ys = [y] ∧ RepB K F H y d := by
  match ys, h with
  | [y], h => exact ⟨y, rfl, h.1⟩
  | [], h => exact h.elim
  | _ :: _ :: _, h => exact h.2.elim
theorem repBs2 {ys : List V} {d e : D} (h : RepBs K F H ys [d, e]) : ∃ y z, ys = [y, z] ∧ RepB K F H y d ∧ RepB K F H z e := by
  match ys, h with
  | [y, z], h => exact ⟨y, z, rfl, h.1, h.2.1⟩
  | [], h => exact h.elim
  | [_], h => exact h.2.elim
  | _ :: _ :: _ :: _, h => exact h.2.2.elim
theorem si_r1 {ta : TA} {wa : WA} (ha : SA K W ta wa) : SI K W (iRng1 ta) (wiR1 wa) := by
  intro B F om H st r xq k Q R hx hQ hw
  refine ha B F om H st r xq _ _ R hx (fun xs r1 om1 F1 H1 ys R1 s1 k1 q1 hw => ?_) hw
  obtain ⟨ds, e1, hw⟩ := wd_iff hw
  have rb := R1.datsB q1 e1
  obtain ⟨j, e2, hw⟩ := wd_iff hw
  obtain rfl := int1_inv e2
  obtain ⟨y, rfl, h⟩ := repBs1 rb
  obtain rfl := h.intS
  exact ⟨j, rfl, hw.1.1, hw.1.2, hQ _ _ _ _ _ _ R1 s1 k1 (itok_range 0 j.toNat) hw.2⟩
theorem si_r2 {ta : TA} {wa : WA} (ha : SA K W ta wa) : SI K W (iRng2 ta) (wiR2 wa) := by
  intro B F om H st r xq k Q R hx hQ hw
  refine ha B F om H st r xq _ _ R hx (fun xs r1 om1 F1 H1 ys R1 s1 k1 q1 hw => ?_) hw
  obtain ⟨ds, e1, hw⟩ := wd_iff hw
  have rb := R1.datsB q1 e1
  obtain ⟨⟨i, j⟩, e2, hw⟩ := wd_iff hw
  obtain rfl := int2_inv e2
  obtain ⟨y, z, rfl, h, h'⟩ := repBs2 rb
  obtain rfl := h.intS
  obtain rfl := h'.intS
  exact ⟨i, j, rfl, hw.1, hQ _ _ _ _ _ _ R1 s1 k1 (itok_range i (j - i).toNat) hw.2⟩
end
end DL

set_option Elab.async false
set_option linter.all false
set_option maxRecDepth 100000
namespace DL
open PySem L2
def oset (om : Om) (a : Addr) (ob : Ob) : Om := fun b => if b = a then some ob else om b
theorem oset_same {om : Om} {a : Addr} {ob : Ob} : oset om a ob a = some ob := if_pos rfl
theorem oset_ne {om : Om} {a b : Addr} {ob : Ob} (h : b ≠ a) : oset om a ob b = om b := if_neg h
theorem oset_set {om : Om} {a : Addr} {o u : Ob} : oset (oset om a o) a u = oset om a u := by
  funext b; unfold oset; split <;> rfl
theorem oset_id {om : Om} {a : Addr} {o : Ob} (h : om a = some o) : oset om a o = om := by
  funext b; unfold oset; split
  · next e => rw [e, h]
  · rfl
section
variable {K : PySem.W.Frag} {B : Base} {F F' : Hp} {om : Om} {H H' : Hp} {st : St} {r : Env} {W : WX}
/-- a handle's list is written -/
theorem Rel.writeH (R : Rel K B F om H st r) {a : Addr} {ob ob' : Ob} {ys : List V} (e : om a = some ob) (hr : ObOk K F (some (.lst ys)) ob') : Rel K B F (oset om a ob') (upd H a (.lst ys)) st r := by
  obtain ⟨f1, o1⟩ := R.rh.obj a ob e
  obtain ⟨u, hu⟩ := o1.some
  have nB : B.om a = none → B.H a = none := fun n => R.ext.ob a ob e n
  refine ⟨⟨fun b v q => ?_, fun b v q => ?_⟩, ⟨R.ext.f, R.ext.new, fun b v q n => ?_, fun b q => ?_, fun b v q n => ?_, R.ext.wf⟩, R.len, fun j z q => ?_, R.dis⟩
  · have nb : b ≠ a := fun z => by rw [z, f1] at q; cases q
    rw [upd_ne nb]; exact R.rh.sub b v q
  · by_cases hb : b = a
    · subst hb
      rw [oset_same] at q
      cases q
      rw [upd_same]
      exact ⟨f1, hr⟩
    · rw [oset_ne hb] at q
      rw [upd_ne hb]
      exact R.rh.obj b v q
  · by_cases hb : b = a
    · subst hb; rw [nB n] at q; cases q
    · rw [upd_ne hb]; exact R.ext.keep b v q n
  · by_cases hb : b = a
    · subst hb; rw [upd_same] at q; cases q
    · rw [upd_ne hb] at q; exact R.ext.dom b q
  · by_cases hb : b = a
    · subst hb; exact nB n
    · rw [oset_ne hb] at q; exact R.ext.ob b v q n
  · obtain ⟨y, e1, s⟩ := R.slot j z q
    refine ⟨y, e1, ?_⟩
    cases z with
    | v d => exact s
    | o d1 =>
      obtain ⟨c, rfl, p1, p2, p3, zs, p4, p5⟩ := s
      have nb : c ≠ a := fun z => by rw [z, e] at p2; cases p2
      exact ⟨c, rfl, p1, by rw [oset_ne nb]; exact p2, p3, zs, by rw [upd_ne nb]; exact p4, p5⟩
    | b _ => exact s
/-- an own list becomes a handle -/
theorem Rel.toH (R : Rel K B F om H st r) {a : Addr} {ds : List D} {ob : Ob} (o : Own K B F om H a ds) (h5 : ∀ (j : Nat) (es : List D), r[j]? = some (some (.o es)) → st[j]? ≠ some (some (.ref a))) (hob : ∀ xs, RepA K F xs ds → ObOk K F (some (.lst xs)) ob) : Rel K B F (oset om a ob) H st r := by
  obtain ⟨o1, o2, o3, xs, o4, o5⟩ := o
  refine ⟨⟨R.rh.sub, fun b v q => ?_⟩, ⟨R.ext.f, R.ext.new, R.ext.keep, R.ext.dom, fun b v q n => ?_, R.ext.wf⟩, R.len, fun j z q => ?_, R.dis⟩
  · by_cases hb : b = a
    · subst hb
      rw [oset_same] at q
      cases q
      rw [o4]
      exact ⟨o1, hob xs o5⟩
    · rw [oset_ne hb] at q
      exact R.rh.obj b v q
  · by_cases hb : b = a
    · subst hb; exact o3
    · rw [oset_ne hb] at q; exact R.ext.ob b v q n
  · obtain ⟨y, e1, s⟩ := R.slot j z q
    refine ⟨y, e1, ?_⟩
    cases z with
    | v d => exact s
    | o d1 =>
      obtain ⟨c, rfl, p1, p2, p3, zs, p4, p5⟩ := s
      have nb : c ≠ a := fun z => h5 j d1 q (by rw [e1, z])
      exact ⟨c, rfl, p1, by rw [oset_ne nb]; exact p2, p3, zs, p4, p5⟩
    | b _ => exact s
/-! ### methods that change a list -/
abbrev MutP := List D → List D → (List D → D → Prop) → Prop
def SM (K : PySem.W.Frag) (rr : V → List V → Hp → VK → Prop) (p : MutP) : Prop := ∀ (F H : Hp) (a : Addr) (xs : List V) (ds : List D) (ys : List V) (args : List D) (c : List D → D → Prop) (Q : VK),
  Same F H → H a = some (.lst xs) → RepA K F xs ds → RepA K F ys args → p ds args c → (∀ ds' xs' d v, RepA K F xs' ds' → Rep K F v d → c ds' d → Q v (upd H a (.lst xs'))) → rr (.ref a) ys H Q
def isSlot (r : Env) (i : Nat) : Prop := ∃ y, r[i]? = some (some y)
def isL (om : Om) : RV → Bool
  | .o _ => true
  | .v (.h a) => match om a with
    | some (.lst _) => true
    | _ => false
  | _ => false
def wMutE (i : Nat) (p : (List D → (List D → D → Prop) → Prop)) : Env → Om → (RV → Env → Om → Prop) → Prop := fun r om k => match r[i]? with
  | some (some (.o ds)) => p ds fun ds' z => k (.v z) (r.set i (some (.o ds'))) om
  | some (some (.v (.h a))) => match om a with
    | some (.lst ds) => p ds fun ds' z => k (.v z) r (oset om a (.lst ds'))
    | _ => False
  | _ => False
def lstS (om : Om) (r : Env) (i : Nat) : Prop := match r[i]? with
  | some (some x) => isL om x = true
  | _ => False
def wMut (i : Nat) (p : MutP) (wa : WA) : WE := fun xq r om k => lstS om r i ∧ wa xq r om fun xs r1 om1 => wd (datsE xs) fun args => wMutE i (fun ds => p ds args) r1 om1 k
theorem mut_core {i : Nat} {p : (List D → (List D → D → Prop) → Prop)} {k : RV → Env → Om → Prop} (R : Rel K B F om H st r) (hw : wMutE i p r om k) :
    ∃ a xs ds c, st[i]? = some (some (.ref a)) ∧ H a = some (.lst xs) ∧ RepA K F xs ds ∧ p ds c ∧ ∀ ds' xs' d v, RepA K F xs' ds' → Rep K F v d → c ds' d → ∃ r' om', Rel K B F om' (upd H a (.lst xs')) st r' ∧ KeepE r r' ∧ k (.v d) r' om' := by
  unfold wMutE at hw
  cases e : r[i]? with
  | none => rw [e] at hw; exact hw.elim
  | some o =>
    rw [e] at hw
    cases o with
    | none => exact hw.elim
    | some x =>
      obtain ⟨y, e1, s⟩ := R.slot i x e
      cases x with
      | o ds =>
        obtain ⟨a, rfl, o1, o2, o3, xs, o4, o5⟩ := s
        exact ⟨a, xs, ds, _, e1, o4, o5, hw, fun ds' xs' d v h1 h2 h3 => ⟨_, _, R.write e e1 h1, KeepE.set, h3⟩⟩
      | b j => exact s.elim
      | v d =>
        cases d with
        | h a =>
          cases s
          simp only at hw
          cases q : om a with
          | none => rw [q] at hw; exact hw.elim
          | some ob =>
            rw [q] at hw
            cases ob with
            | lst ds =>
              obtain ⟨xs, o4, o5⟩ := (R.rh.obj a _ q).2.lst
              exact ⟨a, xs, ds, _, e1, o4, o5, hw, fun ds' xs' d v h1 h2 h3 => ⟨_, _, R.writeH (ob' := .lst ds') q h1, KeepE.refl _, h3⟩⟩
            | lstP P => exact hw.elim
        | _ => exact hw.elim
theorem lstS_ty (R : Rel K B F om H st r) {i : Nat} (h : lstS om r i) : ∃ y, st[i]? = some (some y) ∧ tyV K "list" y H := by
  unfold lstS at h
  cases e : r[i]? with
  | none => rw [e] at h; exact h.elim
  | some o =>
    rw [e] at h
    cases o with
    | none => exact h.elim
    | some x =>
      obtain ⟨y, e1, s⟩ := R.slot i x e
      refine ⟨y, e1, ?_⟩
      cases x with
      | o ds =>
        obtain ⟨a, rfl, o1, o2, o3, xs, o4, o5⟩ := s
        exact .inl ⟨rfl, xs, SqL.of o4⟩
      | b j => exact s.elim
      | v d =>
        cases d with
        | h a =>
          cases s
          have h' : (match om a with | some (.lst _) => true | _ => false) = true := h
          cases q : om a with
          | none => rw [q] at h'; cases h'
          | some ob =>
            rw [q] at h'
            cases ob with
            | lst ds =>
              obtain ⟨xs, o4, o5⟩ := (R.rh.obj a _ q).2.lst
              exact .inl ⟨rfl, xs, SqL.of o4⟩
            | lstP P => cases h'
        | _ => cases h
theorem se_mut {i : Nat} {p : MutP} {ta : TA} {wa : WA} {rr : V → List V → Hp → VK → Prop} (ha : SA K W ta wa) (hp : SM K rr p) : SE K W (tBM K "list" rr (tVar i) ta) (wMut i p wa) := by
  intro B F om H st r xq k Q R hx hQ hw
  obtain ⟨hl, hw⟩ := hw
  obtain ⟨y, e1, ty⟩ := lstS_ty R hl
  refine ⟨y, e1, ty, ?_⟩
  refine ha B F om H st r xq _ _ R hx (fun xs r1 om1 F1 H1 ys R1 s1 k1 q1 hw => ?_) hw
  obtain ⟨args, e2, hw⟩ := wd_iff hw
  obtain ⟨a, xs', ds, c, e3, h4, h5, h6, h7⟩ := mut_core R1 hw
  rw [e1] at e3
  cases e3
  refine hp F1 H1 a xs' ds ys args c _ R1.rh.sub h4 h5 (datsE_rep q1 e2) h6 fun ds' zs d v g1 g2 g3 => ?_
  obtain ⟨r', om', R', k', h'⟩ := h7 ds' zs d v g1 g2 g3
  exact hQ (.v d) _ _ _ _ _ R' s1 (k1.trans k') g2 h'
/-- x.m() without arguments -/
def wMut0 (i : Nat) (p : MutP) : WE := fun xq r om k => wMutE i (fun ds => p ds []) r om k
theorem se_mut0 {i : Nat} {p : MutP} {rr : V → List V → Hp → VK → Prop} (hp : SM K rr p) : SE K W (tBM0 K "list" rr (tVar i)) (wMut0 i p) := by
  intro B F om H st r xq k Q R hx hQ hw
  obtain ⟨a, xs', ds, c, e3, h4, h5, h6, h7⟩ := mut_core R hw
  refine ⟨_, e3, .inl ⟨rfl, _, SqL.of h4⟩, ?_⟩
  refine hp F H a xs' ds [] [] c _ R.rh.sub h4 h5 .nil h6 fun ds' zs d v g1 g2 g3 => ?_
  obtain ⟨r', om', R', k', h'⟩ := h7 ds' zs d v g1 g2 g3
  exact hQ (.v d) _ _ _ _ _ R' (Same.refl _) k' g2 h'
def mApp : MutP := fun ds args c => match args with
  | [d] => ds.length < sizeLine ∧ c (ds ++ [d]) .non
  | _ => False
theorem sm_append : SM K rAppend mApp := by
  intro F H a xs ds ys args c Q s hH h1 h2 hp hQ
  match args, h2, hp with
  | [d], .cons h .nil, hp =>
    exact ⟨a, xs, _, rfl, rfl, hH, by rw [h1.length]; exact hp.1, hQ _ _ _ _ (h1.append (.cons h .nil)) .non hp.2⟩
/-- x[i] = e -/
def intD : D → Option Int
  | .int i => some i
  | _ => none
theorem intD_inv {d : D} {i : Int} (h : intD d = some i) : d = .int i := by
  cases d with
  | int j => cases h; rfl
  | _ => cases h
def wSet (i : Nat) (wi we : WE) : WS := fun e r om => we e.xq r om fun x r1 om1 => lstS om1 r1 i ∧ wi e.xq r1 om1 fun y r2 om2 => wd (datE x) fun d => wd (datB r2 om2 y) fun j => wd (intD j) fun n =>
  wMutE i (fun ds c => wd (ixN ds.length n) fun m => c (ds.set m d) .non) r2 om2 fun _ r3 om3 => e.nx r3 om3
theorem ss_set {i : Nat} {ti te : TE} {wi we : WE} (hi : SE K W ti wi) (he : SE K W te we) : SS K W (tAsg te (gSub (tVar i) ti rSetL)) (wSet i wi we) := fun B F om H st r D e R hx hE hw => by
  refine he B F om H st r e.xq _ _ R hx (fun x r1 om1 F1 H1 y R1 s1 k1 q1 hw => ?_) hw
  obtain ⟨hl, hw⟩ := hw
  obtain ⟨F2, s2, R2, q2⟩ := R1.fz q1
  obtain ⟨z, e1, ty⟩ := lstS_ty R1 hl
  refine ⟨z, e1, ?_⟩
  refine hi B F2 om1 H1 st r1 e.xq _ _ R2 hx (fun x' r3 om3 F3 H3 y' R3 s3 k3 q3 hw => ?_) hw
  obtain ⟨d, e4, hw1⟩ := wd_iff hw
  obtain ⟨j, e5, hw2⟩ := wd_iff hw1
  obtain ⟨n, e6, hw3⟩ := wd_iff hw2
  clear hw hw1 hw2
  obtain rfl := intD_inv e6
  obtain ⟨a, xs, ds, c, e3, h4, h5, h6, h7⟩ := mut_core R3 hw3
  obtain ⟨m, e7, h6⟩ := wd_iff h6
  rw [e1] at e3
  cases e3
  obtain rfl := (R3.datB q3 e5).intS
  have rp : Rep K F3 y d := (datE_rep q2 e4).mono s3
  obtain ⟨r', om', R', k', h'⟩ := h7 (ds.set m d) (xs.set m y) .non .non (h5.set rp m) .non h6
  exact ⟨a, xs, n, m, rfl, rfl, h4, by rw [h5.length]; exact e7, hE.nx _ _ _ _ _ R' h'⟩

/-! ### calls of defs -/
theorem Ext.refl (R : RelH K F om H) : Ext ⟨F, om, H⟩ F om H := ⟨Same.refl _, fun b o e n => (by have n' : F b = none := n; rw [n'] at e; cases e), fun _ _ e _ => e, fun _ e => e, fun b o e n => (by have n' : om b = none := n; rw [n'] at e; cases e), fun b e => (by
  show om b = none
  cases q : om b with
  | none => rfl
  | some ob =>
    obtain ⟨u, hu⟩ := (R.obj b ob q).2.some
    have e' : H b = none := e
    rw [e'] at hu; cases hu)⟩
/-- a def's promise, over data -/
structure Con where
  n : Nat
  df : DF
  len : ∀ ds om k xk, df ds om k xk → ds.length = n
  mono : ∀ ds om k k' xk xk', (∀ x om', k x om' → k' x om') → (∀ ex om', xk ex om' → xk' ex om') → df ds om k xk → df ds om k' xk'
def toSp (K : PySem.W.Frag) (c : Con) : Sp := fun vs H Q E => ∃ (F : Hp) (om : Om) (ds : List D), RelH K F om H ∧ RepA K F vs ds ∧
  c.df ds om (fun x om' => ∀ F' H' y, RelH K F' om' H' → Ext ⟨F, om, H⟩ F' om' H' → Slot K ⟨F, om, H⟩ F' om' H' y x → Q y H')
    (fun ex om' => ∀ F' H' cls d, RelH K F' om' H' → Ext ⟨F, om, H⟩ F' om' H' → ExOk K F' cls d ex → E cls d H')
theorem toSp_len {c : Con} {vs : List V} {Q : VK} {E : XK} (h : toSp K c vs H Q E) : vs.length = c.n := by
  obtain ⟨F, om, ds, _, h2, h3⟩ := h
  rw [h2.length]
  exact c.len _ _ _ _ h3
theorem Rel.call (R : Rel K B F om H st r) {om' : Om} (rh : RelH K F' om' H') (ex : Ext ⟨F, om, H⟩ F' om' H') : Rel K B F' om' H' st r := by
  have dom : ∀ b u, H b = some u → ∃ v, H' b = some v := fun b u e => by
    cases q : H' b with
    | some v => exact ⟨v, rfl⟩
    | none =>
      have z : H b = none := ex.dom b q
      rw [e] at z; cases z
  have omn : ∀ a u, H a = some u → om a = none → om' a = none := fun a u e n => by
    cases q : om' a with
    | none => rfl
    | some ob =>
      have z : H a = none := ex.ob a ob q n
      rw [e] at z; cases z
  refine ⟨rh, ⟨R.ext.f.trans ex.f, fun b o e n => ?_, fun b o e n => ?_, fun b e => R.ext.dom b (ex.dom b e), fun b o e n => ?_, R.ext.wf⟩, R.len, fun i x e => ?_, R.dis⟩
  · cases q : F b with
    | some u => exact R.ext.new b u q n
    | none => exact R.ext.dom b (ex.new b o e q)
  · have h1 := R.ext.keep b o e n
    have h2 : om b = none := by
      cases q : om b with
      | none => rfl
      | some ob => rw [R.ext.ob b ob q n] at e; cases e
    exact ex.keep b o h1 h2
  · cases q : om b with
    | some ob => exact R.ext.ob b ob q n
    | none => exact R.ext.dom b (ex.ob b o e q)
  · obtain ⟨y, e1, s⟩ := R.slot i x e
    refine ⟨y, e1, ?_⟩
    cases x with
    | v d => exact Rep.mono ex.f s
    | o ds =>
      obtain ⟨a, rfl, o1, o2, o3, xs, o4, o5⟩ := s
      refine ⟨a, rfl, ?_, omn a _ o4 o2, o3, xs, ex.keep a _ o4 o2, o5.mono ex.f⟩
      cases q : F' a with
      | none => rfl
      | some u =>
        have z : H a = none := ex.new a u q o1
        rw [o4] at z; cases z
    | b _ => exact s
theorem Rel.callRes (R : Rel K B F om H st r) {om' : Om} (rh : RelH K F' om' H') (ex : Ext ⟨F, om, H⟩ F' om' H') {y : V} {x : RV} (s : Slot K ⟨F, om, H⟩ F' om' H' y x) : Res K B F' om' H' st r y x := by
  cases x with
  | v d => exact s
  | b _ => exact s.elim
  | o ds =>
    obtain ⟨a, rfl, o1, o2, o3, xs, o4, o5⟩ := s
    have o3' : H a = none := o3
    refine ⟨a, rfl, ⟨o1, o2, R.ext.dom a o3', xs, o4, o5⟩, fun j es e z => ?_⟩
    obtain ⟨y, e1, a', e2, _, _, _, ys, e3, _⟩ := R.slot j (.o es) e
    rw [z] at e1
    cases e1
    cases e2
    rw [o3'] at e3; cases e3
def wCall (df : DF) (dds : List D) (wa : WA) : WE := fun xq r om k => wa xq r om fun xs r1 om1 => wd (datsE xs) fun ds => df (ds ++ dds) om1 (fun x om' => k x r1 om') (fun ex om' => xq ex r1 om')
theorem call_core {c : Con} {ys : List V} {ds : List D} {xq : DX} {k : RV → Om → Prop} {Q : VK} (R : Rel K B F om H st r) (hx : XOk K B W xq) (rp : RepA K F ys ds)
    (hQ : ∀ x om' F' H' y, Rel K B F' om' H' st r → Same F F' → Res K B F' om' H' st r y x → k x om' → Q y H') (hw : c.df ds om k (fun ex om' => xq ex r om')) : toSp K c ys H Q (L2.WE W st) := by
  refine ⟨F, om, ds, R.rh, rp, c.mono ds om _ _ _ _ (fun x om' hk F' H' y rh ex s => ?_) (fun e om' hk F' H' cls d rh ex he => ?_) hw⟩
  · exact hQ x om' F' H' y (R.call rh ex) ex.f (R.callRes rh ex s) hk
  · exact hx e r om' F' H' st cls d (R.call rh ex) he hk
theorem se_call {c : Con} {dvs : List V} {dds : List D} {ta : TA} {wa : WA} (ha : SA K W ta wa) (hd : ∀ F, RepA K F dvs dds) : SE K W (tCallSD (toSp K c) dvs (L2.WE W) ta) (wCall c.df dds wa) := by
  intro B F om H st r xq k Q R hx hQ hw
  refine ha B F om H st r xq _ _ R hx (fun xs r1 om1 F1 H1 ys R1 s1 k1 q1 hw => ?_) hw
  obtain ⟨ds, e1, hw⟩ := wd_iff hw
  exact call_core R1 hx ((datsE_rep q1 e1).append (hd F1)) (fun x om' F' H' y R' s' q' hk => hQ _ _ _ _ _ _ R' (s1.trans s') k1 q' hk) hw
/-! ### the body of a def -/
def startE (n : Nat) (ds : List D) : Env := ds.map (fun d => some (.v d)) ++ List.replicate (n - ds.length) none
theorem start_rel {N : List Str} {vs : List V} {ds : List D} (R : RelH K F om H) (rp : RepA K F vs ds) : Rel K ⟨F, om, H⟩ F om H (L2.start N vs) (startE N.length ds) := by
  have hl := rp.length
  refine ⟨R, Ext.refl R, by simp [startE, L2.start, hl], fun i x e => ?_, fun i j a ds' es e1 => ?_⟩
  · by_cases hi : i < ds.length
    · unfold startE at e
      rw [List.getElem?_append_left (by simpa using hi), List.getElem?_map] at e
      cases q : ds[i]? with
      | none => rw [q] at e; cases e
      | some d =>
        rw [q] at e
        obtain rfl : RV.v d = x := Option.some.inj (Option.some.inj e)
        obtain ⟨y, hy, rr⟩ := rp.getD q
        refine ⟨y, ?_, rr⟩
        unfold L2.start
        rw [List.getElem?_append_left (by simp; omega), List.getElem?_map, hy]
        rfl
    · unfold startE at e
      rw [List.getElem?_append_right (by simpa using hi), List.getElem?_replicate] at e
      split at e <;> cases e
  · exfalso
    by_cases hi : i < ds.length
    · unfold startE at e1
      rw [List.getElem?_append_left (by simpa using hi), List.getElem?_map] at e1
      cases q : ds[i]? with
      | none => rw [q] at e1; cases e1
      | some d => rw [q] at e1; cases e1
    · unfold startE at e1
      rw [List.getElem?_append_right (by simpa using hi), List.getElem?_replicate] at e1
      split at e1 <;> cases e1
/-- what a body is to reach -/
def endOf (k : RV → Om → Prop) (xk : Exn → Om → Prop) : DEnds := { nx := fun _ om => k (.v .non) om, rt := k, xq := fun ex _ om => xk ex om }
theorem body_ok {N : List Str} {c : Con} {t : TS} {w : WS} {vs : List V} {Q : VK} {E : XK} (hs : SS K (fun cls d _ H => E cls d H) t w) (hw : ∀ ds om k xk, c.df ds om k xk → w (endOf k xk) (startE N.length ds) om) (h : toSp K c vs H Q E) :
    t { nx := fun _ H' => Q .non H', rt := Q } (L2.start N vs) H := by
  obtain ⟨F, om, ds, R, rp, hd⟩ := h
  refine hs ⟨F, om, H⟩ F om H (L2.start N vs) (startE N.length ds) _ (endOf (fun x om' => ∀ F' H' y, RelH K F' om' H' → Ext ⟨F, om, H⟩ F' om' H' → Slot K ⟨F, om, H⟩ F' om' H' y x → Q y H')
    (fun ex om' => ∀ F' H' cls d, RelH K F' om' H' → Ext ⟨F, om, H⟩ F' om' H' → ExOk K F' cls d ex → E cls d H')) (start_rel R rp) (fun ex r om' F' H' st' cls d R' he hq => hq F' H' cls d R'.rh R'.ext he) ⟨fun r om' F' H' st' R' hn => hn F' H' .non R'.rh R'.ext Rep.non, fun x om' F' H' y rh ex s hn => hn F' H' y rh ex s, fun _ _ _ _ _ _ z => z.elim, fun _ _ _ _ _ _ z => z.elim⟩ (hw ds om _ _ hd)
end
end DL

set_option Elab.async false
set_option linter.all false
set_option maxRecDepth 100000
namespace DL
open PySem L2
/-! ### comprehensions -/
def wipeE (r : Env) : List Nat → Env
  | [] => r
  | v :: vs => (wipeE r vs).set v none
theorem wipeE_len (r : Env) : ∀ vs : List Nat, (wipeE r vs).length = r.length
  | [] => rfl
  | v :: vs => by unfold wipeE; rw [List.length_set, wipeE_len r vs]
theorem wipeE_some {r : Env} {i : Nat} {x : RV} : ∀ {vs : List Nat}, (wipeE r vs)[i]? = some (some x) → r[i]? = some (some x) ∧ i ∉ vs
  | [], h => ⟨h, by simp⟩
  | v :: vs, h => by
    unfold wipeE at h
    by_cases hi : v = i
    · subst hi
      by_cases hv : v < (wipeE r vs).length
      · rw [List.getElem?_set_self hv] at h; cases h
      · rw [List.getElem?_eq_none (by simpa using hv)] at h; cases h
    · rw [List.getElem?_set_ne hi] at h
      obtain ⟨h1, h2⟩ := wipeE_some h
      exact ⟨h1, by simp only [List.mem_cons, not_or]; exact ⟨fun e => hi e.symm, h2⟩⟩
theorem wipe_at {st : St} {i : Nat} : ∀ {vs : List Nat}, i ∈ vs → i < st.length → (wipe st vs)[i]? = some none
  | [], h, _ => by cases h
  | v :: vs, h, hl => by
    unfold wipe
    by_cases hi : v = i
    · subst hi; rw [List.getElem?_set_self (by rw [wipe_length]; exact hl)]
    · rw [List.getElem?_set_ne hi]
      exact wipe_at (by simpa [Ne.symm hi] using h) hl
theorem wipe_same {st st' : St} {vs : List Nat} (hl : st'.length = st.length) (h : ∀ j, j ∉ vs → st'[j]? = st[j]?) : wipe st' vs = wipe st vs := by
  apply List.ext_getElem?
  intro j
  by_cases hj : j ∈ vs
  · by_cases hb : j < st.length
    · rw [wipe_at hj hb, wipe_at hj (by rw [hl]; exact hb)]
    · rw [List.getElem?_eq_none (by rw [wipe_length]; omega), List.getElem?_eq_none (by rw [wipe_length]; omega)]
  · rw [wipe_out hj, wipe_out hj]; exact h j hj
section
variable {K : PySem.W.Frag} {B : Base} {F F' : Hp} {om : Om} {H H' : Hp} {st : St} {r : Env} {W : WX}
/-- targets of a comprehension: they change the slots vs alone -/
def SGv (K : PySem.W.Frag) (vs : List Nat) (g : TG) (w : GT) : Prop := ∀ (B : Base) (F : Hp) (om : Om) (H : Hp) (st : St) (r : Env) (y : V) (x : RV) (k : Env → Prop) (Q : St → Hp → Prop),
  Rel K B F om H st r → Res K B F om H st r y x → (∀ st' r', Rel K B F om H st' r' → st'.length = st.length → (∀ j, j ∉ vs → st'[j]? = st[j]?) → k r' → Q st' H) → w x r k → g y st H Q
theorem sgv_name {vs : List Nat} (i : Nat) (hi : i ∈ vs) : SGv K vs (gName i) (gN i) := fun B F om H st r y x k Q R h hQ hw => by
  obtain ⟨h1, h2, h3⟩ := hw
  exact hQ _ _ (R.put h (fun j z => by rw [z] at h1; exact h1) h2) (by simp) (fun j hj => List.getElem?_set_ne fun e => hj (by rw [← e]; exact hi)) h3
def SGvs (K : PySem.W.Frag) (vs : List Nat) (g : TGs) (w : GTs) : Prop := ∀ (B : Base) (F : Hp) (om : Om) (H : Hp) (st : St) (r : Env) (ys : List V) (ds : List D) (k : Env → Prop) (Q : St → Hp → Prop),
  Rel K B F om H st r → RepA K F ys ds → (∀ st' r', Rel K B F om H st' r' → st'.length = st.length → (∀ j, j ∉ vs → st'[j]? = st[j]?) → k r' → Q st' H) → w ds r k → g ys st H Q
theorem sgvs_nil {vs : List Nat} : SGvs K vs gNil gsNil := fun B F om H st r ys ds k Q R h hQ hw => by
  obtain ⟨rfl, hw⟩ := hw
  cases h
  exact ⟨rfl, hQ _ _ R rfl (fun _ _ => rfl) hw⟩
theorem sgvs_cons {vs : List Nat} (i : Nat) (hi : i ∈ vs) {g : TGs} {w : GTs} (hg : SGvs K vs g w) : SGvs K vs (gCons (gName i) g) (gsCons i w) := fun B F om H st r ys ds k Q R h hQ hw => by
  cases h with
  | nil => exact hw.elim
  | cons hr ht =>
    obtain ⟨h1, hw⟩ := hw
    refine ⟨_, _, rfl, ?_⟩
    refine hg B F om H _ _ _ _ _ _ (R.put (x := .v _) hr (fun j z => by cases z) h1) ht (fun st' r' R' hl hj hk => hQ st' r' R' (by rw [hl]; simp) (fun j hn => ?_) hk) hw
    rw [hj j hn]
    exact List.getElem?_set_ne fun e => hn (by rw [← e]; exact hi)
theorem sgv_tup {vs : List Nat} {n : Nat} {g : TGs} {w : GTs} (hg : SGvs K vs g w) : SGv K vs (gTup K n g) (gT n w) := fun B F om H st r y x k Q R h hQ hw => by
  cases x with
  | v d =>
    cases d with
    | tup ds =>
      obtain ⟨hl, hw⟩ := hw
      cases h with
      | tup q rr => exact ⟨_, _, rfl, same_sqT R.rh.sub q, by rw [rr.length]; exact hl, hg B F om H st r _ _ _ _ R rr hQ hw⟩
    | _ => exact hw.elim
  | o ds => exact hw.elim
  | b i => exact hw.elim
abbrev X0 : DX := fun _ _ _ => False
def lcGo (g : GT) (wt : WT) (we : WE) (vs : List Nat) : List D → List D → Env → Om → (List D → Env → Om → Prop) → Prop
  | [], acc, r, om, fin => fin acc r om
  | d :: ds, acc, r, om, fin => g (.v d) r fun r2 => wt X0 r2 om fun b r3 om3 =>
      if b = true then we X0 r3 om3 fun x r4 om4 => wd (datE x) fun y => acc.length < sizeLine ∧ lcGo g wt we vs ds (acc ++ [y]) (wipeE r4 vs) om4 fin
      else lcGo g wt we vs ds acc (wipeE r3 vs) om3 fin
def wYes : WT := fun _ r om k => k true r om
theorem st_yes : ST K W tYes wYes := fun B F om H st r xq k Q R hx hQ hw => hQ _ _ _ _ _ R (Same.refl _) (KeepE.refl _) hw
def wLc (wi : WI) (g : GT) (wt : WT) (we : WE) (vs : List Nat) : WE := fun xq r om k => wi xq r om fun items r1 om1 => lcGo g wt we vs items [] (wipeE r1 vs) om1 fun acc r2 om2 => k (.o acc) r2 om2
theorem Rel.wipe (R : Rel K B F om H st r) (vs : List Nat) : Rel K B F om H (L2.wipe st vs) (wipeE r vs) :=
  R.forget (by rw [wipeE_len, wipe_length]; exact R.len) fun i x h => by
    obtain ⟨h1, h2⟩ := wipeE_some h
    exact ⟨h1, wipe_out h2⟩
theorem se_lc {ti : TI} {wi : WI} {vs : List Nat} {g : TG} {w : GT} {tt : TT} {wt : WT} {te : TE} {we : WE} (hi : SI K W ti wi) (hg : SGv K vs g w) (ht : ST K (fun _ _ _ _ => False) tt wt) (he : SE K (fun _ _ _ _ => False) te we) :
    SE K W (tLc ti g tt te vs) (wLc wi w wt we vs) := by
  intro B F om H st r xq k Q R hx hQ hw
  have x0 : ∀ B, XOk K B (fun _ _ _ _ => False) X0 := fun B ex r om F H st cls d _ _ z => z
  refine hi B F om H st r xq _ _ R hx (fun J items r1 om1 F1 H1 R1 s1 k1 hJ hw => ?_) hw
  intro p hp
  have fp1 : F1 p = none := R1.rh.sub.free hp
  have op1 : om1 p = none := by
    cases q : om1 p with
    | none => rfl
    | some ob =>
      obtain ⟨u, hu⟩ := (R1.rh.obj p ob q).2.some
      rw [hp] at hu; cases hu
  have bp : B.H p = none := R1.ext.dom p hp
  have bf : B.F p = none := by
    cases q : B.F p with
    | none => rfl
    | some u => have := R1.ext.f p u q; rw [fp1] at this; cases this
  obtain ⟨R2, q2⟩ := R1.allocO (p := p) (xs := []) (ds := []) hp .nil
  obtain ⟨_, ep, ⟨w1, w2, w3, _, _, _⟩, w6⟩ := q2
  cases ep
  -- the invariant
  refine ⟨fun i m H' => m = items.length - i ∧ i ≤ items.length ∧ ∃ r' om' F' acc xs, Rel K B F' om' H' (L2.wipe st vs) r' ∧ Same F1 F' ∧ F' p = none ∧ om' p = none ∧ H' p = some (.lst xs) ∧ RepA K F' xs acc ∧
      (∀ (j : Nat) (es : List D), r'[j]? = some (some (.o es)) → (L2.wipe st vs)[j]? ≠ some (some (.ref p))) ∧ (∀ (j : Nat) (x : RV), r'[j]? = some (some x) → j ∉ vs) ∧
      lcGo w wt we vs (items.drop i) acc r' om' (fun acc r2 om2 => k (.o acc) r2 om2),
    ⟨items.length, by simp, Nat.zero_le _, wipeE r1 vs, om1, F1, [], [], R2.wipe vs, Same.refl _, w1, w2, upd_same, .nil, ?_, fun j x h => (wipeE_some h).2, by simpa using hw⟩, ?_⟩
  · intro j es h
    obtain ⟨h1, h2⟩ := wipeE_some h
    rw [wipe_out h2]
    exact w6 j es h1
  rintro i m H2 ⟨rfl, hle, r2, om2, F2, acc, xs, R2', s2, fp2, op2, hp2, ra2, own2, out2, hl⟩
  by_cases hlt : i < items.length
  · have hd : items.drop i = items[i] :: items.drop (i + 1) := List.drop_eq_getElem_cons hlt
    rw [hd] at hl
    obtain ⟨go, yl⟩ := hJ.2 i items[i] F2 H2 s2 R2'.rh.sub (List.getElem?_eq_getElem hlt)
    refine .inr ⟨go, fun H' => ∃ r' om' F' acc xs, Rel K B F' om' H' (L2.wipe st vs) r' ∧ Same F1 F' ∧ F' p = none ∧ om' p = none ∧ H' p = some (.lst xs) ∧ RepA K F' xs acc ∧
      (∀ (j : Nat) (es : List D), r'[j]? = some (some (.o es)) → (L2.wipe st vs)[j]? ≠ some (some (.ref p))) ∧ (∀ (j : Nat) (x : RV), r'[j]? = some (some x) → j ∉ vs) ∧
      lcGo w wt we vs (items.drop (i + 1)) acc r' om' (fun acc r2 om2 => k (.o acc) r2 om2), fun H' h => ⟨items.length - (i + 1), by omega, rfl, hlt, h⟩, fun x H' y => ?_⟩
    obtain ⟨F3, g3, rp⟩ := yl x H' y
    have R3 := R2'.grow g3.f g3.h g3.new g3.sub
    have fp3 : F3 p = none := by
      cases q : F3 p with
      | none => rfl
      | some u => rw [g3.new p u q fp2] at hp2; cases hp2
    have hp3 : H' p = some (.lst xs) := g3.h _ _ hp2
    -- p is guarded through the turn
    have G3 := R3.guard fp3 op2 hp3 own2
    refine hg _ F3 om2 H' _ r2 x (.v items[i]) _ _ G3 rp (fun st4 r4 R4 hl4 hj4 hk => ?_) hl
    have wp : L2.wipe st4 vs = L2.wipe st vs := by
      rw [wipe_same hl4 hj4]
      exact wipe_same (by rw [wipe_length]) fun j hj => wipe_out hj
    refine ⟨wp, ?_⟩
    refine ht _ F3 om2 H' st4 r4 X0 _ _ R4 (x0 _) (fun b r5 om5 F5 H5 R5 s5 k5 hb => ?_) hk
    have un : ∀ {r6 : Env} {om6 : Om} {F6 H6 : Hp}, Rel K (B.guard p (.lst xs)) F6 om6 H6 st4 r6 → B.om p = none → Rel K B F6 om6 H6 (L2.wipe st vs) (wipeE r6 vs) ∧ F6 p = none ∧ om6 p = none ∧ H6 p = some (.lst xs) ∧
        (∀ (j : Nat) (es : List D), (wipeE r6 vs)[j]? = some (some (.o es)) → (L2.wipe st vs)[j]? ≠ some (some (.ref p))) ∧ (∀ (j : Nat) (x : RV), (wipeE r6 vs)[j]? = some (some x) → j ∉ vs) := fun {r6 om6 F6 H6} R6 hO => by
      obtain ⟨R7, a1, a2, a3, a4⟩ := R6.unguard bf hO bp
      have R8 := R7.wipe vs
      rw [wp] at R8
      refine ⟨R8, a1, a2, a3, fun j es h => ?_, fun j x h => (wipeE_some h).2⟩
      obtain ⟨h1, h2⟩ := wipeE_some h
      rw [← wp, wipe_out h2]
      exact a4 j es h1
    have hO : B.om p = none := R2'.ext.wf p bp
    cases b with
    | false =>
      obtain ⟨a0, a1, a2, a3, a4, a5⟩ := un R5 hO
      exact ⟨wipeE r5 vs, om5, F5, acc, xs, a0, (s2.trans g3.f).trans s5, a1, a2, a3, (ra2.mono g3.f).mono s5, a4, a5, hb⟩
    | true =>
      refine he _ F5 om5 H5 st4 r5 X0 _ _ R5 (x0 _) (fun z r6 om6 F6 H6 y6 R6 s6 k6 q6 hb => ?_) hb
      obtain ⟨d6, e6, hz, hb⟩ := wd_iff hb
      obtain ⟨F7, s7, R7, q7⟩ := R6.fz q6
      have rp7 : Rep K F7 y6 d6 := datE_rep q7 e6
      obtain ⟨a0, a1, a2, a3, a4, a5⟩ := un R7 hO
      have ra7 : RepA K F7 xs acc := (((ra2.mono g3.f).mono s5).mono s6).mono s7
      refine ⟨xs, a3, by rw [ra7.length]; exact hz, wipeE r6 vs, om6, F7, acc ++ [d6], xs ++ [y6], ?_, (((s2.trans g3.f).trans s5).trans s6).trans s7, a1, a2, upd_same, ra7.append (.cons rp7 .nil), a4, a5, hb⟩
      exact a0.writeX a1 a2 bp a4
  · have e0 : items.drop i = [] := List.drop_eq_nil_of_le (by omega)
    rw [e0] at hl
    refine .inl ⟨hJ.1 i F2 H2 s2 R2'.rh.sub (by omega), ?_⟩
    have R9 : Rel K B F2 om2 H2 st r2 := R2'.forget (by rw [R2'.len, wipe_length]) fun j x h => ⟨h, (wipe_out (out2 j x h)).symm⟩
    refine hQ (.o acc) r2 om2 F2 H2 (.ref p) R9 (s1.trans s2) trivial ⟨p, rfl, ⟨fp2, op2, bp, xs, hp2, ra2⟩, fun j es h => ?_⟩ hl
    rw [← wipe_out (out2 j _ h)]
    exact own2 j es h
end
end DL

set_option Elab.async false
set_option linter.all false
set_option maxRecDepth 100000
/-! The two readings of a piece of text in one: HandS's (PE ..) and the data layer's (SE ..). -/
namespace DL
open PySem L2
structure DE (X : Cx) (W : WX) (e : Expr) (t : TE) (w : WE) : Prop where
  p : PE X e t
  s : SE X.K W t w
structure DA (X : Cx) (W : WX) (es : List Expr) (t : TA) (w : WA) : Prop where
  p : PA X es t
  s : SA X.K W t w
structure DT (X : Cx) (W : WX) (e : Expr) (t : TT) (w : WT) : Prop where
  p : PT X e t
  s : ST X.K W t w
structure DW (X : Cx) (W : WX) (e : Expr) (t : TT) (w : WT) : Prop where
  p : PW X e t
  s : ST X.K W t w
structure DTs (X : Cx) (W : WX) (es : List Expr) (t : TT) (w : WT) : Prop where
  p : PTs X es t
  s : ST X.K W t w
structure DS (X : Cx) (W : WX) (s : Stmt) (t : TS) (w : WS) : Prop where
  p : PS X s t
  s : SS X.K W t w
structure DSs (X : Cx) (W : WX) (s : List Stmt) (t : TS) (w : WS) : Prop where
  p : PSs X s t
  s : SS X.K W t w
structure DG (X : Cx) (e : Expr) (t : TG) (w : GT) : Prop where
  p : PG X e t
  s : SG X.K t w
structure DGs (X : Cx) (e : List Expr) (t : TGs) (w : GTs) : Prop where
  p : PGs X e t
  s : SGs X.K t w
structure DI (X : Cx) (W : WX) (tg e : Expr) (t : TI) (w : WI) : Prop where
  p : PI X tg e t
  s : SI X.K W t w
/-- an operation of two values -/
structure O2 (X : Cx) (f : Value → Value → Sem Value) (rr : R2) (q : P2) : Prop where
  p : OpR X f rr
  s : S2 X.K rr q
structure ON (X : Cx) (f : Value) (rr : List V → Hp → VK → Prop) (q : PN) : Prop where
  p : CallR X f rr
  s : SN X.K rr q
section
variable {X : Cx} {W : WX} {pos : Pos}
theorem de_var (i : Nat) {x : Str} {pos : Pos} (hN : X.N[i]? = some x := by rfl) (hv : Vis X.env.scope x := by first | exact Or.inl rfl | exact Or.inr (Or.inl rfl) | exact Or.inr (Or.inr rfl)) (hd : (x == ("__debug__" : Str)) = false := by decide)
    (hcd : (x == ("__classdict__" : Str)) = false := by decide) : DE X W (.Name x pos) (tVar i) (wVar i) := ⟨pe_var hN hv hd hcd, se_var i⟩
theorem de_bor (i : Nat) {x : Str} {pos : Pos} (hN : X.N[i]? = some x := by rfl) (hv : Vis X.env.scope x := by first | exact Or.inl rfl | exact Or.inr (Or.inl rfl) | exact Or.inr (Or.inr rfl)) (hd : (x == ("__debug__" : Str)) = false := by decide)
    (hcd : (x == ("__classdict__" : Str)) = false := by decide) : DE X W (.Name x pos) (tVar i) (wBor i) := ⟨pe_var hN hv hd hcd, se_bor i⟩
theorem de_int {i : Int} {j : Nat} : DE X W (.Constant (.int i) j pos) (tC (.int i)) (wC (.int i)) := ⟨pe_int, se_c fun _ => .int i⟩
theorem de_bl {b : Bool} {j : Nat} : DE X W (.Constant (.bool b) j pos) (tC (.bl b)) (wC (.bl b)) := ⟨pe_bl, se_c fun _ => .bl b⟩
theorem de_non {j : Nat} : DE X W (.Constant .none j pos) (tC .non) (wC .non) := ⟨pe_non, se_c fun _ => .non⟩
theorem de_str {x : Str} {j : Nat} : DE X W (.Constant (.str x) j pos) (tC (.str x)) (wC (.str x)) := ⟨pe_str, se_c fun _ => .str x⟩
/-- a constant of the module -/
structure Cst (K : PySem.W.Frag) (mg : Str → Option Value) (x : Str) (v : V) (d : D) : Prop where
  g : ∃ u, mg x = some u ∧ RelV v u
  r : ∀ F, Rep K F v d
theorem de_glob {x : Str} {v : V} {d : D} (c : Cst X.K X.mg x v d) (hg : Gl X x := by rfl) (hd : (x == ("__debug__" : Str)) = false := by decide) : DE X W (.Name x pos) (tC v) (wC d) :=
  ⟨let ⟨_, h1, h2⟩ := c.g; pe_glob hg h1 h2 hd, se_c c.r⟩
/-- a built-in type as a value -/
theorem de_ty {x : Str} {n : String} (hm : X.mg x = none) (hv : bootBuiltins x = some (.type n)) (hg : Gl X x := by rfl) (hn : x ≠ "__name__" := by decide) (hd : (x == ("__debug__" : Str)) = false := by decide) : DE X W (.Name x pos) (tC (.ty n)) (wC (.raw (.ty n))) :=
  ⟨pe_bltn hg hm hv rfl hn hd, se_c fun _ => .raw _⟩
theorem de_op {op : Operator} {a b : Expr} {ta tb : TE} {wa wb : WE} {rr : R2} {p : P2} (o : O2 X (binaryOp op) rr p) (ha : DE X W a ta wa) (hb : DE X W b tb wb) : DE X W (.BinOp a op b pos) (tOp rr ta tb) (wOp p wa wb) := ⟨pe_op o.p ha.p hb.p, se_op ha.s hb.s o.s⟩
theorem de_cmp {op : CmpOp} {a b : Expr} {ta tb : TE} {wa wb : WE} {rr : R2} {p : P2} (o : O2 X (compareOp op) rr p) (ha : DE X W a ta wa) (hb : DE X W b tb wb) (hm : behindInMarks op b = false := by first | exact nomark _ | rfl | with_unfolding_all rfl) : DE X W (.Compare a [op] [b] pos) (tOp rr ta tb) (wOp p wa wb) := ⟨pe_cmpR o.p ha.p hb.p hm, se_op ha.s hb.s o.s⟩
theorem dt_cmp {op : CmpOp} {a b : Expr} {ta tb : TE} {wa wb : WE} {rr : R2} {p : P2} (o : O2 X (compareOp op) rr p) (ha : DE X W a ta wa) (hb : DE X W b tb wb) (hm : behindInMarks op b = false := by first | exact nomark _ | rfl | with_unfolding_all rfl) : DT X W (.Compare a [op] [b] pos) (tTest (tOp rr ta tb)) (wTst (wOp p wa wb)) := ⟨pt_cmpR o.p ha.p hb.p hm, st_tst (se_op ha.s hb.s o.s)⟩
theorem de_chain {op op' : CmpOp} {a b c : Expr} {ta tb tc : TE} {wa wb wc : WE} {rr rr' : R2} {p p' : P2} (o : O2 X (compareOp op) rr p) (o' : O2 X (compareOp op') rr' p') (ha : DE X W a ta wa) (hb : DE X W b tb wb) (hc : DE X W c tc wc) (hm : lastMarks [op, op'] [b, c] = false := by with_unfolding_all rfl) :
    DE X W (.Compare a [op, op'] [b, c] pos) (tChain rr rr' ta tb tc) (wChain p p' wa wb wc) := ⟨pe_chain o.p o'.p ha.p hb.p hc.p hm, se_chain ha.s hb.s hc.s o.s o'.s⟩
theorem dt_chain {op op' : CmpOp} {a b c : Expr} {ta tb tc : TE} {wa wb wc : WE} {rr rr' : R2} {p p' : P2} (o : O2 X (compareOp op) rr p) (o' : O2 X (compareOp op') rr' p') (ha : DE X W a ta wa) (hb : DE X W b tb wb) (hc : DE X W c tc wc) (hm : lastMarks [op, op'] [b, c] = false := by with_unfolding_all rfl) :
    DT X W (.Compare a [op, op'] [b, c] pos) (tTest (tChain rr rr' ta tb tc)) (wTst (wChain p p' wa wb wc)) := ⟨pt_chain o.p o'.p ha.p hb.p hc.p hm, st_tst (se_chain ha.s hb.s hc.s o.s o'.s)⟩
theorem da_nil : DA X W [] tNil wNil := ⟨pa_nil, sa_nil⟩
theorem da_cons {e : Expr} {es : List Expr} {te : TE} {we : WE} {t : TA} {w : WA} (h : DE X W e te we) (hr : DA X W es t w) (hs : starEach (e :: es) X.env = (false, eval e X.env) :: starEach es X.env := by rfl) : DA X W (e :: es) (tCons te t) (wCons we w) := ⟨pa_cons h.p hr.p hs, sa_cons h.s hr.s⟩
theorem de_tup {es : List Expr} {k : Nat} {t : TA} {w : WA} (h : DA X W es t w) : DE X W (.Tuple es k pos) (tTup t) (wTup w) := ⟨pe_tup h.p, se_tup h.s⟩
theorem de_lst {es : List Expr} {t : TA} {w : WA} (h : DA X W es t w) : DE X W (.List es pos) (tLst t) (wLst w) := ⟨pe_lst h.p, se_lst h.s⟩
theorem de_cb {x : Str} {p' : Pos} {id : String} {e : Expr} {es : List Expr} {t : TA} {w : WA} {rr : List V → Hp → VK → Prop} {p : PN} (o : ON X (.builtin id) rr p) (hm : X.mg x = none) (hv : bootBuiltins x = some (.builtin id)) (ha : DA X W (e :: es) t w) (hg : Gl X x := by rfl) (hn : x ≠ "__name__" := by decide) (hdb : (x == ("__debug__" : Str)) = false := by decide)
    (he : starEach (e :: es) X.env = (false, eval e X.env) :: starEach es X.env := by rfl) (hpl : (backTo pos (starEach es X.env)).any (·.1) = false := by rfl) : DE X W (.Call (.Name x p') (e :: es) [] pos) (tCB rr t) (wCB p w) := ⟨pe_callB o.p hg hm hv ha.p hn hdb he hpl, se_cb ha.s o.s⟩
theorem de_ct {x : Str} {p' : Pos} {id : String} {e : Expr} {es : List Expr} {t : TA} {w : WA} {rr : List V → Hp → VK → Prop} {p : PN} (o : ON X (.type id) rr p) (hm : X.mg x = none) (hv : bootBuiltins x = some (.type id)) (ha : DA X W (e :: es) t w) (hg : Gl X x := by rfl) (hn : x ≠ "__name__" := by decide) (hdb : (x == ("__debug__" : Str)) = false := by decide)
    (he : starEach (e :: es) X.env = (false, eval e X.env) :: starEach es X.env := by rfl) (hpl : (backTo pos (starEach es X.env)).any (·.1) = false := by rfl) : DE X W (.Call (.Name x p') (e :: es) [] pos) (tCB rr t) (wCB p w) := ⟨pe_callTy o.p hg hm hv ha.p hn hdb he hpl, se_cb ha.s o.s⟩
theorem de_ifx {c a b : Expr} {tt : TT} {wt : WT} {ta tb : TE} {wa wb : WE} (hc : DT X W c tt wt) (ha : DE X W a ta wa) (hb : DE X W b tb wb) : DE X W (.IfExp c a b pos) (tIf tt ta tb) (wIf wt wa wb) := ⟨pe_ifExp hc.p ha.p hb.p, se_if hc.s ha.s hb.s⟩
theorem de_one {op : BoolOp} {a : Expr} {t : TE} {w : WE} (h : DE X W a t w) : DE X W (.BoolOp op [a] pos) t w := ⟨pe_one h.p, h.s⟩
theorem de_and {a b : Expr} {rest : List Expr} {ta tb : TE} {wa wb : WE} (ha : DE X W a ta wa) (hb : DE X W (.BoolOp .And (b :: rest) pos) tb wb) : DE X W (.BoolOp .And (a :: b :: rest) pos) (tAndV ta tb) (wAndV wa wb) := ⟨pe_and ha.p hb.p, se_andV ha.s hb.s⟩
theorem de_or {a b : Expr} {rest : List Expr} {ta tb : TE} {wa wb : WE} (ha : DE X W a ta wa) (hb : DE X W (.BoolOp .Or (b :: rest) pos) tb wb) : DE X W (.BoolOp .Or (a :: b :: rest) pos) (tOrV ta tb) (wOrV wa wb) := ⟨pe_or ha.p hb.p, se_orV ha.s hb.s⟩
theorem de_not {a : Expr} {ta : TE} {wa : WE} (ha : DE X W a ta wa) : DE X W (.UnaryOp .Not a pos) (tNotV ta) (wNotV wa) := ⟨pe_not ha.p, se_notV ha.s⟩
theorem de_neg {a : Expr} {ta : TE} {wa : WE} {rr : V → Hp → VK → Prop} {p : P1} (o : UnR X (unaryOp .USub) rr) (hp : S1 X.K rr p) (ha : DE X W a ta wa) : DE X W (.UnaryOp .USub a pos) (tUn rr ta) (wUn p wa) := ⟨pe_un o ha.p, se_un ha.s hp⟩
/-- tests -/
theorem dt_tru {e : Expr} {t : TE} {w : WE} (h : DE X W e t w) (he : ∀ whole, isTrue e X.env whole = (do let v ← whole; standAt e.pos; holding [v] (truthy v)) := by intro _; rfl) : DT X W e (fun σ H Q => t σ H fun x H' => ∃ k, TruV X.K x H' k ∧ Q k H') (wTru w) := ⟨pt_truth h.p he, st_tru h.s⟩
theorem DW.dt {e : Expr} {t : TT} {w : WT} (h : DW X W e t w) : DT X W e t w := ⟨h.p.pt, h.s⟩
theorem dw_and1 {a : Expr} {t : TT} {w : WT} (h : DT X W a t w) : DW X W (.BoolOp .And [a] pos) t w := ⟨pw_and1 h.p, h.s⟩
theorem dw_or1 {a : Expr} {t : TT} {w : WT} (h : DT X W a t w) : DW X W (.BoolOp .Or [a] pos) t w := ⟨pw_or1 h.p, h.s⟩
theorem dw_and {a b : Expr} {rest : List Expr} {ta tb : TT} {wa wb : WT} (ha : DT X W a ta wa) (hb : DW X W (.BoolOp .And (b :: rest) pos) tb wb) : DW X W (.BoolOp .And (a :: b :: rest) pos) (tAnd ta tb) (wAnd wa wb) := ⟨pw_and ha.p hb.p, st_and ha.s hb.s⟩
theorem dw_or {a b : Expr} {rest : List Expr} {ta tb : TT} {wa wb : WT} (ha : DT X W a ta wa) (hb : DW X W (.BoolOp .Or (b :: rest) pos) tb wb) : DW X W (.BoolOp .Or (a :: b :: rest) pos) (tOr ta tb) (wOr wa wb) := ⟨pw_or ha.p hb.p, st_or ha.s hb.s⟩
theorem dt_not {a : Expr} {t : TT} {w : WT} (h : DT X W a t w) : DT X W (.UnaryOp .Not a pos) (tNot t) (wNot w) := ⟨pt_not h.p, st_not h.s⟩
/-- statements -/
theorem dss_nil : DSs X W [] tNext wNext := ⟨pss_nil, ss_next⟩
theorem dss_cons {s : Stmt} {ss : List Stmt} {t u : TS} {w v : WS} (h : DS X W s t w) (hr : DSs X W ss u v) : DSs X W (s :: ss) (tSeq t u) (wSeq w v) := ⟨pss_cons h.p hr.p, ss_seq h.s hr.s⟩
theorem dss_one {s : Stmt} {t : TS} {w : WS} (h : DS X W s t w) : DSs X W [s] t w := ⟨pss_one h.p, h.s⟩
theorem ds_pass : DS X W (.Pass pos) tNext wNext := ⟨ps_pass, ss_next⟩
theorem ds_brk : DS X W (.Break pos) tBreak wBrk := ⟨ps_break, ss_brk⟩
theorem ds_cnt : DS X W (.Continue pos) tCont wCnt := ⟨ps_continue, ss_cnt⟩
theorem ds_ret {e : Expr} {t : TE} {w : WE} (h : DE X W e t w) : DS X W (.Return (some e) pos) (tRet t) (wRet w) := ⟨ps_ret h.p, ss_ret h.s⟩
theorem ds_retV (i : Nat) {x : Str} {p' : Pos} (hN : X.N[i]? = some x := by rfl) (hv : Vis X.env.scope x := by first | exact Or.inl rfl | exact Or.inr (Or.inl rfl) | exact Or.inr (Or.inr rfl)) (hd : (x == ("__debug__" : Str)) = false := by decide)
    (hcd : (x == ("__classdict__" : Str)) = false := by decide) : DS X W (.Return (some (.Name x p')) pos) (tRet (tVar i)) (wRet (wMov i)) := ⟨ps_ret (pe_var hN hv hd hcd), ss_retV i⟩
theorem ds_retN : DS X W (.Return none pos) tRetN wRetN := ⟨ps_retN, ss_retN⟩
theorem ds_if {c : Expr} {a b : List Stmt} {tt : TT} {wt : WT} {ta tb : TS} {wa wb : WS} (hc : DT X W c tt wt) (ha : DSs X W a ta wa) (hb : DSs X W b tb wb) : DS X W (.If c a b pos) (tIfS tt ta tb) (wIfS wt wa wb) := ⟨ps_if hc.p ha.p hb.p, ss_if hc.s ha.s hb.s⟩
theorem ds_drop {e : Expr} {t : TE} {w : WE} (h : DE X W e t w) (hs : swapsWith e none pos.line X.env = pure false := by rfl) : DS X W (.Expr e pos) (tDrop t) (wDrop w) := ⟨ps_expr h.p hs, ss_drop h.s⟩
theorem dg_name (i : Nat) {x : Str} (hN : X.N.Nodup) (hi : X.N[i]? = some x := by rfl) (hx : Loc X.env.scope x := by first | exact .inl rfl | exact .inr rfl) (hf : X.fn x = true ∨ X.env.scope.names.lookup x = some .local := by first | exact .inl rfl | exact .inr rfl) : DG X (.Name x pos) (gName i) (gN i) := ⟨pg_name hN hi hx hf, sg_name i⟩
theorem dgs_nil : DGs X [] gNil gsNil := ⟨pgs_nil, sgs_nil⟩
theorem dgs_cons (i : Nat) {x : Str} {p' : Pos} {es : List Expr} {t : TGs} {w : GTs} (hN : X.N.Nodup) (hr : DGs X es t w) (hi : X.N[i]? = some x := by rfl) (hx : Loc X.env.scope x := by first | exact .inl rfl | exact .inr rfl) (hf : X.fn x = true ∨ X.env.scope.names.lookup x = some .local := by first | exact .inl rfl | exact .inr rfl)
    (hs : (assignEach (.Name x p' :: es) X.env).map (·.2) = assign (.Name x p') X.env :: (assignEach es X.env).map (·.2) := by rfl) : DGs X (.Name x p' :: es) (gCons (gName i) t) (gsCons i w) := ⟨pgs_cons (pg_name hN hi hx hf) hr.p hs, sgs_cons i hr.s⟩
theorem dg_tup {es : List Expr} {k : Nat} {t : TGs} {w : GTs} {n : Nat} (hc : X.calm = true) (h : DGs X es t w) (hn : (assignEach es X.env).length = n := by rfl) (hst : (assignEach es X.env).findIdx? (·.1) = none := by rfl) : DG X (.Tuple es k pos) (gTup X.K n t) (gT n w) := ⟨pg_tup hc h.p hn hst, sg_tup h.s⟩
theorem ds_set (i : Nat) {x : Str} {e : Expr} {te : TE} {we : WE} {pos' : Pos} (hN : X.N.Nodup) (he : DE X W e te we) (hi : X.N[i]? = some x := by rfl) (hx : Loc X.env.scope x := by first | exact .inl rfl | exact .inr rfl) (hs : swapsWith e (some (.Name x pos')) pos.line X.env = pure false := by rfl) (hf : X.fn x = true ∨ X.env.scope.names.lookup x = some .local := by first | exact .inl rfl | exact .inr rfl) :
    DS X W (.Assign [.Name x pos'] e pos) (tAsg te (gName i)) (wAsg we (gN i)) := ⟨ps_set hN hi hx he.p hs hf, ss_asg he.s (sg_name i)⟩
theorem ds_asg {tg e : Expr} {te : TE} {we : WE} {g : TG} {w : GT} (he : DE X W e te we) (hg : DG X tg g w) (hs : swapsWithSole [tg] e pos.line X.env = pure false := by rfl) (hw : swappedStores [tg] e X.env = pure none := by rfl)
    (h1 : (assignEach [tg] X.env).map (·.2) = [assign tg X.env] := by rfl) : DS X W (.Assign [tg] e pos) (tAsg te g) (wAsg we w) := ⟨ps_asg he.p hg.p hs hw h1, ss_asg he.s hg.s⟩
/-- x[i] = e, x a name -/
theorem ds_put (i : Nat) {x : Str} {ix e : Expr} {p1 p2 : Pos} {ti te : TE} {wi we : WE} (hix : DE X W ix ti wi) (he : DE X W e te we) (hN : X.N[i]? = some x := by rfl) (hv : Vis X.env.scope x := by first | exact Or.inl rfl | exact Or.inr (Or.inl rfl) | exact Or.inr (Or.inr rfl))
    (hd : (x == ("__debug__" : Str)) = false := by decide) (hcd : (x == ("__classdict__" : Str)) = false := by decide)
    (ha : ∀ v, assign (.Subscript (.Name x p1) ix p2) X.env v = (do
      let ov ← holding [v] (eval (.Name x p1) X.env)
      let iv ← holding [v, ov] (eval ix X.env)
      standAt p2
      holding [v, ov, iv] (setItem ov iv v)
      release [v, ov, iv] []) := by intro _; rfl)
    (hs : swapsWithSole [.Subscript (.Name x p1) ix p2] e pos.line X.env = pure false := by rfl) (hw : swappedStores [.Subscript (.Name x p1) ix p2] e X.env = pure none := by rfl)
    (h1 : (assignEach [.Subscript (.Name x p1) ix p2] X.env).map (·.2) = [assign (.Subscript (.Name x p1) ix p2) X.env] := by rfl) :
    DS X W (.Assign [.Subscript (.Name x p1) ix p2] e pos) (tAsg te (gSub (tVar i) ti rSetL)) (wSet i wi we) := ⟨ps_asg he.p (pg_sub (pe_var hN hv hd hcd) hix.p set_list ha) hs hw h1, ss_set hix.s he.s⟩
/-- x op= e -/
def wAug (i : Nat) (p : P2) (we : WE) : WS := fun e r om => (∃ d, r[i]? = some (some (.v d))) ∧ we e.xq r om fun y r1 om1 => wd (datB r1 om1 (.b i)) fun d => wd (datB r1 om1 y) fun f => p d f fun z => noB z ∧ i < r1.length ∧ e.nx (r1.set i (some z)) om1
theorem ss_aug {K : PySem.W.Frag} {i : Nat} {te : TE} {we : WE} {rr : R2} {p : P2} (he : SE K W te we) (hp : S2 K rr p) : SS K W (tAug i te rr) (wAug i p we) := fun B F om H st r D e R hx hE hw => by
  obtain ⟨⟨d0, e0⟩, hw⟩ := hw
  obtain ⟨y0, e1, s0⟩ := R.slot i _ e0
  refine ⟨y0, e1, ?_⟩
  refine he B F om H st r e.xq _ _ R hx (fun x r1 om1 F1 H1 y R1 s1 k1 q1 hw => ?_) hw
  obtain ⟨d, e2, hw⟩ := wd_iff hw
  obtain ⟨f, e3, hw⟩ := wd_iff hw
  refine hp F1 H1 y0 y d f _ _ R1.rh.sub (R1.datB (x := .b i) e1 e2) (R1.datB q1 e3) hw fun z v F4 H4 g rp hc => ?_
  obtain ⟨R4, q4⟩ := R1.finish g rp
  exact hE.nx _ _ _ _ _ (R4.put q4 (fun j z => by rw [z] at hc; exact hc.1) hc.2.1) hc.2.2
theorem ds_aug (i : Nat) {x : Str} {op : Operator} {e : Expr} {te : TE} {we : WE} {rr : R2} {p : P2} {pos' : Pos} (hN : X.N.Nodup) (o : O2 X (inplaceOp op) rr p) (he : DE X W e te we) (hi : X.N[i]? = some x := by rfl) (hx : Loc X.env.scope x := by first | exact .inl rfl | exact .inr rfl) (hf : X.fn x = true ∨ X.env.scope.names.lookup x = some .local := by first | exact .inl rfl | exact .inr rfl) :
    DS X W (.AugAssign (.Name x pos') op e pos) (tAug i te rr) (wAug i p we) := ⟨ps_aug hN hi hx he.p o.p hf, ss_aug he.s o.s⟩
theorem ds_for {tg iter : Expr} {body : List Stmt} {ti : TI} {wi : WI} {g : TG} {w : GT} {tb : TS} {wb : WS} (hp : PassesOwn (model X.prog X.w) X.A X.env X.xe) (hc : X.calm = true) (hi : DI X W tg iter ti wi) (hg : DG X tg g w) (hb : DSs X W body tb wb)
    (hs : ∀ x, foldedSetIterable iter X.env x = pure x := by intro _; rfl) : DS X W (.For tg iter body [] pos) (tFor ti g tb) (wFor wi w wb) := ⟨ps_for hp hc hi.p hg.p hb.p hs, ss_for hi.s hg.s hb.s⟩
theorem ds_while {c : Expr} {body : List Stmt} {tt : TT} {wt : WT} {tb : TS} {wb : WS} (hp : PassesOwn (model X.prog X.w) X.A X.env X.xe) (hc : DT X W c tt wt) (hb : DSs X W body tb wb) : DS X W (.While c body [] pos) (tWhile tt tb) (wWhile wt wb) := ⟨ps_while hp hc.p hb.p, ss_while hc.s hb.s⟩
/-- a statement that is never come to -/
def wNever : WS := fun _ _ _ => False
theorem ds_never {s : Stmt} : DS X W s tNever wNever := ⟨ps_never, fun _ _ _ _ _ _ _ _ _ _ _ h => h⟩
/-- what is walked -/
theorem di_list {tg l : Expr} {t : TE} {w : WE} (h : DE X W l t w) : DI X W tg l (iList X.K t) (wiL w) := ⟨pi_list h.p, si_list h.s⟩
theorem di_tup {tg l : Expr} {t : TE} {w : WE} (h : DE X W l t w) : DI X W tg l (iTup X.K t) (wiT w) := ⟨pi_tup h.p, si_tup h.s⟩
theorem di_r1 {tg a : Expr} {ta : TA} {wa : WA} {p' : Pos} (hm : X.mg "range" = none) (ha : DA X W [a] ta wa) (hg : Gl X "range" := by rfl) (hs : starEach [a] X.env = [(false, eval a X.env)] := by rfl) : DI X W tg (.Call (.Name "range" p') [a] [] pos) (iRng1 ta) (wiR1 wa) := ⟨pi_range1 hg hm ha.p hs, si_r1 ha.s⟩
theorem di_r2 {tg a b : Expr} {ta : TA} {wa : WA} {p' : Pos} (hm : X.mg "range" = none) (ha : DA X W [a, b] ta wa) (hg : Gl X "range" := by rfl) (hs : starEach [a, b] X.env = [(false, eval a X.env), (false, eval b X.env)] := by rfl) (hs2 : starEach [b] X.env = [(false, eval b X.env)] := by rfl) :
    DI X W tg (.Call (.Name "range" p') [a, b] [] pos) (iRng2 ta) (wiR2 wa) := ⟨pi_range2 hg hm ha.p hs hs2, si_r2 ha.s⟩
/-- comprehensions -/
abbrev W0 : WX := fun _ _ _ _ => False
theorem dts_nil : DTs X W [] tYes wYes := ⟨pts_nil, st_yes⟩
theorem dts_one {c : Expr} {t : TT} {w : WT} (h : DT X W c t w) : DTs X W [c] t w := ⟨pts_one h.p, h.s⟩
structure DGv (X : Cx) (vs : List Nat) (e : Expr) (t : TG) (w : GT) : Prop where
  p : PG X e t
  s : SGv X.K vs t w
theorem dgv_name (i : Nat) {vs : List Nat} {x : Str} (hN : X.N.Nodup) (hm : i ∈ vs := by decide) (hi : X.N[i]? = some x := by rfl) (hx : Loc X.env.scope x := by first | exact .inl rfl | exact .inr rfl) (hf : X.fn x = true ∨ X.env.scope.names.lookup x = some .local := by first | exact .inl rfl | exact .inr rfl) : DGv X vs (.Name x pos) (gName i) (gN i) := ⟨pg_name hN hi hx hf, sgv_name i hm⟩
structure DGvs (X : Cx) (vs : List Nat) (e : List Expr) (t : TGs) (w : GTs) : Prop where
  p : PGs X e t
  s : SGvs X.K vs t w
theorem dgvs_nil {vs : List Nat} : DGvs X vs [] gNil gsNil := ⟨pgs_nil, sgvs_nil⟩
theorem dgvs_cons (i : Nat) {vs : List Nat} {x : Str} {p' : Pos} {es : List Expr} {t : TGs} {w : GTs} (hN : X.N.Nodup) (hr : DGvs X vs es t w) (hm : i ∈ vs := by decide) (hi : X.N[i]? = some x := by rfl) (hx : Loc X.env.scope x := by first | exact .inl rfl | exact .inr rfl) (hf : X.fn x = true ∨ X.env.scope.names.lookup x = some .local := by first | exact .inl rfl | exact .inr rfl)
    (hs : (assignEach (.Name x p' :: es) X.env).map (·.2) = assign (.Name x p') X.env :: (assignEach es X.env).map (·.2) := by rfl) : DGvs X vs (.Name x p' :: es) (gCons (gName i) t) (gsCons i w) := ⟨pgs_cons (pg_name hN hi hx hf) hr.p hs, sgvs_cons i hm hr.s⟩
theorem dgv_tup {vs : List Nat} {es : List Expr} {k : Nat} {t : TGs} {w : GTs} {n : Nat} (hc : X.calm = true) (h : DGvs X vs es t w) (hn : (assignEach es X.env).length = n := by rfl) (hst : (assignEach es X.env).findIdx? (·.1) = none := by rfl) : DGv X vs (.Tuple es k pos) (gTup X.K n t) (gT n w) := ⟨pg_tup hc h.p hn hst, sgv_tup h.s⟩
theorem de_lc {elt tg iter : Expr} {ifs : List Expr} {scope : Scope} {own : List (Str × Nat)} {ti : TI} {wi : WI} {g : TG} {gw : GT} {tt : TT} {wt : WT} {te : TE} {we : WE} (hc : X.calm = true) (hN : X.N.Nodup) (hi : DI X W tg iter ti wi) (ok : blkC X.N X.env.scope scope own = true)
    (hg : ∀ (s : Shared) (H : Hp) (C : Addr) (cl : List (Str × Addr)) (fp : List Addr), DGv (X.blk s H scope (PySem.compEnvC scope cl C X.env) fp) (own.map (·.2)) tg g gw)
    (ht : ∀ (s : Shared) (H : Hp) (C : Addr) (cl : List (Str × Addr)) (fp : List Addr), DTs (X.blk s H scope (PySem.compEnvC scope cl C X.env) fp) W0 ifs tt wt)
    (he : ∀ (s : Shared) (H : Hp) (C : Addr) (cl : List (Str × Addr)) (fp : List Addr), DE (X.blk s H scope (PySem.compEnvC scope cl C X.env) fp) W0 elt te we) (s0 : Shared) (hs : ∀ x, foldedSetIterable iter X.env x = pure x := by intro _; rfl) :
    DE X W (.ListComp elt [⟨tg, iter, ifs, 0⟩] scope pos) (tLc ti g tt te (own.map (·.2))) (wLc wi gw wt we (own.map (·.2))) :=
  ⟨pe_lc hc hN hi.p (blkOk_by ok) (fun s H C cl fp => (hg s H C cl fp).p) (fun s H C cl fp => (ht s H C cl fp).p) (fun s H C cl fp => (he s H C cl fp).p) hs,
    se_lc hi.s (hg s0 (fun _ => none) 0 [] []).s (ht s0 (fun _ => none) 0 [] []).s (he s0 (fun _ => none) 0 [] []).s⟩
/-- y = [..] -/
theorem ds_setLc (i : Nat) {y : Str} {py spos : Pos} {elt tg iter : Expr} {ifs : List Expr} {scope : Scope} {own : List (Str × Nat)} {ti : TI} {wi : WI} {g : TG} {gw : GT} {tt : TT} {wt : WT} {te : TE} {we : WE} (hc : X.calm = true) (hN : X.N.Nodup) (hi : DI X W tg iter ti wi) (ok : blkC X.N X.env.scope scope own = true)
    (hg : ∀ (s : Shared) (H : Hp) (C : Addr) (cl : List (Str × Addr)) (fp : List Addr), DGv (X.blk s H scope (PySem.compEnvC scope cl C X.env) fp) (own.map (·.2)) tg g gw)
    (ht : ∀ (s : Shared) (H : Hp) (C : Addr) (cl : List (Str × Addr)) (fp : List Addr), DTs (X.blk s H scope (PySem.compEnvC scope cl C X.env) fp) W0 ifs tt wt)
    (he : ∀ (s : Shared) (H : Hp) (C : Addr) (cl : List (Str × Addr)) (fp : List Addr), DE (X.blk s H scope (PySem.compEnvC scope cl C X.env) fp) W0 elt te we) (s0 : Shared)
    (hsw : swapsWith (.ListComp elt [⟨tg, iter, ifs, 0⟩] scope pos) (some (.Name y py)) spos.line X.env = pure true) (hy : X.N[i]? = some y := by rfl) (hyl : X.env.scope.names.lookup y = some .local := by rfl) (hs : ∀ x, foldedSetIterable iter X.env x = pure x := by intro _; rfl) :
    DS X W (.Assign [.Name y py] (.ListComp elt [⟨tg, iter, ifs, 0⟩] scope pos) spos) (tAsg (tLc ti g tt te (own.map (·.2))) (gName i)) (wAsg (wLc wi gw wt we (own.map (·.2))) (gN i)) :=
  ⟨ps_setLc hc hN hy hyl hsw hi.p (blkOk_by ok) (fun s H C cl fp => (hg s H C cl fp).p) (fun s H C cl fp => (ht s H C cl fp).p) (fun s H C cl fp => (he s H C cl fp).p) hs,
    ss_asg (se_lc hi.s (hg s0 (fun _ => none) 0 [] []).s (ht s0 (fun _ => none) 0 [] []).s (he s0 (fun _ => none) 0 [] []).s) (sg_name i)⟩
end
/-! ### defs -/
/-- a def of the text that keeps its promise -/
def Def (P : Program) (w : World) (K : PySem.W.Frag) (mg : Str → Option Value) (base : Heap) (x : Str) (c : Con) (k : Nat) : Prop :=
  ∃ (a : Addr) (fd : FuncData) (ps : List Str), FnOk P w K mg base (L2.CX P w) k a fd ps (toSp K c) ∧ mg x = some (.ref a) ∧ PySem.W.keepIn K (.ref a) = true ∧ Binds K fd ps []
section
variable {X : Cx} {W : WX} {pos : Pos}
theorem de_call {x : Str} {c : Con} {k : Nat} {e : Expr} {es : List Expr} {p' : Pos} {t : TA} {w : WA} (F : Def X.prog X.w X.K X.mg X.base x c k) (hr : Room k X.A) (tk : Takes X W) (ha : DA X W (e :: es) t w) (hg : Gl X x := by rfl) (hdb : (x == ("__debug__" : Str)) = false := by decide)
    (he : starEach (e :: es) X.env = (false, eval e X.env) :: starEach es X.env := by rfl) (hpl : (backTo pos (starEach es X.env)).any (·.1) = false := by rfl) :
    DE X W (.Call (.Name x p') (e :: es) [] pos) (tCallSD (toSp X.K c) [] (L2.WE W) t) (wCall c.df [] w) :=
  ⟨let ⟨_, _, _, h1, h2, h3, h4⟩ := F; pe_callSD h1 hr hg h2 h3 h4 .nil (fun σ => passAt tk σ) ha.p hdb he hpl, se_call ha.s fun _ => .nil⟩
theorem de_call0 {x : Str} {c : Con} {k : Nat} {p' : Pos} (F : Def X.prog X.w X.K X.mg X.base x c k) (hr : Room k X.A) (tk : Takes X W) (hg : Gl X x := by rfl) (hdb : (x == ("__debug__" : Str)) = false := by decide) :
    DE X W (.Call (.Name x p') [] [] pos) (tCallSD (toSp X.K c) [] (L2.WE W) tNil) (wCall c.df [] wNil) :=
  ⟨⟨fun pins s σ H Q I h => by
    obtain ⟨_, _, _, h1, h2, h3, h4⟩ := F
    refine wpAny_Call_Name_kw (ld_glob I hg h2 ?_ hdb)
    exact PySem.W.callWith_K0 I.kIn h3 (run_fnSD (us := []) (vs := []) h1 hr h4 .nil (passAt tk σ) I .nil h)⟩, se_call sa_nil fun _ => .nil⟩
end
/-- THE RULE for a def -/
theorem fn_ok {P : Program} {w : World} {K : PySem.W.Frag} {mg : Str → Option Value} {base : Heap} {x qual : Str} {params : Arguments} {body : List Stmt} {scope : Scope} {dvs : List V} {kws : List (Str × V)} {f : Addr} {fd : FuncData} {N ps : List Str} {k : Nat} {c : Con} {ws : WS}
    (F : FunD K x qual params body scope dvs kws f fd) (S : FnScope N ps scope) (hn : ps.length = c.n)
    (hb : ∀ (cdv : Value) (A : Around) (outer : List PySem.Env) (s : Shared) (H : Hp) (E : XK), Room k (A.deeper (PyProof.Rows.envOfC qual scope s.heap.objs.size f cdv)) →
      ∃ t, DSs (cxOf (L2.CX P w) P w K mg base N qual scope f cdv A outer s H E) (fun cls d _ H => E cls d H) body t ws)
    (hw : ∀ ds om k xk, c.df ds om k xk → ws (endOf k xk) (startE N.length ds) om) : FnOk P w K mg base (L2.CX P w) (k + 1) f fd ps (toSp K c) :=
  F.ok S (fun vs H Q E h => (toSp_len h).trans hn.symm) fun cdv A outer s H vs Q E hr h => by
    obtain ⟨t, ht⟩ := hb cdv A outer s H E hr
    exact ⟨t, ht.p, body_ok ht.s hw h⟩
end DL

set_option Elab.async false
set_option linter.all false
set_option maxRecDepth 100000
/-! operations -/
namespace DL
open PySem L2
section
variable {X : Cx} {K : PySem.W.Frag} {F H : Hp}
theorem vres {F H : Hp} {d : D} {v : V} {c : RV → Prop} {Q : VK} (s : Same F H) (h : Rep K F v d) (hc : c (.v d)) (hQ : ∀ z v F' H', Grow F H F' H' → ResP K F' H H' v z → c z → Q v H') : Q v H := hQ (.v d) v F H (Grow.refl s) h hc
theorem lres {F H : Hp} {ds : List D} {xs : List V} {c : RV → Prop} {Q : VK} (s : Same F H) (h : RepA K F xs ds) (hc : c (.o ds)) (hQ : ∀ z v F' H', Grow F H F' H' → ResP K F' H H' v z → c z → Q v H') : ∀ p, H p = none → Q (.ref p) (upd H p (.lst xs)) :=
  fun p hp => hQ (.o ds) (.ref p) F _ (Grow.allocO s hp) (ResP.newL s hp h) hc
theorem tres {F H : Hp} {ds : List D} {xs : List V} {c : RV → Prop} {Q : VK} (s : Same F H) (h : RepA K F xs ds) (hc : c (.v (.tup ds))) (hQ : ∀ z v F' H', Grow F H F' H' → ResP K F' H H' v z → c z → Q v H') : ∀ p, H p = none → Q (.ref p) (upd H p (.tup xs)) :=
  fun p hp => hQ (.v (.tup ds)) (.ref p) _ _ (Grow.alloc s hp) (ResP.newT s hp h) hc
/-- ints alone -/
def pI (C : Int → Int → Prop) (g : Int → Int → D) : P2 := fun d e c => match d, e with
  | .int i, .int j => C i j ∧ c (.v (g i j))
  | _, _ => False
@[simp] theorem pI_int (C : Int → Int → Prop) (g : Int → Int → D) (i j : Int) (c : RV → Prop) : pI C g (.int i) (.int j) c = (C i j ∧ c (.v (g i j))) := rfl
def pI0 (g : Int → Int → D) : P2 := fun d e c => match d, e with
  | .int i, .int j => c (.v (g i j))
  | _, _ => False
@[simp] theorem pI0_int (g : Int → Int → D) (i j : Int) (c : RV → Prop) : pI0 g (.int i) (.int j) c = c (.v (g i j)) := rfl
theorem s_rI {C C' : Int → Int → Prop} {g : Int → Int → V} {gd : Int → Int → D} (hC : ∀ i j, C i j → C' i j) (hg : ∀ i j F, Rep K F (g i j) (gd i j)) : S2 K (rI C' g) (pI C gd) := fun F H x y d e c Q s rx ry hp hQ => by
  cases d with
  | int i =>
    cases e with
    | int j => exact ⟨i, j, rx.intS, ry.intS, hC i j hp.1, vres s (hg i j F) hp.2 hQ⟩
    | _ => exact hp.elim
  | _ => exact hp.elim
theorem s_rI0 {g : Int → Int → V} {gd : Int → Int → D} (hg : ∀ i j F, Rep K F (g i j) (gd i j)) : S2 K (rI0 g) (pI0 gd) := fun F H x y d e c Q s rx ry hp hQ => by
  cases d with
  | int i =>
    cases e with
    | int j => exact ⟨i, j, rx.intS, ry.intS, vres s (hg i j F) hp hQ⟩
    | _ => exact hp.elim
  | _ => exact hp.elim
def pAdd : P2 := fun d e c => match d, e with
  | .int i, .int j => c (.v (.int (i + j)))
  | .lst xs, .lst ys => xs.length + ys.length ≤ sizeLine ∧ c (.o (xs ++ ys))
  | .tup xs, .tup ys => xs.length + ys.length ≤ sizeLine ∧ c (.v (.tup (xs ++ ys)))
  | .str a, .str b => a.length + b.length ≤ sizeLine ∧ c (.v (.str (a ++ b)))
  | _, _ => False
@[simp] theorem pAdd_int (i j : Int) (c : RV → Prop) : pAdd (.int i) (.int j) c = c (.v (.int (i + j))) := rfl
@[simp] theorem pAdd_lst (i j : List D) (c : RV → Prop) : pAdd (.lst i) (.lst j) c = (i.length + j.length ≤ sizeLine ∧ c (.o (i ++ j))) := rfl
@[simp] theorem pAdd_tup (i j : List D) (c : RV → Prop) : pAdd (.tup i) (.tup j) c = (i.length + j.length ≤ sizeLine ∧ c (.v (.tup (i ++ j)))) := rfl
@[simp] theorem pAdd_str (i j : Str) (c : RV → Prop) : pAdd (.str i) (.str j) c = (i.length + j.length ≤ sizeLine ∧ c (.v (.str (i ++ j)))) := rfl
abbrev rStr : R2 := fun x y H Q => ∃ i j, x = .str i ∧ y = .str j ∧ i.length + j.length ≤ sizeLine ∧ Q (.str (i ++ j)) H
abbrev rAddD (K : PySem.W.Frag) : R2 := fun x y H Q => rI0 (fun i j => .int (i + j)) x y H Q ∨ rCat x y H Q ∨ rCatA K x y H Q ∨ rStr x y H Q
theorem o_add : O2 X (binaryOp .Add) (rAddD X.K) pAdd := ⟨OpR.or op_add (OpR.or op_cat (OpR.or op_catA op_add_str)), fun F H x y d e c Q s rx ry hp hQ => by
  cases d with
  | int i =>
    cases e with
    | int j => exact .inl ⟨i, j, rx.intS, ry.intS, vres s (.int _) hp hQ⟩
    | _ => exact hp.elim
  | lst ds =>
    cases e with
    | lst es =>
      obtain ⟨a, xs, rfl, h1, h2⟩ := rx.lstS s
      obtain ⟨b, ys, rfl, h3, h4⟩ := ry.lstS s
      exact .inr (.inl ⟨a, b, xs, ys, rfl, rfl, h1, h3, by rw [h2.length, h4.length]; exact hp.1, lres s (h2.append h4) hp.2 hQ⟩)
    | _ => exact hp.elim
  | tup ds =>
    cases e with
    | tup es =>
      obtain ⟨hl, hc⟩ := hp
      have rx' : Rep X.K F x (.tup ds) := by
        rcases rx with h | ⟨a, xs, es, e1, e2, h1, h2⟩
        · exact h
        · cases e2
      have ry' : Rep X.K F y (.tup es) := by
        rcases ry with h | ⟨a, xs, es, e1, e2, h1, h2⟩
        · exact h
        · cases e2
      obtain ⟨a, xs, rfl, h1, h2⟩ := rx.tupS s
      obtain ⟨b, ys, rfl, h3, h4⟩ := ry.tupS s
      refine .inr (.inr (.inl ⟨a, b, xs, ys, rfl, rfl, h1, h3, by rw [h2.length, h4.length]; exact hl, fun z => ?_, fun _ z => ?_, fun _ _ => tres s (h2.append h4) hc hQ⟩))
      · subst z
        cases h2
        exact vres s ry' hc hQ
      · subst z
        cases h4
        rw [List.append_nil] at hc
        exact vres s rx' hc hQ
    | _ => exact hp.elim
  | str a =>
    cases e with
    | str b => exact .inr (.inr (.inr ⟨a, b, rx.strS, ry.strS, hp.1, vres s (.str _) hp.2 hQ⟩))
    | _ => exact hp.elim
  | _ => exact hp.elim⟩
abbrev pSub : P2 := pI0 fun i j => .int (i - j)
theorem o_sub : O2 X (binaryOp .Sub) (rI0 fun i j => .int (i - j)) pSub := ⟨op_sub, s_rI0 fun _ _ _ => .int _⟩
/-- * of ints: one of them small, or both of bounded size; a list times an int; a tuple times an int -/
def mulOk (i j : Int) : Prop := (-(2 ^ 64) < i ∧ i < 2 ^ 64) ∨ (-(2 ^ 64) < j ∧ j < 2 ^ 64) ∨ CMulW i j
def pMul : P2 := fun d e c => match d, e with
  | .int i, .int j => mulOk i j ∧ c (.v (.int (i * j)))
  | .lst xs, .int k => -(2 ^ 63) ≤ k ∧ k < 2 ^ 63 ∧ xs.length * k.toNat ≤ sizeLine ∧ c (.o (List.replicate k.toNat xs).flatten)
  | .tup xs, .int k => xs ≠ [] ∧ 2 ≤ k ∧ k ≤ 1000 ∧ xs.length ≤ 1000 ∧ c (.v (.tup (List.replicate k.toNat xs).flatten))
  | _, _ => False
@[simp] theorem pMul_int (i j : Int) (c : RV → Prop) : pMul (.int i) (.int j) c = (mulOk i j ∧ c (.v (.int (i * j)))) := rfl
@[simp] theorem pMul_lst (xs : List D) (k : Int) (c : RV → Prop) : pMul (.lst xs) (.int k) c = (-(2 ^ 63) ≤ k ∧ k < 2 ^ 63 ∧ xs.length * k.toNat ≤ sizeLine ∧ c (.o (List.replicate k.toNat xs).flatten)) := rfl
@[simp] theorem pMul_tup (xs : List D) (k : Int) (c : RV → Prop) : pMul (.tup xs) (.int k) c = (xs ≠ [] ∧ 2 ≤ k ∧ k ≤ 1000 ∧ xs.length ≤ 1000 ∧ c (.v (.tup (List.replicate k.toNat xs).flatten))) := rfl
abbrev rMulD (K : PySem.W.Frag) : R2 := fun x y H Q => rI CMul (fun i j => .int (i * j)) x y H Q ∨ rI CMulW (fun i j => .int (i * j)) x y H Q ∨ rRep x y H Q ∨ rRepT K x y H Q
theorem o_mul : O2 X (binaryOp .Mult) (rMulD X.K) pMul := ⟨OpR.or op_mul (OpR.or op_mulW (OpR.or op_rep op_repT)), fun F H x y d e c Q s rx ry hp hQ => by
  cases d with
  | int i =>
    cases e with
    | int j =>
      obtain ⟨h, hc⟩ := hp
      rcases h with h | h | h
      · exact .inl ⟨i, j, rx.intS, ry.intS, .inl h, vres s (.int _) hc hQ⟩
      · exact .inl ⟨i, j, rx.intS, ry.intS, .inr h, vres s (.int _) hc hQ⟩
      · exact .inr (.inl ⟨i, j, rx.intS, ry.intS, h, vres s (.int _) hc hQ⟩)
    | _ => exact hp.elim
  | lst ds =>
    cases e with
    | int k =>
      obtain ⟨a, xs, rfl, h1, h2⟩ := rx.lstS s
      obtain ⟨q1, q2, q3, hc⟩ := hp
      exact .inr (.inr (.inl ⟨a, k, xs, rfl, ry.intS, h1, q1, q2, by rw [h2.length]; exact q3, lres s (h2.flat _) hc hQ⟩))
    | _ => exact hp.elim
  | tup ds =>
    cases e with
    | int k =>
      obtain ⟨a, xs, rfl, h1, h2⟩ := rx.tupS s
      obtain ⟨q0, q1, q2, q3, hc⟩ := hp
      exact .inr (.inr (.inr ⟨a, k, xs, rfl, ry.intS, h1, fun z => (by subst z; cases h2; exact q0 rfl), q1, q2, by rw [h2.length]; exact q3, tres s (h2.flat _) hc hQ⟩))
    | _ => exact hp.elim
  | _ => exact hp.elim⟩
theorem divOk {i j : Int} (h : 0 < j ∧ j < 2 ^ 200) : CDivW i j := wide_div (b := 200) h.1 (by omega) (by decide) (by decide)
abbrev pDiv : P2 := pI (fun _ j => 0 < j ∧ j < 2 ^ 200) fun i j => .int (i / j)
theorem o_div : O2 X (binaryOp .FloorDiv) (rI CDivW fun i j => .int (i / j)) pDiv := ⟨op_fdivW, s_rI (fun _ _ h => divOk h) fun _ _ _ => .int _⟩
abbrev pMod : P2 := pI (fun _ j => 0 < j) fun i j => .int (i % j)
theorem o_mod : O2 X (binaryOp .Mod) (rI (fun _ j => 0 < j) fun i j => .int (i % j)) pMod := ⟨op_mod, s_rI (fun _ _ h => h) fun _ _ _ => .int _⟩
abbrev pPow : P2 := pI (fun i j => 0 ≤ j ∧ j ≤ 1000000 ∧ i.natAbs < 2 ^ 64) fun i j => .int (i ^ j.toNat)
theorem o_pow : O2 X (binaryOp .Pow) (rI CPow fun i j => .int (i ^ j.toNat)) pPow := ⟨op_pow, s_rI (fun _ _ h => h) fun _ _ _ => .int _⟩
abbrev pShl : P2 := pI (fun i j => 0 ≤ j ∧ j ≤ 1000000 ∧ i.natAbs < 2 ^ 64) fun i j => .int (i * 2 ^ j.toNat)
theorem o_shl : O2 X (binaryOp .LShift) (rI CPow fun i j => .int (i * 2 ^ j.toNat)) pShl := ⟨op_shl, s_rI (fun _ _ h => h) fun _ _ _ => .int _⟩
abbrev pAddI : P2 := pI0 fun i j => .int (i + j)
theorem io_add : O2 X (inplaceOp .Add) (rI0 fun i j => .int (i + j)) pAddI := ⟨iop_add, s_rI0 fun _ _ _ => .int _⟩
theorem io_sub : O2 X (inplaceOp .Sub) (rI0 fun i j => .int (i - j)) pSub := ⟨iop_sub, s_rI0 fun _ _ _ => .int _⟩
abbrev pDivI : P2 := pI (fun _ j => 0 < j ∧ j < 1073741824) fun i j => .int (i / j)
theorem io_div : O2 X (inplaceOp .FloorDiv) (rI CDiv fun i j => .int (i / j)) pDivI := ⟨iop_fdiv, s_rI (fun _ _ h => h) fun _ _ _ => .int _⟩
/-! comparisons of ints -/
abbrev pLt : P2 := pI0 fun i j => .bl (decide (i < j))
abbrev pLe : P2 := pI0 fun i j => .bl (decide (i ≤ j))
abbrev pGt : P2 := pI0 fun i j => .bl (decide (j < i))
abbrev pGe : P2 := pI0 fun i j => .bl (decide (j ≤ i))
theorem o_lt : O2 X (compareOp .Lt) (rI0 fun i j => .bl (decide (i < j))) pLt := ⟨op_lt, s_rI0 fun _ _ _ => .bl _⟩
theorem o_le : O2 X (compareOp .LtE) (rI0 fun i j => .bl (decide (i ≤ j))) pLe := ⟨op_le, s_rI0 fun _ _ _ => .bl _⟩
theorem o_gt : O2 X (compareOp .Gt) (rI0 fun i j => .bl (decide (j < i))) pGt := ⟨op_gt, s_rI0 fun _ _ _ => .bl _⟩
theorem o_ge : O2 X (compareOp .GtE) (rI0 fun i j => .bl (decide (j ≤ i))) pGe := ⟨op_ge, s_rI0 fun _ _ _ => .bl _⟩
/-! equality, at any depth -/
mutual
def py : D → PyData
  | .non => .none
  | .bl b => .bool b
  | .int i => .int i
  | .str x => .str x
  | .tup ds => .tuple (pys ds)
  | .lst ds => .list (pys ds)
  | .frl ds => .list (pys ds)
  | _ => .none
def pys : List D → List PyData
  | [] => []
  | d :: ds => py d :: pys ds
end
mutual
def okPy : D → Bool
  | .non => true
  | .bl _ => true
  | .int _ => true
  | .str _ => true
  | .tup ds => okPys ds
  | .lst ds => okPys ds
  | .frl ds => okPys ds
  | _ => false
def okPys : List D → Bool
  | [] => true
  | d :: ds => okPy d && okPys ds
end
mutual
theorem Rep.dp (s : Same F H) : ∀ {v : V} {d : D}, Rep K F v d → okPy d = true → Dp K H v (py d)
  | _, _, .non, _ => by simp only [py]; exact .non
  | _, _, .bl b, _ => by simp only [py]; exact .bl b
  | _, _, .int i, _ => by simp only [py]; exact .int i
  | _, _, .str x, _ => by simp only [py]; exact .str x
  | _, _, .tup h r, e => by simp only [py]; exact .tup (same_sqT s h) (RepA.dp s r (by simpa [okPy] using e))
  | _, _, .lst h r, e => by simp only [py]; exact .lst (SqL.of (s _ _ h)) (RepA.dp s r (by simpa [okPy] using e))
  | _, _, .frl h r, e => by simp only [py]; exact .lst (s.seq h) (RepA.dp s r (by simpa [okPy] using e))
  | _, _, .dct _ _ _, e => by simp [okPy] at e
  | _, _, .raw _, e => by simp [okPy] at e
  | _, _, .h _, e => by simp [okPy] at e
theorem RepA.dp (s : Same F H) : ∀ {vs : List V} {ds : List D}, RepA K F vs ds → okPys ds = true → DpAll K H vs (pys ds)
  | _, _, .nil, _ => by simp only [pys]; exact .nil
  | _, _, .cons r t, e => by
    have e' := Bool.and_eq_true_iff.mp (by simpa only [okPys] using e)
    simp only [pys]; exact .cons (Rep.dp s r e'.1) (RepA.dp s t e'.2)
end
theorem RepB.dp (s : Same F H) {y : V} {d : D} (h : RepB K F H y d) (e : okPy d = true) : Dp K H y (py d) := by
  rcases h with h | ⟨a, xs, ds, rfl, rfl, h1, h2⟩
  · exact h.dp s e
  · simp only [py]
    exact .lst (SqL.of h1) (h2.dp s (by simpa [okPy] using e))
def eqD (d e : D) : Bool := PyData.eqv (py d) (py e)
def okE (d : D) : Prop := okPy d = true ∧ SeqAt.shaped (py d) = true
def pEq : P2 := fun d e c => match d, e with
  | .int i, .int j => c (.v (.bl (decide (i = j))))
  | .str i, .str j => c (.v (.bl (decide (i = j))))
  | d, e => okE d ∧ okE e ∧ c (.v (.bl (eqD d e)))
def pNe : P2 := fun d e c => match d, e with
  | .int i, .int j => c (.v (.bl (!decide (i = j))))
  | .str i, .str j => c (.v (.bl (!decide (i = j))))
  | d, e => okE d ∧ okE e ∧ c (.v (.bl (!eqD d e)))
@[simp] theorem pEq_int (i j : Int) (c : RV → Prop) : pEq (.int i) (.int j) c = c (.v (.bl (decide (i = j)))) := rfl
@[simp] theorem pNe_int (i j : Int) (c : RV → Prop) : pNe (.int i) (.int j) c = c (.v (.bl (!decide (i = j)))) := rfl
@[simp] theorem pEq_str (i j : Str) (c : RV → Prop) : pEq (.str i) (.str j) c = c (.v (.bl (decide (i = j)))) := rfl
@[simp] theorem pNe_str (i j : Str) (c : RV → Prop) : pNe (.str i) (.str j) c = c (.v (.bl (!decide (i = j)))) := rfl
@[simp] theorem pEq_lst (i j : List D) (c : RV → Prop) : pEq (.lst i) (.lst j) c = (okE (.lst i) ∧ okE (.lst j) ∧ c (.v (.bl (eqD (.lst i) (.lst j))))) := rfl
@[simp] theorem pNe_lst (i j : List D) (c : RV → Prop) : pNe (.lst i) (.lst j) c = (okE (.lst i) ∧ okE (.lst j) ∧ c (.v (.bl (!eqD (.lst i) (.lst j))))) := rfl
@[simp] theorem pEq_tup (i j : List D) (c : RV → Prop) : pEq (.tup i) (.tup j) c = (okE (.tup i) ∧ okE (.tup j) ∧ c (.v (.bl (eqD (.tup i) (.tup j))))) := rfl
@[simp] theorem pNe_tup (i j : List D) (c : RV → Prop) : pNe (.tup i) (.tup j) c = (okE (.tup i) ∧ okE (.tup j) ∧ c (.v (.bl (!eqD (.tup i) (.tup j))))) := rfl
abbrev rEqA (K : PySem.W.Frag) : R2 := fun x y H Q => rEq x y H Q ∨ rEqD K x y H Q
abbrev rNeA (K : PySem.W.Frag) : R2 := fun x y H Q => rNe x y H Q ∨ rNeD K x y H Q
theorem o_eq {k : Nat} (hr : Room k X.A) : O2 X (compareOp .Eq) (rEqA X.K) pEq := ⟨OpR.or op_eq (op_eqD hr.units), fun F H x y d e c Q s rx ry hp hQ => by
  unfold pEq at hp
  split at hp
  · next i j =>
    obtain rfl := rx.intS
    obtain rfl := ry.intS
    refine .inl ⟨rfl, ?_⟩
    have e : decide (V.int i = V.int j) = decide (i = j) := by simp
    rw [e]
    exact vres s (.bl _) hp hQ
  · next i j =>
    obtain rfl := rx.strS
    obtain rfl := ry.strS
    refine .inl ⟨rfl, ?_⟩
    have e : decide (V.str i = V.str j) = decide (i = j) := by simp
    rw [e]
    exact vres s (.bl _) hp hQ
  · exact .inr ⟨py d, py e, rx.dp s hp.1.1, ry.dp s hp.2.1.1, hp.1.2, hp.2.1.2, vres s (.bl _) hp.2.2 hQ⟩⟩
theorem o_ne {k : Nat} (hr : Room k X.A) : O2 X (compareOp .NotEq) (rNeA X.K) pNe := ⟨OpR.or op_ne (op_neD hr.units), fun F H x y d e c Q s rx ry hp hQ => by
  unfold pNe at hp
  split at hp
  · next i j =>
    obtain rfl := rx.intS
    obtain rfl := ry.intS
    refine .inl ⟨rfl, ?_⟩
    have e : decide (V.int i = V.int j) = decide (i = j) := by simp
    rw [e]
    exact vres s (.bl _) hp hQ
  · next i j =>
    obtain rfl := rx.strS
    obtain rfl := ry.strS
    refine .inl ⟨rfl, ?_⟩
    have e : decide (V.str i = V.str j) = decide (i = j) := by simp
    rw [e]
    exact vres s (.bl _) hp hQ
  · exact .inr ⟨py d, py e, rx.dp s hp.1.1, ry.dp s hp.2.1.1, hp.1.2, hp.2.1.2, vres s (.bl _) hp.2.2 hQ⟩⟩
/-! built-ins -/
def lenD : D → Option Nat
  | .lst ds => some ds.length
  | .frl ds => some ds.length
  | .tup ds => some ds.length
  | .str x => if x.length ≤ sizeLine then some x.length else none
  | _ => none
def one (ds : List D) : Option D := match ds with
  | [d] => some d
  | _ => none
theorem one_inv {ds : List D} {d : D} (h : one ds = some d) : ds = [d] := by
  unfold one at h
  split at h
  · cases h; rfl
  · cases h
@[simp] theorem one_one (d : D) : one [d] = some d := rfl
def pLen : PN := fun ds c => wd (one ds) fun d => wd (lenD d) fun n => c (.v (.int n))
theorem n_len : ON X (.builtin "len") (fun xs H Q => ∃ x n, xs = [x] ∧ LenV X.K x H n ∧ Q (.int n) H) pLen := ⟨call_len, fun F H xs ds c Q s r hp hQ => by
  obtain ⟨d, e, hp1⟩ := wd_iff hp
  obtain ⟨n, e2, hp2⟩ := wd_iff hp1
  have e0 := one_inv e
  rw [e0] at r
  obtain ⟨y, ey, r1⟩ := repBs1 r
  subst ey
  refine ⟨y, n, rfl, ?_, vres s (.int _) hp2 hQ⟩
  cases d with
  | lst ds =>
    obtain ⟨a, xs, rfl, h1, h2⟩ := r1.lstS s
    cases e2
    exact .inl ⟨xs, SqL.of h1, h2.length.symm⟩
  | frl ds =>
    obtain ⟨a, xs, rfl, h1, h2⟩ := r1.frlS s
    cases e2
    exact .inl ⟨xs, h1, h2.length.symm⟩
  | tup ds =>
    obtain ⟨a, xs, rfl, h1, h2⟩ := r1.tupS s
    cases e2
    exact .inr ⟨xs, h1, h2.length.symm⟩
  | str x =>
    obtain rfl := r1.strS
    simp only [lenD] at e2
    by_cases hx : x.length ≤ sizeLine
    · rw [if_pos hx] at e2; cases e2; exact ⟨hx, rfl⟩
    · rw [if_neg hx] at e2; cases e2
  | _ => cases e2⟩
/-- isinstance -/
def tyD : D → Option String
  | .non => some "NoneType"
  | .bl _ => some "bool"
  | .int _ => some "int"
  | .str _ => some "str"
  | .tup _ => some "tuple"
  | .lst _ => some "list"
  | .frl _ => some "list"
  | .dct _ _ => some "dict"
  | _ => none
def isiD (t n : String) : Option Bool :=
  if n = "int" then some (t == "int" || t == "bool") else if n = "bool" then some (t == "bool") else if n = "str" then some (t == "str")
  else if n = "list" then some (t == "list") else if n = "tuple" then some (t == "tuple") else if n = "dict" then some (t == "dict") else none
def pIsi : PN := fun ds c => match ds with
  | [d, .raw (.ty n)] => wd (tyD d) fun t => wd (isiD t n) fun b => c (.v (.bl b))
  | _ => False
theorem kit_all : ∀ t ∈ ["NoneType", "bool", "int", "str", "tuple", "list", "dict"], ∀ n ∈ ["int", "bool", "str", "list", "tuple", "dict"], kitB t n = isiD t n := by decide +kernel
theorem tyD_mem {d : D} {t : String} (h : tyD d = some t) : t ∈ ["NoneType", "bool", "int", "str", "tuple", "list", "dict"] := by
  cases d <;> cases h <;> simp
theorem isiD_mem {t n : String} {b : Bool} (h : isiD t n = some b) : n ∈ ["int", "bool", "str", "list", "tuple", "dict"] := by
  unfold isiD at h
  simp only [List.mem_cons, List.not_mem_nil, or_false]
  repeat' (split at h; · simp_all)
  cases h
theorem RepB.rawS {y v : V} (h : RepB K F H y (.raw v)) : y = v := by
  rcases h with h | ⟨a, xs, es, e1, e2, h1, h2⟩
  · cases h; rfl
  · cases e2
theorem sqL_ty {a : Addr} {xs : List V} (h : SqL K H a xs) : TyX K H (.ref a) (.type "list") := by
  rcases h with (h | ⟨o, h⟩) | ⟨o, its, n, hk, hc, _⟩
  · exact .base (.lst h)
  · exact .base (.frz h)
  · exact .kList hk hc
theorem sqT_ty {a : Addr} {xs : List V} (h : SqT K H a xs) : TyX K H (.ref a) (.type "tuple") := by
  rcases h with (h | ⟨o, h⟩) | ⟨o, its, n, hk, hc, _⟩
  · exact .base (.tup h)
  · exact .fTuple h
  · exact .kTuple hk hc
theorem RepB.ty (s : Same F H) {y : V} {d : D} {t : String} (r : RepB K F H y d) (e : tyD d = some t) : TyX K H y (.type t) := by
  cases d with
  | non => cases e; obtain rfl := r.nonS; exact .base .non
  | bl b => cases e; obtain rfl := r.blS; exact .base (.bl b)
  | int b => cases e; obtain rfl := r.intS; exact .base (.int b)
  | str b => cases e; obtain rfl := r.strS; exact .base (.str b)
  | tup ds => cases e; obtain ⟨a, xs, rfl, h1, h2⟩ := r.tupS s; exact sqT_ty h1
  | lst ds => cases e; obtain ⟨a, xs, rfl, h1, h2⟩ := r.lstS s; exact .base (.lst h1)
  | frl ds => cases e; obtain ⟨a, xs, rfl, h1, h2⟩ := r.frlS s; exact sqL_ty h1
  | dct ks ds =>
    cases e
    rcases r with h | ⟨a, xs, es, e1, e2, h1, h2⟩
    · cases h with
      | dct h1 _ _ => exact .base (.dK (s _ _ h1))
    · cases e2
  | _ => cases e
theorem n_isi : ON X (.builtin "isinstance") (rIsi X.K) pIsi := ⟨call_isi, fun F H xs ds c Q s r hp hQ => by
  unfold pIsi at hp
  split at hp
  · next d n =>
    obtain ⟨t, e1, hp⟩ := wd_iff hp
    obtain ⟨b, e2, hp⟩ := wd_iff hp
    obtain ⟨y, z, rfl, r1, r2⟩ := repBs2 r
    obtain rfl := r2.rawS
    exact ⟨y, .ty n, .type t, .type n, b, rfl, .ty n, r1.ty s e1, kit_ty ((kit_all t (tyD_mem e1) n (isiD_mem e2)).trans e2), vres s (.bl _) hp hQ⟩
  · exact hp.elim⟩
/-- list(x), tuple(x), int(x) -/
def seqD : D → Option (List D)
  | .lst ds => some ds
  | .frl ds => some ds
  | .tup ds => some ds
  | _ => none
theorem RepB.seqS (s : Same F H) {y : V} {d : D} {ds : List D} (r : RepB K F H y d) (e : seqD d = some ds) : ∃ a xs, y = .ref a ∧ (SqL K H a xs ∨ SqT K H a xs) ∧ RepA K F xs ds := by
  cases d with
  | lst ds => cases e; obtain ⟨a, xs, rfl, h1, h2⟩ := r.lstS s; exact ⟨a, xs, rfl, .inl (SqL.of h1), h2⟩
  | frl ds => cases e; obtain ⟨a, xs, rfl, h1, h2⟩ := r.frlS s; exact ⟨a, xs, rfl, .inl h1, h2⟩
  | tup ds => cases e; obtain ⟨a, xs, rfl, h1, h2⟩ := r.tupS s; exact ⟨a, xs, rfl, .inr h1, h2⟩
  | _ => cases e
def pList : PN := fun ds c => wd (one ds) fun d => wd (seqD d) fun es => c (.o es)
theorem n_list : ON X (.type "list") (fun xs H Q => ∃ p ys, xs = [.ref p] ∧ (SqL X.K H p ys ∨ SqT X.K H p ys) ∧ ∀ l, H l = none → Q (.ref l) (upd H l (.lst ys))) pList := ⟨call_list_of, fun F H xs ds c Q s r hp hQ => by
  obtain ⟨d, e, hp1⟩ := wd_iff hp
  obtain ⟨es, e2, hp2⟩ := wd_iff hp1
  have e0 := one_inv e
  rw [e0] at r
  obtain ⟨y, ey, r1⟩ := repBs1 r
  subst ey
  obtain ⟨a, xs, rfl, h1, h2⟩ := r1.seqS s e2
  exact ⟨a, xs, rfl, h1, lres s h2 hp2 hQ⟩⟩
def pTuple : PN := fun ds c => wd (one ds) fun d => wd (seqD d) fun es => c (.v (.tup es))
theorem n_tuple : ON X (.type "tuple") (fun xs H Q => ∃ p ys, xs = [.ref p] ∧ ((SqL X.K H p ys ∧ ∀ l, H l = none → Q (.ref l) (upd H l (.tup ys))) ∨ (SqT X.K H p ys ∧ Q (.ref p) H))) pTuple := ⟨call_tuple_of, fun F H xs ds c Q s r hp hQ => by
  obtain ⟨d, e, hp1⟩ := wd_iff hp
  obtain ⟨es, e2, hp2⟩ := wd_iff hp1
  have e0 := one_inv e
  rw [e0] at r
  obtain ⟨y, ey, r1⟩ := repBs1 r
  subst ey
  cases d with
  | lst ds => cases e2; obtain ⟨a, xs, rfl, h1, h2⟩ := r1.lstS s; exact ⟨a, xs, rfl, .inl ⟨SqL.of h1, tres s h2 hp2 hQ⟩⟩
  | frl ds => cases e2; obtain ⟨a, xs, rfl, h1, h2⟩ := r1.frlS s; exact ⟨a, xs, rfl, .inl ⟨h1, tres s h2 hp2 hQ⟩⟩
  | tup ds =>
    cases e2
    rcases r1 with h | ⟨a, xs, es, e1, e2, h1, h2⟩
    · cases id h with
      | tup q rr => exact ⟨_, _, rfl, .inr ⟨same_sqT s q, vres s h hp2 hQ⟩⟩
    · cases e2
  | _ => cases e2⟩
def pInt : PN := fun ds c => wd (one ds) fun d => match d with
  | .int i => c (.v (.int i))
  | .bl b => c (.v (.int (if b then 1 else 0)))
  | _ => False
theorem n_int : ON X (.type "int") (fun xs H Q => (∃ i, xs = [.int i] ∧ Q (.int i) H) ∨ ∃ k, xs = [.bl k] ∧ Q (.int (if k then 1 else 0)) H) pInt := ⟨call_int1, fun F H xs ds c Q s r hp hQ => by
  obtain ⟨d, e, hp2⟩ := wd_iff hp
  have e0 := one_inv e
  rw [e0] at r
  obtain ⟨y, ey, r1⟩ := repBs1 r
  subst ey
  cases d with
  | int i => obtain rfl := r1.intS; exact .inl ⟨i, rfl, vres s (.int _) hp2 hQ⟩
  | bl b => obtain rfl := r1.blS; exact .inr ⟨b, rfl, vres s (.int _) hp2 hQ⟩
  | _ => exact hp2.elim⟩
def pMin2 : PN := fun ds c => wd (int2 ds) fun p => c (.v (.int (if p.2 < p.1 then p.2 else p.1)))
def pMax2 : PN := fun ds c => wd (int2 ds) fun p => c (.v (.int (if p.2 > p.1 then p.2 else p.1)))
theorem n_min2 (hc : X.calm = true) : ON X (.builtin "min") (fun xs H Q => ∃ i j, xs = [.int i, .int j] ∧ Q (.int (if j < i then j else i)) H) pMin2 := ⟨call_min2 hc, fun F H xs ds c Q s r hp hQ => by
  obtain ⟨⟨i, j⟩, e, hp⟩ := wd_iff hp
  obtain rfl := int2_inv e
  obtain ⟨y, z, rfl, r1, r2⟩ := repBs2 r
  obtain rfl := r1.intS
  obtain rfl := r2.intS
  exact ⟨i, j, rfl, vres s (.int _) hp hQ⟩⟩
theorem n_max2 (hc : X.calm = true) : ON X (.builtin "max") (fun xs H Q => ∃ i j, xs = [.int i, .int j] ∧ Q (.int (if j > i then j else i)) H) pMax2 := ⟨call_max2 hc, fun F H xs ds c Q s r hp hQ => by
  obtain ⟨⟨i, j⟩, e, hp⟩ := wd_iff hp
  obtain rfl := int2_inv e
  obtain ⟨y, z, rfl, r1, r2⟩ := repBs2 r
  obtain rfl := r1.intS
  obtain rfl := r2.intS
  exact ⟨i, j, rfl, vres s (.int _) hp hQ⟩⟩
/-! subscripts -/
theorem repA_atI {xs : List V} {ds : List D} {i : Int} {d : D} (h : RepA K F xs ds) (e : atI ds i = some d) : ∃ x, atI xs i = some x ∧ Rep K F x d := by
  unfold atI at e ⊢
  rw [h.length]
  cases q : ixN ds.length i with
  | none => rw [q] at e; cases e
  | some j =>
    rw [q] at e
    obtain ⟨x, hx, r⟩ := h.getD (i := j) (d := d) e
    exact ⟨x, hx, r⟩
def pIx : P2 := fun d e c => match e with
  | .int i => wd (seqD d) fun ds => wd (atI ds i) fun x => c (.v x)
  | _ => False
theorem s_ix : S2 K (rIx K) pIx := fun F H x y d e c Q s rx ry hp hQ => by
  cases e with
  | int i =>
    obtain ⟨ds, e1, hp⟩ := wd_iff hp
    obtain ⟨z, e2, hp⟩ := wd_iff hp
    obtain rfl := ry.intS
    obtain ⟨a, xs, rfl, h1, h2⟩ := rx.seqS s e1
    obtain ⟨v, e3, r3⟩ := repA_atI h2 e2
    rcases h1 with h1 | h1
    · exact .inl ⟨a, xs, i, v, rfl, rfl, h1, e3, vres s r3 hp hQ⟩
    · exact .inr (.inl ⟨a, xs, i, v, rfl, rfl, h1, e3, vres s r3 hp hQ⟩)
  | _ => exact hp.elim
theorem de_ix {W : WX} {pos : Pos} {a b : Expr} {ta tb : TE} {wa wb : WE} (ha : DE X W a ta wa) (hb : DE X W b tb wb) (hs : PlainIx b := by exact fun _ _ => rfl) : DE X W (.Subscript a b pos) (tOp (rIx X.K) ta tb) (wOp pIx wa wb) := ⟨pe_ix ix_seq ha.p hb.p hs, se_op ha.s hb.s s_ix⟩
/-- methods of a list at a name -/
theorem de_app (i : Nat) {W : WX} {x : Str} {p1 p2 cpos : Pos} {e : Expr} {te : TE} {we : WE} (he : DE X W e te we) (hN : X.N[i]? = some x := by rfl) (hv : Vis X.env.scope x := by first | exact Or.inl rfl | exact Or.inr (Or.inl rfl) | exact Or.inr (Or.inr rfl)) (hd : (x == ("__debug__" : Str)) = false := by decide)
    (hcd : (x == ("__classdict__" : Str)) = false := by decide) (hbase : attributeBase (.Name x p1) "append" X.env (eval (.Name x p1) X.env) = eval (.Name x p1) X.env := by rfl)
    (hfew : ((backTo cpos (starEach [e] X.env)).all (fun x => !x.1) && (backToKw cpos (keywordEach [] X.env)).all (fun x => x.1.isSome) && decide (([e] : List Expr).length + ([] : List Keyword).length + (if ([] : List Keyword).isEmpty then 0 else 1) < 30)) = true := by rfl)
    (hline : (p2.endLine == cpos.line) = true := by rfl) (hs : starEach [e] X.env = (false, eval e X.env) :: starEach [] X.env := by rfl) (hplain : (backTo cpos (starEach [] X.env)).any (·.1) = false := by rfl) :
    DE X W (.Call (.Attribute (.Name x p1) "append" p2) [e] [] cpos) (tBM X.K "list" rAppend (tVar i) (tCons te tNil)) (wMut i mApp (wCons we wNil)) :=
  ⟨pe_bm PySem.F.plainAttrs_list PySem.F.slot_list_append PySem.F.type_list_append mt_append (pe_var hN hv hd hcd) (pa_cons he.p pa_nil hs) hbase hfew hline hs hplain, se_mut (sa_cons he.s sa_nil) sm_append⟩
end
end DL

set_option Elab.async false
set_option linter.all false
set_option maxRecDepth 100000
namespace DL
open PySem L2
section
variable {K : PySem.W.Frag} {B : Base} {F F' : Hp} {om : Om} {H H' : Hp} {st : St} {r : Env} {W : WX} {X : Cx}
/-- x = a list of one's own, kept as a handle whose content is hidden: P -/
def wAsgH (i : Nat) (P : List D → Prop) (we : WE) : WS := fun e r om => we e.xq r om fun x r1 om1 => match x with
  | .o ds => P ds ∧ i < r1.length ∧ ∀ a, om1 a = none → e.nx (r1.set i (some (.v (.h a)))) (oset om1 a (.lstP P))
  | _ => False
theorem ss_asgH {i : Nat} {P : List D → Prop} {te : TE} {we : WE} (he : SE K W te we) : SS K W (tAsg te (gName i)) (wAsgH i P we) := fun B F om H st r D e R hx hE hw => by
  refine he B F om H st r e.xq _ _ R hx (fun x r1 om1 F1 H1 y R1 s1 k1 q1 hw => ?_) hw
  cases x with
  | v d => exact hw.elim
  | b i => exact hw.elim
  | o ds =>
    obtain ⟨hP, hi, hw⟩ := hw
    obtain ⟨a, rfl, o, o6⟩ := q1
    have R2 := R1.toH (ob := .lstP P) o o6 fun xs hr => ⟨ds, hP, hr⟩
    exact hE.nx _ _ _ _ _ (R2.put (x := .v (.h a)) (Rep.h a) (fun j z => by cases z) hi) (hw a o.2.1)
theorem ds_setH (i : Nat) (P : List D → Prop) {x : Str} {e : Expr} {te : TE} {we : WE} {pos pos' : Pos} (hN : X.N.Nodup) (he : DE X W e te we) (hi : X.N[i]? = some x := by rfl) (hx : Loc X.env.scope x := by first | exact .inl rfl | exact .inr rfl) (hs : swapsWith e (some (.Name x pos')) pos.line X.env = pure false := by rfl) (hf : X.fn x = true ∨ X.env.scope.names.lookup x = some .local := by first | exact .inl rfl | exact .inr rfl) :
    DS X W (.Assign [.Name x pos'] e pos) (tAsg te (gName i)) (wAsgH i P we) := ⟨ps_set hN hi hx he.p hs hf, ss_asgH he.s⟩
/-- an element kept as a handle, its content hidden -/
def wHnd (P : List D → Prop) (we : WE) : WE := fun xq r om k => we xq r om fun x r1 om1 => match x with
  | .o ds => P ds ∧ ∀ a, om1 a = none → k (.v (.h a)) r1 (oset om1 a (.lstP P))
  | _ => False
theorem de_hnd (P : List D → Prop) {e : Expr} {te : TE} {we : WE} (he : DE X W e te we) : DE X W e te (wHnd P we) := ⟨he.p, fun B F om H st r xq k Q R hx hQ hw => by
  refine he.s B F om H st r xq _ _ R hx (fun x r1 om1 F1 H1 y R1 s1 k1 q1 hw => ?_) hw
  cases x with
  | v d => exact hw.elim
  | b i => exact hw.elim
  | o ds =>
    obtain ⟨hP, hw⟩ := hw
    obtain ⟨a, rfl, o, o6⟩ := q1
    have R2 := R1.toH (ob := .lstP P) o o6 fun xs hr => ⟨ds, hP, hr⟩
    exact hQ (.v (.h a)) _ _ _ _ _ R2 s1 trivial (Rep.h a) (hw a o.2.1)⟩
theorem RelH.openP {a : Addr} {P : List D → Prop} (R : RelH K F om H) (e : om a = some (.lstP P)) : ∃ es, P es ∧ RelH K F (oset om a (.lst es)) H := by
  obtain ⟨f1, o1⟩ := R.obj a _ e
  obtain ⟨xs, es, h1, h2, h3⟩ := o1.lstP
  refine ⟨es, h2, R.sub, fun b ob q => ?_⟩
  by_cases hb : b = a
  · subst hb
    rw [oset_same] at q
    cases q
    rw [h1]
    exact ⟨f1, h3⟩
  · rw [oset_ne hb] at q
    exact R.obj b ob q
theorem RelH.closeP {a : Addr} {P : List D → Prop} {es : List D} (R : RelH K F (oset om a (.lst es)) H) (e : om a = some (.lstP P)) (h : P es) : RelH K F om H := by
  refine ⟨R.sub, fun b ob q => ?_⟩
  by_cases hb : b = a
  · subst hb
    rw [e] at q
    cases q
    obtain ⟨f1, o1⟩ := R.obj b _ oset_same
    obtain ⟨xs, h1, h3⟩ := o1.lst
    rw [h1]
    exact ⟨f1, es, h, h3⟩
  · exact R.obj b ob (by rw [oset_ne hb]; exact q)
/-- a promise with the handle's content told gives one with it hidden -/
theorem toSp_close {c c' : Con} {a : List D → Addr} {P : List D → Prop}
    (h : ∀ ds om k xk, c'.df ds om k xk → om (a ds) = some (.lstP P) ∧ ∀ es, P es → c.df ds (oset om (a ds) (.lst es)) (fun x om' => ∃ es', P es' ∧ om' = oset om (a ds) (.lst es') ∧ k x om) (fun ex om' => ∃ es', P es' ∧ om' = oset om (a ds) (.lst es') ∧ xk ex om))
    (vs : List V) (H : Hp) (Q : VK) (E : XK) (hs : toSp K c' vs H Q E) : toSp K c vs H Q E := by
  obtain ⟨F, om, ds, R, rp, hd⟩ := hs
  obtain ⟨e, hd⟩ := h ds om _ _ hd
  obtain ⟨es, hP, R2⟩ := R.openP e
  have ne : ∀ b, om b = none → b ≠ a ds := fun b n z => by rw [z, e] at n; cases n
  have oe : ∀ es b, om b = none → oset om (a ds) (.lst es) b = none := fun es b n => by rw [oset_ne (ne b n)]; exact n
  have eo : ∀ es b, oset om (a ds) (.lst es) b = none → om b = none := fun es b n => by
    by_cases hb : b = a ds
    · rw [hb, oset_same] at n; cases n
    · rw [oset_ne hb] at n; exact n
  have ex' : ∀ {es' : List D} {F' H' : Hp}, Ext ⟨F, oset om (a ds) (.lst es), H⟩ F' (oset om (a ds) (.lst es')) H' → Ext ⟨F, om, H⟩ F' om H' := fun {es' F' H'} x =>
    ⟨x.f, x.new, fun b o q n => x.keep b o q (oe es b n), x.dom, fun b o q n => (by have n' : om b = none := n; rw [n'] at q; cases q), fun b q => eo es b (x.wf b q)⟩
  refine ⟨F, oset om (a ds) (.lst es), ds, R2, rp, c.mono _ _ _ _ _ _ (fun x om' hk F' H' y rh x2 sl => ?_) (fun ex om' hk F' H' cls d rh x2 he => ?_) (hd es hP)⟩
  · obtain ⟨es', hP', rfl, hk⟩ := hk
    refine hk F' H' y (rh.closeP e hP') (ex' x2) ?_
    cases x with
    | v d => exact sl
    | b i => exact sl
    | o l =>
      obtain ⟨b, rfl, o1, o2, o3, xs, o4, o5⟩ := sl
      exact ⟨b, rfl, o1, eo es' b o2, o3, xs, o4, o5⟩
  · obtain ⟨es', hP', rfl, hk⟩ := hk
    exact hk F' H' cls d (rh.closeP e hP') (ex' x2) he
end
/-- the law's end -/
theorem walk_D {l : PySem.W.OpenLaw} {n k : Nat} {q : Program} {loose : List Str} {XP : (Str → Option Value) → Heap → Prop} {YP : World → Heap → Prop} {d : DefRec} {x : Str}
    (hn : l.most = some n) (hn2 : n ≤ sizeLine) (hdf : d.params.defaults = []) (hr : Room k callerA)
    (F : ∀ (w : World) (mg : Str → Option Value) (fa : Addr) (h : Heap), YP w h → h.Ns mainGlobals mg → mg d.name = some (.ref fa) →
      ∃ (K : PySem.W.Frag) (fd : FuncData) (c : Con), K.In h ∧ (∀ (s : Shared) (u : Value), BindsTo s fd ⟨[u], []⟩ [(x, u)]) ∧
        (∀ (ns : List Int) (om : Om), ns.length ≤ n → (∀ z ∈ ns, Builtin.Int.intBits z ≤ 1048576) → c.df [.frl (ns.map D.int)] om (fun x _ => x = .v (.bl true)) (fun _ _ => False)) ∧
        ∀ base : Heap, K.In base → base.Ns mainGlobals mg → FnOk l.prog w K mg base (L2.CX l.prog w) k fa fd [x] (toSp K c)) :
    PySem.W.WalkO q loose XP YP l.row.toRowW d [] (fun f vs => PySem.call f vs) := by
  refine Att.attach_callB hn hdf fun w s0 s1 mg mb fa o pm cd doc a vs ns G Y ho hd hcd hmg hobj hints hlen hbits hg => ?_
  obtain ⟨K, fd, c, KX, hb, hsp, hF⟩ := F w mg fa _ Y G.T.g hmg
  refine law_call KX G.T.g G.T.b G.T.builtins G.T.nolimit hg hobj hints (Nat.le_trans hlen hn2) hr hF hb (fun H hO hS => ?_) fun H e s' hz => ?_
  · refine ⟨H, fun _ => none, [.frl (ns.map D.int)], ⟨Same.refl H, fun a ob e => by cases e⟩, .cons (.frl hS (repA_ints ns)) .nil, c.mono _ _ _ _ _ _ (fun x om' hx F' H' y rh ex sl => ?_) (fun ex om' hx => hx.elim) (hsp ns _ hlen hbits)⟩
    subst hx
    cases (show Rep K F' y (.bl true) from sl)
    rfl
  · obtain ⟨_, _, _, _, _, _, _, _, _, _, _, _, z⟩ := hz
    exact z
end DL

set_option Elab.async false
set_option linter.all false
set_option maxRecDepth 100000
/-! loops by invariants -/
namespace DL
open PySem L2
theorem loop_inv {step : D → (Env → Om → Prop) → Env → Om → Prop} {fin : Env → Om → Prop} (I : Nat → Env → Om → Prop) : ∀ {items : List D} {j : Nat} {r : Env} {om : Om}, I j r om →
    (∀ (i : Nat) (d : D) (r : Env) (om : Om) (nx : Env → Om → Prop), items[i]? = some d → I (j + i) r om → (∀ r' om', I (j + i + 1) r' om' → nx r' om') → step d nx r om) →
    (∀ r om, I (j + items.length) r om → fin r om) → loop step items fin r om
  | [], j, r, om, h0, hs, hf => hf r om h0
  | d :: ds, j, r, om, h0, hs, hf => by
    rw [loop_cons]
    refine hs 0 d r om _ rfl h0 fun r' om' h => ?_
    refine loop_inv I (j := j + 1) h (fun i d r om nx e hi hn => hs (i + 1) d r om nx (by simpa using e) (by rw [show j + (i + 1) = j + 1 + i by omega]; exact hi) (by rw [show j + (i + 1) + 1 = j + 1 + i + 1 by omega]; exact hn)) fun r om h => hf r om (by rw [List.length_cons, show j + (ds.length + 1) = j + 1 + ds.length by omega]; exact h)
/-- over a list of items -/
theorem loop_list {step : D → (Env → Om → Prop) → Env → Om → Prop} {fin : Env → Om → Prop} (I : Nat → Env → Om → Prop) {items : List D} {r : Env} {om : Om} (h0 : I 0 r om)
    (hs : ∀ (i : Nat) (d : D) (r : Env) (om : Om) (nx : Env → Om → Prop), items[i]? = some d → I i r om → (∀ r' om', I (i + 1) r' om' → nx r' om') → step d nx r om)
    (hf : ∀ r om, I items.length r om → fin r om) : loop step items fin r om :=
  loop_inv I (j := 0) h0 (fun i d r om nx e hi hn => hs i d r om nx e (by simpa using hi) (by simpa using hn)) fun r om h => hf r om (by simpa using h)
/-- over lo, lo + 1, .. -/
theorem loop_rng {step : D → (Env → Om → Prop) → Env → Om → Prop} {fin : Env → Om → Prop} (I : Nat → Env → Om → Prop) {lo : Int} {n : Nat} {r : Env} {om : Om} (h0 : I 0 r om)
    (hs : ∀ (i : Nat) (r : Env) (om : Om) (nx : Env → Om → Prop), i < n → I i r om → (∀ r' om', I (i + 1) r' om' → nx r' om') → step (.int (lo + i)) nx r om)
    (hf : ∀ r om, I n r om → fin r om) : loop step (rng lo n) fin r om :=
  loop_list I h0 (fun i d r om nx e hi hn => by obtain ⟨h, rfl⟩ := rng_get e; exact hs i r om nx h hi hn) fun r om h => hf r om (by rw [rng_len] at h; exact h)
/-- a comprehension: what is made so far -/
theorem lc_inv {g : GT} {wt : WT} {we : WE} {vs : List Nat} {fin : List D → Env → Om → Prop} (I : Nat → List D → Env → Om → Prop) : ∀ {items : List D} {j : Nat} {acc : List D} {r : Env} {om : Om}, I j acc r om →
    (∀ (i : Nat) (d : D) (acc : List D) (r : Env) (om : Om) (nx : List D → Env → Om → Prop), items[i]? = some d → I (j + i) acc r om → (∀ acc' r' om', I (j + i + 1) acc' r' om' → nx acc' r' om') →
      g (.v d) r fun r2 => wt X0 r2 om fun b r3 om3 => if b = true then we X0 r3 om3 fun x r4 om4 => wd (datE x) fun y => acc.length < sizeLine ∧ nx (acc ++ [y]) (wipeE r4 vs) om4 else nx acc (wipeE r3 vs) om3) →
    (∀ acc r om, I (j + items.length) acc r om → fin acc r om) → lcGo g wt we vs items acc r om fin
  | [], j, acc, r, om, h0, _, hf => hf acc r om h0
  | d :: ds, j, acc, r, om, h0, hs, hf => by
    refine hs 0 d acc r om (fun acc r om => lcGo g wt we vs ds acc r om fin) rfl h0 fun acc' r' om' h' => ?_
    exact lc_inv I (j := j + 1) h' (fun i d acc r om nx e hi hn => hs (i + 1) d acc r om nx (by simpa using e) (by rw [show j + (i + 1) = j + 1 + i by omega]; exact hi) (by rw [show j + (i + 1) + 1 = j + 1 + i + 1 by omega]; exact hn)) (fun acc r om h => hf acc r om (by rw [List.length_cons, show j + (ds.length + 1) = j + 1 + ds.length by omega]; exact h))
theorem lc_list {g : GT} {wt : WT} {we : WE} {vs : List Nat} {fin : List D → Env → Om → Prop} (I : Nat → List D → Env → Om → Prop) {items : List D} {acc : List D} {r : Env} {om : Om} (h0 : I 0 acc r om)
    (hs : ∀ (i : Nat) (d : D) (acc : List D) (r : Env) (om : Om) (nx : List D → Env → Om → Prop), items[i]? = some d → I i acc r om → (∀ acc' r' om', I (i + 1) acc' r' om' → nx acc' r' om') →
      g (.v d) r fun r2 => wt X0 r2 om fun b r3 om3 => if b = true then we X0 r3 om3 fun x r4 om4 => wd (datE x) fun y => acc.length < sizeLine ∧ nx (acc ++ [y]) (wipeE r4 vs) om4 else nx acc (wipeE r3 vs) om3)
    (hf : ∀ acc r om, I items.length acc r om → fin acc r om) : lcGo g wt we vs items acc r om fin :=
  lc_inv I (j := 0) h0 (fun i d acc r om nx e hi hn => hs i d acc r om nx e (by simpa using hi) (by simpa using hn)) fun acc r om h => hf acc r om (by simpa using h)
end DL

set_option Elab.async false
set_option linter.all false
/-! how readings are unfolded: by what stands there -/
namespace DL
open PySem L2
section
variable (om : Om) (r : Env) (ds es : List D) (d e f g : D) (i j : Int) (b : Bool) (x y : Str) (c : RV → Prop) (n : Nat)
theorem deref_non : deref om .non = .non := rfl
theorem deref_bl : deref om (.bl b) = .bl b := rfl
theorem deref_int : deref om (.int i) = .int i := rfl
theorem deref_str : deref om (.str x) = .str x := rfl
theorem deref_tup : deref om (.tup ds) = .tup ds := rfl
theorem deref_lst : deref om (.lst ds) = .lst ds := rfl
theorem deref_frl : deref om (.frl ds) = .frl ds := rfl
theorem deref_dct (ks : List Key) : deref om (.dct ks ds) = .dct ks ds := rfl
theorem deref_raw (v : V) : deref om (.raw v) = .raw v := rfl
theorem deref_h {om : Om} {a : Addr} {ds : List D} (h : om a = some (.lst ds)) : deref om (.h a) = .lst ds := by simp only [deref, h]
theorem deref_os {a : Addr} : deref (oset om a (.lst ds)) (.h a) = .lst ds := deref_h oset_same
theorem datB_v : datB r om (.v d) = some (deref om d) := rfl
theorem datB_o : datB r om (.o ds) = some (.lst ds) := rfl
theorem datB_b : datB r om (.b n) = (match r[n]? with
    | some (some (.o ds)) => some (.lst ds)
    | some (some (.v d)) => some (deref om d)
    | _ => none) := rfl
theorem datE_v : datE (.v d) = some d := rfl
theorem datE_o : datE (.o ds) = some (.lst ds) := rfl
theorem datsE_nil : datsE [] = some [] := rfl
theorem datsE_v (l : List RV) : datsE (.v d :: l) = (datsE l).map (d :: ·) := by simp only [datsE, datE]; cases datsE l <;> rfl
theorem datsB_nil : datsB r om [] = some [] := rfl
theorem datsB_cons (z : RV) (l : List RV) : datsB r om (z :: l) = (datB r om z).bind fun d => (datsB r om l).map (d :: ·) := by
  simp only [datsB]
  cases datB r om z with
  | none => rfl
  | some d => cases datsB r om l <;> rfl
theorem fz_v : fz (.v d) = .v d := rfl
theorem fz_o : fz (.o ds) = .v (.lst ds) := rfl
theorem fz_b : fz (.b n) = .b n := rfl
theorem boolD_bl : boolD (.bl b) = some b := rfl
theorem truD_bl : truD (.bl b) = some b := rfl
theorem truD_non : truD .non = some false := rfl
theorem truD_int : truD (.int i) = some (i != 0) := rfl
theorem truD_lst : truD (.lst ds) = some !ds.isEmpty := rfl
theorem truD_tup : truD (.tup ds) = some !ds.isEmpty := rfl
theorem intD_int : intD (.int i) = some i := rfl
theorem int1_int : int1 [.int i] = some i := rfl
theorem int2_int : int2 [.int i, .int j] = some (i, j) := rfl
theorem lenD_lst : lenD (.lst ds) = some ds.length := rfl
theorem lenD_frl : lenD (.frl ds) = some ds.length := rfl
theorem lenD_tup : lenD (.tup ds) = some ds.length := rfl
theorem seqD_lst : seqD (.lst ds) = some ds := rfl
theorem seqD_frl : seqD (.frl ds) = some ds := rfl
theorem seqD_tup : seqD (.tup ds) = some ds := rfl
theorem tyD_non : tyD .non = some "NoneType" := rfl
theorem tyD_bl : tyD (.bl b) = some "bool" := rfl
theorem tyD_int : tyD (.int i) = some "int" := rfl
theorem tyD_str : tyD (.str x) = some "str" := rfl
theorem tyD_tup : tyD (.tup ds) = some "tuple" := rfl
theorem tyD_lst : tyD (.lst ds) = some "list" := rfl
theorem tyD_frl : tyD (.frl ds) = some "list" := rfl
theorem tyD_dct (ks : List Key) : tyD (.dct ks ds) = some "dict" := rfl
theorem pIsi_at (t : String) : pIsi [d, .raw (.ty t)] c = wd (tyD d) fun u => wd (isiD u t) fun b => c (.v (.bl b)) := rfl
theorem isi_int (t : String) : isiD t "int" = some (t == "int" || t == "bool") := rfl
theorem isi_bool (t : String) : isiD t "bool" = some (t == "bool") := rfl
theorem isi_str (t : String) : isiD t "str" = some (t == "str") := rfl
theorem isi_list (t : String) : isiD t "list" = some (t == "list") := rfl
theorem isi_tuple (t : String) : isiD t "tuple" = some (t == "tuple") := rfl
theorem isi_dict (t : String) : isiD t "dict" = some (t == "dict") := rfl
theorem pLen_at : pLen [d] c = wd (lenD d) fun n => c (.v (.int n)) := rfl
theorem pList_at : pList [d] c = wd (seqD d) fun es => c (.o es) := rfl
theorem pTuple_at : pTuple [d] c = wd (seqD d) fun es => c (.v (.tup es)) := rfl
theorem pInt_int : pInt [.int i] c = c (.v (.int i)) := rfl
theorem pInt_bl : pInt [.bl b] c = c (.v (.int (if b then 1 else 0))) := rfl
theorem pMin2_at : pMin2 [.int i, .int j] c = c (.v (.int (if j < i then j else i))) := rfl
theorem pMax2_at : pMax2 [.int i, .int j] c = c (.v (.int (if j > i then j else i))) := rfl
theorem pIx_at : pIx d (.int i) c = wd (seqD d) fun ds => wd (atI ds i) fun x => c (.v x) := rfl
theorem atI_0 : atI (d :: ds) 0 = some d := by unfold atI ixN; simp
theorem ixN_0 : ixN (n + 1) 0 = some 0 := by unfold ixN; simp
theorem ixN_1 : ixN (n + 1 + 1) 1 = some 1 := by unfold ixN; simp; omega
theorem ixN_2 : ixN (n + 1 + 1 + 1) 2 = some 2 := by unfold ixN; simp; omega
theorem ixN_3 : ixN (n + 1 + 1 + 1 + 1) 3 = some 3 := by unfold ixN; simp; omega
theorem atI_1 : atI (d :: e :: ds) 1 = some e := by unfold atI; simp only [List.length_cons]; rw [ixN_1]; rfl
theorem atI_2 : atI (d :: e :: f :: ds) 2 = some f := by unfold atI; simp only [List.length_cons]; rw [ixN_2]; rfl
theorem atI_3 : atI (d :: e :: f :: g :: ds) 3 = some g := by unfold atI; simp only [List.length_cons]; rw [ixN_3]; rfl
theorem atI_in {ds : List D} {i : Int} (h0 : 0 ≤ i) (h1 : i < (ds.length : Int)) : ∃ d, d ∈ ds ∧ atI ds i = some d := by
  have hl : i.toNat < ds.length := by omega
  refine ⟨ds[i.toNat], List.getElem_mem hl, ?_⟩
  have := atI_nat (j := i.toNat) (List.getElem?_eq_getElem hl)
  rwa [Int.toNat_of_nonneg h0] at this
theorem atI_get {ds : List D} {i : Int} (h0 : 0 ≤ i) (h1 : i < (ds.length : Int)) : atI ds i = ds[i.toNat]? := by
  have hl : i.toNat < ds.length := by omega
  have := atI_nat (j := i.toNat) (List.getElem?_eq_getElem hl)
  rw [Int.toNat_of_nonneg h0] at this
  rw [this, List.getElem?_eq_getElem hl]
theorem mApp_at : mApp ds [d] = fun c => ds.length < sizeLine ∧ c (ds ++ [d]) .non := rfl
theorem wiL_lst (xq : DX) (k : List D → Env → Om → Prop) (w : WE) : wiL w xq r om k = w xq r om fun x r1 om1 => match fz x with
  | .v (.lst ds) => k ds r1 om1
  | .v (.frl ds) => k ds r1 om1
  | _ => False := rfl
end
end DL

set_option Elab.async false
set_option linter.all false
set_option maxRecDepth 100000
/-! more operations -/
namespace DL
open PySem L2
section
variable {X : Cx} {K : PySem.W.Frag} {F F' H H' : Hp} {W : WX} {pos : Pos}
/-! slices -/
def cutD (xs : List D) (lo hi : Option Int) : List D := (xs.drop (HT.sIx xs.length 0 lo)).take (HT.sIx xs.length xs.length hi - HT.sIx xs.length 0 lo)
theorem repA_cut {xs : List V} {ds : List D} (h : RepA K F xs ds) (lo hi : Option Int) : RepA K F (cutV xs lo hi) (cutD ds lo hi) := by
  unfold cutV cutD
  rw [h.length]
  exact (h.drop _).take _
abbrev WO := DX → Env → Om → (Option Int → Env → Om → Prop) → Prop
def SO (K : PySem.W.Frag) (W : WX) (t : TO) (w : WO) : Prop := ∀ (B : Base) (F : Hp) (om : Om) (H : Hp) (st : L2.St) (r : Env) (xq : DX) (k : Option Int → Env → Om → Prop) (Q : Option Int → Hp → Prop),
  Rel K B F om H st r → XOk K B W xq → (∀ b r' om' F' H', Rel K B F' om' H' st r' → Same F F' → k b r' om' → Q b H') → w xq r om k → t st H Q
structure DO (X : Cx) (W : WX) (e : Option Expr) (t : TO) (w : WO) : Prop where
  p : PO X e t
  s : SO X.K W t w
def wON : WO := fun _ r om k => k none r om
def wOS (we : WE) : WO := fun xq r om k => we xq r om fun x r1 om1 => wd (datB r1 om1 x) fun d => wd (intD d) fun i => k (some i) r1 om1
theorem do_none : DO X W none tNoPart wON := ⟨po_none, fun B F om H st r xq k Q R hx hQ hw => hQ _ _ _ _ _ R (Same.refl _) hw⟩
theorem do_some {e : Expr} {te : TE} {we : WE} (h : DE X W e te we) : DO X W (some e) (tPart te) (wOS we) := ⟨po_some h.p, fun B F om H st r xq k Q R hx hQ hw => by
  refine h.s B F om H st r xq _ _ R hx (fun x r1 om1 F1 H1 y R1 s1 k1 q1 hw => ?_) hw
  obtain ⟨d, e1, hw1⟩ := wd_iff hw
  obtain ⟨i, e2, hw2⟩ := wd_iff hw1
  have e3 := intD_inv e2
  subst e3
  exact ⟨i, (R1.datB q1 e1).intS, hQ _ _ _ _ _ R1 s1 hw2⟩⟩
def pSl (lo hi : Option Int) : P1 := fun d c => match d with
  | .lst ds => c (.o (cutD ds lo hi))
  | .frl ds => c (.o (cutD ds lo hi))
  | .tup ds => c (.v (.tup (cutD ds lo hi)))
  | _ => False
theorem pSl_lst (lo hi : Option Int) (ds : List D) (c : RV → Prop) : pSl lo hi (.lst ds) c = c (.o (cutD ds lo hi)) := rfl
theorem pSl_frl (lo hi : Option Int) (ds : List D) (c : RV → Prop) : pSl lo hi (.frl ds) c = c (.o (cutD ds lo hi)) := rfl
theorem pSl_tup (lo hi : Option Int) (ds : List D) (c : RV → Prop) : pSl lo hi (.tup ds) c = c (.v (.tup (cutD ds lo hi))) := rfl
abbrev rSlD (K : PySem.W.Frag) : V → Option Int → Option Int → Hp → VK → Prop := fun x lo hi H Q => rSlL K x lo hi H Q ∨ rSlA K x lo hi H Q
theorem cut_whole {ds : List D} {lo hi : Option Int} (h : HT.sIx ds.length 0 lo = 0 ∧ HT.sIx ds.length ds.length hi = ds.length) : cutD ds lo hi = ds := by
  unfold cutD
  rw [h.1, h.2]
  simp
theorem s_sl {lo hi : Option Int} {x : V} {d : D} {c : RV → Prop} {Q : VK} (s : Same F H) (r : RepB K F H x d) (hp : pSl lo hi d c) (hQ : ∀ z v F' H', Grow F H F' H' → ResP K F' H H' v z → c z → Q v H') : rSlD K x lo hi H Q := by
  cases d with
  | lst ds =>
    obtain ⟨a, xs, rfl, h1, h2⟩ := r.lstS s
    exact .inl ⟨a, xs, rfl, SqL.of h1, lres s (repA_cut h2 lo hi) hp hQ⟩
  | frl ds =>
    obtain ⟨a, xs, rfl, h1, h2⟩ := r.frlS s
    exact .inl ⟨a, xs, rfl, h1, lres s (repA_cut h2 lo hi) hp hQ⟩
  | tup ds =>
    rcases r with h | ⟨a, xs, es, e1, e2, h1, h2⟩
    · cases id h with
      | tup q rr =>
        refine .inr ⟨_, _, rfl, same_sqT s q, fun hw => ?_, fun _ => tres s (repA_cut rr lo hi) hp hQ⟩
        rw [rr.length] at hw
        have hp' : c (.v (.tup (cutD ds lo hi))) := hp
        rw [cut_whole hw] at hp'
        exact vres s h hp' hQ
    · cases e2
  | _ => exact hp.elim
def wSl (we : WE) (wl wh : WO) : WE := fun xq r om k => we xq r om fun x r1 om1 => wl xq r1 om1 fun lo r2 om2 => wh xq r2 om2 fun hi r3 om3 => wd (datB r3 om3 x) fun d => pSl lo hi d fun z => k z r3 om3
theorem de_sl {e : Expr} {lo hi : Option Expr} {te : TE} {we : WE} {tl th : TO} {wl wh : WO} {p2 : Pos} (he : DE X W e te we) (hl : DO X W lo tl wl) (hh : DO X W hi th wh) : DE X W (.Subscript e (.Slice lo hi none p2) pos) (tSl (rSlD X.K) te tl th) (wSl we wl wh) :=
  ⟨pe_slice (SlR.or sl_list sl_tupA) he.p hl.p hh.p, fun B F om H st r xq k Q R hx hQ hw => by
    refine he.s B F om H st r xq _ _ R hx (fun x r1 om1 F1 H1 y R1 s1 k1 q1 hw => ?_) hw
    obtain ⟨F2, s2, R2, q2⟩ := R1.fz q1
    refine hl.s B F2 om1 H1 st r1 xq _ _ R2 hx (fun lo r3 om3 F3 H3 R3 s3 hw => ?_) hw
    refine hh.s B F3 om3 H3 st r3 xq _ _ R3 hx (fun hi r4 om4 F4 H4 R4 s4 hw => ?_) hw
    obtain ⟨d, e1, hw1⟩ := wd_iff hw
    have q4 := Res.later (om' := om4) (H' := H4) (r' := r4) q2 (s3.trans s4) trivial
    refine s_sl R4.rh.sub (R4.datB q4 (datB_fz e1)) hw1 fun z v F5 H5 g rp hc => ?_
    obtain ⟨R5, q5⟩ := R4.finish g rp
    exact hQ _ _ _ _ _ _ R5 ((((s1.trans s2).trans s3).trans s4).trans g.f) trivial q5 hc⟩
/-- xs[::-1] -/
def pRev : P1 := fun d c => match d with
  | .lst ds => c (.o ds.reverse)
  | .frl ds => c (.o ds.reverse)
  | _ => False
theorem pRev_lst (ds : List D) (c : RV → Prop) : pRev (.lst ds) c = c (.o ds.reverse) := rfl
theorem de_rev {e : Expr} {te : TE} {we : WE} {k : Nat} {p1 p2 p3 : Pos} (he : DE X W e te we) : DE X W (.Subscript e (.Slice none none (some (.UnaryOp .USub (.Constant (.int 1) k p1) p2)) p3) pos) (tRevL X.K te) (wUn pRev we) :=
  ⟨pe_revL he.p, fun B F om H st r xq k Q R hx hQ hw => by
    refine he.s B F om H st r xq _ _ R hx (fun x r1 om1 F1 H1 y R1 s1 k1 q1 hw => ?_) hw
    obtain ⟨d, e1, hw1⟩ := wd_iff hw
    have rb := R1.datB q1 e1
    have go : ∀ {ds : List D} {a : Addr} {xs : List V}, SqL X.K H1 a xs → RepA X.K F1 xs ds → k (.o ds.reverse) r1 om1 → ∀ p, H1 p = none → Q (.ref p) (upd H1 p (.lst xs.reverse)) := fun {ds a xs} h1 h2 hk p hp => by
      obtain ⟨R2, q2⟩ := R1.finish (Grow.allocO R1.rh.sub hp) (ResP.newL R1.rh.sub hp h2.reverse)
      exact hQ _ _ _ _ _ _ R2 s1 trivial q2 hk
    cases d with
    | lst ds => obtain ⟨a, xs, rfl, h1, h2⟩ := rb.lstS R1.rh.sub; exact ⟨a, xs, rfl, SqL.of h1, go (SqL.of h1) h2 hw1⟩
    | frl ds => obtain ⟨a, xs, rfl, h1, h2⟩ := rb.frlS R1.rh.sub; exact ⟨a, xs, rfl, h1, go h1 h2 hw1⟩
    | _ => exact hw1.elim⟩
/-- list(range(a)), list(range(a, b)) -/
theorem repA_rg (a b : Int) : RepA K F (rgV a b) (rng a (b - a).toNat) := by
  unfold rgV rng
  generalize (b - a).toNat = n
  have : ∀ l : List Nat, RepA K F (l.map fun (j : Nat) => V.int (a + (j : Int))) (l.map fun (k : Nat) => D.int (a + (k : Int))) := fun l => by
    induction l with
    | nil => exact .nil
    | cons x l ih => exact .cons (.int _) ih
  exact this _
def wLR1 (we : WE) : WE := fun xq r om k => we xq r om fun x r1 om1 => wd (datB r1 om1 x) fun d => wd (intD d) fun n => (-(2 ^ 62) ≤ n ∧ n ≤ 16777216) ∧ k (.o (rng 0 n.toNat)) r1 om1
theorem de_lr1 {e : Expr} {te : TE} {we : WE} {p p' pos' : Pos} (hl : X.mg "list" = none) (hm : X.mg "range" = none) (he : DE X W e te we) (hc : X.calm = true := by rfl) (hg : Gl X "list" := by rfl) (hg' : Gl X "range" := by rfl) (na : starEach [e] X.env = (false, eval e X.env) :: starEach [] X.env := by rfl)
    (na' : starEach [.Call (.Name "range" p') [e] [] pos'] X.env = (false, eval (.Call (.Name "range" p') [e] [] pos') X.env) :: starEach [] X.env := by rfl) : DE X W (.Call (.Name "list" p) [.Call (.Name "range" p') [e] [] pos'] [] pos) (tLstRg (tRg1 te)) (wLR1 we) :=
  ⟨pe_listRg hc hg hl (prg_1 hg' hm he.p na) na', fun B F om H st r xq k Q R hx hQ hw => by
    refine he.s B F om H st r xq _ _ R hx (fun x r1 om1 F1 H1 y R1 s1 k1 q1 hw => ?_) hw
    obtain ⟨d, e1, hw1⟩ := wd_iff hw
    obtain ⟨n, e2, hb, hw2⟩ := wd_iff hw1
    have e3 := intD_inv e2
    subst e3
    refine ⟨n, (R1.datB q1 e1).intS, ⟨by omega, by omega, by omega, by omega, by omega⟩, fun p hp => ?_⟩
    obtain ⟨R2, q2⟩ := R1.finish (Grow.allocO R1.rh.sub hp) (ResP.newL R1.rh.sub hp (repA_rg 0 n))
    rw [Int.sub_zero] at q2
    exact hQ _ _ _ _ _ _ R2 s1 trivial q2 hw2⟩
/-- xs.pop(i), xs.pop() -/
def mPopAt : MutP := fun ds args c => match args with
  | [.int i] => (-(2 ^ 63) ≤ i ∧ i < 2 ^ 63) ∧ wd (ixN ds.length i) fun j => wd ds[j]? fun d => c (ds.eraseIdx j) d
  | _ => False
theorem mPopAt_at (ds : List D) (i : Int) : mPopAt ds [.int i] = fun c => (-(2 ^ 63) ≤ i ∧ i < 2 ^ 63) ∧ wd (ixN ds.length i) fun j => wd ds[j]? fun d => c (ds.eraseIdx j) d := rfl
theorem sm_popAt : SM K rPopAt mPopAt := by
  intro F H a xs ds ys args c Q s hH h1 h2 hp hQ
  unfold mPopAt at hp
  split at hp
  · next i =>
    obtain ⟨hb, hp⟩ := hp
    obtain ⟨j, e1, hp1⟩ := wd_iff hp
    obtain ⟨d, e2, hp2⟩ := wd_iff hp1
    cases h2 with
    | cons h h' =>
      cases h'
      cases h
      obtain ⟨y, hy, ry⟩ := h1.getD e2
      exact ⟨a, xs, i, j, y, rfl, rfl, hH, hb.1, hb.2, by rw [h1.length]; exact (ixN_seq e1).1, hy, hQ _ _ _ _ (h1.eraseIdx j) ry hp2⟩
  · exact hp.elim
def mPop : MutP := fun ds args c => match args with
  | [] => wd ds[ds.length - 1]? fun d => c ds.dropLast d
  | _ => False
theorem mPop_at (ds : List D) : mPop ds [] = fun c => wd ds[ds.length - 1]? fun d => c ds.dropLast d := rfl
theorem RepA.dropLast : ∀ {xs : List V} {ds : List D}, RepA K F xs ds → RepA K F xs.dropLast ds.dropLast
  | _, _, .nil => .nil
  | [_], [_], .cons _ .nil => .nil
  | _ :: _ :: _, _ :: _ :: _, .cons r (.cons r' t) => .cons r (RepA.dropLast (.cons r' t))
theorem sm_pop : SM K rPop mPop := by
  intro F H a xs ds ys args c Q s hH h1 h2 hp hQ
  unfold mPop at hp
  split at hp
  · obtain ⟨d, e2, hp1⟩ := wd_iff hp
    cases h2
    obtain ⟨y, hy, ry⟩ := h1.getD e2
    exact ⟨a, xs, y, rfl, rfl, hH, by rw [h1.length]; exact hy, hQ _ _ _ _ h1.dropLast ry hp1⟩
  · exact hp.elim
theorem de_popAt (i : Nat) {x : Str} {p1 p2 cpos : Pos} {e : Expr} {te : TE} {we : WE} (he : DE X W e te we) (hN : X.N[i]? = some x := by rfl) (hv : Vis X.env.scope x := by first | exact Or.inl rfl | exact Or.inr (Or.inl rfl) | exact Or.inr (Or.inr rfl)) (hd : (x == ("__debug__" : Str)) = false := by decide)
    (hcd : (x == ("__classdict__" : Str)) = false := by decide) (hbase : attributeBase (.Name x p1) "pop" X.env (eval (.Name x p1) X.env) = eval (.Name x p1) X.env := by rfl)
    (hfew : ((backTo cpos (starEach [e] X.env)).all (fun x => !x.1) && (backToKw cpos (keywordEach [] X.env)).all (fun x => x.1.isSome) && decide (([e] : List Expr).length + ([] : List Keyword).length + (if ([] : List Keyword).isEmpty then 0 else 1) < 30)) = true := by rfl)
    (hline : (p2.endLine == cpos.line) = true := by rfl) (hs : starEach [e] X.env = (false, eval e X.env) :: starEach [] X.env := by rfl) (hplain : (backTo cpos (starEach [] X.env)).any (·.1) = false := by rfl) :
    DE X W (.Call (.Attribute (.Name x p1) "pop" p2) [e] [] cpos) (tBM X.K "list" rPopAt (tVar i) (tCons te tNil)) (wMut i mPopAt (wCons we wNil)) :=
  ⟨pe_bm PySem.F.plainAttrs_list PySem.F.slot_list_pop PySem.F.type_list_pop mt_popAt (pe_var hN hv hd hcd) (pa_cons he.p pa_nil hs) hbase hfew hline hs hplain, se_mut (sa_cons he.s sa_nil) sm_popAt⟩
theorem de_pop (i : Nat) {x : Str} {p1 p2 cpos : Pos} (hN : X.N[i]? = some x := by rfl) (hv : Vis X.env.scope x := by first | exact Or.inl rfl | exact Or.inr (Or.inl rfl) | exact Or.inr (Or.inr rfl)) (hd : (x == ("__debug__" : Str)) = false := by decide)
    (hcd : (x == ("__classdict__" : Str)) = false := by decide) (hbase : attributeBase (.Name x p1) "pop" X.env (eval (.Name x p1) X.env) = eval (.Name x p1) X.env := by rfl) (hline : (p2.endLine == cpos.line) = true := by rfl) :
    DE X W (.Call (.Attribute (.Name x p1) "pop" p2) [] [] cpos) (tBM0 X.K "list" rPop (tVar i)) (wMut0 i mPop) :=
  ⟨pe_bm0 PySem.F.plainAttrs_list PySem.F.slot_list_pop PySem.F.type_list_pop mt_pop (pe_var hN hv hd hcd) hbase hline, se_mut0 sm_pop⟩
/-- -x -/
def pNeg : P1 := fun d c => match d with
  | .int i => c (.v (.int (-i)))
  | _ => False
theorem pNeg_int (i : Int) (c : RV → Prop) : pNeg (.int i) c = c (.v (.int (-i))) := rfl
theorem s_neg : S1 K (rU fun i => .int (-i)) pNeg := fun F H x d c Q s r hp hQ => by
  cases d with
  | int i => exact ⟨i, r.intS, vres s (.int _) hp hQ⟩
  | _ => exact hp.elim
/-- is None -/
def pIsN : P2 := fun d e c => match d, e with
  | .non, .non => c (.v (.bl true))
  | .raw _, _ => False
  | _, .non => c (.v (.bl false))
  | _, _ => False
/-- all, any, sum, min, max of a list -/
def bools : List D → Option (List Bool)
  | [] => some []
  | .bl b :: ds => (bools ds).map (b :: ·)
  | _ => none
theorem bools_rep : ∀ {xs : List V} {ds : List D} {bs : List Bool}, RepA K F xs ds → bools ds = some bs → xs = bs.map V.bl
  | _, _, bs, .nil, e => by cases e; rfl
  | _, _, bs, .cons (d := d) r t, e => by
    cases d with
    | bl b =>
      simp only [bools] at e
      cases q : bools _ with
      | none => rw [q] at e; cases e
      | some l =>
        rw [q] at e
        cases e
        cases r
        rw [bools_rep t q]
        rfl
    | _ => simp [bools] at e
theorem bools_map (l : List Bool) : bools (l.map D.bl) = some l := by
  induction l with
  | nil => rfl
  | cons b l ih => simp [bools, ih]
def nums : List D → Option (List Int)
  | [] => some []
  | .int b :: ds => (nums ds).map (b :: ·)
  | _ => none
theorem nums_inv : ∀ {ds : List D} {ns : List Int}, nums ds = some ns → ds = ns.map D.int
  | [], ns, e => by cases e; rfl
  | d :: ds, ns, e => by
    cases d with
    | int b =>
      simp only [nums] at e
      cases q : nums ds with
      | none => rw [q] at e; cases e
      | some l => rw [q] at e; cases e; rw [nums_inv q]; rfl
    | _ => simp [nums] at e
theorem nums_map (l : List Int) : nums (l.map D.int) = some l := by
  induction l with
  | nil => rfl
  | cons b l ih => simp [nums, ih]
def lstO (d : D) : Option (List D) := match d with
  | .lst ds => some ds
  | .frl ds => some ds
  | _ => none
theorem lstO_lst (ds : List D) : lstO (.lst ds) = some ds := rfl
theorem RepB.lstO (s : Same F H) {y : V} {d : D} {ds : List D} (r : RepB K F H y d) (e : lstO d = some ds) : ∃ a xs, y = .ref a ∧ SqL K H a xs ∧ RepA K F xs ds := by
  cases d with
  | lst ds => cases e; obtain ⟨a, xs, rfl, h1, h2⟩ := r.lstS s; exact ⟨a, xs, rfl, SqL.of h1, h2⟩
  | frl ds => cases e; obtain ⟨a, xs, rfl, h1, h2⟩ := r.frlS s; exact ⟨a, xs, rfl, h1, h2⟩
  | _ => cases e
def pAll : PN := fun ds c => wd (one ds) fun d => wd (lstO d) fun es => wd (bools es) fun bs => c (.v (.bl (bs.all id)))
def pAny : PN := fun ds c => wd (one ds) fun d => wd (lstO d) fun es => wd (bools es) fun bs => c (.v (.bl (bs.any id)))
theorem pAll_at (d : D) (c : RV → Prop) : pAll [d] c = wd (lstO d) fun es => wd (bools es) fun bs => c (.v (.bl (bs.all id))) := rfl
theorem pAny_at (d : D) (c : RV → Prop) : pAny [d] c = wd (lstO d) fun es => wd (bools es) fun bs => c (.v (.bl (bs.any id))) := rfl
theorem n_all (hc : X.calm = true) : ON X (.builtin "all") (rAll X.K) pAll := ⟨cr_all hc, fun F H xs ds c Q s r hp hQ => by
  obtain ⟨d, e, hp1⟩ := wd_iff hp
  obtain ⟨es, e2, hp2⟩ := wd_iff hp1
  obtain ⟨bs, e3, hp3⟩ := wd_iff hp2
  rw [one_inv e] at r
  obtain ⟨y, ey, r1⟩ := repBs1 r
  subst ey
  obtain ⟨a, xs, rfl, h1, h2⟩ := r1.lstO s e2
  rw [bools_rep h2 e3] at h1
  exact ⟨a, bs, rfl, h1, vres s (.bl _) hp3 hQ⟩⟩
theorem n_any (hc : X.calm = true) : ON X (.builtin "any") (rAny X.K) pAny := ⟨cr_any hc, fun F H xs ds c Q s r hp hQ => by
  obtain ⟨d, e, hp1⟩ := wd_iff hp
  obtain ⟨es, e2, hp2⟩ := wd_iff hp1
  obtain ⟨bs, e3, hp3⟩ := wd_iff hp2
  rw [one_inv e] at r
  obtain ⟨y, ey, r1⟩ := repBs1 r
  subst ey
  obtain ⟨a, xs, rfl, h1, h2⟩ := r1.lstO s e2
  rw [bools_rep h2 e3] at h1
  exact ⟨a, bs, rfl, h1, vres s (.bl _) hp3 hQ⟩⟩
def pSum : PN := fun ds c => wd (one ds) fun d => wd (lstO d) fun es => wd (nums es) fun ns => c (.v (.int ns.sum))
theorem pSum_at (d : D) (c : RV → Prop) : pSum [d] c = wd (lstO d) fun es => wd (nums es) fun ns => c (.v (.int ns.sum)) := rfl
theorem n_sum (hc : X.calm = true) : ON X (.builtin "sum") (rSum X.K) pSum := ⟨cr_sum hc, fun F H xs ds c Q s r hp hQ => by
  obtain ⟨d, e, hp1⟩ := wd_iff hp
  obtain ⟨es, e2, hp2⟩ := wd_iff hp1
  obtain ⟨bs, e3, hp3⟩ := wd_iff hp2
  rw [one_inv e] at r
  obtain ⟨y, ey, r1⟩ := repBs1 r
  subst ey
  obtain ⟨a, xs, rfl, h1, h2⟩ := r1.lstO s e2
  have e4 := nums_inv e3
  subst e4
  rw [h2.ints] at h1
  exact ⟨a, bs, rfl, h1, vres s (.int _) hp3 hQ⟩⟩
def pMax1 : PN := fun ds c => wd (one ds) fun d => wd (lstO d) fun es => wd (nums es) fun ns => 0 < ns.length ∧ ∀ m, m ∈ ns → (∀ y, y ∈ ns → y ≤ m) → c (.v (.int m))
def pMin1 : PN := fun ds c => wd (one ds) fun d => wd (lstO d) fun es => wd (nums es) fun ns => 0 < ns.length ∧ ∀ m, m ∈ ns → (∀ y, y ∈ ns → m ≤ y) → c (.v (.int m))
theorem pMax1_at (d : D) (c : RV → Prop) : pMax1 [d] c = wd (lstO d) fun es => wd (nums es) fun ns => 0 < ns.length ∧ ∀ m, m ∈ ns → (∀ y, y ∈ ns → y ≤ m) → c (.v (.int m)) := rfl
theorem pMin1_at (d : D) (c : RV → Prop) : pMin1 [d] c = wd (lstO d) fun es => wd (nums es) fun ns => 0 < ns.length ∧ ∀ m, m ∈ ns → (∀ y, y ∈ ns → m ≤ y) → c (.v (.int m)) := rfl
theorem n_max1 (hc : X.calm = true) : ON X (.builtin "max") (rMax X.K) pMax1 := ⟨cr_max hc, fun F H xs ds c Q s r hp hQ => by
  obtain ⟨d, e, hp1⟩ := wd_iff hp
  obtain ⟨es, e2, hp2⟩ := wd_iff hp1
  obtain ⟨bs, e3, hl, hp3⟩ := wd_iff hp2
  rw [one_inv e] at r
  obtain ⟨y, ey, r1⟩ := repBs1 r
  subst ey
  obtain ⟨a, xs, rfl, h1, h2⟩ := r1.lstO s e2
  have e4 := nums_inv e3
  subst e4
  rw [h2.ints] at h1
  exact ⟨a, bs, rfl, h1, hl, fun m hm hy => vres s (.int _) (hp3 m hm hy) hQ⟩⟩
theorem n_min1 (hc : X.calm = true) : ON X (.builtin "min") (rMin X.K) pMin1 := ⟨cr_min hc, fun F H xs ds c Q s r hp hQ => by
  obtain ⟨d, e, hp1⟩ := wd_iff hp
  obtain ⟨es, e2, hp2⟩ := wd_iff hp1
  obtain ⟨bs, e3, hl, hp3⟩ := wd_iff hp2
  rw [one_inv e] at r
  obtain ⟨y, ey, r1⟩ := repBs1 r
  subst ey
  obtain ⟨a, xs, rfl, h1, h2⟩ := r1.lstO s e2
  have e4 := nums_inv e3
  subst e4
  rw [h2.ints] at h1
  exact ⟨a, bs, rfl, h1, hl, fun m hm hy => vres s (.int _) (hp3 m hm hy) hQ⟩⟩
/-! zip, enumerate of lists -/
def zipD : List D → List D → List D
  | x :: xs, y :: ys => .tup [x, y] :: zipD xs ys
  | _, _ => []
theorem zipD_get : ∀ {xs ys : List D} {i : Nat} {d : D}, (zipD xs ys)[i]? = some d → ∃ x y, d = .tup [x, y] ∧ xs[i]? = some x ∧ ys[i]? = some y
  | [], _, i, d, h => by simp [zipD] at h
  | _ :: _, [], i, d, h => by simp [zipD] at h
  | x :: xs, y :: ys, 0, d, h => by simp [zipD] at h; exact ⟨x, y, h.symm, rfl, rfl⟩
  | x :: xs, y :: ys, i + 1, d, h => by
    obtain ⟨a, b, h1, h2, h3⟩ := zipD_get (xs := xs) (ys := ys) (i := i) (d := d) (by simpa [zipD] using h)
    exact ⟨a, b, h1, by simpa using h2, by simpa using h3⟩
theorem zipD_len : ∀ (xs ys : List D), (zipD xs ys).length = min xs.length ys.length
  | [], ys => by simp [zipD]
  | _ :: _, [] => by simp [zipD]
  | x :: xs, y :: ys => by simp only [zipD, List.length_cons, zipD_len xs ys]; omega
theorem itok_zip {a b : Addr} {xs ys : List V} {ds es : List D} (q1 : SqL K F a xs) (r1 : RepA K F xs ds) (q2 : SqL K F b ys) (r2 : RepA K F ys es) : ItOk K (Itz K a b) F (zipD ds es) := by
  refine ⟨fun i F' H s s' hi => ⟨xs, ys, s'.seq (s.seq q1), s'.seq (s.seq q2), ?_⟩, fun i d F' H s s' hd => ?_⟩
  · rw [zipD_len] at hi
    rw [r1.length, r2.length]
    omega
  · obtain ⟨x, y, rfl, h1, h2⟩ := zipD_get hd
    obtain ⟨u, hu, ru⟩ := r1.getD h1
    obtain ⟨v, hv, rv⟩ := r2.getD h2
    refine ⟨⟨xs, ys, u, v, s'.seq (s.seq q1), s'.seq (s.seq q2), hu, hv⟩, fun z H' hy => ?_⟩
    obtain ⟨T, u', v', rfl, hT, rfl, e1, e2⟩ := hy
    have e3 := e1 xs (s'.seq (s.seq q1))
    have e4 := e2 ys (s'.seq (s.seq q2))
    rw [hu] at e3
    rw [hv] at e4
    cases e3
    cases e4
    exact ⟨_, Grow.alloc s' hT, ResP.newT s' hT (.cons (ru.mono s) (.cons (rv.mono s) .nil))⟩
def two : List RV → Option (List D × List D)
  | [.v d, .v e] => match lstO d, lstO e with
    | some ds, some es => some (ds, es)
    | _, _ => none
  | _ => none
theorem two_lst (ds es : List D) : two [.v (.lst ds), .v (.lst es)] = some (ds, es) := rfl
def wiZip (wa : WA) : WI := fun xq r om k => wa xq r om fun xs r1 om1 => wd (two xs) fun p => k (zipD p.1 p.2) r1 om1
theorem Rep.lstO {y : V} {d : D} {ds : List D} (r : Rep K F y d) (e : DL.lstO d = some ds) : ∃ a xs, y = .ref a ∧ SqL K F a xs ∧ RepA K F xs ds := by
  cases d with
  | lst ds => cases e; cases r with | lst h1 h2 => exact ⟨_, _, rfl, SqL.of h1, h2⟩
  | frl ds => cases e; cases r with | frl h1 h2 => exact ⟨_, _, rfl, h1, h2⟩
  | _ => cases e
theorem di_zip {e e2 : Expr} {ta : TA} {wa : WA} {p tpos : Pos} {elts : List Expr} {kk : Nat} (hm : X.mg "zip" = none) (ha : DA X W [e, e2] ta wa) (hg : Gl X "zip" := by rfl) (hs : starEach [e, e2] X.env = (false, eval e X.env) :: starEach [e2] X.env := by rfl) (hpl : (backTo pos (starEach [e2] X.env)).any (·.1) = false := by rfl) :
    DI X W (.Tuple elts kk tpos) (.Call (.Name "zip" p) [e, e2] [] pos) (iZip X.K ta) (wiZip wa) := ⟨pi_zip hg hm ha.p hs hpl, fun B F om H st r xq k Q R hx hQ hw => by
  refine ha.s B F om H st r xq _ _ R hx (fun xs r1 om1 F1 H1 ys R1 s1 k1 q1 hw => ?_) hw
  obtain ⟨⟨ds, es⟩, e1, hw1⟩ := wd_iff hw
  unfold two at e1
  split at e1
  · next d e =>
    cases q : lstO d with
    | none => rw [q] at e1; cases e1
    | some ds' =>
      cases q' : lstO e with
      | none => rw [q, q'] at e1; cases e1
      | some es' =>
        rw [q, q'] at e1
        cases e1
        match ys, q1 with
        | [y, z], q1 =>
          obtain ⟨a, xs, rfl, h1, h2⟩ := Rep.lstO q1.1 q
          obtain ⟨b, zs, rfl, h3, h4⟩ := Rep.lstO q1.2.1 q'
          exact ⟨a, b, xs, zs, rfl, R1.rh.sub.seq h1, R1.rh.sub.seq h3, hQ _ _ _ _ _ _ R1 s1 k1 (itok_zip h1 h2 h3 h4) hw1⟩
        | [], q1 => exact q1.elim
        | [_], q1 => exact q1.2.elim
        | _ :: _ :: _ :: _, q1 => exact q1.2.2.elim
  · cases e1⟩
def enumD : Nat → List D → List D
  | _, [] => []
  | n, x :: xs => .tup [.int (n : Nat), x] :: enumD (n + 1) xs
theorem enumD_get : ∀ {xs : List D} {n i : Nat} {d : D}, (enumD n xs)[i]? = some d → ∃ x, d = .tup [.int ((n + i : Nat) : Int), x] ∧ xs[i]? = some x
  | [], n, i, d, h => by simp [enumD] at h
  | x :: xs, n, 0, d, h => by simp [enumD] at h; exact ⟨x, by simpa using h.symm, rfl⟩
  | x :: xs, n, i + 1, d, h => by
    obtain ⟨a, h1, h2⟩ := enumD_get (xs := xs) (n := n + 1) (i := i) (d := d) (by simpa [enumD] using h)
    exact ⟨a, by rw [h1, show n + 1 + i = n + (i + 1) by omega], by simpa using h2⟩
theorem enumD_len : ∀ (n : Nat) (xs : List D), (enumD n xs).length = xs.length
  | _, [] => rfl
  | n, x :: xs => by simp [enumD, enumD_len (n + 1) xs]
theorem itok_enum {a : Addr} {xs : List V} {ds : List D} (q1 : SqL K F a xs) (r1 : RepA K F xs ds) : ItOk K (Ite K a) F (enumD 0 ds) := by
  refine ⟨fun i F' H s s' hi => ⟨xs, s'.seq (s.seq q1), by rw [enumD_len] at hi; rw [r1.length]; exact hi⟩, fun i d F' H s s' hd => ?_⟩
  obtain ⟨x, rfl, h1⟩ := enumD_get hd
  obtain ⟨u, hu, ru⟩ := r1.getD h1
  refine ⟨⟨xs, u, s'.seq (s.seq q1), hu⟩, fun z H' hy => ?_⟩
  obtain ⟨T, u', rfl, hT, rfl, e1⟩ := hy
  have e3 := e1 xs (s'.seq (s.seq q1))
  rw [hu] at e3
  cases e3
  rw [Nat.zero_add]
  exact ⟨_, Grow.alloc s' hT, ResP.newT s' hT (.cons (.int _) (.cons (ru.mono s) .nil))⟩
def oneL : List RV → Option (List D)
  | [.v d] => lstO d
  | _ => none
def wiEnumerate (wa : WA) : WI := fun xq r om k => wa xq r om fun xs r1 om1 => wd (oneL xs) fun p => k (enumD 0 p) r1 om1
theorem di_enumerate {e : Expr} {ta : TA} {wa : WA} {p tpos : Pos} {elts : List Expr} {kk : Nat} (hm : X.mg "enumerate" = none) (ha : DA X W [e] ta wa) (hg : Gl X "enumerate" := by rfl) (hs : starEach [e] X.env = [(false, eval e X.env)] := by rfl) :
    DI X W (.Tuple elts kk tpos) (.Call (.Name "enumerate" p) [e] [] pos) (iEnum X.K ta) (wiEnumerate wa) := ⟨pi_enum hg hm ha.p hs, fun B F om H st r xq k Q R hx hQ hw => by
  refine ha.s B F om H st r xq _ _ R hx (fun xs r1 om1 F1 H1 ys R1 s1 k1 q1 hw => ?_) hw
  obtain ⟨ds, e1, hw1⟩ := wd_iff hw
  unfold oneL at e1
  split at e1
  · next d =>
    match ys, q1 with
    | [y], q1 =>
      obtain ⟨a, xs, rfl, h1, h2⟩ := Rep.lstO q1.1 e1
      exact ⟨a, xs, rfl, R1.rh.sub.seq h1, hQ _ _ _ _ _ _ R1 s1 k1 (itok_enum h1 h2) hw1⟩
    | [], q1 => exact q1.elim
    | _ :: _ :: _, q1 => exact q1.2.elim
  · cases e1⟩
end
end DL

set_option Elab.async false
set_option linter.all false
set_option maxRecDepth 100000
set_option maxHeartbeats 1000000
/-! order: data that are alike; sorted -/
namespace DL
open PySem L2 PySem.W
variable {X : Cx} {K : PySem.W.Frag} {F H : Hp}
def rLtD (K : PySem.W.Frag) (f : PyData → PyData → Bool) : R2 := fun x y H Q => ∃ d e, Dp K H x d ∧ Dp K H y e ∧ alike d e = true ∧ d ≠ .none ∧ d.depth ≤ 40 ∧ Q (.bl (f d e)) H
theorem op_ltD (hu : X.A.units + 64 < cLine) : OpR X (compareOp .Lt) (rLtD X.K fun d e => dataLt d e) := by
  intro pins s σ H x y v u Q I rx ry h
  obtain ⟨d, e, hd, he, sd, se, sz, q⟩ := h
  obtain ⟨as, r1⟩ := Dp.reads I d x v hd rx
  obtain ⟨bs, r2⟩ := Dp.reads I e y u he ry
  exact lt_data r1 r2 sd se (by omega) ⟨.bl _, H, I, rfl, q⟩
theorem op_gtD (hu : X.A.units + 64 < cLine) : OpR X (compareOp .Gt) (rLtD X.K fun d e => dataLt e d) := by
  intro pins s σ H x y v u Q I rx ry h
  obtain ⟨d, e, hd, he, sd, se, sz, q⟩ := h
  obtain ⟨as, r1⟩ := Dp.reads I d x v hd rx
  obtain ⟨bs, r2⟩ := Dp.reads I e y u he ry
  exact gt_data r1 r2 sd se (by omega) ⟨.bl _, H, I, rfl, q⟩
theorem op_leD (hu : X.A.units + 64 < cLine) : OpR X (compareOp .LtE) (rLtD X.K fun d e => !dataLt e d) := by
  intro pins s σ H x y v u Q I rx ry h
  obtain ⟨d, e, hd, he, sd, se, sz, q⟩ := h
  obtain ⟨as, r1⟩ := Dp.reads I d x v hd rx
  obtain ⟨bs, r2⟩ := Dp.reads I e y u he ry
  exact le_data r1 r2 sd se (by omega) ⟨.bl _, H, I, rfl, q⟩
theorem op_geD (hu : X.A.units + 64 < cLine) : OpR X (compareOp .GtE) (rLtD X.K fun d e => !dataLt d e) := by
  intro pins s σ H x y v u Q I rx ry h
  obtain ⟨d, e, hd, he, sd, se, sz, q⟩ := h
  obtain ⟨as, r1⟩ := Dp.reads I d x v hd rx
  obtain ⟨bs, r2⟩ := Dp.reads I e y u he ry
  exact ge_data r1 r2 sd se (by omega) ⟨.bl _, H, I, rfl, q⟩
def ltD (d e : D) : Bool := dataLt (py d) (py e)
def okL (d e : D) : Prop := okPy d = true ∧ okPy e = true ∧ alike (py d) (py e) = true ∧ py d ≠ .none ∧ (py d).depth ≤ 40
def pC (g : Int → Int → Bool) (f : D → D → Bool) : P2 := fun d e c => match d, e with
  | .int i, .int j => c (.v (.bl (g i j)))
  | d, e => okL d e ∧ c (.v (.bl (f d e)))
abbrev pLtA : P2 := pC (fun i j => decide (i < j)) fun d e => ltD d e
abbrev pGtA : P2 := pC (fun i j => decide (j < i)) fun d e => ltD e d
abbrev pLeA : P2 := pC (fun i j => decide (i ≤ j)) fun d e => !ltD e d
abbrev pGeA : P2 := pC (fun i j => decide (j ≤ i)) fun d e => !ltD d e
theorem pC_int {g : Int → Int → Bool} {f : D → D → Bool} (i j : Int) (c : RV → Prop) : pC g f (.int i) (.int j) c = c (.v (.bl (g i j))) := rfl
theorem pC_tup {g : Int → Int → Bool} {f : D → D → Bool} (i j : List D) (c : RV → Prop) : pC g f (.tup i) (.tup j) c = (okL (.tup i) (.tup j) ∧ c (.v (.bl (f (.tup i) (.tup j))))) := rfl
theorem pC_str {g : Int → Int → Bool} {f : D → D → Bool} (i j : Str) (c : RV → Prop) : pC g f (.str i) (.str j) c = (okL (.str i) (.str j) ∧ c (.v (.bl (f (.str i) (.str j))))) := rfl
theorem pC_any {g : Int → Int → Bool} {f : D → D → Bool} {d e : D} {c : RV → Prop} (hg : ∀ i j, f (.int i) (.int j) = g i j) (h : okL d e) (h2 : c (.v (.bl (f d e)))) : pC g f d e c := by
  unfold pC
  split
  · next i j => rw [← hg]; exact h2
  · exact ⟨h, h2⟩
theorem ltD_int (i j : Int) : ltD (.int i) (.int j) = decide (i < j) := by simp only [ltD, py]; exact dataLt_int i j
theorem s_pC {op : Value → Value → Sem Value} {r0 : Int → Int → V} {g : Int → Int → Bool} {f : D → D → Bool} {k : PyData → PyData → Bool} (h1 : OpR X op (rI0 r0)) (h0 : ∀ i j, r0 i j = .bl (g i j)) (h2 : OpR X op (rLtD X.K k)) (hk : ∀ d e, f d e = k (py d) (py e)) :
    O2 X op (fun x y H Q => rI0 r0 x y H Q ∨ rLtD X.K k x y H Q) (pC g f) := ⟨OpR.or h1 h2, fun F H x y d e c Q s rx ry hp hQ => by
  unfold pC at hp
  split at hp
  · next i j =>
    obtain rfl := rx.intS
    obtain rfl := ry.intS
    refine .inl ⟨i, j, rfl, rfl, ?_⟩
    rw [h0]
    exact vres s (.bl _) hp hQ
  · refine .inr ⟨py d, py e, rx.dp s hp.1.1, ry.dp s hp.1.2.1, hp.1.2.2.1, hp.1.2.2.2.1, hp.1.2.2.2.2, ?_⟩
    rw [← hk]
    exact vres s (.bl _) hp.2 hQ⟩
theorem o_ltA {k : Nat} (hr : Room k X.A) : O2 X (compareOp .Lt) (fun x y H Q => rI0 (fun i j => .bl (decide (i < j))) x y H Q ∨ rLtD X.K (fun d e => dataLt d e) x y H Q) pLtA := s_pC op_lt (fun _ _ => rfl) (op_ltD hr.units) fun _ _ => rfl
theorem o_gtA {k : Nat} (hr : Room k X.A) : O2 X (compareOp .Gt) (fun x y H Q => rI0 (fun i j => .bl (decide (j < i))) x y H Q ∨ rLtD X.K (fun d e => dataLt e d) x y H Q) pGtA := s_pC op_gt (fun _ _ => rfl) (op_gtD hr.units) fun _ _ => rfl
theorem o_leA {k : Nat} (hr : Room k X.A) : O2 X (compareOp .LtE) (fun x y H Q => rI0 (fun i j => .bl (decide (i ≤ j))) x y H Q ∨ rLtD X.K (fun d e => !dataLt e d) x y H Q) pLeA := s_pC op_le (fun _ _ => rfl) (op_leD hr.units) fun _ _ => rfl
theorem o_geA {k : Nat} (hr : Room k X.A) : O2 X (compareOp .GtE) (fun x y H Q => rI0 (fun i j => .bl (decide (j ≤ i))) x y H Q ∨ rLtD X.K (fun d e => !dataLt d e) x y H Q) pGeA := s_pC op_ge (fun _ _ => rfl) (op_geD hr.units) fun _ _ => rfl
/-! sorted -/
def rSortD (K : PySem.W.Frag) : List V → Hp → VK → Prop := fun vs H Q => ∃ (a : Addr) (bs : List (V × PyData)), vs = [V.ref a] ∧ SqL K H a (bs.map (·.1)) ∧ (∀ b ∈ bs, Dp K H b.1 b.2) ∧ AllAlike (bs.map (·.2)) ∧ Sortable (bs.map (·.2)) ∧ (∀ b ∈ bs, b.2.depth ≤ 40) ∧
  ∀ p, H p = none → Q (.ref p) (upd H p (.lst ((bs.mergeSort (dataLe false (·.2))).map (·.1))))
theorem vals_each : ∀ {bs : List (V × PyData)} {us : List Value}, Vals (bs.map (·.1)) us → EachIs (fun u b => RelV b.1 u) us bs
  | [], _, r => by cases r; exact .nil
  | b :: bs, _, r => by cases r with | cons h t => exact .cons h (vals_each t)
theorem each_vals : ∀ {bs : List (V × PyData)} {us : List Value}, EachIs (fun u b => RelV b.1 u) us bs → Vals (bs.map (·.1)) us
  | _, _, .nil => .nil
  | _, _, .cons h t => .cons h (each_vals t)
theorem each_mem {α β : Type} {R R' : α → β → Prop} : ∀ {as : List α} {bs : List β}, EachIs R as bs → (∀ a, ∀ b ∈ bs, R a b → R' a b) → EachIs R' as bs
  | _, _, .nil, _ => .nil
  | _, _, .cons h t, f => .cons (f _ _ List.mem_cons_self h) (each_mem t fun a b m => f a b (List.mem_cons_of_mem _ m))
theorem cr_sortD (hu : X.A.units + 64 < cLine) : CallR X (.builtin "sorted") (rSortD X.K) := by
  intro pins s σ H vs us Q I r h
  obtain ⟨a, bs, rfl, hs, hd, hal, hso, hdp, q⟩ := h
  obtain ⟨its, rv, hl, hz⟩ := I.list hs
  obtain ⟨u, rfl, ru⟩ := vals1 r
  obtain rfl : u = Value.ref a := ru
  have e := vals_each rv
  rw [List.length_map] at hz
  refine sorted_data (R := fun u b => RelV b.1 u) (enc := fun b : V × PyData => b.2) (bs := bs) (vs := its) hl.isList e (each_mem e fun u b m ru => Dp.reads I b.2 b.1 u (hd b m) ru) hal hso hz (fun b m => by have := hdp b m; omega) fun out ho ee => ?_
  obtain ⟨n, hn⟩ := PyProof.Rows.sortedAll_at s.heap its out.toArray
  refine ⟨.ref (s.heap.objs.size + 1), upd H (s.heap.objs.size + 1) (.lst ((bs.mergeSort (dataLe false (·.2))).map (·.1))), I.laid (t' := s.toks) (fun b o hb => PyProof.Rows.sortedAll_old hb) (by omega) ⟨?_, out, n, each_vals ee, hn⟩, rfl, q _ (I.hok.fresh (by omega))⟩
  rw [List.length_map, List.length_mergeSort]; exact hz
def sortD (es : List D) : List D := es.mergeSort fun a b => !ltD b a
def okSort (es : List D) : Prop := okPys es = true ∧ AllAlike (pys es) ∧ Sortable (pys es) ∧ ∀ e ∈ pys es, e.depth ≤ 40
def pSorted : PN := fun ds c => wd (one ds) fun d => wd (lstO d) fun es => okSort es ∧ c (.o (sortD es))
theorem repA_zip : ∀ {xs : List V} {ds : List D}, RepA K F xs ds → ∃ ws : List (V × D), xs = ws.map (·.1) ∧ ds = ws.map (·.2) ∧ ∀ w ∈ ws, Rep K F w.1 w.2
  | _, _, .nil => ⟨[], rfl, rfl, fun _ m => absurd m (by simp)⟩
  | _, _, .cons (v := v) (d := d) r t => by
    obtain ⟨ws, e1, e2, h⟩ := repA_zip t
    refine ⟨(v, d) :: ws, by simp [e1], by simp [e2], fun w m => ?_⟩
    rcases List.mem_cons.mp m with rfl | m
    · exact r
    · exact h w m
theorem repA_unzip : ∀ {ws : List (V × D)}, (∀ w ∈ ws, Rep K F w.1 w.2) → RepA K F (ws.map (·.1)) (ws.map (·.2))
  | [], _ => .nil
  | w :: ws, h => .cons (h w List.mem_cons_self) (repA_unzip fun x m => h x (List.mem_cons_of_mem _ m))
theorem pys_map : ∀ ds : List D, pys ds = ds.map py
  | [] => rfl
  | d :: ds => by simp only [pys, List.map_cons, pys_map ds]
theorem okPys_mem : ∀ {ds : List D}, okPys ds = true → ∀ d ∈ ds, okPy d = true
  | [], _, _, m => absurd m (by simp)
  | d :: ds, h, x, m => by
    simp only [okPys, Bool.and_eq_true] at h
    rcases List.mem_cons.mp m with rfl | m
    · exact h.1
    · exact okPys_mem h.2 x m
theorem n_sorted {k : Nat} (hr : Room k X.A) : ON X (.builtin "sorted") (rSortD X.K) pSorted := ⟨cr_sortD hr.units, fun F H xs ds c Q s r hp hQ => by
  obtain ⟨d, e, hp1⟩ := wd_iff hp
  obtain ⟨es, e2, hk, hp2⟩ := wd_iff hp1
  have e0 := one_inv e
  rw [e0] at r
  obtain ⟨y, ey, r1⟩ := repBs1 r
  subst ey
  obtain ⟨a, xs, rfl, h1, h2⟩ := r1.lstO s e2
  obtain ⟨ws, ex, ed, hw⟩ := repA_zip h2
  subst ex ed
  obtain ⟨k1, k2, k3, k4⟩ := hk
  rw [pys_map] at k2 k3 k4
  refine ⟨a, ws.map fun w => (w.1, py w.2), rfl, ?_, ?_, ?_, ?_, ?_, ?_⟩
  · rw [List.map_map]; exact h1
  · intro b m
    obtain ⟨w, m1, rfl⟩ := List.mem_map.mp m
    exact (hw w m1).dp s (okPys_mem k1 _ (List.mem_map.mpr ⟨w, m1, rfl⟩))
  · rw [List.map_map]; rw [List.map_map] at k2; exact k2
  · rw [List.map_map]; rw [List.map_map] at k3; exact k3
  · intro b m
    obtain ⟨w, m1, rfl⟩ := List.mem_map.mp m
    exact k4 _ (List.mem_map.mpr ⟨_, List.mem_map.mpr ⟨w, m1, rfl⟩, rfl⟩)
  · have e1 : (List.mergeSort (ws.map fun w => (w.1, py w.2)) (dataLe false (·.2))).map (·.1) = (ws.mergeSort fun a b => !ltD b.2 a.2).map (·.1) := by
      rw [← List.map_mergeSort (r := fun a b => !ltD b.2 a.2) (s := dataLe false (·.2)) (f := fun w : V × D => (w.1, py w.2)) (l := ws) (fun a _ b _ => rfl), List.map_map]
      rfl
    have e3 : sortD (ws.map (·.2)) = (ws.mergeSort fun a b => !ltD b.2 a.2).map (·.2) := by
      unfold sortD
      rw [← List.map_mergeSort (r := fun a b : V × D => !ltD b.2 a.2) (s := fun a b => !ltD b a) (f := fun w : V × D => w.2) (l := ws) (fun a _ b _ => rfl)]
    rw [e1]
    rw [e3] at hp2
    exact lres s (repA_unzip fun w m => hw w (List.mem_mergeSort.mp m)) hp2 hQ⟩
theorem pSorted_at (d : D) (c : RV → Prop) : pSorted [d] c = wd (lstO d) fun es => okSort es ∧ c (.o (sortD es)) := rfl
end DL

set_option Elab.async false
set_option linter.all false
set_option maxRecDepth 100000
/-! helpers of the walk; the program's words -/
namespace DL
open PySem L2
theorem lstO_frl (ds : List D) : lstO (.frl ds) = some ds := rfl
theorem lc_map (f : D → D) {g : GT} {wt : WT} {we : WE} {vs : List Nat} {fin : List D → Env → Om → Prop} {items : List D} {r : Env} {om : Om} (hz : items.length ≤ sizeLine)
    (hs : ∀ (i : Nat) (d : D) (acc : List D) (nx : List D → Env → Om → Prop), items[i]? = some d → acc.length < sizeLine → nx (acc ++ [f d]) r om →
      g (.v d) r fun r2 => wt X0 r2 om fun b r3 om3 => if b = true then we X0 r3 om3 fun x r4 om4 => wd (datE x) fun y => acc.length < sizeLine ∧ nx (acc ++ [y]) (wipeE r4 vs) om4 else nx acc (wipeE r3 vs) om3)
    (hf : fin (items.map f) r om) : lcGo g wt we vs items [] r om fin := by
  refine lc_list (fun i acc r' om' => acc = (items.take i).map f ∧ r' = r ∧ om' = om) ⟨by simp, rfl, rfl⟩ ?_ ?_
  · rintro i d acc r' om' nx e ⟨rfl, rfl, rfl⟩ hn
    have hi := (List.getElem?_eq_some_iff.mp e).1
    refine hs i d _ nx e (by rw [List.length_map, List.length_take]; omega) (hn _ _ _ ⟨?_, rfl, rfl⟩)
    rw [List.take_add_one, e, List.map_append]; rfl
  · rintro acc r' om' ⟨rfl, rfl, rfl⟩
    rw [List.take_length]; exact hf
theorem loop_all (g : D → Bool) (I : DL.Env → Prop) {st : D → (DL.Env → Om → Prop) → DL.Env → Om → Prop} {fin : DL.Env → Om → Prop} {es : List D} {r : DL.Env} {om : Om} (h0 : I r)
    (hs : ∀ (i : Nat) (y : D) (r : DL.Env) (nx : DL.Env → Om → Prop), es[i]? = some y → (es.take i).all g = true → I r → (g y = true → ∀ r', I r' → nx r' om) → (g y = false → es.all g = false) → st y nx r om)
    (hf : ∀ r, I r → es.all g = true → fin r om) : loop st es fin r om := by
  refine loop_list (fun i r om' => om' = om ∧ I r ∧ (es.take i).all g = true) ⟨rfl, h0, by simp⟩ ?_ ?_
  · rintro i y r om' nx e ⟨rfl, hI, ha⟩ hn
    refine hs i y r nx e ha hI (fun hy r' hr' => hn _ _ ⟨rfl, hr', ?_⟩) fun hy => ?_
    · rw [List.take_add_one, e, List.all_append, ha]
      simp only [Option.toList_some, List.all_cons, hy, List.all_nil, Bool.and_self]
    · rw [List.all_eq_false]
      exact ⟨y, List.mem_of_getElem? e, by rw [hy]; decide⟩
  · rintro r om' ⟨rfl, hI, ha⟩
    rw [List.take_length] at ha
    exact hf r hI ha
theorem bools_mapf {α : Type} (g : α → Bool) : ∀ l : List α, bools (l.map fun d => D.bl (g d)) = some (l.map g)
  | [] => rfl
  | d :: l => by simp only [List.map_cons, bools, bools_mapf g l]; rfl
def plainD : D → Bool
  | .h _ => false
  | .raw _ => false
  | _ => true
def isNum : D → Bool
  | .int _ => true
  | _ => false
def isRow : D → Bool
  | .tup ds => decide (1 ≤ ds.length) && decide (ds.length ≤ 24) && ds.all isNum
  | _ => false
def widD : D → Nat
  | .tup ds => ds.length
  | _ => 0
def goodRow (w : Nat) (d : D) : Bool := isRow d && decide (widD d = w)
def rowsL (ds : List D) : Bool := ds.all (goodRow (widD (ds.headD .non)))
def isRows : D → Bool
  | .lst ds => rowsL ds
  | .frl ds => rowsL ds
  | _ => false
def plains : D → Bool
  | .lst ds => ds.all plainD
  | .frl ds => ds.all plainD
  | .tup ds => ds.all plainD
  | d => plainD d
theorem isNum_iff {d : D} : isNum d = true ↔ ∃ i, d = .int i := by cases d <;> simp [isNum]
theorem isRow_iff {d : D} : isRow d = true ↔ ∃ ns : List Int, d = .tup (ns.map D.int) ∧ 1 ≤ ns.length ∧ ns.length ≤ 24 := by
  constructor
  · intro h
    cases d with
    | tup ds =>
      simp only [isRow, Bool.and_eq_true, decide_eq_true_eq, List.all_eq_true] at h
      have : ∀ l : List D, (∀ x ∈ l, isNum x = true) → ∃ ns : List Int, l = ns.map D.int := by
        intro l
        induction l with
        | nil => exact fun _ => ⟨[], rfl⟩
        | cons x l ih =>
          intro hx
          obtain ⟨i, rfl⟩ := isNum_iff.mp (hx x List.mem_cons_self)
          obtain ⟨ns, rfl⟩ := ih fun y m => hx y (List.mem_cons_of_mem _ m)
          exact ⟨i :: ns, rfl⟩
      obtain ⟨ns, rfl⟩ := this ds h.2
      simp only [List.length_map] at h
      exact ⟨ns, rfl, h.1.1, h.1.2⟩
    | _ => simp [isRow] at h
  · rintro ⟨ns, rfl, h1, h2⟩
    simp only [isRow, List.length_map, h1, h2, decide_true, Bool.and_true, Bool.true_and, List.all_eq_true]
    intro x m
    obtain ⟨i, _, rfl⟩ := List.mem_map.mp m
    rfl
mutual
def okc : D → Bool
  | .non => true
  | .bl _ => true
  | .int _ => true
  | .str x => PyData.strOk x
  | .tup ds => okcs ds
  | .lst ds => okcs ds
  | .frl ds => okcs ds
  | _ => false
def okcs : List D → Bool
  | [] => true
  | d :: ds => okc d && okcs ds
end
mutual
def dep : D → Nat
  | .tup ds => deps ds + 1
  | .lst ds => deps ds + 1
  | .frl ds => deps ds + 1
  | _ => 0
def deps : List D → Nat
  | [] => 0
  | d :: ds => max (dep d) (deps ds)
end
mutual
theorem okc_py : ∀ (d : D), okc d = true → okPy d = true ∧ (py d).canLay0 = true ∧ PySem.W.alike (py d) (py d) = true ∧ (py d).depth = dep d
  | .non, _ => by simp [okPy, py, PyData.canLay0, PySem.W.alike, PyData.depth, dep]
  | .bl _, _ => by simp [okPy, py, PyData.canLay0, PySem.W.alike, PyData.depth, dep]
  | .int _, _ => by simp [okPy, py, PyData.canLay0, PySem.W.alike, PyData.depth, dep]
  | .str x, h => by simp only [okc] at h; simp [okPy, py, PyData.canLay0, PySem.W.alike, PyData.depth, dep, h]
  | .tup ds, h => by obtain ⟨a, b, c, e⟩ := okcs_py ds (by simpa [okc] using h); simp [okPy, py, PyData.canLay0, PySem.W.alike, PyData.depth, dep, a, b, c, e]
  | .lst ds, h => by obtain ⟨a, b, c, e⟩ := okcs_py ds (by simpa [okc] using h); simp [okPy, py, PyData.canLay0, PySem.W.alike, PyData.depth, dep, a, b, c, e]
  | .frl ds, h => by obtain ⟨a, b, c, e⟩ := okcs_py ds (by simpa [okc] using h); simp [okPy, py, PyData.canLay0, PySem.W.alike, PyData.depth, dep, a, b, c, e]
  | .dct _ _, h => by simp [okc] at h
  | .raw _, h => by simp [okc] at h
  | .h _, h => by simp [okc] at h
theorem okcs_py : ∀ (ds : List D), okcs ds = true → okPys ds = true ∧ PyData.canLayAll0 (pys ds) = true ∧ PySem.W.alikeAll (pys ds) (pys ds) = true ∧ PyData.depthAll (pys ds) = deps ds
  | [], _ => by simp [okPys, pys, PyData.canLayAll0, PySem.W.alikeAll, PyData.depthAll, deps]
  | d :: ds, h => by
    simp only [okcs, Bool.and_eq_true] at h
    obtain ⟨a, b, c, e⟩ := okc_py d h.1
    obtain ⟨a', b', c', e'⟩ := okcs_py ds h.2
    simp [okPys, pys, PyData.canLayAll0, PySem.W.alikeAll, PyData.depthAll, deps, a, b, c, e, a', b', c', e']
end
theorem okE_of {d : D} (h : okc d = true) (hd : dep d ≤ 64) : okE d := by
  obtain ⟨a, b, c, e⟩ := okc_py d h
  exact ⟨a, by unfold SeqAt.shaped; rw [b, e]; simpa using hd⟩
theorem eqD_self {d : D} (h : okc d = true) : eqD d d = true := PySem.W.eqv_refl_alike _ (okc_py d h).2.2.1
theorem okcs_append : ∀ (a b : List D), okcs (a ++ b) = (okcs a && okcs b)
  | [], b => by simp [okcs]
  | x :: a, b => by simp only [List.cons_append, okcs, okcs_append a b, Bool.and_assoc]
theorem okcs_all {ds : List D} (h : ∀ d ∈ ds, okc d = true) : okcs ds = true := by
  induction ds with
  | nil => rfl
  | cons x ds ih => simp only [okcs, h x List.mem_cons_self, ih fun d m => h d (List.mem_cons_of_mem _ m), Bool.and_self]
theorem deps_le {ds : List D} {n : Nat} (h : ∀ d ∈ ds, dep d ≤ n) : deps ds ≤ n := by
  induction ds with
  | nil => simp [deps]
  | cons x ds ih =>
    simp only [deps]
    have := h x List.mem_cons_self
    have := ih fun d m => h d (List.mem_cons_of_mem _ m)
    omega
theorem okcs_ints (ns : List Int) : okcs (ns.map D.int) = true := okcs_all fun d m => by obtain ⟨i, _, rfl⟩ := List.mem_map.mp m; rfl
theorem deps_ints (ns : List Int) : deps (ns.map D.int) = 0 := Nat.le_zero.mp (deps_le fun d m => by obtain ⟨i, _, rfl⟩ := List.mem_map.mp m; simp [dep])
theorem pys_ints : ∀ ns : List Int, pys (ns.map D.int) = ns.map PyData.int
  | [] => rfl
  | n :: ns => by simp only [List.map_cons, pys, py, pys_ints ns]
/-- rows of one width, as numbers -/
def rowD (r : List Int) : D := .tup (r.map D.int)
def rowsD (rs : List (List Int)) : List D := rs.map rowD
def Wide (w : Nat) (rs : List (List Int)) : Prop := 1 ≤ w ∧ w ≤ 24 ∧ ∀ r ∈ rs, r.length = w
theorem Wide.rows {w : Nat} {rs : List (List Int)} (h : Wide w rs) : rowsL (rowsD rs) = true := by
  have h0 : ∀ w' : Nat, (∀ q ∈ rs, widD (rowD q) = w') → w' = widD ((rowsD rs).headD .non) ∨ rs = [] → rowsL (rowsD rs) = true := fun w' hw e => by
    unfold rowsL
    rw [List.all_eq_true]
    intro d m
    obtain ⟨r, mr, rfl⟩ := List.mem_map.mp m
    have hl := h.2.2 r mr
    have e1 : isRow (rowD r) = true := isRow_iff.mpr ⟨r, rfl, by rw [hl]; exact h.1, by rw [hl]; exact h.2.1⟩
    rcases e with e | e
    · unfold goodRow; rw [e1, Bool.true_and, decide_eq_true_eq, hw r mr]; exact e
    · subst e; cases mr
  refine h0 w (fun q m => by simp only [rowD, widD, List.length_map]; exact h.2.2 q m) ?_
  cases rs with
  | nil => exact .inr rfl
  | cons q rs => left; show w = widD (rowD q); simp only [rowD, widD, List.length_map]; exact (h.2.2 q List.mem_cons_self).symm
theorem okc_row (r : List Int) : okc (rowD r) = true := by simp only [rowD, okc, okcs_ints]
theorem dep_row (r : List Int) : dep (rowD r) = 1 := by simp only [rowD, dep, deps_ints]
theorem okcs_rows (rs : List (List Int)) : okcs (rowsD rs) = true := okcs_all fun d m => by obtain ⟨r, _, rfl⟩ := List.mem_map.mp m; exact okc_row r
theorem deps_rows (rs : List (List Int)) : deps (rowsD rs) ≤ 1 := deps_le fun d m => by obtain ⟨r, _, rfl⟩ := List.mem_map.mp m; rw [dep_row]; omega
/-- the order of rows by a column, then as tuples -/
def keyD (c : Nat) (r : List Int) : D := .tup [.int (r.getD c 0), rowD r]
def lessR (c : Nat) (r q : List Int) : Bool := ltD (keyD c r) (keyD c q)
theorem alike_key (c : Nat) (r q : List Int) : PySem.W.alike (py (keyD c r)) (py (keyD c q)) = true := by
  simp only [keyD, rowD, py, pys, PySem.W.alike, PySem.W.alikeAll, pys_ints, PySem.W.alike_ints, Bool.and_self]
theorem okc_key (c : Nat) (r : List Int) : okc (keyD c r) = true := by simp only [keyD, okc, okcs, okc_row, Bool.and_self]
theorem dep_key (c : Nat) (r : List Int) : dep (keyD c r) = 2 := by simp only [keyD, dep, deps, dep_row]; rfl
theorem okL_key (c : Nat) (r q : List Int) : okL (keyD c r) (keyD c q) := by
  obtain ⟨a, b, _, e⟩ := okc_py _ (okc_key c r)
  obtain ⟨a', b', _, e'⟩ := okc_py _ (okc_key c q)
  exact ⟨a, a', alike_key c r q, by simp [keyD, py], by rw [e, dep_key]; decide⟩
theorem row_at {r : List Int} {c : Int} (h0 : 0 ≤ c) (h1 : c < (r.length : Int)) : atI (r.map D.int) c = some (.int (r.getD c.toNat 0)) := by
  have hl : c.toNat < r.length := by omega
  rw [atI_get h0 (by rw [List.length_map]; exact h1), List.getElem?_map, List.getElem?_eq_getElem hl, List.getD_eq_getElem?_getD, List.getElem?_eq_getElem hl]
  rfl
theorem map_eraseIdx {α β : Type} (f : α → β) : ∀ (l : List α) (i : Nat), (l.eraseIdx i).map f = (l.map f).eraseIdx i
  | [], _ => by simp
  | x :: l, 0 => by simp
  | x :: l, i + 1 => by simp [map_eraseIdx f l i]
theorem ixN_in {n : Nat} {i : Int} (h0 : 0 ≤ i) (h1 : i < (n : Int)) : ixN n i = some i.toNat := by unfold ixN; simp [h0]; omega
theorem rng_ints (lo : Int) (n : Nat) : rng lo n = ((List.range n).map fun (j : Nat) => lo + (j : Int)).map D.int := by
  unfold rng
  rw [List.map_map]; rfl
theorem rows_at {rs : List (List Int)} {c : Int} (h0 : 0 ≤ c) (h1 : c < (rs.length : Int)) : atI (rowsD rs) c = some (rowD (rs.getD c.toNat [])) := by
  have hl : c.toNat < rs.length := by omega
  rw [atI_get h0 (by simp only [rowsD, List.length_map]; exact h1)]
  simp only [rowsD, List.getElem?_map, List.getElem?_eq_getElem hl, List.getD_eq_getElem?_getD]
  rfl
theorem getD_mem {rs : List (List Int)} {c : Int} (h0 : 0 ≤ c) (h1 : c < (rs.length : Int)) : rs.getD c.toNat [] ∈ rs := by
  have hl : c.toNat < rs.length := by omega
  rw [List.getD_eq_getElem?_getD, List.getElem?_eq_getElem hl]
  exact List.getElem_mem hl
theorem sort_perm (es : List D) : (sortD es).Perm es := List.mergeSort_perm _ _
end DL

set_option Elab.async false
set_option linter.all false
set_option maxRecDepth 100000
namespace DL
open PySem L2 PySem.W
section
variable {X : Cx} {W : WX} {pos : Pos}
theorem dt_tru' {e : Expr} {t : TE} {w : WE} (h : DE X W e t w) (he : ∀ whole, isTrue e X.env whole = (do let v ← whole; standAt e.pos; holding [v] (truthy v)) := by intro _; rfl) {K' : PySem.W.Frag} (hK : X.K = K' := by rfl) : DT X W e (fun σ H Q => t σ H fun x H' => ∃ k, TruV K' x H' k ∧ Q k H') (wTru w) := by
  subst hK
  first | exact dt_tru | (apply dt_tru <;> assumption)
theorem dg_tup' {es : List Expr} {k : Nat} {t : TGs} {w : GTs} {n : Nat} (hc : X.calm = true) (h : DGs X es t w) (hn : (assignEach es X.env).length = n := by rfl) (hst : (assignEach es X.env).findIdx? (·.1) = none := by rfl) {K' : PySem.W.Frag} (hK : X.K = K' := by rfl) : DG X (.Tuple es k pos) (gTup K' n t) (gT n w) := by
  subst hK
  first | exact dg_tup | (apply dg_tup <;> assumption)
theorem di_list' {tg l : Expr} {t : TE} {w : WE} (h : DE X W l t w) {K' : PySem.W.Frag} (hK : X.K = K' := by rfl) : DI X W tg l (iList K' t) (wiL w) := by
  subst hK
  first | exact di_list | (apply di_list <;> assumption)
theorem di_tup' {tg l : Expr} {t : TE} {w : WE} (h : DE X W l t w) {K' : PySem.W.Frag} (hK : X.K = K' := by rfl) : DI X W tg l (iTup K' t) (wiT w) := by
  subst hK
  first | exact di_tup | (apply di_tup <;> assumption)
theorem dgv_tup' {vs : List Nat} {es : List Expr} {k : Nat} {t : TGs} {w : GTs} {n : Nat} (hc : X.calm = true) (h : DGvs X vs es t w) (hn : (assignEach es X.env).length = n := by rfl) (hst : (assignEach es X.env).findIdx? (·.1) = none := by rfl) {K' : PySem.W.Frag} (hK : X.K = K' := by rfl) : DGv X vs (.Tuple es k pos) (gTup K' n t) (gT n w) := by
  subst hK
  first | exact dgv_tup | (apply dgv_tup <;> assumption)
theorem de_call' {x : Str} {c : Con} {k : Nat} {e : Expr} {es : List Expr} {p' : Pos} {t : TA} {w : WA} (F : Def X.prog X.w X.K X.mg X.base x c k) (hr : Room k X.A) (tk : Takes X W) (ha : DA X W (e :: es) t w) (hg : Gl X x := by rfl) (hdb : (x == ("__debug__" : Str)) = false := by decide)
    (he : starEach (e :: es) X.env = (false, eval e X.env) :: starEach es X.env := by rfl) (hpl : (backTo pos (starEach es X.env)).any (·.1) = false := by rfl) {K' : PySem.W.Frag} (hK : X.K = K' := by rfl) :
    DE X W (.Call (.Name x p') (e :: es) [] pos) (tCallSD (toSp K' c) [] (L2.WE W) t) (wCall c.df [] w) := by
  subst hK
  first | exact de_call | (apply de_call <;> assumption)
theorem de_call0' {x : Str} {c : Con} {k : Nat} {p' : Pos} (F : Def X.prog X.w X.K X.mg X.base x c k) (hr : Room k X.A) (tk : Takes X W) (hg : Gl X x := by rfl) (hdb : (x == ("__debug__" : Str)) = false := by decide) {K' : PySem.W.Frag} (hK : X.K = K' := by rfl) :
    DE X W (.Call (.Name x p') [] [] pos) (tCallSD (toSp K' c) [] (L2.WE W) tNil) (wCall c.df [] wNil) := by
  subst hK
  first | exact de_call0 | (apply de_call0 <;> assumption)
theorem o_add' {K' : PySem.W.Frag} (hK : X.K = K' := by rfl) : O2 X (binaryOp .Add) (rAddD K') pAdd := by
  subst hK
  first | exact o_add | (apply o_add <;> assumption)
theorem o_mul' {K' : PySem.W.Frag} (hK : X.K = K' := by rfl) : O2 X (binaryOp .Mult) (rMulD K') pMul := by
  subst hK
  first | exact o_mul | (apply o_mul <;> assumption)
theorem o_eq' {k : Nat} (hr : Room k X.A) {K' : PySem.W.Frag} (hK : X.K = K' := by rfl) : O2 X (compareOp .Eq) (rEqA K') pEq := by
  subst hK
  first | exact o_eq | (apply o_eq <;> assumption)
theorem o_ne' {k : Nat} (hr : Room k X.A) {K' : PySem.W.Frag} (hK : X.K = K' := by rfl) : O2 X (compareOp .NotEq) (rNeA K') pNe := by
  subst hK
  first | exact o_ne | (apply o_ne <;> assumption)
theorem n_len' {K' : PySem.W.Frag} (hK : X.K = K' := by rfl) : ON X (.builtin "len") (fun xs H Q => ∃ x n, xs = [x] ∧ LenV K' x H n ∧ Q (.int n) H) pLen := by
  subst hK
  first | exact n_len | (apply n_len <;> assumption)
theorem n_isi' {K' : PySem.W.Frag} (hK : X.K = K' := by rfl) : ON X (.builtin "isinstance") (rIsi K') pIsi := by
  subst hK
  first | exact n_isi | (apply n_isi <;> assumption)
theorem n_list' {K' : PySem.W.Frag} (hK : X.K = K' := by rfl) : ON X (.type "list") (fun xs H Q => ∃ p ys, xs = [.ref p] ∧ (SqL K' H p ys ∨ SqT K' H p ys) ∧ ∀ l, H l = none → Q (.ref l) (upd H l (.lst ys))) pList := by
  subst hK
  first | exact n_list | (apply n_list <;> assumption)
theorem n_tuple' {K' : PySem.W.Frag} (hK : X.K = K' := by rfl) : ON X (.type "tuple") (fun xs H Q => ∃ p ys, xs = [.ref p] ∧ ((SqL K' H p ys ∧ ∀ l, H l = none → Q (.ref l) (upd H l (.tup ys))) ∨ (SqT K' H p ys ∧ Q (.ref p) H))) pTuple := by
  subst hK
  first | exact n_tuple | (apply n_tuple <;> assumption)
theorem de_ix' {W : WX} {pos : Pos} {a b : Expr} {ta tb : TE} {wa wb : WE} (ha : DE X W a ta wa) (hb : DE X W b tb wb) (hs : PlainIx b := by exact fun _ _ => rfl) {K' : PySem.W.Frag} (hK : X.K = K' := by rfl) : DE X W (.Subscript a b pos) (tOp (rIx K') ta tb) (wOp pIx wa wb) := by
  subst hK
  first | exact de_ix | (apply de_ix <;> assumption)
theorem de_app' (i : Nat) {W : WX} {x : Str} {p1 p2 cpos : Pos} {e : Expr} {te : TE} {we : WE} (he : DE X W e te we) (hN : X.N[i]? = some x := by rfl) (hv : Vis X.env.scope x := by first | exact Or.inl rfl | exact Or.inr (Or.inl rfl) | exact Or.inr (Or.inr rfl)) (hd : (x == ("__debug__" : Str)) = false := by decide)
    (hcd : (x == ("__classdict__" : Str)) = false := by decide) (hbase : attributeBase (.Name x p1) "append" X.env (eval (.Name x p1) X.env) = eval (.Name x p1) X.env := by rfl)
    (hfew : ((backTo cpos (starEach [e] X.env)).all (fun x => !x.1) && (backToKw cpos (keywordEach [] X.env)).all (fun x => x.1.isSome) && decide (([e] : List Expr).length + ([] : List Keyword).length + (if ([] : List Keyword).isEmpty then 0 else 1) < 30)) = true := by rfl)
    (hline : (p2.endLine == cpos.line) = true := by rfl) (hs : starEach [e] X.env = (false, eval e X.env) :: starEach [] X.env := by rfl) (hplain : (backTo cpos (starEach [] X.env)).any (·.1) = false := by rfl) {K' : PySem.W.Frag} (hK : X.K = K' := by rfl) :
    DE X W (.Call (.Attribute (.Name x p1) "append" p2) [e] [] cpos) (tBM K' "list" rAppend (tVar i) (tCons te tNil)) (wMut i mApp (wCons we wNil)) := by
  subst hK
  first | exact de_app | (apply de_app <;> assumption)
theorem de_sl' {e : Expr} {lo hi : Option Expr} {te : TE} {we : WE} {tl th : TO} {wl wh : WO} {p2 : Pos} (he : DE X W e te we) (hl : DO X W lo tl wl) (hh : DO X W hi th wh) {K' : PySem.W.Frag} (hK : X.K = K' := by rfl) : DE X W (.Subscript e (.Slice lo hi none p2) pos) (tSl (rSlD K') te tl th) (wSl we wl wh) := by
  subst hK
  first | exact de_sl | (apply de_sl <;> assumption)
theorem de_rev' {e : Expr} {te : TE} {we : WE} {k : Nat} {p1 p2 p3 : Pos} (he : DE X W e te we) {K' : PySem.W.Frag} (hK : X.K = K' := by rfl) : DE X W (.Subscript e (.Slice none none (some (.UnaryOp .USub (.Constant (.int 1) k p1) p2)) p3) pos) (tRevL K' te) (wUn pRev we) := by
  subst hK
  first | exact de_rev | (apply de_rev <;> assumption)
theorem de_popAt' (i : Nat) {x : Str} {p1 p2 cpos : Pos} {e : Expr} {te : TE} {we : WE} (he : DE X W e te we) (hN : X.N[i]? = some x := by rfl) (hv : Vis X.env.scope x := by first | exact Or.inl rfl | exact Or.inr (Or.inl rfl) | exact Or.inr (Or.inr rfl)) (hd : (x == ("__debug__" : Str)) = false := by decide)
    (hcd : (x == ("__classdict__" : Str)) = false := by decide) (hbase : attributeBase (.Name x p1) "pop" X.env (eval (.Name x p1) X.env) = eval (.Name x p1) X.env := by rfl)
    (hfew : ((backTo cpos (starEach [e] X.env)).all (fun x => !x.1) && (backToKw cpos (keywordEach [] X.env)).all (fun x => x.1.isSome) && decide (([e] : List Expr).length + ([] : List Keyword).length + (if ([] : List Keyword).isEmpty then 0 else 1) < 30)) = true := by rfl)
    (hline : (p2.endLine == cpos.line) = true := by rfl) (hs : starEach [e] X.env = (false, eval e X.env) :: starEach [] X.env := by rfl) (hplain : (backTo cpos (starEach [] X.env)).any (·.1) = false := by rfl) {K' : PySem.W.Frag} (hK : X.K = K' := by rfl) :
    DE X W (.Call (.Attribute (.Name x p1) "pop" p2) [e] [] cpos) (tBM K' "list" rPopAt (tVar i) (tCons te tNil)) (wMut i mPopAt (wCons we wNil)) := by
  subst hK
  first | exact de_popAt | (apply de_popAt <;> assumption)
theorem de_pop' (i : Nat) {x : Str} {p1 p2 cpos : Pos} (hN : X.N[i]? = some x := by rfl) (hv : Vis X.env.scope x := by first | exact Or.inl rfl | exact Or.inr (Or.inl rfl) | exact Or.inr (Or.inr rfl)) (hd : (x == ("__debug__" : Str)) = false := by decide)
    (hcd : (x == ("__classdict__" : Str)) = false := by decide) (hbase : attributeBase (.Name x p1) "pop" X.env (eval (.Name x p1) X.env) = eval (.Name x p1) X.env := by rfl) (hline : (p2.endLine == cpos.line) = true := by rfl) {K' : PySem.W.Frag} (hK : X.K = K' := by rfl) :
    DE X W (.Call (.Attribute (.Name x p1) "pop" p2) [] [] cpos) (tBM0 K' "list" rPop (tVar i)) (wMut0 i mPop) := by
  subst hK
  first | exact de_pop | (apply de_pop <;> assumption)
theorem n_all' (hc : X.calm = true) {K' : PySem.W.Frag} (hK : X.K = K' := by rfl) : ON X (.builtin "all") (rAll K') pAll := by
  subst hK
  first | exact n_all | (apply n_all <;> assumption)
theorem n_any' (hc : X.calm = true) {K' : PySem.W.Frag} (hK : X.K = K' := by rfl) : ON X (.builtin "any") (rAny K') pAny := by
  subst hK
  first | exact n_any | (apply n_any <;> assumption)
theorem n_sum' (hc : X.calm = true) {K' : PySem.W.Frag} (hK : X.K = K' := by rfl) : ON X (.builtin "sum") (rSum K') pSum := by
  subst hK
  first | exact n_sum | (apply n_sum <;> assumption)
theorem n_max1' (hc : X.calm = true) {K' : PySem.W.Frag} (hK : X.K = K' := by rfl) : ON X (.builtin "max") (rMax K') pMax1 := by
  subst hK
  first | exact n_max1 | (apply n_max1 <;> assumption)
theorem n_min1' (hc : X.calm = true) {K' : PySem.W.Frag} (hK : X.K = K' := by rfl) : ON X (.builtin "min") (rMin K') pMin1 := by
  subst hK
  first | exact n_min1 | (apply n_min1 <;> assumption)
theorem di_zip' {e e2 : Expr} {ta : TA} {wa : WA} {p tpos : Pos} {elts : List Expr} {kk : Nat} (hm : X.mg "zip" = none) (ha : DA X W [e, e2] ta wa) (hg : Gl X "zip" := by rfl) (hs : starEach [e, e2] X.env = (false, eval e X.env) :: starEach [e2] X.env := by rfl) (hpl : (backTo pos (starEach [e2] X.env)).any (·.1) = false := by rfl) {K' : PySem.W.Frag} (hK : X.K = K' := by rfl) :
    DI X W (.Tuple elts kk tpos) (.Call (.Name "zip" p) [e, e2] [] pos) (iZip K' ta) (wiZip wa) := by
  subst hK
  first | exact di_zip | (apply di_zip <;> assumption)
theorem di_enumerate' {e : Expr} {ta : TA} {wa : WA} {p tpos : Pos} {elts : List Expr} {kk : Nat} (hm : X.mg "enumerate" = none) (ha : DA X W [e] ta wa) (hg : Gl X "enumerate" := by rfl) (hs : starEach [e] X.env = [(false, eval e X.env)] := by rfl) {K' : PySem.W.Frag} (hK : X.K = K' := by rfl) :
    DI X W (.Tuple elts kk tpos) (.Call (.Name "enumerate" p) [e] [] pos) (iEnum K' ta) (wiEnumerate wa) := by
  subst hK
  first | exact di_enumerate | (apply di_enumerate <;> assumption)
theorem o_ltA' {k : Nat} (hr : Room k X.A) {K' : PySem.W.Frag} (hK : X.K = K' := by rfl) : O2 X (compareOp .Lt) (fun x y H Q => rI0 (fun i j => .bl (decide (i < j))) x y H Q ∨ rLtD K' (fun d e => dataLt d e) x y H Q) pLtA := by
  subst hK
  first | exact o_ltA | (apply o_ltA <;> assumption)
theorem o_gtA' {k : Nat} (hr : Room k X.A) {K' : PySem.W.Frag} (hK : X.K = K' := by rfl) : O2 X (compareOp .Gt) (fun x y H Q => rI0 (fun i j => .bl (decide (j < i))) x y H Q ∨ rLtD K' (fun d e => dataLt e d) x y H Q) pGtA := by
  subst hK
  first | exact o_gtA | (apply o_gtA <;> assumption)
theorem o_leA' {k : Nat} (hr : Room k X.A) {K' : PySem.W.Frag} (hK : X.K = K' := by rfl) : O2 X (compareOp .LtE) (fun x y H Q => rI0 (fun i j => .bl (decide (i ≤ j))) x y H Q ∨ rLtD K' (fun d e => !dataLt e d) x y H Q) pLeA := by
  subst hK
  first | exact o_leA | (apply o_leA <;> assumption)
theorem o_geA' {k : Nat} (hr : Room k X.A) {K' : PySem.W.Frag} (hK : X.K = K' := by rfl) : O2 X (compareOp .GtE) (fun x y H Q => rI0 (fun i j => .bl (decide (j ≤ i))) x y H Q ∨ rLtD K' (fun d e => !dataLt d e) x y H Q) pGeA := by
  subst hK
  first | exact o_geA | (apply o_geA <;> assumption)
theorem n_sorted' {k : Nat} (hr : Room k X.A) {K' : PySem.W.Frag} (hK : X.K = K' := by rfl) : ON X (.builtin "sorted") (rSortD K') pSorted := by
  subst hK
  first | exact n_sorted | (apply n_sorted <;> assumption)
end
end DL

set_option Elab.async false
set_option linter.all false
set_option maxRecDepth 100000
set_option maxHeartbeats 4000000
namespace K20
open PySem L2 DL
local macro_rules | `(tactic| walk_at "cl") => `(tactic| ((repeat' apply And.intro) <;> first | assumption | omega | decide | (exact Or.inl ⟨by omega, by omega⟩) | (exact Or.inr (Or.inl ⟨by omega, by omega⟩)) | skip))
local macro_rules | `(tactic| walk_at "dl") => `(tactic| try simp only [wSeq, wIfS, wAsg, gN, wRet, wRetN, wDrop, wNext, wBrk, wCnt, wVar, wBor, wMov, wC, wOp, wUn, wCB, wCall, wTup, wLst, wCons, wNil, wTst, wTru, wAnd, wOr, wNot, wAndV, wOrV, wNotV, wChain, wIf, wFor, wiR1, wiR2, wiL, wiT, wYes, wLc, wMut, wMut0, wMutE, lstS, isL, wSet, wAug, wAsgH, wHnd, mApp_at, gT, gsNil, gsCons, deref_non, deref_bl, deref_int, deref_str, deref_tup, deref_lst, deref_frl, deref_dct, deref_raw, deref_os, oset_same, oset_set, datB_v, datB_o, datB_b, datE_v, datE_o, datsE_nil, datsE_v, datsB_nil, datsB_cons, fz_v, fz_o, fz_b, boolD_bl, truD_bl, truD_non, truD_int, truD_lst, truD_tup, intD_int, int1_int, int2_int, lenD_lst, lenD_frl, lenD_tup, seqD_lst, seqD_frl, seqD_tup, tyD_non, tyD_bl, tyD_int, tyD_str, tyD_tup, tyD_lst, tyD_frl, tyD_dct, pIsi_at, isi_int, isi_bool, isi_str, isi_list, isi_tuple, isi_dict, pLen_at, pList_at, pTuple_at, pInt_int, pInt_bl, pMin2_at, pMax2_at, pIx_at, atI_0, atI_1, atI_2, atI_3, ixN_0, ixN_1, ixN_2, ixN_3, wd_some, wd_none, noB_v, noB_o, noB_b, endOf, startE, pI_int, pI0_int, pAdd_int, pAdd_lst, pAdd_tup, pAdd_str, pMul_int, pMul_lst, pMul_tup, pEq_int, pNe_int, pEq_str, pNe_str, Option.map_some, Option.map_none, Option.bind_some, Option.bind_none, List.set_cons_zero, List.set_cons_succ, List.getElem?_cons_zero, List.getElem?_cons_succ, List.getElem?_nil, List.map_cons, List.map_nil, List.length_cons, List.length_nil, List.length_set, List.append_nil, List.nil_append, List.cons_append, List.replicate, Nat.reduceSub, Nat.reduceAdd, Nat.reduceLT, Nat.reduceLeDiff, Nat.lt_add_one, Nat.zero_lt_succ, Nat.zero_add, true_and, and_true, if_true, if_false, Bool.not_true, Bool.not_false, Bool.false_eq_true, ite_true, ite_false, reduceIte, Option.some.injEq, String.reduceBEq, String.reduceEq, Bool.or_false, Bool.or_true, Bool.true_or, Bool.false_or, decide_true, decide_false, Int.reduceLT, Int.reduceLE, Int.reduceEq, Int.reduceToNat, wipeE, wSl, wON, wOS, pSl_lst, pSl_frl, pSl_tup, pRev_lst, wLR1, mPopAt_at, mPop_at, pNeg_int, pAll_at, pAny_at, pSum_at, pMax1_at, pMin1_at, lstO_lst, wiZip, two_lst, wiEnumerate, pC_int, pC_tup, pC_str, pSorted_at, pEq_lst, pNe_lst, pEq_tup, pNe_tup])
local macro_rules | `(tactic| walk_at "cj") => `(tactic| repeat ((with_reducible apply And.intro); · (solve | (repeat' (with_reducible apply And.intro)) <;> first | omega | assumption | decide | (exact Or.inl ⟨by omega, by omega⟩) | (exact Or.inr (Or.inl ⟨by omega, by omega⟩)))))
def top (i : Nat) : Stmt := PySem.Challenge.pw_spillhall_k20_runs_counted.main.body.getD i (.Pass ⟨0, 0, 0, 0⟩)
abbrev s_is_number : Stmt := top 6
theorem sc_is_number : FnScope ["thing"] ["thing"] (defScope s_is_number) := ⟨rfl, rfl, rfl, by decide +kernel, rfl, by decide +kernel, by decide +kernel⟩
abbrev s_is_row : Stmt := top 7
theorem sc_is_row : FnScope ["thing", "number"] ["thing"] (defScope s_is_row) := ⟨rfl, rfl, rfl, by decide +kernel, rfl, by decide +kernel, by decide +kernel⟩
abbrev s_is_rows : Stmt := top 8
theorem sc_is_rows : FnScope ["thing", "row"] ["thing"] (defScope s_is_rows) := ⟨rfl, rfl, rfl, by decide +kernel, rfl, by decide +kernel, by decide +kernel⟩
abbrev s_look : Stmt := top 9
theorem sc_look : FnScope ["rows", "column", "width"] ["rows", "column"] (defScope s_look) := ⟨rfl, rfl, rfl, by decide +kernel, rfl, by decide +kernel, by decide +kernel⟩
abbrev s_less : Stmt := top 10
theorem sc_less : FnScope ["one", "other", "column"] ["one", "other", "column"] (defScope s_less) := ⟨rfl, rfl, rfl, by decide +kernel, rfl, by decide +kernel, by decide +kernel⟩
abbrev s_runs_in : Stmt := top 12
theorem sc_runs_in : FnScope ["rows", "column", "order", "found", "one", "other"] ["rows", "column", "order"] (defScope s_runs_in) := ⟨rfl, rfl, rfl, by decide +kernel, rfl, by decide +kernel, by decide +kernel⟩
abbrev s_law_state : Stmt := top 14
theorem sc_law_state : FnScope ["_law_script", "_law_cells"] ["_law_script"] (defScope s_law_state) := ⟨rfl, rfl, rfl, by decide +kernel, rfl, by decide +kernel, by decide +kernel⟩
abbrev s_law_next : Stmt := top 15
theorem sc_law_next : FnScope ["_law_state_here", "_law_below", "_law_found", "_law_cells", "_law_cell"] ["_law_state_here", "_law_below"] (defScope s_law_next) := ⟨rfl, rfl, rfl, by decide +kernel, rfl, by decide +kernel, by decide +kernel⟩
abbrev s_law_number : Stmt := top 16
theorem sc_law_number : FnScope ["_law_state_here", "_law_way", "_law_far", "_law_k"] ["_law_state_here", "_law_way"] (defScope s_law_number) := ⟨rfl, rfl, rfl, by decide +kernel, rfl, by decide +kernel, by decide +kernel⟩
abbrev s_law_rows : Stmt := top 17
theorem sc_law_rows : FnScope ["_law_state_here", "_law_many", "_law_width_here", "_law_ways", "_law_column", "_law_found", "_law_k", "_law_row", "_law_way"] ["_law_state_here", "_law_many", "_law_width_here"] (defScope s_law_rows) := ⟨rfl, rfl, rfl, by decide +kernel, rfl, by decide +kernel, by decide +kernel⟩
abbrev s_law_shaped : Stmt := top 18
theorem sc_law_shaped : FnScope ["_law_state_here", "_law_rows_here", "_law_column", "_law_way", "_law_found", "_law_pair", "_law_row"] ["_law_state_here", "_law_rows_here", "_law_column"] (defScope s_law_shaped) := ⟨rfl, rfl, rfl, by decide +kernel, rfl, by decide +kernel, by decide +kernel⟩
abbrev s_law_less : Stmt := top 19
theorem sc_law_less : FnScope ["_law_one", "_law_other", "_law_column"] ["_law_one", "_law_other", "_law_column"] (defScope s_law_less) := ⟨rfl, rfl, rfl, by decide +kernel, rfl, by decide +kernel, by decide +kernel⟩
abbrev s_law_whole : Stmt := top 20
theorem sc_law_whole : FnScope ["_law_found"] ["_law_found"] (defScope s_law_whole) := ⟨rfl, rfl, rfl, by decide +kernel, rfl, by decide +kernel, by decide +kernel⟩
abbrev s_law_order : Stmt := top 21
theorem sc_law_order : FnScope ["_law_state_here", "_law_many", "_law_left", "_law_found"] ["_law_state_here", "_law_many"] (defScope s_law_order) := ⟨rfl, rfl, rfl, by decide +kernel, rfl, by decide +kernel, by decide +kernel⟩
abbrev s_law_count : Stmt := top 22
theorem sc_law_count : FnScope ["_law_rows_here", "_law_column", "_law_order_here", "_law_found", "_law_one", "_law_other"] ["_law_rows_here", "_law_column", "_law_order_here"] (defScope s_law_count) := ⟨rfl, rfl, rfl, by decide +kernel, rfl, by decide +kernel, by decide +kernel⟩
abbrev s_law_width : Stmt := top 23
theorem sc_law_width : FnScope ["_law_state_here"] ["_law_state_here"] (defScope s_law_width) := ⟨rfl, rfl, rfl, by decide +kernel, rfl, by decide +kernel, by decide +kernel⟩
abbrev s_law : Stmt := top 24
theorem sc_law : FnScope ["_law_script", "_law_state_here", "_law_width_here", "_law_column", "_law_rows_here", "_law_one", "_law_other", "_law_order_here", "_law_handed", "_law_found"] ["_law_script"] (defScope s_law) := ⟨rfl, rfl, rfl, by decide +kernel, rfl, by decide +kernel, by decide +kernel⟩
structure Txt (K : PySem.W.Frag) (mg : Str → Option Value) : Prop where
  n_all : mg "all" = none
  n_bool : mg "bool" = none
  n_int : mg "int" = none
  n_isinstance : mg "isinstance" = none
  n_len : mg "len" = none
  n_list : mg "list" = none
  n_min : mg "min" = none
  n_range : mg "range" = none
  n_sorted : mg "sorted" = none
  n_tuple : mg "tuple" = none
  n_zip : mg "zip" = none
  c_WIDEST : Cst K mg "WIDEST" (.int 24) (.int 24)
def DeckP (ds : List D) : Prop := ∃ (ns : List Int) (c r s : Int), ds = [.lst (ns.map D.int), .int c, .int r, .int s] ∧ 0 ≤ c ∧ ns ≠ []
theorem atI_ints {ns : List Int} {c : Int} (h0 : 0 ≤ c) (h1 : c < (ns.length : Int)) : ∃ z, atI (ns.map D.int) c = some (.int z) := by
  obtain ⟨d, hd, e⟩ := atI_in (ds := ns.map D.int) h0 (by simpa using h1)
  obtain ⟨z, _, rfl⟩ := List.mem_map.mp hd
  exact ⟨z, e⟩
/-- how many neighbours fall -/
def cntF (c : Nat) (rs : List (List Int)) (d : D) : Bool := match d with
  | .tup [.int i, .int j] => lessR c (rs.getD j.toNat []) (rs.getD i.toNat [])
  | _ => false
def cntL (c : Nat) (rs : List (List Int)) (items : List D) : Int := ((items.filter (cntF c rs)).length : Int)
def runsN (c : Nat) (rs : List (List Int)) (is : List Int) : Int := (if is = [] then 0 else 1) + cntL c rs (zipD (is.map D.int) (cutD (is.map D.int) (some 1) none))
theorem cntL_step (c : Nat) (rs : List (List Int)) {items : List D} {i : Nat} {d : D} (e : items[i]? = some d) : cntL c rs (items.take (i + 1)) = cntL c rs (items.take i) + (if cntF c rs d = true then 1 else 0) := by
  unfold cntL
  rw [List.take_add_one, e, List.filter_append, List.length_append]
  simp only [Option.toList_some, List.filter_cons, List.filter_nil]
  split <;> simp
theorem pair_of {is : List Int} {n : Int} (hi : ∀ i ∈ is, 0 ≤ i ∧ i < n) {i : Nat} {d : D} (e : (zipD (is.map D.int) (cutD (is.map D.int) (some 1) none))[i]? = some d) : ∃ x y : Int, d = .tup [.int x, .int y] ∧ (0 ≤ x ∧ x < n) ∧ 0 ≤ y ∧ y < n := by
  obtain ⟨a, b, rfl, ha, hb⟩ := zipD_get e
  obtain ⟨x, mx, rfl⟩ := List.mem_map.mp (List.mem_of_getElem? ha)
  have mb := List.mem_of_getElem? hb
  unfold cutD at mb
  obtain ⟨y, my, rfl⟩ := List.mem_map.mp (List.mem_of_mem_drop (List.mem_of_mem_take mb))
  exact ⟨x, y, rfl, hi x mx, hi y my⟩
def df_is_number : DF := fun ds om k _ => match ds with
  | [d] => plainD d = true ∧ k (.v (.bl (isNum d))) om
  | _ => False
def c_is_number : Con := ⟨1, df_is_number, by intro ds om k xk h; unfold df_is_number at h; split at h <;> first | rfl | exact h.elim, by intro ds om k k' xk xk' hk hx h; unfold df_is_number at h ⊢; split at h <;> first | exact h.elim | grind⟩
def w_is_number : WS :=
  (wRet (wAndV (wCB pIsi (wCons (wBor 0) (wCons (wC (.raw (.ty "int"))) wNil))) (wNotV (wCB pIsi (wCons (wBor 0) (wCons (wC (.raw (.ty "bool"))) wNil))))))
theorem d_is_number {P : Program} {w : World} {K : PySem.W.Frag} {mg : Str → Option Value} {base : Heap} {f : Addr} (T : Txt K mg) (cdv : Value) (A : Around) (outer : List PySem.Env) (s : Shared) (H : Hp) (E : XK) (hr : Room 0 (A.deeper (PyProof.Rows.envOfC "is_number" (defScope s_is_number) s.heap.objs.size f cdv))) :
    ∃ t, DSs (cxOf (L2.CX P w) P w K mg base ["thing"] "is_number" (defScope s_is_number) f cdv A outer s H E) (fun cls d _ H => E cls d H) (defBody s_is_number) t w_is_number :=
  ⟨_, (dss_one (ds_ret (de_and (de_cb n_isi T.n_isinstance (by decide +kernel) (da_cons (de_bor 0) (da_cons (de_ty T.n_int (by decide +kernel)) da_nil))) (de_one (de_not (de_cb n_isi T.n_isinstance (by decide +kernel) (da_cons (de_bor 0) (da_cons (de_ty T.n_bool (by decide +kernel)) da_nil))))))))⟩
theorem wp_is_number (ds : List D) (om : Om) (k : RV → Om → Prop) (xk : Exn → Om → Prop) (h : df_is_number ds om k xk) : w_is_number (endOf k xk) (startE 1 ds) om := by
  unfold df_is_number at h
  split at h
  · next d =>
    obtain ⟨hd, h⟩ := h
    unfold w_is_number
    cases d with
    | h a => cases hd
    | raw v => cases hd
    | _ => walk_at "dl"; exact h
  · exact h.elim
theorem ok_is_number {P : Program} {w : World} {K : PySem.W.Frag} {mg : Str → Option Value} {base : Heap} {f : Addr} {fd : FuncData} (F : FunD K "is_number" "is_number" (defArgs s_is_number) (defBody s_is_number) (defScope s_is_number) [] [] f fd) (T : Txt K mg) : FnOk P w K mg base (L2.CX P w) 1 f fd ["thing"] (toSp K c_is_number) :=
  (fn_ok (c := c_is_number) F sc_is_number rfl (fun cdv A outer s H E hr => d_is_number T cdv A outer s H E hr) wp_is_number)
def df_less : DF := fun ds om k _ => match ds with
  | [.tup r, .tup q, .int c] => ∃ a b : List Int, (r = a.map D.int ∧ q = b.map D.int ∧ 0 ≤ c ∧ c < (a.length : Int) ∧ c < (b.length : Int)) ∧ k (.v (.bl (lessR c.toNat a b))) om
  | _ => False
def c_less : Con := ⟨3, df_less, by intro ds om k xk h; unfold df_less at h; split at h <;> first | rfl | exact h.elim, by intro ds om k k' xk xk' hk hx h; unfold df_less at h ⊢; split at h <;> first | exact h.elim | grind⟩
def w_less : WS :=
  (wRet (wOp pLtA (wTup (wCons (wOp pIx (wBor 0) (wBor 2)) (wCons (wVar 0) wNil))) (wTup (wCons (wOp pIx (wBor 1) (wBor 2)) (wCons (wVar 1) wNil)))))
theorem d_less {P : Program} {w : World} {K : PySem.W.Frag} {mg : Str → Option Value} {base : Heap} {f : Addr} (T : Txt K mg) (cdv : Value) (A : Around) (outer : List PySem.Env) (s : Shared) (H : Hp) (E : XK) (hr : Room 0 (A.deeper (PyProof.Rows.envOfC "less" (defScope s_less) s.heap.objs.size f cdv))) :
    ∃ t, DSs (cxOf (L2.CX P w) P w K mg base ["one", "other", "column"] "less" (defScope s_less) f cdv A outer s H E) (fun cls d _ H => E cls d H) (defBody s_less) t w_less :=
  ⟨_, (dss_one (ds_ret (de_cmp (o_ltA hr) (de_tup (da_cons (de_ix (de_bor 0) (de_bor 2)) (da_cons (de_var 0) da_nil))) (de_tup (da_cons (de_ix (de_bor 1) (de_bor 2)) (da_cons (de_var 1) da_nil))))))⟩
theorem wp_less (ds : List D) (om : Om) (k : RV → Om → Prop) (xk : Exn → Om → Prop) (h : df_less ds om k xk) : w_less (endOf k xk) (startE 3 ds) om := by
  unfold df_less at h
  split at h
  · next r q c =>
    obtain ⟨a, b, ⟨rfl, rfl, h0, h1, h2⟩, h⟩ := h
    unfold w_less; walk_at "dl"
    rw [row_at h0 h1, row_at h0 h2]; walk_at "dl"
    refine ⟨by decide, by decide, okL_key c.toNat a b, h⟩
  · exact h.elim
theorem ok_less {P : Program} {w : World} {K : PySem.W.Frag} {mg : Str → Option Value} {base : Heap} {f : Addr} {fd : FuncData} (F : FunD K "less" "less" (defArgs s_less) (defBody s_less) (defScope s_less) [] [] f fd) (T : Txt K mg) : FnOk P w K mg base (L2.CX P w) 1 f fd ["one", "other", "column"] (toSp K c_less) :=
  (fn_ok (c := c_less) F sc_less rfl (fun cdv A outer s H E hr => d_less T cdv A outer s H E hr) wp_less)
def df_law_state : DF := fun ds om k _ => match ds with
  | [.frl es] => (∃ ns : List Int, es = ns.map D.int) ∧ ∀ es', DeckP es' → k (.o es') om
  | _ => False
def c_law_state : Con := ⟨1, df_law_state, by intro ds om k xk h; unfold df_law_state at h; split at h <;> first | rfl | exact h.elim, by intro ds om k k' xk xk' hk hx h; unfold df_law_state at h ⊢; split at h <;> first | exact h.elim | grind⟩
def w_law_state : WS :=
  (wSeq (wAsg (wCB pList (wCons (wSl (wBor 0) wON (wOS (wC (.int 63)))) wNil)) (gN 1)) (wSeq (wIfS (wTst (wOp pEq (wCB pLen (wCons (wBor 1) wNil)) (wC (.int 0)))) (wAsg (wLst (wCons (wC (.int 0)) wNil)) (gN 1)) wNext) (wRet (wLst (wCons (wVar 1) (wCons (wC (.int 0)) (wCons (wC (.int 0)) (wCons (wC (.int 91)) wNil))))))))
theorem d_law_state {P : Program} {w : World} {K : PySem.W.Frag} {mg : Str → Option Value} {base : Heap} {f : Addr} (T : Txt K mg) (cdv : Value) (A : Around) (outer : List PySem.Env) (s : Shared) (H : Hp) (E : XK) (hr : Room 0 (A.deeper (PyProof.Rows.envOfC "_law_state" (defScope s_law_state) s.heap.objs.size f cdv))) :
    ∃ t, DSs (cxOf (L2.CX P w) P w K mg base ["_law_script", "_law_cells"] "_law_state" (defScope s_law_state) f cdv A outer s H E) (fun cls d _ H => E cls d H) (defBody s_law_state) t w_law_state :=
  ⟨_, (dss_cons (ds_set 1 sc_law_state.nd (de_ct n_list T.n_list (by decide +kernel) (da_cons (de_sl (de_bor 0) do_none (do_some de_int)) da_nil))) (dss_cons (ds_if (dt_cmp (o_eq hr) (de_cb n_len T.n_len (by decide +kernel) (da_cons (de_bor 1) da_nil)) de_int) (dss_one (ds_set 1 sc_law_state.nd (de_lst (da_cons de_int da_nil)))) dss_nil) (dss_one (ds_ret (de_lst (da_cons (de_var 1) (da_cons de_int (da_cons de_int (da_cons de_int da_nil)))))))))⟩
theorem wp_law_state (ds : List D) (om : Om) (k : RV → Om → Prop) (xk : Exn → Om → Prop) (h : df_law_state ds om k xk) : w_law_state (endOf k xk) (startE 2 ds) om := by
  unfold df_law_state at h
  split at h
  · next es =>
    obtain ⟨⟨ns, rfl⟩, h⟩ := h
    unfold w_law_state; walk_at "dl"
    obtain ⟨ms, em⟩ : ∃ ms : List Int, cutD (ns.map D.int) none (some 63) = ms.map D.int := ⟨_, by unfold cutD; rw [← List.map_drop, ← List.map_take]⟩
    rw [em]
    by_cases h0 : ms = []
    · subst h0
      walk_at "dl"
      exact ⟨by decide, by decide, h _ ⟨[0], 0, 0, _, rfl, by omega, by simp⟩⟩
    · have : ¬ ((List.length (ms.map D.int) : Nat) : Int) = 0 := by
        rw [List.length_map]
        intro e
        exact h0 (List.length_eq_zero_iff.mp (by omega))
      simp only [this, decide_false]; walk_at "dl"
      exact ⟨by decide, h _ ⟨ms, 0, 0, _, rfl, by omega, h0⟩⟩
  · exact h.elim
theorem ok_law_state {P : Program} {w : World} {K : PySem.W.Frag} {mg : Str → Option Value} {base : Heap} {f : Addr} {fd : FuncData} (F : FunD K "_law_state" "_law_state" (defArgs s_law_state) (defBody s_law_state) (defScope s_law_state) [] [] f fd) (T : Txt K mg) : FnOk P w K mg base (L2.CX P w) 1 f fd ["_law_script"] (toSp K c_law_state) :=
  (fn_ok (c := c_law_state) F sc_law_state rfl (fun cdv A outer s H E hr => d_law_state T cdv A outer s H E hr) wp_law_state)
def df_law_next : DF := fun ds om k _ => match ds with
  | [.h a, .int m] => (om a = some (.lstP DeckP) ∧ 0 < m ∧ m < 1000000000000000000000000000000) ∧ ∀ z, 0 ≤ z → z < m → k (.v (.int z)) om
  | _ => False
def df0_law_next : DF := fun ds om k _ => match ds with
  | [.h a, .int m] => ∃ es, (om a = some (.lst es) ∧ DeckP es ∧ 0 < m ∧ m < 1000000000000000000000000000000) ∧ ∀ z es', 0 ≤ z → z < m → DeckP es' → k (.v (.int z)) (oset om a (.lst es'))
  | _ => False
def c_law_next : Con := ⟨2, df_law_next, by intro ds om k xk h; unfold df_law_next at h; split at h <;> first | rfl | exact h.elim, by intro ds om k k' xk xk' hk hx h; unfold df_law_next at h ⊢; split at h <;> first | exact h.elim | grind⟩
def c0_law_next : Con := ⟨2, df0_law_next, by intro ds om k xk h; unfold df0_law_next at h; split at h <;> first | rfl | exact h.elim, by intro ds om k k' xk xk' hk hx h; unfold df0_law_next at h ⊢; split at h <;> first | exact h.elim | grind⟩
def w_law_next : WS :=
  (wSeq (wIfS (wTst (wOp pGtA (wOp pIx (wBor 0) (wC (.int 2))) (wC (.int 0)))) (wSeq (wAsg (wOp pMod (wOp pIx (wBor 0) (wC (.int 2))) (wBor 1)) (gN 2)) (wSeq (wSet 0 (wC (.int 2)) (wOp pDiv (wOp pIx (wBor 0) (wC (.int 2))) (wBor 1))) (wRet (wMov 2)))) wNext) (wSeq (wAsg (wOp pIx (wBor 0) (wC (.int 0))) (gN 3)) (wSeq (wAsg (wOp pIx (wBor 3) (wOp pMod (wOp pIx (wBor 0) (wC (.int 1))) (wCB pLen (wCons (wBor 3) wNil)))) (gN 4)) (wSeq (wSet 0 (wC (.int 1)) (wOp pAdd (wOp pIx (wBor 0) (wC (.int 1))) (wC (.int 1)))) (wSeq (wIfS (wAnd (wTst (wOp pGeA (wBor 4) (wOp pPow (wC (.int 10)) (wC (.int 18))))) (wTst (wOp pLeA (wOp pIx (wBor 0) (wC (.int 1))) (wCB pLen (wCons (wBor 3) wNil))))) (wSeq (wSet 0 (wC (.int 2)) (wOp pDiv (wBor 4) (wBor 1))) (wRet (wOp pMod (wBor 4) (wBor 1)))) wNext) (wSeq (wSet 0 (wC (.int 3)) (wOp pMod (wOp pAdd (wOp pAdd (wOp pMul (wOp pIx (wBor 0) (wC (.int 3))) (wC (.int 48271))) (wOp pMod (wBor 4) (wC (.int 2147483629)))) (wOp pMul (wC (.int 7)) (wOp pIx (wBor 0) (wC (.int 1))))) (wC (.int 2147483647)))) (wRet (wOp pMod (wOp pDiv (wOp pMod (wOp pMul (wOp pIx (wBor 0) (wC (.int 3))) (wC (.int 69621))) (wC (.int 2147483629))) (wC (.int 64))) (wBor 1)))))))))
theorem d_law_next {P : Program} {w : World} {K : PySem.W.Frag} {mg : Str → Option Value} {base : Heap} {f : Addr} (T : Txt K mg) (cdv : Value) (A : Around) (outer : List PySem.Env) (s : Shared) (H : Hp) (E : XK) (hr : Room 0 (A.deeper (PyProof.Rows.envOfC "_law_next" (defScope s_law_next) s.heap.objs.size f cdv))) :
    ∃ t, DSs (cxOf (L2.CX P w) P w K mg base ["_law_state_here", "_law_below", "_law_found", "_law_cells", "_law_cell"] "_law_next" (defScope s_law_next) f cdv A outer s H E) (fun cls d _ H => E cls d H) (defBody s_law_next) t w_law_next :=
  ⟨_, (dss_cons (ds_if (dt_cmp (o_gtA hr) (de_ix (de_bor 0) de_int) de_int) (dss_cons (ds_set 2 sc_law_next.nd (de_op o_mod (de_ix (de_bor 0) de_int) (de_bor 1))) (dss_cons (ds_put 0 de_int (de_op o_div (de_ix (de_bor 0) de_int) (de_bor 1))) (dss_one (ds_retV 2)))) dss_nil) (dss_cons (ds_set 3 sc_law_next.nd (de_ix (de_bor 0) de_int)) (dss_cons (ds_set 4 sc_law_next.nd (de_ix (de_bor 3) (de_op o_mod (de_ix (de_bor 0) de_int) (de_cb n_len T.n_len (by decide +kernel) (da_cons (de_bor 3) da_nil))))) (dss_cons (ds_put 0 de_int (de_op o_add (de_ix (de_bor 0) de_int) de_int)) (dss_cons (ds_if (DW.dt (dw_and (dt_cmp (o_geA hr) (de_bor 4) (de_op o_pow de_int de_int)) (dw_and1 (dt_cmp (o_leA hr) (de_ix (de_bor 0) de_int) (de_cb n_len T.n_len (by decide +kernel) (da_cons (de_bor 3) da_nil)))))) (dss_cons (ds_put 0 de_int (de_op o_div (de_bor 4) (de_bor 1))) (dss_one (ds_ret (de_op o_mod (de_bor 4) (de_bor 1))))) dss_nil) (dss_cons (ds_put 0 de_int (de_op o_mod (de_op o_add (de_op o_add (de_op o_mul (de_ix (de_bor 0) de_int) de_int) (de_op o_mod (de_bor 4) de_int)) (de_op o_mul de_int (de_ix (de_bor 0) de_int))) de_int)) (dss_one (ds_ret (de_op o_mod (de_op o_div (de_op o_mod (de_op o_mul (de_ix (de_bor 0) de_int) de_int) de_int) de_int) (de_bor 1))))))))))⟩
theorem wp_law_next (ds : List D) (om : Om) (k : RV → Om → Prop) (xk : Exn → Om → Prop) (h : df0_law_next ds om k xk) : w_law_next (endOf k xk) (startE 5 ds) om := by
  unfold df0_law_next at h
  split at h
  · next a m =>
    obtain ⟨es, ⟨ha, hP, hm, hm2⟩, h⟩ := h
    obtain ⟨ns, c, r, s, rfl, hc, hne⟩ := hP
    have hm2 : m < 2 ^ 200 := Int.lt_trans hm2 (by decide)
    unfold w_law_next; walk_at "dl"
    simp only [ha, deref_h ha]; walk_at "dl"
    have fin : ∀ (q c' r' s' : Int), 0 ≤ c' → k (.v (.int (q % m))) (oset om a (.lst [.lst (ns.map D.int), .int c', .int r', .int s'])) := fun q c' r' s' h0 =>
      h (q % m) _ (Int.emod_nonneg _ (by omega)) (Int.emod_lt_of_pos _ hm) ⟨ns, c', r', s', rfl, h0, hne⟩
    have hn : 0 < ns.length := List.length_pos_iff.mpr hne
    split
    · exact ⟨hm, ⟨hm, hm2⟩, fin r c (r / m) s hc⟩
    · rw [List.length_map]
      obtain ⟨z, ez⟩ := atI_ints (ns := ns) (c := c % (ns.length : Int)) (Int.emod_nonneg _ (by omega)) (Int.emod_lt_of_pos _ (by omega))
      rw [ez]
      walk_at "dl"
      refine ⟨by omega, by decide, ?_⟩
      by_cases hz : (10 : Int) ^ 18 ≤ z
      · simp only [hz, decide_true]; walk_at "dl"
        by_cases hq : c + 1 ≤ (ns.length : Int)
        · simp only [hq, decide_true]; walk_at "dl"
          exact ⟨⟨hm, hm2⟩, hm, fin z _ _ _ (by omega)⟩
        · simp only [hq, decide_false]; walk_at "dl"
          walk_at "cl"; exact fin _ _ _ _ (by omega)
      · simp only [hz, decide_false]; walk_at "dl"
        walk_at "cl"; exact fin _ _ _ _ (by omega)
  · exact h.elim

theorem ok_law_next {P : Program} {w : World} {K : PySem.W.Frag} {mg : Str → Option Value} {base : Heap} {f : Addr} {fd : FuncData} (F : FunD K "_law_next" "_law_next" (defArgs s_law_next) (defBody s_law_next) (defScope s_law_next) [] [] f fd) (T : Txt K mg) : FnOk P w K mg base (L2.CX P w) 1 f fd ["_law_state_here", "_law_below"] (toSp K c_law_next) :=
  FnOk.imp (h := (toSp_close (a := fun ds => match ds with | [.h a, _] => a | _ => 0) (P := DeckP) (fun ds om k xk h => by
    change df_law_next ds om k xk at h
    unfold df_law_next at h
    split at h
    · next a m =>
      refine ⟨h.1.1, fun es hP => ?_⟩
      refine ⟨es, ⟨oset_same, hP, h.1.2⟩, fun z es' h0 h1 hP' => ⟨es', hP', oset_set, h.2 z h0 h1⟩⟩
    · exact h.elim))) (fn_ok (c := c0_law_next) F sc_law_next rfl (fun cdv A outer s H E hr => d_law_next T cdv A outer s H E hr) wp_law_next)
def df_law_less : DF := fun ds om k _ => match ds with
  | [.tup r, .tup q, .int c] => ∃ a b : List Int, (r = a.map D.int ∧ q = b.map D.int ∧ 0 ≤ c ∧ c < (a.length : Int) ∧ c < (b.length : Int)) ∧ k (.v (.bl (lessR c.toNat a b))) om
  | _ => False
def c_law_less : Con := ⟨3, df_law_less, by intro ds om k xk h; unfold df_law_less at h; split at h <;> first | rfl | exact h.elim, by intro ds om k k' xk xk' hk hx h; unfold df_law_less at h ⊢; split at h <;> first | exact h.elim | grind⟩
def w_law_less : WS :=
  (wRet (wOp pLtA (wTup (wCons (wOp pIx (wBor 0) (wBor 2)) (wCons (wVar 0) wNil))) (wTup (wCons (wOp pIx (wBor 1) (wBor 2)) (wCons (wVar 1) wNil)))))
theorem d_law_less {P : Program} {w : World} {K : PySem.W.Frag} {mg : Str → Option Value} {base : Heap} {f : Addr} (T : Txt K mg) (cdv : Value) (A : Around) (outer : List PySem.Env) (s : Shared) (H : Hp) (E : XK) (hr : Room 0 (A.deeper (PyProof.Rows.envOfC "_law_less" (defScope s_law_less) s.heap.objs.size f cdv))) :
    ∃ t, DSs (cxOf (L2.CX P w) P w K mg base ["_law_one", "_law_other", "_law_column"] "_law_less" (defScope s_law_less) f cdv A outer s H E) (fun cls d _ H => E cls d H) (defBody s_law_less) t w_law_less :=
  ⟨_, (dss_one (ds_ret (de_cmp (o_ltA hr) (de_tup (da_cons (de_ix (de_bor 0) (de_bor 2)) (da_cons (de_var 0) da_nil))) (de_tup (da_cons (de_ix (de_bor 1) (de_bor 2)) (da_cons (de_var 1) da_nil))))))⟩
theorem wp_law_less (ds : List D) (om : Om) (k : RV → Om → Prop) (xk : Exn → Om → Prop) (h : df_law_less ds om k xk) : w_law_less (endOf k xk) (startE 3 ds) om := by
  unfold df_law_less at h
  split at h
  · next r q c =>
    obtain ⟨a, b, ⟨rfl, rfl, h0, h1, h2⟩, h⟩ := h
    unfold w_law_less; walk_at "dl"
    rw [row_at h0 h1, row_at h0 h2]; walk_at "dl"
    refine ⟨by decide, by decide, okL_key c.toNat a b, h⟩
  · exact h.elim

theorem ok_law_less {P : Program} {w : World} {K : PySem.W.Frag} {mg : Str → Option Value} {base : Heap} {f : Addr} {fd : FuncData} (F : FunD K "_law_less" "_law_less" (defArgs s_law_less) (defBody s_law_less) (defScope s_law_less) [] [] f fd) (T : Txt K mg) : FnOk P w K mg base (L2.CX P w) 1 f fd ["_law_one", "_law_other", "_law_column"] (toSp K c_law_less) :=
  (fn_ok (c := c_law_less) F sc_law_less rfl (fun cdv A outer s H E hr => d_law_less T cdv A outer s H E hr) wp_law_less)
def df_law_whole : DF := fun ds om k _ => match ds with
  | [d] => plainD d = true ∧ k (.v (.bl (isNum d))) om
  | _ => False
def c_law_whole : Con := ⟨1, df_law_whole, by intro ds om k xk h; unfold df_law_whole at h; split at h <;> first | rfl | exact h.elim, by intro ds om k k' xk xk' hk hx h; unfold df_law_whole at h ⊢; split at h <;> first | exact h.elim | grind⟩
def w_law_whole : WS :=
  (wRet (wAndV (wCB pIsi (wCons (wBor 0) (wCons (wC (.raw (.ty "int"))) wNil))) (wNotV (wCB pIsi (wCons (wBor 0) (wCons (wC (.raw (.ty "bool"))) wNil))))))
theorem d_law_whole {P : Program} {w : World} {K : PySem.W.Frag} {mg : Str → Option Value} {base : Heap} {f : Addr} (T : Txt K mg) (cdv : Value) (A : Around) (outer : List PySem.Env) (s : Shared) (H : Hp) (E : XK) (hr : Room 0 (A.deeper (PyProof.Rows.envOfC "_law_whole" (defScope s_law_whole) s.heap.objs.size f cdv))) :
    ∃ t, DSs (cxOf (L2.CX P w) P w K mg base ["_law_found"] "_law_whole" (defScope s_law_whole) f cdv A outer s H E) (fun cls d _ H => E cls d H) (defBody s_law_whole) t w_law_whole :=
  ⟨_, (dss_one (ds_ret (de_and (de_cb n_isi T.n_isinstance (by decide +kernel) (da_cons (de_bor 0) (da_cons (de_ty T.n_int (by decide +kernel)) da_nil))) (de_one (de_not (de_cb n_isi T.n_isinstance (by decide +kernel) (da_cons (de_bor 0) (da_cons (de_ty T.n_bool (by decide +kernel)) da_nil))))))))⟩
theorem wp_law_whole (ds : List D) (om : Om) (k : RV → Om → Prop) (xk : Exn → Om → Prop) (h : df_law_whole ds om k xk) : w_law_whole (endOf k xk) (startE 1 ds) om := by
  unfold df_law_whole at h
  split at h
  · next d =>
    obtain ⟨hd, h⟩ := h
    unfold w_law_whole
    cases d with
    | h a => cases hd
    | raw v => cases hd
    | _ => walk_at "dl"; exact h
  · exact h.elim

theorem ok_law_whole {P : Program} {w : World} {K : PySem.W.Frag} {mg : Str → Option Value} {base : Heap} {f : Addr} {fd : FuncData} (F : FunD K "_law_whole" "_law_whole" (defArgs s_law_whole) (defBody s_law_whole) (defScope s_law_whole) [] [] f fd) (T : Txt K mg) : FnOk P w K mg base (L2.CX P w) 1 f fd ["_law_found"] (toSp K c_law_whole) :=
  (fn_ok (c := c_law_whole) F sc_law_whole rfl (fun cdv A outer s H E hr => d_law_whole T cdv A outer s H E hr) wp_law_whole)
def df_is_row : DF := fun ds om k _ => match ds with
  | [d] => (plainD d = true ∧ plains d = true) ∧ k (.v (.bl (isRow d))) om
  | _ => False
def c_is_row : Con := ⟨1, df_is_row, by intro ds om k xk h; unfold df_is_row at h; split at h <;> first | rfl | exact h.elim, by intro ds om k k' xk xk' hk hx h; unfold df_is_row at h ⊢; split at h <;> first | exact h.elim | grind⟩
def w_is_row : WS :=
  (wSeq (wIfS (wOr (wNot (wTru (wCB pIsi (wCons (wBor 0) (wCons (wC (.raw (.ty "tuple"))) wNil))))) (wNot (wTst (wChain pLeA pLeA (wC (.int 1)) (wCB pLen (wCons (wBor 0) wNil)) (wC (.int 24)))))) (wRet (wC (.bl false))) wNext) (wRet (wCB pAll (wCons (wLc (wiT (wVar 0)) (gN 1) wYes (wCall df_is_number [] (wCons (wVar 1) wNil)) [1]) wNil))))
theorem d_is_row {P : Program} {w : World} {K : PySem.W.Frag} {mg : Str → Option Value} {base : Heap} {f : Addr} (T : Txt K mg) (D_is_number : Def P w K mg base "is_number" c_is_number 1) (cdv : Value) (A : Around) (outer : List PySem.Env) (s : Shared) (H : Hp) (E : XK) (hr : Room 1 (A.deeper (PyProof.Rows.envOfC "is_row" (defScope s_is_row) s.heap.objs.size f cdv))) :
    ∃ t, DSs (cxOf (L2.CX P w) P w K mg base ["thing", "number"] "is_row" (defScope s_is_row) f cdv A outer s H E) (fun cls d _ H => E cls d H) (defBody s_is_row) t w_is_row :=
  ⟨_, (dss_cons (ds_if (DW.dt (dw_or (dt_not (dt_tru (de_cb n_isi T.n_isinstance (by decide +kernel) (da_cons (de_bor 0) (da_cons (de_ty T.n_tuple (by decide +kernel)) da_nil))))) (dw_or1 (dt_not (dt_chain (o_leA hr) (o_leA hr) de_int (de_cb n_len T.n_len (by decide +kernel) (da_cons (de_bor 0) da_nil)) (de_glob T.c_WIDEST)))))) (dss_one (ds_ret de_bl)) dss_nil) (dss_one (ds_ret (de_cb (n_all rfl) T.n_all (by decide +kernel) (da_cons (de_lc (own := [("number", 1)]) rfl sc_is_row.nd (di_tup (de_var 0)) (by kernel_rfl) (fun _ _ _ _ _ => (dgv_name 1 sc_is_row.nd)) (fun _ _ _ _ _ => dts_nil) (fun _ _ _ _ _ => (de_call' (K' := K) (c := c_is_number) D_is_number (hr.mono (by decide)) takes0 (da_cons (de_var 1) da_nil))) s) da_nil)))))⟩
theorem wp_is_row (ds : List D) (om : Om) (k : RV → Om → Prop) (xk : Exn → Om → Prop) (h : df_is_row ds om k xk) : w_is_row (endOf k xk) (startE 2 ds) om := by
  unfold df_is_row at h
  split at h
  · next d =>
    obtain ⟨⟨hd, hp⟩, h⟩ := h
    unfold w_is_row
    cases d with
    | h a => cases hd
    | raw v => cases hd
    | tup es =>
      walk_at "dl"
      have hp' : ∀ x ∈ es, plainD x = true := by simpa [plains] using hp
      by_cases h1 : (1 : Int) ≤ (es.length : Int)
      · by_cases h2 : (es.length : Int) ≤ 24
        · simp only [h1, h2, decide_true]; walk_at "dl"
          refine lc_map (fun d => .bl (isNum d)) (by have : (24 : Nat) ≤ sizeLine := by decide
                                                     omega) (fun i d acc nx e hz hn => ?_) ?_
          · walk_at "dl"
            simp only [df_is_number]
            refine ⟨hp' d (List.mem_of_getElem? e), ?_⟩
            walk_at "dl"
            exact ⟨hz, hn⟩
          · rw [bools_mapf]; walk_at "dl"
            have e : isRow (.tup es) = (es.map isNum).all id := by
              simp only [isRow]
              have e1 : decide (1 ≤ es.length) = true := by rw [decide_eq_true_eq]; omega
              have e2 : decide (es.length ≤ 24) = true := by rw [decide_eq_true_eq]; omega
              rw [e1, e2, List.all_map]; rfl
            rw [← e]; exact h
        · simp only [h1, h2, decide_true, decide_false]; walk_at "dl"
          have e : isRow (.tup es) = false := by
            simp only [isRow]
            have e2 : decide (es.length ≤ 24) = false := by rw [decide_eq_false_iff_not]; omega
            rw [e2]; simp
          rw [← e]; exact h
      · simp only [h1, decide_false]; walk_at "dl"
        have e : isRow (.tup es) = false := by
          simp only [isRow]
          have e2 : decide (1 ≤ es.length) = false := by rw [decide_eq_false_iff_not]; omega
          rw [e2]; simp
        rw [← e]; exact h
    | _ => walk_at "dl"; exact h
  · exact h.elim
theorem ok_is_row {P : Program} {w : World} {K : PySem.W.Frag} {mg : Str → Option Value} {base : Heap} {f : Addr} {fd : FuncData} (F : FunD K "is_row" "is_row" (defArgs s_is_row) (defBody s_is_row) (defScope s_is_row) [] [] f fd) (T : Txt K mg) (D_is_number : Def P w K mg base "is_number" c_is_number 1) : FnOk P w K mg base (L2.CX P w) 2 f fd ["thing"] (toSp K c_is_row) :=
  (fn_ok (c := c_is_row) F sc_is_row rfl (fun cdv A outer s H E hr => d_is_row T D_is_number cdv A outer s H E hr) wp_is_row)
def df_law_number : DF := fun ds om k _ => match ds with
  | [.h a, .int w] => (om a = some (.lstP DeckP) ∧ 0 ≤ w ∧ w < 5) ∧ ∀ z : Int, -(10 ^ 18) ≤ z → z ≤ 10 ^ 18 → k (.v (.int z)) om
  | _ => False
def c_law_number : Con := ⟨2, df_law_number, by intro ds om k xk h; unfold df_law_number at h; split at h <;> first | rfl | exact h.elim, by intro ds om k k' xk xk' hk hx h; unfold df_law_number at h ⊢; split at h <;> first | exact h.elim | grind⟩
def w_law_number : WS :=
  (wSeq (wIfS (wTst (wOp pLtA (wBor 1) (wC (.int 3)))) (wRet (wOp pSub (wCall df_law_next [] (wCons (wVar 0) (wCons (wOp pIx (wLst (wCons (wC (.int 2)) (wCons (wC (.int 5)) (wCons (wC (.int 60)) wNil)))) (wBor 1)) wNil))) (wOp pIx (wLst (wCons (wC (.int 0)) (wCons (wC (.int 2)) (wCons (wC (.int 30)) wNil)))) (wBor 1)))) wNext) (wSeq (wIfS (wTst (wOp pEq (wBor 1) (wC (.int 3)))) (wRet (wOp pIx (wLst (wCons (wOp pPow (wC (.int 10)) (wC (.int 18))) (wCons (wOp pSub (wC (.int 0)) (wOp pPow (wC (.int 10)) (wC (.int 18)))) (wCons (wC (.int 0)) (wCons (wC (.int 1)) wNil))))) (wCall df_law_next [] (wCons (wVar 0) (wCons (wC (.int 4)) wNil))))) wNext) (wSeq (wAsg (wC (.int 0)) (gN 2)) (wSeq (wFor (wiR1 (wCons (wC (.int 4)) wNil)) (gN 3) (wAsg (wOp pAdd (wOp pMul (wBor 2) (wOp pPow (wC (.int 10)) (wC (.int 5)))) (wCall df_law_next [] (wCons (wVar 0) (wCons (wOp pPow (wC (.int 10)) (wC (.int 5))) wNil)))) (gN 2))) (wRet (wOp pSub (wOp pMod (wBor 2) (wOp pAdd (wOp pMul (wC (.int 2)) (wOp pPow (wC (.int 10)) (wC (.int 18)))) (wC (.int 1)))) (wOp pPow (wC (.int 10)) (wC (.int 18)))))))))
theorem d_law_number {P : Program} {w : World} {K : PySem.W.Frag} {mg : Str → Option Value} {base : Heap} {f : Addr} (T : Txt K mg) (D_law_next : Def P w K mg base "_law_next" c_law_next 1) (cdv : Value) (A : Around) (outer : List PySem.Env) (s : Shared) (H : Hp) (E : XK) (hr : Room 1 (A.deeper (PyProof.Rows.envOfC "_law_number" (defScope s_law_number) s.heap.objs.size f cdv))) :
    ∃ t, DSs (cxOf (L2.CX P w) P w K mg base ["_law_state_here", "_law_way", "_law_far", "_law_k"] "_law_number" (defScope s_law_number) f cdv A outer s H E) (fun cls d _ H => E cls d H) (defBody s_law_number) t w_law_number :=
  ⟨_, (dss_cons (ds_if (dt_cmp (o_ltA hr) (de_bor 1) de_int) (dss_one (ds_ret (de_op o_sub (de_call (c := c_law_next) D_law_next (hr.mono (by decide)) (takes_of rfl rfl rfl rfl) (da_cons (de_var 0) (da_cons (de_ix (de_lst (da_cons de_int (da_cons de_int (da_cons de_int da_nil)))) (de_bor 1)) da_nil))) (de_ix (de_lst (da_cons de_int (da_cons de_int (da_cons de_int da_nil)))) (de_bor 1))))) dss_nil) (dss_cons (ds_if (dt_cmp (o_eq hr) (de_bor 1) de_int) (dss_one (ds_ret (de_ix (de_lst (da_cons (de_op o_pow de_int de_int) (da_cons (de_op o_sub de_int (de_op o_pow de_int de_int)) (da_cons de_int (da_cons de_int da_nil))))) (de_call (c := c_law_next) D_law_next (hr.mono (by decide)) (takes_of rfl rfl rfl rfl) (da_cons (de_var 0) (da_cons de_int da_nil)))))) dss_nil) (dss_cons (ds_set 2 sc_law_number.nd de_int) (dss_cons (ds_for (passes_of rfl) rfl (di_r1 T.n_range (da_cons de_int da_nil)) (dg_name 3 sc_law_number.nd) (dss_one (ds_set 2 sc_law_number.nd (de_op o_add (de_op o_mul (de_bor 2) (de_op o_pow de_int de_int)) (de_call (c := c_law_next) D_law_next (hr.mono (by decide)) (takes_of rfl rfl rfl rfl) (da_cons (de_var 0) (da_cons (de_op o_pow de_int de_int) da_nil))))))) (dss_one (ds_ret (de_op o_sub (de_op o_mod (de_bor 2) (de_op o_add (de_op o_mul de_int (de_op o_pow de_int de_int)) de_int)) (de_op o_pow de_int de_int))))))))⟩
theorem wp_law_number (ds : List D) (om : Om) (k : RV → Om → Prop) (xk : Exn → Om → Prop) (h : df_law_number ds om k xk) : w_law_number (endOf k xk) (startE 4 ds) om := by
  unfold df_law_number at h
  split at h
  · next a w =>
    obtain ⟨⟨ha, h0, h1⟩, h⟩ := h
    have hw : w = 0 ∨ w = 1 ∨ w = 2 ∨ w = 3 ∨ w = 4 := by omega
    rcases hw with rfl | rfl | rfl | rfl | rfl
    case inl | inr.inl | inr.inr.inl =>
      unfold w_law_number; walk_at "dl"
      try simp only [df_law_next]
      walk_at "dl"; walk_at "cj"
      intro z z0 z1
      walk_at "dl"; walk_at "cj"
      exact h _ (by omega) (by omega)
    case inr.inr.inr.inl =>
      unfold w_law_number; walk_at "dl"
      try simp only [df_law_next]
      walk_at "dl"; walk_at "cj"
      intro z z0 z1
      walk_at "dl"
      obtain ⟨d, hd, e⟩ := atI_in (ds := [D.int (10 ^ 18), .int (0 - 10 ^ 18), .int 0, .int 1]) z0 (by simpa using z1)
      rw [e]
      simp only [List.mem_cons, List.not_mem_nil, or_false] at hd
      rcases hd with rfl | rfl | rfl | rfl <;> exact h _ (by decide) (by decide)
    case inr.inr.inr.inr =>
      unfold w_law_number; walk_at "dl"; walk_at "cj"
      refine loop_rng (fun i r om' => om' = om ∧ ∃ (f : Int) (x : Option RV), r = [some (.v (.h a)), some (.v (.int 4)), some (.v (.int f)), x]) ⟨rfl, _, _, rfl⟩ ?_ ?_
      · rintro i r om' nx hi ⟨rfl, f, x, rfl⟩ hn
        unfold stepOf; walk_at "dl"
        try simp only [df_law_next]
        walk_at "dl"; walk_at "cj"
        intro z z0 z1
        walk_at "dl"
        exact hn _ _ ⟨rfl, _, _, rfl⟩
      · rintro r om' ⟨rfl, f, x, rfl⟩
        walk_at "dl"; walk_at "cj"
        have b0 := Int.emod_nonneg f (b := 2 * 10 ^ 18 + 1) (by decide)
        have b1 := Int.emod_lt_of_pos f (b := 2 * 10 ^ 18 + 1) (by decide)
        exact h _ (by omega) (by omega)
  · exact h.elim
theorem ok_law_number {P : Program} {w : World} {K : PySem.W.Frag} {mg : Str → Option Value} {base : Heap} {f : Addr} {fd : FuncData} (F : FunD K "_law_number" "_law_number" (defArgs s_law_number) (defBody s_law_number) (defScope s_law_number) [] [] f fd) (T : Txt K mg) (D_law_next : Def P w K mg base "_law_next" c_law_next 1) : FnOk P w K mg base (L2.CX P w) 2 f fd ["_law_state_here", "_law_way"] (toSp K c_law_number) :=
  (fn_ok (c := c_law_number) F sc_law_number rfl (fun cdv A outer s H E hr => d_law_number T D_law_next cdv A outer s H E hr) wp_law_number)
def df_law_shaped : DF := fun ds om k _ => match ds with
  | [.h a, .lst rs, .int c] => ∃ (w : Nat) (ns : List (List Int)), (om a = some (.lstP DeckP) ∧ rs = rowsD ns ∧ Wide w ns ∧ 0 ≤ c ∧ c < (w : Int) ∧ ns.length ≤ 10000) ∧ ∀ ms : List (List Int), ms.Perm ns → k (.v (.lst (rowsD ms))) om ∧ k (.o (rowsD ms)) om
  | _ => False
def c_law_shaped : Con := ⟨3, df_law_shaped, by intro ds om k xk h; unfold df_law_shaped at h; split at h <;> first | rfl | exact h.elim, by intro ds om k k' xk xk' hk hx h; unfold df_law_shaped at h ⊢; split at h <;> first | exact h.elim | grind⟩
def w_law_shaped : WS :=
  (wSeq (wAsg (wCall df_law_next [] (wCons (wVar 0) (wCons (wC (.int 5)) wNil))) (gN 3)) (wSeq (wIfS (wTst (wOp pLtA (wBor 3) (wC (.int 3)))) (wRet (wMov 1)) wNext) (wSeq (wAsg (wLc (wiL (wCB pSorted (wCons (wLc (wiL (wVar 1)) (gN 6) wYes (wTup (wCons (wOp pIx (wBor 6) (wBor 2)) (wCons (wVar 6) wNil))) [6]) wNil))) (gN 5) wYes (wOp pIx (wBor 5) (wC (.int 1))) [5]) (gN 4)) (wSeq (wIfS (wTst (wOp pEq (wBor 3) (wC (.int 3)))) (wRet (wMov 4)) wNext) (wRet (wUn pRev (wBor 4)))))))
theorem d_law_shaped {P : Program} {w : World} {K : PySem.W.Frag} {mg : Str → Option Value} {base : Heap} {f : Addr} (T : Txt K mg) (D_law_next : Def P w K mg base "_law_next" c_law_next 1) (cdv : Value) (A : Around) (outer : List PySem.Env) (s : Shared) (H : Hp) (E : XK) (hr : Room 1 (A.deeper (PyProof.Rows.envOfC "_law_shaped" (defScope s_law_shaped) s.heap.objs.size f cdv))) :
    ∃ t, DSs (cxOf (L2.CX P w) P w K mg base ["_law_state_here", "_law_rows_here", "_law_column", "_law_way", "_law_found", "_law_pair", "_law_row"] "_law_shaped" (defScope s_law_shaped) f cdv A outer s H E) (fun cls d _ H => E cls d H) (defBody s_law_shaped) t w_law_shaped :=
  ⟨_, (dss_cons (ds_set 3 sc_law_shaped.nd (de_call (c := c_law_next) D_law_next (hr.mono (by decide)) (takes_of rfl rfl rfl rfl) (da_cons (de_var 0) (da_cons de_int da_nil)))) (dss_cons (ds_if (dt_cmp (o_ltA hr) (de_bor 3) de_int) (dss_one (ds_retV 1)) dss_nil) (dss_cons (ds_setLc 4 (own := [("_law_pair", 5)]) rfl sc_law_shaped.nd (di_list (de_cb (n_sorted hr) T.n_sorted (by decide +kernel) (da_cons (de_lc (own := [("_law_row", 6)]) rfl sc_law_shaped.nd (di_list (de_var 1)) (by kernel_rfl) (fun _ _ _ _ _ => (dgv_name 6 sc_law_shaped.nd)) (fun _ _ _ _ _ => dts_nil) (fun _ _ _ _ _ => (de_tup (da_cons (de_ix' (K' := K) (de_bor 6) (de_bor 2)) (da_cons (de_var 6) da_nil)))) s) da_nil))) (by kernel_rfl) (fun _ _ _ _ _ => (dgv_name 5 sc_law_shaped.nd)) (fun _ _ _ _ _ => dts_nil) (fun _ _ _ _ _ => (de_ix' (K' := K) (de_bor 5) de_int)) s (sw_true rfl rfl rfl (by decide +kernel))) (dss_cons (ds_if (dt_cmp (o_eq hr) (de_bor 3) de_int) (dss_one (ds_retV 4)) dss_nil) (dss_one (ds_ret (de_rev (de_bor 4))))))))⟩
theorem perm_keys {c : Nat} : ∀ {es : List D} {ns : List (List Int)}, es.Perm (ns.map (keyD c)) → ∃ ms : List (List Int), es = ms.map (keyD c) ∧ ms.Perm ns := by
  intro es ns h
  have : ∀ l : List D, (∀ d ∈ l, ∃ r, d = keyD c r) → ∃ ms : List (List Int), l = ms.map (keyD c) := by
    intro l
    induction l with
    | nil => exact fun _ => ⟨[], rfl⟩
    | cons x l ih =>
      intro hx
      obtain ⟨r, rfl⟩ := hx x List.mem_cons_self
      obtain ⟨ms, rfl⟩ := ih fun d m => hx d (List.mem_cons_of_mem _ m)
      exact ⟨r :: ms, rfl⟩
  obtain ⟨ms, rfl⟩ := this es fun d m => by
    obtain ⟨r, _, rfl⟩ := List.mem_map.mp (h.mem_iff.mp m)
    exact ⟨r, rfl⟩
  refine ⟨ms, rfl, ?_⟩
  have inj : ∀ a b : List Int, keyD c a = keyD c b → a = b := fun a b e => by
    simp only [keyD, rowD, D.tup.injEq, List.cons.injEq, and_true] at e
    have hi : ∀ x y : Int, D.int x = D.int y → x = y := fun x y e => by cases e; rfl
    exact (List.map_inj_right (f := D.int) hi).mp e.2
  let g : D → List Int := fun d => match d with
    | .tup [_, .tup q] => q.map fun x => match x with | .int i => i | _ => 0
    | _ => []
  have hg : ∀ r, g (keyD c r) = r := fun r => by
    simp only [g, keyD, rowD, List.map_map]
    conv => rhs; rw [← List.map_id r]
    rfl
  have := h.map g
  rw [List.map_map, List.map_map] at this
  have e : ∀ l : List (List Int), l.map (g ∘ keyD c) = l := fun l => by
    conv => rhs; rw [← List.map_id l]
    exact List.map_congr_left fun r _ => hg r
  rw [e, e] at this
  exact this
theorem wp_law_shaped (ds : List D) (om : Om) (k : RV → Om → Prop) (xk : Exn → Om → Prop) (h : df_law_shaped ds om k xk) : w_law_shaped (endOf k xk) (startE 7 ds) om := by
  unfold df_law_shaped at h
  split at h
  · next a rs c =>
    obtain ⟨w, ns, ⟨ha, rfl, hw, c0, c1, hn⟩, h⟩ := h
    have hs : (100000 : Nat) ≤ sizeLine := by decide
    unfold w_law_shaped; walk_at "dl"
    try simp only [df_law_next]
    walk_at "dl"; walk_at "cj"
    intro z z0 z1
    walk_at "dl"
    split
    · exact (h ns (List.Perm.refl _)).1
    · refine lc_list (fun i acc r om' => om' = om ∧ r = [some (.v (.h a)), some (.v (.lst (rowsD ns))), some (.v (.int c)), some (.v (.int z)), none, none, none] ∧ acc = (ns.take i).map (keyD c.toNat)) ⟨rfl, rfl, rfl⟩ ?_ ?_
      · rintro i d acc r om' nx e ⟨rfl, rfl, rfl⟩ hn2
        simp only [rowsD, List.getElem?_map, Option.map_eq_some_iff] at e
        obtain ⟨q, hq, rfl⟩ := e
        have hi := (List.getElem?_eq_some_iff.mp hq).1
        have hl := hw.2.2 q (List.mem_of_getElem? hq)
        simp only [rowD]
        walk_at "dl"
        rw [row_at c0 (by omega)]; walk_at "dl"
        refine ⟨by decide, by rw [List.length_map, List.length_take]; omega, hn2 _ _ _ ⟨rfl, rfl, ?_⟩⟩
        rw [List.take_add_one, hq, List.map_append]; rfl
      · rintro acc r om' ⟨rfl, rfl, rfl⟩
        rw [show (rowsD ns).length = ns.length by simp [rowsD], List.take_length]
        walk_at "dl"
        have hok : okSort (ns.map (keyD c.toNat)) := by
          refine ⟨?_, ?_, ?_, ?_⟩
          · exact (okcs_py _ (okcs_all fun d m => by obtain ⟨r, _, rfl⟩ := List.mem_map.mp m; exact okc_key _ r)).1
          · rw [pys_map, List.map_map]; exact PySem.W.AllAlike.of fun r q => alike_key _ r q
          · rw [pys_map, List.map_map]; exact PySem.W.Sortable.tuples fun r => ⟨_, _, rfl⟩
          · intro e m
            rw [pys_map, List.map_map] at m
            obtain ⟨r, _, rfl⟩ := List.mem_map.mp m
            show (py (keyD _ r)).depth ≤ 40
            rw [(okc_py _ (okc_key _ r)).2.2.2, dep_key]; decide
        refine ⟨hok, ?_⟩
        obtain ⟨ms, em, hp⟩ := perm_keys (sort_perm (ns.map (keyD c.toNat)))
        have hml := hp.length_eq
        rw [em]
        walk_at "dl"
        refine lc_map (fun d => match d with | .tup [_, e] => e | _ => .non) (by rw [List.length_map]; omega) (fun i d acc nx e hz hn2 => ?_) ?_
        · simp only [List.getElem?_map, Option.map_eq_some_iff] at e
          obtain ⟨q, hq, rfl⟩ := e
          simp only [keyD]
          walk_at "dl"
          exact ⟨hz, hn2⟩
        · have er : (ms.map (keyD c.toNat)).map (fun d => match d with | .tup [_, e] => e | _ => D.non) = rowsD ms := by
            rw [List.map_map]; rfl
          rw [er]
          walk_at "dl"
          split
          · exact (h ms hp).2
          · have e2 : (rowsD ms).reverse = rowsD ms.reverse := by simp [rowsD]
            rw [e2]
            exact (h ms.reverse ((List.reverse_perm ms).trans hp)).2
  · exact h.elim

theorem ok_law_shaped {P : Program} {w : World} {K : PySem.W.Frag} {mg : Str → Option Value} {base : Heap} {f : Addr} {fd : FuncData} (F : FunD K "_law_shaped" "_law_shaped" (defArgs s_law_shaped) (defBody s_law_shaped) (defScope s_law_shaped) [] [] f fd) (T : Txt K mg) (D_law_next : Def P w K mg base "_law_next" c_law_next 1) : FnOk P w K mg base (L2.CX P w) 2 f fd ["_law_state_here", "_law_rows_here", "_law_column"] (toSp K c_law_shaped) :=
  (fn_ok (c := c_law_shaped) F sc_law_shaped rfl (fun cdv A outer s H E hr => d_law_shaped T D_law_next cdv A outer s H E hr) wp_law_shaped)
def df_law_order : DF := fun ds om k _ => match ds with
  | [.h a, .int m] => (om a = some (.lstP DeckP) ∧ 0 ≤ m ∧ m ≤ 10000) ∧ ∀ is : List Int, is.length ≤ 10000 → (∀ i ∈ is, 0 ≤ i ∧ i < m) → k (.o (is.map D.int)) om
  | _ => False
def c_law_order : Con := ⟨2, df_law_order, by intro ds om k xk h; unfold df_law_order at h; split at h <;> first | rfl | exact h.elim, by intro ds om k k' xk xk' hk hx h; unfold df_law_order at h ⊢; split at h <;> first | exact h.elim | grind⟩
def w_law_order : WS :=
  (wSeq (wAsg (wLR1 (wBor 1)) (gN 2)) (wSeq (wAsg (wLst wNil) (gN 3)) (wSeq (wWhile (wTst (wOp pGtA (wCB pLen (wCons (wBor 2) wNil)) (wC (.int 0)))) (wDrop (wMut 3 mApp (wCons (wMut 2 mPopAt (wCons (wCall df_law_next [] (wCons (wVar 0) (wCons (wCB pLen (wCons (wBor 2) wNil)) wNil))) wNil)) wNil)))) (wRet (wMov 3)))))
theorem d_law_order {P : Program} {w : World} {K : PySem.W.Frag} {mg : Str → Option Value} {base : Heap} {f : Addr} (T : Txt K mg) (D_law_next : Def P w K mg base "_law_next" c_law_next 1) (cdv : Value) (A : Around) (outer : List PySem.Env) (s : Shared) (H : Hp) (E : XK) (hr : Room 1 (A.deeper (PyProof.Rows.envOfC "_law_order" (defScope s_law_order) s.heap.objs.size f cdv))) :
    ∃ t, DSs (cxOf (L2.CX P w) P w K mg base ["_law_state_here", "_law_many", "_law_left", "_law_found"] "_law_order" (defScope s_law_order) f cdv A outer s H E) (fun cls d _ H => E cls d H) (defBody s_law_order) t w_law_order :=
  ⟨_, (dss_cons (ds_set 2 sc_law_order.nd (de_lr1 T.n_list T.n_range (de_bor 1))) (dss_cons (ds_set 3 sc_law_order.nd (de_lst da_nil)) (dss_cons (ds_while (passes_of rfl) (dt_cmp (o_gtA hr) (de_cb n_len T.n_len (by decide +kernel) (da_cons (de_bor 2) da_nil)) de_int) (dss_one (ds_drop (de_app 3 (de_popAt 2 (de_call (c := c_law_next) D_law_next (hr.mono (by decide)) (takes_of rfl rfl rfl rfl) (da_cons (de_var 0) (da_cons (de_cb n_len T.n_len (by decide +kernel) (da_cons (de_bor 2) da_nil)) da_nil)))))))) (dss_one (ds_retV 3)))))⟩
theorem wp_law_order (ds : List D) (om : Om) (k : RV → Om → Prop) (xk : Exn → Om → Prop) (h : df_law_order ds om k xk) : w_law_order (endOf k xk) (startE 4 ds) om := by
  unfold df_law_order at h
  split at h
  · next a m =>
    obtain ⟨⟨ha, m0, m1⟩, h⟩ := h
    have hs : (100000 : Nat) ≤ sizeLine := by decide
    unfold w_law_order; walk_at "dl"; walk_at "cj"
    rw [rng_ints]
    refine ⟨fun M r om' => om' = om ∧ ∃ (ls fs : List Int), ls.length = M ∧ (∀ i ∈ ls, 0 ≤ i ∧ i < m) ∧ (∀ i ∈ fs, 0 ≤ i ∧ i < m) ∧ ls.length + fs.length ≤ 10000 ∧ r = [some (.v (.h a)), some (.v (.int m)), some (.o (ls.map D.int)), some (.o (fs.map D.int))], ⟨_, rfl, _, [], rfl, ?_, by simp, ?_, rfl⟩, ?_⟩
    · intro i mi
      obtain ⟨j, mj, rfl⟩ := List.mem_map.mp mi
      rw [List.mem_range] at mj
      omega
    · rw [List.length_map, List.length_range]; simp; omega
    · rintro M r om' ⟨rfl, ls, fs, rfl, hl, hf, hlen, rfl⟩
      walk_at "dl"
      split
      · next hp =>
        rw [List.length_map] at hp ⊢
        have hp' : 0 < ls.length := by simpa using hp
        try simp only [df_law_next]
        refine ⟨⟨ha, by omega, by omega⟩, fun z z0 z1 => ?_⟩
        walk_at "dl"
        have hz : z.toNat < ls.length := by omega
        have e1 : ixN (ls.map D.int).length z = some z.toNat := ixN_in z0 (by rw [List.length_map]; exact z1)
        have e2 : (ls.map D.int)[z.toNat]? = some (.int ls[z.toNat]) := by rw [List.getElem?_map, List.getElem?_eq_getElem hz]; rfl
        rw [e1]; walk_at "dl"
        rw [e2]; walk_at "dl"
        refine ⟨by omega, by rw [List.length_map]; omega, ls.length - 1, by omega, ls.eraseIdx z.toNat, fs ++ [ls[z.toNat]], ?_, ?_, ?_, ?_, ?_⟩
        · rw [List.length_eraseIdx]; simp [hz]
        · intro i mi; exact hl i (List.mem_of_mem_eraseIdx mi)
        · intro i mi
          rcases List.mem_append.mp mi with mi | mi
          · exact hf i mi
          · rw [List.mem_singleton.mp mi]; exact hl _ (List.getElem_mem hz)
        · rw [List.length_eraseIdx]; simp [hz]; omega
        · rw [List.map_append, map_eraseIdx]; rfl
      · exact h fs (by omega) hf
  · exact h.elim
theorem ok_law_order {P : Program} {w : World} {K : PySem.W.Frag} {mg : Str → Option Value} {base : Heap} {f : Addr} {fd : FuncData} (F : FunD K "_law_order" "_law_order" (defArgs s_law_order) (defBody s_law_order) (defScope s_law_order) [] [] f fd) (T : Txt K mg) (D_law_next : Def P w K mg base "_law_next" c_law_next 1) : FnOk P w K mg base (L2.CX P w) 2 f fd ["_law_state_here", "_law_many"] (toSp K c_law_order) :=
  (fn_ok (c := c_law_order) F sc_law_order rfl (fun cdv A outer s H E hr => d_law_order T D_law_next cdv A outer s H E hr) wp_law_order)
def df_law_count : DF := fun ds om k _ => match ds with
  | [.lst rs, .int c, .lst os] => ∃ (w : Nat) (ns : List (List Int)) (is : List Int), (rs = rowsD ns ∧ os = is.map D.int ∧ Wide w ns ∧ 0 ≤ c ∧ c < (w : Int) ∧ ∀ i ∈ is, 0 ≤ i ∧ i < (ns.length : Int)) ∧ k (.v (.int (runsN c.toNat ns is))) om
  | _ => False
def c_law_count : Con := ⟨3, df_law_count, by intro ds om k xk h; unfold df_law_count at h; split at h <;> first | rfl | exact h.elim, by intro ds om k k' xk xk' hk hx h; unfold df_law_count at h ⊢; split at h <;> first | exact h.elim | grind⟩
def w_law_count : WS :=
  (wSeq (wAsg (wCB pInt (wCons (wOp pGtA (wCB pLen (wCons (wBor 2) wNil)) (wC (.int 0))) wNil)) (gN 3)) (wSeq (wFor (wiZip (wCons (wVar 2) (wCons (wSl (wBor 2) (wOS (wC (.int 1))) wON) wNil))) (gT 2 (gsCons 4 (gsCons 5 gsNil))) (wIfS (wTru (wCall df_law_less [] (wCons (wOp pIx (wBor 0) (wBor 5)) (wCons (wOp pIx (wBor 0) (wBor 4)) (wCons (wVar 1) wNil))))) (wAsg (wOp pAdd (wBor 3) (wC (.int 1))) (gN 3)) wNext)) (wRet (wMov 3))))
theorem d_law_count {P : Program} {w : World} {K : PySem.W.Frag} {mg : Str → Option Value} {base : Heap} {f : Addr} (T : Txt K mg) (D_law_less : Def P w K mg base "_law_less" c_law_less 1) (cdv : Value) (A : Around) (outer : List PySem.Env) (s : Shared) (H : Hp) (E : XK) (hr : Room 1 (A.deeper (PyProof.Rows.envOfC "_law_count" (defScope s_law_count) s.heap.objs.size f cdv))) :
    ∃ t, DSs (cxOf (L2.CX P w) P w K mg base ["_law_rows_here", "_law_column", "_law_order_here", "_law_found", "_law_one", "_law_other"] "_law_count" (defScope s_law_count) f cdv A outer s H E) (fun cls d _ H => E cls d H) (defBody s_law_count) t w_law_count :=
  ⟨_, (dss_cons (ds_set 3 sc_law_count.nd (de_ct n_int T.n_int (by decide +kernel) (da_cons (de_cmp (o_gtA hr) (de_cb n_len T.n_len (by decide +kernel) (da_cons (de_bor 2) da_nil)) de_int) da_nil))) (dss_cons (ds_for (passes_of rfl) rfl (di_zip T.n_zip (da_cons (de_var 2) (da_cons (de_sl (de_bor 2) (do_some de_int) do_none) da_nil))) (dg_tup rfl (dgs_cons 4 sc_law_count.nd (dgs_cons 5 sc_law_count.nd dgs_nil))) (dss_one (ds_if (dt_tru (de_call (c := c_law_less) D_law_less (hr.mono (by decide)) (takes_of rfl rfl rfl rfl) (da_cons (de_ix (de_bor 0) (de_bor 5)) (da_cons (de_ix (de_bor 0) (de_bor 4)) (da_cons (de_var 1) da_nil))))) (dss_one (ds_set 3 sc_law_count.nd (de_op o_add (de_bor 3) de_int))) dss_nil))) (dss_one (ds_retV 3))))⟩
theorem wp_law_count (ds : List D) (om : Om) (k : RV → Om → Prop) (xk : Exn → Om → Prop) (h : df_law_count ds om k xk) : w_law_count (endOf k xk) (startE 6 ds) om := by
  unfold df_law_count at h
  split at h
  · next rs c os =>
    obtain ⟨w, ns, is, ⟨rfl, rfl, hw, c0, c1, hi⟩, h⟩ := h
    unfold w_law_count; walk_at "dl"
    have hb : (if decide ((0 : Int) < ((is.map D.int).length : Int)) = true then (1 : Int) else 0) = if is = [] then 0 else 1 := by
      cases is with
      | nil => simp
      | cons x is => simp
    refine loop_list (fun i r om' => om' = om ∧ ∃ x1 x2 : Option RV, r = [some (.v (.lst (rowsD ns))), some (.v (.int c)), some (.v (.lst (is.map D.int))), some (.v (.int ((if is = [] then 0 else 1) + cntL c.toNat ns ((zipD (is.map D.int) (cutD (is.map D.int) (some 1) none)).take i)))), x1, x2]) ⟨rfl, none, none, by rw [hb]; simp [cntL]⟩ ?_ ?_
    · rintro i d r om' nx e ⟨rfl, x1, x2, rfl⟩ hn
      obtain ⟨x, y, rfl, ⟨hx0, hx1⟩, hy0, hy1⟩ := pair_of hi e
      have es := cntL_step c.toNat ns e
      have lx := hw.2.2 _ (getD_mem hx0 hx1)
      have ly := hw.2.2 _ (getD_mem hy0 hy1)
      unfold stepOf; walk_at "dl"
      rw [rows_at hx0 hx1, rows_at hy0 hy1]; walk_at "dl"
      simp only [rowD]; walk_at "dl"
      try simp only [df_law_less]
      refine ⟨_, _, ⟨rfl, rfl, c0, by omega, by omega⟩, ?_⟩
      have ec : cntF c.toNat ns (.tup [.int x, .int y]) = lessR c.toNat (ns.getD y.toNat []) (ns.getD x.toNat []) := rfl
      rw [ec] at es
      walk_at "dl"
      split
      · next hq => rw [hq] at es; refine hn _ _ ⟨rfl, some (.v (.int x)), some (.v (.int y)), ?_⟩; rw [es]; simp [Int.add_assoc]
      · next hq => have hq' := Bool.eq_false_iff.mpr hq; rw [hq'] at es; refine hn _ _ ⟨rfl, some (.v (.int x)), some (.v (.int y)), ?_⟩; rw [es]; simp
    · rintro r om' ⟨rfl, x1, x2, rfl⟩
      walk_at "dl"
      rw [List.take_length]
      exact h
  · exact h.elim
theorem ok_law_count {P : Program} {w : World} {K : PySem.W.Frag} {mg : Str → Option Value} {base : Heap} {f : Addr} {fd : FuncData} (F : FunD K "_law_count" "_law_count" (defArgs s_law_count) (defBody s_law_count) (defScope s_law_count) [] [] f fd) (T : Txt K mg) (D_law_less : Def P w K mg base "_law_less" c_law_less 1) : FnOk P w K mg base (L2.CX P w) 2 f fd ["_law_rows_here", "_law_column", "_law_order_here"] (toSp K c_law_count) :=
  (fn_ok (c := c_law_count) F sc_law_count rfl (fun cdv A outer s H E hr => d_law_count T D_law_less cdv A outer s H E hr) wp_law_count)
def df_law_width : DF := fun ds om k _ => match ds with
  | [.h a] => om a = some (.lstP DeckP) ∧ ∀ z : Int, 1 ≤ z → z ≤ 24 → k (.v (.int z)) om
  | _ => False
def c_law_width : Con := ⟨1, df_law_width, by intro ds om k xk h; unfold df_law_width at h; split at h <;> first | rfl | exact h.elim, by intro ds om k k' xk xk' hk hx h; unfold df_law_width at h ⊢; split at h <;> first | exact h.elim | grind⟩
def w_law_width : WS :=
  (wSeq (wIfS (wTst (wOp pEq (wCall df_law_next [] (wCons (wVar 0) (wCons (wC (.int 8)) wNil))) (wC (.int 7)))) (wRet (wC (.int 24))) wNext) (wRet (wOp pAdd (wC (.int 1)) (wCall df_law_next [] (wCons (wVar 0) (wCons (wC (.int 5)) wNil))))))
theorem d_law_width {P : Program} {w : World} {K : PySem.W.Frag} {mg : Str → Option Value} {base : Heap} {f : Addr} (T : Txt K mg) (D_law_next : Def P w K mg base "_law_next" c_law_next 1) (cdv : Value) (A : Around) (outer : List PySem.Env) (s : Shared) (H : Hp) (E : XK) (hr : Room 1 (A.deeper (PyProof.Rows.envOfC "_law_width" (defScope s_law_width) s.heap.objs.size f cdv))) :
    ∃ t, DSs (cxOf (L2.CX P w) P w K mg base ["_law_state_here"] "_law_width" (defScope s_law_width) f cdv A outer s H E) (fun cls d _ H => E cls d H) (defBody s_law_width) t w_law_width :=
  ⟨_, (dss_cons (ds_if (dt_cmp (o_eq hr) (de_call (c := c_law_next) D_law_next (hr.mono (by decide)) (takes_of rfl rfl rfl rfl) (da_cons (de_var 0) (da_cons de_int da_nil))) de_int) (dss_one (ds_ret de_int)) dss_nil) (dss_one (ds_ret (de_op o_add de_int (de_call (c := c_law_next) D_law_next (hr.mono (by decide)) (takes_of rfl rfl rfl rfl) (da_cons (de_var 0) (da_cons de_int da_nil)))))))⟩
theorem wp_law_width (ds : List D) (om : Om) (k : RV → Om → Prop) (xk : Exn → Om → Prop) (h : df_law_width ds om k xk) : w_law_width (endOf k xk) (startE 1 ds) om := by
  unfold df_law_width at h
  split at h
  · next a =>
    obtain ⟨ha, h⟩ := h
    unfold w_law_width; walk_at "dl"
    try simp only [df_law_next]
    walk_at "dl"; walk_at "cj"
    intro z z0 z1
    walk_at "dl"
    split
    · exact h 24 (by decide) (by decide)
    · walk_at "cj"
      intro y y0 y1
      walk_at "dl"
      exact h _ (by omega) (by omega)
  · exact h.elim
theorem ok_law_width {P : Program} {w : World} {K : PySem.W.Frag} {mg : Str → Option Value} {base : Heap} {f : Addr} {fd : FuncData} (F : FunD K "_law_width" "_law_width" (defArgs s_law_width) (defBody s_law_width) (defScope s_law_width) [] [] f fd) (T : Txt K mg) (D_law_next : Def P w K mg base "_law_next" c_law_next 1) : FnOk P w K mg base (L2.CX P w) 2 f fd ["_law_state_here"] (toSp K c_law_width) :=
  (fn_ok (c := c_law_width) F sc_law_width rfl (fun cdv A outer s H E hr => d_law_width T D_law_next cdv A outer s H E hr) wp_law_width)
def deepPl : D → Bool
  | .lst ds => ds.all fun d => plainD d && plains d
  | .frl ds => ds.all fun d => plainD d && plains d
  | d => plainD d
def df_is_rows : DF := fun ds om k _ => match ds with
  | [d] => (plainD d = true ∧ deepPl d = true) ∧ k (.v (.bl (isRows d))) om
  | _ => False
def c_is_rows : Con := ⟨1, df_is_rows, by intro ds om k xk h; unfold df_is_rows at h; split at h <;> first | rfl | exact h.elim, by intro ds om k k' xk xk' hk hx h; unfold df_is_rows at h ⊢; split at h <;> first | exact h.elim | grind⟩
def w_is_rows : WS :=
  (wSeq (wIfS (wNot (wTru (wCB pIsi (wCons (wBor 0) (wCons (wC (.raw (.ty "list"))) wNil))))) (wRet (wC (.bl false))) wNext) (wSeq (wFor (wiL (wVar 0)) (gN 1) (wIfS (wOr (wNot (wTru (wCall df_is_row [] (wCons (wVar 1) wNil)))) (wTst (wOp pNe (wCB pLen (wCons (wBor 1) wNil)) (wCB pLen (wCons (wOp pIx (wBor 0) (wC (.int 0))) wNil))))) (wRet (wC (.bl false))) wNext)) (wRet (wC (.bl true)))))
theorem d_is_rows {P : Program} {w : World} {K : PySem.W.Frag} {mg : Str → Option Value} {base : Heap} {f : Addr} (T : Txt K mg) (D_is_row : Def P w K mg base "is_row" c_is_row 2) (cdv : Value) (A : Around) (outer : List PySem.Env) (s : Shared) (H : Hp) (E : XK) (hr : Room 2 (A.deeper (PyProof.Rows.envOfC "is_rows" (defScope s_is_rows) s.heap.objs.size f cdv))) :
    ∃ t, DSs (cxOf (L2.CX P w) P w K mg base ["thing", "row"] "is_rows" (defScope s_is_rows) f cdv A outer s H E) (fun cls d _ H => E cls d H) (defBody s_is_rows) t w_is_rows :=
  ⟨_, (dss_cons (ds_if (dt_not (dt_tru (de_cb n_isi T.n_isinstance (by decide +kernel) (da_cons (de_bor 0) (da_cons (de_ty T.n_list (by decide +kernel)) da_nil))))) (dss_one (ds_ret de_bl)) dss_nil) (dss_cons (ds_for (passes_of rfl) rfl (di_list (de_var 0)) (dg_name 1 sc_is_rows.nd) (dss_one (ds_if (DW.dt (dw_or (dt_not (dt_tru (de_call (c := c_is_row) D_is_row (hr.mono (by decide)) (takes_of rfl rfl rfl rfl) (da_cons (de_var 1) da_nil)))) (dw_or1 (dt_cmp (o_ne hr) (de_cb n_len T.n_len (by decide +kernel) (da_cons (de_bor 1) da_nil)) (de_cb n_len T.n_len (by decide +kernel) (da_cons (de_ix (de_bor 0) de_int) da_nil)))))) (dss_one (ds_ret de_bl)) dss_nil))) (dss_one (ds_ret de_bl))))⟩
theorem wp_is_rows (ds : List D) (om : Om) (k : RV → Om → Prop) (xk : Exn → Om → Prop) (h : df_is_rows ds om k xk) : w_is_rows (endOf k xk) (startE 2 ds) om := by
  unfold df_is_rows at h
  split at h
  · next d =>
    obtain ⟨⟨hd, hp⟩, h⟩ := h
    have key : ∀ es : List D, (d = .lst es ∨ d = .frl es) → (∀ x ∈ es, plainD x = true ∧ plains x = true) → k (.v (.bl (rowsL es))) om → w_is_rows (endOf k xk) (startE 2 [d]) om := by
      intro es hde hpl h
      have hx : ∀ y ∈ es, 0 < es.length := fun y m => List.length_pos_of_mem m
      unfold w_is_rows
      rcases hde with hde | hde
      all_goals
        rw [hde]
        walk_at "dl"
        refine loop_all (goodRow (widD (es.headD .non))) (fun r => ∃ x', r = [some (.v d), x']) ⟨_, by rw [hde]⟩ ?_ ?_
        · rintro i y r nx e hal ⟨x', rfl⟩ h1 h2
          rw [hde] at h1 ⊢
          unfold stepOf; walk_at "dl"
          simp only [df_is_row]
          have my := List.mem_of_getElem? e
          obtain ⟨p1, p2⟩ := hpl y my
          refine ⟨⟨p1, p2⟩, ?_⟩
          walk_at "dl"
          cases hy : isRow y with
          | false =>
            walk_at "dl"
            have : rowsL es = false := h2 (by unfold goodRow; rw [hy]; rfl)
            rw [this] at h; exact h
          | true =>
            obtain ⟨ns, rfl, n1, n2⟩ := isRow_iff.mp hy
            obtain ⟨ms, zs, hes⟩ : ∃ (ms : List Int) (zs : List D), es = .tup (ms.map D.int) :: zs := by
              cases es with
              | nil => cases my
              | cons z zs =>
                cases i with
                | zero =>
                  simp only [List.getElem?_cons_zero, Option.some.injEq] at e
                  exact ⟨ns, zs, by rw [e]⟩
                | succ i =>
                  simp only [List.take_succ_cons, List.all_cons, Bool.and_eq_true, goodRow] at hal
                  obtain ⟨ms, rfl, _⟩ := isRow_iff.mp hal.1.1
                  exact ⟨ms, zs, rfl⟩
            have hw : widD (es.headD .non) = ms.length := by rw [hes]; simp [widD]
            rw [hw] at h1 h2
            simp only [goodRow, hy, Bool.true_and, widD, List.length_map] at h1 h2
            simp only [hes]
            walk_at "dl"
            rw [List.length_map, List.length_map]
            by_cases hq : ns.length = ms.length
            · have hq' : ((ns.length : Nat) : Int) = (ms.length : Int) := by omega
              simp only [hq', decide_true]; walk_at "dl"
              simp only [hes] at h1
              exact h1 (by rw [hq]; simp) _ ⟨_, rfl⟩
            · have hq' : ¬ ((ns.length : Nat) : Int) = (ms.length : Int) := by omega
              simp only [hq', decide_false]; walk_at "dl"
              have : rowsL es = false := by unfold rowsL; rw [hw]; exact h2 (by simp [hq])
              rw [this] at h; exact h
        · rintro r ⟨x', rfl⟩ ha
          walk_at "dl"
          have : rowsL es = true := ha
          rw [this] at h; exact h
    unfold w_is_rows
    cases d with
    | h a => cases hd
    | raw v => cases hd
    | lst es => exact key es (.inl rfl) (by simpa [deepPl] using hp) h
    | frl es => exact key es (.inr rfl) (by simpa [deepPl] using hp) h
    | _ => walk_at "dl"; exact h
  · exact h.elim

theorem ok_is_rows {P : Program} {w : World} {K : PySem.W.Frag} {mg : Str → Option Value} {base : Heap} {f : Addr} {fd : FuncData} (F : FunD K "is_rows" "is_rows" (defArgs s_is_rows) (defBody s_is_rows) (defScope s_is_rows) [] [] f fd) (T : Txt K mg) (D_is_row : Def P w K mg base "is_row" c_is_row 2) : FnOk P w K mg base (L2.CX P w) 3 f fd ["thing"] (toSp K c_is_rows) :=
  (fn_ok (c := c_is_rows) F sc_is_rows rfl (fun cdv A outer s H E hr => d_is_rows T D_is_row cdv A outer s H E hr) wp_is_rows)
def smallR (rs : List (List Int)) : Prop := ∀ r ∈ rs, ∀ z ∈ r, -(10 ^ 18) ≤ z ∧ z ≤ 10 ^ 18
def df_law_rows : DF := fun ds om k _ => match ds with
  | [.h a, .int m, .int w] => (om a = some (.lstP DeckP) ∧ 0 ≤ m ∧ m ≤ 10000 ∧ 1 ≤ w ∧ w ≤ 24) ∧ ∀ rs : List (List Int), rs.length = m.toNat → Wide w.toNat rs → smallR rs → k (.o (rowsD rs)) om
  | _ => False
def c_law_rows : Con := ⟨3, df_law_rows, by intro ds om k xk h; unfold df_law_rows at h; split at h <;> first | rfl | exact h.elim, by intro ds om k k' xk xk' hk hx h; unfold df_law_rows at h ⊢; split at h <;> first | exact h.elim | grind⟩
def w_law_rows : WS :=
  (wSeq (wAsg (wLc (wiR1 (wCons (wBor 2) wNil)) (gN 4) wYes (wCall df_law_next [] (wCons (wVar 0) (wCons (wC (.int 5)) wNil))) [4]) (gN 3)) (wSeq (wAsg (wLst wNil) (gN 5)) (wSeq (wFor (wiR1 (wCons (wBor 1) wNil)) (gN 6) (wSeq (wAsg (wCB pTuple (wCons (wLc (wiL (wVar 3)) (gN 8) wYes (wCall df_law_number [] (wCons (wVar 0) (wCons (wVar 8) wNil))) [8]) wNil)) (gN 7)) (wSeq (wIfS (wAnd (wTst (wOp pGtA (wBor 6) (wC (.int 0)))) (wTst (wOp pEq (wCall df_law_next [] (wCons (wVar 0) (wCons (wC (.int 5)) wNil))) (wC (.int 0))))) (wAsg (wOp pIx (wBor 5) (wCall df_law_next [] (wCons (wVar 0) (wCons (wVar 6) wNil)))) (gN 7)) wNext) (wDrop (wMut 5 mApp (wCons (wVar 7) wNil)))))) (wRet (wMov 5)))))
theorem d_law_rows {P : Program} {w : World} {K : PySem.W.Frag} {mg : Str → Option Value} {base : Heap} {f : Addr} (T : Txt K mg) (D_law_next : Def P w K mg base "_law_next" c_law_next 1) (D_law_number : Def P w K mg base "_law_number" c_law_number 2) (cdv : Value) (A : Around) (outer : List PySem.Env) (s : Shared) (H : Hp) (E : XK) (hr : Room 2 (A.deeper (PyProof.Rows.envOfC "_law_rows" (defScope s_law_rows) s.heap.objs.size f cdv))) :
    ∃ t, DSs (cxOf (L2.CX P w) P w K mg base ["_law_state_here", "_law_many", "_law_width_here", "_law_ways", "_law_column", "_law_found", "_law_k", "_law_row", "_law_way"] "_law_rows" (defScope s_law_rows) f cdv A outer s H E) (fun cls d _ H => E cls d H) (defBody s_law_rows) t w_law_rows :=
  ⟨_, (dss_cons (ds_setLc 3 (own := [("_law_column", 4)]) rfl sc_law_rows.nd (di_r1 T.n_range (da_cons (de_bor 2) da_nil)) (by kernel_rfl) (fun _ _ _ _ _ => (dgv_name 4 sc_law_rows.nd)) (fun _ _ _ _ _ => dts_nil) (fun _ _ _ _ _ => (de_call' (K' := K) (c := c_law_next) D_law_next (hr.mono (by decide)) takes0 (da_cons (de_var 0) (da_cons de_int da_nil)))) s (sw_true rfl rfl rfl (by decide +kernel))) (dss_cons (ds_set 5 sc_law_rows.nd (de_lst da_nil)) (dss_cons (ds_for (passes_of rfl) rfl (di_r1 T.n_range (da_cons (de_bor 1) da_nil)) (dg_name 6 sc_law_rows.nd) (dss_cons (ds_set 7 sc_law_rows.nd (de_ct n_tuple T.n_tuple (by decide +kernel) (da_cons (de_lc (own := [("_law_way", 8)]) rfl sc_law_rows.nd (di_list (de_var 3)) (by kernel_rfl) (fun _ _ _ _ _ => (dgv_name 8 sc_law_rows.nd)) (fun _ _ _ _ _ => dts_nil) (fun _ _ _ _ _ => (de_call' (K' := K) (c := c_law_number) D_law_number (hr.mono (by decide)) takes0 (da_cons (de_var 0) (da_cons (de_var 8) da_nil)))) s) da_nil))) (dss_cons (ds_if (DW.dt (dw_and (dt_cmp (o_gtA hr) (de_bor 6) de_int) (dw_and1 (dt_cmp (o_eq hr) (de_call (c := c_law_next) D_law_next (hr.mono (by decide)) (takes_of rfl rfl rfl rfl) (da_cons (de_var 0) (da_cons de_int da_nil))) de_int)))) (dss_one (ds_set 7 sc_law_rows.nd (de_ix (de_bor 5) (de_call (c := c_law_next) D_law_next (hr.mono (by decide)) (takes_of rfl rfl rfl rfl) (da_cons (de_var 0) (da_cons (de_var 6) da_nil)))))) dss_nil) (dss_one (ds_drop (de_app 5 (de_var 7))))))) (dss_one (ds_retV 5)))))⟩
theorem wp_law_rows (ds : List D) (om : Om) (k : RV → Om → Prop) (xk : Exn → Om → Prop) (h : df_law_rows ds om k xk) : w_law_rows (endOf k xk) (startE 9 ds) om := by
  unfold df_law_rows at h
  split at h
  · next a m w =>
    obtain ⟨⟨ha, m0, m1, w0, w1⟩, h⟩ := h
    have hs : (100000 : Nat) ≤ sizeLine := by decide
    unfold w_law_rows; walk_at "dl"; walk_at "cj"
    refine lc_list (fun i acc r om' => om' = om ∧ r = [some (.v (.h a)), some (.v (.int m)), some (.v (.int w)), none, none, none, none, none, none] ∧ ∃ ws : List Int, acc = ws.map D.int ∧ ws.length = i ∧ ∀ x ∈ ws, 0 ≤ x ∧ x < 5) ⟨rfl, rfl, [], rfl, rfl, by simp⟩ ?_ ?_
    · rintro i d acc r om' nx e ⟨rfl, rfl, ws, rfl, hl, hw⟩ hn
      have hi := (rng_get e).1
      walk_at "dl"
      try simp only [df_law_next]
      walk_at "dl"; walk_at "cj"
      intro z z0 z1
      walk_at "dl"
      refine ⟨by rw [List.length_map]; omega, hn _ _ _ ⟨rfl, rfl, ws ++ [z], by simp, by simp [hl], ?_⟩⟩
      intro x mx
      rcases List.mem_append.mp mx with mx | mx
      · exact hw x mx
      · rw [List.mem_singleton.mp mx]; exact ⟨z0, z1⟩
    · rintro acc r om' ⟨rfl, rfl, ws, rfl, hl, hw⟩
      rw [rng_len] at hl
      walk_at "dl"; walk_at "cj"
      refine loop_rng (fun i r om'' => om'' = om' ∧ ∃ (rs : List (List Int)) (y : RV) (x1 x2 : Option RV), (y = .o (ws.map D.int) ∨ y = .v (.lst (ws.map D.int))) ∧ r = [some (.v (.h a)), some (.v (.int m)), some (.v (.int w)), some y, none, some (.o (rowsD rs)), x1, x2, none] ∧ rs.length = i ∧ Wide w.toNat rs ∧ smallR rs) ⟨rfl, [], _, _, _, .inl rfl, rfl, rfl, ⟨by omega, by omega, by simp⟩, by simp [smallR]⟩ ?_ ?_
      · rintro i r om'' nx hi ⟨rfl, rs, y, x1, x2, hy, rfl, hrl, hw2, hs2⟩ hn
        have fin : ∀ (q : List Int), q.length = w.toNat → (∀ z ∈ q, -(10 ^ 18) ≤ z ∧ z ≤ 10 ^ 18) → ∀ x1 x2, nx [some (.v (.h a)), some (.v (.int m)), some (.v (.int w)), some (.v (.lst (ws.map D.int))), none, some (.o (rowsD rs ++ [rowD q])), x1, x2, none] om'' := fun q hq hz x1 x2 =>
          hn _ _ ⟨rfl, rs ++ [q], _, x1, x2, .inr rfl, by simp [rowsD], by simp [hrl], ⟨by omega, by omega, fun r mr => by
            rcases List.mem_append.mp mr with mr | mr
            · exact hw2.2.2 r mr
            · rw [List.mem_singleton.mp mr]; exact hq⟩, fun r mr => by
            rcases List.mem_append.mp mr with mr | mr
            · exact hs2 r mr
            · rw [List.mem_singleton.mp mr]; exact hz⟩
        have hlen : (rowsD rs).length < sizeLine := by simp only [rowsD, List.length_map]; omega
        have comp : ∀ {fin : List D → DL.Env → Om → Prop} (r : DL.Env) (c0 : r = [some (.v (.h a)), some (.v (.int m)), some (.v (.int w)), some (.v (.lst (ws.map D.int))), none, some (.o (rowsD rs)), some (.v (.int (0 + ↑i))), x2, none]),
            (∀ q : List Int, q.length = w.toNat → (∀ z ∈ q, -(10 ^ 18) ≤ z ∧ z ≤ 10 ^ 18) → fin (q.map D.int) r om'') → lcGo (gN 8) wYes (wCall df_law_number [] (wCons (wVar 0) (wCons (wVar 8) wNil))) [8] (ws.map D.int) [] r om'' fin := by
          rintro fin r rfl hf
          refine lc_list (fun i acc r om' => om' = om'' ∧ r = _ ∧ ∃ q : List Int, acc = q.map D.int ∧ q.length = i ∧ ∀ z ∈ q, -(10 ^ 18) ≤ z ∧ z ≤ 10 ^ 18) ⟨rfl, rfl, [], rfl, rfl, by simp⟩ ?_ ?_
          · rintro j d acc r om' nx e ⟨rfl, rfl, q, rfl, hql, hq⟩ hn
            obtain ⟨x, mx, rfl⟩ := List.mem_map.mp (List.mem_of_getElem? e)
            have hj := (List.getElem?_eq_some_iff.mp e).1
            rw [List.length_map] at hj
            obtain ⟨x0, x1⟩ := hw x mx
            walk_at "dl"
            try simp only [df_law_number]
            walk_at "dl"; walk_at "cj"
            intro z z0 z1
            walk_at "dl"
            refine ⟨by rw [List.length_map]; omega, hn _ _ _ ⟨rfl, rfl, q ++ [z], by simp, by simp [hql], ?_⟩⟩
            intro x mx
            rcases List.mem_append.mp mx with mx | mx
            · exact hq x mx
            · rw [List.mem_singleton.mp mx]; exact ⟨z0, z1⟩
          · rintro acc r om' ⟨rfl, rfl, q, rfl, hql, hq⟩
            rw [List.length_map] at hql
            exact hf q (by omega) hq
        rcases hy with rfl | rfl
        all_goals
          unfold stepOf; walk_at "dl"
          refine comp _ rfl fun q hq hz => ?_
          walk_at "dl"
          split
          · next hi0 =>
            try simp only [df_law_next]
            walk_at "dl"; walk_at "cj"
            intro z z0 z1
            walk_at "dl"
            split
            · have hi1 : 0 < i := by simp at hi0; omega
              refine ⟨⟨ha, by omega, by omega⟩, fun u u0 u1 => ?_⟩
              walk_at "dl"
              obtain ⟨d, hd, e⟩ := atI_in (ds := rowsD rs) u0 (by simp only [rowsD, List.length_map]; omega)
              rw [e]
              obtain ⟨r, mr, rfl⟩ := List.mem_map.mp hd
              walk_at "dl"
              simp only [rowD]
              walk_at "dl"; walk_at "cj"
              exact fin r (hw2.2.2 r mr) (hs2 r mr) _ _
            · walk_at "cj"
              exact fin q hq hz _ _
          · walk_at "cj"
            exact fin q hq hz _ _
      · rintro r om'' ⟨rfl, rs, y, x1, x2, hy, rfl, hrl, hw2, hs2⟩
        walk_at "dl"
        exact h rs hrl hw2 hs2
  · exact h.elim

theorem ok_law_rows {P : Program} {w : World} {K : PySem.W.Frag} {mg : Str → Option Value} {base : Heap} {f : Addr} {fd : FuncData} (F : FunD K "_law_rows" "_law_rows" (defArgs s_law_rows) (defBody s_law_rows) (defScope s_law_rows) [] [] f fd) (T : Txt K mg) (D_law_next : Def P w K mg base "_law_next" c_law_next 1) (D_law_number : Def P w K mg base "_law_number" c_law_number 2) : FnOk P w K mg base (L2.CX P w) 3 f fd ["_law_state_here", "_law_many", "_law_width_here"] (toSp K c_law_rows) :=
  (fn_ok (c := c_law_rows) F sc_law_rows rfl (fun cdv A outer s H E hr => d_law_rows T D_law_next D_law_number cdv A outer s H E hr) wp_law_rows)
def df_look : DF := fun ds om k _ => match ds with
  | [.lst rs, .int c] => ∃ (w : Nat) (ns : List (List Int)), (rs = rowsD ns ∧ Wide w ns ∧ 0 ≤ c ∧ c < (w : Int)) ∧ k (.v .non) om
  | _ => False
def c_look : Con := ⟨2, df_look, by intro ds om k xk h; unfold df_look at h; split at h <;> first | rfl | exact h.elim, by intro ds om k k' xk xk' hk hx h; unfold df_look at h ⊢; split at h <;> first | exact h.elim | grind⟩
def w_look : WS :=
  (wSeq (wIfS (wNot (wTru (wCall df_is_rows [] (wCons (wVar 0) wNil)))) wNever wNext) (wSeq (wAsg (wC (.int 24)) (gN 2)) (wSeq (wIfS (wTst (wOp pGtA (wCB pLen (wCons (wBor 0) wNil)) (wC (.int 0)))) (wAsg (wCB pLen (wCons (wOp pIx (wBor 0) (wC (.int 0))) wNil)) (gN 2)) wNext) (wIfS (wOr (wNot (wTru (wCall df_is_number [] (wCons (wVar 1) wNil)))) (wNot (wTst (wChain pLeA pLtA (wC (.int 0)) (wBor 1) (wBor 2))))) wNever wNext))))
theorem d_look {P : Program} {w : World} {K : PySem.W.Frag} {mg : Str → Option Value} {base : Heap} {f : Addr} (T : Txt K mg) (D_is_number : Def P w K mg base "is_number" c_is_number 1) (D_is_rows : Def P w K mg base "is_rows" c_is_rows 3) (cdv : Value) (A : Around) (outer : List PySem.Env) (s : Shared) (H : Hp) (E : XK) (hr : Room 3 (A.deeper (PyProof.Rows.envOfC "look" (defScope s_look) s.heap.objs.size f cdv))) :
    ∃ t, DSs (cxOf (L2.CX P w) P w K mg base ["rows", "column", "width"] "look" (defScope s_look) f cdv A outer s H E) (fun cls d _ H => E cls d H) (defBody s_look) t w_look :=
  ⟨_, (dss_cons (ds_if (dt_not (dt_tru (de_call (c := c_is_rows) D_is_rows (hr.mono (by decide)) (takes_of rfl rfl rfl rfl) (da_cons (de_var 0) da_nil)))) (dss_one ds_never) dss_nil) (dss_cons (ds_set 2 sc_look.nd (de_glob T.c_WIDEST)) (dss_cons (ds_if (dt_cmp (o_gtA hr) (de_cb n_len T.n_len (by decide +kernel) (da_cons (de_bor 0) da_nil)) de_int) (dss_one (ds_set 2 sc_look.nd (de_cb n_len T.n_len (by decide +kernel) (da_cons (de_ix (de_bor 0) de_int) da_nil)))) dss_nil) (dss_one (ds_if (DW.dt (dw_or (dt_not (dt_tru (de_call (c := c_is_number) D_is_number (hr.mono (by decide)) (takes_of rfl rfl rfl rfl) (da_cons (de_var 1) da_nil)))) (dw_or1 (dt_not (dt_chain (o_leA hr) (o_ltA hr) de_int (de_bor 1) (de_bor 2)))))) (dss_one ds_never) dss_nil)))))⟩
theorem wp_look (ds : List D) (om : Om) (k : RV → Om → Prop) (xk : Exn → Om → Prop) (h : df_look ds om k xk) : w_look (endOf k xk) (startE 3 ds) om := by
  unfold df_look at h
  split at h
  · next rs c =>
    obtain ⟨w, ns, ⟨rfl, hw, h0, h1⟩, h⟩ := h
    have hdp : deepPl (.lst (rowsD ns)) = true := by
      simp only [deepPl, List.all_eq_true, Bool.and_eq_true]
      intro d m
      obtain ⟨r, _, rfl⟩ := List.mem_map.mp m
      refine ⟨rfl, ?_⟩
      simp only [rowD, plains, List.all_eq_true]
      intro x mx
      obtain ⟨i, _, rfl⟩ := List.mem_map.mp mx
      rfl
    unfold w_look; walk_at "dl"
    simp only [df_is_rows, df_is_number]
    refine ⟨⟨rfl, hdp⟩, ?_⟩
    have hr : isRows (.lst (rowsD ns)) = true := hw.rows
    rw [hr]; walk_at "dl"
    cases ns with
    | nil =>
      simp only [rowsD]; walk_at "dl"
      have e2 : (0 ≤ c) := h0
      have e3 : c < 24 := by have := hw.2.1; omega
      refine ⟨rfl, ?_⟩
      simp only [isNum, e2, e3, decide_true]; walk_at "dl"
      exact h
    | cons r ns =>
      have hl : r.length = w := hw.2.2 r List.mem_cons_self
      simp only [rowsD, List.map_cons]
      walk_at "dl"
      have e0 : (0 : Int) < (((ns.map rowD).length + 1 : Nat) : Int) := by omega
      simp only [e0, decide_true]; walk_at "dl"
      simp only [rowD]; walk_at "dl"
      have e3 : c < (r.length : Int) := by omega
      refine ⟨rfl, ?_⟩
      simp only [isNum, h0, List.length_map, e3, decide_true]; walk_at "dl"
      exact h
  · exact h.elim

theorem ok_look {P : Program} {w : World} {K : PySem.W.Frag} {mg : Str → Option Value} {base : Heap} {f : Addr} {fd : FuncData} (F : FunD K "look" "look" (defArgs s_look) (defBody s_look) (defScope s_look) [] [] f fd) (T : Txt K mg) (D_is_number : Def P w K mg base "is_number" c_is_number 1) (D_is_rows : Def P w K mg base "is_rows" c_is_rows 3) : FnOk P w K mg base (L2.CX P w) 4 f fd ["rows", "column"] (toSp K c_look) :=
  (fn_ok (c := c_look) F sc_look rfl (fun cdv A outer s H E hr => d_look T D_is_number D_is_rows cdv A outer s H E hr) wp_look)
def df_runs_in : DF := fun ds om k _ => match ds with
  | [.lst rs, .int c, .lst os] => ∃ (w : Nat) (ns : List (List Int)) (is : List Int), (rs = rowsD ns ∧ os = is.map D.int ∧ Wide w ns ∧ 0 ≤ c ∧ c < (w : Int) ∧ ∀ i ∈ is, 0 ≤ i ∧ i < (ns.length : Int)) ∧ k (.v (.int (runsN c.toNat ns is))) om
  | _ => False
def c_runs_in : Con := ⟨3, df_runs_in, by intro ds om k xk h; unfold df_runs_in at h; split at h <;> first | rfl | exact h.elim, by intro ds om k k' xk xk' hk hx h; unfold df_runs_in at h ⊢; split at h <;> first | exact h.elim | grind⟩
def w_runs_in : WS :=
  (wSeq (wDrop (wCall df_look [] (wCons (wVar 0) (wCons (wVar 1) wNil)))) (wSeq (wAsg (wCB pMin2 (wCons (wC (.int 1)) (wCons (wCB pLen (wCons (wBor 2) wNil)) wNil))) (gN 3)) (wSeq (wFor (wiZip (wCons (wVar 2) (wCons (wSl (wBor 2) (wOS (wC (.int 1))) wON) wNil))) (gT 2 (gsCons 4 (gsCons 5 gsNil))) (wIfS (wTru (wCall df_less [] (wCons (wOp pIx (wBor 0) (wBor 5)) (wCons (wOp pIx (wBor 0) (wBor 4)) (wCons (wVar 1) wNil))))) (wAug 3 pAddI (wC (.int 1))) wNext)) (wRet (wMov 3)))))
theorem d_runs_in {P : Program} {w : World} {K : PySem.W.Frag} {mg : Str → Option Value} {base : Heap} {f : Addr} (T : Txt K mg) (D_less : Def P w K mg base "less" c_less 1) (D_look : Def P w K mg base "look" c_look 4) (cdv : Value) (A : Around) (outer : List PySem.Env) (s : Shared) (H : Hp) (E : XK) (hr : Room 4 (A.deeper (PyProof.Rows.envOfC "runs_in" (defScope s_runs_in) s.heap.objs.size f cdv))) :
    ∃ t, DSs (cxOf (L2.CX P w) P w K mg base ["rows", "column", "order", "found", "one", "other"] "runs_in" (defScope s_runs_in) f cdv A outer s H E) (fun cls d _ H => E cls d H) (defBody s_runs_in) t w_runs_in :=
  ⟨_, (dss_cons (ds_drop (de_call (c := c_look) D_look (hr.mono (by decide)) (takes_of rfl rfl rfl rfl) (da_cons (de_var 0) (da_cons (de_var 1) da_nil)))) (dss_cons (ds_set 3 sc_runs_in.nd (de_cb (n_min2 rfl) T.n_min (by decide +kernel) (da_cons de_int (da_cons (de_cb n_len T.n_len (by decide +kernel) (da_cons (de_bor 2) da_nil)) da_nil)))) (dss_cons (ds_for (passes_of rfl) rfl (di_zip T.n_zip (da_cons (de_var 2) (da_cons (de_sl (de_bor 2) (do_some de_int) do_none) da_nil))) (dg_tup rfl (dgs_cons 4 sc_runs_in.nd (dgs_cons 5 sc_runs_in.nd dgs_nil))) (dss_one (ds_if (dt_tru (de_call (c := c_less) D_less (hr.mono (by decide)) (takes_of rfl rfl rfl rfl) (da_cons (de_ix (de_bor 0) (de_bor 5)) (da_cons (de_ix (de_bor 0) (de_bor 4)) (da_cons (de_var 1) da_nil))))) (dss_one (ds_aug 3 sc_runs_in.nd io_add de_int)) dss_nil))) (dss_one (ds_retV 3)))))⟩
theorem wp_runs_in (ds : List D) (om : Om) (k : RV → Om → Prop) (xk : Exn → Om → Prop) (h : df_runs_in ds om k xk) : w_runs_in (endOf k xk) (startE 6 ds) om := by
  unfold df_runs_in at h
  split at h
  · next rs c os =>
    obtain ⟨w, ns, is, ⟨rfl, rfl, hw, c0, c1, hi⟩, h⟩ := h
    unfold w_runs_in; walk_at "dl"
    try simp only [df_look]
    refine ⟨w, ns, ⟨rfl, hw, c0, c1⟩, ?_⟩
    walk_at "dl"
    have hb : (if ((is.map D.int).length : Int) < 1 then ((is.map D.int).length : Int) else 1) = if is = [] then 0 else 1 := by
      cases is with
      | nil => simp
      | cons x is => simp; omega
    refine loop_list (fun i r om' => om' = om ∧ ∃ x1 x2 : Option RV, r = [some (.v (.lst (rowsD ns))), some (.v (.int c)), some (.v (.lst (is.map D.int))), some (.v (.int ((if is = [] then 0 else 1) + cntL c.toNat ns ((zipD (is.map D.int) (cutD (is.map D.int) (some 1) none)).take i)))), x1, x2]) ⟨rfl, none, none, by rw [hb]; simp [cntL]⟩ ?_ ?_
    · rintro i d r om' nx e ⟨rfl, x1, x2, rfl⟩ hn
      obtain ⟨x, y, rfl, ⟨hx0, hx1⟩, hy0, hy1⟩ := pair_of hi e
      have es := cntL_step c.toNat ns e
      have lx := hw.2.2 _ (getD_mem hx0 hx1)
      have ly := hw.2.2 _ (getD_mem hy0 hy1)
      unfold stepOf; walk_at "dl"
      rw [rows_at hx0 hx1, rows_at hy0 hy1]; walk_at "dl"
      simp only [rowD]; walk_at "dl"
      try simp only [df_less]
      refine ⟨_, _, ⟨rfl, rfl, c0, by omega, by omega⟩, ?_⟩
      have ec : cntF c.toNat ns (.tup [.int x, .int y]) = lessR c.toNat (ns.getD y.toNat []) (ns.getD x.toNat []) := rfl
      rw [ec] at es
      walk_at "dl"
      split
      · next hq => rw [hq] at es; refine ⟨⟨_, rfl⟩, hn _ _ ⟨rfl, some (.v (.int x)), some (.v (.int y)), ?_⟩⟩; rw [es]; simp [Int.add_assoc]
      · next hq => have hq' := Bool.eq_false_iff.mpr hq; rw [hq'] at es; refine hn _ _ ⟨rfl, some (.v (.int x)), some (.v (.int y)), ?_⟩; rw [es]; simp
    · rintro r om' ⟨rfl, x1, x2, rfl⟩
      walk_at "dl"
      rw [List.take_length]
      exact h
  · exact h.elim
theorem ok_runs_in {P : Program} {w : World} {K : PySem.W.Frag} {mg : Str → Option Value} {base : Heap} {f : Addr} {fd : FuncData} (F : FunD K "runs_in" "runs_in" (defArgs s_runs_in) (defBody s_runs_in) (defScope s_runs_in) [] [] f fd) (T : Txt K mg) (D_less : Def P w K mg base "less" c_less 1) (D_look : Def P w K mg base "look" c_look 4) : FnOk P w K mg base (L2.CX P w) 5 f fd ["rows", "column", "order"] (toSp K c_runs_in) :=
  (fn_ok (c := c_runs_in) F sc_runs_in rfl (fun cdv A outer s H E hr => d_runs_in T D_less D_look cdv A outer s H E hr) wp_runs_in)
def df_law : DF := fun ds om k _ => match ds with
  | [.frl es] => (∃ ns : List Int, es = ns.map D.int) ∧ ∀ om', k (.v (.bl true)) om'
  | _ => False
def c_law : Con := ⟨1, df_law, by intro ds om k xk h; unfold df_law at h; split at h <;> first | rfl | exact h.elim, by intro ds om k k' xk xk' hk hx h; unfold df_law at h ⊢; split at h <;> first | exact h.elim | grind⟩
def w_law_7 : WS :=
  (wSeq (wFor (wiL (wLst (wCons (wVar 5) (wCons (wVar 6) (wCons (wVar 5) wNil))))) (gN 7) (wSeq (wAsg (wLst (wCons (wCB pList (wCons (wBor 4) wNil)) (wCons (wCB pList (wCons (wBor 7) wNil)) wNil))) (gN 8)) (wSeq (wAsg (wCall df_runs_in [] (wCons (wOp pIx (wBor 8) (wC (.int 0))) (wCons (wVar 3) (wCons (wOp pIx (wBor 8) (wC (.int 1))) wNil)))) (gN 9)) (wSeq (wIfS (wOr (wNot (wTru (wCall df_law_whole [] (wCons (wVar 9) wNil)))) (wTst (wOp pNe (wBor 9) (wCall df_law_count [] (wCons (wVar 4) (wCons (wVar 3) (wCons (wVar 7) wNil))))))) (wRet (wC (.bl false))) wNext) (wIfS (wOr (wTst (wOp pNe (wOp pIx (wBor 8) (wC (.int 0))) (wBor 4))) (wTst (wOp pNe (wOp pIx (wBor 8) (wC (.int 1))) (wBor 7)))) (wRet (wC (.bl false))) wNext))))) (wRet (wC (.bl true))))
def w_law_4 : WS :=
  (wSeq (wAsg (wCall df_law_order [] (wCons (wVar 1) (wCons (wCB pLen (wCons (wBor 4) wNil)) wNil))) (gN 5)) (wSeq (wAsg (wCall df_law_order [] (wCons (wVar 1) (wCons (wCB pLen (wCons (wBor 4) wNil)) wNil))) (gN 6)) (wSeq (wIfS (wTst (wOp pEq (wCall df_law_next [] (wCons (wVar 1) (wCons (wC (.int 3)) wNil))) (wC (.int 0)))) (wAsg (wLR1 (wCB pLen (wCons (wBor 4) wNil))) (gN 6)) wNext) w_law_7)))
def w_law : WS :=
  (wSeq (wAsgH 1 DeckP (wCall df_law_state [] (wCons (wVar 0) wNil))) (wSeq (wAsg (wCall df_law_width [] (wCons (wVar 1) wNil)) (gN 2)) (wSeq (wAsg (wCall df_law_next [] (wCons (wVar 1) (wCons (wVar 2) wNil))) (gN 3)) (wSeq (wAsg (wCall df_law_shaped [] (wCons (wVar 1) (wCons (wCall df_law_rows [] (wCons (wVar 1) (wCons (wCall df_law_next [] (wCons (wVar 1) (wCons (wC (.int 41)) wNil))) (wCons (wVar 2) wNil)))) (wCons (wVar 3) wNil)))) (gN 4)) w_law_4))))
theorem d_law {P : Program} {w : World} {K : PySem.W.Frag} {mg : Str → Option Value} {base : Heap} {f : Addr} (T : Txt K mg) (D_law_whole : Def P w K mg base "_law_whole" c_law_whole 1) (D_law_count : Def P w K mg base "_law_count" c_law_count 2) (D_runs_in : Def P w K mg base "runs_in" c_runs_in 5) (D_law_next : Def P w K mg base "_law_next" c_law_next 1) (D_law_order : Def P w K mg base "_law_order" c_law_order 2) (D_law_shaped : Def P w K mg base "_law_shaped" c_law_shaped 2) (D_law_rows : Def P w K mg base "_law_rows" c_law_rows 3) (D_law_width : Def P w K mg base "_law_width" c_law_width 2) (D_law_state : Def P w K mg base "_law_state" c_law_state 1) (cdv : Value) (A : Around) (outer : List PySem.Env) (s : Shared) (H : Hp) (E : XK) (hr : Room 5 (A.deeper (PyProof.Rows.envOfC "law" (defScope s_law) s.heap.objs.size f cdv))) :
    ∃ t, DSs (cxOf (L2.CX P w) P w K mg base ["_law_script", "_law_state_here", "_law_width_here", "_law_column", "_law_rows_here", "_law_one", "_law_other", "_law_order_here", "_law_handed", "_law_found"] "law" (defScope s_law) f cdv A outer s H E) (fun cls d _ H => E cls d H) (defBody s_law) t w_law :=
  ⟨_, (dss_cons (ds_setH 1 DeckP sc_law.nd (de_call (c := c_law_state) D_law_state (hr.mono (by decide)) (takes_of rfl rfl rfl rfl) (da_cons (de_var 0) da_nil))) (dss_cons (ds_set 2 sc_law.nd (de_call (c := c_law_width) D_law_width (hr.mono (by decide)) (takes_of rfl rfl rfl rfl) (da_cons (de_var 1) da_nil))) (dss_cons (ds_set 3 sc_law.nd (de_call (c := c_law_next) D_law_next (hr.mono (by decide)) (takes_of rfl rfl rfl rfl) (da_cons (de_var 1) (da_cons (de_var 2) da_nil)))) (dss_cons (ds_set 4 sc_law.nd (de_call (c := c_law_shaped) D_law_shaped (hr.mono (by decide)) (takes_of rfl rfl rfl rfl) (da_cons (de_var 1) (da_cons (de_call (c := c_law_rows) D_law_rows (hr.mono (by decide)) (takes_of rfl rfl rfl rfl) (da_cons (de_var 1) (da_cons (de_call (c := c_law_next) D_law_next (hr.mono (by decide)) (takes_of rfl rfl rfl rfl) (da_cons (de_var 1) (da_cons de_int da_nil))) (da_cons (de_var 2) da_nil)))) (da_cons (de_var 3) da_nil))))) (dss_cons (ds_set 5 sc_law.nd (de_call (c := c_law_order) D_law_order (hr.mono (by decide)) (takes_of rfl rfl rfl rfl) (da_cons (de_var 1) (da_cons (de_cb n_len T.n_len (by decide +kernel) (da_cons (de_bor 4) da_nil)) da_nil)))) (dss_cons (ds_set 6 sc_law.nd (de_call (c := c_law_order) D_law_order (hr.mono (by decide)) (takes_of rfl rfl rfl rfl) (da_cons (de_var 1) (da_cons (de_cb n_len T.n_len (by decide +kernel) (da_cons (de_bor 4) da_nil)) da_nil)))) (dss_cons (ds_if (dt_cmp (o_eq hr) (de_call (c := c_law_next) D_law_next (hr.mono (by decide)) (takes_of rfl rfl rfl rfl) (da_cons (de_var 1) (da_cons de_int da_nil))) de_int) (dss_one (ds_set 6 sc_law.nd (de_lr1 T.n_list T.n_range (de_cb n_len T.n_len (by decide +kernel) (da_cons (de_bor 4) da_nil))))) dss_nil) (dss_cons (ds_for (passes_of rfl) rfl (di_list (de_lst (da_cons (de_var 5) (da_cons (de_var 6) (da_cons (de_var 5) da_nil))))) (dg_name 7 sc_law.nd) (dss_cons (ds_set 8 sc_law.nd (de_lst (da_cons (de_ct n_list T.n_list (by decide +kernel) (da_cons (de_bor 4) da_nil)) (da_cons (de_ct n_list T.n_list (by decide +kernel) (da_cons (de_bor 7) da_nil)) da_nil)))) (dss_cons (ds_set 9 sc_law.nd (de_call (c := c_runs_in) D_runs_in (hr.mono (by decide)) (takes_of rfl rfl rfl rfl) (da_cons (de_ix (de_bor 8) de_int) (da_cons (de_var 3) (da_cons (de_ix (de_bor 8) de_int) da_nil))))) (dss_cons (ds_if (DW.dt (dw_or (dt_not (dt_tru (de_call (c := c_law_whole) D_law_whole (hr.mono (by decide)) (takes_of rfl rfl rfl rfl) (da_cons (de_var 9) da_nil)))) (dw_or1 (dt_cmp (o_ne hr) (de_bor 9) (de_call (c := c_law_count) D_law_count (hr.mono (by decide)) (takes_of rfl rfl rfl rfl) (da_cons (de_var 4) (da_cons (de_var 3) (da_cons (de_var 7) da_nil)))))))) (dss_one (ds_ret de_bl)) dss_nil) (dss_one (ds_if (DW.dt (dw_or (dt_cmp (o_ne hr) (de_ix (de_bor 8) de_int) (de_bor 4)) (dw_or1 (dt_cmp (o_ne hr) (de_ix (de_bor 8) de_int) (de_bor 7))))) (dss_one (ds_ret de_bl)) dss_nil)))))) (dss_one (ds_ret de_bl))))))))))⟩
theorem wp_law_7 {k : RV → Om → Prop} {xk : Exn → Om → Prop} {om : Om} (h : ∀ om', k (.v (.bl true)) om') (x0 x1 x2 : Option RV) (c : Int) (y : RV) (ns : List (List Int)) (w : Nat) (hw : Wide w ns) (c0 : 0 ≤ c) (c1 : c < (w : Int)) (hnl : ns.length ≤ 10000) (hy : y = .v (.lst (rowsD ns)) ∨ y = .o (rowsD ns)) (is js : List Int)
    (hi : is.length ≤ 10000 ∧ ∀ i ∈ is, 0 ≤ i ∧ i < (ns.length : Int)) (hj : js.length ≤ 10000 ∧ ∀ i ∈ js, 0 ≤ i ∧ i < (ns.length : Int)) :
    w_law_7 (endOf k xk) [x0, x1, x2, some (.v (.int c)), some y, some (.o (is.map D.int)), some (.o (js.map D.int)), none, none, none] om := by
  unfold w_law_7; walk_at "dl"; walk_at "cj"
  refine loop_list (fun i r om' => om' = om ∧ ∃ y u v t, (y = .v (.lst (rowsD ns)) ∨ y = .o (rowsD ns)) ∧ r = [x0, x1, x2, some (.v (.int c)), some y, some (.v (.lst (is.map D.int))), some (.v (.lst (js.map D.int))), u, v, t]) ⟨rfl, _, _, _, _, hy, rfl⟩ ?_ ?_
  · rintro i d r om' nx e ⟨rfl, y, u, v, t, hy, rfl⟩ hn
    obtain ⟨os, rfl, ho1, ho2⟩ : ∃ os : List Int, d = .lst (os.map D.int) ∧ os.length ≤ 10000 ∧ ∀ i ∈ os, 0 ≤ i ∧ i < (ns.length : Int) := by
      have m := List.mem_of_getElem? e
      simp only [List.mem_cons, List.not_mem_nil, or_false] at m
      rcases m with rfl | rfl | rfl
      · exact ⟨is, rfl, hi⟩
      · exact ⟨js, rfl, hj⟩
      · exact ⟨is, rfl, hi⟩
    have e1 : okE (.lst (rowsD ns)) := okE_of (by simp only [okc, okcs_rows]) (by have := deps_rows ns; simp only [dep]; omega)
    have e2 : okE (.lst (os.map D.int)) := okE_of (by simp only [okc, okcs_ints]) (by simp only [dep, deps_ints]; omega)
    have e3 : eqD (.lst (rowsD ns)) (.lst (rowsD ns)) = true := eqD_self (by simp only [okc, okcs_rows])
    have e4 : eqD (.lst (os.map D.int)) (.lst (os.map D.int)) = true := eqD_self (by simp only [okc, okcs_ints])
    rcases hy with rfl | rfl
    all_goals
      unfold stepOf; walk_at "dl"; walk_at "cj"
      try simp only [df_runs_in, df_law_count, df_law_whole]
      refine ⟨w, ns, os, ⟨rfl, rfl, hw, c0, c1, ho2⟩, ?_⟩
      walk_at "dl"
      refine ⟨rfl, ?_⟩
      simp only [isNum]; walk_at "dl"
      refine ⟨w, ns, os, ⟨rfl, rfl, hw, c0, c1, ho2⟩, ?_⟩
      walk_at "dl"
      simp only [e1, e2, e3, e4]; walk_at "dl"
      exact hn _ _ ⟨rfl, _, _, _, _, .inl rfl, rfl⟩
  · rintro r om' ⟨rfl, y, u, v, t, hy, rfl⟩
    walk_at "dl"
    exact h _
theorem wp_law_4 {k : RV → Om → Prop} {xk : Exn → Om → Prop} {om : Om} {a : Addr} (ha : om a = some (.lstP DeckP)) (h : ∀ om', k (.v (.bl true)) om') (x0 x2 : Option RV) (c : Int) (y : RV) (ns : List (List Int)) (w : Nat) (hw : Wide w ns) (c0 : 0 ≤ c) (c1 : c < (w : Int)) (hnl : ns.length ≤ 10000) (hy : y = .v (.lst (rowsD ns)) ∨ y = .o (rowsD ns)) :
    w_law_4 (endOf k xk) [x0, some (.v (.h a)), x2, some (.v (.int c)), some y, none, none, none, none, none] om := by
  have hl : (rowsD ns).length = ns.length := by simp [rowsD]
  have key := fun (x1 : Option RV) (is js : List Int) hi hj => wp_law_7 (k := k) (xk := xk) (om := om) h x0 x1 x2 c y ns w hw c0 c1 hnl hy is js hi hj
  have h0 : ∀ n : Nat, rng 0 n = ((List.range n).map fun (j : Nat) => 0 + (j : Int)).map D.int := rng_ints 0
  rcases hy with rfl | rfl
  all_goals
    unfold w_law_4; walk_at "dl"
    try simp only [df_law_order, df_law_next]
    try rw [hl]
    refine ⟨⟨ha, by omega, by omega⟩, fun is hi1 hi2 => ?_⟩
    walk_at "dl"
    try rw [hl]
    refine ⟨⟨ha, by omega, by omega⟩, fun js hj1 hj2 => ?_⟩
    walk_at "dl"; walk_at "cj"
    intro z z0 z1
    walk_at "dl"
    split
    · try rw [hl]
      walk_at "cj"
      rw [h0]
      refine key _ is _ ⟨hi1, hi2⟩ ⟨?_, fun i mi => ?_⟩
      · simp; omega
      · obtain ⟨j, mj, rfl⟩ := List.mem_map.mp mi
        rw [List.mem_range] at mj
        omega
    · exact key _ is js ⟨hi1, hi2⟩ ⟨hj1, hj2⟩
theorem wp_law (ds : List D) (om : Om) (k : RV → Om → Prop) (xk : Exn → Om → Prop) (h : df_law ds om k xk) : w_law (endOf k xk) (startE 10 ds) om := by
  unfold df_law at h
  split at h
  · next es =>
    obtain ⟨⟨ns, rfl⟩, h⟩ := h
    unfold w_law; walk_at "dl"
    try simp only [df_law_state]
    refine ⟨⟨ns, rfl⟩, fun es' hP => ?_⟩
    walk_at "dl"
    refine ⟨hP, fun a _ => ?_⟩
    have ha : oset om a (.lstP DeckP) a = some (.lstP DeckP) := oset_same
    generalize oset om a (.lstP DeckP) = om1 at ha ⊢
    try simp only [df_law_width, df_law_next, df_law_rows, df_law_shaped]
    refine ⟨ha, fun w w0 w1 => ?_⟩
    walk_at "dl"
    refine ⟨⟨ha, by omega, by omega⟩, fun c c0 c1 => ?_⟩
    walk_at "dl"; walk_at "cj"
    intro m m0 m1
    walk_at "dl"; walk_at "cj"
    intro rs hr1 hr2 _
    walk_at "dl"
    refine ⟨w.toNat, rs, ⟨ha, rfl, hr2, c0, by omega, by omega⟩, fun ms hp => ?_⟩
    have hw : Wide w.toNat ms := ⟨hr2.1, hr2.2.1, fun r mr => hr2.2.2 r (hp.mem_iff.mp mr)⟩
    have hml := hp.length_eq
    walk_at "dl"
    exact ⟨wp_law_4 ha h _ _ c _ ms w.toNat hw c0 (by omega) (by omega) (.inl rfl), wp_law_4 ha h _ _ c _ ms w.toNat hw c0 (by omega) (by omega) (.inr rfl)⟩
  · exact h.elim
theorem ok_law {P : Program} {w : World} {K : PySem.W.Frag} {mg : Str → Option Value} {base : Heap} {f : Addr} {fd : FuncData} (F : FunD K "law" "law" (defArgs s_law) (defBody s_law) (defScope s_law) [] [] f fd) (T : Txt K mg) (D_law_whole : Def P w K mg base "_law_whole" c_law_whole 1) (D_law_count : Def P w K mg base "_law_count" c_law_count 2) (D_runs_in : Def P w K mg base "runs_in" c_runs_in 5) (D_law_next : Def P w K mg base "_law_next" c_law_next 1) (D_law_order : Def P w K mg base "_law_order" c_law_order 2) (D_law_shaped : Def P w K mg base "_law_shaped" c_law_shaped 2) (D_law_rows : Def P w K mg base "_law_rows" c_law_rows 3) (D_law_width : Def P w K mg base "_law_width" c_law_width 2) (D_law_state : Def P w K mg base "_law_state" c_law_state 1) : FnOk P w K mg base (L2.CX P w) 6 f fd ["_law_script"] (toSp K c_law) :=
  (fn_ok (c := c_law) F sc_law rfl (fun cdv A outer s H E hr => d_law T D_law_whole D_law_count D_runs_in D_law_next D_law_order D_law_shaped D_law_rows D_law_width D_law_state cdv A outer s H E hr) wp_law)
theorem law_start (ns : List Int) (om : Om) (hl : ns.length ≤ 63) (hb : ∀ z ∈ ns, Builtin.Int.intBits z ≤ 1048576) : c_law.df [.frl (ns.map D.int)] om (fun x _ => x = .v (.bl true)) (fun _ _ => False) := ⟨⟨ns, rfl⟩, fun _ => rfl⟩

/-! the end -/
def q_is_number : He.DefD := ⟨("is_number", none), "is_number", "is_number", defArgs s_is_number, defBody s_is_number, defScope s_is_number, [], []⟩
def q_is_row : He.DefD := ⟨("is_row", none), "is_row", "is_row", defArgs s_is_row, defBody s_is_row, defScope s_is_row, [], []⟩
def q_is_rows : He.DefD := ⟨("is_rows", none), "is_rows", "is_rows", defArgs s_is_rows, defBody s_is_rows, defScope s_is_rows, [], []⟩
def q_look : He.DefD := ⟨("look", none), "look", "look", defArgs s_look, defBody s_look, defScope s_look, [], []⟩
def q_less : He.DefD := ⟨("less", none), "less", "less", defArgs s_less, defBody s_less, defScope s_less, [], []⟩
def q_runs_in : He.DefD := ⟨("runs_in", none), "runs_in", "runs_in", defArgs s_runs_in, defBody s_runs_in, defScope s_runs_in, [], []⟩
def q_law_state : He.DefD := ⟨("_law_state", none), "_law_state", "_law_state", defArgs s_law_state, defBody s_law_state, defScope s_law_state, [], []⟩
def q_law_next : He.DefD := ⟨("_law_next", none), "_law_next", "_law_next", defArgs s_law_next, defBody s_law_next, defScope s_law_next, [], []⟩
def q_law_number : He.DefD := ⟨("_law_number", none), "_law_number", "_law_number", defArgs s_law_number, defBody s_law_number, defScope s_law_number, [], []⟩
def q_law_rows : He.DefD := ⟨("_law_rows", none), "_law_rows", "_law_rows", defArgs s_law_rows, defBody s_law_rows, defScope s_law_rows, [], []⟩
def q_law_shaped : He.DefD := ⟨("_law_shaped", none), "_law_shaped", "_law_shaped", defArgs s_law_shaped, defBody s_law_shaped, defScope s_law_shaped, [], []⟩
def q_law_less : He.DefD := ⟨("_law_less", none), "_law_less", "_law_less", defArgs s_law_less, defBody s_law_less, defScope s_law_less, [], []⟩
def q_law_whole : He.DefD := ⟨("_law_whole", none), "_law_whole", "_law_whole", defArgs s_law_whole, defBody s_law_whole, defScope s_law_whole, [], []⟩
def q_law_order : He.DefD := ⟨("_law_order", none), "_law_order", "_law_order", defArgs s_law_order, defBody s_law_order, defScope s_law_order, [], []⟩
def q_law_count : He.DefD := ⟨("_law_count", none), "_law_count", "_law_count", defArgs s_law_count, defBody s_law_count, defScope s_law_count, [], []⟩
def q_law_width : He.DefD := ⟨("_law_width", none), "_law_width", "_law_width", defArgs s_law_width, defBody s_law_width, defScope s_law_width, [], []⟩
def q_law : He.DefD := ⟨("law", none), "law", "law", defArgs s_law, defBody s_law, defScope s_law, [], []⟩
def fn : List He.DefD := [q_is_number, q_is_row, q_is_rows, q_look, q_less, q_runs_in, q_law_state, q_law_next, q_law_number, q_law_rows, q_law_shaped, q_law_less, q_law_whole, q_law_order, q_law_count, q_law_width, q_law]
def fa : List He.Fa := [.glo "is_number", .glo "is_row", .glo "is_rows", .glo "look", .glo "less", .glo "runs_in", .glo "_law_state", .glo "_law_next", .glo "_law_number", .glo "_law_rows", .glo "_law_shaped", .glo "_law_less", .glo "_law_whole", .glo "_law_order", .glo "_law_count", .glo "_law_width", .glo "law", .free "all", .free "bool", .free "int", .free "isinstance", .free "len", .free "list", .free "min", .free "range", .free "sorted", .free "tuple", .free "zip", .int "WIDEST" 24]
abbrev R : PySem.W.OpenRow := PySem.W.OpenLaw.row PySem.Challenge.rw_spillhall_k20_runs_counted
abbrev hk : PySem.W.Hook := He.hookD 6 fa fn
def ob (s : PySem.W.SharedT) : He.AlD := He.obsDG 6 fa fn (HandSHeadRun.getT s)
theorem ob_eq (s : PySem.W.SharedT) : ob s = hk.obs s.abs := He.obsDG_eq (HandSHeadRun.getT_eq s)
def loose : List Str := ["SpillError", "NoRows", "NoColumn", "WIDEST", "is_number", "is_row", "is_rows", "look", "less", "runs_in", "_law_state", "_law_next", "_law_number", "_law_rows", "_law_width", "_law_shaped", "_law_less", "_law_whole", "_law_order", "_law_count"]
theorem run (w : World) : HandSHeadRun.RunEq R (PySem.W.view R.prog [24]) hk ob 4000 loose w := by
  intro os
  kernel_rfl
theorem facts {P : Program} {w : World} {K : PySem.W.Frag} {h : Heap} {mg : Str → Option Value} {f : Addr} (X : K.In h) (G : h.Ns mainGlobals mg) (hfa : mg ("law" : Str) = some (.ref f)) (c : He.SaysD fa fn K) :
    ∃ fd : FuncData, (∀ (s : Shared) (v : Value), BindsTo s fd ⟨[v], []⟩ [("_law_script", v)]) ∧ ∀ base : Heap, K.In base → base.Ns mainGlobals mg → FnOk P w K mg base (L2.CX P w) 6 f fd ["_law_script"] (toSp K c_law) := by
  have T : Txt K mg := ⟨He.free_ok X G (c.fact 17 (f := .free "all") rfl), He.free_ok X G (c.fact 18 (f := .free "bool") rfl), He.free_ok X G (c.fact 19 (f := .free "int") rfl), He.free_ok X G (c.fact 20 (f := .free "isinstance") rfl), He.free_ok X G (c.fact 21 (f := .free "len") rfl), He.free_ok X G (c.fact 22 (f := .free "list") rfl), He.free_ok X G (c.fact 23 (f := .free "min") rfl), He.free_ok X G (c.fact 24 (f := .free "range") rfl), He.free_ok X G (c.fact 25 (f := .free "sorted") rfl), He.free_ok X G (c.fact 26 (f := .free "tuple") rfl), He.free_ok X G (c.fact 27 (f := .free "zip") rfl), ⟨let ⟨t, e⟩ := He.int_ok X G (c.fact 28 (f := .int "WIDEST" 24) rfl); ⟨_, e, ⟨t, rfl⟩⟩, fun _ => .int _⟩⟩
  obtain ⟨fd_is_number, F_is_number⟩ := c.def_ 0 (d := q_is_number) rfl
  have g_is_number := He.glo_ok X G (c.fact 0 (f := .glo "is_number") rfl)
  obtain ⟨fd_is_row, F_is_row⟩ := c.def_ 1 (d := q_is_row) rfl
  have g_is_row := He.glo_ok X G (c.fact 1 (f := .glo "is_row") rfl)
  obtain ⟨fd_is_rows, F_is_rows⟩ := c.def_ 2 (d := q_is_rows) rfl
  have g_is_rows := He.glo_ok X G (c.fact 2 (f := .glo "is_rows") rfl)
  obtain ⟨fd_look, F_look⟩ := c.def_ 3 (d := q_look) rfl
  have g_look := He.glo_ok X G (c.fact 3 (f := .glo "look") rfl)
  obtain ⟨fd_less, F_less⟩ := c.def_ 4 (d := q_less) rfl
  have g_less := He.glo_ok X G (c.fact 4 (f := .glo "less") rfl)
  obtain ⟨fd_runs_in, F_runs_in⟩ := c.def_ 5 (d := q_runs_in) rfl
  have g_runs_in := He.glo_ok X G (c.fact 5 (f := .glo "runs_in") rfl)
  obtain ⟨fd_law_state, F_law_state⟩ := c.def_ 6 (d := q_law_state) rfl
  have g_law_state := He.glo_ok X G (c.fact 6 (f := .glo "_law_state") rfl)
  obtain ⟨fd_law_next, F_law_next⟩ := c.def_ 7 (d := q_law_next) rfl
  have g_law_next := He.glo_ok X G (c.fact 7 (f := .glo "_law_next") rfl)
  obtain ⟨fd_law_number, F_law_number⟩ := c.def_ 8 (d := q_law_number) rfl
  have g_law_number := He.glo_ok X G (c.fact 8 (f := .glo "_law_number") rfl)
  obtain ⟨fd_law_rows, F_law_rows⟩ := c.def_ 9 (d := q_law_rows) rfl
  have g_law_rows := He.glo_ok X G (c.fact 9 (f := .glo "_law_rows") rfl)
  obtain ⟨fd_law_shaped, F_law_shaped⟩ := c.def_ 10 (d := q_law_shaped) rfl
  have g_law_shaped := He.glo_ok X G (c.fact 10 (f := .glo "_law_shaped") rfl)
  obtain ⟨fd_law_less, F_law_less⟩ := c.def_ 11 (d := q_law_less) rfl
  have g_law_less := He.glo_ok X G (c.fact 11 (f := .glo "_law_less") rfl)
  obtain ⟨fd_law_whole, F_law_whole⟩ := c.def_ 12 (d := q_law_whole) rfl
  have g_law_whole := He.glo_ok X G (c.fact 12 (f := .glo "_law_whole") rfl)
  obtain ⟨fd_law_order, F_law_order⟩ := c.def_ 13 (d := q_law_order) rfl
  have g_law_order := He.glo_ok X G (c.fact 13 (f := .glo "_law_order") rfl)
  obtain ⟨fd_law_count, F_law_count⟩ := c.def_ 14 (d := q_law_count) rfl
  have g_law_count := He.glo_ok X G (c.fact 14 (f := .glo "_law_count") rfl)
  obtain ⟨fd_law_width, F_law_width⟩ := c.def_ 15 (d := q_law_width) rfl
  have g_law_width := He.glo_ok X G (c.fact 15 (f := .glo "_law_width") rfl)
  obtain ⟨fd_law, F_law⟩ := c.def_ 16 (d := q_law) rfl
  have g_law := He.glo_ok X G (c.fact 16 (f := .glo "law") rfl)
  have e := hfa.symm.trans g_law
  cases e
  have b := FunD.bindsA (ps := ["_law_script"]) F_law fun _ _ _ _ _ _ us hl => match us, hl with | [_], _ => rfl
  refine ⟨fd_law, fun s v => b s [v] rfl, fun base _ _ => ?_⟩
  have D_is_number : Def P w K mg base "is_number" c_is_number 1 := ⟨_, fd_is_number, ["thing"], ok_is_number F_is_number T, g_is_number, F_is_number.kp, F_is_number.bindsN fun _ _ _ _ _ _ us hl => match us, hl with | [_], _ => rfl⟩
  have D_less : Def P w K mg base "less" c_less 1 := ⟨_, fd_less, ["one", "other", "column"], ok_less F_less T, g_less, F_less.kp, F_less.bindsN fun _ _ _ _ _ _ us hl => match us, hl with | [_, _, _], _ => rfl⟩
  have D_law_state : Def P w K mg base "_law_state" c_law_state 1 := ⟨_, fd_law_state, ["_law_script"], ok_law_state F_law_state T, g_law_state, F_law_state.kp, F_law_state.bindsN fun _ _ _ _ _ _ us hl => match us, hl with | [_], _ => rfl⟩
  have D_law_next : Def P w K mg base "_law_next" c_law_next 1 := ⟨_, fd_law_next, ["_law_state_here", "_law_below"], ok_law_next F_law_next T, g_law_next, F_law_next.kp, F_law_next.bindsN fun _ _ _ _ _ _ us hl => match us, hl with | [_, _], _ => rfl⟩
  have D_law_less : Def P w K mg base "_law_less" c_law_less 1 := ⟨_, fd_law_less, ["_law_one", "_law_other", "_law_column"], ok_law_less F_law_less T, g_law_less, F_law_less.kp, F_law_less.bindsN fun _ _ _ _ _ _ us hl => match us, hl with | [_, _, _], _ => rfl⟩
  have D_law_whole : Def P w K mg base "_law_whole" c_law_whole 1 := ⟨_, fd_law_whole, ["_law_found"], ok_law_whole F_law_whole T, g_law_whole, F_law_whole.kp, F_law_whole.bindsN fun _ _ _ _ _ _ us hl => match us, hl with | [_], _ => rfl⟩
  have D_is_row : Def P w K mg base "is_row" c_is_row 2 := ⟨_, fd_is_row, ["thing"], ok_is_row F_is_row T D_is_number, g_is_row, F_is_row.kp, F_is_row.bindsN fun _ _ _ _ _ _ us hl => match us, hl with | [_], _ => rfl⟩
  have D_law_number : Def P w K mg base "_law_number" c_law_number 2 := ⟨_, fd_law_number, ["_law_state_here", "_law_way"], ok_law_number F_law_number T D_law_next, g_law_number, F_law_number.kp, F_law_number.bindsN fun _ _ _ _ _ _ us hl => match us, hl with | [_, _], _ => rfl⟩
  have D_law_shaped : Def P w K mg base "_law_shaped" c_law_shaped 2 := ⟨_, fd_law_shaped, ["_law_state_here", "_law_rows_here", "_law_column"], ok_law_shaped F_law_shaped T D_law_next, g_law_shaped, F_law_shaped.kp, F_law_shaped.bindsN fun _ _ _ _ _ _ us hl => match us, hl with | [_, _, _], _ => rfl⟩
  have D_law_order : Def P w K mg base "_law_order" c_law_order 2 := ⟨_, fd_law_order, ["_law_state_here", "_law_many"], ok_law_order F_law_order T D_law_next, g_law_order, F_law_order.kp, F_law_order.bindsN fun _ _ _ _ _ _ us hl => match us, hl with | [_, _], _ => rfl⟩
  have D_law_count : Def P w K mg base "_law_count" c_law_count 2 := ⟨_, fd_law_count, ["_law_rows_here", "_law_column", "_law_order_here"], ok_law_count F_law_count T D_law_less, g_law_count, F_law_count.kp, F_law_count.bindsN fun _ _ _ _ _ _ us hl => match us, hl with | [_, _, _], _ => rfl⟩
  have D_law_width : Def P w K mg base "_law_width" c_law_width 2 := ⟨_, fd_law_width, ["_law_state_here"], ok_law_width F_law_width T D_law_next, g_law_width, F_law_width.kp, F_law_width.bindsN fun _ _ _ _ _ _ us hl => match us, hl with | [_], _ => rfl⟩
  have D_is_rows : Def P w K mg base "is_rows" c_is_rows 3 := ⟨_, fd_is_rows, ["thing"], ok_is_rows F_is_rows T D_is_row, g_is_rows, F_is_rows.kp, F_is_rows.bindsN fun _ _ _ _ _ _ us hl => match us, hl with | [_], _ => rfl⟩
  have D_law_rows : Def P w K mg base "_law_rows" c_law_rows 3 := ⟨_, fd_law_rows, ["_law_state_here", "_law_many", "_law_width_here"], ok_law_rows F_law_rows T D_law_next D_law_number, g_law_rows, F_law_rows.kp, F_law_rows.bindsN fun _ _ _ _ _ _ us hl => match us, hl with | [_, _, _], _ => rfl⟩
  have D_look : Def P w K mg base "look" c_look 4 := ⟨_, fd_look, ["rows", "column"], ok_look F_look T D_is_number D_is_rows, g_look, F_look.kp, F_look.bindsN fun _ _ _ _ _ _ us hl => match us, hl with | [_, _], _ => rfl⟩
  have D_runs_in : Def P w K mg base "runs_in" c_runs_in 5 := ⟨_, fd_runs_in, ["rows", "column", "order"], ok_runs_in F_runs_in T D_less D_look, g_runs_in, F_runs_in.kp, F_runs_in.bindsN fun _ _ _ _ _ _ us hl => match us, hl with | [_, _, _], _ => rfl⟩
  exact ok_law F_law T D_law_whole D_law_count D_runs_in D_law_next D_law_order D_law_shaped D_law_rows D_law_width D_law_state
end K20
open PySem PySem.W PySem.Calls PyProof.Rows
theorem PySem.Challenge.cw_spillhall_k20_runs_counted_holds : PySem.Challenge.rw_spillhall_k20_runs_counted.Holds := by
  w_on; o_law
  refine HandSHeadRun.head_any (r := OpenLaw.row PySem.Challenge.rw_spillhall_k20_runs_counted) (q := view (OpenLaw.row PySem.Challenge.rw_spillhall_k20_runs_counted).prog [24]) (H := K20.hk) (ob := K20.ob) (M := 4000) (loose := K20.loose) (d := HandSHeadRun.topDef (OpenLaw.row PySem.Challenge.rw_spillhall_k20_runs_counted).prog 24) (kwd := []) K20.ob_eq
    (by kernel_rfl) (fun s => by kernel_rfl) K20.run (by kernel_rfl) (by kernel_rfl) (by kernel_rfl) (by rfl) (by first | assumption | decide +kernel) (by decide +kernel) ⟨rfl, rfl, rfl, rfl, rfl, by decide +kernel⟩ ?hw ?hc
  case hw => w_witness2
  case hc =>
    refine DL.walk_D (l := PySem.Challenge.rw_spillhall_k20_runs_counted) (n := 63) (k := 6) (x := "_law_script") rfl (by decide) (by kernel_rfl) ⟨rfl, by decide, by decide⟩ ?F
    intro w mg fa h Y G hmg0
    obtain ⟨K, KX, c⟩ := Y
    have hmg : mg ("law" : PySem.Str) = some (.ref fa) := by
      have e : (HandSHeadRun.topDef (OpenLaw.row PySem.Challenge.rw_spillhall_k20_runs_counted).prog 24).name = ("law" : PySem.Str) := by kernel_rfl
      rw [← e]
      exact hmg0
    obtain ⟨fd, hb, hF⟩ := K20.facts (P := (PySem.Challenge.rw_spillhall_k20_runs_counted).prog) (w := w) KX G hmg c
    exact ⟨K, fd, K20.c_law, KX, hb, fun ns om hl hbits => K20.law_start ns om hl hbits, hF⟩
