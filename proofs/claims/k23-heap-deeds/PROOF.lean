import PyProof.Rows.All
import Wide.All
import OpenK.AllK
import Wide.FinOn
import HandS.ForMost
import HandS.ForExc
import HandS.Defaults
import HandS.IsInst
import HandS.CallSlots
import HandS.Wide
import HandS.HeadHook2
import HandS.TupAny
import HandS.TupMul
import HandS.EndBits
import HandS.Head0
import HandS.Head1
import HandS.Head2
import HandS.HeadHook1
import HandS.WordsExc
import HandS.Conv
import HandS.Style
import HandS.TupLe
import HandS.SortRule
import KE.SortData
import KE.DataCmp
import HandS.Deep
import HandS.ExcInit
import HandS.ExcField
import HandS.ExcIs
import HandS.TryOnly
import KE.KExcIs
import HandS.Small
import HandS.RaiseMore
import HandS.Zip
import HandS.Dict
import HandS.More
import HandS.Iter
import KE.DataMinMax
import HandS.SetFor
import HandS.DictComp
import KE.KUnpackStar
import HandS.HeadHook3
import HandS.MakeKw
import PyProof.InstSpecial
import HandS.SetKeys
import HandS.SetBool
import HandS.Strs
import HandS.Rev
import HandS.RevTup
import HandS.DictTup
import PyProof.EqAt
import PyProof.MeetsSeq
import PySem.Challenge.RW_spillhall_k23_heap_deeds
set_option Elab.async false
set_option linter.all false
set_option maxRecDepth 100000
namespace DL
open PySem L2

inductive D where
  | non | bl (b : Bool) | int (i : Int) | str (x : Str) | tup (ds : List D) | lst (ds : List D) | frl (ds : List D)
  | dct (ks : List Key) (vs : List D) | raw (v : V) | h (a : Addr)
  | exc (c : Str) (ns : List Str) (vs : List D) | fn (x : Str)
def EOx (a : Addr) (cls : Value) (d : Option Addr) : HO := .ext fun h => ∃ oe vs, h.get? a = some oe ∧ Zc cls d oe ∧ oe.data = .fields vs

mutual
inductive Rep (K : PySem.W.Frag) (F : Hp) : V → D → Prop
  | non : Rep K F .non .non
  | bl (b : Bool) : Rep K F (.bl b) (.bl b)
  | int (i : Int) : Rep K F (.int i) (.int i)
  | str (x : Str) : Rep K F (.str x) (.str x)
  | tup {a : Addr} {xs : List V} {ds : List D} : SqT K F a xs → RepA K F xs ds → Rep K F (.ref a) (.tup ds)
  | lst {a : Addr} {xs : List V} {ds : List D} : F a = some (.lst xs) → RepA K F xs ds → Rep K F (.ref a) (.lst ds)
  | frl {a : Addr} {xs : List V} {ds : List D} : SqL K F a xs → RepA K F xs ds → Rep K F (.ref a) (.frl ds)
  | dct {a : Addr} {ks : List Key} {xs : List V} {ds : List D} : F a = some (.dK (ks.zip xs)) → xs.length = ks.length → RepA K F xs ds → Rep K F (.ref a) (.dct ks ds)
  | raw (v : V) : Rep K F v (.raw v)
  | h (a : Addr) : Rep K F (.ref a) (.h a)
  | exc0 {a : Addr} {c : Str} : F a = some (EOx a (.ref (He.ga K c)) none) → Rep K F (.ref a) (.exc c [] [])
  | exc1 {a : Addr} {c : Str} {dd : Addr} {ns : List Str} {xs : List V} {ds : List D} : F a = some (EOx a (.ref (He.ga K c)) (some dd)) → F dd = some (.xd (ns.zip xs)) → RepA K F xs ds → Rep K F (.ref a) (.exc c ns ds)
  | fn (x : Str) : Rep K F (.ref (He.ga K x)) (.fn x)
inductive RepA (K : PySem.W.Frag) (F : Hp) : List V → List D → Prop
  | nil : RepA K F [] []
  | cons {v : V} {vs : List V} {d : D} {ds : List D} : Rep K F v d → RepA K F vs ds → RepA K F (v :: vs) (d :: ds)
end

section
variable {K : PySem.W.Frag} {F F' H H' : Hp}
theorem same_sqT {a : Addr} {xs : List V} (e : Same F F') (h : SqT K F a xs) : SqT K F' a xs := by
  rcases h with (h | ⟨o, h⟩) | h
  · exact .inl (.inl (e _ _ h))
  · exact .inl (.inr ⟨o, e _ _ h⟩)
  · exact .inr h
mutual
theorem Rep.mono (hs : Same F F') : ∀ {v : V} {d : D}, Rep K F v d → Rep K F' v d
  | _, _, .non => .non
  | _, _, .bl b => .bl b
  | _, _, .int i => .int i
  | _, _, .str x => .str x
  | _, _, .tup h r => .tup (same_sqT hs h) (RepA.mono hs r)
  | _, _, .lst h r => .lst (hs _ _ h) (RepA.mono hs r)
  | _, _, .frl h r => .frl (hs.seq h) (RepA.mono hs r)
  | _, _, .dct h l r => .dct (hs _ _ h) l (RepA.mono hs r)
  | _, _, .raw v => .raw v
  | _, _, .h a => .h a
  | _, _, .exc0 h => .exc0 (hs _ _ h)
  | _, _, .exc1 h h' r => .exc1 (hs _ _ h) (hs _ _ h') (RepA.mono hs r)
  | _, _, .fn x => .fn x
theorem RepA.mono (hs : Same F F') : ∀ {vs : List V} {ds : List D}, RepA K F vs ds → RepA K F' vs ds
  | _, _, .nil => .nil
  | _, _, .cons r t => .cons (Rep.mono hs r) (RepA.mono hs t)
end
theorem RepA.length : ∀ {vs : List V} {ds : List D}, RepA K F vs ds → vs.length = ds.length
  | _, _, .nil => rfl
  | _, _, .cons _ t => congrArg Nat.succ (RepA.length t)
theorem RepA.append : ∀ {xs ys : List V} {ds es : List D}, RepA K F xs ds → RepA K F ys es → RepA K F (xs ++ ys) (ds ++ es)
  | _, _, _, _, .nil, s => s
  | _, _, _, _, .cons r t, s => .cons r (RepA.append t s)
theorem RepA.get : ∀ {xs : List V} {ds : List D} {i : Nat} {x : V}, RepA K F xs ds → xs[i]? = some x → ∃ d, ds[i]? = some d ∧ Rep K F x d
  | _, _, _, _, .nil, e => by simp at e
  | _, _, 0, _, .cons r _, e => by simp at e; subst e; exact ⟨_, rfl, r⟩
  | _, _, i + 1, x, .cons _ t, e => by
    obtain ⟨u, h1, h2⟩ := RepA.get (i := i) (x := x) t (by simpa using e)
    exact ⟨u, by simpa using h1, h2⟩
theorem RepA.getD : ∀ {xs : List V} {ds : List D} {i : Nat} {d : D}, RepA K F xs ds → ds[i]? = some d → ∃ x, xs[i]? = some x ∧ Rep K F x d
  | _, _, _, _, .nil, e => by simp at e
  | _, _, 0, _, .cons r _, e => by simp at e; subst e; exact ⟨_, rfl, r⟩
  | _, _, i + 1, x, .cons _ t, e => by
    obtain ⟨u, h1, h2⟩ := RepA.getD (i := i) (d := x) t (by simpa using e)
    exact ⟨u, by simpa using h1, h2⟩
theorem RepA.set {x : V} {d : D} (r : Rep K F x d) : ∀ {xs : List V} {ds : List D} (i : Nat), RepA K F xs ds → RepA K F (xs.set i x) (ds.set i d)
  | _, _, _, .nil => .nil
  | _, _, 0, .cons _ t => .cons r t
  | _, _, i + 1, .cons q t => .cons q (RepA.set r i t)
theorem RepA.take : ∀ {xs : List V} {ds : List D} (n : Nat), RepA K F xs ds → RepA K F (xs.take n) (ds.take n)
  | _, _, 0, _ => .nil
  | _, _, _ + 1, .nil => .nil
  | _, _, n + 1, .cons r t => .cons r (RepA.take n t)
theorem RepA.drop : ∀ {xs : List V} {ds : List D} (n : Nat), RepA K F xs ds → RepA K F (xs.drop n) (ds.drop n)
  | _, _, 0, r => r
  | _, _, _ + 1, .nil => .nil
  | _, _, n + 1, .cons _ t => RepA.drop n t
theorem RepA.eraseIdx : ∀ {xs : List V} {ds : List D} (n : Nat), RepA K F xs ds → RepA K F (xs.eraseIdx n) (ds.eraseIdx n)
  | _, _, 0, .cons _ t => t
  | _, _, _, .nil => .nil
  | _, _, n + 1, .cons r t => .cons r (RepA.eraseIdx n t)
theorem RepA.reverse : ∀ {xs : List V} {ds : List D}, RepA K F xs ds → RepA K F xs.reverse ds.reverse
  | _, _, .nil => .nil
  | _, _, .cons r t => by
    simp only [List.reverse_cons]
    exact (RepA.reverse t).append (.cons r .nil)
theorem RepA.repl : ∀ (n : Nat) {x : V} {d : D}, Rep K F x d → RepA K F (List.replicate n x) (List.replicate n d)
  | 0, _, _, _ => .nil
  | n + 1, _, _, r => .cons r (RepA.repl n r)
theorem RepA.flat : ∀ (n : Nat) {xs : List V} {ds : List D}, RepA K F xs ds → RepA K F (List.replicate n xs).flatten (List.replicate n ds).flatten
  | 0, _, _, _ => .nil
  | n + 1, _, _, r => by
    simp only [List.replicate_succ, List.flatten_cons]
    exact r.append (RepA.flat n r)
theorem RepA.ints : ∀ {xs : List V} {ns : List Int}, RepA K F xs (ns.map D.int) → xs = ns.map V.int
  | [], [], _ => rfl
  | [], _ :: _, h => nomatch h
  | _ :: _, [], h => nomatch h
  | x :: xs, n :: ns, h => by
    cases h with
    | cons r t =>
      cases r
      rw [RepA.ints t]
      rfl
theorem repA_ints : ∀ (ns : List Int), RepA K F (ns.map V.int) (ns.map D.int)
  | [] => .nil
  | n :: ns => .cons (.int n) (repA_ints ns)
end

inductive RV where
  | v (d : D) | o (ds : List D) | b (i : Nat)
inductive Ob where
  | lst (ds : List D) | lstP (P : List D → Prop) | dct (ps : List (Int × D)) | ins (c : Str) (ps : List (Str × D))
abbrev Om := Addr → Option Ob
abbrev Env := List (Option RV)
structure Exn where
  cls : Str
  fs : Option (List (Str × D))
abbrev DX := Exn → Env → Om → Prop
abbrev WE := DX → Env → Om → (RV → Env → Om → Prop) → Prop
abbrev WA := DX → Env → Om → (List RV → Env → Om → Prop) → Prop
abbrev WT := DX → Env → Om → (Bool → Env → Om → Prop) → Prop
abbrev WI := DX → Env → Om → (List D → Env → Om → Prop) → Prop
structure DEnds where
  nx : Env → Om → Prop
  rt : RV → Om → Prop
  bk : Env → Om → Prop := fun _ _ => False
  ct : Env → Om → Prop := fun _ _ => False
  xq : DX := fun _ _ _ => False
abbrev WS := DEnds → Env → Om → Prop
abbrev DF := List D → Om → (RV → Om → Prop) → (Exn → Om → Prop) → Prop

def KvOk (K : PySem.W.Frag) (F : Hp) : List (Key × V) → List (Int × D) → Prop
  | [], [] => True
  | (k, v) :: kvs, (i, d) :: ps => k = .inl i ∧ Rep K F v d ∧ KvOk K F kvs ps
  | _, _ => False
theorem KvOk.mono {K : PySem.W.Frag} {F F' : Hp} (hs : Same F F') : ∀ {kvs : List (Key × V)} {ps : List (Int × D)}, KvOk K F kvs ps → KvOk K F' kvs ps
  | [], [], _ => trivial
  | (_, _) :: _, (_, _) :: _, ⟨h1, h2, h3⟩ => ⟨h1, h2.mono hs, KvOk.mono hs h3⟩
  | [], _ :: _, h => h.elim
  | _ :: _, [], h => h.elim
def FsOk (K : PySem.W.Frag) (F : Hp) : List (Str × V) → List (Str × D) → Prop
  | [], [] => True
  | (f, v) :: fs, (g, d) :: ps => f = g ∧ Rep K F v d ∧ FsOk K F fs ps
  | _, _ => False
theorem FsOk.mono {K : PySem.W.Frag} {F F' : Hp} (hs : Same F F') : ∀ {fs : List (Str × V)} {ps : List (Str × D)}, FsOk K F fs ps → FsOk K F' fs ps
  | [], [], _ => trivial
  | (_, _) :: _, (_, _) :: _, ⟨h1, h2, h3⟩ => ⟨h1, h2.mono hs, FsOk.mono hs h3⟩
  | [], _ :: _, h => h.elim
  | _ :: _, [], h => h.elim
def ObOk (K : PySem.W.Frag) (F : Hp) : Option HO → Ob → Prop
  | some (.lst xs), .lst ds => RepA K F xs ds
  | some (.lst xs), .lstP P => ∃ ds, P ds ∧ RepA K F xs ds
  | some (.dK kvs), .dct ps => KvOk K F kvs ps
  | some (.ins C _ fs), .ins c ps => C = He.ga K c ∧ FsOk K F fs ps
  | _, _ => False
theorem ObOk.some {K : PySem.W.Frag} {F : Hp} {o : Option HO} {ob : Ob} (h : ObOk K F o ob) : ∃ u, o = Option.some u := by
  cases o with
  | none => cases ob <;> exact h.elim
  | some u => exact ⟨u, rfl⟩
theorem ObOk.mono {K : PySem.W.Frag} {F F' : Hp} (hs : Same F F') : ∀ {o : Option HO} {ob : Ob}, ObOk K F o ob → ObOk K F' o ob := fun {o ob} h => by
  obtain ⟨u, rfl⟩ := h.some
  cases ob with
  | lst ds =>
    cases u with
    | lst xs => exact RepA.mono hs (show RepA K F xs ds from h)
    | _ => exact h.elim
  | lstP P =>
    cases u with
    | lst xs =>
      obtain ⟨ds, p, r⟩ := (show ∃ ds, P ds ∧ RepA K F xs ds from h)
      exact ⟨ds, p, r.mono hs⟩
    | _ => exact h.elim
  | dct ps =>
    cases u with
    | dK kvs => exact KvOk.mono hs (show KvOk K F kvs ps from h)
    | _ => exact h.elim
  | ins c ps =>
    cases u with
    | ins C dx fs => exact ⟨h.1, FsOk.mono hs h.2⟩
    | _ => exact h.elim
theorem ObOk.dct {K : PySem.W.Frag} {F : Hp} {o : Option HO} {ps : List (Int × D)} (h : ObOk K F o (.dct ps)) : ∃ kvs, o = Option.some (.dK kvs) ∧ KvOk K F kvs ps := by
  obtain ⟨u, rfl⟩ := h.some
  cases u with
  | dK kvs => exact ⟨kvs, rfl, h⟩
  | _ => exact h.elim
theorem ObOk.ins {K : PySem.W.Frag} {F : Hp} {o : Option HO} {c : Str} {ps : List (Str × D)} (h : ObOk K F o (.ins c ps)) : ∃ dx fs, o = Option.some (.ins (He.ga K c) dx fs) ∧ FsOk K F fs ps := by
  obtain ⟨u, rfl⟩ := h.some
  cases u with
  | ins C dx fs => obtain ⟨rfl, h⟩ := h; exact ⟨dx, fs, rfl, h⟩
  | _ => exact h.elim
theorem ObOk.lst {K : PySem.W.Frag} {F : Hp} {o : Option HO} {ds : List D} (h : ObOk K F o (.lst ds)) : ∃ xs, o = Option.some (.lst xs) ∧ RepA K F xs ds := by
  obtain ⟨u, rfl⟩ := h.some
  cases u with
  | lst xs => exact ⟨xs, rfl, h⟩
  | _ => exact h.elim
theorem ObOk.lstP {K : PySem.W.Frag} {F : Hp} {o : Option HO} {P : List D → Prop} (h : ObOk K F o (.lstP P)) : ∃ xs ds, o = Option.some (.lst xs) ∧ P ds ∧ RepA K F xs ds := by
  obtain ⟨u, rfl⟩ := h.some
  cases u with
  | lst xs =>
    obtain ⟨ds, p, r⟩ := (show ∃ ds, P ds ∧ RepA K F xs ds from h)
    exact ⟨xs, ds, rfl, p, r⟩
  | _ => exact h.elim

structure Base where
  F : Hp
  om : Om
  H : Hp
structure Ext (B : Base) (F : Hp) (om : Om) (H : Hp) : Prop where
  f : Same B.F F
  new : ∀ b o, F b = some o → B.F b = none → B.H b = none
  keep : ∀ b o, B.H b = some o → B.om b = none → H b = some o
  dom : ∀ b, H b = none → B.H b = none
  ob : ∀ b o, om b = some o → B.om b = none → B.H b = none
  wf : ∀ b, B.H b = none → B.om b = none
structure RelH (K : PySem.W.Frag) (F : Hp) (om : Om) (H : Hp) : Prop where
  sub : Same F H
  obj : ∀ a ob, om a = some ob → F a = none ∧ ObOk K F (H a) ob
def Own (K : PySem.W.Frag) (B : Base) (F : Hp) (om : Om) (H : Hp) (a : Addr) (ds : List D) : Prop :=
  F a = none ∧ om a = none ∧ B.H a = none ∧ ∃ xs, H a = some (.lst xs) ∧ RepA K F xs ds
def Slot (K : PySem.W.Frag) (B : Base) (F : Hp) (om : Om) (H : Hp) (x : V) : RV → Prop
  | .v d => Rep K F x d
  | .o ds => ∃ a, x = .ref a ∧ Own K B F om H a ds
  | .b _ => False
structure Rel (K : PySem.W.Frag) (B : Base) (F : Hp) (om : Om) (H : Hp) (st : St) (r : Env) : Prop where
  rh : RelH K F om H
  ext : Ext B F om H
  len : r.length = st.length
  slot : ∀ (i : Nat) (x : RV), r[i]? = some (some x) → ∃ y, st[i]? = some (some y) ∧ Slot K B F om H y x
  dis : ∀ (i j : Nat) (a : Addr) (ds es : List D), r[i]? = some (some (.o ds)) → r[j]? = some (some (.o es)) → st[i]? = some (some (.ref a)) → st[j]? = some (some (.ref a)) → i = j
def Res (K : PySem.W.Frag) (B : Base) (F : Hp) (om : Om) (H : Hp) (st : St) (r : Env) (x : V) : RV → Prop
  | .v d => Rep K F x d
  | .o ds => ∃ a, x = .ref a ∧ Own K B F om H a ds ∧ ∀ (j : Nat) (es : List D), r[j]? = some (some (.o es)) → st[j]? ≠ some (some (.ref a))
  | .b i => st[i]? = some (some x)
def ExOk (K : PySem.W.Frag) (F : Hp) (cls : Value) (d : Option Addr) (ex : Exn) : Prop :=
  cls = .ref (He.ga K ex.cls) ∧ match ex.fs with
    | none => d = none
    | some fs => ∃ a xs, d = some a ∧ F a = some (.xd ((fs.map (·.1)).zip xs)) ∧ RepA K F xs (fs.map (·.2))
def XOk (K : PySem.W.Frag) (B : Base) (W : WX) (xq : DX) : Prop :=
  ∀ ex r om F H st cls d, Rel K B F om H st r → ExOk K F cls d ex → xq ex r om → W cls d st H
def KeepE (_ _ : Env) : Prop := True
theorem KeepE.refl (r : Env) : KeepE r r := trivial
theorem KeepE.trans {r r1 r2 : Env} (a : KeepE r r1) (b : KeepE r1 r2) : KeepE r r2 := trivial

def SE (K : PySem.W.Frag) (W : WX) (t : TE) (w : WE) : Prop := ∀ (B : Base) (F : Hp) (om : Om) (H : Hp) (st : St) (r : Env) (xq : DX) (k : RV → Env → Om → Prop) (Q : VK),
  Rel K B F om H st r → XOk K B W xq →
  (∀ x r' om' F' H' y, Rel K B F' om' H' st r' → Same F F' → KeepE r r' → Res K B F' om' H' st r' y x → k x r' om' → Q y H') → w xq r om k → t st H Q
def ST (K : PySem.W.Frag) (W : WX) (t : TT) (w : WT) : Prop := ∀ (B : Base) (F : Hp) (om : Om) (H : Hp) (st : St) (r : Env) (xq : DX) (k : Bool → Env → Om → Prop) (Q : Bool → Hp → Prop),
  Rel K B F om H st r → XOk K B W xq →
  (∀ b r' om' F' H', Rel K B F' om' H' st r' → Same F F' → KeepE r r' → k b r' om' → Q b H') → w xq r om k → t st H Q
def ResA (K : PySem.W.Frag) (F : Hp) (st : St) (r : Env) : List V → List RV → Prop
  | [], [] => True
  | y :: ys, .v d :: xs => Rep K F y d ∧ ResA K F st r ys xs
  | y :: ys, .b i :: xs => st[i]? = some (some y) ∧ ResA K F st r ys xs
  | _, _ => False
def SA (K : PySem.W.Frag) (W : WX) (t : TA) (w : WA) : Prop := ∀ (B : Base) (F : Hp) (om : Om) (H : Hp) (st : St) (r : Env) (xq : DX) (k : List RV → Env → Om → Prop) (Q : List V → Hp → Prop),
  Rel K B F om H st r → XOk K B W xq →
  (∀ xs r' om' F' H' ys, Rel K B F' om' H' st r' → Same F F' → KeepE r r' → ResA K F' st r' ys xs → k xs r' om' → Q ys H') → w xq r om k → t st H Q
structure EndsOk (K : PySem.W.Frag) (B : Base) (D : Ends) (e : DEnds) : Prop where
  nx : ∀ r om F H st, Rel K B F om H st r → e.nx r om → D.nx st H
  rt : ∀ x om F H y, RelH K F om H → Ext B F om H → Slot K B F om H y x → e.rt x om → D.rt y H
  bk : ∀ r om F H st, Rel K B F om H st r → e.bk r om → D.bk st H
  ct : ∀ r om F H st, Rel K B F om H st r → e.ct r om → D.ct st H
def SS (K : PySem.W.Frag) (W : WX) (t : TS) (w : WS) : Prop := ∀ (B : Base) (F : Hp) (om : Om) (H : Hp) (st : St) (r : Env) (D : Ends) (e : DEnds),
  Rel K B F om H st r → XOk K B W e.xq → EndsOk K B D e → w e r om → t D st H

section
variable {K : PySem.W.Frag} {B : Base} {F F' : Hp} {om : Om} {H H' : Hp} {st : St} {r : Env}
theorem Own.ne (o : Own K B F om H a ds) {b : Addr} {u : HO} (h : F b = some u) : b ≠ a := fun e => by
  rw [e, o.1] at h; cases h
theorem Slot.mono {y : V} {x : RV} (hs : Same F F') (hn : ∀ b o, F' b = some o → F b = none → H b = none) (h : Slot K B F om H y x) : Slot K B F' om H y x := by
  cases x with
  | v d => exact Rep.mono hs h
  | o ds =>
    obtain ⟨a, e, o1, o2, o3, xs, o4, o5⟩ := h
    refine ⟨a, e, ?_, o2, o3, xs, o4, o5.mono hs⟩
    cases q : F' a with
    | none => rfl
    | some u => rw [hn a u q o1] at o4; cases o4
  | b _ => exact h
theorem Rel.grow (R : Rel K B F om H st r) (hs : Same F F') (hh : Same H H') (hn : ∀ b o, F' b = some o → F b = none → H b = none) (hsub : Same F' H') : Rel K B F' om H' st r := by
  have dom : ∀ b, H' b = none → H b = none := fun b => hh.free
  refine ⟨⟨hsub, fun a ob e => ?_⟩, ⟨R.ext.f.trans hs, fun b o e n => ?_, fun b o e n => hh b o (R.ext.keep b o e n), fun b e => R.ext.dom b (dom b e), R.ext.ob, R.ext.wf⟩, R.len, fun i x e => ?_, R.dis⟩
  · obtain ⟨h1, h2⟩ := R.rh.obj a ob e
    obtain ⟨u, hu⟩ := h2.some
    refine ⟨?_, ?_⟩
    · cases q : F' a with
      | none => rfl
      | some v => rw [hn a v q h1] at hu; cases hu
    · rw [hh a u hu]
      rw [hu] at h2
      exact h2.mono hs
  · cases q : F b with
    | some u => exact R.ext.new b u q n
    | none => exact R.ext.dom b (hn b o e q)
  · obtain ⟨y, e1, s⟩ := R.slot i x e
    refine ⟨y, e1, ?_⟩
    have s2 := Slot.mono hs hn s
    cases x with
    | v d => exact s2
    | o ds =>
      obtain ⟨a, e, o1, o2, o3, xs, o4, o5⟩ := s2
      exact ⟨a, e, o1, o2, o3, xs, hh _ _ o4, o5⟩
    | b _ => exact s2
theorem Res.grow {y : V} {x : RV} (hs : Same F F') (hh : Same H H') (hn : ∀ b o, F' b = some o → F b = none → H b = none) (h : Res K B F om H st r y x) : Res K B F' om H' st r y x := by
  cases x with
  | v d => exact Rep.mono hs h
  | o ds =>
    obtain ⟨a, e, ⟨o1, o2, o3, xs, o4, o5⟩, o6⟩ := h
    refine ⟨a, e, ⟨?_, o2, o3, xs, hh _ _ o4, o5.mono hs⟩, o6⟩
    cases q : F' a with
    | none => rfl
    | some u => rw [hn a u q o1] at o4; cases o4
  | b _ => exact h
theorem same_upd {p : Addr} {o : HO} (hp : H p = none) : Same H (upd H p o) := fun b u e => by
  rw [upd_ne (ne_of_none e hp)]; exact e
theorem Rel.alloc (R : Rel K B F om H st r) {p : Addr} {o : HO} (hp : H p = none) : Same F (upd F p o) ∧ Rel K B (upd F p o) om (upd H p o) st r := by
  have fp : F p = none := R.rh.sub.free hp
  refine ⟨same_upd fp, R.grow (same_upd fp) (same_upd hp) (fun b u e n => ?_) fun b u e => ?_⟩
  · by_cases hb : b = p
    · subst hb; exact hp
    · rw [upd_ne hb, n] at e; cases e
  · by_cases hb : b = p
    · subst hb; rw [upd_same] at e ⊢; exact e
    · rw [upd_ne hb] at e ⊢; exact R.rh.sub b u e
theorem Rel.allocO (R : Rel K B F om H st r) {p : Addr} {xs : List V} {ds : List D} (hp : H p = none) (hr : RepA K F xs ds) : Rel K B F om (upd H p (.lst xs)) st r ∧ Res K B F om (upd H p (.lst xs)) st r (.ref p) (.o ds) := by
  have fp : F p = none := R.rh.sub.free hp
  refine ⟨R.grow (Same.refl F) (same_upd hp) (fun b u e n => by rw [n] at e; cases e) (fun b u e => same_upd hp b u (R.rh.sub b u e)), p, rfl, ⟨fp, ?_, R.ext.dom p hp, xs, upd_same, hr⟩, fun j es e z => ?_⟩
  · cases q : om p with
    | none => rfl
    | some ob =>
      obtain ⟨u, hu⟩ := (R.rh.obj p ob q).2.some
      rw [hp] at hu; cases hu
  · obtain ⟨y, e1, a, e2, _, _, _, ys, e3, _⟩ := R.slot j (.o es) e
    rw [z] at e1
    cases e1
    cases e2
    rw [hp] at e3; cases e3
theorem Rel.freeze (R : Rel K B F om H st r) {a : Addr} {xs : List V} (h1 : F a = none) (h2 : om a = none) (h3 : B.H a = none) (h4 : H a = some (.lst xs)) (h5 : ∀ (j : Nat) (es : List D), r[j]? = some (some (.o es)) → st[j]? ≠ some (some (.ref a))) :
    Same F (upd F a (.lst xs)) ∧ Rel K B (upd F a (.lst xs)) om H st r := by
  have hs : Same F (upd F a (.lst xs)) := same_upd h1
  refine ⟨hs, ⟨fun b u e => ?_, fun b ob e => ?_⟩, ⟨R.ext.f.trans hs, fun b o e n => ?_, R.ext.keep, R.ext.dom, R.ext.ob, R.ext.wf⟩, R.len, fun i x e => ?_, R.dis⟩
  · by_cases hb : b = a
    · subst hb; rw [upd_same] at e; cases e; exact h4
    · rw [upd_ne hb] at e; exact R.rh.sub b u e
  · have nb : b ≠ a := fun z => by rw [z, h2] at e; cases e
    rw [upd_ne nb]
    exact ⟨(R.rh.obj b ob e).1, (R.rh.obj b ob e).2.mono hs⟩
  · by_cases hb : b = a
    · subst hb; exact h3
    · rw [upd_ne hb] at e; exact R.ext.new b o e n
  · obtain ⟨y, e1, s⟩ := R.slot i x e
    refine ⟨y, e1, ?_⟩
    cases x with
    | v d => exact Rep.mono hs s
    | o ds =>
      obtain ⟨b, rfl, o1, o2, o3, ys, o4, o5⟩ := s
      have nb : b ≠ a := fun z => h5 i ds e (by rw [e1, z])
      exact ⟨b, rfl, by rw [upd_ne nb]; exact o1, o2, o3, ys, o4, o5.mono hs⟩
    | b _ => exact s
def fz : RV → RV
  | .o ds => .v (.lst ds)
  | x => x
theorem Rel.fz (R : Rel K B F om H st r) {y : V} {x : RV} (h : Res K B F om H st r y x) : ∃ F', Same F F' ∧ Rel K B F' om H st r ∧ Res K B F' om H st r y (fz x) := by
  cases x with
  | v d => exact ⟨F, Same.refl F, R, h⟩
  | b i => exact ⟨F, Same.refl F, R, h⟩
  | o ds =>
    obtain ⟨a, rfl, ⟨o1, o2, o3, xs, o4, o5⟩, o6⟩ := h
    obtain ⟨s, R'⟩ := R.freeze o1 o2 o3 o4 o6
    exact ⟨_, s, R', Rep.lst upd_same (o5.mono s)⟩
theorem Rel.put (R : Rel K B F om H st r) {i : Nat} {y : V} {x : RV} (h : Res K B F om H st r y x) (hb : ∀ j, x ≠ .b j) (hi : i < r.length) : Rel K B F om H (st.set i (some y)) (r.set i (some x)) := by
  have hi' : i < st.length := by rw [← R.len]; exact hi
  refine ⟨R.rh, R.ext, by simp [R.len], fun j z e => ?_, fun j k a ds es e1 e2 e3 e4 => ?_⟩
  · by_cases hj : i = j
    · subst hj
      rw [List.getElem?_set_self hi] at e
      cases e
      refine ⟨y, List.getElem?_set_self hi', ?_⟩
      cases x with
      | v d => exact h
      | o ds => obtain ⟨a, e, o, _⟩ := h; exact ⟨a, e, o⟩
      | b j => exact (hb j rfl).elim
    · rw [List.getElem?_set_ne hj] at e
      rw [List.getElem?_set_ne hj]
      exact R.slot j z e
  · have key : ∀ {j k : Nat} {a : Addr} {ds es : List D}, i = j → (r.set i (some x))[j]? = some (some (.o ds)) → (r.set i (some x))[k]? = some (some (.o es)) → (st.set i (some y))[j]? = some (some (.ref a)) → (st.set i (some y))[k]? = some (some (.ref a)) → j = k := by
      intro j k a ds es hj q1 q2 q3 q4
      by_cases hk : i = k
      · exact hj.symm.trans hk
      · subst hj
        rw [List.getElem?_set_self hi] at q1
        rw [List.getElem?_set_self hi'] at q3
        rw [List.getElem?_set_ne hk] at q2 q4
        obtain rfl : x = .o ds := Option.some.inj (Option.some.inj q1)
        obtain rfl : y = .ref a := Option.some.inj (Option.some.inj q3)
        obtain ⟨b, e, _, o6⟩ := h
        cases e
        exact (o6 k es q2 q4).elim
    by_cases hj : i = j
    · exact key hj e1 e2 e3 e4
    · by_cases hk : i = k
      · exact (key hk e2 e1 e4 e3).symm
      · rw [List.getElem?_set_ne hj] at e1 e3
        rw [List.getElem?_set_ne hk] at e2 e4
        exact R.dis j k a ds es e1 e2 e3 e4
theorem Rel.forget (R : Rel K B F om H st r) {r' : Env} {st' : St} (hl : r'.length = st'.length) (h : ∀ (i : Nat) (x : RV), r'[i]? = some (some x) → r[i]? = some (some x) ∧ st'[i]? = st[i]?) : Rel K B F om H st' r' := by
  refine ⟨R.rh, R.ext, hl, fun i x e => ?_, fun i j a ds es e1 e2 e3 e4 => ?_⟩
  · obtain ⟨h1, h2⟩ := h i x e
    obtain ⟨y, e1, s⟩ := R.slot i x h1
    exact ⟨y, by rw [h2]; exact e1, s⟩
  · obtain ⟨h1, h2⟩ := h i _ e1
    obtain ⟨h3, h4⟩ := h j _ e2
    exact R.dis i j a ds es h1 h3 (by rw [← h2]; exact e3) (by rw [← h4]; exact e4)
theorem Rel.write (R : Rel K B F om H st r) {i : Nat} {a : Addr} {ds es : List D} {ys : List V} (e : r[i]? = some (some (.o ds))) (ea : st[i]? = some (some (.ref a))) (hr : RepA K F ys es) : Rel K B F om (upd H a (.lst ys)) st (r.set i (some (.o es))) := by
  obtain ⟨y, e1, b, e2, o1, o2, o3, xs, o4, o5⟩ := R.slot i _ e
  rw [ea] at e1
  cases e1
  cases e2
  have hi : i < r.length := (List.getElem?_eq_some_iff.mp e).1
  refine ⟨⟨fun b u q => ?_, fun b ob q => ?_⟩, ⟨R.ext.f, R.ext.new, fun b u q n => ?_, fun b q => ?_, R.ext.ob, R.ext.wf⟩, by simp [R.len], fun j z q => ?_, fun j k c d1 d2 q1 q2 q3 q4 => ?_⟩
  · have nb : b ≠ a := fun z => by rw [z, o1] at q; cases q
    rw [upd_ne nb]; exact R.rh.sub b u q
  · have nb : b ≠ a := fun z => by rw [z, o2] at q; cases q
    rw [upd_ne nb]; exact R.rh.obj b ob q
  · have nb : b ≠ a := fun z => by rw [z, o3] at q; cases q
    rw [upd_ne nb]; exact R.ext.keep b u q n
  · by_cases hb : b = a
    · subst hb; exact o3
    · rw [upd_ne hb] at q; exact R.ext.dom b q
  · by_cases hj : i = j
    · subst hj
      rw [List.getElem?_set_self hi] at q
      cases q
      exact ⟨_, ea, a, rfl, o1, o2, o3, ys, upd_same, hr⟩
    · rw [List.getElem?_set_ne hj] at q
      obtain ⟨y, e1, s⟩ := R.slot j z q
      refine ⟨y, e1, ?_⟩
      cases z with
      | v d => exact s
      | o d1 =>
        obtain ⟨c, rfl, p1, p2, p3, zs, p4, p5⟩ := s
        have nb : c ≠ a := fun z => hj (R.dis i j a ds d1 e q ea (by rw [e1, z]))
        exact ⟨c, rfl, p1, p2, p3, zs, by rw [upd_ne nb]; exact p4, p5⟩
      | b _ => exact s
  · have back : ∀ {j : Nat} {d1 : List D}, (r.set i (some (.o es)))[j]? = some (some (.o d1)) → ∃ d2, r[j]? = some (some (.o d2)) := fun {j d1} q => by
      by_cases hj : i = j
      · subst hj; exact ⟨ds, e⟩
      · rw [List.getElem?_set_ne hj] at q; exact ⟨d1, q⟩
    obtain ⟨d3, q5⟩ := back q1
    obtain ⟨d4, q6⟩ := back q2
    exact R.dis j k c d3 d4 q5 q6 q3 q4
def Base.guard (B : Base) (p : Addr) (o : HO) : Base := ⟨B.F, B.om, upd B.H p o⟩
theorem Rel.guard (R : Rel K B F om H st r) {p : Addr} {o : HO} (h1 : F p = none) (h2 : om p = none) (h4 : H p = some o) (h5 : ∀ (j : Nat) (es : List D), r[j]? = some (some (.o es)) → st[j]? ≠ some (some (.ref p))) : Rel K (B.guard p o) F om H st r := by
  refine ⟨R.rh, ⟨R.ext.f, fun b u e n => ?_, fun b u e n => ?_, fun b e => ?_, fun b u e n => ?_, fun b e => R.ext.wf b ?_⟩, R.len, fun i x e => ?_, R.dis⟩
  · have nb : b ≠ p := fun z => by rw [z, h1] at e; cases e
    show upd B.H p o b = none
    rw [upd_ne nb]; exact R.ext.new b u e n
  · by_cases hb : b = p
    · subst hb
      have e' : upd B.H b o b = some u := e
      rw [upd_same] at e'; cases e'; exact h4
    · have e' : upd B.H p o b = some u := e
      rw [upd_ne hb] at e'; exact R.ext.keep b u e' n
  · have nb : b ≠ p := fun z => by rw [z, h4] at e; cases e
    show upd B.H p o b = none
    rw [upd_ne nb]; exact R.ext.dom b e
  · have nb : b ≠ p := fun z => by rw [z, h2] at e; cases e
    show upd B.H p o b = none
    rw [upd_ne nb]; exact R.ext.ob b u e n
  · have e' : upd B.H p o b = none := e
    have nb : b ≠ p := fun z => by rw [z, upd_same] at e'; cases e'
    rw [upd_ne nb] at e'; exact e'
  · obtain ⟨y, e1, s⟩ := R.slot i x e
    refine ⟨y, e1, ?_⟩
    cases x with
    | v d => exact s
    | o ds =>
      obtain ⟨a, rfl, o1, o2, o3, xs, o4, o5⟩ := s
      have nb : a ≠ p := fun z => h5 i ds e (by rw [e1, z])
      exact ⟨a, rfl, o1, o2, by show upd B.H p o a = none; rw [upd_ne nb]; exact o3, xs, o4, o5⟩
    | b _ => exact s
theorem Rel.unguard {p : Addr} {o : HO} (R : Rel K (B.guard p o) F om H st r) (hF : B.F p = none) (hO : B.om p = none) (hp : B.H p = none) : Rel K B F om H st r ∧ F p = none ∧ om p = none ∧ H p = some o ∧ ∀ (j : Nat) (es : List D), r[j]? = some (some (.o es)) → st[j]? ≠ some (some (.ref p)) := by
  have gp : (B.guard p o).H p = some o := upd_same
  have back : ∀ b, (B.guard p o).H b = none → B.H b = none := fun b e => by
    have e' : upd B.H p o b = none := e
    by_cases hb : b = p
    · subst hb; exact hp
    · rw [upd_ne hb] at e'; exact e'
  have f1 : F p = none := by
    cases q : F p with
    | none => rfl
    | some u =>
      have := R.ext.new p u q hF
      rw [gp] at this; cases this
  have f2 : om p = none := by
    cases q : om p with
    | none => rfl
    | some u =>
      have := R.ext.ob p u q hO
      rw [gp] at this; cases this
  refine ⟨⟨R.rh, ⟨R.ext.f, fun b u e n => back b (R.ext.new b u e n), fun b u e n => R.ext.keep b u ?_ n, fun b e => back b (R.ext.dom b e), fun b u e n => back b (R.ext.ob b u e n), fun b e => ?_⟩, R.len, fun i x e => ?_, R.dis⟩, f1, f2, R.ext.keep p o gp hO, fun j es e z => ?_⟩
  · show upd B.H p o b = some u
    have nb : b ≠ p := fun z => by rw [z, hp] at e; cases e
    rw [upd_ne nb]; exact e
  · by_cases hb : b = p
    · rw [hb]; exact hO
    · exact R.ext.wf b (by show upd B.H p o b = none; rw [upd_ne hb]; exact e)
  · obtain ⟨y, e1, s⟩ := R.slot i x e
    refine ⟨y, e1, ?_⟩
    cases x with
    | v d => exact s
    | o ds =>
      obtain ⟨a, rfl, o1, o2, o3, xs, o4, o5⟩ := s
      exact ⟨a, rfl, o1, o2, back a o3, xs, o4, o5⟩
    | b _ => exact s
  · obtain ⟨y, e1, a, e2, _, _, o3, _⟩ := R.slot j _ e
    rw [z] at e1
    cases e1
    cases e2
    rw [gp] at o3; cases o3
theorem Rel.writeX (R : Rel K B F om H st r) {p : Addr} {o : HO} (h1 : F p = none) (h2 : om p = none) (h3 : B.H p = none) (h5 : ∀ (j : Nat) (es : List D), r[j]? = some (some (.o es)) → st[j]? ≠ some (some (.ref p))) : Rel K B F om (upd H p o) st r := by
  refine ⟨⟨fun b u q => ?_, fun b ob q => ?_⟩, ⟨R.ext.f, R.ext.new, fun b u q n => ?_, fun b q => ?_, R.ext.ob, R.ext.wf⟩, R.len, fun j z q => ?_, R.dis⟩
  · have nb : b ≠ p := fun z => by rw [z, h1] at q; cases q
    rw [upd_ne nb]; exact R.rh.sub b u q
  · have nb : b ≠ p := fun z => by rw [z, h2] at q; cases q
    rw [upd_ne nb]; exact R.rh.obj b ob q
  · have nb : b ≠ p := fun z => by rw [z, h3] at q; cases q
    rw [upd_ne nb]; exact R.ext.keep b u q n
  · by_cases hb : b = p
    · subst hb; exact h3
    · rw [upd_ne hb] at q; exact R.ext.dom b q
  · obtain ⟨y, e1, s⟩ := R.slot j z q
    refine ⟨y, e1, ?_⟩
    cases z with
    | v d => exact s
    | o d1 =>
      obtain ⟨c, rfl, p1, p2, p3, zs, p4, p5⟩ := s
      have nb : c ≠ p := fun z => h5 j d1 q (by rw [e1, z])
      exact ⟨c, rfl, p1, p2, p3, zs, by rw [upd_ne nb]; exact p4, p5⟩
    | b _ => exact s
end
end DL

set_option Elab.async false
set_option linter.all false
set_option maxRecDepth 100000
namespace DL
open PySem L2

def wd {α : Type} : Option α → (α → Prop) → Prop
  | some a, k => k a
  | none, _ => False
@[simp] theorem wd_some {α : Type} (a : α) (k : α → Prop) : wd (some a) k = k a := rfl
@[simp] theorem wd_none {α : Type} (k : α → Prop) : wd none k = False := rfl
theorem wd_iff {α : Type} {o : Option α} {k : α → Prop} (h : wd o k) : ∃ a, o = some a ∧ k a := by
  cases o with
  | none => exact h.elim
  | some a => exact ⟨a, rfl, h⟩
def deref (om : Om) : D → D
  | .h a => match om a with
    | some (.lst ds) => .lst ds
    | _ => .h a
  | d => d
def datB (r : Env) (om : Om) : RV → Option D
  | .v d => some (deref om d)
  | .o ds => some (.lst ds)
  | .b i => match r[i]? with
    | some (some (.o ds)) => some (.lst ds)
    | some (some (.v d)) => some (deref om d)
    | _ => none
def datE : RV → Option D
  | .v d => some d
  | .o ds => some (.lst ds)
  | .b _ => none
def datsB (r : Env) (om : Om) : List RV → Option (List D)
  | [] => some []
  | x :: xs => match datB r om x, datsB r om xs with
    | some d, some ds => some (d :: ds)
    | _, _ => none
def datsE : List RV → Option (List D)
  | [] => some []
  | x :: xs => match datE x, datsE xs with
    | some d, some ds => some (d :: ds)
    | _, _ => none
def RepB (K : PySem.W.Frag) (F H : Hp) (y : V) (d : D) : Prop := Rep K F y d ∨ ∃ a xs ds, y = .ref a ∧ d = .lst ds ∧ H a = some (.lst xs) ∧ RepA K F xs ds
def RepBs (K : PySem.W.Frag) (F H : Hp) : List V → List D → Prop
  | [], [] => True
  | y :: ys, d :: ds => RepB K F H y d ∧ RepBs K F H ys ds
  | _, _ => False
section
variable {K : PySem.W.Frag} {B : Base} {F F' : Hp} {om : Om} {H H' : Hp} {st : St} {r : Env} {W : WX}
theorem RelH.deref (R : RelH K F om H) {y : V} {d : D} (h : Rep K F y d) : RepB K F H y (deref om d) := by
  cases d with
  | h a =>
    cases h
    unfold DL.deref
    cases q : om a with
    | none => exact .inl (by simpa [q] using Rep.h a)
    | some ob =>
      cases ob with
      | lst ds =>
        obtain ⟨xs, e, rr⟩ := (R.obj a _ q).2.lst
        exact .inr ⟨a, xs, ds, rfl, by simp [q], e, rr⟩
      | lstP P => exact .inl (by simpa [q] using Rep.h a)
      | dct ps => exact .inl (by simpa [q] using Rep.h a)
      | ins c ps => exact .inl (by simpa [q] using Rep.h a)
  | _ => exact .inl h
theorem Rel.datB (R : Rel K B F om H st r) {y : V} {x : RV} {d : D} (h : Res K B F om H st r y x) (e : datB r om x = some d) : RepB K F H y d := by
  cases x with
  | v d' =>
    have e' : DL.deref om d' = d := Option.some.inj e
    subst e'
    exact R.rh.deref h
  | o ds =>
    have e' : D.lst ds = d := Option.some.inj e
    subst e'
    obtain ⟨a, rfl, ⟨_, _, _, xs, h4, h5⟩, _⟩ := h
    exact .inr ⟨a, xs, ds, rfl, rfl, h4, h5⟩
  | b i =>
    have h1 : st[i]? = some (some y) := h
    simp only [DL.datB] at e
    obtain ⟨z, h2⟩ : ∃ z, r[i]? = some (some z) := by
      cases q : r[i]? with
      | none => rw [q] at e; cases e
      | some o =>
        cases o with
        | none => rw [q] at e; cases e
        | some z => exact ⟨z, rfl⟩
    obtain ⟨y', h3, s⟩ := R.slot i z h2
    rw [h1] at h3
    cases h3
    rw [h2] at e
    cases z with
    | v d' =>
      have e' : DL.deref om d' = d := Option.some.inj e
      subst e'
      exact R.rh.deref s
    | o ds =>
      have e' : D.lst ds = d := Option.some.inj e
      subst e'
      obtain ⟨a, rfl, _, _, _, xs, h4, h5⟩ := s
      exact .inr ⟨a, xs, ds, rfl, rfl, h4, h5⟩
    | b _ => exact s.elim
theorem datE_rep {y : V} {x : RV} {d : D} (h : Res K B F om H st r y (fz x)) (e : datE x = some d) : Rep K F y d := by
  cases x with
  | v d' => cases e; exact h
  | o ds => cases e; exact h
  | b i => cases e
theorem Res.later {y : V} {x : RV} {r' : Env} {om' : Om} (h : Res K B F om H st r y (fz x)) (hs : Same F F') (hk : KeepE r r') : Res K B F' om' H' st r' y (fz x) := by
  cases x with
  | v d => exact Rep.mono hs h
  | o ds => exact Rep.mono hs h
  | b i => exact h
theorem datB_fz {om : Om} {r : Env} {x : RV} {d : D} (e : datB r om x = some d) : datB r om (fz x) = some d := by
  cases x with
  | v d' => exact e
  | o ds => exact e
  | b i => exact e

structure Grow (F H F' H' : Hp) : Prop where
  f : Same F F'
  h : Same H H'
  new : ∀ b o, F' b = some o → F b = none → H b = none
  sub : Same F' H'
theorem Grow.refl (s : Same F H) : Grow F H F H := ⟨Same.refl _, Same.refl _, fun b o e n => (by rw [n] at e; cases e), s⟩
theorem Grow.alloc (s : Same F H) {p : Addr} {o : HO} (hp : H p = none) : Grow F H (upd F p o) (upd H p o) := by
  have fp : F p = none := s.free hp
  refine ⟨same_upd fp, same_upd hp, fun b u e n => ?_, fun b u e => ?_⟩
  · by_cases hb : b = p
    · subst hb; exact hp
    · rw [upd_ne hb, n] at e; cases e
  · by_cases hb : b = p
    · subst hb; rw [upd_same] at e ⊢; exact e
    · rw [upd_ne hb] at e ⊢; exact s b u e
theorem Grow.allocO (s : Same F H) {p : Addr} {o : HO} (hp : H p = none) : Grow F H F (upd H p o) :=
  ⟨Same.refl _, same_upd hp, fun b u e n => (by rw [n] at e; cases e), fun b u e => same_upd hp b u (s b u e)⟩
def ResP (K : PySem.W.Frag) (F' H H' : Hp) (y : V) : RV → Prop
  | .v d => Rep K F' y d
  | .o ds => ∃ a xs, y = .ref a ∧ H a = none ∧ F' a = none ∧ H' a = some (.lst xs) ∧ RepA K F' xs ds
  | .b _ => False
theorem ResP.newL (s : Same F H) {p : Addr} {xs : List V} {ds : List D} (hp : H p = none) (h : RepA K F xs ds) : ResP K F H (upd H p (.lst xs)) (.ref p) (.o ds) := ⟨p, xs, rfl, hp, s.free hp, upd_same, h⟩
theorem ResP.newT (s : Same F H) {p : Addr} {xs : List V} {ds : List D} (hp : H p = none) (h : RepA K F xs ds) : ResP K (upd F p (.tup xs)) H (upd H p (.tup xs)) (.ref p) (.v (.tup ds)) :=
  Rep.tup (SqT.of upd_same) (h.mono (same_upd (s.free hp)))
theorem Rel.finish (R : Rel K B F om H st r) (g : Grow F H F' H') {y : V} {x : RV} (h : ResP K F' H H' y x) : Rel K B F' om H' st r ∧ Res K B F' om H' st r y x := by
  have R' := R.grow g.f g.h g.new g.sub
  refine ⟨R', ?_⟩
  cases x with
  | v d => exact h
  | o ds =>
    obtain ⟨a, xs, rfl, hn, hf, hh, hr⟩ := h
    refine ⟨a, rfl, ⟨hf, ?_, R.ext.dom a hn, xs, hh, hr⟩, fun j es e z => ?_⟩
    · cases q : om a with
      | none => rfl
      | some ob =>
        obtain ⟨u, hu⟩ := (R.rh.obj a ob q).2.some
        rw [hn] at hu; cases hu
    · obtain ⟨y, e1, a', e2, _, _, _, ys, e3, _⟩ := R.slot j (.o es) e
      rw [z] at e1
      cases e1
      cases e2
      rw [hn] at e3; cases e3
  | b _ => exact h.elim

abbrev P2 := D → D → (RV → Prop) → Prop
abbrev P1 := D → (RV → Prop) → Prop
abbrev PN := List D → (RV → Prop) → Prop
def S2 (K : PySem.W.Frag) (rr : R2) (p : P2) : Prop := ∀ (F H : Hp) (x y : V) (d e : D) (c : RV → Prop) (Q : VK), Same F H → RepB K F H x d → RepB K F H y e → p d e c →
  (∀ z v F' H', Grow F H F' H' → ResP K F' H H' v z → c z → Q v H') → rr x y H Q
def S1 (K : PySem.W.Frag) (rr : V → Hp → VK → Prop) (p : P1) : Prop := ∀ (F H : Hp) (x : V) (d : D) (c : RV → Prop) (Q : VK), Same F H → RepB K F H x d → p d c →
  (∀ z v F' H', Grow F H F' H' → ResP K F' H H' v z → c z → Q v H') → rr x H Q
def SN (K : PySem.W.Frag) (rr : List V → Hp → VK → Prop) (p : PN) : Prop := ∀ (F H : Hp) (xs : List V) (ds : List D) (c : RV → Prop) (Q : VK), Same F H → RepBs K F H xs ds → p ds c →
  (∀ z v F' H', Grow F H F' H' → ResP K F' H H' v z → c z → Q v H') → rr xs H Q
theorem S2.or {r1 r2 : R2} {p p1 p2 : P2} (h1 : S2 K r1 p1) (h2 : S2 K r2 p2) (h : ∀ d e c, p d e c → p1 d e c ∨ p2 d e c) : S2 K (fun x y H Q => r1 x y H Q ∨ r2 x y H Q) p := fun F H x y d e c Q s rx ry q hQ => by
  rcases h d e c q with q | q
  · exact .inl (h1 F H x y d e c Q s rx ry q hQ)
  · exact .inr (h2 F H x y d e c Q s rx ry q hQ)
theorem OpR.or {X : Cx} {f : Value → Value → Sem Value} {r r' : R2} (h : OpR X f r) (h' : OpR X f r') : OpR X f (fun x y H Q => r x y H Q ∨ r' x y H Q) := by
  intro pins s σ H x y v u Q I rx ry q
  rcases q with q | q
  · exact h pins s σ H x y v u Q I rx ry q
  · exact h' pins s σ H x y v u Q I rx ry q
theorem SN.or {r1 r2 : List V → Hp → VK → Prop} {p p1 p2 : PN} (h1 : SN K r1 p1) (h2 : SN K r2 p2) (h : ∀ d c, p d c → p1 d c ∨ p2 d c) : SN K (fun x H Q => r1 x H Q ∨ r2 x H Q) p := fun F H x d c Q s rx q hQ => by
  rcases h d c q with q | q
  · exact .inl (h1 F H x d c Q s rx q hQ)
  · exact .inr (h2 F H x d c Q s rx q hQ)

def wVar (i : Nat) : WE := fun _ r om k => match r[i]? with
  | some (some (.v d)) => k (.v d) r om
  | some (some (.o ds)) => k (.v (.lst ds)) (r.set i (some (.v (.lst ds)))) om
  | _ => False
def wBor (i : Nat) : WE := fun _ r om k => match r[i]? with
  | some (some (.v d)) => k (.v d) r om
  | some (some (.o _)) => k (.b i) r om
  | _ => False
def wMov (i : Nat) : WE := fun _ r om k => match r[i]? with
  | some (some (.v d)) => k (.v d) r om
  | some (some (.o ds)) => k (.o ds) r om
  | _ => False
def wC (d : D) : WE := fun _ r om k => k (.v d) r om
theorem KeepE.set {i : Nat} {x : RV} : KeepE r (r.set i (some x)) := trivial
theorem se_var (i : Nat) : SE K W (tVar i) (wVar i) := by
  intro B F om H st r xq k Q R hx hQ hw
  unfold wVar at hw
  cases e : r[i]? with
  | none => rw [e] at hw; exact hw.elim
  | some o =>
    rw [e] at hw
    cases o with
    | none => exact hw.elim
    | some x =>
      obtain ⟨y, e1, s⟩ := R.slot i x e
      refine ⟨y, e1, ?_⟩
      cases x with
      | v d => exact hQ (.v d) _ _ _ _ _ R (Same.refl _) (KeepE.refl _) s hw
      | o ds =>
        obtain ⟨a, rfl, o1, o2, o3, xs, o4, o5⟩ := s
        have hi := (List.getElem?_eq_some_iff.mp e).1
        -- the slot is forgotten, the list frozen, the slot given anew
        have R1 : Rel K B F om H st (r.set i none) := R.forget (by simp [R.len]) fun j z q => by
          by_cases hj : i = j
          · subst hj; rw [List.getElem?_set_self hi] at q; cases q
          · rw [List.getElem?_set_ne hj] at q; exact ⟨q, rfl⟩
        obtain ⟨hs, R2⟩ := R1.freeze o1 o2 o3 o4 (fun j es q z => by
          by_cases hj : i = j
          · subst hj; rw [List.getElem?_set_self hi] at q; cases q
          · rw [List.getElem?_set_ne hj] at q
            exact hj (R.dis i j a ds es e q e1 z))
        have rp : Rep K (upd F a (.lst xs)) (.ref a) (.lst ds) := Rep.lst upd_same (o5.mono hs)
        have R3 := R2.put (i := i) (y := .ref a) (x := .v (.lst ds)) rp (fun j z => by cases z) (by simpa using hi)
        rw [List.set_set] at R3
        have est : st.set i (some (.ref a)) = st := by
          apply List.ext_getElem?
          intro j
          by_cases hj : i = j
          · subst hj; rw [List.getElem?_set_self (by rw [← R.len]; exact hi), e1]
          · rw [List.getElem?_set_ne hj]
        rw [est] at R3
        exact hQ (.v (.lst ds)) _ _ _ _ _ R3 hs KeepE.set rp hw
      | b j => exact s.elim
theorem se_bor (i : Nat) : SE K W (tVar i) (wBor i) := by
  intro B F om H st r xq k Q R hx hQ hw
  unfold wBor at hw
  cases e : r[i]? with
  | none => rw [e] at hw; exact hw.elim
  | some o =>
    rw [e] at hw
    cases o with
    | none => exact hw.elim
    | some x =>
      obtain ⟨y, e1, s⟩ := R.slot i x e
      refine ⟨y, e1, ?_⟩
      cases x with
      | v d => exact hQ (.v d) _ _ _ _ _ R (Same.refl _) (KeepE.refl _) s hw
      | o ds => exact hQ (.b i) _ _ _ _ _ R (Same.refl _) (KeepE.refl _) e1 hw
      | b j => exact s.elim
theorem se_c {v : V} {d : D} (h : ∀ F, Rep K F v d) : SE K W (tC v) (wC d) := by
  intro B F om H st r xq k Q R hx hQ hw
  exact hQ (.v d) _ _ _ _ _ R (Same.refl _) (KeepE.refl _) (h F) hw
def wOp (p : P2) (wa wb : WE) : WE := fun xq r om k => wa xq r om fun x r1 om1 => wb xq r1 om1 fun y r2 om2 =>
  wd (datB r2 om2 x) fun d => wd (datB r2 om2 y) fun e => p d e fun z => k z r2 om2
theorem se_op {ta tb : TE} {wa wb : WE} {rr : R2} {p : P2} (ha : SE K W ta wa) (hb : SE K W tb wb) (hp : S2 K rr p) : SE K W (tOp rr ta tb) (wOp p wa wb) := by
  intro B F om H st r xq k Q R hx hQ hw
  refine ha B F om H st r xq _ _ R hx (fun x r1 om1 F1 H1 y R1 s1 k1 q1 hw => ?_) hw
  obtain ⟨F2, s2, R2, q2⟩ := R1.fz q1
  refine hb B F2 om1 H1 st r1 xq _ _ R2 hx (fun x' r3 om3 F3 H3 y' R3 s3 k3 q3 hw => ?_) hw
  obtain ⟨d, e1, hw⟩ := wd_iff hw
  obtain ⟨e, e2, hw⟩ := wd_iff hw
  have q2' := Res.later (H' := H3) (om' := om3) q2 s3 k3
  refine hp F3 H3 y y' d e _ _ R3.rh.sub (R3.datB q2' (datB_fz e1)) (R3.datB q3 e2) hw fun z v F4 H4 g rp hc => ?_
  obtain ⟨R4, q4⟩ := R3.finish g rp
  exact hQ _ _ _ _ _ _ R4 (((s1.trans s2).trans s3).trans g.f) (k1.trans k3) q4 hc
def wUn (p : P1) (wa : WE) : WE := fun xq r om k => wa xq r om fun x r1 om1 => wd (datB r1 om1 x) fun d => p d fun z => k z r1 om1
def wNil : WA := fun _ r om k => k [] r om
def wCons (wa : WE) (wr : WA) : WA := fun xq r om k => wa xq r om fun x r1 om1 => wr xq r1 om1 fun xs r2 om2 => k (fz x :: xs) r2 om2
theorem sa_nil : SA K W tNil wNil := by
  intro B F om H st r xq k Q R hx hQ hw
  exact hQ [] _ _ _ _ _ R (Same.refl _) (KeepE.refl _) trivial hw
theorem sa_cons {ta : TE} {wa : WE} {tr : TA} {wr : WA} (ha : SE K W ta wa) (hr : SA K W tr wr) : SA K W (tCons ta tr) (wCons wa wr) := by
  intro B F om H st r xq k Q R hx hQ hw
  refine ha B F om H st r xq _ _ R hx (fun x r1 om1 F1 H1 y R1 s1 k1 q1 hw => ?_) hw
  obtain ⟨F2, s2, R2, q2⟩ := R1.fz q1
  refine hr B F2 om1 H1 st r1 xq _ _ R2 hx (fun xs r3 om3 F3 H3 ys R3 s3 k3 q3 hw => ?_) hw
  refine hQ _ _ _ _ _ _ R3 ((s1.trans s2).trans s3) (k1.trans k3) ?_ hw
  have q2' := Res.later (H' := H3) (om' := om3) q2 s3 k3
  cases x with
  | v d => exact ⟨q2', q3⟩
  | o ds => exact ⟨q2', q3⟩
  | b i => exact ⟨q2', q3⟩
theorem Rel.datsB (R : Rel K B F om H st r) : ∀ {ys : List V} {xs : List RV} {ds : List D}, ResA K F st r ys xs → datsB r om xs = some ds → RepBs K F H ys ds
  | [], [], ds, _, e => by cases e; trivial
  | y :: ys, x :: xs, ds, h, e => by
    unfold DL.datsB at e
    cases e1 : DL.datB r om x with
    | none => rw [e1] at e; cases e
    | some d =>
      cases e2 : DL.datsB r om xs with
      | none => rw [e1, e2] at e; cases e
      | some es =>
        rw [e1, e2] at e
        cases e
        cases x with
        | v d' => exact ⟨R.datB (x := .v d') h.1 e1, R.datsB h.2 e2⟩
        | b i => exact ⟨R.datB (x := .b i) h.1 e1, R.datsB h.2 e2⟩
        | o _ => exact h.elim
  | [], _ :: _, _, h, _ => h.elim
  | _ :: _, [], _, h, _ => h.elim
theorem datsE_rep : ∀ {ys : List V} {xs : List RV} {ds : List D}, ResA K F st r ys xs → datsE xs = some ds → RepA K F ys ds
  | [], [], ds, _, e => by cases e; exact .nil
  | y :: ys, x :: xs, ds, h, e => by
    unfold datsE at e
    cases e1 : datE x with
    | none => rw [e1] at e; cases e
    | some d =>
      cases e2 : datsE xs with
      | none => rw [e1, e2] at e; cases e
      | some es =>
        rw [e1, e2] at e
        cases e
        cases x with
        | v d' => cases e1; exact .cons h.1 (datsE_rep h.2 e2)
        | b i => cases e1
        | o _ => exact h.elim
  | [], _ :: _, _, h, _ => h.elim
  | _ :: _, [], _, h, _ => h.elim
def wCB (p : PN) (wa : WA) : WE := fun xq r om k => wa xq r om fun xs r1 om1 => wd (datsB r1 om1 xs) fun ds => p ds fun z => k z r1 om1
theorem se_cb {ta : TA} {wa : WA} {rr : List V → Hp → VK → Prop} {p : PN} (ha : SA K W ta wa) (hp : SN K rr p) : SE K W (tCB rr ta) (wCB p wa) := by
  intro B F om H st r xq k Q R hx hQ hw
  refine ha B F om H st r xq _ _ R hx (fun xs r1 om1 F1 H1 ys R1 s1 k1 q1 hw => ?_) hw
  obtain ⟨ds, e1, hw⟩ := wd_iff hw
  refine hp F1 H1 ys ds _ _ R1.rh.sub (R1.datsB q1 e1) hw fun z v F4 H4 g rp hc => ?_
  obtain ⟨R4, q4⟩ := R1.finish g rp
  exact hQ _ _ _ _ _ _ R4 (s1.trans g.f) k1 q4 hc
def wTup (wa : WA) : WE := fun xq r om k => wa xq r om fun xs r1 om1 => wd (datsE xs) fun ds => ds.length ≤ sizeLine ∧ k (.v (.tup ds)) r1 om1
def wLst (wa : WA) : WE := fun xq r om k => wa xq r om fun xs r1 om1 => wd (datsE xs) fun ds => ds.length ≤ sizeLine ∧ k (.o ds) r1 om1
theorem se_tup {ta : TA} {wa : WA} (ha : SA K W ta wa) : SE K W (tTup ta) (wTup wa) := by
  intro B F om H st r xq k Q R hx hQ hw
  refine ha B F om H st r xq _ _ R hx (fun xs r1 om1 F1 H1 ys R1 s1 k1 q1 hw => ?_) hw
  obtain ⟨ds, e1, hl, hw⟩ := wd_iff hw
  have rp := datsE_rep q1 e1
  refine ⟨by rw [rp.length]; exact hl, fun p hp => ?_⟩
  obtain ⟨s2, R2⟩ := R1.alloc (o := .tup ys) hp
  exact hQ (.v (.tup ds)) _ _ _ _ _ R2 (s1.trans s2) k1 (Rep.tup (SqT.of upd_same) (rp.mono s2)) hw
theorem se_lst {ta : TA} {wa : WA} (ha : SA K W ta wa) : SE K W (tLst ta) (wLst wa) := by
  intro B F om H st r xq k Q R hx hQ hw
  refine ha B F om H st r xq _ _ R hx (fun xs r1 om1 F1 H1 ys R1 s1 k1 q1 hw => ?_) hw
  obtain ⟨ds, e1, hl, hw⟩ := wd_iff hw
  have rp := datsE_rep q1 e1
  refine ⟨by rw [rp.length]; exact hl, fun p hp => ?_⟩
  obtain ⟨R2, q2⟩ := R1.allocO hp rp
  exact hQ _ _ _ _ _ _ R2 s1 k1 q2 hw

def truD : D → Option Bool
  | .non => some false
  | .bl b => some b
  | .int i => some (i != 0)
  | .tup ds => some !ds.isEmpty
  | .lst ds => some !ds.isEmpty
  | .frl ds => some !ds.isEmpty
  | .str x => if x.length ≤ sizeLine then some ((x.length : Int) != 0) else none
  | _ => none
def boolD : D → Option Bool
  | .bl b => some b
  | _ => none
theorem boolD_inv {d : D} {b : Bool} (e : boolD d = some b) : d = .bl b := by
  cases d with
  | bl c => cases e; rfl
  | _ => cases e
def wTru (wa : WE) : WT := fun xq r om k => wa xq r om fun x r1 om1 => wd (datB r1 om1 x) fun d => wd (truD d) fun b => k b r1 om1
def wTst (wa : WE) : WT := fun xq r om k => wa xq r om fun x r1 om1 => wd (datB r1 om1 x) fun d => wd (boolD d) fun b => k b r1 om1
theorem repA_emp {xs : List V} {ds : List D} (h : RepA K F xs ds) : (!xs.isEmpty) = !ds.isEmpty := by cases h <;> rfl
theorem RepB.lstS (s : Same F H) {y : V} {ds : List D} (h : RepB K F H y (.lst ds)) : ∃ a xs, y = .ref a ∧ H a = some (.lst xs) ∧ RepA K F xs ds := by
  rcases h with h | ⟨a, xs, es, e1, e2, h1, h2⟩
  · cases h with
    | lst q rr => exact ⟨_, _, rfl, s _ _ q, rr⟩
  · cases e2; exact ⟨a, xs, e1, h1, h2⟩
theorem RepB.frlS (s : Same F H) {y : V} {ds : List D} (h : RepB K F H y (.frl ds)) : ∃ a xs, y = .ref a ∧ SqL K H a xs ∧ RepA K F xs ds := by
  rcases h with h | ⟨a, xs, es, e1, e2, h1, h2⟩
  · cases h with
    | frl q rr => exact ⟨_, _, rfl, s.seq q, rr⟩
  · cases e2
theorem RepB.tupS (s : Same F H) {y : V} {ds : List D} (h : RepB K F H y (.tup ds)) : ∃ a xs, y = .ref a ∧ SqT K H a xs ∧ RepA K F xs ds := by
  rcases h with h | ⟨a, xs, es, e1, e2, h1, h2⟩
  · cases h with
    | tup q rr => exact ⟨_, _, rfl, same_sqT s q, rr⟩
  · cases e2
theorem RepB.intS {y : V} {i : Int} (h : RepB K F H y (.int i)) : y = .int i := by
  rcases h with h | ⟨a, xs, es, e1, e2, h1, h2⟩
  · cases h; rfl
  · cases e2
theorem RepB.blS {y : V} {i : Bool} (h : RepB K F H y (.bl i)) : y = .bl i := by
  rcases h with h | ⟨a, xs, es, e1, e2, h1, h2⟩
  · cases h; rfl
  · cases e2
theorem RepB.strS {y : V} {i : Str} (h : RepB K F H y (.str i)) : y = .str i := by
  rcases h with h | ⟨a, xs, es, e1, e2, h1, h2⟩
  · cases h; rfl
  · cases e2
theorem RepB.nonS {y : V} (h : RepB K F H y .non) : y = .non := by
  rcases h with h | ⟨a, xs, es, e1, e2, h1, h2⟩
  · cases h; rfl
  · cases e2
theorem tru_rep (s : Same F H) {y : V} {d : D} {b : Bool} (h : RepB K F H y d) (e : truD d = some b) : TruV K y H b := by
  cases d with
  | non => obtain rfl := h.nonS; cases e; rfl
  | bl c => obtain rfl := h.blS; cases e; rfl
  | int i => obtain rfl := h.intS; cases e; rfl
  | str x =>
    obtain rfl := h.strS
    simp only [truD] at e
    by_cases hx : x.length ≤ sizeLine
    · rw [if_pos hx] at e; cases e; exact ⟨hx, rfl⟩
    · rw [if_neg hx] at e; cases e
  | tup ds =>
    obtain ⟨a, xs, rfl, q, rr⟩ := h.tupS s
    cases e
    exact .inr (.inl ⟨xs, q, (repA_emp rr).symm⟩)
  | lst ds =>
    obtain ⟨a, xs, rfl, q, rr⟩ := h.lstS s
    cases e
    exact .inl ⟨xs, SqL.of q, (repA_emp rr).symm⟩
  | frl ds =>
    obtain ⟨a, xs, rfl, q, rr⟩ := h.frlS s
    cases e
    exact .inl ⟨xs, q, (repA_emp rr).symm⟩
  | _ => cases e
theorem st_tru {ta : TE} {wa : WE} (ha : SE K W ta wa) : ST K W (fun σ H Q => ta σ H fun x H' => ∃ k, TruV K x H' k ∧ Q k H') (wTru wa) := by
  intro B F om H st r xq k Q R hx hQ hw
  refine ha B F om H st r xq _ _ R hx (fun x r1 om1 F1 H1 y R1 s1 k1 q1 hw => ?_) hw
  obtain ⟨d, e1, hw⟩ := wd_iff hw
  obtain ⟨b, e2, hw⟩ := wd_iff hw
  exact ⟨b, tru_rep R1.rh.sub (R1.datB q1 e1) e2, hQ _ _ _ _ _ R1 s1 k1 hw⟩
theorem st_tst {ta : TE} {wa : WE} (ha : SE K W ta wa) : ST K W (tTest ta) (wTst wa) := by
  intro B F om H st r xq k Q R hx hQ hw
  refine ha B F om H st r xq _ _ R hx (fun x r1 om1 F1 H1 y R1 s1 k1 q1 hw => ?_) hw
  obtain ⟨d, e1, hw⟩ := wd_iff hw
  obtain ⟨b, e2, hw⟩ := wd_iff hw
  obtain rfl := boolD_inv e2
  exact ⟨b, (R1.datB q1 e1).blS, hQ _ _ _ _ _ R1 s1 k1 hw⟩
def wAnd (wa wb : WT) : WT := fun xq r om k => wa xq r om fun b r1 om1 => if b = true then wb xq r1 om1 k else k false r1 om1
def wOr (wa wb : WT) : WT := fun xq r om k => wa xq r om fun b r1 om1 => if b = true then k true r1 om1 else wb xq r1 om1 k
def wNot (wa : WT) : WT := fun xq r om k => wa xq r om fun b r1 om1 => k (!b) r1 om1
theorem st_and {ta tb : TT} {wa wb : WT} (ha : ST K W ta wa) (hb : ST K W tb wb) : ST K W (tAnd ta tb) (wAnd wa wb) := by
  intro B F om H st r xq k Q R hx hQ hw
  refine ha B F om H st r xq _ _ R hx (fun b r1 om1 F1 H1 R1 s1 k1 hw => ?_) hw
  cases b with
  | true => exact hb B F1 om1 H1 st r1 xq k Q R1 hx (fun b' r2 om2 F2 H2 R2 s2 k2 h => hQ _ _ _ _ _ R2 (s1.trans s2) (k1.trans k2) h) hw
  | false => exact hQ _ _ _ _ _ R1 s1 k1 hw
theorem st_or {ta tb : TT} {wa wb : WT} (ha : ST K W ta wa) (hb : ST K W tb wb) : ST K W (tOr ta tb) (wOr wa wb) := by
  intro B F om H st r xq k Q R hx hQ hw
  refine ha B F om H st r xq _ _ R hx (fun b r1 om1 F1 H1 R1 s1 k1 hw => ?_) hw
  cases b with
  | false => exact hb B F1 om1 H1 st r1 xq k Q R1 hx (fun b' r2 om2 F2 H2 R2 s2 k2 h => hQ _ _ _ _ _ R2 (s1.trans s2) (k1.trans k2) h) hw
  | true => exact hQ _ _ _ _ _ R1 s1 k1 hw
theorem st_not {ta : TT} {wa : WT} (ha : ST K W ta wa) : ST K W (tNot ta) (wNot wa) := by
  intro B F om H st r xq k Q R hx hQ hw
  exact ha B F om H st r xq _ _ R hx (fun b r1 om1 F1 H1 R1 s1 k1 hw => hQ _ _ _ _ _ R1 s1 k1 hw) hw
def wAndV (wa wb : WE) : WE := fun xq r om k => wa xq r om fun x r1 om1 => wd (datB r1 om1 x) fun d => wd (boolD d) fun b => if b = true then wb xq r1 om1 k else k (.v (.bl false)) r1 om1
def wOrV (wa wb : WE) : WE := fun xq r om k => wa xq r om fun x r1 om1 => wd (datB r1 om1 x) fun d => wd (boolD d) fun b => if b = true then k (.v (.bl true)) r1 om1 else wb xq r1 om1 k
def wNotV (wa : WE) : WE := fun xq r om k => wa xq r om fun x r1 om1 => wd (datB r1 om1 x) fun d => wd (boolD d) fun b => k (.v (.bl (!b))) r1 om1
theorem se_andV {ta tb : TE} {wa wb : WE} (ha : SE K W ta wa) (hb : SE K W tb wb) : SE K W (tAndV ta tb) (wAndV wa wb) := by
  intro B F om H st r xq k Q R hx hQ hw
  refine ha B F om H st r xq _ _ R hx (fun x r1 om1 F1 H1 y R1 s1 k1 q1 hw => ?_) hw
  obtain ⟨d, e1, hw⟩ := wd_iff hw
  obtain ⟨b, e2, hw⟩ := wd_iff hw
  obtain rfl := boolD_inv e2
  refine ⟨b, (R1.datB q1 e1).blS, ?_⟩
  cases b with
  | true => exact hb B F1 om1 H1 st r1 xq k Q R1 hx (fun x r2 om2 F2 H2 y R2 s2 k2 q h => hQ _ _ _ _ _ _ R2 (s1.trans s2) (k1.trans k2) q h) hw
  | false => exact hQ _ _ _ _ _ _ R1 s1 k1 (show Res K B F1 om1 H1 st r1 (.bl false) (.v (.bl false)) from Rep.bl false) hw
theorem se_notV {ta : TE} {wa : WE} (ha : SE K W ta wa) : SE K W (tNotV ta) (wNotV wa) := by
  intro B F om H st r xq k Q R hx hQ hw
  refine ha B F om H st r xq _ _ R hx (fun x r1 om1 F1 H1 y R1 s1 k1 q1 hw => ?_) hw
  obtain ⟨d, e1, hw⟩ := wd_iff hw
  obtain ⟨b, e2, hw⟩ := wd_iff hw
  obtain rfl := boolD_inv e2
  exact ⟨b, (R1.datB q1 e1).blS, hQ _ _ _ _ _ _ R1 s1 k1 (show Res K B F1 om1 H1 st r1 (.bl (!b)) (.v (.bl (!b))) from Rep.bl _) hw⟩
def wIf (wt : WT) (wa wb : WE) : WE := fun xq r om k => wt xq r om fun b r1 om1 => if b = true then wa xq r1 om1 k else wb xq r1 om1 k
def wChain (p p' : P2) (wa wb wc : WE) : WE := fun xq r om k => wa xq r om fun x r1 om1 => wb xq r1 om1 fun y r2 om2 => wd (datB r2 om2 x) fun d => wd (datB r2 om2 y) fun e =>
  p d e fun z => wd (datB r2 om2 z) fun f => wd (boolD f) fun b => if b = true then wc xq r2 om2 fun u r3 om3 => wd (datB r3 om3 y) fun e' => wd (datB r3 om3 u) fun g => p' e' g fun z => k z r3 om3 else k (.v (.bl false)) r2 om2
end
end DL

set_option Elab.async false
set_option linter.all false
set_option maxRecDepth 100000
namespace DL
open PySem L2
section
variable {K : PySem.W.Frag} {B : Base} {F F' : Hp} {om : Om} {H H' : Hp} {st : St} {r : Env} {W : WX}
def wNext : WS := fun e r om => e.nx r om
def wSeq (a b : WS) : WS := fun e r om => a { e with nx := b e } r om
def wIfS (wt : WT) (a b : WS) : WS := fun e r om => wt e.xq r om fun c r1 om1 => if c = true then a e r1 om1 else b e r1 om1
def wDrop (w : WE) : WS := fun e r om => w e.xq r om fun _ r1 om1 => e.nx r1 om1
def noB : RV → Prop
  | .b _ => False
  | _ => True
@[simp] theorem noB_v (d : D) : noB (.v d) = True := rfl
@[simp] theorem noB_o (d : List D) : noB (.o d) = True := rfl
@[simp] theorem noB_b (d : Nat) : noB (.b d) = False := rfl
def wRet (w : WE) : WS := fun e r om => w e.xq r om fun x _ om1 => noB x ∧ e.rt x om1
def wRetN : WS := fun e _ om => e.rt (.v .non) om
def wBrk : WS := fun e r om => e.bk r om
def wCnt : WS := fun e r om => e.ct r om
abbrev GT := RV → Env → (Env → Prop) → Prop
def gN (i : Nat) : GT := fun x r k => noB x ∧ i < r.length ∧ k (r.set i (some x))
def wAsg (w : WE) (g : GT) : WS := fun e r om => w e.xq r om fun x r1 om1 => g x r1 fun r2 => e.nx r2 om1
theorem ss_next : SS K W tNext wNext := fun B F om H st r D e R hx hE hw => hE.nx _ _ _ _ _ R hw
theorem ss_seq {ta tb : TS} {wa wb : WS} (ha : SS K W ta wa) (hb : SS K W tb wb) : SS K W (tSeq ta tb) (wSeq wa wb) := fun B F om H st r D e R hx hE hw =>
  ha B F om H st r { D with nx := tb D } { e with nx := wb e } R hx ⟨fun r1 om1 F1 H1 st1 R1 h => hb B F1 om1 H1 st1 r1 D e R1 hx hE h, hE.rt, hE.bk, hE.ct⟩ hw
theorem ss_if {tt : TT} {wt : WT} {ta tb : TS} {wa wb : WS} (ht : ST K W tt wt) (ha : SS K W ta wa) (hb : SS K W tb wb) : SS K W (tIfS tt ta tb) (wIfS wt wa wb) := fun B F om H st r D e R hx hE hw => by
  refine ht B F om H st r e.xq _ _ R hx (fun b r1 om1 F1 H1 R1 s1 k1 hw => ?_) hw
  cases b with
  | true => exact ha B F1 om1 H1 st r1 D e R1 hx hE hw
  | false => exact hb B F1 om1 H1 st r1 D e R1 hx hE hw
theorem ss_drop {ta : TE} {wa : WE} (ha : SE K W ta wa) : SS K W (tDrop ta) (wDrop wa) := fun B F om H st r D e R hx hE hw =>
  ha B F om H st r e.xq _ _ R hx (fun x r1 om1 F1 H1 y R1 s1 k1 q1 hw => hE.nx _ _ _ _ _ R1 hw) hw
theorem Res.slot {y : V} {x : RV} (h : Res K B F om H st r y x) (hb : noB x) : Slot K B F om H y x := by
  cases x with
  | v d => exact h
  | o ds => obtain ⟨a, e, o, _⟩ := h; exact ⟨a, e, o⟩
  | b i => exact hb.elim
theorem ss_ret {ta : TE} {wa : WE} (ha : SE K W ta wa) : SS K W (tRet ta) (wRet wa) := fun B F om H st r D e R hx hE hw =>
  ha B F om H st r e.xq _ _ R hx (fun x r1 om1 F1 H1 y R1 s1 k1 q1 hw => hE.rt _ _ _ _ _ R1.rh R1.ext (q1.slot hw.1) hw.2) hw
theorem ss_retV (i : Nat) : SS K W (tRet (tVar i)) (wRet (wMov i)) := fun B F om H st r D e R hx hE hw => by
  have hw' : wMov i e.xq r om fun x _ om1 => noB x ∧ e.rt x om1 := hw
  unfold wMov at hw'
  cases q : r[i]? with
  | none => rw [q] at hw'; exact hw'.elim
  | some o =>
    rw [q] at hw'
    cases o with
    | none => exact hw'.elim
    | some x =>
      obtain ⟨y, e1, s⟩ := R.slot i x q
      refine ⟨y, e1, ?_⟩
      cases x with
      | v d => exact hE.rt _ _ _ _ _ R.rh R.ext s hw'.2
      | o ds => exact hE.rt _ _ _ _ _ R.rh R.ext s hw'.2
      | b j => exact s.elim
theorem ss_brk : SS K W tBreak wBrk := fun B F om H st r D e R hx hE hw => hE.bk _ _ _ _ _ R hw
def SG (K : PySem.W.Frag) (g : TG) (w : GT) : Prop := ∀ (B : Base) (F : Hp) (om : Om) (H : Hp) (st : St) (r : Env) (y : V) (x : RV) (k : Env → Prop) (Q : St → Hp → Prop),
  Rel K B F om H st r → Res K B F om H st r y x → (∀ st' r', Rel K B F om H st' r' → k r' → Q st' H) → w x r k → g y st H Q
theorem sg_name (i : Nat) : SG K (gName i) (gN i) := fun B F om H st r y x k Q R h hQ hw => by
  obtain ⟨h1, h2, h3⟩ := hw
  exact hQ _ _ (R.put h (fun j z => by rw [z] at h1; exact h1) h2) h3
theorem ss_asg {ta : TE} {wa : WE} {g : TG} {w : GT} (ha : SE K W ta wa) (hg : SG K g w) : SS K W (tAsg ta g) (wAsg wa w) := fun B F om H st r D e R hx hE hw =>
  ha B F om H st r e.xq _ _ R hx (fun x r1 om1 F1 H1 y R1 s1 k1 q1 hw => hg B F1 om1 H1 st r1 y x _ _ R1 q1 (fun st' r' R' h => hE.nx _ _ _ _ _ R' h) hw) hw
abbrev GTs := List D → Env → (Env → Prop) → Prop
def gsNil : GTs := fun ds r k => ds = [] ∧ k r
def gsCons (i : Nat) (g : GTs) : GTs := fun ds r k => match ds with
  | [] => False
  | d :: ds => i < r.length ∧ g ds (r.set i (some (.v d))) k
def SGs (K : PySem.W.Frag) (g : TGs) (w : GTs) : Prop := ∀ (B : Base) (F : Hp) (om : Om) (H : Hp) (st : St) (r : Env) (ys : List V) (ds : List D) (k : Env → Prop) (Q : St → Hp → Prop),
  Rel K B F om H st r → RepA K F ys ds → (∀ st' r', Rel K B F om H st' r' → k r' → Q st' H) → w ds r k → g ys st H Q
theorem sgs_nil : SGs K gNil gsNil := fun B F om H st r ys ds k Q R h hQ hw => by
  obtain ⟨rfl, hw⟩ := hw
  cases h
  exact ⟨rfl, hQ _ _ R hw⟩
theorem sgs_cons (i : Nat) {g : TGs} {w : GTs} (hg : SGs K g w) : SGs K (gCons (gName i) g) (gsCons i w) := fun B F om H st r ys ds k Q R h hQ hw => by
  cases h with
  | nil => exact hw.elim
  | cons hr ht =>
    obtain ⟨h1, hw⟩ := hw
    refine ⟨_, _, rfl, ?_⟩
    exact hg B F om H _ _ _ _ _ _ (R.put (x := .v _) hr (fun j z => by cases z) h1) ht hQ hw
def gT (n : Nat) (g : GTs) : GT := fun x r k => match x with
  | .v (.tup ds) => ds.length = n ∧ g ds r k
  | _ => False
theorem sg_tup {n : Nat} {g : TGs} {w : GTs} (hg : SGs K g w) : SG K (gTup K n g) (gT n w) := fun B F om H st r y x k Q R h hQ hw => by
  cases x with
  | v d =>
    cases d with
    | tup ds =>
      obtain ⟨hl, hw⟩ := hw
      cases h with
      | tup q rr => exact ⟨_, _, rfl, same_sqT R.rh.sub q, by rw [rr.length]; exact hl, hg B F om H st r _ _ _ _ R rr hQ hw⟩
    | _ => exact hw.elim
  | o ds => exact hw.elim
  | b i => exact hw.elim

def loop (step : D → (Env → Om → Prop) → Env → Om → Prop) : List D → (Env → Om → Prop) → Env → Om → Prop
  | [], fin => fin
  | d :: ds, fin => step d (loop step ds fin)
@[simp] theorem loop_nil (step : D → (Env → Om → Prop) → Env → Om → Prop) (fin : Env → Om → Prop) : loop step [] fin = fin := rfl
theorem loop_cons (step : D → (Env → Om → Prop) → Env → Om → Prop) (d : D) (ds : List D) (fin : Env → Om → Prop) : loop step (d :: ds) fin = step d (loop step ds fin) := rfl
def ItOk (K : PySem.W.Frag) (J : It) (F : Hp) (items : List D) : Prop :=
  (∀ (i : Nat) (F' H : Hp), Same F F' → Same F' H → items.length ≤ i → J.stop i H) ∧
  (∀ (i : Nat) (d : D) (F' H : Hp), Same F F' → Same F' H → items[i]? = some d → J.go i H ∧ ∀ x H', J.yld i H x H' → ∃ F'', Grow F' H F'' H' ∧ Rep K F'' x d)
def SI (K : PySem.W.Frag) (W : WX) (t : TI) (w : WI) : Prop := ∀ (B : Base) (F : Hp) (om : Om) (H : Hp) (st : St) (r : Env) (xq : DX) (k : List D → Env → Om → Prop) (Q : It → Hp → Prop),
  Rel K B F om H st r → XOk K B W xq →
  (∀ J items r' om' F' H', Rel K B F' om' H' st r' → Same F F' → KeepE r r' → ItOk K J F' items → k items r' om' → Q J H') → w xq r om k → t st H Q
def stepOf (g : GT) (wb : WS) (e : DEnds) : D → (Env → Om → Prop) → Env → Om → Prop := fun d nx r om => g (.v d) r fun r' => wb { e with nx := nx, ct := nx, bk := e.nx } r' om
def wFor (wi : WI) (g : GT) (wb : WS) : WS := fun e r om => wi e.xq r om fun items r1 om1 => loop (stepOf g wb e) items e.nx r1 om1
theorem ss_for {ti : TI} {wi : WI} {g : TG} {w : GT} {tb : TS} {wb : WS} (hi : SI K W ti wi) (hg : SG K g w) (hb : SS K W tb wb) : SS K W (tFor ti g tb) (wFor wi w wb) := fun B F om H st r D e R hx hE hw => by
  refine hi B F om H st r e.xq _ _ R hx (fun J items r1 om1 F1 H1 R1 s1 k1 hJ hw => ?_) hw
  refine ⟨fun i m st' H' => m = items.length - i ∧ ∃ r' om' F', Rel K B F' om' H' st' r' ∧ Same F1 F' ∧ i ≤ items.length ∧ loop (stepOf w wb e) (items.drop i) e.nx r' om', ⟨items.length, by simp, r1, om1, F1, R1, Same.refl _, Nat.zero_le _, by simpa using hw⟩, ?_⟩
  rintro i m st2 H2 ⟨rfl, r2, om2, F2, R2, s2, hle, hl⟩
  by_cases hlt : i < items.length
  · have hd : items.drop i = items[i] :: items.drop (i + 1) := List.drop_eq_getElem_cons hlt
    rw [hd, loop_cons] at hl
    obtain ⟨go, yl⟩ := hJ.2 i items[i] F2 H2 s2 R2.rh.sub (List.getElem?_eq_getElem hlt)
    refine .inr ⟨go, fun st' H' => ∃ r' om' F', Rel K B F' om' H' st' r' ∧ Same F1 F' ∧ loop (stepOf w wb e) (items.drop (i + 1)) e.nx r' om', fun st' H' ⟨r', om', F', R', s', h'⟩ => ⟨items.length - (i + 1), by omega, rfl, r', om', F', R', s', hlt, h'⟩, fun x H' y => ?_⟩
    obtain ⟨F3, g3, rp⟩ := yl x H' y
    have R3 := R2.grow g3.f g3.h g3.new g3.sub
    have hl' : w (.v items[i]) r2 fun r' => wb { e with nx := loop (stepOf w wb e) (items.drop (i + 1)) e.nx, ct := loop (stepOf w wb e) (items.drop (i + 1)) e.nx, bk := e.nx } r' om2 := hl
    refine hg B F3 om2 H' st2 r2 x (.v items[i]) _ _ R3 rp (fun st4 r4 R4 hk => ?_) hl'
    have sub3 : Same F1 F3 := s2.trans g3.f
    -- the body; frozen things stay: remembered by a guard-free argument: every later F contains F1 through B? carried in the wish
    refine hb ⟨F3, B.om, B.H⟩ F3 om2 H' st4 r4 _ { e with nx := loop (stepOf w wb e) (items.drop (i + 1)) e.nx, ct := loop (stepOf w wb e) (items.drop (i + 1)) e.nx, bk := e.nx } ⟨R4.rh, ⟨Same.refl _, fun b o e' n => (by have n' : F3 b = none := n; rw [n'] at e'; cases e'), R4.ext.keep, R4.ext.dom, R4.ext.ob, R4.ext.wf⟩, R4.len, R4.slot, R4.dis⟩ ?_ ?_ hk
    · exact fun ex r5 om5 F5 H5 st5 cls d R5 hex hq => hx ex r5 om5 F5 H5 st5 cls d ⟨R5.rh, ⟨R4.ext.f.trans R5.ext.f, fun b o q n => by
        cases z : F3 b with
        | some u => exact R4.ext.new b u z n
        | none => exact R5.ext.new b o q z, R5.ext.keep, R5.ext.dom, R5.ext.ob, R5.ext.wf⟩, R5.len, R5.slot, R5.dis⟩ hex hq
    · have back : ∀ {r5 : Env} {om5 : Om} {F5 H5 : Hp} {st5 : St}, Rel K ⟨F3, B.om, B.H⟩ F5 om5 H5 st5 r5 → Rel K B F5 om5 H5 st5 r5 ∧ Same F1 F5 := fun {r5 om5 F5 H5 st5} R5 => ⟨⟨R5.rh, ⟨R4.ext.f.trans R5.ext.f, fun b o q n => by
        cases z : F3 b with
        | some u => exact R4.ext.new b u z n
        | none => exact R5.ext.new b o q z, R5.ext.keep, R5.ext.dom, R5.ext.ob, R5.ext.wf⟩, R5.len, R5.slot, R5.dis⟩, sub3.trans R5.ext.f⟩
      refine ⟨fun r5 om5 F5 H5 st5 R5 h => ?_, fun x5 om5 F5 H5 y5 rh5 ex5 sl5 h => ?_, fun r5 om5 F5 H5 st5 R5 h => ?_, fun r5 om5 F5 H5 st5 R5 h => ?_⟩
      · exact ⟨r5, om5, F5, (back R5).1, (back R5).2, h⟩
      · refine hE.rt x5 om5 F5 H5 y5 rh5 ⟨R4.ext.f.trans ex5.f, fun b o q n => ?_, ex5.keep, ex5.dom, ex5.ob, ex5.wf⟩ sl5 h
        cases z : F3 b with
        | some u => exact R4.ext.new b u z n
        | none => exact ex5.new b o q z
      · exact hE.nx _ _ _ _ _ (back R5).1 h
      · exact ⟨r5, om5, F5, (back R5).1, (back R5).2, h⟩
  · have e0 : items.drop i = [] := List.drop_eq_nil_of_le (by omega)
    rw [e0, loop_nil] at hl
    exact .inl ⟨hJ.1 i F2 H2 s2 R2.rh.sub (by omega), hE.nx _ _ _ _ _ R2 hl⟩
def wWhile (wt : WT) (wb : WS) : WS := fun e r om => ∃ I : Nat → Env → Om → Prop, (∃ m, I m r om) ∧ ∀ m r om, I m r om →
  wt e.xq r om fun b r1 om1 => if b = true then wb { e with nx := fun r' om' => ∃ m', m' < m ∧ I m' r' om', ct := fun r' om' => ∃ m', m' < m ∧ I m' r' om', bk := e.nx } r1 om1 else e.nx r1 om1
theorem ss_while {tt : TT} {wt : WT} {tb : TS} {wb : WS} (ht : ST K W tt wt) (hb : SS K W tb wb) : SS K W (tWhile tt tb) (wWhile wt wb) := fun B F om H st r D e R hx hE hw => by
  obtain ⟨I, ⟨m, i0⟩, hs⟩ := hw
  refine ⟨fun m st H => ∃ r om F, Rel K B F om H st r ∧ I m r om, ⟨m, r, om, F, R, i0⟩, ?_⟩
  rintro m st2 H2 ⟨r2, om2, F2, R2, i2⟩
  refine ht B F2 om2 H2 st2 r2 e.xq _ _ R2 hx (fun b r1 om1 F1 H1 R1 s1 k1 hw => ?_) (hs m r2 om2 i2)
  cases b with
  | true =>
    refine ⟨fun st H => ∃ r om F, Rel K B F om H st r ∧ ∃ m', m' < m ∧ I m' r om, fun st' H' ⟨r', om', F', R', m', hm, i'⟩ => ⟨m', hm, r', om', F', R', i'⟩, ?_⟩
    exact hb B F1 om1 H1 st2 r1 _ { e with nx := fun r' om' => ∃ m', m' < m ∧ I m' r' om', ct := fun r' om' => ∃ m', m' < m ∧ I m' r' om', bk := e.nx } R1 hx ⟨fun r om F H st R h => ⟨r, om, F, R, h⟩, hE.rt, hE.nx, fun r om F H st R h => ⟨r, om, F, R, h⟩⟩ hw
  | false => exact hE.nx _ _ _ _ _ R1 hw
def itemsD : D → Option (List D)
  | .lst ds => some ds
  | _ => none
def itemsT : D → Option (List D)
  | .tup ds => some ds
  | _ => none
def wiL (w : WE) : WI := fun xq r om k => w xq r om fun x r1 om1 => match fz x with
  | .v (.lst ds) => k ds r1 om1
  | .v (.frl ds) => k ds r1 om1
  | _ => False
def wiT (w : WE) : WI := fun xq r om k => w xq r om fun x r1 om1 => match x with
  | .v (.tup ds) => k ds r1 om1
  | _ => False
theorem itok_list {a : Addr} {xs : List V} {ds : List D} (q : SqL K F a xs) (rr : RepA K F xs ds) : ItOk K (Itl K a) F ds := by
  refine ⟨fun i F' H s s' hi => ⟨xs, s'.seq (s.seq q), by rw [rr.length]; exact hi⟩, fun i d F' H s s' hd => ?_⟩
  obtain ⟨x, hx, rp⟩ := rr.getD hd
  refine ⟨⟨xs, x, s'.seq (s.seq q), hx⟩, fun y H' hy => ?_⟩
  obtain ⟨rfl, hy⟩ := hy
  have e := hy xs (s'.seq (s.seq q))
  rw [hx] at e
  cases e
  exact ⟨F', Grow.refl s', rp.mono s⟩
theorem itok_tup {a : Addr} {xs : List V} {ds : List D} (q : SqT K F a xs) (rr : RepA K F xs ds) : ItOk K (Itt K a) F ds := by
  refine ⟨fun i F' H s s' hi => ⟨xs, same_sqT s' (same_sqT s q), by rw [rr.length]; exact hi⟩, fun i d F' H s s' hd => ?_⟩
  obtain ⟨x, hx, rp⟩ := rr.getD hd
  refine ⟨⟨xs, x, same_sqT s' (same_sqT s q), hx⟩, fun y H' hy => ?_⟩
  obtain ⟨rfl, hy⟩ := hy
  have e := hy xs (same_sqT s' (same_sqT s q))
  rw [hx] at e
  cases e
  exact ⟨F', Grow.refl s', rp.mono s⟩
def rng (lo : Int) (n : Nat) : List D := (List.range n).map fun (k : Nat) => D.int (lo + (k : Int))
theorem rng_len (lo : Int) (n : Nat) : (rng lo n).length = n := by simp [rng]
theorem rng_get {lo : Int} {n i : Nat} {d : D} (h : (rng lo n)[i]? = some d) : i < n ∧ d = .int (lo + i) := by
  unfold rng at h
  rw [List.getElem?_map] at h
  by_cases hi : i < n
  · rw [List.getElem?_range hi] at h
    exact ⟨hi, (Option.some.inj h).symm⟩
  · rw [List.getElem?_eq_none (by simpa using hi)] at h
    cases h
theorem itok_range (lo : Int) (n : Nat) : ItOk K (Itr lo n) F (rng lo n) := by
  refine ⟨fun i F' H s s' hi => by rw [rng_len] at hi; exact hi, fun i d F' H s s' hd => ?_⟩
  obtain ⟨hi, rfl⟩ := rng_get hd
  refine ⟨hi, fun y H' hy => ?_⟩
  obtain ⟨rfl, rfl⟩ := hy
  exact ⟨F', Grow.refl s', Rep.int _⟩
def int1 : List D → Option Int
  | [.int j] => some j
  | _ => none
def int2 : List D → Option (Int × Int)
  | [.int i, .int j] => some (i, j)
  | _ => none
theorem int1_inv {ds : List D} {j : Int} (h : int1 ds = some j) : ds = [.int j] := by
  unfold int1 at h
  split at h
  · cases h; rfl
  · cases h
theorem int2_inv {ds : List D} {j : Int × Int} (h : int2 ds = some j) : ds = [.int j.1, .int j.2] := by
  unfold int2 at h
  split at h
  · cases h; rfl
  · cases h
def wiR1 (wa : WA) : WI := fun xq r om k => wa xq r om fun xs r1 om1 => wd (datsB r1 om1 xs) fun ds => wd (int1 ds) fun j =>
  (-(2 ^ 62) ≤ j ∧ j < 2 ^ 62) ∧ k (rng 0 j.toNat) r1 om1
def wiR2 (wa : WA) : WI := fun xq r om k => wa xq r om fun xs r1 om1 => wd (datsB r1 om1 xs) fun ds => wd (int2 ds) fun p =>
  (-(2 ^ 62) ≤ p.1 ∧ p.1 < 2 ^ 62 ∧ -(2 ^ 62) ≤ p.2 ∧ p.2 < 2 ^ 62) ∧ k (rng p.1 (p.2 - p.1).toNat) r1 om1
theorem repBs1 {ys : List V} {d : D} (h : RepBs K F H ys [d]) : ∃ y, ys = [y] ∧ RepB K F H y d := by
  match ys, h with
  | [y], h => exact ⟨y, rfl, h.1⟩
  | [], h => exact h.elim
  | _ :: _ :: _, h => exact h.2.elim
theorem repBs2 {ys : List V} {d e : D} (h : RepBs K F H ys [d, e]) : ∃ y z, ys = [y, z] ∧ RepB K F H y d ∧ RepB K F H z e := by
  match ys, h with
  | [y, z], h => exact ⟨y, z, rfl, h.1, h.2.1⟩
  | [], h => exact h.elim
  | [_], h => exact h.2.elim
  | _ :: _ :: _ :: _, h => exact h.2.2.elim
theorem si_r1 {ta : TA} {wa : WA} (ha : SA K W ta wa) : SI K W (iRng1 ta) (wiR1 wa) := by
  intro B F om H st r xq k Q R hx hQ hw
  refine ha B F om H st r xq _ _ R hx (fun xs r1 om1 F1 H1 ys R1 s1 k1 q1 hw => ?_) hw
  obtain ⟨ds, e1, hw⟩ := wd_iff hw
  have rb := R1.datsB q1 e1
  obtain ⟨j, e2, hw⟩ := wd_iff hw
  obtain rfl := int1_inv e2
  obtain ⟨y, rfl, h⟩ := repBs1 rb
  obtain rfl := h.intS
  exact ⟨j, rfl, hw.1.1, hw.1.2, hQ _ _ _ _ _ _ R1 s1 k1 (itok_range 0 j.toNat) hw.2⟩
theorem si_r2 {ta : TA} {wa : WA} (ha : SA K W ta wa) : SI K W (iRng2 ta) (wiR2 wa) := by
  intro B F om H st r xq k Q R hx hQ hw
  refine ha B F om H st r xq _ _ R hx (fun xs r1 om1 F1 H1 ys R1 s1 k1 q1 hw => ?_) hw
  obtain ⟨ds, e1, hw⟩ := wd_iff hw
  have rb := R1.datsB q1 e1
  obtain ⟨⟨i, j⟩, e2, hw⟩ := wd_iff hw
  obtain rfl := int2_inv e2
  obtain ⟨y, z, rfl, h, h'⟩ := repBs2 rb
  obtain rfl := h.intS
  obtain rfl := h'.intS
  exact ⟨i, j, rfl, hw.1, hQ _ _ _ _ _ _ R1 s1 k1 (itok_range i (j - i).toNat) hw.2⟩
end
end DL

set_option Elab.async false
set_option linter.all false
set_option maxRecDepth 100000
namespace DL
open PySem L2
def oset (om : Om) (a : Addr) (ob : Ob) : Om := fun b => if b = a then some ob else om b
theorem oset_same {om : Om} {a : Addr} {ob : Ob} : oset om a ob a = some ob := if_pos rfl
theorem oset_ne {om : Om} {a b : Addr} {ob : Ob} (h : b ≠ a) : oset om a ob b = om b := if_neg h
theorem oset_set {om : Om} {a : Addr} {o u : Ob} : oset (oset om a o) a u = oset om a u := by
  funext b; unfold oset; split <;> rfl
theorem oset_id {om : Om} {a : Addr} {o : Ob} (h : om a = some o) : oset om a o = om := by
  funext b; unfold oset; split
  · next e => rw [e, h]
  · rfl
section
variable {K : PySem.W.Frag} {B : Base} {F F' : Hp} {om : Om} {H H' : Hp} {st : St} {r : Env} {W : WX}
theorem Rel.writeO (R : Rel K B F om H st r) {a : Addr} {ob ob' : Ob} {uo : HO} (e : om a = some ob) (hr : ObOk K F (some uo) ob') : Rel K B F (oset om a ob') (upd H a uo) st r := by
  obtain ⟨f1, o1⟩ := R.rh.obj a ob e
  obtain ⟨u, hu⟩ := o1.some
  have nB : B.om a = none → B.H a = none := fun n => R.ext.ob a ob e n
  refine ⟨⟨fun b v q => ?_, fun b v q => ?_⟩, ⟨R.ext.f, R.ext.new, fun b v q n => ?_, fun b q => ?_, fun b v q n => ?_, R.ext.wf⟩, R.len, fun j z q => ?_, R.dis⟩
  · have nb : b ≠ a := fun z => by rw [z, f1] at q; cases q
    rw [upd_ne nb]; exact R.rh.sub b v q
  · by_cases hb : b = a
    · subst hb
      rw [oset_same] at q
      cases q
      rw [upd_same]
      exact ⟨f1, hr⟩
    · rw [oset_ne hb] at q
      rw [upd_ne hb]
      exact R.rh.obj b v q
  · by_cases hb : b = a
    · subst hb; rw [nB n] at q; cases q
    · rw [upd_ne hb]; exact R.ext.keep b v q n
  · by_cases hb : b = a
    · subst hb; rw [upd_same] at q; cases q
    · rw [upd_ne hb] at q; exact R.ext.dom b q
  · by_cases hb : b = a
    · subst hb; exact nB n
    · rw [oset_ne hb] at q; exact R.ext.ob b v q n
  · obtain ⟨y, e1, s⟩ := R.slot j z q
    refine ⟨y, e1, ?_⟩
    cases z with
    | v d => exact s
    | o d1 =>
      obtain ⟨c, rfl, p1, p2, p3, zs, p4, p5⟩ := s
      have nb : c ≠ a := fun z => by rw [z, e] at p2; cases p2
      exact ⟨c, rfl, p1, by rw [oset_ne nb]; exact p2, p3, zs, by rw [upd_ne nb]; exact p4, p5⟩
    | b _ => exact s
theorem Rel.writeH (R : Rel K B F om H st r) {a : Addr} {ob ob' : Ob} {ys : List V} (e : om a = some ob) (hr : ObOk K F (some (.lst ys)) ob') : Rel K B F (oset om a ob') (upd H a (.lst ys)) st r := R.writeO e hr
theorem Rel.toH (R : Rel K B F om H st r) {a : Addr} {ds : List D} {ob : Ob} (o : Own K B F om H a ds) (h5 : ∀ (j : Nat) (es : List D), r[j]? = some (some (.o es)) → st[j]? ≠ some (some (.ref a))) (hob : ∀ xs, RepA K F xs ds → ObOk K F (some (.lst xs)) ob) : Rel K B F (oset om a ob) H st r := by
  obtain ⟨o1, o2, o3, xs, o4, o5⟩ := o
  refine ⟨⟨R.rh.sub, fun b v q => ?_⟩, ⟨R.ext.f, R.ext.new, R.ext.keep, R.ext.dom, fun b v q n => ?_, R.ext.wf⟩, R.len, fun j z q => ?_, R.dis⟩
  · by_cases hb : b = a
    · subst hb
      rw [oset_same] at q
      cases q
      rw [o4]
      exact ⟨o1, hob xs o5⟩
    · rw [oset_ne hb] at q
      exact R.rh.obj b v q
  · by_cases hb : b = a
    · subst hb; exact o3
    · rw [oset_ne hb] at q; exact R.ext.ob b v q n
  · obtain ⟨y, e1, s⟩ := R.slot j z q
    refine ⟨y, e1, ?_⟩
    cases z with
    | v d => exact s
    | o d1 =>
      obtain ⟨c, rfl, p1, p2, p3, zs, p4, p5⟩ := s
      have nb : c ≠ a := fun z => h5 j d1 q (by rw [e1, z])
      exact ⟨c, rfl, p1, by rw [oset_ne nb]; exact p2, p3, zs, p4, p5⟩
    | b _ => exact s
abbrev MutP := List D → List D → (List D → D → Prop) → Prop
def SM (K : PySem.W.Frag) (rr : V → List V → Hp → VK → Prop) (p : MutP) : Prop := ∀ (F H : Hp) (a : Addr) (xs : List V) (ds : List D) (ys : List V) (args : List D) (c : List D → D → Prop) (Q : VK),
  Same F H → H a = some (.lst xs) → RepA K F xs ds → RepA K F ys args → p ds args c → (∀ ds' xs' d v, RepA K F xs' ds' → Rep K F v d → c ds' d → Q v (upd H a (.lst xs'))) → rr (.ref a) ys H Q
def isSlot (r : Env) (i : Nat) : Prop := ∃ y, r[i]? = some (some y)
def isL (om : Om) : RV → Bool
  | .o _ => true
  | .v (.h a) => match om a with
    | some (.lst _) => true
    | _ => false
  | _ => false
def wMutE (i : Nat) (p : (List D → (List D → D → Prop) → Prop)) : Env → Om → (RV → Env → Om → Prop) → Prop := fun r om k => match r[i]? with
  | some (some (.o ds)) => p ds fun ds' z => k (.v z) (r.set i (some (.o ds'))) om
  | some (some (.v (.h a))) => match om a with
    | some (.lst ds) => p ds fun ds' z => k (.v z) r (oset om a (.lst ds'))
    | _ => False
  | _ => False
def lstS (om : Om) (r : Env) (i : Nat) : Prop := match r[i]? with
  | some (some x) => isL om x = true
  | _ => False
def wMut (i : Nat) (p : MutP) (wa : WA) : WE := fun xq r om k => lstS om r i ∧ wa xq r om fun xs r1 om1 => wd (datsE xs) fun args => wMutE i (fun ds => p ds args) r1 om1 k
theorem mut_core {i : Nat} {p : (List D → (List D → D → Prop) → Prop)} {k : RV → Env → Om → Prop} (R : Rel K B F om H st r) (hw : wMutE i p r om k) :
    ∃ a xs ds c, st[i]? = some (some (.ref a)) ∧ H a = some (.lst xs) ∧ RepA K F xs ds ∧ p ds c ∧ ∀ ds' xs' d v, RepA K F xs' ds' → Rep K F v d → c ds' d → ∃ r' om', Rel K B F om' (upd H a (.lst xs')) st r' ∧ KeepE r r' ∧ k (.v d) r' om' := by
  unfold wMutE at hw
  cases e : r[i]? with
  | none => rw [e] at hw; exact hw.elim
  | some o =>
    rw [e] at hw
    cases o with
    | none => exact hw.elim
    | some x =>
      obtain ⟨y, e1, s⟩ := R.slot i x e
      cases x with
      | o ds =>
        obtain ⟨a, rfl, o1, o2, o3, xs, o4, o5⟩ := s
        exact ⟨a, xs, ds, _, e1, o4, o5, hw, fun ds' xs' d v h1 h2 h3 => ⟨_, _, R.write e e1 h1, KeepE.set, h3⟩⟩
      | b j => exact s.elim
      | v d =>
        cases d with
        | h a =>
          cases s
          simp only at hw
          cases q : om a with
          | none => rw [q] at hw; exact hw.elim
          | some ob =>
            rw [q] at hw
            cases ob with
            | lst ds =>
              obtain ⟨xs, o4, o5⟩ := (R.rh.obj a _ q).2.lst
              exact ⟨a, xs, ds, _, e1, o4, o5, hw, fun ds' xs' d v h1 h2 h3 => ⟨_, _, R.writeH (ob' := .lst ds') q h1, KeepE.refl _, h3⟩⟩
            | lstP P => exact hw.elim
            | dct ps => exact hw.elim
            | ins c ps => exact hw.elim
        | _ => exact hw.elim
theorem lstS_ty (R : Rel K B F om H st r) {i : Nat} (h : lstS om r i) : ∃ y, st[i]? = some (some y) ∧ tyV K "list" y H := by
  unfold lstS at h
  cases e : r[i]? with
  | none => rw [e] at h; exact h.elim
  | some o =>
    rw [e] at h
    cases o with
    | none => exact h.elim
    | some x =>
      obtain ⟨y, e1, s⟩ := R.slot i x e
      refine ⟨y, e1, ?_⟩
      cases x with
      | o ds =>
        obtain ⟨a, rfl, o1, o2, o3, xs, o4, o5⟩ := s
        exact .inl ⟨rfl, xs, SqL.of o4⟩
      | b j => exact s.elim
      | v d =>
        cases d with
        | h a =>
          cases s
          have h' : (match om a with | some (.lst _) => true | _ => false) = true := h
          cases q : om a with
          | none => rw [q] at h'; cases h'
          | some ob =>
            rw [q] at h'
            cases ob with
            | lst ds =>
              obtain ⟨xs, o4, o5⟩ := (R.rh.obj a _ q).2.lst
              exact .inl ⟨rfl, xs, SqL.of o4⟩
            | lstP P => cases h'
            | dct ps => cases h'
            | ins c ps => cases h'
        | _ => cases h
theorem se_mut {i : Nat} {p : MutP} {ta : TA} {wa : WA} {rr : V → List V → Hp → VK → Prop} (ha : SA K W ta wa) (hp : SM K rr p) : SE K W (tBM K "list" rr (tVar i) ta) (wMut i p wa) := by
  intro B F om H st r xq k Q R hx hQ hw
  obtain ⟨hl, hw⟩ := hw
  obtain ⟨y, e1, ty⟩ := lstS_ty R hl
  refine ⟨y, e1, ty, ?_⟩
  refine ha B F om H st r xq _ _ R hx (fun xs r1 om1 F1 H1 ys R1 s1 k1 q1 hw => ?_) hw
  obtain ⟨args, e2, hw⟩ := wd_iff hw
  obtain ⟨a, xs', ds, c, e3, h4, h5, h6, h7⟩ := mut_core R1 hw
  rw [e1] at e3
  cases e3
  refine hp F1 H1 a xs' ds ys args c _ R1.rh.sub h4 h5 (datsE_rep q1 e2) h6 fun ds' zs d v g1 g2 g3 => ?_
  obtain ⟨r', om', R', k', h'⟩ := h7 ds' zs d v g1 g2 g3
  exact hQ (.v d) _ _ _ _ _ R' s1 (k1.trans k') g2 h'
def wMut0 (i : Nat) (p : MutP) : WE := fun xq r om k => wMutE i (fun ds => p ds []) r om k
def mApp : MutP := fun ds args c => match args with
  | [d] => ds.length < sizeLine ∧ c (ds ++ [d]) .non
  | _ => False
theorem sm_append : SM K rAppend mApp := by
  intro F H a xs ds ys args c Q s hH h1 h2 hp hQ
  match args, h2, hp with
  | [d], .cons h .nil, hp =>
    exact ⟨a, xs, _, rfl, rfl, hH, by rw [h1.length]; exact hp.1, hQ _ _ _ _ (h1.append (.cons h .nil)) .non hp.2⟩
def intD : D → Option Int
  | .int i => some i
  | _ => none
theorem intD_inv {d : D} {i : Int} (h : intD d = some i) : d = .int i := by
  cases d with
  | int j => cases h; rfl
  | _ => cases h
def wSet (i : Nat) (wi we : WE) : WS := fun e r om => we e.xq r om fun x r1 om1 => lstS om1 r1 i ∧ wi e.xq r1 om1 fun y r2 om2 => wd (datE x) fun d => wd (datB r2 om2 y) fun j => wd (intD j) fun n =>
  wMutE i (fun ds c => wd (ixN ds.length n) fun m => c (ds.set m d) .non) r2 om2 fun _ r3 om3 => e.nx r3 om3
theorem ss_set {i : Nat} {ti te : TE} {wi we : WE} (hi : SE K W ti wi) (he : SE K W te we) : SS K W (tAsg te (gSub (tVar i) ti rSetL)) (wSet i wi we) := fun B F om H st r D e R hx hE hw => by
  refine he B F om H st r e.xq _ _ R hx (fun x r1 om1 F1 H1 y R1 s1 k1 q1 hw => ?_) hw
  obtain ⟨hl, hw⟩ := hw
  obtain ⟨F2, s2, R2, q2⟩ := R1.fz q1
  obtain ⟨z, e1, ty⟩ := lstS_ty R1 hl
  refine ⟨z, e1, ?_⟩
  refine hi B F2 om1 H1 st r1 e.xq _ _ R2 hx (fun x' r3 om3 F3 H3 y' R3 s3 k3 q3 hw => ?_) hw
  obtain ⟨d, e4, hw1⟩ := wd_iff hw
  obtain ⟨j, e5, hw2⟩ := wd_iff hw1
  obtain ⟨n, e6, hw3⟩ := wd_iff hw2
  clear hw hw1 hw2
  obtain rfl := intD_inv e6
  obtain ⟨a, xs, ds, c, e3, h4, h5, h6, h7⟩ := mut_core R3 hw3
  obtain ⟨m, e7, h6⟩ := wd_iff h6
  rw [e1] at e3
  cases e3
  obtain rfl := (R3.datB q3 e5).intS
  have rp : Rep K F3 y d := (datE_rep q2 e4).mono s3
  obtain ⟨r', om', R', k', h'⟩ := h7 (ds.set m d) (xs.set m y) .non .non (h5.set rp m) .non h6
  exact ⟨a, xs, n, m, rfl, rfl, h4, by rw [h5.length]; exact e7, hE.nx _ _ _ _ _ R' h'⟩

theorem Ext.refl (R : RelH K F om H) : Ext ⟨F, om, H⟩ F om H := ⟨Same.refl _, fun b o e n => (by have n' : F b = none := n; rw [n'] at e; cases e), fun _ _ e _ => e, fun _ e => e, fun b o e n => (by have n' : om b = none := n; rw [n'] at e; cases e), fun b e => (by
  show om b = none
  cases q : om b with
  | none => rfl
  | some ob =>
    obtain ⟨u, hu⟩ := (R.obj b ob q).2.some
    have e' : H b = none := e
    rw [e'] at hu; cases hu)⟩
structure Con where
  n : Nat
  df : DF
  len : ∀ ds om k xk, df ds om k xk → ds.length = n
  mono : ∀ ds om k k' xk xk', (∀ x om', k x om' → k' x om') → (∀ ex om', xk ex om' → xk' ex om') → df ds om k xk → df ds om k' xk'
def toSp (K : PySem.W.Frag) (c : Con) : Sp := fun vs H Q E => ∃ (F : Hp) (om : Om) (ds : List D), RelH K F om H ∧ RepA K F vs ds ∧
  c.df ds om (fun x om' => ∀ F' H' y, RelH K F' om' H' → Ext ⟨F, om, H⟩ F' om' H' → Slot K ⟨F, om, H⟩ F' om' H' y x → Q y H')
    (fun ex om' => ∀ F' H' cls d, RelH K F' om' H' → Ext ⟨F, om, H⟩ F' om' H' → ExOk K F' cls d ex → E cls d H')
theorem toSp_len {c : Con} {vs : List V} {Q : VK} {E : XK} (h : toSp K c vs H Q E) : vs.length = c.n := by
  obtain ⟨F, om, ds, _, h2, h3⟩ := h
  rw [h2.length]
  exact c.len _ _ _ _ h3
theorem Rel.call (R : Rel K B F om H st r) {om' : Om} (rh : RelH K F' om' H') (ex : Ext ⟨F, om, H⟩ F' om' H') : Rel K B F' om' H' st r := by
  have dom : ∀ b u, H b = some u → ∃ v, H' b = some v := fun b u e => by
    cases q : H' b with
    | some v => exact ⟨v, rfl⟩
    | none =>
      have z : H b = none := ex.dom b q
      rw [e] at z; cases z
  have omn : ∀ a u, H a = some u → om a = none → om' a = none := fun a u e n => by
    cases q : om' a with
    | none => rfl
    | some ob =>
      have z : H a = none := ex.ob a ob q n
      rw [e] at z; cases z
  refine ⟨rh, ⟨R.ext.f.trans ex.f, fun b o e n => ?_, fun b o e n => ?_, fun b e => R.ext.dom b (ex.dom b e), fun b o e n => ?_, R.ext.wf⟩, R.len, fun i x e => ?_, R.dis⟩
  · cases q : F b with
    | some u => exact R.ext.new b u q n
    | none => exact R.ext.dom b (ex.new b o e q)
  · have h1 := R.ext.keep b o e n
    have h2 : om b = none := by
      cases q : om b with
      | none => rfl
      | some ob => rw [R.ext.ob b ob q n] at e; cases e
    exact ex.keep b o h1 h2
  · cases q : om b with
    | some ob => exact R.ext.ob b ob q n
    | none => exact R.ext.dom b (ex.ob b o e q)
  · obtain ⟨y, e1, s⟩ := R.slot i x e
    refine ⟨y, e1, ?_⟩
    cases x with
    | v d => exact Rep.mono ex.f s
    | o ds =>
      obtain ⟨a, rfl, o1, o2, o3, xs, o4, o5⟩ := s
      refine ⟨a, rfl, ?_, omn a _ o4 o2, o3, xs, ex.keep a _ o4 o2, o5.mono ex.f⟩
      cases q : F' a with
      | none => rfl
      | some u =>
        have z : H a = none := ex.new a u q o1
        rw [o4] at z; cases z
    | b _ => exact s
theorem Rel.callRes (R : Rel K B F om H st r) {om' : Om} (rh : RelH K F' om' H') (ex : Ext ⟨F, om, H⟩ F' om' H') {y : V} {x : RV} (s : Slot K ⟨F, om, H⟩ F' om' H' y x) : Res K B F' om' H' st r y x := by
  cases x with
  | v d => exact s
  | b _ => exact s.elim
  | o ds =>
    obtain ⟨a, rfl, o1, o2, o3, xs, o4, o5⟩ := s
    have o3' : H a = none := o3
    refine ⟨a, rfl, ⟨o1, o2, R.ext.dom a o3', xs, o4, o5⟩, fun j es e z => ?_⟩
    obtain ⟨y, e1, a', e2, _, _, _, ys, e3, _⟩ := R.slot j (.o es) e
    rw [z] at e1
    cases e1
    cases e2
    rw [o3'] at e3; cases e3
def wCall (df : DF) (dds : List D) (wa : WA) : WE := fun xq r om k => wa xq r om fun xs r1 om1 => wd (datsE xs) fun ds => df (ds ++ dds) om1 (fun x om' => k x r1 om') (fun ex om' => xq ex r1 om')
theorem call_core {c : Con} {ys : List V} {ds : List D} {xq : DX} {k : RV → Om → Prop} {Q : VK} (R : Rel K B F om H st r) (hx : XOk K B W xq) (rp : RepA K F ys ds)
    (hQ : ∀ x om' F' H' y, Rel K B F' om' H' st r → Same F F' → Res K B F' om' H' st r y x → k x om' → Q y H') (hw : c.df ds om k (fun ex om' => xq ex r om')) : toSp K c ys H Q (L2.WE W st) := by
  refine ⟨F, om, ds, R.rh, rp, c.mono ds om _ _ _ _ (fun x om' hk F' H' y rh ex s => ?_) (fun e om' hk F' H' cls d rh ex he => ?_) hw⟩
  · exact hQ x om' F' H' y (R.call rh ex) ex.f (R.callRes rh ex s) hk
  · exact hx e r om' F' H' st cls d (R.call rh ex) he hk
theorem se_call {c : Con} {dvs : List V} {dds : List D} {ta : TA} {wa : WA} (ha : SA K W ta wa) (hd : ∀ F, RepA K F dvs dds) : SE K W (tCallSD (toSp K c) dvs (L2.WE W) ta) (wCall c.df dds wa) := by
  intro B F om H st r xq k Q R hx hQ hw
  refine ha B F om H st r xq _ _ R hx (fun xs r1 om1 F1 H1 ys R1 s1 k1 q1 hw => ?_) hw
  obtain ⟨ds, e1, hw⟩ := wd_iff hw
  exact call_core R1 hx ((datsE_rep q1 e1).append (hd F1)) (fun x om' F' H' y R' s' q' hk => hQ _ _ _ _ _ _ R' (s1.trans s') k1 q' hk) hw
def startE (n : Nat) (ds : List D) : Env := ds.map (fun d => some (.v d)) ++ List.replicate (n - ds.length) none
theorem start_rel {N : List Str} {vs : List V} {ds : List D} (R : RelH K F om H) (rp : RepA K F vs ds) : Rel K ⟨F, om, H⟩ F om H (L2.start N vs) (startE N.length ds) := by
  have hl := rp.length
  refine ⟨R, Ext.refl R, by simp [startE, L2.start, hl], fun i x e => ?_, fun i j a ds' es e1 => ?_⟩
  · by_cases hi : i < ds.length
    · unfold startE at e
      rw [List.getElem?_append_left (by simpa using hi), List.getElem?_map] at e
      cases q : ds[i]? with
      | none => rw [q] at e; cases e
      | some d =>
        rw [q] at e
        obtain rfl : RV.v d = x := Option.some.inj (Option.some.inj e)
        obtain ⟨y, hy, rr⟩ := rp.getD q
        refine ⟨y, ?_, rr⟩
        unfold L2.start
        rw [List.getElem?_append_left (by simp; omega), List.getElem?_map, hy]
        rfl
    · unfold startE at e
      rw [List.getElem?_append_right (by simpa using hi), List.getElem?_replicate] at e
      split at e <;> cases e
  · exfalso
    by_cases hi : i < ds.length
    · unfold startE at e1
      rw [List.getElem?_append_left (by simpa using hi), List.getElem?_map] at e1
      cases q : ds[i]? with
      | none => rw [q] at e1; cases e1
      | some d => rw [q] at e1; cases e1
    · unfold startE at e1
      rw [List.getElem?_append_right (by simpa using hi), List.getElem?_replicate] at e1
      split at e1 <;> cases e1
def endOf (k : RV → Om → Prop) (xk : Exn → Om → Prop) : DEnds := { nx := fun _ om => k (.v .non) om, rt := k, xq := fun ex _ om => xk ex om }
theorem body_ok {N : List Str} {c : Con} {t : TS} {w : WS} {vs : List V} {Q : VK} {E : XK} (hs : SS K (fun cls d _ H => E cls d H) t w) (hw : ∀ ds om k xk, c.df ds om k xk → w (endOf k xk) (startE N.length ds) om) (h : toSp K c vs H Q E) :
    t { nx := fun _ H' => Q .non H', rt := Q } (L2.start N vs) H := by
  obtain ⟨F, om, ds, R, rp, hd⟩ := h
  refine hs ⟨F, om, H⟩ F om H (L2.start N vs) (startE N.length ds) _ (endOf (fun x om' => ∀ F' H' y, RelH K F' om' H' → Ext ⟨F, om, H⟩ F' om' H' → Slot K ⟨F, om, H⟩ F' om' H' y x → Q y H')
    (fun ex om' => ∀ F' H' cls d, RelH K F' om' H' → Ext ⟨F, om, H⟩ F' om' H' → ExOk K F' cls d ex → E cls d H')) (start_rel R rp) (fun ex r om' F' H' st' cls d R' he hq => hq F' H' cls d R'.rh R'.ext he) ⟨fun r om' F' H' st' R' hn => hn F' H' .non R'.rh R'.ext Rep.non, fun x om' F' H' y rh ex s hn => hn F' H' y rh ex s, fun _ _ _ _ _ _ z => z.elim, fun _ _ _ _ _ _ z => z.elim⟩ (hw ds om _ _ hd)
end
end DL

set_option Elab.async false
set_option linter.all false
set_option maxRecDepth 100000
namespace DL
open PySem L2
def wipeE (r : Env) : List Nat → Env
  | [] => r
  | v :: vs => (wipeE r vs).set v none
theorem wipeE_len (r : Env) : ∀ vs : List Nat, (wipeE r vs).length = r.length
  | [] => rfl
  | v :: vs => by unfold wipeE; rw [List.length_set, wipeE_len r vs]
theorem wipeE_some {r : Env} {i : Nat} {x : RV} : ∀ {vs : List Nat}, (wipeE r vs)[i]? = some (some x) → r[i]? = some (some x) ∧ i ∉ vs
  | [], h => ⟨h, by simp⟩
  | v :: vs, h => by
    unfold wipeE at h
    by_cases hi : v = i
    · subst hi
      by_cases hv : v < (wipeE r vs).length
      · rw [List.getElem?_set_self hv] at h; cases h
      · rw [List.getElem?_eq_none (by simpa using hv)] at h; cases h
    · rw [List.getElem?_set_ne hi] at h
      obtain ⟨h1, h2⟩ := wipeE_some h
      exact ⟨h1, by simp only [List.mem_cons, not_or]; exact ⟨fun e => hi e.symm, h2⟩⟩
theorem wipe_at {st : St} {i : Nat} : ∀ {vs : List Nat}, i ∈ vs → i < st.length → (wipe st vs)[i]? = some none
  | [], h, _ => by cases h
  | v :: vs, h, hl => by
    unfold wipe
    by_cases hi : v = i
    · subst hi; rw [List.getElem?_set_self (by rw [wipe_length]; exact hl)]
    · rw [List.getElem?_set_ne hi]
      exact wipe_at (by simpa [Ne.symm hi] using h) hl
theorem wipe_same {st st' : St} {vs : List Nat} (hl : st'.length = st.length) (h : ∀ j, j ∉ vs → st'[j]? = st[j]?) : wipe st' vs = wipe st vs := by
  apply List.ext_getElem?
  intro j
  by_cases hj : j ∈ vs
  · by_cases hb : j < st.length
    · rw [wipe_at hj hb, wipe_at hj (by rw [hl]; exact hb)]
    · rw [List.getElem?_eq_none (by rw [wipe_length]; omega), List.getElem?_eq_none (by rw [wipe_length]; omega)]
  · rw [wipe_out hj, wipe_out hj]; exact h j hj
section
variable {K : PySem.W.Frag} {B : Base} {F F' : Hp} {om : Om} {H H' : Hp} {st : St} {r : Env} {W : WX}
def SGv (K : PySem.W.Frag) (vs : List Nat) (g : TG) (w : GT) : Prop := ∀ (B : Base) (F : Hp) (om : Om) (H : Hp) (st : St) (r : Env) (y : V) (x : RV) (k : Env → Prop) (Q : St → Hp → Prop),
  Rel K B F om H st r → Res K B F om H st r y x → (∀ st' r', Rel K B F om H st' r' → st'.length = st.length → (∀ j, j ∉ vs → st'[j]? = st[j]?) → k r' → Q st' H) → w x r k → g y st H Q
theorem sgv_name {vs : List Nat} (i : Nat) (hi : i ∈ vs) : SGv K vs (gName i) (gN i) := fun B F om H st r y x k Q R h hQ hw => by
  obtain ⟨h1, h2, h3⟩ := hw
  exact hQ _ _ (R.put h (fun j z => by rw [z] at h1; exact h1) h2) (by simp) (fun j hj => List.getElem?_set_ne fun e => hj (by rw [← e]; exact hi)) h3
def SGvs (K : PySem.W.Frag) (vs : List Nat) (g : TGs) (w : GTs) : Prop := ∀ (B : Base) (F : Hp) (om : Om) (H : Hp) (st : St) (r : Env) (ys : List V) (ds : List D) (k : Env → Prop) (Q : St → Hp → Prop),
  Rel K B F om H st r → RepA K F ys ds → (∀ st' r', Rel K B F om H st' r' → st'.length = st.length → (∀ j, j ∉ vs → st'[j]? = st[j]?) → k r' → Q st' H) → w ds r k → g ys st H Q
theorem sgvs_nil {vs : List Nat} : SGvs K vs gNil gsNil := fun B F om H st r ys ds k Q R h hQ hw => by
  obtain ⟨rfl, hw⟩ := hw
  cases h
  exact ⟨rfl, hQ _ _ R rfl (fun _ _ => rfl) hw⟩
theorem sgvs_cons {vs : List Nat} (i : Nat) (hi : i ∈ vs) {g : TGs} {w : GTs} (hg : SGvs K vs g w) : SGvs K vs (gCons (gName i) g) (gsCons i w) := fun B F om H st r ys ds k Q R h hQ hw => by
  cases h with
  | nil => exact hw.elim
  | cons hr ht =>
    obtain ⟨h1, hw⟩ := hw
    refine ⟨_, _, rfl, ?_⟩
    refine hg B F om H _ _ _ _ _ _ (R.put (x := .v _) hr (fun j z => by cases z) h1) ht (fun st' r' R' hl hj hk => hQ st' r' R' (by rw [hl]; simp) (fun j hn => ?_) hk) hw
    rw [hj j hn]
    exact List.getElem?_set_ne fun e => hn (by rw [← e]; exact hi)
theorem sgv_tup {vs : List Nat} {n : Nat} {g : TGs} {w : GTs} (hg : SGvs K vs g w) : SGv K vs (gTup K n g) (gT n w) := fun B F om H st r y x k Q R h hQ hw => by
  cases x with
  | v d =>
    cases d with
    | tup ds =>
      obtain ⟨hl, hw⟩ := hw
      cases h with
      | tup q rr => exact ⟨_, _, rfl, same_sqT R.rh.sub q, by rw [rr.length]; exact hl, hg B F om H st r _ _ _ _ R rr hQ hw⟩
    | _ => exact hw.elim
  | o ds => exact hw.elim
  | b i => exact hw.elim
abbrev X0 : DX := fun _ _ _ => False
def lcGo (g : GT) (wt : WT) (we : WE) (vs : List Nat) : List D → List D → Env → Om → (List D → Env → Om → Prop) → Prop
  | [], acc, r, om, fin => fin acc r om
  | d :: ds, acc, r, om, fin => g (.v d) r fun r2 => wt X0 r2 om fun b r3 om3 =>
      if b = true then we X0 r3 om3 fun x r4 om4 => wd (datE x) fun y => acc.length < sizeLine ∧ lcGo g wt we vs ds (acc ++ [y]) (wipeE r4 vs) om4 fin
      else lcGo g wt we vs ds acc (wipeE r3 vs) om3 fin
def wYes : WT := fun _ r om k => k true r om
theorem st_yes : ST K W tYes wYes := fun B F om H st r xq k Q R hx hQ hw => hQ _ _ _ _ _ R (Same.refl _) (KeepE.refl _) hw
def wLc (wi : WI) (g : GT) (wt : WT) (we : WE) (vs : List Nat) : WE := fun xq r om k => wi xq r om fun items r1 om1 => lcGo g wt we vs items [] (wipeE r1 vs) om1 fun acc r2 om2 => k (.o acc) r2 om2
theorem Rel.wipe (R : Rel K B F om H st r) (vs : List Nat) : Rel K B F om H (L2.wipe st vs) (wipeE r vs) :=
  R.forget (by rw [wipeE_len, wipe_length]; exact R.len) fun i x h => by
    obtain ⟨h1, h2⟩ := wipeE_some h
    exact ⟨h1, wipe_out h2⟩
theorem se_lc {ti : TI} {wi : WI} {vs : List Nat} {g : TG} {w : GT} {tt : TT} {wt : WT} {te : TE} {we : WE} (hi : SI K W ti wi) (hg : SGv K vs g w) (ht : ST K (fun _ _ _ _ => False) tt wt) (he : SE K (fun _ _ _ _ => False) te we) :
    SE K W (tLc ti g tt te vs) (wLc wi w wt we vs) := by
  intro B F om H st r xq k Q R hx hQ hw
  have x0 : ∀ B, XOk K B (fun _ _ _ _ => False) X0 := fun B ex r om F H st cls d _ _ z => z
  refine hi B F om H st r xq _ _ R hx (fun J items r1 om1 F1 H1 R1 s1 k1 hJ hw => ?_) hw
  intro p hp
  have fp1 : F1 p = none := R1.rh.sub.free hp
  have op1 : om1 p = none := by
    cases q : om1 p with
    | none => rfl
    | some ob =>
      obtain ⟨u, hu⟩ := (R1.rh.obj p ob q).2.some
      rw [hp] at hu; cases hu
  have bp : B.H p = none := R1.ext.dom p hp
  have bf : B.F p = none := by
    cases q : B.F p with
    | none => rfl
    | some u => have := R1.ext.f p u q; rw [fp1] at this; cases this
  obtain ⟨R2, q2⟩ := R1.allocO (p := p) (xs := []) (ds := []) hp .nil
  obtain ⟨_, ep, ⟨w1, w2, w3, _, _, _⟩, w6⟩ := q2
  cases ep
  -- the invariant
  refine ⟨fun i m H' => m = items.length - i ∧ i ≤ items.length ∧ ∃ r' om' F' acc xs, Rel K B F' om' H' (L2.wipe st vs) r' ∧ Same F1 F' ∧ F' p = none ∧ om' p = none ∧ H' p = some (.lst xs) ∧ RepA K F' xs acc ∧
      (∀ (j : Nat) (es : List D), r'[j]? = some (some (.o es)) → (L2.wipe st vs)[j]? ≠ some (some (.ref p))) ∧ (∀ (j : Nat) (x : RV), r'[j]? = some (some x) → j ∉ vs) ∧
      lcGo w wt we vs (items.drop i) acc r' om' (fun acc r2 om2 => k (.o acc) r2 om2),
    ⟨items.length, by simp, Nat.zero_le _, wipeE r1 vs, om1, F1, [], [], R2.wipe vs, Same.refl _, w1, w2, upd_same, .nil, ?_, fun j x h => (wipeE_some h).2, by simpa using hw⟩, ?_⟩
  · intro j es h
    obtain ⟨h1, h2⟩ := wipeE_some h
    rw [wipe_out h2]
    exact w6 j es h1
  rintro i m H2 ⟨rfl, hle, r2, om2, F2, acc, xs, R2', s2, fp2, op2, hp2, ra2, own2, out2, hl⟩
  by_cases hlt : i < items.length
  · have hd : items.drop i = items[i] :: items.drop (i + 1) := List.drop_eq_getElem_cons hlt
    rw [hd] at hl
    obtain ⟨go, yl⟩ := hJ.2 i items[i] F2 H2 s2 R2'.rh.sub (List.getElem?_eq_getElem hlt)
    refine .inr ⟨go, fun H' => ∃ r' om' F' acc xs, Rel K B F' om' H' (L2.wipe st vs) r' ∧ Same F1 F' ∧ F' p = none ∧ om' p = none ∧ H' p = some (.lst xs) ∧ RepA K F' xs acc ∧
      (∀ (j : Nat) (es : List D), r'[j]? = some (some (.o es)) → (L2.wipe st vs)[j]? ≠ some (some (.ref p))) ∧ (∀ (j : Nat) (x : RV), r'[j]? = some (some x) → j ∉ vs) ∧
      lcGo w wt we vs (items.drop (i + 1)) acc r' om' (fun acc r2 om2 => k (.o acc) r2 om2), fun H' h => ⟨items.length - (i + 1), by omega, rfl, hlt, h⟩, fun x H' y => ?_⟩
    obtain ⟨F3, g3, rp⟩ := yl x H' y
    have R3 := R2'.grow g3.f g3.h g3.new g3.sub
    have fp3 : F3 p = none := by
      cases q : F3 p with
      | none => rfl
      | some u => rw [g3.new p u q fp2] at hp2; cases hp2
    have hp3 : H' p = some (.lst xs) := g3.h _ _ hp2
    -- p is guarded through the turn
    have G3 := R3.guard fp3 op2 hp3 own2
    refine hg _ F3 om2 H' _ r2 x (.v items[i]) _ _ G3 rp (fun st4 r4 R4 hl4 hj4 hk => ?_) hl
    have wp : L2.wipe st4 vs = L2.wipe st vs := by
      rw [wipe_same hl4 hj4]
      exact wipe_same (by rw [wipe_length]) fun j hj => wipe_out hj
    refine ⟨wp, ?_⟩
    refine ht _ F3 om2 H' st4 r4 X0 _ _ R4 (x0 _) (fun b r5 om5 F5 H5 R5 s5 k5 hb => ?_) hk
    have un : ∀ {r6 : Env} {om6 : Om} {F6 H6 : Hp}, Rel K (B.guard p (.lst xs)) F6 om6 H6 st4 r6 → B.om p = none → Rel K B F6 om6 H6 (L2.wipe st vs) (wipeE r6 vs) ∧ F6 p = none ∧ om6 p = none ∧ H6 p = some (.lst xs) ∧
        (∀ (j : Nat) (es : List D), (wipeE r6 vs)[j]? = some (some (.o es)) → (L2.wipe st vs)[j]? ≠ some (some (.ref p))) ∧ (∀ (j : Nat) (x : RV), (wipeE r6 vs)[j]? = some (some x) → j ∉ vs) := fun {r6 om6 F6 H6} R6 hO => by
      obtain ⟨R7, a1, a2, a3, a4⟩ := R6.unguard bf hO bp
      have R8 := R7.wipe vs
      rw [wp] at R8
      refine ⟨R8, a1, a2, a3, fun j es h => ?_, fun j x h => (wipeE_some h).2⟩
      obtain ⟨h1, h2⟩ := wipeE_some h
      rw [← wp, wipe_out h2]
      exact a4 j es h1
    have hO : B.om p = none := R2'.ext.wf p bp
    cases b with
    | false =>
      obtain ⟨a0, a1, a2, a3, a4, a5⟩ := un R5 hO
      exact ⟨wipeE r5 vs, om5, F5, acc, xs, a0, (s2.trans g3.f).trans s5, a1, a2, a3, (ra2.mono g3.f).mono s5, a4, a5, hb⟩
    | true =>
      refine he _ F5 om5 H5 st4 r5 X0 _ _ R5 (x0 _) (fun z r6 om6 F6 H6 y6 R6 s6 k6 q6 hb => ?_) hb
      obtain ⟨d6, e6, hz, hb⟩ := wd_iff hb
      obtain ⟨F7, s7, R7, q7⟩ := R6.fz q6
      have rp7 : Rep K F7 y6 d6 := datE_rep q7 e6
      obtain ⟨a0, a1, a2, a3, a4, a5⟩ := un R7 hO
      have ra7 : RepA K F7 xs acc := (((ra2.mono g3.f).mono s5).mono s6).mono s7
      refine ⟨xs, a3, by rw [ra7.length]; exact hz, wipeE r6 vs, om6, F7, acc ++ [d6], xs ++ [y6], ?_, (((s2.trans g3.f).trans s5).trans s6).trans s7, a1, a2, upd_same, ra7.append (.cons rp7 .nil), a4, a5, hb⟩
      exact a0.writeX a1 a2 bp a4
  · have e0 : items.drop i = [] := List.drop_eq_nil_of_le (by omega)
    rw [e0] at hl
    refine .inl ⟨hJ.1 i F2 H2 s2 R2'.rh.sub (by omega), ?_⟩
    have R9 : Rel K B F2 om2 H2 st r2 := R2'.forget (by rw [R2'.len, wipe_length]) fun j x h => ⟨h, (wipe_out (out2 j x h)).symm⟩
    refine hQ (.o acc) r2 om2 F2 H2 (.ref p) R9 (s1.trans s2) trivial ⟨p, rfl, ⟨fp2, op2, bp, xs, hp2, ra2⟩, fun j es h => ?_⟩ hl
    rw [← wipe_out (out2 j _ h)]
    exact own2 j es h
end
end DL

set_option Elab.async false
set_option linter.all false
set_option maxRecDepth 100000
namespace DL
open PySem L2
structure DE (X : Cx) (W : WX) (e : Expr) (t : TE) (w : WE) : Prop where
  p : PE X e t
  s : SE X.K W t w
structure DA (X : Cx) (W : WX) (es : List Expr) (t : TA) (w : WA) : Prop where
  p : PA X es t
  s : SA X.K W t w
structure DT (X : Cx) (W : WX) (e : Expr) (t : TT) (w : WT) : Prop where
  p : PT X e t
  s : ST X.K W t w
structure DW (X : Cx) (W : WX) (e : Expr) (t : TT) (w : WT) : Prop where
  p : PW X e t
  s : ST X.K W t w
structure DTs (X : Cx) (W : WX) (es : List Expr) (t : TT) (w : WT) : Prop where
  p : PTs X es t
  s : ST X.K W t w
structure DS (X : Cx) (W : WX) (s : Stmt) (t : TS) (w : WS) : Prop where
  p : PS X s t
  s : SS X.K W t w
structure DSs (X : Cx) (W : WX) (s : List Stmt) (t : TS) (w : WS) : Prop where
  p : PSs X s t
  s : SS X.K W t w
structure DG (X : Cx) (e : Expr) (t : TG) (w : GT) : Prop where
  p : PG X e t
  s : SG X.K t w
structure DGs (X : Cx) (e : List Expr) (t : TGs) (w : GTs) : Prop where
  p : PGs X e t
  s : SGs X.K t w
structure DI (X : Cx) (W : WX) (tg e : Expr) (t : TI) (w : WI) : Prop where
  p : PI X tg e t
  s : SI X.K W t w
structure O2 (X : Cx) (f : Value → Value → Sem Value) (rr : R2) (q : P2) : Prop where
  p : OpR X f rr
  s : S2 X.K rr q
structure ON (X : Cx) (f : Value) (rr : List V → Hp → VK → Prop) (q : PN) : Prop where
  p : CallR X f rr
  s : SN X.K rr q
section
variable {X : Cx} {W : WX} {pos : Pos}
theorem de_var (i : Nat) {x : Str} {pos : Pos} (hN : X.N[i]? = some x := by rfl) (hv : Vis X.env.scope x := by first | exact Or.inl rfl | exact Or.inr (Or.inl rfl) | exact Or.inr (Or.inr rfl)) (hd : (x == ("__debug__" : Str)) = false := by decide)
    (hcd : (x == ("__classdict__" : Str)) = false := by decide) : DE X W (.Name x pos) (tVar i) (wVar i) := ⟨pe_var hN hv hd hcd, se_var i⟩
theorem de_bor (i : Nat) {x : Str} {pos : Pos} (hN : X.N[i]? = some x := by rfl) (hv : Vis X.env.scope x := by first | exact Or.inl rfl | exact Or.inr (Or.inl rfl) | exact Or.inr (Or.inr rfl)) (hd : (x == ("__debug__" : Str)) = false := by decide)
    (hcd : (x == ("__classdict__" : Str)) = false := by decide) : DE X W (.Name x pos) (tVar i) (wBor i) := ⟨pe_var hN hv hd hcd, se_bor i⟩
theorem de_int {i : Int} {j : Nat} : DE X W (.Constant (.int i) j pos) (tC (.int i)) (wC (.int i)) := ⟨pe_int, se_c fun _ => .int i⟩
theorem de_bl {b : Bool} {j : Nat} : DE X W (.Constant (.bool b) j pos) (tC (.bl b)) (wC (.bl b)) := ⟨pe_bl, se_c fun _ => .bl b⟩
theorem de_non {j : Nat} : DE X W (.Constant .none j pos) (tC .non) (wC .non) := ⟨pe_non, se_c fun _ => .non⟩
theorem de_str {x : Str} {j : Nat} : DE X W (.Constant (.str x) j pos) (tC (.str x)) (wC (.str x)) := ⟨pe_str, se_c fun _ => .str x⟩
structure Cst (K : PySem.W.Frag) (mg : Str → Option Value) (x : Str) (v : V) (d : D) : Prop where
  g : ∃ u, mg x = some u ∧ RelV v u
  r : ∀ F, Rep K F v d
theorem de_ty {x : Str} {n : String} (hm : X.mg x = none) (hv : bootBuiltins x = some (.type n)) (hg : Gl X x := by rfl) (hn : x ≠ "__name__" := by decide) (hd : (x == ("__debug__" : Str)) = false := by decide) : DE X W (.Name x pos) (tC (.ty n)) (wC (.raw (.ty n))) :=
  ⟨pe_bltn hg hm hv rfl hn hd, se_c fun _ => .raw _⟩
theorem de_op {op : Operator} {a b : Expr} {ta tb : TE} {wa wb : WE} {rr : R2} {p : P2} (o : O2 X (binaryOp op) rr p) (ha : DE X W a ta wa) (hb : DE X W b tb wb) : DE X W (.BinOp a op b pos) (tOp rr ta tb) (wOp p wa wb) := ⟨pe_op o.p ha.p hb.p, se_op ha.s hb.s o.s⟩
theorem de_cmp {op : CmpOp} {a b : Expr} {ta tb : TE} {wa wb : WE} {rr : R2} {p : P2} (o : O2 X (compareOp op) rr p) (ha : DE X W a ta wa) (hb : DE X W b tb wb) (hm : behindInMarks op b = false := by first | exact nomark _ | rfl | with_unfolding_all rfl) : DE X W (.Compare a [op] [b] pos) (tOp rr ta tb) (wOp p wa wb) := ⟨pe_cmpR o.p ha.p hb.p hm, se_op ha.s hb.s o.s⟩
theorem dt_cmp {op : CmpOp} {a b : Expr} {ta tb : TE} {wa wb : WE} {rr : R2} {p : P2} (o : O2 X (compareOp op) rr p) (ha : DE X W a ta wa) (hb : DE X W b tb wb) (hm : behindInMarks op b = false := by first | exact nomark _ | rfl | with_unfolding_all rfl) : DT X W (.Compare a [op] [b] pos) (tTest (tOp rr ta tb)) (wTst (wOp p wa wb)) := ⟨pt_cmpR o.p ha.p hb.p hm, st_tst (se_op ha.s hb.s o.s)⟩
theorem da_nil : DA X W [] tNil wNil := ⟨pa_nil, sa_nil⟩
theorem da_cons {e : Expr} {es : List Expr} {te : TE} {we : WE} {t : TA} {w : WA} (h : DE X W e te we) (hr : DA X W es t w) (hs : starEach (e :: es) X.env = (false, eval e X.env) :: starEach es X.env := by rfl) : DA X W (e :: es) (tCons te t) (wCons we w) := ⟨pa_cons h.p hr.p hs, sa_cons h.s hr.s⟩
theorem de_tup {es : List Expr} {k : Nat} {t : TA} {w : WA} (h : DA X W es t w) : DE X W (.Tuple es k pos) (tTup t) (wTup w) := ⟨pe_tup h.p, se_tup h.s⟩
theorem de_lst {es : List Expr} {t : TA} {w : WA} (h : DA X W es t w) : DE X W (.List es pos) (tLst t) (wLst w) := ⟨pe_lst h.p, se_lst h.s⟩
theorem de_cb {x : Str} {p' : Pos} {id : String} {e : Expr} {es : List Expr} {t : TA} {w : WA} {rr : List V → Hp → VK → Prop} {p : PN} (o : ON X (.builtin id) rr p) (hm : X.mg x = none) (hv : bootBuiltins x = some (.builtin id)) (ha : DA X W (e :: es) t w) (hg : Gl X x := by rfl) (hn : x ≠ "__name__" := by decide) (hdb : (x == ("__debug__" : Str)) = false := by decide)
    (he : starEach (e :: es) X.env = (false, eval e X.env) :: starEach es X.env := by rfl) (hpl : (backTo pos (starEach es X.env)).any (·.1) = false := by rfl) : DE X W (.Call (.Name x p') (e :: es) [] pos) (tCB rr t) (wCB p w) := ⟨pe_callB o.p hg hm hv ha.p hn hdb he hpl, se_cb ha.s o.s⟩
theorem de_ct {x : Str} {p' : Pos} {id : String} {e : Expr} {es : List Expr} {t : TA} {w : WA} {rr : List V → Hp → VK → Prop} {p : PN} (o : ON X (.type id) rr p) (hm : X.mg x = none) (hv : bootBuiltins x = some (.type id)) (ha : DA X W (e :: es) t w) (hg : Gl X x := by rfl) (hn : x ≠ "__name__" := by decide) (hdb : (x == ("__debug__" : Str)) = false := by decide)
    (he : starEach (e :: es) X.env = (false, eval e X.env) :: starEach es X.env := by rfl) (hpl : (backTo pos (starEach es X.env)).any (·.1) = false := by rfl) : DE X W (.Call (.Name x p') (e :: es) [] pos) (tCB rr t) (wCB p w) := ⟨pe_callTy o.p hg hm hv ha.p hn hdb he hpl, se_cb ha.s o.s⟩
theorem de_one {op : BoolOp} {a : Expr} {t : TE} {w : WE} (h : DE X W a t w) : DE X W (.BoolOp op [a] pos) t w := ⟨pe_one h.p, h.s⟩
theorem de_and {a b : Expr} {rest : List Expr} {ta tb : TE} {wa wb : WE} (ha : DE X W a ta wa) (hb : DE X W (.BoolOp .And (b :: rest) pos) tb wb) : DE X W (.BoolOp .And (a :: b :: rest) pos) (tAndV ta tb) (wAndV wa wb) := ⟨pe_and ha.p hb.p, se_andV ha.s hb.s⟩
theorem de_not {a : Expr} {ta : TE} {wa : WE} (ha : DE X W a ta wa) : DE X W (.UnaryOp .Not a pos) (tNotV ta) (wNotV wa) := ⟨pe_not ha.p, se_notV ha.s⟩
theorem dt_tru {e : Expr} {t : TE} {w : WE} (h : DE X W e t w) (he : ∀ whole, isTrue e X.env whole = (do let v ← whole; standAt e.pos; holding [v] (truthy v)) := by intro _; rfl) : DT X W e (fun σ H Q => t σ H fun x H' => ∃ k, TruV X.K x H' k ∧ Q k H') (wTru w) := ⟨pt_truth h.p he, st_tru h.s⟩
theorem DW.dt {e : Expr} {t : TT} {w : WT} (h : DW X W e t w) : DT X W e t w := ⟨h.p.pt, h.s⟩
theorem dw_and1 {a : Expr} {t : TT} {w : WT} (h : DT X W a t w) : DW X W (.BoolOp .And [a] pos) t w := ⟨pw_and1 h.p, h.s⟩
theorem dw_or1 {a : Expr} {t : TT} {w : WT} (h : DT X W a t w) : DW X W (.BoolOp .Or [a] pos) t w := ⟨pw_or1 h.p, h.s⟩
theorem dw_and {a b : Expr} {rest : List Expr} {ta tb : TT} {wa wb : WT} (ha : DT X W a ta wa) (hb : DW X W (.BoolOp .And (b :: rest) pos) tb wb) : DW X W (.BoolOp .And (a :: b :: rest) pos) (tAnd ta tb) (wAnd wa wb) := ⟨pw_and ha.p hb.p, st_and ha.s hb.s⟩
theorem dw_or {a b : Expr} {rest : List Expr} {ta tb : TT} {wa wb : WT} (ha : DT X W a ta wa) (hb : DW X W (.BoolOp .Or (b :: rest) pos) tb wb) : DW X W (.BoolOp .Or (a :: b :: rest) pos) (tOr ta tb) (wOr wa wb) := ⟨pw_or ha.p hb.p, st_or ha.s hb.s⟩
theorem dt_not {a : Expr} {t : TT} {w : WT} (h : DT X W a t w) : DT X W (.UnaryOp .Not a pos) (tNot t) (wNot w) := ⟨pt_not h.p, st_not h.s⟩
theorem dss_nil : DSs X W [] tNext wNext := ⟨pss_nil, ss_next⟩
theorem dss_cons {s : Stmt} {ss : List Stmt} {t u : TS} {w v : WS} (h : DS X W s t w) (hr : DSs X W ss u v) : DSs X W (s :: ss) (tSeq t u) (wSeq w v) := ⟨pss_cons h.p hr.p, ss_seq h.s hr.s⟩
theorem dss_one {s : Stmt} {t : TS} {w : WS} (h : DS X W s t w) : DSs X W [s] t w := ⟨pss_one h.p, h.s⟩
theorem ds_brk : DS X W (.Break pos) tBreak wBrk := ⟨ps_break, ss_brk⟩
theorem ds_ret {e : Expr} {t : TE} {w : WE} (h : DE X W e t w) : DS X W (.Return (some e) pos) (tRet t) (wRet w) := ⟨ps_ret h.p, ss_ret h.s⟩
theorem ds_retV (i : Nat) {x : Str} {p' : Pos} (hN : X.N[i]? = some x := by rfl) (hv : Vis X.env.scope x := by first | exact Or.inl rfl | exact Or.inr (Or.inl rfl) | exact Or.inr (Or.inr rfl)) (hd : (x == ("__debug__" : Str)) = false := by decide)
    (hcd : (x == ("__classdict__" : Str)) = false := by decide) : DS X W (.Return (some (.Name x p')) pos) (tRet (tVar i)) (wRet (wMov i)) := ⟨ps_ret (pe_var hN hv hd hcd), ss_retV i⟩
theorem ds_if {c : Expr} {a b : List Stmt} {tt : TT} {wt : WT} {ta tb : TS} {wa wb : WS} (hc : DT X W c tt wt) (ha : DSs X W a ta wa) (hb : DSs X W b tb wb) : DS X W (.If c a b pos) (tIfS tt ta tb) (wIfS wt wa wb) := ⟨ps_if hc.p ha.p hb.p, ss_if hc.s ha.s hb.s⟩
theorem ds_drop {e : Expr} {t : TE} {w : WE} (h : DE X W e t w) (hs : swapsWith e none pos.line X.env = pure false := by rfl) : DS X W (.Expr e pos) (tDrop t) (wDrop w) := ⟨ps_expr h.p hs, ss_drop h.s⟩
theorem dg_name (i : Nat) {x : Str} (hN : X.N.Nodup) (hi : X.N[i]? = some x := by rfl) (hx : Loc X.env.scope x := by first | exact .inl rfl | exact .inr rfl) (hf : X.fn x = true ∨ X.env.scope.names.lookup x = some .local := by first | exact .inl rfl | exact .inr rfl) : DG X (.Name x pos) (gName i) (gN i) := ⟨pg_name hN hi hx hf, sg_name i⟩
theorem dgs_nil : DGs X [] gNil gsNil := ⟨pgs_nil, sgs_nil⟩
theorem dgs_cons (i : Nat) {x : Str} {p' : Pos} {es : List Expr} {t : TGs} {w : GTs} (hN : X.N.Nodup) (hr : DGs X es t w) (hi : X.N[i]? = some x := by rfl) (hx : Loc X.env.scope x := by first | exact .inl rfl | exact .inr rfl) (hf : X.fn x = true ∨ X.env.scope.names.lookup x = some .local := by first | exact .inl rfl | exact .inr rfl)
    (hs : (assignEach (.Name x p' :: es) X.env).map (·.2) = assign (.Name x p') X.env :: (assignEach es X.env).map (·.2) := by rfl) : DGs X (.Name x p' :: es) (gCons (gName i) t) (gsCons i w) := ⟨pgs_cons (pg_name hN hi hx hf) hr.p hs, sgs_cons i hr.s⟩
theorem dg_tup {es : List Expr} {k : Nat} {t : TGs} {w : GTs} {n : Nat} (hc : X.calm = true) (h : DGs X es t w) (hn : (assignEach es X.env).length = n := by rfl) (hst : (assignEach es X.env).findIdx? (·.1) = none := by rfl) : DG X (.Tuple es k pos) (gTup X.K n t) (gT n w) := ⟨pg_tup hc h.p hn hst, sg_tup h.s⟩
theorem ds_set (i : Nat) {x : Str} {e : Expr} {te : TE} {we : WE} {pos' : Pos} (hN : X.N.Nodup) (he : DE X W e te we) (hi : X.N[i]? = some x := by rfl) (hx : Loc X.env.scope x := by first | exact .inl rfl | exact .inr rfl) (hs : swapsWith e (some (.Name x pos')) pos.line X.env = pure false := by rfl) (hf : X.fn x = true ∨ X.env.scope.names.lookup x = some .local := by first | exact .inl rfl | exact .inr rfl) :
    DS X W (.Assign [.Name x pos'] e pos) (tAsg te (gName i)) (wAsg we (gN i)) := ⟨ps_set hN hi hx he.p hs hf, ss_asg he.s (sg_name i)⟩
theorem ds_put (i : Nat) {x : Str} {ix e : Expr} {p1 p2 : Pos} {ti te : TE} {wi we : WE} (hix : DE X W ix ti wi) (he : DE X W e te we) (hN : X.N[i]? = some x := by rfl) (hv : Vis X.env.scope x := by first | exact Or.inl rfl | exact Or.inr (Or.inl rfl) | exact Or.inr (Or.inr rfl))
    (hd : (x == ("__debug__" : Str)) = false := by decide) (hcd : (x == ("__classdict__" : Str)) = false := by decide)
    (ha : ∀ v, assign (.Subscript (.Name x p1) ix p2) X.env v = (do
      let ov ← holding [v] (eval (.Name x p1) X.env)
      let iv ← holding [v, ov] (eval ix X.env)
      standAt p2
      holding [v, ov, iv] (setItem ov iv v)
      release [v, ov, iv] []) := by intro _; rfl)
    (hs : swapsWithSole [.Subscript (.Name x p1) ix p2] e pos.line X.env = pure false := by rfl) (hw : swappedStores [.Subscript (.Name x p1) ix p2] e X.env = pure none := by rfl)
    (h1 : (assignEach [.Subscript (.Name x p1) ix p2] X.env).map (·.2) = [assign (.Subscript (.Name x p1) ix p2) X.env] := by rfl) :
    DS X W (.Assign [.Subscript (.Name x p1) ix p2] e pos) (tAsg te (gSub (tVar i) ti rSetL)) (wSet i wi we) := ⟨ps_asg he.p (pg_sub (pe_var hN hv hd hcd) hix.p set_list ha) hs hw h1, ss_set hix.s he.s⟩
def wAug (i : Nat) (p : P2) (we : WE) : WS := fun e r om => (∃ d, r[i]? = some (some (.v d))) ∧ we e.xq r om fun y r1 om1 => wd (datB r1 om1 (.b i)) fun d => wd (datB r1 om1 y) fun f => p d f fun z => noB z ∧ i < r1.length ∧ e.nx (r1.set i (some z)) om1
theorem ss_aug {K : PySem.W.Frag} {i : Nat} {te : TE} {we : WE} {rr : R2} {p : P2} (he : SE K W te we) (hp : S2 K rr p) : SS K W (tAug i te rr) (wAug i p we) := fun B F om H st r D e R hx hE hw => by
  obtain ⟨⟨d0, e0⟩, hw⟩ := hw
  obtain ⟨y0, e1, s0⟩ := R.slot i _ e0
  refine ⟨y0, e1, ?_⟩
  refine he B F om H st r e.xq _ _ R hx (fun x r1 om1 F1 H1 y R1 s1 k1 q1 hw => ?_) hw
  obtain ⟨d, e2, hw⟩ := wd_iff hw
  obtain ⟨f, e3, hw⟩ := wd_iff hw
  refine hp F1 H1 y0 y d f _ _ R1.rh.sub (R1.datB (x := .b i) e1 e2) (R1.datB q1 e3) hw fun z v F4 H4 g rp hc => ?_
  obtain ⟨R4, q4⟩ := R1.finish g rp
  exact hE.nx _ _ _ _ _ (R4.put q4 (fun j z => by rw [z] at hc; exact hc.1) hc.2.1) hc.2.2
theorem ds_aug (i : Nat) {x : Str} {op : Operator} {e : Expr} {te : TE} {we : WE} {rr : R2} {p : P2} {pos' : Pos} (hN : X.N.Nodup) (o : O2 X (inplaceOp op) rr p) (he : DE X W e te we) (hi : X.N[i]? = some x := by rfl) (hx : Loc X.env.scope x := by first | exact .inl rfl | exact .inr rfl) (hf : X.fn x = true ∨ X.env.scope.names.lookup x = some .local := by first | exact .inl rfl | exact .inr rfl) :
    DS X W (.AugAssign (.Name x pos') op e pos) (tAug i te rr) (wAug i p we) := ⟨ps_aug hN hi hx he.p o.p hf, ss_aug he.s o.s⟩
theorem ds_for {tg iter : Expr} {body : List Stmt} {ti : TI} {wi : WI} {g : TG} {w : GT} {tb : TS} {wb : WS} (hp : PassesOwn (model X.prog X.w) X.A X.env X.xe) (hc : X.calm = true) (hi : DI X W tg iter ti wi) (hg : DG X tg g w) (hb : DSs X W body tb wb)
    (hs : ∀ x, foldedSetIterable iter X.env x = pure x := by intro _; rfl) : DS X W (.For tg iter body [] pos) (tFor ti g tb) (wFor wi w wb) := ⟨ps_for hp hc hi.p hg.p hb.p hs, ss_for hi.s hg.s hb.s⟩
theorem ds_while {c : Expr} {body : List Stmt} {tt : TT} {wt : WT} {tb : TS} {wb : WS} (hp : PassesOwn (model X.prog X.w) X.A X.env X.xe) (hc : DT X W c tt wt) (hb : DSs X W body tb wb) : DS X W (.While c body [] pos) (tWhile tt tb) (wWhile wt wb) := ⟨ps_while hp hc.p hb.p, ss_while hc.s hb.s⟩
def wNever : WS := fun _ _ _ => False
theorem di_r1 {tg a : Expr} {ta : TA} {wa : WA} {p' : Pos} (hm : X.mg "range" = none) (ha : DA X W [a] ta wa) (hg : Gl X "range" := by rfl) (hs : starEach [a] X.env = [(false, eval a X.env)] := by rfl) : DI X W tg (.Call (.Name "range" p') [a] [] pos) (iRng1 ta) (wiR1 wa) := ⟨pi_range1 hg hm ha.p hs, si_r1 ha.s⟩
theorem di_r2 {tg a b : Expr} {ta : TA} {wa : WA} {p' : Pos} (hm : X.mg "range" = none) (ha : DA X W [a, b] ta wa) (hg : Gl X "range" := by rfl) (hs : starEach [a, b] X.env = [(false, eval a X.env), (false, eval b X.env)] := by rfl) (hs2 : starEach [b] X.env = [(false, eval b X.env)] := by rfl) :
    DI X W tg (.Call (.Name "range" p') [a, b] [] pos) (iRng2 ta) (wiR2 wa) := ⟨pi_range2 hg hm ha.p hs hs2, si_r2 ha.s⟩
abbrev W0 : WX := fun _ _ _ _ => False
theorem dts_nil : DTs X W [] tYes wYes := ⟨pts_nil, st_yes⟩
theorem dts_one {c : Expr} {t : TT} {w : WT} (h : DT X W c t w) : DTs X W [c] t w := ⟨pts_one h.p, h.s⟩
structure DGv (X : Cx) (vs : List Nat) (e : Expr) (t : TG) (w : GT) : Prop where
  p : PG X e t
  s : SGv X.K vs t w
theorem dgv_name (i : Nat) {vs : List Nat} {x : Str} (hN : X.N.Nodup) (hm : i ∈ vs := by decide) (hi : X.N[i]? = some x := by rfl) (hx : Loc X.env.scope x := by first | exact .inl rfl | exact .inr rfl) (hf : X.fn x = true ∨ X.env.scope.names.lookup x = some .local := by first | exact .inl rfl | exact .inr rfl) : DGv X vs (.Name x pos) (gName i) (gN i) := ⟨pg_name hN hi hx hf, sgv_name i hm⟩
structure DGvs (X : Cx) (vs : List Nat) (e : List Expr) (t : TGs) (w : GTs) : Prop where
  p : PGs X e t
  s : SGvs X.K vs t w
theorem dgvs_nil {vs : List Nat} : DGvs X vs [] gNil gsNil := ⟨pgs_nil, sgvs_nil⟩
theorem dgvs_cons (i : Nat) {vs : List Nat} {x : Str} {p' : Pos} {es : List Expr} {t : TGs} {w : GTs} (hN : X.N.Nodup) (hr : DGvs X vs es t w) (hm : i ∈ vs := by decide) (hi : X.N[i]? = some x := by rfl) (hx : Loc X.env.scope x := by first | exact .inl rfl | exact .inr rfl) (hf : X.fn x = true ∨ X.env.scope.names.lookup x = some .local := by first | exact .inl rfl | exact .inr rfl)
    (hs : (assignEach (.Name x p' :: es) X.env).map (·.2) = assign (.Name x p') X.env :: (assignEach es X.env).map (·.2) := by rfl) : DGvs X vs (.Name x p' :: es) (gCons (gName i) t) (gsCons i w) := ⟨pgs_cons (pg_name hN hi hx hf) hr.p hs, sgvs_cons i hm hr.s⟩
theorem dgv_tup {vs : List Nat} {es : List Expr} {k : Nat} {t : TGs} {w : GTs} {n : Nat} (hc : X.calm = true) (h : DGvs X vs es t w) (hn : (assignEach es X.env).length = n := by rfl) (hst : (assignEach es X.env).findIdx? (·.1) = none := by rfl) : DGv X vs (.Tuple es k pos) (gTup X.K n t) (gT n w) := ⟨pg_tup hc h.p hn hst, sgv_tup h.s⟩
theorem de_lc {elt tg iter : Expr} {ifs : List Expr} {scope : Scope} {own : List (Str × Nat)} {ti : TI} {wi : WI} {g : TG} {gw : GT} {tt : TT} {wt : WT} {te : TE} {we : WE} (hc : X.calm = true) (hN : X.N.Nodup) (hi : DI X W tg iter ti wi) (ok : blkC X.N X.env.scope scope own = true)
    (hg : ∀ (s : Shared) (H : Hp) (C : Addr) (cl : List (Str × Addr)) (fp : List Addr), DGv (X.blk s H scope (PySem.compEnvC scope cl C X.env) fp) (own.map (·.2)) tg g gw)
    (ht : ∀ (s : Shared) (H : Hp) (C : Addr) (cl : List (Str × Addr)) (fp : List Addr), DTs (X.blk s H scope (PySem.compEnvC scope cl C X.env) fp) W0 ifs tt wt)
    (he : ∀ (s : Shared) (H : Hp) (C : Addr) (cl : List (Str × Addr)) (fp : List Addr), DE (X.blk s H scope (PySem.compEnvC scope cl C X.env) fp) W0 elt te we) (s0 : Shared) (hs : ∀ x, foldedSetIterable iter X.env x = pure x := by intro _; rfl) :
    DE X W (.ListComp elt [⟨tg, iter, ifs, 0⟩] scope pos) (tLc ti g tt te (own.map (·.2))) (wLc wi gw wt we (own.map (·.2))) :=
  ⟨pe_lc hc hN hi.p (blkOk_by ok) (fun s H C cl fp => (hg s H C cl fp).p) (fun s H C cl fp => (ht s H C cl fp).p) (fun s H C cl fp => (he s H C cl fp).p) hs,
    se_lc hi.s (hg s0 (fun _ => none) 0 [] []).s (ht s0 (fun _ => none) 0 [] []).s (he s0 (fun _ => none) 0 [] []).s⟩
end
def Def (P : Program) (w : World) (K : PySem.W.Frag) (mg : Str → Option Value) (base : Heap) (x : Str) (c : Con) (k : Nat) : Prop :=
  ∃ (a : Addr) (fd : FuncData) (ps : List Str), FnOk P w K mg base (L2.CX P w) k a fd ps (toSp K c) ∧ mg x = some (.ref a) ∧ PySem.W.keepIn K (.ref a) = true ∧ Binds K fd ps []
section
variable {X : Cx} {W : WX} {pos : Pos}
theorem de_call {x : Str} {c : Con} {k : Nat} {e : Expr} {es : List Expr} {p' : Pos} {t : TA} {w : WA} (F : Def X.prog X.w X.K X.mg X.base x c k) (hr : Room k X.A) (tk : Takes X W) (ha : DA X W (e :: es) t w) (hg : Gl X x := by rfl) (hdb : (x == ("__debug__" : Str)) = false := by decide)
    (he : starEach (e :: es) X.env = (false, eval e X.env) :: starEach es X.env := by rfl) (hpl : (backTo pos (starEach es X.env)).any (·.1) = false := by rfl) :
    DE X W (.Call (.Name x p') (e :: es) [] pos) (tCallSD (toSp X.K c) [] (L2.WE W) t) (wCall c.df [] w) :=
  ⟨let ⟨_, _, _, h1, h2, h3, h4⟩ := F; pe_callSD h1 hr hg h2 h3 h4 .nil (fun σ => passAt tk σ) ha.p hdb he hpl, se_call ha.s fun _ => .nil⟩
end
theorem fn_ok {P : Program} {w : World} {K : PySem.W.Frag} {mg : Str → Option Value} {base : Heap} {x qual : Str} {params : Arguments} {body : List Stmt} {scope : Scope} {dvs : List V} {kws : List (Str × V)} {f : Addr} {fd : FuncData} {N ps : List Str} {k : Nat} {c : Con} {ws : WS}
    (F : FunD K x qual params body scope dvs kws f fd) (S : FnScope N ps scope) (hn : ps.length = c.n)
    (hb : ∀ (cdv : Value) (A : Around) (outer : List PySem.Env) (s : Shared) (H : Hp) (E : XK), Room k (A.deeper (PyProof.Rows.envOfC qual scope s.heap.objs.size f cdv)) →
      ∃ t, DSs (cxOf (L2.CX P w) P w K mg base N qual scope f cdv A outer s H E) (fun cls d _ H => E cls d H) body t ws)
    (hw : ∀ ds om k xk, c.df ds om k xk → ws (endOf k xk) (startE N.length ds) om) : FnOk P w K mg base (L2.CX P w) (k + 1) f fd ps (toSp K c) :=
  F.ok S (fun vs H Q E h => (toSp_len h).trans hn.symm) fun cdv A outer s H vs Q E hr h => by
    obtain ⟨t, ht⟩ := hb cdv A outer s H E hr
    exact ⟨t, ht.p, body_ok ht.s hw h⟩
end DL

set_option Elab.async false
set_option linter.all false
set_option maxRecDepth 100000
namespace DL
open PySem L2
section
variable {X : Cx} {K : PySem.W.Frag} {F H : Hp}
theorem vres {F H : Hp} {d : D} {v : V} {c : RV → Prop} {Q : VK} (s : Same F H) (h : Rep K F v d) (hc : c (.v d)) (hQ : ∀ z v F' H', Grow F H F' H' → ResP K F' H H' v z → c z → Q v H') : Q v H := hQ (.v d) v F H (Grow.refl s) h hc
theorem lres {F H : Hp} {ds : List D} {xs : List V} {c : RV → Prop} {Q : VK} (s : Same F H) (h : RepA K F xs ds) (hc : c (.o ds)) (hQ : ∀ z v F' H', Grow F H F' H' → ResP K F' H H' v z → c z → Q v H') : ∀ p, H p = none → Q (.ref p) (upd H p (.lst xs)) :=
  fun p hp => hQ (.o ds) (.ref p) F _ (Grow.allocO s hp) (ResP.newL s hp h) hc
theorem tres {F H : Hp} {ds : List D} {xs : List V} {c : RV → Prop} {Q : VK} (s : Same F H) (h : RepA K F xs ds) (hc : c (.v (.tup ds))) (hQ : ∀ z v F' H', Grow F H F' H' → ResP K F' H H' v z → c z → Q v H') : ∀ p, H p = none → Q (.ref p) (upd H p (.tup xs)) :=
  fun p hp => hQ (.v (.tup ds)) (.ref p) _ _ (Grow.alloc s hp) (ResP.newT s hp h) hc
def pI (C : Int → Int → Prop) (g : Int → Int → D) : P2 := fun d e c => match d, e with
  | .int i, .int j => C i j ∧ c (.v (g i j))
  | _, _ => False
@[simp] theorem pI_int (C : Int → Int → Prop) (g : Int → Int → D) (i j : Int) (c : RV → Prop) : pI C g (.int i) (.int j) c = (C i j ∧ c (.v (g i j))) := rfl
def pI0 (g : Int → Int → D) : P2 := fun d e c => match d, e with
  | .int i, .int j => c (.v (g i j))
  | _, _ => False
@[simp] theorem pI0_int (g : Int → Int → D) (i j : Int) (c : RV → Prop) : pI0 g (.int i) (.int j) c = c (.v (g i j)) := rfl
theorem s_rI {C C' : Int → Int → Prop} {g : Int → Int → V} {gd : Int → Int → D} (hC : ∀ i j, C i j → C' i j) (hg : ∀ i j F, Rep K F (g i j) (gd i j)) : S2 K (rI C' g) (pI C gd) := fun F H x y d e c Q s rx ry hp hQ => by
  cases d with
  | int i =>
    cases e with
    | int j => exact ⟨i, j, rx.intS, ry.intS, hC i j hp.1, vres s (hg i j F) hp.2 hQ⟩
    | _ => exact hp.elim
  | _ => exact hp.elim
theorem s_rI0 {g : Int → Int → V} {gd : Int → Int → D} (hg : ∀ i j F, Rep K F (g i j) (gd i j)) : S2 K (rI0 g) (pI0 gd) := fun F H x y d e c Q s rx ry hp hQ => by
  cases d with
  | int i =>
    cases e with
    | int j => exact ⟨i, j, rx.intS, ry.intS, vres s (hg i j F) hp hQ⟩
    | _ => exact hp.elim
  | _ => exact hp.elim
def pAdd : P2 := fun d e c => match d, e with
  | .int i, .int j => c (.v (.int (i + j)))
  | .lst xs, .lst ys => xs.length + ys.length ≤ sizeLine ∧ c (.o (xs ++ ys))
  | .tup xs, .tup ys => xs.length + ys.length ≤ sizeLine ∧ c (.v (.tup (xs ++ ys)))
  | .str a, .str b => a.length + b.length ≤ sizeLine ∧ c (.v (.str (a ++ b)))
  | _, _ => False
@[simp] theorem pAdd_int (i j : Int) (c : RV → Prop) : pAdd (.int i) (.int j) c = c (.v (.int (i + j))) := rfl
@[simp] theorem pAdd_lst (i j : List D) (c : RV → Prop) : pAdd (.lst i) (.lst j) c = (i.length + j.length ≤ sizeLine ∧ c (.o (i ++ j))) := rfl
@[simp] theorem pAdd_tup (i j : List D) (c : RV → Prop) : pAdd (.tup i) (.tup j) c = (i.length + j.length ≤ sizeLine ∧ c (.v (.tup (i ++ j)))) := rfl
@[simp] theorem pAdd_str (i j : Str) (c : RV → Prop) : pAdd (.str i) (.str j) c = (i.length + j.length ≤ sizeLine ∧ c (.v (.str (i ++ j)))) := rfl
abbrev rStr : R2 := fun x y H Q => ∃ i j, x = .str i ∧ y = .str j ∧ i.length + j.length ≤ sizeLine ∧ Q (.str (i ++ j)) H
abbrev rAddD (K : PySem.W.Frag) : R2 := fun x y H Q => rI0 (fun i j => .int (i + j)) x y H Q ∨ rCat x y H Q ∨ rCatA K x y H Q ∨ rStr x y H Q
theorem o_add : O2 X (binaryOp .Add) (rAddD X.K) pAdd := ⟨OpR.or op_add (OpR.or op_cat (OpR.or op_catA op_add_str)), fun F H x y d e c Q s rx ry hp hQ => by
  cases d with
  | int i =>
    cases e with
    | int j => exact .inl ⟨i, j, rx.intS, ry.intS, vres s (.int _) hp hQ⟩
    | _ => exact hp.elim
  | lst ds =>
    cases e with
    | lst es =>
      obtain ⟨a, xs, rfl, h1, h2⟩ := rx.lstS s
      obtain ⟨b, ys, rfl, h3, h4⟩ := ry.lstS s
      exact .inr (.inl ⟨a, b, xs, ys, rfl, rfl, h1, h3, by rw [h2.length, h4.length]; exact hp.1, lres s (h2.append h4) hp.2 hQ⟩)
    | _ => exact hp.elim
  | tup ds =>
    cases e with
    | tup es =>
      obtain ⟨hl, hc⟩ := hp
      have rx' : Rep X.K F x (.tup ds) := by
        rcases rx with h | ⟨a, xs, es, e1, e2, h1, h2⟩
        · exact h
        · cases e2
      have ry' : Rep X.K F y (.tup es) := by
        rcases ry with h | ⟨a, xs, es, e1, e2, h1, h2⟩
        · exact h
        · cases e2
      obtain ⟨a, xs, rfl, h1, h2⟩ := rx.tupS s
      obtain ⟨b, ys, rfl, h3, h4⟩ := ry.tupS s
      refine .inr (.inr (.inl ⟨a, b, xs, ys, rfl, rfl, h1, h3, by rw [h2.length, h4.length]; exact hl, fun z => ?_, fun _ z => ?_, fun _ _ => tres s (h2.append h4) hc hQ⟩))
      · subst z
        cases h2
        exact vres s ry' hc hQ
      · subst z
        cases h4
        rw [List.append_nil] at hc
        exact vres s rx' hc hQ
    | _ => exact hp.elim
  | str a =>
    cases e with
    | str b => exact .inr (.inr (.inr ⟨a, b, rx.strS, ry.strS, hp.1, vres s (.str _) hp.2 hQ⟩))
    | _ => exact hp.elim
  | _ => exact hp.elim⟩
def pSub : P2 := pI0 fun i j => .int (i - j)
theorem pSub_i (i j : Int) (c : RV → Prop) : pSub (.int i) (.int j) c = c (.v (.int (i - j))) := rfl
theorem o_sub : O2 X (binaryOp .Sub) (rI0 fun i j => .int (i - j)) pSub := ⟨op_sub, s_rI0 fun _ _ _ => .int _⟩
def mulOk (i j : Int) : Prop := (-(2 ^ 64) < i ∧ i < 2 ^ 64) ∨ (-(2 ^ 64) < j ∧ j < 2 ^ 64) ∨ CMulW i j
def pMul : P2 := fun d e c => match d, e with
  | .int i, .int j => mulOk i j ∧ c (.v (.int (i * j)))
  | .lst xs, .int k => -(2 ^ 63) ≤ k ∧ k < 2 ^ 63 ∧ xs.length * k.toNat ≤ sizeLine ∧ c (.o (List.replicate k.toNat xs).flatten)
  | .tup xs, .int k => xs ≠ [] ∧ 2 ≤ k ∧ k ≤ 1000 ∧ xs.length ≤ 1000 ∧ c (.v (.tup (List.replicate k.toNat xs).flatten))
  | _, _ => False
@[simp] theorem pMul_int (i j : Int) (c : RV → Prop) : pMul (.int i) (.int j) c = (mulOk i j ∧ c (.v (.int (i * j)))) := rfl
@[simp] theorem pMul_lst (xs : List D) (k : Int) (c : RV → Prop) : pMul (.lst xs) (.int k) c = (-(2 ^ 63) ≤ k ∧ k < 2 ^ 63 ∧ xs.length * k.toNat ≤ sizeLine ∧ c (.o (List.replicate k.toNat xs).flatten)) := rfl
@[simp] theorem pMul_tup (xs : List D) (k : Int) (c : RV → Prop) : pMul (.tup xs) (.int k) c = (xs ≠ [] ∧ 2 ≤ k ∧ k ≤ 1000 ∧ xs.length ≤ 1000 ∧ c (.v (.tup (List.replicate k.toNat xs).flatten))) := rfl
abbrev rMulD (K : PySem.W.Frag) : R2 := fun x y H Q => rI CMul (fun i j => .int (i * j)) x y H Q ∨ rI CMulW (fun i j => .int (i * j)) x y H Q ∨ rRep x y H Q ∨ rRepT K x y H Q
theorem o_mul : O2 X (binaryOp .Mult) (rMulD X.K) pMul := ⟨OpR.or op_mul (OpR.or op_mulW (OpR.or op_rep op_repT)), fun F H x y d e c Q s rx ry hp hQ => by
  cases d with
  | int i =>
    cases e with
    | int j =>
      obtain ⟨h, hc⟩ := hp
      rcases h with h | h | h
      · exact .inl ⟨i, j, rx.intS, ry.intS, .inl h, vres s (.int _) hc hQ⟩
      · exact .inl ⟨i, j, rx.intS, ry.intS, .inr h, vres s (.int _) hc hQ⟩
      · exact .inr (.inl ⟨i, j, rx.intS, ry.intS, h, vres s (.int _) hc hQ⟩)
    | _ => exact hp.elim
  | lst ds =>
    cases e with
    | int k =>
      obtain ⟨a, xs, rfl, h1, h2⟩ := rx.lstS s
      obtain ⟨q1, q2, q3, hc⟩ := hp
      exact .inr (.inr (.inl ⟨a, k, xs, rfl, ry.intS, h1, q1, q2, by rw [h2.length]; exact q3, lres s (h2.flat _) hc hQ⟩))
    | _ => exact hp.elim
  | tup ds =>
    cases e with
    | int k =>
      obtain ⟨a, xs, rfl, h1, h2⟩ := rx.tupS s
      obtain ⟨q0, q1, q2, q3, hc⟩ := hp
      exact .inr (.inr (.inr ⟨a, k, xs, rfl, ry.intS, h1, fun z => (by subst z; cases h2; exact q0 rfl), q1, q2, by rw [h2.length]; exact q3, tres s (h2.flat _) hc hQ⟩))
    | _ => exact hp.elim
  | _ => exact hp.elim⟩
theorem divOk {i j : Int} (h : 0 < j ∧ j < 2 ^ 200) : CDivW i j := wide_div (b := 200) h.1 (by omega) (by decide) (by decide)
def pDiv : P2 := pI (fun _ j => 0 < j ∧ j < 2 ^ 200) fun i j => .int (i / j)
theorem pDiv_i (i j : Int) (c : RV → Prop) : pDiv (.int i) (.int j) c = ((0 < j ∧ j < 2 ^ 200) ∧ c (.v (.int (i / j)))) := rfl
theorem o_div : O2 X (binaryOp .FloorDiv) (rI CDivW fun i j => .int (i / j)) pDiv := ⟨op_fdivW, s_rI (fun _ _ h => divOk h) fun _ _ _ => .int _⟩
def pMod : P2 := pI (fun _ j => 0 < j) fun i j => .int (i % j)
theorem pMod_i (i j : Int) (c : RV → Prop) : pMod (.int i) (.int j) c = (0 < j ∧ c (.v (.int (i % j)))) := rfl
theorem o_mod : O2 X (binaryOp .Mod) (rI (fun _ j => 0 < j) fun i j => .int (i % j)) pMod := ⟨op_mod, s_rI (fun _ _ h => h) fun _ _ _ => .int _⟩
def pPow : P2 := pI (fun i j => 0 ≤ j ∧ j ≤ 1000000 ∧ i.natAbs < 2 ^ 64) fun i j => .int (i ^ j.toNat)
theorem pPow_i (i j : Int) (c : RV → Prop) : pPow (.int i) (.int j) c = ((0 ≤ j ∧ j ≤ 1000000 ∧ i.natAbs < 2 ^ 64) ∧ c (.v (.int (i ^ j.toNat)))) := rfl
theorem o_pow : O2 X (binaryOp .Pow) (rI CPow fun i j => .int (i ^ j.toNat)) pPow := ⟨op_pow, s_rI (fun _ _ h => h) fun _ _ _ => .int _⟩
def pShl : P2 := pI (fun i j => 0 ≤ j ∧ j ≤ 1000000 ∧ i.natAbs < 2 ^ 64) fun i j => .int (i * 2 ^ j.toNat)
def pAddI : P2 := pI0 fun i j => .int (i + j)
theorem pAddI_i (i j : Int) (c : RV → Prop) : pAddI (.int i) (.int j) c = c (.v (.int (i + j))) := rfl
theorem io_add : O2 X (inplaceOp .Add) (rI0 fun i j => .int (i + j)) pAddI := ⟨iop_add, s_rI0 fun _ _ _ => .int _⟩
def pDivI : P2 := pI (fun _ j => 0 < j ∧ j < 1073741824) fun i j => .int (i / j)
abbrev pLt : P2 := pI0 fun i j => .bl (decide (i < j))
abbrev pLe : P2 := pI0 fun i j => .bl (decide (i ≤ j))
abbrev pGt : P2 := pI0 fun i j => .bl (decide (j < i))
abbrev pGe : P2 := pI0 fun i j => .bl (decide (j ≤ i))
mutual
def py : D → PyData
  | .non => .none
  | .bl b => .bool b
  | .int i => .int i
  | .str x => .str x
  | .tup ds => .tuple (pys ds)
  | .lst ds => .list (pys ds)
  | .frl ds => .list (pys ds)
  | _ => .none
def pys : List D → List PyData
  | [] => []
  | d :: ds => py d :: pys ds
end
mutual
def okPy : D → Bool
  | .non => true
  | .bl _ => true
  | .int _ => true
  | .str _ => true
  | .tup ds => okPys ds
  | .lst ds => okPys ds
  | .frl ds => okPys ds
  | _ => false
def okPys : List D → Bool
  | [] => true
  | d :: ds => okPy d && okPys ds
end
mutual
theorem Rep.dp (s : Same F H) : ∀ {v : V} {d : D}, Rep K F v d → okPy d = true → Dp K H v (py d)
  | _, _, .non, _ => by simp only [py]; exact .non
  | _, _, .bl b, _ => by simp only [py]; exact .bl b
  | _, _, .int i, _ => by simp only [py]; exact .int i
  | _, _, .str x, _ => by simp only [py]; exact .str x
  | _, _, .tup h r, e => by simp only [py]; exact .tup (same_sqT s h) (RepA.dp s r (by simpa [okPy] using e))
  | _, _, .lst h r, e => by simp only [py]; exact .lst (SqL.of (s _ _ h)) (RepA.dp s r (by simpa [okPy] using e))
  | _, _, .frl h r, e => by simp only [py]; exact .lst (s.seq h) (RepA.dp s r (by simpa [okPy] using e))
  | _, _, .dct _ _ _, e => by simp [okPy] at e
  | _, _, .raw _, e => by simp [okPy] at e
  | _, _, .h _, e => by simp [okPy] at e
  | _, _, .exc0 _, e => by simp [okPy] at e
  | _, _, .exc1 _ _ _, e => by simp [okPy] at e
  | _, _, .fn _, e => by simp [okPy] at e
theorem RepA.dp (s : Same F H) : ∀ {vs : List V} {ds : List D}, RepA K F vs ds → okPys ds = true → DpAll K H vs (pys ds)
  | _, _, .nil, _ => by simp only [pys]; exact .nil
  | _, _, .cons r t, e => by
    have e' := Bool.and_eq_true_iff.mp (by simpa only [okPys] using e)
    simp only [pys]; exact .cons (Rep.dp s r e'.1) (RepA.dp s t e'.2)
end
theorem RepB.dp (s : Same F H) {y : V} {d : D} (h : RepB K F H y d) (e : okPy d = true) : Dp K H y (py d) := by
  rcases h with h | ⟨a, xs, ds, rfl, rfl, h1, h2⟩
  · exact h.dp s e
  · simp only [py]
    exact .lst (SqL.of h1) (h2.dp s (by simpa [okPy] using e))
def eqD (d e : D) : Bool := PyData.eqv (py d) (py e)
def okE (d : D) : Prop := okPy d = true ∧ SeqAt.shaped (py d) = true
def pEq : P2 := fun d e c => match d, e with
  | .int i, .int j => c (.v (.bl (decide (i = j))))
  | .str i, .str j => c (.v (.bl (decide (i = j))))
  | d, e => okE d ∧ okE e ∧ c (.v (.bl (eqD d e)))
def pNe : P2 := fun d e c => match d, e with
  | .int i, .int j => c (.v (.bl (!decide (i = j))))
  | .str i, .str j => c (.v (.bl (!decide (i = j))))
  | d, e => okE d ∧ okE e ∧ c (.v (.bl (!eqD d e)))
@[simp] theorem pEq_int (i j : Int) (c : RV → Prop) : pEq (.int i) (.int j) c = c (.v (.bl (decide (i = j)))) := rfl
@[simp] theorem pNe_int (i j : Int) (c : RV → Prop) : pNe (.int i) (.int j) c = c (.v (.bl (!decide (i = j)))) := rfl
@[simp] theorem pEq_str (i j : Str) (c : RV → Prop) : pEq (.str i) (.str j) c = c (.v (.bl (decide (i = j)))) := rfl
@[simp] theorem pNe_str (i j : Str) (c : RV → Prop) : pNe (.str i) (.str j) c = c (.v (.bl (!decide (i = j)))) := rfl
@[simp] theorem pEq_lst (i j : List D) (c : RV → Prop) : pEq (.lst i) (.lst j) c = (okE (.lst i) ∧ okE (.lst j) ∧ c (.v (.bl (eqD (.lst i) (.lst j))))) := rfl
@[simp] theorem pNe_lst (i j : List D) (c : RV → Prop) : pNe (.lst i) (.lst j) c = (okE (.lst i) ∧ okE (.lst j) ∧ c (.v (.bl (!eqD (.lst i) (.lst j))))) := rfl
@[simp] theorem pEq_tup (i j : List D) (c : RV → Prop) : pEq (.tup i) (.tup j) c = (okE (.tup i) ∧ okE (.tup j) ∧ c (.v (.bl (eqD (.tup i) (.tup j))))) := rfl
@[simp] theorem pNe_tup (i j : List D) (c : RV → Prop) : pNe (.tup i) (.tup j) c = (okE (.tup i) ∧ okE (.tup j) ∧ c (.v (.bl (!eqD (.tup i) (.tup j))))) := rfl
abbrev rEqA (K : PySem.W.Frag) : R2 := fun x y H Q => rEq x y H Q ∨ rEqD K x y H Q
abbrev rNeA (K : PySem.W.Frag) : R2 := fun x y H Q => rNe x y H Q ∨ rNeD K x y H Q
theorem o_eq {k : Nat} (hr : Room k X.A) : O2 X (compareOp .Eq) (rEqA X.K) pEq := ⟨OpR.or op_eq (op_eqD hr.units), fun F H x y d e c Q s rx ry hp hQ => by
  unfold pEq at hp
  split at hp
  · next i j =>
    obtain rfl := rx.intS
    obtain rfl := ry.intS
    refine .inl ⟨rfl, ?_⟩
    have e : decide (V.int i = V.int j) = decide (i = j) := by simp
    rw [e]
    exact vres s (.bl _) hp hQ
  · next i j =>
    obtain rfl := rx.strS
    obtain rfl := ry.strS
    refine .inl ⟨rfl, ?_⟩
    have e : decide (V.str i = V.str j) = decide (i = j) := by simp
    rw [e]
    exact vres s (.bl _) hp hQ
  · exact .inr ⟨py d, py e, rx.dp s hp.1.1, ry.dp s hp.2.1.1, hp.1.2, hp.2.1.2, vres s (.bl _) hp.2.2 hQ⟩⟩
theorem o_ne {k : Nat} (hr : Room k X.A) : O2 X (compareOp .NotEq) (rNeA X.K) pNe := ⟨OpR.or op_ne (op_neD hr.units), fun F H x y d e c Q s rx ry hp hQ => by
  unfold pNe at hp
  split at hp
  · next i j =>
    obtain rfl := rx.intS
    obtain rfl := ry.intS
    refine .inl ⟨rfl, ?_⟩
    have e : decide (V.int i = V.int j) = decide (i = j) := by simp
    rw [e]
    exact vres s (.bl _) hp hQ
  · next i j =>
    obtain rfl := rx.strS
    obtain rfl := ry.strS
    refine .inl ⟨rfl, ?_⟩
    have e : decide (V.str i = V.str j) = decide (i = j) := by simp
    rw [e]
    exact vres s (.bl _) hp hQ
  · exact .inr ⟨py d, py e, rx.dp s hp.1.1, ry.dp s hp.2.1.1, hp.1.2, hp.2.1.2, vres s (.bl _) hp.2.2 hQ⟩⟩
def lenD : D → Option Nat
  | .lst ds => some ds.length
  | .frl ds => some ds.length
  | .tup ds => some ds.length
  | .str x => if x.length ≤ sizeLine then some x.length else none
  | _ => none
def one (ds : List D) : Option D := match ds with
  | [d] => some d
  | _ => none
theorem one_inv {ds : List D} {d : D} (h : one ds = some d) : ds = [d] := by
  unfold one at h
  split at h
  · cases h; rfl
  · cases h
@[simp] theorem one_one (d : D) : one [d] = some d := rfl
def pLen : PN := fun ds c => wd (one ds) fun d => wd (lenD d) fun n => c (.v (.int n))
theorem n_len : ON X (.builtin "len") (fun xs H Q => ∃ x n, xs = [x] ∧ LenV X.K x H n ∧ Q (.int n) H) pLen := ⟨call_len, fun F H xs ds c Q s r hp hQ => by
  obtain ⟨d, e, hp1⟩ := wd_iff hp
  obtain ⟨n, e2, hp2⟩ := wd_iff hp1
  have e0 := one_inv e
  rw [e0] at r
  obtain ⟨y, ey, r1⟩ := repBs1 r
  subst ey
  refine ⟨y, n, rfl, ?_, vres s (.int _) hp2 hQ⟩
  cases d with
  | lst ds =>
    obtain ⟨a, xs, rfl, h1, h2⟩ := r1.lstS s
    cases e2
    exact .inl ⟨xs, SqL.of h1, h2.length.symm⟩
  | frl ds =>
    obtain ⟨a, xs, rfl, h1, h2⟩ := r1.frlS s
    cases e2
    exact .inl ⟨xs, h1, h2.length.symm⟩
  | tup ds =>
    obtain ⟨a, xs, rfl, h1, h2⟩ := r1.tupS s
    cases e2
    exact .inr ⟨xs, h1, h2.length.symm⟩
  | str x =>
    obtain rfl := r1.strS
    simp only [lenD] at e2
    by_cases hx : x.length ≤ sizeLine
    · rw [if_pos hx] at e2; cases e2; exact ⟨hx, rfl⟩
    · rw [if_neg hx] at e2; cases e2
  | _ => cases e2⟩
def tyD : D → Option String
  | .non => some "NoneType"
  | .bl _ => some "bool"
  | .int _ => some "int"
  | .str _ => some "str"
  | .tup _ => some "tuple"
  | .lst _ => some "list"
  | .frl _ => some "list"
  | .dct _ _ => some "dict"
  | _ => none
def isiD (t n : String) : Option Bool :=
  if n = "int" then some (t == "int" || t == "bool") else if n = "bool" then some (t == "bool") else if n = "str" then some (t == "str")
  else if n = "list" then some (t == "list") else if n = "tuple" then some (t == "tuple") else if n = "dict" then some (t == "dict") else none
def pIsi : PN := fun ds c => match ds with
  | [d, .raw (.ty n)] => wd (tyD d) fun t => wd (isiD t n) fun b => c (.v (.bl b))
  | _ => False
theorem kit_all : ∀ t ∈ ["NoneType", "bool", "int", "str", "tuple", "list", "dict"], ∀ n ∈ ["int", "bool", "str", "list", "tuple", "dict"], kitB t n = isiD t n := by decide +kernel
theorem tyD_mem {d : D} {t : String} (h : tyD d = some t) : t ∈ ["NoneType", "bool", "int", "str", "tuple", "list", "dict"] := by
  cases d <;> cases h <;> simp
theorem isiD_mem {t n : String} {b : Bool} (h : isiD t n = some b) : n ∈ ["int", "bool", "str", "list", "tuple", "dict"] := by
  unfold isiD at h
  simp only [List.mem_cons, List.not_mem_nil, or_false]
  repeat' (split at h; · simp_all)
  cases h
theorem RepB.rawS {y v : V} (h : RepB K F H y (.raw v)) : y = v := by
  rcases h with h | ⟨a, xs, es, e1, e2, h1, h2⟩
  · cases h; rfl
  · cases e2
theorem sqL_ty {a : Addr} {xs : List V} (h : SqL K H a xs) : TyX K H (.ref a) (.type "list") := by
  rcases h with (h | ⟨o, h⟩) | ⟨o, its, n, hk, hc, _⟩
  · exact .base (.lst h)
  · exact .base (.frz h)
  · exact .kList hk hc
theorem sqT_ty {a : Addr} {xs : List V} (h : SqT K H a xs) : TyX K H (.ref a) (.type "tuple") := by
  rcases h with (h | ⟨o, h⟩) | ⟨o, its, n, hk, hc, _⟩
  · exact .base (.tup h)
  · exact .fTuple h
  · exact .kTuple hk hc
theorem RepB.ty (s : Same F H) {y : V} {d : D} {t : String} (r : RepB K F H y d) (e : tyD d = some t) : TyX K H y (.type t) := by
  cases d with
  | non => cases e; obtain rfl := r.nonS; exact .base .non
  | bl b => cases e; obtain rfl := r.blS; exact .base (.bl b)
  | int b => cases e; obtain rfl := r.intS; exact .base (.int b)
  | str b => cases e; obtain rfl := r.strS; exact .base (.str b)
  | tup ds => cases e; obtain ⟨a, xs, rfl, h1, h2⟩ := r.tupS s; exact sqT_ty h1
  | lst ds => cases e; obtain ⟨a, xs, rfl, h1, h2⟩ := r.lstS s; exact .base (.lst h1)
  | frl ds => cases e; obtain ⟨a, xs, rfl, h1, h2⟩ := r.frlS s; exact sqL_ty h1
  | dct ks ds =>
    cases e
    rcases r with h | ⟨a, xs, es, e1, e2, h1, h2⟩
    · cases h with
      | dct h1 _ _ => exact .base (.dK (s _ _ h1))
    · cases e2
  | _ => cases e
theorem n_isi : ON X (.builtin "isinstance") (rIsi X.K) pIsi := ⟨call_isi, fun F H xs ds c Q s r hp hQ => by
  unfold pIsi at hp
  split at hp
  · next d n =>
    obtain ⟨t, e1, hp⟩ := wd_iff hp
    obtain ⟨b, e2, hp⟩ := wd_iff hp
    obtain ⟨y, z, rfl, r1, r2⟩ := repBs2 r
    obtain rfl := r2.rawS
    exact ⟨y, .ty n, .type t, .type n, b, rfl, .ty n, r1.ty s e1, kit_ty ((kit_all t (tyD_mem e1) n (isiD_mem e2)).trans e2), vres s (.bl _) hp hQ⟩
  · exact hp.elim⟩
def seqD : D → Option (List D)
  | .lst ds => some ds
  | .frl ds => some ds
  | .tup ds => some ds
  | _ => none
theorem RepB.seqS (s : Same F H) {y : V} {d : D} {ds : List D} (r : RepB K F H y d) (e : seqD d = some ds) : ∃ a xs, y = .ref a ∧ (SqL K H a xs ∨ SqT K H a xs) ∧ RepA K F xs ds := by
  cases d with
  | lst ds => cases e; obtain ⟨a, xs, rfl, h1, h2⟩ := r.lstS s; exact ⟨a, xs, rfl, .inl (SqL.of h1), h2⟩
  | frl ds => cases e; obtain ⟨a, xs, rfl, h1, h2⟩ := r.frlS s; exact ⟨a, xs, rfl, .inl h1, h2⟩
  | tup ds => cases e; obtain ⟨a, xs, rfl, h1, h2⟩ := r.tupS s; exact ⟨a, xs, rfl, .inr h1, h2⟩
  | _ => cases e
def pList : PN := fun ds c => wd (one ds) fun d => wd (seqD d) fun es => c (.o es)
theorem n_list : ON X (.type "list") (fun xs H Q => ∃ p ys, xs = [.ref p] ∧ (SqL X.K H p ys ∨ SqT X.K H p ys) ∧ ∀ l, H l = none → Q (.ref l) (upd H l (.lst ys))) pList := ⟨call_list_of, fun F H xs ds c Q s r hp hQ => by
  obtain ⟨d, e, hp1⟩ := wd_iff hp
  obtain ⟨es, e2, hp2⟩ := wd_iff hp1
  have e0 := one_inv e
  rw [e0] at r
  obtain ⟨y, ey, r1⟩ := repBs1 r
  subst ey
  obtain ⟨a, xs, rfl, h1, h2⟩ := r1.seqS s e2
  exact ⟨a, xs, rfl, h1, lres s h2 hp2 hQ⟩⟩
def pTuple : PN := fun ds c => wd (one ds) fun d => wd (seqD d) fun es => c (.v (.tup es))
theorem n_tuple : ON X (.type "tuple") (fun xs H Q => ∃ p ys, xs = [.ref p] ∧ ((SqL X.K H p ys ∧ ∀ l, H l = none → Q (.ref l) (upd H l (.tup ys))) ∨ (SqT X.K H p ys ∧ Q (.ref p) H))) pTuple := ⟨call_tuple_of, fun F H xs ds c Q s r hp hQ => by
  obtain ⟨d, e, hp1⟩ := wd_iff hp
  obtain ⟨es, e2, hp2⟩ := wd_iff hp1
  have e0 := one_inv e
  rw [e0] at r
  obtain ⟨y, ey, r1⟩ := repBs1 r
  subst ey
  cases d with
  | lst ds => cases e2; obtain ⟨a, xs, rfl, h1, h2⟩ := r1.lstS s; exact ⟨a, xs, rfl, .inl ⟨SqL.of h1, tres s h2 hp2 hQ⟩⟩
  | frl ds => cases e2; obtain ⟨a, xs, rfl, h1, h2⟩ := r1.frlS s; exact ⟨a, xs, rfl, .inl ⟨h1, tres s h2 hp2 hQ⟩⟩
  | tup ds =>
    cases e2
    rcases r1 with h | ⟨a, xs, es, e1, e2, h1, h2⟩
    · cases id h with
      | tup q rr => exact ⟨_, _, rfl, .inr ⟨same_sqT s q, vres s h hp2 hQ⟩⟩
    · cases e2
  | _ => cases e2⟩
def pInt : PN := fun ds c => wd (one ds) fun d => match d with
  | .int i => c (.v (.int i))
  | .bl b => c (.v (.int (if b then 1 else 0)))
  | _ => False
def pMin2 : PN := fun ds c => wd (int2 ds) fun p => c (.v (.int (if p.2 < p.1 then p.2 else p.1)))
def pMax2 : PN := fun ds c => wd (int2 ds) fun p => c (.v (.int (if p.2 > p.1 then p.2 else p.1)))
theorem repA_atI {xs : List V} {ds : List D} {i : Int} {d : D} (h : RepA K F xs ds) (e : atI ds i = some d) : ∃ x, atI xs i = some x ∧ Rep K F x d := by
  unfold atI at e ⊢
  rw [h.length]
  cases q : ixN ds.length i with
  | none => rw [q] at e; cases e
  | some j =>
    rw [q] at e
    obtain ⟨x, hx, r⟩ := h.getD (i := j) (d := d) e
    exact ⟨x, hx, r⟩
def pIx : P2 := fun d e c => match e with
  | .int i => wd (seqD d) fun ds => wd (atI ds i) fun x => c (.v x)
  | _ => False
theorem s_ix : S2 K (rIx K) pIx := fun F H x y d e c Q s rx ry hp hQ => by
  cases e with
  | int i =>
    obtain ⟨ds, e1, hp⟩ := wd_iff hp
    obtain ⟨z, e2, hp⟩ := wd_iff hp
    obtain rfl := ry.intS
    obtain ⟨a, xs, rfl, h1, h2⟩ := rx.seqS s e1
    obtain ⟨v, e3, r3⟩ := repA_atI h2 e2
    rcases h1 with h1 | h1
    · exact .inl ⟨a, xs, i, v, rfl, rfl, h1, e3, vres s r3 hp hQ⟩
    · exact .inr (.inl ⟨a, xs, i, v, rfl, rfl, h1, e3, vres s r3 hp hQ⟩)
  | _ => exact hp.elim
theorem de_ix {W : WX} {pos : Pos} {a b : Expr} {ta tb : TE} {wa wb : WE} (ha : DE X W a ta wa) (hb : DE X W b tb wb) (hs : PlainIx b := by exact fun _ _ => rfl) : DE X W (.Subscript a b pos) (tOp (rIx X.K) ta tb) (wOp pIx wa wb) := ⟨pe_ix ix_seq ha.p hb.p hs, se_op ha.s hb.s s_ix⟩
theorem de_app (i : Nat) {W : WX} {x : Str} {p1 p2 cpos : Pos} {e : Expr} {te : TE} {we : WE} (he : DE X W e te we) (hN : X.N[i]? = some x := by rfl) (hv : Vis X.env.scope x := by first | exact Or.inl rfl | exact Or.inr (Or.inl rfl) | exact Or.inr (Or.inr rfl)) (hd : (x == ("__debug__" : Str)) = false := by decide)
    (hcd : (x == ("__classdict__" : Str)) = false := by decide) (hbase : attributeBase (.Name x p1) "append" X.env (eval (.Name x p1) X.env) = eval (.Name x p1) X.env := by rfl)
    (hfew : ((backTo cpos (starEach [e] X.env)).all (fun x => !x.1) && (backToKw cpos (keywordEach [] X.env)).all (fun x => x.1.isSome) && decide (([e] : List Expr).length + ([] : List Keyword).length + (if ([] : List Keyword).isEmpty then 0 else 1) < 30)) = true := by rfl)
    (hline : (p2.endLine == cpos.line) = true := by rfl) (hs : starEach [e] X.env = (false, eval e X.env) :: starEach [] X.env := by rfl) (hplain : (backTo cpos (starEach [] X.env)).any (·.1) = false := by rfl) :
    DE X W (.Call (.Attribute (.Name x p1) "append" p2) [e] [] cpos) (tBM X.K "list" rAppend (tVar i) (tCons te tNil)) (wMut i mApp (wCons we wNil)) :=
  ⟨pe_bm PySem.F.plainAttrs_list PySem.F.slot_list_append PySem.F.type_list_append mt_append (pe_var hN hv hd hcd) (pa_cons he.p pa_nil hs) hbase hfew hline hs hplain, se_mut (sa_cons he.s sa_nil) sm_append⟩
end
end DL

set_option Elab.async false
set_option linter.all false
set_option maxRecDepth 100000
namespace DL
open PySem L2
section
variable {K : PySem.W.Frag} {B : Base} {F F' : Hp} {om : Om} {H H' : Hp} {st : St} {r : Env} {W : WX} {X : Cx}
def wAsgH (i : Nat) (P : List D → Prop) (we : WE) : WS := fun e r om => we e.xq r om fun x r1 om1 => match x with
  | .o ds => P ds ∧ i < r1.length ∧ ∀ a, om1 a = none → e.nx (r1.set i (some (.v (.h a)))) (oset om1 a (.lstP P))
  | _ => False
theorem ss_asgH {i : Nat} {P : List D → Prop} {te : TE} {we : WE} (he : SE K W te we) : SS K W (tAsg te (gName i)) (wAsgH i P we) := fun B F om H st r D e R hx hE hw => by
  refine he B F om H st r e.xq _ _ R hx (fun x r1 om1 F1 H1 y R1 s1 k1 q1 hw => ?_) hw
  cases x with
  | v d => exact hw.elim
  | b i => exact hw.elim
  | o ds =>
    obtain ⟨hP, hi, hw⟩ := hw
    obtain ⟨a, rfl, o, o6⟩ := q1
    have R2 := R1.toH (ob := .lstP P) o o6 fun xs hr => ⟨ds, hP, hr⟩
    exact hE.nx _ _ _ _ _ (R2.put (x := .v (.h a)) (Rep.h a) (fun j z => by cases z) hi) (hw a o.2.1)
theorem ds_setH (i : Nat) (P : List D → Prop) {x : Str} {e : Expr} {te : TE} {we : WE} {pos pos' : Pos} (hN : X.N.Nodup) (he : DE X W e te we) (hi : X.N[i]? = some x := by rfl) (hx : Loc X.env.scope x := by first | exact .inl rfl | exact .inr rfl) (hs : swapsWith e (some (.Name x pos')) pos.line X.env = pure false := by rfl) (hf : X.fn x = true ∨ X.env.scope.names.lookup x = some .local := by first | exact .inl rfl | exact .inr rfl) :
    DS X W (.Assign [.Name x pos'] e pos) (tAsg te (gName i)) (wAsgH i P we) := ⟨ps_set hN hi hx he.p hs hf, ss_asgH he.s⟩
def wHnd (P : List D → Prop) (we : WE) : WE := fun xq r om k => we xq r om fun x r1 om1 => match x with
  | .o ds => P ds ∧ ∀ a, om1 a = none → k (.v (.h a)) r1 (oset om1 a (.lstP P))
  | _ => False
theorem RelH.openP {a : Addr} {P : List D → Prop} (R : RelH K F om H) (e : om a = some (.lstP P)) : ∃ es, P es ∧ RelH K F (oset om a (.lst es)) H := by
  obtain ⟨f1, o1⟩ := R.obj a _ e
  obtain ⟨xs, es, h1, h2, h3⟩ := o1.lstP
  refine ⟨es, h2, R.sub, fun b ob q => ?_⟩
  by_cases hb : b = a
  · subst hb
    rw [oset_same] at q
    cases q
    rw [h1]
    exact ⟨f1, h3⟩
  · rw [oset_ne hb] at q
    exact R.obj b ob q
theorem RelH.closeP {a : Addr} {P : List D → Prop} {es : List D} (R : RelH K F (oset om a (.lst es)) H) (e : om a = some (.lstP P)) (h : P es) : RelH K F om H := by
  refine ⟨R.sub, fun b ob q => ?_⟩
  by_cases hb : b = a
  · subst hb
    rw [e] at q
    cases q
    obtain ⟨f1, o1⟩ := R.obj b _ oset_same
    obtain ⟨xs, h1, h3⟩ := o1.lst
    rw [h1]
    exact ⟨f1, es, h, h3⟩
  · exact R.obj b ob (by rw [oset_ne hb]; exact q)
theorem toSp_close {c c' : Con} {a : List D → Addr} {P : List D → Prop}
    (h : ∀ ds om k xk, c'.df ds om k xk → om (a ds) = some (.lstP P) ∧ ∀ es, P es → c.df ds (oset om (a ds) (.lst es)) (fun x om' => ∃ es', P es' ∧ om' = oset om (a ds) (.lst es') ∧ k x om) (fun ex om' => ∃ es', P es' ∧ om' = oset om (a ds) (.lst es') ∧ xk ex om))
    (vs : List V) (H : Hp) (Q : VK) (E : XK) (hs : toSp K c' vs H Q E) : toSp K c vs H Q E := by
  obtain ⟨F, om, ds, R, rp, hd⟩ := hs
  obtain ⟨e, hd⟩ := h ds om _ _ hd
  obtain ⟨es, hP, R2⟩ := R.openP e
  have ne : ∀ b, om b = none → b ≠ a ds := fun b n z => by rw [z, e] at n; cases n
  have oe : ∀ es b, om b = none → oset om (a ds) (.lst es) b = none := fun es b n => by rw [oset_ne (ne b n)]; exact n
  have eo : ∀ es b, oset om (a ds) (.lst es) b = none → om b = none := fun es b n => by
    by_cases hb : b = a ds
    · rw [hb, oset_same] at n; cases n
    · rw [oset_ne hb] at n; exact n
  have ex' : ∀ {es' : List D} {F' H' : Hp}, Ext ⟨F, oset om (a ds) (.lst es), H⟩ F' (oset om (a ds) (.lst es')) H' → Ext ⟨F, om, H⟩ F' om H' := fun {es' F' H'} x =>
    ⟨x.f, x.new, fun b o q n => x.keep b o q (oe es b n), x.dom, fun b o q n => (by have n' : om b = none := n; rw [n'] at q; cases q), fun b q => eo es b (x.wf b q)⟩
  refine ⟨F, oset om (a ds) (.lst es), ds, R2, rp, c.mono _ _ _ _ _ _ (fun x om' hk F' H' y rh x2 sl => ?_) (fun ex om' hk F' H' cls d rh x2 he => ?_) (hd es hP)⟩
  · obtain ⟨es', hP', rfl, hk⟩ := hk
    refine hk F' H' y (rh.closeP e hP') (ex' x2) ?_
    cases x with
    | v d => exact sl
    | b i => exact sl
    | o l =>
      obtain ⟨b, rfl, o1, o2, o3, xs, o4, o5⟩ := sl
      exact ⟨b, rfl, o1, eo es' b o2, o3, xs, o4, o5⟩
  · obtain ⟨es', hP', rfl, hk⟩ := hk
    exact hk F' H' cls d (rh.closeP e hP') (ex' x2) he
end
theorem walk_D {l : PySem.W.OpenLaw} {n k : Nat} {q : Program} {loose : List Str} {XP : (Str → Option Value) → Heap → Prop} {YP : World → Heap → Prop} {d : DefRec} {x : Str}
    (hn : l.most = some n) (hn2 : n ≤ sizeLine) (hdf : d.params.defaults = []) (hr : Room k callerA)
    (F : ∀ (w : World) (mg : Str → Option Value) (fa : Addr) (h : Heap), YP w h → h.Ns mainGlobals mg → mg d.name = some (.ref fa) →
      ∃ (K : PySem.W.Frag) (fd : FuncData) (c : Con), K.In h ∧ (∀ (s : Shared) (u : Value), BindsTo s fd ⟨[u], []⟩ [(x, u)]) ∧
        (∀ (ns : List Int) (om : Om), ns.length ≤ n → (∀ z ∈ ns, Builtin.Int.intBits z ≤ 1048576) → c.df [.frl (ns.map D.int)] om (fun x _ => x = .v (.bl true)) (fun _ _ => False)) ∧
        ∀ base : Heap, K.In base → base.Ns mainGlobals mg → FnOk l.prog w K mg base (L2.CX l.prog w) k fa fd [x] (toSp K c)) :
    PySem.W.WalkO q loose XP YP l.row.toRowW d [] (fun f vs => PySem.call f vs) := by
  refine Att.attach_callB hn hdf fun w s0 s1 mg mb fa o pm cd doc a vs ns G Y ho hd hcd hmg hobj hints hlen hbits hg => ?_
  obtain ⟨K, fd, c, KX, hb, hsp, hF⟩ := F w mg fa _ Y G.T.g hmg
  refine law_call KX G.T.g G.T.b G.T.builtins G.T.nolimit hg hobj hints (Nat.le_trans hlen hn2) hr hF hb (fun H hO hS => ?_) fun H e s' hz => ?_
  · refine ⟨H, fun _ => none, [.frl (ns.map D.int)], ⟨Same.refl H, fun a ob e => by cases e⟩, .cons (.frl hS (repA_ints ns)) .nil, c.mono _ _ _ _ _ _ (fun x om' hx F' H' y rh ex sl => ?_) (fun ex om' hx => hx.elim) (hsp ns _ hlen hbits)⟩
    subst hx
    cases (show Rep K F' y (.bl true) from sl)
    rfl
  · obtain ⟨_, _, _, _, _, _, _, _, _, _, _, _, z⟩ := hz
    exact z
end DL

set_option Elab.async false
set_option linter.all false
set_option maxRecDepth 100000
namespace DL
open PySem L2
theorem loop_inv {step : D → (Env → Om → Prop) → Env → Om → Prop} {fin : Env → Om → Prop} (I : Nat → Env → Om → Prop) : ∀ {items : List D} {j : Nat} {r : Env} {om : Om}, I j r om →
    (∀ (i : Nat) (d : D) (r : Env) (om : Om) (nx : Env → Om → Prop), items[i]? = some d → I (j + i) r om → (∀ r' om', I (j + i + 1) r' om' → nx r' om') → step d nx r om) →
    (∀ r om, I (j + items.length) r om → fin r om) → loop step items fin r om
  | [], j, r, om, h0, hs, hf => hf r om h0
  | d :: ds, j, r, om, h0, hs, hf => by
    rw [loop_cons]
    refine hs 0 d r om _ rfl h0 fun r' om' h => ?_
    refine loop_inv I (j := j + 1) h (fun i d r om nx e hi hn => hs (i + 1) d r om nx (by simpa using e) (by rw [show j + (i + 1) = j + 1 + i by omega]; exact hi) (by rw [show j + (i + 1) + 1 = j + 1 + i + 1 by omega]; exact hn)) fun r om h => hf r om (by rw [List.length_cons, show j + (ds.length + 1) = j + 1 + ds.length by omega]; exact h)
theorem loop_list {step : D → (Env → Om → Prop) → Env → Om → Prop} {fin : Env → Om → Prop} (I : Nat → Env → Om → Prop) {items : List D} {r : Env} {om : Om} (h0 : I 0 r om)
    (hs : ∀ (i : Nat) (d : D) (r : Env) (om : Om) (nx : Env → Om → Prop), items[i]? = some d → I i r om → (∀ r' om', I (i + 1) r' om' → nx r' om') → step d nx r om)
    (hf : ∀ r om, I items.length r om → fin r om) : loop step items fin r om :=
  loop_inv I (j := 0) h0 (fun i d r om nx e hi hn => hs i d r om nx e (by simpa using hi) (by simpa using hn)) fun r om h => hf r om (by simpa using h)
theorem loop_rng {step : D → (Env → Om → Prop) → Env → Om → Prop} {fin : Env → Om → Prop} (I : Nat → Env → Om → Prop) {lo : Int} {n : Nat} {r : Env} {om : Om} (h0 : I 0 r om)
    (hs : ∀ (i : Nat) (r : Env) (om : Om) (nx : Env → Om → Prop), i < n → I i r om → (∀ r' om', I (i + 1) r' om' → nx r' om') → step (.int (lo + i)) nx r om)
    (hf : ∀ r om, I n r om → fin r om) : loop step (rng lo n) fin r om :=
  loop_list I h0 (fun i d r om nx e hi hn => by obtain ⟨h, rfl⟩ := rng_get e; exact hs i r om nx h hi hn) fun r om h => hf r om (by rw [rng_len] at h; exact h)
theorem lc_inv {g : GT} {wt : WT} {we : WE} {vs : List Nat} {fin : List D → Env → Om → Prop} (I : Nat → List D → Env → Om → Prop) : ∀ {items : List D} {j : Nat} {acc : List D} {r : Env} {om : Om}, I j acc r om →
    (∀ (i : Nat) (d : D) (acc : List D) (r : Env) (om : Om) (nx : List D → Env → Om → Prop), items[i]? = some d → I (j + i) acc r om → (∀ acc' r' om', I (j + i + 1) acc' r' om' → nx acc' r' om') →
      g (.v d) r fun r2 => wt X0 r2 om fun b r3 om3 => if b = true then we X0 r3 om3 fun x r4 om4 => wd (datE x) fun y => acc.length < sizeLine ∧ nx (acc ++ [y]) (wipeE r4 vs) om4 else nx acc (wipeE r3 vs) om3) →
    (∀ acc r om, I (j + items.length) acc r om → fin acc r om) → lcGo g wt we vs items acc r om fin
  | [], j, acc, r, om, h0, _, hf => hf acc r om h0
  | d :: ds, j, acc, r, om, h0, hs, hf => by
    refine hs 0 d acc r om (fun acc r om => lcGo g wt we vs ds acc r om fin) rfl h0 fun acc' r' om' h' => ?_
    exact lc_inv I (j := j + 1) h' (fun i d acc r om nx e hi hn => hs (i + 1) d acc r om nx (by simpa using e) (by rw [show j + (i + 1) = j + 1 + i by omega]; exact hi) (by rw [show j + (i + 1) + 1 = j + 1 + i + 1 by omega]; exact hn)) (fun acc r om h => hf acc r om (by rw [List.length_cons, show j + (ds.length + 1) = j + 1 + ds.length by omega]; exact h))
theorem lc_list {g : GT} {wt : WT} {we : WE} {vs : List Nat} {fin : List D → Env → Om → Prop} (I : Nat → List D → Env → Om → Prop) {items : List D} {acc : List D} {r : Env} {om : Om} (h0 : I 0 acc r om)
    (hs : ∀ (i : Nat) (d : D) (acc : List D) (r : Env) (om : Om) (nx : List D → Env → Om → Prop), items[i]? = some d → I i acc r om → (∀ acc' r' om', I (i + 1) acc' r' om' → nx acc' r' om') →
      g (.v d) r fun r2 => wt X0 r2 om fun b r3 om3 => if b = true then we X0 r3 om3 fun x r4 om4 => wd (datE x) fun y => acc.length < sizeLine ∧ nx (acc ++ [y]) (wipeE r4 vs) om4 else nx acc (wipeE r3 vs) om3)
    (hf : ∀ acc r om, I items.length acc r om → fin acc r om) : lcGo g wt we vs items acc r om fin :=
  lc_inv I (j := 0) h0 (fun i d acc r om nx e hi hn => hs i d acc r om nx e (by simpa using hi) (by simpa using hn)) fun acc r om h => hf acc r om (by simpa using h)
end DL

set_option Elab.async false
set_option linter.all false
namespace DL
open PySem L2
section
variable (om : Om) (r : Env) (ds es : List D) (d e f g : D) (i j : Int) (b : Bool) (x y : Str) (c : RV → Prop) (n : Nat)
theorem deref_non : deref om .non = .non := rfl
theorem deref_bl : deref om (.bl b) = .bl b := rfl
theorem deref_int : deref om (.int i) = .int i := rfl
theorem deref_tup : deref om (.tup ds) = .tup ds := rfl
theorem deref_lst : deref om (.lst ds) = .lst ds := rfl
theorem deref_frl : deref om (.frl ds) = .frl ds := rfl
theorem deref_raw (v : V) : deref om (.raw v) = .raw v := rfl
theorem deref_h {om : Om} {a : Addr} {ds : List D} (h : om a = some (.lst ds)) : deref om (.h a) = .lst ds := by simp only [deref, h]
theorem deref_os {a : Addr} : deref (oset om a (.lst ds)) (.h a) = .lst ds := deref_h oset_same
theorem datB_v : datB r om (.v d) = some (deref om d) := rfl
theorem datB_o : datB r om (.o ds) = some (.lst ds) := rfl
theorem datB_b : datB r om (.b n) = (match r[n]? with
    | some (some (.o ds)) => some (.lst ds)
    | some (some (.v d)) => some (deref om d)
    | _ => none) := rfl
theorem datE_v : datE (.v d) = some d := rfl
theorem datsE_nil : datsE [] = some [] := rfl
theorem datsE_v (l : List RV) : datsE (.v d :: l) = (datsE l).map (d :: ·) := by simp only [datsE, datE]; cases datsE l <;> rfl
theorem datsB_nil : datsB r om [] = some [] := rfl
theorem datsB_cons (z : RV) (l : List RV) : datsB r om (z :: l) = (datB r om z).bind fun d => (datsB r om l).map (d :: ·) := by
  simp only [datsB]
  cases datB r om z with
  | none => rfl
  | some d => cases datsB r om l <;> rfl
theorem fz_v : fz (.v d) = .v d := rfl
theorem fz_o : fz (.o ds) = .v (.lst ds) := rfl
theorem boolD_bl : boolD (.bl b) = some b := rfl
theorem truD_bl : truD (.bl b) = some b := rfl
theorem intD_int : intD (.int i) = some i := rfl
theorem int1_int : int1 [.int i] = some i := rfl
theorem int2_int : int2 [.int i, .int j] = some (i, j) := rfl
theorem lenD_lst : lenD (.lst ds) = some ds.length := rfl
theorem lenD_tup : lenD (.tup ds) = some ds.length := rfl
theorem seqD_lst : seqD (.lst ds) = some ds := rfl
theorem tyD_int : tyD (.int i) = some "int" := rfl
theorem tyD_tup : tyD (.tup ds) = some "tuple" := rfl
theorem tyD_lst : tyD (.lst ds) = some "list" := rfl
theorem pIsi_at (t : String) : pIsi [d, .raw (.ty t)] c = wd (tyD d) fun u => wd (isiD u t) fun b => c (.v (.bl b)) := rfl
theorem isi_int (t : String) : isiD t "int" = some (t == "int" || t == "bool") := rfl
theorem isi_bool (t : String) : isiD t "bool" = some (t == "bool") := rfl
theorem isi_list (t : String) : isiD t "list" = some (t == "list") := rfl
theorem isi_tuple (t : String) : isiD t "tuple" = some (t == "tuple") := rfl
theorem pLen_at : pLen [d] c = wd (lenD d) fun n => c (.v (.int n)) := rfl
theorem pList_at : pList [d] c = wd (seqD d) fun es => c (.o es) := rfl
theorem pTuple_at : pTuple [d] c = wd (seqD d) fun es => c (.v (.tup es)) := rfl
theorem ixN_1 : ixN (n + 1 + 1) 1 = some 1 := by unfold ixN; simp; omega
theorem ixN_2 : ixN (n + 1 + 1 + 1) 2 = some 2 := by unfold ixN; simp; omega
theorem ixN_3 : ixN (n + 1 + 1 + 1 + 1) 3 = some 3 := by unfold ixN; simp; omega
theorem atI_in {ds : List D} {i : Int} (h0 : 0 ≤ i) (h1 : i < (ds.length : Int)) : ∃ d, d ∈ ds ∧ atI ds i = some d := by
  have hl : i.toNat < ds.length := by omega
  refine ⟨ds[i.toNat], List.getElem_mem hl, ?_⟩
  have := atI_nat (j := i.toNat) (List.getElem?_eq_getElem hl)
  rwa [Int.toNat_of_nonneg h0] at this
theorem atI_get {ds : List D} {i : Int} (h0 : 0 ≤ i) (h1 : i < (ds.length : Int)) : atI ds i = ds[i.toNat]? := by
  have hl : i.toNat < ds.length := by omega
  have := atI_nat (j := i.toNat) (List.getElem?_eq_getElem hl)
  rw [Int.toNat_of_nonneg h0] at this
  rw [this, List.getElem?_eq_getElem hl]
theorem mApp_at : mApp ds [d] = fun c => ds.length < sizeLine ∧ c (ds ++ [d]) .non := rfl
end
end DL

set_option Elab.async false
set_option linter.all false
set_option maxRecDepth 100000
namespace DL
open PySem L2
section
variable {X : Cx} {K : PySem.W.Frag} {F F' H H' : Hp} {W : WX} {pos : Pos}
def cutD (xs : List D) (lo hi : Option Int) : List D := (xs.drop (HT.sIx xs.length 0 lo)).take (HT.sIx xs.length xs.length hi - HT.sIx xs.length 0 lo)
theorem repA_cut {xs : List V} {ds : List D} (h : RepA K F xs ds) (lo hi : Option Int) : RepA K F (cutV xs lo hi) (cutD ds lo hi) := by
  unfold cutV cutD
  rw [h.length]
  exact (h.drop _).take _
abbrev WO := DX → Env → Om → (Option Int → Env → Om → Prop) → Prop
def SO (K : PySem.W.Frag) (W : WX) (t : TO) (w : WO) : Prop := ∀ (B : Base) (F : Hp) (om : Om) (H : Hp) (st : L2.St) (r : Env) (xq : DX) (k : Option Int → Env → Om → Prop) (Q : Option Int → Hp → Prop),
  Rel K B F om H st r → XOk K B W xq → (∀ b r' om' F' H', Rel K B F' om' H' st r' → Same F F' → k b r' om' → Q b H') → w xq r om k → t st H Q
structure DO (X : Cx) (W : WX) (e : Option Expr) (t : TO) (w : WO) : Prop where
  p : PO X e t
  s : SO X.K W t w
def wON : WO := fun _ r om k => k none r om
def wOS (we : WE) : WO := fun xq r om k => we xq r om fun x r1 om1 => wd (datB r1 om1 x) fun d => wd (intD d) fun i => k (some i) r1 om1
theorem do_none : DO X W none tNoPart wON := ⟨po_none, fun B F om H st r xq k Q R hx hQ hw => hQ _ _ _ _ _ R (Same.refl _) hw⟩
theorem do_some {e : Expr} {te : TE} {we : WE} (h : DE X W e te we) : DO X W (some e) (tPart te) (wOS we) := ⟨po_some h.p, fun B F om H st r xq k Q R hx hQ hw => by
  refine h.s B F om H st r xq _ _ R hx (fun x r1 om1 F1 H1 y R1 s1 k1 q1 hw => ?_) hw
  obtain ⟨d, e1, hw1⟩ := wd_iff hw
  obtain ⟨i, e2, hw2⟩ := wd_iff hw1
  have e3 := intD_inv e2
  subst e3
  exact ⟨i, (R1.datB q1 e1).intS, hQ _ _ _ _ _ R1 s1 hw2⟩⟩
def pSl (lo hi : Option Int) : P1 := fun d c => match d with
  | .lst ds => c (.o (cutD ds lo hi))
  | .frl ds => c (.o (cutD ds lo hi))
  | .tup ds => c (.v (.tup (cutD ds lo hi)))
  | _ => False
theorem pSl_lst (lo hi : Option Int) (ds : List D) (c : RV → Prop) : pSl lo hi (.lst ds) c = c (.o (cutD ds lo hi)) := rfl
theorem pSl_frl (lo hi : Option Int) (ds : List D) (c : RV → Prop) : pSl lo hi (.frl ds) c = c (.o (cutD ds lo hi)) := rfl
abbrev rSlD (K : PySem.W.Frag) : V → Option Int → Option Int → Hp → VK → Prop := fun x lo hi H Q => rSlL K x lo hi H Q ∨ rSlA K x lo hi H Q
theorem cut_whole {ds : List D} {lo hi : Option Int} (h : HT.sIx ds.length 0 lo = 0 ∧ HT.sIx ds.length ds.length hi = ds.length) : cutD ds lo hi = ds := by
  unfold cutD
  rw [h.1, h.2]
  simp
theorem s_sl {lo hi : Option Int} {x : V} {d : D} {c : RV → Prop} {Q : VK} (s : Same F H) (r : RepB K F H x d) (hp : pSl lo hi d c) (hQ : ∀ z v F' H', Grow F H F' H' → ResP K F' H H' v z → c z → Q v H') : rSlD K x lo hi H Q := by
  cases d with
  | lst ds =>
    obtain ⟨a, xs, rfl, h1, h2⟩ := r.lstS s
    exact .inl ⟨a, xs, rfl, SqL.of h1, lres s (repA_cut h2 lo hi) hp hQ⟩
  | frl ds =>
    obtain ⟨a, xs, rfl, h1, h2⟩ := r.frlS s
    exact .inl ⟨a, xs, rfl, h1, lres s (repA_cut h2 lo hi) hp hQ⟩
  | tup ds =>
    rcases r with h | ⟨a, xs, es, e1, e2, h1, h2⟩
    · cases id h with
      | tup q rr =>
        refine .inr ⟨_, _, rfl, same_sqT s q, fun hw => ?_, fun _ => tres s (repA_cut rr lo hi) hp hQ⟩
        rw [rr.length] at hw
        have hp' : c (.v (.tup (cutD ds lo hi))) := hp
        rw [cut_whole hw] at hp'
        exact vres s h hp' hQ
    · cases e2
  | _ => exact hp.elim
def wSl (we : WE) (wl wh : WO) : WE := fun xq r om k => we xq r om fun x r1 om1 => wl xq r1 om1 fun lo r2 om2 => wh xq r2 om2 fun hi r3 om3 => wd (datB r3 om3 x) fun d => pSl lo hi d fun z => k z r3 om3
theorem de_sl {e : Expr} {lo hi : Option Expr} {te : TE} {we : WE} {tl th : TO} {wl wh : WO} {p2 : Pos} (he : DE X W e te we) (hl : DO X W lo tl wl) (hh : DO X W hi th wh) : DE X W (.Subscript e (.Slice lo hi none p2) pos) (tSl (rSlD X.K) te tl th) (wSl we wl wh) :=
  ⟨pe_slice (SlR.or sl_list sl_tupA) he.p hl.p hh.p, fun B F om H st r xq k Q R hx hQ hw => by
    refine he.s B F om H st r xq _ _ R hx (fun x r1 om1 F1 H1 y R1 s1 k1 q1 hw => ?_) hw
    obtain ⟨F2, s2, R2, q2⟩ := R1.fz q1
    refine hl.s B F2 om1 H1 st r1 xq _ _ R2 hx (fun lo r3 om3 F3 H3 R3 s3 hw => ?_) hw
    refine hh.s B F3 om3 H3 st r3 xq _ _ R3 hx (fun hi r4 om4 F4 H4 R4 s4 hw => ?_) hw
    obtain ⟨d, e1, hw1⟩ := wd_iff hw
    have q4 := Res.later (om' := om4) (H' := H4) (r' := r4) q2 (s3.trans s4) trivial
    refine s_sl R4.rh.sub (R4.datB q4 (datB_fz e1)) hw1 fun z v F5 H5 g rp hc => ?_
    obtain ⟨R5, q5⟩ := R4.finish g rp
    exact hQ _ _ _ _ _ _ R5 ((((s1.trans s2).trans s3).trans s4).trans g.f) trivial q5 hc⟩
def pRev : P1 := fun d c => match d with
  | .lst ds => c (.o ds.reverse)
  | .frl ds => c (.o ds.reverse)
  | _ => False
def wLR1 (we : WE) : WE := fun xq r om k => we xq r om fun x r1 om1 => wd (datB r1 om1 x) fun d => wd (intD d) fun n => (-(2 ^ 62) ≤ n ∧ n ≤ 16777216) ∧ k (.o (rng 0 n.toNat)) r1 om1
def mPopAt : MutP := fun ds args c => match args with
  | [.int i] => (-(2 ^ 63) ≤ i ∧ i < 2 ^ 63) ∧ wd (ixN ds.length i) fun j => wd ds[j]? fun d => c (ds.eraseIdx j) d
  | _ => False
def mPop : MutP := fun ds args c => match args with
  | [] => wd ds[ds.length - 1]? fun d => c ds.dropLast d
  | _ => False
theorem mPop_at (ds : List D) : mPop ds [] = fun c => wd ds[ds.length - 1]? fun d => c ds.dropLast d := rfl
theorem RepA.dropLast : ∀ {xs : List V} {ds : List D}, RepA K F xs ds → RepA K F xs.dropLast ds.dropLast
  | _, _, .nil => .nil
  | [_], [_], .cons _ .nil => .nil
  | _ :: _ :: _, _ :: _ :: _, .cons r (.cons r' t) => .cons r (RepA.dropLast (.cons r' t))
theorem sm_pop : SM K rPop mPop := by
  intro F H a xs ds ys args c Q s hH h1 h2 hp hQ
  unfold mPop at hp
  split at hp
  · obtain ⟨d, e2, hp1⟩ := wd_iff hp
    cases h2
    obtain ⟨y, hy, ry⟩ := h1.getD e2
    exact ⟨a, xs, y, rfl, rfl, hH, by rw [h1.length]; exact hy, hQ _ _ _ _ h1.dropLast ry hp1⟩
  · exact hp.elim
def pNeg : P1 := fun d c => match d with
  | .int i => c (.v (.int (-i)))
  | _ => False
def pIsN : P2 := fun d e c => match d, e with
  | .non, .non => c (.v (.bl true))
  | .raw _, _ => False
  | _, .non => c (.v (.bl false))
  | _, _ => False
def bools : List D → Option (List Bool)
  | [] => some []
  | .bl b :: ds => (bools ds).map (b :: ·)
  | _ => none
def nums : List D → Option (List Int)
  | [] => some []
  | .int b :: ds => (nums ds).map (b :: ·)
  | _ => none
def lstO (d : D) : Option (List D) := match d with
  | .lst ds => some ds
  | .frl ds => some ds
  | _ => none
theorem lstO_lst (ds : List D) : lstO (.lst ds) = some ds := rfl
theorem RepB.lstO (s : Same F H) {y : V} {d : D} {ds : List D} (r : RepB K F H y d) (e : lstO d = some ds) : ∃ a xs, y = .ref a ∧ SqL K H a xs ∧ RepA K F xs ds := by
  cases d with
  | lst ds => cases e; obtain ⟨a, xs, rfl, h1, h2⟩ := r.lstS s; exact ⟨a, xs, rfl, SqL.of h1, h2⟩
  | frl ds => cases e; obtain ⟨a, xs, rfl, h1, h2⟩ := r.frlS s; exact ⟨a, xs, rfl, h1, h2⟩
  | _ => cases e
def pAll : PN := fun ds c => wd (one ds) fun d => wd (lstO d) fun es => wd (bools es) fun bs => c (.v (.bl (bs.all id)))
def pAny : PN := fun ds c => wd (one ds) fun d => wd (lstO d) fun es => wd (bools es) fun bs => c (.v (.bl (bs.any id)))
def pSum : PN := fun ds c => wd (one ds) fun d => wd (lstO d) fun es => wd (nums es) fun ns => c (.v (.int ns.sum))
def pMax1 : PN := fun ds c => wd (one ds) fun d => wd (lstO d) fun es => wd (nums es) fun ns => 0 < ns.length ∧ ∀ m, m ∈ ns → (∀ y, y ∈ ns → y ≤ m) → c (.v (.int m))
def pMin1 : PN := fun ds c => wd (one ds) fun d => wd (lstO d) fun es => wd (nums es) fun ns => 0 < ns.length ∧ ∀ m, m ∈ ns → (∀ y, y ∈ ns → m ≤ y) → c (.v (.int m))
def zipD : List D → List D → List D
  | x :: xs, y :: ys => .tup [x, y] :: zipD xs ys
  | _, _ => []
theorem zipD_get : ∀ {xs ys : List D} {i : Nat} {d : D}, (zipD xs ys)[i]? = some d → ∃ x y, d = .tup [x, y] ∧ xs[i]? = some x ∧ ys[i]? = some y
  | [], _, i, d, h => by simp [zipD] at h
  | _ :: _, [], i, d, h => by simp [zipD] at h
  | x :: xs, y :: ys, 0, d, h => by simp [zipD] at h; exact ⟨x, y, h.symm, rfl, rfl⟩
  | x :: xs, y :: ys, i + 1, d, h => by
    obtain ⟨a, b, h1, h2, h3⟩ := zipD_get (xs := xs) (ys := ys) (i := i) (d := d) (by simpa [zipD] using h)
    exact ⟨a, b, h1, by simpa using h2, by simpa using h3⟩
theorem zipD_len : ∀ (xs ys : List D), (zipD xs ys).length = min xs.length ys.length
  | [], ys => by simp [zipD]
  | _ :: _, [] => by simp [zipD]
  | x :: xs, y :: ys => by simp only [zipD, List.length_cons, zipD_len xs ys]; omega
theorem itok_zip {a b : Addr} {xs ys : List V} {ds es : List D} (q1 : SqL K F a xs) (r1 : RepA K F xs ds) (q2 : SqL K F b ys) (r2 : RepA K F ys es) : ItOk K (Itz K a b) F (zipD ds es) := by
  refine ⟨fun i F' H s s' hi => ⟨xs, ys, s'.seq (s.seq q1), s'.seq (s.seq q2), ?_⟩, fun i d F' H s s' hd => ?_⟩
  · rw [zipD_len] at hi
    rw [r1.length, r2.length]
    omega
  · obtain ⟨x, y, rfl, h1, h2⟩ := zipD_get hd
    obtain ⟨u, hu, ru⟩ := r1.getD h1
    obtain ⟨v, hv, rv⟩ := r2.getD h2
    refine ⟨⟨xs, ys, u, v, s'.seq (s.seq q1), s'.seq (s.seq q2), hu, hv⟩, fun z H' hy => ?_⟩
    obtain ⟨T, u', v', rfl, hT, rfl, e1, e2⟩ := hy
    have e3 := e1 xs (s'.seq (s.seq q1))
    have e4 := e2 ys (s'.seq (s.seq q2))
    rw [hu] at e3
    rw [hv] at e4
    cases e3
    cases e4
    exact ⟨_, Grow.alloc s' hT, ResP.newT s' hT (.cons (ru.mono s) (.cons (rv.mono s) .nil))⟩
def two : List RV → Option (List D × List D)
  | [.v d, .v e] => match lstO d, lstO e with
    | some ds, some es => some (ds, es)
    | _, _ => none
  | _ => none
def wiZip (wa : WA) : WI := fun xq r om k => wa xq r om fun xs r1 om1 => wd (two xs) fun p => k (zipD p.1 p.2) r1 om1
theorem Rep.lstO {y : V} {d : D} {ds : List D} (r : Rep K F y d) (e : DL.lstO d = some ds) : ∃ a xs, y = .ref a ∧ SqL K F a xs ∧ RepA K F xs ds := by
  cases d with
  | lst ds => cases e; cases r with | lst h1 h2 => exact ⟨_, _, rfl, SqL.of h1, h2⟩
  | frl ds => cases e; cases r with | frl h1 h2 => exact ⟨_, _, rfl, h1, h2⟩
  | _ => cases e
def enumD : Nat → List D → List D
  | _, [] => []
  | n, x :: xs => .tup [.int (n : Nat), x] :: enumD (n + 1) xs
def oneL : List RV → Option (List D)
  | [.v d] => lstO d
  | _ => none
def wiEnumerate (wa : WA) : WI := fun xq r om k => wa xq r om fun xs r1 om1 => wd (oneL xs) fun p => k (enumD 0 p) r1 om1
end
end DL

set_option Elab.async false
set_option linter.all false
set_option maxRecDepth 100000
set_option maxHeartbeats 1000000
namespace DL
open PySem L2 PySem.W
variable {X : Cx} {K : PySem.W.Frag} {F H : Hp}
def rLtD (K : PySem.W.Frag) (f : PyData → PyData → Bool) : R2 := fun x y H Q => ∃ d e, Dp K H x d ∧ Dp K H y e ∧ alike d e = true ∧ d ≠ .none ∧ d.depth ≤ 40 ∧ Q (.bl (f d e)) H
theorem op_ltD (hu : X.A.units + 64 < cLine) : OpR X (compareOp .Lt) (rLtD X.K fun d e => dataLt d e) := by
  intro pins s σ H x y v u Q I rx ry h
  obtain ⟨d, e, hd, he, sd, se, sz, q⟩ := h
  obtain ⟨as, r1⟩ := Dp.reads I d x v hd rx
  obtain ⟨bs, r2⟩ := Dp.reads I e y u he ry
  exact lt_data r1 r2 sd se (by omega) ⟨.bl _, H, I, rfl, q⟩
theorem op_gtD (hu : X.A.units + 64 < cLine) : OpR X (compareOp .Gt) (rLtD X.K fun d e => dataLt e d) := by
  intro pins s σ H x y v u Q I rx ry h
  obtain ⟨d, e, hd, he, sd, se, sz, q⟩ := h
  obtain ⟨as, r1⟩ := Dp.reads I d x v hd rx
  obtain ⟨bs, r2⟩ := Dp.reads I e y u he ry
  exact gt_data r1 r2 sd se (by omega) ⟨.bl _, H, I, rfl, q⟩
theorem op_leD (hu : X.A.units + 64 < cLine) : OpR X (compareOp .LtE) (rLtD X.K fun d e => !dataLt e d) := by
  intro pins s σ H x y v u Q I rx ry h
  obtain ⟨d, e, hd, he, sd, se, sz, q⟩ := h
  obtain ⟨as, r1⟩ := Dp.reads I d x v hd rx
  obtain ⟨bs, r2⟩ := Dp.reads I e y u he ry
  exact le_data r1 r2 sd se (by omega) ⟨.bl _, H, I, rfl, q⟩
theorem op_geD (hu : X.A.units + 64 < cLine) : OpR X (compareOp .GtE) (rLtD X.K fun d e => !dataLt d e) := by
  intro pins s σ H x y v u Q I rx ry h
  obtain ⟨d, e, hd, he, sd, se, sz, q⟩ := h
  obtain ⟨as, r1⟩ := Dp.reads I d x v hd rx
  obtain ⟨bs, r2⟩ := Dp.reads I e y u he ry
  exact ge_data r1 r2 sd se (by omega) ⟨.bl _, H, I, rfl, q⟩
def ltD (d e : D) : Bool := dataLt (py d) (py e)
def okL (d e : D) : Prop := okPy d = true ∧ okPy e = true ∧ alike (py d) (py e) = true ∧ py d ≠ .none ∧ (py d).depth ≤ 40
def pC (g : Int → Int → Bool) (f : D → D → Bool) : P2 := fun d e c => match d, e with
  | .int i, .int j => c (.v (.bl (g i j)))
  | d, e => okL d e ∧ c (.v (.bl (f d e)))
def pLtA : P2 := pC (fun i j => decide (i < j)) fun d e => ltD d e
def pGtA : P2 := pC (fun i j => decide (j < i)) fun d e => ltD e d
def pLeA : P2 := pC (fun i j => decide (i ≤ j)) fun d e => !ltD e d
def pGeA : P2 := pC (fun i j => decide (j ≤ i)) fun d e => !ltD d e
theorem pLtA_i (i j : Int) (c : RV → Prop) : pLtA (.int i) (.int j) c = c (.v (.bl (decide (i < j)))) := rfl
theorem pLtA_tup (i j : List D) (c : RV → Prop) : pLtA (.tup i) (.tup j) c = (okL (.tup i) (.tup j) ∧ c (.v (.bl (ltD (.tup i) (.tup j))))) := rfl
theorem pGtA_i (i j : Int) (c : RV → Prop) : pGtA (.int i) (.int j) c = c (.v (.bl (decide (j < i)))) := rfl
theorem pLeA_i (i j : Int) (c : RV → Prop) : pLeA (.int i) (.int j) c = c (.v (.bl (decide (i ≤ j)))) := rfl
theorem pGeA_i (i j : Int) (c : RV → Prop) : pGeA (.int i) (.int j) c = c (.v (.bl (decide (j ≤ i)))) := rfl
theorem s_pC {op : Value → Value → Sem Value} {r0 : Int → Int → V} {g : Int → Int → Bool} {f : D → D → Bool} {k : PyData → PyData → Bool} (h1 : OpR X op (rI0 r0)) (h0 : ∀ i j, r0 i j = .bl (g i j)) (h2 : OpR X op (rLtD X.K k)) (hk : ∀ d e, f d e = k (py d) (py e)) :
    O2 X op (fun x y H Q => rI0 r0 x y H Q ∨ rLtD X.K k x y H Q) (pC g f) := ⟨OpR.or h1 h2, fun F H x y d e c Q s rx ry hp hQ => by
  unfold pC at hp
  split at hp
  · next i j =>
    obtain rfl := rx.intS
    obtain rfl := ry.intS
    refine .inl ⟨i, j, rfl, rfl, ?_⟩
    rw [h0]
    exact vres s (.bl _) hp hQ
  · refine .inr ⟨py d, py e, rx.dp s hp.1.1, ry.dp s hp.1.2.1, hp.1.2.2.1, hp.1.2.2.2.1, hp.1.2.2.2.2, ?_⟩
    rw [← hk]
    exact vres s (.bl _) hp.2 hQ⟩
theorem o_ltA {k : Nat} (hr : Room k X.A) : O2 X (compareOp .Lt) (fun x y H Q => rI0 (fun i j => .bl (decide (i < j))) x y H Q ∨ rLtD X.K (fun d e => dataLt d e) x y H Q) pLtA := s_pC op_lt (fun _ _ => rfl) (op_ltD hr.units) fun _ _ => rfl
theorem o_gtA {k : Nat} (hr : Room k X.A) : O2 X (compareOp .Gt) (fun x y H Q => rI0 (fun i j => .bl (decide (j < i))) x y H Q ∨ rLtD X.K (fun d e => dataLt e d) x y H Q) pGtA := s_pC op_gt (fun _ _ => rfl) (op_gtD hr.units) fun _ _ => rfl
theorem o_leA {k : Nat} (hr : Room k X.A) : O2 X (compareOp .LtE) (fun x y H Q => rI0 (fun i j => .bl (decide (i ≤ j))) x y H Q ∨ rLtD X.K (fun d e => !dataLt e d) x y H Q) pLeA := s_pC op_le (fun _ _ => rfl) (op_leD hr.units) fun _ _ => rfl
theorem o_geA {k : Nat} (hr : Room k X.A) : O2 X (compareOp .GtE) (fun x y H Q => rI0 (fun i j => .bl (decide (j ≤ i))) x y H Q ∨ rLtD X.K (fun d e => !dataLt d e) x y H Q) pGeA := s_pC op_ge (fun _ _ => rfl) (op_geD hr.units) fun _ _ => rfl
def rSortD (K : PySem.W.Frag) : List V → Hp → VK → Prop := fun vs H Q => ∃ (a : Addr) (bs : List (V × PyData)), vs = [V.ref a] ∧ SqL K H a (bs.map (·.1)) ∧ (∀ b ∈ bs, Dp K H b.1 b.2) ∧ AllAlike (bs.map (·.2)) ∧ Sortable (bs.map (·.2)) ∧ (∀ b ∈ bs, b.2.depth ≤ 40) ∧
  ∀ p, H p = none → Q (.ref p) (upd H p (.lst ((bs.mergeSort (dataLe false (·.2))).map (·.1))))
theorem vals_each : ∀ {bs : List (V × PyData)} {us : List Value}, Vals (bs.map (·.1)) us → EachIs (fun u b => RelV b.1 u) us bs
  | [], _, r => by cases r; exact .nil
  | b :: bs, _, r => by cases r with | cons h t => exact .cons h (vals_each t)
theorem each_vals : ∀ {bs : List (V × PyData)} {us : List Value}, EachIs (fun u b => RelV b.1 u) us bs → Vals (bs.map (·.1)) us
  | _, _, .nil => .nil
  | _, _, .cons h t => .cons h (each_vals t)
theorem each_mem {α β : Type} {R R' : α → β → Prop} : ∀ {as : List α} {bs : List β}, EachIs R as bs → (∀ a, ∀ b ∈ bs, R a b → R' a b) → EachIs R' as bs
  | _, _, .nil, _ => .nil
  | _, _, .cons h t, f => .cons (f _ _ List.mem_cons_self h) (each_mem t fun a b m => f a b (List.mem_cons_of_mem _ m))
theorem cr_sortD (hu : X.A.units + 64 < cLine) : CallR X (.builtin "sorted") (rSortD X.K) := by
  intro pins s σ H vs us Q I r h
  obtain ⟨a, bs, rfl, hs, hd, hal, hso, hdp, q⟩ := h
  obtain ⟨its, rv, hl, hz⟩ := I.list hs
  obtain ⟨u, rfl, ru⟩ := vals1 r
  obtain rfl : u = Value.ref a := ru
  have e := vals_each rv
  rw [List.length_map] at hz
  refine sorted_data (R := fun u b => RelV b.1 u) (enc := fun b : V × PyData => b.2) (bs := bs) (vs := its) hl.isList e (each_mem e fun u b m ru => Dp.reads I b.2 b.1 u (hd b m) ru) hal hso hz (fun b m => by have := hdp b m; omega) fun out ho ee => ?_
  obtain ⟨n, hn⟩ := PyProof.Rows.sortedAll_at s.heap its out.toArray
  refine ⟨.ref (s.heap.objs.size + 1), upd H (s.heap.objs.size + 1) (.lst ((bs.mergeSort (dataLe false (·.2))).map (·.1))), I.laid (t' := s.toks) (fun b o hb => PyProof.Rows.sortedAll_old hb) (by omega) ⟨?_, out, n, each_vals ee, hn⟩, rfl, q _ (I.hok.fresh (by omega))⟩
  rw [List.length_map, List.length_mergeSort]; exact hz
def sortD (es : List D) : List D := es.mergeSort fun a b => !ltD b a
def okSort (es : List D) : Prop := okPys es = true ∧ AllAlike (pys es) ∧ Sortable (pys es) ∧ ∀ e ∈ pys es, e.depth ≤ 40
def pSorted : PN := fun ds c => wd (one ds) fun d => wd (lstO d) fun es => okSort es ∧ c (.o (sortD es))
theorem repA_zip : ∀ {xs : List V} {ds : List D}, RepA K F xs ds → ∃ ws : List (V × D), xs = ws.map (·.1) ∧ ds = ws.map (·.2) ∧ ∀ w ∈ ws, Rep K F w.1 w.2
  | _, _, .nil => ⟨[], rfl, rfl, fun _ m => absurd m (by simp)⟩
  | _, _, .cons (v := v) (d := d) r t => by
    obtain ⟨ws, e1, e2, h⟩ := repA_zip t
    refine ⟨(v, d) :: ws, by simp [e1], by simp [e2], fun w m => ?_⟩
    rcases List.mem_cons.mp m with rfl | m
    · exact r
    · exact h w m
theorem repA_unzip : ∀ {ws : List (V × D)}, (∀ w ∈ ws, Rep K F w.1 w.2) → RepA K F (ws.map (·.1)) (ws.map (·.2))
  | [], _ => .nil
  | w :: ws, h => .cons (h w List.mem_cons_self) (repA_unzip fun x m => h x (List.mem_cons_of_mem _ m))
theorem pys_map : ∀ ds : List D, pys ds = ds.map py
  | [] => rfl
  | d :: ds => by simp only [pys, List.map_cons, pys_map ds]
theorem okPys_mem : ∀ {ds : List D}, okPys ds = true → ∀ d ∈ ds, okPy d = true
  | [], _, _, m => absurd m (by simp)
  | d :: ds, h, x, m => by
    simp only [okPys, Bool.and_eq_true] at h
    rcases List.mem_cons.mp m with rfl | m
    · exact h.1
    · exact okPys_mem h.2 x m
theorem n_sorted {k : Nat} (hr : Room k X.A) : ON X (.builtin "sorted") (rSortD X.K) pSorted := ⟨cr_sortD hr.units, fun F H xs ds c Q s r hp hQ => by
  obtain ⟨d, e, hp1⟩ := wd_iff hp
  obtain ⟨es, e2, hk, hp2⟩ := wd_iff hp1
  have e0 := one_inv e
  rw [e0] at r
  obtain ⟨y, ey, r1⟩ := repBs1 r
  subst ey
  obtain ⟨a, xs, rfl, h1, h2⟩ := r1.lstO s e2
  obtain ⟨ws, ex, ed, hw⟩ := repA_zip h2
  subst ex ed
  obtain ⟨k1, k2, k3, k4⟩ := hk
  rw [pys_map] at k2 k3 k4
  refine ⟨a, ws.map fun w => (w.1, py w.2), rfl, ?_, ?_, ?_, ?_, ?_, ?_⟩
  · rw [List.map_map]; exact h1
  · intro b m
    obtain ⟨w, m1, rfl⟩ := List.mem_map.mp m
    exact (hw w m1).dp s (okPys_mem k1 _ (List.mem_map.mpr ⟨w, m1, rfl⟩))
  · rw [List.map_map]; rw [List.map_map] at k2; exact k2
  · rw [List.map_map]; rw [List.map_map] at k3; exact k3
  · intro b m
    obtain ⟨w, m1, rfl⟩ := List.mem_map.mp m
    exact k4 _ (List.mem_map.mpr ⟨_, List.mem_map.mpr ⟨w, m1, rfl⟩, rfl⟩)
  · have e1 : (List.mergeSort (ws.map fun w => (w.1, py w.2)) (dataLe false (·.2))).map (·.1) = (ws.mergeSort fun a b => !ltD b.2 a.2).map (·.1) := by
      rw [← List.map_mergeSort (r := fun a b => !ltD b.2 a.2) (s := dataLe false (·.2)) (f := fun w : V × D => (w.1, py w.2)) (l := ws) (fun a _ b _ => rfl), List.map_map]
      rfl
    have e3 : sortD (ws.map (·.2)) = (ws.mergeSort fun a b => !ltD b.2 a.2).map (·.2) := by
      unfold sortD
      rw [← List.map_mergeSort (r := fun a b : V × D => !ltD b.2 a.2) (s := fun a b => !ltD b a) (f := fun w : V × D => w.2) (l := ws) (fun a _ b _ => rfl)]
    rw [e1]
    rw [e3] at hp2
    exact lres s (repA_unzip fun w m => hw w (List.mem_mergeSort.mp m)) hp2 hQ⟩
theorem pSorted_at (d : D) (c : RV → Prop) : pSorted [d] c = wd (lstO d) fun es => okSort es ∧ c (.o (sortD es)) := rfl
end DL

set_option Elab.async false
set_option linter.all false
set_option maxRecDepth 100000
namespace DL
open PySem L2
def plainD : D → Bool
  | .h _ => false
  | .exc _ _ _ => false
  | .fn _ => false
  | .raw _ => false
  | _ => true
def isNum : D → Bool
  | .int _ => true
  | _ => false
def isRow : D → Bool
  | .tup ds => decide (1 ≤ ds.length) && decide (ds.length ≤ 24) && ds.all isNum
  | _ => false
def widD : D → Nat
  | .tup ds => ds.length
  | _ => 0
def goodRow (w : Nat) (d : D) : Bool := isRow d && decide (widD d = w)
def rowsL (ds : List D) : Bool := ds.all (goodRow (widD (ds.headD .non)))
def isRows : D → Bool
  | .lst ds => rowsL ds
  | .frl ds => rowsL ds
  | _ => false
def plains : D → Bool
  | .lst ds => ds.all plainD
  | .frl ds => ds.all plainD
  | .tup ds => ds.all plainD
  | d => plainD d
theorem isNum_iff {d : D} : isNum d = true ↔ ∃ i, d = .int i := by cases d <;> simp [isNum]
theorem isRow_iff {d : D} : isRow d = true ↔ ∃ ns : List Int, d = .tup (ns.map D.int) ∧ 1 ≤ ns.length ∧ ns.length ≤ 24 := by
  constructor
  · intro h
    cases d with
    | tup ds =>
      simp only [isRow, Bool.and_eq_true, decide_eq_true_eq, List.all_eq_true] at h
      have : ∀ l : List D, (∀ x ∈ l, isNum x = true) → ∃ ns : List Int, l = ns.map D.int := by
        intro l
        induction l with
        | nil => exact fun _ => ⟨[], rfl⟩
        | cons x l ih =>
          intro hx
          obtain ⟨i, rfl⟩ := isNum_iff.mp (hx x List.mem_cons_self)
          obtain ⟨ns, rfl⟩ := ih fun y m => hx y (List.mem_cons_of_mem _ m)
          exact ⟨i :: ns, rfl⟩
      obtain ⟨ns, rfl⟩ := this ds h.2
      simp only [List.length_map] at h
      exact ⟨ns, rfl, h.1.1, h.1.2⟩
    | _ => simp [isRow] at h
  · rintro ⟨ns, rfl, h1, h2⟩
    simp only [isRow, List.length_map, h1, h2, decide_true, Bool.and_true, Bool.true_and, List.all_eq_true]
    intro x m
    obtain ⟨i, _, rfl⟩ := List.mem_map.mp m
    rfl
mutual
def okc : D → Bool
  | .non => true
  | .bl _ => true
  | .int _ => true
  | .str x => PyData.strOk x
  | .tup ds => okcs ds
  | .lst ds => okcs ds
  | .frl ds => okcs ds
  | _ => false
def okcs : List D → Bool
  | [] => true
  | d :: ds => okc d && okcs ds
end
mutual
def dep : D → Nat
  | .tup ds => deps ds + 1
  | .lst ds => deps ds + 1
  | .frl ds => deps ds + 1
  | _ => 0
def deps : List D → Nat
  | [] => 0
  | d :: ds => max (dep d) (deps ds)
end
mutual
theorem okc_py : ∀ (d : D), okc d = true → okPy d = true ∧ (py d).canLay0 = true ∧ PySem.W.alike (py d) (py d) = true ∧ (py d).depth = dep d
  | .non, _ => by simp [okPy, py, PyData.canLay0, PySem.W.alike, PyData.depth, dep]
  | .bl _, _ => by simp [okPy, py, PyData.canLay0, PySem.W.alike, PyData.depth, dep]
  | .int _, _ => by simp [okPy, py, PyData.canLay0, PySem.W.alike, PyData.depth, dep]
  | .str x, h => by simp only [okc] at h; simp [okPy, py, PyData.canLay0, PySem.W.alike, PyData.depth, dep, h]
  | .tup ds, h => by obtain ⟨a, b, c, e⟩ := okcs_py ds (by simpa [okc] using h); simp [okPy, py, PyData.canLay0, PySem.W.alike, PyData.depth, dep, a, b, c, e]
  | .lst ds, h => by obtain ⟨a, b, c, e⟩ := okcs_py ds (by simpa [okc] using h); simp [okPy, py, PyData.canLay0, PySem.W.alike, PyData.depth, dep, a, b, c, e]
  | .frl ds, h => by obtain ⟨a, b, c, e⟩ := okcs_py ds (by simpa [okc] using h); simp [okPy, py, PyData.canLay0, PySem.W.alike, PyData.depth, dep, a, b, c, e]
  | .dct _ _, h => by simp [okc] at h
  | .raw _, h => by simp [okc] at h
  | .h _, h => by simp [okc] at h
  | .exc _ _ _, h => by simp [okc] at h
  | .fn _, h => by simp [okc] at h
theorem okcs_py : ∀ (ds : List D), okcs ds = true → okPys ds = true ∧ PyData.canLayAll0 (pys ds) = true ∧ PySem.W.alikeAll (pys ds) (pys ds) = true ∧ PyData.depthAll (pys ds) = deps ds
  | [], _ => by simp [okPys, pys, PyData.canLayAll0, PySem.W.alikeAll, PyData.depthAll, deps]
  | d :: ds, h => by
    simp only [okcs, Bool.and_eq_true] at h
    obtain ⟨a, b, c, e⟩ := okc_py d h.1
    obtain ⟨a', b', c', e'⟩ := okcs_py ds h.2
    simp [okPys, pys, PyData.canLayAll0, PySem.W.alikeAll, PyData.depthAll, deps, a, b, c, e, a', b', c', e']
end
theorem okE_of {d : D} (h : okc d = true) (hd : dep d ≤ 64) : okE d := by
  obtain ⟨a, b, c, e⟩ := okc_py d h
  exact ⟨a, by unfold SeqAt.shaped; rw [b, e]; simpa using hd⟩
theorem eqD_self {d : D} (h : okc d = true) : eqD d d = true := PySem.W.eqv_refl_alike _ (okc_py d h).2.2.1
theorem okcs_all {ds : List D} (h : ∀ d ∈ ds, okc d = true) : okcs ds = true := by
  induction ds with
  | nil => rfl
  | cons x ds ih => simp only [okcs, h x List.mem_cons_self, ih fun d m => h d (List.mem_cons_of_mem _ m), Bool.and_self]
theorem deps_le {ds : List D} {n : Nat} (h : ∀ d ∈ ds, dep d ≤ n) : deps ds ≤ n := by
  induction ds with
  | nil => simp [deps]
  | cons x ds ih =>
    simp only [deps]
    have := h x List.mem_cons_self
    have := ih fun d m => h d (List.mem_cons_of_mem _ m)
    omega
theorem okcs_ints (ns : List Int) : okcs (ns.map D.int) = true := okcs_all fun d m => by obtain ⟨i, _, rfl⟩ := List.mem_map.mp m; rfl
theorem deps_ints (ns : List Int) : deps (ns.map D.int) = 0 := Nat.le_zero.mp (deps_le fun d m => by obtain ⟨i, _, rfl⟩ := List.mem_map.mp m; simp [dep])
theorem pys_ints : ∀ ns : List Int, pys (ns.map D.int) = ns.map PyData.int
  | [] => rfl
  | n :: ns => by simp only [List.map_cons, pys, py, pys_ints ns]
def rowD (r : List Int) : D := .tup (r.map D.int)
def rowsD (rs : List (List Int)) : List D := rs.map rowD
def Wide (w : Nat) (rs : List (List Int)) : Prop := 1 ≤ w ∧ w ≤ 24 ∧ ∀ r ∈ rs, r.length = w
theorem Wide.rows {w : Nat} {rs : List (List Int)} (h : Wide w rs) : rowsL (rowsD rs) = true := by
  have h0 : ∀ w' : Nat, (∀ q ∈ rs, widD (rowD q) = w') → w' = widD ((rowsD rs).headD .non) ∨ rs = [] → rowsL (rowsD rs) = true := fun w' hw e => by
    unfold rowsL
    rw [List.all_eq_true]
    intro d m
    obtain ⟨r, mr, rfl⟩ := List.mem_map.mp m
    have hl := h.2.2 r mr
    have e1 : isRow (rowD r) = true := isRow_iff.mpr ⟨r, rfl, by rw [hl]; exact h.1, by rw [hl]; exact h.2.1⟩
    rcases e with e | e
    · unfold goodRow; rw [e1, Bool.true_and, decide_eq_true_eq, hw r mr]; exact e
    · subst e; cases mr
  refine h0 w (fun q m => by simp only [rowD, widD, List.length_map]; exact h.2.2 q m) ?_
  cases rs with
  | nil => exact .inr rfl
  | cons q rs => left; show w = widD (rowD q); simp only [rowD, widD, List.length_map]; exact (h.2.2 q List.mem_cons_self).symm
theorem okc_row (r : List Int) : okc (rowD r) = true := by simp only [rowD, okc, okcs_ints]
theorem dep_row (r : List Int) : dep (rowD r) = 1 := by simp only [rowD, dep, deps_ints]
def keyD (c : Nat) (r : List Int) : D := .tup [.int (r.getD c 0), rowD r]
def lessR (c : Nat) (r q : List Int) : Bool := ltD (keyD c r) (keyD c q)
theorem alike_key (c : Nat) (r q : List Int) : PySem.W.alike (py (keyD c r)) (py (keyD c q)) = true := by
  simp only [keyD, rowD, py, pys, PySem.W.alike, PySem.W.alikeAll, pys_ints, PySem.W.alike_ints, Bool.and_self]
theorem okc_key (c : Nat) (r : List Int) : okc (keyD c r) = true := by simp only [keyD, okc, okcs, okc_row, Bool.and_self]
theorem dep_key (c : Nat) (r : List Int) : dep (keyD c r) = 2 := by simp only [keyD, dep, deps, dep_row]; rfl
theorem okL_key (c : Nat) (r q : List Int) : okL (keyD c r) (keyD c q) := by
  obtain ⟨a, b, _, e⟩ := okc_py _ (okc_key c r)
  obtain ⟨a', b', _, e'⟩ := okc_py _ (okc_key c q)
  exact ⟨a, a', alike_key c r q, by simp [keyD, py], by rw [e, dep_key]; decide⟩
theorem ixN_in {n : Nat} {i : Int} (h0 : 0 ≤ i) (h1 : i < (n : Int)) : ixN n i = some i.toNat := by unfold ixN; simp [h0]; omega
theorem rows_at {rs : List (List Int)} {c : Int} (h0 : 0 ≤ c) (h1 : c < (rs.length : Int)) : atI (rowsD rs) c = some (rowD (rs.getD c.toNat [])) := by
  have hl : c.toNat < rs.length := by omega
  rw [atI_get h0 (by simp only [rowsD, List.length_map]; exact h1)]
  simp only [rowsD, List.getElem?_map, List.getElem?_eq_getElem hl, List.getD_eq_getElem?_getD]
  rfl
theorem getD_mem {rs : List (List Int)} {c : Int} (h0 : 0 ≤ c) (h1 : c < (rs.length : Int)) : rs.getD c.toNat [] ∈ rs := by
  have hl : c.toNat < rs.length := by omega
  rw [List.getD_eq_getElem?_getD, List.getElem?_eq_getElem hl]
  exact List.getElem_mem hl
end DL

set_option Elab.async false
set_option linter.all false
set_option maxRecDepth 100000
namespace DL
open PySem L2 PySem.W
section
variable {X : Cx} {W : WX} {pos : Pos}
theorem dt_tru' {e : Expr} {t : TE} {w : WE} (h : DE X W e t w) (he : ∀ whole, isTrue e X.env whole = (do let v ← whole; standAt e.pos; holding [v] (truthy v)) := by intro _; rfl) {K' : PySem.W.Frag} (hK : X.K = K' := by rfl) : DT X W e (fun σ H Q => t σ H fun x H' => ∃ k, TruV K' x H' k ∧ Q k H') (wTru w) := by
  subst hK
  first | exact dt_tru | (apply dt_tru <;> assumption)
theorem dgv_tup' {vs : List Nat} {es : List Expr} {k : Nat} {t : TGs} {w : GTs} {n : Nat} (hc : X.calm = true) (h : DGvs X vs es t w) (hn : (assignEach es X.env).length = n := by rfl) (hst : (assignEach es X.env).findIdx? (·.1) = none := by rfl) {K' : PySem.W.Frag} (hK : X.K = K' := by rfl) : DGv X vs (.Tuple es k pos) (gTup K' n t) (gT n w) := by
  subst hK
  first | exact dgv_tup | (apply dgv_tup <;> assumption)
theorem de_call' {x : Str} {c : Con} {k : Nat} {e : Expr} {es : List Expr} {p' : Pos} {t : TA} {w : WA} (F : Def X.prog X.w X.K X.mg X.base x c k) (hr : Room k X.A) (tk : Takes X W) (ha : DA X W (e :: es) t w) (hg : Gl X x := by rfl) (hdb : (x == ("__debug__" : Str)) = false := by decide)
    (he : starEach (e :: es) X.env = (false, eval e X.env) :: starEach es X.env := by rfl) (hpl : (backTo pos (starEach es X.env)).any (·.1) = false := by rfl) {K' : PySem.W.Frag} (hK : X.K = K' := by rfl) :
    DE X W (.Call (.Name x p') (e :: es) [] pos) (tCallSD (toSp K' c) [] (L2.WE W) t) (wCall c.df [] w) := by
  subst hK
  first | exact de_call | (apply de_call <;> assumption)
theorem o_ne' {k : Nat} (hr : Room k X.A) {K' : PySem.W.Frag} (hK : X.K = K' := by rfl) : O2 X (compareOp .NotEq) (rNeA K') pNe := by
  subst hK
  first | exact o_ne | (apply o_ne <;> assumption)
end
end DL

set_option Elab.async false
set_option linter.all false
set_option maxRecDepth 100000
namespace DL
open PySem L2
section
variable {X : Cx} {K : PySem.W.Frag} {B : Base} {F F' H H' : Hp} {om : Om} {st : L2.St} {r : Env} {W : WX} {pos : Pos}
def flatD : D → Bool
  | .non => true
  | .bl _ => true
  | .int _ => true
  | .str _ => true
  | _ => false
def flatR : RV → Prop
  | .v d => flatD d = true
  | .o ds => ds.all flatD = true
  | .b _ => False
def wCallB (df : DF) (dds : List D) (wa : WA) : WE := fun xq r om k => wa xq r om fun xs r1 om1 => wd (datsB r1 om1 xs) fun ds => df (ds ++ dds) (fun _ => none) (fun x _ => flatR x ∧ k x r1 om1) (fun _ _ => False)
theorem fnok_false {P : Program} {w : World} {K : PySem.W.Frag} {mg : Str → Option Value} {base : Heap} {CX : CXT} {k : Nat} {f : Addr} {fd : FuncData} {ps : List Str} {c : Con} (h : ∀ ds om k xk, ¬ c.df ds om k xk) : FnOk P w K mg base CX k f fd ps (toSp K c) :=
  ⟨fun vs H Q E q => by obtain ⟨F, om, ds, _, _, q⟩ := q; exact (h _ _ _ _ q).elim, fun A outer s H args us vs Q E hr he hb hv q => by obtain ⟨F, om, ds, _, _, q⟩ := q; exact (h _ _ _ _ q).elim⟩
end
end DL

set_option Elab.async false
set_option linter.all false
set_option maxRecDepth 100000
namespace DL
open PySem L2
section
variable {X : Cx} {K : PySem.W.Frag} {B : Base} {F F' H H' : Hp} {om : Om} {st : L2.St} {r : Env} {W : WX} {pos : Pos}
def wIsi2 (n m : String) (we : WE) : WE := fun xq r om k => we xq r om fun x r1 om1 => wd (datB r1 om1 x) fun d => wd (tyD d) fun t => wd (isiD t n) fun b1 => wd (isiD t m) fun b2 => k (.v (.bl (b1 || b2))) r1 om1
def isNon : D → Bool
  | .non => true
  | _ => false
def pIsNo : P2 := fun d e c => match d, e with
  | .raw _, _ => False
  | d, .non => c (.v (.bl (isNon d)))
  | _, _ => False
def pNotNo : P2 := fun d e c => match d, e with
  | .raw _, _ => False
  | d, .non => c (.v (.bl (!isNon d)))
  | _, _ => False
theorem RepB.isN {y : V} {d : D} (h : RepB K F H y d) (hd : ∀ v, d ≠ .raw v) : decide (y = .non) = isNon d := by
  rcases h with h | ⟨a, xs, ds, rfl, rfl, h1, h2⟩
  · cases d with
    | raw v => exact absurd rfl (hd v)
    | non => cases h; rfl
    | _ => cases h <;> simp [isNon]
  · simp [isNon]
theorem o_notN : O2 X (compareOp .IsNot) (fun x y H Q => y = .non ∧ Q (.bl (!decide (x = .non))) H) pNotNo := ⟨op_notN, fun F H x y d e c Q s rx ry hp hQ => by
  unfold pNotNo at hp
  split at hp
  · exact hp.elim
  · next hn =>
    refine ⟨ry.nonS, ?_⟩
    rw [rx.isN fun v z => hn v z]
    exact vres s (.bl _) hp hQ
  · exact hp.elim⟩
def inD (d : D) (es : List D) : Bool := es.any fun e => eqD e d
def pIn : P2 := fun d e c => wd (lstO e) fun es => okE d ∧ okE (.lst es) ∧ c (.v (.bl (inD d es)))
def pNotIn : P2 := fun d e c => wd (lstO e) fun es => okE d ∧ okE (.lst es) ∧ c (.v (.bl (!inD d es)))
end
end DL

set_option Elab.async false
set_option linter.all false
set_option maxRecDepth 100000
namespace DL
open PySem L2 PyProof.Rows
section
variable {X : Cx} {CX : CXT} {k n : Nat} {f : Addr} {fd : FuncData} {ps ks : List Str} {sp : Sp} {E : L2.St → XK} {x : Str} {p pos : Pos} {e : Expr} {es : List Expr} {kws : List Keyword} {t tk : TA} {g : List Value → List Value → List Value} {gV : List V → List V → List V}
def tCallKw (n m : Nat) (sp : Sp) (gV : List V → List V → List V) (E : L2.St → XK) (t tk : TA) : TE := fun σ H Q => t σ H fun vs H1 => tk σ H1 fun zs H2 => vs.length = n ∧ zs.length = m ∧ sp (gV vs zs) H2 Q (E σ)
end
section
variable {X : Cx} {K : PySem.W.Frag} {W : WX} {pos : Pos}
structure DK (X : Cx) (W : WX) (kws : List Keyword) (t : TA) (w : WA) : Prop where
  p : PK X kws t
  s : SA X.K W t w
theorem dk_nil : DK X W [] tNil wNil := ⟨pk_nil, sa_nil⟩
def wCallK (df : DF) (n m : Nat) (gD : List D → List D → List D) (wa wk : WA) : WE := fun xq r om k => wa xq r om fun xs r1 om1 => wd (datsE xs) fun ds => wk xq r1 om1 fun zs r2 om2 => wd (datsE zs) fun es =>
  (ds.length = n ∧ es.length = m) ∧ df (gD ds es) om2 (fun x om' => k x r2 om') (fun ex om' => xq ex r2 om')
def GRep (K : PySem.W.Frag) (gV : List V → List V → List V) (gD : List D → List D → List D) : Prop := ∀ (F : Hp) (vs zs : List V) (ds es : List D), RepA K F vs ds → RepA K F zs es → RepA K F (gV vs zs) (gD ds es)
def DefK (P : Program) (w : World) (K : PySem.W.Frag) (mg : Str → Option Value) (base : Heap) (x : Str) (c : Con) (k n : Nat) (ks : List Str) (gV : List V → List V → List V) : Prop :=
  ∃ (a : Addr) (fd : FuncData) (ps : List Str) (g : List Value → List Value → List Value), FnOk P w K mg base (L2.CX P w) k a fd ps (toSp K c) ∧ mg x = some (.ref a) ∧ PySem.W.keepIn K (.ref a) = true ∧ KBn K fd ps n ks g gV
end
section
variable {K : PySem.W.Frag} {x qual : Str} {params : Arguments} {body : List Stmt} {scope : Scope} {dvs : List V} {kws : List (Str × V)} {f : Addr} {fd : FuncData} {ps : List Str}
theorem kb1 (F : FunD K x qual params body scope dvs kws f fd) (n : Nat) (ks : List Str) (g : {α : Type} → List α → List α → List α → List α) (hd : dvs ≠ []) (hrel : ∀ {vs ds zs : List V} {us its ws : List Value}, Vals vs us → Vals ds its → Vals zs ws → Vals (g vs ds zs) (g us its ws))
    (h : ∀ (T : Addr) (kV doc pm : Value) (an : Option Addr) (cdv ct : Value) (us its ws : List Value), us.length = n → its.length = dvs.length → ws.length = ks.length →
      ∃ k, bindArgs (PySem.W.fnOf x qual params body scope (.ref T) kV doc pm an cdv ct) ⟨us, ks.zip ws⟩ = seqItems? (.ref T) >>= k ∧ k (some its.toArray) = pure (ps.zip (g us its ws))) :
    ∃ its : List Value, KBn K fd ps n ks (fun us ws => g us its ws) (fun vs zs => g vs dvs zs) := by
  obtain ⟨oc, od, dV, kV, doc, pm, an, cdv, ct, osl, rfl, lk, hcd, hD, hK⟩ := F.ex
  rcases hD with ⟨e, _⟩ | ⟨_, T, o, its, m, rfl, lT, oT, rT⟩
  · exact absurd e hd
  · refine ⟨its, ⟨fun s us ws X l1 l2 => BindsTo.of_looks fun M => ?_, fun r1 r2 => hrel r1 rT r2⟩⟩
    obtain ⟨k, e1, e2⟩ := h T kV doc pm an cdv ct us its ws l1 rT.length.symm l2
    rw [e1]
    exact looks_items X lT oT (.of_pure e2)
end
end DL

set_option Elab.async false
set_option linter.all false
set_option maxRecDepth 100000
namespace DL
open PySem L2 PyProof.Rows
section
variable {X : Cx} {K : PySem.W.Frag} {F H : Hp} {W : WX} {pos : Pos}
structure Exc0 (K : PySem.W.Frag) (mg : Str → Option Value) (x : Str) : Prop where
  g : mg x = some (.ref (He.ga K x))
  e : PySem.W.excIn K (He.ga K x) He.veBase "ValueError.__new__" = true
  k : PySem.W.keepIn K (.ref (He.ga K x)) = true
  b : PySem.W.subIn K (.ref (He.ga K x)) (.type "BaseException") = some true
  t : PySem.W.typeIn K (.ref (He.ga K x)) = some (.type "type")
def wRaise (x : Str) : WS := fun e r om => e.xq ⟨x, none⟩ r om
theorem ds_raise {x m : Str} {j : Nat} {p p2 p3 : Pos} (T : Exc0 X.K X.mg x) (tk : Takes X W) (hc : X.calm = true := by rfl) (hg : Gl X x := by rfl) (hdb : (x == ("__debug__" : Str)) = false := by decide) :
    DS X W (.Raise (some (.Call (.Name x p) [.Constant (.str m) j p2] [] p3)) none pos) (fun _ σ H => W (.ref (He.ga X.K x)) none σ H) (wRaise x) :=
  ⟨ps_raise hc tk (pmk_own PySem.F.excBase_ValueError T.e T.g T.k (raises_own T.b T.t) hg (hdb := hdb)), fun B F om H st r D e R hx hE hw => hx _ _ _ _ _ _ _ _ R ⟨rfl, rfl⟩ hw⟩
def spInit (C : Addr) (fs : List Str) : Sp := fun vs H Q _ => ∃ (a : Addr) (ws : List V), vs = .ref a :: ws ∧ ws.length = fs.length ∧ H a = some (exo a C none) ∧
  ∀ (dx : Addr) (H' : Hp), H dx = none → dx ≠ a → H' a = some (exo a C (some dx)) → H' dx = some (exd dx (fs.reverse.zip ws.reverse)) → (∀ b, b ≠ a → b ≠ dx → H' b = H b) → Q .non H'
structure ExcF (P : Program) (w : World) (K : PySem.W.Frag) (mg : Str → Option Value) (base : Heap) (x : Str) (fs : List Str) : Prop where
  g : mg x = some (.ref (He.ga K x))
  o : OexC K (He.ga K x)
  fn : ∃ (fI : Addr) (fd : FuncData) (ps : List Str), PySem.W.findIn K (.ref (He.ga K x)) "__init__" = some (some (.ref fI)) ∧ PySem.W.typeIn K (.ref fI) = some (.type "function") ∧
    FnOk P w K mg base (L2.CX P w) 1 fI fd ps (spInit (He.ga K x) fs) ∧ Binds K fd ps []
def wRaiseF (x : Str) (fs : List Str) (wa : WA) : WS := fun e r om => wa e.xq r om fun xs r1 om1 => wd (datsE xs) fun ds => (ds.length = fs.length ∧ ds.length ≤ 1000) ∧ e.xq ⟨x, some (fs.reverse.zip ds.reverse)⟩ r1 om1
end
section
variable {K : PySem.W.Frag} {a C dx : Addr}
def tInit (K : PySem.W.Frag) : Nat → List Str → TS
  | _, [] => tNext
  | j, [f] => tOst K f (tVar 0) (tVar j)
  | j, f :: g :: r => tSeq (tOst K f (tVar 0) (tVar j)) (tInit K (j + 1) (g :: r))
end
end DL

set_option Elab.async false
set_option linter.all false
set_option maxRecDepth 100000
namespace DL
open PySem L2 PyProof.Rows PySem.Spec
section
variable {X : Cx} {pins : List (Addr × Obj)} {σ : L2.St} {H : Hp} {s : Shared}
theorem eox_ok {P : Program} {w : World} {H : Hp} {h : Heap} {a : Addr} {cls : Value} {d : Option Addr} {oe : Obj} {vs : Array Value} (e : h.get? a = some oe) (z : Zc cls d oe) (hd : oe.data = .fields vs) : ObjOk P w H h a (EOx a cls d) :=
  ⟨⟨oe, vs, e, z, hd⟩, ⟨oe, e⟩, fun _ _ ⟨o, v, q, r⟩ k => ⟨o, v, k o q, r⟩⟩
theorem Inv.track {a : Addr} {o : HO} (I : Inv X pins σ H s) (na : H a = none) (h0 : X.s_0.heap.get? a = none) (nL : a ≠ X.env.locals) (nC : ∀ v, ¬ s.heap.IsCell a v) (nP : ∀ p ∈ X.pn ++ pins, p.1 ≠ a) (new : ObjOk X.prog X.w (upd H a o) s.heap a o) : Inv X pins σ (upd H a o) s := by
  have ne0 : ∀ b u, X.s_0.heap.get? b = some u → b ≠ a := fun b u e z => by rw [z, h0] at e; cases e
  have neC : ∀ x c, X.env.cells.lookup x = some c → c ≠ a := fun x c e z => by
    obtain ⟨v, q⟩ := I.cell x c e
    rw [z] at q
    exact nC v q
  refine ⟨I.ok, I.os, I.bare, ⟨I.base.keep, I.base.slot, fun b u e n hx => ?_, I.base.there, fun b xs e => ?_, fun b u v e => ?_, fun b ps e => ?_⟩, I.loc, I.cell, ?_, fun x c e => ?_, fun p hp => ?_, fun b u e => ?_, I.len⟩
  · rw [upd_ne (ne0 b u e)]; exact I.base.free b u e n hx
  · have q := I.base.tups b xs e
    rw [upd_ne (ne_of_none q na)]; exact q
  · have q := I.base.frzs b u v e
    rw [upd_ne (ne_of_none q na)]; exact q
  · obtain ⟨m, q⟩ := I.base.tbls b ps e
    exact ⟨m, by rw [upd_ne (ne_of_none q na)]; exact q⟩
  · rw [upd_ne (Ne.symm nL)]; exact I.free
  · rw [upd_ne (neC x c e)]; exact I.freeC x c e
  · obtain ⟨e, n, r⟩ := I.pin p hp
    exact ⟨e, by rw [upd_ne (nP p hp)]; exact n, r⟩
  · by_cases hb : b = a
    · subst hb
      rw [upd_same] at e
      cases e
      exact new
    · rw [upd_ne hb] at e
      exact (I.hok b u e).stay (fun c v _ q => q) (fun c q => by rw [upd_ne (ne_of_none q na)]; exact q) fun c xs q => by rw [upd_ne (ne_of_none q na)]; exact q
theorem Inv.suiteT (I : Inv X pins σ H s) (a : Addr) : Inv (X.suite a (X.pn ++ pins)) [] σ H s :=
  ⟨I.ok.suite _ _, I.os, I.bare, I.base, I.loc, I.cell, I.free, I.freeC, fun p hp => I.pin p (by rw [List.append_nil] at hp; exact hp), I.hok, I.len⟩
theorem Inv.unsuiteT {a : Addr} {pn' : List (Addr × Obj)} (I : Inv (X.suite a (X.pn ++ pins)) pn' σ H s) (ok : X.Ok) : Inv X pins σ H s :=
  ⟨ok, I.os, I.bare, I.base, I.loc, I.cell, I.free, I.freeC, fun p hp => I.pin p (List.mem_append_left _ hp), I.hok, I.len⟩
end
def wAsT (K : PySem.W.Frag) (c : Value) (i : Nat) (ts : TS) (Wout : WX) (D : Ends) : WX := fun cls d σ H =>
  ∃ b, PySem.W.exmOne K cls c = some b ∧ (b = true → ∀ a, H a = none → ts { nx := fun σ' H' => D.nx (σ'.set i none) H', rt := D.rt, bk := fun σ' H' => D.bk (σ'.set i none) H', ct := fun σ' H' => D.ct (σ'.set i none) H' } (σ.set i (some (.ref a))) (upd H a (EOx a cls d))) ∧
    (b = false → Wout cls d σ H)
section
variable {X : Cx} {x n : Str} {c : Value} {i : Nat} {body suite : List Stmt} {b₀ : Stmt} {np pos pos' : Pos} {tb : WX → TS} {ts : TS} {Wout : WX}
theorem ps_try_asT (hs : X.stack = X.env :: X.outer) (hf : X.env.frame = some X.env.locals) (hex : X.ex = []) (hN : X.N.Nodup) (hi : X.N[i]? = some n) (hln : X.env.kindOf n = some .local) (hc : Names X x c) (tk : Takes X Wout)
    (hb : ∀ (W : WX) (pn : List (Addr × Obj)) (xe : Value → Shared → Prop), Takes (X.tr pn xe) W → PassesOwn (model X.prog X.w) X.A X.env xe → PSs (X.tr pn xe) body (tb W))
    (hsu : ∀ (a : Addr) (pn : List (Addr × Obj)), PSs (X.suite a pn) (b₀ :: suite) ts) :
    PS X (.Try body [.ExceptHandler (some (.Name x np)) (some n) (b₀ :: suite) pos'] [] [] pos) (fun D σ H => tb (wAsT X.K c i ts Wout D) D σ H) := by
  refine ⟨fun pins s σ H D I h => ?_⟩
  have ok := I.ok
  have hfr : X.A.frames = some (X.env :: X.outer) := by rw [ok.frames, hs]
  have hloc : Loc X.env.scope n := .inl hln
  refine wpAny_Try_except ?_
  refine wpAny_mono ((hb (wAsT X.K c i ts Wout D) (X.pn ++ pins) (fun e s₁ => wpAny (model X.prog X.w) X.A (noteFrame e X.env) (fun _ s₂ => wpAny (model X.prog X.w) X.A (setFlight e none) (fun _ s₃ =>
    wpAny (model X.prog X.w) X.A (handleBy e X.env [.ExceptHandler (some (.Name x np)) (some n) (b₀ :: suite) pos']) (SP X pins D) X.xe s₃) X.xe s₂) X.xe s₁) (fun u s' xx => ?_) PassesOwn.looking).run [] s σ H D (I.toTry _) h) (fun f s1 hsp => ?_) (fun e s1 he => he)
  · -- the catch
    obtain ⟨a, B, sI, pins', σ', H', cls, d, rfl, J', nb, up, sky, na, os, ag, b, hb1, hyes, hno⟩ := xx
    have J : Inv X pins σ' H' sI := J'.ofTry ok
    have sky' : Sky B (X.env :: X.outer) a (Zc cls d) X.env.locals s'.heap := by rw [← hs]; exact sky
    show wpAny (model X.prog X.w) X.A (noteFrame (.ref a) X.env) _ _ _
    refine Sky.land Zc.steady hfr hf sky' fun h3 fl3 up3 => ?_
    have J3 : Inv X pins σ' H' { s' with heap := h3 } := J.landed nb fl3.1 (up.trans up3) os ag
    obtain ⟨oe3, vs3, he3, hz3, hd3⟩ := fl3.there
    have notFr : ∀ {h : Heap} {o : Obj} {vs : Array Value}, h.FunFrames B (X.env :: X.outer) → h.get? a = some o → o.data = .fields vs → a ∉ frs (X.env :: X.outer) := fun {h o vs} ff e dd hm => by
      obtain ⟨_, o', e', hnf⟩ := ff.mem hm
      rw [e] at e'; cases e'
      exact hnf _ dd
    have nfr := notFr fl3.2.2.1 he3 hd3
    have nL : a ≠ X.env.locals := fun z => nfr (List.mem_filterMap.mpr ⟨X.env, List.mem_cons_self, by rw [hf, z]⟩)
    have nF : a ∉ X.fs := fun hm => by
      obtain ⟨e, he, q⟩ := List.mem_filterMap.mp hm
      exact nfr (List.mem_filterMap.mpr ⟨e, List.mem_cons_of_mem _ he, q⟩)
    have S3 := J3.suite he3 hd3 na nL nF
    have nI : sI.heap.get? a = none := by
      cases q : sI.heap.get? a with
      | none => rfl
      | some o =>
        have z := nb a o q (by rw [hs]; exact nfr)
        rw [fl3.2.1] at z; cases z
    have n0 : X.s_0.heap.get? a = none := by
      cases q : X.s_0.heap.get? a with
      | none => rfl
      | some o =>
        obtain ⟨o', z⟩ := J.base.there a o q (by rw [hex]; exact fun z => nomatch z)
        rw [nI] at z; cases z
    have nP : ∀ p ∈ X.pn ++ pins, p.1 ≠ a := fun p hp z => by
      have q := (J.pin p hp).1
      rw [z, nI] at q; cases q
    refine wpAny_handleBy_cons (codeAny_handlers_test ?_) (by intro q; cases q)
    have LT : PySem.W.Looks (model X.prog X.w) h3 (typeOf (.ref a)) cls := fun A Q E s k q => wpAny_typeOf_ref (k _ _ he3) (by rw [hz3.1]; exact q)
    have LM := PySem.W.exm_one (M := model X.prog X.w) (J3.kIn) LT hb1
    have test : ∀ {Q : Value → Shared → Prop} {E : Value → Shared → Prop}, Q c { s' with heap := h3 } → wpAny (model X.prog X.w) (X.A.mark (some (.ref a))) (eval (.Name x np) X.env) Q E { s' with heap := h3 } := fun {Q E} q => by
      obtain ⟨hg, hdbg, hm | ⟨hm, hv, hnn⟩⟩ := hc
      · exact ld_glob (X := X.suite a ((a, oe3) :: (X.pn ++ pins))) S3 hg hm q hdbg
      · exact ld_blt (X := X.suite a ((a, oe3) :: (X.pn ++ pins))) S3 hg hm hv q hnn hdbg
    refine test (LM.here ?_)
    cases b with
    | true =>
      refine codeAny_handlers_suite_as ?_
      refine HandSPX.lands_againZ fl3 fun h4 fl4 up4 => ?_
      have J4 : Inv X pins σ' H' { s' with heap := h4 } := J.landed nb fl4.1 ((up.trans up3).trans up4) os ag
      obtain ⟨oe4, vs4, he4, hz4, hd4⟩ := fl4.there
      have J5 : Inv X pins σ' (upd H' a (EOx a cls d)) { s' with heap := h4 } := Inv.track J4 na n0 nL (fun v ⟨o, q1, q2⟩ => by rw [he4] at q1; cases q1; rw [hd4] at q2; cases q2) nP (eox_ok he4 hz4 hd4)
      have S4 := Inv.suiteT J5 a
      refine store_ok (X := X.suite a (X.pn ++ pins)) (v := .ref a) S4 hN hi hloc rfl (fun s5 S5 => ?_) (.inr hln)
      refine wpAny_mono ((hsu a (X.pn ++ pins)).run [] s5 _ _ _ S5 (hyes rfl a na)) (fun f s6 hsp => ?_) (fun _ _ z => False.elim z)
      have end_ : ∀ {σ6 : L2.St} {H6 : Hp} {Q : Shared → Prop}, Inv (X.suite a (X.pn ++ pins)) [] σ6 H6 s6 → (∀ s7, Inv X pins (σ6.set i none) H6 s7 → Q s7) →
          wpAny (model X.prog X.w) X.A (do bindName X.env n .none; unbindBehindTheSuite X.env n pos') (fun _ s7 => Q s7) X.xe s6 := fun {σ6 H6 Q} S6 hq => gone_ok (Inv.unsuiteT S6 ok) hN hi hln hq
      cases f with
      | next =>
        obtain ⟨σ6, H6, S6, q6⟩ := hsp
        exact end_ S6 fun s7 J7 => ⟨_, _, J7, q6⟩
      | brk =>
        obtain ⟨σ6, H6, S6, q6⟩ := hsp
        exact end_ S6 fun s7 J7 => ⟨_, _, J7, q6⟩
      | cont =>
        obtain ⟨σ6, H6, S6, q6⟩ := hsp
        exact end_ S6 fun s7 J7 => ⟨_, _, J7, q6⟩
      | ret u =>
        obtain ⟨v6, σ6, H6, S6, r6, q6⟩ := hsp
        exact end_ S6 fun s7 J7 => ⟨_, _, _, J7, r6, q6⟩
    | false =>
      show wpAny _ X.A (handleBy (.ref a) X.env []) _ _ _
      refine wpAny_handleBy_nil ?_
      obtain ⟨k1, k2, k3, oe, vs, T, oT, ts', he, hz, hd, h1, hr⟩ := id fl3
      unfold PySem.passOn
      refine wpAny_bind (wpAny_field he hd h1 ?_)
      rw [if_neg (show ¬ ((Value.ref T == Value.none) = true) from by simp)]
      have fin : wpAny (model X.prog X.w) X.A (setFlight (.ref a) X.env.frame) (fun _ s4 => wpAny (model X.prog X.w) X.A (throw (.ref a) : Sem Flow) (SP X pins D) X.xe s4) X.xe { s' with heap := h3 } := by
        rw [hf]
        refine HandSPX.setFlight_upZ fl3 fun h4 hh4 up4 => wpAny_throw (tk _ _ ?_)
        exact ⟨a, B, sI, pins, σ', H', cls, d, rfl, J, nb, (up.trans up3).trans up4, .inr (.inr (by rw [hs]; exact hh4)), na, os, ag, hno rfl⟩
      first
        | exact wpAny_bind (wpAny_pure (wpAny_bind fin))
        | exact wpAny_bind fin
  · cases f with
    | next =>
      obtain ⟨σ', H', J', q⟩ := hsp
      exact wpAny_execs_nil ⟨σ', H', J'.ofTry ok, q⟩
    | brk =>
      obtain ⟨σ', H', J', q⟩ := hsp
      exact ⟨σ', H', J'.ofTry ok, q⟩
    | cont =>
      obtain ⟨σ', H', J', q⟩ := hsp
      exact ⟨σ', H', J'.ofTry ok, q⟩
    | ret u =>
      obtain ⟨v, σ', H', J', r, q⟩ := hsp
      exact ⟨v, σ', H', J'.ofTry ok, r, q⟩
end
section
variable {X : Cx} {K : PySem.W.Frag} {F H : Hp} {W : WX} {pos : Pos}
def exD (ex : Exn) : D := match ex.fs with
  | none => .exc ex.cls [] []
  | some fs => .exc ex.cls (fs.map (·.1)) (fs.map (·.2))
def endTry (i : Nat) (e : DEnds) : DEnds := { nx := fun r om => e.nx (r.set i none) om, rt := e.rt, bk := fun r om => e.bk (r.set i none) om, ct := fun r om => e.ct (r.set i none) om }
def xTry (i : Nat) (sub : Str → Option Bool) (ws : WS) (e : DEnds) : DX := fun ex r om => wd (sub ex.cls) fun b => if b = true then i < r.length ∧ ws (endTry i e) (r.set i (some (.v (exD ex)))) om else e.xq ex r om
def wTryAs (i : Nat) (sub : Str → Option Bool) (wb : WS) (ws : WS) : WS := fun e r om => wb { nx := e.nx, rt := e.rt, bk := e.bk, ct := e.ct, xq := xTry i sub ws e } r om
theorem Rel.clear {B : Base} {om : Om} {st : L2.St} {r : Env} (R : Rel K B F om H st r) (i : Nat) : Rel K B F om H (st.set i none) (r.set i none) := by
  refine ⟨R.rh, R.ext, by simp [R.len], fun j x e => ?_, fun j k a ds es e1 e2 e3 e4 => ?_⟩
  · by_cases h : i = j
    · subst h
      by_cases hl : i < r.length
      · rw [List.getElem?_set_self hl] at e; cases e
      · rw [List.getElem?_eq_none (by simpa using hl)] at e; cases e
    · rw [List.getElem?_set_ne h] at e ⊢; exact R.slot j x e
  · have f : ∀ {l : Nat} {x : RV}, (r.set i none)[l]? = some (some x) → i ≠ l := fun {l x} e h => by
      subst h
      by_cases hl : i < r.length
      · rw [List.getElem?_set_self hl] at e; cases e
      · rw [List.getElem?_eq_none (by simpa using hl)] at e; cases e
    have n1 := f e1
    have n2 := f e2
    rw [List.getElem?_set_ne n1] at e1 e3
    rw [List.getElem?_set_ne n2] at e2 e4
    exact R.dis j k a ds es e1 e2 e3 e4
def xe0 (X : Cx) : Value → Shared → Prop := fun e s₁ => wpAny (model X.prog X.w) X.A (noteFrame e X.env) (fun _ s₂ => wpAny (model X.prog X.w) X.A (setFlight e none) (fun _ _ => True) X.xe s₂) X.xe s₁
theorem ds_tryAs (i : Nat) {x n : Str} {hv : Value} {sub : Str → Option Bool} {body suite : List Stmt} {b₀ : Stmt} {np pos' : Pos} {tb : WX → TS} {wb : WS} {ts : TS} {ws : WS}
    (hN : X.N.Nodup) (hc : Names X x hv) (tk : Takes X W) (hsub : ∀ c b, sub c = some b → PySem.W.exmOne X.K (.ref (He.ga X.K c)) hv = some b)
    (hb : ∀ (W : WX) (pn : List (Addr × Obj)) (xe : Value → Shared → Prop), Takes (X.tr pn xe) W → PassesOwn (model X.prog X.w) X.A X.env xe → DSs (X.tr pn xe) W body (tb W) wb)
    (hsu : ∀ (a : Addr) (pn : List (Addr × Obj)), DSs (X.suite a pn) W0 (b₀ :: suite) ts ws)
    (hs : X.stack = X.env :: X.outer := by rfl) (hf : X.env.frame = some X.env.locals := by rfl) (hex : X.ex = [] := by rfl) (hi : X.N[i]? = some n := by rfl) (hln : X.env.kindOf n = some .local := by rfl) :
    DS X W (.Try body [.ExceptHandler (some (.Name x np)) (some n) (b₀ :: suite) pos'] [] [] pos) (fun D σ H => tb (wAsT X.K hv i ts W D) D σ H) (wTryAs i sub wb ws) := by
  refine ⟨ps_try_asT hs hf hex hN hi hln hc tk (fun W pn xe tk hp => (hb W pn xe tk hp).p) fun a pn => (hsu a pn).p, fun B F om H st r D e R hx hE hw => ?_⟩
  have tk0 : ∀ W : WX, Takes (X.tr [] (xe0 X)) W := fun W u s' xx => by
    obtain ⟨a, B, sI, pins', σ', H', cls, d, rfl, J', nb, up, sky, na, os, ag, _⟩ := xx
    have hfr : X.A.frames = some (X.env :: X.outer) := by rw [← hs]; exact J'.ok.frames
    have sky' : Sky B (X.env :: X.outer) a (Zc cls d) X.env.locals s'.heap := by rw [← hs]; exact sky
    show wpAny (model X.prog X.w) X.A (noteFrame (.ref a) X.env) _ _ _
    exact Sky.land Zc.steady hfr hf sky' fun h3 fl3 up3 => trivial
  refine (hb _ [] (xe0 X) (tk0 _) PassesOwn.looking).s B F om H st r D { nx := e.nx, rt := e.rt, bk := e.bk, ct := e.ct, xq := xTry i sub ws e } R ?_ ⟨hE.nx, hE.rt, hE.bk, hE.ct⟩ hw
  intro ex r1 om1 F1 H1 st1 cls d R1 he hw
  obtain ⟨b, eb, hw⟩ := wd_iff hw
  obtain ⟨ec, he2⟩ := he
  refine ⟨b, by rw [ec]; exact hsub _ _ eb, fun hbt a ha => ?_, fun hbf => hx ex r1 om1 F1 H1 st1 cls d R1 ⟨ec, he2⟩ ?_⟩
  · rw [if_pos hbt] at hw
    obtain ⟨hl, hw⟩ := hw
    obtain ⟨s2, R2⟩ := R1.alloc (o := EOx a cls d) ha
    have rp : Rep X.K (upd F1 a (EOx a cls d)) (.ref a) (exD ex) := by
      unfold exD
      cases hfs : ex.fs with
      | none =>
        rw [hfs] at he2
        have he3 : d = none := he2
        subst he3
        exact .exc0 (by rw [upd_same, ec])
      | some fs =>
        rw [hfs] at he2
        obtain ⟨dd, xs, e1, e2, e3⟩ := he2
        subst e1
        exact .exc1 (by rw [upd_same, ec]) (s2 _ _ e2) (e3.mono s2)
    have R3 := R2.put (i := i) (y := .ref a) (x := .v (exD ex)) rp (fun j z => nomatch z) hl
    exact (hsu a []).s B _ om1 _ _ _ _ (endTry i e) R3 (fun _ _ _ _ _ _ _ _ _ _ z => z.elim) ⟨fun r om F H st R q => hE.nx _ _ _ _ _ (R.clear i) q, hE.rt, fun r om F H st R q => hE.bk _ _ _ _ _ (R.clear i) q, fun r om F H st R q => hE.ct _ _ _ _ _ (R.clear i) q⟩ hw
  · rw [hbf] at hw; exact hw
end
end DL

set_option Elab.async false
set_option linter.all false
set_option maxRecDepth 100000
namespace DL
open PySem L2 PyProof.Rows
section
variable {X : Cx} {K : PySem.W.Frag} {F H : Hp} {W : WX} {pos : Pos}
structure ExcI (K : PySem.W.Frag) (C : Addr) : Prop where
  cl : (PySem.W.clsIn K C).isSome = true
  ga : PySem.W.findIn K (.ref C) "__getattribute__" = some (some (.builtin "BaseException.__getattribute__"))
  gg : PySem.W.findIn K (.ref C) "__getattr__" = some none
  sb : PySem.W.subIn K (.ref C) (.type "BaseException") = some true
  hd : PySem.W.hasDictIn K C = true
  ca : PySem.W.findIn K (.ref C) "__class__" = some (some (.builtin "object.__class__"))
  cg : PySem.W.specialIn K (.builtin "object.__class__") "__get__" = some (some (.builtin "getset_descriptor.__get__"))
  tk : PySem.W.takesIn K (.builtin "object.__class__") = some true
  mo : PySem.W.mroIn K C (.type "object") = some true
def excI (K : PySem.W.Frag) (C : Addr) : Bool := (PySem.W.clsIn K C).isSome && (decide (PySem.W.findIn K (.ref C) "__getattribute__" = some (some (.builtin "BaseException.__getattribute__"))) && (decide (PySem.W.findIn K (.ref C) "__getattr__" = some none) &&
  (decide (PySem.W.subIn K (.ref C) (.type "BaseException") = some true) && (PySem.W.hasDictIn K C && (decide (PySem.W.findIn K (.ref C) "__class__" = some (some (.builtin "object.__class__"))) && (decide (PySem.W.specialIn K (.builtin "object.__class__") "__get__" = some (some (.builtin "getset_descriptor.__get__"))) &&
  (decide (PySem.W.takesIn K (.builtin "object.__class__") = some true) && decide (PySem.W.mroIn K C (.type "object") = some true))))))))
theorem excI_ok {C : Addr} (h : excI K C = true) : ExcI K C := by
  simp only [excI, Bool.and_eq_true, decide_eq_true_eq] at h
  obtain ⟨h1, h2, h3, h4, h5, h6, h7, h8, h9⟩ := h
  exact ⟨h1, h2, h3, h4, h5, h6, h7, h8, h9⟩
theorem ExcI.xf {C : Addr} (h : ExcI K C) : XfC K C := ⟨h.ga, h.gg, h.sb, h.hd⟩
def XdAt (H : Hp) (d : Option Addr) : Prop := d = none ∨ ∃ dd fs, d = some dd ∧ H dd = some (.xd fs)
theorem kit_ex {pins : List (Addr × Obj)} {σ : L2.St} {s : Shared} {a C : Addr} {d : Option Addr} (I : Inv X pins σ H s) (T : ExcI X.K C) (ha : H a = some (EOx a (.ref C) d)) (hx : XdAt H d) :
    ∃ P : Heap → Prop, PySem.W.KitX X.K (.ref a) (.ref C) P ∧ P s.heap := by
  obtain ⟨⟨oe, vs, hget, hz, hv⟩, _, _⟩ := (show ObjOk X.prog X.w H s.heap a (EOx a (.ref C) d) from I.hok a _ ha)
  have hnc : PySem.W.notCls oe = true := by unfold PySem.W.notCls; rw [hv] <;> rfl
  rcases hx with rfl | ⟨dd, fs, rfl, hd⟩
  · exact ⟨_, PySem.W.kitx_exc (gt := none) (ox := oe) (od := none) T.cl T.ga T.gg T.sb T.ca T.cg T.tk T.mo, ⟨hget, hz.1, hnc, by rw [hz.2]; trivial⟩⟩
  · obtain ⟨mA, hns, hr⟩ := (show ObjOk X.prog X.w H s.heap dd (.xd fs) from I.hok dd _ hd)
    obtain ⟨od, ho, hl⟩ := lookIn_ns hns
    exact ⟨_, PySem.W.kitx_exc (gt := none) (ox := oe) (od := some od) T.cl T.ga T.gg T.sb T.ca T.cg T.tk T.mo, ⟨hget, hz.1, hnc, by rw [hz.2]; exact ho⟩⟩
def rIsX (K : PySem.W.Frag) : List V → Hp → VK → Prop := fun xs H Q => ∃ (a C : Addr) (d : Option Addr) (c : V) (u : Value) (b : Bool), xs = [.ref a, c] ∧ H a = some (EOx a (.ref C) d) ∧ XdAt H d ∧ ExcI K C ∧ ClsV c u ∧ PySem.W.kitOne K (.ref C) u = some b ∧ Q (.bl b) H
theorem call_isX : CallR X (.builtin "isinstance") (rIsX X.K) := by
  intro pins s σ H xs us Q I r h
  obtain ⟨a, C, d, c, u, b, rfl, ha, hx, T, k, e, q⟩ := h
  obtain ⟨u1, u2, rfl, r1, r2⟩ := vals2 r
  cases (show u1 = Value.ref a from r1)
  have e2 := k.eq r2
  subst e2
  obtain ⟨P, Z, p⟩ := kit_ex I T ha hx
  exact PySem.W.kia_one Z I.kIn p e (fun z => nomatch z) fun tk => ⟨.bl b, H, I.tok tk, rfl, q⟩
def rIsXT (K : PySem.W.Frag) : List V → Hp → VK → Prop := fun xs H Q => ∃ (a C : Addr) (d : Option Addr) (tp : Addr) (cs : List V) (us : List Value) (b : Bool), xs = [.ref a, .ref tp] ∧ H a = some (EOx a (.ref C) d) ∧ XdAt H d ∧ ExcI K C ∧ SqT K H tp cs ∧ Paired ClsV cs us ∧ PySem.W.kitAny K (.ref C) us = some b ∧ Q (.bl b) H
structure ExTab (K : PySem.W.Frag) (tab : Str → D → Option Bool) : Prop where
  i : ∀ c x b, tab c x = some b → ExcI K (He.ga K c)
  o : ∀ c x b, tab c (.fn x) = some b → PySem.W.kitOne K (.ref (He.ga K c)) (.ref (He.ga K x)) = some b
  t : ∀ c n b, tab c (.raw (.ty n)) = some b → PySem.W.kitOne K (.ref (He.ga K c)) (.type n) = some b
def pIsX (tab : Str → D → Option Bool) : PN := fun ds k => match ds with
  | [.exc c _ _, .fn x] => wd (tab c (.fn x)) fun b => k (.v (.bl b))
  | [.exc c _ _, .raw (.ty n)] => wd (tab c (.raw (.ty n))) fun b => k (.v (.bl b))
  | _ => False
theorem RepB.excS {y : V} {c : Str} {ns : List Str} {vs : List D} (s : Same F H) (h : RepB K F H y (.exc c ns vs)) : ∃ a d, y = .ref a ∧ H a = some (EOx a (.ref (He.ga K c)) d) ∧ XdAt H d := by
  rcases h with h | ⟨a, xs, es, e1, e2, h1, h2⟩
  · cases h with
    | exc0 q => exact ⟨_, none, rfl, s _ _ q, .inl rfl⟩
    | exc1 q q' r => exact ⟨_, _, rfl, s _ _ q, .inr ⟨_, _, rfl, s _ _ q'⟩⟩
  · cases e2
theorem RepB.fnS {y : V} {x : Str} (h : RepB K F H y (.fn x)) : y = .ref (He.ga K x) := by
  rcases h with h | ⟨a, xs, es, e1, e2, h1, h2⟩
  · cases h; rfl
  · cases e2
theorem n_isX {tab : Str → D → Option Bool} (T : ExTab X.K tab) : ON X (.builtin "isinstance") (rIsX X.K) (pIsX tab) := ⟨call_isX, fun F H xs ds c Q s r hp hQ => by
  unfold pIsX at hp
  split at hp
  · next c' ns vs x =>
    obtain ⟨b, e1, hp⟩ := wd_iff hp
    obtain ⟨y, z, rfl, r1, r2⟩ := repBs2 r
    obtain rfl := r2.fnS
    obtain ⟨a, d, rfl, ha, hx⟩ := r1.excS s
    exact ⟨a, _, d, _, _, b, rfl, ha, hx, T.i _ _ _ e1, .own _, T.o _ _ _ e1, vres s (.bl _) hp hQ⟩
  · next c' ns vs n =>
    obtain ⟨b, e1, hp⟩ := wd_iff hp
    obtain ⟨y, z, rfl, r1, r2⟩ := repBs2 r
    obtain rfl := r2.rawS
    obtain ⟨a, d, rfl, ha, hx⟩ := r1.excS s
    exact ⟨a, _, d, _, _, b, rfl, ha, hx, T.i _ _ _ e1, .ty n, T.t _ _ _ e1, vres s (.bl _) hp hQ⟩
  · exact hp.elim⟩
def clsTab (tab : Str → D → Option Bool) (c : Str) (d : D) : Option Bool := match d with
  | .fn x => tab c (.fn x)
  | .raw (.ty n) => tab c (.raw (.ty n))
  | _ => none
def anyTab (tab : Str → D → Option Bool) (c : Str) : List D → Option Bool
  | [] => some false
  | d :: ds => match clsTab tab c d, anyTab tab c ds with
    | some true, some _ => some true
    | some false, some b => some b
    | _, _ => none
def pIsXT (tab : Str → D → Option Bool) : PN := fun ds k => match ds with
  | [.exc c _ _, .tup (e :: es)] => wd (clsTab tab c e) fun _ => wd (anyTab tab c (e :: es)) fun b => k (.v (.bl b))
  | _ => False
def tXfT (K : PySem.W.Frag) (n : Str) (te : TE) : TE := fun σ H Q => te σ H fun x H1 => ∃ (a C dd : Addr) (fs : List (Str × V)) (v : V), x = .ref a ∧ H1 a = some (EOx a (.ref C) (some dd)) ∧ H1 dd = some (.xd fs) ∧ XfC K C ∧ PySem.W.findIn K (.ref C) n = some none ∧ fs.lookup n = some v ∧ Q v H1
structure FlTab (K : PySem.W.Frag) (fld : Str → Str → Bool) : Prop where
  f : ∀ c n, fld c n = true → XfC K (He.ga K c) ∧ PySem.W.findIn K (.ref (He.ga K c)) n = some none
def lookD (n : Str) : List Str → List D → Option D
  | m :: ms, d :: ds => if n == m then some d else lookD n ms ds
  | _, _ => none
def wXf (fld : Str → Str → Bool) (n : Str) (we : WE) : WE := fun xq r om k => we xq r om fun x r1 om1 => match x with
  | .v (.exc c ns vs) => fld c n = true ∧ wd (lookD n ns vs) fun d => k (.v d) r1 om1
  | _ => False
theorem n_isX' {tab : Str → D → Option Bool} {K' : PySem.W.Frag} (T : ExTab K' tab) (hK : X.K = K' := by rfl) : ON X (.builtin "isinstance") (rIsX K') (pIsX tab) := by
  subst hK; exact n_isX T
theorem de_fn {x : Str} (g : X.mg x = some (.ref (He.ga X.K x))) (hg : Gl X x := by rfl) (hd : (x == ("__debug__" : Str)) = false := by decide) {K' : PySem.W.Frag} (hK : X.K = K' := by rfl) : DE X W (.Name x pos) (tC (.ref (He.ga K' x))) (wC (.fn x)) := by
  subst hK
  exact ⟨pe_glob hg g rfl hd, se_c fun _ => .fn x⟩
def tCallT (K : PySem.W.Frag) (i : Nat) (x : Str) (sp : Sp) (E : L2.St → XK) (t : TA) : TE := fun σ H Q => σ[i]? = some (some (.ref (He.ga K x))) ∧ t σ H fun vs H1 => sp vs H1 Q (E σ)
abbrev FTab := List (Str × Con)
def wCallT (l : FTab) (i : Nat) (wa : WA) : WE := fun xq r om k => match r[i]? with
  | some (some (.v (.fn x))) => wd (l.lookup x) fun c => wa xq r om fun xs r1 om1 => wd (datsE xs) fun ds => c.df ds om1 (fun x om' => k x r1 om') (fun ex om' => xq ex r1 om')
  | _ => False
theorem lookup_mem {α β : Type} [BEq α] [LawfulBEq α] {a : α} {b : β} : ∀ {l : List (α × β)}, l.lookup a = some b → (a, b) ∈ l
  | [], h => by cases h
  | (c, d) :: l, h => by
    simp only [List.lookup] at h
    by_cases hc : (a == c) = true
    · rw [hc] at h; cases h; rw [eq_of_beq hc]; exact List.mem_cons_self
    · have hc' : (a == c) = false := by simpa using hc
      rw [hc'] at h; exact List.mem_cons_of_mem _ (lookup_mem h)
end
end DL

set_option Elab.async false
set_option linter.all false
set_option maxRecDepth 100000
namespace DL
open PySem L2 PyProof.Rows PySem.Spec
section
variable {X : Cx} {K : PySem.W.Frag} {F H : Hp} {W : WX} {pos : Pos}
def wRaiseA (x : Str) (wa : WA) : WS := fun e r om => wa e.xq r om fun xs r1 om1 => xs.length ≤ sizeLine ∧ e.xq ⟨x, none⟩ r1 om1
def pStr : PN := fun ds c => match ds with
  | [.int i] => i.natAbs.log2 < 1920 ∧ c (.v (.str (toString i)))
  | [.str a] => c (.v (.str a))
  | _ => False
def wDic0 : WE := fun _ r om k => k (.v (.dct [] [])) r om
end
structure XS where
  cs : List (Str × Option (List Str))
  own : List Str
  blt : List (String × Bool)
def isSub (c x : Str) : Bool := decide (x = c) || decide (x = "SpillError")
def XS.tab (S : XS) (c : Str) (d : D) : Option Bool := if (S.cs.lookup c).isSome then (match d with
  | .fn x => if S.own.contains x then some (isSub c x) else none
  | .raw (.ty n) => S.blt.lookup n
  | _ => none) else none
def XS.fld (S : XS) (c n : Str) : Bool := match S.cs.lookup c with
  | some (some fs) => fs.contains n
  | _ => false
def XS.sub (S : XS) (x c : Str) : Option Bool := if (S.cs.lookup c).isSome then some (isSub c x) else none
def xOne (K : PySem.W.Frag) (S : XS) (p : Str × Option (List Str)) : Bool := excI K (He.ga K p.1) && ((S.own.all fun x => decide (PySem.W.kitOne K (.ref (He.ga K p.1)) (.ref (He.ga K x)) = some (isSub p.1 x)) && decide (PySem.W.exmOne K (.ref (He.ga K p.1)) (.ref (He.ga K x)) = some (isSub p.1 x))) &&
  ((S.blt.all fun q => decide (PySem.W.kitOne K (.ref (He.ga K p.1)) (.type q.1) = some q.2)) && match p.2 with
  | none => true
  | some fs => fs.all fun f => decide (PySem.W.findIn K (.ref (He.ga K p.1)) f = some none)))
def xAll (S : XS) (K : PySem.W.Frag) : Bool := S.cs.all fun p => xOne K S p
section
variable {K : PySem.W.Frag} {S : XS}
theorem lookup_mem2 {α β : Type} [BEq α] [LawfulBEq α] {a : α} {l : List (α × β)} (h : (l.lookup a).isSome = true) : ∃ b, (a, b) ∈ l := by
  obtain ⟨b, e⟩ := Option.isSome_iff_exists.mp h
  exact ⟨b, lookup_mem e⟩
theorem xTab_ok (h : xAll S K = true) : ExTab K S.tab := by
  have key : ∀ {c : Str}, (S.cs.lookup c).isSome = true → ∃ fs, xOne K S (c, fs) = true := fun {c} hc => by
    obtain ⟨fs, m⟩ := lookup_mem2 hc
    exact ⟨fs, List.all_eq_true.mp h _ m⟩
  refine ⟨fun c d b e => ?_, fun c x b e => ?_, fun c n b e => ?_⟩
  · unfold XS.tab at e
    split at e
    · next hc =>
      obtain ⟨fs, q⟩ := key hc
      simp only [xOne, Bool.and_eq_true] at q
      exact excI_ok q.1
    · cases e
  · unfold XS.tab at e
    split at e
    · next hc =>
      obtain ⟨fs, q⟩ := key hc
      simp only [xOne, Bool.and_eq_true] at q
      simp only at e
      split at e
      · next hx =>
        cases e
        have := List.all_eq_true.mp q.2.1 x (List.contains_iff_mem.mp hx)
        simp only [Bool.and_eq_true, decide_eq_true_eq] at this
        exact this.1
      · cases e
    · cases e
  · unfold XS.tab at e
    split at e
    · next hc =>
      obtain ⟨fs, q⟩ := key hc
      simp only [xOne, Bool.and_eq_true] at q
      have := List.all_eq_true.mp q.2.2.1 _ (lookup_mem (show S.blt.lookup n = some b from e))
      simpa using this
    · cases e
theorem xFl_ok (h : xAll S K = true) : FlTab K S.fld := ⟨fun c n e => by
  unfold XS.fld at e
  split at e
  · next fs hc =>
    have q := List.all_eq_true.mp h _ (lookup_mem hc)
    simp only [xOne, Bool.and_eq_true] at q
    have := List.all_eq_true.mp q.2.2.2 n (List.contains_iff_mem.mp e)
    exact ⟨(excI_ok q.1).xf, by simpa using this⟩
  · cases e⟩
theorem xSub_ok (h : xAll S K = true) {x : Str} (hx : S.own.contains x = true) : ∀ c b, S.sub x c = some b → PySem.W.exmOne K (.ref (He.ga K c)) (.ref (He.ga K x)) = some b := fun c b e => by
  unfold XS.sub at e
  split at e
  · next hc =>
    cases e
    obtain ⟨fs, m⟩ := lookup_mem2 hc
    have q := List.all_eq_true.mp h _ m
    simp only [xOne, Bool.and_eq_true] at q
    have := List.all_eq_true.mp q.2.1 x (List.contains_iff_mem.mp hx)
    simp only [Bool.and_eq_true, decide_eq_true_eq] at this
    exact this.2
  · cases e
end
def oexB (K : PySem.W.Frag) (C : Addr) : Bool := (match K.lookup C with
  | some ⟨.type "type", _, .cls cd, sl⟩ => (match cd.mro, sl.toList with
    | .ref C' :: bm, [_, _, _, _, some (.builtin n), _] => C' == C && n == "ValueError.__new__" && !cd.hasDel && cd.hasDict && PySem.HandSPX.refsVE bm
    | _, _ => false)
  | _ => false) && (decide (PySem.W.findIn K (.ref C) "__setattr__" = some (some (.builtin "object.__setattr__"))) && (decide (PySem.W.subIn K (.ref C) (.type "BaseException") = some true) && (decide (PySem.W.typeIn K (.ref C) = some (.type "type")) && PySem.W.keepIn K (.ref C))))
def initB (K : PySem.W.Frag) (x : Str) : Bool := oexB K (He.ga K x) && (decide (PySem.W.findIn K (.ref (He.ga K x)) "__init__" = some (some (.ref (He.fAd K (x, some "__init__"))))) && decide (PySem.W.typeIn K (.ref (He.fAd K (x, some "__init__"))) = some (.type "function")))
def clsAt (s : Stmt) (i : Nat) : Stmt := match s with
  | .ClassDef _ _ _ b _ _ _ _ _ _ _ => b.getD i (.Pass ⟨0, 0, 0, 0⟩)
  | _ => .Pass ⟨0, 0, 0, 0⟩
def obsYG (n : Nat) (fa : List He.Fa) (fn : List He.DefD) (ex : PySem.W.Frag → Bool) (g : Addr → Option Obj) : He.AlD × Bool := (He.obsDG n fa fn g, ex (He.frG g (He.asD g n)))
def hookY (n : Nat) (fa : List He.Fa) (fn : List He.DefD) (ex : PySem.W.Frag → Bool) : PySem.W.Hook where
  α := He.AlD × Bool
  obs := fun s => obsYG n fa fn ex s.heap.get?
  val := fun _ => (He.valD fn, true)
  says := fun _ h => ∃ K : PySem.W.Frag, K.In h ∧ He.SaysD fa fn K ∧ ex K = true
  of := fun _ _ e => ⟨_, He.frG_in, congrArg Prod.fst e, congrArg Prod.snd e⟩
  keeps := fun _ _ _ ⟨K, hK, c⟩ k => ⟨K, PySem.W.Frag.In.keeps hK k, c⟩
theorem obsYG_eq {n : Nat} {fa : List He.Fa} {fn : List He.DefD} {ex : PySem.W.Frag → Bool} {g : Addr → Option Obj} {s : Shared} (h : ∀ a, g a = s.heap.get? a) : obsYG n fa fn ex g = (hookY n fa fn ex).obs s := by
  have e : g = s.heap.get? := funext h
  rw [e] <;> rfl
end DL

set_option Elab.async false
set_option linter.all false
set_option maxRecDepth 100000
namespace DL
open PySem L2 PyProof.Rows PySem.Spec
section
variable {X : Cx} {K : PySem.W.Frag} {F H : Hp} {W : WX} {pos : Pos} {tg : Expr}
def iAny (K : PySem.W.Frag) (tl : TE) : TI := fun σ H R => tl σ H fun x H1 => (∃ a, x = .ref a ∧ (∃ xs, SqL K H1 a xs) ∧ R (Itl K a) H1) ∨ (∃ a, x = .ref a ∧ (∃ xs, SqT K H1 a xs) ∧ R (Itt K a) H1)
theorem pi_any {l : Expr} {tl : TE} (hl : PE X l tl) : PI X tg l (iAny X.K tl) := by
  refine ⟨fun pins s σ H R I h => ?_⟩
  refine thn (hl.run pins s σ H _ I h) fun v s1 ⟨x, H1, I1, r1, q1⟩ => ?_
  rcases q1 with ⟨a, e, ⟨xs, hq⟩, q⟩ | ⟨a, e, ⟨xs, hq⟩, q⟩
  · subst e
    cases r1
    obtain ⟨its, rv, p, hz⟩ := I1.list hq
    refine wpAny_pyIter_list p.isList ?_
    refine ⟨s1.heap.objs.size, [s1.heap.objs.size], _, _, H1, rfl, I1.kept (t' := s1.toks) fun b o e => Heap.get?_push_of_some _ e, turn_list a _, ⟨_, Heap.get?_push_size _ rfl, rfl, rfl⟩, fun b hb => ?_, q⟩
    have e : b = s1.heap.objs.size := by simpa using hb
    subst e
    exact I1.fpOk (Nat.le_refl _) (I1.hok.fresh (Nat.le_refl _))
  · subst e
    cases r1
    obtain ⟨its, rv, p, hz⟩ := I1.tuple hq
    refine wpAny_pyIter_tuple (show s1.heap.IsTuple a its.toArray from p) ?_
    refine ⟨s1.heap.objs.size, [s1.heap.objs.size], _, _, H1, rfl, I1.kept (t' := s1.toks) fun b o e => Heap.get?_push_of_some _ e, turn_tuple a _, ⟨_, Heap.get?_push_size _ rfl, rfl, rfl⟩, fun b hb => ?_, q⟩
    have e : b = s1.heap.objs.size := by simpa using hb
    subst e
    exact I1.fpOk (Nat.le_refl _) (I1.hok.fresh (Nat.le_refl _))
def wiA (w : WE) : WI := fun xq r om k => w xq r om fun x r1 om1 => match fz x with
  | .v (.lst ds) => k ds r1 om1
  | .v (.frl ds) => k ds r1 om1
  | .v (.tup ds) => k ds r1 om1
  | _ => False
theorem si_any {ta : TE} {wa : WE} (ha : SE K W ta wa) : SI K W (iAny K ta) (wiA wa) := by
  intro B F om H st r xq k Q R hx hQ hw
  refine ha B F om H st r xq _ _ R hx (fun x r1 om1 F1 H1 y R1 s1 k1 q1 hw => ?_) hw
  obtain ⟨F2, s2, R2, q2⟩ := R1.fz q1
  cases hz : fz x with
  | v d =>
    rw [hz] at hw q2
    cases d with
    | lst ds =>
      cases q2 with
      | lst q rr => exact .inl ⟨_, rfl, ⟨_, SqL.of (R2.rh.sub _ _ q)⟩, hQ _ _ _ _ _ _ R2 (s1.trans s2) k1 (itok_list (SqL.of q) rr) hw⟩
    | frl ds =>
      cases q2 with
      | frl q rr => exact .inl ⟨_, rfl, ⟨_, R2.rh.sub.seq q⟩, hQ _ _ _ _ _ _ R2 (s1.trans s2) k1 (itok_list q rr) hw⟩
    | tup ds =>
      cases q2 with
      | tup q rr => exact .inr ⟨_, rfl, ⟨_, same_sqT R2.rh.sub q⟩, hQ _ _ _ _ _ _ R2 (s1.trans s2) k1 (itok_tup q rr) hw⟩
    | _ => exact hw.elim
  | o ds => rw [hz] at hw; exact hw.elim
  | b i => rw [hz] at hw; exact hw.elim
theorem di_any {l : Expr} {t : TE} {w : WE} (h : DE X W l t w) {K' : PySem.W.Frag} (hK : X.K = K' := by rfl) : DI X W tg l (iAny K' t) (wiA w) := by
  subst hK
  exact ⟨pi_any h.p, si_any h.s⟩
end
theorem wd_pick {ds : List D} {z : Int} {k : D → Prop} (h0 : 0 ≤ z) (h1 : z < (ds.length : Int)) (h : ∀ d ∈ ds, k d) : wd (atI ds z) k := by
  obtain ⟨d, hd, e⟩ := atI_in h0 h1
  rw [e]; exact h d hd
theorem sz_big : 100000 ≤ sizeLine := by decide
theorem sz_le {n : Nat} (h : n ≤ 100000) : n ≤ sizeLine := Nat.le_trans h sz_big
end DL

set_option Elab.async false
set_option linter.all false
set_option maxRecDepth 100000
namespace DL
open PySem L2
inductive Tg {α : Type} (x : α) : Type where
  | mk : Tg x
def wdK {α : Type} (o : Option α) (k : α → Prop) (_ : Tg k := .mk) : Prop := wd o k
theorem wd_q {α : Type} {o : Option α} {k : α → Prop} : wd o k = wdK o k := rfl
theorem wdK_some {α : Type} {a : α} {k : α → Prop} {t : Tg k} : wdK (some a) k t = k a := rfl
def cnd (c : Bool) (a b : Prop) (_ : Tg (a, b) := .mk) : Prop := if c = true then a else b
section
variable {c c' : Bool} {a b : Prop} {t : Tg (a, b)}
theorem cnd_t : cnd true a b t = a := rfl
theorem cnd_f : cnd false a b t = b := rfl
theorem cnd_of (h1 : c = true → a) (h2 : c = false → b) : cnd c a b t := by
  cases c with
  | true => exact h1 rfl
  | false => exact h2 rfl
theorem cnd_dec {p : Prop} [Decidable p] (h1 : p → a) (h2 : ¬ p → b) : cnd (decide p) a b t := cnd_of (fun h => h1 (of_decide_eq_true h)) fun h => h2 (of_decide_eq_false h)
theorem cnd_yes {p : Prop} [Decidable p] (h : p) (h1 : a) : cnd (decide p) a b t := by rw [decide_eq_true h]; exact h1
theorem cnd_no {p : Prop} [Decidable p] (h : ¬ p) (h1 : b) : cnd (decide p) a b t := by rw [decide_eq_false h]; exact h1
theorem cnd_T (h : c = true) (h1 : a) : cnd c a b t := by rw [h]; exact h1
theorem cnd_F (h : c = false) (h1 : b) : cnd c a b t := by rw [h]; exact h1
theorem cnd_not : cnd (!c) a b t = cnd c b a := by cases c <;> rfl
end
def lcK (g : GT) (wt : WT) (we : WE) (vs : List Nat) (l acc : List D) (r : DL.Env) (om : Om) (fin : List D → DL.Env → Om → Prop) (_ : Tg (g, wt, we, fin) := .mk) : Prop := lcGo g wt we vs l acc r om fin
def loopK (step : D → (DL.Env → Om → Prop) → DL.Env → Om → Prop) (l : List D) (fin : DL.Env → Om → Prop) (r : DL.Env) (om : Om) (_ : Tg (step, fin) := .mk) : Prop := loop step l fin r om
def callK (df : DF) (ds : List D) (om : Om) (k : RV → Om → Prop) (xk : Exn → Om → Prop) (_ : Tg (df, k, xk) := .mk) : Prop := df ds om k xk
theorem wLc_q {wi : WI} {g : GT} {wt : WT} {we : WE} {vs : List Nat} {xq : DX} {r : DL.Env} {om : Om} {k : RV → DL.Env → Om → Prop} : wLc wi g wt we vs xq r om k = wi xq r om fun items r1 om1 => lcK g wt we vs items [] (wipeE r1 vs) om1 fun acc r2 om2 => k (.o acc) r2 om2 := rfl
theorem wCall_q {df : DF} {dds : List D} {wa : WA} {xq : DX} {r : DL.Env} {om : Om} {k : RV → DL.Env → Om → Prop} : wCall df dds wa xq r om k = wa xq r om fun xs r1 om1 => wd (datsE xs) fun ds => callK df (ds ++ dds) om1 (fun x om' => k x r1 om') (fun ex om' => xq ex r1 om') := rfl
def rdB (o : Option (Option RV)) (i : Nat) (r : DL.Env) (om : Om) (k : RV → DL.Env → Om → Prop) (_ : Tg k := .mk) : Prop := match o with
  | some (some (.v d)) => k (.v d) r om
  | some (some (.o _)) => k (.b i) r om
  | _ => False
def rdV (o : Option (Option RV)) (i : Nat) (r : DL.Env) (om : Om) (k : RV → DL.Env → Om → Prop) (_ : Tg k := .mk) : Prop := match o with
  | some (some (.v d)) => k (.v d) r om
  | some (some (.o ds)) => k (.v (.lst ds)) (r.set i (some (.v (.lst ds)))) om
  | _ => False
def rdM (o : Option (Option RV)) (r : DL.Env) (om : Om) (k : RV → DL.Env → Om → Prop) (_ : Tg k := .mk) : Prop := match o with
  | some (some (.v d)) => k (.v d) r om
  | some (some (.o ds)) => k (.o ds) r om
  | _ => False
def rdEh (o : Option Ob) (a : Addr) (p : (List D → (List D → D → Prop) → Prop)) (r : DL.Env) (om : Om) (k : RV → DL.Env → Om → Prop) (_ : Tg (p, k) := .mk) : Prop := match o with
  | some (.lst ds) => p ds fun ds' z => k (.v z) r (oset om a (.lst ds'))
  | _ => False
def rdE (o : Option (Option RV)) (i : Nat) (p : (List D → (List D → D → Prop) → Prop)) (r : DL.Env) (om : Om) (k : RV → DL.Env → Om → Prop) (_ : Tg (p, k) := .mk) : Prop := match o with
  | some (some (.o ds)) => p ds fun ds' z => k (.v z) (r.set i (some (.o ds'))) om
  | some (some (.v (.h a))) => rdEh (om a) a p r om k
  | _ => False
def rdT (o : Option (Option RV)) (l : FTab) (wa : WA) (xq : DX) (r : DL.Env) (om : Om) (k : RV → DL.Env → Om → Prop) (_ : Tg (wa, xq, k) := .mk) : Prop := match o with
  | some (some (.v (.fn x))) => wd (l.lookup x) fun c => wa xq r om fun xs r1 om1 => wd (datsE xs) fun ds => callK c.df ds om1 (fun x om' => k x r1 om') (fun ex om' => xq ex r1 om')
  | _ => False
def rdI (x : RV) (r : DL.Env) (om : Om) (k : List D → DL.Env → Om → Prop) (_ : Tg k := .mk) : Prop := match x with
  | .v (.lst ds) => k ds r om
  | .v (.frl ds) => k ds r om
  | .v (.tup ds) => k ds r om
  | _ => False
section
variable {o o' : Option (Option RV)} {i : Nat} {r : DL.Env} {om : Om} {k : RV → DL.Env → Om → Prop} {kl : List D → DL.Env → Om → Prop} {d : D} {ds : List D} {p : (List D → (List D → D → Prop) → Prop)} {xq : DX} {a : Addr} {l : FTab} {wa : WA} {x : RV} {e : DEnds}
theorem rdB_v {t : Tg k} : rdB (some (some (.v d))) i r om k t = k (.v d) r om := rfl
theorem rdB_o {t : Tg k} : rdB (some (some (.o ds))) i r om k t = k (.b i) r om := rfl
theorem rdV_v {t : Tg k} : rdV (some (some (.v d))) i r om k t = k (.v d) r om := rfl
theorem rdM_v {t : Tg k} : rdM (some (some (.v d))) r om k t = k (.v d) r om := rfl
theorem rdM_o {t : Tg k} : rdM (some (some (.o ds))) r om k t = k (.o ds) r om := rfl
theorem rdE_o {t : Tg (p, k)} : rdE (some (some (.o ds))) i p r om k t = p ds fun ds' z => k (.v z) (r.set i (some (.o ds'))) om := rfl
theorem rdE_h {t : Tg (p, k)} : rdE (some (some (.v (.h a)))) i p r om k t = rdEh (om a) a p r om k := rfl
theorem rdEh_l {t : Tg (p, k)} : rdEh (some (.lst ds)) a p r om k t = p ds fun ds' z => k (.v z) r (oset om a (.lst ds')) := rfl
theorem rdI_l {t : Tg kl} : rdI (.v (.lst ds)) r om kl t = kl ds r om := rfl
theorem rdI_t {t : Tg kl} : rdI (.v (.tup ds)) r om kl t = kl ds r om := rfl
theorem wVar_q : wVar i xq r om k = rdV r[i]? i r om k := rfl
theorem wBor_q : wBor i xq r om k = rdB r[i]? i r om k := rfl
theorem wMov_q : wMov i xq r om k = rdM r[i]? r om k := rfl
theorem wMutE_q : wMutE i p r om k = rdE r[i]? i p r om k := by
  unfold wMutE
  generalize r[i]? = o
  rcases o with _ | _ | x
  · rfl
  · rfl
  · cases x with
    | v d => cases d <;> rfl
    | o ds => rfl
    | b j => rfl
theorem wiA_q {w : WE} : wiA w xq r om kl = w xq r om fun x r1 om1 => rdI (fz x) r1 om1 kl := rfl
theorem wAnd_q {wa wb : WT} {k : Bool → DL.Env → Om → Prop} : wAnd wa wb xq r om k = wa xq r om fun b r1 om1 => cnd b (wb xq r1 om1 k) (k false r1 om1) := rfl
theorem wOr_q {wa wb : WT} {k : Bool → DL.Env → Om → Prop} : wOr wa wb xq r om k = wa xq r om fun b r1 om1 => cnd b (k true r1 om1) (wb xq r1 om1 k) := rfl
theorem wAndV_q {wa wb : WE} : wAndV wa wb xq r om k = wa xq r om fun x r1 om1 => wd (datB r1 om1 x) fun d => wd (boolD d) fun b => cnd b (wb xq r1 om1 k) (k (.v (.bl false)) r1 om1) := rfl
end
section
variable {X : Cx} {K : PySem.W.Frag} {W : WX} {pos : Pos}
def wFz (we : WE) : WE := fun xq r om k => we xq r om fun x r1 om1 => k (fz x) r1 om1
theorem se_fz {te : TE} {we : WE} (he : SE K W te we) : SE K W te (wFz we) := by
  intro B F om H st r xq k Q R hx hQ hw
  refine he B F om H st r xq _ _ R hx (fun x r1 om1 F1 H1 y R1 s1 k1 q1 hw => ?_) hw
  obtain ⟨F2, s2, R2, q2⟩ := R1.fz q1
  exact hQ _ _ _ _ _ _ R2 (s1.trans s2) k1 q2 hw
theorem de_fz {e : Expr} {te : TE} {we : WE} (he : DE X W e te we) : DE X W e te (wFz we) := ⟨he.p, se_fz he.s⟩
theorem ds_setLcF (i : Nat) {y : Str} {py spos : Pos} {elt tg iter : Expr} {ifs : List Expr} {scope : Scope} {own : List (Str × Nat)} {ti : TI} {wi : WI} {g : TG} {gw : GT} {tt : TT} {wt : WT} {te : TE} {we : WE} (hc : X.calm = true) (hN : X.N.Nodup) (hi : DI X W tg iter ti wi) (ok : blkC X.N X.env.scope scope own = true)
    (hg : ∀ (s : Shared) (H : Hp) (C : Addr) (cl : List (Str × Addr)) (fp : List Addr), DGv (X.blk s H scope (PySem.compEnvC scope cl C X.env) fp) (own.map (·.2)) tg g gw)
    (ht : ∀ (s : Shared) (H : Hp) (C : Addr) (cl : List (Str × Addr)) (fp : List Addr), DTs (X.blk s H scope (PySem.compEnvC scope cl C X.env) fp) W0 ifs tt wt)
    (he : ∀ (s : Shared) (H : Hp) (C : Addr) (cl : List (Str × Addr)) (fp : List Addr), DE (X.blk s H scope (PySem.compEnvC scope cl C X.env) fp) W0 elt te we) (s0 : Shared)
    (hsw : swapsWith (.ListComp elt [⟨tg, iter, ifs, 0⟩] scope pos) (some (.Name y py)) spos.line X.env = pure true) (hy : X.N[i]? = some y := by rfl) (hyl : X.env.scope.names.lookup y = some .local := by rfl) (hs : ∀ x, foldedSetIterable iter X.env x = pure x := by intro _; rfl) :
    DS X W (.Assign [.Name y py] (.ListComp elt [⟨tg, iter, ifs, 0⟩] scope pos) spos) (tAsg (tLc ti g tt te (own.map (·.2))) (gName i)) (wAsg (wFz (wLc wi gw wt we (own.map (·.2)))) (gN i)) :=
  ⟨ps_setLc hc hN hy hyl hsw hi.p (blkOk_by ok) (fun s H C cl fp => (hg s H C cl fp).p) (fun s H C cl fp => (ht s H C cl fp).p) (fun s H C cl fp => (he s H C cl fp).p) hs,
    ss_asg (se_fz (se_lc hi.s (hg s0 (fun _ => none) 0 [] []).s (ht s0 (fun _ => none) 0 [] []).s (he s0 (fun _ => none) 0 [] []).s)) (sg_name i)⟩
end
end DL

set_option Elab.async false
set_option linter.all false
set_option maxRecDepth 100000
namespace DL
open PySem L2 RZ
section
variable {X : Cx} {K : PySem.W.Frag} {F H : Hp} {W : WX} {pos : Pos}
theorem itok_zipT {a b : Addr} {xs ys : List V} {ds es : List D} (q1 : SqT K F a xs) (r1 : RepA K F xs ds) (q2 : SqT K F b ys) (r2 : RepA K F ys es) : ItOk K (ItzT K a b) F (zipD ds es) := by
  refine ⟨fun i F' H s s' hi => ⟨xs, ys, same_sqT s' (same_sqT s q1), same_sqT s' (same_sqT s q2), ?_⟩, fun i d F' H s s' hd => ?_⟩
  · rw [zipD_len] at hi
    rw [r1.length, r2.length]
    omega
  · obtain ⟨x, y, rfl, h1, h2⟩ := zipD_get hd
    obtain ⟨u, hu, ru⟩ := r1.getD h1
    obtain ⟨v, hv, rv⟩ := r2.getD h2
    refine ⟨⟨xs, ys, u, v, same_sqT s' (same_sqT s q1), same_sqT s' (same_sqT s q2), hu, hv⟩, fun z H' hy => ?_⟩
    obtain ⟨T, u', v', rfl, hT, rfl, e1, e2⟩ := hy
    have e3 := e1 xs (same_sqT s' (same_sqT s q1))
    have e4 := e2 ys (same_sqT s' (same_sqT s q2))
    rw [hu] at e3
    rw [hv] at e4
    cases e3
    cases e4
    exact ⟨_, Grow.alloc s' hT, ResP.newT s' hT (.cons (ru.mono s) (.cons (rv.mono s) .nil))⟩
def zipA : List RV → Option (List D)
  | [.v (.tup ds), .v (.tup es)] => some (zipD ds es)
  | [.v (.lst ds), .v (.lst es)] => some (zipD ds es)
  | [.v (.lst ds), .v (.frl es)] => some (zipD ds es)
  | [.v (.frl ds), .v (.lst es)] => some (zipD ds es)
  | [.v (.frl ds), .v (.frl es)] => some (zipD ds es)
  | _ => none
theorem zipA_t (ds es : List D) : zipA [.v (.tup ds), .v (.tup es)] = some (zipD ds es) := rfl
theorem zipA_l (ds es : List D) : zipA [.v (.lst ds), .v (.lst es)] = some (zipD ds es) := rfl
def wiZipA (wa : WA) : WI := fun xq r om k => wa xq r om fun xs r1 om1 => wd (zipA xs) fun l => k l r1 om1
theorem di_zipA {e e2 : Expr} {ta : TA} {wa : WA} {p tpos : Pos} {elts : List Expr} {kk : Nat} (hm : X.mg "zip" = none) (ha : DA X W [e, e2] ta wa) (hg : Gl X "zip" := by rfl) (hs : starEach [e, e2] X.env = (false, eval e X.env) :: starEach [e2] X.env := by rfl) (hpl : (backTo pos (starEach [e2] X.env)).any (·.1) = false := by rfl) {K' : PySem.W.Frag} (hK : X.K = K' := by rfl) :
    DI X W (.Tuple elts kk tpos) (.Call (.Name "zip" p) [e, e2] [] pos) (iZipA K' ta) (wiZipA wa) := by
  subst hK
  refine ⟨pi_zipA hg hm ha.p hs hpl, fun B F om H st r xq k Q R hx hQ hw => ?_⟩
  refine ha.s B F om H st r xq _ _ R hx (fun xs r1 om1 F1 H1 ys R1 s1 k1 q1 hw => ?_) hw
  obtain ⟨l, e1, hw1⟩ := wd_iff hw
  have key : ∀ {y z : V} {d e : D} {ds es : List D}, Rep X.K F1 y d → Rep X.K F1 z e → lstO d = some ds → lstO e = some es → l = zipD ds es → ∃ a b xs ys', [y, z] = [.ref a, .ref b] ∧ ((SqL X.K H1 a xs ∧ SqL X.K H1 b ys' ∧ Q (Itz X.K a b) H1) ∨ (SqT X.K H1 a xs ∧ SqT X.K H1 b ys' ∧ Q (ItzT X.K a b) H1)) := fun {y z d e ds es} r1' r2' e1' e2' el => by
    obtain ⟨a, xs, rfl, h1, h2⟩ := Rep.lstO r1' e1'
    obtain ⟨b, zs, rfl, h3, h4⟩ := Rep.lstO r2' e2'
    subst el
    exact ⟨a, b, xs, zs, rfl, .inl ⟨R1.rh.sub.seq h1, R1.rh.sub.seq h3, hQ _ _ _ _ _ _ R1 s1 k1 (itok_zip h1 h2 h3 h4) hw1⟩⟩
  unfold zipA at e1
  split at e1
  · next ds es =>
    cases e1
    match ys, q1 with
    | [y, z], q1 =>
      cases q1.1 with
      | tup h1 h2 =>
        cases q1.2.1 with
        | tup h3 h4 => exact ⟨_, _, _, _, rfl, .inr ⟨same_sqT R1.rh.sub h1, same_sqT R1.rh.sub h3, hQ _ _ _ _ _ _ R1 s1 k1 (itok_zipT h1 h2 h3 h4) hw1⟩⟩
    | [], q1 => exact q1.elim
    | [_], q1 => exact q1.2.elim
    | _ :: _ :: _ :: _, q1 => exact q1.2.2.elim
  all_goals first
    | (cases e1; done)
    | (cases e1
       match ys, q1 with
       | [y, z], q1 => exact key q1.1 q1.2.1 rfl rfl rfl
       | [], q1 => exact q1.elim
       | [_], q1 => exact q1.2.elim
       | _ :: _ :: _ :: _, q1 => exact q1.2.2.elim)
end
theorem deref_exc {om : Om} {c : Str} {ns : List Str} {vs : List D} : deref om (.exc c ns vs) = .exc c ns vs := rfl
theorem deref_fn {om : Om} {x : Str} : deref om (.fn x) = .fn x := rfl
theorem pIsX_f {tab : Str → D → Option Bool} {c x : Str} {ns : List Str} {vs : List D} {k : RV → Prop} : pIsX tab [.exc c ns vs, .fn x] k = wd (tab c (.fn x)) fun b => k (.v (.bl b)) := rfl
theorem pIsX_t {tab : Str → D → Option Bool} {c : Str} {n : String} {ns : List Str} {vs : List D} {k : RV → Prop} : pIsX tab [.exc c ns vs, .raw (.ty n)] k = wd (tab c (.raw (.ty n))) fun b => k (.v (.bl b)) := rfl
def orT : Option Bool → Option Bool → Option Bool
  | some true, some _ => some true
  | some false, some b => some b
  | _, _ => none
theorem lcK_nil {g : GT} {wt : WT} {we : WE} {vs : List Nat} {acc : List D} {r : DL.Env} {om : Om} {fin : List D → DL.Env → Om → Prop} {t : Tg (g, wt, we, fin)} : lcK g wt we vs [] acc r om fin t = fin acc r om := rfl
theorem lcK_cons {g : GT} {wt : WT} {we : WE} {vs : List Nat} {d : D} {ds acc : List D} {r : DL.Env} {om : Om} {fin : List D → DL.Env → Om → Prop} {t : Tg (g, wt, we, fin)} : lcK g wt we vs (d :: ds) acc r om fin t = g (.v d) r fun r2 => wt X0 r2 om fun b r3 om3 =>
      cnd b (we X0 r3 om3 fun x r4 om4 => wd (datE x) fun y => acc.length < sizeLine ∧ lcK g wt we vs ds (acc ++ [y]) (wipeE r4 vs) om4 fin) (lcK g wt we vs ds acc (wipeE r3 vs) om3 fin) := rfl
theorem loopK_nil {step : D → (DL.Env → Om → Prop) → DL.Env → Om → Prop} {fin : DL.Env → Om → Prop} {r : DL.Env} {om : Om} {t : Tg (step, fin)} : loopK step [] fin r om t = fin r om := rfl
theorem zipD_cons (x y : D) (xs ys : List D) : zipD (x :: xs) (y :: ys) = .tup [x, y] :: zipD xs ys := rfl
theorem zipD_nil (ys : List D) : zipD [] ys = [] := by cases ys <;> rfl
theorem zipD_nilr (xs : List D) : zipD xs [] = [] := by cases xs <;> rfl
def ixK (ds : List D) (i : Int) (c : RV → Prop) (_ : Tg c := .mk) : Prop := wd (atI ds i) fun x => c (.v x)
section
variable {ds : List D} {d : D} {i : Int} {c : RV → Prop} {t : Tg c}
theorem pIx_l : pIx (.lst ds) (.int i) c = ixK ds i c := rfl
theorem atI_ge {ds : List D} {i : Int} (h0 : 0 ≤ i) (h1 : i < (ds.length : Int)) : atI ds i = ds[i.toNat]? := by
  have e : ixN ds.length i = some i.toNat := ixN_in h0 h1
  unfold atI
  rw [e]; rfl
theorem ixK_0 : ixK (d :: ds) 0 c t = c (.v d) := by unfold ixK; rw [atI_ge (by omega) (by simp)]; rfl
theorem ixK_1 {a : D} : ixK (a :: d :: ds) 1 c t = c (.v d) := by unfold ixK; rw [atI_ge (by omega) (by simp; omega)]; rfl
theorem ixK_2 {a1 a2 : D} : ixK (a1 :: a2 :: d :: ds) 2 c t = c (.v d) := by unfold ixK; rw [atI_ge (by omega) (by simp; omega)]; rfl
theorem ixK_3 {a1 a2 a3 : D} : ixK (a1 :: a2 :: a3 :: d :: ds) 3 c t = c (.v d) := by unfold ixK; rw [atI_ge (by omega) (by simp; omega)]; rfl
theorem ixK_pick (h0 : 0 ≤ i) (h1 : i < (ds.length : Int)) (h : ∀ d ∈ ds, c (.v d)) : ixK ds i c t := wd_pick h0 h1 h
theorem ixK_ints {ns : List Int} (h0 : 0 ≤ i) (h1 : i < (ns.length : Int)) (h : c (.v (.int (ns.getD i.toNat 0)))) : ixK (ns.map D.int) i c t := by
  unfold ixK
  rw [atI_ge h0 (by rw [List.length_map]; exact h1), List.getElem?_map, List.getElem?_eq_getElem (by omega)]
  rw [List.getD_eq_getElem?_getD, List.getElem?_eq_getElem (by omega)] at h
  exact h
theorem ixK_rows {ns : List (List Int)} (h0 : 0 ≤ i) (h1 : i < (ns.length : Int)) (h : c (.v (rowD (ns.getD i.toNat [])))) : ixK (rowsD ns) i c t := by
  unfold ixK rowsD
  rw [atI_ge h0 (by rw [List.length_map]; exact h1), List.getElem?_map, List.getElem?_eq_getElem (by omega)]
  rw [List.getD_eq_getElem?_getD, List.getElem?_eq_getElem (by omega)] at h
  exact h
theorem ixK_last {x : D} (h : c (.v x)) : ixK (ds ++ [x]) (-1) c t := by
  unfold ixK
  have : ixN (ds ++ [x]).length (-1) = some ds.length := by
    simp only [ixN, List.length_append, List.length_cons, List.length_nil]
    simp; omega
  unfold atI
  rw [this]
  show wd ((ds ++ [x])[ds.length]?) _
  rw [List.getElem?_append_right (Nat.le_refl _)]
  simpa using h
theorem len_rows (ns : List (List Int)) : (rowsD ns).length = ns.length := by simp [rowsD]
end
theorem pNotNo_exc {x : Str} {ns : List Str} {vs : List D} {c : RV → Prop} : pNotNo (.exc x ns vs) .non c = c (.v (.bl true)) := rfl
theorem gT_t {n : Nat} {g : GTs} {ds : List D} {r : DL.Env} {k : DL.Env → Prop} : gT n g (.v (.tup ds)) r k = (ds.length = n ∧ g ds r k) := rfl
theorem gsCons_c {i : Nat} {g : GTs} {d : D} {ds : List D} {r : DL.Env} {k : DL.Env → Prop} : gsCons i g (d :: ds) r k = (i < r.length ∧ g ds (r.set i (some (.v d))) k) := rfl
def rdLh : Option Ob → Prop
  | some (.lst _) => True
  | _ => False
def rdL (om : Om) : Option (Option RV) → Prop
  | some (some (.o _)) => True
  | some (some (.v (.h a))) => rdLh (om a)
  | _ => False
theorem lstS_q {om : Om} {r : DL.Env} {i : Nat} : lstS om r i = rdL om r[i]? := by
  unfold lstS
  generalize r[i]? = o
  rcases o with _ | _ | x
  · rfl
  · rfl
  · cases x with
    | v d =>
      cases d with
      | h a =>
        simp only [isL, rdL]
        cases om a with
        | none => simp [rdLh]
        | some ob => cases ob <;> simp [rdLh]
      | _ => simp [isL, rdL]
    | o ds => simp [isL, rdL]
    | b j => simp [isL, rdL]
theorem rdL_o {om : Om} {ds : List D} : rdL om (some (some (.o ds))) = True := rfl
theorem rdL_h {om : Om} {a : Addr} : rdL om (some (some (.v (.h a)))) = rdLh (om a) := rfl
theorem rdLh_l {ds : List D} : rdLh (some (.lst ds)) = True := rfl
def rdH (x : RV) (i : Nat) (P : List D → Prop) (r : DL.Env) (om : Om) (nx : DL.Env → Om → Prop) : Prop := match x with
  | .o ds => P ds ∧ i < r.length ∧ ∀ a, om a = none → nx (r.set i (some (.v (.h a)))) (oset om a (.lstP P))
  | _ => False
theorem rdH_o {i : Nat} {P : List D → Prop} {ds : List D} {r : DL.Env} {om : Om} {nx : DL.Env → Om → Prop} : rdH (.o ds) i P r om nx = (P ds ∧ i < r.length ∧ ∀ a, om a = none → nx (r.set i (some (.v (.h a)))) (oset om a (.lstP P))) := rfl
def rdG (x : RV) (P : List D → Prop) (r : DL.Env) (om : Om) (k : RV → DL.Env → Om → Prop) : Prop := match x with
  | .o ds => P ds ∧ ∀ a, om a = none → k (.v (.h a)) r (oset om a (.lstP P))
  | _ => False
def rdX (x : RV) (fld : Str → Str → Bool) (n : Str) (r : DL.Env) (om : Om) (k : RV → DL.Env → Om → Prop) : Prop := match x with
  | .v (.exc c ns vs) => fld c n = true ∧ wd (lookD n ns vs) fun d => k (.v d) r om
  | _ => False
section
variable {om : Om} {q : List Int} {rs : List (List Int)} {c : RV → Prop} {i : Int} {r : DL.Env} {kl : List D → DL.Env → Om → Prop}
theorem deref_row : deref om (rowD q) = rowD q := rfl
theorem pIx_row : pIx (rowD q) (.int i) c = ixK (q.map D.int) i c := rfl
end
section
variable {nx : DL.Env → Om → Prop} {rt : RV → Om → Prop} {bk ct : DL.Env → Om → Prop} {xq : DX} {r : DL.Env} {om : Om} {a b : WS} {wt : WT} {w : WE} {wi : WI} {g : GT} {i : Nat} {x : Str} {wa : WA}
theorem wSeq_e : wSeq a b ⟨nx, rt, bk, ct, xq⟩ r om = a ⟨b ⟨nx, rt, bk, ct, xq⟩, rt, bk, ct, xq⟩ r om := rfl
theorem wIfS_e : wIfS wt a b ⟨nx, rt, bk, ct, xq⟩ r om = wt xq r om fun c r1 om1 => cnd c (a ⟨nx, rt, bk, ct, xq⟩ r1 om1) (b ⟨nx, rt, bk, ct, xq⟩ r1 om1) := rfl
theorem wAsg_e : wAsg w g ⟨nx, rt, bk, ct, xq⟩ r om = w xq r om fun x r1 om1 => g x r1 fun r2 => nx r2 om1 := rfl
theorem wRet_e : wRet w ⟨nx, rt, bk, ct, xq⟩ r om = w xq r om fun x _ om1 => noB x ∧ rt x om1 := rfl
theorem wDrop_e : wDrop w ⟨nx, rt, bk, ct, xq⟩ r om = w xq r om fun _ r1 om1 => nx r1 om1 := rfl
theorem wNext_e : wNext ⟨nx, rt, bk, ct, xq⟩ r om = nx r om := rfl
theorem wBrk_e : wBrk ⟨nx, rt, bk, ct, xq⟩ r om = bk r om := rfl
theorem wFor_e : wFor wi g a ⟨nx, rt, bk, ct, xq⟩ r om = wi xq r om fun items r1 om1 => loopK (stepOf g a ⟨nx, rt, bk, ct, xq⟩) items nx r1 om1 := rfl
theorem loopK_e {d : D} {ds : List D} {fin : DL.Env → Om → Prop} {t : Tg (stepOf g a ⟨nx, rt, bk, ct, xq⟩, fin)} : loopK (stepOf g a ⟨nx, rt, bk, ct, xq⟩) (d :: ds) fin r om t = g (.v d) r fun r' => a ⟨fun r om => loopK (stepOf g a ⟨nx, rt, bk, ct, xq⟩) ds fin r om, rt, nx, fun r om => loopK (stepOf g a ⟨nx, rt, bk, ct, xq⟩) ds fin r om, xq⟩ r' om := rfl
theorem wTryAs_e {sub : Str → Option Bool} : wTryAs i sub a b ⟨nx, rt, bk, ct, xq⟩ r om = a ⟨nx, rt, bk, ct, xTry i sub b ⟨nx, rt, bk, ct, xq⟩⟩ r om := rfl
theorem xTry_e {sub : Str → Option Bool} {ex : Exn} : xTry i sub b ⟨nx, rt, bk, ct, xq⟩ ex r om = wd (sub ex.cls) fun c => cnd c (i < r.length ∧ b ⟨fun r om => nx (r.set i none) om, rt, fun r om => bk (r.set i none) om, fun r om => ct (r.set i none) om, fun _ _ _ => False⟩ (r.set i (some (.v (exD ex)))) om) (xq ex r om) := rfl
theorem wRaise_e : wRaise x ⟨nx, rt, bk, ct, xq⟩ r om = xq ⟨x, none⟩ r om := rfl
theorem wSet_e {w2 : WE} : wSet i w w2 ⟨nx, rt, bk, ct, xq⟩ r om = w2 xq r om fun x r1 om1 => lstS om1 r1 i ∧ w xq r1 om1 fun y r2 om2 => wd (datE x) fun d => wd (datB r2 om2 y) fun j => wd (intD j) fun n =>
  wMutE i (fun ds c => wd (ixN ds.length n) fun m => c (ds.set m d) .non) r2 om2 fun _ r3 om3 => nx r3 om3 := rfl
theorem wAug_e {p : P2} : wAug i p w ⟨nx, rt, bk, ct, xq⟩ r om = ((∃ d, r[i]? = some (some (.v d))) ∧ w xq r om fun y r1 om1 => wd (datB r1 om1 (.b i)) fun d => wd (datB r1 om1 y) fun f => p d f fun z => noB z ∧ i < r1.length ∧ nx (r1.set i (some z)) om1) := rfl
theorem wAsgH_e {P : List D → Prop} : wAsgH i P w ⟨nx, rt, bk, ct, xq⟩ r om = w xq r om fun x r1 om1 => rdH x i P r1 om1 nx := rfl
end
def stK (r : DL.Env) (k : DL.Env → Prop) (_ : Tg k := .mk) : Prop := k r
theorem stK_c {x : Option RV} {l : DL.Env} {k : DL.Env → Prop} {t : Tg k} : stK (x :: l) k t = k (x :: l) := rfl
theorem gN_e {i : Nat} {x : RV} {r : DL.Env} {k : DL.Env → Prop} : gN i x r k = (noB x ∧ i < r.length ∧ stK (r.set i (some x)) k) := rfl
theorem gsNil_e {r : DL.Env} {k : DL.Env → Prop} : gsNil [] r k = stK r k := by simp [gsNil, stK]
section
variable {X : Cx} {K : PySem.W.Frag} {W : WX} {pos : Pos}
def putP : List Nat → List D → DL.Env → (DL.Env → Prop) → Prop
  | i :: is, d :: ds, r, k => i < r.length ∧ putP is ds (r.set i (some (.v d))) k
  | [], [], r, k => k r
  | _, _, _, _ => False
def wPar (is : List Nat) (wa : WA) : WS := fun e r om => wa e.xq r om fun xs r1 om1 => wd (datsE xs) fun ds => putP is ds r1 fun r2 => e.nx r2 om1
def enumZ : Int → List D → List D
  | _, [] => []
  | i, x :: xs => .tup [.int i, x] :: enumZ (i + 1) xs
theorem enumD_zz : ∀ (n : Nat) (xs : List D), enumD n xs = enumZ n xs
  | _, [] => rfl
  | n, x :: xs => by simp only [enumD, enumZ, enumD_zz (n + 1) xs, Int.natCast_add, Int.natCast_one]
theorem enumD_z (xs : List D) : enumD 0 xs = enumZ 0 xs := enumD_zz 0 xs
theorem enumZ_nil (i : Int) : enumZ i [] = [] := by simp only [enumZ]
theorem enumZ_cons (i : Int) (x : D) (xs : List D) : enumZ i (x :: xs) = .tup [.int i, x] :: enumZ (i + 1) xs := by simp only [enumZ]
theorem bools_nil : bools [] = some [] := by simp only [bools]
theorem bools_cons (b : Bool) (ds : List D) : bools (.bl b :: ds) = (bools ds).map (b :: ·) := by simp only [bools]
theorem nums_nil : nums [] = some [] := by simp only [nums]
theorem nums_cons (b : Int) (ds : List D) : nums (.int b :: ds) = (nums ds).map (b :: ·) := by simp only [nums]
theorem str_self (s : Str) : (s == s) = true := by simp
end
end DL

set_option Elab.async false
set_option linter.all false
set_option maxRecDepth 100000
set_option maxHeartbeats 1000000
namespace DL
open PySem L2 PySem.W
section
variable {X : Cx} {K : PySem.W.Frag} {B : Base} {F H : Hp} {om : Om} {st : St} {r : Env} {W : WX} {pos : Pos}
def getP (ps : List (Int × D)) (n : Int) : Option D := (ps.find? fun q => decide (q.1 = n)).map (·.2)
def hasP (ps : List (Int × D)) (n : Int) : Bool := ps.any fun q => decide (q.1 = n)
def putP' (ps : List (Int × D)) (n : Int) (d : D) : List (Int × D) := if hasP ps n = true then ps.map (fun q => if q.1 = n then (q.1, d) else q) else ps ++ [(n, d)]
def rdDh (o : Option Ob) (a : Addr) (f : Addr → List (Int × D) → Prop) : Prop := match o with
  | some (.dct ps) => f a ps
  | _ => False
def rdDct (o : Option (Option RV)) (om : Om) (f : Addr → List (Int × D) → Prop) : Prop := match o with
  | some (some (.v (.h a))) => rdDh (om a) a f
  | _ => False
def wDNew (i : Nat) : WS := fun e r om => i < r.length ∧ ∀ a, om a = none → e.nx (r.set i (some (.v (.h a)))) (oset om a (.dct []))
def wDIn (neg : Bool) (we : WE) (i : Nat) : WE := fun xq r om k => we xq r om fun x r1 om1 => wd (datB r1 om1 x) fun d => wd (intD d) fun n => rdDct r1[i]? om1 fun _ ps => k (.v (.bl (neg != hasP ps n))) r1 om1
def wDGet (i : Nat) (we : WE) : WE := fun xq r om k => rdDct r[i]? om fun _ _ => we xq r om fun x r1 om1 => wd (datB r1 om1 x) fun d => wd (intD d) fun n => rdDct r1[i]? om1 fun _ ps => wd (getP ps n) fun e => k (.v e) r1 om1
def wDPut (i : Nat) (wk wv : WE) : WS := fun e r om => wv e.xq r om fun x r1 om1 => wd (datE x) fun d => rdDct r1[i]? om1 fun _ _ => wk e.xq r1 om1 fun y r2 om2 => wd (datB r2 om2 y) fun kd => wd (intD kd) fun n => rdDct r2[i]? om2 fun a ps => ps.length ≤ 100000 ∧ e.nx r2 (oset om2 a (.dct (putP' ps n d)))
def wDKeys (i : Nat) : WE := fun _ r om k => rdDct r[i]? om fun _ ps => k (.o (ps.map fun q => .int q.1)) r om
def rKeys : List V → Hp → VK → Prop := fun xs H Q => ∃ (a : Addr) (kvs : List (Key × V)), xs = [.ref a] ∧ Rd H a (.dK kvs) ∧ ∀ p, H p = none → Q (.ref p) (upd H p (.lst (kvs.map fun kv => kV kv.1)))
def lcGoO (j : Nat) (all : List D) (g : GT) (wt : WT) (we : WE) (vs : List Nat) : List D → List D → Env → Om → (List D → Env → Om → Prop) → Prop
  | [], acc, r, om, fin => r[j]? = some (some (.o all)) ∧ fin acc r om
  | d :: ds, acc, r, om, fin => r[j]? = some (some (.o all)) ∧ g (.v d) r fun r2 => wt X0 r2 om fun b r3 om3 =>
      if b = true then we X0 r3 om3 fun x r4 om4 => wd (datE x) fun y => acc.length < sizeLine ∧ lcGoO j all g wt we vs ds (acc ++ [y]) (wipeE r4 vs) om4 fin
      else lcGoO j all g wt we vs ds acc (wipeE r3 vs) om3 fin
def rdLc (o : Option (Option RV)) (f : List D → Prop) : Prop := match o with
  | some (some (.o ds)) => f ds
  | _ => False
def wLcO (j : Nat) (g : GT) (wt : WT) (we : WE) (vs : List Nat) : WE := fun xq r om k => rdLc r[j]? fun ds => lcGoO j ds g wt we vs ds [] (wipeE r vs) om fun acc r2 om2 => k (.o acc) r2 om2
end
end DL

set_option Elab.async false
set_option linter.all false
set_option maxRecDepth 100000
set_option maxHeartbeats 1000000
namespace DL
open PySem L2 PySem.W PyProof.Rows
section
variable {X : Cx} {K : PySem.W.Frag} {F H : Hp} {W : WX} {pos : Pos}
def rngC (lo c : Int) (n : Nat) : List D := (List.range n).map fun i => .int (lo + (i : Nat) * c)
def int3 : List D → Option (Int × Int × Int)
  | [.int i, .int j, .int k] => some (i, j, k)
  | _ => none
def rg3 (i j c : Int) (f : List D → Prop) : Prop := ∃ n, RgC i j c n ∧ f (rngC i c n)
def wiR3 (wa : WA) : WI := fun xq r om k => wa xq r om fun xs r1 om1 => wd (datsB r1 om1 xs) fun ds => wd (int3 ds) fun p => rg3 p.1 p.2.1 p.2.2 fun es => k es r1 om1
def pAbs : PN := fun ds c => wd (int1 ds) fun i => c (.v (.int (if i < 0 then -i else i)))
def sortI (ns : List Int) : List Int := ns.mergeSort fun a b => decide (a ≤ b)
theorem ex_v (x : D) : (∃ d, RV.v x = RV.v d) = True := by simp
theorem ixK_lastI {ns : List Int} {c : RV → Prop} {t : Tg c} (h0 : 0 < ns.length) (h : c (.v (.int (ns.getD (ns.length - 1) 0)))) : ixK (ns.map D.int) (-1) c t := by
  have hne : ns ≠ [] := List.length_pos_iff.mp h0
  have e : ns.map D.int = (ns.dropLast).map D.int ++ [.int (ns.getLast hne)] := by
    conv => lhs; rw [← List.dropLast_concat_getLast hne]
    rw [List.map_append]; rfl
  have e2 : ns.getD (ns.length - 1) 0 = ns.getLast hne := by
    rw [List.getD_eq_getElem?_getD, List.getElem?_eq_getElem (by omega), List.getLast_eq_getElem]; rfl
  rw [e2] at h
  revert t
  rw [e]
  intro t
  exact ixK_last h
def rMinT (K : PySem.W.Frag) : List V → Hp → VK → Prop := fun vs H Q => ∃ (a : Addr) (n : Int) (ns : List Int), vs = [V.ref a] ∧ SqT K H a ((n :: ns).map V.int) ∧ Q (.int (ns.foldl min n)) H
def minL : List Int → (RV → Prop) → Prop
  | [], _ => False
  | n :: ns, c => c (.v (.int (ns.foldl min n)))
def seqT : D → Option (List D)
  | .tup ds => some ds
  | _ => none
def pMinT : PN := fun ds c => wd (one ds) fun d => wd (seqT d) fun es => wd (nums es) fun ns => minL ns c
def mRem : MutP := fun ds args c => wd (nums ds) fun ns => wd (int1 args) fun k => k ∈ ns ∧ c ((ns.erase k).map D.int) .non
def pIsB (neg : Bool) : P2 := fun d e c => match d, e with
  | .bl a, .bl b => c (.v (.bl (neg != decide (a = b))))
  | _, _ => False
def Sub (om om' : Om) : Prop := ∀ b o, om b = some o → om' b = some o
theorem Sub.refl (om : Om) : Sub om om := fun _ _ e => e
theorem Sub.new {om om' : Om} {a : Addr} {ob : Ob} (h : Sub om om') (n : om a = none) : Sub om (oset om' a ob) := fun b o e => by
  have : b ≠ a := fun z => by rw [z, n] at e; cases e
  rw [oset_ne this]; exact h b o e
theorem Sub.set {om om' : Om} {a : Addr} {ob : Ob} (h : Sub om om') (n : om a = none) : Sub om (oset om' a ob) := h.new n
def dropC (c : Con) : Con := ⟨c.n, fun ds om k xk => c.df ds om (fun x om1 => ∀ om', Sub om1 om' → k x om') (fun ex om1 => ∀ om', Sub om1 om' → xk ex om'), fun ds om k xk h => c.len ds om _ _ h, fun ds om k k' xk xk' hk hx h => c.mono _ _ _ _ _ _ (fun x om1 g om' hs => hk _ _ (g om' hs)) (fun ex om1 g om' hs => hx _ _ (g om' hs)) h⟩
theorem rdDh_of {om : Om} {a : Addr} {ps : List (Int × D)} {f : Addr → List (Int × D) → Prop} (h : om a = some (.dct ps)) (hf : f a ps) : rdDh (om a) a f := by rw [h]; exact hf
def notF : D → Bool
  | .frl _ => false
  | _ => true
def isD0 : D → Bool
  | .dct [] [] => true
  | _ => false
def pNeA : P2 := fun d e c => (isD0 d = true ∧ isD0 e = true ∧ c (.v (.bl false))) ∨ pNe d e c
theorem ixN_K {n : Nat} {z : Int} {f : Nat → Prop} {t : Tg f} (h0 : 0 ≤ z) (h1 : z < (n : Int)) (hf : f z.toNat) : wdK (ixN n z) f t := by
  rw [ixN_in h0 h1]; exact hf
def gL (n : Nat) (g : GTs) : GT := fun x r k => match x with
  | .v (.lst ds) => ds.length = n ∧ g ds r k
  | _ => False
theorem gL_l {n : Nat} {g : GTs} {ds : List D} {r : DL.Env} {k : DL.Env → Prop} : gL n g (.v (.lst ds)) r k = (ds.length = n ∧ g ds r k) := rfl
end
end DL

set_option Elab.async false
set_option linter.all false
set_option maxRecDepth 100000
namespace DL
open PySem L2
mutual
def lf : D → Bool
  | .lst _ => false
  | .frl _ => false
  | .tup ds => lfs ds
  | .dct _ ds => lfs ds
  | .exc _ _ ds => lfs ds
  | _ => true
def lfs : List D → Bool
  | [] => true
  | d :: ds => lf d && lfs ds
end
def lfR : RV → Prop
  | .v d => lf d = true
  | .o ds => lfs ds = true
  | .b _ => False
def lfX (ex : Exn) : Prop := match ex.fs with
  | none => True
  | some fs => lfs (fs.map (·.2)) = true
section
variable {X : Cx} {K : PySem.W.Frag} {B : Base} {F F' H H' : Hp} {om : Om} {st : L2.St} {r : Env} {W : WX} {pos : Pos}
def NoL (F F' : Hp) : Prop := ∀ a o, F a = some o → (∀ xs, o ≠ .lst xs) → F' a = some o
theorem NoL.tup {a : Addr} {xs : List V} (h : NoL F F') (q : SqT K F a xs) : SqT K F' a xs := by
  rcases q with (q | ⟨o, q⟩) | q
  · exact .inl (.inl (h _ _ q fun _ e => nomatch e))
  · exact .inl (.inr ⟨o, h _ _ q fun _ e => nomatch e⟩)
  · exact .inr q
mutual
theorem Rep.lf (n : NoL F F') : ∀ {v : V} {d : D}, Rep K F v d → lf d = true → Rep K F' v d
  | _, _, .non, _ => .non
  | _, _, .bl b, _ => .bl b
  | _, _, .int i, _ => .int i
  | _, _, .str x, _ => .str x
  | _, _, .tup h r, e => .tup (n.tup h) (RepA.lf n r e)
  | _, _, .lst h r, e => by simp [DL.lf] at e
  | _, _, .frl h r, e => by simp [DL.lf] at e
  | _, _, .dct h l r, e => .dct (n _ _ h fun _ e => nomatch e) l (RepA.lf n r e)
  | _, _, .raw v, _ => .raw v
  | _, _, .h a, _ => .h a
  | _, _, .exc0 h, _ => .exc0 (n _ _ h fun _ e => nomatch e)
  | _, _, .exc1 h h' r, e => .exc1 (n _ _ h fun _ e => nomatch e) (n _ _ h' fun _ e => nomatch e) (RepA.lf n r e)
  | _, _, .fn x, _ => .fn x
theorem RepA.lf (n : NoL F F') : ∀ {vs : List V} {ds : List D}, RepA K F vs ds → lfs ds = true → RepA K F' vs ds
  | _, _, .nil, _ => .nil
  | _, _, .cons r t, e => by
    simp only [lfs, Bool.and_eq_true] at e
    exact .cons (Rep.lf n r e.1) (RepA.lf n t e.2)
end
def lendF (F H : Hp) : Hp := fun a => match F a with
  | some o => some o
  | none => match H a with
    | some (.lst xs) => some (.lst xs)
    | _ => none
def backF (F H F1 : Hp) : Hp := fun a => match F a with
  | some o => some o
  | none => match H a with
    | some (.lst _) => none
    | _ => F1 a
theorem lend_same : Same F (lendF F H) := fun a o e => by simp only [lendF, e]
theorem lend_sub (s : Same F H) : Same (lendF F H) H := fun a o e => by
  unfold lendF at e
  cases q : F a with
  | some u => rw [q] at e; cases e; exact s a _ q
  | none =>
    rw [q] at e
    cases q2 : H a with
    | none => rw [q2] at e; cases e
    | some u =>
      rw [q2] at e
      cases u <;> first | cases e; rfl | cases e
theorem lend_lst {a : Addr} {xs : List V} (s : Same F H) (h : H a = some (.lst xs)) : lendF F H a = some (.lst xs) := by
  unfold lendF
  cases q : F a with
  | some u => have := s a u q; rw [h] at this; rw [← this]
  | none => simp only [h]
theorem RepB.lend {y : V} {d : D} (s : Same F H) (h : RepB K F H y d) : Rep K (lendF F H) y d := by
  rcases h with h | ⟨a, xs, ds, rfl, rfl, h1, h2⟩
  · exact h.mono lend_same
  · exact .lst (lend_lst s h1) (h2.mono lend_same)
theorem repBs_lend (s : Same F H) : ∀ {ys : List V} {ds : List D}, RepBs K F H ys ds → RepA K (lendF F H) ys ds
  | [], [], _ => .nil
  | [], _ :: _, h => h.elim
  | _ :: _, [], h => h.elim
  | y :: ys, d :: ds, h => .cons (RepB.lend s h.1) (repBs_lend s h.2)
theorem back_nol (s : Same F H) (s1 : Same (lendF F H) F') : NoL F' (backF F H F') := fun a o e n => by
  unfold backF
  cases q : F a with
  | some u =>
    have := s1 a u (lend_same a u q)
    rw [e] at this; exact this.symm
  | none =>
    cases q2 : H a with
    | none => exact e
    | some u =>
      cases u with
      | lst xs =>
        have := s1 a _ (lend_lst s q2)
        rw [e] at this
        exact absurd (Option.some.inj this) (n xs)
      | _ => exact e
theorem callL_core {c : Con} {ys : List V} {ds : List D} {k : RV → Prop} {xk : Exn → Prop} {Q : VK} {E : XK} (R : Rel K B F om H st r) (rp : RepA K (lendF F H) ys ds)
    (hQ : ∀ x F' H' y, Rel K B F' om H' st r → Same F F' → Res K B F' om H' st r y x → k x → Q y H') (hX : ∀ ex F' H' cls d, Rel K B F' om H' st r → ExOk K F' cls d ex → xk ex → E cls d H')
    (hw : c.df ds (fun _ => none) (fun x _ => lfR x ∧ k x) (fun ex _ => lfX ex ∧ xk ex)) : toSp K c ys H Q E := by
  have s := R.rh.sub
  have key : ∀ {om' : Om} {F' H' : Hp}, RelH K F' om' H' → Ext ⟨lendF F H, fun _ => none, H⟩ F' om' H' → Rel K B (backF F H F') om H' st r ∧ Same F (backF F H F') ∧ NoL F' (backF F H F') := fun {om' F' H'} rh ex => by
    have hh : Same H H' := fun b o e => ex.keep b o e rfl
    have hs : Same F (backF F H F') := fun a o e => by simp only [backF, e]
    have hle : ∀ a o, backF F H F' a = some o → F' a = some o := fun a o e => by
      unfold backF at e
      cases q : F a with
      | some u => rw [q] at e; cases e; exact ex.f a _ (lend_same a _ q)
      | none =>
        rw [q] at e
        cases q2 : H a with
        | none => rw [q2] at e; exact e
        | some u => rw [q2] at e; cases u <;> first | exact e | cases e
    refine ⟨R.grow hs hh (fun b o e n => ?_) (fun b o e => rh.sub b o (hle b o e)), hs, back_nol s ex.f⟩
    have e1 := hle b o e
    have l0 : lendF F H b = none := by
      unfold backF at e
      unfold lendF
      rw [n] at e ⊢
      cases q2 : H b with
      | none => rfl
      | some u => rw [q2] at e; cases u <;> first | rfl | cases e
    exact ex.new b o e1 l0
  refine ⟨lendF F H, fun _ => none, ds, ⟨lend_sub s, fun a ob e => by cases e⟩, rp, c.mono ds _ _ _ _ _ (fun x om' hk F' H' y rh ex s => ?_) (fun e om' hk F' H' cls d rh ex he => ?_) hw⟩
  · obtain ⟨R', s', n'⟩ := key rh ex
    refine hQ x _ H' y R' s' ?_ hk.2
    cases x with
    | v d => exact Rep.lf n' (show Rep K F' y d from s) hk.1
    | b _ => exact s.elim
    | o ds =>
      obtain ⟨a, rfl, o1, o2, o3, xs, o4, o5⟩ := s
      have o3' : H a = none := o3
      have f0 : F a = none := R.rh.sub.free o3'
      have m0 : om a = none := by
        cases q : om a with
        | none => rfl
        | some ob =>
          obtain ⟨u, hu⟩ := (R.rh.obj a ob q).2.some
          rw [o3'] at hu; cases hu
      refine ⟨a, rfl, ⟨?_, m0, R.ext.dom a o3', xs, o4, o5.lf n' hk.1⟩, fun j es e z => ?_⟩
      · simp only [backF, f0, o3']; exact o1
      obtain ⟨y, e1, a', e2, _, _, _, ys, e3, _⟩ := R.slot j (.o es) e
      rw [z] at e1
      cases e1
      cases e2
      rw [o3'] at e3; cases e3
  · obtain ⟨R', s', n'⟩ := key rh ex
    refine hX e _ H' cls d R' ?_ hk.2
    obtain ⟨h1, h2⟩ := he
    refine ⟨h1, ?_⟩
    obtain ⟨hl, _⟩ := hk
    unfold lfX at hl
    cases q : e.fs with
    | none => rw [q] at h2; exact h2
    | some fs =>
      rw [q] at h2 hl
      obtain ⟨a, xs, e1, e2, e3⟩ := h2
      exact ⟨a, xs, e1, n' _ _ e2 (fun _ z => nomatch z), e3.lf n' hl⟩
def wCallL (df : DF) (dds : List D) (wa : WA) : WE := fun xq r om k => wa xq r om fun xs r1 om1 => wd (datsB r1 om1 xs) fun ds => df (ds ++ dds) (fun _ => none) (fun x _ => lfR x ∧ k x r1 om1) (fun ex _ => lfX ex ∧ xq ex r1 om1)
theorem wCallL_q {df : DF} {dds : List D} {wa : WA} {xq : DX} {r : DL.Env} {om : Om} {k : RV → DL.Env → Om → Prop} : wCallL df dds wa xq r om k = wa xq r om fun xs r1 om1 => wd (datsB r1 om1 xs) fun ds => callK df (ds ++ dds) (fun _ => none) (fun x _ => lfR x ∧ k x r1 om1) (fun ex _ => lfX ex ∧ xq ex r1 om1) := rfl
theorem se_callL {c : Con} {ta : TA} {wa : WA} (ha : SA K W ta wa) : SE K W (tCallSD (toSp K c) [] (L2.WE W) ta) (wCallL c.df [] wa) := by
  intro B F om H st r xq k Q R hx hQ hw
  refine ha B F om H st r xq _ _ R hx (fun xs r1 om1 F1 H1 ys R1 s1 k1 q1 hw => ?_) hw
  obtain ⟨ds, e1, hw⟩ := wd_iff hw
  have rp := repBs_lend R1.rh.sub (R1.datsB q1 e1)
  rw [List.append_nil] at hw
  have rp' : RepA K (lendF F1 H1) (ys ++ []) ds := by rw [List.append_nil]; exact rp
  exact callL_core R1 rp' (fun x F' H' y R' s' q' hk => hQ _ _ _ _ _ _ R' (s1.trans s') k1 q' hk) (fun ex F' H' cls d R' he hk => hx _ _ _ _ _ _ _ _ R' he hk) hw
theorem de_callL {x : Str} {c : Con} {k : Nat} {e : Expr} {es : List Expr} {p' : Pos} {t : TA} {w : WA} (F : Def X.prog X.w X.K X.mg X.base x c k) (hr : Room k X.A) (tk : Takes X W) (ha : DA X W (e :: es) t w) (hg : Gl X x := by rfl) (hdb : (x == ("__debug__" : Str)) = false := by decide)
    (he : starEach (e :: es) X.env = (false, eval e X.env) :: starEach es X.env := by rfl) (hpl : (backTo pos (starEach es X.env)).any (·.1) = false := by rfl) {K' : PySem.W.Frag} (hK : X.K = K' := by rfl) :
    DE X W (.Call (.Name x p') (e :: es) [] pos) (tCallSD (toSp K' c) [] (L2.WE W) t) (wCallL c.df [] w) := by
  subst hK
  exact ⟨let ⟨_, _, _, h1, h2, h3, h4⟩ := F; pe_callSD h1 hr hg h2 h3 h4 .nil (fun σ => passAt tk σ) ha.p hdb he hpl, se_callL ha.s⟩
theorem lfs_map {α : Type} (f : α → D) (l : List α) (h : ∀ x ∈ l, lf (f x) = true) : lfs (l.map f) = true := by
  induction l with
  | nil => rfl
  | cons x l ih => simp only [List.map_cons, lfs, h x (by simp), ih fun y m => h y (List.mem_cons_of_mem _ m), Bool.and_self]
theorem lfs_ints (q : List Int) : lfs (q.map D.int) = true := lfs_map _ _ fun _ _ => by simp [lf]
theorem lf_row (q : List Int) : lf (rowD q) = true := by simp only [rowD, lf, lfs_ints]
theorem lf_bl (i : Bool) : lf (.bl i) = true := by simp only [lf]
theorem lfR_v (d : D) : lfR (.v d) = (lf d = true) := rfl
end
end DL

set_option Elab.async false
set_option linter.all false
set_option maxRecDepth 100000
namespace DL
open PySem L2 PySem.W
section
variable {X : Cx} {K : PySem.W.Frag} {B : Base} {F F' H H' : Hp} {om : Om} {st : L2.St} {r : Env} {W : WX} {pos : Pos}
def rdHL (x : RV) (r : Env) (om : Om) (k : RV → Env → Om → Prop) (_ : Tg k := .mk) : Prop := match x with
  | .o ds => ∀ a, om a = none → k (.v (.h a)) r (oset om a (.lst ds))
  | _ => False
def wHL (we : WE) : WE := fun xq r om k => we xq r om fun x r1 om1 => rdHL x r1 om1 k
theorem wHL_q {we : WE} {xq : DX} {r : Env} {om : Om} {k : RV → Env → Om → Prop} : wHL we xq r om k = we xq r om fun x r1 om1 => rdHL x r1 om1 k := rfl
theorem rdHL_o {ds : List D} {r : Env} {om : Om} {k : RV → Env → Om → Prop} {t : Tg k} : rdHL (.o ds) r om k t = ∀ a, om a = none → k (.v (.h a)) r (oset om a (.lst ds)) := rfl
theorem de_hl {e : Expr} {te : TE} {we : WE} (he : DE X W e te we) : DE X W e te (wHL we) := ⟨he.p, fun B F om H st r xq k Q R hx hQ hw => by
  refine he.s B F om H st r xq _ _ R hx (fun x r1 om1 F1 H1 y R1 s1 k1 q1 hw => ?_) hw
  cases x with
  | v d => exact hw.elim
  | b i => exact hw.elim
  | o ds =>
    obtain ⟨a, rfl, o, o6⟩ := q1
    have R2 := R1.toH (ob := .lst ds) o o6 fun xs hr => hr
    exact hQ (.v (.h a)) _ _ _ _ _ R2 s1 trivial (Rep.h a) (hw a o.2.1)⟩
def rdMR (x : RV) (om : Om) : Prop := match x with
  | .v (.h a) => rdLh (om a)
  | _ => False
def rdMW (x : RV) (p : MutP) (args : List D) (r : Env) (om : Om) (k : RV → Env → Om → Prop) (_ : Tg (p, k) := .mk) : Prop := match x with
  | .v (.h a) => rdEh (om a) a (fun ds => p ds args) r om k
  | _ => False
theorem rdMR_h {a : Addr} : rdMR (.v (.h a)) om = rdLh (om a) := rfl
theorem rdMW_h {a : Addr} {p : MutP} {args : List D} {k : RV → Env → Om → Prop} {t : Tg (p, k)} : rdMW (.v (.h a)) p args r om k t = rdEh (om a) a (fun ds => p ds args) r om k := rfl
def wMutR (we : WE) (p : MutP) (wa : WA) : WE := fun xq r om k => we xq r om fun x r1 om1 => rdMR x om1 ∧ wa xq r1 om1 fun xs r2 om2 => wd (datsE xs) fun args => rdMW x p args r2 om2 k
theorem wMutR_q {we : WE} {p : MutP} {wa : WA} {xq : DX} {k : RV → Env → Om → Prop} : wMutR we p wa xq r om k = we xq r om fun x r1 om1 => rdMR x om1 ∧ wa xq r1 om1 fun xs r2 om2 => wd (datsE xs) fun args => rdMW x p args r2 om2 k := rfl
theorem lh_inv {om : Om} {a : Addr} (h : rdLh (om a)) : ∃ ds, om a = some (.lst ds) := by
  unfold rdLh at h
  split at h
  · next ds e => exact ⟨ds, e⟩
  · exact h.elim
theorem se_mutR {te : TE} {we : WE} {p : MutP} {ta : TA} {wa : WA} {rr : V → List V → Hp → VK → Prop} (he : SE K W te we) (ha : SA K W ta wa) (hp : SM K rr p) : SE K W (tBM K "list" rr te ta) (wMutR we p wa) := by
  intro B F om H st r xq k Q R hx hQ hw
  refine he B F om H st r xq _ _ R hx (fun x r1 om1 F1 H1 y R1 s1 k1 q1 hw => ?_) hw
  obtain ⟨hl, hw⟩ := hw
  cases x with
  | o ds => exact hl.elim
  | b i => exact hl.elim
  | v d =>
    cases d with
    | h a =>
      obtain ⟨ds, e⟩ := lh_inv hl
      cases q1
      obtain ⟨zs, o4, o5⟩ := (R1.rh.obj a _ e).2.lst
      refine ⟨.inl ⟨rfl, zs, SqL.of o4⟩, ?_⟩
      refine ha B F1 om1 H1 st r1 xq _ _ R1 hx (fun xs r2 om2 F2 H2 ys R2 s2 k2 q2 hw => ?_) hw
      obtain ⟨args, e2, hw⟩ := wd_iff hw
      have hw' : rdEh (om2 a) a (fun ds => p ds args) r2 om2 k := hw
      unfold rdEh at hw'
      split at hw'
      · next es e3 =>
        obtain ⟨xs', o4', o5'⟩ := (R2.rh.obj a _ e3).2.lst
        refine hp F2 H2 a xs' es ys args _ _ R2.rh.sub o4' o5' (datsE_rep q2 e2) hw' fun ds' zs d v g1 g2 g3 => ?_
        exact hQ (.v d) _ _ _ _ _ (R2.writeH (ob' := .lst ds') e3 g1) (s1.trans s2) trivial g2 g3
      · exact hw'.elim
    | _ => exact hl.elim
theorem de_appR {o e : Expr} {p2 cpos : Pos} {to : TE} {wo : WE} {te : TE} {we : WE} (ho : DE X W o to wo) (he : DE X W e te we) (hbase : attributeBase o "append" X.env (eval o X.env) = eval o X.env := by rfl)
    (hfew : ((backTo cpos (starEach [e] X.env)).all (fun x => !x.1) && (backToKw cpos (keywordEach [] X.env)).all (fun x => x.1.isSome) && decide (([e] : List Expr).length + ([] : List Keyword).length + (if ([] : List Keyword).isEmpty then 0 else 1) < 30)) = true := by rfl)
    (hline : (p2.endLine == cpos.line) = true := by rfl) (hs : starEach [e] X.env = (false, eval e X.env) :: starEach [] X.env := by rfl) (hplain : (backTo cpos (starEach [] X.env)).any (·.1) = false := by rfl) {K' : PySem.W.Frag} (hK : X.K = K' := by rfl) :
    DE X W (.Call (.Attribute o "append" p2) [e] [] cpos) (tBM K' "list" rAppend to (tCons te tNil)) (wMutR wo mApp (wCons we wNil)) := by
  subst hK
  exact ⟨pe_bm PySem.F.plainAttrs_list PySem.F.slot_list_append PySem.F.type_list_append mt_append ho.p (pa_cons he.p pa_nil hs) hbase hfew hline hs hplain, se_mutR ho.s (sa_cons he.s sa_nil) sm_append⟩
def mIns : MutP := fun ds args c => match args with
  | [.int i, d] => ds.length < sizeLine ∧ (0 ≤ i ∧ i < 2 ^ 62) ∧ c (ds.take i.toNat ++ [d] ++ ds.drop i.toNat) .non
  | _ => False
def rIns : V → List V → Hp → VK → Prop := fun x vs H Q => ∃ (l : Addr) (xs : List V) (i : Int) (y : V), x = .ref l ∧ vs = [.int i, y] ∧ H l = some (.lst xs) ∧ xs.length < sizeLine ∧ 0 ≤ i ∧ i < 2 ^ 63 ∧ Q .non (upd H l (.lst (xs.take i.toNat ++ [y] ++ xs.drop i.toNat)))
def mExt : MutP := fun ds args c => match args with
  | [.lst es] => ds.length + es.length ≤ sizeLine ∧ c (ds ++ es) .non
  | _ => False
def mClr : MutP := fun ds args c => match args with
  | [] => c [] .non
  | _ => False
def mRvs : MutP := fun ds args c => match args with
  | [] => c ds.reverse .non
  | _ => False
def ddr (om : Om) : D → D
  | .lst ds => .lst (ds.map (deref om))
  | d => d
theorem relH_deref2 (R : RelH K F om H) {y : V} {d : D} (h : Rep K (lendF F H) y d) : Rep K (lendF F H) y (deref om d) := by
  cases d with
  | h a =>
    cases h
    cases q : om a with
    | none => simp only [deref, q]; exact Rep.h a
    | some ob =>
      cases ob with
      | lst ds =>
        obtain ⟨xs, o4, o5⟩ := (R.obj a _ q).2.lst
        simp only [deref, q]
        exact .lst (lend_lst R.sub o4) (o5.mono lend_same)
      | _ => simp only [deref, q]; exact Rep.h a
  | _ => exact h
theorem relH_derefs (R : RelH K F om H) : ∀ {ys : List V} {ds : List D}, RepA K (lendF F H) ys ds → RepA K (lendF F H) ys (ds.map (deref om))
  | _, _, .nil => .nil
  | _, _, .cons h t => .cons (relH_deref2 R h) (relH_derefs R t)
theorem relH_ddr (R : RelH K F om H) {y : V} {d : D} (h : Rep K (lendF F H) y d) : Rep K (lendF F H) y (ddr om d) := by
  cases d with
  | lst ds =>
    cases h with
    | lst q r => exact .lst q (relH_derefs R r)
  | _ => exact h
theorem relH_ddrs (R : RelH K F om H) : ∀ {ys : List V} {ds : List D}, RepA K (lendF F H) ys ds → RepA K (lendF F H) ys (ds.map (ddr om))
  | _, _, .nil => .nil
  | _, _, .cons h t => .cons (relH_ddr R h) (relH_ddrs R t)
def wCallD (df : DF) (dds : List D) (wa : WA) : WE := fun xq r om k => wa xq r om fun xs r1 om1 => wd (datsB r1 om1 xs) fun ds => df (ds.map (ddr om1) ++ dds) (fun _ => none) (fun x _ => lfR x ∧ k x r1 om1) (fun ex _ => lfX ex ∧ xq ex r1 om1)
theorem wCallD_q {df : DF} {dds : List D} {wa : WA} {xq : DX} {r : DL.Env} {om : Om} {k : RV → DL.Env → Om → Prop} : wCallD df dds wa xq r om k = wa xq r om fun xs r1 om1 => wd (datsB r1 om1 xs) fun ds => callK df (ds.map (ddr om1) ++ dds) (fun _ => none) (fun x _ => lfR x ∧ k x r1 om1) (fun ex _ => lfX ex ∧ xq ex r1 om1) := rfl
theorem se_callD {c : Con} {ta : TA} {wa : WA} (ha : SA K W ta wa) : SE K W (tCallSD (toSp K c) [] (L2.WE W) ta) (wCallD c.df [] wa) := by
  intro B F om H st r xq k Q R hx hQ hw
  refine ha B F om H st r xq _ _ R hx (fun xs r1 om1 F1 H1 ys R1 s1 k1 q1 hw => ?_) hw
  obtain ⟨ds, e1, hw⟩ := wd_iff hw
  have rp := relH_ddrs R1.rh (repBs_lend R1.rh.sub (R1.datsB q1 e1))
  rw [List.append_nil] at hw
  have rp' : RepA K (lendF F1 H1) (ys ++ []) (ds.map (ddr om1)) := by rw [List.append_nil]; exact rp
  exact callL_core R1 rp' (fun x F' H' y R' s' q' hk => hQ _ _ _ _ _ _ R' (s1.trans s') k1 q' hk) (fun ex F' H' cls d R' he hk => hx _ _ _ _ _ _ _ _ R' he hk) hw
theorem de_callD {x : Str} {c : Con} {k : Nat} {e : Expr} {es : List Expr} {p' : Pos} {t : TA} {w : WA} (F : Def X.prog X.w X.K X.mg X.base x c k) (hr : Room k X.A) (tk : Takes X W) (ha : DA X W (e :: es) t w) (hg : Gl X x := by rfl) (hdb : (x == ("__debug__" : Str)) = false := by decide)
    (he : starEach (e :: es) X.env = (false, eval e X.env) :: starEach es X.env := by rfl) (hpl : (backTo pos (starEach es X.env)).any (·.1) = false := by rfl) {K' : PySem.W.Frag} (hK : X.K = K' := by rfl) :
    DE X W (.Call (.Name x p') (e :: es) [] pos) (tCallSD (toSp K' c) [] (L2.WE W) t) (wCallD c.df [] w) := by
  subst hK
  exact ⟨let ⟨_, _, _, h1, h2, h3, h4⟩ := F; pe_callSD h1 hr hg h2 h3 h4 .nil (fun σ => passAt tk σ) ha.p hdb he hpl, se_callD ha.s⟩
theorem ddr_l (om : Om) (ds : List D) : ddr om (.lst ds) = .lst (ds.map (deref om)) := rfl
theorem ddr_i (om : Om) (i : Int) : ddr om (.int i) = .int i := rfl
theorem drs_rows (om : Om) (q : List (List Int)) : (rowsD q).map (deref om) = rowsD q := by
  unfold rowsD; rw [List.map_map]; exact List.map_congr_left fun _ _ => rfl
def lcGo2 (g : GT) (wt : WT) (wi1 : WI) (g1 : GT) (wt1 : WT) (we : WE) (vs vs1 : List Nat) : List D → List D → Env → Om → (List D → Env → Om → Prop) → Prop
  | [], acc, r, om, fin => fin acc r om
  | d :: ds, acc, r, om, fin => g (.v d) r fun r2 => wt X0 r2 om fun b r3 om3 =>
      cnd b (wi1 X0 r3 om3 fun items r4 om4 => lcGo g1 wt1 we vs1 items acc (wipeE r4 vs1) om4 fun acc' r5 om5 => lcGo2 g wt wi1 g1 wt1 we vs vs1 ds acc' (wipeE r5 vs) om5 fin)
      (lcGo2 g wt wi1 g1 wt1 we vs vs1 ds acc (wipeE r3 vs) om3 fin)
def wLc2 (wi : WI) (g : GT) (wt : WT) (wi1 : WI) (g1 : GT) (wt1 : WT) (we : WE) (vs vs1 : List Nat) : WE := fun xq r om k => wi xq r om fun items r1 om1 => lcGo2 g wt wi1 g1 wt1 we vs vs1 items [] (wipeE r1 vs) om1 fun acc r2 om2 => k (.o acc) r2 om2
def lc2K (g : GT) (wt : WT) (wi1 : WI) (g1 : GT) (wt1 : WT) (we : WE) (vs vs1 : List Nat) (l acc : List D) (r : Env) (om : Om) (fin : List D → Env → Om → Prop) (_ : Tg (g, wt, wi1, g1, wt1, we, fin) := .mk) : Prop := lcGo2 g wt wi1 g1 wt1 we vs vs1 l acc r om fin
end
end DL

set_option Elab.async false
set_option linter.all false
set_option maxRecDepth 100000
namespace DL
open PySem L2 PySem.W RZ
def CardIs (ns : List Int) (c : Nat) : Prop := ∃ l : List Int, l.Nodup ∧ (∀ k, k ∈ l ↔ k ∈ ns) ∧ l.length = c
theorem erase_sub {l m : List Int} {x : Int} (h1 : x ∉ l) (h : ∀ k ∈ x :: l, k ∈ m) : ∀ k ∈ l, k ∈ m.erase x := fun k mk =>
  (List.mem_erase_of_ne (fun e => by rw [e] at mk; exact h1 mk)).mpr (h k (List.mem_cons_of_mem _ mk))
theorem nodup_sub : ∀ {l m : List Int}, l.Nodup → (∀ k ∈ l, k ∈ m) → l.length ≤ m.length
  | [], m, _, _ => Nat.zero_le _
  | x :: l, m, nd, h => by
    obtain ⟨h1, h2⟩ := List.nodup_cons.mp nd
    have mx := h x (by simp)
    have ih := nodup_sub (m := m.erase x) h2 (erase_sub h1 h)
    rw [List.length_erase_of_mem mx] at ih
    have := List.length_pos_of_mem mx
    simp only [List.length_cons]; omega
theorem nodup_full : ∀ {l m : List Int}, l.Nodup → (∀ k ∈ l, k ∈ m) → l.length = m.length → m.Nodup
  | [], m, _, _, e => by
    have : m = [] := List.eq_nil_of_length_eq_zero e.symm
    rw [this]; simp
  | x :: l, m, nd, h, e => by
    obtain ⟨h1, h2⟩ := List.nodup_cons.mp nd
    have mx := h x (by simp)
    have e2 : l.length = (m.erase x).length := by
      rw [List.length_erase_of_mem mx]; simp only [List.length_cons] at e; omega
    have ih := nodup_full h2 (erase_sub h1 h) e2
    refine (List.perm_cons_erase mx).nodup_iff.mpr (List.nodup_cons.mpr ⟨fun hx => ?_, ih⟩)
    have := nodup_sub (l := x :: l) (m := m.erase x) nd fun k mk => by
      rcases List.mem_cons.mp mk with rfl | mk
      · exact hx
      · exact erase_sub h1 h k mk
    simp only [List.length_cons] at this; omega
theorem CardIs.uniq {ns : List Int} {c d : Nat} (h : CardIs ns c) (g : CardIs ns d) : c = d := by
  obtain ⟨l, l1, l2, rfl⟩ := h
  obtain ⟨m, m1, m2, rfl⟩ := g
  exact Nat.le_antisymm (nodup_sub l1 fun k mk => (m2 k).mpr ((l2 k).mp mk)) (nodup_sub m1 fun k mk => (l2 k).mpr ((m2 k).mp mk))
theorem CardIs.le {ns : List Int} {c : Nat} (h : CardIs ns c) : c ≤ ns.length := by
  obtain ⟨l, l1, l2, rfl⟩ := h
  exact nodup_sub l1 fun k mk => (l2 k).mp mk
theorem CardIs.full {ns : List Int} {c : Nat} (h : CardIs ns c) : c = ns.length ↔ ns.Nodup := by
  constructor
  · intro e
    obtain ⟨l, l1, l2, l3⟩ := h
    exact nodup_full l1 (fun k mk => (l2 k).mp mk) (l3.trans e)
  · intro nd
    exact h.uniq ⟨ns, nd, fun _ => Iff.rfl, rfl⟩
def tLenSetQ (K : PySem.W.Frag) (ta : TE) : TE := fun σ H Q => ta σ H fun x H1 => ∃ (l : Addr) (ns : List Int), x = .ref l ∧ (SqT K H1 l (ns.map V.int) ∨ SqL K H1 l (ns.map V.int)) ∧ ns.length ≤ 3000 ∧ ∀ c : Nat, CardIs ns c → Q (.int (c : Int)) H1
section
variable {X : Cx} {K : PySem.W.Frag} {W : WX} {pos : Pos}
def lsK (o : Option (List Int)) (r : Env) (om : Om) (k : RV → Env → Om → Prop) (_ : Tg k := .mk) : Prop := match o with
  | some ns => ns.length ≤ 3000 ∧ ∀ c : Nat, CardIs ns c → k (.v (.int c)) r om
  | none => False
def wLenSet (we : WE) : WE := fun xq r om k => we xq r om fun x r1 om1 => wd (datB r1 om1 x) fun d => wd (seqD d) fun ds => lsK (nums ds) r1 om1 k
def rdUH (o : Option (Option RV)) (om : Om) (n : Nat) (g : GTs) (r : Env) (k : Env → Prop) : Prop := match o with
  | some (some (.v (.h a))) => match om a with
    | some (.lst ds) => ds.length = n ∧ g ds r k
    | _ => False
  | _ => False
def wUnpH (i n : Nat) (g : GTs) : WS := fun e r om => rdUH r[i]? om n g r fun r2 => e.nx r2 om
end
end DL

set_option Elab.async false
set_option linter.all false
set_option maxRecDepth 100000
namespace DL
open PySem L2 PySem.W PyProof.Rows
section
variable {prog : Program} {w : World} {A : Around} {E : Value → Shared → Prop} {s : Shared}
end
def gStarT (K : PySem.W.Frag) (t : TGs) : TG := fun v σ H Q => ∃ a x xs, v = .ref a ∧ (SqL K H a (x :: xs) ∨ SqT K H a (x :: xs)) ∧ xs.length ≤ 16000 ∧ ∀ p, H p = none → t [x, .ref p] σ (upd H p (.lst xs)) Q
section
variable {X : Cx} {K : PySem.W.Frag} {W : WX} {pos : Pos}
def starD : RV → Option (D × List D)
  | .v (.lst (d :: ds)) => some (d, ds)
  | .v (.frl (d :: ds)) => some (d, ds)
  | .v (.tup (d :: ds)) => some (d, ds)
  | _ => none
def wStar (we : WE) (i j : Nat) : WS := fun e r om => we e.xq r om fun x r1 om1 => wd (starD (fz x)) fun p => p.2.length ≤ 16000 ∧ putP [i, j] [p.1, .lst p.2] r1 fun r2 => e.nx r2 om1
def two2 : List D → Option (D × D)
  | [a, b] => some (a, b)
  | _ => none
def setE (n : Int) (d : D) : List D → (List D → D → Prop) → Prop := fun es c => wd (ixN es.length n) fun m => c (es.set m d) .non
def wSwp (i : Nat) (wa : WA) (w1 w2 : WE) : WS := fun e r om => wa e.xq r om fun xs r1 om1 => wd (datsE xs) fun ds => wd (two2 ds) fun p => lstS om1 r1 i ∧ w1 e.xq r1 om1 fun y r2 om2 => wd (datB r2 om2 y) fun j => wd (intD j) fun n =>
  wMutE i (setE n p.1) r2 om2 fun _ r3 om3 => w2 e.xq r3 om3 fun y' r4 om4 => wd (datB r4 om4 y') fun j' => wd (intD j') fun n' => wMutE i (setE n' p.2) r4 om4 fun _ r5 om5 => e.nx r5 om5
theorem setE_at {n : Int} {d : D} {es : List D} {c : List D → D → Prop} : setE n d es c = wd (ixN es.length n) fun m => c (es.set m d) .non := rfl
def rLenD : List V → Hp → VK → Prop := fun xs H Q => ∃ (a : Addr) (kvs : List (Key × V)), xs = [.ref a] ∧ Rd H a (.dK kvs) ∧ Q (.int (kvs.length : Int)) H
def wDLen (i : Nat) : WE := fun _ r om k => rdDct r[i]? om fun _ ps => k (.v (.int (ps.length : Int))) r om
end
end DL

set_option Elab.async false
set_option linter.all false
set_option maxRecDepth 100000
namespace DL
open PySem L2
def listsD (L : List (List (List Int))) : List D := L.map fun rs => .lst (rowsD rs)
theorem lists_len (L : List (List (List Int))) : (listsD L).length = L.length := by simp [listsD]
theorem eqvA_ints : ∀ a b : List Int, PyData.eqvAll (pys (a.map D.int)) (pys (b.map D.int)) = decide (a = b)
  | [], [] => by simp [pys, PyData.eqvAll]
  | [], y :: b => by simp [pys, PyData.eqvAll]
  | x :: a, [] => by simp [pys, PyData.eqvAll]
  | x :: a, y :: b => by by_cases h : x = y <;> simp [pys, py, PyData.eqvAll, PyData.eqv, eqvA_ints a b, h]
theorem eqv_rowR (a b : List Int) : PyData.eqv (py (rowD a)) (py (rowD b)) = decide (a = b) := by
  simp only [rowD, py, PyData.eqv]; exact eqvA_ints a b
theorem eqvA_rows : ∀ a b : List (List Int), PyData.eqvAll (pys (rowsD a)) (pys (rowsD b)) = decide (a = b)
  | [], [] => by simp [rowsD, pys, PyData.eqvAll]
  | [], y :: b => by simp [rowsD, pys, PyData.eqvAll]
  | x :: a, [] => by simp [rowsD, pys, PyData.eqvAll]
  | x :: a, y :: b => by
    have ih := eqvA_rows a b
    unfold rowsD at ih ⊢
    simp only [List.map_cons, pys, PyData.eqvAll, eqv_rowR, ih]
    by_cases h : x = y <;> simp [h]
theorem eqD_iL (a b : List Int) : eqD (.lst (a.map D.int)) (.lst (b.map D.int)) = decide (a = b) := by simp only [eqD, py, PyData.eqv]; exact eqvA_ints a b
theorem eqD_rL (a b : List (List Int)) : eqD (.lst (rowsD a)) (.lst (rowsD b)) = decide (a = b) := by simp only [eqD, py, PyData.eqv]; exact eqvA_rows a b
theorem eqD_00 : eqD (.lst []) (.lst []) = true := by simpa using eqD_iL [] []
theorem deps_row1 (rs : List (List Int)) : okcs (rowsD rs) = true ∧ deps (rowsD rs) ≤ 1 := by
  induction rs with
  | nil => exact ⟨rfl, Nat.zero_le _⟩
  | cons r rs ih =>
    refine ⟨by simp only [rowsD, List.map_cons, okcs, okc_row, Bool.true_and]; exact ih.1, ?_⟩
    have i2 : deps (rowsD rs) ≤ 1 := ih.2
    have i3 := dep_row r
    simp only [rowsD, List.map_cons, deps] at i2 ⊢
    omega
theorem okE_iL (a : List Int) : okE (.lst (a.map D.int)) = True := eq_true (okE_of (by simp only [okc, okcs_ints]) (by simp only [dep, deps_ints]; omega))
theorem okE_iT (a : List Int) : okE (.tup (a.map D.int)) = True := eq_true (okE_of (by simp only [okc, okcs_ints]) (by simp only [dep, deps_ints]; omega))
theorem okE_rw (a : List Int) : okE (rowD a) = True := okE_iT a
theorem okE_rL (a : List (List Int)) : okE (.lst (rowsD a)) = True := eq_true (okE_of (by simp only [okc]; exact (deps_row1 a).1) (by have := (deps_row1 a).2; simp only [dep]; omega))
theorem okE_0L : okE (.lst []) = True := okE_iL []
theorem ixK_lists {L : List (List (List Int))} {i : Int} {c : RV → Prop} {t : Tg c} (h0 : 0 ≤ i) (h1 : i < (L.length : Int)) (h : c (.v (.lst (rowsD (L.getD i.toNat []))))) : ixK (listsD L) i c t := by
  unfold ixK listsD
  rw [atI_ge h0 (by rw [List.length_map]; exact h1), List.getElem?_map, List.getElem?_eq_getElem (by omega)]
  rw [List.getD_eq_getElem?_getD, List.getElem?_eq_getElem (by omega)] at h
  exact h
theorem while_inv {wt : WT} {wb : WS} {e : DEnds} {r : DL.Env} {om : Om} (I : Nat → DL.Env → Om → Prop) {m : Nat} (h0 : I m r om) (hs : ∀ m r om, I m r om → wt e.xq r om fun b r1 om1 => cnd b (wb { e with nx := fun r' om' => ∃ m', m' < m ∧ I m' r' om', ct := fun r' om' => ∃ m', m' < m ∧ I m' r' om', bk := e.nx } r1 om1) (e.nx r1 om1)) : wWhile wt wb e r om := by
  refine ⟨I, ⟨m, h0⟩, fun m r om h => ?_⟩
  have := hs m r om h
  simp only [cnd] at this
  exact this
theorem cutD_0j {ds : List D} {j : Nat} : cutD ds none (some (j : Int)) = ds.take j := by
  unfold cutD
  rw [HT.sIx_none, HT.sIx_nat, List.drop_zero, Nat.sub_zero, List.take_eq_take_iff]; omega
theorem rows_get {rs : List (List Int)} {i : Nat} {d : D} (h : (rowsD rs)[i]? = some d) : ∃ r, rs[i]? = some r ∧ d = rowD r := by
  unfold rowsD at h
  rw [List.getElem?_map] at h
  obtain ⟨r, e, rfl⟩ := Option.map_eq_some_iff.mp h
  exact ⟨r, e, rfl⟩
theorem ltD_rows (a b : List Int) : ltD (rowD a) (rowD b) = decide (a < b) := by
  have e : ∀ a : List Int, py (rowD a) = .tuple (a.map .int) := fun a => by simp only [rowD, py, pys_ints]
  unfold ltD
  rw [e, e, PySem.W.dataLt_tuple]
  exact PySem.W.dataLt_ints a b
def sortL (rs : List (List Int)) : List (List Int) := rs.mergeSort fun a b => !decide (b < a)
theorem sortD_rows (rs : List (List Int)) : sortD (rowsD rs) = rowsD (sortL rs) := by
  unfold sortD sortL rowsD
  rw [List.map_mergeSort (r := fun a b => !decide (b < a)) (s := fun a b => !ltD b a) (f := rowD) (l := rs)]
  intro a _ b _
  rw [ltD_rows]
theorem okSort_rows {rs : List (List Int)} (h : ∀ r ∈ rs, r ≠ []) : okSort (rowsD rs) := by
  refine ⟨(okcs_py _ (deps_row1 rs).1).1, ?_, .inl ?_, ?_⟩
  · unfold rowsD
    rw [pys_map, List.map_map]
    exact PySem.W.AllAlike.of fun r q => by simp only [Function.comp, rowD, py, PySem.W.alike, pys_ints, PySem.W.alike_ints]
  · intro d m
    unfold rowsD at m
    rw [pys_map, List.map_map] at m
    obtain ⟨r, mr, rfl⟩ := List.mem_map.mp m
    cases hr : r with
    | nil => exact absurd hr (h r mr)
    | cons x q => exact ⟨.int x, pys (q.map D.int), by simp only [Function.comp, rowD, py, List.map_cons, pys]⟩
  · intro e m
    unfold rowsD at m
    rw [pys_map, List.map_map] at m
    obtain ⟨r, _, rfl⟩ := List.mem_map.mp m
    show (py (rowD r)).depth ≤ 40
    rw [(okc_py _ (okc_row r)).2.2.2, dep_row]; decide
theorem sortL_perm (rs : List (List Int)) : (sortL rs).Perm rs := List.mergeSort_perm _ _
theorem sortL_pw (rs : List (List Int)) : (sortL rs).Pairwise fun a b => a ≤ b := by
  have h := List.pairwise_mergeSort (le := fun a b : List Int => !decide (b < a)) (fun a b d => ?_) (fun a b => ?_) rs
  · exact h.imp fun h => by simpa using h
  · simp only [Bool.not_eq_true', decide_eq_false_iff_not]; exact fun h g => List.le_trans h g
  · simp only [Bool.or_eq_true, Bool.not_eq_true', decide_eq_false_iff_not]; exact List.le_total a b
theorem pwL_uniq : ∀ {l m : List (List Int)}, l.Perm m → (l.Pairwise fun a b => a ≤ b) → (m.Pairwise fun a b => a ≤ b) → l = m
  | [], m, h, _, _ => (List.nil_perm.mp h).symm
  | x :: l, [], h, _, _ => by have := h.length_eq; simp at this
  | x :: l, y :: m, h, hl, hm => by
    obtain ⟨a1, a2⟩ := List.pairwise_cons.mp hl
    obtain ⟨b1, b2⟩ := List.pairwise_cons.mp hm
    have e : x = y := by
      have mx : x ∈ y :: m := h.mem_iff.mp (by simp)
      have my : y ∈ x :: l := h.mem_iff.mpr (by simp)
      rcases List.mem_cons.mp mx with e | mx
      · exact e
      rcases List.mem_cons.mp my with e | my
      · exact e.symm
      exact List.le_antisymm (a1 y my) (b1 x mx)
    subst e
    rw [pwL_uniq (List.perm_cons x |>.mp h) a2 b2]
section
variable {X : Cx} {W : WX} {pos : Pos}
def wTR2 (wa wb : WE) : WE := fun xq r om k => wa xq r om fun x r1 om1 => wb xq r1 om1 fun y r2 om2 => wd (datB r2 om2 x) fun d => wd (intD d) fun i => wd (datB r2 om2 y) fun e => wd (intD e) fun j => (0 ≤ i ∧ i ≤ j ∧ j ≤ 16777216) ∧ k (.v (.tup (rng i (j - i).toNat))) r2 om2
end
end DL

set_option Elab.async false
set_option linter.all false
set_option maxRecDepth 100000
namespace DL
open PySem L2
def entB (l : List DictEntry) (tab : List (Str × Int)) : Bool := match l, tab with
  | [], [] => true
  | e :: l, (x, i) :: tab => (match e.key, e.val with
    | .str y _, .int j _ => decide (y = x) && decide (j = i)
    | _, _ => false) && entB l tab
  | _, _ => false
def tabB (K : PySem.W.Frag) (x : Str) (tab : List (Str × Int)) : Bool := match K.lookup (He.ga K x) with
  | some ⟨_, _, .dict es _, _⟩ => entB es.toList tab
  | _ => false
def tabD (tab : List (Str × Int)) (z : Str) : Option Int := (tab.find? fun q => decide (q.1 = z)).map (·.2)
theorem entB_find : ∀ {l : List DictEntry} {tab : List (Str × Int)} (z : Str), entB l tab = true → (∃ i t, tabD tab z = some i ∧ ((l.find? fun e => Value.isStrOf z e.key).map (·.val)) = some (.int i t)) ∨ (tabD tab z = none ∧ ((l.find? fun e => Value.isStrOf z e.key).map (·.val)) = none)
  | [], [], z, _ => .inr ⟨rfl, rfl⟩
  | [], _ :: _, _, h => by simp [entB] at h
  | _ :: _, [], _, h => by simp [entB] at h
  | e :: l, (x, i) :: tab, z, h => by
    simp only [entB, Bool.and_eq_true] at h
    obtain ⟨h1, h2⟩ := h
    have ih := entB_find z h2
    split at h1
    · next y t0 j t1 ek ev =>
      simp only [Bool.and_eq_true, decide_eq_true_eq] at h1
      obtain ⟨rfl, rfl⟩ := h1
      by_cases hz : y = z
      · subst hz
        refine .inl ⟨j, t1, by simp [tabD], ?_⟩
        rw [List.find?_cons, ek]
        simp [Value.isStrOf, ev]
      · have e1 : tabD ((y, j) :: tab) z = tabD tab z := by simp [tabD, hz]
        have e2 : Value.isStrOf z e.key = false := by rw [ek]; simp [Value.isStrOf, hz]
        rw [e1, List.find?_cons, e2]
        exact ih
    · cases h1
structure DicT (K : PySem.W.Frag) (w : World) (x : Str) (tab : List (Str × Int)) : Prop where
  ok : ∃ es n, KDict K w (He.ga K x) es n ∧ ∀ z : Str, (∃ i t, tabD tab z = some i ∧ PySem.findBy Value.isStrOf es z = some (.int i t)) ∨ (tabD tab z = none ∧ PySem.findBy Value.isStrOf es z = none)
theorem DicT.of {K : PySem.W.Frag} {w : World} {x : Str} {tab : List (Str × Int)} {es : Array DictEntry} {n : Nat} (h : KDict K w (He.ga K x) es n) (hb : tabB K x tab = true) : DicT K w x tab := by
  refine ⟨es, n, h, fun z => ?_⟩
  unfold tabB at hb
  rw [h.at_] at hb
  have := entB_find z hb
  obtain ⟨l⟩ := es
  unfold PySem.findBy
  rw [List.find?_toArray]
  exact this
section
variable {X : Cx} {W : WX} {pos : Pos}
def tKGet (tab : List (Str × Int)) (ty : TE) : TE := fun σ H Q => ty σ H fun y H2 => ∃ z, y = .str z ∧ Q (match tabD tab z with | some i => .int i | none => .non) H2
def strD : D → Option Str
  | .str z => some z
  | _ => none
def getT (tab : List (Str × Int)) (o : D) (z : Str) : D := match tabD tab z with
  | some i => .int i
  | none => o
def wGGet (tab : List (Str × Int)) (we : WE) : WE := fun xq r om k => we xq r om fun x r1 om1 => wd (datB r1 om1 x) fun d => wd (strD d) fun z => k (.v (getT tab .non z)) r1 om1
def wGGetC (tab : List (Str × Int)) (o : D) (we : WE) : WE := fun xq r om k => we xq r om fun x r1 om1 => wd (datB r1 om1 x) fun d => wd (strD d) fun z => k (.v (getT tab o z)) r1 om1
end
def obsZG (n : Nat) (fa : List He.Fa) (fn : List He.DefD) (ex : PySem.W.Frag → Bool) (ts : List (Str × List Str)) (g : Addr → Option Obj) : (He.AlD × Bool) × List (Option (List (Option (Str × Int)))) :=
  (obsYG n fa fn ex g, ts.map fun q : Str × List Str => He.dicW (He.frG g (He.asD g n)) (He.ga (He.frG g (He.asD g n)) q.1))
def hookZ (n : Nat) (fa : List He.Fa) (fn : List He.DefD) (ex : PySem.W.Frag → Bool) (ts : List (Str × List Str)) : PySem.W.Hook where
  α := (He.AlD × Bool) × List (Option (List (Option (Str × Int))))
  obs := fun s => obsZG n fa fn ex ts s.heap.get?
  val := fun w => ((He.valD fn, true), ts.map fun q : Str × List Str => some (He.keysIn w.params q.2))
  says := fun w h => ∃ K : PySem.W.Frag, K.In h ∧ He.SaysD fa fn K ∧ ex K = true ∧ (ts.map fun q : Str × List Str => He.dicW K (He.ga K q.1)) = ts.map fun q : Str × List Str => some (He.keysIn w.params q.2)
  of := fun _ _ e => ⟨_, He.frG_in, congrArg (fun z : (He.AlD × Bool) × List (Option (List (Option (Str × Int)))) => z.1.1) e, congrArg (fun z : (He.AlD × Bool) × List (Option (List (Option (Str × Int)))) => z.1.2) e, congrArg (fun z : (He.AlD × Bool) × List (Option (List (Option (Str × Int)))) => z.2) e⟩
  keeps := fun _ _ _ ⟨K, hK, c⟩ k => ⟨K, PySem.W.Frag.In.keeps hK k, c⟩
section
variable {X : Cx}
open PySem.W PyProof.Rows
def rMaxT (K : PySem.W.Frag) : List V → Hp → VK → Prop := fun vs H Q => ∃ (a : Addr) (n : Int) (ns : List Int), vs = [V.ref a] ∧ SqT K H a ((n :: ns).map V.int) ∧ Q (.int (ns.foldl max n)) H
def maxLf : List Int → (RV → Prop) → Prop
  | [], _ => False
  | n :: ns, c => c (.v (.int (ns.foldl max n)))
def pMaxT : PN := fun ds c => wd (one ds) fun d => wd (seqT d) fun es => wd (nums es) fun ns => maxLf ns c
end
section
variable {X : Cx}
end
section
variable {X : Cx} {W : WX} {pos : Pos}
def wTR1 (we : WE) : WE := fun xq r om k => we xq r om fun x r1 om1 => wd (datB r1 om1 x) fun d => wd (intD d) fun n => (-(2 ^ 62) ≤ n ∧ n ≤ 16777216) ∧ k (.v (.tup (rng 0 n.toNat))) r1 om1
end
end DL

set_option Elab.async false
set_option linter.all false
set_option maxRecDepth 100000
namespace DL
open PySem L2
def strsB : List Value → List Str → Bool
  | [], [] => true
  | .str y _ :: l, x :: xs => decide (y = x) && strsB l xs
  | _, _ => false
def tupB (K : PySem.W.Frag) (x : Str) (ss : List Str) : Bool := match K.lookup (He.ga K x) with
  | some o => (match o.cls, o.data with
    | .type "tuple", .seq its _ => decide (its.size ≤ 1000) && strsB its.toList ss
    | _, _ => false)
  | none => false
def scal : D → Option V
  | .non => some .non
  | .bl b => some (.bl b)
  | .int i => some (.int i)
  | .str x => some (.str x)
  | _ => none
def scals : List D → Option (List V)
  | [] => some []
  | d :: ds => (scal d).bind fun v => (scals ds).map (v :: ·)
def pInA : P2 := fun d e c => match e with
  | .tup es => wd (scal d) fun x => wd (scals es) fun xs => c (.v (.bl (inV x xs)))
  | e => pIn d e c
def pNotInA : P2 := fun d e c => match e with
  | .tup es => wd (scal d) fun x => wd (scals es) fun xs => c (.v (.bl (!inV x xs)))
  | e => pNotIn d e c
section
variable {X : Cx}
def rOr (a b : R2) : R2 := fun x y H Q => a x y H Q ∨ b x y H Q
end
end DL

set_option Elab.async false
set_option linter.all false
set_option maxRecDepth 100000
namespace DL
open PySem L2 PySem.W
section
variable {K : PySem.W.Frag} {F F' H H' : Hp} {om om1 : Om}
def wout (S : List Addr) (om : Om) : Om := fun b => if b ∈ S then none else om b
mutual
def thaw (S : List Addr) (om : Om) : D → D
  | .h a => if a ∈ S then (match om a with | some (.lst ds) => .lst ds | _ => .h a) else .h a
  | .tup ds => .tup (thaws S om ds)
  | d => d
def thaws (S : List Addr) (om : Om) : List D → List D
  | [] => []
  | d :: ds => thaw S om d :: thaws S om ds
end
def frzC (c : Con) : Con := ⟨c.n, fun ds om k xk => c.df ds om (fun x om2 => ∀ S om1 d, (∀ b ∈ S, om b = none) → om2 = wout S om1 → x = .v (thaw S om1 d) → k (.v d) om1) xk, fun ds om k xk h => c.len ds om _ _ h, fun ds om k k' xk xk' hk hx h => c.mono _ _ _ _ _ _ (fun x om2 g S om1 d h1 h2 h3 => hk _ _ (g S om1 d h1 h2 h3)) (fun ex om1 g => hx _ _ g) h⟩
def frzF (S : List Addr) (om1 : Om) (F H : Hp) : Hp := fun b => match F b with
  | some o => some o
  | none => if b ∈ S then (match om1 b with | some (.lst _) => H b | _ => none) else none
end
end DL

set_option Elab.async false
set_option linter.all false
set_option maxRecDepth 100000
namespace DL
open PySem L2 PySem.W PyProof.Rows
section
variable {X : Cx} {K : PySem.W.Frag} {B : Base} {F F' H H' : Hp} {om : Om} {st : L2.St} {r : Env} {W : WX} {pos : Pos}
def getF (f : Str) : List (Str × D) → Option D
  | [] => none
  | (g, d) :: ps => if f == g then some d else getF f ps
def setF (f : Str) (d : D) : List (Str × D) → List (Str × D)
  | [] => [(f, d)]
  | (g, e) :: ps => if g == f then (g, d) :: ps else (g, e) :: setF f d ps
theorem getF_hd {f g : Str} {d : D} {ps : List (Str × D)} : getF f ((g, d) :: ps) = if f == g then some d else getF f ps := rfl
theorem getF_nil {f : Str} : getF f [] = none := rfl
theorem setF_hd {f g : Str} {d e : D} {ps : List (Str × D)} : setF f d ((g, e) :: ps) = if g == f then (g, d) :: ps else (g, e) :: setF f d ps := rfl
theorem setF_nil {f : Str} {d : D} : setF f d [] = [(f, d)] := rfl
theorem FsOk.get {f : Str} : ∀ {fs : List (Str × V)} {ps : List (Str × D)}, FsOk K F fs ps → (∀ d, getF f ps = some d → ∃ v, fs.lookup f = some v ∧ Rep K F v d) ∧ (getF f ps = none → fs.lookup f = none)
  | [], [], _ => ⟨fun d e => (by cases e), fun _ => rfl⟩
  | (g, v) :: fs, (g', d) :: ps, ⟨h1, h2, h3⟩ => by
    subst h1
    obtain ⟨i1, i2⟩ := FsOk.get (f := f) h3
    simp only [getF, List.lookup_cons]
    by_cases e : f == g
    · simp only [e, if_true]
      exact ⟨fun d' e' => (by cases e'; exact ⟨v, rfl, h2⟩), fun e' => (by cases e')⟩
    · simp only [e]
      exact ⟨i1, i2⟩
  | [], _ :: _, h => h.elim
  | _ :: _, [], h => h.elim
theorem FsOk.set {f : Str} {v : V} {d : D} (rp : Rep K F v d) : ∀ {fs : List (Str × V)} {ps : List (Str × D)}, FsOk K F fs ps → FsOk K F (putF f v fs) (setF f d ps)
  | [], [], _ => ⟨rfl, rp, trivial⟩
  | (g, w) :: fs, (g', e) :: ps, ⟨h1, h2, h3⟩ => by
    subst h1
    unfold putF setF
    by_cases q : g = f
    · rw [if_pos q, if_pos (beq_iff_eq.mpr q)]; exact ⟨rfl, rp, h3⟩
    · rw [if_neg q, if_neg (fun z => q (beq_iff_eq.mp z))]; exact ⟨rfl, h2, FsOk.set rp h3⟩
  | [], _ :: _, h => h.elim
  | _ :: _, [], h => h.elim
theorem FsOk.len : ∀ {fs : List (Str × V)} {ps : List (Str × D)}, FsOk K F fs ps → fs.length = ps.length
  | [], [], _ => rfl
  | (_, _) :: _, (_, _) :: _, ⟨_, _, h⟩ => congrArg Nat.succ (FsOk.len h)
  | [], _ :: _, h => h.elim
  | _ :: _, [], h => h.elim
def rdInh (o : Option Ob) (c : Str) (a : Addr) (f : Addr → List (Str × D) → Prop) (_ : Tg f := .mk) : Prop := match o with
  | some (.ins c' ps) => c' = c ∧ f a ps
  | _ => False
def rdIn (x : RV) (om : Om) (c : Str) (f : Addr → List (Str × D) → Prop) (_ : Tg f := .mk) : Prop := match x with
  | .v (.h a) => rdInh (om a) c a f
  | _ => False
theorem rdIn_h {a : Addr} {om : Om} {c : Str} {f : Addr → List (Str × D) → Prop} {t : Tg f} : rdIn (.v (.h a)) om c f t = rdInh (om a) c a f := rfl
theorem rdInh_i {a : Addr} {c : Str} {ps : List (Str × D)} {f : Addr → List (Str × D) → Prop} {t : Tg f} : rdInh (some (.ins c ps)) c a f t = f a ps := by
  show (c = c ∧ f a ps) = f a ps
  simp
theorem rdIn_inv {x : RV} {y : V} {c : Str} {f : Addr → List (Str × D) → Prop} (R : Rel K B F om H st r) (q : Res K B F om H st r y x) (h : rdIn x om c f) :
    ∃ a dx fs ps, y = .ref a ∧ x = .v (.h a) ∧ om a = some (.ins c ps) ∧ H a = some (.ins (He.ga K c) dx fs) ∧ FsOk K F fs ps ∧ f a ps := by
  unfold rdIn at h
  split at h
  · next a =>
    unfold rdInh at h
    split at h
    · next c' ps e =>
      obtain ⟨rfl, h⟩ := h
      cases (show Rep K F y (.h a) from q)
      obtain ⟨dx, fs, e1, e2⟩ := (R.rh.obj a _ e).2.ins
      exact ⟨a, dx, fs, ps, rfl, rfl, e, e1, e2, h⟩
    · exact h.elim
  · exact h.elim
def wFld (c f : Str) (we : WE) : WE := fun xq r om k => we xq r om fun x r1 om1 => rdIn x om1 c fun _ ps => wdK (getF f ps) fun d => k (.v d) r1 om1
theorem wFld_q {c f : Str} {we : WE} {xq : DX} {r : Env} {om : Om} {k : RV → Env → Om → Prop} : wFld c f we xq r om k = we xq r om fun x r1 om1 => rdIn x om1 c fun _ ps => wdK (getF f ps) fun d => k (.v d) r1 om1 := rfl
structure ClF (K : PySem.W.Frag) (c : Str) (fl : List Str) : Prop where
  cls : Cls K (He.ga K c)
  no : ∀ f ∈ fl, NoAttr K (He.ga K c) f
theorem se_fld {c f : Str} {fl : List Str} {te : TE} {we : WE} (C : ClF K c fl) (hf : f ∈ fl) (he : SE K W te we) : SE K W (tFld K te f) (wFld c f we) := by
  intro B F om H st r xq k Q R hx hQ hw
  refine he B F om H st r xq _ _ R hx (fun x r1 om1 F1 H1 y R1 s1 k1 q1 hw => ?_) hw
  obtain ⟨a, dx, fs, ps, rfl, rfl, e1, e2, e3, hw⟩ := rdIn_inv R1 q1 hw
  obtain ⟨d, e4, hw⟩ := wd_iff hw
  obtain ⟨v, e5, rp⟩ := (FsOk.get e3).1 d e4
  exact ⟨a, _, dx, fs, v, rfl, e2, C.cls, C.no f hf, e5, hQ (.v d) _ _ _ _ _ R1 s1 k1 rp hw⟩
theorem de_fld {c f : Str} {fl : List Str} {e : Expr} {te : TE} {we : WE} (C : ClF X.K c fl) (hf : f ∈ fl) (he : DE X W e te we) (hb : attributeBase e f X.env (eval e X.env) = eval e X.env := by rfl) {K' : PySem.W.Frag} (hK : X.K = K' := by rfl) :
    DE X W (.Attribute e f pos) (tFld K' te f) (wFld c f we) := by
  subst hK
  exact ⟨pe_fld he.p hb, se_fld C hf he.s⟩
def wFldS (c f : Str) (wo we : WE) : WS := fun e r om => we e.xq r om fun x r1 om1 => wo e.xq r1 om1 fun y r2 om2 => wd (datE x) fun d => rdIn y om2 c fun a ps => ps.length < 1000 ∧ e.nx r2 (oset om2 a (.ins c (setF f d ps)))
theorem wFldS_e {c f : Str} {wo we : WE} {nx : DL.Env → Om → Prop} {rt : RV → Om → Prop} {bk ct : DL.Env → Om → Prop} {xq : DX} {r : DL.Env} {om : Om} : wFldS c f wo we ⟨nx, rt, bk, ct, xq⟩ r om = we xq r om fun x r1 om1 => wo xq r1 om1 fun y r2 om2 => wd (datE x) fun d => rdIn y om2 c fun a ps => ps.length < 1000 ∧ nx r2 (oset om2 a (.ins c (setF f d ps))) := rfl
theorem ss_fldS {c f : Str} {fl : List Str} {to te : TE} {wo we : WE} (C : ClF K c fl) (hf : f ∈ fl) (ho : SE K W to wo) (he : SE K W te we) : SS K W (sFld K to te f) (wFldS c f wo we) := fun B F om H st r D e R hx hE hw => by
  refine he B F om H st r e.xq _ _ R hx (fun x r1 om1 F1 H1 y R1 s1 k1 q1 hw => ?_) hw
  obtain ⟨F2, s2, R2, q2⟩ := R1.fz q1
  refine ho B F2 om1 H1 st r1 e.xq _ _ R2 hx (fun x' r3 om3 F3 H3 y' R3 s3 k3 q3 hw => ?_) hw
  obtain ⟨d, e1, hw⟩ := wd_iff hw
  obtain ⟨a, dx, fs, ps, rfl, rfl, g1, g2, g3, hw⟩ := rdIn_inv R3 q3 hw
  have rp : Rep K F3 y d := (datE_rep q2 e1).mono s3
  refine ⟨a, _, dx, fs, rfl, g2, C.cls, C.no f hf, by rw [g3.len]; exact hw.1, ?_⟩
  exact hE.nx _ _ _ _ _ (R3.writeO (ob' := .ins c (setF f d ps)) g1 ⟨rfl, g3.set rp⟩) hw.2
theorem ds_fldS {c f : Str} {fl : List Str} {o e : Expr} {pos' : Pos} {to te : TE} {wo we : WE} (C : ClF X.K c fl) (hf : f ∈ fl) (ho : DE X W o to wo) (he : DE X W e te we) (hs : swapsWith e (some (.Attribute o f pos')) pos.line X.env = pure false := by rfl) {K' : PySem.W.Frag} (hK : X.K = K' := by rfl) :
    DS X W (.Assign [.Attribute o f pos'] e pos) (sFld K' to te f) (wFldS c f wo we) := by
  subst hK
  exact ⟨ps_fld ho.p he.p hs, ss_fldS C hf ho.s he.s⟩
def tMethW (C : Addr) (m : Str) (sp : Sp) (E : L2.St → XK) (to : TE) (t : TA) : TE := fun σ H Q => to σ H fun x H1 => ∃ a dx fs, x = .ref a ∧ H1 a = some (.ins C dx fs) ∧ fs.lookup m = none ∧ t σ H1 fun vs H2 => sp (x :: vs) H2 Q (E σ)
theorem run_fnW {k : Nat} {f : Addr} {fd : FuncData} {ps : List Str} {sp : Sp} {E : L2.St → XK} {pins : List (Addr × Obj)} {σ : L2.St} {s : Shared} {Q : VK} {us : List Value} {vs : List V} (F : FnOk X.prog X.w X.K X.mg X.base (L2.CX X.prog X.w) k f fd ps sp) {A1 : Around} (hr : Room k A1) (en : Env0 X.prog X.w X.K X.mg X.base A1 X.stack s H) (hb : Binds X.K fd ps [])
    (hx : PassesAt (L2.CX X.prog X.w) X σ (E σ)) (I : Inv X pins σ H s) (rv : Vals vs us) (h : sp vs H Q (E σ)) : wpAny (model X.prog X.w) A1 (call (.ref f) us) (EP X pins σ Q) X.xe s := by
  have hl : us.length = ps.length := rv.length.symm.trans (F.len _ _ _ _ h)
  have hb' := hb s us I.kIn (by rw [List.append_nil]; exact hl)
  rw [List.append_nil] at hb'
  refine wpAny_call (codeAny_mono (F.run A1 X.stack s H ⟨us, []⟩ us vs Q (E σ) hr en hb' rv h) fun q s' hq => ?_)
  match q, hq with
  | .error e, hq => exact hx pins H s e s' I hq
  | .ok (.ret u), hq => exact I.after hq
theorem pe_methW {k : Nat} {f C : Addr} {fd : FuncData} {ps : List Str} {sp : Sp} {E : L2.St → XK} {m : Str} {o e : Expr} {es : List Expr} {apos : Pos} {to : TE} {t : TA} {pl : Sem Bool} (c : Cls X.K C) (hm : Meth X.K C m f) (F : FnOk X.prog X.w X.K X.mg X.base (L2.CX X.prog X.w) k f fd ps sp) (hr : Room k X.A) (hb : Binds X.K fd ps []) (hx : ∀ σ, PassesAt (L2.CX X.prog X.w) X σ (E σ))
    (he : PE X o to) (ha : PA X (e :: es) t) (hst : starEach (e :: es) X.env = (false, eval e X.env) :: starEach es X.env) (hpl : (backTo pos (starEach es X.env)).any (·.1) = false)
    (ht : eval (.Call (.Attribute o m apos) (e :: es) [] pos) X.env = (do let ov ← eval o X.env; standAt apos.atName; let (f, first) ← holding [ov] (getMethod ov m pl); callWith pos f first (backTo pos (starEach (e :: es) X.env)) (backToKw pos (keywordEach [] X.env)))) :
    PE X (.Call (.Attribute o m apos) (e :: es) [] pos) (tMethW C m sp E to t) := ⟨fun pins s σ H Q I h => methodCall_KW (pl := pl) (thn (he.run pins s σ H _ I h) fun u s1 ⟨x, H1, I1, rx, a, dx, fs, ex, ea, l, q⟩ => by
    subst ex
    cases (show u = Value.ref a from rx)
    exact getmeth_ok I1 ea c hm l (callWith_K (first := [.ref a]) (h₀ := X.base) I.ok.mod.kin hm.kp (thn (ha.run pos pins s1 σ H1 _ I1 q) fun us s2 ⟨vs, H2, I2, rv, q2⟩ => ⟨I2.kIn, run_fnW (us := .ref a :: us) (vs := .ref a :: vs) F hr I2.env0 hb (hx σ) I2 (.cons rfl rv) q2⟩) hst hpl)) ht⟩
theorem pe_methW0 {k : Nat} {f C : Addr} {fd : FuncData} {ps : List Str} {sp : Sp} {E : L2.St → XK} {m : Str} {o : Expr} {apos : Pos} {to : TE} {pl : Sem Bool} (c : Cls X.K C) (hm : Meth X.K C m f) (F : FnOk X.prog X.w X.K X.mg X.base (L2.CX X.prog X.w) k f fd ps sp) (hr : Room k X.A) (hb : Binds X.K fd ps []) (hx : ∀ σ, PassesAt (L2.CX X.prog X.w) X σ (E σ))
    (he : PE X o to) (ht : eval (.Call (.Attribute o m apos) [] [] pos) X.env = (do let ov ← eval o X.env; standAt apos.atName; let (f, first) ← holding [ov] (getMethod ov m pl); callWith pos f first (backTo pos (starEach [] X.env)) (backToKw pos (keywordEach [] X.env)))) :
    PE X (.Call (.Attribute o m apos) [] [] pos) (tMethW C m sp E to tNil) := ⟨fun pins s σ H Q I h => methodCall_KW (pl := pl) (thn (he.run pins s σ H _ I h) fun u s1 ⟨x, H1, I1, rx, a, dx, fs, ex, ea, l, q⟩ => by
    subst ex
    cases (show u = Value.ref a from rx)
    exact getmeth_ok I1 ea c hm l (callWith_K0 (first := [.ref a]) I1.kIn hm.kp (run_fnW (us := [.ref a]) (vs := [.ref a]) F hr I1.env0 hb (hx σ) I1 (.cons rfl .nil) q))) ht⟩
def DefM (P : Program) (w : World) (K : PySem.W.Frag) (mg : Str → Option Value) (base : Heap) (c m : Str) (cn : Con) (k : Nat) : Prop :=
  Cls K (He.ga K c) ∧ ∃ (a : Addr) (fd : FuncData) (ps : List Str), Meth K (He.ga K c) m a ∧ FnOk P w K mg base (L2.CX P w) k a fd ps (toSp K cn) ∧ Binds K fd ps []
def wMeth (c m : Str) (df : DF) (wo : WE) (wa : WA) : WE := fun xq r om k => wo xq r om fun x r1 om1 => rdIn x om1 c fun a ps => getF m ps = none ∧ wa xq r1 om1 fun xs r2 om2 => wd (datsE xs) fun ds => callK df (.h a :: ds) om2 (fun x om' => k x r2 om') (fun ex om' => xq ex r2 om')
theorem wMeth_q {c m : Str} {df : DF} {wo : WE} {wa : WA} {xq : DX} {r : Env} {om : Om} {k : RV → Env → Om → Prop} : wMeth c m df wo wa xq r om k = wo xq r om fun x r1 om1 => rdIn x om1 c fun a ps => getF m ps = none ∧ wa xq r1 om1 fun xs r2 om2 => wd (datsE xs) fun ds => callK df (.h a :: ds) om2 (fun x om' => k x r2 om') (fun ex om' => xq ex r2 om') := rfl
theorem se_meth {c m : Str} {cn : Con} {to : TE} {wo : WE} {t : TA} {wa : WA} (ho : SE K W to wo) (ha : SA K W t wa) : SE K W (tMethW (He.ga K c) m (toSp K cn) (L2.WE W) to t) (wMeth c m cn.df wo wa) := by
  intro B F om H st r xq k Q R hx hQ hw
  refine ho B F om H st r xq _ _ R hx (fun x r1 om1 F1 H1 y R1 s1 k1 q1 hw => ?_) hw
  obtain ⟨a, dx, fs, ps, rfl, rfl, e1, e2, e3, hw⟩ := rdIn_inv R1 q1 hw
  refine ⟨a, dx, fs, rfl, e2, (FsOk.get e3).2 hw.1, ?_⟩
  refine ha B F1 om1 H1 st r1 xq _ _ R1 hx (fun xs r2 om2 F2 H2 ys R2 s2 k2 q2 hw => ?_) hw.2
  obtain ⟨ds, e4, hw⟩ := wd_iff hw
  exact call_core R2 hx (.cons (.h a) (datsE_rep q2 e4)) (fun x om' F' H' y R' s' q' hk => hQ _ _ _ _ _ _ R' ((s1.trans s2).trans s') trivial q' hk) hw
theorem de_meth {c m : Str} {cn : Con} {k : Nat} {o e : Expr} {es : List Expr} {apos : Pos} {to : TE} {wo : WE} {t : TA} {wa : WA} {pl : Sem Bool} (D : DefM X.prog X.w X.K X.mg X.base c m cn k) (hr : Room k X.A) (tk : Takes X W) (ho : DE X W o to wo) (ha : DA X W (e :: es) t wa)
    (hst : starEach (e :: es) X.env = (false, eval e X.env) :: starEach es X.env := by rfl) (hpl : (backTo pos (starEach es X.env)).any (·.1) = false := by rfl)
    (ht : eval (.Call (.Attribute o m apos) (e :: es) [] pos) X.env = (do let ov ← eval o X.env; standAt apos.atName; let (f, first) ← holding [ov] (getMethod ov m pl); callWith pos f first (backTo pos (starEach (e :: es) X.env)) (backToKw pos (keywordEach [] X.env))) := by rfl) {K' : PySem.W.Frag} (hK : X.K = K' := by rfl) :
    DE X W (.Call (.Attribute o m apos) (e :: es) [] pos) (tMethW (He.ga K' c) m (toSp K' cn) (L2.WE W) to t) (wMeth c m cn.df wo wa) := by
  subst hK
  obtain ⟨h1, a, fd, ps, h2, h3, h4⟩ := D
  exact ⟨pe_methW h1 h2 h3 hr h4 (fun σ => passAt tk σ) ho.p ha.p hst hpl ht, se_meth ho.s ha.s⟩
theorem de_meth0 {c m : Str} {cn : Con} {k : Nat} {o : Expr} {apos : Pos} {to : TE} {wo : WE} {pl : Sem Bool} (D : DefM X.prog X.w X.K X.mg X.base c m cn k) (hr : Room k X.A) (tk : Takes X W) (ho : DE X W o to wo)
    (ht : eval (.Call (.Attribute o m apos) [] [] pos) X.env = (do let ov ← eval o X.env; standAt apos.atName; let (f, first) ← holding [ov] (getMethod ov m pl); callWith pos f first (backTo pos (starEach [] X.env)) (backToKw pos (keywordEach [] X.env))) := by rfl) {K' : PySem.W.Frag} (hK : X.K = K' := by rfl) :
    DE X W (.Call (.Attribute o m apos) [] [] pos) (tMethW (He.ga K' c) m (toSp K' cn) (L2.WE W) to tNil) (wMeth c m cn.df wo wNil) := by
  subst hK
  obtain ⟨h1, a, fd, ps, h2, h3, h4⟩ := D
  exact ⟨pe_methW0 h1 h2 h3 hr h4 (fun σ => passAt tk σ) ho.p ht, se_meth ho.s sa_nil⟩
theorem Rel.allocOb (R : Rel K B F om H st r) {p : Addr} {u : HO} {ob : Ob} (hp : H p = none) (hob : ObOk K F (some u) ob) : Rel K B F (oset om p ob) (upd H p u) st r ∧ om p = none := by
  have fp : F p = none := R.rh.sub.free hp
  have op : om p = none := by
    cases q : om p with
    | none => rfl
    | some ob =>
      obtain ⟨u, hu⟩ := (R.rh.obj p ob q).2.some
      rw [hp] at hu; cases hu
  refine ⟨⟨⟨fun b u e => same_upd hp b u (R.rh.sub b u e), fun b ob e => ?_⟩, ⟨R.ext.f, R.ext.new, fun b o e n => same_upd hp b o (R.ext.keep b o e n), fun b e => ?_, fun b o e n => ?_, R.ext.wf⟩, R.len, fun i x e => ?_, R.dis⟩, op⟩
  · by_cases hb : b = p
    · subst hb
      rw [oset_same] at e
      cases e
      rw [upd_same]
      exact ⟨fp, hob⟩
    · rw [oset_ne hb] at e
      rw [upd_ne hb]
      exact R.rh.obj b ob e
  · by_cases hb : b = p
    · subst hb; rw [upd_same] at e; cases e
    · rw [upd_ne hb] at e; exact R.ext.dom b e
  · by_cases hb : b = p
    · subst hb; exact R.ext.dom b hp
    · rw [oset_ne hb] at e; exact R.ext.ob b o e n
  · obtain ⟨y, e1, s⟩ := R.slot i x e
    refine ⟨y, e1, ?_⟩
    cases x with
    | v d => exact s
    | b j => exact s
    | o ds =>
      obtain ⟨a, rfl, o1, o2, o3, xs, o4, o5⟩ := s
      have na : a ≠ p := fun z => by rw [z, hp] at o4; cases o4
      exact ⟨a, rfl, o1, by rw [oset_ne na]; exact o2, o3, xs, by rw [upd_ne na]; exact o4, o5⟩
theorem Rel.anon (R : Rel K B F om H st r) {p : Addr} {u : HO} (hp : H p = none) : Rel K B F om (upd H p u) st r :=
  R.grow (Same.refl _) (same_upd hp) (fun b o e n => by rw [n] at e; cases e) (fun b o e => same_upd hp b o (R.rh.sub b o e))
def tMakeW (C : Addr) (n m : Nat) (sp : Sp) (gV : List V → List V → List V) (E : L2.St → XK) (t tk : TA) : TE := fun σ H Q => t σ H fun vs H1 => tk σ H1 fun zs H2 => vs.length = n ∧ zs.length = m ∧
  ∀ x dx, H2 x = none → H2 dx = none → dx ≠ x → sp (gV (.ref x :: vs) zs) (upd (upd H2 dx (.own x)) x (.ins C dx [])) (fun v H3 => v = .non ∧ Q (.ref x) H3) (E σ)
theorem run_makeW {k n : Nat} {f C : Addr} {fd : FuncData} {ps ks : List Str} {sp : Sp} {E : L2.St → XK} {g : List Value → List Value → List Value} {gV : List V → List V → List V} {pins : List (Addr × Obj)} {σ : L2.St} {s : Shared} {Q : VK} {us ws : List Value} {vs zs : List V}
    (M : Mk X.K C f) (F : FnOk X.prog X.w X.K X.mg X.base (L2.CX X.prog X.w) k f fd ps sp) (hr : Room (k + 1) X.A) (hb : KBn X.K fd ps (n + 1) ks g gV) (hx : PassesAt (L2.CX X.prog X.w) X σ (E σ)) (I : Inv X pins σ H s) (rv : Vals vs us) (rz : Vals zs ws) (l1 : vs.length = n) (l2 : zs.length = ks.length)
    (h : ∀ x dx, H x = none → H dx = none → dx ≠ x → sp (gV (.ref x :: vs) zs) (upd (upd H dx (.own x)) x (.ins C dx [])) (fun v H2 => v = .non ∧ Q (.ref x) H2) (E σ)) :
    wpAny (model X.prog X.w) X.A (call (.ref C) us (ks.zip ws)) (EP X pins σ Q) X.xe s := by
  obtain ⟨z, hz⟩ : ∃ z, z = s.heap.objs.size + 1 := ⟨_, rfl⟩
  have hq := h z s.heap.objs.size (I.hok.fresh (by omega)) (I.hok.fresh (Nat.le_refl _)) (by rw [hz]; exact Nat.ne_of_lt (Nat.lt_succ_self _))
  have J := Inv.made (C := C) I
  rw [← hz] at J
  have ra : Vals (V.ref z :: vs) (Value.ref z :: us) := .cons rfl rv
  have el : (Value.ref z :: us).length = n + 1 := by rw [← ra.length, List.length_cons, l1]
  have bt := hb.to _ (Value.ref z :: us) ws J.kIn el (rz.length.symm.trans l2)
  have cd := F.run _ X.stack _ _ ⟨Value.ref z :: us, ks.zip ws⟩ (g (Value.ref z :: us) ws) _ _ (E σ) (hr.make C us (ks.zip ws)) (J.env0.make C us (ks.zip ws)) bt (hb.rel ra rz) hq
  subst hz
  refine wpAny_call (make_map (f := f) I.kIn M.makes M.init (beq_iff_eq.mp M.fn) (codeAny_mono cd fun q s' hq' => ?_))
  match q, hq' with
  | .error e, hq' => exact hx pins _ _ e s' J hq'
  | .ok (.ret u), hq' =>
    obtain ⟨v, H', J3, rv, rfl, q3⟩ := J.after hq'
    exact ⟨rv, V.ref (s.heap.objs.size + 1), H', J3, rfl, q3⟩
theorem pe_makeW {k n : Nat} {f C : Addr} {fd : FuncData} {ps ks : List Str} {sp : Sp} {E : L2.St → XK} {g : List Value → List Value → List Value} {gV : List V → List V → List V} {x : Str} {p : Pos} {e : Expr} {es : List Expr} {kws : List Keyword} {t tk : TA}
    (M : Mk X.K C f) (F : FnOk X.prog X.w X.K X.mg X.base (L2.CX X.prog X.w) k f fd ps sp) (hr : Room (k + 1) X.A) (hg : Gl X x) (hm : X.mg x = some (.ref C)) (hb : KBn X.K fd ps (n + 1) ks g gV) (hx : ∀ σ, PassesAt (L2.CX X.prog X.w) X σ (E σ)) (ha : PA X (e :: es) t) (hkw : PK X kws tk)
    (hall : (backToKw pos (keywordEach kws X.env)).all (·.1.isSome) = true) (hks : (backToKw pos (keywordEach kws X.env)).filterMap (·.1) = ks) (hdb : (x == ("__debug__" : Str)) = false) (he : starEach (e :: es) X.env = (false, eval e X.env) :: starEach es X.env)
    (hpl : ((backTo pos (starEach (e :: es) X.env)).any (·.1) || (backToKw pos (keywordEach kws X.env)).any (·.1.isNone)) = false) : PE X (.Call (.Name x p) (e :: es) kws pos) (tMakeW C n ks.length sp gV E t tk) :=
  ⟨fun pins s σ H Q I h => wpAny_Call_Name_kw (ld_glob I hg hm (callWith_KW (h₀ := X.base) I.ok.mod.kin M.kp hall (thn (ha.run pos pins s σ H _ I h) fun us s1 ⟨vs, H1, I1, rv, q⟩ => thn (hkw.run pos pins s1 σ H1 _ I1 q) fun ws s2 ⟨zs, H2, I2, rz, l1, l2, q2⟩ => ⟨I2.kIn, by
    rw [hks]
    exact run_makeW M F hr hb (hx σ) I2 rv rz l1 l2 q2⟩) hpl he) hdb)⟩
def DefN (P : Program) (w : World) (K : PySem.W.Frag) (mg : Str → Option Value) (base : Heap) (c : Str) (cn : Con) (k n : Nat) (ks : List Str) (gV : List V → List V → List V) : Prop :=
  ∃ (f : Addr) (fd : FuncData) (ps : List Str) (g : List Value → List Value → List Value), Mk K (He.ga K c) f ∧ FnOk P w K mg base (L2.CX P w) k f fd ps (toSp K cn) ∧ mg c = some (.ref (He.ga K c)) ∧ KBn K fd ps (n + 1) ks g gV
def wMake (c : Str) (df : DF) (n m : Nat) (gD : List D → List D → List D) (wa wk : WA) : WE := fun xq r om k => wa xq r om fun xs r1 om1 => wd (datsE xs) fun ds => wk xq r1 om1 fun zs r2 om2 => wd (datsE zs) fun es =>
  (ds.length = n ∧ es.length = m) ∧ ∀ a, om2 a = none → callK df (gD (.h a :: ds) es) (oset om2 a (.ins c [])) (fun x om' => x = .v .non ∧ k (.v (.h a)) r2 om') (fun ex om' => xq ex r2 om')
theorem wMake_q {c : Str} {df : DF} {n m : Nat} {gD : List D → List D → List D} {wa wk : WA} {xq : DX} {r : Env} {om : Om} {k : RV → Env → Om → Prop} : wMake c df n m gD wa wk xq r om k = wa xq r om fun xs r1 om1 => wd (datsE xs) fun ds => wk xq r1 om1 fun zs r2 om2 => wd (datsE zs) fun es =>
  (ds.length = n ∧ es.length = m) ∧ ∀ a, om2 a = none → callK df (gD (.h a :: ds) es) (oset om2 a (.ins c [])) (fun x om' => x = .v .non ∧ k (.v (.h a)) r2 om') (fun ex om' => xq ex r2 om') := rfl
theorem se_make {c : Str} {cn : Con} {n m : Nat} {gV : List V → List V → List V} {gD : List D → List D → List D} {t tk : TA} {wa wk : WA} (ha : SA K W t wa) (hk : SA K W tk wk) (hG : GRep K gV gD) : SE K W (tMakeW (He.ga K c) n m (toSp K cn) gV (L2.WE W) t tk) (wMake c cn.df n m gD wa wk) := by
  intro B F om H st r xq k Q R hx hQ hw
  refine ha B F om H st r xq _ _ R hx (fun xs r1 om1 F1 H1 ys R1 s1 k1 q1 hw => ?_) hw
  obtain ⟨ds, e1, hw⟩ := wd_iff hw
  have p1 := datsE_rep q1 e1
  refine hk B F1 om1 H1 st r1 xq _ _ R1 hx (fun zs r2 om2 F2 H2 us R2 s2 k2 q2 hw => ?_) hw
  obtain ⟨es, e2, ⟨l1, l2⟩, hw⟩ := wd_iff hw
  have p2 := datsE_rep q2 e2
  refine ⟨by rw [p1.length]; exact l1, by rw [p2.length]; exact l2, fun a dx ea edx ne => ?_⟩
  have R3 := R2.anon (u := .own a) edx
  obtain ⟨R4, oa⟩ := R3.allocOb (p := a) (u := .ins (He.ga K c) dx []) (ob := .ins c []) (by rw [upd_ne (Ne.symm ne)]; exact ea) ⟨rfl, trivial⟩
  refine call_core R4 hx (hG F2 _ _ _ _ (.cons (.h a) (p1.mono s2)) p2) (fun x om' F' H' y R' s' q' hk => ?_) (hw a oa)
  obtain ⟨rfl, hk⟩ := hk
  cases (show Rep K F' y .non from q')
  exact ⟨rfl, hQ (.v (.h a)) _ _ _ _ _ R' ((s1.trans s2).trans s') trivial (Rep.h a) hk⟩
theorem de_make {c : Str} {cn : Con} {k n : Nat} {ks : List Str} {gV : List V → List V → List V} {gD : List D → List D → List D} {e : Expr} {es : List Expr} {kws : List Keyword} {p' : Pos} {t tk : TA} {w wk : WA} (N : DefN X.prog X.w X.K X.mg X.base c cn k n ks gV) (hG : GRep X.K gV gD) (hr : Room (k + 1) X.A) (tkk : Takes X W) (ha : DA X W (e :: es) t w) (hkw : DK X W kws tk wk)
    (hg : Gl X c := by rfl) (hall : (backToKw pos (keywordEach kws X.env)).all (·.1.isSome) = true := by rfl) (hks : (backToKw pos (keywordEach kws X.env)).filterMap (·.1) = ks := by rfl) (hdb : (c == ("__debug__" : Str)) = false := by decide)
    (he : starEach (e :: es) X.env = (false, eval e X.env) :: starEach es X.env := by rfl) (hpl : ((backTo pos (starEach (e :: es) X.env)).any (·.1) || (backToKw pos (keywordEach kws X.env)).any (·.1.isNone)) = false := by rfl) {K' : PySem.W.Frag} (hK : X.K = K' := by rfl) :
    DE X W (.Call (.Name c p') (e :: es) kws pos) (tMakeW (He.ga K' c) n ks.length (toSp K' cn) gV (L2.WE W) t tk) (wMake c cn.df n ks.length gD w wk) := by
  subst hK
  obtain ⟨f, fd, ps, g, h1, h2, h3, h4⟩ := N
  exact ⟨pe_makeW h1 h2 hr hg h3 h4 (fun σ => passAt tkk σ) ha.p hkw.p hall hks hdb he hpl, se_make ha.s hkw.s hG⟩
theorem len_in {A : Around} {C a g : Addr} {dx : Addr} {fs : List (Str × V)} {pins : List (Addr × Obj)} {σ : L2.St} {s : Shared} {Q : Value → Shared → Prop} {E : Value → Shared → Prop} (I : Inv X pins σ H s) (e : H a = some (.ins C dx fs)) (hm : Meth X.K C "__len__" g)
    (hc : wpAny (model X.prog X.w) A.in1 (call (.ref g) [.ref a]) (fun q s' => ∃ n u, q = .int n u ∧ 0 ≤ n ∧ n < 2 ^ 62 ∧ ∀ t tk, Q (.int n t) { s' with toks := tk }) E s) : wpAny (model X.prog X.w) A (call (.builtin "len") [.ref a]) Q E s := by
  obtain ⟨mA, O, _⟩ := ins_get I.hok e
  obtain ⟨od, J, _⟩ := O.look
  refine PySem.Calls.call_function_entry kind_len plain_len entry_len (args_len1 _) ?_
  unfold PySem.Builtin.«len»
  refine wpAny_bind (m := oneArg "len" _) (wpAny_pure (wpAny_bind (m := callSpecial? (.ref a) (Str.ofString "__len__")) ?_))
  refine special_fn I.kIn J hm.at_ (beq_iff_eq.mp hm.fn) (wpAny_mono hc (fun q s' hq => ?_) fun _ _ y => y)
  obtain ⟨n, u, rfl, n0, n1, hq⟩ := hq
  refine wpAny_bind (wpAny_holding (wpAny_pure (wpAny_bind (wpAny_letGo ?_))))
  show wpAny _ _ (if n < 0 then _ else _) _ _ _
  rw [if_neg (show ¬ n < 0 by omega)]
  show wpAny _ _ (if n ≥ 2 ^ 63 then _ else _) _ _ _
  rw [if_neg (show ¬ n ≥ 2 ^ 63 by omega)]
  exact wpAny_bind (wpAny_mkInt (wpAny_pure ⟨_, rfl, hq _ _⟩))
def lcGoH (a0 : Addr) (all : List D) (g : GT) (wt : WT) (we : WE) (vs : List Nat) : List D → List D → Env → Om → (List D → Env → Om → Prop) → Prop
  | [], acc, r, om, fin => om a0 = some (.lst all) ∧ fin acc r om
  | d :: ds, acc, r, om, fin => om a0 = some (.lst all) ∧ g (.v d) r fun r2 => wt X0 r2 om fun b r3 om3 =>
      if b = true then we X0 r3 om3 fun x r4 om4 => wd (datE x) fun y => acc.length < sizeLine ∧ lcGoH a0 all g wt we vs ds (acc ++ [y]) (wipeE r4 vs) om4 fin
      else lcGoH a0 all g wt we vs ds acc (wipeE r3 vs) om3 fin
def rdLcHh (o : Option Ob) (a : Addr) (f : Addr → List D → Prop) (_ : Tg f := .mk) : Prop := match o with
  | some (.lst ds) => f a ds
  | _ => False
def rdLcH (x : RV) (om : Om) (f : Addr → List D → Prop) (_ : Tg f := .mk) : Prop := match x with
  | .v (.h a) => rdLcHh (om a) a f
  | _ => False
theorem rdLcH_h {a : Addr} {f : Addr → List D → Prop} {t : Tg f} : rdLcH (.v (.h a)) om f t = rdLcHh (om a) a f := rfl
theorem rdLcHh_l {a : Addr} {ds : List D} {f : Addr → List D → Prop} {t : Tg f} : rdLcHh (some (.lst ds)) a f t = f a ds := rfl
def wLcH (wi : WE) (g : GT) (wt : WT) (we : WE) (vs : List Nat) : WE := fun xq r om k => wi xq r om fun x r1 om1 => rdLcH x om1 fun a ds => lcGoH a ds g wt we vs ds [] (wipeE r1 vs) om1 fun acc r2 om2 => k (.o acc) r2 om2
theorem wLcH_q {wi : WE} {g : GT} {wt : WT} {we : WE} {vs : List Nat} {xq : DX} {k : RV → Env → Om → Prop} : wLcH wi g wt we vs xq r om k = wi xq r om fun x r1 om1 => rdLcH x om1 fun a ds => lcGoH a ds g wt we vs ds [] (wipeE r1 vs) om1 fun acc r2 om2 => k (.o acc) r2 om2 := rfl
theorem se_lcH {ti : TE} {wi : WE} {vs : List Nat} {g : TG} {w : GT} {tt : TT} {wt : WT} {te : TE} {we : WE} (hi : SE K W ti wi) (hg : SGv K vs g w) (ht : ST K (fun _ _ _ _ => False) tt wt) (he : SE K (fun _ _ _ _ => False) te we) :
    SE K W (tLc (iAny K ti) g tt te vs) (wLcH wi w wt we vs) := by
  intro B F0 om0 H0 st r0 xq k Q R0 hx hQ0 hw0
  refine hi B F0 om0 H0 st r0 xq _ _ R0 hx (fun xx r om F H y0 R s0 k0 q0 hw => ?_) hw0
  have hQ : ∀ x r' om' F' H' y, Rel K B F' om' H' st r' → Same F F' → KeepE r r' → Res K B F' om' H' st r' y x → k x r' om' → Q y H' := fun x r' om' F' H' y R' s' _ q' h => hQ0 x r' om' F' H' y R' (s0.trans s') trivial q' h
  have x0 : ∀ B, XOk K B (fun _ _ _ _ => False) X0 := fun B ex r om F H st cls d _ _ z => z
  obtain ⟨a, items, ea, hj, hw⟩ : ∃ a items, y0 = .ref a ∧ om a = some (.lst items) ∧ lcGoH a items w wt we vs items [] (wipeE r vs) om fun acc r2 om2 => k (.o acc) r2 om2 := by
    have hw' : rdLcH xx om _ := hw
    unfold rdLcH at hw'
    split at hw'
    · next a =>
      unfold rdLcHh at hw'
      split at hw'
      · next ds e =>
        cases (show Rep K F y0 (.h a) from q0)
        exact ⟨a, ds, rfl, e, hw'⟩
      · exact hw'.elim
    · exact hw'.elim
  subst ea
  obtain ⟨xs0, a4, a5⟩ := (R.rh.obj a _ hj).2.lst
  refine .inl ⟨a, rfl, ⟨xs0, SqL.of a4⟩, ?_⟩
  intro p hp
  have fp1 : F p = none := R.rh.sub.free hp
  have op1 : om p = none := by
    cases q : om p with
    | none => rfl
    | some ob =>
      obtain ⟨u, hu⟩ := (R.rh.obj p ob q).2.some
      rw [hp] at hu; cases hu
  have bp : B.H p = none := R.ext.dom p hp
  have bf : B.F p = none := by
    cases q : B.F p with
    | none => rfl
    | some u => have := R.ext.f p u q; rw [fp1] at this; cases this
  obtain ⟨R2, q2⟩ := R.allocO (p := p) (xs := []) (ds := []) hp .nil
  obtain ⟨_, ep, ⟨w1, w2, w3, _, _, _⟩, w6⟩ := q2
  cases ep
  have here : ∀ {F2 : Hp} {om2 : Om} {H2 : Hp} {r2 : Env}, Rel K B F2 om2 H2 (L2.wipe st vs) r2 → om2 a = some (.lst items) → ∃ xs, SqL K H2 a xs ∧ RepA K F2 xs items := fun {F2 om2 H2 r2} R2 e => by
    obtain ⟨xs, b4, b5⟩ := (R2.rh.obj a _ e).2.lst
    exact ⟨xs, SqL.of b4, b5⟩
  have chk : ∀ {l acc : List D} {r' : Env} {om' : Om} {fin : List D → Env → Om → Prop}, lcGoH a items w wt we vs l acc r' om' fin → om' a = some (.lst items) := fun {l acc r' om' fin} h => by
    cases l with
    | nil => exact h.1
    | cons d l => exact h.1
  refine ⟨fun i m H' => m = items.length - i ∧ i ≤ items.length ∧ ∃ r' om' F' acc xs, Rel K B F' om' H' (L2.wipe st vs) r' ∧ Same F F' ∧ F' p = none ∧ om' p = none ∧ H' p = some (.lst xs) ∧ RepA K F' xs acc ∧
      (∀ (j : Nat) (es : List D), r'[j]? = some (some (.o es)) → (L2.wipe st vs)[j]? ≠ some (some (.ref p))) ∧ (∀ (j : Nat) (x : RV), r'[j]? = some (some x) → j ∉ vs) ∧
      lcGoH a items w wt we vs (items.drop i) acc r' om' (fun acc r2 om2 => k (.o acc) r2 om2),
    ⟨items.length, by simp, Nat.zero_le _, wipeE r vs, om, F, [], [], R2.wipe vs, Same.refl _, w1, w2, upd_same, .nil, ?_, fun j x h => (wipeE_some h).2, by simpa using hw⟩, ?_⟩
  · intro j es h
    obtain ⟨h1, h2⟩ := wipeE_some h
    rw [wipe_out h2]
    exact w6 j es h1
  rintro i m H2 ⟨rfl, hle, r2, om2, F2, acc, xs, R2', s2, fp2, op2, hp2, ra2, own2, out2, hl⟩
  obtain ⟨ys, sq, ry⟩ := here R2' (chk hl)
  by_cases hlt : i < items.length
  · have hd : items.drop i = items[i] :: items.drop (i + 1) := List.drop_eq_getElem_cons hlt
    rw [hd] at hl
    have hyl : i < ys.length := by rw [ry.length]; exact hlt
    refine .inr ⟨⟨ys, ys[i], sq, List.getElem?_eq_getElem hyl⟩, fun H' => ∃ r' om' F' acc xs, Rel K B F' om' H' (L2.wipe st vs) r' ∧ Same F F' ∧ F' p = none ∧ om' p = none ∧ H' p = some (.lst xs) ∧ RepA K F' xs acc ∧
      (∀ (j : Nat) (es : List D), r'[j]? = some (some (.o es)) → (L2.wipe st vs)[j]? ≠ some (some (.ref p))) ∧ (∀ (j : Nat) (x : RV), r'[j]? = some (some x) → j ∉ vs) ∧
      lcGoH a items w wt we vs (items.drop (i + 1)) acc r' om' (fun acc r2 om2 => k (.o acc) r2 om2), fun H' h => ⟨items.length - (i + 1), by omega, rfl, hlt, h⟩, fun x H' y => ?_⟩
    obtain ⟨rfl, y2⟩ := y
    have rp : Rep K F2 x items[i] := by
      obtain ⟨v, e1, e2⟩ := ry.getD (List.getElem?_eq_getElem hlt)
      rw [y2 ys sq] at e1
      cases e1
      exact e2
    have G3 := R2'.guard fp2 op2 hp2 own2
    refine hg _ F2 om2 H' _ r2 x (.v items[i]) _ _ G3 rp (fun st4 r4 R4 hl4 hj4 hk => ?_) hl.2
    have wp : L2.wipe st4 vs = L2.wipe st vs := by
      rw [wipe_same hl4 hj4]
      exact wipe_same (by rw [wipe_length]) fun j hj => wipe_out hj
    refine ⟨wp, ?_⟩
    refine ht _ F2 om2 H' st4 r4 X0 _ _ R4 (x0 _) (fun b r5 om5 F5 H5 R5 s5 k5 hb => ?_) hk
    have un : ∀ {r6 : Env} {om6 : Om} {F6 H6 : Hp}, Rel K (B.guard p (.lst xs)) F6 om6 H6 st4 r6 → B.om p = none → Rel K B F6 om6 H6 (L2.wipe st vs) (wipeE r6 vs) ∧ F6 p = none ∧ om6 p = none ∧ H6 p = some (.lst xs) ∧
        (∀ (j : Nat) (es : List D), (wipeE r6 vs)[j]? = some (some (.o es)) → (L2.wipe st vs)[j]? ≠ some (some (.ref p))) ∧ (∀ (j : Nat) (x : RV), (wipeE r6 vs)[j]? = some (some x) → j ∉ vs) := fun {r6 om6 F6 H6} R6 hO => by
      obtain ⟨R7, a1, a2, a3, a4⟩ := R6.unguard bf hO bp
      have R8 := R7.wipe vs
      rw [wp] at R8
      refine ⟨R8, a1, a2, a3, fun j es h => ?_, fun j x h => (wipeE_some h).2⟩
      obtain ⟨h1, h2⟩ := wipeE_some h
      rw [← wp, wipe_out h2]
      exact a4 j es h1
    have hO : B.om p = none := R2'.ext.wf p bp
    cases b with
    | false =>
      obtain ⟨a0, a1, a2, a3, a4, a5⟩ := un R5 hO
      exact ⟨wipeE r5 vs, om5, F5, acc, xs, a0, s2.trans s5, a1, a2, a3, ra2.mono s5, a4, a5, hb⟩
    | true =>
      refine he _ F5 om5 H5 st4 r5 X0 _ _ R5 (x0 _) (fun z r6 om6 F6 H6 y6 R6 s6 k6 q6 hb => ?_) hb
      obtain ⟨d6, e6, hz, hb⟩ := wd_iff hb
      obtain ⟨F7, s7, R7, q7⟩ := R6.fz q6
      have rp7 : Rep K F7 y6 d6 := datE_rep q7 e6
      obtain ⟨a0, a1, a2, a3, a4, a5⟩ := un R7 hO
      have ra7 : RepA K F7 xs acc := ((ra2.mono s5).mono s6).mono s7
      refine ⟨xs, a3, by rw [ra7.length]; exact hz, wipeE r6 vs, om6, F7, acc ++ [d6], xs ++ [y6], ?_, ((s2.trans s5).trans s6).trans s7, a1, a2, upd_same, ra7.append (.cons rp7 .nil), a4, a5, hb⟩
      exact a0.writeX a1 a2 bp a4
  · have e0 : items.drop i = [] := List.drop_eq_nil_of_le (by omega)
    rw [e0] at hl
    refine .inl ⟨⟨ys, sq, by rw [ry.length]; omega⟩, ?_⟩
    have R9 : Rel K B F2 om2 H2 st r2 := R2'.forget (by rw [R2'.len, wipe_length]) fun j x h => ⟨h, (wipe_out (out2 j x h)).symm⟩
    refine hQ (.o acc) r2 om2 F2 H2 (.ref p) R9 s2 trivial ⟨p, rfl, ⟨fp2, op2, bp, xs, hp2, ra2⟩, fun j es h => ?_⟩ hl.2
    rw [← wipe_out (out2 j _ h)]
    exact own2 j es h
theorem de_lcH {elt tg : Expr} {it : Expr} {ti : TE} {wi : WE} {ifs : List Expr} {scope : Scope} {own : List (Str × Nat)} {g : TG} {gw : GT} {tt : TT} {wt : WT} {te : TE} {we : WE} (hc : X.calm = true) (hN : X.N.Nodup) (hi : DE X W it ti wi) (ok : blkC X.N X.env.scope scope own = true)
    (hg : ∀ (s : Shared) (H : Hp) (C : Addr) (cl : List (Str × Addr)) (fp : List Addr), DGv (X.blk s H scope (PySem.compEnvC scope cl C X.env) fp) (own.map (·.2)) tg g gw)
    (ht : ∀ (s : Shared) (H : Hp) (C : Addr) (cl : List (Str × Addr)) (fp : List Addr), DTs (X.blk s H scope (PySem.compEnvC scope cl C X.env) fp) W0 ifs tt wt)
    (he : ∀ (s : Shared) (H : Hp) (C : Addr) (cl : List (Str × Addr)) (fp : List Addr), DE (X.blk s H scope (PySem.compEnvC scope cl C X.env) fp) W0 elt te we) (s0 : Shared) (hs : ∀ x, foldedSetIterable it X.env x = pure x := by intro _; rfl) :
    DE X W (.ListComp elt [⟨tg, it, ifs, 0⟩] scope pos) (tLc (iAny X.K ti) g tt te (own.map (·.2))) (wLcH wi gw wt we (own.map (·.2))) :=
  ⟨pe_lc hc hN (pi_any hi.p) (blkOk_by ok) (fun s H C cl fp => (hg s H C cl fp).p) (fun s H C cl fp => (ht s H C cl fp).p) (fun s H C cl fp => (he s H C cl fp).p) hs,
    se_lcH hi.s (hg s0 (fun _ => none) 0 [] []).s (ht s0 (fun _ => none) 0 [] []).s (he s0 (fun _ => none) 0 [] []).s⟩
theorem lcH_inv {a0 : Addr} {all : List D} {g : GT} {wt : WT} {we : WE} {vs : List Nat} {fin : List D → Env → Om → Prop} (I : Nat → List D → Env → Om → Prop) (hI : ∀ i acc r om, I i acc r om → om a0 = some (.lst all)) : ∀ {items acc : List D} {r : Env} {om : Om} (n : Nat), I n acc r om →
    (∀ (i : Nat) (d : D) (acc : List D) (r : Env) (om : Om) (nx : List D → Env → Om → Prop), items[i]? = some d → I (n + i) acc r om → (∀ acc' r' om', I (n + i + 1) acc' r' om' → nx acc' r' om') →
      g (.v d) r fun r2 => wt X0 r2 om fun b r3 om3 => if b = true then we X0 r3 om3 fun x r4 om4 => wd (datE x) fun y => acc.length < sizeLine ∧ nx (acc ++ [y]) (wipeE r4 vs) om4 else nx acc (wipeE r3 vs) om3) →
    (∀ acc r om, I (n + items.length) acc r om → fin acc r om) → lcGoH a0 all g wt we vs items acc r om fin
  | [], acc, r, om, n, h0, hs, hf => ⟨hI _ _ _ _ h0, hf _ _ _ (by simpa using h0)⟩
  | d :: ds, acc, r, om, n, h0, hs, hf => by
    refine ⟨hI _ _ _ _ h0, ?_⟩
    exact hs 0 d acc r om (fun acc' r' om' => lcGoH a0 all g wt we vs ds acc' r' om' fin) rfl (by simpa using h0) fun acc' r' om' h1 => by
      refine lcH_inv I hI (n + 1) (by simpa using h1) (fun i d' acc r om nx e hi hn => ?_) fun acc r om h => hf acc r om (by simpa [Nat.add_assoc, Nat.add_comm, Nat.add_left_comm] using h)
      exact hs (i + 1) d' acc r om nx (by simpa using e) (by rw [show n + (i + 1) = n + 1 + i by omega]; exact hi) (fun acc' r' om' h2 => hn acc' r' om' (by rw [show n + 1 + i + 1 = n + (i + 1) + 1 by omega]; exact h2))
theorem lcH_list {a0 : Addr} {all : List D} {g : GT} {wt : WT} {we : WE} {vs : List Nat} {fin : List D → Env → Om → Prop} (I : Nat → List D → Env → Om → Prop) {items acc : List D} {r : Env} {om : Om} (hI : ∀ i acc r om, I i acc r om → om a0 = some (.lst all)) (h0 : I 0 acc r om)
    (hs : ∀ (i : Nat) (d : D) (acc : List D) (r : Env) (om : Om) (nx : List D → Env → Om → Prop), items[i]? = some d → I i acc r om → (∀ acc' r' om', I (i + 1) acc' r' om' → nx acc' r' om') →
      g (.v d) r fun r2 => wt X0 r2 om fun b r3 om3 => if b = true then we X0 r3 om3 fun x r4 om4 => wd (datE x) fun y => acc.length < sizeLine ∧ nx (acc ++ [y]) (wipeE r4 vs) om4 else nx acc (wipeE r3 vs) om3)
    (hf : ∀ acc r om, I items.length acc r om → fin acc r om) : lcGoH a0 all g wt we vs items acc r om fin :=
  lcH_inv I hI 0 h0 (fun i d acc r om nx e hi hn => hs i d acc r om nx e (by simpa using hi) (by simpa using hn)) fun acc r om h => hf acc r om (by simpa using h)
def loopH (a : Addr) (all : List D) (step : D → (Env → Om → Prop) → Env → Om → Prop) : List D → (Env → Om → Prop) → Env → Om → Prop
  | [], fin => fun r om => om a = some (.lst all) ∧ fin r om
  | d :: ds, fin => fun r om => om a = some (.lst all) ∧ step d (loopH a all step ds fin) r om
def wForH (wi : WE) (g : GT) (wb : WS) : WS := fun e r om => wi e.xq r om fun x r1 om1 => rdLcH x om1 fun a ds => loopH a ds (stepOf g wb e) ds e.nx r1 om1
def mutX (x : RV) (p : (List D → (List D → D → Prop) → Prop)) (r : Env) (om : Om) (k : RV → Env → Om → Prop) (_ : Tg (p, k) := .mk) : Prop := match x with
  | .b i => wMutE i p r om k
  | .v (.h a) => rdEh (om a) a p r om k
  | _ => False
theorem mutX_h {a : Addr} {p : (List D → (List D → D → Prop) → Prop)} {k : RV → Env → Om → Prop} {t : Tg (p, k)} : mutX (.v (.h a)) p r om k t = rdEh (om a) a p r om k := rfl
def RcvOk (st : L2.St) (y : V) : RV → Prop
  | .b i => st[i]? = some (some y)
  | .v (.h a) => y = .ref a
  | _ => True
theorem Res.rcv {y : V} {x : RV} (q : Res K B F om H st r y x) : RcvOk st y x := by
  cases x with
  | b i => exact q
  | o ds => trivial
  | v d =>
    cases d with
    | h a => cases (show Rep K F y (.h a) from q); rfl
    | _ => trivial
theorem mutX_core {x : RV} {y : V} {p : (List D → (List D → D → Prop) → Prop)} {k : RV → Env → Om → Prop} (R : Rel K B F om H st r) (q : RcvOk st y x) (hw : mutX x p r om k) :
    ∃ a xs ds c, y = .ref a ∧ H a = some (.lst xs) ∧ RepA K F xs ds ∧ p ds c ∧ ∀ ds' xs' d v, RepA K F xs' ds' → Rep K F v d → c ds' d → ∃ r' om', Rel K B F om' (upd H a (.lst xs')) st r' ∧ k (.v d) r' om' := by
  unfold mutX at hw
  split at hw
  · next i =>
    obtain ⟨a, xs, ds, c, e, h1, h2, h3, h4⟩ := mut_core R hw
    have e' : st[i]? = some (some y) := q
    rw [e'] at e
    cases e
    exact ⟨a, xs, ds, c, rfl, h1, h2, h3, fun ds' xs' d v g1 g2 g3 => let ⟨r', om', R', _, g⟩ := h4 ds' xs' d v g1 g2 g3; ⟨r', om', R', g⟩⟩
  · next a =>
    cases (show y = .ref a from q)
    unfold rdEh at hw
    split at hw
    · next ds e =>
      obtain ⟨xs, o4, o5⟩ := (R.rh.obj a _ e).2.lst
      exact ⟨a, xs, ds, _, rfl, o4, o5, hw, fun ds' xs' d v g1 g2 g3 => ⟨_, _, R.writeH (ob' := .lst ds') e g1, g3⟩⟩
    · exact hw.elim
  · exact hw.elim
def wMutX0 (wo : WE) (p : MutP) : WE := fun xq r om k => wo xq r om fun x r1 om1 => mutX x (fun ds => p ds []) r1 om1 k
theorem wMutX0_q {wo : WE} {p : MutP} {xq : DX} {k : RV → Env → Om → Prop} : wMutX0 wo p xq r om k = wo xq r om fun x r1 om1 => mutX x (fun ds => p ds []) r1 om1 k := rfl
theorem se_mutX0 {to : TE} {wo : WE} {p : MutP} {rr : V → List V → Hp → VK → Prop} (ho : SE K W to wo) (hp : SM K rr p) : SE K W (tBM0 K "list" rr to) (wMutX0 wo p) := by
  intro B F om H st r xq k Q R hx hQ hw
  refine ho B F om H st r xq _ _ R hx (fun x r1 om1 F1 H1 y R1 s1 k1 q1 hw => ?_) hw
  obtain ⟨a, xs', ds, c, rfl, h4, h5, h6, h7⟩ := mutX_core R1 q1.rcv hw
  refine ⟨.inl ⟨rfl, _, SqL.of h4⟩, hp F1 H1 a xs' ds [] [] c _ R1.rh.sub h4 h5 .nil h6 fun ds' zs d v g1 g2 g3 => ?_⟩
  obtain ⟨r', om', R', h'⟩ := h7 ds' zs d v g1 g2 g3
  exact hQ (.v d) _ _ _ _ _ R' s1 trivial g2 h'
theorem de_popX {o : Expr} {p2 cpos : Pos} {to : TE} {wo : WE} (ho : DE X W o to wo) (hbase : attributeBase o "pop" X.env (eval o X.env) = eval o X.env := by rfl) (hline : (p2.endLine == cpos.line) = true := by rfl) {K' : PySem.W.Frag} (hK : X.K = K' := by rfl) :
    DE X W (.Call (.Attribute o "pop" p2) [] [] cpos) (tBM0 K' "list" rPop to) (wMutX0 wo mPop) := by
  subst hK
  exact ⟨pe_bm0 PySem.F.plainAttrs_list PySem.F.slot_list_pop PySem.F.type_list_pop mt_pop ho.p hbase hline, se_mutX0 ho.s sm_pop⟩
def wSt1 (we wo wi : WE) : WS := fun e r om => we e.xq r om fun x r1 om1 => wd (datE x) fun d => wo e.xq r1 om1 fun o r2 om2 => wi e.xq r2 om2 fun y r3 om3 => wd (datB r3 om3 y) fun j => wd (intD j) fun n => mutX o (setE n d) r3 om3 fun _ r4 om4 => e.nx r4 om4
theorem wSt1_e {we wo wi : WE} {nx : DL.Env → Om → Prop} {rt : RV → Om → Prop} {bk ct : DL.Env → Om → Prop} {xq : DX} {r : DL.Env} {om : Om} : wSt1 we wo wi ⟨nx, rt, bk, ct, xq⟩ r om = we xq r om fun x r1 om1 => wd (datE x) fun d => wo xq r1 om1 fun o r2 om2 => wi xq r2 om2 fun y r3 om3 => wd (datB r3 om3 y) fun j => wd (intD j) fun n => mutX o (setE n d) r3 om3 fun _ r4 om4 => nx r4 om4 := rfl
theorem sg_sub1 {to ti : TE} {wo wi : WE} {y : V} {d : D} {xq : DX} {k : Env → Om → Prop} {Q : L2.St → Hp → Prop} (ho : SE K W to wo) (hi : SE K W ti wi) (R : Rel K B F om H st r) (hx : XOk K B W xq) (rp : Rep K F y d)
    (hQ : ∀ r' om' F' H', Rel K B F' om' H' st r' → Same F F' → k r' om' → Q st H') (hw : wo xq r om fun o r2 om2 => wi xq r2 om2 fun y r3 om3 => wd (datB r3 om3 y) fun j => wd (intD j) fun n => mutX o (setE n d) r3 om3 fun _ r4 om4 => k r4 om4) : gSub to ti rSetL y st H Q := by
  refine ho B F om H st r xq _ _ R hx (fun o r2 om2 F2 H2 yo R2 s2 k2 q2 hw => ?_) hw
  refine hi B F2 om2 H2 st r2 xq _ _ R2 hx (fun x r3 om3 F3 H3 yi R3 s3 k3 q3 hw => ?_) hw
  obtain ⟨j, e5, hwa⟩ := wd_iff hw
  obtain ⟨n, e6, hwb⟩ := wd_iff hwa
  clear hw hwa
  obtain rfl := intD_inv e6
  obtain ⟨a, xs, es, c, rfl, g4, g5, g6, g7⟩ := mutX_core R3 q2.rcv hwb
  obtain ⟨m, e8, g6⟩ := wd_iff g6
  obtain rfl := (R3.datB q3 e5).intS
  obtain ⟨r5, om5, R5, hw⟩ := g7 (es.set m d) (xs.set m y) .non .non (g5.set ((rp.mono s2).mono s3) m) .non g6
  exact ⟨a, xs, n, m, rfl, rfl, g4, by rw [g5.length]; exact e8, hQ _ _ _ _ R5 (s2.trans s3) hw⟩
theorem ss_st1 {te to ti : TE} {we wo wi : WE} (he : SE K W te we) (ho : SE K W to wo) (hi : SE K W ti wi) : SS K W (tAsg te (gSub to ti rSetL)) (wSt1 we wo wi) := fun B F om H st r DD e R hx hE hw => by
  refine he B F om H st r e.xq _ _ R hx (fun x r1 om1 F1 H1 y R1 s1 k1 q1 hw => ?_) hw
  obtain ⟨F2, s2, R2, q2⟩ := R1.fz q1
  obtain ⟨d, e4, hw⟩ := wd_iff hw
  exact sg_sub1 ho hi R2 hx (datE_rep q2 e4) (fun r' om' F' H' R' s' h => hE.nx _ _ _ _ _ R' h) hw
theorem ds_st1 {o ix e : Expr} {p2 : Pos} {te to ti : TE} {we wo wi : WE} (he : DE X W e te we) (ho : DE X W o to wo) (hi : DE X W ix ti wi)
    (ha : ∀ v, assign (.Subscript o ix p2) X.env v = (do let ov ← holding [v] (eval o X.env); let iv ← holding [v, ov] (eval ix X.env); standAt p2; holding [v, ov, iv] (setItem ov iv v); release [v, ov, iv] []) := by intro _; rfl)
    (hs : swapsWithSole [.Subscript o ix p2] e pos.line X.env = pure false := by rfl) (hw : swappedStores [.Subscript o ix p2] e X.env = pure none := by rfl) (h1 : (assignEach [.Subscript o ix p2] X.env).map (·.2) = [assign (.Subscript o ix p2) X.env] := by rfl) :
    DS X W (.Assign [.Subscript o ix p2] e pos) (tAsg te (gSub to ti rSetL)) (wSt1 we wo wi) := ⟨ps_asg he.p (pg_sub ho.p hi.p set_list ha) hs hw h1, ss_st1 he.s ho.s hi.s⟩
def tup2 : RV → Option (D × D)
  | .v (.tup [a, b]) => some (a, b)
  | _ => none
theorem tup2_at {a b : D} : tup2 (.v (.tup [a, b])) = some (a, b) := rfl
def wSt2 (we wo1 w1 wo2 w2 : WE) : WS := fun e r om => we e.xq r om fun x r1 om1 => wd (tup2 x) fun p => wo1 e.xq r1 om1 fun o r2 om2 => w1 e.xq r2 om2 fun y r3 om3 => wd (datB r3 om3 y) fun j => wd (intD j) fun n => mutX o (setE n p.1) r3 om3 fun _ r4 om4 =>
  wo2 e.xq r4 om4 fun o r5 om5 => w2 e.xq r5 om5 fun y r6 om6 => wd (datB r6 om6 y) fun j => wd (intD j) fun n => mutX o (setE n p.2) r6 om6 fun _ r7 om7 => e.nx r7 om7
theorem wSt2_e {we wo1 w1 wo2 w2 : WE} {nx : DL.Env → Om → Prop} {rt : RV → Om → Prop} {bk ct : DL.Env → Om → Prop} {xq : DX} {r : DL.Env} {om : Om} : wSt2 we wo1 w1 wo2 w2 ⟨nx, rt, bk, ct, xq⟩ r om = we xq r om fun x r1 om1 => wd (tup2 x) fun p => wo1 xq r1 om1 fun o r2 om2 => w1 xq r2 om2 fun y r3 om3 => wd (datB r3 om3 y) fun j => wd (intD j) fun n => mutX o (setE n p.1) r3 om3 fun _ r4 om4 =>
  wo2 xq r4 om4 fun o r5 om5 => w2 xq r5 om5 fun y r6 om6 => wd (datB r6 om6 y) fun j => wd (intD j) fun n => mutX o (setE n p.2) r6 om6 fun _ r7 om7 => nx r7 om7 := rfl
theorem ss_st2 {te to1 t1 to2 t2 : TE} {we wo1 w1 wo2 w2 : WE} (he : SE K W te we) (ho1 : SE K W to1 wo1) (h1 : SE K W t1 w1) (ho2 : SE K W to2 wo2) (h2 : SE K W t2 w2) : SS K W (tAsg te (gTup K 2 (gCons (gSub to1 t1 rSetL) (gCons (gSub to2 t2 rSetL) gNil)))) (wSt2 we wo1 w1 wo2 w2) := fun B F om H st r DD e R hx hE hw => by
  refine he B F om H st r e.xq _ _ R hx (fun x r1 om1 F1 H1 y R1 s1 k1 q1 hw => ?_) hw
  obtain ⟨p, e1, hw⟩ := wd_iff hw
  unfold tup2 at e1
  split at e1
  · next a b =>
    cases e1
    obtain ⟨t, xs, rfl, sq, rp⟩ : ∃ t xs, y = .ref t ∧ SqT K F1 t xs ∧ RepA K F1 xs [a, b] := by
      have q1' : Rep K F1 y (.tup [a, b]) := q1
      cases q1' with
      | tup sq rp => exact ⟨_, _, rfl, sq, rp⟩
    obtain ⟨v1, v2, rfl, ra, rb⟩ : ∃ v1 v2, xs = [v1, v2] ∧ Rep K F1 v1 a ∧ Rep K F1 v2 b := by
      cases rp with
      | cons ra rt =>
        cases rt with
        | cons rb rn => cases rn; exact ⟨_, _, rfl, ra, rb⟩
    refine ⟨t, [v1, v2], rfl, same_sqT R1.rh.sub sq, rfl, v1, [v2], rfl, ?_⟩
    refine sg_sub1 ho1 h1 R1 hx ra (fun r' om' F' H' R' s' hw => ?_) hw
    refine ⟨v2, [], rfl, ?_⟩
    refine sg_sub1 ho2 h2 R' hx (rb.mono s') (fun r'' om'' F'' H'' R'' s'' hw => ?_) hw
    exact ⟨rfl, hE.nx _ _ _ _ _ R'' hw⟩
  · cases e1
theorem ds_st2 {o1 i1 o2 i2 e : Expr} {p1 p2 tp : Pos} {kt : Nat} {te to1 t1 to2 t2 : TE} {we wo1 w1 wo2 w2 : WE} (he : DE X W e te we) (ho1 : DE X W o1 to1 wo1) (h1 : DE X W i1 t1 w1) (ho2 : DE X W o2 to2 wo2) (h2 : DE X W i2 t2 w2) (hc : X.calm = true := by rfl)
    (ha1 : ∀ v, assign (.Subscript o1 i1 p1) X.env v = (do let ov ← holding [v] (eval o1 X.env); let iv ← holding [v, ov] (eval i1 X.env); standAt p1; holding [v, ov, iv] (setItem ov iv v); release [v, ov, iv] []) := by intro _; rfl)
    (ha2 : ∀ v, assign (.Subscript o2 i2 p2) X.env v = (do let ov ← holding [v] (eval o2 X.env); let iv ← holding [v, ov] (eval i2 X.env); standAt p2; holding [v, ov, iv] (setItem ov iv v); release [v, ov, iv] []) := by intro _; rfl)
    (hn : (assignEach [.Subscript o1 i1 p1, .Subscript o2 i2 p2] X.env).length = 2 := by rfl) (hst : (assignEach [.Subscript o1 i1 p1, .Subscript o2 i2 p2] X.env).findIdx? (·.1) = none := by rfl)
    (hpc : (assignEach [.Subscript o1 i1 p1, .Subscript o2 i2 p2] X.env).map (·.2) = assign (.Subscript o1 i1 p1) X.env :: (assignEach [.Subscript o2 i2 p2] X.env).map (·.2) := by rfl)
    (hpd : (assignEach [.Subscript o2 i2 p2] X.env).map (·.2) = assign (.Subscript o2 i2 p2) X.env :: (assignEach [] X.env).map (·.2) := by rfl)
    (hs : swapsWithSole [.Tuple [.Subscript o1 i1 p1, .Subscript o2 i2 p2] kt tp] e pos.line X.env = pure false := by rfl) (hw : swappedStores [.Tuple [.Subscript o1 i1 p1, .Subscript o2 i2 p2] kt tp] e X.env = pure none := by rfl)
    (hz : (assignEach [.Tuple [.Subscript o1 i1 p1, .Subscript o2 i2 p2] kt tp] X.env).map (·.2) = [assign (.Tuple [.Subscript o1 i1 p1, .Subscript o2 i2 p2] kt tp) X.env] := by rfl) {K' : PySem.W.Frag} (hK : X.K = K' := by rfl) :
    DS X W (.Assign [.Tuple [.Subscript o1 i1 p1, .Subscript o2 i2 p2] kt tp] e pos) (tAsg te (gTup K' 2 (gCons (gSub to1 t1 rSetL) (gCons (gSub to2 t2 rSetL) gNil)))) (wSt2 we wo1 w1 wo2 w2) := by
  subst hK
  exact ⟨ps_asg he.p (pg_tup hc (pgs_cons (pg_sub ho1.p h1.p set_list ha1) (pgs_cons (pg_sub ho2.p h2.p set_list ha2) pgs_nil hpd) hpc) hn hst) hs hw hz, ss_st2 he.s ho1.s h1.s ho2.s h2.s⟩
def tLenO (C : Addr) (sp : Sp) (E : L2.St → XK) (to : TE) : TE := fun σ H Q => tCons to tNil σ H fun vs H1 => ∃ a dx fs, vs = [.ref a] ∧ H1 a = some (.ins C dx fs) ∧ sp [.ref a] H1 (fun v H2 => ∃ n, v = .int n ∧ 0 ≤ n ∧ n < 2 ^ 62 ∧ Q (.int n) H2) (E σ)
theorem pe_lenO {k : Nat} {f C : Addr} {fd : FuncData} {ps : List Str} {sp : Sp} {E : L2.St → XK} {o : Expr} {to : TE} {p : Pos} (hm : Meth X.K C "__len__" f) (F : FnOk X.prog X.w X.K X.mg X.base (L2.CX X.prog X.w) k f fd ps sp) (hr : Room (k + 1) X.A) (hb : Binds X.K fd ps []) (hx : ∀ σ, PassesAt (L2.CX X.prog X.w) X σ (E σ))
    (ml : X.mg "len" = none) (ha : PE X o to) (hg : Gl X "len") (he : starEach [o] X.env = (false, eval o X.env) :: starEach [] X.env) (hpl : (backTo pos (starEach [] X.env)).any (·.1) = false) : PE X (.Call (.Name "len" p) [o] [] pos) (tLenO C sp E to) :=
  ⟨fun pins s σ H Q I h => wpAny_Call_Name_kw (ld_blt I hg ml (show bootBuiltins "len" = some (.builtin "len") by decide +kernel) (PyProof.Rows.callWith_builtin1 (thn ((pa_cons ha pa_nil he).run pos pins s σ H _ I h) fun us s1 ⟨vs, H1, I1, r1, a, dx, fs, ev, e1, q1⟩ => by
    subst ev
    rw [Vals.ref1 r1]
    refine len_in I1 e1 hm (wpAny_mono (run_fnW (us := [.ref a]) (vs := [.ref a]) F hr.in1 I1.env0.in1 hb (hx σ) I1 (.cons rfl .nil) q1) (fun q s' hq => ?_) fun _ _ z => z)
    obtain ⟨v, H', I', rv, n, rfl, n0, n1, hq⟩ := hq
    obtain ⟨t0, rfl⟩ := (show ∃ t, q = Value.int n t from rv)
    exact ⟨n, t0, rfl, n0, n1, fun t tk => ⟨.int n, H', I'.tok tk, ⟨t, rfl⟩, hq⟩⟩) he hpl) (by decide) (by decide))⟩
def lenN (x : RV) (k : Int → Prop) (_ : Tg k := .mk) : Prop := match x with
  | .v (.int n) => (0 ≤ n ∧ n < 2 ^ 62) ∧ k n
  | _ => False
theorem lenN_i {n : Int} {k : Int → Prop} {t : Tg k} : lenN (.v (.int n)) k t = ((0 ≤ n ∧ n < 2 ^ 62) ∧ k n) := rfl
def wLenO (c : Str) (df : DF) (wo : WE) : WE := fun xq r om k => wo xq r om fun x r1 om1 => rdIn x om1 c fun a _ => callK df [.h a] om1 (fun x om' => lenN x fun n => k (.v (.int n)) r1 om') (fun ex om' => xq ex r1 om')
theorem wLenO_q {c : Str} {df : DF} {wo : WE} {xq : DX} {k : RV → Env → Om → Prop} : wLenO c df wo xq r om k = wo xq r om fun x r1 om1 => rdIn x om1 c fun a _ => callK df [.h a] om1 (fun x om' => lenN x fun n => k (.v (.int n)) r1 om') (fun ex om' => xq ex r1 om') := rfl
theorem se_lenO {c : Str} {cn : Con} {to : TE} {wo : WE} (ho : SE K W to wo) : SE K W (tLenO (He.ga K c) (toSp K cn) (L2.WE W) to) (wLenO c cn.df wo) := by
  intro B F om H st r xq k Q R hx hQ hw
  refine ho B F om H st r xq _ _ R hx (fun x r1 om1 F1 H1 y R1 s1 k1 q1 hw => ?_) hw
  obtain ⟨a, dx, fs, ps, rfl, rfl, e1, e2, e3, hw⟩ := rdIn_inv R1 q1 hw
  refine ⟨a, dx, fs, rfl, e2, call_core R1 hx (.cons (.h a) .nil) (fun x om' F' H' y R' s' q' hk => ?_) hw⟩
  unfold lenN at hk
  split at hk
  · next n =>
    cases (show Rep K F' y (.int n) from q')
    exact ⟨n, rfl, hk.1.1, hk.1.2, hQ (.v (.int n)) _ _ _ _ _ R' (s1.trans s') trivial (Rep.int n) hk.2⟩
  · exact hk.elim
theorem de_lenO {c : Str} {cn : Con} {k : Nat} {o : Expr} {to : TE} {wo : WE} {p : Pos} (D : DefM X.prog X.w X.K X.mg X.base c "__len__" cn k) (hr : Room (k + 1) X.A) (tk : Takes X W) (ml : X.mg "len" = none) (ho : DE X W o to wo) (hg : Gl X "len" := by rfl)
    (he : starEach [o] X.env = (false, eval o X.env) :: starEach [] X.env := by rfl) (hpl : (backTo pos (starEach [] X.env)).any (·.1) = false := by rfl) {K' : PySem.W.Frag} (hK : X.K = K' := by rfl) :
    DE X W (.Call (.Name "len" p) [o] [] pos) (tLenO (He.ga K' c) (toSp K' cn) (L2.WE W) to) (wLenO c cn.df wo) := by
  subst hK
  obtain ⟨h1, a, fd, ps, h2, h3, h4⟩ := D
  exact ⟨pe_lenO h2 h3 hr h4 (fun σ => passAt tk σ) ml ho.p hg he hpl, se_lenO ho.s⟩
def dcGo (g : GT) (wt : WT) (wk wv : WE) (vs : List Nat) : List D → List (Int × D) → Env → Om → (List (Int × D) → Env → Om → Prop) → Prop
  | [], ps, r, om, fin => fin ps r om
  | d :: ds, ps, r, om, fin => g (.v d) r fun r2 => wt X0 r2 om fun b r3 om3 =>
      if b = true then wk X0 r3 om3 fun x r4 om4 => wd (datE x) fun kd => wd (intD kd) fun n => wv X0 r4 om4 fun y r5 om5 => wd (datE y) fun e => ps.length < sizeLine ∧ dcGo g wt wk wv vs ds (putP' ps n e) (wipeE r5 vs) om5 fin
      else dcGo g wt wk wv vs ds ps (wipeE r3 vs) om3 fin
def wDc (wi : WI) (g : GT) (wt : WT) (wk wv : WE) (vs : List Nat) : WE := fun xq r om k => wi xq r om fun items r1 om1 => dcGo g wt wk wv vs items [] (wipeE r1 vs) om1 fun ps r2 om2 => ∀ p, om2 p = none → k (.v (.h p)) r2 (oset om2 p (.dct ps))
structure DicF (K : PySem.W.Frag) (w : World) (x : Str) (tab : List (Str × Str)) : Prop where
  ok : ∀ z f, tab.lookup z = some f → KDct K w (He.ga K x) z (.ref (He.ga K f))
def tabFB (K : PySem.W.Frag) (x : Str) (tab : List (Str × Str)) : Bool := tab.all fun q => decide (nsIn K (He.ga K x) q.1 = some (some (.ref (He.ga K q.2))))
def wKFn (tab : List (Str × Str)) (we : WE) : WE := fun xq r om k => we xq r om fun x r1 om1 => wd (datB r1 om1 x) fun d => wd (strD d) fun z => wdK (tab.lookup z) fun f => k (.v (.fn f)) r1 om1
end
end DL

set_option Elab.async false
set_option linter.all false
set_option maxRecDepth 100000
set_option maxHeartbeats 4000000
namespace DL
open PySem PySem.Spec PyProof.Rows L2
def rOnce (K : PySem.W.Frag) : R2 := fun x y H Q => ∃ l xs, x = .ref l ∧ y = .int 1 ∧ SqT K H l xs ∧ Q (.ref l) H
def pMulT : P2 := fun d e c => match d, e with
  | .tup xs, .int k => xs ≠ [] ∧ 1 ≤ k ∧ k ≤ 1000 ∧ xs.length ≤ 1000 ∧ c (.v (.tup (List.replicate k.toNat xs).flatten))
  | _, _ => False
section
variable {X : Cx}
end
section
variable {X : Cx} {K : PySem.W.Frag} {B : Base} {F H : Hp} {om : Om} {st : L2.St} {r : Env} {W : WX} {pos : Pos}
def wDSd (i : Nat) (wk wx : WE) : WE := fun xq r om k => rdDct r[i]? om fun _ _ => wk xq r om fun y r1 om1 => wd (datB r1 om1 y) fun kd => wd (intD kd) fun n => wx xq r1 om1 fun x r2 om2 => wd (datE x) fun d => rdDct r2[i]? om2 fun a ps => ps.length ≤ 100000 ∧ cnd (hasP ps n) (wd (getP ps n) fun e => k (.v e) r2 om2) (k (.v d) r2 (oset om2 a (.dct (putP' ps n d))))
def wDGt (i : Nat) (wk wx : WE) : WE := fun xq r om k => rdDct r[i]? om fun _ _ => wk xq r om fun y r1 om1 => wd (datB r1 om1 y) fun kd => wd (intD kd) fun n => wx xq r1 om1 fun x r2 om2 => wd (datE x) fun d => rdDct r2[i]? om2 fun _ ps => cnd (hasP ps n) (wd (getP ps n) fun e => k (.v e) r2 om2) (k (.v d) r2 om2)
end
section
variable {K : PySem.W.Frag} {F F' H H' : Hp} {om om1 : Om}
def thawO (S : List Addr) (om : Om) : Ob → Ob
  | .dct ps => .dct (ps.map fun q => (q.1, thaw S om q.2))
  | o => o
def tout (S T : List Addr) (om : Om) : Om := fun b => if b ∈ S then none else if b ∈ T then (om b).map (thawO S om) else om b
def frzDC (c : Con) : Con := ⟨c.n, fun ds om k xk => c.df ds om (fun x om2 => ∀ S T om1 d, (∀ b ∈ S, om b = none) → om2 = tout S T om1 → x = .v (thaw S om1 d) → k (.v d) om1) xk, fun ds om k xk h => c.len ds om _ _ h, fun ds om k k' xk xk' hk hx h => c.mono _ _ _ _ _ _ (fun x om2 g S T om1 d h1 h2 h3 => hk _ _ (g S T om1 d h1 h2 h3)) (fun ex om1 g => hx _ _ g) h⟩
end
end DL

set_option Elab.async false
set_option linter.all false
set_option maxRecDepth 100000
namespace DL
open PySem L2 PySem.W
section
variable {X : Cx} {K : PySem.W.Frag} {B : Base} {F F' H H' : Hp} {om : Om} {st : L2.St} {r : Env} {W : WX} {pos : Pos}
def wVarH (i : Nat) : WE := fun _ r om k => match r[i]? with
  | some (some (.o ds)) => ∀ a, om a = none → k (.v (.h a)) (r.set i (some (.v (.h a)))) (oset om a (.lst ds))
  | _ => False
def rdVH (x : Option (Option RV)) (i : Nat) (r : Env) (om : Om) (k : RV → Env → Om → Prop) (_ : Tg k := .mk) : Prop := match x with
  | some (some (.o ds)) => ∀ a, om a = none → k (.v (.h a)) (r.set i (some (.v (.h a)))) (oset om a (.lst ds))
  | _ => False
def wCallKL (df : DF) (n m : Nat) (gD : List D → List D → List D) (wa wk : WA) : WE := fun xq r om k => wa xq r om fun xs r1 om1 => wk xq r1 om1 fun zs r2 om2 => wd (datsB r2 om2 xs) fun ds => wd (datsB r2 om2 zs) fun es =>
  (ds.length = n ∧ es.length = m) ∧ df (gD ds es) (fun _ => none) (fun x _ => lfR x ∧ k x r2 om2) (fun ex _ => lfX ex ∧ xq ex r2 om2)
def ddt (om : Om) : D → D
  | .tup ds => .tup (ds.map (deref om))
  | d => d
def wCallU (df : DF) (dds : List D) (wa : WA) : WE := fun xq r om k => wa xq r om fun xs r1 om1 => wd (datsB r1 om1 xs) fun ds => df (ds.map (ddt om1) ++ dds) (fun _ => none) (fun x _ => lfR x ∧ k x r1 om1) (fun ex _ => lfX ex ∧ xq ex r1 om1)
end
end DL

set_option Elab.async false
set_option linter.all false
set_option maxRecDepth 100000
namespace DL
open PySem L2 PySem.W
theorem na_nil {K : PySem.W.Frag} {C : Addr} : ∀ f ∈ ([] : List Str), NoAttr K C f := fun _ h => nomatch h
theorem na_cons {K : PySem.W.Frag} {C : Addr} {g : Str} {fl : List Str} (h : NoAttr K C g) (t : ∀ f ∈ fl, NoAttr K C f) : ∀ f ∈ g :: fl, NoAttr K C f := fun f m => by
  rcases List.mem_cons.mp m with rfl | m
  · exact h
  · exact t f m
def etB (K : PySem.W.Frag) (a : Addr) : Bool := match K.lookup a with
  | some o => (match o.cls, o.data with
    | .type "tuple", .seq its _ => its.toList.isEmpty
    | _, _ => false)
  | none => false
theorem etB_ok {K : PySem.W.Frag} {a : Addr} (h : etB K a = true) (F : Hp) : Rep K F (.ref a) (.tup []) := by
  unfold etB at h
  split at h
  · next o eo =>
    split at h
    · next its n ec ed =>
      have e : its.toList = [] := List.isEmpty_iff.mp h
      exact Rep.tup (xs := []) (.inr ⟨o, its, n, eo, ec, ed, (by have : its.size = 0 := (by rw [← Array.length_toList, e]; rfl); rw [this]; exact Nat.zero_le _), by rw [e]; exact .nil⟩) .nil
    · cases h
  · cases h
section
open PyProof.Rows
variable {prog : Program} {w : World} {A : Around} {E : Value → Shared → Prop} {s : Shared}
end
def gStarN (K : PySem.W.Frag) (n : Nat) (t : TGs) : TG := fun v σ H Q => ∃ a ys xs, v = .ref a ∧ ys.length = n ∧ (SqL K H a (ys ++ xs) ∨ SqT K H a (ys ++ xs)) ∧ (ys ++ xs).length ≤ 16000 ∧ ∀ p, H p = none → t (ys ++ [.ref p]) σ (upd H p (.lst xs)) Q
section
open PyProof.Rows
variable {X : Cx} {K : PySem.W.Frag} {W : WX} {pos : Pos} {B : Base} {F F' H H' : Hp} {om : Om} {st : L2.St} {r : Env}
def seqX : RV → Option (List D)
  | .v (.lst ds) => some ds
  | .v (.frl ds) => some ds
  | .v (.tup ds) => some ds
  | _ => none
def putS : List Nat → Nat → List D → Env → (Env → Prop) → Prop
  | [], j, ds, r, k => j < r.length ∧ k (r.set j (some (.o ds)))
  | i :: is, j, d :: ds, r, k => i < r.length ∧ putS is j ds (r.set i (some (.v d))) k
  | _ :: _, _, [], _, _ => False
def wStarN (we : WE) (is : List Nat) (j : Nat) : WS := fun e r om => we e.xq r om fun x r1 om1 => wd (seqX (fz x)) fun ds => ds.length ≤ 16000 ∧ putS is j ds r1 fun r2 => e.nx r2 om1
def gNames : List Nat → TGs → TGs
  | [], t => t
  | i :: is, t => gCons (gName i) (gNames is t)
end
end DL

set_option Elab.async false
set_option linter.all false
set_option maxRecDepth 100000
namespace DL
open PySem L2 PySem.W
section
variable {K : PySem.W.Frag} {B : Base} {F F' : Hp} {om : Om} {H H' : Hp} {st : St} {r : DL.Env} {W : WX} {X : Cx} {pos : Pos}
def idxD (e : D) : List D → Option Nat
  | [] => none
  | d :: ds => if eqD d e = true then some 0 else (idxD e ds).map (· + 1)
theorem idxD_spec (e : D) : ∀ {ds : List D} {j : Nat}, idxD e ds = some j → ∃ z, (pys ds)[j]? = some z ∧ PyData.eqv z (py e) = true ∧ ∀ (m : Nat) (z' : PyData), m < j → (pys ds)[m]? = some z' → PyData.eqv z' (py e) = false
  | [], j, h => by cases h
  | d :: ds, j, h => by
    unfold idxD at h
    by_cases q : eqD d e = true
    · rw [if_pos q] at h
      cases h
      exact ⟨py d, rfl, q, fun m z' hm => absurd hm (by omega)⟩
    · rw [if_neg q] at h
      obtain ⟨i, hi, rfl⟩ := Option.map_eq_some_iff.mp h
      obtain ⟨z, h1, h2, h3⟩ := idxD_spec e hi
      refine ⟨z, h1, h2, fun m z' hm hz => ?_⟩
      cases m with
      | zero =>
        have e1 : py d = z' := Option.some.inj hz
        rw [← e1]
        have : eqD d e = false := by simpa using q
        exact this
      | succ m => exact h3 m z' (by omega) hz
def wIndex (wo wa : WE) : WE := fun xq r om k => wo xq r om fun x r1 om1 => wd (datB r1 om1 x) fun d0 => wd (lstO d0) fun _ => wa xq r1 om1 fun y r2 om2 => wd (datB r2 om2 x) fun d => wd (datB r2 om2 y) fun e => wd (lstO d) fun ds =>
  okE e ∧ okE (.lst ds) ∧ wd (idxD e ds) fun j => k (.v (.int (j : Int))) r2 om2
end
end DL

set_option Elab.async false
set_option linter.all false
set_option maxRecDepth 100000
set_option maxHeartbeats 2000000
namespace DL
open PySem PySem.Spec PyProof.Rows L2 PpSet
def tNums (w : World) (wi : TI) (g : TG) (te : TE) (vs : List Nat) : TE := fun σ H Q => wi σ H fun J H1 => ∀ D, H1 D = none → ∃ St : Nat → Nat → Hp → Prop, (∃ m, St 0 m (upd H1 D (SetO w D (fun _ => false) 0))) ∧
  ∀ i m H, St i m H → (J.stop i H ∧ Q (.ref D) H) ∨ (J.go i H ∧ ∃ After : Hp → Prop, (∀ H', After H' → ∃ m', m' < m ∧ St (i + 1) m' H') ∧ ∀ x H', J.yld i H x H' → g x (wipe σ vs) H' fun τ H2 => wipe τ vs = wipe σ vs ∧
    te τ H2 fun y H4 => ∃ (c : Int) (S : Int → Bool) (n : Nat), y = .int c ∧ H4 D = some (SetO w D S n) ∧ n + 1 < scanBound ∧ After (upd H4 D (SetO w D (fun j => S j || decide (j = c)) (if S c = true then n else n + 1))))
end DL
namespace DL
open PySem PySem.Spec PyProof.Rows L2 PpSet
section
variable {K : PySem.W.Frag} {B : Base} {F F' : Hp} {om : Om} {H H' : Hp} {st : L2.St} {r : DL.Env} {W : WX} {X : Cx} {pos : Pos}
def scGo (g : GT) (we : WE) (vs : List Nat) : List D → List Int → DL.Env → Om → (List Int → DL.Env → Om → Prop) → Prop
  | [], acc, r, om, fin => fin acc r om
  | d :: ds, acc, r, om, fin => g (.v d) r fun r2 => we X0 r2 om fun x r4 om4 => wd (datB r4 om4 x) fun y => wd (intD y) fun c => acc.length < 4000 ∧ scGo g we vs ds (if c ∈ acc then acc else acc ++ [c]) (wipeE r4 vs) om4 fin
def wLenSc (wi : WI) (g : GT) (we : WE) (vs : List Nat) : WE := fun xq r om k => wi xq r om fun items r1 om1 => scGo g we vs items [] (wipeE r1 vs) om1 fun acc r2 om2 => k (.v (.int (acc.length : Nat))) r2 om2
def tLenSc (w : World) (wi : TI) (g : TG) (te : TE) (vs : List Nat) : TE := tCB (fun xs H Q => ∃ (a : Addr) (S : Int → Bool) (n : Nat), xs = [.ref a] ∧ H a = some (SetO w a S n) ∧ Q (.int (n : Nat)) H) (tCons (tNums w wi g te vs) tNil)
def scK (g : GT) (we : WE) (vs : List Nat) (l : List D) (acc : List Int) (r : DL.Env) (om : Om) (fin : List Int → DL.Env → Om → Prop) (_ : Tg (g, we, fin) := .mk) : Prop := scGo g we vs l acc r om fin
theorem scK_nil {g : GT} {we : WE} {vs : List Nat} {acc : List Int} {r : DL.Env} {om : Om} {fin : List Int → DL.Env → Om → Prop} {t : Tg (g, we, fin)} : scK g we vs [] acc r om fin t = fin acc r om := rfl
theorem scK_cons {g : GT} {we : WE} {vs : List Nat} {d : D} {ds : List D} {acc : List Int} {r : DL.Env} {om : Om} {fin : List Int → DL.Env → Om → Prop} {t : Tg (g, we, fin)} : scK g we vs (d :: ds) acc r om fin t = g (.v d) r fun r2 => we X0 r2 om fun x r4 om4 => wd (datB r4 om4 x) fun y => wd (intD y) fun c => acc.length < 4000 ∧ scK g we vs ds (if c ∈ acc then acc else acc ++ [c]) (wipeE r4 vs) om4 fin := rfl
end
def pEqX : P2 := fun d e c => match d, e with
  | .dct [] [], .dct [] [] => c (.v (.bl true))
  | d, e => pEq d e c
abbrev rEqX (K : PySem.W.Frag) : R2 := fun x y H Q => rEqA K x y H Q ∨ rEqDA x y H Q
section
variable {X : Cx}
end
@[simp] theorem pEqX_int (i j : Int) (c : RV → Prop) : pEqX (.int i) (.int j) c = c (.v (.bl (decide (i = j)))) := rfl
@[simp] theorem pEqX_str (i j : Str) (c : RV → Prop) : pEqX (.str i) (.str j) c = c (.v (.bl (decide (i = j)))) := rfl
@[simp] theorem pEqX_bl (i j : Bool) (c : RV → Prop) : pEqX (.bl i) (.bl j) c = pEq (.bl i) (.bl j) c := rfl
@[simp] theorem pEqX_dct (c : RV → Prop) : pEqX (.dct [] []) (.dct [] []) c = c (.v (.bl true)) := rfl
end DL

set_option Elab.async false
set_option linter.all false
set_option maxRecDepth 100000
namespace DL
open PySem L2 PyProof PyProof.Rows
section
variable {X : Cx} {K : PySem.W.Frag} {W : WX} {pos : Pos}
def tChain3 (r r' r'' : R2) (ta tb tc td : TE) : TE := fun σ H Q => ta σ H fun x H1 => tb σ H1 fun y H2 => r x y H2 fun z H3 => ∃ k, z = .bl k ∧
  (if k = true then tc σ H3 fun w' H4 => r' y w' H4 fun z' H5 => ∃ k', z' = .bl k' ∧ (if k' = true then td σ H5 fun v' H6 => r'' w' v' H6 Q else Q (.bl false) H5) else Q (.bl false) H3)
def wChain3 (p p' p'' : P2) (wa wb wc we : WE) : WE := fun xq r om k => wa xq r om fun x r1 om1 => wb xq r1 om1 fun y r2 om2 => wd (datB r2 om2 x) fun d => wd (datB r2 om2 y) fun e =>
  p d e fun z => wd (datB r2 om2 z) fun f => wd (boolD f) fun b => if b = true then wc xq r2 om2 fun u r3 om3 => wd (datB r3 om3 y) fun e' => wd (datB r3 om3 u) fun g => p' e' g fun z => wd (datB r3 om3 z) fun f => wd (boolD f) fun b =>
    (if b = true then we xq r3 om3 fun v r4 om4 => wd (datB r4 om4 u) fun e' => wd (datB r4 om4 v) fun g => p'' e' g fun z => k z r4 om4 else k (.v (.bl false)) r3 om3) else k (.v (.bl false)) r2 om2
variable {xq : DX} {r : DL.Env} {om : Om} {k : RV → DL.Env → Om → Prop}
end
end DL

set_option Elab.async false
set_option linter.all false
set_option maxRecDepth 100000
namespace DL
open PySem L2 PyProof PyProof.Rows
section
variable {X : Cx} {CX : CXT} {k n : Nat} {fd : FuncData} {ps ks : List Str} {sp : Sp} {E : L2.St → XK} {x y : Str} {p pos : Pos} {e : Expr} {es : List Expr} {kws : List Keyword} {t tk : TA} {g : List Value → List Value → List Value} {gV : List V → List V → List V}
def tCallTK (K : PySem.W.Frag) (i : Nat) (y : Str) (n m : Nat) (sp : Sp) (gV : List V → List V → List V) (E : L2.St → XK) (t tk : TA) : TE := fun σ H Q => σ[i]? = some (some (.ref (He.ga K y))) ∧ tCallKw n m sp gV E t tk σ H Q
end
section
variable {X : Cx} {K : PySem.W.Frag} {W : WX} {pos : Pos}
abbrev FTabK := List (Str × Con × (List D → List D → List D) × (List V → List V → List V))
def wCallTK (l : FTabK) (i n m : Nat) (wa wk : WA) : WE := fun xq r om k => match r[i]? with
  | some (some (.v (.fn x))) => wd (l.lookup x) fun c => wa xq r om fun xs r1 om1 => wd (datsE xs) fun ds => wk xq r1 om1 fun zs r2 om2 => wd (datsE zs) fun es =>
      (ds.length = n ∧ es.length = m) ∧ c.1.df (c.2.1 ds es) om2 (fun x om' => k x r2 om') (fun ex om' => xq ex r2 om')
  | _ => False
def DefTK (P : Program) (w : World) (K : PySem.W.Frag) (mg : Str → Option Value) (base : Heap) (k n : Nat) (ks : List Str) (l : FTabK) : Prop :=
  ∀ p ∈ l, DefK P w K mg base p.1 p.2.1 k n ks p.2.2.2 ∧ mg p.1 = some (.ref (He.ga K p.1)) ∧ GRep K p.2.2.2 p.2.2.1
def rdTK (o : Option (Option RV)) (l : FTabK) (n m : Nat) (wa wk : WA) (xq : DX) (r : DL.Env) (om : Om) (k : RV → DL.Env → Om → Prop) (_ : Tg (wa, wk, xq, k) := .mk) : Prop := match o with
  | some (some (.v (.fn x))) => wd (l.lookup x) fun c => wa xq r om fun xs r1 om1 => wd (datsE xs) fun ds => wk xq r1 om1 fun zs r2 om2 => wd (datsE zs) fun es =>
      (ds.length = n ∧ es.length = m) ∧ c.1.df (c.2.1 ds es) om2 (fun x om' => k x r2 om') (fun ex om' => xq ex r2 om')
  | _ => False
end
end DL

set_option Elab.async false
set_option linter.all false
set_option maxRecDepth 100000
namespace DL
open PySem PySem.Spec PyProof PyProof.Rows L2
section
variable {prog : Program} {w : World} {A : Around} {s : Shared} {R : Result → Shared → Prop}
end
section
variable {X : Cx}
end
section
variable {X : Cx} {W : WX} {pos : Pos}
end
end DL

set_option Elab.async false
set_option linter.all false
set_option maxRecDepth 100000
namespace DL
open PySem PySem.Spec PyProof PyProof.Rows L2
section
variable {X : Cx} {K : PySem.W.Frag} {F H : Hp} {W : WX} {pos : Pos}
def wMkX0 (x : Str) : WE := fun _ r om k => k (.v (.exc x [] [])) r om
def wMkXF (x : Str) (fs : List Str) (wa : WA) : WE := fun xq r om k => wa xq r om fun xs r1 om1 => wd (datsE xs) fun ds => (ds.length = fs.length ∧ ds.length ≤ 1000) ∧ k (.v (.exc x fs.reverse ds.reverse)) r1 om1
end
end DL

set_option Elab.async false
set_option linter.all false
set_option maxRecDepth 100000
namespace DL
open PySem L2 PyProof.Rows PySem.Spec
section
variable {X : Cx}
abbrev Cl := Value × Nat × TS
inductive HsOk (X : Cx) : List ExceptHandler → List Cl → Prop
  | nil : HsOk X [] []
  | cons {hs : List ExceptHandler} {cl : List Cl} {x n : Str} {c : Value} {i : Nat} {b₀ : Stmt} {suite : List Stmt} {ts : TS} {np pos' : Pos} (hi : X.N[i]? = some n) (hln : X.env.kindOf n = some .local) (hc : Names X x c)
      (hsu : ∀ (a : Addr) (pn : List (Addr × Obj)), PSs (X.suite a pn) (b₀ :: suite) ts) (r : HsOk X hs cl) : HsOk X (.ExceptHandler (some (.Name x np)) (some n) (b₀ :: suite) pos' :: hs) ((c, i, ts) :: cl)
def wAsTL (K : PySem.W.Frag) : List Cl → WX → Ends → WX
  | [], W, _ => W
  | (c, i, ts) :: r, W, D => wAsT K c i ts (wAsTL K r W D) D
end
section
variable {X : Cx} {K : PySem.W.Frag} {W : WX} {pos : Pos}
abbrev DCl := Nat × (Str → Option Bool) × WS
def xTryL : List DCl → DEnds → DX
  | [], e => e.xq
  | (i, sub, ws) :: r, e => xTry i sub ws { e with xq := xTryL r e }
def wTryAsL (l : List DCl) (wb : WS) : WS := fun e r om => wb { nx := e.nx, rt := e.rt, bk := e.bk, ct := e.ct, xq := xTryL l e } r om
inductive ClOk (X : Cx) : List ExceptHandler → List Cl → List DCl → Prop
  | nil : ClOk X [] [] []
  | cons {hs : List ExceptHandler} {cl : List Cl} {dl : List DCl} {x n : Str} {hv : Value} {i : Nat} {sub : Str → Option Bool} {b₀ : Stmt} {suite : List Stmt} {ts : TS} {ws : WS} {np pos' : Pos} (hi : X.N[i]? = some n) (hln : X.env.kindOf n = some .local) (hc : Names X x hv)
      (hsub : ∀ c b, sub c = some b → PySem.W.exmOne X.K (.ref (He.ga X.K c)) hv = some b) (hsu : ∀ (a : Addr) (pn : List (Addr × Obj)), DSs (X.suite a pn) W0 (b₀ :: suite) ts ws) (r : ClOk X hs cl dl) :
      ClOk X (.ExceptHandler (some (.Name x np)) (some n) (b₀ :: suite) pos' :: hs) ((hv, i, ts) :: cl) ((i, sub, ws) :: dl)
theorem ClOk.hs {hs : List ExceptHandler} {cl : List Cl} {dl : List DCl} (h : ClOk X hs cl dl) : HsOk X hs cl := by
  induction h with
  | nil => exact .nil
  | cons hi hln hc hsub hsu r ih => exact .cons hi hln hc (fun a pn => (hsu a pn).p) ih
end
end DL

set_option Elab.async false
set_option linter.all false
set_option maxRecDepth 100000
namespace DL
open PySem L2 PySem.W PyProof.Rows PySem.Spec
section
variable {X : Cx}
def rItemsK : V → List V → Hp → VK → Prop := fun x xs H Q => ∃ (a : Addr) (kvs : List (Key × V)), x = .ref a ∧ xs = [] ∧ H a = some (.dK kvs) ∧ ∀ p, H p = none → Q (.ref p) (upd H p (DX.itemsO p a))
def itD (b : Int × V × PyData) : PyData := .tuple [.int b.1, b.2.2]
def rSortItK (K : PySem.W.Frag) : List V → Hp → VK → Prop := fun vs H Q => ∃ (p a : Addr) (bs : List (Int × V × PyData)), vs = [.ref p] ∧ H p = some (DX.itemsO p a) ∧ H a = some (.dK (bs.map fun b => ((.inl b.1 : Key), b.2.1))) ∧
  (∀ b ∈ bs, Dp K H b.2.1 b.2.2) ∧ AllAlike (bs.map itD) ∧ (∀ b ∈ bs, (itD b).depth ≤ 40) ∧
  ∀ (H' : Hp) (l : Addr) (ms : List (Addr × Int × V × PyData)), (∀ b o, H b = some o → H' b = some o) → ms.map (·.2) = bs.mergeSort (dataLe false itD) → H l = none → H' l = some (.lst (ms.map fun c => V.ref c.1)) →
    (∀ c ∈ ms, H c.1 = none ∧ H' c.1 = some (.tup [.int c.2.1, c.2.2.1])) → Q (.ref l) H'
end

section
variable {X : Cx} {K : PySem.W.Frag} {B : Base} {F F' H H' : Hp} {om : Om} {st : L2.St} {r : Env} {W : WX} {pos : Pos}
def itemD (q : Int × D) : D := .tup [.int q.1, q.2]
def rdSI (x : RV) (om : Om) (c : RV → Prop) (_ : Tg c := .mk) : Prop := match x with
  | .v (.h a) => rdDh (om a) a fun _ ps => okSort (ps.map itemD) ∧ c (.o (sortD (ps.map itemD)))
  | _ => False
def wSortIt (we : WE) : WE := fun xq r om k => we xq r om fun x r1 om1 => rdSI x om1 fun z => k z r1 om1
end
end DL

set_option Elab.async false
set_option linter.all false
set_option maxRecDepth 100000
namespace DL
section
open PySem PySem.MeetsSeq PyProof.Rows PySem.SeqAt
theorem remA_loop (l : Addr) (items : Array Value) (n : Nat) (dd : Option Addr) (sl : Array (Option Value)) (x : Value) (e : Value → Bool) (j : Nat) (hj : j < items.size) (hit : e items[j] = true) (k : Nat) (hs1 : items.size ≤ sizeLine) :
    ∀ i : Nat, j - i = k → i ≤ j → (∀ m (hm : m < items.size), i ≤ m → m < j → e items[m] = false) → Meets (Builtin.«list.remove.loop» ⟨[.ref l, x, rawInt i], []⟩)
      (fun A R s => s.heap.get? l = some { cls := .type "list", dict := dd, data := .seq items n, slots := sl } ∧ (∀ y, y ∈ items → EqAt A.in1 s y x (e y)) ∧ R (.ok (.ret .none)) { s with heap := s.heap.update l (Obj.mapSeq fun xs => xs.eraseIdxIfInBounds j) }) := by
  induction k with
  | zero =>
    intro i hk hij hno prog w A R s h
    obtain ⟨hp, g, d, tk, os⟩ := s; obtain ⟨hl, he, h⟩ := h
    have hij' : i = j := by omega
    subst hij'
    wp_walk using wpAny_loadPart' hl
    have hi : items[((i : Nat) : Int).toNat]? = some items[i] := by simp [hj]
    rw [hi]
    refine wpAny_bind (he _ (Array.getElem_mem hj) prog w _ _ ?_)
    rw [hit]
    have hz' : (items.eraseIdxIfInBounds i).size ≤ sizeLine + 1 := Nat.le_trans (size_erased items _) (Nat.le_succ_of_le hs1)
    wp_walk using (wpAny_updateSeq hl rfl (hz := hs1) (_hz' := hz')), wpAny_loadPart' hl
    simpa using h
  | succ k ih =>
    intro i hk hij hno prog w A R s h
    obtain ⟨hp, g, d, tk, os⟩ := s; obtain ⟨hl, he, h⟩ := h
    have hlt : i < items.size := by omega
    wp_walk using wpAny_loadPart' hl
    have hi : items[((i : Nat) : Int).toNat]? = some items[i] := by simp [hlt]
    have hc : ((i : Int) + 1) = ((i + 1 : Nat) : Int) := by push_cast; rfl
    rw [hi]
    refine wpAny_bind (he _ (Array.getElem_mem hlt) prog w _ _ ?_)
    rw [hno i hlt (Nat.le_refl _) (by omega)]
    wp_walk
    rw [hc]
    exact ⟨plainId_quiet plain_remove_loop _, codeAny_builtin entry_remove_loop (by
      rw [Around.under_plainId plain_remove_loop _]
      exact ih (i + 1) (by omega) (by omega) (fun m hm h1 h2 => hno m hm (by omega) h2) prog w A R _ ⟨hl, he, h⟩)⟩
theorem remA_at (l : Addr) (items : Array Value) (n : Nat) (dd : Option Addr) (sl : Array (Option Value)) (x : Value) (e : Value → Bool) (j : Nat) (hj : j < items.size)
    (hit : e items[j] = true) (hno : ∀ m (hm : m < items.size), m < j → e items[m] = false) (hs1 : items.size ≤ sizeLine) :
    Meets (Builtin.«list.remove» ⟨[.ref l, x], []⟩)
      (fun A R s => s.heap.get? l = some { cls := .type "list", dict := dd, data := .seq items n, slots := sl } ∧ (∀ y, y ∈ items → EqAt A.in1 s y x (e y)) ∧ R (.ok (.ret .none)) { s with heap := s.heap.update l (Obj.mapSeq fun xs => xs.eraseIdxIfInBounds j) }) := by
  intro prog w A R s h
  obtain ⟨hp, g, d, tk, os⟩ := s; obtain ⟨hl, he, h⟩ := h
  wp_walk using wpAny_loadPart' hl
  exact ⟨plainId_quiet plain_remove_loop _, codeAny_builtin entry_remove_loop (by
    rw [Around.under_plainId plain_remove_loop _]
    exact remA_loop l items n dd sl x e j hj hit _ hs1 0 rfl (Nat.zero_le _) (fun m hm _ h2 => hno m hm h2) prog w A R _ ⟨hl, he, h⟩)⟩
end
end DL
namespace DL
open PySem L2 PySem.W PyProof.Rows PySem.Spec
section
variable {X : Cx}
def rRemD (K : PySem.W.Frag) : V → List V → Hp → VK → Prop := fun x xs H Q => ∃ (a : Addr) (y : V) (d : PyData) (vs : List V) (ds : List PyData) (j : Nat) (z : PyData), x = V.ref a ∧ xs = [y] ∧ H a = some (.lst vs) ∧ DpAll K H vs ds ∧ Dp K H y d ∧
  SeqAt.shaped (.list ds) = true ∧ SeqAt.shaped d = true ∧ ds[j]? = some z ∧ PyData.eqv z d = true ∧ (∀ (m : Nat) (z' : PyData), m < j → ds[m]? = some z' → PyData.eqv z' d = false) ∧ Q .non (upd H a (.lst (vs.eraseIdx j)))
theorem mt_removeD (hu : X.A.units + 65 < cLine) : MtM X "list.remove" (rRemD X.K) := by
  intro pins s σ H x xs v us Q I rx rxs h
  obtain ⟨a, y, d, vs, ds, j, z, rfl, rfl, hH, ha, hy, sl, sd, hz, hzj, hno, q⟩ := h
  cases rx
  cases rxs with
  | cons ry rt =>
    rename_i uy ut
    cases rt
    obtain ⟨bs, r1⟩ := Dp.reads I d y uy hy ry
    have hxs : PyData.canLayAll0 ds = true := SeqAt.canLay_of_shaped sl
    have hroom : X.A.units + 1 + min (PyData.depthAll ds) d.depth < cLine := room_in_shaped sd hu
    obtain ⟨zl, its, n, rv, hl, ho⟩ := I.lstM hH
    obtain ⟨as, h4⟩ := Dp.readsAll I ds _ its ha rv
    have hn : its.length = ds.length := SeqAt.ReadsAll.length ds its as h4
    have hmap : its.map (SeqAt.readOf s.heap) = ds := SeqAt.readsAll_map ds its as hxs h4
    have hvl := rv.length
    obtain ⟨hjd, _⟩ := List.getElem?_eq_some_iff.mp hz
    have hjl : j < its.length := by omega
    have hj : j < its.toArray.size := by simpa using hjl
    have at_ : ∀ (m : Nat) (hm : m < its.toArray.size) (z' : PyData), ds[m]? = some z' → SeqAt.readOf s.heap its.toArray[m] = z' := by
      intro m hm z' hz'
      have hml : m < its.length := by simpa using hm
      rw [← hmap, List.getElem?_map, List.getElem?_eq_getElem hml] at hz'
      have e1 : SeqAt.readOf s.heap its[m] = z' := Option.some.inj (show some (SeqAt.readOf s.heap its[m]) = some z' from hz')
      simpa using e1
    refine call_meets PySem.F.slot_list_remove ⟨_, ho, rfl⟩ PySem.F.entry_list_remove (PySem.F.args_list_remove_2 _ _)
      (remA_at a its.toArray n none #[] uy (fun u => PyData.eqv (SeqAt.readOf s.heap u) d) j hj ?_ ?_ (by rw [List.size_toArray]; omega)) ⟨ho, SeqAt.items_eqAt (vs := its.toArray) (show ReadsAll s.heap its.toArray.toList ds as from h4) r1 hxs (SeqAt.canLay_of_shaped sd) hroom, ?_⟩
    · show PyData.eqv (SeqAt.readOf s.heap its.toArray[j]) d = true
      rw [at_ j hj z hz]
      exact hzj
    · intro m hm hmj
      have hmd : m < ds.length := by
        have : m < its.length := by simpa using hm
        omega
      have hz' : ds[m]? = some ds[m] := List.getElem?_eq_getElem hmd
      show PyData.eqv (SeqAt.readOf s.heap its.toArray[m]) d = false
      rw [at_ m hm _ hz']
      exact hno m _ hmj hz'
    · have rr := rv.eraseIdx j
      refine ⟨.non, _, I.lset (its' := its.eraseIdx j) (t' := s.toks) hH ho ?_ rr ?_, rfl, q⟩
      · show its.toArray.eraseIdxIfInBounds j = (its.eraseIdx j).toArray
        rw [List.eraseIdxIfInBounds_toArray]
      · have := List.length_eraseIdx_le vs j
        omega
end

section
variable {X : Cx} {K : PySem.W.Frag} {W : WX} {pos : Pos}
def mRemD : MutP := fun ds args c => match args with
  | [e] => okE e ∧ okE (.lst ds) ∧ wd (idxD e ds) fun j => c (ds.eraseIdx j) .non
  | _ => False
theorem mRemD_at (ds : List D) (e : D) (c : List D → D → Prop) : mRemD ds [e] c = (okE e ∧ okE (.lst ds) ∧ wd (idxD e ds) fun j => c (ds.eraseIdx j) .non) := rfl
theorem repA_erase {F : Hp} : ∀ {xs : List V} {ds : List D} (j : Nat), RepA K F xs ds → RepA K F (xs.eraseIdx j) (ds.eraseIdx j)
  | _, _, _, .nil => .nil
  | _, _, 0, .cons h t => t
  | _, _, j + 1, .cons h t => .cons h (repA_erase j t)
theorem sm_removeD : SM K (rRemD K) mRemD := by
  intro F H a xs ds ys args c Q s hH h1 h2 hp hQ
  unfold mRemD at hp
  split at hp
  · next e =>
    obtain ⟨ho, hl, hp⟩ := hp
    obtain ⟨j, ej, hp⟩ := wd_iff hp
    obtain ⟨z, g1, g2, g3⟩ := idxD_spec e ej
    cases h2 with
    | cons r t =>
      cases t
      refine ⟨a, _, py e, xs, pys ds, j, z, rfl, rfl, hH, RepA.dp s h1 (by simpa [okPy] using hl.1), r.dp s ho.1, by simpa [py] using hl.2, ho.2, g1, g2, g3, ?_⟩
      exact hQ _ _ _ _ (repA_erase j h1) Rep.non hp
  · exact hp.elim
theorem de_remD {kk : Nat} (i : Nat) {x : Str} {e : Expr} {p1 p2 cpos : Pos} {te : TE} {we : WE} (hr : Room kk X.A) (he : DE X W e te we) (hN : X.N[i]? = some x := by rfl) (hv : Vis X.env.scope x := by first | exact Or.inl rfl | exact Or.inr (Or.inl rfl) | exact Or.inr (Or.inr rfl)) (hd : (x == ("__debug__" : Str)) = false := by decide)
    (hcd : (x == ("__classdict__" : Str)) = false := by decide) (hbase : attributeBase (.Name x p1) "remove" X.env (eval (.Name x p1) X.env) = eval (.Name x p1) X.env := by rfl)
    (hfew : ((backTo cpos (starEach [e] X.env)).all (fun x => !x.1) && (backToKw cpos (keywordEach [] X.env)).all (fun x => x.1.isSome) && decide (([e] : List Expr).length + ([] : List Keyword).length + (if ([] : List Keyword).isEmpty then 0 else 1) < 30)) = true := by rfl)
    (hline : (p2.endLine == cpos.line) = true := by rfl) (hs : starEach [e] X.env = (false, eval e X.env) :: starEach [] X.env := by rfl) (hplain : (backTo cpos (starEach [] X.env)).any (·.1) = false := by rfl) {K' : PySem.W.Frag} (hK : X.K = K' := by rfl) :
    DE X W (.Call (.Attribute (.Name x p1) "remove" p2) [e] [] cpos) (tBM K' "list" (rRemD K') (tVar i) (tCons te tNil)) (wMut i mRemD (wCons we wNil)) := by
  subst hK
  exact ⟨pe_bm PySem.F.plainAttrs_list PySem.F.slot_list_remove PySem.F.type_list_remove (mt_removeD (by have := hr.un; omega)) (pe_var hN hv hd hcd) (pa_cons he.p pa_nil hs) hbase hfew hline hs hplain, se_mut (sa_cons he.s sa_nil) sm_removeD⟩
theorem sgv_lst {vs : List Nat} {n : Nat} {g : TGs} {w : GTs} (hg : SGvs K vs g w) : SGv K vs (gLst K n g) (gL n w) := fun B F om H st r y x k Q R h hQ hw => by
  cases x with
  | v d =>
    cases d with
    | lst ds =>
      obtain ⟨hl, hw⟩ := hw
      cases h with
      | lst q rr => exact ⟨_, _, rfl, SqL.of (R.rh.sub _ _ q), by rw [rr.length]; exact hl, hg B F om H st r _ _ _ _ R rr hQ hw⟩
    | _ => exact hw.elim
  | o ds => exact hw.elim
  | b i => exact hw.elim
theorem dgv_lst' {vs : List Nat} {es : List Expr} {k : Nat} {t : TGs} {w : GTs} {n : Nat} (hc : X.calm = true) (h : DGvs X vs es t w) (hn : (assignEach es X.env).length = n := by rfl) (hst : (assignEach es X.env).findIdx? (·.1) = none := by rfl) {K' : PySem.W.Frag} (hK : X.K = K' := by rfl) : DGv X vs (.Tuple es k pos) (gLst K' n t) (gL n w) := by
  subst hK
  exact ⟨pg_lst hc h.p hn hst, sgv_lst h.s⟩
end
end DL

set_option Elab.async false
set_option linter.all false
set_option maxRecDepth 100000
namespace DL
open PySem L2
theorem nrfl {α : Sort _} {a b : α} (h : a = b) : a = b := h
theorem u_0 : type_of% @wSeq_e := by intros; apply nrfl; apply wSeq_e <;> assumption
theorem u_3 : type_of% @mRemD_at := by intros; apply nrfl; apply mRemD_at <;> assumption
theorem u_16 : type_of% @wIfS_e := by intros; apply nrfl; apply wIfS_e <;> assumption
theorem u_17 : type_of% @wAsg_e := by intros; apply nrfl; apply wAsg_e <;> assumption
theorem u_18 : type_of% @gN_e := by intros; apply nrfl; apply gN_e <;> assumption
theorem u_19 : type_of% @wRet_e := by intros; apply nrfl; apply wRet_e <;> assumption
theorem u_21 : type_of% @wDrop_e := by intros; apply nrfl; apply wDrop_e <;> assumption
theorem u_22 : type_of% @wNext_e := by intros; apply nrfl; apply wNext_e <;> assumption
theorem u_23 : type_of% @wBrk_e := by intros; apply nrfl; apply wBrk_e <;> assumption
theorem u_25 : type_of% @wVar_q := by intros; apply nrfl; apply wVar_q <;> assumption
theorem u_26 : type_of% @wBor_q := by intros; apply nrfl; apply wBor_q <;> assumption
theorem u_27 : type_of% @wMov_q := by intros; apply nrfl; apply wMov_q <;> assumption
theorem u_28 : type_of% @wC.eq_1 := by intros; apply nrfl; apply wC.eq_1 <;> assumption
theorem u_29 : type_of% @wOp.eq_1 := by intros; apply nrfl; apply wOp.eq_1 <;> assumption
theorem u_31 : type_of% @wCB.eq_1 := by intros; apply nrfl; apply wCB.eq_1 <;> assumption
theorem u_32 : type_of% @wCall_q := by intros; apply nrfl; apply wCall_q <;> assumption
theorem u_43 : type_of% @wTup.eq_1 := by intros; apply nrfl; apply wTup.eq_1 <;> assumption
theorem u_44 : type_of% @wLst.eq_1 := by intros; apply nrfl; apply wLst.eq_1 <;> assumption
theorem u_45 : type_of% @wCons.eq_1 := by intros; apply nrfl; apply wCons.eq_1 <;> assumption
theorem u_46 : type_of% @wNil.eq_1 := by intros; apply nrfl; apply wNil.eq_1 <;> assumption
theorem u_47 : type_of% @wTst.eq_1 := by intros; apply nrfl; apply wTst.eq_1 <;> assumption
theorem u_48 : type_of% @wTru.eq_1 := by intros; apply nrfl; apply wTru.eq_1 <;> assumption
theorem u_49 : type_of% @wAnd_q := by intros; apply nrfl; apply wAnd_q <;> assumption
theorem u_50 : type_of% @wOr_q := by intros; apply nrfl; apply wOr_q <;> assumption
theorem u_51 : type_of% @wNot.eq_1 := by intros; apply nrfl; apply wNot.eq_1 <;> assumption
theorem u_52 : type_of% @wAndV_q := by intros; apply nrfl; apply wAndV_q <;> assumption
theorem u_54 : type_of% @wNotV.eq_1 := by intros; apply nrfl; apply wNotV.eq_1 <;> assumption
theorem u_57 : type_of% @wFor_e := by intros; apply nrfl; apply wFor_e <;> assumption
theorem u_58 : type_of% @wiR1.eq_1 := by intros; apply nrfl; apply wiR1.eq_1 <;> assumption
theorem u_59 : type_of% @wiR2.eq_1 := by intros; apply nrfl; apply wiR2.eq_1 <;> assumption
theorem u_62 : type_of% @wYes.eq_1 := by intros; apply nrfl; apply wYes.eq_1 <;> assumption
theorem u_63 : type_of% @wLc_q := by intros; apply nrfl; apply wLc_q <;> assumption
theorem u_64 : type_of% @wMut.eq_1 := by intros; apply nrfl; apply wMut.eq_1 <;> assumption
theorem u_66 : type_of% @wMutE_q := by intros; apply nrfl; apply wMutE_q <;> assumption
theorem u_67 : type_of% @lstS_q := by intros; apply nrfl; apply lstS_q <;> assumption
theorem u_68 : type_of% @rdL_o := by intros; apply nrfl; apply rdL_o <;> assumption
theorem u_69 : type_of% @rdL_h := by intros; apply nrfl; apply rdL_h <;> assumption
theorem u_70 : type_of% @rdLh_l := by intros; apply nrfl; apply rdLh_l <;> assumption
theorem u_71 : type_of% @wSet_e := by intros; apply nrfl; apply wSet_e <;> assumption
theorem u_72 : type_of% @wAug_e := by intros; apply nrfl; apply wAug_e <;> assumption
theorem u_73 : type_of% @wAsgH_e := by intros; apply nrfl; apply wAsgH_e <;> assumption
theorem u_74 : type_of% @rdH_o := by intros; apply nrfl; apply rdH_o <;> assumption
theorem u_77 : type_of% @mApp_at := by intros; apply nrfl; apply mApp_at <;> assumption
theorem u_78 : type_of% @gT_t := by intros; apply nrfl; apply gT_t <;> assumption
theorem u_79 : type_of% @gsNil_e := by intros; apply nrfl; apply gsNil_e <;> assumption
theorem u_80 : type_of% @gsCons_c := by intros; apply nrfl; apply gsCons_c <;> assumption
theorem u_81 : type_of% @deref_non := by intros; apply nrfl; apply deref_non <;> assumption
theorem u_82 : type_of% @deref_bl := by intros; apply nrfl; apply deref_bl <;> assumption
theorem u_83 : type_of% @deref_int := by intros; apply nrfl; apply deref_int <;> assumption
theorem u_85 : type_of% @deref_tup := by intros; apply nrfl; apply deref_tup <;> assumption
theorem u_86 : type_of% @deref_lst := by intros; apply nrfl; apply deref_lst <;> assumption
theorem u_87 : type_of% @deref_frl := by intros; apply nrfl; apply deref_frl <;> assumption
theorem u_89 : type_of% @deref_raw := by intros; apply nrfl; apply deref_raw <;> assumption
theorem u_90 : type_of% @deref_os := by intros; apply nrfl; apply deref_os <;> assumption
theorem u_91 : type_of% @oset_same := by intros; apply nrfl; apply oset_same <;> assumption
theorem u_92 : type_of% @oset_set := by intros; apply nrfl; apply oset_set <;> assumption
theorem u_93 : type_of% @datB_v := by intros; apply nrfl; apply datB_v <;> assumption
theorem u_94 : type_of% @datB_o := by intros; apply nrfl; apply datB_o <;> assumption
theorem u_95 : type_of% @datB_b := by intros; apply nrfl; apply datB_b <;> assumption
theorem u_96 : type_of% @datE_v := by intros; apply nrfl; apply datE_v <;> assumption
theorem u_98 : type_of% @datsE_nil := by intros; apply nrfl; apply datsE_nil <;> assumption
theorem u_99 : type_of% @datsE_v := by intros; apply nrfl; apply datsE_v <;> assumption
theorem u_100 : type_of% @datsB_nil := by intros; apply nrfl; apply datsB_nil <;> assumption
theorem u_101 : type_of% @datsB_cons := by intros; apply nrfl; apply datsB_cons <;> assumption
theorem u_102 : type_of% @fz_v := by intros; apply nrfl; apply fz_v <;> assumption
theorem u_103 : type_of% @fz_o := by intros; apply nrfl; apply fz_o <;> assumption
theorem u_105 : type_of% @boolD_bl := by intros; apply nrfl; apply boolD_bl <;> assumption
theorem u_106 : type_of% @truD_bl := by intros; apply nrfl; apply truD_bl <;> assumption
theorem u_111 : type_of% @intD_int := by intros; apply nrfl; apply intD_int <;> assumption
theorem u_112 : type_of% @int1_int := by intros; apply nrfl; apply int1_int <;> assumption
theorem u_113 : type_of% @int2_int := by intros; apply nrfl; apply int2_int <;> assumption
theorem u_114 : type_of% @lenD_lst := by intros; apply nrfl; apply lenD_lst <;> assumption
theorem u_116 : type_of% @lenD_tup := by intros; apply nrfl; apply lenD_tup <;> assumption
theorem u_117 : type_of% @seqD_lst := by intros; apply nrfl; apply seqD_lst <;> assumption
theorem u_122 : type_of% @tyD_int := by intros; apply nrfl; apply tyD_int <;> assumption
theorem u_124 : type_of% @tyD_tup := by intros; apply nrfl; apply tyD_tup <;> assumption
theorem u_125 : type_of% @tyD_lst := by intros; apply nrfl; apply tyD_lst <;> assumption
theorem u_128 : type_of% @pIsi_at := by intros; apply nrfl; apply pIsi_at <;> assumption
theorem u_129 : type_of% @isi_int := by intros; apply nrfl; apply isi_int <;> assumption
theorem u_130 : type_of% @isi_bool := by intros; apply nrfl; apply isi_bool <;> assumption
theorem u_132 : type_of% @isi_list := by intros; apply nrfl; apply isi_list <;> assumption
theorem u_133 : type_of% @isi_tuple := by intros; apply nrfl; apply isi_tuple <;> assumption
theorem u_135 : type_of% @pLen_at := by intros; apply nrfl; apply pLen_at <;> assumption
theorem u_136 : type_of% @pList_at := by intros; apply nrfl; apply pList_at <;> assumption
theorem u_137 : type_of% @pTuple_at := by intros; apply nrfl; apply pTuple_at <;> assumption
theorem u_142 : type_of% @pIx_l := by intros; apply nrfl; apply pIx_l <;> assumption
theorem u_145 : type_of% @ixK_0 := by intros; apply nrfl; apply ixK_0 <;> assumption
theorem u_146 : type_of% @ixK_1 := by intros; apply nrfl; apply ixK_1 <;> assumption
theorem u_147 : type_of% @ixK_2 := by intros; apply nrfl; apply ixK_2 <;> assumption
theorem u_148 : type_of% @ixK_3 := by intros; apply nrfl; apply ixK_3 <;> assumption
theorem u_152 : type_of% @List.length_map := by intros; apply nrfl; apply List.length_map <;> assumption
theorem u_155 : type_of% @ixN_1 := by intros; apply nrfl; apply ixN_1 <;> assumption
theorem u_156 : type_of% @ixN_2 := by intros; apply nrfl; apply ixN_2 <;> assumption
theorem u_157 : type_of% @ixN_3 := by intros; apply nrfl; apply ixN_3 <;> assumption
theorem u_160 : type_of% @noB_v := by intros; apply nrfl; apply noB_v <;> assumption
theorem u_161 : type_of% @noB_o := by intros; apply nrfl; apply noB_o <;> assumption
theorem u_164 : type_of% @startE.eq_1 := by intros; apply nrfl; apply startE.eq_1 <;> assumption
theorem u_165 : type_of% @pSub_i := by intros; apply nrfl; apply pSub_i <;> assumption
theorem u_166 : type_of% @pDiv_i := by intros; apply nrfl; apply pDiv_i <;> assumption
theorem u_167 : type_of% @pMod_i := by intros; apply nrfl; apply pMod_i <;> assumption
theorem u_168 : type_of% @pPow_i := by intros; apply nrfl; apply pPow_i <;> assumption
theorem u_170 : type_of% @pAddI_i := by intros; apply nrfl; apply pAddI_i <;> assumption
theorem u_172 : type_of% @pLtA_i := by intros; apply nrfl; apply pLtA_i <;> assumption
theorem u_173 : type_of% @pGtA_i := by intros; apply nrfl; apply pGtA_i <;> assumption
theorem u_174 : type_of% @pLeA_i := by intros; apply nrfl; apply pLeA_i <;> assumption
theorem u_175 : type_of% @pGeA_i := by intros; apply nrfl; apply pGeA_i <;> assumption
theorem u_176 : type_of% @pLtA_tup := by intros; apply nrfl; apply pLtA_tup <;> assumption
theorem u_184 : type_of% @pAdd_int := by intros; apply nrfl; apply pAdd_int <;> assumption
theorem u_185 : type_of% @pAdd_lst := by intros; apply nrfl; apply pAdd_lst <;> assumption
theorem u_188 : type_of% @pMul_int := by intros; apply nrfl; apply pMul_int <;> assumption
theorem u_191 : type_of% @pEq_int := by intros; apply nrfl; apply pEq_int <;> assumption
theorem u_192 : type_of% @pNe_int := by intros; apply nrfl; apply pNe_int <;> assumption
theorem u_195 : type_of% @Option.map_some := by intros; apply nrfl; apply Option.map_some <;> assumption
theorem u_197 : type_of% @Option.bind_some := by intros; apply nrfl; apply Option.bind_some <;> assumption
theorem u_199 : type_of% @List.set_cons_zero := by intros; apply nrfl; apply List.set_cons_zero <;> assumption
theorem u_200 : type_of% @List.set_cons_succ := by intros; apply nrfl; apply List.set_cons_succ <;> assumption
theorem u_201 : type_of% @List.getElem?_cons_zero := by intros; apply nrfl; apply List.getElem?_cons_zero <;> assumption
theorem u_202 : type_of% @List.getElem?_cons_succ := by intros; apply nrfl; apply List.getElem?_cons_succ <;> assumption
theorem u_206 : type_of% @List.length_cons := by intros; apply nrfl; apply List.length_cons <;> assumption
theorem u_207 : type_of% @List.length_nil := by intros; apply nrfl; apply List.length_nil <;> assumption
theorem u_208 : type_of% @List.length_set := by intros; apply nrfl; apply List.length_set <;> assumption
theorem u_209 : type_of% @List.append_nil := by intros; apply nrfl; apply List.append_nil <;> assumption
theorem u_210 : type_of% @List.nil_append := by intros; apply nrfl; apply List.nil_append <;> assumption
theorem u_211 : type_of% @List.cons_append := by intros; apply nrfl; apply List.cons_append <;> assumption
theorem u_212 : type_of% @List.replicate_succ := by intros; apply nrfl; apply List.replicate_succ <;> assumption
theorem u_213 : type_of% @List.replicate_zero := by intros; apply nrfl; apply List.replicate_zero <;> assumption
theorem u_214 : type_of% @Nat.lt_add_one := @Nat.lt_add_one
theorem u_215 : type_of% @Nat.zero_lt_succ := @Nat.zero_lt_succ
theorem u_216 : type_of% @Nat.zero_add := by intros; apply nrfl; apply Nat.zero_add <;> assumption
theorem u_217 : type_of% @true_and := by intros; apply nrfl; apply true_and <;> assumption
theorem u_218 : type_of% @and_true := by intros; apply nrfl; apply and_true <;> assumption
theorem u_219 : type_of% @if_true := by intros; apply nrfl; apply if_true <;> assumption
theorem u_220 : type_of% @if_false := by intros; apply nrfl; apply if_false <;> assumption
theorem u_221 : type_of% @Bool.not_true := by intros; apply nrfl; apply Bool.not_true <;> assumption
theorem u_222 : type_of% @Bool.not_false := by intros; apply nrfl; apply Bool.not_false <;> assumption
theorem u_223 : type_of% @Bool.false_eq_true := by intros; apply nrfl; apply Bool.false_eq_true <;> assumption
theorem u_229 : type_of% @Option.some.injEq := by intros; apply nrfl; apply Option.some.injEq <;> assumption
theorem u_230 : type_of% @Bool.or_false := by intros; apply nrfl; apply Bool.or_false <;> assumption
theorem u_234 : type_of% @decide_true := by intros; apply nrfl; apply decide_true <;> assumption
theorem u_235 : type_of% @decide_false := by intros; apply nrfl; apply decide_false <;> assumption
theorem u_236 : type_of% @wipeE.eq_1 := by intros; apply nrfl; apply wipeE.eq_1 <;> assumption
theorem u_237 : type_of% @wipeE.eq_2 := by intros; apply nrfl; apply wipeE.eq_2 <;> assumption
theorem u_238 : type_of% @wSl.eq_1 := by intros; apply nrfl; apply wSl.eq_1 <;> assumption
theorem u_239 : type_of% @wON.eq_1 := by intros; apply nrfl; apply wON.eq_1 <;> assumption
theorem u_240 : type_of% @wOS.eq_1 := by intros; apply nrfl; apply wOS.eq_1 <;> assumption
theorem u_241 : type_of% @pSl_lst := by intros; apply nrfl; apply pSl_lst <;> assumption
theorem u_242 : type_of% @pSl_frl := by intros; apply nrfl; apply pSl_frl <;> assumption
theorem u_247 : type_of% @mPop_at := by intros; apply nrfl; apply mPop_at <;> assumption
theorem u_254 : type_of% @lstO_lst := by intros; apply nrfl; apply lstO_lst <;> assumption
theorem u_258 : type_of% @pSorted_at := by intros; apply nrfl; apply pSorted_at <;> assumption
theorem u_259 : type_of% @pEq_lst := by intros; apply nrfl; apply pEq_lst <;> assumption
theorem u_260 : type_of% @pNe_lst := by intros; apply nrfl; apply pNe_lst <;> assumption
theorem u_281 : type_of% @pNotNo_exc := by intros; apply nrfl; apply pNotNo_exc <;> assumption
theorem u_287 : type_of% @wiA_q := by intros; apply nrfl; apply wiA_q <;> assumption
theorem u_288 : type_of% @wiZipA.eq_1 := by intros; apply nrfl; apply wiZipA.eq_1 <;> assumption
theorem u_289 : type_of% @zipA_t := by intros; apply nrfl; apply zipA_t <;> assumption
theorem u_290 : type_of% @zipA_l := by intros; apply nrfl; apply zipA_l <;> assumption
theorem u_294 : type_of% @wRaise_e := by intros; apply nrfl; apply wRaise_e <;> assumption
theorem u_297 : type_of% @wTryAs_e := by intros; apply nrfl; apply wTryAs_e <;> assumption
theorem u_301 : type_of% @wFz.eq_1 := by intros; apply nrfl; apply wFz.eq_1 <;> assumption
theorem u_303 : type_of% @exD.eq_1 := by intros; apply nrfl; apply exD.eq_1 <;> assumption
theorem u_304 : type_of% @pIsX_f := by intros; apply nrfl; apply pIsX_f <;> assumption
theorem u_305 : type_of% @pIsX_t := by intros; apply nrfl; apply pIsX_t <;> assumption
theorem u_313 : type_of% @deref_exc := by intros; apply nrfl; apply deref_exc <;> assumption
theorem u_314 : type_of% @deref_fn := by intros; apply nrfl; apply deref_fn <;> assumption
theorem u_317 : type_of% @xTry_e := by intros; apply nrfl; apply xTry_e <;> assumption
theorem u_329 : type_of% @stK_c := by intros; apply nrfl; apply stK_c <;> assumption
theorem u_349 : type_of% @str_self := by intros; apply nrfl; apply str_self <;> assumption
theorem u_356 : type_of% @ex_v := by intros; apply nrfl; apply ex_v <;> assumption
theorem u_374 : type_of% @gL_l := by intros; apply nrfl; apply gL_l <;> assumption
theorem u_377 : type_of% @wCallL_q := by intros; apply nrfl; apply wCallL_q <;> assumption
theorem u_379 : type_of% @lf_bl := by intros; apply nrfl; apply lf_bl <;> assumption
theorem u_383 : type_of% @lf_row := by intros; apply nrfl; apply lf_row <;> assumption
theorem u_389 : type_of% @lfR_v := by intros; apply nrfl; apply lfR_v <;> assumption
theorem u_394 : type_of% @wHL_q := by intros; apply nrfl; apply wHL_q <;> assumption
theorem u_395 : type_of% @rdHL_o := by intros; apply nrfl; apply rdHL_o <;> assumption
theorem u_396 : type_of% @wMutR_q := by intros; apply nrfl; apply wMutR_q <;> assumption
theorem u_397 : type_of% @rdMR_h := by intros; apply nrfl; apply rdMR_h <;> assumption
theorem u_398 : type_of% @rdMW_h := by intros; apply nrfl; apply rdMW_h <;> assumption
theorem u_403 : type_of% @wCallD_q := by intros; apply nrfl; apply wCallD_q <;> assumption
theorem u_404 : type_of% @ddr_l := by intros; apply nrfl; apply ddr_l <;> assumption
theorem u_406 : type_of% @ddr_i := by intros; apply nrfl; apply ddr_i <;> assumption
theorem u_411 : type_of% @drs_rows := by intros; apply nrfl; apply drs_rows <;> assumption
theorem u_421 : type_of% @setE_at := by intros; apply nrfl; apply setE_at <;> assumption
theorem u_425 : type_of% @eqD_rL := by intros; apply nrfl; apply eqD_rL <;> assumption
theorem u_429 : type_of% @eqD_00 := by intros; apply nrfl; apply eqD_00 <;> assumption
theorem u_433 : type_of% @okE_rw := by intros; apply nrfl; apply okE_rw <;> assumption
theorem u_434 : type_of% @okE_rL := by intros; apply nrfl; apply okE_rL <;> assumption
theorem u_436 : type_of% @okE_0L := by intros; apply nrfl; apply okE_0L <;> assumption
theorem u_446 : type_of% @sortD_rows := by intros; apply nrfl; apply sortD_rows <;> assumption
theorem u_474 : type_of% @wLcH_q := by intros; apply nrfl; apply wLcH_q <;> assumption
theorem u_475 : type_of% @rdLcH_h := by intros; apply nrfl; apply rdLcH_h <;> assumption
theorem u_476 : type_of% @rdLcHh_l := by intros; apply nrfl; apply rdLcHh_l <;> assumption
theorem u_478 : type_of% @wFld_q := by intros; apply nrfl; apply wFld_q <;> assumption
theorem u_479 : type_of% @rdIn_h := by intros; apply nrfl; apply rdIn_h <;> assumption
theorem u_480 : type_of% @rdInh_i := by intros; apply nrfl; apply rdInh_i <;> assumption
theorem u_481 : type_of% @getF_hd := by intros; apply nrfl; apply getF_hd <;> assumption
theorem u_482 : type_of% @getF_nil := by intros; apply nrfl; apply getF_nil <;> assumption
theorem u_483 : type_of% @setF_hd := by intros; apply nrfl; apply setF_hd <;> assumption
theorem u_484 : type_of% @setF_nil := by intros; apply nrfl; apply setF_nil <;> assumption
theorem u_485 : type_of% @wFldS_e := by intros; apply nrfl; apply wFldS_e <;> assumption
theorem u_486 : type_of% @wMeth_q := by intros; apply nrfl; apply wMeth_q <;> assumption
theorem u_487 : type_of% @wMake_q := by intros; apply nrfl; apply wMake_q <;> assumption
theorem u_489 : type_of% @mutX_h := by intros; apply nrfl; apply mutX_h <;> assumption
theorem u_490 : type_of% @wMutX0_q := by intros; apply nrfl; apply wMutX0_q <;> assumption
theorem u_491 : type_of% @wSt1_e := by intros; apply nrfl; apply wSt1_e <;> assumption
theorem u_492 : type_of% @wSt2_e := by intros; apply nrfl; apply wSt2_e <;> assumption
theorem u_493 : type_of% @tup2_at := by intros; apply nrfl; apply tup2_at <;> assumption
theorem u_494 : type_of% @wLenO_q := by intros; apply nrfl; apply wLenO_q <;> assumption
theorem u_495 : type_of% @lenN_i := by intros; apply nrfl; apply lenN_i <;> assumption
theorem u_518 : type_of% @wd_q := by intros; apply nrfl; apply wd_q <;> assumption
theorem u_519 : type_of% @wdK_some := by intros; apply nrfl; apply wdK_some <;> assumption
theorem u_521 : type_of% @cnd_t := by intros; apply nrfl; apply cnd_t <;> assumption
theorem u_522 : type_of% @cnd_f := by intros; apply nrfl; apply cnd_f <;> assumption
theorem u_524 : type_of% @cnd_not := by intros; apply nrfl; apply cnd_not <;> assumption
theorem u_525 : type_of% @rdB_v := by intros; apply nrfl; apply rdB_v <;> assumption
theorem u_526 : type_of% @rdB_o := by intros; apply nrfl; apply rdB_o <;> assumption
theorem u_527 : type_of% @rdV_v := by intros; apply nrfl; apply rdV_v <;> assumption
theorem u_529 : type_of% @rdM_v := by intros; apply nrfl; apply rdM_v <;> assumption
theorem u_530 : type_of% @rdM_o := by intros; apply nrfl; apply rdM_o <;> assumption
theorem u_531 : type_of% @rdE_o := by intros; apply nrfl; apply rdE_o <;> assumption
theorem u_532 : type_of% @rdE_h := by intros; apply nrfl; apply rdE_h <;> assumption
theorem u_533 : type_of% @rdEh_l := by intros; apply nrfl; apply rdEh_l <;> assumption
theorem u_534 : type_of% @rdI_l := by intros; apply nrfl; apply rdI_l <;> assumption
theorem u_536 : type_of% @rdI_t := by intros; apply nrfl; apply rdI_t <;> assumption
theorem u_537 : type_of% @deref_row := by intros; apply nrfl; apply deref_row <;> assumption
theorem u_541 : type_of% @pIx_row := by intros; apply nrfl; apply pIx_row <;> assumption
theorem u_543 : type_of% @len_rows := by intros; apply nrfl; apply len_rows <;> assumption
end DL

set_option Elab.async false
set_option linter.all false
set_option maxRecDepth 100000
set_option maxHeartbeats 4000000
namespace K23
open PySem L2 DL
theorem ca_guard {df : DF} {ds : List D} {om : Om} {k : RV → Om → Prop} {xk : Exn → Om → Prop} {t : Tg (df, k, xk)} (h : callK df ds om k xk t) : callK df ds om k xk t := h
local macro_rules | `(tactic| fail "cl") => `(tactic| ((repeat' apply And.intro) <;> first | assumption | omega | decide | (exact Or.inl ⟨by omega, by omega⟩) | (exact Or.inr (Or.inl ⟨by omega, by omega⟩)) | skip))
local macro_rules | `(tactic| fail "cj") => `(tactic| repeat ((with_reducible apply And.intro); · (solve | (repeat' (with_reducible apply And.intro)) <;> first | omega | assumption | decide | (exact Or.inl ⟨by omega, by omega⟩) | (exact Or.inr (Or.inl ⟨by omega, by omega⟩)))))
def top (i : Nat) : Stmt := PySem.Challenge.pw_spillhall_k23_heap_deeds.main.body.getD i (.Pass ⟨0, 0, 0, 0⟩)
abbrev s_less : Stmt := top 15
theorem sc_less : FnScope ["one", "other", "column"] ["one", "other", "column"] (defScope s_less) := ⟨rfl, rfl, rfl, by decide +kernel, rfl, by decide +kernel, by decide +kernel⟩
abbrev s_law_state : Stmt := top 19
theorem sc_law_state : FnScope ["_law_script", "_law_cells"] ["_law_script"] (defScope s_law_state) := ⟨rfl, rfl, rfl, by decide +kernel, rfl, by decide +kernel, by decide +kernel⟩
abbrev s_law_next : Stmt := top 20
theorem sc_law_next : FnScope ["_law_state_here", "_law_below", "_law_found", "_law_cells", "_law_cell"] ["_law_state_here", "_law_below"] (defScope s_law_next) := ⟨rfl, rfl, rfl, by decide +kernel, rfl, by decide +kernel, by decide +kernel⟩
abbrev s_law_number : Stmt := top 21
theorem sc_law_number : FnScope ["_law_state_here", "_law_way", "_law_far", "_law_k"] ["_law_state_here", "_law_way"] (defScope s_law_number) := ⟨rfl, rfl, rfl, by decide +kernel, rfl, by decide +kernel, by decide +kernel⟩
abbrev s_law_rows : Stmt := top 22
theorem sc_law_rows : FnScope ["_law_state_here", "_law_many", "_law_width_here", "_law_ways", "_law_column", "_law_found", "_law_k", "_law_row", "_law_way"] ["_law_state_here", "_law_many", "_law_width_here"] (defScope s_law_rows) := ⟨rfl, rfl, rfl, by decide +kernel, rfl, by decide +kernel, by decide +kernel⟩
abbrev s_law_less : Stmt := top 23
theorem sc_law_less : FnScope ["_law_one", "_law_other", "_law_column"] ["_law_one", "_law_other", "_law_column"] (defScope s_law_less) := ⟨rfl, rfl, rfl, by decide +kernel, rfl, by decide +kernel, by decide +kernel⟩
abbrev s_law_alike : Stmt := top 24
theorem sc_law_alike : FnScope ["_law_found", "_law_due", "_law_one", "_law_other"] ["_law_found", "_law_due"] (defScope s_law_alike) := ⟨rfl, rfl, rfl, by decide +kernel, rfl, by decide +kernel, by decide +kernel⟩
abbrev s_law_names : Stmt := top 25
theorem sc_law_names : FnScope ["_law_error", "_law_said", "_law_names_here", "_law_name", "_law_so"] ["_law_error"] (defScope s_law_names) := ⟨rfl, rfl, rfl, by decide +kernel, rfl, by decide +kernel, by decide +kernel⟩
abbrev s_law_width : Stmt := top 26
theorem sc_law_width : FnScope ["_law_state_here"] ["_law_state_here"] (defScope s_law_width) := ⟨rfl, rfl, rfl, by decide +kernel, rfl, by decide +kernel, by decide +kernel⟩
abbrev s_law_told_so : Stmt := top 27
theorem sc_law_told_so : FnScope ["_law_found", "_law_bag", "_law_column", "_law_k"] ["_law_found", "_law_bag", "_law_column"] (defScope s_law_told_so) := ⟨rfl, rfl, rfl, by decide +kernel, rfl, by decide +kernel, by decide +kernel⟩
abbrev s_law_least : Stmt := top 28
theorem sc_law_least : FnScope ["_law_bag", "_law_column", "_law_best", "_law_row"] ["_law_bag", "_law_column"] (defScope s_law_least) := ⟨rfl, rfl, rfl, by decide +kernel, rfl, by decide +kernel, by decide +kernel⟩
abbrev s_law_none_held : Stmt := top 29
theorem sc_law_none_held : FnScope ["_law_heap", "_law_leaving", "_law_caught", "_law_error"] ["_law_heap", "_law_leaving"] (defScope s_law_none_held) := ⟨rfl, rfl, rfl, by decide +kernel, rfl, by decide +kernel, by decide +kernel⟩
abbrev s_law_gone_so : Stmt := top 30
theorem sc_law_gone_so : FnScope ["_law_heap", "_law_bag", "_law_column", "_law_leaving", "_law_due"] ["_law_heap", "_law_bag", "_law_column", "_law_leaving"] (defScope s_law_gone_so) := ⟨rfl, rfl, rfl, by decide +kernel, rfl, by decide +kernel, by decide +kernel⟩
abbrev s_law : Stmt := top 31
theorem sc_law : FnScope ["_law_script", "_law_state_here", "_law_width_here", "_law_rows_here", "_law_columns", "_law_heaps", "_law_bags", "_law_held", "_law_turn", "_law_at", "_law_way", "_law_row", "_law_found", "_law_other"] ["_law_script"] (defScope s_law) := ⟨rfl, rfl, rfl, by decide +kernel, rfl, by decide +kernel, by decide +kernel⟩
abbrev s_Heap_init : Stmt := clsAt (top 17) 0
theorem sc_Heap_init : FnScope ["self", "column", "rows", "row"] ["self", "column", "rows"] (defScope s_Heap_init) := ⟨rfl, rfl, rfl, by decide +kernel, rfl, by decide +kernel, by decide +kernel⟩
abbrev s_Heap_len : Stmt := clsAt (top 17) 1
theorem sc_Heap_len : FnScope ["self"] ["self"] (defScope s_Heap_len) := ⟨rfl, rfl, rfl, by decide +kernel, rfl, by decide +kernel, by decide +kernel⟩
abbrev s_Heap_put : Stmt := clsAt (top 17) 2
theorem sc_Heap_put : FnScope ["self", "row", "at", "above"] ["self", "row"] (defScope s_Heap_put) := ⟨rfl, rfl, rfl, by decide +kernel, rfl, by decide +kernel, by decide +kernel⟩
abbrev s_Heap_first : Stmt := clsAt (top 17) 3
theorem sc_Heap_first : FnScope ["self"] ["self"] (defScope s_Heap_first) := ⟨rfl, rfl, rfl, by decide +kernel, rfl, by decide +kernel, by decide +kernel⟩
abbrev s_Heap_take : Stmt := clsAt (top 17) 4
theorem sc_Heap_take : FnScope ["self", "found", "last"] ["self"] (defScope s_Heap_take) := ⟨rfl, rfl, rfl, by decide +kernel, rfl, by decide +kernel, by decide +kernel⟩
abbrev s_Heap_sink : Stmt := clsAt (top 17) 5
theorem sc_Heap_sink : FnScope ["self", "at", "below"] ["self", "at"] (defScope s_Heap_sink) := ⟨rfl, rfl, rfl, by decide +kernel, rfl, by decide +kernel, by decide +kernel⟩
abbrev s_Heap_told : Stmt := clsAt (top 17) 6
theorem sc_Heap_told : FnScope ["self"] ["self"] (defScope s_Heap_told) := ⟨rfl, rfl, rfl, by decide +kernel, rfl, by decide +kernel, by decide +kernel⟩
def XSd : XS := ⟨[("NoneHeld", none)], ["SpillError", "NoRows", "NoColumn", "NoneHeld", "NoWeights", "NoTree", "NoStep", "NoSeat", "NoTable", "NoQuery", "TooMany", "NoCount", "NotOrdered"], [("ValueError", true)]⟩
theorem tab_NoneHeld_SpillError : XSd.tab "NoneHeld" (.fn "SpillError") = some true := by decide +kernel
theorem tab_NoneHeld_NoRows : XSd.tab "NoneHeld" (.fn "NoRows") = some false := by decide +kernel
theorem tab_NoneHeld_NoColumn : XSd.tab "NoneHeld" (.fn "NoColumn") = some false := by decide +kernel
theorem tab_NoneHeld_NoneHeld : XSd.tab "NoneHeld" (.fn "NoneHeld") = some true := by decide +kernel
theorem tab_NoneHeld_NoWeights : XSd.tab "NoneHeld" (.fn "NoWeights") = some false := by decide +kernel
theorem tab_NoneHeld_NoTree : XSd.tab "NoneHeld" (.fn "NoTree") = some false := by decide +kernel
theorem tab_NoneHeld_NoStep : XSd.tab "NoneHeld" (.fn "NoStep") = some false := by decide +kernel
theorem tab_NoneHeld_NoSeat : XSd.tab "NoneHeld" (.fn "NoSeat") = some false := by decide +kernel
theorem tab_NoneHeld_NoTable : XSd.tab "NoneHeld" (.fn "NoTable") = some false := by decide +kernel
theorem tab_NoneHeld_NoQuery : XSd.tab "NoneHeld" (.fn "NoQuery") = some false := by decide +kernel
theorem tab_NoneHeld_TooMany : XSd.tab "NoneHeld" (.fn "TooMany") = some false := by decide +kernel
theorem tab_NoneHeld_NoCount : XSd.tab "NoneHeld" (.fn "NoCount") = some false := by decide +kernel
theorem tab_NoneHeld_NotOrdered : XSd.tab "NoneHeld" (.fn "NotOrdered") = some false := by decide +kernel
theorem tab_NoneHeld_ValueError : XSd.tab "NoneHeld" (.raw (.ty "ValueError")) = some true := by decide +kernel
theorem sub_SpillError_NoneHeld : XSd.sub "SpillError" "NoneHeld" = some true := by decide +kernel
theorem sub_NoRows_NoneHeld : XSd.sub "NoRows" "NoneHeld" = some false := by decide +kernel
theorem sub_NoColumn_NoneHeld : XSd.sub "NoColumn" "NoneHeld" = some false := by decide +kernel
theorem sub_NoneHeld_NoneHeld : XSd.sub "NoneHeld" "NoneHeld" = some true := by decide +kernel
theorem sub_NoWeights_NoneHeld : XSd.sub "NoWeights" "NoneHeld" = some false := by decide +kernel
theorem sub_NoTree_NoneHeld : XSd.sub "NoTree" "NoneHeld" = some false := by decide +kernel
theorem sub_NoStep_NoneHeld : XSd.sub "NoStep" "NoneHeld" = some false := by decide +kernel
theorem sub_NoSeat_NoneHeld : XSd.sub "NoSeat" "NoneHeld" = some false := by decide +kernel
theorem sub_NoTable_NoneHeld : XSd.sub "NoTable" "NoneHeld" = some false := by decide +kernel
theorem sub_NoQuery_NoneHeld : XSd.sub "NoQuery" "NoneHeld" = some false := by decide +kernel
theorem sub_TooMany_NoneHeld : XSd.sub "TooMany" "NoneHeld" = some false := by decide +kernel
theorem sub_NoCount_NoneHeld : XSd.sub "NoCount" "NoneHeld" = some false := by decide +kernel
theorem sub_NotOrdered_NoneHeld : XSd.sub "NotOrdered" "NoneHeld" = some false := by decide +kernel
local macro_rules | `(tactic| fail "ca") => `(tactic| fail)
local macro_rules | `(tactic| fail "le") => `(tactic| first | omega | (simp only [List.length_map, List.length_cons, List.length_nil, List.length_append, rng_len, len_rows, List.length_range, List.length_replicate, lists_len]; omega) | (simp only [List.length_map, List.length_cons, List.length_nil, List.length_append, rng_len, len_rows, List.length_replicate, cutD, List.length_take, List.length_drop]; omega))
local macro_rules | `(tactic| fail "si") => `(tactic| first | (with_reducible assumption) | (with_reducible exact trivial) | omega | (with_reducible rfl) | (exact sz_le (by fail "le")) | (exact Or.inl ⟨by omega, by omega⟩) | (exact Or.inr (Or.inl ⟨by omega, by omega⟩)))
local macro_rules | `(tactic| fail "ix") => `(tactic| first | (with_reducible refine ixK_ints (by omega) (by omega) ?_) | (with_reducible refine ixK_rows (by omega) (by omega) ?_) | (with_reducible refine ixK_lists (by omega) (by omega) ?_) | (with_reducible refine ixK_lastI (by omega) ?_) | (with_reducible refine ixN_K (by omega) (by omega) ?_))
local macro_rules | `(tactic| fail "s1") => `(tactic| first | (with_reducible assumption) | (with_reducible intro _) | (with_reducible apply And.intro) | fail "ca" | fail "u1" | fail "ix" | (with_reducible refine rdDh_of (by with_reducible assumption) ?_) | (with_reducible refine cnd_T (by with_reducible assumption) ?_) | (with_reducible refine cnd_F (by with_reducible assumption) ?_) | (with_reducible refine cnd_yes (by omega) ?_) | (with_reducible refine cnd_no (by omega) ?_) | (with_reducible refine cnd_dec ?_ ?_) | (with_reducible refine cnd_of ?_ ?_) | fail "si" | fail)
local macro_rules | `(tactic| fail "go") => `(tactic| repeat' (first | (with_reducible assumption) | (with_reducible intro _) | (with_reducible apply And.intro) | fail "ca" | fail "d1"  | fail "ix" | (with_reducible refine rdDh_of (by with_reducible assumption) ?_) | (with_reducible refine cnd_T (by with_reducible assumption) ?_) | (with_reducible refine cnd_F (by with_reducible assumption) ?_) | (with_reducible refine cnd_yes (by omega) ?_) | (with_reducible refine cnd_no (by omega) ?_)  | fail "si" | fail))
local macro_rules | `(tactic| fail "gs") => `(tactic| repeat' (first | (with_reducible assumption) | (with_reducible intro _) | (with_reducible apply And.intro) | fail "ca" | fail "d1"  | fail "ix" | (with_reducible refine rdDh_of (by with_reducible assumption) ?_) | (with_reducible refine cnd_T (by with_reducible assumption) ?_) | (with_reducible refine cnd_F (by with_reducible assumption) ?_) | (with_reducible refine cnd_yes (by omega) ?_) | (with_reducible refine cnd_no (by omega) ?_) | (with_reducible refine cnd_dec ?_ ?_) | (with_reducible refine cnd_of ?_ ?_) | fail "si" | fail))
local macro_rules | `(tactic| fail "gu") => `(tactic| repeat' (first | (with_reducible assumption) | (with_reducible intro _) | (with_reducible apply And.intro) | fail "ca" | fail "u1"  | fail "ix" | (with_reducible refine rdDh_of (by with_reducible assumption) ?_) | (with_reducible refine cnd_T (by with_reducible assumption) ?_) | (with_reducible refine cnd_F (by with_reducible assumption) ?_) | (with_reducible refine cnd_yes (by omega) ?_) | (with_reducible refine cnd_no (by omega) ?_) | (with_reducible refine cnd_dec ?_ ?_) | (with_reducible refine cnd_of ?_ ?_) | fail "si" | fail))
theorem sbe_heaped_heaped : ((("heaped" : Str) == ("heaped" : Str)) : Bool) = true := by decide +kernel
theorem sbe_heaped_column : ((("heaped" : Str) == ("column" : Str)) : Bool) = false := by decide +kernel
theorem sbe_column_heaped : ((("column" : Str) == ("heaped" : Str)) : Bool) = false := by decide +kernel
theorem sbe_column_column : ((("column" : Str) == ("column" : Str)) : Bool) = true := by decide +kernel
theorem sbe_len_heaped : ((("__len__" : Str) == ("heaped" : Str)) : Bool) = false := by decide +kernel
theorem sbe_heaped_len : ((("heaped" : Str) == ("__len__" : Str)) : Bool) = false := by decide +kernel
theorem sbe_len_column : ((("__len__" : Str) == ("column" : Str)) : Bool) = false := by decide +kernel
theorem sbe_column_len : ((("column" : Str) == ("__len__" : Str)) : Bool) = false := by decide +kernel
theorem sbe_first_heaped : ((("first" : Str) == ("heaped" : Str)) : Bool) = false := by decide +kernel
theorem sbe_heaped_first : ((("heaped" : Str) == ("first" : Str)) : Bool) = false := by decide +kernel
theorem sbe_first_column : ((("first" : Str) == ("column" : Str)) : Bool) = false := by decide +kernel
theorem sbe_column_first : ((("column" : Str) == ("first" : Str)) : Bool) = false := by decide +kernel
theorem sbe_put_heaped : ((("put" : Str) == ("heaped" : Str)) : Bool) = false := by decide +kernel
theorem sbe_heaped_put : ((("heaped" : Str) == ("put" : Str)) : Bool) = false := by decide +kernel
theorem sbe_put_column : ((("put" : Str) == ("column" : Str)) : Bool) = false := by decide +kernel
theorem sbe_column_put : ((("column" : Str) == ("put" : Str)) : Bool) = false := by decide +kernel
theorem sbe_sink_heaped : ((("sink" : Str) == ("heaped" : Str)) : Bool) = false := by decide +kernel
theorem sbe_heaped_sink : ((("heaped" : Str) == ("sink" : Str)) : Bool) = false := by decide +kernel
theorem sbe_sink_column : ((("sink" : Str) == ("column" : Str)) : Bool) = false := by decide +kernel
theorem sbe_column_sink : ((("column" : Str) == ("sink" : Str)) : Bool) = false := by decide +kernel
theorem sbe_take_heaped : ((("take" : Str) == ("heaped" : Str)) : Bool) = false := by decide +kernel
theorem sbe_heaped_take : ((("heaped" : Str) == ("take" : Str)) : Bool) = false := by decide +kernel
theorem sbe_take_column : ((("take" : Str) == ("column" : Str)) : Bool) = false := by decide +kernel
theorem sbe_column_take : ((("column" : Str) == ("take" : Str)) : Bool) = false := by decide +kernel
theorem sbe_told_heaped : ((("told" : Str) == ("heaped" : Str)) : Bool) = false := by decide +kernel
theorem sbe_heaped_told : ((("heaped" : Str) == ("told" : Str)) : Bool) = false := by decide +kernel
theorem sbe_told_column : ((("told" : Str) == ("column" : Str)) : Bool) = false := by decide +kernel
theorem sbe_column_told : ((("column" : Str) == ("told" : Str)) : Bool) = false := by decide +kernel
theorem nf_Heap_heaped : ("heaped" : Str) ∈ (["heaped", "column"] : List Str) := (List.Mem.head _)
theorem nf_Heap_column : ("column" : Str) ∈ (["heaped", "column"] : List Str) := (List.Mem.tail _ (List.Mem.head _))
structure Txt (K : PySem.W.Frag) (mg : Str → Option Value) : Prop where
  x_NoneHeld : Exc0 K mg "NoneHeld"
  cf_Heap : ClF K "Heap" ["heaped", "column"]
  e_Heap_init_0 : ∀ F, Rep K F (V.ref (He.dflAt ("Heap", some "__init__") 0 K)) (D.tup [])
  g_Heap : mg "Heap" = some (.ref (He.ga K "Heap"))
  g_NoColumn : mg "NoColumn" = some (.ref (He.ga K "NoColumn"))
  g_NoCount : mg "NoCount" = some (.ref (He.ga K "NoCount"))
  g_NoQuery : mg "NoQuery" = some (.ref (He.ga K "NoQuery"))
  g_NoRows : mg "NoRows" = some (.ref (He.ga K "NoRows"))
  g_NoSeat : mg "NoSeat" = some (.ref (He.ga K "NoSeat"))
  g_NoStep : mg "NoStep" = some (.ref (He.ga K "NoStep"))
  g_NoTable : mg "NoTable" = some (.ref (He.ga K "NoTable"))
  g_NoTree : mg "NoTree" = some (.ref (He.ga K "NoTree"))
  g_NoWeights : mg "NoWeights" = some (.ref (He.ga K "NoWeights"))
  g_NoneHeld : mg "NoneHeld" = some (.ref (He.ga K "NoneHeld"))
  g_NotOrdered : mg "NotOrdered" = some (.ref (He.ga K "NotOrdered"))
  g_SpillError : mg "SpillError" = some (.ref (He.ga K "SpillError"))
  g_TooMany : mg "TooMany" = some (.ref (He.ga K "TooMany"))
  sub_NoColumn : ∀ c b, XSd.sub "NoColumn" c = some b → PySem.W.exmOne K (.ref (He.ga K c)) (.ref (He.ga K "NoColumn")) = some b
  sub_NoCount : ∀ c b, XSd.sub "NoCount" c = some b → PySem.W.exmOne K (.ref (He.ga K c)) (.ref (He.ga K "NoCount")) = some b
  sub_NoQuery : ∀ c b, XSd.sub "NoQuery" c = some b → PySem.W.exmOne K (.ref (He.ga K c)) (.ref (He.ga K "NoQuery")) = some b
  sub_NoRows : ∀ c b, XSd.sub "NoRows" c = some b → PySem.W.exmOne K (.ref (He.ga K c)) (.ref (He.ga K "NoRows")) = some b
  sub_NoSeat : ∀ c b, XSd.sub "NoSeat" c = some b → PySem.W.exmOne K (.ref (He.ga K c)) (.ref (He.ga K "NoSeat")) = some b
  sub_NoStep : ∀ c b, XSd.sub "NoStep" c = some b → PySem.W.exmOne K (.ref (He.ga K c)) (.ref (He.ga K "NoStep")) = some b
  sub_NoTable : ∀ c b, XSd.sub "NoTable" c = some b → PySem.W.exmOne K (.ref (He.ga K c)) (.ref (He.ga K "NoTable")) = some b
  sub_NoTree : ∀ c b, XSd.sub "NoTree" c = some b → PySem.W.exmOne K (.ref (He.ga K c)) (.ref (He.ga K "NoTree")) = some b
  sub_NoWeights : ∀ c b, XSd.sub "NoWeights" c = some b → PySem.W.exmOne K (.ref (He.ga K c)) (.ref (He.ga K "NoWeights")) = some b
  sub_NoneHeld : ∀ c b, XSd.sub "NoneHeld" c = some b → PySem.W.exmOne K (.ref (He.ga K c)) (.ref (He.ga K "NoneHeld")) = some b
  sub_NotOrdered : ∀ c b, XSd.sub "NotOrdered" c = some b → PySem.W.exmOne K (.ref (He.ga K c)) (.ref (He.ga K "NotOrdered")) = some b
  sub_SpillError : ∀ c b, XSd.sub "SpillError" c = some b → PySem.W.exmOne K (.ref (He.ga K c)) (.ref (He.ga K "SpillError")) = some b
  sub_TooMany : ∀ c b, XSd.sub "TooMany" c = some b → PySem.W.exmOne K (.ref (He.ga K c)) (.ref (He.ga K "TooMany")) = some b
  tab : ExTab K XSd.tab
  fld : FlTab K XSd.fld
  n_ValueError : mg "ValueError" = none
  n_bool : mg "bool" = none
  n_int : mg "int" = none
  n_isinstance : mg "isinstance" = none
  n_len : mg "len" = none
  n_list : mg "list" = none
  n_range : mg "range" = none
  n_sorted : mg "sorted" = none
  n_tuple : mg "tuple" = none
  n_zip : mg "zip" = none
def q_less : He.DefD := ⟨("less", none), "less", "less", defArgs s_less, defBody s_less, defScope s_less, [], []⟩
def q_law_state : He.DefD := ⟨("_law_state", none), "_law_state", "_law_state", defArgs s_law_state, defBody s_law_state, defScope s_law_state, [], []⟩
def q_law_next : He.DefD := ⟨("_law_next", none), "_law_next", "_law_next", defArgs s_law_next, defBody s_law_next, defScope s_law_next, [], []⟩
def q_law_number : He.DefD := ⟨("_law_number", none), "_law_number", "_law_number", defArgs s_law_number, defBody s_law_number, defScope s_law_number, [], []⟩
def q_law_rows : He.DefD := ⟨("_law_rows", none), "_law_rows", "_law_rows", defArgs s_law_rows, defBody s_law_rows, defScope s_law_rows, [], []⟩
def q_law_less : He.DefD := ⟨("_law_less", none), "_law_less", "_law_less", defArgs s_law_less, defBody s_law_less, defScope s_law_less, [], []⟩
def q_law_alike : He.DefD := ⟨("_law_alike", none), "_law_alike", "_law_alike", defArgs s_law_alike, defBody s_law_alike, defScope s_law_alike, [], []⟩
def q_law_names : He.DefD := ⟨("_law_names", none), "_law_names", "_law_names", defArgs s_law_names, defBody s_law_names, defScope s_law_names, [], []⟩
def q_law_width : He.DefD := ⟨("_law_width", none), "_law_width", "_law_width", defArgs s_law_width, defBody s_law_width, defScope s_law_width, [], []⟩
def q_law_told_so : He.DefD := ⟨("_law_told_so", none), "_law_told_so", "_law_told_so", defArgs s_law_told_so, defBody s_law_told_so, defScope s_law_told_so, [], []⟩
def q_law_least : He.DefD := ⟨("_law_least", none), "_law_least", "_law_least", defArgs s_law_least, defBody s_law_least, defScope s_law_least, [], []⟩
def q_law_none_held : He.DefD := ⟨("_law_none_held", none), "_law_none_held", "_law_none_held", defArgs s_law_none_held, defBody s_law_none_held, defScope s_law_none_held, [], []⟩
def q_law_gone_so : He.DefD := ⟨("_law_gone_so", none), "_law_gone_so", "_law_gone_so", defArgs s_law_gone_so, defBody s_law_gone_so, defScope s_law_gone_so, [], []⟩
def q_law : He.DefD := ⟨("law", none), "law", "law", defArgs s_law, defBody s_law, defScope s_law, [], []⟩
def q_Heap_init : He.DefD := ⟨("Heap", some "__init__"), "__init__", "Heap.__init__", defArgs s_Heap_init, defBody s_Heap_init, defScope s_Heap_init, [(.adr (He.dflAt ("Heap", some "__init__") 0))], []⟩
def q_Heap_len : He.DefD := ⟨("Heap", some "__len__"), "__len__", "Heap.__len__", defArgs s_Heap_len, defBody s_Heap_len, defScope s_Heap_len, [], []⟩
def q_Heap_put : He.DefD := ⟨("Heap", some "put"), "put", "Heap.put", defArgs s_Heap_put, defBody s_Heap_put, defScope s_Heap_put, [], []⟩
def q_Heap_first : He.DefD := ⟨("Heap", some "first"), "first", "Heap.first", defArgs s_Heap_first, defBody s_Heap_first, defScope s_Heap_first, [], []⟩
def q_Heap_take : He.DefD := ⟨("Heap", some "take"), "take", "Heap.take", defArgs s_Heap_take, defBody s_Heap_take, defScope s_Heap_take, [], []⟩
def q_Heap_sink : He.DefD := ⟨("Heap", some "sink"), "sink", "Heap.sink", defArgs s_Heap_sink, defBody s_Heap_sink, defScope s_Heap_sink, [], []⟩
def q_Heap_told : He.DefD := ⟨("Heap", some "told"), "told", "Heap.told", defArgs s_Heap_told, defBody s_Heap_told, defScope s_Heap_told, [], []⟩
def fn : List He.DefD := [q_less, q_law_state, q_law_next, q_law_number, q_law_rows, q_law_less, q_law_alike, q_law_names, q_law_width, q_law_told_so, q_law_least, q_law_none_held, q_law_gone_so, q_law, q_Heap_init, q_Heap_len, q_Heap_put, q_Heap_first, q_Heap_take, q_Heap_sink, q_Heap_told]
def ex (K : PySem.W.Frag) : Bool := xAll XSd K && etB K (He.dflAt ("Heap", some "__init__") 0 K)
def fa : List He.Fa := [.glo "less", .glo "_law_state", .glo "_law_next", .glo "_law_number", .glo "_law_rows", .glo "_law_less", .glo "_law_alike", .glo "_law_names", .glo "_law_width", .glo "_law_told_so", .glo "_law_least", .glo "_law_none_held", .glo "_law_gone_so", .glo "law", .glo "SpillError", .glo "NoRows", .glo "NoColumn", .glo "NoneHeld", .glo "NoWeights", .glo "NoTree", .glo "NoStep", .glo "NoSeat", .glo "NoTable", .glo "NoQuery", .glo "TooMany", .glo "NoCount", .glo "NotOrdered", .glo "Heap", .cls "Heap", .noat "Heap" "heaped", .noat "Heap" "column", .meth "Heap" "__len__", .meth "Heap" "first", .meth "Heap" "put", .meth "Heap" "sink", .meth "Heap" "take", .meth "Heap" "told", .mkr "Heap", .exc "NoneHeld", .free "ValueError", .free "bool", .free "int", .free "isinstance", .free "len", .free "list", .free "range", .free "sorted", .free "tuple", .free "zip"]
abbrev R : PySem.W.OpenRow := PySem.W.OpenLaw.row PySem.Challenge.rw_spillhall_k23_heap_deeds
abbrev hk : PySem.W.Hook := hookY 6 fa fn ex
def ob (s : PySem.W.SharedT) : He.AlD × Bool := obsYG 6 fa fn ex (HandSHeadRun.getT s)
theorem ob_eq (s : PySem.W.SharedT) : ob s = hk.obs s.abs := obsYG_eq (HandSHeadRun.getT_eq s)
def loose : List Str := [("SpillError" : Str), ("NoRows" : Str), ("NoColumn" : Str), ("NoneHeld" : Str), ("NoWeights" : Str), ("NoTree" : Str), ("NoStep" : Str), ("NoSeat" : Str), ("NoTable" : Str), ("NoQuery" : Str), ("TooMany" : Str), ("NoCount" : Str), ("NotOrdered" : Str), ("less" : Str), ("Heap" : Str), ("_law_state" : Str), ("_law_next" : Str), ("_law_number" : Str), ("_law_rows" : Str), ("_law_width" : Str), ("_law_less" : Str), ("_law_alike" : Str), ("_law_names" : Str), ("_law_told_so" : Str), ("_law_least" : Str), ("_law_none_held" : Str), ("_law_gone_so" : Str)]
theorem run (w : World) : HandSHeadRun.RunEq R (PySem.W.view R.prog [31]) hk ob 4000 loose w := by
  intro os
  kernel_rfl
def DeckP (ds : List D) : Prop := ∃ (ns : List Int) (c r s : Int), ds = [.lst (ns.map D.int), .int c, .int r, .int s] ∧ 0 ≤ c ∧ ns ≠ []
theorem atI_ints {ns : List Int} {c : Int} (h0 : 0 ≤ c) (h1 : c < (ns.length : Int)) : ∃ z, atI (ns.map D.int) c = some (.int z) := by
  obtain ⟨d, hd, e⟩ := atI_in (ds := ns.map D.int) h0 (by simpa using h1)
  obtain ⟨z, _, rfl⟩ := List.mem_map.mp hd
  exact ⟨z, e⟩
def deepP : D → Bool
  | .lst ds => ds.all fun e => plainD e && plains e
  | .frl ds => ds.all fun e => plainD e && plains e
  | _ => true
theorem isRow_tup' {d : D} (h : isRow d = true) : ∃ ds, d = .tup ds ∧ 1 ≤ ds.length ∧ ds.length ≤ 24 := by
  cases d with
  | tup ds => simp only [isRow, Bool.and_eq_true, decide_eq_true_eq] at h; exact ⟨ds, rfl, h.1.1, h.1.2⟩
  | _ => cases h
def colOk (w : Nat) : D → Bool
  | .int i => decide (0 ≤ i) && decide (i < (w : Int))
  | _ => false
def widR : D → Nat
  | .lst (r :: _) => widD r
  | .frl (r :: _) => widD r
  | _ => 24
theorem rows_head {ds : List D} {r : D} {tl : List D} (h : rowsL ds = true) (e : ds = r :: tl) : ∃ es, r = .tup es ∧ 1 ≤ es.length ∧ es.length ≤ 24 := by
  subst e
  have := List.all_eq_true.mp h r (by simp)
  simp only [goodRow, Bool.and_eq_true] at this
  exact isRow_tup' this.1
theorem pr_row (r : List Int) : plainD (rowD r) = true ∧ plains (rowD r) = true := ⟨rfl, by
  simp only [rowD, plains, List.all_eq_true]
  intro x mx
  obtain ⟨y, _, rfl⟩ := List.mem_map.mp mx
  rfl⟩
theorem wid_rows {rs : List (List Int)} {w : Nat} (h : ∀ r ∈ rs, r.length = w) : widR (.lst (rowsD rs)) = if rs = [] then 24 else w := by
  cases rs with
  | nil => rfl
  | cons r l => simp only [rowsD, List.map_cons, widR, widD, rowD, List.length_map]; rw [if_neg (by simp)]; exact h r (by simp)
theorem isRows_rows {rs : List (List Int)} {w : Nat} (h : ∀ r ∈ rs, r.length = w) (w0 : 1 ≤ w) (w1 : w ≤ 24) : isRows (.lst (rowsD rs)) = true := by
  show rowsL (rowsD rs) = true
  refine List.all_eq_true.mpr fun x mx => ?_
  obtain ⟨q, mq, rfl⟩ := List.mem_map.mp mx
  have lq := h q mq
  simp only [goodRow, Bool.and_eq_true, decide_eq_true_eq]
  refine ⟨isRow_iff.mpr ⟨q, rfl, by omega, by omega⟩, ?_⟩
  cases rs with
  | nil => cases mq
  | cons r l => simp only [rowsD, List.map_cons, List.headD_cons, widD, rowD, List.length_map]; rw [lq, h r (by simp)]
theorem deep_rows (rs : List (List Int)) : deepP (.lst (rowsD rs)) = true := by
  simp only [deepP, List.all_eq_true, Bool.and_eq_true]
  intro x mx
  obtain ⟨q, _, rfl⟩ := List.mem_map.mp mx
  exact pr_row q

theorem okE_rows (rs : List (List Int)) : okE (.lst (rowsD rs)) := by
  have h1 : ∀ r : List Int, okc (rowD r) = true ∧ dep (rowD r) ≤ 1 := fun r => ⟨by simp only [rowD, okc, okcs_ints], by simp only [rowD, dep, deps_ints]; omega⟩
  have h2 : okcs (rowsD rs) = true ∧ deps (rowsD rs) ≤ 1 := by
    induction rs with
    | nil => exact ⟨rfl, Nat.zero_le _⟩
    | cons r rs ih =>
      have := h1 r
      refine ⟨by simp only [rowsD, List.map_cons, okcs, this.1, Bool.true_and]; exact ih.1, ?_⟩
      have i2 : deps (rowsD rs) ≤ 1 := ih.2
      simp only [rowsD, List.map_cons, deps] at i2 ⊢
      omega
  exact okE_of (by simp only [okc]; exact h2.1) (by simp only [dep]; omega)
theorem eq_rows0 (rs : List (List Int)) : eqD (.lst (rowsD rs)) (.lst []) = decide (rs = []) := by
  cases rs with
  | nil => rw [decide_eq_true rfl]; exact eqD_self (by simp [okc, okcs, rowsD])
  | cons r rs => simp [eqD, py, pys, rowsD, PyData.eqv, PyData.eqvAll]

theorem eqv_rows (a b : List Int) : PyData.eqv (py (rowD a)) (py (rowD b)) = decide (a = b) := by
  have key : ∀ a b : List Int, PyData.eqvAll (pys (a.map D.int)) (pys (b.map D.int)) = decide (a = b) := fun a => by
    induction a with
    | nil => intro b; cases b <;> simp [pys, PyData.eqvAll]
    | cons x a ih =>
      intro b
      cases b with
      | nil => simp [pys, PyData.eqvAll]
      | cons y b => by_cases h : x = y <;> simp [pys, py, PyData.eqvAll, PyData.eqv, ih b, h]
  simp only [rowD, py, PyData.eqv]
  exact key a b
theorem lessR_eq (c : Nat) (a b : List Int) : lessR c a b = decide (a.getD c 0 < b.getD c 0 ∨ (a.getD c 0 = b.getD c 0 ∧ a < b)) := by
  have h2 : ∀ a b : List Int, PySem.W.dataLt (py (rowD a)) (py (rowD b)) = decide (a < b) := fun a b => by
    have e : ∀ a : List Int, py (rowD a) = .tuple (a.map .int) := fun a => by simp only [rowD, py, pys_ints]
    rw [e, e, PySem.W.dataLt_tuple]
    exact PySem.W.dataLt_ints a b
  have ha : PySem.W.alike (py (rowD a)) (py (rowD b)) = true := by simp only [rowD, py, PySem.W.alike, pys_ints, PySem.W.alike_ints]
  unfold lessR ltD keyD
  have e3 : ∀ a : List Int, py (.tup [.int (a.getD c 0), rowD a]) = .tuple [.int (a.getD c 0), py (rowD a)] := fun a => by simp only [py, pys]
  rw [e3, e3, PySem.W.dataLt_pair rfl ha, h2, eqv_rows, PySem.W.dataLt_int]
  simp only [PyData.eqv, beq_iff_eq]
  by_cases h3 : a = b
  · subst h3
    simp [List.lt_irrefl]
  · generalize a.getD c 0 = x
    generalize b.getD c 0 = y
    by_cases h1 : x = y
    · simp [h1, h3]
    · simp [h1]
def leR (c : Nat) (a b : List Int) : Prop := lessR c b a = false
theorem leR_iff {c : Nat} {a b : List Int} : leR c a b ↔ a.getD c 0 < b.getD c 0 ∨ (a.getD c 0 = b.getD c 0 ∧ a ≤ b) := by
  unfold leR
  rw [lessR_eq, decide_eq_false_iff_not]
  constructor
  · intro h
    rcases Int.lt_trichotomy (a.getD c 0) (b.getD c 0) with h1 | h1 | h1
    · exact .inl h1
    · exact .inr ⟨h1, fun h2 => h (.inr ⟨h1.symm, h2⟩)⟩
    · exact absurd (.inl h1) h
  · rintro (h1 | ⟨h1, h2⟩) (h3 | ⟨h3, h4⟩)
    · omega
    · omega
    · omega
    · exact h2 h4
theorem leR_refl (c : Nat) (a : List Int) : leR c a a := leR_iff.mpr (.inr ⟨rfl, List.le_refl _⟩)
theorem leR_trans {c : Nat} {a b d : List Int} (h : leR c a b) (g : leR c b d) : leR c a d := by
  rw [leR_iff] at *
  rcases h with h | ⟨h, h'⟩ <;> rcases g with g | ⟨g, g'⟩
  · exact .inl (by omega)
  · exact .inl (by omega)
  · exact .inl (by omega)
  · exact .inr ⟨by omega, List.le_trans h' g'⟩
theorem leR_anti {c : Nat} {a b : List Int} (h : leR c a b) (g : leR c b a) : a = b := by
  rw [leR_iff] at *
  rcases h with h | ⟨h, h'⟩ <;> rcases g with g | ⟨g, g'⟩
  · omega
  · omega
  · omega
  · exact List.le_antisymm h' g'
theorem leR_of_less {c : Nat} {a b : List Int} (h : lessR c a b = true) : leR c a b := by
  rw [leR_iff]
  rw [lessR_eq, decide_eq_true_eq] at h
  rcases h with h | ⟨h, h'⟩
  · exact .inl h
  · exact .inr ⟨h, List.le_of_lt h'⟩
theorem leR_total (c : Nat) (a b : List Int) : leR c a b ∨ leR c b a := by
  cases h : lessR c b a with
  | false => exact .inl h
  | true => exact .inr (leR_of_less h)
def Srt (c : Nat) (rs : List (List Int)) : Prop := rs.Pairwise (leR c)
theorem srt_uniq {c : Nat} : ∀ {l m : List (List Int)}, l.Perm m → Srt c l → Srt c m → l = m
  | [], m, h, _, _ => (List.nil_perm.mp h).symm
  | x :: l, [], h, _, _ => by have := h.length_eq; simp at this
  | x :: l, y :: m, h, hl, hm => by
    obtain ⟨a1, a2⟩ := List.pairwise_cons.mp hl
    obtain ⟨b1, b2⟩ := List.pairwise_cons.mp hm
    have e : x = y := by
      have mx : x ∈ y :: m := h.mem_iff.mp (by simp)
      have my : y ∈ x :: l := h.mem_iff.mpr (by simp)
      rcases List.mem_cons.mp mx with e | mx
      · exact e
      rcases List.mem_cons.mp my with e | my
      · exact e.symm
      exact leR_anti (a1 y my) (b1 x mx)
    subst e
    rw [srt_uniq (List.perm_cons x |>.mp h) a2 b2]
theorem ok_keys (c : Nat) (ns : List (List Int)) : okSort (ns.map (keyD c)) := by
  refine ⟨?_, ?_, ?_, ?_⟩
  · exact (okcs_py _ (okcs_all fun d m => by obtain ⟨r, _, rfl⟩ := List.mem_map.mp m; exact okc_key _ r)).1
  · rw [pys_map, List.map_map]; exact PySem.W.AllAlike.of fun r q => alike_key _ r q
  · rw [pys_map, List.map_map]; exact PySem.W.Sortable.tuples fun r => ⟨_, _, rfl⟩
  · intro e m
    rw [pys_map, List.map_map] at m
    obtain ⟨r, _, rfl⟩ := List.mem_map.mp m
    show (py (keyD _ r)).depth ≤ 40
    rw [(okc_py _ (okc_key _ r)).2.2.2, dep_key]; decide
def sortR (c : Nat) (rs : List (List Int)) : List (List Int) := rs.mergeSort fun a b => !lessR c b a
theorem sortD_keys (c : Nat) (rs : List (List Int)) : sortD (rs.map (keyD c)) = (sortR c rs).map (keyD c) := by
  unfold sortD sortR
  rw [List.map_mergeSort (r := fun a b => !lessR c b a) (s := fun a b => !ltD b a) (f := keyD c) (l := rs)]
  intro a _ b _
  rfl
theorem sortR_perm (c : Nat) (rs : List (List Int)) : (sortR c rs).Perm rs := List.mergeSort_perm _ _
theorem sortR_srt (c : Nat) (rs : List (List Int)) : Srt c (sortR c rs) := by
  have h := List.pairwise_mergeSort (le := fun a b : List Int => !lessR c b a) (fun a b d => ?_) (fun a b => ?_) rs
  · exact h.imp fun h => by simpa [leR] using h
  · simp only [Bool.not_eq_true']; exact fun h g => leR_trans h g
  · simp only [Bool.or_eq_true, Bool.not_eq_true']; exact leR_total c a b
theorem sortR_of {c : Nat} {rs zs : List (List Int)} (hp : zs.Perm rs) (hs : Srt c zs) : zs = sortR c rs := srt_uniq (hp.trans (sortR_perm c rs).symm) hs (sortR_srt c rs)
def Sm (x : Int) : Prop := -1000000000000000000 ≤ x ∧ x ≤ 1000000000000000000
abbrev HpO (c : Int) (b : Addr) : Ob := .ins "Heap" [("column", .int c), ("heaped", .h b)]
abbrev gr (hp : List (List Int)) (i : Nat) : List Int := hp.getD i []
def IsHp (c : Nat) (hp : List (List Int)) : Prop := ∀ i, 0 < i → i < hp.length → leR c (gr hp ((i - 1) / 2)) (gr hp i)
def swp (hp : List (List Int)) (i j : Nat) : List (List Int) := (hp.set i (gr hp j)).set j (gr hp i)
theorem swp_len {hp : List (List Int)} {i j : Nat} : (swp hp i j).length = hp.length := by simp [swp]
theorem gr_at {hp : List (List Int)} {i : Nat} (h : i < hp.length) : gr hp i = hp[i] := by
  unfold gr; rw [List.getD_eq_getElem?_getD, List.getElem?_eq_getElem h]; rfl
theorem swp_perm {hp : List (List Int)} {i j : Nat} (hi : i < hp.length) (hj : j < hp.length) : (swp hp i j).Perm hp := by
  have h := Array.swap_perm (xs := hp.toArray) (i := i) (j := j) (by simpa using hi) (by simpa using hj)
  have h2 := Array.perm_iff_toList_perm.mp h
  unfold swp
  rw [gr_at hi, gr_at hj]
  simpa [Array.toList_swap] using h2
theorem gr_set {hp : List (List Int)} {i k : Nat} {x : List Int} (hi : i < hp.length) : gr (hp.set i x) k = if k = i then x else gr hp k := by
  unfold gr
  rw [List.getD_eq_getElem?_getD, List.getD_eq_getElem?_getD, List.getElem?_set]
  by_cases h : i = k
  · subst h; simp [hi]
  · rw [if_neg h, if_neg (fun e => h e.symm)]
theorem gr_swp {hp : List (List Int)} {i j k : Nat} (hi : i < hp.length) (hj : j < hp.length) : gr (swp hp i j) k = if k = j then gr hp i else if k = i then gr hp j else gr hp k := by
  unfold swp
  rw [gr_set (by simpa using hj), gr_set hi]
def UpHp (c : Nat) (hp : List (List Int)) (at' : Nat) : Prop := (∀ i, 0 < i → i < hp.length → i ≠ at' → leR c (gr hp ((i - 1) / 2)) (gr hp i)) ∧
  ∀ i, 0 < at' → 0 < i → i < hp.length → (i - 1) / 2 = at' → leR c (gr hp ((at' - 1) / 2)) (gr hp i)
theorem up_done {c : Nat} {hp : List (List Int)} {a : Nat} (h : UpHp c hp a) (hz : a = 0 ∨ leR c (gr hp ((a - 1) / 2)) (gr hp a)) : IsHp c hp := fun i h0 h1 => by
  by_cases e : i = a
  · subst e
    rcases hz with hz | hz
    · omega
    · exact hz
  · exact h.1 i h0 h1 e
theorem up_step {c : Nat} {hp : List (List Int)} {a : Nat} (h : UpHp c hp a) (ha : a < hp.length) (a0 : 0 < a) (hl : lessR c (gr hp a) (gr hp ((a - 1) / 2)) = true) : UpHp c (swp hp a ((a - 1) / 2)) ((a - 1) / 2) := by
  obtain ⟨h1, h2⟩ := h
  have le := leR_of_less hl
  generalize hp' : (a - 1) / 2 = p at *
  have pl : p < hp.length := by omega
  refine ⟨fun i i0 il ne => ?_, fun i p0 i0 il e => ?_⟩
  · rw [swp_len] at il
    rw [gr_swp ha pl, gr_swp ha pl]
    by_cases e1 : i = a
    · subst e1
      rw [if_pos hp', if_neg (by omega), if_pos rfl]
      exact le
    · rw [if_neg ne, if_neg e1]
      by_cases e2 : (i - 1) / 2 = p
      · rw [if_pos e2]
        have := h1 i i0 il e1
        rw [e2] at this
        exact leR_trans le this
      · rw [if_neg e2]
        by_cases e3 : (i - 1) / 2 = a
        · rw [if_pos e3]
          exact h2 i a0 i0 il e3
        · rw [if_neg e3]
          exact h1 i i0 il e1
  · rw [swp_len] at il
    rw [gr_swp ha pl, gr_swp ha pl]
    have q := h1 p p0 pl (by omega)
    rw [if_neg (by omega), if_neg (by omega), if_neg (by omega)]
    by_cases e1 : i = a
    · rw [if_pos e1]
      exact q
    · rw [if_neg e1]
      have := h1 i i0 il e1
      rw [e] at this
      exact leR_trans q this
theorem up_new {c : Nat} {hp : List (List Int)} {row : List Int} (h : IsHp c hp) : UpHp c (hp ++ [row]) hp.length := by
  have e : ∀ i, i < hp.length → gr (hp ++ [row]) i = gr hp i := fun i hi => by
    unfold gr; rw [List.getD_eq_getElem?_getD, List.getD_eq_getElem?_getD, List.getElem?_append_left hi]
  refine ⟨fun i i0 il ne => ?_, fun i a0 i0 il e => ?_⟩
  · rw [List.length_append, List.length_singleton] at il
    rw [e _ (by omega), e _ (by omega)]
    exact h i i0 (by omega)
  · rw [List.length_append, List.length_singleton] at il
    omega
def DnHp (c : Nat) (hp : List (List Int)) (at' : Nat) : Prop := (∀ i, 0 < i → i < hp.length → (i - 1) / 2 ≠ at' → leR c (gr hp ((i - 1) / 2)) (gr hp i)) ∧
  ∀ i, 0 < at' → 0 < i → i < hp.length → (i - 1) / 2 = at' → leR c (gr hp ((at' - 1) / 2)) (gr hp i)
theorem dn_done {c : Nat} {hp : List (List Int)} {a : Nat} (h : DnHp c hp a) (hz : ∀ i, 0 < i → i < hp.length → (i - 1) / 2 = a → leR c (gr hp a) (gr hp i)) : IsHp c hp := fun i h0 h1 => by
  by_cases e : (i - 1) / 2 = a
  · rw [e]; exact hz i h0 h1 e
  · exact h.1 i h0 h1 e
theorem dn_step {c : Nat} {hp : List (List Int)} {a b : Nat} (h : DnHp c hp a) (hb : b < hp.length) (b0 : 0 < b) (ba : (b - 1) / 2 = a) (hl : lessR c (gr hp b) (gr hp a) = true) (hm : ∀ i, 0 < i → i < hp.length → (i - 1) / 2 = a → leR c (gr hp b) (gr hp i)) : DnHp c (swp hp a b) b := by
  obtain ⟨h1, h2⟩ := h
  have le := leR_of_less hl
  have al : a < hp.length := by omega
  refine ⟨fun i i0 il ne => ?_, fun i _ i0 il e => ?_⟩
  · rw [swp_len] at il
    rw [gr_swp al hb, gr_swp al hb]
    rw [if_neg ne]
    by_cases e1 : (i - 1) / 2 = a
    · rw [if_pos e1]
      by_cases e2 : i = b
      · rw [if_pos e2]; exact le
      · rw [if_neg e2, if_neg (by omega)]
        exact hm i i0 il e1
    · rw [if_neg e1]
      by_cases e2 : i = b
      · omega
      · rw [if_neg e2]
        by_cases e3 : i = a
        · rw [if_pos e3]
          rw [e3]
          have := h2 b (by omega) b0 hb ba
          exact this
        · rw [if_neg e3]
          exact h1 i i0 il e1
  · rw [swp_len] at il
    rw [gr_swp al hb, gr_swp al hb]
    rw [ba, if_neg (by omega), if_pos rfl, if_neg (by omega), if_neg (by omega)]
    have := h1 i i0 il (by omega)
    rw [e] at this
    exact this
theorem dn_new {c : Nat} {hp : List (List Int)} {row : List Int} (h : IsHp c hp) : DnHp c (hp.set 0 row) 0 := by
  refine ⟨fun i i0 il ne => ?_, fun i a0 => absurd a0 (by omega)⟩
  rw [List.length_set] at il
  rw [gr_set (by omega), gr_set (by omega), if_neg ne, if_neg (show ¬ i = 0 by omega)]
  exact h i i0 il
theorem hp_min {c : Nat} {hp : List (List Int)} (h : IsHp c hp) : ∀ i, i < hp.length → leR c (gr hp 0) (gr hp i) := fun i => by
  induction i using Nat.strongRecOn with
  | _ i ih =>
    intro hi
    by_cases h0 : i = 0
    · subst h0; exact leR_refl _ _
    · exact leR_trans (ih ((i - 1) / 2) (by omega) (by omega)) (h i (by omega) hi)
theorem hp_min' {c : Nat} {hp : List (List Int)} (h : IsHp c hp) {r : List Int} (m : r ∈ hp) : leR c (gr hp 0) r := by
  obtain ⟨i, hi, rfl⟩ := List.getElem_of_mem m
  rw [← gr_at hi]
  exact hp_min h i hi
theorem hp_init {c : Nat} {hp : List (List Int)} (h : IsHp c hp) : IsHp c hp.dropLast := fun i i0 il => by
  rw [List.length_dropLast] at il
  have e : ∀ k, k < hp.length - 1 → gr hp.dropLast k = gr hp k := fun k hk => by
    unfold gr
    rw [List.getD_eq_getElem?_getD, List.getD_eq_getElem?_getD, List.getElem?_dropLast, if_pos hk]
  rw [e _ (by omega), e _ il]
  exact h i i0 (by omega)
theorem hp_nil (c : Nat) : IsHp c [] := fun i _ h => absurd h (by simp)
theorem gr_D {hp : List (List Int)} {i : Nat} : (rowsD hp).getD i .non = if i < hp.length then rowD (gr hp i) else .non := by
  unfold rowsD
  rw [List.getD_eq_getElem?_getD, List.getElem?_map]
  split
  · next h => rw [List.getElem?_eq_getElem h, gr_at h]; rfl
  · next h => rw [List.getElem?_eq_none (by omega)]; rfl
theorem set_D {hp : List (List Int)} {i : Nat} {r : List Int} : (rowsD hp).set i (rowD r) = rowsD (hp.set i r) := by
  unfold rowsD; rw [List.map_set]
theorem oset_comm {om : Om} {a b : Addr} {x y : Ob} (h : a ≠ b) : oset (oset om a x) b y = oset (oset om b y) a x := by
  funext c
  by_cases e1 : c = a
  · subst e1; rw [oset_ne h, oset_same, oset_same]
  · by_cases e2 : c = b
    · subst e2; rw [oset_same, oset_ne e1, oset_same]
    · rw [oset_ne e2, oset_ne e1, oset_ne e1, oset_ne e2]
mutual
def alk : D → Bool
  | .int _ => true
  | .tup ds => decide (ds.length ≤ 5000) && alks ds
  | .lst ds => decide (ds.length ≤ 5000) && alks ds
  | _ => false
def alks : List D → Bool
  | [] => true
  | d :: ds => alk d && alks ds
end
theorem alks_mem {ds : List D} (h : alks ds = true) {d : D} (m : d ∈ ds) : alk d = true := by
  induction ds with
  | nil => cases m
  | cons x ds ih =>
    simp only [alks, Bool.and_eq_true] at h
    rcases List.mem_cons.mp m with rfl | m
    · exact h.1
    · exact ih h.2 m
theorem alks_of {ds : List D} (h : ∀ d ∈ ds, alk d = true) : alks ds = true := by
  induction ds with
  | nil => rfl
  | cons x ds ih => simp only [alks, Bool.and_eq_true]; exact ⟨h x (by simp), ih fun d m => h d (by simp [m])⟩
theorem depsm {ds : List D} {d : D} (m : d ∈ ds) : dep d ≤ deps ds := by
  induction ds with
  | nil => cases m
  | cons x ds ih =>
    simp only [deps]
    rcases List.mem_cons.mp m with rfl | m
    · omega
    · have := ih m; omega
theorem deps_le {ds : List D} {n : Nat} (h : ∀ d ∈ ds, dep d ≤ n) : deps ds ≤ n := by
  induction ds with
  | nil => simp [deps]
  | cons x ds ih => simp only [deps]; have := h x (by simp); have := ih fun d m => h d (by simp [m]); omega
theorem zipself {ds : List D} {i : Nat} {d : D} (e : (zipD ds ds)[i]? = some d) : ∃ x, x ∈ ds ∧ d = .tup [x, x] := by
  obtain ⟨a, b, rfl, ha, hb⟩ := zipD_get e
  rw [ha] at hb
  cases hb
  exact ⟨a, List.mem_of_getElem? ha, rfl⟩
theorem rowD_alk (r : List Int) (h : r.length ≤ 100) : alk (rowD r) = true ∧ dep (rowD r) ≤ 1 := by
  have h1 : ∀ d ∈ r.map D.int, alk d = true ∧ dep d ≤ 0 := fun d m => by
    obtain ⟨x, _, rfl⟩ := List.mem_map.mp m
    exact ⟨rfl, by simp [dep]⟩
  refine ⟨?_, ?_⟩
  · simp only [rowD, alk, List.length_map, Bool.and_eq_true, decide_eq_true_eq]
    exact ⟨by omega, alks_of fun d m => (h1 d m).1⟩
  · have := deps_le fun d m => (h1 d m).2
    simp only [rowD, dep]; omega
theorem rows_alk (f : List (List Int)) (h : f.length ≤ 2000 ∧ ∀ r ∈ f, r.length ≤ 100) : alk (.lst (rowsD f)) = true ∧ dep (.lst (rowsD f)) ≤ 2 := by
  have h1 : ∀ d ∈ rowsD f, alk d = true ∧ dep d ≤ 1 := fun d m => by
    obtain ⟨r, mr, rfl⟩ := List.mem_map.mp m
    exact rowD_alk r (h.2 r mr)
  refine ⟨?_, ?_⟩
  · simp only [alk, len_rows, Bool.and_eq_true, decide_eq_true_eq]
    exact ⟨by omega, alks_of fun d m => (h1 d m).1⟩
  · have := deps_le fun d m => (h1 d m).2
    simp only [dep]; omega
theorem idx_row {bag : List (List Int)} {q : List Int} (h : q ∈ bag) : ∃ j, idxD (rowD q) (rowsD bag) = some j ∧ j < bag.length ∧ (rowsD bag).eraseIdx j = rowsD (bag.erase q) := by
  induction bag with
  | nil => cases h
  | cons x l ih =>
    have e : eqD (rowD x) (rowD q) = decide (x = q) := eqv_rows x q
    by_cases hx : x = q
    · subst hx
      exact ⟨0, by rw [rowsD, List.map_cons, idxD, e, decide_eq_true rfl, if_pos rfl], by simp, by simp [rowsD]⟩
    · have hq : q ∈ l := (List.mem_cons.mp h).resolve_left (fun e => hx e.symm)
      obtain ⟨j, h1, h2, h3⟩ := ih hq
      refine ⟨j + 1, ?_, by simpa using h2, ?_⟩
      · rw [rowsD, List.map_cons, idxD, e, decide_eq_false hx, if_neg (by simp)]
        rw [rowsD] at h1
        rw [h1]; rfl
      · rw [rowsD] at h3
        rw [rowsD, List.map_cons, List.eraseIdx_cons_succ, h3, List.erase_cons_tail (by simpa using hx), rowsD, rowsD, List.map_cons]
theorem okE_row (q : List Int) : okE (rowD q) := okE_of (by simp only [rowD, okc, okcs_ints]) (by simp only [rowD, dep, deps_ints]; omega)
def df_less : DF := fun ds om k xk => ∃ (a : List Int), ∃ (b : List Int), ∃ (c : Int), ds = [rowD a, rowD b, .int c] ∧ (0 ≤ c) ∧ (c < a.length) ∧ (c < b.length) ∧ (k (.v (.bl (lessR c.toNat a b))) om)
theorem call_less {om : Om} {k : RV → Om → Prop} {xk : Exn → Om → Prop} {a : List Int} {b : List Int} {c : Int} (c0 : 0 ≤ c) (c1 : c < a.length) (c2 : c < b.length) (h : k (.v (.bl (lessR c.toNat a b))) om) : df_less [rowD a, rowD b, .int c] om k xk := ⟨a, b, c, rfl, c0, c1, c2, h⟩
def c_less : Con := ⟨3, df_less, by intro ds om k xk h; obtain ⟨a, b, c, rfl, _, _, _, _⟩ := h; rfl, by intro ds om k k' xk xk' hk hx h; obtain ⟨a, b, c, e_, c0, c1, c2, h⟩ := h; refine ⟨a, b, c, e_, c0, c1, c2, ?_⟩; first | exact hk _ _ h | exact hx _ _ h | exact fun hq => hk _ _ (h hq) | (intros; apply hk; apply h <;> assumption) | (simp only [cnd] at h ⊢; grind) | grind⟩
theorem callK_less {om : Om} {k : RV → Om → Prop} {xk : Exn → Om → Prop} {a : List Int} {b : List Int} {c : Int} {t : Tg (df_less, k, xk)} (c0 : 0 ≤ c) (c1 : c < a.length) (c2 : c < b.length) (h : k (.v (.bl (lessR c.toNat a b))) om) : callK df_less [rowD a, rowD b, .int c] om k xk t := call_less c0 c1 c2 h
def w_less : WS :=
  (wRet (wOp pLtA (wTup (wCons (wOp pIx (wBor 0) (wBor 2)) (wCons (wVar 0) wNil))) (wTup (wCons (wOp pIx (wBor 1) (wBor 2)) (wCons (wVar 1) wNil)))))
theorem d_less {P : Program} {w : World} {K : PySem.W.Frag} {mg : Str → Option Value} {base : Heap} {f : Addr} (T : Txt K mg) (cdv : Value) (A : Around) (outer : List PySem.Env) (s : Shared) (H : Hp) (E : XK) (hr : Room 0 (A.deeper (PyProof.Rows.envOfC "less" (defScope s_less) s.heap.objs.size f cdv))) :
    ∃ t, DSs (cxOf (L2.CX P w) P w K mg base ["one", "other", "column"] "less" (defScope s_less) f cdv A outer s H E) (fun cls d _ H => E cls d H) (defBody s_less) t w_less :=
  ⟨_, (dss_one (ds_ret (de_cmp (o_ltA hr) (de_tup (da_cons (de_ix (de_bor 0) (de_bor 2)) (da_cons (de_var 0) da_nil))) (de_tup (da_cons (de_ix (de_bor 1) (de_bor 2)) (da_cons (de_var 1) da_nil))))))⟩
local macro_rules | `(tactic| fail "ca") => `(tactic| (with_reducible refine ca_guard ?_; first | with_reducible refine callK_less ?_ ?_ ?_ ?_))

section
local macro_rules | `(tactic| fail "d1") => `(tactic| simp -dsimp only [↓u_19, ↓u_25, ↓u_26, ↓u_29, ↓u_43, ↓u_45, ↓u_46, u_83, u_85, u_93, u_98, u_99, u_102, u_160, ↓u_164, ↓u_176, u_195, u_201, u_202, u_206, u_207, u_209, u_213, u_216, u_217, ↓u_518, ↓u_519, ↓u_525, ↓u_527, u_537, ↓u_541, List.map_nil, List.map_cons, Nat.reduceSub, Nat.reduceAdd, Nat.reduceLT, Nat.reduceLeDiff, reduceIte, String.reduceBEq, String.reduceEq, Int.reduceLT, Int.reduceLE, Int.reduceEq, Int.reduceToNat])
local macro_rules | `(tactic| fail "dl") => `(tactic| try fail "d1")
theorem wp_less (ds : List D) (om : Om) (k : RV → Om → Prop) (xk : Exn → Om → Prop) (h : df_less ds om k xk) : w_less (endOf k xk) (startE 3 ds) om := by
  obtain ⟨a, b, c, rfl, c0, c1, c2, h⟩ := h
  unfold w_less endOf
  have hL := okL_key c.toNat a b
  fail "gs"
  · exact hL
  · exact h
end
theorem ok_less {P : Program} {w : World} {K : PySem.W.Frag} {mg : Str → Option Value} {base : Heap} {f : Addr} {fd : FuncData} (F : FunD K "less" "less" (defArgs s_less) (defBody s_less) (defScope s_less) [] [] f fd) (T : Txt K mg) : FnOk P w K mg base (L2.CX P w) 1 f fd ["one", "other", "column"] (toSp K c_less) :=
  (fn_ok (c := c_less) F sc_less rfl (fun cdv A outer s H E hr => d_less T cdv A outer s H E hr) wp_less)
def df_Heap_len : DF := fun ds om k xk => ∃ (a : Addr), ∃ (b : Addr), ∃ (c : Int), ∃ (hp : List (List Int)), ds = [.h a] ∧ (om a = some (HpO c b)) ∧ (om b = some (.lst (rowsD hp))) ∧ (k (.v (.int hp.length)) om)
theorem call_Heap_len {om : Om} {k : RV → Om → Prop} {xk : Exn → Om → Prop} {a : Addr} {b : Addr} {c : Int} {hp : List (List Int)} (ha : om a = some (HpO c b)) (hb : om b = some (.lst (rowsD hp))) (h : k (.v (.int hp.length)) om) : df_Heap_len [.h a] om k xk := ⟨a, b, c, hp, rfl, ha, hb, h⟩
def c_Heap_len : Con := ⟨1, df_Heap_len, by intro ds om k xk h; obtain ⟨a, b, c, hp, rfl, _, _, _⟩ := h; rfl, by intro ds om k k' xk xk' hk hx h; obtain ⟨a, b, c, hp, e_, ha, hb, h⟩ := h; refine ⟨a, b, c, hp, e_, ha, hb, ?_⟩; first | exact hk _ _ h | exact hx _ _ h | exact fun hq => hk _ _ (h hq) | (intros; apply hk; apply h <;> assumption) | (simp only [cnd] at h ⊢; grind) | grind⟩
theorem callK_Heap_len {om : Om} {k : RV → Om → Prop} {xk : Exn → Om → Prop} {a : Addr} {b : Addr} {c : Int} {hp : List (List Int)} {t : Tg (df_Heap_len, k, xk)} (ha : om a = some (HpO c b)) (hb : om b = some (.lst (rowsD hp))) (h : k (.v (.int hp.length)) om) : callK df_Heap_len [.h a] om k xk t := call_Heap_len ha hb h
def w_Heap_len : WS :=
  (wRet (wCB pLen (wCons (wFld "Heap" "heaped" (wBor 0)) wNil)))
theorem d_Heap_len {P : Program} {w : World} {K : PySem.W.Frag} {mg : Str → Option Value} {base : Heap} {f : Addr} (T : Txt K mg) (cdv : Value) (A : Around) (outer : List PySem.Env) (s : Shared) (H : Hp) (E : XK) (hr : Room 0 (A.deeper (PyProof.Rows.envOfC "Heap.__len__" (defScope s_Heap_len) s.heap.objs.size f cdv))) :
    ∃ t, DSs (cxOf (L2.CX P w) P w K mg base ["self"] "Heap.__len__" (defScope s_Heap_len) f cdv A outer s H E) (fun cls d _ H => E cls d H) (defBody s_Heap_len) t w_Heap_len :=
  ⟨_, (dss_one (ds_ret (de_cb n_len T.n_len (by decide +kernel) (da_cons (de_fld T.cf_Heap (nf_Heap_heaped) (de_bor 0) (K' := K)) da_nil))))⟩
local macro_rules | `(tactic| fail "ca") => `(tactic| (with_reducible refine ca_guard ?_; first | with_reducible refine callK_less ?_ ?_ ?_ ?_ | with_reducible refine callK_Heap_len (by with_reducible assumption) (by with_reducible assumption) ?_))

section
local macro_rules | `(tactic| fail "d1") => `(tactic| simp -dsimp only [↓u_19, ↓u_26, ↓u_31, ↓u_45, ↓u_46, u_93, u_100, u_101, u_102, u_114, ↓u_135, u_160, ↓u_164, u_195, u_197, u_201, u_206, u_207, u_209, u_213, u_216, u_217, u_219, u_220, u_223, u_349, ↓u_478, ↓u_479, ↓u_480, u_481, u_482, ↓u_518, ↓u_519, ↓u_525, u_543, sbe_heaped_column, List.map_nil, List.map_cons, Nat.reduceSub, Nat.reduceAdd, Nat.reduceLT, Nat.reduceLeDiff, reduceIte, String.reduceBEq, String.reduceEq, Int.reduceLT, Int.reduceLE, Int.reduceEq, Int.reduceToNat])
local macro_rules | `(tactic| fail "dl") => `(tactic| try fail "d1")
theorem wp_Heap_len (ds : List D) (om : Om) (k : RV → Om → Prop) (xk : Exn → Om → Prop) (h : df_Heap_len ds om k xk) : w_Heap_len (endOf k xk) (startE 1 ds) om := by
  obtain ⟨a, b, c, hp, rfl, ha, hb, h⟩ := h
  unfold w_Heap_len endOf
  have hd := deref_h hb
  have lq : (rowsD hp).length = hp.length := len_rows hp
  (repeat' (first | (with_reducible assumption) | (with_reducible intro _) | (with_reducible apply And.intro) | fail "ca" | simp -dsimp only [↓u_19, ↓u_26, ↓u_31, ↓u_45, ↓u_46, u_93, u_100, u_101, u_102, u_114, ↓u_135, u_160, ↓u_164, u_195, u_197, u_201, u_206, u_207, u_209, u_213, u_216, u_217, u_219, u_220, u_223, u_349, ↓u_478, ↓u_479, ↓u_480, u_481, u_482, ↓u_518, ↓u_519, ↓u_525, u_543, sbe_heaped_column, List.map_nil, List.map_cons, Nat.reduceSub, Nat.reduceAdd, Nat.reduceLT, Nat.reduceLeDiff, reduceIte, String.reduceBEq, String.reduceEq, Int.reduceLT, Int.reduceLE, Int.reduceEq, Int.reduceToNat, ha, hd] | fail "ix" | (with_reducible refine rdDh_of (by with_reducible assumption) ?_) | (with_reducible refine cnd_T (by with_reducible assumption) ?_) | (with_reducible refine cnd_F (by with_reducible assumption) ?_) | (with_reducible refine cnd_yes (by omega) ?_) | (with_reducible refine cnd_no (by omega) ?_) | (with_reducible refine cnd_dec ?_ ?_) | (with_reducible refine cnd_of ?_ ?_) | fail "si" | fail))
  done
end
theorem ok_Heap_len {P : Program} {w : World} {K : PySem.W.Frag} {mg : Str → Option Value} {base : Heap} {f : Addr} {fd : FuncData} (F : FunD K "__len__" "Heap.__len__" (defArgs s_Heap_len) (defBody s_Heap_len) (defScope s_Heap_len) [] [] f fd) (T : Txt K mg) : FnOk P w K mg base (L2.CX P w) 1 f fd ["self"] (toSp K c_Heap_len) :=
  (fn_ok (c := c_Heap_len) F sc_Heap_len rfl (fun cdv A outer s H E hr => d_Heap_len T cdv A outer s H E hr) wp_Heap_len)
def df_Heap_first : DF := fun ds om k xk => ∃ (a : Addr), ∃ (b : Addr), ∃ (c : Int), ∃ (hp : List (List Int)), ds = [.h a] ∧ (om a = some (HpO c b)) ∧ (om b = some (.lst (rowsD hp))) ∧ (cnd (decide (hp = [])) (xk ⟨"NoneHeld", none⟩ om) (k (.v (rowD (gr hp 0))) om))
theorem call_Heap_first {om : Om} {k : RV → Om → Prop} {xk : Exn → Om → Prop} {a : Addr} {b : Addr} {c : Int} {hp : List (List Int)} (ha : om a = some (HpO c b)) (hb : om b = some (.lst (rowsD hp))) (h : cnd (decide (hp = [])) (xk ⟨"NoneHeld", none⟩ om) (k (.v (rowD (gr hp 0))) om)) : df_Heap_first [.h a] om k xk := ⟨a, b, c, hp, rfl, ha, hb, h⟩
def c_Heap_first : Con := ⟨1, df_Heap_first, by intro ds om k xk h; obtain ⟨a, b, c, hp, rfl, _, _, _⟩ := h; rfl, by intro ds om k k' xk xk' hk hx h; obtain ⟨a, b, c, hp, e_, ha, hb, h⟩ := h; refine ⟨a, b, c, hp, e_, ha, hb, ?_⟩; first | exact hk _ _ h | exact hx _ _ h | exact fun hq => hk _ _ (h hq) | (intros; apply hk; apply h <;> assumption) | (simp only [cnd] at h ⊢; grind) | grind⟩
theorem callK_Heap_first {om : Om} {k : RV → Om → Prop} {xk : Exn → Om → Prop} {a : Addr} {b : Addr} {c : Int} {hp : List (List Int)} {t : Tg (df_Heap_first, k, xk)} (ha : om a = some (HpO c b)) (hb : om b = some (.lst (rowsD hp))) (h : cnd (decide (hp = [])) (xk ⟨"NoneHeld", none⟩ om) (k (.v (rowD (gr hp 0))) om)) : callK df_Heap_first [.h a] om k xk t := call_Heap_first ha hb h
def w_Heap_first : WS :=
  (wSeq (wIfS (wTst (wOp pEq (wCB pLen (wCons (wFld "Heap" "heaped" (wBor 0)) wNil)) (wC (.int 0)))) (wRaise "NoneHeld") wNext) (wRet (wOp pIx (wFld "Heap" "heaped" (wBor 0)) (wC (.int 0)))))
theorem d_Heap_first {P : Program} {w : World} {K : PySem.W.Frag} {mg : Str → Option Value} {base : Heap} {f : Addr} (T : Txt K mg) (cdv : Value) (A : Around) (outer : List PySem.Env) (s : Shared) (H : Hp) (E : XK) (hr : Room 0 (A.deeper (PyProof.Rows.envOfC "Heap.first" (defScope s_Heap_first) s.heap.objs.size f cdv))) :
    ∃ t, DSs (cxOf (L2.CX P w) P w K mg base ["self"] "Heap.first" (defScope s_Heap_first) f cdv A outer s H E) (fun cls d _ H => E cls d H) (defBody s_Heap_first) t w_Heap_first :=
  ⟨_, (dss_cons (ds_if (dt_cmp (o_eq hr) (de_cb n_len T.n_len (by decide +kernel) (da_cons (de_fld T.cf_Heap (nf_Heap_heaped) (de_bor 0) (K' := K)) da_nil)) de_int) (dss_one (ds_raise T.x_NoneHeld (takes_of rfl rfl rfl rfl))) dss_nil) (dss_one (ds_ret (de_ix (de_fld T.cf_Heap (nf_Heap_heaped) (de_bor 0) (K' := K)) de_int))))⟩
local macro_rules | `(tactic| fail "ca") => `(tactic| (with_reducible refine ca_guard ?_; first | with_reducible refine callK_less ?_ ?_ ?_ ?_ | with_reducible refine callK_Heap_len (by with_reducible assumption) (by with_reducible assumption) ?_ | with_reducible refine callK_Heap_first (by with_reducible assumption) (by with_reducible assumption) ?_))

section
local macro_rules | `(tactic| fail "d1") => `(tactic| simp -dsimp only [↓u_0, ↓u_16, ↓u_19, ↓u_22, ↓u_26, ↓u_28, ↓u_29, ↓u_31, ↓u_45, ↓u_46, ↓u_47, u_82, u_83, u_93, u_100, u_101, u_102, u_105, u_114, ↓u_135, ↓u_142, u_160, ↓u_164, ↓u_191, u_195, u_197, u_201, u_206, u_207, u_209, u_213, u_216, u_219, u_220, u_223, ↓u_294, u_349, ↓u_478, ↓u_479, ↓u_480, u_481, u_482, ↓u_518, ↓u_519, ↓u_525, u_543, sbe_heaped_column, List.map_nil, List.map_cons, Nat.reduceSub, Nat.reduceAdd, Nat.reduceLT, Nat.reduceLeDiff, reduceIte, String.reduceBEq, String.reduceEq, Int.reduceLT, Int.reduceLE, Int.reduceEq, Int.reduceToNat])
local macro_rules | `(tactic| fail "dl") => `(tactic| try fail "d1")
theorem wp_Heap_first (ds : List D) (om : Om) (k : RV → Om → Prop) (xk : Exn → Om → Prop) (h : df_Heap_first ds om k xk) : w_Heap_first (endOf k xk) (startE 1 ds) om := by
  obtain ⟨a, b, c, hp, rfl, ha, hb, h⟩ := h
  unfold w_Heap_first endOf
  have hd := deref_h hb
  have lq : (rowsD hp).length = hp.length := len_rows hp
  by_cases e : hp = []
  · subst e
    rw [decide_eq_true rfl] at h
    (repeat' (first | (with_reducible assumption) | (with_reducible intro _) | (with_reducible apply And.intro) | fail "ca" | simp -dsimp only [↓u_0, ↓u_16, ↓u_19, ↓u_22, ↓u_26, ↓u_28, ↓u_29, ↓u_31, ↓u_45, ↓u_46, ↓u_47, u_82, u_83, u_93, u_100, u_101, u_102, u_105, u_114, ↓u_135, ↓u_142, u_160, ↓u_164, ↓u_191, u_195, u_197, u_201, u_206, u_207, u_209, u_213, u_216, u_219, u_220, u_223, ↓u_294, u_349, ↓u_478, ↓u_479, ↓u_480, u_481, u_482, ↓u_518, ↓u_519, ↓u_525, u_543, sbe_heaped_column, List.map_nil, List.map_cons, Nat.reduceSub, Nat.reduceAdd, Nat.reduceLT, Nat.reduceLeDiff, reduceIte, String.reduceBEq, String.reduceEq, Int.reduceLT, Int.reduceLE, Int.reduceEq, Int.reduceToNat, ha, hd] | fail "ix" | (with_reducible refine rdDh_of (by with_reducible assumption) ?_) | (with_reducible refine cnd_T (by with_reducible assumption) ?_) | (with_reducible refine cnd_F (by with_reducible assumption) ?_) | (with_reducible refine cnd_yes (by omega) ?_) | (with_reducible refine cnd_no (by omega) ?_) | (with_reducible refine cnd_dec ?_ ?_) | (with_reducible refine cnd_of ?_ ?_) | fail "si" | fail))
    exact h
  · rw [decide_eq_false e] at h
    have := List.length_pos_iff.mpr e
    (repeat' (first | (with_reducible assumption) | (with_reducible intro _) | (with_reducible apply And.intro) | fail "ca" | simp -dsimp only [↓u_0, ↓u_16, ↓u_19, ↓u_22, ↓u_26, ↓u_28, ↓u_29, ↓u_31, ↓u_45, ↓u_46, ↓u_47, u_82, u_83, u_93, u_100, u_101, u_102, u_105, u_114, ↓u_135, ↓u_142, u_160, ↓u_164, ↓u_191, u_195, u_197, u_201, u_206, u_207, u_209, u_213, u_216, u_219, u_220, u_223, ↓u_294, u_349, ↓u_478, ↓u_479, ↓u_480, u_481, u_482, ↓u_518, ↓u_519, ↓u_525, u_543, sbe_heaped_column, List.map_nil, List.map_cons, Nat.reduceSub, Nat.reduceAdd, Nat.reduceLT, Nat.reduceLeDiff, reduceIte, String.reduceBEq, String.reduceEq, Int.reduceLT, Int.reduceLE, Int.reduceEq, Int.reduceToNat, ha, hd] | fail "ix" | (with_reducible refine rdDh_of (by with_reducible assumption) ?_) | (with_reducible refine cnd_T (by with_reducible assumption) ?_) | (with_reducible refine cnd_F (by with_reducible assumption) ?_) | (with_reducible refine cnd_yes (by omega) ?_) | (with_reducible refine cnd_no (by omega) ?_) | (with_reducible refine cnd_dec ?_ ?_) | (with_reducible refine cnd_of ?_ ?_) | fail "si" | fail))
    exact h
end
theorem ok_Heap_first {P : Program} {w : World} {K : PySem.W.Frag} {mg : Str → Option Value} {base : Heap} {f : Addr} {fd : FuncData} (F : FunD K "first" "Heap.first" (defArgs s_Heap_first) (defBody s_Heap_first) (defScope s_Heap_first) [] [] f fd) (T : Txt K mg) : FnOk P w K mg base (L2.CX P w) 1 f fd ["self"] (toSp K c_Heap_first) :=
  (fn_ok (c := c_Heap_first) F sc_Heap_first rfl (fun cdv A outer s H E hr => d_Heap_first T cdv A outer s H E hr) wp_Heap_first)
def df_Heap_told : DF := fun ds om k xk => ∃ (a : Addr), ∃ (b : Addr), ∃ (c : Int), ∃ (hp : List (List Int)), ds = [.h a] ∧ (om a = some (HpO c b)) ∧ (om b = some (.lst (rowsD hp))) ∧ (k (.o (rowsD hp)) om)
theorem call_Heap_told {om : Om} {k : RV → Om → Prop} {xk : Exn → Om → Prop} {a : Addr} {b : Addr} {c : Int} {hp : List (List Int)} (ha : om a = some (HpO c b)) (hb : om b = some (.lst (rowsD hp))) (h : k (.o (rowsD hp)) om) : df_Heap_told [.h a] om k xk := ⟨a, b, c, hp, rfl, ha, hb, h⟩
def c_Heap_told : Con := ⟨1, df_Heap_told, by intro ds om k xk h; obtain ⟨a, b, c, hp, rfl, _, _, _⟩ := h; rfl, by intro ds om k k' xk xk' hk hx h; obtain ⟨a, b, c, hp, e_, ha, hb, h⟩ := h; refine ⟨a, b, c, hp, e_, ha, hb, ?_⟩; first | exact hk _ _ h | exact hx _ _ h | exact fun hq => hk _ _ (h hq) | (intros; apply hk; apply h <;> assumption) | (simp only [cnd] at h ⊢; grind) | grind⟩
theorem callK_Heap_told {om : Om} {k : RV → Om → Prop} {xk : Exn → Om → Prop} {a : Addr} {b : Addr} {c : Int} {hp : List (List Int)} {t : Tg (df_Heap_told, k, xk)} (ha : om a = some (HpO c b)) (hb : om b = some (.lst (rowsD hp))) (h : k (.o (rowsD hp)) om) : callK df_Heap_told [.h a] om k xk t := call_Heap_told ha hb h
def w_Heap_told : WS :=
  (wRet (wCB pList (wCons (wFld "Heap" "heaped" (wBor 0)) wNil)))
theorem d_Heap_told {P : Program} {w : World} {K : PySem.W.Frag} {mg : Str → Option Value} {base : Heap} {f : Addr} (T : Txt K mg) (cdv : Value) (A : Around) (outer : List PySem.Env) (s : Shared) (H : Hp) (E : XK) (hr : Room 0 (A.deeper (PyProof.Rows.envOfC "Heap.told" (defScope s_Heap_told) s.heap.objs.size f cdv))) :
    ∃ t, DSs (cxOf (L2.CX P w) P w K mg base ["self"] "Heap.told" (defScope s_Heap_told) f cdv A outer s H E) (fun cls d _ H => E cls d H) (defBody s_Heap_told) t w_Heap_told :=
  ⟨_, (dss_one (ds_ret (de_ct n_list T.n_list (by decide +kernel) (da_cons (de_fld T.cf_Heap (nf_Heap_heaped) (de_bor 0) (K' := K)) da_nil))))⟩
local macro_rules | `(tactic| fail "ca") => `(tactic| (with_reducible refine ca_guard ?_; first | with_reducible refine callK_less ?_ ?_ ?_ ?_ | with_reducible refine callK_Heap_len (by with_reducible assumption) (by with_reducible assumption) ?_ | with_reducible refine callK_Heap_first (by with_reducible assumption) (by with_reducible assumption) ?_ | with_reducible refine callK_Heap_told (by with_reducible assumption) (by with_reducible assumption) ?_))

section
local macro_rules | `(tactic| fail "d1") => `(tactic| simp -dsimp only [↓u_19, ↓u_26, ↓u_31, ↓u_45, ↓u_46, u_93, u_100, u_101, u_102, u_117, ↓u_136, u_161, ↓u_164, u_195, u_197, u_201, u_206, u_207, u_209, u_213, u_216, u_217, u_219, u_220, u_223, u_349, ↓u_478, ↓u_479, ↓u_480, u_481, u_482, ↓u_518, ↓u_519, ↓u_525, sbe_heaped_column, List.map_nil, List.map_cons, Nat.reduceSub, Nat.reduceAdd, Nat.reduceLT, Nat.reduceLeDiff, reduceIte, String.reduceBEq, String.reduceEq, Int.reduceLT, Int.reduceLE, Int.reduceEq, Int.reduceToNat])
local macro_rules | `(tactic| fail "dl") => `(tactic| try fail "d1")
theorem wp_Heap_told (ds : List D) (om : Om) (k : RV → Om → Prop) (xk : Exn → Om → Prop) (h : df_Heap_told ds om k xk) : w_Heap_told (endOf k xk) (startE 1 ds) om := by
  obtain ⟨a, b, c, hp, rfl, ha, hb, h⟩ := h
  unfold w_Heap_told endOf
  have hd := deref_h hb
  (repeat' (first | (with_reducible assumption) | (with_reducible intro _) | (with_reducible apply And.intro) | fail "ca" | simp -dsimp only [↓u_19, ↓u_26, ↓u_31, ↓u_45, ↓u_46, u_93, u_100, u_101, u_102, u_117, ↓u_136, u_161, ↓u_164, u_195, u_197, u_201, u_206, u_207, u_209, u_213, u_216, u_217, u_219, u_220, u_223, u_349, ↓u_478, ↓u_479, ↓u_480, u_481, u_482, ↓u_518, ↓u_519, ↓u_525, sbe_heaped_column, List.map_nil, List.map_cons, Nat.reduceSub, Nat.reduceAdd, Nat.reduceLT, Nat.reduceLeDiff, reduceIte, String.reduceBEq, String.reduceEq, Int.reduceLT, Int.reduceLE, Int.reduceEq, Int.reduceToNat, ha, hd] | fail "ix" | (with_reducible refine rdDh_of (by with_reducible assumption) ?_) | (with_reducible refine cnd_T (by with_reducible assumption) ?_) | (with_reducible refine cnd_F (by with_reducible assumption) ?_) | (with_reducible refine cnd_yes (by omega) ?_) | (with_reducible refine cnd_no (by omega) ?_) | (with_reducible refine cnd_dec ?_ ?_) | (with_reducible refine cnd_of ?_ ?_) | fail "si" | fail))
  all_goals first | exact h | skip
end
theorem ok_Heap_told {P : Program} {w : World} {K : PySem.W.Frag} {mg : Str → Option Value} {base : Heap} {f : Addr} {fd : FuncData} (F : FunD K "told" "Heap.told" (defArgs s_Heap_told) (defBody s_Heap_told) (defScope s_Heap_told) [] [] f fd) (T : Txt K mg) : FnOk P w K mg base (L2.CX P w) 1 f fd ["self"] (toSp K c_Heap_told) :=
  (fn_ok (c := c_Heap_told) F sc_Heap_told rfl (fun cdv A outer s H E hr => d_Heap_told T cdv A outer s H E hr) wp_Heap_told)
def df_law_state : DF := fun ds om k xk => ∃ (ns : List Int), ds = [.frl (ns.map D.int)] ∧ (∀ es', DeckP es' → k (.o es') om)
theorem call_law_state {om : Om} {k : RV → Om → Prop} {xk : Exn → Om → Prop} {ns : List Int} (h : ∀ es', DeckP es' → k (.o es') om) : df_law_state [.frl (ns.map D.int)] om k xk := ⟨ns, rfl, h⟩
def c_law_state : Con := ⟨1, df_law_state, by intro ds om k xk h; obtain ⟨ns, rfl, _⟩ := h; rfl, by intro ds om k k' xk xk' hk hx h; obtain ⟨ns, e_, h⟩ := h; refine ⟨ns, e_, ?_⟩; first | exact hk _ _ h | exact hx _ _ h | exact fun hq => hk _ _ (h hq) | (intros; apply hk; apply h <;> assumption) | (simp only [cnd] at h ⊢; grind) | grind⟩
theorem callK_law_state {om : Om} {k : RV → Om → Prop} {xk : Exn → Om → Prop} {ns : List Int} {t : Tg (df_law_state, k, xk)} (h : ∀ es', DeckP es' → k (.o es') om) : callK df_law_state [.frl (ns.map D.int)] om k xk t := call_law_state h
def w_law_state : WS :=
  (wSeq (wAsg (wFz (wCB pList (wCons (wSl (wBor 0) wON (wOS (wC (.int 63)))) wNil))) (gN 1)) (wSeq (wIfS (wTst (wOp pEq (wCB pLen (wCons (wBor 1) wNil)) (wC (.int 0)))) (wAsg (wFz (wLst (wCons (wC (.int 0)) wNil))) (gN 1)) wNext) (wRet (wLst (wCons (wVar 1) (wCons (wC (.int 0)) (wCons (wC (.int 0)) (wCons (wC (.int 91)) wNil))))))))
theorem d_law_state {P : Program} {w : World} {K : PySem.W.Frag} {mg : Str → Option Value} {base : Heap} {f : Addr} (T : Txt K mg) (cdv : Value) (A : Around) (outer : List PySem.Env) (s : Shared) (H : Hp) (E : XK) (hr : Room 0 (A.deeper (PyProof.Rows.envOfC "_law_state" (defScope s_law_state) s.heap.objs.size f cdv))) :
    ∃ t, DSs (cxOf (L2.CX P w) P w K mg base ["_law_script", "_law_cells"] "_law_state" (defScope s_law_state) f cdv A outer s H E) (fun cls d _ H => E cls d H) (defBody s_law_state) t w_law_state :=
  ⟨_, (dss_cons (ds_set 1 sc_law_state.nd (de_fz (de_ct n_list T.n_list (by decide +kernel) (da_cons (de_sl (de_bor 0) do_none (do_some de_int)) da_nil)))) (dss_cons (ds_if (dt_cmp (o_eq hr) (de_cb n_len T.n_len (by decide +kernel) (da_cons (de_bor 1) da_nil)) de_int) (dss_one (ds_set 1 sc_law_state.nd (de_fz (de_lst (da_cons de_int da_nil))))) dss_nil) (dss_one (ds_ret (de_lst (da_cons (de_var 1) (da_cons de_int (da_cons de_int (da_cons de_int da_nil)))))))))⟩
local macro_rules | `(tactic| fail "ca") => `(tactic| (with_reducible refine ca_guard ?_; first | with_reducible refine callK_less ?_ ?_ ?_ ?_ | with_reducible refine callK_Heap_len (by with_reducible assumption) (by with_reducible assumption) ?_ | with_reducible refine callK_Heap_first (by with_reducible assumption) (by with_reducible assumption) ?_ | with_reducible refine callK_Heap_told (by with_reducible assumption) (by with_reducible assumption) ?_ | with_reducible refine callK_law_state ?_))

section
local macro_rules | `(tactic| fail "d1") => `(tactic| simp -dsimp only [↓u_0, ↓u_16, ↓u_17, ↓u_18, ↓u_19, ↓u_22, ↓u_25, ↓u_26, ↓u_28, ↓u_29, ↓u_31, ↓u_44, ↓u_45, ↓u_46, ↓u_47, u_82, u_83, u_86, u_87, u_93, u_98, u_99, u_100, u_101, u_102, u_103, u_105, u_111, u_114, u_117, ↓u_135, ↓u_136, u_152, u_160, u_161, ↓u_164, ↓u_191, u_195, u_197, u_199, u_200, u_201, u_202, u_206, u_207, u_210, u_211, u_212, u_213, u_214, u_216, u_217, ↓u_238, ↓u_239, ↓u_240, ↓u_242, ↓u_301, u_329, ↓u_518, ↓u_519, ↓u_525, ↓u_527, List.map_nil, List.map_cons, Nat.reduceSub, Nat.reduceAdd, Nat.reduceLT, Nat.reduceLeDiff, reduceIte, String.reduceBEq, String.reduceEq, Int.reduceLT, Int.reduceLE, Int.reduceEq, Int.reduceToNat])
local macro_rules | `(tactic| fail "dl") => `(tactic| try fail "d1")
theorem wp_law_state (ds : List D) (om : Om) (k : RV → Om → Prop) (xk : Exn → Om → Prop) (h : df_law_state ds om k xk) : w_law_state (endOf k xk) (startE 2 ds) om := by
  obtain ⟨ns, rfl, h⟩ := h
  unfold w_law_state endOf
  fail "dl"
  obtain ⟨ms, em⟩ : ∃ ms : List Int, cutD (ns.map D.int) none (some 63) = ms.map D.int := ⟨_, by unfold cutD; rw [← List.map_drop, ← List.map_take]⟩
  rw [em]
  by_cases h0 : ms = []
  · subst h0
    fail "gs"
    exact h _ ⟨[0], 0, 0, _, rfl, by omega, by simp⟩
  · have hl : 0 < ms.length := List.length_pos_iff.mpr h0
    fail "gs"
    exact h _ ⟨ms, 0, 0, _, rfl, by omega, h0⟩
end
theorem ok_law_state {P : Program} {w : World} {K : PySem.W.Frag} {mg : Str → Option Value} {base : Heap} {f : Addr} {fd : FuncData} (F : FunD K "_law_state" "_law_state" (defArgs s_law_state) (defBody s_law_state) (defScope s_law_state) [] [] f fd) (T : Txt K mg) : FnOk P w K mg base (L2.CX P w) 1 f fd ["_law_script"] (toSp K c_law_state) :=
  (fn_ok (c := c_law_state) F sc_law_state rfl (fun cdv A outer s H E hr => d_law_state T cdv A outer s H E hr) wp_law_state)
def df_law_next : DF := fun ds om k xk => ∃ (a : Addr) (m : Int), ds = [.h a, .int m] ∧ (om a = some (.lstP DeckP)) ∧ (0 < m) ∧ (m < 1000000000000000000000000000000) ∧ ∀ z, 0 ≤ z → z < m → k (.v (.int z)) om
theorem call_law_next {om : Om} {k : RV → Om → Prop} {xk : Exn → Om → Prop} {a : Addr} {m : Int} (ha : om a = some (.lstP DeckP)) (m0 : 0 < m) (m1 : m < 1000000000000000000000000000000) (h : ∀ z, 0 ≤ z → z < m → k (.v (.int z)) om) : df_law_next [.h a, .int m] om k xk := ⟨a, m, rfl, ha, m0, m1, h⟩
theorem callK_law_next {om : Om} {k : RV → Om → Prop} {xk : Exn → Om → Prop} {a : Addr} {m : Int} {t : Tg (df_law_next, k, xk)} (ha : om a = some (.lstP DeckP)) (m0 : 0 < m) (m1 : m < 1000000000000000000000000000000) (h : ∀ z, 0 ≤ z → z < m → k (.v (.int z)) om) : callK df_law_next [.h a, .int m] om k xk t := call_law_next ha m0 m1 h
def c_law_next : Con := ⟨2, df_law_next, by intro ds om k xk h; obtain ⟨a, m, rfl, _⟩ := h; rfl, by intro ds om k k' xk xk' hk hx h; obtain ⟨a, m, e, h1, h2, h3, h⟩ := h; exact ⟨a, m, e, h1, h2, h3, fun z z0 z1 => hk _ _ (h z z0 z1)⟩⟩
def df0_law_next : DF := fun ds om k xk => ∃ (a : Addr) (m : Int) (es : List D), ds = [.h a, .int m] ∧ (om a = some (.lst es) ∧ DeckP es ∧ 0 < m ∧ m < 1000000000000000000000000000000) ∧ ∀ z es', 0 ≤ z → z < m → DeckP es' → k (.v (.int z)) (oset om a (.lst es'))
def c0_law_next : Con := ⟨2, df0_law_next, by intro ds om k xk h; obtain ⟨a, m, es, rfl, _⟩ := h; rfl, by intro ds om k k' xk xk' hk hx h; obtain ⟨a, m, es, e, h1, h⟩ := h; exact ⟨a, m, es, e, h1, fun z es' z0 z1 hd => hk _ _ (h z es' z0 z1 hd)⟩⟩
def w_law_next : WS :=
  (wSeq (wIfS (wTst (wOp pGtA (wOp pIx (wBor 0) (wC (.int 2))) (wC (.int 0)))) (wSeq (wAsg (wOp pMod (wOp pIx (wBor 0) (wC (.int 2))) (wBor 1)) (gN 2)) (wSeq (wSet 0 (wC (.int 2)) (wOp pDiv (wOp pIx (wBor 0) (wC (.int 2))) (wBor 1))) (wRet (wMov 2)))) wNext) (wSeq (wAsg (wFz (wOp pIx (wBor 0) (wC (.int 0)))) (gN 3)) (wSeq (wAsg (wFz (wOp pIx (wBor 3) (wOp pMod (wOp pIx (wBor 0) (wC (.int 1))) (wCB pLen (wCons (wBor 3) wNil))))) (gN 4)) (wSeq (wSet 0 (wC (.int 1)) (wOp pAdd (wOp pIx (wBor 0) (wC (.int 1))) (wC (.int 1)))) (wSeq (wIfS (wAnd (wTst (wOp pGeA (wBor 4) (wOp pPow (wC (.int 10)) (wC (.int 18))))) (wTst (wOp pLeA (wOp pIx (wBor 0) (wC (.int 1))) (wCB pLen (wCons (wBor 3) wNil))))) (wSeq (wSet 0 (wC (.int 2)) (wOp pDiv (wBor 4) (wBor 1))) (wRet (wOp pMod (wBor 4) (wBor 1)))) wNext) (wSeq (wSet 0 (wC (.int 3)) (wOp pMod (wOp pAdd (wOp pAdd (wOp pMul (wOp pIx (wBor 0) (wC (.int 3))) (wC (.int 48271))) (wOp pMod (wBor 4) (wC (.int 2147483629)))) (wOp pMul (wC (.int 7)) (wOp pIx (wBor 0) (wC (.int 1))))) (wC (.int 2147483647)))) (wRet (wOp pMod (wOp pDiv (wOp pMod (wOp pMul (wOp pIx (wBor 0) (wC (.int 3))) (wC (.int 69621))) (wC (.int 2147483629))) (wC (.int 64))) (wBor 1)))))))))
theorem d_law_next {P : Program} {w : World} {K : PySem.W.Frag} {mg : Str → Option Value} {base : Heap} {f : Addr} (T : Txt K mg) (cdv : Value) (A : Around) (outer : List PySem.Env) (s : Shared) (H : Hp) (E : XK) (hr : Room 0 (A.deeper (PyProof.Rows.envOfC "_law_next" (defScope s_law_next) s.heap.objs.size f cdv))) :
    ∃ t, DSs (cxOf (L2.CX P w) P w K mg base ["_law_state_here", "_law_below", "_law_found", "_law_cells", "_law_cell"] "_law_next" (defScope s_law_next) f cdv A outer s H E) (fun cls d _ H => E cls d H) (defBody s_law_next) t w_law_next :=
  ⟨_, (dss_cons (ds_if (dt_cmp (o_gtA hr) (de_ix (de_bor 0) de_int) de_int) (dss_cons (ds_set 2 sc_law_next.nd (de_op o_mod (de_ix (de_bor 0) de_int) (de_bor 1))) (dss_cons (ds_put 0 de_int (de_op o_div (de_ix (de_bor 0) de_int) (de_bor 1))) (dss_one (ds_retV 2)))) dss_nil) (dss_cons (ds_set 3 sc_law_next.nd (de_fz (de_ix (de_bor 0) de_int))) (dss_cons (ds_set 4 sc_law_next.nd (de_fz (de_ix (de_bor 3) (de_op o_mod (de_ix (de_bor 0) de_int) (de_cb n_len T.n_len (by decide +kernel) (da_cons (de_bor 3) da_nil)))))) (dss_cons (ds_put 0 de_int (de_op o_add (de_ix (de_bor 0) de_int) de_int)) (dss_cons (ds_if (DW.dt (dw_and (dt_cmp (o_geA hr) (de_bor 4) (de_op o_pow de_int de_int)) (dw_and1 (dt_cmp (o_leA hr) (de_ix (de_bor 0) de_int) (de_cb n_len T.n_len (by decide +kernel) (da_cons (de_bor 3) da_nil)))))) (dss_cons (ds_put 0 de_int (de_op o_div (de_bor 4) (de_bor 1))) (dss_one (ds_ret (de_op o_mod (de_bor 4) (de_bor 1))))) dss_nil) (dss_cons (ds_put 0 de_int (de_op o_mod (de_op o_add (de_op o_add (de_op o_mul (de_ix (de_bor 0) de_int) de_int) (de_op o_mod (de_bor 4) de_int)) (de_op o_mul de_int (de_ix (de_bor 0) de_int))) de_int)) (dss_one (ds_ret (de_op o_mod (de_op o_div (de_op o_mod (de_op o_mul (de_ix (de_bor 0) de_int) de_int) de_int) de_int) (de_bor 1))))))))))⟩
local macro_rules | `(tactic| fail "ca") => `(tactic| (with_reducible refine ca_guard ?_; first | with_reducible refine callK_less ?_ ?_ ?_ ?_ | with_reducible refine callK_Heap_len (by with_reducible assumption) (by with_reducible assumption) ?_ | with_reducible refine callK_Heap_first (by with_reducible assumption) (by with_reducible assumption) ?_ | with_reducible refine callK_Heap_told (by with_reducible assumption) (by with_reducible assumption) ?_ | with_reducible refine callK_law_state ?_ | with_reducible refine callK_law_next (by with_reducible assumption) ?_ ?_ ?_))
section
local macro_rules | `(tactic| fail "d1") => `(tactic| simp -dsimp only [↓u_0, ↓u_16, ↓u_17, ↓u_18, ↓u_19, ↓u_22, ↓u_26, ↓u_27, ↓u_28, ↓u_29, ↓u_31, ↓u_45, ↓u_46, ↓u_47, ↓u_49, ↓u_66, u_67, ↓u_69, ↓u_70, ↓u_71, u_82, u_83, u_86, u_90, u_91, u_92, u_93, u_96, u_100, u_101, u_102, u_105, u_111, u_114, ↓u_135, ↓u_142, ↓u_145, ↓u_146, ↓u_147, ↓u_148, u_152, u_155, u_156, u_157, u_160, ↓u_164, ↓u_166, ↓u_167, ↓u_168, ↓u_173, ↓u_174, ↓u_175, ↓u_184, ↓u_188, u_195, u_197, u_199, u_200, u_201, u_202, u_206, u_207, u_210, u_211, u_212, u_213, u_214, u_216, u_217, ↓u_301, u_329, ↓u_518, ↓u_519, ↓u_522, ↓u_525, ↓u_529, ↓u_532, ↓u_533, List.map_nil, List.map_cons, Nat.reduceSub, Nat.reduceAdd, Nat.reduceLT, Nat.reduceLeDiff, reduceIte, String.reduceBEq, String.reduceEq, Int.reduceLT, Int.reduceLE, Int.reduceEq, Int.reduceToNat])
local macro_rules | `(tactic| fail "dl") => `(tactic| try fail "d1")
theorem wp_law_next (ds : List D) (om : Om) (k : RV → Om → Prop) (xk : Exn → Om → Prop) (h : df0_law_next ds om k xk) : w_law_next (endOf k xk) (startE 5 ds) om := by
  obtain ⟨a, m, es, rfl, ⟨ha, hP, hm, hm2⟩, h⟩ := h
  obtain ⟨ns, c, r, s, rfl, hc, hne⟩ := hP
  have hm2 : m < 2 ^ 200 := Int.lt_trans hm2 (by decide)
  have fin : ∀ (q c' r' s' : Int), 0 ≤ c' → k (.v (.int (q % m))) (oset om a (.lst [.lst (ns.map D.int), .int c', .int r', .int s'])) := fun q c' r' s' h0 =>
    h (q % m) _ (Int.emod_nonneg _ (by omega)) (Int.emod_lt_of_pos _ hm) ⟨ns, c', r', s', rfl, h0, hne⟩
  have hn : 0 < ns.length := List.length_pos_iff.mpr hne
  have hd := deref_h ha
  unfold w_law_next endOf; try simp -dsimp only [↓u_0, ↓u_16, ↓u_17, ↓u_18, ↓u_19, ↓u_22, ↓u_26, ↓u_27, ↓u_28, ↓u_29, ↓u_31, ↓u_45, ↓u_46, ↓u_47, ↓u_49, ↓u_66, u_67, ↓u_69, ↓u_70, ↓u_71, u_82, u_83, u_86, u_90, u_91, u_92, u_93, u_96, u_100, u_101, u_102, u_105, u_111, u_114, ↓u_135, ↓u_142, ↓u_145, ↓u_146, ↓u_147, ↓u_148, u_152, u_155, u_156, u_157, u_160, ↓u_164, ↓u_166, ↓u_167, ↓u_168, ↓u_173, ↓u_174, ↓u_175, ↓u_184, ↓u_188, u_195, u_197, u_199, u_200, u_201, u_202, u_206, u_207, u_210, u_211, u_212, u_213, u_214, u_216, u_217, ↓u_301, u_329, ↓u_518, ↓u_519, ↓u_522, ↓u_525, ↓u_529, ↓u_532, ↓u_533, List.map_nil, List.map_cons, Nat.reduceSub, Nat.reduceAdd, Nat.reduceLT, Nat.reduceLeDiff, reduceIte, String.reduceBEq, String.reduceEq, Int.reduceLT, Int.reduceLE, Int.reduceEq, Int.reduceToNat, ha, hd]
  refine cnd_dec (fun hr => ?_) (fun hr => ?_)
  · try simp -dsimp only [↓u_0, ↓u_16, ↓u_17, ↓u_18, ↓u_19, ↓u_22, ↓u_26, ↓u_27, ↓u_28, ↓u_29, ↓u_31, ↓u_45, ↓u_46, ↓u_47, ↓u_49, ↓u_66, u_67, ↓u_69, ↓u_70, ↓u_71, u_82, u_83, u_86, u_90, u_91, u_92, u_93, u_96, u_100, u_101, u_102, u_105, u_111, u_114, ↓u_135, ↓u_142, ↓u_145, ↓u_146, ↓u_147, ↓u_148, u_152, u_155, u_156, u_157, u_160, ↓u_164, ↓u_166, ↓u_167, ↓u_168, ↓u_173, ↓u_174, ↓u_175, ↓u_184, ↓u_188, u_195, u_197, u_199, u_200, u_201, u_202, u_206, u_207, u_210, u_211, u_212, u_213, u_214, u_216, u_217, ↓u_301, u_329, ↓u_518, ↓u_519, ↓u_522, ↓u_525, ↓u_529, ↓u_532, ↓u_533, List.map_nil, List.map_cons, Nat.reduceSub, Nat.reduceAdd, Nat.reduceLT, Nat.reduceLeDiff, reduceIte, String.reduceBEq, String.reduceEq, Int.reduceLT, Int.reduceLE, Int.reduceEq, Int.reduceToNat, ha, hd]
    exact ⟨hm, ⟨hm, hm2⟩, fin r c (r / m) s hc⟩
  · obtain ⟨z, ez⟩ : ∃ z, ns.getD (c % (ns.length : Int)).toNat 0 = z := ⟨_, rfl⟩
    try simp -dsimp only [↓u_0, ↓u_16, ↓u_17, ↓u_18, ↓u_19, ↓u_22, ↓u_26, ↓u_27, ↓u_28, ↓u_29, ↓u_31, ↓u_45, ↓u_46, ↓u_47, ↓u_49, ↓u_66, u_67, ↓u_69, ↓u_70, ↓u_71, u_82, u_83, u_86, u_90, u_91, u_92, u_93, u_96, u_100, u_101, u_102, u_105, u_111, u_114, ↓u_135, ↓u_142, ↓u_145, ↓u_146, ↓u_147, ↓u_148, u_152, u_155, u_156, u_157, u_160, ↓u_164, ↓u_166, ↓u_167, ↓u_168, ↓u_173, ↓u_174, ↓u_175, ↓u_184, ↓u_188, u_195, u_197, u_199, u_200, u_201, u_202, u_206, u_207, u_210, u_211, u_212, u_213, u_214, u_216, u_217, ↓u_301, u_329, ↓u_518, ↓u_519, ↓u_522, ↓u_525, ↓u_529, ↓u_532, ↓u_533, List.map_nil, List.map_cons, Nat.reduceSub, Nat.reduceAdd, Nat.reduceLT, Nat.reduceLeDiff, reduceIte, String.reduceBEq, String.reduceEq, Int.reduceLT, Int.reduceLE, Int.reduceEq, Int.reduceToNat, ha, hd]
    refine ⟨by omega, ixK_ints (Int.emod_nonneg _ (by omega)) (Int.emod_lt_of_pos _ (by omega)) ?_⟩
    rw [ez]
    try simp -dsimp only [↓u_0, ↓u_16, ↓u_17, ↓u_18, ↓u_19, ↓u_22, ↓u_26, ↓u_27, ↓u_28, ↓u_29, ↓u_31, ↓u_45, ↓u_46, ↓u_47, ↓u_49, ↓u_66, u_67, ↓u_69, ↓u_70, ↓u_71, u_82, u_83, u_86, u_90, u_91, u_92, u_93, u_96, u_100, u_101, u_102, u_105, u_111, u_114, ↓u_135, ↓u_142, ↓u_145, ↓u_146, ↓u_147, ↓u_148, u_152, u_155, u_156, u_157, u_160, ↓u_164, ↓u_166, ↓u_167, ↓u_168, ↓u_173, ↓u_174, ↓u_175, ↓u_184, ↓u_188, u_195, u_197, u_199, u_200, u_201, u_202, u_206, u_207, u_210, u_211, u_212, u_213, u_214, u_216, u_217, ↓u_301, u_329, ↓u_518, ↓u_519, ↓u_522, ↓u_525, ↓u_529, ↓u_532, ↓u_533, List.map_nil, List.map_cons, Nat.reduceSub, Nat.reduceAdd, Nat.reduceLT, Nat.reduceLeDiff, reduceIte, String.reduceBEq, String.reduceEq, Int.reduceLT, Int.reduceLE, Int.reduceEq, Int.reduceToNat, ha, hd]
    refine ⟨by decide, ?_⟩
    refine cnd_dec (fun hz => ?_) (fun hz => ?_)
    · try simp -dsimp only [↓u_0, ↓u_16, ↓u_17, ↓u_18, ↓u_19, ↓u_22, ↓u_26, ↓u_27, ↓u_28, ↓u_29, ↓u_31, ↓u_45, ↓u_46, ↓u_47, ↓u_49, ↓u_66, u_67, ↓u_69, ↓u_70, ↓u_71, u_82, u_83, u_86, u_90, u_91, u_92, u_93, u_96, u_100, u_101, u_102, u_105, u_111, u_114, ↓u_135, ↓u_142, ↓u_145, ↓u_146, ↓u_147, ↓u_148, u_152, u_155, u_156, u_157, u_160, ↓u_164, ↓u_166, ↓u_167, ↓u_168, ↓u_173, ↓u_174, ↓u_175, ↓u_184, ↓u_188, u_195, u_197, u_199, u_200, u_201, u_202, u_206, u_207, u_210, u_211, u_212, u_213, u_214, u_216, u_217, ↓u_301, u_329, ↓u_518, ↓u_519, ↓u_522, ↓u_525, ↓u_529, ↓u_532, ↓u_533, List.map_nil, List.map_cons, Nat.reduceSub, Nat.reduceAdd, Nat.reduceLT, Nat.reduceLeDiff, reduceIte, String.reduceBEq, String.reduceEq, Int.reduceLT, Int.reduceLE, Int.reduceEq, Int.reduceToNat, ha, hd]
      refine cnd_dec (fun hq => ?_) (fun hq => ?_)
      · try simp -dsimp only [↓u_0, ↓u_16, ↓u_17, ↓u_18, ↓u_19, ↓u_22, ↓u_26, ↓u_27, ↓u_28, ↓u_29, ↓u_31, ↓u_45, ↓u_46, ↓u_47, ↓u_49, ↓u_66, u_67, ↓u_69, ↓u_70, ↓u_71, u_82, u_83, u_86, u_90, u_91, u_92, u_93, u_96, u_100, u_101, u_102, u_105, u_111, u_114, ↓u_135, ↓u_142, ↓u_145, ↓u_146, ↓u_147, ↓u_148, u_152, u_155, u_156, u_157, u_160, ↓u_164, ↓u_166, ↓u_167, ↓u_168, ↓u_173, ↓u_174, ↓u_175, ↓u_184, ↓u_188, u_195, u_197, u_199, u_200, u_201, u_202, u_206, u_207, u_210, u_211, u_212, u_213, u_214, u_216, u_217, ↓u_301, u_329, ↓u_518, ↓u_519, ↓u_522, ↓u_525, ↓u_529, ↓u_532, ↓u_533, List.map_nil, List.map_cons, Nat.reduceSub, Nat.reduceAdd, Nat.reduceLT, Nat.reduceLeDiff, reduceIte, String.reduceBEq, String.reduceEq, Int.reduceLT, Int.reduceLE, Int.reduceEq, Int.reduceToNat, ha, hd]
        exact ⟨⟨hm, hm2⟩, hm, fin z _ _ _ (by omega)⟩
      · try simp -dsimp only [↓u_0, ↓u_16, ↓u_17, ↓u_18, ↓u_19, ↓u_22, ↓u_26, ↓u_27, ↓u_28, ↓u_29, ↓u_31, ↓u_45, ↓u_46, ↓u_47, ↓u_49, ↓u_66, u_67, ↓u_69, ↓u_70, ↓u_71, u_82, u_83, u_86, u_90, u_91, u_92, u_93, u_96, u_100, u_101, u_102, u_105, u_111, u_114, ↓u_135, ↓u_142, ↓u_145, ↓u_146, ↓u_147, ↓u_148, u_152, u_155, u_156, u_157, u_160, ↓u_164, ↓u_166, ↓u_167, ↓u_168, ↓u_173, ↓u_174, ↓u_175, ↓u_184, ↓u_188, u_195, u_197, u_199, u_200, u_201, u_202, u_206, u_207, u_210, u_211, u_212, u_213, u_214, u_216, u_217, ↓u_301, u_329, ↓u_518, ↓u_519, ↓u_522, ↓u_525, ↓u_529, ↓u_532, ↓u_533, List.map_nil, List.map_cons, Nat.reduceSub, Nat.reduceAdd, Nat.reduceLT, Nat.reduceLeDiff, reduceIte, String.reduceBEq, String.reduceEq, Int.reduceLT, Int.reduceLE, Int.reduceEq, Int.reduceToNat, ha, hd]
        fail "cl"; exact fin _ _ _ _ (by omega)
    · try simp -dsimp only [↓u_0, ↓u_16, ↓u_17, ↓u_18, ↓u_19, ↓u_22, ↓u_26, ↓u_27, ↓u_28, ↓u_29, ↓u_31, ↓u_45, ↓u_46, ↓u_47, ↓u_49, ↓u_66, u_67, ↓u_69, ↓u_70, ↓u_71, u_82, u_83, u_86, u_90, u_91, u_92, u_93, u_96, u_100, u_101, u_102, u_105, u_111, u_114, ↓u_135, ↓u_142, ↓u_145, ↓u_146, ↓u_147, ↓u_148, u_152, u_155, u_156, u_157, u_160, ↓u_164, ↓u_166, ↓u_167, ↓u_168, ↓u_173, ↓u_174, ↓u_175, ↓u_184, ↓u_188, u_195, u_197, u_199, u_200, u_201, u_202, u_206, u_207, u_210, u_211, u_212, u_213, u_214, u_216, u_217, ↓u_301, u_329, ↓u_518, ↓u_519, ↓u_522, ↓u_525, ↓u_529, ↓u_532, ↓u_533, List.map_nil, List.map_cons, Nat.reduceSub, Nat.reduceAdd, Nat.reduceLT, Nat.reduceLeDiff, reduceIte, String.reduceBEq, String.reduceEq, Int.reduceLT, Int.reduceLE, Int.reduceEq, Int.reduceToNat, ha, hd]
      fail "cl"; exact fin _ _ _ _ (by omega)
end
theorem ok_law_next {P : Program} {w : World} {K : PySem.W.Frag} {mg : Str → Option Value} {base : Heap} {f : Addr} {fd : FuncData} (F : FunD K "_law_next" "_law_next" (defArgs s_law_next) (defBody s_law_next) (defScope s_law_next) [] [] f fd) (T : Txt K mg) : FnOk P w K mg base (L2.CX P w) 1 f fd ["_law_state_here", "_law_below"] (toSp K c_law_next) :=
  FnOk.imp (h := (toSp_close (a := fun ds => match ds with | [.h a, _] => a | _ => 0) (P := DeckP) (fun ds om k xk h => by
    obtain ⟨a, m, rfl, h1, h2, h3, h⟩ := h
    exact ⟨h1, fun es hP => ⟨a, m, es, rfl, ⟨oset_same, hP, h2, h3⟩, fun z es' h0 h1 hP' => ⟨es', hP', oset_set, h z h0 h1⟩⟩⟩))) (fn_ok (c := c0_law_next) F sc_law_next rfl (fun cdv A outer s H E hr => d_law_next T cdv A outer s H E hr) wp_law_next)
def df_law_less : DF := fun ds om k xk => ∃ (p : List Int), ∃ (q : List Int), ∃ (c : Int), ds = [rowD p, rowD q, .int c] ∧ (0 ≤ c) ∧ (c < p.length) ∧ (c < q.length) ∧ (k (.v (.bl (lessR c.toNat p q))) om)
theorem call_law_less {om : Om} {k : RV → Om → Prop} {xk : Exn → Om → Prop} {p : List Int} {q : List Int} {c : Int} (c0 : 0 ≤ c) (h1 : c < p.length) (h2 : c < q.length) (h : k (.v (.bl (lessR c.toNat p q))) om) : df_law_less [rowD p, rowD q, .int c] om k xk := ⟨p, q, c, rfl, c0, h1, h2, h⟩
def c_law_less : Con := ⟨3, df_law_less, by intro ds om k xk h; obtain ⟨p, q, c, rfl, _, _, _, _⟩ := h; rfl, by intro ds om k k' xk xk' hk hx h; obtain ⟨p, q, c, e_, c0, h1, h2, h⟩ := h; refine ⟨p, q, c, e_, c0, h1, h2, ?_⟩; first | exact hk _ _ h | exact hx _ _ h | exact fun hq => hk _ _ (h hq) | (intros; apply hk; apply h <;> assumption) | (simp only [cnd] at h ⊢; grind) | grind⟩
theorem callK_law_less {om : Om} {k : RV → Om → Prop} {xk : Exn → Om → Prop} {p : List Int} {q : List Int} {c : Int} {t : Tg (df_law_less, k, xk)} (c0 : 0 ≤ c) (h1 : c < p.length) (h2 : c < q.length) (h : k (.v (.bl (lessR c.toNat p q))) om) : callK df_law_less [rowD p, rowD q, .int c] om k xk t := call_law_less c0 h1 h2 h
def w_law_less : WS :=
  (wRet (wOp pLtA (wTup (wCons (wOp pIx (wBor 0) (wBor 2)) (wCons (wVar 0) wNil))) (wTup (wCons (wOp pIx (wBor 1) (wBor 2)) (wCons (wVar 1) wNil)))))
theorem d_law_less {P : Program} {w : World} {K : PySem.W.Frag} {mg : Str → Option Value} {base : Heap} {f : Addr} (T : Txt K mg) (cdv : Value) (A : Around) (outer : List PySem.Env) (s : Shared) (H : Hp) (E : XK) (hr : Room 0 (A.deeper (PyProof.Rows.envOfC "_law_less" (defScope s_law_less) s.heap.objs.size f cdv))) :
    ∃ t, DSs (cxOf (L2.CX P w) P w K mg base ["_law_one", "_law_other", "_law_column"] "_law_less" (defScope s_law_less) f cdv A outer s H E) (fun cls d _ H => E cls d H) (defBody s_law_less) t w_law_less :=
  ⟨_, (dss_one (ds_ret (de_cmp (o_ltA hr) (de_tup (da_cons (de_ix (de_bor 0) (de_bor 2)) (da_cons (de_var 0) da_nil))) (de_tup (da_cons (de_ix (de_bor 1) (de_bor 2)) (da_cons (de_var 1) da_nil))))))⟩
local macro_rules | `(tactic| fail "ca") => `(tactic| (with_reducible refine ca_guard ?_; first | with_reducible refine callK_less ?_ ?_ ?_ ?_ | with_reducible refine callK_Heap_len (by with_reducible assumption) (by with_reducible assumption) ?_ | with_reducible refine callK_Heap_first (by with_reducible assumption) (by with_reducible assumption) ?_ | with_reducible refine callK_Heap_told (by with_reducible assumption) (by with_reducible assumption) ?_ | with_reducible refine callK_law_state ?_ | with_reducible refine callK_law_next (by with_reducible assumption) ?_ ?_ ?_ | with_reducible refine callK_law_less ?_ ?_ ?_ ?_))

section
local macro_rules | `(tactic| fail "d1") => `(tactic| simp -dsimp only [↓u_19, ↓u_25, ↓u_26, ↓u_29, ↓u_43, ↓u_45, ↓u_46, u_83, u_85, u_93, u_98, u_99, u_102, u_160, ↓u_164, ↓u_176, u_195, u_201, u_202, u_206, u_207, u_209, u_213, u_216, u_217, ↓u_518, ↓u_519, ↓u_525, ↓u_527, u_537, ↓u_541, List.map_nil, List.map_cons, Nat.reduceSub, Nat.reduceAdd, Nat.reduceLT, Nat.reduceLeDiff, reduceIte, String.reduceBEq, String.reduceEq, Int.reduceLT, Int.reduceLE, Int.reduceEq, Int.reduceToNat])
local macro_rules | `(tactic| fail "dl") => `(tactic| try fail "d1")
theorem wp_law_less (ds : List D) (om : Om) (k : RV → Om → Prop) (xk : Exn → Om → Prop) (h : df_law_less ds om k xk) : w_law_less (endOf k xk) (startE 3 ds) om := by
  obtain ⟨p, q, c, rfl, c0, h1, h2, h⟩ := h
  unfold w_law_less endOf
  have hL := okL_key c.toNat p q
  fail "gs"
  · exact hL
  · exact h
end
theorem ok_law_less {P : Program} {w : World} {K : PySem.W.Frag} {mg : Str → Option Value} {base : Heap} {f : Addr} {fd : FuncData} (F : FunD K "_law_less" "_law_less" (defArgs s_law_less) (defBody s_law_less) (defScope s_law_less) [] [] f fd) (T : Txt K mg) : FnOk P w K mg base (L2.CX P w) 1 f fd ["_law_one", "_law_other", "_law_column"] (toSp K c_law_less) :=
  (fn_ok (c := c_law_less) F sc_law_less rfl (fun cdv A outer s H E hr => d_law_less T cdv A outer s H E hr) wp_law_less)
def df_law_names : DF := fun ds om k xk => ∃ (c : Str), ds = [.exc c [] []] ∧ (c = "NoneHeld") ∧ (k (.o [.str c]) om)
theorem call_law_names {om : Om} {k : RV → Om → Prop} {xk : Exn → Om → Prop} {c : Str} (hc : c = "NoneHeld") (h : k (.o [.str c]) om) : df_law_names [.exc c [] []] om k xk := ⟨c, rfl, hc, h⟩
def c_law_names : Con := ⟨1, df_law_names, by intro ds om k xk h; obtain ⟨c, rfl, _, _⟩ := h; rfl, by intro ds om k k' xk xk' hk hx h; obtain ⟨c, e_, hc, h⟩ := h; refine ⟨c, e_, hc, ?_⟩; first | exact hk _ _ h | exact hx _ _ h | exact fun hq => hk _ _ (h hq) | (intros; apply hk; apply h <;> assumption) | (simp only [cnd] at h ⊢; grind) | grind⟩
theorem callK_law_names {om : Om} {k : RV → Om → Prop} {xk : Exn → Om → Prop} {c : Str} {t : Tg (df_law_names, k, xk)} (hc : c = "NoneHeld") (h : k (.o [.str c]) om) : callK df_law_names [.exc c [] []] om k xk t := call_law_names hc h
def w_law_names : WS :=
  (wSeq (wAsg (wFz (wLst (wCons (wCB (pIsX XSd.tab) (wCons (wVar 0) (wCons (wC (.fn "NoRows")) wNil))) (wCons (wCB (pIsX XSd.tab) (wCons (wVar 0) (wCons (wC (.fn "NoColumn")) wNil))) (wCons (wCB (pIsX XSd.tab) (wCons (wVar 0) (wCons (wC (.fn "NoCount")) wNil))) wNil))))) (gN 1)) (wSeq (wAsg (wFz (wOp pAdd (wBor 1) (wLst (wCons (wCB (pIsX XSd.tab) (wCons (wVar 0) (wCons (wC (.fn "NoTable")) wNil))) (wCons (wCB (pIsX XSd.tab) (wCons (wVar 0) (wCons (wC (.fn "NoQuery")) wNil))) (wCons (wCB (pIsX XSd.tab) (wCons (wVar 0) (wCons (wC (.fn "TooMany")) wNil))) wNil)))))) (gN 1)) (wSeq (wAsg (wFz (wOp pAdd (wBor 1) (wLst (wCons (wCB (pIsX XSd.tab) (wCons (wVar 0) (wCons (wC (.fn "NoWeights")) wNil))) (wCons (wCB (pIsX XSd.tab) (wCons (wVar 0) (wCons (wC (.fn "NoTree")) wNil))) (wCons (wCB (pIsX XSd.tab) (wCons (wVar 0) (wCons (wC (.fn "NotOrdered")) wNil))) wNil)))))) (gN 1)) (wSeq (wAsg (wFz (wOp pAdd (wBor 1) (wLst (wCons (wCB (pIsX XSd.tab) (wCons (wVar 0) (wCons (wC (.fn "NoneHeld")) wNil))) (wCons (wCB (pIsX XSd.tab) (wCons (wVar 0) (wCons (wC (.fn "NoStep")) wNil))) (wCons (wCB (pIsX XSd.tab) (wCons (wVar 0) (wCons (wC (.fn "NoSeat")) wNil))) wNil)))))) (gN 1)) (wSeq (wAsg (wFz (wLst (wCons (wC (.str "NoRows")) (wCons (wC (.str "NoColumn")) (wCons (wC (.str "NoCount")) (wCons (wC (.str "NoTable")) (wCons (wC (.str "NoQuery")) (wCons (wC (.str "TooMany")) (wCons (wC (.str "NoWeights")) (wCons (wC (.str "NoTree")) (wCons (wC (.str "NotOrdered")) wNil))))))))))) (gN 2)) (wSeq (wAsg (wFz (wOp pAdd (wBor 2) (wLst (wCons (wC (.str "NoneHeld")) (wCons (wC (.str "NoStep")) (wCons (wC (.str "NoSeat")) wNil)))))) (gN 2)) (wRet (wLc (wiZipA (wCons (wVar 2) (wCons (wVar 1) wNil))) (gT 2 (gsCons 3 (gsCons 4 gsNil))) (wTru (wBor 4)) (wVar 3) [3, 4]))))))))
theorem d_law_names {P : Program} {w : World} {K : PySem.W.Frag} {mg : Str → Option Value} {base : Heap} {f : Addr} (T : Txt K mg) (cdv : Value) (A : Around) (outer : List PySem.Env) (s : Shared) (H : Hp) (E : XK) (hr : Room 0 (A.deeper (PyProof.Rows.envOfC "_law_names" (defScope s_law_names) s.heap.objs.size f cdv))) :
    ∃ t, DSs (cxOf (L2.CX P w) P w K mg base ["_law_error", "_law_said", "_law_names_here", "_law_name", "_law_so"] "_law_names" (defScope s_law_names) f cdv A outer s H E) (fun cls d _ H => E cls d H) (defBody s_law_names) t w_law_names :=
  ⟨_, (dss_cons (ds_set 1 sc_law_names.nd (de_fz (de_lst (da_cons (de_cb (n_isX' (K' := K) T.tab) T.n_isinstance (by decide +kernel) (da_cons (de_var 0) (da_cons (de_fn T.g_NoRows (K' := K)) da_nil))) (da_cons (de_cb (n_isX' (K' := K) T.tab) T.n_isinstance (by decide +kernel) (da_cons (de_var 0) (da_cons (de_fn T.g_NoColumn (K' := K)) da_nil))) (da_cons (de_cb (n_isX' (K' := K) T.tab) T.n_isinstance (by decide +kernel) (da_cons (de_var 0) (da_cons (de_fn T.g_NoCount (K' := K)) da_nil))) da_nil)))))) (dss_cons (ds_set 1 sc_law_names.nd (de_fz (de_op o_add (de_bor 1) (de_lst (da_cons (de_cb (n_isX' (K' := K) T.tab) T.n_isinstance (by decide +kernel) (da_cons (de_var 0) (da_cons (de_fn T.g_NoTable (K' := K)) da_nil))) (da_cons (de_cb (n_isX' (K' := K) T.tab) T.n_isinstance (by decide +kernel) (da_cons (de_var 0) (da_cons (de_fn T.g_NoQuery (K' := K)) da_nil))) (da_cons (de_cb (n_isX' (K' := K) T.tab) T.n_isinstance (by decide +kernel) (da_cons (de_var 0) (da_cons (de_fn T.g_TooMany (K' := K)) da_nil))) da_nil))))))) (dss_cons (ds_set 1 sc_law_names.nd (de_fz (de_op o_add (de_bor 1) (de_lst (da_cons (de_cb (n_isX' (K' := K) T.tab) T.n_isinstance (by decide +kernel) (da_cons (de_var 0) (da_cons (de_fn T.g_NoWeights (K' := K)) da_nil))) (da_cons (de_cb (n_isX' (K' := K) T.tab) T.n_isinstance (by decide +kernel) (da_cons (de_var 0) (da_cons (de_fn T.g_NoTree (K' := K)) da_nil))) (da_cons (de_cb (n_isX' (K' := K) T.tab) T.n_isinstance (by decide +kernel) (da_cons (de_var 0) (da_cons (de_fn T.g_NotOrdered (K' := K)) da_nil))) da_nil))))))) (dss_cons (ds_set 1 sc_law_names.nd (de_fz (de_op o_add (de_bor 1) (de_lst (da_cons (de_cb (n_isX' (K' := K) T.tab) T.n_isinstance (by decide +kernel) (da_cons (de_var 0) (da_cons (de_fn T.g_NoneHeld (K' := K)) da_nil))) (da_cons (de_cb (n_isX' (K' := K) T.tab) T.n_isinstance (by decide +kernel) (da_cons (de_var 0) (da_cons (de_fn T.g_NoStep (K' := K)) da_nil))) (da_cons (de_cb (n_isX' (K' := K) T.tab) T.n_isinstance (by decide +kernel) (da_cons (de_var 0) (da_cons (de_fn T.g_NoSeat (K' := K)) da_nil))) da_nil))))))) (dss_cons (ds_set 2 sc_law_names.nd (de_fz (de_lst (da_cons de_str (da_cons de_str (da_cons de_str (da_cons de_str (da_cons de_str (da_cons de_str (da_cons de_str (da_cons de_str (da_cons de_str da_nil)))))))))))) (dss_cons (ds_set 2 sc_law_names.nd (de_fz (de_op o_add (de_bor 2) (de_lst (da_cons de_str (da_cons de_str (da_cons de_str da_nil))))))) (dss_one (ds_ret (de_lc (own := [("_law_name", 3), ("_law_so", 4)]) rfl sc_law_names.nd (di_zipA T.n_zip (da_cons (de_var 2) (da_cons (de_var 1) da_nil)) (K' := K)) (by kernel_rfl) (fun _ _ _ _ _ => (dgv_tup' (K' := K) rfl (dgvs_cons 3 sc_law_names.nd (dgvs_cons 4 sc_law_names.nd dgvs_nil)))) (fun _ _ _ _ _ => (dts_one (dt_tru' (K' := K) (de_bor 4)))) (fun _ _ _ _ _ => (de_var 3)) s)))))))))⟩
local macro_rules | `(tactic| fail "ca") => `(tactic| (with_reducible refine ca_guard ?_; first | with_reducible refine callK_less ?_ ?_ ?_ ?_ | with_reducible refine callK_Heap_len (by with_reducible assumption) (by with_reducible assumption) ?_ | with_reducible refine callK_Heap_first (by with_reducible assumption) (by with_reducible assumption) ?_ | with_reducible refine callK_Heap_told (by with_reducible assumption) (by with_reducible assumption) ?_ | with_reducible refine callK_law_state ?_ | with_reducible refine callK_law_next (by with_reducible assumption) ?_ ?_ ?_ | with_reducible refine callK_law_less ?_ ?_ ?_ ?_ | with_reducible refine callK_law_names ?_ ?_))

section
local macro_rules | `(tactic| fail "d1") => `(tactic| simp -dsimp only [↓u_0, ↓u_17, ↓u_18, ↓u_19, ↓u_25, ↓u_26, ↓u_28, ↓u_29, ↓u_31, ↓u_44, ↓u_45, ↓u_46, ↓u_48, ↓u_63, ↓u_78, ↓u_79, ↓u_80, u_82, u_86, u_93, u_94, u_96, u_98, u_99, u_100, u_101, u_102, u_103, u_106, u_160, u_161, ↓u_164, ↓u_185, u_195, u_197, u_199, u_200, u_201, u_202, u_206, u_207, u_210, u_211, u_212, u_213, u_214, u_216, u_217, u_236, u_237, ↓u_288, u_290, ↓u_301, ↓u_304, u_313, u_314, u_329, ↓u_518, ↓u_519, ↓u_521, ↓u_522, ↓u_525, ↓u_527, tab_NoneHeld_NoRows, tab_NoneHeld_NoColumn, tab_NoneHeld_NoneHeld, tab_NoneHeld_NoWeights, tab_NoneHeld_NoTree, tab_NoneHeld_NoStep, tab_NoneHeld_NoSeat, tab_NoneHeld_NoTable, tab_NoneHeld_NoQuery, tab_NoneHeld_TooMany, tab_NoneHeld_NoCount, tab_NoneHeld_NotOrdered, List.map_nil, List.map_cons, Nat.reduceSub, Nat.reduceAdd, Nat.reduceLT, Nat.reduceLeDiff, reduceIte, String.reduceBEq, String.reduceEq, Int.reduceLT, Int.reduceLE, Int.reduceEq, Int.reduceToNat])
local macro_rules | `(tactic| fail "dl") => `(tactic| try fail "d1")
local macro_rules | `(tactic| fail "u1") => `(tactic| simp -dsimp only [↓u_0, ↓u_17, ↓u_18, ↓u_19, ↓u_25, ↓u_26, ↓u_28, ↓u_29, ↓u_31, ↓u_44, ↓u_45, ↓u_46, ↓u_48, ↓u_63, ↓u_78, ↓u_79, ↓u_80, u_82, u_86, u_93, u_94, u_96, u_98, u_99, u_100, u_101, u_102, u_103, u_106, u_160, u_161, ↓u_164, ↓u_185, u_195, u_197, u_199, u_200, u_201, u_202, u_206, u_207, u_210, u_211, u_212, u_213, u_214, u_216, u_217, u_236, u_237, ↓u_288, u_290, ↓u_301, ↓u_304, u_313, u_314, u_329, ↓u_518, ↓u_519, ↓u_521, ↓u_522, ↓u_525, ↓u_527, tab_NoneHeld_NoRows, tab_NoneHeld_NoColumn, tab_NoneHeld_NoneHeld, tab_NoneHeld_NoWeights, tab_NoneHeld_NoTree, tab_NoneHeld_NoStep, tab_NoneHeld_NoSeat, tab_NoneHeld_NoTable, tab_NoneHeld_NoQuery, tab_NoneHeld_TooMany, tab_NoneHeld_NoCount, tab_NoneHeld_NotOrdered, List.map_nil, List.map_cons, Nat.reduceSub, Nat.reduceAdd, Nat.reduceLT, Nat.reduceLeDiff, reduceIte, String.reduceBEq, String.reduceEq, Int.reduceLT, Int.reduceLE, Int.reduceEq, Int.reduceToNat, ↓lcK_nil, ↓lcK_cons, ↓scK_nil, ↓scK_cons, ↓loopK_nil, ↓loopK_e, zipD_cons, zipD_nil, zipD_nilr, enumD_z, enumZ_nil, enumZ_cons, Int.reduceAdd, bools_nil, bools_cons, nums_nil, nums_cons, List.all_cons, List.all_nil, List.any_cons, List.any_nil, id, Bool.and_true, Bool.and_false, Bool.true_and, Bool.false_and])
theorem wp_law_names (ds : List D) (om : Om) (k : RV → Om → Prop) (xk : Exn → Om → Prop) (h : df_law_names ds om k xk) : w_law_names (endOf k xk) (startE 5 ds) om := by
  obtain ⟨c, rfl, hc, h⟩ := h
  unfold w_law_names endOf
  subst hc
  fail "gu"
end
theorem ok_law_names {P : Program} {w : World} {K : PySem.W.Frag} {mg : Str → Option Value} {base : Heap} {f : Addr} {fd : FuncData} (F : FunD K "_law_names" "_law_names" (defArgs s_law_names) (defBody s_law_names) (defScope s_law_names) [] [] f fd) (T : Txt K mg) : FnOk P w K mg base (L2.CX P w) 1 f fd ["_law_error"] (toSp K c_law_names) :=
  (fn_ok (c := c_law_names) F sc_law_names rfl (fun cdv A outer s H E hr => d_law_names T cdv A outer s H E hr) wp_law_names)
def df_Heap_put : DF := fun ds om k xk => ∃ (a : Addr), ∃ (b : Addr), ∃ (c : Int), ∃ (hp : List (List Int)), ∃ (row : List Int), ds = [.h a, rowD row] ∧ (om a = some (HpO c b)) ∧ (om b = some (.lst (rowsD hp))) ∧ (IsHp c.toNat hp) ∧ (0 ≤ c) ∧ (c < row.length) ∧ (∀ r ∈ hp, c < r.length) ∧ (hp.length ≤ 10000) ∧ (∀ hp' : List (List Int), IsHp c.toNat hp' → hp'.Perm (row :: hp) → k (.v .non) (oset om b (.lst (rowsD hp'))))
theorem call_Heap_put {om : Om} {k : RV → Om → Prop} {xk : Exn → Om → Prop} {a : Addr} {b : Addr} {c : Int} {hp : List (List Int)} {row : List Int} (ha : om a = some (HpO c b)) (hb : om b = some (.lst (rowsD hp))) (hh : IsHp c.toNat hp) (c0 : 0 ≤ c) (c1 : c < row.length) (hw : ∀ r ∈ hp, c < r.length) (hl : hp.length ≤ 10000) (h : ∀ hp' : List (List Int), IsHp c.toNat hp' → hp'.Perm (row :: hp) → k (.v .non) (oset om b (.lst (rowsD hp')))) : df_Heap_put [.h a, rowD row] om k xk := ⟨a, b, c, hp, row, rfl, ha, hb, hh, c0, c1, hw, hl, h⟩
def c_Heap_put : Con := ⟨2, df_Heap_put, by intro ds om k xk h; obtain ⟨a, b, c, hp, row, rfl, _, _, _, _, _, _, _, _⟩ := h; rfl, by intro ds om k k' xk xk' hk hx h; obtain ⟨a, b, c, hp, row, e_, ha, hb, hh, c0, c1, hw, hl, h⟩ := h; refine ⟨a, b, c, hp, row, e_, ha, hb, hh, c0, c1, hw, hl, ?_⟩; first | exact hk _ _ h | exact hx _ _ h | exact fun hq => hk _ _ (h hq) | (intros; apply hk; apply h <;> assumption) | (simp only [cnd] at h ⊢; grind) | grind⟩
theorem callK_Heap_put {om : Om} {k : RV → Om → Prop} {xk : Exn → Om → Prop} {a : Addr} {b : Addr} {c : Int} {hp : List (List Int)} {row : List Int} {t : Tg (df_Heap_put, k, xk)} (ha : om a = some (HpO c b)) (hb : om b = some (.lst (rowsD hp))) (hh : IsHp c.toNat hp) (c0 : 0 ≤ c) (c1 : c < row.length) (hw : ∀ r ∈ hp, c < r.length) (hl : hp.length ≤ 10000) (h : ∀ hp' : List (List Int), IsHp c.toNat hp' → hp'.Perm (row :: hp) → k (.v .non) (oset om b (.lst (rowsD hp')))) : callK df_Heap_put [.h a, rowD row] om k xk t := call_Heap_put ha hb hh c0 c1 hw hl h
def w_Heap_put : WS :=
  (wSeq (wDrop (wMutR (wFld "Heap" "heaped" (wBor 0)) mApp (wCons (wVar 1) wNil))) (wSeq (wAsg (wFz (wOp pSub (wCB pLen (wCons (wFld "Heap" "heaped" (wBor 0)) wNil)) (wC (.int 1)))) (gN 2)) (wWhile (wAnd (wTst (wOp pGtA (wBor 2) (wC (.int 0)))) (wTru (wCall df_less [] (wCons (wOp pIx (wFld "Heap" "heaped" (wBor 0)) (wBor 2)) (wCons (wOp pIx (wFld "Heap" "heaped" (wBor 0)) (wOp pDiv (wOp pSub (wBor 2) (wC (.int 1))) (wC (.int 2)))) (wCons (wFld "Heap" "column" (wBor 0)) wNil)))))) (wSeq (wAsg (wFz (wOp pDiv (wOp pSub (wBor 2) (wC (.int 1))) (wC (.int 2)))) (gN 3)) (wSeq (wSt2 (wTup (wCons (wOp pIx (wFld "Heap" "heaped" (wBor 0)) (wBor 3)) (wCons (wOp pIx (wFld "Heap" "heaped" (wBor 0)) (wBor 2)) wNil))) (wFld "Heap" "heaped" (wBor 0)) (wBor 2) (wFld "Heap" "heaped" (wBor 0)) (wBor 3)) (wAsg (wVar 3) (gN 2)))))))
theorem d_Heap_put {P : Program} {w : World} {K : PySem.W.Frag} {mg : Str → Option Value} {base : Heap} {f : Addr} (T : Txt K mg) (D_less : Def P w K mg base "less" c_less 1) (cdv : Value) (A : Around) (outer : List PySem.Env) (s : Shared) (H : Hp) (E : XK) (hr : Room 1 (A.deeper (PyProof.Rows.envOfC "Heap.put" (defScope s_Heap_put) s.heap.objs.size f cdv))) :
    ∃ t, DSs (cxOf (L2.CX P w) P w K mg base ["self", "row", "at", "above"] "Heap.put" (defScope s_Heap_put) f cdv A outer s H E) (fun cls d _ H => E cls d H) (defBody s_Heap_put) t w_Heap_put :=
  ⟨_, (dss_cons (ds_drop (de_appR (de_fld T.cf_Heap (nf_Heap_heaped) (de_bor 0) (K' := K)) (de_var 1) (K' := K))) (dss_cons (ds_set 2 sc_Heap_put.nd (de_fz (de_op o_sub (de_cb n_len T.n_len (by decide +kernel) (da_cons (de_fld T.cf_Heap (nf_Heap_heaped) (de_bor 0) (K' := K)) da_nil)) de_int))) (dss_one (ds_while (passes_of rfl) (DW.dt (dw_and (dt_cmp (o_gtA hr) (de_bor 2) de_int) (dw_and1 (dt_tru (de_call (c := c_less) D_less (hr.mono (by decide)) (takes_of rfl rfl rfl rfl) (da_cons (de_ix (de_fld T.cf_Heap (nf_Heap_heaped) (de_bor 0) (K' := K)) (de_bor 2)) (da_cons (de_ix (de_fld T.cf_Heap (nf_Heap_heaped) (de_bor 0) (K' := K)) (de_op o_div (de_op o_sub (de_bor 2) de_int) de_int)) (da_cons (de_fld T.cf_Heap (nf_Heap_column) (de_bor 0) (K' := K)) da_nil)))))))) (dss_cons (ds_set 3 sc_Heap_put.nd (de_fz (de_op o_div (de_op o_sub (de_bor 2) de_int) de_int))) (dss_cons (ds_st2 (de_tup (da_cons (de_ix (de_fld T.cf_Heap (nf_Heap_heaped) (de_bor 0) (K' := K)) (de_bor 3)) (da_cons (de_ix (de_fld T.cf_Heap (nf_Heap_heaped) (de_bor 0) (K' := K)) (de_bor 2)) da_nil))) (de_fld T.cf_Heap (nf_Heap_heaped) (de_bor 0) (K' := K)) (de_bor 2) (de_fld T.cf_Heap (nf_Heap_heaped) (de_bor 0) (K' := K)) (de_bor 3) (K' := K)) (dss_one (ds_set 2 sc_Heap_put.nd (de_var 3)))))))))⟩
local macro_rules | `(tactic| fail "ca") => `(tactic| (with_reducible refine ca_guard ?_; first | with_reducible refine callK_less ?_ ?_ ?_ ?_ | with_reducible refine callK_Heap_len (by with_reducible assumption) (by with_reducible assumption) ?_ | with_reducible refine callK_Heap_first (by with_reducible assumption) (by with_reducible assumption) ?_ | with_reducible refine callK_Heap_told (by with_reducible assumption) (by with_reducible assumption) ?_ | with_reducible refine callK_law_state ?_ | with_reducible refine callK_law_next (by with_reducible assumption) ?_ ?_ ?_ | with_reducible refine callK_law_less ?_ ?_ ?_ ?_ | with_reducible refine callK_law_names ?_ ?_ | with_reducible refine callK_Heap_put (by with_reducible assumption) (by with_reducible assumption) ?_ ?_ ?_ ?_ ?_ ?_))

section
local macro_rules | `(tactic| fail "d1") => `(tactic| simp -dsimp only [↓u_0, ↓u_17, ↓u_18, ↓u_21, ↓u_25, ↓u_26, ↓u_28, ↓u_29, ↓u_31, ↓u_32, ↓u_43, ↓u_45, ↓u_46, ↓u_47, ↓u_48, ↓u_49, ↓u_70, ↓u_77, u_82, u_83, u_91, u_92, u_93, u_98, u_99, u_100, u_101, u_102, u_105, u_106, u_111, u_114, ↓u_135, ↓u_142, u_160, ↓u_164, ↓u_165, ↓u_166, ↓u_173, u_195, u_197, u_199, u_200, u_201, u_202, u_206, u_207, u_208, u_209, u_210, u_211, u_212, u_213, u_214, u_216, u_217, u_219, u_220, u_223, ↓u_301, u_329, u_349, ↓u_396, ↓u_397, ↓u_398, u_421, ↓u_478, ↓u_479, ↓u_480, u_481, u_482, u_489, ↓u_492, u_493, ↓u_518, ↓u_519, ↓u_522, ↓u_525, ↓u_527, ↓u_533, u_543, sbe_heaped_column, sbe_column_heaped, List.length_append, List.map_nil, List.map_append, List.map_cons, Nat.reduceSub, Nat.reduceAdd, Nat.reduceLT, Nat.reduceLeDiff, reduceIte, String.reduceBEq, String.reduceEq, Int.reduceLT, Int.reduceLE, Int.reduceEq, Int.reduceToNat])
local macro_rules | `(tactic| fail "dl") => `(tactic| try fail "d1")
theorem wp_Heap_put (ds : List D) (om : Om) (k : RV → Om → Prop) (xk : Exn → Om → Prop) (h : df_Heap_put ds om k xk) : w_Heap_put (endOf k xk) (startE 4 ds) om := by
  obtain ⟨a, b, c, hp, row, rfl, ha, hb, hh, c0, c1, hw, hl, h⟩ := h
  unfold w_Heap_put endOf
  have hab : a ≠ b := fun e => by rw [e, hb] at ha; cases ha
  have hx : ∀ x, (oset om b x) a = some (HpO c b) := fun x => by rw [oset_ne hab]; exact ha
  have hd : ∀ l, deref (oset om b (.lst l)) (.h b) = .lst l := fun l => deref_h oset_same
  (repeat' (first | (with_reducible assumption) | (with_reducible intro _) | (with_reducible apply And.intro) | fail "ca" | simp -dsimp only [↓u_0, ↓u_17, ↓u_18, ↓u_21, ↓u_25, ↓u_26, ↓u_28, ↓u_29, ↓u_31, ↓u_32, ↓u_43, ↓u_45, ↓u_46, ↓u_47, ↓u_48, ↓u_49, ↓u_70, ↓u_77, u_82, u_83, u_91, u_92, u_93, u_98, u_99, u_100, u_101, u_102, u_105, u_106, u_111, u_114, ↓u_135, ↓u_142, u_160, ↓u_164, ↓u_165, ↓u_166, ↓u_173, u_195, u_197, u_199, u_200, u_201, u_202, u_206, u_207, u_208, u_209, u_210, u_211, u_212, u_213, u_214, u_216, u_217, u_219, u_220, u_223, ↓u_301, u_329, u_349, ↓u_396, ↓u_397, ↓u_398, u_421, ↓u_478, ↓u_479, ↓u_480, u_481, u_482, u_489, ↓u_492, u_493, ↓u_518, ↓u_519, ↓u_522, ↓u_525, ↓u_527, ↓u_533, u_543, sbe_heaped_column, sbe_column_heaped, List.length_append, List.map_nil, List.map_append, List.map_cons, Nat.reduceSub, Nat.reduceAdd, Nat.reduceLT, Nat.reduceLeDiff, reduceIte, String.reduceBEq, String.reduceEq, Int.reduceLT, Int.reduceLE, Int.reduceEq, Int.reduceToNat, ha, hb, hx, hd] | fail "ix" | (with_reducible refine rdDh_of (by with_reducible assumption) ?_) | (with_reducible refine cnd_T (by with_reducible assumption) ?_) | (with_reducible refine cnd_F (by with_reducible assumption) ?_) | (with_reducible refine cnd_yes (by omega) ?_) | (with_reducible refine cnd_no (by omega) ?_) | (with_reducible refine cnd_dec ?_ ?_) | (with_reducible refine cnd_of ?_ ?_) | fail "si" | fail))
  have eR : rowsD hp ++ [rowD row] = rowsD (hp ++ [row]) := by simp [rowsD]
  rw [eR]
  have pc : (hp ++ [row]).Perm (row :: hp) := List.perm_append_singleton _ _
  refine while_inv (fun M r om' => ∃ (i : Nat) (hq : List (List Int)) (x3 : Option RV), M = i ∧ i < hq.length ∧ UpHp c.toNat hq i ∧ hq.Perm (row :: hp) ∧ om' = oset om b (.lst (rowsD hq)) ∧ r = [some (.v (.h a)), some (.v (rowD row)), some (.v (.int i)), x3]) ⟨hp.length, hp ++ [row], none, rfl, by simp, up_new hh, pc, rfl, ?_⟩ ?_
  · rw [show (((hp.length + 1 : Nat) : Int) - 1) = (hp.length : Int) by omega]
  rintro M r om' ⟨i, hq, x3, hM, hi, hup, hpm, rfl, rfl⟩
  subst hM
  have lq : (rowsD hq).length = hq.length := len_rows hq
  have hwq : ∀ r ∈ hq, c < r.length := fun r mr => by
    rcases List.mem_cons.mp (hpm.mem_iff.mp mr) with rfl | m
    · exact c1
    · exact hw r m
  have hw1 := hwq _ (getD_mem (rs := hq) (c := (M : Int)) (by omega) (by omega))
  have hd2 := hd (rowsD hq)
  (repeat' (first | (with_reducible assumption) | (with_reducible intro _) | (with_reducible apply And.intro) | fail "ca" | simp -dsimp only [↓u_0, ↓u_17, ↓u_18, ↓u_21, ↓u_25, ↓u_26, ↓u_28, ↓u_29, ↓u_31, ↓u_32, ↓u_43, ↓u_45, ↓u_46, ↓u_47, ↓u_48, ↓u_49, ↓u_70, ↓u_77, u_82, u_83, u_91, u_92, u_93, u_98, u_99, u_100, u_101, u_102, u_105, u_106, u_111, u_114, ↓u_135, ↓u_142, u_160, ↓u_164, ↓u_165, ↓u_166, ↓u_173, u_195, u_197, u_199, u_200, u_201, u_202, u_206, u_207, u_208, u_209, u_210, u_211, u_212, u_213, u_214, u_216, u_217, u_219, u_220, u_223, ↓u_301, u_329, u_349, ↓u_396, ↓u_397, ↓u_398, u_421, ↓u_478, ↓u_479, ↓u_480, u_481, u_482, u_489, ↓u_492, u_493, ↓u_518, ↓u_519, ↓u_522, ↓u_525, ↓u_527, ↓u_533, u_543, sbe_heaped_column, sbe_column_heaped, List.length_append, List.map_nil, List.map_append, List.map_cons, Nat.reduceSub, Nat.reduceAdd, Nat.reduceLT, Nat.reduceLeDiff, reduceIte, String.reduceBEq, String.reduceEq, Int.reduceLT, Int.reduceLE, Int.reduceEq, Int.reduceToNat, hx, hd2] | fail "ix" | (with_reducible refine rdDh_of (by with_reducible assumption) ?_) | (with_reducible refine cnd_T (by with_reducible assumption) ?_) | (with_reducible refine cnd_F (by with_reducible assumption) ?_) | (with_reducible refine cnd_yes (by omega) ?_) | (with_reducible refine cnd_no (by omega) ?_) | (with_reducible refine cnd_dec ?_ ?_) | (with_reducible refine cnd_of ?_ ?_) | fail "si" | fail))
  · exact hwq _ (getD_mem (by omega) (by omega))
  · rename_i h1 h2
    have e1 : (((M : Int) - 1) / 2).toNat = (M - 1) / 2 := by omega
    have e2 : ((M : Int)).toNat = M := by omega
    rw [e1, e2] at h2 ⊢
    rw [set_D, set_D]
    refine ⟨(M - 1) / 2, by omega, (M - 1) / 2, swp hq M ((M - 1) / 2), some (.v (.int (((M - 1) / 2 : Nat) : Int))), rfl, by rw [swp_len]; omega, up_step hup hi (by omega) h2, (swp_perm hi (by omega)).trans hpm, rfl, ?_⟩
    rw [show ((M : Int) - 1) / 2 = (((M - 1) / 2 : Nat) : Int) by omega]
  · rename_i h1 h2
    have e1 : (((M : Int) - 1) / 2).toNat = (M - 1) / 2 := by omega
    have e2 : ((M : Int)).toNat = M := by omega
    rw [e1, e2] at h2
    exact h hq (up_done hup (.inr h2)) hpm
  · exact h hq (up_done hup (.inl (by omega))) hpm
end
theorem ok_Heap_put {P : Program} {w : World} {K : PySem.W.Frag} {mg : Str → Option Value} {base : Heap} {f : Addr} {fd : FuncData} (F : FunD K "put" "Heap.put" (defArgs s_Heap_put) (defBody s_Heap_put) (defScope s_Heap_put) [] [] f fd) (T : Txt K mg) (D_less : Def P w K mg base "less" c_less 1) : FnOk P w K mg base (L2.CX P w) 2 f fd ["self", "row"] (toSp K c_Heap_put) :=
  (fn_ok (c := c_Heap_put) F sc_Heap_put rfl (fun cdv A outer s H E hr => d_Heap_put T D_less cdv A outer s H E hr) wp_Heap_put)
def df_Heap_sink : DF := fun ds om k xk => ∃ (a : Addr), ∃ (b : Addr), ∃ (c : Int), ∃ (hp : List (List Int)), ds = [.h a, .int 0] ∧ (om a = some (HpO c b)) ∧ (om b = some (.lst (rowsD hp))) ∧ (DnHp c.toNat hp 0) ∧ (0 ≤ c) ∧ (∀ r ∈ hp, c < r.length) ∧ (hp.length ≤ 10000) ∧ (∀ hp' : List (List Int), IsHp c.toNat hp' → hp'.Perm hp → k (.v .non) (oset om b (.lst (rowsD hp'))))
theorem call_Heap_sink {om : Om} {k : RV → Om → Prop} {xk : Exn → Om → Prop} {a : Addr} {b : Addr} {c : Int} {hp : List (List Int)} (ha : om a = some (HpO c b)) (hb : om b = some (.lst (rowsD hp))) (hh : DnHp c.toNat hp 0) (c0 : 0 ≤ c) (hw : ∀ r ∈ hp, c < r.length) (hl : hp.length ≤ 10000) (h : ∀ hp' : List (List Int), IsHp c.toNat hp' → hp'.Perm hp → k (.v .non) (oset om b (.lst (rowsD hp')))) : df_Heap_sink [.h a, .int 0] om k xk := ⟨a, b, c, hp, rfl, ha, hb, hh, c0, hw, hl, h⟩
def c_Heap_sink : Con := ⟨2, df_Heap_sink, by intro ds om k xk h; obtain ⟨a, b, c, hp, rfl, _, _, _, _, _, _, _⟩ := h; rfl, by intro ds om k k' xk xk' hk hx h; obtain ⟨a, b, c, hp, e_, ha, hb, hh, c0, hw, hl, h⟩ := h; refine ⟨a, b, c, hp, e_, ha, hb, hh, c0, hw, hl, ?_⟩; first | exact hk _ _ h | exact hx _ _ h | exact fun hq => hk _ _ (h hq) | (intros; apply hk; apply h <;> assumption) | (simp only [cnd] at h ⊢; grind) | grind⟩
theorem callK_Heap_sink {om : Om} {k : RV → Om → Prop} {xk : Exn → Om → Prop} {a : Addr} {b : Addr} {c : Int} {hp : List (List Int)} {t : Tg (df_Heap_sink, k, xk)} (ha : om a = some (HpO c b)) (hb : om b = some (.lst (rowsD hp))) (hh : DnHp c.toNat hp 0) (c0 : 0 ≤ c) (hw : ∀ r ∈ hp, c < r.length) (hl : hp.length ≤ 10000) (h : ∀ hp' : List (List Int), IsHp c.toNat hp' → hp'.Perm hp → k (.v .non) (oset om b (.lst (rowsD hp')))) : callK df_Heap_sink [.h a, .int 0] om k xk t := call_Heap_sink ha hb hh c0 hw hl h
def w_Heap_sink : WS :=
  (wWhile (wTst (wOp pLtA (wOp pAdd (wOp pMul (wC (.int 2)) (wBor 1)) (wC (.int 1))) (wCB pLen (wCons (wFld "Heap" "heaped" (wBor 0)) wNil)))) (wSeq (wAsg (wOp pAdd (wOp pMul (wC (.int 2)) (wBor 1)) (wC (.int 1))) (gN 2)) (wSeq (wIfS (wAnd (wTst (wOp pLtA (wOp pAdd (wBor 2) (wC (.int 1))) (wCB pLen (wCons (wFld "Heap" "heaped" (wBor 0)) wNil)))) (wTru (wCall df_less [] (wCons (wOp pIx (wFld "Heap" "heaped" (wBor 0)) (wOp pAdd (wBor 2) (wC (.int 1)))) (wCons (wOp pIx (wFld "Heap" "heaped" (wBor 0)) (wBor 2)) (wCons (wFld "Heap" "column" (wBor 0)) wNil)))))) (wAug 2 pAddI (wC (.int 1))) wNext) (wSeq (wIfS (wNot (wTru (wCall df_less [] (wCons (wOp pIx (wFld "Heap" "heaped" (wBor 0)) (wBor 2)) (wCons (wOp pIx (wFld "Heap" "heaped" (wBor 0)) (wBor 1)) (wCons (wFld "Heap" "column" (wBor 0)) wNil)))))) wBrk wNext) (wSeq (wSt2 (wTup (wCons (wOp pIx (wFld "Heap" "heaped" (wBor 0)) (wBor 2)) (wCons (wOp pIx (wFld "Heap" "heaped" (wBor 0)) (wBor 1)) wNil))) (wFld "Heap" "heaped" (wBor 0)) (wBor 1) (wFld "Heap" "heaped" (wBor 0)) (wBor 2)) (wAsg (wVar 2) (gN 1)))))))
theorem d_Heap_sink {P : Program} {w : World} {K : PySem.W.Frag} {mg : Str → Option Value} {base : Heap} {f : Addr} (T : Txt K mg) (D_less : Def P w K mg base "less" c_less 1) (cdv : Value) (A : Around) (outer : List PySem.Env) (s : Shared) (H : Hp) (E : XK) (hr : Room 1 (A.deeper (PyProof.Rows.envOfC "Heap.sink" (defScope s_Heap_sink) s.heap.objs.size f cdv))) :
    ∃ t, DSs (cxOf (L2.CX P w) P w K mg base ["self", "at", "below"] "Heap.sink" (defScope s_Heap_sink) f cdv A outer s H E) (fun cls d _ H => E cls d H) (defBody s_Heap_sink) t w_Heap_sink :=
  ⟨_, (dss_one (ds_while (passes_of rfl) (dt_cmp (o_ltA hr) (de_op o_add (de_op o_mul de_int (de_bor 1)) de_int) (de_cb n_len T.n_len (by decide +kernel) (da_cons (de_fld T.cf_Heap (nf_Heap_heaped) (de_bor 0) (K' := K)) da_nil))) (dss_cons (ds_set 2 sc_Heap_sink.nd (de_op o_add (de_op o_mul de_int (de_bor 1)) de_int)) (dss_cons (ds_if (DW.dt (dw_and (dt_cmp (o_ltA hr) (de_op o_add (de_bor 2) de_int) (de_cb n_len T.n_len (by decide +kernel) (da_cons (de_fld T.cf_Heap (nf_Heap_heaped) (de_bor 0) (K' := K)) da_nil))) (dw_and1 (dt_tru (de_call (c := c_less) D_less (hr.mono (by decide)) (takes_of rfl rfl rfl rfl) (da_cons (de_ix (de_fld T.cf_Heap (nf_Heap_heaped) (de_bor 0) (K' := K)) (de_op o_add (de_bor 2) de_int)) (da_cons (de_ix (de_fld T.cf_Heap (nf_Heap_heaped) (de_bor 0) (K' := K)) (de_bor 2)) (da_cons (de_fld T.cf_Heap (nf_Heap_column) (de_bor 0) (K' := K)) da_nil)))))))) (dss_one (ds_aug 2 sc_Heap_sink.nd io_add de_int)) dss_nil) (dss_cons (ds_if (dt_not (dt_tru (de_call (c := c_less) D_less (hr.mono (by decide)) (takes_of rfl rfl rfl rfl) (da_cons (de_ix (de_fld T.cf_Heap (nf_Heap_heaped) (de_bor 0) (K' := K)) (de_bor 2)) (da_cons (de_ix (de_fld T.cf_Heap (nf_Heap_heaped) (de_bor 0) (K' := K)) (de_bor 1)) (da_cons (de_fld T.cf_Heap (nf_Heap_column) (de_bor 0) (K' := K)) da_nil)))))) (dss_one ds_brk) dss_nil) (dss_cons (ds_st2 (de_tup (da_cons (de_ix (de_fld T.cf_Heap (nf_Heap_heaped) (de_bor 0) (K' := K)) (de_bor 2)) (da_cons (de_ix (de_fld T.cf_Heap (nf_Heap_heaped) (de_bor 0) (K' := K)) (de_bor 1)) da_nil))) (de_fld T.cf_Heap (nf_Heap_heaped) (de_bor 0) (K' := K)) (de_bor 1) (de_fld T.cf_Heap (nf_Heap_heaped) (de_bor 0) (K' := K)) (de_bor 2) (K' := K)) (dss_one (ds_set 1 sc_Heap_sink.nd (de_var 2)))))))))⟩
local macro_rules | `(tactic| fail "ca") => `(tactic| (with_reducible refine ca_guard ?_; first | with_reducible refine callK_less ?_ ?_ ?_ ?_ | with_reducible refine callK_Heap_len (by with_reducible assumption) (by with_reducible assumption) ?_ | with_reducible refine callK_Heap_first (by with_reducible assumption) (by with_reducible assumption) ?_ | with_reducible refine callK_Heap_told (by with_reducible assumption) (by with_reducible assumption) ?_ | with_reducible refine callK_law_state ?_ | with_reducible refine callK_law_next (by with_reducible assumption) ?_ ?_ ?_ | with_reducible refine callK_law_less ?_ ?_ ?_ ?_ | with_reducible refine callK_law_names ?_ ?_ | with_reducible refine callK_Heap_put (by with_reducible assumption) (by with_reducible assumption) ?_ ?_ ?_ ?_ ?_ ?_ | with_reducible refine callK_Heap_sink (by with_reducible assumption) (by with_reducible assumption) ?_ ?_ ?_ ?_ ?_))

section
local macro_rules | `(tactic| fail "d1") => `(tactic| simp -dsimp only [↓u_0, ↓u_16, ↓u_17, ↓u_18, ↓u_22, ↓u_23, ↓u_25, ↓u_26, ↓u_28, ↓u_29, ↓u_31, ↓u_32, ↓u_43, ↓u_45, ↓u_46, ↓u_47, ↓u_48, ↓u_49, ↓u_51, ↓u_72, u_82, u_83, u_91, u_92, u_93, u_95, u_98, u_99, u_100, u_101, u_102, u_105, u_106, u_111, u_114, ↓u_135, ↓u_142, u_160, ↓u_164, ↓u_170, ↓u_172, ↓u_184, ↓u_188, u_195, u_197, u_199, u_200, u_201, u_202, u_206, u_207, u_208, u_209, u_210, u_211, u_212, u_213, u_214, u_216, u_217, u_219, u_220, u_223, u_229, u_329, u_349, u_356, u_421, ↓u_478, ↓u_479, ↓u_480, u_481, u_482, u_489, ↓u_492, u_493, ↓u_518, ↓u_519, ↓u_522, ↓u_524, ↓u_525, ↓u_527, ↓u_533, u_543, sbe_heaped_column, sbe_column_heaped, List.map_nil, List.map_cons, Nat.reduceSub, Nat.reduceAdd, Nat.reduceLT, Nat.reduceLeDiff, reduceIte, String.reduceBEq, String.reduceEq, Int.reduceLT, Int.reduceLE, Int.reduceEq, Int.reduceToNat])
local macro_rules | `(tactic| fail "dl") => `(tactic| try fail "d1")
theorem wp_Heap_sink (ds : List D) (om : Om) (k : RV → Om → Prop) (xk : Exn → Om → Prop) (h : df_Heap_sink ds om k xk) : w_Heap_sink (endOf k xk) (startE 3 ds) om := by
  obtain ⟨a, b, c, hp, rfl, ha, hb, hh, c0, hw, hl, h⟩ := h
  unfold w_Heap_sink endOf
  have hab : a ≠ b := fun e => by rw [e, hb] at ha; cases ha
  have hx : ∀ x, (oset om b x) a = some (HpO c b) := fun x => by rw [oset_ne hab]; exact ha
  have hd : ∀ l, deref (oset om b (.lst l)) (.h b) = .lst l := fun l => deref_h oset_same
  have ho : om = oset om b (.lst (rowsD hp)) := (oset_id hb).symm
  (repeat' (first | (with_reducible assumption) | (with_reducible intro _) | (with_reducible apply And.intro) | fail "ca" | simp -dsimp only [↓u_0, ↓u_16, ↓u_17, ↓u_18, ↓u_22, ↓u_23, ↓u_25, ↓u_26, ↓u_28, ↓u_29, ↓u_31, ↓u_32, ↓u_43, ↓u_45, ↓u_46, ↓u_47, ↓u_48, ↓u_49, ↓u_51, ↓u_72, u_82, u_83, u_91, u_92, u_93, u_95, u_98, u_99, u_100, u_101, u_102, u_105, u_106, u_111, u_114, ↓u_135, ↓u_142, u_160, ↓u_164, ↓u_170, ↓u_172, ↓u_184, ↓u_188, u_195, u_197, u_199, u_200, u_201, u_202, u_206, u_207, u_208, u_209, u_210, u_211, u_212, u_213, u_214, u_216, u_217, u_219, u_220, u_223, u_229, u_329, u_349, u_356, u_421, ↓u_478, ↓u_479, ↓u_480, u_481, u_482, u_489, ↓u_492, u_493, ↓u_518, ↓u_519, ↓u_522, ↓u_524, ↓u_525, ↓u_527, ↓u_533, u_543, sbe_heaped_column, sbe_column_heaped, List.map_nil, List.map_cons, Nat.reduceSub, Nat.reduceAdd, Nat.reduceLT, Nat.reduceLeDiff, reduceIte, String.reduceBEq, String.reduceEq, Int.reduceLT, Int.reduceLE, Int.reduceEq, Int.reduceToNat, ha] | fail "ix" | (with_reducible refine rdDh_of (by with_reducible assumption) ?_) | (with_reducible refine cnd_T (by with_reducible assumption) ?_) | (with_reducible refine cnd_F (by with_reducible assumption) ?_) | (with_reducible refine cnd_yes (by omega) ?_) | (with_reducible refine cnd_no (by omega) ?_) | (with_reducible refine cnd_dec ?_ ?_) | (with_reducible refine cnd_of ?_ ?_) | fail "si" | fail))
  refine while_inv (fun M r om' => ∃ (i : Nat) (hq : List (List Int)) (x2 : Option RV), M = hq.length - i ∧ DnHp c.toNat hq i ∧ hq.Perm hp ∧ om' = oset om b (.lst (rowsD hq)) ∧ r = [some (.v (.h a)), some (.v (.int i)), x2]) ⟨0, hp, none, rfl, hh, List.Perm.refl _, ho, rfl⟩ ?_
  rintro M r om' ⟨i, hq, x2, rfl, hdn, hpm, rfl, rfl⟩
  have lq : (rowsD hq).length = hq.length := len_rows hq
  have hwq : ∀ r ∈ hq, c < r.length := fun r mr => hw r (hpm.mem_iff.mp mr)
  have hd2 := hd (rowsD hq)
  have chd : ∀ j, 0 < j → (j - 1) / 2 = i → j = 2 * i + 1 ∨ j = 2 * i + 2 := fun j h1 h2 => by omega
  have ei : ((i : Int)).toNat = i := by omega
  have e1 : (2 * (i : Int) + 1).toNat = 2 * i + 1 := by omega
  have e2 : (2 * (i : Int) + 1 + 1).toNat = 2 * i + 2 := by omega
  have fin : ∀ (j : Nat) (z w : Int), z = j → w = i → j < hq.length → 0 < j → (j - 1) / 2 = i → lessR c.toNat (gr hq j) (gr hq i) = true → (∀ z, 0 < z → z < hq.length → (z - 1) / 2 = i → leR c.toNat (gr hq j) (gr hq z)) → ∃ m', m' < hq.length - i ∧ ∃ (i : Nat) (hq' : List (List Int)) (x2 : Option RV), m' = hq'.length - i ∧ DnHp c.toNat hq' i ∧ hq'.Perm hp ∧
      oset om b (.lst (((rowsD hq).set w.toNat (rowD (hq.getD z.toNat []))).set z.toNat (rowD (hq.getD w.toNat [])))) = oset om b (.lst (rowsD hq')) ∧ [some (RV.v (.h a)), some (.v (.int z)), some (.v (.int z))] = [some (RV.v (.h a)), some (.v (.int i)), x2] := by
    rintro j z w rfl rfl hj j0 ji hle hmin
    rw [Int.toNat_natCast, Int.toNat_natCast, set_D, set_D]
    exact ⟨hq.length - j, by omega, j, swp hq i j, some (.v (.int j)), by rw [swp_len], dn_step hdn hj j0 ji hle hmin, (swp_perm (by omega) hj).trans hpm, rfl, rfl⟩
  (repeat' (first | (with_reducible assumption) | (with_reducible intro _) | (with_reducible apply And.intro) | fail "ca" | simp -dsimp only [↓u_0, ↓u_16, ↓u_17, ↓u_18, ↓u_22, ↓u_23, ↓u_25, ↓u_26, ↓u_28, ↓u_29, ↓u_31, ↓u_32, ↓u_43, ↓u_45, ↓u_46, ↓u_47, ↓u_48, ↓u_49, ↓u_51, ↓u_72, u_82, u_83, u_91, u_92, u_93, u_95, u_98, u_99, u_100, u_101, u_102, u_105, u_106, u_111, u_114, ↓u_135, ↓u_142, u_160, ↓u_164, ↓u_170, ↓u_172, ↓u_184, ↓u_188, u_195, u_197, u_199, u_200, u_201, u_202, u_206, u_207, u_208, u_209, u_210, u_211, u_212, u_213, u_214, u_216, u_217, u_219, u_220, u_223, u_229, u_329, u_349, u_356, u_421, ↓u_478, ↓u_479, ↓u_480, u_481, u_482, u_489, ↓u_492, u_493, ↓u_518, ↓u_519, ↓u_522, ↓u_524, ↓u_525, ↓u_527, ↓u_533, u_543, sbe_heaped_column, sbe_column_heaped, List.map_nil, List.map_cons, Nat.reduceSub, Nat.reduceAdd, Nat.reduceLT, Nat.reduceLeDiff, reduceIte, String.reduceBEq, String.reduceEq, Int.reduceLT, Int.reduceLE, Int.reduceEq, Int.reduceToNat, hx, hd2] | fail "ix" | (with_reducible refine rdDh_of (by with_reducible assumption) ?_) | (with_reducible refine cnd_T (by with_reducible assumption) ?_) | (with_reducible refine cnd_F (by with_reducible assumption) ?_) | (with_reducible refine cnd_yes (by omega) ?_) | (with_reducible refine cnd_no (by omega) ?_) | (with_reducible refine cnd_dec ?_ ?_) | (with_reducible refine cnd_of ?_ ?_) | fail "si" | fail))
  all_goals first | exact hwq _ (getD_mem (by omega) (by omega)) | skip
  · rename_i h1 h2 h3 h4
    rw [e1, e2] at h3
    rw [ei, e2] at h4
    exact fin (2 * i + 2) _ _ (by omega) rfl (by omega) (by omega) (by omega) h4 fun z z0 z1 z2 => by
      rcases chd z z0 z2 with rfl | rfl
      · exact leR_of_less h3
      · exact leR_refl _ _
  · rename_i h1 h2 h3 h4
    rw [e1, e2] at h3
    rw [ei, e2] at h4
    refine h hq (dn_done hdn fun z z0 z1 z2 => ?_) hpm
    rcases chd z z0 z2 with rfl | rfl
    · exact leR_trans h4 (leR_of_less h3)
    · exact h4
  · rename_i h1 h2 h3 h4
    rw [e1, e2] at h3
    rw [ei, e1] at h4
    exact fin (2 * i + 1) _ _ (by omega) rfl (by omega) (by omega) (by omega) h4 fun z z0 z1 z2 => by
      rcases chd z z0 z2 with rfl | rfl
      · exact leR_refl _ _
      · exact h3
  · rename_i h1 h2 h3 h4
    rw [e1, e2] at h3
    rw [ei, e1] at h4
    refine h hq (dn_done hdn fun z z0 z1 z2 => ?_) hpm
    rcases chd z z0 z2 with rfl | rfl
    · exact h4
    · exact leR_trans h4 h3
  · rename_i h1 h2 h4
    rw [ei, e1] at h4
    exact fin (2 * i + 1) _ _ (by omega) rfl (by omega) (by omega) (by omega) h4 fun z z0 z1 z2 => by
      rcases chd z z0 z2 with rfl | rfl
      · exact leR_refl _ _
      · omega
  · rename_i h1 h2 h4
    rw [ei, e1] at h4
    refine h hq (dn_done hdn fun z z0 z1 z2 => ?_) hpm
    rcases chd z z0 z2 with rfl | rfl
    · exact h4
    · omega
  · rename_i h1
    refine h hq (dn_done hdn fun z z0 z1 z2 => ?_) hpm
    rcases chd z z0 z2 with rfl | rfl <;> omega
end
theorem ok_Heap_sink {P : Program} {w : World} {K : PySem.W.Frag} {mg : Str → Option Value} {base : Heap} {f : Addr} {fd : FuncData} (F : FunD K "sink" "Heap.sink" (defArgs s_Heap_sink) (defBody s_Heap_sink) (defScope s_Heap_sink) [] [] f fd) (T : Txt K mg) (D_less : Def P w K mg base "less" c_less 1) : FnOk P w K mg base (L2.CX P w) 2 f fd ["self", "at"] (toSp K c_Heap_sink) :=
  (fn_ok (c := c_Heap_sink) F sc_Heap_sink rfl (fun cdv A outer s H E hr => d_Heap_sink T D_less cdv A outer s H E hr) wp_Heap_sink)
def df_law_number : DF := fun ds om k xk => ∃ (a : Addr), ∃ (w : Int), ds = [.h a, .int w] ∧ (om a = some (.lstP DeckP)) ∧ (0 ≤ w) ∧ (w < 5) ∧ (∀ z : Int, Sm z → k (.v (.int z)) om)
theorem call_law_number {om : Om} {k : RV → Om → Prop} {xk : Exn → Om → Prop} {a : Addr} {w : Int} (ha : om a = some (.lstP DeckP)) (w0 : 0 ≤ w) (w1 : w < 5) (h : ∀ z : Int, Sm z → k (.v (.int z)) om) : df_law_number [.h a, .int w] om k xk := ⟨a, w, rfl, ha, w0, w1, h⟩
def c_law_number : Con := ⟨2, df_law_number, by intro ds om k xk h; obtain ⟨a, w, rfl, _, _, _, _⟩ := h; rfl, by intro ds om k k' xk xk' hk hx h; obtain ⟨a, w, e_, ha, w0, w1, h⟩ := h; refine ⟨a, w, e_, ha, w0, w1, ?_⟩; first | exact hk _ _ h | exact hx _ _ h | exact fun hq => hk _ _ (h hq) | (intros; apply hk; apply h <;> assumption) | (simp only [cnd] at h ⊢; grind) | grind⟩
theorem callK_law_number {om : Om} {k : RV → Om → Prop} {xk : Exn → Om → Prop} {a : Addr} {w : Int} {t : Tg (df_law_number, k, xk)} (ha : om a = some (.lstP DeckP)) (w0 : 0 ≤ w) (w1 : w < 5) (h : ∀ z : Int, Sm z → k (.v (.int z)) om) : callK df_law_number [.h a, .int w] om k xk t := call_law_number ha w0 w1 h
def w_law_number : WS :=
  (wSeq (wIfS (wTst (wOp pLtA (wBor 1) (wC (.int 3)))) (wRet (wOp pSub (wCall df_law_next [] (wCons (wVar 0) (wCons (wOp pIx (wLst (wCons (wC (.int 2)) (wCons (wC (.int 5)) (wCons (wC (.int 60)) wNil)))) (wBor 1)) wNil))) (wOp pIx (wLst (wCons (wC (.int 0)) (wCons (wC (.int 2)) (wCons (wC (.int 30)) wNil)))) (wBor 1)))) wNext) (wSeq (wIfS (wTst (wOp pEq (wBor 1) (wC (.int 3)))) (wRet (wOp pIx (wLst (wCons (wOp pPow (wC (.int 10)) (wC (.int 18))) (wCons (wOp pSub (wC (.int 0)) (wOp pPow (wC (.int 10)) (wC (.int 18)))) (wCons (wC (.int 0)) (wCons (wC (.int 1)) wNil))))) (wCall df_law_next [] (wCons (wVar 0) (wCons (wC (.int 4)) wNil))))) wNext) (wSeq (wAsg (wC (.int 0)) (gN 2)) (wSeq (wFor (wiR1 (wCons (wC (.int 4)) wNil)) (gN 3) (wAsg (wFz (wOp pAdd (wOp pMul (wBor 2) (wOp pPow (wC (.int 10)) (wC (.int 5)))) (wCall df_law_next [] (wCons (wVar 0) (wCons (wOp pPow (wC (.int 10)) (wC (.int 5))) wNil))))) (gN 2))) (wRet (wOp pSub (wOp pMod (wBor 2) (wOp pAdd (wOp pMul (wC (.int 2)) (wOp pPow (wC (.int 10)) (wC (.int 18)))) (wC (.int 1)))) (wOp pPow (wC (.int 10)) (wC (.int 18)))))))))
theorem d_law_number {P : Program} {w : World} {K : PySem.W.Frag} {mg : Str → Option Value} {base : Heap} {f : Addr} (T : Txt K mg) (D_law_next : Def P w K mg base "_law_next" c_law_next 1) (cdv : Value) (A : Around) (outer : List PySem.Env) (s : Shared) (H : Hp) (E : XK) (hr : Room 1 (A.deeper (PyProof.Rows.envOfC "_law_number" (defScope s_law_number) s.heap.objs.size f cdv))) :
    ∃ t, DSs (cxOf (L2.CX P w) P w K mg base ["_law_state_here", "_law_way", "_law_far", "_law_k"] "_law_number" (defScope s_law_number) f cdv A outer s H E) (fun cls d _ H => E cls d H) (defBody s_law_number) t w_law_number :=
  ⟨_, (dss_cons (ds_if (dt_cmp (o_ltA hr) (de_bor 1) de_int) (dss_one (ds_ret (de_op o_sub (de_call (c := c_law_next) D_law_next (hr.mono (by decide)) (takes_of rfl rfl rfl rfl) (da_cons (de_var 0) (da_cons (de_ix (de_lst (da_cons de_int (da_cons de_int (da_cons de_int da_nil)))) (de_bor 1)) da_nil))) (de_ix (de_lst (da_cons de_int (da_cons de_int (da_cons de_int da_nil)))) (de_bor 1))))) dss_nil) (dss_cons (ds_if (dt_cmp (o_eq hr) (de_bor 1) de_int) (dss_one (ds_ret (de_ix (de_lst (da_cons (de_op o_pow de_int de_int) (da_cons (de_op o_sub de_int (de_op o_pow de_int de_int)) (da_cons de_int (da_cons de_int da_nil))))) (de_call (c := c_law_next) D_law_next (hr.mono (by decide)) (takes_of rfl rfl rfl rfl) (da_cons (de_var 0) (da_cons de_int da_nil)))))) dss_nil) (dss_cons (ds_set 2 sc_law_number.nd de_int) (dss_cons (ds_for (passes_of rfl) rfl (di_r1 T.n_range (da_cons de_int da_nil)) (dg_name 3 sc_law_number.nd) (dss_one (ds_set 2 sc_law_number.nd (de_fz (de_op o_add (de_op o_mul (de_bor 2) (de_op o_pow de_int de_int)) (de_call (c := c_law_next) D_law_next (hr.mono (by decide)) (takes_of rfl rfl rfl rfl) (da_cons (de_var 0) (da_cons (de_op o_pow de_int de_int) da_nil)))))))) (dss_one (ds_ret (de_op o_sub (de_op o_mod (de_bor 2) (de_op o_add (de_op o_mul de_int (de_op o_pow de_int de_int)) de_int)) (de_op o_pow de_int de_int))))))))⟩
local macro_rules | `(tactic| fail "ca") => `(tactic| (with_reducible refine ca_guard ?_; first | with_reducible refine callK_less ?_ ?_ ?_ ?_ | with_reducible refine callK_Heap_len (by with_reducible assumption) (by with_reducible assumption) ?_ | with_reducible refine callK_Heap_first (by with_reducible assumption) (by with_reducible assumption) ?_ | with_reducible refine callK_Heap_told (by with_reducible assumption) (by with_reducible assumption) ?_ | with_reducible refine callK_law_state ?_ | with_reducible refine callK_law_next (by with_reducible assumption) ?_ ?_ ?_ | with_reducible refine callK_law_less ?_ ?_ ?_ ?_ | with_reducible refine callK_law_names ?_ ?_ | with_reducible refine callK_Heap_put (by with_reducible assumption) (by with_reducible assumption) ?_ ?_ ?_ ?_ ?_ ?_ | with_reducible refine callK_Heap_sink (by with_reducible assumption) (by with_reducible assumption) ?_ ?_ ?_ ?_ ?_ | with_reducible refine callK_law_number (by with_reducible assumption) ?_ ?_ ?_))

section
local macro_rules | `(tactic| fail "d1") => `(tactic| simp -dsimp only [↓u_0, ↓u_16, ↓u_17, ↓u_18, ↓u_19, ↓u_22, ↓u_25, ↓u_26, ↓u_28, ↓u_29, ↓u_32, ↓u_44, ↓u_45, ↓u_46, ↓u_47, ↓u_57, ↓u_58, u_82, u_83, u_93, u_94, u_98, u_99, u_100, u_101, u_102, u_105, u_112, ↓u_142, ↓u_145, ↓u_146, ↓u_147, u_160, ↓u_164, ↓u_165, ↓u_167, ↓u_168, ↓u_172, ↓u_184, ↓u_188, ↓u_191, u_195, u_197, u_199, u_200, u_201, u_202, u_206, u_207, u_209, u_210, u_211, u_212, u_213, u_214, u_216, u_217, u_234, u_235, ↓u_301, u_329, ↓u_518, ↓u_519, ↓u_521, ↓u_522, ↓u_525, ↓u_527, List.map_nil, List.map_cons, Nat.reduceSub, Nat.reduceAdd, Nat.reduceLT, Nat.reduceLeDiff, reduceIte, String.reduceBEq, String.reduceEq, Int.reduceLT, Int.reduceLE, Int.reduceEq, Int.reduceToNat])
local macro_rules | `(tactic| fail "dl") => `(tactic| try fail "d1")
theorem wp_law_number (ds : List D) (om : Om) (k : RV → Om → Prop) (xk : Exn → Om → Prop) (h : df_law_number ds om k xk) : w_law_number (endOf k xk) (startE 4 ds) om := by
  obtain ⟨a, w, rfl, ha, w0, w1, h⟩ := h
  unfold w_law_number endOf
  have hc : w = 0 ∨ w = 1 ∨ w = 2 ∨ w = 3 ∨ w = 4 := by omega
  rcases hc with rfl | rfl | rfl | rfl | rfl
  · fail "gs"
    exact h _ ⟨by omega, by omega⟩
  · fail "gs"
    exact h _ ⟨by omega, by omega⟩
  · fail "gs"
    exact h _ ⟨by omega, by omega⟩
  · fail "gs"
    refine ixK_pick (by assumption) (by simpa using by assumption) ?_
    simp only [List.forall_mem_cons, List.not_mem_nil, false_implies, implies_true, and_true, noB_v, true_and]
    exact ⟨h _ ⟨by decide, by decide⟩, h _ ⟨by decide, by decide⟩, h _ ⟨by decide, by decide⟩, h _ ⟨by decide, by decide⟩⟩
  · fail "gs"
    refine loop_rng (fun i r om' => om' = om ∧ ∃ (f : Int) (x : Option RV), r = [some (.v (.h a)), some (.v (.int 4)), some (.v (.int f)), x]) ⟨rfl, _, _, rfl⟩ ?_ ?_
    · rintro i r om' nx hi ⟨rfl, f, x, rfl⟩ hn
      unfold stepOf
      fail "gs"
      exact hn _ _ ⟨rfl, _, _, rfl⟩
    · rintro r om' ⟨rfl, f, x, rfl⟩
      have b0 := Int.emod_nonneg f (b := 2 * 10 ^ 18 + 1) (by decide)
      have b1 := Int.emod_lt_of_pos f (b := 2 * 10 ^ 18 + 1) (by decide)
      fail "gs"
      exact h _ ⟨by omega, by omega⟩
end
theorem ok_law_number {P : Program} {w : World} {K : PySem.W.Frag} {mg : Str → Option Value} {base : Heap} {f : Addr} {fd : FuncData} (F : FunD K "_law_number" "_law_number" (defArgs s_law_number) (defBody s_law_number) (defScope s_law_number) [] [] f fd) (T : Txt K mg) (D_law_next : Def P w K mg base "_law_next" c_law_next 1) : FnOk P w K mg base (L2.CX P w) 2 f fd ["_law_state_here", "_law_way"] (toSp K c_law_number) :=
  (fn_ok (c := c_law_number) F sc_law_number rfl (fun cdv A outer s H E hr => d_law_number T D_law_next cdv A outer s H E hr) wp_law_number)
def df_law_width : DF := fun ds om k xk => ∃ (a : Addr), ds = [.h a] ∧ (om a = some (.lstP DeckP)) ∧ (∀ w : Int, 1 ≤ w → w ≤ 24 → k (.v (.int w)) om)
theorem call_law_width {om : Om} {k : RV → Om → Prop} {xk : Exn → Om → Prop} {a : Addr} (ha : om a = some (.lstP DeckP)) (h : ∀ w : Int, 1 ≤ w → w ≤ 24 → k (.v (.int w)) om) : df_law_width [.h a] om k xk := ⟨a, rfl, ha, h⟩
def c_law_width : Con := ⟨1, df_law_width, by intro ds om k xk h; obtain ⟨a, rfl, _, _⟩ := h; rfl, by intro ds om k k' xk xk' hk hx h; obtain ⟨a, e_, ha, h⟩ := h; refine ⟨a, e_, ha, ?_⟩; first | exact hk _ _ h | exact hx _ _ h | exact fun hq => hk _ _ (h hq) | (intros; apply hk; apply h <;> assumption) | (simp only [cnd] at h ⊢; grind) | grind⟩
theorem callK_law_width {om : Om} {k : RV → Om → Prop} {xk : Exn → Om → Prop} {a : Addr} {t : Tg (df_law_width, k, xk)} (ha : om a = some (.lstP DeckP)) (h : ∀ w : Int, 1 ≤ w → w ≤ 24 → k (.v (.int w)) om) : callK df_law_width [.h a] om k xk t := call_law_width ha h
def w_law_width : WS :=
  (wSeq (wIfS (wTst (wOp pEq (wCall df_law_next [] (wCons (wVar 0) (wCons (wC (.int 8)) wNil))) (wC (.int 7)))) (wRet (wC (.int 24))) wNext) (wRet (wOp pAdd (wC (.int 1)) (wCall df_law_next [] (wCons (wVar 0) (wCons (wC (.int 5)) wNil))))))
theorem d_law_width {P : Program} {w : World} {K : PySem.W.Frag} {mg : Str → Option Value} {base : Heap} {f : Addr} (T : Txt K mg) (D_law_next : Def P w K mg base "_law_next" c_law_next 1) (cdv : Value) (A : Around) (outer : List PySem.Env) (s : Shared) (H : Hp) (E : XK) (hr : Room 1 (A.deeper (PyProof.Rows.envOfC "_law_width" (defScope s_law_width) s.heap.objs.size f cdv))) :
    ∃ t, DSs (cxOf (L2.CX P w) P w K mg base ["_law_state_here"] "_law_width" (defScope s_law_width) f cdv A outer s H E) (fun cls d _ H => E cls d H) (defBody s_law_width) t w_law_width :=
  ⟨_, (dss_cons (ds_if (dt_cmp (o_eq hr) (de_call (c := c_law_next) D_law_next (hr.mono (by decide)) (takes_of rfl rfl rfl rfl) (da_cons (de_var 0) (da_cons de_int da_nil))) de_int) (dss_one (ds_ret de_int)) dss_nil) (dss_one (ds_ret (de_op o_add de_int (de_call (c := c_law_next) D_law_next (hr.mono (by decide)) (takes_of rfl rfl rfl rfl) (da_cons (de_var 0) (da_cons de_int da_nil)))))))⟩
local macro_rules | `(tactic| fail "ca") => `(tactic| (with_reducible refine ca_guard ?_; first | with_reducible refine callK_less ?_ ?_ ?_ ?_ | with_reducible refine callK_Heap_len (by with_reducible assumption) (by with_reducible assumption) ?_ | with_reducible refine callK_Heap_first (by with_reducible assumption) (by with_reducible assumption) ?_ | with_reducible refine callK_Heap_told (by with_reducible assumption) (by with_reducible assumption) ?_ | with_reducible refine callK_law_state ?_ | with_reducible refine callK_law_next (by with_reducible assumption) ?_ ?_ ?_ | with_reducible refine callK_law_less ?_ ?_ ?_ ?_ | with_reducible refine callK_law_names ?_ ?_ | with_reducible refine callK_Heap_put (by with_reducible assumption) (by with_reducible assumption) ?_ ?_ ?_ ?_ ?_ ?_ | with_reducible refine callK_Heap_sink (by with_reducible assumption) (by with_reducible assumption) ?_ ?_ ?_ ?_ ?_ | with_reducible refine callK_law_number (by with_reducible assumption) ?_ ?_ ?_ | with_reducible refine callK_law_width (by with_reducible assumption) ?_))

section
local macro_rules | `(tactic| fail "d1") => `(tactic| simp -dsimp only [↓u_0, ↓u_16, ↓u_19, ↓u_22, ↓u_25, ↓u_28, ↓u_29, ↓u_32, ↓u_45, ↓u_46, ↓u_47, u_82, u_83, u_93, u_98, u_99, u_102, u_105, u_160, ↓u_164, ↓u_184, ↓u_191, u_195, u_201, u_206, u_207, u_209, u_213, u_216, u_217, ↓u_518, ↓u_519, ↓u_527, List.map_nil, List.map_cons, Nat.reduceSub, Nat.reduceAdd, Nat.reduceLT, Nat.reduceLeDiff, reduceIte, String.reduceBEq, String.reduceEq, Int.reduceLT, Int.reduceLE, Int.reduceEq, Int.reduceToNat])
local macro_rules | `(tactic| fail "dl") => `(tactic| try fail "d1")
theorem wp_law_width (ds : List D) (om : Om) (k : RV → Om → Prop) (xk : Exn → Om → Prop) (h : df_law_width ds om k xk) : w_law_width (endOf k xk) (startE 1 ds) om := by
  obtain ⟨a, rfl, ha, h⟩ := h
  unfold w_law_width endOf
  fail "gs"
  · exact h 24 (by decide) (by decide)
  · exact h _ (by omega) (by omega)
end
theorem ok_law_width {P : Program} {w : World} {K : PySem.W.Frag} {mg : Str → Option Value} {base : Heap} {f : Addr} {fd : FuncData} (F : FunD K "_law_width" "_law_width" (defArgs s_law_width) (defBody s_law_width) (defScope s_law_width) [] [] f fd) (T : Txt K mg) (D_law_next : Def P w K mg base "_law_next" c_law_next 1) : FnOk P w K mg base (L2.CX P w) 2 f fd ["_law_state_here"] (toSp K c_law_width) :=
  (fn_ok (c := c_law_width) F sc_law_width rfl (fun cdv A outer s H E hr => d_law_width T D_law_next cdv A outer s H E hr) wp_law_width)
def df_law_least : DF := fun ds om k xk => ∃ (bag : List (List Int)), ∃ (c : Int), ds = [.lst (rowsD bag), .int c] ∧ (bag ≠ []) ∧ (0 ≤ c) ∧ (∀ r ∈ bag, c < r.length) ∧ (bag.length ≤ 1000) ∧ (∀ best, best ∈ bag → (∀ r ∈ bag, leR c.toNat best r) → k (.v (rowD best)) om)
theorem call_law_least {om : Om} {k : RV → Om → Prop} {xk : Exn → Om → Prop} {bag : List (List Int)} {c : Int} (hne : bag ≠ []) (c0 : 0 ≤ c) (hw : ∀ r ∈ bag, c < r.length) (hl : bag.length ≤ 1000) (h : ∀ best, best ∈ bag → (∀ r ∈ bag, leR c.toNat best r) → k (.v (rowD best)) om) : df_law_least [.lst (rowsD bag), .int c] om k xk := ⟨bag, c, rfl, hne, c0, hw, hl, h⟩
def c_law_least : Con := ⟨2, df_law_least, by intro ds om k xk h; obtain ⟨bag, c, rfl, _, _, _, _, _⟩ := h; rfl, by intro ds om k k' xk xk' hk hx h; obtain ⟨bag, c, e_, hne, c0, hw, hl, h⟩ := h; refine ⟨bag, c, e_, hne, c0, hw, hl, ?_⟩; first | exact hk _ _ h | exact hx _ _ h | exact fun hq => hk _ _ (h hq) | (intros; apply hk; apply h <;> assumption) | (simp only [cnd] at h ⊢; grind) | grind⟩
theorem callK_law_least {om : Om} {k : RV → Om → Prop} {xk : Exn → Om → Prop} {bag : List (List Int)} {c : Int} {t : Tg (df_law_least, k, xk)} (hne : bag ≠ []) (c0 : 0 ≤ c) (hw : ∀ r ∈ bag, c < r.length) (hl : bag.length ≤ 1000) (h : ∀ best, best ∈ bag → (∀ r ∈ bag, leR c.toNat best r) → k (.v (rowD best)) om) : callK df_law_least [.lst (rowsD bag), .int c] om k xk t := call_law_least hne c0 hw hl h
def w_law_least : WS :=
  (wSeq (wAsg (wOp pIx (wBor 0) (wC (.int 0))) (gN 2)) (wSeq (wFor (wiA (wVar 0)) (gN 3) (wIfS (wTru (wCall df_law_less [] (wCons (wVar 3) (wCons (wVar 2) (wCons (wVar 1) wNil))))) (wAsg (wVar 3) (gN 2)) wNext)) (wRet (wMov 2))))
theorem d_law_least {P : Program} {w : World} {K : PySem.W.Frag} {mg : Str → Option Value} {base : Heap} {f : Addr} (T : Txt K mg) (D_law_less : Def P w K mg base "_law_less" c_law_less 1) (cdv : Value) (A : Around) (outer : List PySem.Env) (s : Shared) (H : Hp) (E : XK) (hr : Room 1 (A.deeper (PyProof.Rows.envOfC "_law_least" (defScope s_law_least) s.heap.objs.size f cdv))) :
    ∃ t, DSs (cxOf (L2.CX P w) P w K mg base ["_law_bag", "_law_column", "_law_best", "_law_row"] "_law_least" (defScope s_law_least) f cdv A outer s H E) (fun cls d _ H => E cls d H) (defBody s_law_least) t w_law_least :=
  ⟨_, (dss_cons (ds_set 2 sc_law_least.nd (de_ix (de_bor 0) de_int)) (dss_cons (ds_for (passes_of rfl) rfl (di_any (de_var 0) (K' := K)) (dg_name 3 sc_law_least.nd) (dss_one (ds_if (dt_tru (de_call (c := c_law_less) D_law_less (hr.mono (by decide)) (takes_of rfl rfl rfl rfl) (da_cons (de_var 3) (da_cons (de_var 2) (da_cons (de_var 1) da_nil))))) (dss_one (ds_set 2 sc_law_least.nd (de_var 3))) dss_nil))) (dss_one (ds_retV 2))))⟩
local macro_rules | `(tactic| fail "ca") => `(tactic| (with_reducible refine ca_guard ?_; first | with_reducible refine callK_less ?_ ?_ ?_ ?_ | with_reducible refine callK_Heap_len (by with_reducible assumption) (by with_reducible assumption) ?_ | with_reducible refine callK_Heap_first (by with_reducible assumption) (by with_reducible assumption) ?_ | with_reducible refine callK_Heap_told (by with_reducible assumption) (by with_reducible assumption) ?_ | with_reducible refine callK_law_state ?_ | with_reducible refine callK_law_next (by with_reducible assumption) ?_ ?_ ?_ | with_reducible refine callK_law_less ?_ ?_ ?_ ?_ | with_reducible refine callK_law_names ?_ ?_ | with_reducible refine callK_Heap_put (by with_reducible assumption) (by with_reducible assumption) ?_ ?_ ?_ ?_ ?_ ?_ | with_reducible refine callK_Heap_sink (by with_reducible assumption) (by with_reducible assumption) ?_ ?_ ?_ ?_ ?_ | with_reducible refine callK_law_number (by with_reducible assumption) ?_ ?_ ?_ | with_reducible refine callK_law_width (by with_reducible assumption) ?_ | with_reducible refine callK_law_least ?_ ?_ ?_ ?_ ?_))

section
local macro_rules | `(tactic| fail "d1") => `(tactic| simp -dsimp only [↓u_0, ↓u_16, ↓u_17, ↓u_18, ↓u_19, ↓u_22, ↓u_25, ↓u_26, ↓u_27, ↓u_28, ↓u_29, ↓u_32, ↓u_45, ↓u_46, ↓u_48, ↓u_57, u_82, u_83, u_86, u_93, u_98, u_99, u_102, u_106, ↓u_142, u_160, ↓u_164, u_195, u_199, u_200, u_201, u_202, u_206, u_207, u_209, u_210, u_211, u_212, u_213, u_214, u_216, u_217, ↓u_287, u_329, ↓u_518, ↓u_519, ↓u_521, ↓u_522, ↓u_525, ↓u_527, ↓u_529, ↓u_534, List.map_nil, List.map_cons, Nat.reduceSub, Nat.reduceAdd, Nat.reduceLT, Nat.reduceLeDiff, reduceIte, String.reduceBEq, String.reduceEq, Int.reduceLT, Int.reduceLE, Int.reduceEq, Int.reduceToNat])
local macro_rules | `(tactic| fail "dl") => `(tactic| try fail "d1")
theorem wp_law_least (ds : List D) (om : Om) (k : RV → Om → Prop) (xk : Exn → Om → Prop) (h : df_law_least ds om k xk) : w_law_least (endOf k xk) (startE 4 ds) om := by
  obtain ⟨bag, c, rfl, hne, c0, hw, hl, h⟩ := h
  unfold w_law_least endOf
  have lB := len_rows bag
  have hp := List.length_pos_iff.mpr hne
  have hg : bag.getD 0 [] ∈ bag := by rw [List.getD_eq_getElem?_getD, List.getElem?_eq_getElem hp]; exact List.getElem_mem _
  fail "gs"
  refine loop_list (fun i r om' => om' = om ∧ ∃ (best : List Int) (x3 : Option RV), best ∈ bag ∧ (∀ q ∈ bag.take i, leR c.toNat best q) ∧ r = [some (.v (.lst (rowsD bag))), some (.v (.int c)), some (.v (rowD best)), x3]) ⟨rfl, _, _, hg, by simp, rfl⟩ ?_ ?_
  · rintro i d r om' nx e ⟨rfl, best, x3, hb, hle, rfl⟩ hn
    obtain ⟨q, eq, rfl⟩ := rows_get e
    have mq := List.mem_of_getElem? eq
    have ht : bag.take (i + 1) = bag.take i ++ [q] := by rw [List.take_add_one, eq]; rfl
    have h1 := hw q mq
    have h2 := hw best hb
    unfold stepOf
    cases hq : lessR c.toNat q best
    · (repeat' (first | (with_reducible assumption) | (with_reducible intro _) | (with_reducible apply And.intro) | fail "ca" | simp -dsimp only [↓u_0, ↓u_16, ↓u_17, ↓u_18, ↓u_19, ↓u_22, ↓u_25, ↓u_26, ↓u_27, ↓u_28, ↓u_29, ↓u_32, ↓u_45, ↓u_46, ↓u_48, ↓u_57, u_82, u_83, u_86, u_93, u_98, u_99, u_102, u_106, ↓u_142, u_160, ↓u_164, u_195, u_199, u_200, u_201, u_202, u_206, u_207, u_209, u_210, u_211, u_212, u_213, u_214, u_216, u_217, ↓u_287, u_329, ↓u_518, ↓u_519, ↓u_521, ↓u_522, ↓u_525, ↓u_527, ↓u_529, ↓u_534, List.map_nil, List.map_cons, Nat.reduceSub, Nat.reduceAdd, Nat.reduceLT, Nat.reduceLeDiff, reduceIte, String.reduceBEq, String.reduceEq, Int.reduceLT, Int.reduceLE, Int.reduceEq, Int.reduceToNat, hq] | fail "ix" | (with_reducible refine rdDh_of (by with_reducible assumption) ?_) | (with_reducible refine cnd_T (by with_reducible assumption) ?_) | (with_reducible refine cnd_F (by with_reducible assumption) ?_) | (with_reducible refine cnd_yes (by omega) ?_) | (with_reducible refine cnd_no (by omega) ?_) | (with_reducible refine cnd_dec ?_ ?_) | (with_reducible refine cnd_of ?_ ?_) | fail "si" | fail))
      refine hn _ _ ⟨rfl, best, _, hb, fun p mp => ?_, rfl⟩
      rw [ht] at mp
      rcases List.mem_append.mp mp with mp | mp
      · exact hle p mp
      · rw [List.mem_singleton.mp mp]; exact hq
    · (repeat' (first | (with_reducible assumption) | (with_reducible intro _) | (with_reducible apply And.intro) | fail "ca" | simp -dsimp only [↓u_0, ↓u_16, ↓u_17, ↓u_18, ↓u_19, ↓u_22, ↓u_25, ↓u_26, ↓u_27, ↓u_28, ↓u_29, ↓u_32, ↓u_45, ↓u_46, ↓u_48, ↓u_57, u_82, u_83, u_86, u_93, u_98, u_99, u_102, u_106, ↓u_142, u_160, ↓u_164, u_195, u_199, u_200, u_201, u_202, u_206, u_207, u_209, u_210, u_211, u_212, u_213, u_214, u_216, u_217, ↓u_287, u_329, ↓u_518, ↓u_519, ↓u_521, ↓u_522, ↓u_525, ↓u_527, ↓u_529, ↓u_534, List.map_nil, List.map_cons, Nat.reduceSub, Nat.reduceAdd, Nat.reduceLT, Nat.reduceLeDiff, reduceIte, String.reduceBEq, String.reduceEq, Int.reduceLT, Int.reduceLE, Int.reduceEq, Int.reduceToNat, hq] | fail "ix" | (with_reducible refine rdDh_of (by with_reducible assumption) ?_) | (with_reducible refine cnd_T (by with_reducible assumption) ?_) | (with_reducible refine cnd_F (by with_reducible assumption) ?_) | (with_reducible refine cnd_yes (by omega) ?_) | (with_reducible refine cnd_no (by omega) ?_) | (with_reducible refine cnd_dec ?_ ?_) | (with_reducible refine cnd_of ?_ ?_) | fail "si" | fail))
      refine hn _ _ ⟨rfl, q, _, mq, fun p mp => ?_, rfl⟩
      rw [ht] at mp
      rcases List.mem_append.mp mp with mp | mp
      · exact leR_trans (leR_of_less hq) (hle p mp)
      · rw [List.mem_singleton.mp mp]; exact leR_refl _ _
  · rintro r om' ⟨rfl, best, x3, hb, hle, rfl⟩
    rw [lB, List.take_length] at hle
    fail "gs"
    exact h best hb hle
end
theorem ok_law_least {P : Program} {w : World} {K : PySem.W.Frag} {mg : Str → Option Value} {base : Heap} {f : Addr} {fd : FuncData} (F : FunD K "_law_least" "_law_least" (defArgs s_law_least) (defBody s_law_least) (defScope s_law_least) [] [] f fd) (T : Txt K mg) (D_law_less : Def P w K mg base "_law_less" c_law_less 1) : FnOk P w K mg base (L2.CX P w) 2 f fd ["_law_bag", "_law_column"] (toSp K c_law_least) :=
  (fn_ok (c := c_law_least) F sc_law_least rfl (fun cdv A outer s H E hr => d_law_least T D_law_less cdv A outer s H E hr) wp_law_least)
def df_Heap_init : DF := fun ds om k xk => ∃ (a : Addr), ∃ (c : Int), ∃ (rs : List (List Int)), ∃ (d : D), ds = [.h a, .int c, d] ∧ (om a = some (.ins "Heap" [])) ∧ (d = .lst (rowsD rs) ∨ d = .tup (rowsD rs)) ∧ (0 ≤ c) ∧ (∀ r ∈ rs, c < r.length) ∧ (rs.length ≤ 5000) ∧ (∀ (b : Addr) (hp : List (List Int)), om b = none → IsHp c.toNat hp → hp.Perm rs → k (.v .non) (oset (oset om b (.lst (rowsD hp))) a (HpO c b)))
theorem call_Heap_init {om : Om} {k : RV → Om → Prop} {xk : Exn → Om → Prop} {a : Addr} {c : Int} {rs : List (List Int)} {d : D} (ha : om a = some (.ins "Heap" [])) (hd : d = .lst (rowsD rs) ∨ d = .tup (rowsD rs)) (c0 : 0 ≤ c) (hw : ∀ r ∈ rs, c < r.length) (hl : rs.length ≤ 5000) (h : ∀ (b : Addr) (hp : List (List Int)), om b = none → IsHp c.toNat hp → hp.Perm rs → k (.v .non) (oset (oset om b (.lst (rowsD hp))) a (HpO c b))) : df_Heap_init [.h a, .int c, d] om k xk := ⟨a, c, rs, d, rfl, ha, hd, c0, hw, hl, h⟩
def c_Heap_init : Con := ⟨3, df_Heap_init, by intro ds om k xk h; obtain ⟨a, c, rs, d, rfl, _, _, _, _, _, _⟩ := h; rfl, by intro ds om k k' xk xk' hk hx h; obtain ⟨a, c, rs, d, e_, ha, hd, c0, hw, hl, h⟩ := h; refine ⟨a, c, rs, d, e_, ha, hd, c0, hw, hl, ?_⟩; first | exact hk _ _ h | exact hx _ _ h | exact fun hq => hk _ _ (h hq) | (intros; apply hk; apply h <;> assumption) | (simp only [cnd] at h ⊢; grind) | grind⟩
theorem callK_Heap_init {om : Om} {k : RV → Om → Prop} {xk : Exn → Om → Prop} {a : Addr} {c : Int} {rs : List (List Int)} {d : D} {t : Tg (df_Heap_init, k, xk)} (ha : om a = some (.ins "Heap" [])) (hd : d = .lst (rowsD rs) ∨ d = .tup (rowsD rs)) (c0 : 0 ≤ c) (hw : ∀ r ∈ rs, c < r.length) (hl : rs.length ≤ 5000) (h : ∀ (b : Addr) (hp : List (List Int)), om b = none → IsHp c.toNat hp → hp.Perm rs → k (.v .non) (oset (oset om b (.lst (rowsD hp))) a (HpO c b))) : callK df_Heap_init [.h a, .int c, d] om k xk t := call_Heap_init ha hd c0 hw hl h
def w_Heap_init : WS :=
  (wSeq (wFldS "Heap" "column" (wBor 0) (wVar 1)) (wSeq (wFldS "Heap" "heaped" (wBor 0) (wHL (wLst wNil))) (wFor (wiA (wVar 2)) (gN 3) (wDrop (wMeth "Heap" "put" df_Heap_put (wBor 0) (wCons (wVar 3) wNil))))))
theorem d_Heap_init {P : Program} {w : World} {K : PySem.W.Frag} {mg : Str → Option Value} {base : Heap} {f : Addr} (T : Txt K mg) (D_Heap_put : DefM P w K mg base "Heap" "put" c_Heap_put 2) (cdv : Value) (A : Around) (outer : List PySem.Env) (s : Shared) (H : Hp) (E : XK) (hr : Room 2 (A.deeper (PyProof.Rows.envOfC "Heap.__init__" (defScope s_Heap_init) s.heap.objs.size f cdv))) :
    ∃ t, DSs (cxOf (L2.CX P w) P w K mg base ["self", "column", "rows", "row"] "Heap.__init__" (defScope s_Heap_init) f cdv A outer s H E) (fun cls d _ H => E cls d H) (defBody s_Heap_init) t w_Heap_init :=
  ⟨_, (dss_cons (ds_fldS T.cf_Heap (nf_Heap_column) (de_bor 0) (de_var 1) (K' := K)) (dss_cons (ds_fldS T.cf_Heap (nf_Heap_heaped) (de_bor 0) (de_hl (de_lst da_nil)) (K' := K)) (dss_one (ds_for (passes_of rfl) rfl (di_any (de_var 2) (K' := K)) (dg_name 3 sc_Heap_init.nd) (dss_one (ds_drop (de_meth (cn := c_Heap_put) D_Heap_put (hr.mono (by decide)) (takes_of rfl rfl rfl rfl) (de_bor 0) (da_cons (de_var 3) da_nil) (K' := K))))))))⟩
local macro_rules | `(tactic| fail "ca") => `(tactic| (with_reducible refine ca_guard ?_; first | with_reducible refine callK_less ?_ ?_ ?_ ?_ | with_reducible refine callK_Heap_len (by with_reducible assumption) (by with_reducible assumption) ?_ | with_reducible refine callK_Heap_first (by with_reducible assumption) (by with_reducible assumption) ?_ | with_reducible refine callK_Heap_told (by with_reducible assumption) (by with_reducible assumption) ?_ | with_reducible refine callK_law_state ?_ | with_reducible refine callK_law_next (by with_reducible assumption) ?_ ?_ ?_ | with_reducible refine callK_law_less ?_ ?_ ?_ ?_ | with_reducible refine callK_law_names ?_ ?_ | with_reducible refine callK_Heap_put (by with_reducible assumption) (by with_reducible assumption) ?_ ?_ ?_ ?_ ?_ ?_ | with_reducible refine callK_Heap_sink (by with_reducible assumption) (by with_reducible assumption) ?_ ?_ ?_ ?_ ?_ | with_reducible refine callK_law_number (by with_reducible assumption) ?_ ?_ ?_ | with_reducible refine callK_law_width (by with_reducible assumption) ?_ | with_reducible refine callK_law_least ?_ ?_ ?_ ?_ ?_ | with_reducible refine callK_Heap_init (by with_reducible assumption) (by with_reducible assumption) ?_ ?_ ?_ ?_))

section
local macro_rules | `(tactic| fail "d1") => `(tactic| simp -dsimp only [↓u_0, ↓u_18, ↓u_21, ↓u_25, ↓u_26, ↓u_44, ↓u_45, ↓u_46, ↓u_57, u_96, u_98, u_99, u_102, u_160, ↓u_164, u_195, u_199, u_200, u_201, u_202, u_206, u_207, u_210, u_211, u_212, u_213, u_214, u_215, u_216, u_217, u_220, u_223, ↓u_287, u_329, ↓u_394, ↓u_395, ↓u_479, ↓u_480, u_481, u_482, u_483, u_484, ↓u_485, ↓u_486, ↓u_518, ↓u_519, ↓u_525, ↓u_527, ↓u_534, ↓u_536, sbe_column_heaped, sbe_put_heaped, sbe_put_column, List.map_nil, List.map_cons, Nat.reduceSub, Nat.reduceAdd, Nat.reduceLT, Nat.reduceLeDiff, reduceIte, String.reduceBEq, String.reduceEq, Int.reduceLT, Int.reduceLE, Int.reduceEq, Int.reduceToNat])
local macro_rules | `(tactic| fail "dl") => `(tactic| try fail "d1")
theorem wp_Heap_init (ds : List D) (om : Om) (k : RV → Om → Prop) (xk : Exn → Om → Prop) (h : df_Heap_init ds om k xk) : w_Heap_init (endOf k xk) (startE 4 ds) om := by
  obtain ⟨a, c, rs, d, rfl, ha, hd, c0, hw, hl, h⟩ := h
  unfold w_Heap_init endOf
  have fin : ∀ (b : Addr), om b = none → ∀ (x : Ob), oset (oset (oset om a x) b (.lst [])) a (HpO c b) = oset (oset om b (.lst (rowsD []))) a (HpO c b) := fun b hb x => by
    have hab : a ≠ b := fun e => by rw [e, hb] at ha; cases ha
    rw [oset_comm hab, oset_set]; rfl
  (repeat' (first | (with_reducible assumption) | (with_reducible intro _) | (with_reducible apply And.intro) | fail "ca" | simp -dsimp only [↓u_0, ↓u_18, ↓u_21, ↓u_25, ↓u_26, ↓u_44, ↓u_45, ↓u_46, ↓u_57, u_96, u_98, u_99, u_102, u_160, ↓u_164, u_195, u_199, u_200, u_201, u_202, u_206, u_207, u_210, u_211, u_212, u_213, u_214, u_215, u_216, u_217, u_220, u_223, ↓u_287, u_329, ↓u_394, ↓u_395, ↓u_479, ↓u_480, u_481, u_482, u_483, u_484, ↓u_485, ↓u_486, ↓u_518, ↓u_519, ↓u_525, ↓u_527, ↓u_534, ↓u_536, sbe_column_heaped, sbe_put_heaped, sbe_put_column, List.map_nil, List.map_cons, Nat.reduceSub, Nat.reduceAdd, Nat.reduceLT, Nat.reduceLeDiff, reduceIte, String.reduceBEq, String.reduceEq, Int.reduceLT, Int.reduceLE, Int.reduceEq, Int.reduceToNat, ha] | fail "ix" | (with_reducible refine rdDh_of (by with_reducible assumption) ?_) | (with_reducible refine cnd_T (by with_reducible assumption) ?_) | (with_reducible refine cnd_F (by with_reducible assumption) ?_) | (with_reducible refine cnd_yes (by omega) ?_) | (with_reducible refine cnd_no (by omega) ?_) | (with_reducible refine cnd_dec ?_ ?_) | (with_reducible refine cnd_of ?_ ?_) | fail "si" | fail))
  rename_i b hb
  have hb' : om b = none := by
    by_cases e : b = a
    · subst e; rw [oset_same] at hb; cases hb
    · rwa [oset_ne e] at hb
  have hab : a ≠ b := fun e => by rw [e, hb'] at ha; cases ha
  have fin2 := fin b hb'
  have hx : ∀ y x, (oset (oset om a y) b x) a = some y := fun y x => by rw [oset_ne hab]; exact oset_same
  have nest : ∀ (X Y : Ob), oset (oset (oset om b X) a (HpO c b)) b Y = oset (oset om b Y) a (HpO c b) := fun X Y => by rw [oset_comm hab, oset_set]
  have go : ∀ d, (d = .lst (rowsD rs) ∨ d = .tup (rowsD rs)) → loopK (stepOf (gN 3) (wDrop (wMeth "Heap" "put" df_Heap_put (wBor 0) (wCons (wVar 3) wNil))) { nx := fun x om => k (RV.v D.non) om, rt := k, xq := fun ex x om => xk ex om })
      (rowsD rs) (fun x om => k (RV.v D.non) om) [some (RV.v (D.h a)), some (RV.v (D.int c)), some (RV.v d), none] (oset (oset om b (Ob.lst (rowsD []))) a (HpO c b)) := fun d _ => by
    refine loop_list (fun i r om' => ∃ (hp : List (List Int)) (x3 : Option RV), IsHp c.toNat hp ∧ hp.Perm (rs.take i) ∧ om' = oset (oset om b (.lst (rowsD hp))) a (HpO c b) ∧ r = [some (.v (.h a)), some (.v (.int c)), some (.v d), x3]) ⟨[], none, hp_nil _, by simp, rfl, rfl⟩ ?_ ?_
    · rintro i z r om' nx e ⟨hp, x3, hh, hpm, rfl, rfl⟩ hnx
      obtain ⟨row, er, rfl⟩ := rows_get e
      have ht : rs.take (i + 1) = rs.take i ++ [row] := by rw [List.take_add_one, er]; rfl
      have h1 : oset (oset om b (.lst (rowsD hp))) a (HpO c b) a = some (HpO c b) := oset_same
      have h2 : oset (oset om b (.lst (rowsD hp))) a (HpO c b) b = some (.lst (rowsD hp)) := by rw [oset_ne (Ne.symm hab), oset_same]
      have hwp : ∀ r ∈ hp, c < r.length := fun r m => hw r (List.mem_of_mem_take (hpm.mem_iff.mp m))
      have hlp : hp.length ≤ 10000 := by rw [hpm.length_eq, List.length_take]; omega
      have hwr := hw row (List.mem_of_getElem? er)
      unfold stepOf
      (repeat' (first | (with_reducible assumption) | (with_reducible intro _) | (with_reducible apply And.intro) | fail "ca" | simp -dsimp only [↓u_0, ↓u_18, ↓u_21, ↓u_25, ↓u_26, ↓u_44, ↓u_45, ↓u_46, ↓u_57, u_96, u_98, u_99, u_102, u_160, ↓u_164, u_195, u_199, u_200, u_201, u_202, u_206, u_207, u_210, u_211, u_212, u_213, u_214, u_215, u_216, u_217, u_220, u_223, ↓u_287, u_329, ↓u_394, ↓u_395, ↓u_479, ↓u_480, u_481, u_482, u_483, u_484, ↓u_485, ↓u_486, ↓u_518, ↓u_519, ↓u_525, ↓u_527, ↓u_534, ↓u_536, sbe_column_heaped, sbe_put_heaped, sbe_put_column, List.map_nil, List.map_cons, Nat.reduceSub, Nat.reduceAdd, Nat.reduceLT, Nat.reduceLeDiff, reduceIte, String.reduceBEq, String.reduceEq, Int.reduceLT, Int.reduceLE, Int.reduceEq, Int.reduceToNat, h1] | fail "ix" | (with_reducible refine rdDh_of (by with_reducible assumption) ?_) | (with_reducible refine cnd_T (by with_reducible assumption) ?_) | (with_reducible refine cnd_F (by with_reducible assumption) ?_) | (with_reducible refine cnd_yes (by omega) ?_) | (with_reducible refine cnd_no (by omega) ?_) | (with_reducible refine cnd_dec ?_ ?_) | (with_reducible refine cnd_of ?_ ?_) | fail "si" | fail))
      rename_i hp' hh' hpm'
      rw [nest]
      refine hnx _ _ ⟨hp', _, hh', ?_, rfl, rfl⟩
      rw [ht]
      exact hpm'.trans ((List.Perm.cons _ hpm).trans (List.perm_append_singleton _ _).symm)
    · rintro r om' ⟨hp, x3, hh, hpm, rfl, rfl⟩
      rw [show (rowsD rs).length = rs.length from len_rows rs, List.take_length] at hpm
      exact h b hp hb' hh hpm
  rcases hd with rfl | rfl
  · (repeat' (first | (with_reducible assumption) | (with_reducible intro _) | (with_reducible apply And.intro) | fail "ca" | simp -dsimp only [↓u_0, ↓u_18, ↓u_21, ↓u_25, ↓u_26, ↓u_44, ↓u_45, ↓u_46, ↓u_57, u_96, u_98, u_99, u_102, u_160, ↓u_164, u_195, u_199, u_200, u_201, u_202, u_206, u_207, u_210, u_211, u_212, u_213, u_214, u_215, u_216, u_217, u_220, u_223, ↓u_287, u_329, ↓u_394, ↓u_395, ↓u_479, ↓u_480, u_481, u_482, u_483, u_484, ↓u_485, ↓u_486, ↓u_518, ↓u_519, ↓u_525, ↓u_527, ↓u_534, ↓u_536, sbe_column_heaped, sbe_put_heaped, sbe_put_column, List.map_nil, List.map_cons, Nat.reduceSub, Nat.reduceAdd, Nat.reduceLT, Nat.reduceLeDiff, reduceIte, String.reduceBEq, String.reduceEq, Int.reduceLT, Int.reduceLE, Int.reduceEq, Int.reduceToNat, hx, fin2] | fail "ix" | (with_reducible refine rdDh_of (by with_reducible assumption) ?_) | (with_reducible refine cnd_T (by with_reducible assumption) ?_) | (with_reducible refine cnd_F (by with_reducible assumption) ?_) | (with_reducible refine cnd_yes (by omega) ?_) | (with_reducible refine cnd_no (by omega) ?_) | (with_reducible refine cnd_dec ?_ ?_) | (with_reducible refine cnd_of ?_ ?_) | fail "si" | fail))
    exact go _ (.inl rfl)
  · (repeat' (first | (with_reducible assumption) | (with_reducible intro _) | (with_reducible apply And.intro) | fail "ca" | simp -dsimp only [↓u_0, ↓u_18, ↓u_21, ↓u_25, ↓u_26, ↓u_44, ↓u_45, ↓u_46, ↓u_57, u_96, u_98, u_99, u_102, u_160, ↓u_164, u_195, u_199, u_200, u_201, u_202, u_206, u_207, u_210, u_211, u_212, u_213, u_214, u_215, u_216, u_217, u_220, u_223, ↓u_287, u_329, ↓u_394, ↓u_395, ↓u_479, ↓u_480, u_481, u_482, u_483, u_484, ↓u_485, ↓u_486, ↓u_518, ↓u_519, ↓u_525, ↓u_527, ↓u_534, ↓u_536, sbe_column_heaped, sbe_put_heaped, sbe_put_column, List.map_nil, List.map_cons, Nat.reduceSub, Nat.reduceAdd, Nat.reduceLT, Nat.reduceLeDiff, reduceIte, String.reduceBEq, String.reduceEq, Int.reduceLT, Int.reduceLE, Int.reduceEq, Int.reduceToNat, hx, fin2] | fail "ix" | (with_reducible refine rdDh_of (by with_reducible assumption) ?_) | (with_reducible refine cnd_T (by with_reducible assumption) ?_) | (with_reducible refine cnd_F (by with_reducible assumption) ?_) | (with_reducible refine cnd_yes (by omega) ?_) | (with_reducible refine cnd_no (by omega) ?_) | (with_reducible refine cnd_dec ?_ ?_) | (with_reducible refine cnd_of ?_ ?_) | fail "si" | fail))
    exact go _ (.inr rfl)
end
theorem ok_Heap_init {P : Program} {w : World} {K : PySem.W.Frag} {mg : Str → Option Value} {base : Heap} {f : Addr} {fd : FuncData} (F : FunD K "__init__" "Heap.__init__" (defArgs s_Heap_init) (defBody s_Heap_init) (defScope s_Heap_init) [(V.ref (He.dflAt ("Heap", some "__init__") 0 K))] [] f fd) (T : Txt K mg) (D_Heap_put : DefM P w K mg base "Heap" "put" c_Heap_put 2) : FnOk P w K mg base (L2.CX P w) 3 f fd ["self", "column", "rows"] (toSp K c_Heap_init) :=
  (fn_ok (c := c_Heap_init) F sc_Heap_init rfl (fun cdv A outer s H E hr => d_Heap_init T D_Heap_put cdv A outer s H E hr) wp_Heap_init)
def g_Heap_init_0 {α : Type} (us its mv ws : List α) : List α := us ++ []
abbrev gv_Heap_init_0 (K : PySem.W.Frag) : List V → List V → List V := fun us ws => g_Heap_init_0 us [(V.ref (He.dflAt ("Heap", some "__init__") 0 K))] [] ws
abbrev gd_Heap_init_0 : List D → List D → List D := fun us ws => g_Heap_init_0 us [(D.tup [])] [] ws
theorem gr_Heap_init_0 {K : PySem.W.Frag} (hT_e_Heap_init_0 : ∀ F, Rep K F (V.ref (He.dflAt ("Heap", some "__init__") 0 K)) (D.tup [])) : GRep K (gv_Heap_init_0 K) gd_Heap_init_0 := fun F vs zs ds es hus hws => (by
  have hits : RepA K F [(V.ref (He.dflAt ("Heap", some "__init__") 0 K))] [(D.tup [])] := (.cons (hT_e_Heap_init_0 F) .nil)
  have hmv : RepA K F [] [] := .nil
  exact hus.append .nil)
theorem gw_Heap_init_0 {vs ds mz zs : List V} {us its mv ws : List Value} (hus : Vals vs us) (hits : Vals ds its) (hmv : Vals mz mv) (hws : Vals zs ws) : Vals (g_Heap_init_0 vs ds mz zs) (g_Heap_init_0 us its mv ws) := hus.append .nil
theorem gs_Heap_init_0 (a0 a1 a2 : D) : gd_Heap_init_0 [a0, a1, a2] [] = [a0, a1, a2] := by apply nrfl; rfl
def g_Heap_init_1 {α : Type} (us its mv ws : List α) : List α := us ++ ((its.drop 0).take 1 ++ [])
abbrev gv_Heap_init_1 (K : PySem.W.Frag) : List V → List V → List V := fun us ws => g_Heap_init_1 us [(V.ref (He.dflAt ("Heap", some "__init__") 0 K))] [] ws
abbrev gd_Heap_init_1 : List D → List D → List D := fun us ws => g_Heap_init_1 us [(D.tup [])] [] ws
theorem gr_Heap_init_1 {K : PySem.W.Frag} (hT_e_Heap_init_0 : ∀ F, Rep K F (V.ref (He.dflAt ("Heap", some "__init__") 0 K)) (D.tup [])) : GRep K (gv_Heap_init_1 K) gd_Heap_init_1 := fun F vs zs ds es hus hws => (by
  have hits : RepA K F [(V.ref (He.dflAt ("Heap", some "__init__") 0 K))] [(D.tup [])] := (.cons (hT_e_Heap_init_0 F) .nil)
  have hmv : RepA K F [] [] := .nil
  exact hus.append (((hits.drop 0).take 1).append .nil))
theorem gw_Heap_init_1 {vs ds mz zs : List V} {us its mv ws : List Value} (hus : Vals vs us) (hits : Vals ds its) (hmv : Vals mz mv) (hws : Vals zs ws) : Vals (g_Heap_init_1 vs ds mz zs) (g_Heap_init_1 us its mv ws) := hus.append (((hits.drop 0).take 1).append .nil)
theorem gs_Heap_init_1 (a0 a1 : D) : gd_Heap_init_1 [a0, a1] [] = [a0, a1, (D.tup [])] := by apply nrfl; rfl
def df_Heap_take : DF := fun ds om k xk => ∃ (a : Addr), ∃ (b : Addr), ∃ (c : Int), ∃ (hp : List (List Int)), ds = [.h a] ∧ (om a = some (HpO c b)) ∧ (om b = some (.lst (rowsD hp))) ∧ (IsHp c.toNat hp) ∧ (0 ≤ c) ∧ (∀ r ∈ hp, c < r.length) ∧ (hp.length ≤ 10000) ∧ (cnd (decide (hp = [])) (xk ⟨"NoneHeld", none⟩ om) (∀ hp' : List (List Int), IsHp c.toNat hp' → (gr hp 0 :: hp').Perm hp → k (.v (rowD (gr hp 0))) (oset om b (.lst (rowsD hp')))))
theorem call_Heap_take {om : Om} {k : RV → Om → Prop} {xk : Exn → Om → Prop} {a : Addr} {b : Addr} {c : Int} {hp : List (List Int)} (ha : om a = some (HpO c b)) (hb : om b = some (.lst (rowsD hp))) (hh : IsHp c.toNat hp) (c0 : 0 ≤ c) (hw : ∀ r ∈ hp, c < r.length) (hl : hp.length ≤ 10000) (h : cnd (decide (hp = [])) (xk ⟨"NoneHeld", none⟩ om) (∀ hp' : List (List Int), IsHp c.toNat hp' → (gr hp 0 :: hp').Perm hp → k (.v (rowD (gr hp 0))) (oset om b (.lst (rowsD hp'))))) : df_Heap_take [.h a] om k xk := ⟨a, b, c, hp, rfl, ha, hb, hh, c0, hw, hl, h⟩
def c_Heap_take : Con := ⟨1, df_Heap_take, by intro ds om k xk h; obtain ⟨a, b, c, hp, rfl, _, _, _, _, _, _, _⟩ := h; rfl, by intro ds om k k' xk xk' hk hx h; obtain ⟨a, b, c, hp, e_, ha, hb, hh, c0, hw, hl, h⟩ := h; refine ⟨a, b, c, hp, e_, ha, hb, hh, c0, hw, hl, ?_⟩; first | exact hk _ _ h | exact hx _ _ h | exact fun hq => hk _ _ (h hq) | (intros; apply hk; apply h <;> assumption) | (simp only [cnd] at h ⊢; grind) | grind⟩
theorem callK_Heap_take {om : Om} {k : RV → Om → Prop} {xk : Exn → Om → Prop} {a : Addr} {b : Addr} {c : Int} {hp : List (List Int)} {t : Tg (df_Heap_take, k, xk)} (ha : om a = some (HpO c b)) (hb : om b = some (.lst (rowsD hp))) (hh : IsHp c.toNat hp) (c0 : 0 ≤ c) (hw : ∀ r ∈ hp, c < r.length) (hl : hp.length ≤ 10000) (h : cnd (decide (hp = [])) (xk ⟨"NoneHeld", none⟩ om) (∀ hp' : List (List Int), IsHp c.toNat hp' → (gr hp 0 :: hp').Perm hp → k (.v (rowD (gr hp 0))) (oset om b (.lst (rowsD hp'))))) : callK df_Heap_take [.h a] om k xk t := call_Heap_take ha hb hh c0 hw hl h
def w_Heap_take : WS :=
  (wSeq (wAsg (wMeth "Heap" "first" df_Heap_first (wBor 0) wNil) (gN 1)) (wSeq (wAsg (wFz (wMutX0 (wFld "Heap" "heaped" (wBor 0)) mPop)) (gN 2)) (wSeq (wIfS (wTst (wOp pGtA (wCB pLen (wCons (wFld "Heap" "heaped" (wBor 0)) wNil)) (wC (.int 0)))) (wSeq (wSt1 (wVar 2) (wFld "Heap" "heaped" (wBor 0)) (wC (.int 0))) (wDrop (wMeth "Heap" "sink" df_Heap_sink (wBor 0) (wCons (wC (.int 0)) wNil)))) wNext) (wRet (wMov 1)))))
theorem d_Heap_take {P : Program} {w : World} {K : PySem.W.Frag} {mg : Str → Option Value} {base : Heap} {f : Addr} (T : Txt K mg) (D_Heap_sink : DefM P w K mg base "Heap" "sink" c_Heap_sink 2) (D_Heap_first : DefM P w K mg base "Heap" "first" c_Heap_first 1) (cdv : Value) (A : Around) (outer : List PySem.Env) (s : Shared) (H : Hp) (E : XK) (hr : Room 2 (A.deeper (PyProof.Rows.envOfC "Heap.take" (defScope s_Heap_take) s.heap.objs.size f cdv))) :
    ∃ t, DSs (cxOf (L2.CX P w) P w K mg base ["self", "found", "last"] "Heap.take" (defScope s_Heap_take) f cdv A outer s H E) (fun cls d _ H => E cls d H) (defBody s_Heap_take) t w_Heap_take :=
  ⟨_, (dss_cons (ds_set 1 sc_Heap_take.nd (de_meth0 (cn := c_Heap_first) D_Heap_first (hr.mono (by decide)) (takes_of rfl rfl rfl rfl) (de_bor 0) (K' := K))) (dss_cons (ds_set 2 sc_Heap_take.nd (de_fz (de_popX (de_fld T.cf_Heap (nf_Heap_heaped) (de_bor 0) (K' := K)) (K' := K)))) (dss_cons (ds_if (dt_cmp (o_gtA hr) (de_cb n_len T.n_len (by decide +kernel) (da_cons (de_fld T.cf_Heap (nf_Heap_heaped) (de_bor 0) (K' := K)) da_nil)) de_int) (dss_cons (ds_st1 (de_var 2) (de_fld T.cf_Heap (nf_Heap_heaped) (de_bor 0) (K' := K)) de_int) (dss_one (ds_drop (de_meth (cn := c_Heap_sink) D_Heap_sink (hr.mono (by decide)) (takes_of rfl rfl rfl rfl) (de_bor 0) (da_cons de_int da_nil) (K' := K))))) dss_nil) (dss_one (ds_retV 1)))))⟩
local macro_rules | `(tactic| fail "ca") => `(tactic| (with_reducible refine ca_guard ?_; first | with_reducible refine callK_less ?_ ?_ ?_ ?_ | with_reducible refine callK_Heap_len (by with_reducible assumption) (by with_reducible assumption) ?_ | with_reducible refine callK_Heap_first (by with_reducible assumption) (by with_reducible assumption) ?_ | with_reducible refine callK_Heap_told (by with_reducible assumption) (by with_reducible assumption) ?_ | with_reducible refine callK_law_state ?_ | with_reducible refine callK_law_next (by with_reducible assumption) ?_ ?_ ?_ | with_reducible refine callK_law_less ?_ ?_ ?_ ?_ | with_reducible refine callK_law_names ?_ ?_ | with_reducible refine callK_Heap_put (by with_reducible assumption) (by with_reducible assumption) ?_ ?_ ?_ ?_ ?_ ?_ | with_reducible refine callK_Heap_sink (by with_reducible assumption) (by with_reducible assumption) ?_ ?_ ?_ ?_ ?_ | with_reducible refine callK_law_number (by with_reducible assumption) ?_ ?_ ?_ | with_reducible refine callK_law_width (by with_reducible assumption) ?_ | with_reducible refine callK_law_least ?_ ?_ ?_ ?_ ?_ | with_reducible refine callK_Heap_init (by with_reducible assumption) (by with_reducible assumption) ?_ ?_ ?_ ?_ | with_reducible refine callK_Heap_take (by with_reducible assumption) (by with_reducible assumption) ?_ ?_ ?_ ?_ ?_))
theorem take_perm {hp : List (List Int)} (h : 2 ≤ hp.length) : (gr hp 0 :: hp.dropLast.set 0 (gr hp (hp.length - 1))).Perm hp := by
  cases hp with
  | nil => simp at h
  | cons x t =>
    have ht : t ≠ [] := fun e => by subst e; simp at h
    have e1 : gr (x :: t) 0 = x := rfl
    have e2 : gr (x :: t) ((x :: t).length - 1) = t.getLast ht := by
      rw [gr_at (by simp), List.getElem_length_sub_one_eq_getLast (by simp), List.getLast_cons ht]
    rw [e1, e2, List.dropLast_cons_of_ne_nil ht, List.set_cons_zero]
    refine List.Perm.cons _ ?_
    have e3 : t = t.dropLast ++ [t.getLast ht] := (List.dropLast_concat_getLast ht).symm
    exact ((List.perm_append_singleton _ _).symm).trans (by rw [← e3])
section
local macro_rules | `(tactic| fail "d1") => `(tactic| simp -dsimp only [↓u_0, ↓u_16, ↓u_17, ↓u_18, ↓u_19, ↓u_21, ↓u_22, ↓u_25, ↓u_26, ↓u_27, ↓u_28, ↓u_29, ↓u_31, ↓u_45, ↓u_46, ↓u_47, u_82, u_83, u_91, u_92, u_93, u_96, u_98, u_99, u_100, u_101, u_102, u_105, u_111, u_114, ↓u_135, u_160, ↓u_164, ↓u_173, u_195, u_197, u_199, u_200, u_201, u_202, u_206, u_207, u_210, u_211, u_212, u_213, u_214, u_216, u_217, u_219, u_220, u_223, u_234, ↓u_247, ↓u_301, u_329, u_349, u_421, ↓u_478, ↓u_479, ↓u_480, u_481, u_482, ↓u_486, u_489, ↓u_490, ↓u_491, ↓u_518, ↓u_519, ↓u_521, ↓u_525, ↓u_527, ↓u_529, ↓u_533, u_543, sbe_heaped_column, sbe_first_heaped, sbe_first_column, sbe_sink_heaped, sbe_sink_column, List.map_nil, List.map_cons, Nat.reduceSub, Nat.reduceAdd, Nat.reduceLT, Nat.reduceLeDiff, reduceIte, String.reduceBEq, String.reduceEq, Int.reduceLT, Int.reduceLE, Int.reduceEq, Int.reduceToNat])
local macro_rules | `(tactic| fail "dl") => `(tactic| try fail "d1")
theorem wp_Heap_take (ds : List D) (om : Om) (k : RV → Om → Prop) (xk : Exn → Om → Prop) (h : df_Heap_take ds om k xk) : w_Heap_take (endOf k xk) (startE 3 ds) om := by
  obtain ⟨a, b, c, hp, rfl, ha, hb, hh, c0, hw, hl, h⟩ := h
  unfold w_Heap_take endOf
  have hab : a ≠ b := fun e => by rw [e, hb] at ha; cases ha
  have hx : ∀ x, (oset om b x) a = some (HpO c b) := fun x => by rw [oset_ne hab]; exact ha
  have hd : ∀ l, deref (oset om b (.lst l)) (.h b) = .lst l := fun l => deref_h oset_same
  have hd0 := deref_h hb
  by_cases e : hp = []
  · subst e
    rw [decide_eq_true rfl] at h
    (repeat' (first | (with_reducible assumption) | (with_reducible intro _) | (with_reducible apply And.intro) | fail "ca" | simp -dsimp only [↓u_0, ↓u_16, ↓u_17, ↓u_18, ↓u_19, ↓u_21, ↓u_22, ↓u_25, ↓u_26, ↓u_27, ↓u_28, ↓u_29, ↓u_31, ↓u_45, ↓u_46, ↓u_47, u_82, u_83, u_91, u_92, u_93, u_96, u_98, u_99, u_100, u_101, u_102, u_105, u_111, u_114, ↓u_135, u_160, ↓u_164, ↓u_173, u_195, u_197, u_199, u_200, u_201, u_202, u_206, u_207, u_210, u_211, u_212, u_213, u_214, u_216, u_217, u_219, u_220, u_223, u_234, ↓u_247, ↓u_301, u_329, u_349, u_421, ↓u_478, ↓u_479, ↓u_480, u_481, u_482, ↓u_486, u_489, ↓u_490, ↓u_491, ↓u_518, ↓u_519, ↓u_521, ↓u_525, ↓u_527, ↓u_529, ↓u_533, u_543, sbe_heaped_column, sbe_first_heaped, sbe_first_column, sbe_sink_heaped, sbe_sink_column, List.map_nil, List.map_cons, Nat.reduceSub, Nat.reduceAdd, Nat.reduceLT, Nat.reduceLeDiff, reduceIte, String.reduceBEq, String.reduceEq, Int.reduceLT, Int.reduceLE, Int.reduceEq, Int.reduceToNat, ha, hb, hd0] | fail "ix" | (with_reducible refine rdDh_of (by with_reducible assumption) ?_) | (with_reducible refine cnd_T (by with_reducible assumption) ?_) | (with_reducible refine cnd_F (by with_reducible assumption) ?_) | (with_reducible refine cnd_yes (by omega) ?_) | (with_reducible refine cnd_no (by omega) ?_) | (with_reducible refine cnd_dec ?_ ?_) | (with_reducible refine cnd_of ?_ ?_) | fail "si" | fail))
    exact h
  · rw [decide_eq_false e] at h
    have lp := List.length_pos_iff.mpr e
    have lq : (rowsD hp).length = hp.length := len_rows hp
    have em : (rowsD hp)[hp.length - 1]? = some (rowD (gr hp (hp.length - 1))) := by
      rw [rowsD, List.getElem?_map, List.getElem?_eq_getElem (by omega), gr_at (by omega)]; rfl
    have ed : (rowsD hp).dropLast = rowsD hp.dropLast := by rw [rowsD, rowsD, List.map_dropLast]
    have ld : (rowsD hp.dropLast).length = hp.length - 1 := by rw [len_rows, List.length_dropLast]
    have hin := hp_init hh
    have ldl : hp.dropLast.length = hp.length - 1 := List.length_dropLast
    (repeat' (first | (with_reducible assumption) | (with_reducible intro _) | (with_reducible apply And.intro) | fail "ca" | simp -dsimp only [↓u_0, ↓u_16, ↓u_17, ↓u_18, ↓u_19, ↓u_21, ↓u_22, ↓u_25, ↓u_26, ↓u_27, ↓u_28, ↓u_29, ↓u_31, ↓u_45, ↓u_46, ↓u_47, u_82, u_83, u_91, u_92, u_93, u_96, u_98, u_99, u_100, u_101, u_102, u_105, u_111, u_114, ↓u_135, u_160, ↓u_164, ↓u_173, u_195, u_197, u_199, u_200, u_201, u_202, u_206, u_207, u_210, u_211, u_212, u_213, u_214, u_216, u_217, u_219, u_220, u_223, u_234, ↓u_247, ↓u_301, u_329, u_349, u_421, ↓u_478, ↓u_479, ↓u_480, u_481, u_482, ↓u_486, u_489, ↓u_490, ↓u_491, ↓u_518, ↓u_519, ↓u_521, ↓u_525, ↓u_527, ↓u_529, ↓u_533, u_543, sbe_heaped_column, sbe_first_heaped, sbe_first_column, sbe_sink_heaped, sbe_sink_column, List.map_nil, List.map_cons, Nat.reduceSub, Nat.reduceAdd, Nat.reduceLT, Nat.reduceLeDiff, reduceIte, String.reduceBEq, String.reduceEq, Int.reduceLT, Int.reduceLE, Int.reduceEq, Int.reduceToNat, ha, hb, hd0, hx, hd, em, ed] | fail "ix" | (with_reducible refine rdDh_of (by with_reducible assumption) ?_) | (with_reducible refine cnd_T (by with_reducible assumption) ?_) | (with_reducible refine cnd_F (by with_reducible assumption) ?_) | (with_reducible refine cnd_yes (by omega) ?_) | (with_reducible refine cnd_no (by omega) ?_) | (with_reducible refine cnd_dec ?_ ?_) | (with_reducible refine cnd_of ?_ ?_) | fail "si" | fail))
    · refine callK_Heap_sink (c := c) (hp := hp.dropLast.set 0 (gr hp (hp.length - 1))) (hx _) (by rw [set_D]; exact oset_same) (dn_new hin) c0 (fun r m => ?_) (by rw [List.length_set, List.length_dropLast]; omega) fun hp' hh' hpm => ?_
      · rcases List.mem_or_eq_of_mem_set m with m | rfl
        · exact hw r (List.dropLast_subset _ m)
        · rw [gr_at (by omega)]; exact hw _ (List.getElem_mem _)
      · rw [oset_set]
        (repeat' (first | (with_reducible assumption) | (with_reducible intro _) | (with_reducible apply And.intro) | fail "ca" | simp -dsimp only [↓u_0, ↓u_16, ↓u_17, ↓u_18, ↓u_19, ↓u_21, ↓u_22, ↓u_25, ↓u_26, ↓u_27, ↓u_28, ↓u_29, ↓u_31, ↓u_45, ↓u_46, ↓u_47, u_82, u_83, u_91, u_92, u_93, u_96, u_98, u_99, u_100, u_101, u_102, u_105, u_111, u_114, ↓u_135, u_160, ↓u_164, ↓u_173, u_195, u_197, u_199, u_200, u_201, u_202, u_206, u_207, u_210, u_211, u_212, u_213, u_214, u_216, u_217, u_219, u_220, u_223, u_234, ↓u_247, ↓u_301, u_329, u_349, u_421, ↓u_478, ↓u_479, ↓u_480, u_481, u_482, ↓u_486, u_489, ↓u_490, ↓u_491, ↓u_518, ↓u_519, ↓u_521, ↓u_525, ↓u_527, ↓u_529, ↓u_533, u_543, sbe_heaped_column, sbe_first_heaped, sbe_first_column, sbe_sink_heaped, sbe_sink_column, List.map_nil, List.map_cons, Nat.reduceSub, Nat.reduceAdd, Nat.reduceLT, Nat.reduceLeDiff, reduceIte, String.reduceBEq, String.reduceEq, Int.reduceLT, Int.reduceLE, Int.reduceEq, Int.reduceToNat, ha] | fail "ix" | (with_reducible refine rdDh_of (by with_reducible assumption) ?_) | (with_reducible refine cnd_T (by with_reducible assumption) ?_) | (with_reducible refine cnd_F (by with_reducible assumption) ?_) | (with_reducible refine cnd_yes (by omega) ?_) | (with_reducible refine cnd_no (by omega) ?_) | (with_reducible refine cnd_dec ?_ ?_) | (with_reducible refine cnd_of ?_ ?_) | fail "si" | fail))
        exact h hp' hh' ((List.Perm.cons _ hpm).trans (take_perm (by omega)))
    · rename_i h1
      have h1' : hp.length = 1 := by omega
      obtain ⟨x, rfl⟩ := List.length_eq_one_iff.mp h1'
      exact h _ hin (List.Perm.refl _)
end
theorem ok_Heap_take {P : Program} {w : World} {K : PySem.W.Frag} {mg : Str → Option Value} {base : Heap} {f : Addr} {fd : FuncData} (F : FunD K "take" "Heap.take" (defArgs s_Heap_take) (defBody s_Heap_take) (defScope s_Heap_take) [] [] f fd) (T : Txt K mg) (D_Heap_sink : DefM P w K mg base "Heap" "sink" c_Heap_sink 2) (D_Heap_first : DefM P w K mg base "Heap" "first" c_Heap_first 1) : FnOk P w K mg base (L2.CX P w) 3 f fd ["self"] (toSp K c_Heap_take) :=
  (fn_ok (c := c_Heap_take) F sc_Heap_take rfl (fun cdv A outer s H E hr => d_Heap_take T D_Heap_sink D_Heap_first cdv A outer s H E hr) wp_Heap_take)
def df_law_rows : DF := fun ds om k xk => ∃ (a : Addr), ∃ (m : Int), ∃ (w : Int), ds = [.h a, .int m, .int w] ∧ (om a = some (.lstP DeckP)) ∧ (0 ≤ m) ∧ (m ≤ 1000) ∧ (0 ≤ w) ∧ (w ≤ 24) ∧ (∀ ns : List (List Int), ns.length = m.toNat → (∀ r ∈ ns, (r.length : Int) = w ∧ ∀ x ∈ r, Sm x) → k (.o (rowsD ns)) om)
theorem call_law_rows {om : Om} {k : RV → Om → Prop} {xk : Exn → Om → Prop} {a : Addr} {m : Int} {w : Int} (ha : om a = some (.lstP DeckP)) (m0 : 0 ≤ m) (m1 : m ≤ 1000) (w0 : 0 ≤ w) (w1 : w ≤ 24) (h : ∀ ns : List (List Int), ns.length = m.toNat → (∀ r ∈ ns, (r.length : Int) = w ∧ ∀ x ∈ r, Sm x) → k (.o (rowsD ns)) om) : df_law_rows [.h a, .int m, .int w] om k xk := ⟨a, m, w, rfl, ha, m0, m1, w0, w1, h⟩
def c_law_rows : Con := ⟨3, df_law_rows, by intro ds om k xk h; obtain ⟨a, m, w, rfl, _, _, _, _, _, _⟩ := h; rfl, by intro ds om k k' xk xk' hk hx h; obtain ⟨a, m, w, e_, ha, m0, m1, w0, w1, h⟩ := h; refine ⟨a, m, w, e_, ha, m0, m1, w0, w1, ?_⟩; first | exact hk _ _ h | exact hx _ _ h | exact fun hq => hk _ _ (h hq) | (intros; apply hk; apply h <;> assumption) | (simp only [cnd] at h ⊢; grind) | grind⟩
theorem callK_law_rows {om : Om} {k : RV → Om → Prop} {xk : Exn → Om → Prop} {a : Addr} {m : Int} {w : Int} {t : Tg (df_law_rows, k, xk)} (ha : om a = some (.lstP DeckP)) (m0 : 0 ≤ m) (m1 : m ≤ 1000) (w0 : 0 ≤ w) (w1 : w ≤ 24) (h : ∀ ns : List (List Int), ns.length = m.toNat → (∀ r ∈ ns, (r.length : Int) = w ∧ ∀ x ∈ r, Sm x) → k (.o (rowsD ns)) om) : callK df_law_rows [.h a, .int m, .int w] om k xk t := call_law_rows ha m0 m1 w0 w1 h
def w_law_rows : WS :=
  (wSeq (wAsg (wFz (wLc (wiR1 (wCons (wBor 2) wNil)) (gN 4) wYes (wCall df_law_next [] (wCons (wVar 0) (wCons (wC (.int 5)) wNil))) [4])) (gN 3)) (wSeq (wAsg (wLst wNil) (gN 5)) (wSeq (wFor (wiR1 (wCons (wBor 1) wNil)) (gN 6) (wSeq (wAsg (wFz (wCB pTuple (wCons (wLc (wiA (wVar 3)) (gN 8) wYes (wCall df_law_number [] (wCons (wVar 0) (wCons (wVar 8) wNil))) [8]) wNil))) (gN 7)) (wSeq (wIfS (wAnd (wTst (wOp pGtA (wBor 6) (wC (.int 0)))) (wTst (wOp pEq (wCall df_law_next [] (wCons (wVar 0) (wCons (wC (.int 5)) wNil))) (wC (.int 0))))) (wAsg (wFz (wOp pIx (wBor 5) (wCall df_law_next [] (wCons (wVar 0) (wCons (wVar 6) wNil))))) (gN 7)) wNext) (wDrop (wMut 5 mApp (wCons (wVar 7) wNil)))))) (wRet (wMov 5)))))
theorem d_law_rows {P : Program} {w : World} {K : PySem.W.Frag} {mg : Str → Option Value} {base : Heap} {f : Addr} (T : Txt K mg) (D_law_next : Def P w K mg base "_law_next" c_law_next 1) (D_law_number : Def P w K mg base "_law_number" c_law_number 2) (cdv : Value) (A : Around) (outer : List PySem.Env) (s : Shared) (H : Hp) (E : XK) (hr : Room 2 (A.deeper (PyProof.Rows.envOfC "_law_rows" (defScope s_law_rows) s.heap.objs.size f cdv))) :
    ∃ t, DSs (cxOf (L2.CX P w) P w K mg base ["_law_state_here", "_law_many", "_law_width_here", "_law_ways", "_law_column", "_law_found", "_law_k", "_law_row", "_law_way"] "_law_rows" (defScope s_law_rows) f cdv A outer s H E) (fun cls d _ H => E cls d H) (defBody s_law_rows) t w_law_rows :=
  ⟨_, (dss_cons (ds_setLcF 3 (own := [("_law_column", 4)]) rfl sc_law_rows.nd (di_r1 T.n_range (da_cons (de_bor 2) da_nil)) (by kernel_rfl) (fun _ _ _ _ _ => (dgv_name 4 sc_law_rows.nd)) (fun _ _ _ _ _ => dts_nil) (fun _ _ _ _ _ => (de_call' (K' := K) (c := c_law_next) D_law_next (hr.mono (by decide)) takes0 (da_cons (de_var 0) (da_cons de_int da_nil)))) s (sw_true rfl rfl rfl (by decide +kernel))) (dss_cons (ds_set 5 sc_law_rows.nd (de_lst da_nil)) (dss_cons (ds_for (passes_of rfl) rfl (di_r1 T.n_range (da_cons (de_bor 1) da_nil)) (dg_name 6 sc_law_rows.nd) (dss_cons (ds_set 7 sc_law_rows.nd (de_fz (de_ct n_tuple T.n_tuple (by decide +kernel) (da_cons (de_lc (own := [("_law_way", 8)]) rfl sc_law_rows.nd (di_any (de_var 3) (K' := K)) (by kernel_rfl) (fun _ _ _ _ _ => (dgv_name 8 sc_law_rows.nd)) (fun _ _ _ _ _ => dts_nil) (fun _ _ _ _ _ => (de_call' (K' := K) (c := c_law_number) D_law_number (hr.mono (by decide)) takes0 (da_cons (de_var 0) (da_cons (de_var 8) da_nil)))) s) da_nil)))) (dss_cons (ds_if (DW.dt (dw_and (dt_cmp (o_gtA hr) (de_bor 6) de_int) (dw_and1 (dt_cmp (o_eq hr) (de_call (c := c_law_next) D_law_next (hr.mono (by decide)) (takes_of rfl rfl rfl rfl) (da_cons (de_var 0) (da_cons de_int da_nil))) de_int)))) (dss_one (ds_set 7 sc_law_rows.nd (de_fz (de_ix (de_bor 5) (de_call (c := c_law_next) D_law_next (hr.mono (by decide)) (takes_of rfl rfl rfl rfl) (da_cons (de_var 0) (da_cons (de_var 6) da_nil))))))) dss_nil) (dss_one (ds_drop (de_app 5 (de_var 7))))))) (dss_one (ds_retV 5)))))⟩
local macro_rules | `(tactic| fail "ca") => `(tactic| (with_reducible refine ca_guard ?_; first | with_reducible refine callK_less ?_ ?_ ?_ ?_ | with_reducible refine callK_Heap_len (by with_reducible assumption) (by with_reducible assumption) ?_ | with_reducible refine callK_Heap_first (by with_reducible assumption) (by with_reducible assumption) ?_ | with_reducible refine callK_Heap_told (by with_reducible assumption) (by with_reducible assumption) ?_ | with_reducible refine callK_law_state ?_ | with_reducible refine callK_law_next (by with_reducible assumption) ?_ ?_ ?_ | with_reducible refine callK_law_less ?_ ?_ ?_ ?_ | with_reducible refine callK_law_names ?_ ?_ | with_reducible refine callK_Heap_put (by with_reducible assumption) (by with_reducible assumption) ?_ ?_ ?_ ?_ ?_ ?_ | with_reducible refine callK_Heap_sink (by with_reducible assumption) (by with_reducible assumption) ?_ ?_ ?_ ?_ ?_ | with_reducible refine callK_law_number (by with_reducible assumption) ?_ ?_ ?_ | with_reducible refine callK_law_width (by with_reducible assumption) ?_ | with_reducible refine callK_law_least ?_ ?_ ?_ ?_ ?_ | with_reducible refine callK_Heap_init (by with_reducible assumption) (by with_reducible assumption) ?_ ?_ ?_ ?_ | with_reducible refine callK_Heap_take (by with_reducible assumption) (by with_reducible assumption) ?_ ?_ ?_ ?_ ?_ | with_reducible refine callK_law_rows (by with_reducible assumption) ?_ ?_ ?_ ?_ ?_))

section
local macro_rules | `(tactic| fail "d1") => `(tactic| simp -dsimp only [↓u_0, ↓u_16, ↓u_17, ↓u_18, ↓u_19, ↓u_21, ↓u_22, ↓u_25, ↓u_26, ↓u_27, ↓u_28, ↓u_29, ↓u_31, ↓u_32, ↓u_44, ↓u_45, ↓u_46, ↓u_47, ↓u_49, ↓u_57, ↓u_58, ↓u_62, ↓u_63, ↓u_64, ↓u_66, u_67, ↓u_68, ↓u_77, u_82, u_83, u_86, u_93, u_95, u_96, u_98, u_99, u_100, u_101, u_102, u_103, u_105, u_112, u_117, ↓u_137, ↓u_142, u_152, u_160, u_161, ↓u_164, ↓u_173, ↓u_191, u_195, u_197, u_199, u_200, u_201, u_202, u_206, u_207, u_209, u_210, u_211, u_212, u_213, u_214, u_216, u_217, u_219, u_236, u_237, ↓u_287, ↓u_301, u_329, ↓u_518, ↓u_519, ↓u_522, ↓u_525, ↓u_526, ↓u_527, ↓u_530, ↓u_531, ↓u_534, u_543, List.length_append, List.map_nil, List.map_append, List.map_cons, Nat.reduceSub, Nat.reduceAdd, Nat.reduceLT, Nat.reduceLeDiff, reduceIte, String.reduceBEq, String.reduceEq, Int.reduceLT, Int.reduceLE, Int.reduceEq, Int.reduceToNat])
local macro_rules | `(tactic| fail "dl") => `(tactic| try fail "d1")
theorem wp_law_rows (ds : List D) (om : Om) (k : RV → Om → Prop) (xk : Exn → Om → Prop) (h : df_law_rows ds om k xk) : w_law_rows (endOf k xk) (startE 9 ds) om := by
  obtain ⟨a, m, w, rfl, ha, m0, m1, w0, w1, h⟩ := h
  unfold w_law_rows endOf
  fail "gs"
  refine lc_list (fun i acc r om' => om' = om ∧ r = [some (.v (.h a)), some (.v (.int m)), some (.v (.int w)), none, none, none, none, none, none] ∧ ∃ ws : List Int, acc = ws.map D.int ∧ ws.length = i ∧ ∀ x ∈ ws, 0 ≤ x ∧ x < 5) ⟨rfl, rfl, [], rfl, rfl, by simp⟩ ?_ ?_
  · rintro i d acc r om' nx e ⟨rfl, rfl, ws, rfl, rfl, hw⟩ hn
    have hi := (rng_get e).1
    fail "gs"
    rename_i z z0 z1
    refine hn _ _ _ ⟨rfl, rfl, ws ++ [z], by simp, by simp, fun x mx => ?_⟩
    rcases List.mem_append.mp mx with mx | mx
    · exact hw x mx
    · rw [List.mem_singleton.mp mx]; exact ⟨z0, z1⟩
  · rintro acc r om' ⟨rfl, rfl, ws, rfl, hl, hw⟩
    rw [rng_len] at hl
    fail "gs"
    refine loop_rng (fun i r om'' => om'' = om' ∧ ∃ (ns : List (List Int)) (x6 x7 : Option RV), ns.length = i ∧ (∀ r ∈ ns, (r.length : Int) = w ∧ ∀ x ∈ r, Sm x) ∧
      r = [some (.v (.h a)), some (.v (.int m)), some (.v (.int w)), some (.v (.lst (ws.map D.int))), none, some (.o (rowsD ns)), x6, x7, none])
      ⟨rfl, [], none, none, rfl, by simp, rfl⟩ ?_ ?_
    · rintro i r om'' nx hi ⟨rfl, ns, x6, x7, rfl, hns, rfl⟩ hn
      have lns : (rowsD ns).length = ns.length := by simp [rowsD]
      have key : ∀ r0 : List Int, ((r0.length : Int) = w ∧ ∀ x ∈ r0, Sm x) → ∀ x6 x7, nx [some (.v (.h a)), some (.v (.int m)), some (.v (.int w)), some (.v (.lst (ws.map D.int))), none, some (.o (rowsD ns ++ [rowD r0])), x6, x7, none] om'' := fun r0 h0 x6 x7 =>
        hn _ _ ⟨rfl, ns ++ [r0], x6, x7, by simp, fun q mq => by
          rcases List.mem_append.mp mq with mq | mq
          · exact hns q mq
          · rw [List.mem_singleton.mp mq]; exact h0, by simp [rowsD]⟩
      unfold stepOf; fail "gs"
      refine lc_list (fun i acc r om' => om' = om'' ∧ r = [some (.v (.h a)), some (.v (.int m)), some (.v (.int w)), some (.v (.lst (ws.map D.int))), none, some (.o (rowsD ns)), some (.v (.int (0 + (ns.length : Int)))), x7, none] ∧ ∃ q : List Int, acc = q.map D.int ∧ q.length = i ∧ ∀ x ∈ q, Sm x) ⟨rfl, rfl, [], rfl, rfl, by simp⟩ ?_ ?_
      · rintro j d acc r om3 nx2 e ⟨rfl, rfl, q, rfl, rfl, hq⟩ hn2
        obtain ⟨y, my, rfl⟩ := List.mem_map.mp (List.mem_of_getElem? e)
        obtain ⟨y0, y1⟩ := hw y my
        have hj := (List.getElem?_eq_some_iff.mp e).1
        rw [List.length_map] at hj
        fail "gs"
        rename_i z z0
        refine hn2 _ _ _ ⟨rfl, rfl, q ++ [z], by simp, by simp, fun x mx => ?_⟩
        rcases List.mem_append.mp mx with mx | mx
        · exact hq x mx
        · rw [List.mem_singleton.mp mx]; exact z0
      · rintro acc r om3 ⟨rfl, rfl, q, rfl, hq1, hq⟩
        rw [List.length_map] at hq1
        have kq := key q ⟨by omega, hq⟩
        fail "gs"
        · rename_i z z0 z1
          exact key _ (hns _ (getD_mem z0 (by omega))) _ _
        · exact kq _ _
        · exact kq _ _
    · rintro r om'' ⟨rfl, ns, x6, x7, hl2, hns, rfl⟩
      fail "gs"
      exact h ns hl2 hns
end
theorem ok_law_rows {P : Program} {w : World} {K : PySem.W.Frag} {mg : Str → Option Value} {base : Heap} {f : Addr} {fd : FuncData} (F : FunD K "_law_rows" "_law_rows" (defArgs s_law_rows) (defBody s_law_rows) (defScope s_law_rows) [] [] f fd) (T : Txt K mg) (D_law_next : Def P w K mg base "_law_next" c_law_next 1) (D_law_number : Def P w K mg base "_law_number" c_law_number 2) : FnOk P w K mg base (L2.CX P w) 3 f fd ["_law_state_here", "_law_many", "_law_width_here"] (toSp K c_law_rows) :=
  (fn_ok (c := c_law_rows) F sc_law_rows rfl (fun cdv A outer s H E hr => d_law_rows T D_law_next D_law_number cdv A outer s H E hr) wp_law_rows)
def df_law_none_held : DF := fun ds om k xk => ∃ (a : Addr), ∃ (b : Addr), ∃ (c : Int), ∃ (v : Bool), ds = [.h a, .bl v] ∧ (om a = some (HpO c b)) ∧ (om b = some (.lst (rowsD []))) ∧ (0 ≤ c) ∧ (k (.v (.bl true)) om)
theorem call_law_none_held {om : Om} {k : RV → Om → Prop} {xk : Exn → Om → Prop} {a : Addr} {b : Addr} {c : Int} {v : Bool} (ha : om a = some (HpO c b)) (hb : om b = some (.lst (rowsD []))) (c0 : 0 ≤ c) (h : k (.v (.bl true)) om) : df_law_none_held [.h a, .bl v] om k xk := ⟨a, b, c, v, rfl, ha, hb, c0, h⟩
def c_law_none_held : Con := ⟨2, df_law_none_held, by intro ds om k xk h; obtain ⟨a, b, c, v, rfl, _, _, _, _⟩ := h; rfl, by intro ds om k k' xk xk' hk hx h; obtain ⟨a, b, c, v, e_, ha, hb, c0, h⟩ := h; refine ⟨a, b, c, v, e_, ha, hb, c0, ?_⟩; first | exact hk _ _ h | exact hx _ _ h | exact fun hq => hk _ _ (h hq) | (intros; apply hk; apply h <;> assumption) | (simp only [cnd] at h ⊢; grind) | grind⟩
theorem callK_law_none_held {om : Om} {k : RV → Om → Prop} {xk : Exn → Om → Prop} {a : Addr} {b : Addr} {c : Int} {v : Bool} {t : Tg (df_law_none_held, k, xk)} (ha : om a = some (HpO c b)) (hb : om b = some (.lst (rowsD []))) (c0 : 0 ≤ c) (h : k (.v (.bl true)) om) : callK df_law_none_held [.h a, .bl v] om k xk t := call_law_none_held ha hb c0 h
def w_law_none_held : WS :=
  (wSeq (wAsg (wC .non) (gN 2)) (wSeq (wTryAs 3 (XSd.sub "SpillError") (wIfS (wTru (wBor 1)) (wDrop (wMeth "Heap" "take" df_Heap_take (wBor 0) wNil)) (wDrop (wMeth "Heap" "first" df_Heap_first (wBor 0) wNil))) (wAsg (wVar 3) (gN 2))) (wRet (wAndV (wOp pNotNo (wBor 2) (wC .non)) (wAndV (wCB (pIsX XSd.tab) (wCons (wVar 2) (wCons (wC (.raw (.ty "ValueError"))) wNil))) (wOp pEq (wCall df_law_names [] (wCons (wVar 2) wNil)) (wLst (wCons (wC (.str "NoneHeld")) wNil))))))))
theorem d_law_none_held {P : Program} {w : World} {K : PySem.W.Frag} {mg : Str → Option Value} {base : Heap} {f : Addr} (T : Txt K mg) (D_law_names : Def P w K mg base "_law_names" c_law_names 1) (D_Heap_take : DefM P w K mg base "Heap" "take" c_Heap_take 3) (D_Heap_first : DefM P w K mg base "Heap" "first" c_Heap_first 1) (cdv : Value) (A : Around) (outer : List PySem.Env) (s : Shared) (H : Hp) (E : XK) (hr : Room 3 (A.deeper (PyProof.Rows.envOfC "_law_none_held" (defScope s_law_none_held) s.heap.objs.size f cdv))) :
    ∃ t, DSs (cxOf (L2.CX P w) P w K mg base ["_law_heap", "_law_leaving", "_law_caught", "_law_error"] "_law_none_held" (defScope s_law_none_held) f cdv A outer s H E) (fun cls d _ H => E cls d H) (defBody s_law_none_held) t w_law_none_held :=
  ⟨_, (dss_cons (ds_set 2 sc_law_none_held.nd de_non) (dss_cons (ds_tryAs 3 sc_law_none_held.nd ⟨rfl, by decide, .inl T.g_SpillError⟩ (takes_of rfl rfl rfl rfl) T.sub_SpillError (fun _ _ _ tk1 hp1 => (dss_one (ds_if (dt_tru' (K' := K) (de_bor 1)) (dss_one (ds_drop (de_meth0 (cn := c_Heap_take) D_Heap_take (hr.mono (by decide)) tk1 (de_bor 0) (K' := K)))) (dss_one (ds_drop (de_meth0 (cn := c_Heap_first) D_Heap_first (hr.mono (by decide)) tk1 (de_bor 0) (K' := K))))))) (fun _ _ => (dss_one (ds_set 2 sc_law_none_held.nd (de_var 3))))) (dss_one (ds_ret (de_and (de_cmp o_notN (de_bor 2) de_non) (de_and (de_cb (n_isX' (K' := K) T.tab) T.n_isinstance (by decide +kernel) (da_cons (de_var 2) (da_cons (de_ty T.n_ValueError (by decide +kernel)) da_nil))) (de_one (de_cmp (o_eq hr) (de_call (c := c_law_names) D_law_names (hr.mono (by decide)) (takes_of rfl rfl rfl rfl) (da_cons (de_var 2) da_nil)) (de_lst (da_cons de_str da_nil))))))))))⟩
local macro_rules | `(tactic| fail "ca") => `(tactic| (with_reducible refine ca_guard ?_; first | with_reducible refine callK_less ?_ ?_ ?_ ?_ | with_reducible refine callK_Heap_len (by with_reducible assumption) (by with_reducible assumption) ?_ | with_reducible refine callK_Heap_first (by with_reducible assumption) (by with_reducible assumption) ?_ | with_reducible refine callK_Heap_told (by with_reducible assumption) (by with_reducible assumption) ?_ | with_reducible refine callK_law_state ?_ | with_reducible refine callK_law_next (by with_reducible assumption) ?_ ?_ ?_ | with_reducible refine callK_law_less ?_ ?_ ?_ ?_ | with_reducible refine callK_law_names ?_ ?_ | with_reducible refine callK_Heap_put (by with_reducible assumption) (by with_reducible assumption) ?_ ?_ ?_ ?_ ?_ ?_ | with_reducible refine callK_Heap_sink (by with_reducible assumption) (by with_reducible assumption) ?_ ?_ ?_ ?_ ?_ | with_reducible refine callK_law_number (by with_reducible assumption) ?_ ?_ ?_ | with_reducible refine callK_law_width (by with_reducible assumption) ?_ | with_reducible refine callK_law_least ?_ ?_ ?_ ?_ ?_ | with_reducible refine callK_Heap_init (by with_reducible assumption) (by with_reducible assumption) ?_ ?_ ?_ ?_ | with_reducible refine callK_Heap_take (by with_reducible assumption) (by with_reducible assumption) ?_ ?_ ?_ ?_ ?_ | with_reducible refine callK_law_rows (by with_reducible assumption) ?_ ?_ ?_ ?_ ?_ | with_reducible refine callK_law_none_held (by with_reducible assumption) (by with_reducible assumption) ?_ ?_))

section
local macro_rules | `(tactic| fail "d1") => `(tactic| simp -dsimp only [↓u_0, ↓u_16, ↓u_17, ↓u_18, ↓u_19, ↓u_21, ↓u_25, ↓u_26, ↓u_28, ↓u_29, ↓u_31, ↓u_32, ↓u_44, ↓u_45, ↓u_46, ↓u_48, ↓u_52, u_81, u_82, u_89, u_93, u_94, u_98, u_99, u_100, u_101, u_102, u_105, u_106, u_160, ↓u_164, u_195, u_197, u_199, u_200, u_201, u_202, u_206, u_207, u_209, u_210, u_211, u_212, u_213, u_214, u_216, u_217, u_220, u_223, u_234, ↓u_259, ↓u_281, ↓u_297, u_303, ↓u_305, u_313, ↓u_317, u_329, ↓u_479, ↓u_480, u_481, u_482, ↓u_486, ↓u_518, ↓u_519, ↓u_521, ↓u_522, ↓u_525, ↓u_527, tab_NoneHeld_ValueError, sub_SpillError_NoneHeld, sbe_first_heaped, sbe_first_column, sbe_take_heaped, sbe_take_column, List.map_nil, List.map_cons, Nat.reduceSub, Nat.reduceAdd, Nat.reduceLT, Nat.reduceLeDiff, reduceIte, String.reduceBEq, String.reduceEq, Int.reduceLT, Int.reduceLE, Int.reduceEq, Int.reduceToNat])
local macro_rules | `(tactic| fail "dl") => `(tactic| try fail "d1")
theorem wp_law_none_held (ds : List D) (om : Om) (k : RV → Om → Prop) (xk : Exn → Om → Prop) (h : df_law_none_held ds om k xk) : w_law_none_held (endOf k xk) (startE 4 ds) om := by
  obtain ⟨a, b, c, v, rfl, ha, hb, c0, h⟩ := h
  unfold w_law_none_held endOf
  have hh := hp_nil c.toNat
  have hw : ∀ r ∈ ([] : List (List Int)), c < r.length := by simp
  have f1 : okE (.lst [.str "NoneHeld"]) := okE_of (by decide +kernel) (by simp [dep, deps])
  have f2 : eqD (.lst [.str "NoneHeld"]) (.lst [.str "NoneHeld"]) = true := eqD_self (by decide +kernel)
  cases v
  · (repeat' (first | (with_reducible assumption) | (with_reducible intro _) | (with_reducible apply And.intro) | fail "ca" | simp -dsimp only [↓u_0, ↓u_16, ↓u_17, ↓u_18, ↓u_19, ↓u_21, ↓u_25, ↓u_26, ↓u_28, ↓u_29, ↓u_31, ↓u_32, ↓u_44, ↓u_45, ↓u_46, ↓u_48, ↓u_52, u_81, u_82, u_89, u_93, u_94, u_98, u_99, u_100, u_101, u_102, u_105, u_106, u_160, ↓u_164, u_195, u_197, u_199, u_200, u_201, u_202, u_206, u_207, u_209, u_210, u_211, u_212, u_213, u_214, u_216, u_217, u_220, u_223, u_234, ↓u_259, ↓u_281, ↓u_297, u_303, ↓u_305, u_313, ↓u_317, u_329, ↓u_479, ↓u_480, u_481, u_482, ↓u_486, ↓u_518, ↓u_519, ↓u_521, ↓u_522, ↓u_525, ↓u_527, tab_NoneHeld_ValueError, sub_SpillError_NoneHeld, sbe_first_heaped, sbe_first_column, sbe_take_heaped, sbe_take_column, List.map_nil, List.map_cons, Nat.reduceSub, Nat.reduceAdd, Nat.reduceLT, Nat.reduceLeDiff, reduceIte, String.reduceBEq, String.reduceEq, Int.reduceLT, Int.reduceLE, Int.reduceEq, Int.reduceToNat, ha, hb] | fail "ix" | (with_reducible refine rdDh_of (by with_reducible assumption) ?_) | (with_reducible refine cnd_T (by with_reducible assumption) ?_) | (with_reducible refine cnd_F (by with_reducible assumption) ?_) | (with_reducible refine cnd_yes (by omega) ?_) | (with_reducible refine cnd_no (by omega) ?_) | (with_reducible refine cnd_dec ?_ ?_) | (with_reducible refine cnd_of ?_ ?_) | fail "si" | fail))
    all_goals first | exact h | skip
  · (repeat' (first | (with_reducible assumption) | (with_reducible intro _) | (with_reducible apply And.intro) | fail "ca" | simp -dsimp only [↓u_0, ↓u_16, ↓u_17, ↓u_18, ↓u_19, ↓u_21, ↓u_25, ↓u_26, ↓u_28, ↓u_29, ↓u_31, ↓u_32, ↓u_44, ↓u_45, ↓u_46, ↓u_48, ↓u_52, u_81, u_82, u_89, u_93, u_94, u_98, u_99, u_100, u_101, u_102, u_105, u_106, u_160, ↓u_164, u_195, u_197, u_199, u_200, u_201, u_202, u_206, u_207, u_209, u_210, u_211, u_212, u_213, u_214, u_216, u_217, u_220, u_223, u_234, ↓u_259, ↓u_281, ↓u_297, u_303, ↓u_305, u_313, ↓u_317, u_329, ↓u_479, ↓u_480, u_481, u_482, ↓u_486, ↓u_518, ↓u_519, ↓u_521, ↓u_522, ↓u_525, ↓u_527, tab_NoneHeld_ValueError, sub_SpillError_NoneHeld, sbe_first_heaped, sbe_first_column, sbe_take_heaped, sbe_take_column, List.map_nil, List.map_cons, Nat.reduceSub, Nat.reduceAdd, Nat.reduceLT, Nat.reduceLeDiff, reduceIte, String.reduceBEq, String.reduceEq, Int.reduceLT, Int.reduceLE, Int.reduceEq, Int.reduceToNat, ha, hb] | fail "ix" | (with_reducible refine rdDh_of (by with_reducible assumption) ?_) | (with_reducible refine cnd_T (by with_reducible assumption) ?_) | (with_reducible refine cnd_F (by with_reducible assumption) ?_) | (with_reducible refine cnd_yes (by omega) ?_) | (with_reducible refine cnd_no (by omega) ?_) | (with_reducible refine cnd_dec ?_ ?_) | (with_reducible refine cnd_of ?_ ?_) | fail "si" | fail))
    all_goals first | exact h | skip
end
theorem ok_law_none_held {P : Program} {w : World} {K : PySem.W.Frag} {mg : Str → Option Value} {base : Heap} {f : Addr} {fd : FuncData} (F : FunD K "_law_none_held" "_law_none_held" (defArgs s_law_none_held) (defBody s_law_none_held) (defScope s_law_none_held) [] [] f fd) (T : Txt K mg) (D_law_names : Def P w K mg base "_law_names" c_law_names 1) (D_Heap_take : DefM P w K mg base "Heap" "take" c_Heap_take 3) (D_Heap_first : DefM P w K mg base "Heap" "first" c_Heap_first 1) : FnOk P w K mg base (L2.CX P w) 4 f fd ["_law_heap", "_law_leaving"] (toSp K c_law_none_held) :=
  (fn_ok (c := c_law_none_held) F sc_law_none_held rfl (fun cdv A outer s H E hr => d_law_none_held T D_law_names D_Heap_take D_Heap_first cdv A outer s H E hr) wp_law_none_held)
def df_law_alike : Nat → DF
  | 0 => fun _ _ _ _ => False
  | n + 1 => fun ds om k xk => ∃ (d : D), ds = [d, d] ∧ (alk d = true) ∧ (dep d ≤ n) ∧ (k (.v (.bl true)) om)
theorem call_law_alike {n : Nat} {om : Om} {k : RV → Om → Prop} {xk : Exn → Om → Prop} {d : D} (hc : alk d = true) (hd : dep d ≤ n) (h : k (.v (.bl true)) om) : (df_law_alike (n + 1)) [d, d] om k xk := ⟨d, rfl, hc, hd, h⟩
def c_law_alike (n : Nat) : Con := ⟨2, df_law_alike n, by intro ds om k xk h; cases n with | zero => exact h.elim | succ n => (obtain ⟨d, rfl, _, _, _⟩ := h; rfl), by intro ds om k k' xk xk' hk hx h; cases n with | zero => exact h.elim | succ n => (obtain ⟨d, e_, hc, hd, h⟩ := h; refine ⟨d, e_, hc, hd, ?_⟩; first | exact hk _ _ h | exact hx _ _ h | exact fun hq => hk _ _ (h hq) | (intros; apply hk; apply h <;> assumption) | (simp only [cnd] at h ⊢; grind) | grind)⟩
theorem callK_law_alike {n : Nat} {om : Om} {k : RV → Om → Prop} {xk : Exn → Om → Prop} {d : D} {t : Tg ((df_law_alike (n + 1)), k, xk)} (hc : alk d = true) (hd : dep d ≤ n) (h : k (.v (.bl true)) om) : callK (df_law_alike (n + 1)) [d, d] om k xk t := call_law_alike hc hd h
def w_law_alike (n : Nat) : WS :=
  (wSeq (wIfS (wTru (wCB pIsi (wCons (wBor 1) (wCons (wC (.raw (.ty "int"))) wNil)))) (wRet (wAndV (wCB pIsi (wCons (wBor 0) (wCons (wC (.raw (.ty "int"))) wNil))) (wAndV (wNotV (wCB pIsi (wCons (wBor 0) (wCons (wC (.raw (.ty "bool"))) wNil)))) (wOp pEq (wBor 0) (wBor 1))))) wNext) (wSeq (wIfS (wAnd (wTru (wCB pIsi (wCons (wBor 1) (wCons (wC (.raw (.ty "list"))) wNil)))) (wNot (wTru (wCB pIsi (wCons (wBor 0) (wCons (wC (.raw (.ty "list"))) wNil)))))) (wRet (wC (.bl false))) wNext) (wSeq (wIfS (wAnd (wTru (wCB pIsi (wCons (wBor 1) (wCons (wC (.raw (.ty "tuple"))) wNil)))) (wNot (wTru (wCB pIsi (wCons (wBor 0) (wCons (wC (.raw (.ty "tuple"))) wNil)))))) (wRet (wC (.bl false))) wNext) (wSeq (wIfS (wTst (wOp pNe (wCB pLen (wCons (wBor 0) wNil)) (wCB pLen (wCons (wBor 1) wNil)))) (wRet (wC (.bl false))) wNext) (wSeq (wFor (wiZipA (wCons (wVar 0) (wCons (wVar 1) wNil))) (gT 2 (gsCons 2 (gsCons 3 gsNil))) (wIfS (wNot (wTru (wCall (df_law_alike n) [] (wCons (wVar 2) (wCons (wVar 3) wNil))))) (wRet (wC (.bl false))) wNext)) (wRet (wC (.bl true))))))))
theorem d_law_alike {P : Program} {w : World} {K : PySem.W.Frag} {mg : Str → Option Value} {base : Heap} {f : Addr} (n : Nat) (T : Txt K mg) (D_law_alike : Def P w K mg base "_law_alike" (c_law_alike n) (1 + n)) (cdv : Value) (A : Around) (outer : List PySem.Env) (s : Shared) (H : Hp) (E : XK) (hr : Room (1 + n) (A.deeper (PyProof.Rows.envOfC "_law_alike" (defScope s_law_alike) s.heap.objs.size f cdv))) :
    ∃ t, DSs (cxOf (L2.CX P w) P w K mg base ["_law_found", "_law_due", "_law_one", "_law_other"] "_law_alike" (defScope s_law_alike) f cdv A outer s H E) (fun cls d _ H => E cls d H) (defBody s_law_alike) t (w_law_alike n) :=
  ⟨_, (dss_cons (ds_if (dt_tru (de_cb n_isi T.n_isinstance (by decide +kernel) (da_cons (de_bor 1) (da_cons (de_ty T.n_int (by decide +kernel)) da_nil)))) (dss_one (ds_ret (de_and (de_cb n_isi T.n_isinstance (by decide +kernel) (da_cons (de_bor 0) (da_cons (de_ty T.n_int (by decide +kernel)) da_nil))) (de_and (de_not (de_cb n_isi T.n_isinstance (by decide +kernel) (da_cons (de_bor 0) (da_cons (de_ty T.n_bool (by decide +kernel)) da_nil)))) (de_one (de_cmp (o_eq hr) (de_bor 0) (de_bor 1))))))) dss_nil) (dss_cons (ds_if (DW.dt (dw_and (dt_tru (de_cb n_isi T.n_isinstance (by decide +kernel) (da_cons (de_bor 1) (da_cons (de_ty T.n_list (by decide +kernel)) da_nil)))) (dw_and1 (dt_not (dt_tru (de_cb n_isi T.n_isinstance (by decide +kernel) (da_cons (de_bor 0) (da_cons (de_ty T.n_list (by decide +kernel)) da_nil)))))))) (dss_one (ds_ret de_bl)) dss_nil) (dss_cons (ds_if (DW.dt (dw_and (dt_tru (de_cb n_isi T.n_isinstance (by decide +kernel) (da_cons (de_bor 1) (da_cons (de_ty T.n_tuple (by decide +kernel)) da_nil)))) (dw_and1 (dt_not (dt_tru (de_cb n_isi T.n_isinstance (by decide +kernel) (da_cons (de_bor 0) (da_cons (de_ty T.n_tuple (by decide +kernel)) da_nil)))))))) (dss_one (ds_ret de_bl)) dss_nil) (dss_cons (ds_if (dt_cmp (o_ne hr) (de_cb n_len T.n_len (by decide +kernel) (da_cons (de_bor 0) da_nil)) (de_cb n_len T.n_len (by decide +kernel) (da_cons (de_bor 1) da_nil))) (dss_one (ds_ret de_bl)) dss_nil) (dss_cons (ds_for (passes_of rfl) rfl (di_zipA T.n_zip (da_cons (de_var 0) (da_cons (de_var 1) da_nil)) (K' := K)) (dg_tup rfl (dgs_cons 2 sc_law_alike.nd (dgs_cons 3 sc_law_alike.nd dgs_nil))) (dss_one (ds_if (dt_not (dt_tru (de_call (c := (c_law_alike n)) D_law_alike (hr.mono (by omega)) (takes_of rfl rfl rfl rfl) (da_cons (de_var 2) (da_cons (de_var 3) da_nil))))) (dss_one (ds_ret de_bl)) dss_nil))) (dss_one (ds_ret de_bl)))))))⟩
local macro_rules | `(tactic| fail "ca") => `(tactic| (with_reducible refine ca_guard ?_; first | with_reducible refine callK_less ?_ ?_ ?_ ?_ | with_reducible refine callK_Heap_len (by with_reducible assumption) (by with_reducible assumption) ?_ | with_reducible refine callK_Heap_first (by with_reducible assumption) (by with_reducible assumption) ?_ | with_reducible refine callK_Heap_told (by with_reducible assumption) (by with_reducible assumption) ?_ | with_reducible refine callK_law_state ?_ | with_reducible refine callK_law_next (by with_reducible assumption) ?_ ?_ ?_ | with_reducible refine callK_law_less ?_ ?_ ?_ ?_ | with_reducible refine callK_law_names ?_ ?_ | with_reducible refine callK_Heap_put (by with_reducible assumption) (by with_reducible assumption) ?_ ?_ ?_ ?_ ?_ ?_ | with_reducible refine callK_Heap_sink (by with_reducible assumption) (by with_reducible assumption) ?_ ?_ ?_ ?_ ?_ | with_reducible refine callK_law_number (by with_reducible assumption) ?_ ?_ ?_ | with_reducible refine callK_law_width (by with_reducible assumption) ?_ | with_reducible refine callK_law_least ?_ ?_ ?_ ?_ ?_ | with_reducible refine callK_Heap_init (by with_reducible assumption) (by with_reducible assumption) ?_ ?_ ?_ ?_ | with_reducible refine callK_Heap_take (by with_reducible assumption) (by with_reducible assumption) ?_ ?_ ?_ ?_ ?_ | with_reducible refine callK_law_rows (by with_reducible assumption) ?_ ?_ ?_ ?_ ?_ | with_reducible refine callK_law_none_held (by with_reducible assumption) (by with_reducible assumption) ?_ ?_ | with_reducible refine callK_law_alike ?_ ?_ ?_))

section
local macro_rules | `(tactic| fail "d1") => `(tactic| simp -dsimp only [↓u_0, ↓u_16, ↓u_19, ↓u_22, ↓u_25, ↓u_26, ↓u_28, ↓u_29, ↓u_31, ↓u_32, ↓u_45, ↓u_46, ↓u_47, ↓u_48, ↓u_49, ↓u_51, ↓u_52, ↓u_54, ↓u_57, ↓u_78, ↓u_79, ↓u_80, u_82, u_83, u_85, u_86, u_89, u_93, u_98, u_99, u_100, u_101, u_102, u_105, u_106, u_114, u_116, u_122, u_124, u_125, ↓u_128, u_129, u_130, u_132, u_133, ↓u_135, u_160, ↓u_164, ↓u_191, ↓u_192, u_195, u_197, u_199, u_200, u_201, u_202, u_206, u_207, u_209, u_210, u_211, u_212, u_213, u_214, u_216, u_217, u_221, u_222, u_230, u_234, ↓u_288, u_289, u_290, u_329, ↓u_518, ↓u_519, ↓u_521, ↓u_522, ↓u_524, ↓u_525, ↓u_527, List.map_nil, List.map_cons, Nat.reduceSub, Nat.reduceAdd, Nat.reduceLT, Nat.reduceLeDiff, reduceIte, String.reduceBEq, String.reduceEq, Int.reduceLT, Int.reduceLE, Int.reduceEq, Int.reduceToNat])
local macro_rules | `(tactic| fail "dl") => `(tactic| try fail "d1")
theorem wp_law_alike (n : Nat) (ds : List D) (om : Om) (k : RV → Om → Prop) (xk : Exn → Om → Prop) (h : df_law_alike (n + 1) ds om k xk) : w_law_alike n (endOf k xk) (startE 4 ds) om := by
  obtain ⟨d, rfl, hc, hd, h⟩ := h
  unfold w_law_alike endOf
  cases d with
  | int i => fail "gs"
  | tup ds =>
    simp only [alk, Bool.and_eq_true, decide_eq_true_eq] at hc
    simp only [dep] at hd
    fail "gs"
    refine loop_list (fun i r om' => om' = om ∧ ∃ x2 x3, r = [some (.v (.tup ds)), some (.v (.tup ds)), x2, x3]) ⟨rfl, _, _, rfl⟩ ?_ ?_
    · rintro i d r om' nx e ⟨rfl, x2, x3, rfl⟩ hnx
      obtain ⟨x, mx, rfl⟩ := zipself e
      have q1 := alks_mem hc.2 mx
      have q3 := depsm mx
      obtain ⟨m, rfl⟩ : ∃ m, n = m + 1 := ⟨n - 1, by omega⟩
      unfold stepOf
      fail "gs"
      exact hnx _ _ ⟨rfl, _, _, rfl⟩
    · rintro r om' ⟨rfl, x2, x3, rfl⟩
      fail "gs"
  | lst ds =>
    simp only [alk, Bool.and_eq_true, decide_eq_true_eq] at hc
    simp only [dep] at hd
    fail "gs"
    refine loop_list (fun i r om' => om' = om ∧ ∃ x2 x3, r = [some (.v (.lst ds)), some (.v (.lst ds)), x2, x3]) ⟨rfl, _, _, rfl⟩ ?_ ?_
    · rintro i d r om' nx e ⟨rfl, x2, x3, rfl⟩ hnx
      obtain ⟨x, mx, rfl⟩ := zipself e
      have q1 := alks_mem hc.2 mx
      have q3 := depsm mx
      obtain ⟨m, rfl⟩ : ∃ m, n = m + 1 := ⟨n - 1, by omega⟩
      unfold stepOf
      fail "gs"
      exact hnx _ _ ⟨rfl, _, _, rfl⟩
    · rintro r om' ⟨rfl, x2, x3, rfl⟩
      fail "gs"
  | _ => cases hc
end
theorem ok_law_alike {P : Program} {w : World} {K : PySem.W.Frag} {mg : Str → Option Value} {base : Heap} {f : Addr} {fd : FuncData} (F : FunD K "_law_alike" "_law_alike" (defArgs s_law_alike) (defBody s_law_alike) (defScope s_law_alike) [] [] f fd) (T : Txt K mg) (hg : mg "_law_alike" = some (.ref f)) (hk : PySem.W.keepIn K (.ref f) = true) (hb : Binds K fd ["_law_found", "_law_due"] []) : ∀ n : Nat, FnOk P w K mg base (L2.CX P w) (1 + n) f fd ["_law_found", "_law_due"] (toSp K (c_law_alike n))
  | 0 => fnok_false fun _ _ _ _ h => h
  | n + 1 => fn_ok (c := c_law_alike (n + 1)) F sc_law_alike rfl (fun cdv A outer s H E hr => d_law_alike n T ⟨_, fd, _, ok_law_alike F T hg hk hb n, hg, hk, hb⟩ cdv A outer s H E hr) (wp_law_alike n)
def df_law_told_so : DF := fun ds om k xk => ∃ (hp : List (List Int)), ∃ (bag : List (List Int)), ∃ (c : Int), ds = [.lst (rowsD hp), .lst (rowsD bag), .int c] ∧ (IsHp c.toNat hp) ∧ (hp.Perm bag) ∧ (0 ≤ c) ∧ (∀ r ∈ bag, c < r.length ∧ r.length ≤ 100) ∧ (bag.length ≤ 1000) ∧ (k (.v (.bl true)) om)
theorem call_law_told_so {om : Om} {k : RV → Om → Prop} {xk : Exn → Om → Prop} {hp : List (List Int)} {bag : List (List Int)} {c : Int} (hh : IsHp c.toNat hp) (hpm : hp.Perm bag) (c0 : 0 ≤ c) (hw : ∀ r ∈ bag, c < r.length ∧ r.length ≤ 100) (hl : bag.length ≤ 1000) (h : k (.v (.bl true)) om) : df_law_told_so [.lst (rowsD hp), .lst (rowsD bag), .int c] om k xk := ⟨hp, bag, c, rfl, hh, hpm, c0, hw, hl, h⟩
def c_law_told_so : Con := ⟨3, df_law_told_so, by intro ds om k xk h; obtain ⟨hp, bag, c, rfl, _, _, _, _, _, _⟩ := h; rfl, by intro ds om k k' xk xk' hk hx h; obtain ⟨hp, bag, c, e_, hh, hpm, c0, hw, hl, h⟩ := h; refine ⟨hp, bag, c, e_, hh, hpm, c0, hw, hl, ?_⟩; first | exact hk _ _ h | exact hx _ _ h | exact fun hq => hk _ _ (h hq) | (intros; apply hk; apply h <;> assumption) | (simp only [cnd] at h ⊢; grind) | grind⟩
theorem callK_law_told_so {om : Om} {k : RV → Om → Prop} {xk : Exn → Om → Prop} {hp : List (List Int)} {bag : List (List Int)} {c : Int} {t : Tg (df_law_told_so, k, xk)} (hh : IsHp c.toNat hp) (hpm : hp.Perm bag) (c0 : 0 ≤ c) (hw : ∀ r ∈ bag, c < r.length ∧ r.length ≤ 100) (hl : bag.length ≤ 1000) (h : k (.v (.bl true)) om) : callK df_law_told_so [.lst (rowsD hp), .lst (rowsD bag), .int c] om k xk t := call_law_told_so hh hpm c0 hw hl h
def w_law_told_so : WS :=
  (wSeq (wIfS (wOr (wNot (wTru (wCB pIsi (wCons (wBor 0) (wCons (wC (.raw (.ty "list"))) wNil))))) (wTst (wOp pNe (wCB pLen (wCons (wBor 0) wNil)) (wCB pLen (wCons (wBor 1) wNil))))) (wRet (wC (.bl false))) wNext) (wSeq (wIfS (wNot (wTru (wCall (df_law_alike 4) [] (wCons (wCB pSorted (wCons (wBor 0) wNil)) (wCons (wCB pSorted (wCons (wBor 1) wNil)) wNil))))) (wRet (wC (.bl false))) wNext) (wSeq (wFor (wiR2 (wCons (wC (.int 1)) (wCons (wCB pLen (wCons (wBor 0) wNil)) wNil))) (gN 3) (wIfS (wTru (wCall df_law_less [] (wCons (wOp pIx (wBor 0) (wBor 3)) (wCons (wOp pIx (wBor 0) (wOp pDiv (wOp pSub (wBor 3) (wC (.int 1))) (wC (.int 2)))) (wCons (wVar 2) wNil))))) (wRet (wC (.bl false))) wNext)) (wRet (wC (.bl true))))))
theorem d_law_told_so {P : Program} {w : World} {K : PySem.W.Frag} {mg : Str → Option Value} {base : Heap} {f : Addr} (T : Txt K mg) (D_law_less : Def P w K mg base "_law_less" c_law_less 1) (D_law_alike : Def P w K mg base "_law_alike" (c_law_alike 4) 5) (cdv : Value) (A : Around) (outer : List PySem.Env) (s : Shared) (H : Hp) (E : XK) (hr : Room 5 (A.deeper (PyProof.Rows.envOfC "_law_told_so" (defScope s_law_told_so) s.heap.objs.size f cdv))) :
    ∃ t, DSs (cxOf (L2.CX P w) P w K mg base ["_law_found", "_law_bag", "_law_column", "_law_k"] "_law_told_so" (defScope s_law_told_so) f cdv A outer s H E) (fun cls d _ H => E cls d H) (defBody s_law_told_so) t w_law_told_so :=
  ⟨_, (dss_cons (ds_if (DW.dt (dw_or (dt_not (dt_tru (de_cb n_isi T.n_isinstance (by decide +kernel) (da_cons (de_bor 0) (da_cons (de_ty T.n_list (by decide +kernel)) da_nil))))) (dw_or1 (dt_cmp (o_ne hr) (de_cb n_len T.n_len (by decide +kernel) (da_cons (de_bor 0) da_nil)) (de_cb n_len T.n_len (by decide +kernel) (da_cons (de_bor 1) da_nil)))))) (dss_one (ds_ret de_bl)) dss_nil) (dss_cons (ds_if (dt_not (dt_tru (de_call (c := (c_law_alike 4)) D_law_alike (hr.mono (by decide)) (takes_of rfl rfl rfl rfl) (da_cons (de_cb (n_sorted hr) T.n_sorted (by decide +kernel) (da_cons (de_bor 0) da_nil)) (da_cons (de_cb (n_sorted hr) T.n_sorted (by decide +kernel) (da_cons (de_bor 1) da_nil)) da_nil))))) (dss_one (ds_ret de_bl)) dss_nil) (dss_cons (ds_for (passes_of rfl) rfl (di_r2 T.n_range (da_cons de_int (da_cons (de_cb n_len T.n_len (by decide +kernel) (da_cons (de_bor 0) da_nil)) da_nil))) (dg_name 3 sc_law_told_so.nd) (dss_one (ds_if (dt_tru (de_call (c := c_law_less) D_law_less (hr.mono (by decide)) (takes_of rfl rfl rfl rfl) (da_cons (de_ix (de_bor 0) (de_bor 3)) (da_cons (de_ix (de_bor 0) (de_op o_div (de_op o_sub (de_bor 3) de_int) de_int)) (da_cons (de_var 2) da_nil))))) (dss_one (ds_ret de_bl)) dss_nil))) (dss_one (ds_ret de_bl)))))⟩
local macro_rules | `(tactic| fail "ca") => `(tactic| (with_reducible refine ca_guard ?_; first | with_reducible refine callK_less ?_ ?_ ?_ ?_ | with_reducible refine callK_Heap_len (by with_reducible assumption) (by with_reducible assumption) ?_ | with_reducible refine callK_Heap_first (by with_reducible assumption) (by with_reducible assumption) ?_ | with_reducible refine callK_Heap_told (by with_reducible assumption) (by with_reducible assumption) ?_ | with_reducible refine callK_law_state ?_ | with_reducible refine callK_law_next (by with_reducible assumption) ?_ ?_ ?_ | with_reducible refine callK_law_less ?_ ?_ ?_ ?_ | with_reducible refine callK_law_names ?_ ?_ | with_reducible refine callK_Heap_put (by with_reducible assumption) (by with_reducible assumption) ?_ ?_ ?_ ?_ ?_ ?_ | with_reducible refine callK_Heap_sink (by with_reducible assumption) (by with_reducible assumption) ?_ ?_ ?_ ?_ ?_ | with_reducible refine callK_law_number (by with_reducible assumption) ?_ ?_ ?_ | with_reducible refine callK_law_width (by with_reducible assumption) ?_ | with_reducible refine callK_law_least ?_ ?_ ?_ ?_ ?_ | with_reducible refine callK_Heap_init (by with_reducible assumption) (by with_reducible assumption) ?_ ?_ ?_ ?_ | with_reducible refine callK_Heap_take (by with_reducible assumption) (by with_reducible assumption) ?_ ?_ ?_ ?_ ?_ | with_reducible refine callK_law_rows (by with_reducible assumption) ?_ ?_ ?_ ?_ ?_ | with_reducible refine callK_law_none_held (by with_reducible assumption) (by with_reducible assumption) ?_ ?_ | with_reducible refine callK_law_alike ?_ ?_ ?_ | with_reducible refine callK_law_told_so ?_ ?_ ?_ ?_ ?_ ?_))

section
local macro_rules | `(tactic| fail "d1") => `(tactic| simp -dsimp only [↓u_0, ↓u_16, ↓u_18, ↓u_19, ↓u_22, ↓u_25, ↓u_26, ↓u_28, ↓u_29, ↓u_31, ↓u_32, ↓u_45, ↓u_46, ↓u_47, ↓u_48, ↓u_50, ↓u_51, ↓u_57, ↓u_59, u_82, u_83, u_86, u_89, u_93, u_98, u_99, u_100, u_101, u_102, u_103, u_105, u_106, u_113, u_114, u_125, ↓u_128, u_132, ↓u_135, ↓u_142, u_160, ↓u_164, ↓u_165, ↓u_166, ↓u_192, u_195, u_197, u_199, u_200, u_201, u_202, u_206, u_207, u_209, u_210, u_211, u_212, u_213, u_214, u_216, u_217, u_254, ↓u_258, u_329, u_446, ↓u_518, ↓u_519, ↓u_521, ↓u_522, ↓u_524, ↓u_525, ↓u_527, u_543, List.map_nil, List.map_cons, Nat.reduceSub, Nat.reduceAdd, Nat.reduceLT, Nat.reduceLeDiff, reduceIte, String.reduceBEq, String.reduceEq, Int.reduceLT, Int.reduceLE, Int.reduceEq, Int.reduceToNat])
local macro_rules | `(tactic| fail "dl") => `(tactic| try fail "d1")
theorem wp_law_told_so (ds : List D) (om : Om) (k : RV → Om → Prop) (xk : Exn → Om → Prop) (h : df_law_told_so ds om k xk) : w_law_told_so (endOf k xk) (startE 4 ds) om := by
  obtain ⟨hp, bag, c, rfl, hh, hpm, c0, hw, hl, h⟩ := h
  unfold w_law_told_so endOf
  have lB := len_rows bag
  have lH := len_rows hp
  have hlen := hpm.length_eq
  have hwh : ∀ r ∈ hp, c < r.length := fun r m => (hw r (hpm.mem_iff.mp m)).1
  have k1 : okSort (rowsD hp) := okSort_rows fun r m e => by have := hwh r m; rw [e] at this; simp at this; omega
  have k2 : okSort (rowsD bag) := okSort_rows fun r m e => by have := (hw r m).1; rw [e] at this; simp at this; omega
  have hsame : sortL hp = sortL bag := pwL_uniq ((sortL_perm hp).trans (hpm.trans (sortL_perm bag).symm)) (sortL_pw hp) (sortL_pw bag)
  obtain ⟨b1, b2⟩ := rows_alk (sortL bag) ⟨by rw [(sortL_perm bag).length_eq]; omega, fun r m => (hw r ((sortL_perm bag).mem_iff.mp m)).2⟩
  (repeat' (first | (with_reducible assumption) | (with_reducible intro _) | (with_reducible apply And.intro) | fail "ca" | simp -dsimp only [↓u_0, ↓u_16, ↓u_18, ↓u_19, ↓u_22, ↓u_25, ↓u_26, ↓u_28, ↓u_29, ↓u_31, ↓u_32, ↓u_45, ↓u_46, ↓u_47, ↓u_48, ↓u_50, ↓u_51, ↓u_57, ↓u_59, u_82, u_83, u_86, u_89, u_93, u_98, u_99, u_100, u_101, u_102, u_103, u_105, u_106, u_113, u_114, u_125, ↓u_128, u_132, ↓u_135, ↓u_142, u_160, ↓u_164, ↓u_165, ↓u_166, ↓u_192, u_195, u_197, u_199, u_200, u_201, u_202, u_206, u_207, u_209, u_210, u_211, u_212, u_213, u_214, u_216, u_217, u_254, ↓u_258, u_329, u_446, ↓u_518, ↓u_519, ↓u_521, ↓u_522, ↓u_524, ↓u_525, ↓u_527, u_543, List.map_nil, List.map_cons, Nat.reduceSub, Nat.reduceAdd, Nat.reduceLT, Nat.reduceLeDiff, reduceIte, String.reduceBEq, String.reduceEq, Int.reduceLT, Int.reduceLE, Int.reduceEq, Int.reduceToNat, hsame] | fail "ix" | (with_reducible refine rdDh_of (by with_reducible assumption) ?_) | (with_reducible refine cnd_T (by with_reducible assumption) ?_) | (with_reducible refine cnd_F (by with_reducible assumption) ?_) | (with_reducible refine cnd_yes (by omega) ?_) | (with_reducible refine cnd_no (by omega) ?_) | (with_reducible refine cnd_dec ?_ ?_) | (with_reducible refine cnd_of ?_ ?_) | fail "si" | fail))
  refine loop_rng (fun i r om' => om' = om ∧ ∃ x3, r = [some (.v (.lst (rowsD hp))), some (.v (.lst (rowsD bag))), some (.v (.int c)), x3]) ⟨rfl, _, rfl⟩ ?_ ?_
  · rintro i r om' nx hi ⟨rfl, x3, rfl⟩ hn
    obtain ⟨j, hj⟩ : ∃ j : Nat, j = 1 + i := ⟨_, rfl⟩
    have ej : (1 : Int) + (i : Nat) = (j : Nat) := by omega
    rw [ej]
    have hjl : j < hp.length := by omega
    have hle := hh j (by omega) hjl
    have ea : (((j : Nat) : Int) - 1) / 2 = (((j - 1) / 2 : Nat) : Int) := by omega
    have m1 : gr hp j ∈ hp := by rw [gr_at hjl]; exact List.getElem_mem _
    have m2 : gr hp ((j - 1) / 2) ∈ hp := by rw [gr_at (by omega)]; exact List.getElem_mem _
    have w1 := hwh _ m1
    have w2 := hwh _ m2
    have hlf : lessR c.toNat (gr hp j) (gr hp ((j - 1) / 2)) = false := hle
    unfold stepOf
    (repeat' (first | (with_reducible assumption) | (with_reducible intro _) | (with_reducible apply And.intro) | fail "ca" | simp -dsimp only [↓u_0, ↓u_16, ↓u_18, ↓u_19, ↓u_22, ↓u_25, ↓u_26, ↓u_28, ↓u_29, ↓u_31, ↓u_32, ↓u_45, ↓u_46, ↓u_47, ↓u_48, ↓u_50, ↓u_51, ↓u_57, ↓u_59, u_82, u_83, u_86, u_89, u_93, u_98, u_99, u_100, u_101, u_102, u_103, u_105, u_106, u_113, u_114, u_125, ↓u_128, u_132, ↓u_135, ↓u_142, u_160, ↓u_164, ↓u_165, ↓u_166, ↓u_192, u_195, u_197, u_199, u_200, u_201, u_202, u_206, u_207, u_209, u_210, u_211, u_212, u_213, u_214, u_216, u_217, u_254, ↓u_258, u_329, u_446, ↓u_518, ↓u_519, ↓u_521, ↓u_522, ↓u_524, ↓u_525, ↓u_527, u_543, List.map_nil, List.map_cons, Nat.reduceSub, Nat.reduceAdd, Nat.reduceLT, Nat.reduceLeDiff, reduceIte, String.reduceBEq, String.reduceEq, Int.reduceLT, Int.reduceLE, Int.reduceEq, Int.reduceToNat, ea, Int.toNat_natCast, hlf] | fail "ix" | (with_reducible refine rdDh_of (by with_reducible assumption) ?_) | (with_reducible refine cnd_T (by with_reducible assumption) ?_) | (with_reducible refine cnd_F (by with_reducible assumption) ?_) | (with_reducible refine cnd_yes (by omega) ?_) | (with_reducible refine cnd_no (by omega) ?_) | (with_reducible refine cnd_dec ?_ ?_) | (with_reducible refine cnd_of ?_ ?_) | fail "si" | fail))
    exact hn _ _ ⟨rfl, _, rfl⟩
  · rintro r om' ⟨rfl, x3, rfl⟩
    fail "gs"
    done
end
theorem ok_law_told_so {P : Program} {w : World} {K : PySem.W.Frag} {mg : Str → Option Value} {base : Heap} {f : Addr} {fd : FuncData} (F : FunD K "_law_told_so" "_law_told_so" (defArgs s_law_told_so) (defBody s_law_told_so) (defScope s_law_told_so) [] [] f fd) (T : Txt K mg) (D_law_less : Def P w K mg base "_law_less" c_law_less 1) (D_law_alike : Def P w K mg base "_law_alike" (c_law_alike 4) 5) : FnOk P w K mg base (L2.CX P w) 6 f fd ["_law_found", "_law_bag", "_law_column"] (toSp K c_law_told_so) :=
  (fn_ok (c := c_law_told_so) F sc_law_told_so rfl (fun cdv A outer s H E hr => d_law_told_so T D_law_less D_law_alike cdv A outer s H E hr) wp_law_told_so)
def df_law_gone_so : DF := fun ds om k xk => ∃ (a : Addr), ∃ (b : Addr), ∃ (y : Addr), ∃ (c : Int), ∃ (v : Bool), ∃ (hp : List (List Int)), ∃ (bag : List (List Int)), ds = [.h a, .h y, .int c, .bl v] ∧ (om a = some (HpO c b)) ∧ (om b = some (.lst (rowsD hp))) ∧ (om y = some (.lst (rowsD bag))) ∧ (y ≠ b) ∧ (y ≠ a) ∧ (IsHp c.toNat hp) ∧ (hp.Perm bag) ∧ (0 ≤ c) ∧ (∀ r ∈ bag, c < r.length ∧ r.length ≤ 100) ∧ (bag.length ≤ 1000) ∧ (∀ om' (hp' bag' : List (List Int)), om' b = some (.lst (rowsD hp')) → om' y = some (.lst (rowsD bag')) → (∀ z, z ≠ y → z ≠ b → om' z = om z) → IsHp c.toNat hp' → hp'.Perm bag' → (∀ r ∈ bag', r ∈ bag) → bag'.length ≤ bag.length → k (.v (.bl true)) om')
theorem call_law_gone_so {om : Om} {k : RV → Om → Prop} {xk : Exn → Om → Prop} {a : Addr} {b : Addr} {y : Addr} {c : Int} {v : Bool} {hp : List (List Int)} {bag : List (List Int)} (ha : om a = some (HpO c b)) (hb : om b = some (.lst (rowsD hp))) (hy : om y = some (.lst (rowsD bag))) (hyb : y ≠ b) (hya : y ≠ a) (hh : IsHp c.toNat hp) (hpm : hp.Perm bag) (c0 : 0 ≤ c) (hw : ∀ r ∈ bag, c < r.length ∧ r.length ≤ 100) (hl : bag.length ≤ 1000) (h : ∀ om' (hp' bag' : List (List Int)), om' b = some (.lst (rowsD hp')) → om' y = some (.lst (rowsD bag')) → (∀ z, z ≠ y → z ≠ b → om' z = om z) → IsHp c.toNat hp' → hp'.Perm bag' → (∀ r ∈ bag', r ∈ bag) → bag'.length ≤ bag.length → k (.v (.bl true)) om') : df_law_gone_so [.h a, .h y, .int c, .bl v] om k xk := ⟨a, b, y, c, v, hp, bag, rfl, ha, hb, hy, hyb, hya, hh, hpm, c0, hw, hl, h⟩
def c_law_gone_so : Con := ⟨4, df_law_gone_so, by intro ds om k xk h; obtain ⟨a, b, y, c, v, hp, bag, rfl, _, _, _, _, _, _, _, _, _, _, _⟩ := h; rfl, by intro ds om k k' xk xk' hk hx h; obtain ⟨a, b, y, c, v, hp, bag, e_, ha, hb, hy, hyb, hya, hh, hpm, c0, hw, hl, h⟩ := h; refine ⟨a, b, y, c, v, hp, bag, e_, ha, hb, hy, hyb, hya, hh, hpm, c0, hw, hl, ?_⟩; first | exact hk _ _ h | exact hx _ _ h | exact fun hq => hk _ _ (h hq) | (intros; apply hk; apply h <;> assumption) | (simp only [cnd] at h ⊢; grind) | grind⟩
theorem callK_law_gone_so {om : Om} {k : RV → Om → Prop} {xk : Exn → Om → Prop} {a : Addr} {b : Addr} {y : Addr} {c : Int} {v : Bool} {hp : List (List Int)} {bag : List (List Int)} {t : Tg (df_law_gone_so, k, xk)} (ha : om a = some (HpO c b)) (hb : om b = some (.lst (rowsD hp))) (hy : om y = some (.lst (rowsD bag))) (hyb : y ≠ b) (hya : y ≠ a) (hh : IsHp c.toNat hp) (hpm : hp.Perm bag) (c0 : 0 ≤ c) (hw : ∀ r ∈ bag, c < r.length ∧ r.length ≤ 100) (hl : bag.length ≤ 1000) (h : ∀ om' (hp' bag' : List (List Int)), om' b = some (.lst (rowsD hp')) → om' y = some (.lst (rowsD bag')) → (∀ z, z ≠ y → z ≠ b → om' z = om z) → IsHp c.toNat hp' → hp'.Perm bag' → (∀ r ∈ bag', r ∈ bag) → bag'.length ≤ bag.length → k (.v (.bl true)) om') : callK df_law_gone_so [.h a, .h y, .int c, .bl v] om k xk t := call_law_gone_so ha hb hy hyb hya hh hpm c0 hw hl h
def w_law_gone_so : WS :=
  (wSeq (wIfS (wTst (wOp pEq (wCB pLen (wCons (wBor 1) wNil)) (wC (.int 0)))) (wRet (wAndV (wCall df_law_none_held [] (wCons (wVar 0) (wCons (wVar 3) wNil))) (wOp pEq (wLenO "Heap" df_Heap_len (wBor 0)) (wC (.int 0))))) wNext) (wSeq (wAsg (wFz (wCallL df_law_least [] (wCons (wBor 1) (wCons (wBor 2) wNil)))) (gN 4)) (wSeq (wIfS (wNot (wTru (wBor 3))) (wRet (wCall (df_law_alike 4) [] (wCons (wMeth "Heap" "first" df_Heap_first (wBor 0) wNil) (wCons (wVar 4) wNil)))) wNext) (wSeq (wDrop (wMut 1 mRemD (wCons (wBor 4) wNil))) (wRet (wCall (df_law_alike 4) [] (wCons (wMeth "Heap" "take" df_Heap_take (wBor 0) wNil) (wCons (wVar 4) wNil))))))))
theorem d_law_gone_so {P : Program} {w : World} {K : PySem.W.Frag} {mg : Str → Option Value} {base : Heap} {f : Addr} (T : Txt K mg) (D_law_alike : Def P w K mg base "_law_alike" (c_law_alike 4) 5) (D_Heap_take : DefM P w K mg base "Heap" "take" c_Heap_take 3) (D_Heap_first : DefM P w K mg base "Heap" "first" c_Heap_first 1) (D_law_least : Def P w K mg base "_law_least" c_law_least 2) (D_law_none_held : Def P w K mg base "_law_none_held" c_law_none_held 4) (D_Heap_len : DefM P w K mg base "Heap" "__len__" c_Heap_len 1) (cdv : Value) (A : Around) (outer : List PySem.Env) (s : Shared) (H : Hp) (E : XK) (hr : Room 5 (A.deeper (PyProof.Rows.envOfC "_law_gone_so" (defScope s_law_gone_so) s.heap.objs.size f cdv))) :
    ∃ t, DSs (cxOf (L2.CX P w) P w K mg base ["_law_heap", "_law_bag", "_law_column", "_law_leaving", "_law_due"] "_law_gone_so" (defScope s_law_gone_so) f cdv A outer s H E) (fun cls d _ H => E cls d H) (defBody s_law_gone_so) t w_law_gone_so :=
  ⟨_, (dss_cons (ds_if (dt_cmp (o_eq hr) (de_cb n_len T.n_len (by decide +kernel) (da_cons (de_bor 1) da_nil)) de_int) (dss_one (ds_ret (de_and (de_call (c := c_law_none_held) D_law_none_held (hr.mono (by decide)) (takes_of rfl rfl rfl rfl) (da_cons (de_var 0) (da_cons (de_var 3) da_nil))) (de_one (de_cmp (o_eq hr) (de_lenO (cn := c_Heap_len) D_Heap_len (hr.mono (by decide)) (takes_of rfl rfl rfl rfl) T.n_len (de_bor 0) (K' := K)) de_int))))) dss_nil) (dss_cons (ds_set 4 sc_law_gone_so.nd (de_fz (de_callL (c := c_law_least) D_law_least (hr.mono (by decide)) (takes_of rfl rfl rfl rfl) (da_cons (de_bor 1) (da_cons (de_bor 2) da_nil)) (K' := K)))) (dss_cons (ds_if (dt_not (dt_tru (de_bor 3))) (dss_one (ds_ret (de_call (c := (c_law_alike 4)) D_law_alike (hr.mono (by decide)) (takes_of rfl rfl rfl rfl) (da_cons (de_meth0 (cn := c_Heap_first) D_Heap_first (hr.mono (by decide)) (takes_of rfl rfl rfl rfl) (de_bor 0) (K' := K)) (da_cons (de_var 4) da_nil))))) dss_nil) (dss_cons (ds_drop (de_remD 1 hr (de_bor 4) (K' := K))) (dss_one (ds_ret (de_call (c := (c_law_alike 4)) D_law_alike (hr.mono (by decide)) (takes_of rfl rfl rfl rfl) (da_cons (de_meth0 (cn := c_Heap_take) D_Heap_take (hr.mono (by decide)) (takes_of rfl rfl rfl rfl) (de_bor 0) (K' := K)) (da_cons (de_var 4) da_nil)))))))))⟩
local macro_rules | `(tactic| fail "ca") => `(tactic| (with_reducible refine ca_guard ?_; first | with_reducible refine callK_less ?_ ?_ ?_ ?_ | with_reducible refine callK_Heap_len (by with_reducible assumption) (by with_reducible assumption) ?_ | with_reducible refine callK_Heap_first (by with_reducible assumption) (by with_reducible assumption) ?_ | with_reducible refine callK_Heap_told (by with_reducible assumption) (by with_reducible assumption) ?_ | with_reducible refine callK_law_state ?_ | with_reducible refine callK_law_next (by with_reducible assumption) ?_ ?_ ?_ | with_reducible refine callK_law_less ?_ ?_ ?_ ?_ | with_reducible refine callK_law_names ?_ ?_ | with_reducible refine callK_Heap_put (by with_reducible assumption) (by with_reducible assumption) ?_ ?_ ?_ ?_ ?_ ?_ | with_reducible refine callK_Heap_sink (by with_reducible assumption) (by with_reducible assumption) ?_ ?_ ?_ ?_ ?_ | with_reducible refine callK_law_number (by with_reducible assumption) ?_ ?_ ?_ | with_reducible refine callK_law_width (by with_reducible assumption) ?_ | with_reducible refine callK_law_least ?_ ?_ ?_ ?_ ?_ | with_reducible refine callK_Heap_init (by with_reducible assumption) (by with_reducible assumption) ?_ ?_ ?_ ?_ | with_reducible refine callK_Heap_take (by with_reducible assumption) (by with_reducible assumption) ?_ ?_ ?_ ?_ ?_ | with_reducible refine callK_law_rows (by with_reducible assumption) ?_ ?_ ?_ ?_ ?_ | with_reducible refine callK_law_none_held (by with_reducible assumption) (by with_reducible assumption) ?_ ?_ | with_reducible refine callK_law_alike ?_ ?_ ?_ | with_reducible refine callK_law_told_so ?_ ?_ ?_ ?_ ?_ ?_ | with_reducible refine callK_law_gone_so (by with_reducible assumption) (by with_reducible assumption) (by with_reducible assumption) ?_ ?_ ?_ ?_ ?_ ?_ ?_ ?_))

section
local macro_rules | `(tactic| fail "d1") => `(tactic| simp -dsimp only [↓u_0, ↓u_3, ↓u_16, ↓u_17, ↓u_18, ↓u_19, ↓u_21, ↓u_22, ↓u_25, ↓u_26, ↓u_28, ↓u_29, ↓u_31, ↓u_32, ↓u_45, ↓u_46, ↓u_47, ↓u_48, ↓u_51, ↓u_52, ↓u_64, ↓u_66, u_67, ↓u_69, ↓u_70, u_82, u_83, u_93, u_98, u_99, u_100, u_101, u_102, u_105, u_106, u_114, ↓u_135, u_160, ↓u_164, ↓u_191, u_195, u_197, u_199, u_200, u_201, u_202, u_206, u_207, u_209, u_210, u_211, u_212, u_213, u_214, u_216, u_217, u_220, u_223, ↓u_301, u_329, ↓u_377, u_383, u_389, u_433, u_434, ↓u_479, ↓u_480, u_481, u_482, ↓u_486, ↓u_494, u_495, ↓u_518, ↓u_519, ↓u_521, ↓u_522, ↓u_524, ↓u_525, ↓u_527, ↓u_532, ↓u_533, u_543, sbe_first_heaped, sbe_first_column, sbe_take_heaped, sbe_take_column, List.map_nil, List.map_cons, Nat.reduceSub, Nat.reduceAdd, Nat.reduceLT, Nat.reduceLeDiff, reduceIte, String.reduceBEq, String.reduceEq, Int.reduceLT, Int.reduceLE, Int.reduceEq, Int.reduceToNat])
local macro_rules | `(tactic| fail "dl") => `(tactic| try fail "d1")
theorem wp_law_gone_so (ds : List D) (om : Om) (k : RV → Om → Prop) (xk : Exn → Om → Prop) (h : df_law_gone_so ds om k xk) : w_law_gone_so (endOf k xk) (startE 5 ds) om := by
  obtain ⟨a, b, y, c, v, hp, bag, rfl, ha, hb, hy, hyb, hya, hh, hpm, c0, hw, hl, h⟩ := h
  unfold w_law_gone_so endOf
  have hab : a ≠ b := fun e => by rw [e, hb] at ha; cases ha
  have hd := deref_h hy
  have lB := len_rows bag
  have hlen := hpm.length_eq
  have hwh : ∀ r ∈ hp, c < r.length := fun r m => (hw r (hpm.mem_iff.mp m)).1
  by_cases h0 : bag = []
  · subst h0
    have e0 : hp = [] := by simpa using hpm
    subst e0
    have hf := h om [] [] hb hy (fun _ _ _ => rfl) hh (by simp) (by simp) (by simp)
    (repeat' (first | (with_reducible assumption) | (with_reducible intro _) | (with_reducible apply And.intro) | fail "ca" | simp -dsimp only [↓u_0, ↓u_3, ↓u_16, ↓u_17, ↓u_18, ↓u_19, ↓u_21, ↓u_22, ↓u_25, ↓u_26, ↓u_28, ↓u_29, ↓u_31, ↓u_32, ↓u_45, ↓u_46, ↓u_47, ↓u_48, ↓u_51, ↓u_52, ↓u_64, ↓u_66, u_67, ↓u_69, ↓u_70, u_82, u_83, u_93, u_98, u_99, u_100, u_101, u_102, u_105, u_106, u_114, ↓u_135, u_160, ↓u_164, ↓u_191, u_195, u_197, u_199, u_200, u_201, u_202, u_206, u_207, u_209, u_210, u_211, u_212, u_213, u_214, u_216, u_217, u_220, u_223, ↓u_301, u_329, ↓u_377, u_383, u_389, u_433, u_434, ↓u_479, ↓u_480, u_481, u_482, ↓u_486, ↓u_494, u_495, ↓u_518, ↓u_519, ↓u_521, ↓u_522, ↓u_524, ↓u_525, ↓u_527, ↓u_532, ↓u_533, u_543, sbe_first_heaped, sbe_first_column, sbe_take_heaped, sbe_take_column, List.map_nil, List.map_cons, Nat.reduceSub, Nat.reduceAdd, Nat.reduceLT, Nat.reduceLeDiff, reduceIte, String.reduceBEq, String.reduceEq, Int.reduceLT, Int.reduceLE, Int.reduceEq, Int.reduceToNat, hd, ha, hb] | fail "ix" | (with_reducible refine rdDh_of (by with_reducible assumption) ?_) | (with_reducible refine cnd_T (by with_reducible assumption) ?_) | (with_reducible refine cnd_F (by with_reducible assumption) ?_) | (with_reducible refine cnd_yes (by omega) ?_) | (with_reducible refine cnd_no (by omega) ?_) | (with_reducible refine cnd_dec ?_ ?_) | (with_reducible refine cnd_of ?_ ?_) | fail "si" | fail))
    all_goals first | exact hf | skip
  · have hp0 : 0 < bag.length := List.length_pos_iff.mpr h0
    have hne : hp ≠ [] := fun e => by subst e; simp at hlen; omega
    have e0 : decide (hp = []) = false := decide_eq_false hne
    have hwl : ∀ r ∈ bag, c < r.length := fun r m => (hw r m).1
    have o1 := okE_rows bag
    have hfirst : ∀ best, best ∈ bag → (∀ r ∈ bag, leR c.toNat best r) → gr hp 0 = best := fun best hb hle => by
      have m0 : gr hp 0 ∈ hp := by rw [gr_at (by omega)]; exact List.getElem_mem _
      exact leR_anti (hp_min' hh (hpm.mem_iff.mpr hb)) (hle _ (hpm.mem_iff.mp m0))
    cases v
    · (repeat' (first | (with_reducible assumption) | (with_reducible intro _) | (with_reducible apply And.intro) | fail "ca" | simp -dsimp only [↓u_0, ↓u_3, ↓u_16, ↓u_17, ↓u_18, ↓u_19, ↓u_21, ↓u_22, ↓u_25, ↓u_26, ↓u_28, ↓u_29, ↓u_31, ↓u_32, ↓u_45, ↓u_46, ↓u_47, ↓u_48, ↓u_51, ↓u_52, ↓u_64, ↓u_66, u_67, ↓u_69, ↓u_70, u_82, u_83, u_93, u_98, u_99, u_100, u_101, u_102, u_105, u_106, u_114, ↓u_135, u_160, ↓u_164, ↓u_191, u_195, u_197, u_199, u_200, u_201, u_202, u_206, u_207, u_209, u_210, u_211, u_212, u_213, u_214, u_216, u_217, u_220, u_223, ↓u_301, u_329, ↓u_377, u_383, u_389, u_433, u_434, ↓u_479, ↓u_480, u_481, u_482, ↓u_486, ↓u_494, u_495, ↓u_518, ↓u_519, ↓u_521, ↓u_522, ↓u_524, ↓u_525, ↓u_527, ↓u_532, ↓u_533, u_543, sbe_first_heaped, sbe_first_column, sbe_take_heaped, sbe_take_column, List.map_nil, List.map_cons, Nat.reduceSub, Nat.reduceAdd, Nat.reduceLT, Nat.reduceLeDiff, reduceIte, String.reduceBEq, String.reduceEq, Int.reduceLT, Int.reduceLE, Int.reduceEq, Int.reduceToNat, hd] | fail "ix" | (with_reducible refine rdDh_of (by with_reducible assumption) ?_) | (with_reducible refine cnd_T (by with_reducible assumption) ?_) | (with_reducible refine cnd_F (by with_reducible assumption) ?_) | (with_reducible refine cnd_yes (by omega) ?_) | (with_reducible refine cnd_no (by omega) ?_) | (with_reducible refine cnd_dec ?_ ?_) | (with_reducible refine cnd_of ?_ ?_) | fail "si" | fail))
      rename_i best hbm hble
      have hg := hfirst best hbm hble
      obtain ⟨q1, q2⟩ := rowD_alk best (hw best hbm).2
      have hf := h om hp bag hb hy (fun _ _ _ => rfl) hh hpm (fun _ m => m) (Nat.le_refl _)
      (repeat' (first | (with_reducible assumption) | (with_reducible intro _) | (with_reducible apply And.intro) | fail "ca" | simp -dsimp only [↓u_0, ↓u_3, ↓u_16, ↓u_17, ↓u_18, ↓u_19, ↓u_21, ↓u_22, ↓u_25, ↓u_26, ↓u_28, ↓u_29, ↓u_31, ↓u_32, ↓u_45, ↓u_46, ↓u_47, ↓u_48, ↓u_51, ↓u_52, ↓u_64, ↓u_66, u_67, ↓u_69, ↓u_70, u_82, u_83, u_93, u_98, u_99, u_100, u_101, u_102, u_105, u_106, u_114, ↓u_135, u_160, ↓u_164, ↓u_191, u_195, u_197, u_199, u_200, u_201, u_202, u_206, u_207, u_209, u_210, u_211, u_212, u_213, u_214, u_216, u_217, u_220, u_223, ↓u_301, u_329, ↓u_377, u_383, u_389, u_433, u_434, ↓u_479, ↓u_480, u_481, u_482, ↓u_486, ↓u_494, u_495, ↓u_518, ↓u_519, ↓u_521, ↓u_522, ↓u_524, ↓u_525, ↓u_527, ↓u_532, ↓u_533, u_543, sbe_first_heaped, sbe_first_column, sbe_take_heaped, sbe_take_column, List.map_nil, List.map_cons, Nat.reduceSub, Nat.reduceAdd, Nat.reduceLT, Nat.reduceLeDiff, reduceIte, String.reduceBEq, String.reduceEq, Int.reduceLT, Int.reduceLE, Int.reduceEq, Int.reduceToNat, ha, e0, hg] | fail "ix" | (with_reducible refine rdDh_of (by with_reducible assumption) ?_) | (with_reducible refine cnd_T (by with_reducible assumption) ?_) | (with_reducible refine cnd_F (by with_reducible assumption) ?_) | (with_reducible refine cnd_yes (by omega) ?_) | (with_reducible refine cnd_no (by omega) ?_) | (with_reducible refine cnd_dec ?_ ?_) | (with_reducible refine cnd_of ?_ ?_) | fail "si" | fail))
      all_goals first | exact hf | skip
    · (repeat' (first | (with_reducible assumption) | (with_reducible intro _) | (with_reducible apply And.intro) | fail "ca" | simp -dsimp only [↓u_0, ↓u_3, ↓u_16, ↓u_17, ↓u_18, ↓u_19, ↓u_21, ↓u_22, ↓u_25, ↓u_26, ↓u_28, ↓u_29, ↓u_31, ↓u_32, ↓u_45, ↓u_46, ↓u_47, ↓u_48, ↓u_51, ↓u_52, ↓u_64, ↓u_66, u_67, ↓u_69, ↓u_70, u_82, u_83, u_93, u_98, u_99, u_100, u_101, u_102, u_105, u_106, u_114, ↓u_135, u_160, ↓u_164, ↓u_191, u_195, u_197, u_199, u_200, u_201, u_202, u_206, u_207, u_209, u_210, u_211, u_212, u_213, u_214, u_216, u_217, u_220, u_223, ↓u_301, u_329, ↓u_377, u_383, u_389, u_433, u_434, ↓u_479, ↓u_480, u_481, u_482, ↓u_486, ↓u_494, u_495, ↓u_518, ↓u_519, ↓u_521, ↓u_522, ↓u_524, ↓u_525, ↓u_527, ↓u_532, ↓u_533, u_543, sbe_first_heaped, sbe_first_column, sbe_take_heaped, sbe_take_column, List.map_nil, List.map_cons, Nat.reduceSub, Nat.reduceAdd, Nat.reduceLT, Nat.reduceLeDiff, reduceIte, String.reduceBEq, String.reduceEq, Int.reduceLT, Int.reduceLE, Int.reduceEq, Int.reduceToNat, hd, hy] | fail "ix" | (with_reducible refine rdDh_of (by with_reducible assumption) ?_) | (with_reducible refine cnd_T (by with_reducible assumption) ?_) | (with_reducible refine cnd_F (by with_reducible assumption) ?_) | (with_reducible refine cnd_yes (by omega) ?_) | (with_reducible refine cnd_no (by omega) ?_) | (with_reducible refine cnd_dec ?_ ?_) | (with_reducible refine cnd_of ?_ ?_) | fail "si" | fail))
      rename_i best hbm hble
      have hg := hfirst best hbm hble
      obtain ⟨q1, q2⟩ := rowD_alk best (hw best hbm).2
      have o2 := okE_row best
      obtain ⟨j, j1, j2, j3⟩ := idx_row hbm
      have ha1 : ∀ x, (oset om y x) a = some (HpO c b) := fun x => by rw [oset_ne (Ne.symm hya)]; exact ha
      have hb1 : ∀ x, (oset om y x) b = some (.lst (rowsD hp)) := fun x => by rw [oset_ne (Ne.symm hyb)]; exact hb
      (repeat' (first | (with_reducible assumption) | (with_reducible intro _) | (with_reducible apply And.intro) | fail "ca" | simp -dsimp only [↓u_0, ↓u_3, ↓u_16, ↓u_17, ↓u_18, ↓u_19, ↓u_21, ↓u_22, ↓u_25, ↓u_26, ↓u_28, ↓u_29, ↓u_31, ↓u_32, ↓u_45, ↓u_46, ↓u_47, ↓u_48, ↓u_51, ↓u_52, ↓u_64, ↓u_66, u_67, ↓u_69, ↓u_70, u_82, u_83, u_93, u_98, u_99, u_100, u_101, u_102, u_105, u_106, u_114, ↓u_135, u_160, ↓u_164, ↓u_191, u_195, u_197, u_199, u_200, u_201, u_202, u_206, u_207, u_209, u_210, u_211, u_212, u_213, u_214, u_216, u_217, u_220, u_223, ↓u_301, u_329, ↓u_377, u_383, u_389, u_433, u_434, ↓u_479, ↓u_480, u_481, u_482, ↓u_486, ↓u_494, u_495, ↓u_518, ↓u_519, ↓u_521, ↓u_522, ↓u_524, ↓u_525, ↓u_527, ↓u_532, ↓u_533, u_543, sbe_first_heaped, sbe_first_column, sbe_take_heaped, sbe_take_column, List.map_nil, List.map_cons, Nat.reduceSub, Nat.reduceAdd, Nat.reduceLT, Nat.reduceLeDiff, reduceIte, String.reduceBEq, String.reduceEq, Int.reduceLT, Int.reduceLE, Int.reduceEq, Int.reduceToNat, j1, j3, ha1] | fail "ix" | (with_reducible refine rdDh_of (by with_reducible assumption) ?_) | (with_reducible refine cnd_T (by with_reducible assumption) ?_) | (with_reducible refine cnd_F (by with_reducible assumption) ?_) | (with_reducible refine cnd_yes (by omega) ?_) | (with_reducible refine cnd_no (by omega) ?_) | (with_reducible refine cnd_dec ?_ ?_) | (with_reducible refine cnd_of ?_ ?_) | fail "si" | fail))
      refine callK_Heap_take (ha1 _) (hb1 _) hh c0 hwh (by omega) ?_
      rw [e0, cnd_f]
      intro hp' hh' hpm'
      rw [hg] at hpm' ⊢
      have hpe : (best :: hp').Perm (best :: bag.erase best) := hpm'.trans (hpm.trans (List.perm_cons_erase hbm))
      have hf := h (oset (oset om y (.lst (rowsD (bag.erase best)))) b (.lst (rowsD hp'))) hp' (bag.erase best) oset_same (by rw [oset_ne hyb]; exact oset_same) (fun z z1 z2 => by rw [oset_ne z2, oset_ne z1]) hh' (List.Perm.cons_inv hpe) (fun r m => List.mem_of_mem_erase m) (by rw [List.length_erase_of_mem hbm]; omega)
      fail "gs"
      all_goals first | exact hf | skip
end
theorem ok_law_gone_so {P : Program} {w : World} {K : PySem.W.Frag} {mg : Str → Option Value} {base : Heap} {f : Addr} {fd : FuncData} (F : FunD K "_law_gone_so" "_law_gone_so" (defArgs s_law_gone_so) (defBody s_law_gone_so) (defScope s_law_gone_so) [] [] f fd) (T : Txt K mg) (D_law_alike : Def P w K mg base "_law_alike" (c_law_alike 4) 5) (D_Heap_take : DefM P w K mg base "Heap" "take" c_Heap_take 3) (D_Heap_first : DefM P w K mg base "Heap" "first" c_Heap_first 1) (D_law_least : Def P w K mg base "_law_least" c_law_least 2) (D_law_none_held : Def P w K mg base "_law_none_held" c_law_none_held 4) (D_Heap_len : DefM P w K mg base "Heap" "__len__" c_Heap_len 1) : FnOk P w K mg base (L2.CX P w) 6 f fd ["_law_heap", "_law_bag", "_law_column", "_law_leaving"] (toSp K c_law_gone_so) :=
  (fn_ok (c := c_law_gone_so) F sc_law_gone_so rfl (fun cdv A outer s H E hr => d_law_gone_so T D_law_alike D_Heap_take D_Heap_first D_law_least D_law_none_held D_Heap_len cdv A outer s H E hr) wp_law_gone_so)
def df_law : DF := fun ds om k xk => ∃ (ns : List Int), ds = [.frl (ns.map D.int)] ∧ (∀ om', k (.v (.bl true)) om')
theorem call_law {om : Om} {k : RV → Om → Prop} {xk : Exn → Om → Prop} {ns : List Int} (h : ∀ om', k (.v (.bl true)) om') : df_law [.frl (ns.map D.int)] om k xk := ⟨ns, rfl, h⟩
def c_law : Con := ⟨1, df_law, by intro ds om k xk h; obtain ⟨ns, rfl, _⟩ := h; rfl, by intro ds om k k' xk xk' hk hx h; obtain ⟨ns, e_, h⟩ := h; refine ⟨ns, e_, ?_⟩; first | exact hk _ _ h | exact hx _ _ h | exact fun hq => hk _ _ (h hq) | (intros; apply hk; apply h <;> assumption) | (simp only [cnd] at h ⊢; grind) | grind⟩
theorem callK_law {om : Om} {k : RV → Om → Prop} {xk : Exn → Om → Prop} {ns : List Int} {t : Tg (df_law, k, xk)} (h : ∀ om', k (.v (.bl true)) om') : callK df_law [.frl (ns.map D.int)] om k xk t := call_law h
def w_law : WS :=
  (wSeq (wAsgH 1 DeckP (wCall df_law_state [] (wCons (wVar 0) wNil))) (wSeq (wAsg (wFz (wCall df_law_width [] (wCons (wVar 1) wNil))) (gN 2)) (wSeq (wAsg (wFz (wCall df_law_rows [] (wCons (wVar 1) (wCons (wC (.int 12)) (wCons (wVar 2) wNil))))) (gN 3)) (wSeq (wAsg (wFz (wLst (wCons (wCall df_law_next [] (wCons (wVar 1) (wCons (wVar 2) wNil))) (wCons (wCall df_law_next [] (wCons (wVar 1) (wCons (wVar 2) wNil))) wNil)))) (gN 4)) (wSeq (wAsg (wFz (wLst (wCons (wMake "Heap" df_Heap_init 1 0 gd_Heap_init_1 (wCons (wOp pIx (wBor 4) (wC (.int 0))) wNil) wNil) (wCons (wMake "Heap" df_Heap_init 2 0 gd_Heap_init_0 (wCons (wOp pIx (wBor 4) (wC (.int 1))) (wCons (wCB pTuple (wCons (wHL (wSl (wBor 3) wON (wOS (wC (.int 3))))) wNil)) wNil)) wNil) wNil)))) (gN 5)) (wSeq (wAsg (wFz (wLst (wCons (wHL (wLst wNil)) (wCons (wHL (wSl (wBor 3) wON (wOS (wC (.int 3))))) wNil)))) (gN 6)) (wSeq (wAsg (wHL (wLst wNil)) (gN 7)) (wSeq (wFor (wiR1 (wCons (wOp pAdd (wC (.int 10)) (wCall df_law_next [] (wCons (wVar 1) (wCons (wC (.int 51)) wNil)))) wNil)) (gN 8) (wSeq (wAsg (wFz (wCall df_law_next [] (wCons (wVar 1) (wCons (wC (.int 2)) wNil)))) (gN 9)) (wSeq (wAsg (wFz (wCall df_law_next [] (wCons (wVar 1) (wCons (wC (.int 8)) wNil)))) (gN 10)) (wIfS (wTst (wOp pLtA (wBor 10) (wC (.int 4)))) (wSeq (wAsg (wFz (wOp pIx (wBor 3) (wCall df_law_next [] (wCons (wVar 1) (wCons (wC (.int 12)) wNil))))) (gN 11)) (wSeq (wDrop (wMeth "Heap" "put" df_Heap_put (wOp pIx (wBor 5) (wBor 9)) (wCons (wVar 11) wNil))) (wDrop (wMutR (wOp pIx (wBor 6) (wBor 9)) mApp (wCons (wVar 11) wNil))))) (wIfS (wTst (wOp pLtA (wBor 10) (wC (.int 7)))) (wIfS (wNot (wTru (wCall df_law_gone_so [] (wCons (wOp pIx (wBor 5) (wBor 9)) (wCons (wOp pIx (wBor 6) (wBor 9)) (wCons (wOp pIx (wBor 4) (wBor 9)) (wCons (wOp pLtA (wBor 10) (wC (.int 6))) wNil))))))) (wRet (wC (.bl false))) wNext) (wSeq (wAsg (wFz (wMeth "Heap" "told" df_Heap_told (wOp pIx (wBor 5) (wBor 9)) wNil)) (gN 12)) (wSeq (wIfS (wOr (wNot (wTru (wCallD df_law_told_so [] (wCons (wBor 12) (wCons (wOp pIx (wBor 6) (wBor 9)) (wCons (wOp pIx (wBor 4) (wBor 9)) wNil)))))) (wTst (wOp pNe (wLenO "Heap" df_Heap_len (wOp pIx (wBor 5) (wBor 9))) (wCB pLen (wCons (wOp pIx (wBor 6) (wBor 9)) wNil))))) (wRet (wC (.bl false))) wNext) (wSeq (wDrop (wMut 7 mApp (wCons (wLst (wCons (wVar 12) (wCons (wCB pList (wCons (wBor 12) wNil)) wNil))) wNil))) (wDrop (wMutR (wHL (wMeth "Heap" "told" df_Heap_told (wOp pIx (wBor 5) (wBor 9)) wNil)) mApp (wCons (wOp pIx (wBor 3) (wC (.int 0))) wNil))))))))))) (wSeq (wFor (wiR1 (wCons (wC (.int 2)) wNil)) (gN 9) (wIfS (wOr (wTst (wOp pNe (wLenO "Heap" df_Heap_len (wOp pIx (wBor 5) (wBor 9))) (wCB pLen (wCons (wOp pIx (wBor 6) (wBor 9)) wNil)))) (wNot (wTru (wCallD df_law_told_so [] (wCons (wMeth "Heap" "told" df_Heap_told (wOp pIx (wBor 5) (wBor 9)) wNil) (wCons (wOp pIx (wBor 6) (wBor 9)) (wCons (wOp pIx (wBor 4) (wBor 9)) wNil))))))) (wRet (wC (.bl false))) wNext)) (wRet (wOp pEq (wLcH (wBor 7) (gL 2 (gsCons 12 (gsCons 13 gsNil))) (wTst (wOp pNe (wBor 12) (wBor 13))) (wC (.int 1)) [12, 13]) (wHL (wLst wNil)))))))))))))
theorem d_law {P : Program} {w : World} {K : PySem.W.Frag} {mg : Str → Option Value} {base : Heap} {f : Addr} (T : Txt K mg) (D_Heap_len : DefM P w K mg base "Heap" "__len__" c_Heap_len 1) (D_law_told_so : Def P w K mg base "_law_told_so" c_law_told_so 6) (D_Heap_told : DefM P w K mg base "Heap" "told" c_Heap_told 1) (D_law_next : Def P w K mg base "_law_next" c_law_next 1) (D_Heap_put : DefM P w K mg base "Heap" "put" c_Heap_put 2) (D_law_gone_so : Def P w K mg base "_law_gone_so" c_law_gone_so 6) (D_law_rows : Def P w K mg base "_law_rows" c_law_rows 3) (D_law_width : Def P w K mg base "_law_width" c_law_width 2) (D_law_state : Def P w K mg base "_law_state" c_law_state 1) (DN_Heap_init_0 : DefN P w K mg base "Heap" c_Heap_init 3 2 [] (gv_Heap_init_0 K)) (DN_Heap_init_1 : DefN P w K mg base "Heap" c_Heap_init 3 1 [] (gv_Heap_init_1 K)) (cdv : Value) (A : Around) (outer : List PySem.Env) (s : Shared) (H : Hp) (E : XK) (hr : Room 6 (A.deeper (PyProof.Rows.envOfC "law" (defScope s_law) s.heap.objs.size f cdv))) :
    ∃ t, DSs (cxOf (L2.CX P w) P w K mg base ["_law_script", "_law_state_here", "_law_width_here", "_law_rows_here", "_law_columns", "_law_heaps", "_law_bags", "_law_held", "_law_turn", "_law_at", "_law_way", "_law_row", "_law_found", "_law_other"] "law" (defScope s_law) f cdv A outer s H E) (fun cls d _ H => E cls d H) (defBody s_law) t w_law :=
  ⟨_, (dss_cons (ds_setH 1 DeckP sc_law.nd (de_call (c := c_law_state) D_law_state (hr.mono (by decide)) (takes_of rfl rfl rfl rfl) (da_cons (de_var 0) da_nil))) (dss_cons (ds_set 2 sc_law.nd (de_fz (de_call (c := c_law_width) D_law_width (hr.mono (by decide)) (takes_of rfl rfl rfl rfl) (da_cons (de_var 1) da_nil)))) (dss_cons (ds_set 3 sc_law.nd (de_fz (de_call (c := c_law_rows) D_law_rows (hr.mono (by decide)) (takes_of rfl rfl rfl rfl) (da_cons (de_var 1) (da_cons de_int (da_cons (de_var 2) da_nil)))))) (dss_cons (ds_set 4 sc_law.nd (de_fz (de_lst (da_cons (de_call (c := c_law_next) D_law_next (hr.mono (by decide)) (takes_of rfl rfl rfl rfl) (da_cons (de_var 1) (da_cons (de_var 2) da_nil))) (da_cons (de_call (c := c_law_next) D_law_next (hr.mono (by decide)) (takes_of rfl rfl rfl rfl) (da_cons (de_var 1) (da_cons (de_var 2) da_nil))) da_nil))))) (dss_cons (ds_set 5 sc_law.nd (de_fz (de_lst (da_cons (de_make (cn := c_Heap_init) (n := 1) (ks := []) (gV := (gv_Heap_init_1 K)) (gD := gd_Heap_init_1) DN_Heap_init_1 (gr_Heap_init_1 T.e_Heap_init_0) (hr.mono (by decide)) (takes_of rfl rfl rfl rfl) (da_cons (de_ix (de_bor 4) de_int) da_nil) dk_nil (K' := K)) (da_cons (de_make (cn := c_Heap_init) (n := 2) (ks := []) (gV := (gv_Heap_init_0 K)) (gD := gd_Heap_init_0) DN_Heap_init_0 (gr_Heap_init_0 T.e_Heap_init_0) (hr.mono (by decide)) (takes_of rfl rfl rfl rfl) (da_cons (de_ix (de_bor 4) de_int) (da_cons (de_ct n_tuple T.n_tuple (by decide +kernel) (da_cons (de_hl (de_sl (de_bor 3) do_none (do_some de_int))) da_nil)) da_nil)) dk_nil (K' := K)) da_nil))))) (dss_cons (ds_set 6 sc_law.nd (de_fz (de_lst (da_cons (de_hl (de_lst da_nil)) (da_cons (de_hl (de_sl (de_bor 3) do_none (do_some de_int))) da_nil))))) (dss_cons (ds_set 7 sc_law.nd (de_hl (de_lst da_nil))) (dss_cons (ds_for (passes_of rfl) rfl (di_r1 T.n_range (da_cons (de_op o_add de_int (de_call (c := c_law_next) D_law_next (hr.mono (by decide)) (takes_of rfl rfl rfl rfl) (da_cons (de_var 1) (da_cons de_int da_nil)))) da_nil)) (dg_name 8 sc_law.nd) (dss_cons (ds_set 9 sc_law.nd (de_fz (de_call (c := c_law_next) D_law_next (hr.mono (by decide)) (takes_of rfl rfl rfl rfl) (da_cons (de_var 1) (da_cons de_int da_nil))))) (dss_cons (ds_set 10 sc_law.nd (de_fz (de_call (c := c_law_next) D_law_next (hr.mono (by decide)) (takes_of rfl rfl rfl rfl) (da_cons (de_var 1) (da_cons de_int da_nil))))) (dss_one (ds_if (dt_cmp (o_ltA hr) (de_bor 10) de_int) (dss_cons (ds_set 11 sc_law.nd (de_fz (de_ix (de_bor 3) (de_call (c := c_law_next) D_law_next (hr.mono (by decide)) (takes_of rfl rfl rfl rfl) (da_cons (de_var 1) (da_cons de_int da_nil)))))) (dss_cons (ds_drop (de_meth (cn := c_Heap_put) D_Heap_put (hr.mono (by decide)) (takes_of rfl rfl rfl rfl) (de_ix (de_bor 5) (de_bor 9)) (da_cons (de_var 11) da_nil) (K' := K))) (dss_one (ds_drop (de_appR (de_ix (de_bor 6) (de_bor 9)) (de_var 11) (K' := K)))))) (dss_one (ds_if (dt_cmp (o_ltA hr) (de_bor 10) de_int) (dss_one (ds_if (dt_not (dt_tru (de_call (c := c_law_gone_so) D_law_gone_so (hr.mono (by decide)) (takes_of rfl rfl rfl rfl) (da_cons (de_ix (de_bor 5) (de_bor 9)) (da_cons (de_ix (de_bor 6) (de_bor 9)) (da_cons (de_ix (de_bor 4) (de_bor 9)) (da_cons (de_cmp (o_ltA hr) (de_bor 10) de_int) da_nil))))))) (dss_one (ds_ret de_bl)) dss_nil)) (dss_cons (ds_set 12 sc_law.nd (de_fz (de_meth0 (cn := c_Heap_told) D_Heap_told (hr.mono (by decide)) (takes_of rfl rfl rfl rfl) (de_ix (de_bor 5) (de_bor 9)) (K' := K)))) (dss_cons (ds_if (DW.dt (dw_or (dt_not (dt_tru (de_callD (c := c_law_told_so) D_law_told_so (hr.mono (by decide)) (takes_of rfl rfl rfl rfl) (da_cons (de_bor 12) (da_cons (de_ix (de_bor 6) (de_bor 9)) (da_cons (de_ix (de_bor 4) (de_bor 9)) da_nil))) (K' := K)))) (dw_or1 (dt_cmp (o_ne hr) (de_lenO (cn := c_Heap_len) D_Heap_len (hr.mono (by decide)) (takes_of rfl rfl rfl rfl) T.n_len (de_ix (de_bor 5) (de_bor 9)) (K' := K)) (de_cb n_len T.n_len (by decide +kernel) (da_cons (de_ix (de_bor 6) (de_bor 9)) da_nil)))))) (dss_one (ds_ret de_bl)) dss_nil) (dss_cons (ds_drop (de_app 7 (de_lst (da_cons (de_var 12) (da_cons (de_ct n_list T.n_list (by decide +kernel) (da_cons (de_bor 12) da_nil)) da_nil))))) (dss_one (ds_drop (de_appR (de_hl (de_meth0 (cn := c_Heap_told) D_Heap_told (hr.mono (by decide)) (takes_of rfl rfl rfl rfl) (de_ix (de_bor 5) (de_bor 9)) (K' := K))) (de_ix (de_bor 3) de_int) (K' := K)))))))))))))) (dss_cons (ds_for (passes_of rfl) rfl (di_r1 T.n_range (da_cons de_int da_nil)) (dg_name 9 sc_law.nd) (dss_one (ds_if (DW.dt (dw_or (dt_cmp (o_ne hr) (de_lenO (cn := c_Heap_len) D_Heap_len (hr.mono (by decide)) (takes_of rfl rfl rfl rfl) T.n_len (de_ix (de_bor 5) (de_bor 9)) (K' := K)) (de_cb n_len T.n_len (by decide +kernel) (da_cons (de_ix (de_bor 6) (de_bor 9)) da_nil))) (dw_or1 (dt_not (dt_tru (de_callD (c := c_law_told_so) D_law_told_so (hr.mono (by decide)) (takes_of rfl rfl rfl rfl) (da_cons (de_meth0 (cn := c_Heap_told) D_Heap_told (hr.mono (by decide)) (takes_of rfl rfl rfl rfl) (de_ix (de_bor 5) (de_bor 9)) (K' := K)) (da_cons (de_ix (de_bor 6) (de_bor 9)) (da_cons (de_ix (de_bor 4) (de_bor 9)) da_nil))) (K' := K))))))) (dss_one (ds_ret de_bl)) dss_nil))) (dss_one (ds_ret (de_cmp (o_eq hr) (de_lcH (own := [("_law_found", 12), ("_law_other", 13)]) rfl sc_law.nd (de_bor 7) (by kernel_rfl) (fun _ _ _ _ _ => (dgv_lst' rfl (dgvs_cons 12 sc_law.nd (dgvs_cons 13 sc_law.nd dgvs_nil)))) (fun _ _ _ _ _ => (dts_one (dt_cmp (o_ne' (K' := K) hr) (de_bor 12) (de_bor 13)))) (fun _ _ _ _ _ => de_int) s) (de_hl (de_lst da_nil))))))))))))))⟩
local macro_rules | `(tactic| fail "ca") => `(tactic| (with_reducible refine ca_guard ?_; first | with_reducible refine callK_less ?_ ?_ ?_ ?_ | with_reducible refine callK_Heap_len (by with_reducible assumption) (by with_reducible assumption) ?_ | with_reducible refine callK_Heap_first (by with_reducible assumption) (by with_reducible assumption) ?_ | with_reducible refine callK_Heap_told (by with_reducible assumption) (by with_reducible assumption) ?_ | with_reducible refine callK_law_state ?_ | with_reducible refine callK_law_next (by with_reducible assumption) ?_ ?_ ?_ | with_reducible refine callK_law_less ?_ ?_ ?_ ?_ | with_reducible refine callK_law_names ?_ ?_ | with_reducible refine callK_Heap_put (by with_reducible assumption) (by with_reducible assumption) ?_ ?_ ?_ ?_ ?_ ?_ | with_reducible refine callK_Heap_sink (by with_reducible assumption) (by with_reducible assumption) ?_ ?_ ?_ ?_ ?_ | with_reducible refine callK_law_number (by with_reducible assumption) ?_ ?_ ?_ | with_reducible refine callK_law_width (by with_reducible assumption) ?_ | with_reducible refine callK_law_least ?_ ?_ ?_ ?_ ?_ | with_reducible refine callK_Heap_init (by with_reducible assumption) (by with_reducible assumption) ?_ ?_ ?_ ?_ | with_reducible refine callK_Heap_take (by with_reducible assumption) (by with_reducible assumption) ?_ ?_ ?_ ?_ ?_ | with_reducible refine callK_law_rows (by with_reducible assumption) ?_ ?_ ?_ ?_ ?_ | with_reducible refine callK_law_none_held (by with_reducible assumption) (by with_reducible assumption) ?_ ?_ | with_reducible refine callK_law_alike ?_ ?_ ?_ | with_reducible refine callK_law_told_so ?_ ?_ ?_ ?_ ?_ ?_ | with_reducible refine callK_law_gone_so (by with_reducible assumption) (by with_reducible assumption) (by with_reducible assumption) ?_ ?_ ?_ ?_ ?_ ?_ ?_ ?_ | with_reducible refine callK_law ?_))
def pairOk (d : D) : Prop := ∃ rs : List (List Int), d = .lst [.lst (rowsD rs), .lst (rowsD rs)]
structure S23 (om : Om) (s a0 b0 y0 a1 b1 y1 g : Addr) (c0 c1 : Int) (R : List (List Int)) (hp0 bg0 hp1 bg1 : List (List Int)) (hs : List D) (n : Nat) : Prop where
  nd : [s, a0, b0, y0, a1, b1, y1, g].Nodup
  s : om s = some (.lstP DeckP)
  a0 : om a0 = some (HpO c0 b0)
  b0 : om b0 = some (.lst (rowsD hp0))
  y0 : om y0 = some (.lst (rowsD bg0))
  a1 : om a1 = some (HpO c1 b1)
  b1 : om b1 = some (.lst (rowsD hp1))
  y1 : om y1 = some (.lst (rowsD bg1))
  g : om g = some (.lst hs)
  h0 : IsHp c0.toNat hp0
  p0 : hp0.Perm bg0
  h1 : IsHp c1.toNat hp1
  p1 : hp1.Perm bg1
  m0 : ∀ r ∈ bg0, r ∈ R
  m1 : ∀ r ∈ bg1, r ∈ R
  n0 : bg0.length ≤ n + 3
  n1 : bg1.length ≤ n + 3
  ok : ∀ d ∈ hs, pairOk d
  hn : hs.length ≤ n
theorem S23.up {om om' : Om} {s a0 b0 y0 a1 b1 y1 g : Addr} {c0 c1 : Int} {R hp0 bg0 hp1 bg1 : List (List Int)} {hs : List D} {n : Nat} (h : S23 om s a0 b0 y0 a1 b1 y1 g c0 c1 R hp0 bg0 hp1 bg1 hs n) : S23 om s a0 b0 y0 a1 b1 y1 g c0 c1 R hp0 bg0 hp1 bg1 hs (n + 1) :=
  { h with n0 := by have := h.n0; omega, n1 := by have := h.n1; omega, hn := by have := h.hn; omega }
theorem S23.keep {om om' : Om} {s a0 b0 y0 a1 b1 y1 g : Addr} {c0 c1 : Int} {R hp0 bg0 hp1 bg1 : List (List Int)} {hs : List D} {n : Nat} (h : S23 om s a0 b0 y0 a1 b1 y1 g c0 c1 R hp0 bg0 hp1 bg1 hs n) (hk : ∀ z, om z ≠ none → om' z = om z) : S23 om' s a0 b0 y0 a1 b1 y1 g c0 c1 R hp0 bg0 hp1 bg1 hs n := by
  have k : ∀ z o, om z = some o → om' z = some o := fun z o e => by rw [hk z (by rw [e]; simp)]; exact e
  exact { h with s := k _ _ h.s, a0 := k _ _ h.a0, b0 := k _ _ h.b0, y0 := k _ _ h.y0, a1 := k _ _ h.a1, b1 := k _ _ h.b1, y1 := k _ _ h.y1, g := k _ _ h.g }
theorem S23.upd0 {om om' : Om} {s a0 b0 y0 a1 b1 y1 g : Addr} {c0 c1 : Int} {R hp0 bg0 hp1 bg1 hp' bg' : List (List Int)} {hs : List D} {n : Nat} (h : S23 om s a0 b0 y0 a1 b1 y1 g c0 c1 R hp0 bg0 hp1 bg1 hs n) (hb : om' b0 = some (.lst (rowsD hp'))) (hy : om' y0 = some (.lst (rowsD bg'))) (hk : ∀ z, z ≠ y0 → z ≠ b0 → om' z = om z)
    (hh : IsHp c0.toNat hp') (hp : hp'.Perm bg') (hm : ∀ r ∈ bg', r ∈ R) (hl : bg'.length ≤ n + 4) : S23 om' s a0 b0 y0 a1 b1 y1 g c0 c1 R hp' bg' hp1 bg1 hs (n + 1) := by
  have nd := h.nd
  simp only [List.nodup_cons, List.mem_cons, List.not_mem_nil, or_false, not_or] at nd
  obtain ⟨⟨_, n1, n2, _⟩, ⟨n3, n4, _⟩, ⟨n5, n6, n7, n8, n9⟩, ⟨n10, n11, n12, n13⟩, _⟩ := nd
  exact { nd := h.nd, s := by rw [hk _ n2 n1]; exact h.s, a0 := by rw [hk _ n4 n3]; exact h.a0, b0 := hb, y0 := hy, a1 := by rw [hk _ (Ne.symm n10) (Ne.symm n6)]; exact h.a1, b1 := by rw [hk _ (Ne.symm n11) (Ne.symm n7)]; exact h.b1, y1 := by rw [hk _ (Ne.symm n12) (Ne.symm n8)]; exact h.y1, g := by rw [hk _ (Ne.symm n13) (Ne.symm n9)]; exact h.g
          h0 := hh, p0 := hp, h1 := h.h1, p1 := h.p1, m0 := hm, m1 := h.m1, n0 := by omega, n1 := by have := h.n1; omega, ok := h.ok, hn := by have := h.hn; omega }
theorem S23.upd1 {om om' : Om} {s a0 b0 y0 a1 b1 y1 g : Addr} {c0 c1 : Int} {R hp0 bg0 hp1 bg1 hp' bg' : List (List Int)} {hs : List D} {n : Nat} (h : S23 om s a0 b0 y0 a1 b1 y1 g c0 c1 R hp0 bg0 hp1 bg1 hs n) (hb : om' b1 = some (.lst (rowsD hp'))) (hy : om' y1 = some (.lst (rowsD bg'))) (hk : ∀ z, z ≠ y1 → z ≠ b1 → om' z = om z)
    (hh : IsHp c1.toNat hp') (hp : hp'.Perm bg') (hm : ∀ r ∈ bg', r ∈ R) (hl : bg'.length ≤ n + 4) : S23 om' s a0 b0 y0 a1 b1 y1 g c0 c1 R hp0 bg0 hp' bg' hs (n + 1) := by
  have nd := h.nd
  simp only [List.nodup_cons, List.mem_cons, List.not_mem_nil, or_false, not_or] at nd
  obtain ⟨⟨_, _, _, _, m5, m6, _⟩, ⟨_, _, _, m7, m8, _⟩, ⟨_, _, m9, m10, _⟩, ⟨_, m11, m12, _⟩, ⟨m13, m14, _⟩, ⟨m15, m16⟩, m17, _⟩ := nd
  exact { nd := h.nd, s := by rw [hk _ m6 m5]; exact h.s, a0 := by rw [hk _ m8 m7]; exact h.a0, b0 := by rw [hk _ m10 m9]; exact h.b0, y0 := by rw [hk _ m12 m11]; exact h.y0, a1 := by rw [hk _ m14 m13]; exact h.a1, b1 := hb, y1 := hy, g := by rw [hk _ (Ne.symm m17) (Ne.symm m16)]; exact h.g
          h0 := h.h0, p0 := h.p0, h1 := hh, p1 := hp, m0 := h.m0, m1 := hm, n0 := by have := h.n0; omega, n1 := by omega, ok := h.ok, hn := by have := h.hn; omega }
theorem S23.updg {om : Om} {s a0 b0 y0 a1 b1 y1 g : Addr} {c0 c1 : Int} {R hp0 bg0 hp1 bg1 : List (List Int)} {hs : List D} {n : Nat} {rs : List (List Int)} (h : S23 om s a0 b0 y0 a1 b1 y1 g c0 c1 R hp0 bg0 hp1 bg1 hs n) : S23 (oset om g (.lst (hs ++ [.lst [.lst (rowsD rs), .lst (rowsD rs)]]))) s a0 b0 y0 a1 b1 y1 g c0 c1 R hp0 bg0 hp1 bg1 (hs ++ [.lst [.lst (rowsD rs), .lst (rowsD rs)]]) (n + 1) := by
  have nd := h.nd
  simp only [List.nodup_cons, List.mem_cons, List.not_mem_nil, or_false, not_or] at nd
  obtain ⟨⟨_, _, _, _, _, _, g1⟩, ⟨_, _, _, _, _, g2⟩, ⟨_, _, _, _, g3⟩, ⟨_, _, _, g4⟩, ⟨_, _, g5⟩, ⟨_, g6⟩, g7, _⟩ := nd
  exact { nd := h.nd, s := by rw [oset_ne g1]; exact h.s, a0 := by rw [oset_ne g2]; exact h.a0, b0 := by rw [oset_ne g3]; exact h.b0, y0 := by rw [oset_ne g4]; exact h.y0, a1 := by rw [oset_ne g5]; exact h.a1, b1 := by rw [oset_ne g6]; exact h.b1, y1 := by rw [oset_ne g7]; exact h.y1, g := oset_same
          h0 := h.h0, p0 := h.p0, h1 := h.h1, p1 := h.p1, m0 := h.m0, m1 := h.m1, n0 := by have := h.n0; omega, n1 := by have := h.n1; omega
          ok := fun d m => by
            rcases List.mem_append.mp m with m | m
            · exact h.ok d m
            · rw [List.mem_singleton.mp m]; exact ⟨rs, rfl⟩
          hn := by have := h.hn; rw [List.length_append]; simp only [List.length_cons, List.length_nil]; omega }
theorem ne_new {om : Om} {x z : Addr} {o : Ob} (h : om x = some o) (hz : om z = none) : x ≠ z := fun e => by rw [e, hz] at h; cases h
theorem hk_new {om : Om} {x z : Addr} {o : Ob} (h : om x = some o) (hz : om z = none) (ob : Ob) : oset om z ob x = some o := by
  rw [oset_ne (fun e => by rw [e, hz] at h; cases h)]; exact h
theorem callK_Heap_new {om : Om} {k : RV → Om → Prop} {xk : Exn → Om → Prop} {a : Addr} {c : Int} {rs : List (List Int)} {d : D} {t : Tg (df_Heap_init, k, xk)} (ha : om a = none) (hd : d = .lst (rowsD rs) ∨ d = .tup (rowsD rs)) (c0 : 0 ≤ c) (hw : ∀ r ∈ rs, c < r.length) (hl : rs.length ≤ 5000)
    (h : ∀ (b : Addr) (hp : List (List Int)), om b = none → a ≠ b → IsHp c.toNat hp → hp.Perm rs → k (.v .non) (oset (oset om b (.lst (rowsD hp))) a (HpO c b))) : callK df_Heap_init [.h a, .int c, d] (oset om a (.ins "Heap" [])) k xk t :=
  callK_Heap_init oset_same hd c0 hw hl fun b hp hb hh hpm => by
    have hab : a ≠ b := fun e => by rw [← e, oset_same] at hb; cases hb
    rw [oset_ne (Ne.symm hab)] at hb
    have := h b hp hb hab hh hpm
    rwa [oset_comm hab, oset_set]

section
local macro_rules | `(tactic| fail "d1") => `(tactic| simp -dsimp only [↓u_0, ↓u_16, ↓u_17, ↓u_18, ↓u_19, ↓u_21, ↓u_22, ↓u_25, ↓u_26, ↓u_28, ↓u_29, ↓u_31, ↓u_32, ↓u_44, ↓u_45, ↓u_46, ↓u_47, ↓u_48, ↓u_50, ↓u_51, ↓u_57, ↓u_58, ↓u_64, ↓u_66, u_67, ↓u_69, ↓u_70, ↓u_73, ↓u_74, ↓u_77, ↓u_79, ↓u_80, u_82, u_83, u_86, u_90, u_91, u_92, u_93, u_94, u_96, u_98, u_99, u_100, u_101, u_102, u_103, u_105, u_106, u_111, u_112, u_114, u_117, ↓u_135, ↓u_136, ↓u_137, ↓u_142, ↓u_145, ↓u_146, u_160, ↓u_164, ↓u_172, ↓u_184, ↓u_192, u_195, u_197, u_199, u_200, u_201, u_202, u_206, u_207, u_209, u_210, u_211, u_212, u_213, u_214, u_216, u_217, u_218, u_220, u_221, u_223, u_234, u_236, u_237, ↓u_238, ↓u_239, ↓u_240, ↓u_241, ↓u_259, ↓u_260, ↓u_301, u_329, ↓u_374, u_379, u_389, ↓u_394, ↓u_395, ↓u_396, ↓u_397, ↓u_398, ↓u_403, u_404, u_406, u_411, u_425, u_429, u_434, u_436, ↓u_474, ↓u_475, ↓u_476, ↓u_479, ↓u_480, u_481, u_482, ↓u_486, ↓u_487, ↓u_494, u_495, ↓u_518, ↓u_519, ↓u_521, ↓u_524, ↓u_525, ↓u_527, ↓u_532, ↓u_533, u_543, sbe_put_heaped, sbe_put_column, sbe_told_heaped, sbe_told_column, gs_Heap_init_0, gs_Heap_init_1, List.length_append, List.map_nil, List.map_append, List.map_cons, Nat.reduceSub, Nat.reduceAdd, Nat.reduceLT, Nat.reduceLeDiff, reduceIte, String.reduceBEq, String.reduceEq, Int.reduceLT, Int.reduceLE, Int.reduceEq, Int.reduceToNat])
local macro_rules | `(tactic| fail "dl") => `(tactic| try fail "d1")
theorem wp_law (ds : List D) (om : Om) (k : RV → Om → Prop) (xk : Exn → Om → Prop) (h : df_law ds om k xk) : w_law (endOf k xk) (startE 14 ds) om := by
  obtain ⟨ns, rfl, h⟩ := h
  unfold w_law endOf
  fail "gs"
  rename_i es' hes' s hs0
  have hs : (oset om s (.lstP DeckP)) s = some (.lstP DeckP) := oset_same
  generalize oset om s (.lstP DeckP) = om1 at *
  fail "gs"
  rename_i w w0 w1 R hl hr c0 c00 c01 c1 c10 c11 a0 ha0
  have lR := len_rows R
  have hwc : ∀ c : Int, c < w → ∀ r ∈ R, c < r.length := fun c hc r m => by rw [(hr r m).1]; exact hc
  have hsz : ∀ r ∈ R, r.length ≤ 100 := fun r m => by have := (hr r m).1; omega
  have hsa0 : s ≠ a0 := fun e => by rw [e, ha0] at hs; cases hs
  have ct : cutD (rowsD R) none (some 3) = rowsD (R.take 3) := by
    have := cutD_0j (ds := rowsD R) (j := 3)
    rw [show ((3 : Nat) : Int) = 3 from rfl] at this
    rw [this, rowsD, rowsD, List.map_take]
  refine callK_Heap_new (rs := []) ha0 (.inr rfl) c00 (by simp) (by simp) fun b0 hp0 hb0 hab0 hh0 hpm0 => ?_
  have hsb0 : s ≠ b0 := fun e => by rw [e, hb0] at hs; cases hs
  have q1 : (oset (oset om1 b0 (.lst (rowsD hp0))) a0 (HpO c0 b0)) s = some (.lstP DeckP) := by rw [oset_ne hsa0, oset_ne hsb0]; exact hs
  have q2 : (oset (oset om1 b0 (.lst (rowsD hp0))) a0 (HpO c0 b0)) a0 = some (HpO c0 b0) := oset_same
  have q3 : (oset (oset om1 b0 (.lst (rowsD hp0))) a0 (HpO c0 b0)) b0 = some (.lst (rowsD hp0)) := by rw [oset_ne (Ne.symm hab0)]; exact oset_same
  generalize oset (oset om1 b0 (.lst (rowsD hp0))) a0 (HpO c0 b0) = om2 at *
  fail "gs"
  rename_i z hz a1 ha1
  have q1' := hk_new q1 hz (.lst (cutD (rowsD R) none (some 3)))
  have q2' := hk_new q2 hz (.lst (cutD (rowsD R) none (some 3)))
  have q3' := hk_new q3 hz (.lst (cutD (rowsD R) none (some 3)))
  clear q1 q2 q3
  generalize oset om2 z (.lst (cutD (rowsD R) none (some 3))) = om3 at *
  rw [ct]
  refine callK_Heap_new (rs := R.take 3) ha1 (.inr rfl) c10 (fun r m => hwc c1 c11 r (List.mem_of_mem_take m)) (by rw [List.length_take]; omega) fun b1 hp1 hb1 hab1 hh1 hpm1 => ?_
  have ne1 : ∀ {x o}, om3 x = some o → x ≠ a1 ∧ x ≠ b1 := fun {x o} e => ⟨fun e2 => (by rw [e2, ha1] at e; cases e), fun e2 => (by rw [e2, hb1] at e; cases e)⟩
  have q4 : ∀ {x o}, om3 x = some o → (oset (oset om3 b1 (.lst (rowsD hp1))) a1 (HpO c1 b1)) x = some o := fun {x o} e => by rw [oset_ne (ne1 e).1, oset_ne (ne1 e).2]; exact e
  have nn1 := ne1 q1'
  have nn2 := ne1 q2'
  have nn3 := ne1 q3'
  have r1 := q4 q1'
  have r2 := q4 q2'
  have r3 := q4 q3'
  have r4 : (oset (oset om3 b1 (.lst (rowsD hp1))) a1 (HpO c1 b1)) a1 = some (HpO c1 b1) := oset_same
  have r5 : (oset (oset om3 b1 (.lst (rowsD hp1))) a1 (HpO c1 b1)) b1 = some (.lst (rowsD hp1)) := by rw [oset_ne (Ne.symm hab1)]; exact oset_same
  clear q4 ne1 q1' q2' q3'
  generalize oset (oset om3 b1 (.lst (rowsD hp1))) a1 (HpO c1 b1) = om4 at *
  fail "gs"
  rename_i y0 hy0 y1 hy1 g hg
  have t1 := hk_new r1 hy0 (.lst [])
  have t2 := hk_new r2 hy0 (.lst [])
  have t3 := hk_new r3 hy0 (.lst [])
  have t4 := hk_new r4 hy0 (.lst [])
  have t5 := hk_new r5 hy0 (.lst [])
  have t6 : oset om4 y0 (.lst []) y0 = some (.lst (rowsD [])) := oset_same
  have u := fun {x : Addr} {o : Ob} (e : oset om4 y0 (.lst []) x = some o) => hk_new e hy1 (.lst (cutD (rowsD R) none (some 3)))
  have u7 : oset (oset om4 y0 (.lst [])) y1 (.lst (cutD (rowsD R) none (some 3))) y1 = some (.lst (rowsD (R.take 3))) := by rw [oset_same, ct]
  have v := fun {x : Addr} {o : Ob} (e : oset (oset om4 y0 (.lst [])) y1 (.lst (cutD (rowsD R) none (some 3))) x = some o) => hk_new e hg (.lst [])
  have e0 : hp0 = [] := by simpa using hpm0
  subst e0
  have hS : S23 (oset (oset (oset om4 y0 (.lst [])) y1 (.lst (cutD (rowsD R) none (some 3)))) g (.lst [])) s a0 b0 y0 a1 b1 y1 g c0 c1 R [] [] hp1 (R.take 3) [] 0 := by
    refine ⟨?_, v (u t1), v (u t2), v (u t3), v (u t6), v (u t4), v (u t5), v u7, oset_same, hh0, by simp, hh1, hpm1, by simp, fun r m => List.mem_of_mem_take m, by simp, by rw [List.length_take]; omega, by simp, by simp⟩
    simp only [List.nodup_cons, List.mem_cons, List.not_mem_nil, or_false, not_or, not_false_eq_true, List.nodup_nil, and_true]
    exact ⟨⟨hsa0, hsb0, ne_new r1 hy0, nn1.1, nn1.2, ne_new t1 hy1, ne_new (u t1) hg⟩, ⟨hab0, ne_new r2 hy0, nn2.1, nn2.2, ne_new t2 hy1, ne_new (u t2) hg⟩, ⟨ne_new r3 hy0, nn3.1, nn3.2, ne_new t3 hy1, ne_new (u t3) hg⟩, ⟨Ne.symm (ne_new r4 hy0), Ne.symm (ne_new r5 hy0), ne_new t6 hy1, ne_new (u t6) hg⟩, ⟨hab1, ne_new t4 hy1, ne_new (u t4) hg⟩, ⟨ne_new t5 hy1, ne_new (u t5) hg⟩, ne_new u7 hg⟩
  clear t1 t2 t3 t4 t5 t6 u u7 v r1 r2 r3 r4 r5 nn1 nn2 nn3 hy0 hy1 hg
  generalize oset (oset (oset om4 y0 (.lst [])) y1 (.lst (cutD (rowsD R) none (some 3)))) g (.lst []) = om5 at *
  have hs5 := hS.s
  fail "gs"
  rename_i q q0 q1
  refine loop_rng (fun i r om' => ∃ (hp0 bg0 hp1 bg1 : List (List Int)) (hs : List D) (x8 x9 x10 x11 x12 : Option RV), S23 om' s a0 b0 y0 a1 b1 y1 g c0 c1 R hp0 bg0 hp1 bg1 hs i ∧ r = [some (.v (.frl (ns.map D.int))), some (.v (.h s)), some (.v (.int w)), some (.v (.lst (rowsD R))), some (.v (.lst [.int c0, .int c1])), some (.v (.lst [.h a0, .h a1])), some (.v (.lst [.h y0, .h y1])), some (.v (.h g)), x8, x9, x10, x11, x12, none]) ⟨_, _, _, _, _, _, _, _, _, _, hS, rfl⟩ ?_ ?_
  · rintro i r om' nx hi ⟨hp0, bg0, hp1, bg1, hs, x8, x9, x10, x11, x12, hS, rfl⟩ hn
    have hs' := hS.s
    have l0 := hS.n0
    have l1 := hS.n1
    have p0 := hS.p0.length_eq
    have p1 := hS.p1.length_eq
    have w0' : ∀ r ∈ hp0, c0 < r.length := fun r m => hwc c0 c01 r (hS.m0 r (hS.p0.mem_iff.mp m))
    have w1' : ∀ r ∈ hp1, c1 < r.length := fun r m => hwc c1 c11 r (hS.m1 r (hS.p1.mem_iff.mp m))
    have wb0 : ∀ r ∈ bg0, c0 < r.length ∧ r.length ≤ 100 := fun r m => ⟨hwc c0 c01 r (hS.m0 r m), hsz r (hS.m0 r m)⟩
    have wb1 : ∀ r ∈ bg1, c1 < r.length ∧ r.length ≤ 100 := fun r m => ⟨hwc c1 c11 r (hS.m1 r m), hsz r (hS.m1 r m)⟩
    unfold stepOf
    fail "dl"
    refine callK_law_next hs' (by decide) (by decide) (fun at_ at0 at1 => ?_)
    fail "dl"
    refine callK_law_next hs' (by decide) (by decide) (fun way way0 way1 => ?_)
    rcases (show at_ = 0 ∨ at_ = 1 by omega) with rfl | rfl
    · have ha := hS.a0
      have hb := hS.b0
      have hy := hS.y0
      have hdy := deref_h hy
      have hg := hS.g
      have hh := hS.h0
      have hpm := hS.p0
      have nd := hS.nd
      simp only [List.nodup_cons, List.mem_cons, List.not_mem_nil, or_false, not_or] at nd
      have hyb : y0 ≠ b0 := by obtain ⟨_, _, nb, _, _, nb1, _⟩ := nd; first | exact fun e => nb.1 e.symm | exact fun e => nb1.1 e.symm
      have hya : y0 ≠ a0 := by obtain ⟨_, na, _, _, na1, _⟩ := nd; first | exact fun e => na.2.1 e.symm | exact fun e => na1.2.1 e.symm
      have hrow : ∀ z : Int, 0 ≤ z → z < 12 → c0 < (R.getD z.toNat []).length := fun z z0 z1 => hwc c0 c01 _ (getD_mem z0 (by omega))
      have hyx : ∀ o, (oset om' b0 o) y0 = some (.lst (rowsD bg0)) := fun o => by rw [oset_ne hyb]; exact hy
      have lb := len_rows bg0
      have lh := len_rows hp0
      have hga : g ≠ a0 := by obtain ⟨_, na, _, _, na1, _⟩ := nd; first | exact fun e => na.2.2.2.2.2 e.symm | exact fun e => na1.2.2 e.symm
      have hgb' : g ≠ b0 := by obtain ⟨_, _, nb, _, _, nb1, _⟩ := nd; first | exact fun e => nb.2.2.2.2 e.symm | exact fun e => nb1.2 e.symm
      have hgx : ∀ o, (oset om' g o) a0 = some (HpO c0 b0) := fun o => by rw [oset_ne (Ne.symm hga)]; exact ha
      have hgb : ∀ o, (oset om' g o) b0 = some (.lst (rowsD hp0)) := fun o => by rw [oset_ne (Ne.symm hgb')]; exact hb
      have hzs : hs.length < 1000 := by have := hS.hn; omega
      (repeat' (first | (with_reducible assumption) | (with_reducible intro _) | (with_reducible apply And.intro) | fail "ca" | simp -dsimp only [↓u_0, ↓u_16, ↓u_17, ↓u_18, ↓u_19, ↓u_21, ↓u_22, ↓u_25, ↓u_26, ↓u_28, ↓u_29, ↓u_31, ↓u_32, ↓u_44, ↓u_45, ↓u_46, ↓u_47, ↓u_48, ↓u_50, ↓u_51, ↓u_57, ↓u_58, ↓u_64, ↓u_66, u_67, ↓u_69, ↓u_70, ↓u_73, ↓u_74, ↓u_77, ↓u_79, ↓u_80, u_82, u_83, u_86, u_90, u_91, u_92, u_93, u_94, u_96, u_98, u_99, u_100, u_101, u_102, u_103, u_105, u_106, u_111, u_112, u_114, u_117, ↓u_135, ↓u_136, ↓u_137, ↓u_142, ↓u_145, ↓u_146, u_160, ↓u_164, ↓u_172, ↓u_184, ↓u_192, u_195, u_197, u_199, u_200, u_201, u_202, u_206, u_207, u_209, u_210, u_211, u_212, u_213, u_214, u_216, u_217, u_218, u_220, u_221, u_223, u_234, u_236, u_237, ↓u_238, ↓u_239, ↓u_240, ↓u_241, ↓u_259, ↓u_260, ↓u_301, u_329, ↓u_374, u_379, u_389, ↓u_394, ↓u_395, ↓u_396, ↓u_397, ↓u_398, ↓u_403, u_404, u_406, u_411, u_425, u_429, u_434, u_436, ↓u_474, ↓u_475, ↓u_476, ↓u_479, ↓u_480, u_481, u_482, ↓u_486, ↓u_487, ↓u_494, u_495, ↓u_518, ↓u_519, ↓u_521, ↓u_524, ↓u_525, ↓u_527, ↓u_532, ↓u_533, u_543, sbe_put_heaped, sbe_put_column, sbe_told_heaped, sbe_told_column, gs_Heap_init_0, gs_Heap_init_1, List.length_append, List.map_nil, List.map_append, List.map_cons, Nat.reduceSub, Nat.reduceAdd, Nat.reduceLT, Nat.reduceLeDiff, reduceIte, String.reduceBEq, String.reduceEq, Int.reduceLT, Int.reduceLE, Int.reduceEq, Int.reduceToNat, ha, hdy, hyx, hg, hgx] | fail "ix" | (with_reducible refine rdDh_of (by with_reducible assumption) ?_) | (with_reducible refine cnd_T (by with_reducible assumption) ?_) | (with_reducible refine cnd_F (by with_reducible assumption) ?_) | (with_reducible refine cnd_yes (by omega) ?_) | (with_reducible refine cnd_no (by omega) ?_) | (with_reducible refine cnd_dec ?_ ?_) | (with_reducible refine cnd_of ?_ ?_) | fail "si" | fail))
      · exact hrow _ (by assumption) (by assumption)
      · rename_i z z0 z1 hp' hh' hpm'
        have eR : rowsD bg0 ++ [rowD (R.getD z.toNat [])] = rowsD (bg0 ++ [R.getD z.toNat []]) := by simp [rowsD]
        rw [eR]
        exact hn _ _ ⟨hp', bg0 ++ [R.getD z.toNat []], hp1, bg1, hs, _, _, _, _, _, hS.upd0 (by rw [oset_ne (Ne.symm hyb)]; exact oset_same) oset_same (fun x x1 x2 => by rw [oset_ne x1, oset_ne x2]) hh' (hpm'.trans ((List.Perm.cons _ hpm).trans (List.perm_append_singleton _ _).symm)) (fun r m => (List.mem_append.mp m).elim (hS.m0 r) fun m => by rw [List.mem_singleton.mp m]; exact getD_mem z0 (by omega)) (by rw [List.length_append]; simp only [List.length_cons, List.length_nil]; omega), rfl⟩
      · rename_i om2 hp' bg' e1 e2 e3 e4 e5 e6 e7
        exact hn _ _ ⟨hp', bg', hp1, bg1, hs, _, _, _, _, _, hS.upd0 e1 e2 e3 e4 e5 (fun r m => hS.m0 r (e6 r m)) (by omega), rfl⟩
      · refine callK_Heap_told (hgx _) (hgb _) ?_
        fail "gs"
        rename_i z hz
        exact hn _ _ ⟨hp0, bg0, hp1, bg1, _, _, _, _, _, _, hS.updg.keep (fun x hx => oset_ne fun e => hx (by rw [e]; exact hz)), rfl⟩
    · have ha := hS.a1
      have hb := hS.b1
      have hy := hS.y1
      have hdy := deref_h hy
      have hg := hS.g
      have hh := hS.h1
      have hpm := hS.p1
      have nd := hS.nd
      simp only [List.nodup_cons, List.mem_cons, List.not_mem_nil, or_false, not_or] at nd
      have hyb : y1 ≠ b1 := by obtain ⟨_, _, nb, _, _, nb1, _⟩ := nd; first | exact fun e => nb.1 e.symm | exact fun e => nb1.1 e.symm
      have hya : y1 ≠ a1 := by obtain ⟨_, na, _, _, na1, _⟩ := nd; first | exact fun e => na.2.1 e.symm | exact fun e => na1.2.1 e.symm
      have hrow : ∀ z : Int, 0 ≤ z → z < 12 → c1 < (R.getD z.toNat []).length := fun z z0 z1 => hwc c1 c11 _ (getD_mem z0 (by omega))
      have hyx : ∀ o, (oset om' b1 o) y1 = some (.lst (rowsD bg1)) := fun o => by rw [oset_ne hyb]; exact hy
      have lb := len_rows bg1
      have lh := len_rows hp1
      have hga : g ≠ a1 := by obtain ⟨_, na, _, _, na1, _⟩ := nd; first | exact fun e => na.2.2.2.2.2 e.symm | exact fun e => na1.2.2 e.symm
      have hgb' : g ≠ b1 := by obtain ⟨_, _, nb, _, _, nb1, _⟩ := nd; first | exact fun e => nb.2.2.2.2 e.symm | exact fun e => nb1.2 e.symm
      have hgx : ∀ o, (oset om' g o) a1 = some (HpO c1 b1) := fun o => by rw [oset_ne (Ne.symm hga)]; exact ha
      have hgb : ∀ o, (oset om' g o) b1 = some (.lst (rowsD hp1)) := fun o => by rw [oset_ne (Ne.symm hgb')]; exact hb
      have hzs : hs.length < 1000 := by have := hS.hn; omega
      (repeat' (first | (with_reducible assumption) | (with_reducible intro _) | (with_reducible apply And.intro) | fail "ca" | simp -dsimp only [↓u_0, ↓u_16, ↓u_17, ↓u_18, ↓u_19, ↓u_21, ↓u_22, ↓u_25, ↓u_26, ↓u_28, ↓u_29, ↓u_31, ↓u_32, ↓u_44, ↓u_45, ↓u_46, ↓u_47, ↓u_48, ↓u_50, ↓u_51, ↓u_57, ↓u_58, ↓u_64, ↓u_66, u_67, ↓u_69, ↓u_70, ↓u_73, ↓u_74, ↓u_77, ↓u_79, ↓u_80, u_82, u_83, u_86, u_90, u_91, u_92, u_93, u_94, u_96, u_98, u_99, u_100, u_101, u_102, u_103, u_105, u_106, u_111, u_112, u_114, u_117, ↓u_135, ↓u_136, ↓u_137, ↓u_142, ↓u_145, ↓u_146, u_160, ↓u_164, ↓u_172, ↓u_184, ↓u_192, u_195, u_197, u_199, u_200, u_201, u_202, u_206, u_207, u_209, u_210, u_211, u_212, u_213, u_214, u_216, u_217, u_218, u_220, u_221, u_223, u_234, u_236, u_237, ↓u_238, ↓u_239, ↓u_240, ↓u_241, ↓u_259, ↓u_260, ↓u_301, u_329, ↓u_374, u_379, u_389, ↓u_394, ↓u_395, ↓u_396, ↓u_397, ↓u_398, ↓u_403, u_404, u_406, u_411, u_425, u_429, u_434, u_436, ↓u_474, ↓u_475, ↓u_476, ↓u_479, ↓u_480, u_481, u_482, ↓u_486, ↓u_487, ↓u_494, u_495, ↓u_518, ↓u_519, ↓u_521, ↓u_524, ↓u_525, ↓u_527, ↓u_532, ↓u_533, u_543, sbe_put_heaped, sbe_put_column, sbe_told_heaped, sbe_told_column, gs_Heap_init_0, gs_Heap_init_1, List.length_append, List.map_nil, List.map_append, List.map_cons, Nat.reduceSub, Nat.reduceAdd, Nat.reduceLT, Nat.reduceLeDiff, reduceIte, String.reduceBEq, String.reduceEq, Int.reduceLT, Int.reduceLE, Int.reduceEq, Int.reduceToNat, ha, hdy, hyx, hg, hgx] | fail "ix" | (with_reducible refine rdDh_of (by with_reducible assumption) ?_) | (with_reducible refine cnd_T (by with_reducible assumption) ?_) | (with_reducible refine cnd_F (by with_reducible assumption) ?_) | (with_reducible refine cnd_yes (by omega) ?_) | (with_reducible refine cnd_no (by omega) ?_) | (with_reducible refine cnd_dec ?_ ?_) | (with_reducible refine cnd_of ?_ ?_) | fail "si" | fail))
      · exact hrow _ (by assumption) (by assumption)
      · rename_i z z0 z1 hp' hh' hpm'
        have eR : rowsD bg1 ++ [rowD (R.getD z.toNat [])] = rowsD (bg1 ++ [R.getD z.toNat []]) := by simp [rowsD]
        rw [eR]
        exact hn _ _ ⟨hp0, bg0, hp', bg1 ++ [R.getD z.toNat []], hs, _, _, _, _, _, hS.upd1 (by rw [oset_ne (Ne.symm hyb)]; exact oset_same) oset_same (fun x x1 x2 => by rw [oset_ne x1, oset_ne x2]) hh' (hpm'.trans ((List.Perm.cons _ hpm).trans (List.perm_append_singleton _ _).symm)) (fun r m => (List.mem_append.mp m).elim (hS.m1 r) fun m => by rw [List.mem_singleton.mp m]; exact getD_mem z0 (by omega)) (by rw [List.length_append]; simp only [List.length_cons, List.length_nil]; omega), rfl⟩
      · rename_i om2 hp' bg' e1 e2 e3 e4 e5 e6 e7
        exact hn _ _ ⟨hp0, bg0, hp', bg', hs, _, _, _, _, _, hS.upd1 e1 e2 e3 e4 e5 (fun r m => hS.m1 r (e6 r m)) (by omega), rfl⟩
      · refine callK_Heap_told (hgx _) (hgb _) ?_
        fail "gs"
        rename_i z hz
        exact hn _ _ ⟨hp0, bg0, hp1, bg1, _, _, _, _, _, _, hS.updg.keep (fun x hx => oset_ne fun e => hx (by rw [e]; exact hz)), rfl⟩
  · rintro r om' ⟨hp0, bg0, hp1, bg1, hs, x8, x9, x10, x11, x12, hS, rfl⟩
    have l0 := hS.n0
    have l1 := hS.n1
    have p0 := hS.p0.length_eq
    have p1 := hS.p1.length_eq
    fail "gs"
    refine loop_rng (fun i r om2 => om2 = om' ∧ ∃ y9 : Option RV, r = [some (.v (.frl (ns.map D.int))), some (.v (.h s)), some (.v (.int w)), some (.v (.lst (rowsD R))), some (.v (.lst [.int c0, .int c1])), some (.v (.lst [.h a0, .h a1])), some (.v (.lst [.h y0, .h y1])), some (.v (.h g)), x8, y9, x10, x11, x12, none]) ⟨rfl, _, rfl⟩ ?_ ?_
    · rintro i r om2 nx hi ⟨rfl, y9, rfl⟩ hn
      rcases (show i = 0 ∨ i = 1 by omega) with rfl | rfl
      ·
        have ha := hS.a0
        have hb := hS.b0
        have hy := hS.y0
        have hdy := deref_h hy
        have hg := hS.g
        have hh := hS.h0
        have hpm := hS.p0
        have lb := len_rows bg0
        have lh := len_rows hp0
        have wb : ∀ r ∈ bg0, c0 < r.length ∧ r.length ≤ 100 := fun r m => ⟨hwc c0 c01 r (hS.m0 r m), hsz r (hS.m0 r m)⟩
        unfold stepOf
        rw [show (0 : Int) + ((0 : Nat) : Int) = 0 from rfl]
        (repeat' (first | (with_reducible assumption) | (with_reducible intro _) | (with_reducible apply And.intro) | fail "ca" | simp -dsimp only [↓u_0, ↓u_16, ↓u_17, ↓u_18, ↓u_19, ↓u_21, ↓u_22, ↓u_25, ↓u_26, ↓u_28, ↓u_29, ↓u_31, ↓u_32, ↓u_44, ↓u_45, ↓u_46, ↓u_47, ↓u_48, ↓u_50, ↓u_51, ↓u_57, ↓u_58, ↓u_64, ↓u_66, u_67, ↓u_69, ↓u_70, ↓u_73, ↓u_74, ↓u_77, ↓u_79, ↓u_80, u_82, u_83, u_86, u_90, u_91, u_92, u_93, u_94, u_96, u_98, u_99, u_100, u_101, u_102, u_103, u_105, u_106, u_111, u_112, u_114, u_117, ↓u_135, ↓u_136, ↓u_137, ↓u_142, ↓u_145, ↓u_146, u_160, ↓u_164, ↓u_172, ↓u_184, ↓u_192, u_195, u_197, u_199, u_200, u_201, u_202, u_206, u_207, u_209, u_210, u_211, u_212, u_213, u_214, u_216, u_217, u_218, u_220, u_221, u_223, u_234, u_236, u_237, ↓u_238, ↓u_239, ↓u_240, ↓u_241, ↓u_259, ↓u_260, ↓u_301, u_329, ↓u_374, u_379, u_389, ↓u_394, ↓u_395, ↓u_396, ↓u_397, ↓u_398, ↓u_403, u_404, u_406, u_411, u_425, u_429, u_434, u_436, ↓u_474, ↓u_475, ↓u_476, ↓u_479, ↓u_480, u_481, u_482, ↓u_486, ↓u_487, ↓u_494, u_495, ↓u_518, ↓u_519, ↓u_521, ↓u_524, ↓u_525, ↓u_527, ↓u_532, ↓u_533, u_543, sbe_put_heaped, sbe_put_column, sbe_told_heaped, sbe_told_column, gs_Heap_init_0, gs_Heap_init_1, List.length_append, List.map_nil, List.map_append, List.map_cons, Nat.reduceSub, Nat.reduceAdd, Nat.reduceLT, Nat.reduceLeDiff, reduceIte, String.reduceBEq, String.reduceEq, Int.reduceLT, Int.reduceLE, Int.reduceEq, Int.reduceToNat, ha, hdy] | fail "ix" | (with_reducible refine rdDh_of (by with_reducible assumption) ?_) | (with_reducible refine cnd_T (by with_reducible assumption) ?_) | (with_reducible refine cnd_F (by with_reducible assumption) ?_) | (with_reducible refine cnd_yes (by omega) ?_) | (with_reducible refine cnd_no (by omega) ?_) | (with_reducible refine cnd_dec ?_ ?_) | (with_reducible refine cnd_of ?_ ?_) | fail "si" | fail))
        exact hn _ _ ⟨rfl, _, rfl⟩
      ·
        have ha := hS.a1
        have hb := hS.b1
        have hy := hS.y1
        have hdy := deref_h hy
        have hg := hS.g
        have hh := hS.h1
        have hpm := hS.p1
        have lb := len_rows bg1
        have lh := len_rows hp1
        have wb : ∀ r ∈ bg1, c1 < r.length ∧ r.length ≤ 100 := fun r m => ⟨hwc c1 c11 r (hS.m1 r m), hsz r (hS.m1 r m)⟩
        unfold stepOf
        rw [show (0 : Int) + ((1 : Nat) : Int) = 1 from rfl]
        (repeat' (first | (with_reducible assumption) | (with_reducible intro _) | (with_reducible apply And.intro) | fail "ca" | simp -dsimp only [↓u_0, ↓u_16, ↓u_17, ↓u_18, ↓u_19, ↓u_21, ↓u_22, ↓u_25, ↓u_26, ↓u_28, ↓u_29, ↓u_31, ↓u_32, ↓u_44, ↓u_45, ↓u_46, ↓u_47, ↓u_48, ↓u_50, ↓u_51, ↓u_57, ↓u_58, ↓u_64, ↓u_66, u_67, ↓u_69, ↓u_70, ↓u_73, ↓u_74, ↓u_77, ↓u_79, ↓u_80, u_82, u_83, u_86, u_90, u_91, u_92, u_93, u_94, u_96, u_98, u_99, u_100, u_101, u_102, u_103, u_105, u_106, u_111, u_112, u_114, u_117, ↓u_135, ↓u_136, ↓u_137, ↓u_142, ↓u_145, ↓u_146, u_160, ↓u_164, ↓u_172, ↓u_184, ↓u_192, u_195, u_197, u_199, u_200, u_201, u_202, u_206, u_207, u_209, u_210, u_211, u_212, u_213, u_214, u_216, u_217, u_218, u_220, u_221, u_223, u_234, u_236, u_237, ↓u_238, ↓u_239, ↓u_240, ↓u_241, ↓u_259, ↓u_260, ↓u_301, u_329, ↓u_374, u_379, u_389, ↓u_394, ↓u_395, ↓u_396, ↓u_397, ↓u_398, ↓u_403, u_404, u_406, u_411, u_425, u_429, u_434, u_436, ↓u_474, ↓u_475, ↓u_476, ↓u_479, ↓u_480, u_481, u_482, ↓u_486, ↓u_487, ↓u_494, u_495, ↓u_518, ↓u_519, ↓u_521, ↓u_524, ↓u_525, ↓u_527, ↓u_532, ↓u_533, u_543, sbe_put_heaped, sbe_put_column, sbe_told_heaped, sbe_told_column, gs_Heap_init_0, gs_Heap_init_1, List.length_append, List.map_nil, List.map_append, List.map_cons, Nat.reduceSub, Nat.reduceAdd, Nat.reduceLT, Nat.reduceLeDiff, reduceIte, String.reduceBEq, String.reduceEq, Int.reduceLT, Int.reduceLE, Int.reduceEq, Int.reduceToNat, ha, hdy] | fail "ix" | (with_reducible refine rdDh_of (by with_reducible assumption) ?_) | (with_reducible refine cnd_T (by with_reducible assumption) ?_) | (with_reducible refine cnd_F (by with_reducible assumption) ?_) | (with_reducible refine cnd_yes (by omega) ?_) | (with_reducible refine cnd_no (by omega) ?_) | (with_reducible refine cnd_dec ?_ ?_) | (with_reducible refine cnd_of ?_ ?_) | fail "si" | fail))
        exact hn _ _ ⟨rfl, _, rfl⟩
    · rintro r om2 ⟨rfl, y9, rfl⟩
      have hg := hS.g
      (repeat' (first | (with_reducible assumption) | (with_reducible intro _) | (with_reducible apply And.intro) | fail "ca" | simp -dsimp only [↓u_0, ↓u_16, ↓u_17, ↓u_18, ↓u_19, ↓u_21, ↓u_22, ↓u_25, ↓u_26, ↓u_28, ↓u_29, ↓u_31, ↓u_32, ↓u_44, ↓u_45, ↓u_46, ↓u_47, ↓u_48, ↓u_50, ↓u_51, ↓u_57, ↓u_58, ↓u_64, ↓u_66, u_67, ↓u_69, ↓u_70, ↓u_73, ↓u_74, ↓u_77, ↓u_79, ↓u_80, u_82, u_83, u_86, u_90, u_91, u_92, u_93, u_94, u_96, u_98, u_99, u_100, u_101, u_102, u_103, u_105, u_106, u_111, u_112, u_114, u_117, ↓u_135, ↓u_136, ↓u_137, ↓u_142, ↓u_145, ↓u_146, u_160, ↓u_164, ↓u_172, ↓u_184, ↓u_192, u_195, u_197, u_199, u_200, u_201, u_202, u_206, u_207, u_209, u_210, u_211, u_212, u_213, u_214, u_216, u_217, u_218, u_220, u_221, u_223, u_234, u_236, u_237, ↓u_238, ↓u_239, ↓u_240, ↓u_241, ↓u_259, ↓u_260, ↓u_301, u_329, ↓u_374, u_379, u_389, ↓u_394, ↓u_395, ↓u_396, ↓u_397, ↓u_398, ↓u_403, u_404, u_406, u_411, u_425, u_429, u_434, u_436, ↓u_474, ↓u_475, ↓u_476, ↓u_479, ↓u_480, u_481, u_482, ↓u_486, ↓u_487, ↓u_494, u_495, ↓u_518, ↓u_519, ↓u_521, ↓u_524, ↓u_525, ↓u_527, ↓u_532, ↓u_533, u_543, sbe_put_heaped, sbe_put_column, sbe_told_heaped, sbe_told_column, gs_Heap_init_0, gs_Heap_init_1, List.length_append, List.map_nil, List.map_append, List.map_cons, Nat.reduceSub, Nat.reduceAdd, Nat.reduceLT, Nat.reduceLeDiff, reduceIte, String.reduceBEq, String.reduceEq, Int.reduceLT, Int.reduceLE, Int.reduceEq, Int.reduceToNat, hg] | fail "ix" | (with_reducible refine rdDh_of (by with_reducible assumption) ?_) | (with_reducible refine cnd_T (by with_reducible assumption) ?_) | (with_reducible refine cnd_F (by with_reducible assumption) ?_) | (with_reducible refine cnd_yes (by omega) ?_) | (with_reducible refine cnd_no (by omega) ?_) | (with_reducible refine cnd_dec ?_ ?_) | (with_reducible refine cnd_of ?_ ?_) | fail "si" | fail))
      refine lcH_list (fun i acc r om3 => om3 = om2 ∧ acc = [] ∧ r = [some (.v (.frl (ns.map D.int))), some (.v (.h s)), some (.v (.int w)), some (.v (.lst (rowsD R))), some (.v (.lst [.int c0, .int c1])), some (.v (.lst [.h a0, .h a1])), some (.v (.lst [.h y0, .h y1])), some (.v (.h g)), x8, y9, x10, x11, none, none]) (fun i acc r om3 e => by rw [e.1]; exact hg) ⟨rfl, rfl, rfl⟩ ?_ ?_
      · rintro i d acc r om3 nx e ⟨rfl, rfl, rfl⟩ hn
        obtain ⟨rs, rfl⟩ := hS.ok d (List.mem_of_getElem? e)
        fail "gs"
        exact hn _ _ _ ⟨rfl, rfl, rfl⟩
      · rintro acc r om3 ⟨rfl, rfl, rfl⟩
        fail "gs"
        exact h _
end
theorem ok_law {P : Program} {w : World} {K : PySem.W.Frag} {mg : Str → Option Value} {base : Heap} {f : Addr} {fd : FuncData} (F : FunD K "law" "law" (defArgs s_law) (defBody s_law) (defScope s_law) [] [] f fd) (T : Txt K mg) (D_Heap_len : DefM P w K mg base "Heap" "__len__" c_Heap_len 1) (D_law_told_so : Def P w K mg base "_law_told_so" c_law_told_so 6) (D_Heap_told : DefM P w K mg base "Heap" "told" c_Heap_told 1) (D_law_next : Def P w K mg base "_law_next" c_law_next 1) (D_Heap_put : DefM P w K mg base "Heap" "put" c_Heap_put 2) (D_law_gone_so : Def P w K mg base "_law_gone_so" c_law_gone_so 6) (D_law_rows : Def P w K mg base "_law_rows" c_law_rows 3) (D_law_width : Def P w K mg base "_law_width" c_law_width 2) (D_law_state : Def P w K mg base "_law_state" c_law_state 1) (DN_Heap_init_0 : DefN P w K mg base "Heap" c_Heap_init 3 2 [] (gv_Heap_init_0 K)) (DN_Heap_init_1 : DefN P w K mg base "Heap" c_Heap_init 3 1 [] (gv_Heap_init_1 K)) : FnOk P w K mg base (L2.CX P w) 7 f fd ["_law_script"] (toSp K c_law) :=
  (fn_ok (c := c_law) F sc_law rfl (fun cdv A outer s H E hr => d_law T D_Heap_len D_law_told_so D_Heap_told D_law_next D_Heap_put D_law_gone_so D_law_rows D_law_width D_law_state DN_Heap_init_0 DN_Heap_init_1 cdv A outer s H E hr) wp_law)
theorem law_start (ns : List Int) (om : Om) (hl : ns.length ≤ 63) (hb : ∀ z ∈ ns, Builtin.Int.intBits z ≤ 1048576) : c_law.df [.frl (ns.map D.int)] om (fun x _ => x = .v (.bl true)) (fun _ _ => False) := ⟨ns, rfl, fun _ => rfl⟩

theorem facts {P : Program} {w : World} {K : PySem.W.Frag} {h : Heap} {mg : Str → Option Value} {f : Addr} (X : K.In h) (G : h.Ns mainGlobals mg) (hfa : mg ("law" : Str) = some (.ref f)) (c : He.SaysD fa fn K) (hx : ex K = true) :
    ∃ fd : FuncData, (∀ (s : Shared) (v : Value), BindsTo s fd ⟨[v], []⟩ [("_law_script", v)]) ∧ ∀ base : Heap, K.In base → base.Ns mainGlobals mg → FnOk P w K mg base (L2.CX P w) 7 f fd ["_law_script"] (toSp K c_law) := by
  simp only [ex, Bool.and_eq_true] at hx
  have he_e_Heap_init_0 : etB K (He.dflAt ("Heap", some "__init__") 0 K) = true := hx.2
  have hxa := hx.1
  have T : Txt K mg := ⟨⟨He.glo_ok X G (c.fact 17 (f := .glo "NoneHeld") rfl), (He.exc_ok (c.fact 38 (f := .exc "NoneHeld") rfl)).1, (He.exc_ok (c.fact 38 (f := .exc "NoneHeld") rfl)).2.1, (He.exc_ok (c.fact 38 (f := .exc "NoneHeld") rfl)).2.2.1, (He.exc_ok (c.fact 38 (f := .exc "NoneHeld") rfl)).2.2.2⟩, ⟨He.cls_ok (c.fact 28 (f := .cls "Heap") rfl), (na_cons (He.noat_ok (c.fact 29 (f := .noat "Heap" "heaped") rfl)) (na_cons (He.noat_ok (c.fact 30 (f := .noat "Heap" "column") rfl)) na_nil))⟩, etB_ok he_e_Heap_init_0, He.glo_ok X G (c.fact 27 (f := .glo "Heap") rfl), He.glo_ok X G (c.fact 16 (f := .glo "NoColumn") rfl), He.glo_ok X G (c.fact 25 (f := .glo "NoCount") rfl), He.glo_ok X G (c.fact 23 (f := .glo "NoQuery") rfl), He.glo_ok X G (c.fact 15 (f := .glo "NoRows") rfl), He.glo_ok X G (c.fact 21 (f := .glo "NoSeat") rfl), He.glo_ok X G (c.fact 20 (f := .glo "NoStep") rfl), He.glo_ok X G (c.fact 22 (f := .glo "NoTable") rfl), He.glo_ok X G (c.fact 19 (f := .glo "NoTree") rfl), He.glo_ok X G (c.fact 18 (f := .glo "NoWeights") rfl), He.glo_ok X G (c.fact 17 (f := .glo "NoneHeld") rfl), He.glo_ok X G (c.fact 26 (f := .glo "NotOrdered") rfl), He.glo_ok X G (c.fact 14 (f := .glo "SpillError") rfl), He.glo_ok X G (c.fact 24 (f := .glo "TooMany") rfl), xSub_ok hxa (by decide +kernel), xSub_ok hxa (by decide +kernel), xSub_ok hxa (by decide +kernel), xSub_ok hxa (by decide +kernel), xSub_ok hxa (by decide +kernel), xSub_ok hxa (by decide +kernel), xSub_ok hxa (by decide +kernel), xSub_ok hxa (by decide +kernel), xSub_ok hxa (by decide +kernel), xSub_ok hxa (by decide +kernel), xSub_ok hxa (by decide +kernel), xSub_ok hxa (by decide +kernel), xSub_ok hxa (by decide +kernel), xTab_ok hxa, xFl_ok hxa, He.free_ok X G (c.fact 39 (f := .free "ValueError") rfl), He.free_ok X G (c.fact 40 (f := .free "bool") rfl), He.free_ok X G (c.fact 41 (f := .free "int") rfl), He.free_ok X G (c.fact 42 (f := .free "isinstance") rfl), He.free_ok X G (c.fact 43 (f := .free "len") rfl), He.free_ok X G (c.fact 44 (f := .free "list") rfl), He.free_ok X G (c.fact 45 (f := .free "range") rfl), He.free_ok X G (c.fact 46 (f := .free "sorted") rfl), He.free_ok X G (c.fact 47 (f := .free "tuple") rfl), He.free_ok X G (c.fact 48 (f := .free "zip") rfl)⟩
  obtain ⟨fd_less, F_less⟩ := c.def_ 0 (d := q_less) rfl
  have g_less := He.glo_ok X G (c.fact 0 (f := .glo "less") rfl)
  obtain ⟨fd_law_state, F_law_state⟩ := c.def_ 1 (d := q_law_state) rfl
  have g_law_state := He.glo_ok X G (c.fact 1 (f := .glo "_law_state") rfl)
  obtain ⟨fd_law_next, F_law_next⟩ := c.def_ 2 (d := q_law_next) rfl
  have g_law_next := He.glo_ok X G (c.fact 2 (f := .glo "_law_next") rfl)
  obtain ⟨fd_law_number, F_law_number⟩ := c.def_ 3 (d := q_law_number) rfl
  have g_law_number := He.glo_ok X G (c.fact 3 (f := .glo "_law_number") rfl)
  obtain ⟨fd_law_rows, F_law_rows⟩ := c.def_ 4 (d := q_law_rows) rfl
  have g_law_rows := He.glo_ok X G (c.fact 4 (f := .glo "_law_rows") rfl)
  obtain ⟨fd_law_less, F_law_less⟩ := c.def_ 5 (d := q_law_less) rfl
  have g_law_less := He.glo_ok X G (c.fact 5 (f := .glo "_law_less") rfl)
  obtain ⟨fd_law_alike, F_law_alike⟩ := c.def_ 6 (d := q_law_alike) rfl
  have g_law_alike := He.glo_ok X G (c.fact 6 (f := .glo "_law_alike") rfl)
  obtain ⟨fd_law_names, F_law_names⟩ := c.def_ 7 (d := q_law_names) rfl
  have g_law_names := He.glo_ok X G (c.fact 7 (f := .glo "_law_names") rfl)
  obtain ⟨fd_law_width, F_law_width⟩ := c.def_ 8 (d := q_law_width) rfl
  have g_law_width := He.glo_ok X G (c.fact 8 (f := .glo "_law_width") rfl)
  obtain ⟨fd_law_told_so, F_law_told_so⟩ := c.def_ 9 (d := q_law_told_so) rfl
  have g_law_told_so := He.glo_ok X G (c.fact 9 (f := .glo "_law_told_so") rfl)
  obtain ⟨fd_law_least, F_law_least⟩ := c.def_ 10 (d := q_law_least) rfl
  have g_law_least := He.glo_ok X G (c.fact 10 (f := .glo "_law_least") rfl)
  obtain ⟨fd_law_none_held, F_law_none_held⟩ := c.def_ 11 (d := q_law_none_held) rfl
  have g_law_none_held := He.glo_ok X G (c.fact 11 (f := .glo "_law_none_held") rfl)
  obtain ⟨fd_law_gone_so, F_law_gone_so⟩ := c.def_ 12 (d := q_law_gone_so) rfl
  have g_law_gone_so := He.glo_ok X G (c.fact 12 (f := .glo "_law_gone_so") rfl)
  obtain ⟨fd_law, F_law⟩ := c.def_ 13 (d := q_law) rfl
  have g_law := He.glo_ok X G (c.fact 13 (f := .glo "law") rfl)
  obtain ⟨fd_Heap_init, F_Heap_init⟩ := c.def_ 14 (d := q_Heap_init) rfl
  obtain ⟨fd_Heap_len, F_Heap_len⟩ := c.def_ 15 (d := q_Heap_len) rfl
  obtain ⟨fd_Heap_put, F_Heap_put⟩ := c.def_ 16 (d := q_Heap_put) rfl
  obtain ⟨fd_Heap_first, F_Heap_first⟩ := c.def_ 17 (d := q_Heap_first) rfl
  obtain ⟨fd_Heap_take, F_Heap_take⟩ := c.def_ 18 (d := q_Heap_take) rfl
  obtain ⟨fd_Heap_sink, F_Heap_sink⟩ := c.def_ 19 (d := q_Heap_sink) rfl
  obtain ⟨fd_Heap_told, F_Heap_told⟩ := c.def_ 20 (d := q_Heap_told) rfl
  have e := hfa.symm.trans g_law
  cases e
  have b := FunD.bindsA (ps := ["_law_script"]) F_law fun _ _ _ _ _ _ us hl => match us, hl with | [_], _ => rfl
  refine ⟨fd_law, fun s v => b s [v] rfl, fun base _ _ => ?_⟩
  have O_less := ok_less (P := P) (w := w) (base := base) F_less T
  have D_less : Def P w K mg base "less" c_less 1 := ⟨_, fd_less, ["one", "other", "column"], O_less, g_less, F_less.kp, F_less.bindsN fun _ _ _ _ _ _ us hl => match us, hl with | [_, _, _], _ => rfl⟩
  have O_Heap_len := ok_Heap_len (P := P) (w := w) (base := base) F_Heap_len T
  have D_Heap_len : DefM P w K mg base "Heap" "__len__" c_Heap_len 1 := ⟨He.cls_ok (c.fact 28 (f := .cls "Heap") rfl), _, fd_Heap_len, ["self"], He.meth_ok (c.fact 31 (f := .meth "Heap" "__len__") rfl), O_Heap_len, F_Heap_len.bindsN fun _ _ _ _ _ _ us hl => match us, hl with | [_], _ => rfl⟩
  have O_Heap_first := ok_Heap_first (P := P) (w := w) (base := base) F_Heap_first T
  have D_Heap_first : DefM P w K mg base "Heap" "first" c_Heap_first 1 := ⟨He.cls_ok (c.fact 28 (f := .cls "Heap") rfl), _, fd_Heap_first, ["self"], He.meth_ok (c.fact 32 (f := .meth "Heap" "first") rfl), O_Heap_first, F_Heap_first.bindsN fun _ _ _ _ _ _ us hl => match us, hl with | [_], _ => rfl⟩
  have O_Heap_told := ok_Heap_told (P := P) (w := w) (base := base) F_Heap_told T
  have D_Heap_told : DefM P w K mg base "Heap" "told" c_Heap_told 1 := ⟨He.cls_ok (c.fact 28 (f := .cls "Heap") rfl), _, fd_Heap_told, ["self"], He.meth_ok (c.fact 36 (f := .meth "Heap" "told") rfl), O_Heap_told, F_Heap_told.bindsN fun _ _ _ _ _ _ us hl => match us, hl with | [_], _ => rfl⟩
  have O_law_state := ok_law_state (P := P) (w := w) (base := base) F_law_state T
  have D_law_state : Def P w K mg base "_law_state" c_law_state 1 := ⟨_, fd_law_state, ["_law_script"], O_law_state, g_law_state, F_law_state.kp, F_law_state.bindsN fun _ _ _ _ _ _ us hl => match us, hl with | [_], _ => rfl⟩
  have O_law_next := ok_law_next (P := P) (w := w) (base := base) F_law_next T
  have D_law_next : Def P w K mg base "_law_next" c_law_next 1 := ⟨_, fd_law_next, ["_law_state_here", "_law_below"], O_law_next, g_law_next, F_law_next.kp, F_law_next.bindsN fun _ _ _ _ _ _ us hl => match us, hl with | [_, _], _ => rfl⟩
  have O_law_less := ok_law_less (P := P) (w := w) (base := base) F_law_less T
  have D_law_less : Def P w K mg base "_law_less" c_law_less 1 := ⟨_, fd_law_less, ["_law_one", "_law_other", "_law_column"], O_law_less, g_law_less, F_law_less.kp, F_law_less.bindsN fun _ _ _ _ _ _ us hl => match us, hl with | [_, _, _], _ => rfl⟩
  have O_law_names := ok_law_names (P := P) (w := w) (base := base) F_law_names T
  have D_law_names : Def P w K mg base "_law_names" c_law_names 1 := ⟨_, fd_law_names, ["_law_error"], O_law_names, g_law_names, F_law_names.kp, F_law_names.bindsN fun _ _ _ _ _ _ us hl => match us, hl with | [_], _ => rfl⟩
  have O_Heap_put := ok_Heap_put (P := P) (w := w) (base := base) F_Heap_put T D_less
  have D_Heap_put : DefM P w K mg base "Heap" "put" c_Heap_put 2 := ⟨He.cls_ok (c.fact 28 (f := .cls "Heap") rfl), _, fd_Heap_put, ["self", "row"], He.meth_ok (c.fact 33 (f := .meth "Heap" "put") rfl), O_Heap_put, F_Heap_put.bindsN fun _ _ _ _ _ _ us hl => match us, hl with | [_, _], _ => rfl⟩
  have O_Heap_sink := ok_Heap_sink (P := P) (w := w) (base := base) F_Heap_sink T D_less
  have D_Heap_sink : DefM P w K mg base "Heap" "sink" c_Heap_sink 2 := ⟨He.cls_ok (c.fact 28 (f := .cls "Heap") rfl), _, fd_Heap_sink, ["self", "at"], He.meth_ok (c.fact 34 (f := .meth "Heap" "sink") rfl), O_Heap_sink, F_Heap_sink.bindsN fun _ _ _ _ _ _ us hl => match us, hl with | [_, _], _ => rfl⟩
  have O_law_number := ok_law_number (P := P) (w := w) (base := base) F_law_number T D_law_next
  have D_law_number : Def P w K mg base "_law_number" c_law_number 2 := ⟨_, fd_law_number, ["_law_state_here", "_law_way"], O_law_number, g_law_number, F_law_number.kp, F_law_number.bindsN fun _ _ _ _ _ _ us hl => match us, hl with | [_, _], _ => rfl⟩
  have O_law_width := ok_law_width (P := P) (w := w) (base := base) F_law_width T D_law_next
  have D_law_width : Def P w K mg base "_law_width" c_law_width 2 := ⟨_, fd_law_width, ["_law_state_here"], O_law_width, g_law_width, F_law_width.kp, F_law_width.bindsN fun _ _ _ _ _ _ us hl => match us, hl with | [_], _ => rfl⟩
  have O_law_least := ok_law_least (P := P) (w := w) (base := base) F_law_least T D_law_less
  have D_law_least : Def P w K mg base "_law_least" c_law_least 2 := ⟨_, fd_law_least, ["_law_bag", "_law_column"], O_law_least, g_law_least, F_law_least.kp, F_law_least.bindsN fun _ _ _ _ _ _ us hl => match us, hl with | [_, _], _ => rfl⟩
  have O_Heap_init := ok_Heap_init (P := P) (w := w) (base := base) F_Heap_init T D_Heap_put
  have DN_Heap_init_0 : DefN P w K mg base "Heap" c_Heap_init 3 2 [] (gv_Heap_init_0 K) := by
    obtain ⟨_, hk⟩ := kb1 (ps := ["self", "column", "rows"]) F_Heap_init 3 [] (fun us its ws => g_Heap_init_0 us its [] ws) (List.cons_ne_nil _ _) (fun h1 h2 h3 => gw_Heap_init_0 h1 h2 .nil h3) (fun _ _ _ _ _ _ _ us its ws l1 l2 l3 => match us, l1, its, l2, ws, l3 with | [_, _, _], _, [_], _, [], _ => ⟨_, rfl, rfl⟩)
    exact ⟨_, fd_Heap_init, ["self", "column", "rows"], _, He.mkr_ok (c.fact 37 (f := .mkr "Heap") rfl), O_Heap_init, T.g_Heap, hk⟩
  have DN_Heap_init_1 : DefN P w K mg base "Heap" c_Heap_init 3 1 [] (gv_Heap_init_1 K) := by
    obtain ⟨_, hk⟩ := kb1 (ps := ["self", "column", "rows"]) F_Heap_init 2 [] (fun us its ws => g_Heap_init_1 us its [] ws) (List.cons_ne_nil _ _) (fun h1 h2 h3 => gw_Heap_init_1 h1 h2 .nil h3) (fun _ _ _ _ _ _ _ us its ws l1 l2 l3 => match us, l1, its, l2, ws, l3 with | [_, _], _, [_], _, [], _ => ⟨_, rfl, rfl⟩)
    exact ⟨_, fd_Heap_init, ["self", "column", "rows"], _, He.mkr_ok (c.fact 37 (f := .mkr "Heap") rfl), O_Heap_init, T.g_Heap, hk⟩
  have O_Heap_take := ok_Heap_take (P := P) (w := w) (base := base) F_Heap_take T D_Heap_sink D_Heap_first
  have D_Heap_take : DefM P w K mg base "Heap" "take" c_Heap_take 3 := ⟨He.cls_ok (c.fact 28 (f := .cls "Heap") rfl), _, fd_Heap_take, ["self"], He.meth_ok (c.fact 35 (f := .meth "Heap" "take") rfl), O_Heap_take, F_Heap_take.bindsN fun _ _ _ _ _ _ us hl => match us, hl with | [_], _ => rfl⟩
  have O_law_rows := ok_law_rows (P := P) (w := w) (base := base) F_law_rows T D_law_next D_law_number
  have D_law_rows : Def P w K mg base "_law_rows" c_law_rows 3 := ⟨_, fd_law_rows, ["_law_state_here", "_law_many", "_law_width_here"], O_law_rows, g_law_rows, F_law_rows.kp, F_law_rows.bindsN fun _ _ _ _ _ _ us hl => match us, hl with | [_, _, _], _ => rfl⟩
  have O_law_none_held := ok_law_none_held (P := P) (w := w) (base := base) F_law_none_held T D_law_names D_Heap_take D_Heap_first
  have D_law_none_held : Def P w K mg base "_law_none_held" c_law_none_held 4 := ⟨_, fd_law_none_held, ["_law_heap", "_law_leaving"], O_law_none_held, g_law_none_held, F_law_none_held.kp, F_law_none_held.bindsN fun _ _ _ _ _ _ us hl => match us, hl with | [_, _], _ => rfl⟩
  have hb_law_alike : Binds K fd_law_alike ["_law_found", "_law_due"] [] := F_law_alike.bindsN fun _ _ _ _ _ _ us hl => match us, hl with | [_, _], _ => rfl
  have D_law_alike : Def P w K mg base "_law_alike" (c_law_alike 4) 5 := ⟨_, fd_law_alike, ["_law_found", "_law_due"], ok_law_alike F_law_alike T g_law_alike F_law_alike.kp hb_law_alike 4, g_law_alike, F_law_alike.kp, hb_law_alike⟩
  have O_law_told_so := ok_law_told_so (P := P) (w := w) (base := base) F_law_told_so T D_law_less D_law_alike
  have D_law_told_so : Def P w K mg base "_law_told_so" c_law_told_so 6 := ⟨_, fd_law_told_so, ["_law_found", "_law_bag", "_law_column"], O_law_told_so, g_law_told_so, F_law_told_so.kp, F_law_told_so.bindsN fun _ _ _ _ _ _ us hl => match us, hl with | [_, _, _], _ => rfl⟩
  have O_law_gone_so := ok_law_gone_so (P := P) (w := w) (base := base) F_law_gone_so T D_law_alike D_Heap_take D_Heap_first D_law_least D_law_none_held D_Heap_len
  have D_law_gone_so : Def P w K mg base "_law_gone_so" c_law_gone_so 6 := ⟨_, fd_law_gone_so, ["_law_heap", "_law_bag", "_law_column", "_law_leaving"], O_law_gone_so, g_law_gone_so, F_law_gone_so.kp, F_law_gone_so.bindsN fun _ _ _ _ _ _ us hl => match us, hl with | [_, _, _, _], _ => rfl⟩
  exact ok_law F_law T D_Heap_len D_law_told_so D_Heap_told D_law_next D_Heap_put D_law_gone_so D_law_rows D_law_width D_law_state DN_Heap_init_0 DN_Heap_init_1
end K23
open PySem PySem.W PySem.Calls PyProof.Rows
theorem PySem.Challenge.cw_spillhall_k23_heap_deeds_holds : PySem.Challenge.rw_spillhall_k23_heap_deeds.Holds := by
  w_on; o_law
  refine HandSHeadRun.head_any (r := OpenLaw.row PySem.Challenge.rw_spillhall_k23_heap_deeds) (q := view (OpenLaw.row PySem.Challenge.rw_spillhall_k23_heap_deeds).prog [31]) (H := K23.hk) (ob := K23.ob) (M := 4000) (loose := K23.loose) (d := HandSHeadRun.topDef (OpenLaw.row PySem.Challenge.rw_spillhall_k23_heap_deeds).prog 31) (kwd := []) K23.ob_eq
    (by kernel_rfl) (fun s => by kernel_rfl) K23.run (by kernel_rfl) (by kernel_rfl) (by kernel_rfl) (by rfl) (by first | assumption | decide +kernel) (by decide +kernel) ⟨rfl, rfl, rfl, rfl, rfl, by decide +kernel⟩ ?hw ?hc
  case hw => w_witness2
  case hc =>
    refine DL.walk_D (l := PySem.Challenge.rw_spillhall_k23_heap_deeds) (n := 63) (k := 7) (x := "_law_script") rfl (by decide) (by kernel_rfl) ⟨rfl, by decide, by decide⟩ ?F
    intro w mg fa h Y G hmg0
    obtain ⟨K, KX, c, cx⟩ := Y
    have hmg : mg ("law" : PySem.Str) = some (.ref fa) := by
      have e : (HandSHeadRun.topDef (OpenLaw.row PySem.Challenge.rw_spillhall_k23_heap_deeds).prog 31).name = ("law" : PySem.Str) := by kernel_rfl
      rw [← e]
      exact hmg0
    obtain ⟨fd, hb, hF⟩ := K23.facts (P := (PySem.Challenge.rw_spillhall_k23_heap_deeds).prog) (w := w) KX G hmg c cx
    exact ⟨K, fd, K23.c_law, KX, hb, fun ns om hl hbits => K23.law_start ns om hl hbits, hF⟩
