import PyProof.Rows.All
import Wide.All
import OpenK.AllK
import Wide.FinOn
import HandS.ForMost
import HandS.ExcOwn
import HandS.WordsExc
import HandS.ExcCtx
import HandS.HotCalls
import HandS.TupAny
import HandS.TupMul
import HandS.Style
import HandS.IsInst
import HandS.Wide
import HandS.Property
import HandS.CallRecv
import HandS.ExcField
import KE.KExcIs
import HandS.ExcInit
import HandS.Nested
import HandS.Exc
import KE.KExcSuper
import KE.KSuper
import HandS.IterVal
import KE.KOpsOwn
import KE.KOwnIter
import HandS.SortInts
import HandS.TupSets
import HandS.Deep
import KE.OsSort
import HandS.Iter
import PyProof.EnumMake
import KE.GoesMore
import KE.GoesEnum
import HandS.Conv
import KE.KRevSl
import HandS.Dict
import KE.DataMinMax
import HandS.SortKw
import HandS.ClsMeth
import HandS.SetFor
import PyProof.SumWalkG
import PyProof.TupleIter
import PyProof.WalksMore
import HandS.Zip
import HandS.Steps
import HandS.BoundDict
import KE.KDictLaws
import HandS.Hot
import PySem.Challenge.RW_everystepstands_k93_any_order_of_letters
import KE.RegKSuper
import KE.RegKIsAll
import KE.RegKTryMore
set_option Elab.async false
set_option linter.all false
set_option maxRecDepth 100000
set_option maxHeartbeats 2000000
/-! # Data in place of addresses: what a value stands for, told by one tree -/
namespace Y
open PySem L2

inductive D where
  | non | bl (b : Bool) | int (i : Int) | str (x : Str)
  | tup (ds : List D) | lst (ds : List D) | fz (ds : List D)
  | obj (C : Addr) (ns : List Str) (ds : List D)
  | xd (ns : List Str) (ds : List D)
  | dT (ks : List (List Key)) (ds : List D)
  | dK (ks : List Key) (ds : List D)
  | opq (v : V)
  | er (a C p : Addr) (ns : List Str) (ds : List D)
  | slf (p C : Addr) (ns : List Str) (ds : List D)

/-- H grows to H' -/
abbrev Ex (H H' : Hp) : Prop := ∀ a o, H a = some o → H' a = some o
theorem Ex.rd {H H' : Hp} {a : Addr} {u : HO} (e : Ex H H') (h : Rd H a u) : Rd H' a u := h.elim (fun z => .inl (e _ _ z)) fun ⟨o, z⟩ => .inr ⟨o, e _ _ z⟩
theorem Ex.l {K : PySem.W.Frag} {H H' : Hp} {a : Addr} {xs : List V} (e : Ex H H') (h : SqL K H a xs) : SqL K H' a xs := h.elim (fun z => .inl (Ex.rd e z)) .inr
theorem Ex.t {K : PySem.W.Frag} {H H' : Hp} {a : Addr} {xs : List V} (e : Ex H H') (h : SqT K H a xs) : SqT K H' a xs := h.elim (fun z => .inl (Ex.rd e z)) .inr
theorem Ex.tr {H H1 H2 : Hp} (a : Ex H H1) (b : Ex H1 H2) : Ex H H2 := fun c o h => b c o (a c o h)
theorem Ex.new {H : Hp} {p : Addr} {o : HO} (h : H p = none) : Ex H (upd H p o) := fun a u e => (upd_ne (ne_of_none e h)).trans e

section
variable (K : PySem.W.Frag)
mutual
/-- in the heap H the value v stands for d -/
def Rep (H : Hp) : D → V → Prop
  | .non, v => v = .non
  | .bl b, v => v = .bl b
  | .int i, v => v = .int i
  | .str x, v => v = .str x
  | .opq u, v => v = u
  | .er a _ p ns ds, v => ∃ fs, v = .ref a ∧ H p = some (.xd fs) ∧ fs.map (·.1) = ns ∧ Reps H ds (fs.map (·.2))
  | .slf a C ns ds, v => ∃ dx fs, v = .ref a ∧ H a = some (.ins C dx fs) ∧ fs.map (·.1) = ns ∧ Reps H ds (fs.map (·.2))
  | .tup ds, v => ∃ a vs, v = .ref a ∧ H a = some (.tup vs) ∧ Reps H ds vs
  | .lst ds, v => ∃ a vs, v = .ref a ∧ H a = some (.lst vs) ∧ Reps H ds vs
  | .fz ds, v => ∃ a vs, v = .ref a ∧ SqL K H a vs ∧ Reps H ds vs
  | .obj C ns ds, v => ∃ a dx fs, v = .ref a ∧ H a = some (.ins C dx fs) ∧ fs.map (·.1) = ns ∧ Reps H ds (fs.map (·.2))
  | .xd ns ds, v => ∃ a fs, v = .ref a ∧ H a = some (.xd fs) ∧ fs.map (·.1) = ns ∧ Reps H ds (fs.map (·.2))
  | .dT ks ds, v => ∃ a kvs, v = .ref a ∧ H a = some (.dT kvs) ∧ kvs.map (·.1) = ks ∧ Reps H ds (kvs.map (·.2))
  | .dK ks ds, v => ∃ a kvs, v = .ref a ∧ H a = some (.dK kvs) ∧ kvs.map (·.1) = ks ∧ Reps H ds (kvs.map (·.2))
def Reps (H : Hp) : List D → List V → Prop
  | [], vs => vs = []
  | d :: ds, vs => ∃ v us, vs = v :: us ∧ Rep H d v ∧ Reps H ds us
end
/-- the top in Ht, what is within in H -/
def RepB (Ht H : Hp) : D → V → Prop
  | .tup ds, v => ∃ a vs, v = .ref a ∧ Ht a = some (.tup vs) ∧ Reps K H ds vs
  | .lst ds, v => ∃ a vs, v = .ref a ∧ Ht a = some (.lst vs) ∧ Reps K H ds vs
  | .fz ds, v => ∃ a vs, v = .ref a ∧ SqL K Ht a vs ∧ Reps K H ds vs
  | .obj C ns ds, v => ∃ a dx fs, v = .ref a ∧ Ht a = some (.ins C dx fs) ∧ fs.map (·.1) = ns ∧ Reps K H ds (fs.map (·.2))
  | .xd ns ds, v => ∃ a fs, v = .ref a ∧ Ht a = some (.xd fs) ∧ fs.map (·.1) = ns ∧ Reps K H ds (fs.map (·.2))
  | .dT ks ds, v => ∃ a kvs, v = .ref a ∧ Ht a = some (.dT kvs) ∧ kvs.map (·.1) = ks ∧ Reps K H ds (kvs.map (·.2))
  | .dK ks ds, v => ∃ a kvs, v = .ref a ∧ Ht a = some (.dK kvs) ∧ kvs.map (·.1) = ks ∧ Reps K H ds (kvs.map (·.2))
  | .slf a C ns ds, v => ∃ dx fs, v = .ref a ∧ Ht a = some (.ins C dx fs) ∧ fs.map (·.1) = ns ∧ Reps K H ds (fs.map (·.2))
  | d, v => Rep K H d v
/-- an object that may be written, what is within in H -/
def RepH (H : Hp) : D → Addr → HO → Prop
  | .lst ds, _, .lst vs => Reps K H ds vs
  | .obj C ns ds, _, .ins C' _ fs => C = C' ∧ fs.map (·.1) = ns ∧ Reps K H ds (fs.map (·.2))
  | .slf q C ns ds, p, .ins C' _ fs => (C = C' ∧ q = p) ∧ fs.map (·.1) = ns ∧ Reps K H ds (fs.map (·.2))
  | .dT ks ds, _, .dT kvs => kvs.map (·.1) = ks ∧ Reps K H ds (kvs.map (·.2))
  | .dK ks ds, _, .dK kvs => kvs.map (·.1) = ks ∧ Reps K H ds (kvs.map (·.2))
  | _, _, _ => False
end
section
variable {K : PySem.W.Frag} {H H' Ht Ht' : Hp}
mutual
theorem Rep.mono (e : Ex H H') : ∀ {d : D} {v : V}, Rep K H d v → Rep K H' d v
  | .non, _, h => h
  | .bl _, _, h => h
  | .int _, _, h => h
  | .str _, _, h => h
  | .opq _, _, h => h
  | .tup ds, v, ⟨a, vs, h1, h2, h3⟩ => ⟨a, vs, h1, e _ _ h2, Reps.mono e h3⟩
  | .lst ds, v, ⟨a, vs, h1, h2, h3⟩ => ⟨a, vs, h1, e _ _ h2, Reps.mono e h3⟩
  | .fz ds, v, ⟨a, vs, h1, h2, h3⟩ => ⟨a, vs, h1, Ex.l e h2, Reps.mono e h3⟩
  | .obj C ns ds, v, ⟨a, dx, fs, h1, h2, h3, h4⟩ => ⟨a, dx, fs, h1, e _ _ h2, h3, Reps.mono e h4⟩
  | .xd ns ds, v, ⟨a, fs, h1, h2, h3, h4⟩ => ⟨a, fs, h1, e _ _ h2, h3, Reps.mono e h4⟩
  | .dT ks ds, v, ⟨a, kvs, h1, h2, h3, h4⟩ => ⟨a, kvs, h1, e _ _ h2, h3, Reps.mono e h4⟩
  | .dK ks ds, v, ⟨a, kvs, h1, h2, h3, h4⟩ => ⟨a, kvs, h1, e _ _ h2, h3, Reps.mono e h4⟩
  | .er a C p ns ds, v, ⟨fs, h1, h2, h3, h4⟩ => ⟨fs, h1, e _ _ h2, h3, Reps.mono e h4⟩
  | .slf a C ns ds, v, ⟨dx, fs, h1, h2, h3, h4⟩ => ⟨dx, fs, h1, e _ _ h2, h3, Reps.mono e h4⟩
theorem Reps.mono (e : Ex H H') : ∀ {ds : List D} {vs : List V}, Reps K H ds vs → Reps K H' ds vs
  | [], _, h => h
  | d :: ds, _, ⟨v, us, h1, h2, h3⟩ => ⟨v, us, h1, Rep.mono e h2, Reps.mono e h3⟩
end
theorem RepB.mono (et : Ex Ht Ht') (e : Ex H H') : ∀ {d : D} {v : V}, RepB K Ht H d v → RepB K Ht' H' d v
  | .non, _, h => h
  | .bl _, _, h => h
  | .int _, _, h => h
  | .str _, _, h => h
  | .opq _, _, h => h
  | .tup ds, v, ⟨a, vs, h1, h2, h3⟩ => ⟨a, vs, h1, et _ _ h2, Reps.mono e h3⟩
  | .lst ds, v, ⟨a, vs, h1, h2, h3⟩ => ⟨a, vs, h1, et _ _ h2, Reps.mono e h3⟩
  | .fz ds, v, ⟨a, vs, h1, h2, h3⟩ => ⟨a, vs, h1, Ex.l et h2, Reps.mono e h3⟩
  | .obj C ns ds, v, ⟨a, dx, fs, h1, h2, h3, h4⟩ => ⟨a, dx, fs, h1, et _ _ h2, h3, Reps.mono e h4⟩
  | .xd ns ds, v, ⟨a, fs, h1, h2, h3, h4⟩ => ⟨a, fs, h1, et _ _ h2, h3, Reps.mono e h4⟩
  | .dT ks ds, v, ⟨a, kvs, h1, h2, h3, h4⟩ => ⟨a, kvs, h1, et _ _ h2, h3, Reps.mono e h4⟩
  | .dK ks ds, v, ⟨a, kvs, h1, h2, h3, h4⟩ => ⟨a, kvs, h1, et _ _ h2, h3, Reps.mono e h4⟩
  | .er a C p ns ds, v, h => Rep.mono (d := .er a C p ns ds) e h
  | .slf a C ns ds, v, ⟨dx, fs, h1, h2, h3, h4⟩ => ⟨dx, fs, h1, et _ _ h2, h3, Reps.mono e h4⟩
theorem Rep.b (et : Ex H Ht) : ∀ {d : D} {v : V}, Rep K H d v → RepB K Ht H d v
  | .non, _, h => h
  | .bl _, _, h => h
  | .int _, _, h => h
  | .str _, _, h => h
  | .opq _, _, h => h
  | .tup ds, v, ⟨a, vs, h1, h2, h3⟩ => ⟨a, vs, h1, et _ _ h2, h3⟩
  | .lst ds, v, ⟨a, vs, h1, h2, h3⟩ => ⟨a, vs, h1, et _ _ h2, h3⟩
  | .fz ds, v, ⟨a, vs, h1, h2, h3⟩ => ⟨a, vs, h1, Ex.l et h2, h3⟩
  | .obj C ns ds, v, ⟨a, dx, fs, h1, h2, h3, h4⟩ => ⟨a, dx, fs, h1, et _ _ h2, h3, h4⟩
  | .xd ns ds, v, ⟨a, fs, h1, h2, h3, h4⟩ => ⟨a, fs, h1, et _ _ h2, h3, h4⟩
  | .dT ks ds, v, ⟨a, kvs, h1, h2, h3, h4⟩ => ⟨a, kvs, h1, et _ _ h2, h3, h4⟩
  | .dK ks ds, v, ⟨a, kvs, h1, h2, h3, h4⟩ => ⟨a, kvs, h1, et _ _ h2, h3, h4⟩
  | .er _ _ _ _ _, _, h => h
  | .slf a C ns ds, v, ⟨dx, fs, h1, h2, h3, h4⟩ => ⟨dx, fs, h1, et _ _ h2, h3, h4⟩
theorem RepH.mono (e : Ex H H') {d : D} {a : Addr} {o : HO} (h : RepH K H d a o) : RepH K H' d a o := by
  cases d <;> cases o <;> first
    | exact h.elim
    | exact Reps.mono e h
    | exact ⟨h.1, Reps.mono e h.2⟩
    | exact ⟨h.1, h.2.1, Reps.mono e h.2.2⟩
theorem RepH.ntup {a : Addr} {d : D} {o : HO} (h : RepH K H d a o) (vs : List V) : o ≠ .tup vs := fun z => by
  subst z
  cases d <;> exact h.elim
theorem RepH.b {a : Addr} {d : D} {o : HO} (h : RepH K H d a o) (ha : Ht a = some o) : RepB K Ht H d (.ref a) := by
  cases d <;> cases o <;> first
    | exact h.elim
    | exact ⟨a, _, rfl, ha, h⟩
    | (obtain ⟨rfl, h1, h2⟩ := h; exact ⟨a, _, _, rfl, ha, h1, h2⟩)
    | (obtain ⟨⟨rfl, rfl⟩, h1, h2⟩ := h; exact ⟨_, _, rfl, ha, h1, h2⟩)
theorem RepH.rep {a : Addr} {d : D} {o : HO} (h : RepH K H d a o) (ha : H a = some o) : Rep K H d (.ref a) := by
  cases d <;> cases o <;> first
    | exact h.elim
    | exact ⟨a, _, rfl, ha, h⟩
    | (obtain ⟨rfl, h1, h2⟩ := h; exact ⟨a, _, _, rfl, ha, h1, h2⟩)
    | (obtain ⟨⟨rfl, rfl⟩, h1, h2⟩ := h; exact ⟨_, _, rfl, ha, h1, h2⟩)
/-! lists of data -/
theorem Reps.len : ∀ {ds : List D} {vs : List V}, Reps K H ds vs → vs.length = ds.length
  | [], _, h => by rw [h] <;> rfl
  | _ :: _, _, ⟨_, _, h1, _, h3⟩ => by rw [h1, List.length_cons, List.length_cons, Reps.len h3]
theorem Reps.get : ∀ {ds : List D} {vs : List V} {i : Nat} {d : D}, Reps K H ds vs → ds[i]? = some d → ∃ v, vs[i]? = some v ∧ Rep K H d v
  | [], _, _, _, _, e => by simp at e
  | _ :: _, _, 0, _, ⟨v, _, h1, h2, _⟩, e => by
    have e' := Option.some.inj e
    subst e'
    exact ⟨v, by rw [h1] <;> rfl, h2⟩
  | _ :: _, _, i + 1, _, ⟨_, us, h1, _, h3⟩, e => by
    obtain ⟨v, q1, q2⟩ := Reps.get (i := i) h3 e
    exact ⟨v, by rw [h1]; exact q1, q2⟩
theorem Reps.got : ∀ {ds : List D} {vs : List V} {i : Nat} {v : V}, Reps K H ds vs → vs[i]? = some v → ∃ d, ds[i]? = some d ∧ Rep K H d v
  | [], _, _, _, h, e => by rw [h] at e; simp at e
  | d :: _, _, 0, _, ⟨v, _, h1, h2, _⟩, e => by
    rw [h1] at e
    have e' := Option.some.inj e
    subst e'
    exact ⟨d, rfl, h2⟩
  | _ :: ds, _, i + 1, _, ⟨_, us, h1, _, h3⟩, e => by
    rw [h1] at e
    exact Reps.got (i := i) h3 e
theorem Reps.app : ∀ {ds es : List D} {vs us : List V}, Reps K H ds vs → Reps K H es us → Reps K H (ds ++ es) (vs ++ us)
  | [], _, _, _, h, g => by rw [h]; exact g
  | _ :: _, _, _, _, ⟨v, _, h1, h2, h3⟩, g => ⟨v, _, by rw [h1] <;> rfl, h2, Reps.app h3 g⟩
theorem Reps.one {d : D} {v : V} (h : Rep K H d v) : Reps K H [d] [v] := ⟨v, [], rfl, h, rfl⟩
theorem Reps.nil : Reps K H [] [] := rfl
theorem Reps.cons {d : D} {v : V} {ds : List D} {vs : List V} (h : Rep K H d v) (g : Reps K H ds vs) : Reps K H (d :: ds) (v :: vs) := ⟨v, vs, rfl, h, g⟩
theorem Reps.set : ∀ {ds : List D} {vs : List V} {d : D} {v : V} (i : Nat), Reps K H ds vs → Rep K H d v → Reps K H (ds.set i d) (vs.set i v)
  | [], _, _, _, _, h, _ => by rw [h]; exact rfl
  | _ :: _, _, _, v, 0, ⟨_, us, h1, _, h3⟩, g => ⟨v, us, by rw [h1] <;> rfl, g, h3⟩
  | _ :: _, _, _, _, i + 1, ⟨v, us, h1, h2, h3⟩, g => ⟨v, us.set i _, by rw [h1] <;> rfl, h2, Reps.set i h3 g⟩
theorem Reps.take : ∀ {ds : List D} {vs : List V} (n : Nat), Reps K H ds vs → Reps K H (ds.take n) (vs.take n)
  | _, _, 0, _ => rfl
  | [], _, _ + 1, h => by rw [h]; exact rfl
  | _ :: _, _, n + 1, ⟨v, us, h1, h2, h3⟩ => ⟨v, us.take n, by rw [h1] <;> rfl, h2, Reps.take n h3⟩
theorem Reps.drop : ∀ {ds : List D} {vs : List V} (n : Nat), Reps K H ds vs → Reps K H (ds.drop n) (vs.drop n)
  | _, _, 0, h => h
  | [], _, _ + 1, h => by rw [h]; exact rfl
  | _ :: _, _, n + 1, ⟨_, us, h1, _, h3⟩ => by rw [h1]; exact Reps.drop n h3
theorem Reps.rev : ∀ {ds : List D} {vs : List V}, Reps K H ds vs → Reps K H ds.reverse vs.reverse
  | [], _, h => by rw [h]; exact rfl
  | _ :: _, _, ⟨v, us, h1, h2, h3⟩ => by
    rw [h1, List.reverse_cons, List.reverse_cons]
    exact Reps.app (Reps.rev h3) (Reps.one h2)
/-- scalars -/
theorem Reps.ints : ∀ {ns : List Int} {vs : List V}, Reps K H (ns.map .int) vs → vs = ns.map V.int
  | [], _, h => h
  | _ :: _, _, ⟨_, _, h1, h2, h3⟩ => by rw [h1, h2, Reps.ints h3] <;> rfl
theorem Reps.of_ints : ∀ {ns : List Int}, Reps K H (ns.map .int) (ns.map V.int)
  | [] => rfl
  | _ :: _ => ⟨_, _, rfl, rfl, Reps.of_ints⟩
end
end Y

namespace Y
open PySem L2

/-! ## slots: what is known of a name's value, or of a value on the stack of an expression -/
/-- no: nothing; va: frozen data; ow: an object of one's own that may be changed; br: read from outside (its top stands since the entry); bw: read now -/
inductive Sl where
  | no | va (d : D) | ow (d : D) | br (d : D) | bw (d : D)
/-- the heap without the objects that somebody may change (a tuple never changes) -/
def cut (H : Hp) (O : List Addr) : Hp := fun a => match H a with
  | some (.tup vs) => some (.tup vs)
  | u => if a ∈ O then none else u
section
variable {H H' : Hp} {O O' : List Addr} {a p : Addr} {o : HO}
theorem cut_iff : cut H O a = some o ↔ H a = some o ∧ (a ∉ O ∨ ∃ vs, o = .tup vs) := by
  unfold cut
  split
  · rename_i vs q
    rw [q]
    constructor
    · intro h
      cases h
      exact ⟨rfl, .inr ⟨_, rfl⟩⟩
    · exact fun h => h.1
  · rename_i u q
    by_cases m : a ∈ O
    · rw [if_pos m]
      refine ⟨(fun h => nomatch h), fun ⟨h1, h2⟩ => ?_⟩
      rcases h2 with h2 | ⟨vs, rfl⟩
      · exact absurd m h2
      · exact absurd h1 (q vs)
    · rw [if_neg m]
      exact ⟨fun h => ⟨h, .inl m⟩, fun h => h.1⟩
theorem cut_ex : Ex (cut H O) H := fun a o h => (cut_iff.mp h).1
theorem cut_mono (e : Ex H H') : Ex (cut H O) (cut H' O) := fun a o h => cut_iff.mpr ⟨e _ _ (cut_iff.mp h).1, (cut_iff.mp h).2⟩
theorem cut_sub (s : ∀ a ∈ O, a ∈ O') : Ex (cut H O') (cut H O) := fun a o h => cut_iff.mpr ⟨(cut_iff.mp h).1, (cut_iff.mp h).2.imp (fun n z => n (s a z)) id⟩
theorem cut_upd (h : p ∈ O) (h1 : ∀ vs, H p ≠ some (.tup vs)) (h2 : ∀ vs, o ≠ .tup vs) : cut (upd H p o) O = cut H O := by
  funext a
  by_cases e : a = p
  · have l : cut (upd H p o) O a = none := by
      cases q : cut (upd H p o) O a with
      | none => rfl
      | some u =>
        obtain ⟨q1, q2⟩ := cut_iff.mp q
        rw [e, upd_same] at q1
        cases q1
        rcases q2 with q2 | ⟨vs, q2⟩
        · exact absurd (e ▸ h) q2
        · exact absurd q2 (h2 vs)
    have r : cut H O a = none := by
      cases q : cut H O a with
      | none => rfl
      | some u =>
        obtain ⟨q1, q2⟩ := cut_iff.mp q
        rcases q2 with q2 | ⟨vs, rfl⟩
        · exact absurd (e ▸ h) q2
        · exact absurd (e ▸ q1) (h1 vs)
    rw [l, r]
  · unfold cut
    rw [upd_ne e]
theorem cut_out (h : p ∉ O) : cut H O p = H p := by
  unfold cut
  split
  · rename_i q
    exact q.symm
  · exact if_neg h
/-- a new object that one keeps for oneself -/
theorem cut_own (e : Ex H H') (hp : H p = none) : Ex (cut H O) (cut H' (p :: O)) := fun a o h => by
  obtain ⟨h1, h2⟩ := cut_iff.mp h
  refine cut_iff.mpr ⟨e _ _ h1, h2.imp (fun n z => ?_) id⟩
  exact (List.mem_cons.mp z).elim (ne_of_none h1 hp) n
end

section
variable (K : PySem.W.Frag) (H0 : Hp)
def SlOk (O : List Addr) (H : Hp) : Sl → Option V → Prop
  | .no, _ => True
  | .va d, x => ∃ v, x = some v ∧ Rep K (cut H O) d v
  | .ow d, x => ∃ p o, x = some (.ref p) ∧ p ∈ O ∧ H0 p = none ∧ H p = some o ∧ RepH K (cut H O) d p o
  | .br d, x => ∃ v, x = some v ∧ RepB K H0 (cut H O) d v
  | .bw d, x => ∃ v, x = some v ∧ RepB K H (cut H O) d v
structure WfO (Oc O : List Addr) (G : List Sl) (S : List (Option V)) (H : Hp) : Prop where
  sub : ∀ a ∈ Oc, a ∈ O
  new : ∀ a ∈ O, a ∈ Oc ∨ H0 a = none
  old : ∀ a ∈ Oc, H0 a ≠ none
  live : ∀ a ∈ O, H a ≠ none
  ex : Ex H0 H
  len : S.length = G.length
  ok : ∀ (i : Nat) (s : Sl) (x : Option V), G[i]? = some s → S[i]? = some x → SlOk K H0 O H s x
  nd : ∀ (i j : Nat) (p : Addr) (d d' : D), G[i]? = some (.ow d) → S[i]? = some (some (.ref p)) → G[j]? = some (.ow d') → S[j]? = some (some (.ref p)) → i = j
def Wf (Oc : List Addr) (G : List Sl) (S : List (Option V)) (H : Hp) : Prop := ∃ O, WfO K H0 Oc O G S H
end
section
variable {K : PySem.W.Frag} {H0 H H' : Hp} {O Oc : List Addr} {G G' : List Sl} {S S' : List (Option V)} {s : Sl} {x : Option V} {d : D}
theorem SlOk.mono (e : Ex H H') : ∀ {s : Sl} {x : Option V}, SlOk K H0 O H s x → SlOk K H0 O H' s x
  | .no, _, _ => trivial
  | .va _, _, ⟨v, h1, h2⟩ => ⟨v, h1, Rep.mono (cut_mono e) h2⟩
  | .ow _, _, ⟨p, o, h1, h2, h3, h4, h5⟩ => ⟨p, o, h1, h2, h3, e _ _ h4, RepH.mono (cut_mono e) h5⟩
  | .br _, _, ⟨v, h1, h2⟩ => ⟨v, h1, RepB.mono (fun _ _ z => z) (cut_mono e) h2⟩
  | .bw _, _, ⟨v, h1, h2⟩ => ⟨v, h1, RepB.mono e (cut_mono e) h2⟩
/-- .. one new address is kept for oneself -/
theorem SlOk.own {p : Addr} (e : Ex H H') (hp : H p = none) : ∀ {s : Sl} {x : Option V}, SlOk K H0 O H s x → SlOk K H0 (p :: O) H' s x
  | .no, _, _ => trivial
  | .va _, _, ⟨v, h1, h2⟩ => ⟨v, h1, Rep.mono (cut_own e hp) h2⟩
  | .ow _, _, ⟨q, o, h1, h2, h3, h4, h5⟩ => ⟨q, o, h1, List.mem_cons_of_mem _ h2, h3, e _ _ h4, RepH.mono (cut_own e hp) h5⟩
  | .br _, _, ⟨v, h1, h2⟩ => ⟨v, h1, RepB.mono (fun _ _ z => z) (cut_own e hp) h2⟩
  | .bw _, _, ⟨v, h1, h2⟩ => ⟨v, h1, RepB.mono e (cut_own e hp) h2⟩
theorem WfO.grow (W : WfO K H0 Oc O G S H) (e : Ex H H') : WfO K H0 Oc O G S H' :=
  ⟨W.sub, W.new, W.old, fun a h z => (by
    cases q : H a with
    | none => exact W.live a h q
    | some o =>
      rw [e _ _ q] at z
      cases z), Ex.tr W.ex e, W.len, fun i s x h1 h2 => (W.ok i s x h1 h2).mono e, W.nd⟩
theorem Wf.grow (W : Wf K H0 Oc G S H) (e : Ex H H') : Wf K H0 Oc G S H' := let ⟨O, w⟩ := W; ⟨O, w.grow e⟩
theorem Wf.ex (W : Wf K H0 Oc G S H) : Ex H0 H := let ⟨_, w⟩ := W; w.ex
theorem WfO.pop {y : Option V} (W : WfO K H0 Oc O (s :: G) (y :: S) H) : WfO K H0 Oc O G S H :=
  ⟨W.sub, W.new, W.old, W.live, W.ex, by simpa using W.len, fun i s x h1 h2 => W.ok (i + 1) s x h1 h2, fun i j p d d' h1 h2 h3 h4 => Nat.succ.inj (W.nd (i + 1) (j + 1) p d d' h1 h2 h3 h4)⟩
theorem Wf.pop {y : Option V} (W : Wf K H0 Oc (s :: G) (y :: S) H) : Wf K H0 Oc G S H := let ⟨O, w⟩ := W; ⟨O, w.pop⟩
theorem WfO.head {y : Option V} (W : WfO K H0 Oc O (s :: G) (y :: S) H) : SlOk K H0 O H s y := W.ok 0 s y rfl rfl
/-- something that is not one's own comes on top -/
theorem WfO.push {y : Option V} (W : WfO K H0 Oc O G S H) (h : SlOk K H0 O H s y) (hs : ∀ d, s ≠ .ow d) : WfO K H0 Oc O (s :: G) (y :: S) H :=
  ⟨W.sub, W.new, W.old, W.live, W.ex, by simp [W.len], fun i s' x h1 h2 => by
    cases i with
    | zero =>
      have e1 := Option.some.inj h1
      have e2 := Option.some.inj h2
      subst e1
      subst e2
      exact h
    | succ i => exact W.ok i s' x h1 h2, fun i j p d d' h1 h2 h3 h4 => by
    cases i with
    | zero => exact absurd (Option.some.inj h1) (hs d)
    | succ i =>
      cases j with
      | zero => exact absurd (Option.some.inj h3) (hs d')
      | succ j => exact congrArg Nat.succ (W.nd i j p d d' h1 h2 h3 h4)⟩
/-- an own object's address is among O and stands -/
theorem WfO.owner {i : Nat} {p : Addr} (W : WfO K H0 Oc O G S H) (h1 : G[i]? = some (.ow d)) (h2 : S[i]? = some (some (.ref p))) : p ∈ O ∧ H0 p = none ∧ ∃ o, H p = some o ∧ RepH K (cut H O) d p o := by
  obtain ⟨q, o, e, q1, q2, q3, q4⟩ := W.ok i _ _ h1 h2
  cases e
  exact ⟨q1, q2, o, q3, q4⟩
/-- a new object of one's own comes on top -/
theorem WfO.pushOw {p : Addr} {o : HO} (W : WfO K H0 Oc O G S H) (e : Ex H H') (hp : H p = none) (ho : H' p = some o) (h : RepH K (cut H' (p :: O)) d p o) : WfO K H0 Oc (p :: O) (.ow d :: G) (some (.ref p) :: S) H' := by
  have h0 : H0 p = none := by
    cases q : H0 p with
    | none => rfl
    | some u => rw [W.ex _ _ q] at hp; cases hp
  refine ⟨fun a z => List.mem_cons_of_mem _ (W.sub a z), fun a z => ?_, ?_, fun a z => ?_, Ex.tr W.ex e, by simp [W.len], fun i s' x h1 h2 => ?_, ?_⟩
  · rcases List.mem_cons.mp z with rfl | z
    · exact .inr h0
    · exact W.new a z
  · exact W.old
  · rcases List.mem_cons.mp z with rfl | z
    · rw [ho]; exact fun z => nomatch z
    · exact (W.grow e).live a z
  · cases i with
    | zero =>
      have e1 := Option.some.inj h1
      have e2 := Option.some.inj h2
      subst e1
      subst e2
      exact ⟨p, o, rfl, List.mem_cons_self, h0, ho, h⟩
    | succ i => exact (W.ok i s' x h1 h2).own e hp
  · intro i j q d1 d2 h1 h2 h3 h4
    have old : ∀ {i : Nat} {d : D}, G[i]? = some (.ow d) → S[i]? = some (some (.ref p)) → False := fun {i d} a b => by
      obtain ⟨_, _, o, z, _⟩ := W.owner a b
      rw [hp] at z
      cases z
    cases i with
    | zero =>
      have e := V.ref.inj (Option.some.inj (Option.some.inj h2))
      subst e
      cases j with
      | zero => rfl
      | succ j => exact (old h3 h4).elim
    | succ i =>
      cases j with
      | zero =>
        have e := V.ref.inj (Option.some.inj (Option.some.inj h4))
        subst e
        exact (old h1 h2).elim
      | succ j => exact congrArg Nat.succ (W.nd i j q d1 d2 h1 h2 h3 h4)
/-- an own object is given up: nobody changes it any more -/
theorem SlOk.less {p : Addr} (hn : ∀ d, s = .ow d → x ≠ some (.ref p)) (h : SlOk K H0 O H s x) : SlOk K H0 (O.filter (· ≠ p)) H s x := by
  have sub : ∀ a ∈ O.filter (· ≠ p), a ∈ O := fun a z => (List.mem_filter.mp z).1
  cases s with
  | no => trivial
  | va d => obtain ⟨v, h1, h2⟩ := h; exact ⟨v, h1, Rep.mono (cut_sub sub) h2⟩
  | br d => obtain ⟨v, h1, h2⟩ := h; exact ⟨v, h1, RepB.mono (fun _ _ z => z) (cut_sub sub) h2⟩
  | bw d => obtain ⟨v, h1, h2⟩ := h; exact ⟨v, h1, RepB.mono (fun _ _ z => z) (cut_sub sub) h2⟩
  | ow d =>
    obtain ⟨q, o, h1, h2, h3, h4, h5⟩ := h
    refine ⟨q, o, h1, List.mem_filter.mpr ⟨h2, ?_⟩, h3, h4, RepH.mono (cut_sub sub) h5⟩
    have := hn d rfl
    rw [h1] at this
    simpa using fun z : q = p => this (by rw [z])
theorem WfO.freezeS {y : Option V} (W : WfO K H0 Oc O (.ow d :: G) (y :: S) H) : ∃ O', (∀ a ∈ O', a ∈ O) ∧ WfO K H0 Oc O' (.va d :: G) (y :: S) H := by
  obtain ⟨p, o, rfl, h2, h3, h4, h5⟩ := W.head
  have sub : ∀ a ∈ O.filter (· ≠ p), a ∈ O := fun a z => (List.mem_filter.mp z).1
  have npc : p ∉ Oc := fun z => W.old p z h3
  refine ⟨O.filter (· ≠ p), sub, ⟨fun a z => List.mem_filter.mpr ⟨W.sub a z, by simpa using fun q : a = p => npc (q ▸ z)⟩, fun a z => W.new a (sub a z), W.old, fun a z => W.live a (sub a z), W.ex, by simpa using W.len, fun i s' x h1 h2' => ?_, ?_⟩⟩
  · cases i with
    | zero =>
      have e1 := Option.some.inj h1
      have e2 := Option.some.inj h2'
      subst e1
      subst e2
      refine ⟨.ref p, rfl, RepH.rep (RepH.mono (cut_sub sub) h5) ?_⟩
      rw [cut_out (by simp)]
      exact h4
    | succ i =>
      refine SlOk.less (fun d' hs hx => ?_) (W.ok (i + 1) s' x h1 h2')
      subst hs
      exact absurd (W.nd 0 (i + 1) p d d' rfl rfl h1 (hx ▸ h2')) (by omega)
  · intro i j q d1 d2 h1 h2' h3' h4'
    cases i with
    | zero => exact absurd (Option.some.inj h1) (fun z => nomatch z)
    | succ i =>
      cases j with
      | zero => exact absurd (Option.some.inj h3') (fun z => nomatch z)
      | succ j => exact W.nd (i + 1) (j + 1) q d1 d2 h1 h2' h3' h4'
theorem WfO.freeze {y : Option V} (W : WfO K H0 Oc O (.ow d :: G) (y :: S) H) : ∃ O', WfO K H0 Oc O' (.va d :: G) (y :: S) H := let ⟨O', _, w⟩ := W.freezeS; ⟨O', w⟩
end
end Y

namespace Y
open PySem L2

/-! ## weakest readings of the text itself -/
def wpE (X : Cx) (e : Expr) : TE := fun σ H Q => ∀ (pins : List (Addr × Obj)) (s : Shared), Inv X pins σ H s → wpAny (model X.prog X.w) X.A (eval e X.env) (EP X pins σ Q) X.xe s
def wpT (X : Cx) (e : Expr) : TT := fun σ H Q => ∀ (pins : List (Addr × Obj)) (s : Shared), Inv X pins σ H s → wpAny (model X.prog X.w) X.A (isTrue e X.env (eval e X.env)) (TP X pins σ Q) X.xe s
def wpW (X : Cx) (e : Expr) : TT := fun σ H Q => ∀ (whole : Sem Value) (pins : List (Addr × Obj)) (s : Shared), Inv X pins σ H s → wpAny (model X.prog X.w) X.A (isTrue e X.env whole) (TP X pins σ Q) X.xe s
def wpA (X : Cx) (es : List Expr) : TA := fun σ H Q => ∀ (pos : Pos) (pins : List (Addr × Obj)) (s : Shared), Inv X pins σ H s → wpAny (model X.prog X.w) X.A (spliced (backTo pos (starEach es X.env))) (AP X pins σ Q) X.xe s
def wpS (X : Cx) (st : Stmt) : TS := fun D σ H => ∀ (pins : List (Addr × Obj)) (s : Shared), Inv X pins σ H s → wpAny (model X.prog X.w) X.A (exec st X.env) (SP X pins D) X.xe s
def wpSs (X : Cx) (st : List Stmt) : TS := fun D σ H => ∀ (pins : List (Addr × Obj)) (s : Shared), Inv X pins σ H s → wpAny (model X.prog X.w) X.A (execs st X.env) (SP X pins D) X.xe s
section
variable {X : Cx} {e : Expr} {es : List Expr} {st : Stmt} {sts : List Stmt} {σ : L2.St} {H : Hp}
theorem pe_wp : PE X e (wpE X e) := ⟨fun pins s σ H Q I h => h pins s I⟩
theorem pt_wp : PT X e (wpT X e) := ⟨fun pins s σ H Q I h => h pins s I⟩
theorem pw_wp : PW X e (wpW X e) := ⟨fun w pins s σ H Q I h => h w pins s I⟩
theorem pa_wp : PA X es (wpA X es) := ⟨fun pos pins s σ H Q I h => h pos pins s I⟩
theorem ps_wp : PS X st (wpS X st) := ⟨fun pins s σ H D I h => h pins s I⟩
theorem pss_wp : PSs X sts (wpSs X sts) := ⟨fun pins s σ H D I h => h pins s I⟩
theorem wpE.of {t : TE} {Q : VK} (h : PE X e t) (q : t σ H Q) : wpE X e σ H Q := fun pins s I => h.run pins s σ H Q I q
theorem wpT.of {t : TT} {Q : Bool → Hp → Prop} (h : PT X e t) (q : t σ H Q) : wpT X e σ H Q := fun pins s I => h.run pins s σ H Q I q
theorem wpW.of {t : TT} {Q : Bool → Hp → Prop} (h : PW X e t) (q : t σ H Q) : wpW X e σ H Q := fun w pins s I => h.run w pins s σ H Q I q
theorem wpA.of {t : TA} {Q : List V → Hp → Prop} (h : PA X es t) (q : t σ H Q) : wpA X es σ H Q := fun pos pins s I => h.run pos pins s σ H Q I q
theorem wpS.of {t : TS} {D : Ends} (h : PS X st t) (q : t D σ H) : wpS X st D σ H := fun pins s I => h.run pins s σ H D I q
theorem wpSs.of {t : TS} {D : Ends} (h : PSs X sts t) (q : t D σ H) : wpSs X sts D σ H := fun pins s I => h.run pins s σ H D I q
theorem wpE.mono {Q Q' : VK} (h : wpE X e σ H Q) (q : ∀ v H', Q v H' → Q' v H') : wpE X e σ H Q' := fun pins s I => thn (h pins s I) fun u s' ⟨v, H', I', r, z⟩ => ⟨v, H', I', r, q v H' z⟩
end

/-! ## what an expression gives, in terms of data -/
section
variable (X : Cx) (H0 : Hp) (Oc : List Addr) (Γ : List Sl)
def Ev (e : Expr) (s : Sl) : Prop := ∀ (Δ : List Sl) (τ : List (Option V)) (σ : L2.St) (H : Hp) (Q : VK), τ.length = Δ.length → Wf X.K H0 Oc (Δ ++ Γ) (τ ++ σ) H →
  (∀ v H', Wf X.K H0 Oc (s :: (Δ ++ Γ)) (some v :: (τ ++ σ)) H' → Q v H') → wpE X e σ H Q
/-- as a test -/
def Et (e : Expr) (b : Bool) : Prop := ∀ (Δ : List Sl) (τ : List (Option V)) (σ : L2.St) (H : Hp) (Q : Bool → Hp → Prop), τ.length = Δ.length → Wf X.K H0 Oc (Δ ++ Γ) (τ ++ σ) H →
  (∀ H', Wf X.K H0 Oc (Δ ++ Γ) (τ ++ σ) H' → Q b H') → wpT X e σ H Q
def Ew (e : Expr) (b : Bool) : Prop := ∀ (Δ : List Sl) (τ : List (Option V)) (σ : L2.St) (H : Hp) (Q : Bool → Hp → Prop), τ.length = Δ.length → Wf X.K H0 Oc (Δ ++ Γ) (τ ++ σ) H →
  (∀ H', Wf X.K H0 Oc (Δ ++ Γ) (τ ++ σ) H' → Q b H') → wpW X e σ H Q
/-- arguments: their slots, under one common set of changeable objects -/
def ArgsOk (K : PySem.W.Frag) (H0 : Hp) (O : List Addr) (H : Hp) : List Sl → List V → Prop
  | [], vs => vs = []
  | s :: ss, vs => ∃ v us, vs = v :: us ∧ SlOk K H0 O H s (some v) ∧ ArgsOk K H0 O H ss us
def Ea (es : List Expr) (ss : List Sl) : Prop := ∀ (Δ : List Sl) (τ : List (Option V)) (σ : L2.St) (H : Hp) (Q : List V → Hp → Prop), τ.length = Δ.length → Wf X.K H0 Oc (Δ ++ Γ) (τ ++ σ) H →
  (∀ vs O H', WfO X.K H0 Oc O (Δ ++ Γ) (τ ++ σ) H' → ArgsOk X.K H0 O H' ss vs → Q vs H') → wpA X es σ H Q
end
/-- what a slot tells to a reader -/
def Sl.dat : Sl → Option D
  | .no => none
  | .va d => some d
  | .ow d => some d
  | .br d => some d
  | .bw d => some d
section
variable {K : PySem.W.Frag} {H0 H H' : Hp} {O Oc : List Addr} {G : List Sl} {S : List (Option V)} {s : Sl} {d : D} {v : V}
theorem SlOk.b (e : Ex H0 H) (h : SlOk K H0 O H s (some v)) (hd : s.dat = some d) : RepB K H (cut H O) d v := by
  cases s with
  | no => cases hd
  | va d' =>
    cases hd
    obtain ⟨u, h1, h2⟩ := h
    cases h1
    exact Rep.b cut_ex h2
  | ow d' =>
    cases hd
    obtain ⟨p, o, h1, h2, h3, h4, h5⟩ := h
    cases h1
    exact RepH.b h5 h4
  | br d' =>
    cases hd
    obtain ⟨u, h1, h2⟩ := h
    cases h1
    exact RepB.mono e (fun _ _ z => z) h2
  | bw d' =>
    cases hd
    obtain ⟨u, h1, h2⟩ := h
    cases h1
    exact h2
theorem WfO.tobw (W : WfO K H0 Oc O (s :: G) (some v :: S) H) (hd : s.dat = some d) : WfO K H0 Oc O (.bw d :: G) (some v :: S) H :=
  W.pop.push ⟨v, rfl, W.head.b W.ex hd⟩ fun _ z => nomatch z
/-- data that need no heap -/
def flatD : D → Bool
  | .non | .bl _ | .int _ | .str _ | .opq _ => true
  | _ => false
theorem Rep.flat (h : Rep K H d v) (hf : flatD d = true) : Rep K H' d v := by cases d <;> first | exact h | exact absurd hf Bool.false_ne_true
theorem WfO.flat (W : WfO K H0 Oc O G S H) (hf : flatD d = true) (h : Rep K H' d v) : WfO K H0 Oc O (.va d :: G) (some v :: S) H :=
  W.push ⟨v, rfl, h.flat hf⟩ fun _ z => nomatch z
theorem RepB.flat (h : RepB K H H' d v) (hf : flatD d = true) : Rep K H' d v := by cases d <;> first | exact h | exact absurd hf Bool.false_ne_true
/-- a new tuple, frozen -/
theorem WfO.newTup {p : Addr} {ds : List D} {vs : List V} (W : WfO K H0 Oc O G S H) (hp : H p = none) (h : Reps K (cut H O) ds vs) : WfO K H0 Oc O (.va (.tup ds) :: G) (some (.ref p) :: S) (upd H p (.tup vs)) := by
  have np : p ∉ O := fun z => W.live p z hp
  refine (W.grow (Ex.new hp)).push ⟨.ref p, rfl, p, vs, rfl, ?_, Reps.mono (cut_mono (Ex.new hp)) h⟩ fun _ z => nomatch z
  rw [cut_out np]
  exact upd_same
theorem WfO.newLst {p : Addr} {ds : List D} {vs : List V} (W : WfO K H0 Oc O G S H) (hp : H p = none) (h : Reps K (cut H O) ds vs) : WfO K H0 Oc (p :: O) (.ow (.lst ds) :: G) (some (.ref p) :: S) (upd H p (.lst vs)) :=
  W.pushOw (Ex.new hp) hp upd_same (Reps.mono (cut_own (Ex.new hp) hp) h)
end
section
variable {X : Cx} {H0 : Hp} {Oc : List Addr} {Γ : List Sl} {e a b : Expr} {s : Sl} {d : D} {i j : Int} {pos : Pos}
/-- whoever reads needs no more -/
theorem Ev.r (h : Ev X H0 Oc Γ e s) (hd : s.dat = some d := by rfl) : Ev X H0 Oc Γ e (.bw d) := fun Δ τ σ H Q hl W q => h Δ τ σ H Q hl W fun v H' ⟨O, W'⟩ => q v H' ⟨O, W'.tobw hd⟩
theorem Ev.fz (h : Ev X H0 Oc Γ e (.ow d)) : Ev X H0 Oc Γ e (.va d) := fun Δ τ σ H Q hl W q => h Δ τ σ H Q hl W fun v H' ⟨O, W'⟩ => q v H' W'.freeze
theorem Ev.as {d' : D} (h : Ev X H0 Oc Γ e (.va d)) (hd : d = d') : Ev X H0 Oc Γ e (.va d') := hd ▸ h
theorem Ev.aso {d' : D} (h : Ev X H0 Oc Γ e (.ow d)) (hd : d = d') : Ev X H0 Oc Γ e (.ow d') := hd ▸ h
theorem Ev.fl (h : Ev X H0 Oc Γ e (.bw d)) (hf : flatD d = true := by rfl) : Ev X H0 Oc Γ e (.va d) := fun Δ τ σ H Q hl W q => h Δ τ σ H Q hl W fun v H' ⟨O, W'⟩ => by
  obtain ⟨u, h1, h2⟩ := W'.head
  cases h1
  exact q v H' ⟨O, W'.pop.flat hf (h2.flat hf)⟩
theorem Et.as {c c' : Bool} (h : Et X H0 Oc Γ e c) (hd : c = c') : Et X H0 Oc Γ e c' := hd ▸ h
/-! ### constants, names -/
theorem ev_flat {t : TE} {v : V} (h : PE X e t) (ht : ∀ σ H Q, Q v H → t σ H Q) (hf : flatD d = true) (hr : ∀ H, Rep X.K H d v) : Ev X H0 Oc Γ e (.va d) := fun Δ τ σ H Q hl W q =>
  wpE.of h (ht σ H Q (q v H (let ⟨O, W'⟩ := W; ⟨O, W'.flat hf (hr H)⟩)))
theorem ev_int {i : Int} {k pos} : Ev X H0 Oc Γ (.Constant (.int i) k pos) (.va (.int i)) := ev_flat pe_int (fun _ _ _ q => q) rfl fun _ => rfl
theorem ev_bl {c : Bool} {k pos} : Ev X H0 Oc Γ (.Constant (.bool c) k pos) (.va (.bl c)) := ev_flat pe_bl (fun _ _ _ q => q) rfl fun _ => rfl
theorem ev_non {k pos} : Ev X H0 Oc Γ (.Constant .none k pos) (.va .non) := ev_flat pe_non (fun _ _ _ q => q) rfl fun _ => rfl
theorem ev_str {x : Str} {k pos} : Ev X H0 Oc Γ (.Constant (.str x) k pos) (.va (.str x)) := ev_flat pe_str (fun _ _ _ q => q) rfl fun _ => rfl
theorem len_app {Δ : List Sl} {τ : List (Option V)} (hl : τ.length = Δ.length) {n : Nat} {σ : L2.St} {s : Sl} (h : Γ[n]? = some s) : (Δ ++ Γ)[Δ.length + n]? = some s ∧ (τ ++ σ)[Δ.length + n]? = σ[n]? := by
  refine ⟨by rw [List.getElem?_append_right (by omega)]; simpa using h, ?_⟩
  rw [List.getElem?_append_right (by omega)]
  congr 1
  omega
theorem slot_of {Δ : List Sl} {τ : List (Option V)} {σ : L2.St} {H : Hp} {O : List Addr} {n : Nat} (hl : τ.length = Δ.length) (W : WfO X.K H0 Oc O (Δ ++ Γ) (τ ++ σ) H) (h : Γ[n]? = some s) : ∃ x, σ[n]? = some x ∧ SlOk X.K H0 O H s x := by
  obtain ⟨h1, h2⟩ := len_app (σ := σ) hl h
  have hn : Δ.length + n < (τ ++ σ).length := by
    rw [W.len]
    exact (List.getElem?_eq_some_iff.mp h1).1
  obtain ⟨x, hx⟩ : ∃ x, (τ ++ σ)[Δ.length + n]? = some x := ⟨_, List.getElem?_eq_getElem hn⟩
  exact ⟨x, h2 ▸ hx, W.ok _ _ _ h1 hx⟩
/-- how a name's slot is read -/
def Sl.rd : Sl → Sl
  | .ow d => .bw d
  | s => s
theorem ev_var (n : Nat) {x : Str} (h : Γ[n]? = some s) (hs : s ≠ .no) (hN : X.N[n]? = some x) (hv : Vis X.env.scope x) (hd : (x == ("__debug__" : Str)) = false) (hcd : (x == ("__classdict__" : Str)) = false) : Ev X H0 Oc Γ (.Name x pos) s.rd := fun Δ τ σ H Q hl W q => by
  obtain ⟨O, W⟩ := W
  obtain ⟨y, hy, ok⟩ := slot_of hl W h
  cases s with
  | no => exact absurd rfl hs
  | va d =>
    obtain ⟨v, rfl, hv'⟩ := ok
    exact wpE.of (pe_var hN hv hd hcd) ⟨v, hy, q v H ⟨O, W.push ⟨v, rfl, hv'⟩ fun _ z => nomatch z⟩⟩
  | br d =>
    obtain ⟨v, rfl, hv'⟩ := ok
    exact wpE.of (pe_var hN hv hd hcd) ⟨v, hy, q v H ⟨O, W.push ⟨v, rfl, hv'⟩ fun _ z => nomatch z⟩⟩
  | bw d =>
    obtain ⟨v, rfl, hv'⟩ := ok
    exact wpE.of (pe_var hN hv hd hcd) ⟨v, hy, q v H ⟨O, W.push ⟨v, rfl, hv'⟩ fun _ z => nomatch z⟩⟩
  | ow d =>
    obtain ⟨p, o, rfl, h2, h3, h4, h5⟩ := ok
    exact wpE.of (pe_var hN hv hd hcd) ⟨.ref p, hy, q (.ref p) H ⟨O, W.push ⟨.ref p, rfl, RepH.b h5 h4⟩ fun _ z => nomatch z⟩⟩
/-! ### two operands, one operand -/
theorem ev_op2 {r : R2} {s1 s2 : Sl} (hp : ∀ {ta tb : TE}, PE X a ta → PE X b tb → PE X e (tOp r ta tb)) (ha : Ev X H0 Oc Γ a s1) (hb : Ev X H0 Oc Γ b s2)
    (hr : ∀ (G : List Sl) (S : List (Option V)) (H : Hp) (v w : V) (Q : VK), Wf X.K H0 Oc (s2 :: s1 :: G) (some w :: some v :: S) H → (∀ u H', Wf X.K H0 Oc (s :: G) (some u :: S) H' → Q u H') → r v w H Q) : Ev X H0 Oc Γ e s := fun Δ τ σ H Q hl W q => by
  refine wpE.of (hp pe_wp pe_wp) ?_
  refine ha Δ τ σ H _ hl W fun v H1 W1 => ?_
  refine hb (s1 :: Δ) (some v :: τ) σ H1 _ (by simp [hl]) W1 fun w H2 W2 => ?_
  exact hr _ _ H2 v w Q W2 q
theorem bw2 {K : PySem.W.Frag} {O : List Addr} {d1 d2 : D} {G : List Sl} {S : List (Option V)} {H : Hp} {v w : V} (W : WfO K H0 Oc O (.bw d2 :: .bw d1 :: G) (some w :: some v :: S) H) : RepB K H (cut H O) d1 v ∧ RepB K H (cut H O) d2 w ∧ WfO K H0 Oc O G S H := by
  obtain ⟨u, h1, h2⟩ := W.head
  obtain ⟨u', h1', h2'⟩ := W.pop.head
  cases h1
  cases h1'
  exact ⟨h2', h2, W.pop.pop⟩
theorem va2 {K : PySem.W.Frag} {O : List Addr} {d1 d2 : D} {G : List Sl} {S : List (Option V)} {H : Hp} {v w : V} (W : WfO K H0 Oc O (.va d2 :: .va d1 :: G) (some w :: some v :: S) H) : Rep K (cut H O) d1 v ∧ Rep K (cut H O) d2 w ∧ WfO K H0 Oc O G S H := by
  obtain ⟨u, h1, h2⟩ := W.head
  obtain ⟨u', h1', h2'⟩ := W.pop.head
  cases h1
  cases h1'
  exact ⟨h2', h2, W.pop.pop⟩
end
end Y

namespace Y
open PySem L2
section
variable {X : Cx} {H0 : Hp} {Oc : List Addr} {Γ : List Sl} {e a b c : Expr} {es : List Expr} {s s1 s2 : Sl} {d d1 d2 : D} {i j : Int} {pos p2 : Pos}
/-! ### whole numbers -/
theorem ev_ii0 {f : Operator} {g : Int → Int → V} {g' : Int → Int → D} (ho : OpR X (binaryOp f) (rI0 g)) (ha : Ev X H0 Oc Γ a (.va (.int i))) (hb : Ev X H0 Oc Γ b (.va (.int j))) (hf : flatD (g' i j) = true) (hr : ∀ H, Rep X.K H (g' i j) (g i j)) :
    Ev X H0 Oc Γ (.BinOp a f b pos) (.va (g' i j)) := ev_op2 (fun ha hb => pe_op ho ha hb) ha hb fun G S H v w Q ⟨O, W⟩ q => by
  obtain ⟨h1, h2, W'⟩ := va2 W
  exact ⟨i, j, h1, h2, q _ H ⟨O, W'.flat hf (hr H)⟩⟩
theorem ev_ii {f : Operator} {C : Int → Int → Prop} {g : Int → Int → V} {g' : Int → Int → D} (ho : OpR X (binaryOp f) (rI C g)) (ha : Ev X H0 Oc Γ a (.va (.int i))) (hb : Ev X H0 Oc Γ b (.va (.int j))) (hc : C i j) (hf : flatD (g' i j) = true) (hr : ∀ H, Rep X.K H (g' i j) (g i j)) :
    Ev X H0 Oc Γ (.BinOp a f b pos) (.va (g' i j)) := ev_op2 (fun ha hb => pe_op ho ha hb) ha hb fun G S H v w Q ⟨O, W⟩ q => by
  obtain ⟨h1, h2, W'⟩ := va2 W
  exact ⟨i, j, h1, h2, hc, q _ H ⟨O, W'.flat hf (hr H)⟩⟩
theorem ev_add (ha : Ev X H0 Oc Γ a (.va (.int i))) (hb : Ev X H0 Oc Γ b (.va (.int j))) : Ev X H0 Oc Γ (.BinOp a .Add b pos) (.va (.int (i + j))) := ev_ii0 (g' := fun i j => .int (i + j)) op_add ha hb rfl fun _ => rfl
theorem ev_sub (ha : Ev X H0 Oc Γ a (.va (.int i))) (hb : Ev X H0 Oc Γ b (.va (.int j))) : Ev X H0 Oc Γ (.BinOp a .Sub b pos) (.va (.int (i - j))) := ev_ii0 (g' := fun i j => .int (i - j)) op_sub ha hb rfl fun _ => rfl
theorem ev_mul (ha : Ev X H0 Oc Γ a (.va (.int i))) (hb : Ev X H0 Oc Γ b (.va (.int j))) (hc : CMul i j) : Ev X H0 Oc Γ (.BinOp a .Mult b pos) (.va (.int (i * j))) := ev_ii (g' := fun i j => .int (i * j)) op_mul ha hb hc rfl fun _ => rfl
theorem ev_fdiv (ha : Ev X H0 Oc Γ a (.va (.int i))) (hb : Ev X H0 Oc Γ b (.va (.int j))) (hc : CDiv i j) : Ev X H0 Oc Γ (.BinOp a .FloorDiv b pos) (.va (.int (i / j))) := ev_ii (g' := fun i j => .int (i / j)) op_fdiv ha hb hc rfl fun _ => rfl
theorem ev_mod (ha : Ev X H0 Oc Γ a (.va (.int i))) (hb : Ev X H0 Oc Γ b (.va (.int j))) (hc : 0 < j) : Ev X H0 Oc Γ (.BinOp a .Mod b pos) (.va (.int (i % j))) := ev_ii (g' := fun i j => .int (i % j)) op_mod ha hb hc rfl fun _ => rfl
theorem ev_pow (ha : Ev X H0 Oc Γ a (.va (.int i))) (hb : Ev X H0 Oc Γ b (.va (.int j))) (hc : CPow i j) : Ev X H0 Oc Γ (.BinOp a .Pow b pos) (.va (.int (i ^ j.toNat))) := ev_ii (g' := fun i j => .int (i ^ j.toNat)) op_pow ha hb hc rfl fun _ => rfl
theorem ev_op1 {r : V → Hp → VK → Prop} (hp : ∀ {ta : TE}, PE X a ta → PE X e (tUn r ta)) (ha : Ev X H0 Oc Γ a s1)
    (hr : ∀ (G : List Sl) (S : List (Option V)) (H : Hp) (v : V) (Q : VK), Wf X.K H0 Oc (s1 :: G) (some v :: S) H → (∀ u H', Wf X.K H0 Oc (s :: G) (some u :: S) H' → Q u H') → r v H Q) : Ev X H0 Oc Γ e s := fun Δ τ σ H Q hl W q =>
  wpE.of (hp pe_wp) (ha Δ τ σ H _ hl W fun v H1 W1 => hr _ _ H1 v Q W1 q)
theorem ev_neg (ha : Ev X H0 Oc Γ a (.va (.int i))) : Ev X H0 Oc Γ (.UnaryOp .USub a pos) (.va (.int (-i))) := ev_op1 (fun h => pe_un un_neg h) ha fun G S H v Q ⟨O, W⟩ q => by
  obtain ⟨u, h1, h2⟩ := W.head
  cases h1
  exact ⟨i, h2, q _ H ⟨O, W.pop.flat rfl (show Rep X.K H (.int (-i)) (.int (-i)) from rfl)⟩⟩
/-! ### comparisons -/
/-- a comparison, by the slots of its two sides -/
def C2 (X : Cx) (H0 : Hp) (Oc : List Addr) (f : CmpOp) (s1 s2 : Sl) (k : Bool) : Prop := ∃ r : R2, OpR X (compareOp f) r ∧
  ∀ (G : List Sl) (S : List (Option V)) (H : Hp) (v w : V) (Q : VK), Wf X.K H0 Oc (s2 :: s1 :: G) (some w :: some v :: S) H → (∀ H', Wf X.K H0 Oc G S H' → Q (.bl k) H') → r v w H Q
theorem ev_c {f : CmpOp} {k : Bool} (hc : C2 X H0 Oc f s1 s2 k) (ha : Ev X H0 Oc Γ a s1) (hb : Ev X H0 Oc Γ b s2) (hm : behindInMarks f b = false := by first | exact nomark _ | rfl) : Ev X H0 Oc Γ (.Compare a [f] [b] pos) (.va (.bl k)) := by
  obtain ⟨r, ho, hr⟩ := hc
  exact ev_op2 (fun ha hb => pe_cmpR ho ha hb hm) ha hb fun G S H v w Q W q => hr G S H v w Q W fun H' ⟨O, W'⟩ => q _ H' ⟨O, W'.flat rfl (show Rep X.K H' (.bl k) (.bl k) from rfl)⟩
theorem et_c {f : CmpOp} {k : Bool} (hc : C2 X H0 Oc f s1 s2 k) (ha : Ev X H0 Oc Γ a s1) (hb : Ev X H0 Oc Γ b s2) (hm : behindInMarks f b = false := by first | exact nomark _ | rfl) : Et X H0 Oc Γ (.Compare a [f] [b] pos) k := by
  obtain ⟨r, ho, hr⟩ := hc
  intro Δ τ σ H Q hl W q
  refine wpT.of (pt_cmpR ho pe_wp pe_wp hm) ?_
  refine ha Δ τ σ H _ hl W fun v H1 W1 => ?_
  refine hb (s1 :: Δ) (some v :: τ) σ H1 _ (by simp [hl]) W1 fun w H2 W2 => ?_
  exact hr _ _ H2 v w _ W2 fun H' W' => ⟨k, rfl, q H' W'⟩
theorem cm_ii {f : CmpOp} {p : Int → Int → Bool} (ho : OpR X (compareOp f) (rI0 fun i j => .bl (p i j))) : C2 X H0 Oc f (.va (.int i)) (.va (.int j)) (p i j) := ⟨_, ho, fun G S H v w Q ⟨O, W⟩ q => by
  obtain ⟨h1, h2, W'⟩ := va2 W
  exact ⟨i, j, h1, h2, q H ⟨O, W'⟩⟩⟩
theorem cm_lt : C2 X H0 Oc .Lt (.va (.int i)) (.va (.int j)) (decide (i < j)) := cm_ii (p := fun i j => decide (i < j)) op_lt
theorem cm_le : C2 X H0 Oc .LtE (.va (.int i)) (.va (.int j)) (decide (i ≤ j)) := cm_ii (p := fun i j => decide (i ≤ j)) op_le
theorem cm_gt : C2 X H0 Oc .Gt (.va (.int i)) (.va (.int j)) (decide (j < i)) := cm_ii (p := fun i j => decide (j < i)) op_gt
theorem cm_ge : C2 X H0 Oc .GtE (.va (.int i)) (.va (.int j)) (decide (j ≤ i)) := cm_ii (p := fun i j => decide (j ≤ i)) op_ge
/-- values that stand alone -/
def vD : D → V
  | .bl b => .bl b
  | .int i => .int i
  | .str x => .str x
  | _ => .non
def scD : D → Bool
  | .non | .bl _ | .int _ | .str _ => true
  | _ => false
theorem Rep.vD {K : PySem.W.Frag} {H : Hp} {v : V} (h : Rep K H d v) (hs : scD d = true) : v = vD d := by cases d <;> first | exact h | exact absurd hs Bool.false_ne_true
def eqS (d1 d2 : D) : Bool := decide (vD d1 = vD d2)
theorem eqS_int : eqS (.int i) (.int j) = decide (i = j) := by unfold eqS vD; simp
theorem eqS_bl {x y : Bool} : eqS (.bl x) (.bl y) = decide (x = y) := by unfold eqS vD; simp
theorem eqS_str {x y : Str} : eqS (.str x) (.str y) = decide (x = y) := by unfold eqS vD; simp
theorem cm_eqS (h1 : scD d1 = true) (h2 : scD d2 = true) (hs : scal (vD d1) (vD d2) = true) : C2 X H0 Oc .Eq (.va d1) (.va d2) (eqS d1 d2) := ⟨_, op_eq, fun G S H v w Q ⟨O, W⟩ q => by
  obtain ⟨r1, r2, W'⟩ := va2 W
  obtain rfl := r1.vD h1
  obtain rfl := r2.vD h2
  exact ⟨hs, q H ⟨O, W'⟩⟩⟩
theorem cm_neS (h1 : scD d1 = true) (h2 : scD d2 = true) (hs : scal (vD d1) (vD d2) = true) : C2 X H0 Oc .NotEq (.va d1) (.va d2) (!eqS d1 d2) := ⟨_, op_ne, fun G S H v w Q ⟨O, W⟩ q => by
  obtain ⟨r1, r2, W'⟩ := va2 W
  obtain rfl := r1.vD h1
  obtain rfl := r2.vD h2
  exact ⟨hs, q H ⟨O, W'⟩⟩⟩
theorem cm_eqI : C2 X H0 Oc .Eq (.va (.int i)) (.va (.int j)) (decide (i = j)) := eqS_int (i := i) (j := j) ▸ cm_eqS rfl rfl rfl
theorem cm_neI : C2 X H0 Oc .NotEq (.va (.int i)) (.va (.int j)) (!decide (i = j)) := eqS_int (i := i) (j := j) ▸ cm_neS rfl rfl rfl
theorem cm_eqB {x y : Bool} : C2 X H0 Oc .Eq (.va (.bl x)) (.va (.bl y)) (decide (x = y)) := eqS_bl (x := x) (y := y) ▸ cm_eqS rfl rfl rfl
theorem cm_neB {x y : Bool} : C2 X H0 Oc .NotEq (.va (.bl x)) (.va (.bl y)) (!decide (x = y)) := eqS_bl (x := x) (y := y) ▸ cm_neS rfl rfl rfl
theorem cm_eqT {x y : Str} : C2 X H0 Oc .Eq (.va (.str x)) (.va (.str y)) (decide (x = y)) := eqS_str (x := x) (y := y) ▸ cm_eqS rfl rfl rfl
theorem cm_neT {x y : Str} : C2 X H0 Oc .NotEq (.va (.str x)) (.va (.str y)) (!decide (x = y)) := eqS_str (x := x) (y := y) ▸ cm_neS rfl rfl rfl
/-! data of any depth -/
mutual
def py : D → PyData
  | .bl b => .bool b
  | .int i => .int i
  | .str x => .str x
  | .tup ds => .tuple (pys ds)
  | .lst ds => .list (pys ds)
  | .fz ds => .list (pys ds)
  | _ => .none
def pys : List D → List PyData
  | [] => []
  | d :: ds => py d :: pys ds
end
mutual
def isPy : D → Bool
  | .non | .bl _ | .int _ | .str _ => true
  | .tup ds => isPys ds
  | .lst ds => isPys ds
  | .fz ds => isPys ds
  | _ => false
def isPys : List D → Bool
  | [] => true
  | d :: ds => isPy d && isPys ds
end
section
variable {K : PySem.W.Frag} {H Ht : Hp}
mutual
theorem Rep.dp : ∀ {d : D} {v : V}, Rep K H d v → isPy d = true → Dp K H v (py d)
  | .non, _, h, _ => by rw [show _ = _ from h]; exact .non
  | .bl _, _, h, _ => by rw [show _ = _ from h]; exact .bl _
  | .int _, _, h, _ => by rw [show _ = _ from h]; exact .int _
  | .str _, _, h, _ => by rw [show _ = _ from h]; exact .str _
  | .tup ds, _, ⟨a, vs, h1, h2, h3⟩, hp => by rw [h1]; exact .tup (.of h2) (Reps.dp h3 hp)
  | .lst ds, _, ⟨a, vs, h1, h2, h3⟩, hp => by rw [h1]; exact .lst (.of h2) (Reps.dp h3 hp)
  | .fz ds, _, ⟨a, vs, h1, h2, h3⟩, hp => by rw [h1]; exact .lst h2 (Reps.dp h3 hp)
  | .opq _, _, _, hp => absurd hp Bool.false_ne_true
  | .obj .., _, _, hp => absurd hp Bool.false_ne_true
  | .xd .., _, _, hp => absurd hp Bool.false_ne_true
  | .dT .., _, _, hp => absurd hp Bool.false_ne_true
  | .dK .., _, _, hp => absurd hp Bool.false_ne_true
theorem Reps.dp : ∀ {ds : List D} {vs : List V}, Reps K H ds vs → isPys ds = true → DpAll K H vs (pys ds)
  | [], _, h, _ => by rw [show _ = _ from h]; exact .nil
  | d :: ds, _, ⟨v, us, h1, h2, h3⟩, hp => by
    rw [h1]
    have hp' := Bool.and_eq_true_iff.mp hp
    exact .cons (Rep.dp h2 hp'.1) (Reps.dp h3 hp'.2)
end
theorem DpAll.grow (e : Ex H Ht) {vs : List V} {ds : List PyData} (h : DpAll K H vs ds) : DpAll K Ht vs ds := by
  refine DpAll.rec (motive_1 := fun v d _ => Dp K Ht v d) (motive_2 := fun vs ds _ => DpAll K Ht vs ds) .non .bl .int .str (fun h _ ih => .lst (Ex.l e h) ih) (fun h _ ih => .tup (Ex.t e h) ih) .nil (fun _ _ i1 i2 => .cons i1 i2) h
theorem RepB.dp (e : Ex H Ht) : ∀ {d : D} {v : V}, RepB K Ht H d v → isPy d = true → Dp K Ht v (py d)
  | .non, _, h, _ => by rw [show _ = _ from h]; exact .non
  | .bl _, _, h, _ => by rw [show _ = _ from h]; exact .bl _
  | .int _, _, h, _ => by rw [show _ = _ from h]; exact .int _
  | .str _, _, h, _ => by rw [show _ = _ from h]; exact .str _
  | .tup ds, _, ⟨a, vs, h1, h2, h3⟩, hp => by rw [h1]; exact .tup (.of h2) (Y.DpAll.grow e (Reps.dp h3 hp))
  | .lst ds, _, ⟨a, vs, h1, h2, h3⟩, hp => by rw [h1]; exact .lst (.of h2) (Y.DpAll.grow e (Reps.dp h3 hp))
  | .fz ds, _, ⟨a, vs, h1, h2, h3⟩, hp => by rw [h1]; exact .lst h2 (Y.DpAll.grow e (Reps.dp h3 hp))
  | .opq _, _, _, hp => absurd hp Bool.false_ne_true
  | .obj .., _, _, hp => absurd hp Bool.false_ne_true
  | .xd .., _, _, hp => absurd hp Bool.false_ne_true
  | .dT .., _, _, hp => absurd hp Bool.false_ne_true
  | .dK .., _, _, hp => absurd hp Bool.false_ne_true
end
/-- d1 == d2 as Python has it -/
def eqD (d1 d2 : D) : Bool := PyData.eqv (py d1) (py d2)
/-- comparable data -/
def okD (d : D) : Bool := isPy d && SeqAt.shaped (py d)
theorem cm_eqD (hu : X.A.units + 64 < cLine) (h1 : okD d1 = true) (h2 : okD d2 = true) : C2 X H0 Oc .Eq (.bw d1) (.bw d2) (eqD d1 d2) := ⟨_, op_eqD hu, fun G S H v w Q ⟨O, W⟩ q => by
  obtain ⟨r1, r2, W'⟩ := bw2 W
  have q1 := Bool.and_eq_true_iff.mp h1
  have q2 := Bool.and_eq_true_iff.mp h2
  exact ⟨_, _, r1.dp cut_ex q1.1, r2.dp cut_ex q2.1, q1.2, q2.2, q H ⟨O, W'⟩⟩⟩
theorem cm_neD (hu : X.A.units + 64 < cLine) (h1 : okD d1 = true) (h2 : okD d2 = true) : C2 X H0 Oc .NotEq (.bw d1) (.bw d2) (!eqD d1 d2) := ⟨_, op_neD hu, fun G S H v w Q ⟨O, W⟩ q => by
  obtain ⟨r1, r2, W'⟩ := bw2 W
  have q1 := Bool.and_eq_true_iff.mp h1
  have q2 := Bool.and_eq_true_iff.mp h2
  exact ⟨_, _, r1.dp cut_ex q1.1, r2.dp cut_ex q2.1, q1.2, q2.2, q H ⟨O, W'⟩⟩⟩
/-! ### tests -/
theorem et_val {q : Bool} (h : Ev X H0 Oc Γ e (.va (.bl q))) (he : ∀ whole, isTrue e X.env whole = (do let v ← whole; standAt e.pos; holding [v] (truthy v)) := by intro _; rfl) : Et X H0 Oc Γ e q := fun Δ τ σ H Q hl W k =>
  wpT.of (pt_val pe_wp he) (h Δ τ σ H _ hl W fun v H' ⟨O, W'⟩ => by
    obtain ⟨u, h1, h2⟩ := W'.head
    cases h1
    exact ⟨q, h2, k H' ⟨O, W'.pop⟩⟩)
theorem et_not {q : Bool} (h : Et X H0 Oc Γ e q) : Et X H0 Oc Γ (.UnaryOp .Not e pos) (!q) := fun Δ τ σ H Q hl W k => wpT.of (pt_not pt_wp) (h Δ τ σ H _ hl W fun H' W' => k H' W')
theorem et_w {q : Bool} (h : Ew X H0 Oc Γ e q) : Et X H0 Oc Γ e q := fun Δ τ σ H Q hl W k pins s I => h Δ τ σ H Q hl W k _ pins s I
theorem ew_and1 {q : Bool} (h : Et X H0 Oc Γ a q) : Ew X H0 Oc Γ (.BoolOp .And [a] pos) q := fun Δ τ σ H Q hl W k => wpW.of (pw_and1 pt_wp) (h Δ τ σ H _ hl W k)
theorem ew_or1 {q : Bool} (h : Et X H0 Oc Γ a q) : Ew X H0 Oc Γ (.BoolOp .Or [a] pos) q := fun Δ τ σ H Q hl W k => wpW.of (pw_or1 pt_wp) (h Δ τ σ H _ hl W k)
theorem ew_and {q r : Bool} (h : Et X H0 Oc Γ a q) (hr : q = true → Ew X H0 Oc Γ (.BoolOp .And (b :: es) pos) r) : Ew X H0 Oc Γ (.BoolOp .And (a :: b :: es) pos) (q && r) := fun Δ τ σ H Q hl W k =>
  wpW.of (pw_and pt_wp pw_wp) (h Δ τ σ H _ hl W fun H' W' => by
    cases q with
    | true => exact hr rfl Δ τ σ H' Q hl W' k
    | false => exact k H' W')
theorem ew_or {q r : Bool} (h : Et X H0 Oc Γ a q) (hr : q = false → Ew X H0 Oc Γ (.BoolOp .Or (b :: es) pos) r) : Ew X H0 Oc Γ (.BoolOp .Or (a :: b :: es) pos) (q || r) := fun Δ τ σ H Q hl W k =>
  wpW.of (pw_or pt_wp pw_wp) (h Δ τ σ H _ hl W fun H' W' => by
    cases q with
    | false => exact hr rfl Δ τ σ H' Q hl W' k
    | true => exact k H' W')
/-- .. as values -/
theorem ev_one {op : BoolOp} (h : Ev X H0 Oc Γ a s) : Ev X H0 Oc Γ (.BoolOp op [a] pos) s := fun Δ τ σ H Q hl W k => wpE.of (pe_one pe_wp) (h Δ τ σ H Q hl W k)
theorem ev_and {q r : Bool} (h : Ev X H0 Oc Γ a (.va (.bl q))) (hr : q = true → Ev X H0 Oc Γ (.BoolOp .And (b :: es) pos) (.va (.bl r))) : Ev X H0 Oc Γ (.BoolOp .And (a :: b :: es) pos) (.va (.bl (q && r))) := fun Δ τ σ H Q hl W k =>
  wpE.of (pe_and pe_wp pe_wp) (h Δ τ σ H _ hl W fun v H' ⟨O, W'⟩ => by
    obtain ⟨u, h1, h2⟩ := W'.head
    cases h1
    refine ⟨q, h2, ?_⟩
    cases q with
    | true => exact hr rfl Δ τ σ H' Q hl ⟨O, W'.pop⟩ k
    | false => exact k _ H' ⟨O, W'.pop.flat rfl (show Rep X.K H' (.bl false) (.bl false) from rfl)⟩)
theorem ev_or {q r : Bool} (h : Ev X H0 Oc Γ a (.va (.bl q))) (hr : q = false → Ev X H0 Oc Γ (.BoolOp .Or (b :: es) pos) (.va (.bl r))) : Ev X H0 Oc Γ (.BoolOp .Or (a :: b :: es) pos) (.va (.bl (q || r))) := fun Δ τ σ H Q hl W k =>
  wpE.of (pe_or pe_wp pe_wp) (h Δ τ σ H _ hl W fun v H' ⟨O, W'⟩ => by
    obtain ⟨u, h1, h2⟩ := W'.head
    cases h1
    refine ⟨q, h2, ?_⟩
    cases q with
    | false => exact hr rfl Δ τ σ H' Q hl ⟨O, W'.pop⟩ k
    | true => exact k _ H' ⟨O, W'.pop.flat rfl (show Rep X.K H' (.bl true) (.bl true) from rfl)⟩)
theorem ev_not {q : Bool} (h : Ev X H0 Oc Γ a (.va (.bl q))) : Ev X H0 Oc Γ (.UnaryOp .Not a pos) (.va (.bl (!q))) := fun Δ τ σ H Q hl W k =>
  wpE.of (pe_not pe_wp) (h Δ τ σ H _ hl W fun v H' ⟨O, W'⟩ => by
    obtain ⟨u, h1, h2⟩ := W'.head
    cases h1
    exact ⟨q, h2, k _ H' ⟨O, W'.pop.flat rfl (show Rep X.K H' (.bl (!q)) (.bl (!q)) from rfl)⟩⟩)
theorem ev_if {q : Bool} (h : Et X H0 Oc Γ c q) (h1 : q = true → Ev X H0 Oc Γ a s) (h2 : q = false → Ev X H0 Oc Γ b s) : Ev X H0 Oc Γ (.IfExp c a b pos) s := fun Δ τ σ H Q hl W k =>
  wpE.of (pe_ifExp pt_wp pe_wp pe_wp) (h Δ τ σ H _ hl W fun H' W' => by
    cases q with
    | true => exact h1 rfl Δ τ σ H' Q hl W' k
    | false => exact h2 rfl Δ τ σ H' Q hl W' k)
/-- is None -/
def isN : D → Bool
  | .non => true
  | .opq v => decide (v = .non)
  | _ => false
theorem RepB.isN {K : PySem.W.Frag} {Ht H : Hp} {v : V} (h : RepB K Ht H d v) : decide (v = .non) = isN d := by
  cases d with
  | non => rw [show v = .non from h]; rfl
  | opq w => rw [show v = w from h]; rfl
  | bl _ => rw [show v = _ from h]; rfl
  | int _ => rw [show v = _ from h]; rfl
  | str _ => rw [show v = _ from h]; rfl
  | tup ds => obtain ⟨p, _, h, _⟩ := h; rw [h]; rfl
  | lst ds => obtain ⟨p, _, h, _⟩ := h; rw [h]; rfl
  | fz ds => obtain ⟨p, _, h, _⟩ := h; rw [h]; rfl
  | obj C ns ds => obtain ⟨p, _, _, h, _⟩ := h; rw [h]; rfl
  | xd ns ds => obtain ⟨p, _, h, _⟩ := h; rw [h]; rfl
  | dT ns ds => obtain ⟨p, _, h, _⟩ := h; rw [h]; rfl
  | dK ns ds => obtain ⟨p, _, h, _⟩ := h; rw [h]; rfl
  | er a C p ns ds => obtain ⟨_, h, _⟩ := h; rw [h]; rfl
  | slf a C ns ds => obtain ⟨_, _, h, _⟩ := h; rw [h]; rfl
theorem Wf.popB {G : List Sl} {S : List (Option V)} {H : Hp} {v : V} (W : Wf X.K H0 Oc (.bw d :: G) (some v :: S) H) : (∃ O, RepB X.K H (cut H O) d v) ∧ Wf X.K H0 Oc G S H := by
  obtain ⟨O, W⟩ := W
  obtain ⟨u, h1, h2⟩ := W.head
  cases h1
  exact ⟨⟨O, h2⟩, O, W.pop⟩
theorem Wf.bl {G : List Sl} {S : List (Option V)} {H : Hp} {q : Bool} (W : Wf X.K H0 Oc G S H) : Wf X.K H0 Oc (.va (.bl q) :: G) (some (.bl q) :: S) H := let ⟨O, W⟩ := W; ⟨O, W.flat rfl (show Rep X.K H (.bl q) (.bl q) from rfl)⟩
theorem ev_isN (ha : Ev X H0 Oc Γ a (.bw d)) {k pos'} : Ev X H0 Oc Γ (.Compare a [.Is] [.Constant .none k pos'] pos) (.va (.bl (isN d))) := fun Δ τ σ H Q hl W q =>
  wpE.of (pe_cmp (pc_isN pe_wp) rfl) (ha Δ τ σ H _ hl W fun v H' W' => by
    obtain ⟨⟨O, h⟩, W2⟩ := W'.popB
    rw [h.isN]
    exact q _ H' W2.bl)
theorem et_isN (ha : Ev X H0 Oc Γ a (.bw d)) {k pos'} : Et X H0 Oc Γ (.Compare a [.Is] [.Constant .none k pos'] pos) (isN d) := fun Δ τ σ H Q hl W q =>
  wpT.of (pt_cmp (pc_isN pe_wp) rfl) (ha Δ τ σ H _ hl W fun v H' W' => by
    obtain ⟨⟨O, h⟩, W2⟩ := W'.popB
    exact ⟨_, rfl, by rw [h.isN]; exact q H' W2⟩)
theorem et_notN (ha : Ev X H0 Oc Γ a (.bw d)) {k pos'} : Et X H0 Oc Γ (.Compare a [.IsNot] [.Constant .none k pos'] pos) (!isN d) := fun Δ τ σ H Q hl W q =>
  wpT.of (pt_cmp (pc_notN pe_wp) rfl) (ha Δ τ σ H _ hl W fun v H' W' => by
    obtain ⟨⟨O, h⟩, W2⟩ := W'.popB
    exact ⟨_, rfl, by rw [h.isN]; exact q H' W2⟩)
/-! ### arguments, displays -/
theorem ea_nil : Ea X H0 Oc Γ [] [] := fun Δ τ σ H Q hl ⟨O, W⟩ k => wpA.of pa_nil (k [] O H W rfl)
theorem ea_cons (ha : Ev X H0 Oc Γ a s) (hr : Ea X H0 Oc Γ es ss) (hst : starEach (a :: es) X.env = (false, eval a X.env) :: starEach es X.env := by rfl) : Ea X H0 Oc Γ (a :: es) (s :: ss) := fun Δ τ σ H Q hl W k =>
  wpA.of (pa_cons pe_wp pa_wp hst) (ha Δ τ σ H _ hl W fun v H1 W1 => hr (s :: Δ) (some v :: τ) σ H1 _ (by simp [hl]) W1 fun vs O H2 W2 ok => k (v :: vs) O H2 W2.pop ⟨v, vs, rfl, W2.head, ok⟩)
end
end Y

namespace Y
open PySem L2
section
variable {X : Cx} {H0 : Hp} {Oc : List Addr} {Γ : List Sl} {e a b c : Expr} {es : List Expr} {s s1 s2 : Sl} {ss : List Sl} {d d1 d2 : D} {ds ds1 ds2 : List D} {i j : Int} {pos p2 : Pos}
/-! ### displays -/
/-- slots whose objects are all given up at once -/
def dats : List Sl → Option (List D)
  | [] => some []
  | .va d :: ss => (dats ss).map (d :: ·)
  | _ => none
theorem ArgsOk.reps {K : PySem.W.Frag} {O : List Addr} {H : Hp} : ∀ {ss : List Sl} {vs : List V} {ds : List D}, ArgsOk K H0 O H ss vs → dats ss = some ds → Reps K (cut H O) ds vs
  | [], _, _, h, e => by
    cases e
    exact h
  | .va d :: ss, _, _, ⟨v, us, h1, ⟨w, h2, h3⟩, h4⟩, e => by
    cases q : dats ss with
    | none => simp [dats, q] at e
    | some es =>
      simp only [dats, q, Option.map_some, Option.some.injEq] at e
      subst e
      cases h2
      exact ⟨v, us, h1, h3, ArgsOk.reps h4 q⟩
  | .no :: _, _, _, _, e => by cases e
  | .ow _ :: _, _, _, _, e => by cases e
  | .br _ :: _, _, _, _, e => by cases e
  | .bw _ :: _, _, _, _, e => by cases e
theorem Reps.len' {K : PySem.W.Frag} {H : Hp} {vs : List V} (h : Reps K H ds vs) (hn : ds.length ≤ 1000000) : vs.length ≤ sizeLine := by
  rw [Reps.len h, sizeLine_eq]
  omega
theorem ev_tup {x1} (h : Ea X H0 Oc Γ es ss) (hd : dats ss = some ds) (hn : ds.length ≤ 1000000) : Ev X H0 Oc Γ (.Tuple es x1 pos) (.va (.tup ds)) := fun Δ τ σ H Q hl W q =>
  wpE.of (pe_tup pa_wp) (h Δ τ σ H _ hl W fun vs O H' W' ok => by
    have r := ok.reps hd
    exact ⟨r.len' hn, fun p hp => q _ _ ⟨O, W'.newTup hp r⟩⟩)
theorem ev_lst (h : Ea X H0 Oc Γ es ss) (hd : dats ss = some ds) (hn : ds.length ≤ 1000000) : Ev X H0 Oc Γ (.List es pos) (.ow (.lst ds)) := fun Δ τ σ H Q hl W q =>
  wpE.of (pe_lst pa_wp) (h Δ τ σ H _ hl W fun vs O H' W' ok => by
    have r := ok.reps hd
    exact ⟨r.len' hn, fun p hp => q _ _ ⟨_, W'.newLst hp r⟩⟩)
/-! ### items, slices -/
theorem Reps.atI {K : PySem.W.Frag} {H : Hp} {vs : List V} (h : Reps K H ds vs) (hi : L2.atI ds i = some d) : ∃ v, L2.atI vs i = some v ∧ Rep K H d v := by
  unfold L2.atI at hi ⊢
  rw [Reps.len h]
  cases q : ixN ds.length i with
  | none => rw [q] at hi; cases hi
  | some k =>
    rw [q] at hi
    exact Reps.get h hi
theorem ev_ixL (ha : Ev X H0 Oc Γ a (.bw (.lst ds))) (hb : Ev X H0 Oc Γ b (.va (.int i))) (hi : L2.atI ds i = some d) (hs : PlainIx b := by exact fun _ _ => rfl) : Ev X H0 Oc Γ (.Subscript a b pos) (.va d) :=
  ev_op2 (fun ha hb => pe_ix ix_list ha hb hs) ha hb fun G S H v w Q ⟨O, W⟩ q => by
    obtain ⟨u, h1, h2⟩ := W.head
    obtain ⟨u', h1', p, vs, h2', h3, h4⟩ := W.pop.head
    cases h1
    cases h1'
    obtain ⟨z, hz, rz⟩ := h4.atI hi
    exact ⟨p, vs, i, z, h2', h2, .of h3, hz, q z H ⟨O, W.pop.pop.push ⟨z, rfl, rz⟩ fun _ z => nomatch z⟩⟩
theorem ev_ixF (ha : Ev X H0 Oc Γ a (.bw (.fz ds))) (hb : Ev X H0 Oc Γ b (.va (.int i))) (hi : L2.atI ds i = some d) (hs : PlainIx b := by exact fun _ _ => rfl) : Ev X H0 Oc Γ (.Subscript a b pos) (.va d) :=
  ev_op2 (fun ha hb => pe_ix ix_list ha hb hs) ha hb fun G S H v w Q ⟨O, W⟩ q => by
    obtain ⟨u, h1, h2⟩ := W.head
    obtain ⟨u', h1', p, vs, h2', h3, h4⟩ := W.pop.head
    cases h1
    cases h1'
    obtain ⟨z, hz, rz⟩ := h4.atI hi
    exact ⟨p, vs, i, z, h2', h2, h3, hz, q z H ⟨O, W.pop.pop.push ⟨z, rfl, rz⟩ fun _ z => nomatch z⟩⟩
theorem ev_ixT (ha : Ev X H0 Oc Γ a (.bw (.tup ds))) (hb : Ev X H0 Oc Γ b (.va (.int i))) (hi : L2.atI ds i = some d) (hs : PlainIx b := by exact fun _ _ => rfl) : Ev X H0 Oc Γ (.Subscript a b pos) (.va d) :=
  ev_op2 (fun ha hb => pe_ix ix_tup ha hb hs) ha hb fun G S H v w Q ⟨O, W⟩ q => by
    obtain ⟨u, h1, h2⟩ := W.head
    obtain ⟨u', h1', p, vs, h2', h3, h4⟩ := W.pop.head
    cases h1
    cases h1'
    obtain ⟨z, hz, rz⟩ := h4.atI hi
    exact ⟨p, vs, i, z, h2', h2, .of h3, hz, q z H ⟨O, W.pop.pop.push ⟨z, rfl, rz⟩ fun _ z => nomatch z⟩⟩
/-- a slice's part -/
def Eo (X : Cx) (H0 : Hp) (Oc : List Addr) (Γ : List Sl) (e : Option Expr) (o : Option Int) : Prop := ∃ t : TO, PO X e t ∧ ∀ (Δ : List Sl) (τ : List (Option V)) (σ : L2.St) (H : Hp) (Q : Option Int → Hp → Prop), τ.length = Δ.length → Wf X.K H0 Oc (Δ ++ Γ) (τ ++ σ) H →
  (∀ H', Wf X.K H0 Oc (Δ ++ Γ) (τ ++ σ) H' → Q o H') → t σ H Q
theorem eo_no : Eo X H0 Oc Γ none none := ⟨_, po_none, fun Δ τ σ H Q _ W q => q H W⟩
theorem eo_at (h : Ev X H0 Oc Γ e (.va (.int i))) : Eo X H0 Oc Γ (some e) (some i) := ⟨_, po_some pe_wp, fun Δ τ σ H Q hl W q => h Δ τ σ H _ hl W fun v H' ⟨O, W'⟩ => by
  obtain ⟨u, h1, h2⟩ := W'.head
  cases h1
  exact ⟨i, h2, q H' ⟨O, W'.pop⟩⟩⟩
def cutD {α : Type} (xs : List α) (lo hi : Option Int) : List α := (xs.drop (HT.sIx xs.length 0 lo)).take (HT.sIx xs.length xs.length hi - HT.sIx xs.length 0 lo)
theorem cutD_map {α β : Type} {f : α → β} {xs : List α} {lo hi : Option Int} : cutD (xs.map f) lo hi = (cutD xs lo hi).map f := by
  unfold cutD
  rw [List.length_map, List.map_take, List.map_drop]
theorem Reps.cut {K : PySem.W.Frag} {H : Hp} {vs : List V} {lo hi : Option Int} (h : Reps K H ds vs) : Reps K H (cutD ds lo hi) (cutV vs lo hi) := by
  unfold cutD cutV
  rw [Reps.len h]
  exact Reps.take _ (Reps.drop _ h)
theorem ev_slL {lo hi : Option Expr} {l h : Option Int} (ha : Ev X H0 Oc Γ a (.bw (.lst ds))) (hlo : Eo X H0 Oc Γ lo l) (hhi : Eo X H0 Oc Γ hi h) : Ev X H0 Oc Γ (.Subscript a (.Slice lo hi none p2) pos) (.ow (.lst (cutD ds l h))) := fun Δ τ σ H Q hl W q => by
  obtain ⟨tl, pl, kl⟩ := hlo
  obtain ⟨th, ph, kh⟩ := hhi
  refine wpE.of (pe_slice sl_list pe_wp pl ph) ?_
  refine ha Δ τ σ H _ hl W fun v H1 W1 => ?_
  refine kl (.bw (.lst ds) :: Δ) (some v :: τ) σ H1 _ (by simp [hl]) W1 fun H2 W2 => ?_
  refine kh (.bw (.lst ds) :: Δ) (some v :: τ) σ H2 _ (by simp [hl]) W2 fun H3 ⟨O, W3⟩ => ?_
  obtain ⟨u', h1', p, vs, h2', h3, h4⟩ := W3.head
  cases h1'
  exact ⟨p, vs, h2', .of h3, fun x hx => q _ _ ⟨_, W3.pop.newLst hx h4.cut⟩⟩
theorem whole_cut {vs : List V} {l h : Option Int} (hw : HT.sIx vs.length 0 l = 0 ∧ HT.sIx vs.length vs.length h = vs.length) : cutV vs l h = vs := by
  unfold cutV
  rw [hw.1, hw.2]
  simp
theorem ev_slT {lo hi : Option Expr} {l h : Option Int} (ha : Ev X H0 Oc Γ a (.va (.tup ds))) (hlo : Eo X H0 Oc Γ lo l) (hhi : Eo X H0 Oc Γ hi h) : Ev X H0 Oc Γ (.Subscript a (.Slice lo hi none p2) pos) (.va (.tup (cutD ds l h))) := fun Δ τ σ H Q hl W q => by
  obtain ⟨tl, pl, kl⟩ := hlo
  obtain ⟨th, ph, kh⟩ := hhi
  refine wpE.of (pe_slice sl_tupA pe_wp pl ph) ?_
  refine ha Δ τ σ H _ hl W fun v H1 W1 => ?_
  refine kl (.va (.tup ds) :: Δ) (some v :: τ) σ H1 _ (by simp [hl]) W1 fun H2 W2 => ?_
  refine kh (.va (.tup ds) :: Δ) (some v :: τ) σ H2 _ (by simp [hl]) W2 fun H3 ⟨O, W3⟩ => ?_
  obtain ⟨u', h1', p, vs, h2', h3, h4⟩ := W3.head
  cases h1'
  refine ⟨p, vs, h2', .of (cut_ex _ _ h3), fun hw => ?_, fun hw x hx => q _ _ ⟨O, W3.pop.newTup hx h4.cut⟩⟩
  refine q _ H3 ⟨O, W3.pop.push ⟨.ref p, rfl, p, _, rfl, h3, ?_⟩ fun _ z => nomatch z⟩
  have := h4.cut (lo := l) (hi := h)
  rw [whole_cut hw] at this
  exact this
/-! ### joined, repeated -/
theorem ev_catL (ha : Ev X H0 Oc Γ a (.bw (.lst ds1))) (hb : Ev X H0 Oc Γ b (.bw (.lst ds2))) (hn : ds1.length + ds2.length ≤ 1000000) : Ev X H0 Oc Γ (.BinOp a .Add b pos) (.ow (.lst (ds1 ++ ds2))) :=
  ev_op2 (fun ha hb => pe_op op_cat ha hb) ha hb fun G S H v w Q ⟨O, W⟩ q => by
    obtain ⟨⟨p, vs, e1, h1, r1⟩, ⟨p', us, e2, h2, r2⟩, W'⟩ := bw2 W
    refine ⟨p, p', vs, us, e1, e2, h1, h2, ?_, fun x hx => q _ _ ⟨_, W'.newLst hx (r1.app r2)⟩⟩
    rw [r1.len, r2.len, sizeLine_eq]
    omega
theorem ev_catT (ha : Ev X H0 Oc Γ a (.va (.tup ds1))) (hb : Ev X H0 Oc Γ b (.va (.tup ds2))) (hn : ds1.length + ds2.length ≤ 1000000) : Ev X H0 Oc Γ (.BinOp a .Add b pos) (.va (.tup (ds1 ++ ds2))) :=
  ev_op2 (fun ha hb => pe_op op_catA ha hb) ha hb fun G S H v w Q ⟨O, W⟩ q => by
    obtain ⟨⟨p, vs, e1, h1, r1⟩, ⟨p', us, e2, h2, r2⟩, W'⟩ := va2 W
    have r := r1.app r2
    refine ⟨p, p', vs, us, e1, e2, .of (cut_ex _ _ h1), .of (cut_ex _ _ h2), ?_, fun z => ?_, fun _ z => ?_, fun _ _ x hx => q _ _ ⟨_, W'.newTup hx r⟩⟩
    · rw [r1.len, r2.len, sizeLine_eq]
      omega
    · rw [z, List.nil_append] at r
      exact q _ H ⟨O, W'.push ⟨.ref p', rfl, p', _, rfl, h2, r⟩ fun _ z => nomatch z⟩
    · rw [z, List.append_nil] at r
      exact q _ H ⟨O, W'.push ⟨.ref p, rfl, p, _, rfl, h1, r⟩ fun _ z => nomatch z⟩
theorem Reps.flat {K : PySem.W.Frag} {H : Hp} {vs : List V} (h : Reps K H ds vs) : ∀ n : Nat, Reps K H (List.replicate n ds).flatten (List.replicate n vs).flatten
  | 0 => rfl
  | n + 1 => by
    rw [List.replicate_succ, List.replicate_succ, List.flatten_cons, List.flatten_cons]
    exact h.app (Reps.flat h n)
theorem ev_repL (ha : Ev X H0 Oc Γ a (.bw (.lst ds))) (hb : Ev X H0 Oc Γ b (.va (.int i))) (h1 : i ≤ 1000000) (h2 : -1000000 ≤ i) (hn : ds.length * i.toNat ≤ 1000000) : Ev X H0 Oc Γ (.BinOp a .Mult b pos) (.ow (.lst (List.replicate i.toNat ds).flatten)) :=
  ev_op2 (fun ha hb => pe_op op_rep ha hb) ha hb fun G S H v w Q ⟨O, W⟩ q => by
    obtain ⟨u, g1, g2⟩ := W.head
    obtain ⟨u', g1', p, vs, e1, g3, r⟩ := W.pop.head
    cases g1
    cases g1'
    refine ⟨p, i, vs, e1, g2, g3, by omega, by omega, ?_, fun x hx => q _ _ ⟨_, W.pop.pop.newLst hx (r.flat _)⟩⟩
    rw [r.len, sizeLine_eq]
    omega
theorem ev_revL {k : Nat} {p1 p3 p4 : Pos} (ha : Ev X H0 Oc Γ a (.bw (.lst ds))) : Ev X H0 Oc Γ (.Subscript a (.Slice none none (some (.UnaryOp .USub (.Constant (.int 1) k p1) p3)) p4) pos) (.ow (.lst ds.reverse)) := fun Δ τ σ H Q hl W q =>
  wpE.of (pe_revL pe_wp) (ha Δ τ σ H _ hl W fun v H' ⟨O, W'⟩ => by
    obtain ⟨u, g1, p, vs, e1, g3, r⟩ := W'.head
    cases g1
    exact ⟨p, vs, e1, .of g3, fun x hx => q _ _ ⟨_, W'.pop.newLst hx r.rev⟩⟩)
/-! ### calls of what is built in -/
/-- one argument -/
theorem ev_b1 {id : String} {x : Str} {p : Pos} {r : List V → Hp → VK → Prop} (hc : CallR X (.builtin id) r) (ha : Ev X H0 Oc Γ a s1) (hm : X.mg x = none) (hv : bootBuiltins x = some (.builtin id)) (hg : Gl X x)
    (hr : ∀ (G : List Sl) (S : List (Option V)) (H : Hp) (v : V) (Q : VK), Wf X.K H0 Oc (s1 :: G) (some v :: S) H → (∀ u H', Wf X.K H0 Oc (s :: G) (some u :: S) H' → Q u H') → r [v] H Q)
    (hn : x ≠ "__name__") (hd : (x == ("__debug__" : Str)) = false) (he : starEach [a] X.env = (false, eval a X.env) :: starEach [] X.env) (hpl : (backTo pos (starEach [] X.env)).any (·.1) = false) : Ev X H0 Oc Γ (.Call (.Name x p) [a] [] pos) s := fun Δ τ σ H Q hl W q =>
  wpE.of (pe_callB hc hg hm hv (pa_cons pe_wp pa_nil he) hn hd he hpl) (ha Δ τ σ H _ hl W fun v H1 W1 => hr _ _ H1 v Q W1 q)
theorem ev_t1 {T : String} {x : Str} {p : Pos} {r : List V → Hp → VK → Prop} (hc : CallR X (.type T) r) (ha : Ev X H0 Oc Γ a s1) (hm : X.mg x = none) (hv : bootBuiltins x = some (.type T)) (hg : Gl X x)
    (hr : ∀ (G : List Sl) (S : List (Option V)) (H : Hp) (v : V) (Q : VK), Wf X.K H0 Oc (s1 :: G) (some v :: S) H → (∀ u H', Wf X.K H0 Oc (s :: G) (some u :: S) H' → Q u H') → r [v] H Q)
    (hn : x ≠ "__name__") (hd : (x == ("__debug__" : Str)) = false) (he : starEach [a] X.env = (false, eval a X.env) :: starEach [] X.env) (hpl : (backTo pos (starEach [] X.env)).any (·.1) = false) : Ev X H0 Oc Γ (.Call (.Name x p) [a] [] pos) s := fun Δ τ σ H Q hl W q =>
  wpE.of (pe_callTy hc hg hm hv (pa_cons pe_wp pa_nil he) hn hd he hpl) (ha Δ τ σ H _ hl W fun v H1 W1 => hr _ _ H1 v Q W1 q)
/-- the items of a list or tuple -/
def seqD : D → Option (List D)
  | .lst ds => some ds
  | .tup ds => some ds
  | .fz ds => some ds
  | _ => none
theorem RepB.seq {K : PySem.W.Frag} {Ht H : Hp} {v : V} (h : RepB K Ht H d v) (hd : seqD d = some ds) : ∃ p vs, v = .ref p ∧ (SqL K Ht p vs ∨ SqT K Ht p vs) ∧ Reps K H ds vs := by
  cases d <;> first | cases hd
  · obtain ⟨p, vs, h1, h2, h3⟩ := h; exact ⟨p, vs, h1, .inr (.of h2), h3⟩
  · obtain ⟨p, vs, h1, h2, h3⟩ := h; exact ⟨p, vs, h1, .inl (.of h2), h3⟩
  · obtain ⟨p, vs, h1, h2, h3⟩ := h; exact ⟨p, vs, h1, .inl h2, h3⟩
theorem ev_len {p : Pos} (ha : Ev X H0 Oc Γ a (.bw d)) (hd : seqD d = some ds) (hm : X.mg "len" = none) (hg : Gl X "len") (he : starEach [a] X.env = (false, eval a X.env) :: starEach [] X.env) (hpl : (backTo pos (starEach [] X.env)).any (·.1) = false) :
    Ev X H0 Oc Γ (.Call (.Name "len" p) [a] [] pos) (.va (.int ds.length)) := ev_b1 call_len_seq ha hm PySem.boot_len hg (fun G S H v Q W q => by
      obtain ⟨⟨O, h⟩, O', W'⟩ := W.popB
      obtain ⟨p, vs, e, hq, r⟩ := h.seq hd
      exact ⟨p, vs, by rw [e], hq, q _ H ⟨O', W'.flat rfl (show Rep X.K H (.int ds.length) (.int vs.length) by rw [r.len]; rfl)⟩⟩) (by decide) (by decide) he hpl
theorem ev_list {p : Pos} (ha : Ev X H0 Oc Γ a (.bw d)) (hd : seqD d = some ds) (hm : X.mg "list" = none) (hg : Gl X "list") (he : starEach [a] X.env = (false, eval a X.env) :: starEach [] X.env) (hpl : (backTo pos (starEach [] X.env)).any (·.1) = false) :
    Ev X H0 Oc Γ (.Call (.Name "list" p) [a] [] pos) (.ow (.lst ds)) := ev_t1 call_list_of ha hm (by decide +kernel) hg (fun G S H v Q ⟨O, W⟩ q => by
      obtain ⟨u, g1, h⟩ := W.head
      cases g1
      obtain ⟨p, vs, e, hq, r⟩ := h.seq hd
      exact ⟨p, vs, by rw [e], hq, fun x hx => q _ _ ⟨_, W.pop.newLst hx r⟩⟩) (by decide) (by decide) he hpl
theorem ev_tupL {p : Pos} (ha : Ev X H0 Oc Γ a (.bw (.lst ds))) (hm : X.mg "tuple" = none) (hg : Gl X "tuple") (he : starEach [a] X.env = (false, eval a X.env) :: starEach [] X.env) (hpl : (backTo pos (starEach [] X.env)).any (·.1) = false) :
    Ev X H0 Oc Γ (.Call (.Name "tuple" p) [a] [] pos) (.va (.tup ds)) := ev_t1 call_tuple_of ha hm (by decide +kernel) hg (fun G S H v Q ⟨O, W⟩ q => by
      obtain ⟨u, g1, p, vs, e, hq, r⟩ := W.head
      cases g1
      exact ⟨p, vs, by rw [e], .inl ⟨.of hq, fun x hx => q _ _ ⟨_, W.pop.newTup hx r⟩⟩⟩) (by decide) (by decide) he hpl
theorem ev_tupT {p : Pos} (ha : Ev X H0 Oc Γ a (.va (.tup ds))) (hm : X.mg "tuple" = none) (hg : Gl X "tuple") (he : starEach [a] X.env = (false, eval a X.env) :: starEach [] X.env) (hpl : (backTo pos (starEach [] X.env)).any (·.1) = false) :
    Ev X H0 Oc Γ (.Call (.Name "tuple" p) [a] [] pos) (.va (.tup ds)) := ev_t1 call_tuple_of ha hm (by decide +kernel) hg (fun G S H v Q ⟨O, W⟩ q => by
      obtain ⟨u, g1, p, vs, e, hq, r⟩ := id W.head
      cases g1
      refine ⟨p, vs, by rw [e], .inr ⟨.of (cut_ex _ _ hq), ?_⟩⟩
      have := q v H ⟨O, W⟩
      rw [e] at this
      exact this) (by decide) (by decide) he hpl
theorem ev_int1 {p : Pos} (ha : Ev X H0 Oc Γ a (.va (.int i))) (hm : X.mg "int" = none) (hg : Gl X "int") (he : starEach [a] X.env = (false, eval a X.env) :: starEach [] X.env) (hpl : (backTo pos (starEach [] X.env)).any (·.1) = false) :
    Ev X H0 Oc Γ (.Call (.Name "int" p) [a] [] pos) (.va (.int i)) := ev_t1 call_int1 ha hm (by decide +kernel) hg (fun G S H v Q ⟨O, W⟩ q => by
      obtain ⟨u, g1, e⟩ := W.head
      cases g1
      exact .inl ⟨i, by rw [show v = _ from e], q _ _ ⟨O, W.pop.flat rfl (show Rep X.K H (.int i) (.int i) from rfl)⟩⟩) (by decide) (by decide) he hpl
end
end Y

namespace Y
open PySem L2

/-! ## what a def promises, in terms of data -/
/-- how a statement or a body ends -/
inductive Out where
  | nx (Γ : List Sl) | ret (s : Sl) | brk (Γ : List Sl) | cnt (Γ : List Sl) | exc (C : Addr) (ns : List Str) (ds : List D) (Γ : Option (List Sl))
/-- the arguments' slots and the end that is promised for them -/
abbrev Pm := List Sl → Out → Prop
/-- a slot that may be handed back -/
def Sl.res : Sl → Bool
  | .va _ | .ow _ | .no => true
  | _ => false
/-- a slot as a callee has it -/
def Sl.arg : Sl → Sl
  | .ow d => .br d
  | .bw d => .br d
  | s => s
section
variable (K : PySem.W.Frag)
def SatR (H0 : Hp) (Oc : List Addr) (Q : VK) (s : Sl) : Prop := ∀ v H', Wf K H0 Oc [s] [some v] H' → Q v H'
def SatX (H0 : Hp) (Oc : List Addr) (E : XK) (C : Addr) (ns : List Str) (ds : List D) : Prop := ∀ d H', Wf K H0 Oc [.va (.xd ns ds)] [some (.ref d)] H' → E (.ref C) (some d) H'
def SatF (H0 : Hp) (Oc : List Addr) (Q : VK) (E : XK) : Out → Prop
  | .ret s => SatR K H0 Oc Q s
  | .exc C ns ds _ => SatX K H0 Oc E C ns ds
  | _ => False
def mkSp (P : Pm) : Sp := fun vs H Q E => ∃ Oc Γ o, P Γ o ∧ Wf K H Oc Γ (vs.map some) H ∧ SatF K H Oc Q E o
/-- __init__: the object in the making is one's own -/
def SatI (H0 : Hp) (Oc : List Addr) (self : V) (Q : VK) (E : XK) : Out → Prop
  | .ret s => ∀ H', Wf K H0 Oc [s] [some self] H' → Q .non H'
  | .exc C ns ds _ => SatX K H0 Oc E C ns ds
  | _ => False
def mkSpI (C : Addr) (P : Pm) : Sp := fun vs H Q E => ∃ H0 Oc Γ o self us, P Γ o ∧ vs = self :: us ∧ Wf K H0 Oc (.ow (.obj C [] []) :: Γ) (vs.map some) H ∧ SatI K H0 Oc self Q E o
end
/-- a def of the module -/
structure FnG (Pr : Program) (w : World) (K : PySem.W.Frag) (mg : Str → Option Value) (base : Heap) (x : Str) (k : Nat) (ps : List Str) (P : Pm) : Prop where
  ex : ∃ f fd, FnOk Pr w K mg base (L2N.CX Pr w) k f fd ps (mkSp K P) ∧ mg x = some (.ref f) ∧ PySem.W.keepIn K (.ref f) = true ∧ L2.Binds K fd ps []
/-- a method of the class at C -/
structure MtG (Pr : Program) (w : World) (K : PySem.W.Frag) (mg : Str → Option Value) (base : Heap) (C : Addr) (m : Str) (k : Nat) (ps : List Str) (P : Pm) : Prop where
  ex : ∃ f fd, FnOk Pr w K mg base (L2N.CX Pr w) k f fd ps (mkSp K P) ∧ Meth K C m f ∧ L2.Binds K fd ps []
/-- a class with its __init__ -/
structure ClG (Pr : Program) (w : World) (K : PySem.W.Frag) (mg : Str → Option Value) (base : Heap) (x : Str) (C : Addr) (k : Nat) (ps : List Str) (P : Pm) : Prop where
  ex : ∃ f fd, FnOk Pr w K mg base (L2N.CX Pr w) k f fd ps (mkSpI K C P) ∧ Mk K C f ∧ mg x = some (.ref C) ∧ L2.Binds K fd ps []
/-- a property -/
structure PrG (Pr : Program) (w : World) (K : PySem.W.Frag) (mg : Str → Option Value) (base : Heap) (C : Addr) (m : Str) (k : Nat) (ps : List Str) (P : Pm) : Prop where
  ex : ∃ p f fd, FnOk Pr w K mg base (L2N.CX Pr w) k f fd ps (mkSp K P) ∧ PropOf K C m p f ∧ L2.Binds K fd ps []

section
variable {K : PySem.W.Frag} {H0 H H' : Hp} {O Oc : List Addr} {G : List Sl} {S : List (Option V)} {s : Sl} {ss : List Sl} {vs : List V} {v : V}
theorem SlOk.arg (e : Ex H0 H) (h : SlOk K H0 O H s (some v)) : SlOk K H O H s.arg (some v) := by
  cases s with
  | no => trivial
  | va d => exact h
  | ow d => exact ⟨v, rfl, h.b e rfl⟩
  | br d => exact ⟨v, rfl, h.b e rfl⟩
  | bw d => exact ⟨v, rfl, h.b e rfl⟩
theorem arg_not : ∀ {ss : List Sl} {i : Nat} {d : D}, (ss.map Sl.arg)[i]? = some (.ow d) → False := fun {ss i d} h => by
  rw [List.getElem?_map] at h
  cases q : ss[i]? with
  | none => rw [q] at h; cases h
  | some s' =>
    rw [q] at h
    cases s' <;> cases h
theorem ArgsOk.len : ∀ {ss : List Sl} {vs : List V}, ArgsOk K H0 O H ss vs → vs.length = ss.length
  | [], _, h => by rw [show _ = _ from h] <;> rfl
  | _ :: _, _, ⟨_, _, h1, _, h3⟩ => by rw [h1, List.length_cons, List.length_cons, ArgsOk.len h3]
theorem ArgsOk.at : ∀ {ss : List Sl} {vs : List V} {i : Nat} {s : Sl} {x : Option V}, ArgsOk K H0 O H ss vs → ss[i]? = some s → (vs.map some)[i]? = some x → ∃ v, x = some v ∧ SlOk K H0 O H s (some v)
  | [], _, _, _, _, _, e, _ => by simp at e
  | _ :: _, _, 0, _, _, ⟨v, _, h1, h2, _⟩, e, f => by
    subst h1
    have e1 := Option.some.inj e
    have e2 := Option.some.inj f
    subst e1
    exact ⟨v, e2.symm, h2⟩
  | _ :: _, _, i + 1, _, _, ⟨_, us, h1, _, h3⟩, e, f => by
    subst h1
    exact ArgsOk.at (i := i) h3 e f
/-- the callee's view of its arguments -/
theorem WfO.callee (W : WfO K H0 Oc O G S H) (ok : ArgsOk K H0 O H ss vs) : Wf K H O (ss.map Sl.arg) (vs.map some) H := by
  refine ⟨O, fun a z => z, fun a z => .inl z, W.live, W.live, fun _ _ z => z, by rw [List.length_map, List.length_map, ok.len], fun i s x h1 h2 => ?_, fun i j p d d' h1 _ _ _ => (arg_not h1).elim⟩
  rw [List.getElem?_map] at h1
  cases q : ss[i]? with
  | none => rw [q] at h1; cases h1
  | some s' =>
    rw [q] at h1
    cases h1
    obtain ⟨v, rfl, h⟩ := ok.at q h2
    exact h.arg W.ex
theorem cut_own2 {O2 : List Addr} (hn : ∀ a ∈ O2, a ∈ O ∨ H a = none) (e : Ex H H') : Ex (cut H O) (cut H' O2) := fun a o h => by
  obtain ⟨h1, h2⟩ := cut_iff.mp h
  refine cut_iff.mpr ⟨e _ _ h1, h2.imp (fun n z => ?_) id⟩
  rcases hn a z with q | q
  · exact n q
  · rw [q] at h1; cases h1
theorem SlOk.later {O2 : List Addr} {x : Option V} (sub : ∀ a ∈ O, a ∈ O2) (hn : ∀ a ∈ O2, a ∈ O ∨ H a = none) (e : Ex H H') : ∀ {s : Sl}, SlOk K H0 O H s x → SlOk K H0 O2 H' s x
  | .no, _ => trivial
  | .va _, ⟨v, h1, h2⟩ => ⟨v, h1, Rep.mono (cut_own2 hn e) h2⟩
  | .ow _, ⟨q, o, h1, h2, h3, h4, h5⟩ => ⟨q, o, h1, sub _ h2, h3, e _ _ h4, RepH.mono (cut_own2 hn e) h5⟩
  | .br _, ⟨v, h1, h2⟩ => ⟨v, h1, RepB.mono (fun _ _ z => z) (cut_own2 hn e) h2⟩
  | .bw _, ⟨v, h1, h2⟩ => ⟨v, h1, RepB.mono e (cut_own2 hn e) h2⟩
/-- behind a call -/
theorem WfO.after (W : WfO K H0 Oc O G S H) (W2 : Wf K H O [s] [some v] H') (hs : s.res = true) : Wf K H0 Oc (s :: G) (some v :: S) H' := by
  obtain ⟨O2, W2⟩ := W2
  have e := W2.ex
  have h0 : ∀ {p}, H p = none → H0 p = none := fun {p} z => by
    cases q : H0 p with
    | none => rfl
    | some u => rw [W.ex _ _ q] at z; cases z
  refine ⟨O2, fun a z => W2.sub a (W.sub a z), fun a z => (W2.new a z).elim (W.new a) fun q => .inr (h0 q), W.old, W2.live, Ex.tr W.ex e, by simp [W.len], fun i s' x h1 h2 => ?_, ?_⟩
  · cases i with
    | zero =>
      have e1 := Option.some.inj h1
      have e2 := Option.some.inj h2
      subst e1
      subst e2
      have hh := W2.head
      cases s with
      | no => trivial
      | va d => exact hh
      | ow d =>
        obtain ⟨p, o, q1, q2, q3, q4, q5⟩ := hh
        exact ⟨p, o, q1, q2, h0 q3, q4, q5⟩
      | br d => exact absurd hs Bool.false_ne_true
      | bw d => exact absurd hs Bool.false_ne_true
    | succ i => exact (W.ok i s' x h1 h2).later W2.sub W2.new e
  · have newer : ∀ {p : Addr} {d : D}, some s = some (.ow d) → some (some v) = some (some (V.ref p)) → ∀ {i : Nat} {d' : D}, G[i]? = some (.ow d') → S[i]? = some (some (.ref p)) → False := fun {p d} a b {i d'} h1 h2 => by
      cases a
      cases b
      obtain ⟨_, z, _⟩ := W2.owner (i := 0) rfl rfl
      obtain ⟨_, _, o, z', _⟩ := W.owner h1 h2
      rw [z] at z'
      cases z'
    intro i j p d d' h1 h2 h3 h4
    cases i with
    | zero =>
      cases j with
      | zero => rfl
      | succ j => exact (newer h1 h2 h3 h4).elim
    | succ i =>
      cases j with
      | zero => exact (newer h3 h4 h1 h2).elim
      | succ j => exact congrArg Nat.succ (W.nd i j p d d' h1 h2 h3 h4)
end

theorem WfO.making {K : PySem.W.Frag} {H1 : Hp} {O : List Addr} {G : List Sl} {S : List (Option V)} {C y dx : Addr} (W : Wf K H1 O G S H1) (ny : H1 y = none) (ndx : H1 dx = none) (ne : dx ≠ y) :
    Wf K H1 O (.ow (.obj C [] []) :: G) (some (.ref y) :: S) (upd (upd H1 dx (.own y)) y (.ins C dx [])) := by
  obtain ⟨O', W⟩ := W
  exact ⟨_, W.pushOw (Ex.tr (Ex.new ndx) (Ex.new ((upd_ne (Ne.symm ne)).trans ny))) ny upd_same ⟨rfl, rfl, rfl⟩⟩
section
variable {X : Cx} {H0 : Hp} {Oc : List Addr} {Γ : List Sl} {e a b c o : Expr} {es : List Expr} {s s0 s1 s2 : Sl} {ss : List Sl} {d d1 d2 : D} {ds ds1 ds2 : List D} {i j : Int} {pos p2 p apos : Pos} {x m : Str} {k : Nat} {ps : List Str} {P : Pm} {C : Addr} {ns : List Str}
theorem passLN {X : Cx} : Passes (L2N.CX X.prog X.w) X E0 := fun _ _ _ _ _ _ _ c => by
  obtain ⟨_, _, _, _, _, _, _, _, _, _, _, _, z⟩ := c
  exact z.elim
/-- the same, the argument list pushed below what stands -/
theorem ev_call (F : FnG X.prog X.w X.K X.mg X.base x k ps P) (hr : Room k X.A) (ha : Ea X H0 Oc Γ (e :: es) ss) (hp : P (ss.map Sl.arg) (.ret s)) (hs : s.res = true := by rfl) (hg : Gl X x := by rfl) (hdb : (x == ("__debug__" : Str)) = false := by decide)
    (he : starEach (e :: es) X.env = (false, eval e X.env) :: starEach es X.env := by rfl) (hpl : (backTo pos (starEach es X.env)).any (·.1) = false := by rfl) : Ev X H0 Oc Γ (.Call (.Name x p) (e :: es) [] pos) s := fun Δ τ σ H Q hl W q => by
  obtain ⟨f, fd, F, hm, hk, hb⟩ := F.ex
  refine wpE.of (pe_call (E := E0) F hr hg hm hk hb .nil passLN pa_wp hdb he hpl) ?_
  refine ha Δ τ σ H _ hl W fun vs O H1 W1 ok => ?_
  rw [List.append_nil]
  exact ⟨O, _, _, hp, W1.callee ok, fun v H' W2 => q v H' (W1.after W2 hs)⟩
theorem ev_meth {pl : Sem Bool} (c : Cls X.K C) (F : MtG X.prog X.w X.K X.mg X.base C m k ps P) (hr : Room k X.A) (ho : Ev X H0 Oc Γ o s0) (hd : s0.dat = some (.obj C ns ds)) (hn : m ∉ ns) (ha : Ea X H0 Oc Γ (e :: es) ss) (hp : P (s0.arg :: ss.map Sl.arg) (.ret s)) (hs : s.res = true := by rfl)
    (hst : starEach (e :: es) X.env = (false, eval e X.env) :: starEach es X.env := by rfl) (hpl : (backTo pos (starEach es X.env)).any (·.1) = false := by rfl)
    (ht : eval (.Call (.Attribute o m apos) (e :: es) [] pos) X.env = (do
      let ov ← eval o X.env
      standAt apos.atName
      let (f, first) ← holding [ov] (getMethod ov m pl)
      callWith pos f first (backTo pos (starEach (e :: es) X.env)) (backToKw pos (keywordEach [] X.env))) := by rfl) : Ev X H0 Oc Γ (.Call (.Attribute o m apos) (e :: es) [] pos) s := fun Δ τ σ H Q hl W q => by
  obtain ⟨f, fd, F, hm, hb⟩ := F.ex
  refine wpE.of (pe_meth (pl := pl) (E := E0) pe_wp c hm F hr hb .nil passLN pa_wp hst hpl ht) ?_
  refine ho Δ τ σ H _ hl W fun v H1 W1 => ?_
  obtain ⟨O1, W1'⟩ := id W1
  obtain ⟨r, dx, fs, rfl, h2, h3, h4⟩ := (W1'.head.b W1'.ex hd : RepB _ _ _ (.obj C ns ds) v)
  refine ⟨r, dx, fs, rfl, h2, ?_, ?_⟩
  · cases q : fs.lookup m with
    | none => rfl
    | some z =>
      refine absurd ?_ hn
      rw [← h3]
      exact List.mem_map_of_mem (f := (·.1)) (PySem.mem_of_lookup q)
  · refine ha (s0 :: Δ) (some (.ref r) :: τ) σ H1 _ (by simp [hl]) W1 fun vs O H2 W2 ok => ?_
    rw [List.append_nil]
    exact ⟨O, s0.arg :: ss.map Sl.arg, _, hp, W2.callee (ss := s0 :: ss) (vs := .ref r :: vs) ⟨_, _, rfl, W2.head, ok⟩, fun v H' W3 => q v H' (W2.pop.after W3 hs)⟩
theorem ev_meth0 {pl : Sem Bool} (c : Cls X.K C) (F : MtG X.prog X.w X.K X.mg X.base C m k ps P) (hr : Room k X.A) (ho : Ev X H0 Oc Γ o s0) (hd : s0.dat = some (.obj C ns ds)) (hn : m ∉ ns) (hp : P [s0.arg] (.ret s)) (hs : s.res = true := by rfl)
    (ht : eval (.Call (.Attribute o m apos) [] [] pos) X.env = (do
      let ov ← eval o X.env
      standAt apos.atName
      let (f, first) ← holding [ov] (getMethod ov m pl)
      callWith pos f first (backTo pos (starEach [] X.env)) (backToKw pos (keywordEach [] X.env))) := by rfl) : Ev X H0 Oc Γ (.Call (.Attribute o m apos) [] [] pos) s := fun Δ τ σ H Q hl W q => by
  obtain ⟨f, fd, F, hm, hb⟩ := F.ex
  refine wpE.of (pe_meth0 (pl := pl) (E := E0) pe_wp c hm F hr hb .nil passLN ht) ?_
  refine ho Δ τ σ H _ hl W fun v H1 ⟨O1, W1'⟩ => ?_
  obtain ⟨r, dx, fs, rfl, h2, h3, h4⟩ := (W1'.head.b W1'.ex hd : RepB _ _ _ (.obj C ns ds) v)
  refine ⟨r, dx, fs, rfl, h2, ?_, ?_⟩
  · cases q : fs.lookup m with
    | none => rfl
    | some z =>
      refine absurd ?_ hn
      rw [← h3]
      exact List.mem_map_of_mem (f := (·.1)) (PySem.mem_of_lookup q)
  · exact ⟨O1, [s0.arg], _, hp, W1'.callee (ss := [s0]) (vs := [.ref r]) ⟨_, _, rfl, W1'.head, rfl⟩, fun v H' W3 => q v H' (W1'.pop.after W3 hs)⟩
theorem ev_prop (c : Cls X.K C) (F : PrG X.prog X.w X.K X.mg X.base C m k ps P) (hr : Room (k + 1) X.A) (ho : Ev X H0 Oc Γ o s0) (hd : s0.dat = some (.obj C ns ds)) (hp : P [s0.arg] (.ret s)) (hs : s.res = true := by rfl)
    (hab : attributeBase o m X.env (eval o X.env) = eval o X.env := by rfl) : Ev X H0 Oc Γ (.Attribute o m pos) s := fun Δ τ σ H Q hl W q => by
  obtain ⟨p, f, fd, F, hm, hb⟩ := F.ex
  refine wpE.of (pe_prop (E := E0) pe_wp c hm F hr hb .nil (by exact passLN) hab) ?_
  refine ho Δ τ σ H _ hl W fun v H1 ⟨O1, W1'⟩ => ?_
  obtain ⟨r, dx, fs, rfl, h2, h3, h4⟩ := (W1'.head.b W1'.ex hd : RepB _ _ _ (.obj C ns ds) v)
  exact ⟨r, dx, fs, rfl, h2, O1, [s0.arg], _, hp, W1'.callee (ss := [s0]) (vs := [.ref r]) ⟨_, _, rfl, W1'.head, rfl⟩, fun v H' W3 => q v H' (W1'.pop.after W3 hs)⟩
/-- a field of an instance -/
theorem Reps.look {K : PySem.W.Frag} {H : Hp} : ∀ {fs : List (Str × V)} {ds : List D} {f : Str} {d : D}, Reps K H ds (fs.map (·.2)) → ((fs.map (·.1)).zip ds).lookup f = some d → ∃ v, fs.lookup f = some v ∧ Rep K H d v
  | [], [], _, _, _, h => by simp at h
  | [], _ :: _, _, _, _, h => by simp at h
  | _ :: _, [], _, _, _, h => by simp at h
  | (g, w) :: fs, d' :: ds, f, d, ⟨v, us, h1, h2, h3⟩, h => by
    have e1 := (List.cons.inj h1).1
    have e2 := (List.cons.inj h1).2
    simp only [List.map_cons, List.zip_cons_cons, List.lookup_cons] at h ⊢
    cases q : f == g with
    | true =>
      rw [q] at h
      have h' := Option.some.inj h
      subst h'
      exact ⟨w, by simp, by rw [show w = v from e1]; exact h2⟩
    | false =>
      rw [q] at h
      simp only [q]
      exact Reps.look (by rw [show fs.map (·.2) = us from e2]; exact h3) h
theorem ev_fld {f : Str} (c : Cls X.K C) (n : NoAttr X.K C f) (ha : Ev X H0 Oc Γ a (.bw (.obj C ns ds))) (hi : (ns.zip ds).lookup f = some d) (hab : attributeBase a f X.env (eval a X.env) = eval a X.env := by rfl) : Ev X H0 Oc Γ (.Attribute a f pos) (.va d) := fun Δ τ σ H Q hl W q =>
  wpE.of (pe_fld pe_wp hab) (ha Δ τ σ H _ hl W fun v H' ⟨O, W'⟩ => by
    obtain ⟨u, g1, r, dx, fs, rfl, h2, h3, h4⟩ := W'.head
    cases g1
    subst h3
    obtain ⟨z, hz, rz⟩ := h4.look hi
    exact ⟨r, C, dx, fs, z, rfl, h2, c, n, hz, q z H' ⟨O, W'.pop.push ⟨z, rfl, rz⟩ fun _ z => nomatch z⟩⟩)
/-- C(e, ..) -/
theorem ev_make (F : ClG X.prog X.w X.K X.mg X.base x C k ps P) (hr : Room (k + 1) X.A) (ha : Ea X H0 Oc Γ (e :: es) ss) (hp : P (ss.map Sl.arg) (.ret (.ow d))) (hg : Gl X x := by rfl) (hdb : (x == ("__debug__" : Str)) = false := by decide)
    (he : starEach (e :: es) X.env = (false, eval e X.env) :: starEach es X.env := by rfl) (hpl : (backTo pos (starEach es X.env)).any (·.1) = false := by rfl) : Ev X H0 Oc Γ (.Call (.Name x p) (e :: es) [] pos) (.ow d) := fun Δ τ σ H Q hl W q => by
  obtain ⟨f, fd, F, hM, hm, hb⟩ := F.ex
  refine wpE.of (pe_make (E := E0) hM F hr hg hm hb .nil passLN pa_wp hdb he hpl) ?_
  refine ha Δ τ σ H _ hl W fun vs O H1 W1 ok => ?_
  intro y dx ny ndx ne
  rw [List.append_nil]
  exact ⟨H1, O, _, _, _, _, hp, rfl, WfO.making (W1.callee ok) ny ndx ne, fun H' W2 => ⟨rfl, q _ H' (W1.after W2 rfl)⟩⟩
/-! ### what leaves an expression: an exception -/
def Exx (X : Cx) (W : WX) (H0 : Hp) (Oc : List Addr) (Γ : List Sl) (e : Expr) (C : Addr) (ns : List Str) (ds : List D) : Prop := ∀ (Δ : List Sl) (τ : List (Option V)) (σ : L2.St) (H : Hp) (Q : VK), τ.length = Δ.length → Wf X.K H0 Oc (Δ ++ Γ) (τ ++ σ) H →
  (∀ d H', Wf X.K H0 Oc (.va (.xd ns ds) :: (Δ ++ Γ)) (some (.ref d) :: (τ ++ σ)) H' → W (.ref C) (some d) σ H') → wpE X e σ H Q
theorem Wf.only {K : PySem.W.Frag} {G : List Sl} {S : List (Option V)} {H : Hp} {y : Option V} (W : Wf K H0 Oc (s :: G) (y :: S) H) : Wf K H0 Oc [s] [y] H := by
  obtain ⟨O, W⟩ := W
  refine ⟨O, W.sub, W.new, W.old, W.live, W.ex, rfl, fun i s' x h1 h2 => ?_, ?_⟩
  · cases i with
    | zero => exact W.ok 0 s' x h1 h2
    | succ i => simp at h1
  · intro i j p d d' h1 h2 h3 h4
    cases i with
    | zero =>
      cases j with
      | zero => rfl
      | succ j => simp at h3
    | succ i => simp at h1
theorem exx_call {W : WX} {C : Addr} {ns : List Str} {ds : List D} (tk : L2N.Takes X W) (F : FnG X.prog X.w X.K X.mg X.base x k ps P) (hr : Room k X.A) (ha : Ea X H0 Oc Γ (e :: es) ss) {Γe : Option (List Sl)} (hp : P (ss.map Sl.arg) (.exc C ns ds Γe)) (hg : Gl X x := by rfl) (hdb : (x == ("__debug__" : Str)) = false := by decide)
    (he : starEach (e :: es) X.env = (false, eval e X.env) :: starEach es X.env := by rfl) (hpl : (backTo pos (starEach es X.env)).any (·.1) = false := by rfl) : Exx X W H0 Oc Γ (.Call (.Name x p) (e :: es) [] pos) C ns ds := fun Δ τ σ H Q hl W' q => by
  obtain ⟨f, fd, F, hm, hk, hb⟩ := F.ex
  refine wpE.of (pe_callS (E := WE W) F hr hg hm hk hb (fun σ => L2N.passAt tk σ) pa_wp hdb he hpl) ?_
  refine ha Δ τ σ H _ hl W' fun vs O H1 W1 ok => ?_
  exact ⟨O, _, _, hp, W1.callee ok, fun d H' W2 => q d H' (W1.after W2 rfl)⟩
end
end Y

namespace Y
open PySem L2

/-! ## statements -/
def stab (G : List Sl) : Bool := G.all fun s => match s with | .bw _ => false | _ => true
def xWf (K : PySem.W.Frag) (H0 : Hp) (Oc : List Addr) (Δ : List Sl) (τ : List (Option V)) (ns : List Str) (ds : List D) (d : Addr) (σ : L2.St) (H : Hp) : Option (List Sl) → Prop
  | none => Wf K H0 Oc [.va (.xd ns ds)] [some (.ref d)] H
  | some Γ => Wf K H0 Oc (.va (.xd ns ds) :: (Δ ++ Γ)) (some (.ref d) :: (τ ++ σ)) H
section
variable (X : Cx) (W : WX) (H0 : Hp) (Oc : List Addr)
def Sat (Δ : List Sl) (τ : List (Option V)) (D : Ends) : Out → Prop
  | .nx Γ => ∀ σ H, Wf X.K H0 Oc (Δ ++ Γ) (τ ++ σ) H → D.nx σ H
  | .brk Γ => ∀ σ H, Wf X.K H0 Oc (Δ ++ Γ) (τ ++ σ) H → D.bk σ H
  | .cnt Γ => ∀ σ H, Wf X.K H0 Oc (Δ ++ Γ) (τ ++ σ) H → D.ct σ H
  | .ret s => ∀ v H, Wf X.K H0 Oc [s] [some v] H → D.rt v H
  | .exc C ns ds Γe => ∀ d σ H, xWf X.K H0 Oc Δ τ ns ds d σ H Γe → W (.ref C) (some d) σ H
def Sds (Γ : List Sl) (st : List Stmt) (o : Out) : Prop := ∀ (Δ : List Sl) (τ : List (Option V)) (σ : L2.St) (H : Hp) (D : Ends), τ.length = Δ.length → stab Δ = true → Wf X.K H0 Oc (Δ ++ Γ) (τ ++ σ) H → Sat X W H0 Oc Δ τ D o → wpSs X st D σ H
/-- a value is assigned to a target -/
def wpG (X : Cx) (tg : Expr) : TG := fun v σ H Q => ∀ (pins : List (Addr × Obj)) (s : Shared) (u : Value), Inv X pins σ H s → RelV v u → wpAny (model X.prog X.w) X.A (assign tg X.env u) (fun _ s' => ∃ σ' H', Inv X pins σ' H' s' ∧ Q σ' H') X.xe s
def Tg (tg : Expr) (Γ : List Sl) (s : Sl) (Γ' : List Sl) : Prop := ∀ (Δ : List Sl) (τ : List (Option V)) (σ : L2.St) (H : Hp) (v : V) (Q : L2.St → Hp → Prop), τ.length = Δ.length → stab Δ = true → Wf X.K H0 Oc (s :: (Δ ++ Γ)) (some v :: (τ ++ σ)) H →
  (∀ σ' H', Wf X.K H0 Oc (Δ ++ Γ') (τ ++ σ') H' → Q σ' H') → wpG X tg v σ H Q
end
theorem pg_wp {X : Cx} {tg : Expr} : PG X tg (wpG X tg) := ⟨fun pins s σ H v u Q I r h => h pins s u I r⟩
theorem wpG.of {X : Cx} {tg : Expr} {g : TG} {v : V} {σ : L2.St} {H : Hp} {Q : L2.St → Hp → Prop} (h : PG X tg g) (q : g v σ H Q) : wpG X tg v σ H Q := fun pins s u I r => h.run pins s σ H v u Q I r q
def Out.exit : Out → Bool
  | .nx _ => false
  | _ => true
/-- less is known -/
inductive Sub : List Sl → List Sl → Prop where
  | nil : Sub [] []
  | no {s : Sl} {G G' : List Sl} : Sub G G' → Sub (s :: G) (.no :: G')
  | eq {s : Sl} {G G' : List Sl} : Sub G G' → Sub (s :: G) (s :: G')
theorem Sub.refl : ∀ {G : List Sl}, Sub G G
  | [] => .nil
  | _ :: _ => .eq Sub.refl
theorem Sub.len : ∀ {G G' : List Sl}, Sub G G' → G.length = G'.length
  | _, _, .nil => rfl
  | _, _, .no h => congrArg Nat.succ h.len
  | _, _, .eq h => congrArg Nat.succ h.len
theorem Sub.at : ∀ {G G' : List Sl} {i : Nat} {s : Sl}, Sub G G' → G'[i]? = some s → s = .no ∨ G[i]? = some s
  | _, _, _, _, .nil, h => by simp at h
  | _, _, 0, _, .no _, h => .inl (Option.some.inj h).symm
  | _, _, 0, _, .eq _, h => .inr h
  | _, _, i + 1, _, .no z, h => Sub.at (i := i) z h
  | _, _, i + 1, _, .eq z, h => Sub.at (i := i) z h
theorem Sub.app : ∀ {Δ G G' : List Sl}, Sub G G' → Sub (Δ ++ G) (Δ ++ G')
  | [], _, _, h => h
  | _ :: _, _, _, h => .eq (Sub.app h)
section
variable {K : PySem.W.Frag} {H0 H : Hp} {O Oc : List Addr} {G G' Δ Γ Γ' : List Sl} {S : List (Option V)} {s : Sl}
theorem Wf.sub (W : Wf K H0 Oc G S H) (h : Sub G G') : Wf K H0 Oc G' S H := by
  obtain ⟨O, W⟩ := W
  refine ⟨O, W.sub, W.new, W.old, W.live, W.ex, W.len.trans h.len, fun i s x h1 h2 => ?_, fun i j p d d' h1 h2 h3 h4 => ?_⟩
  · rcases h.at h1 with e | e
    · rw [e]; trivial
    · exact W.ok i s x e h2
  · rcases h.at h1 with e | e
    · exact nomatch e
    · rcases h.at h3 with e' | e'
      · exact nomatch e'
      · exact W.nd i j p d d' e h2 e' h4
/-- a name is bound to the value on top -/
theorem WfO.set {v : V} {n : Nat} {τ : List (Option V)} {σ : L2.St} (hl : τ.length = Δ.length) (W : WfO K H0 Oc O (s :: (Δ ++ Γ)) (some v :: (τ ++ σ)) H) : WfO K H0 Oc O (Δ ++ Γ.set n s) (τ ++ σ.set n (some v)) H := by
  have hlen : σ.length = Γ.length := by
    have := W.len
    simp only [List.length_cons, List.length_append] at this
    omega
  have old : ∀ i, i ≠ Δ.length + n → (Δ ++ Γ.set n s)[i]? = (Δ ++ Γ)[i]? ∧ (τ ++ σ.set n (some v))[i]? = (τ ++ σ)[i]? := fun i hi => by
    by_cases h : i < Δ.length
    · rw [List.getElem?_append_left h, List.getElem?_append_left h, List.getElem?_append_left (by omega), List.getElem?_append_left (by omega)]
      exact ⟨rfl, rfl⟩
    · rw [List.getElem?_append_right (by omega), List.getElem?_append_right (by omega), List.getElem?_append_right (by omega), List.getElem?_append_right (by omega), List.getElem?_set_ne (by omega), List.getElem?_set_ne (by omega)]
      exact ⟨rfl, rfl⟩
  have new : ∀ i s' x, i = Δ.length + n → (Δ ++ Γ.set n s)[i]? = some s' → (τ ++ σ.set n (some v))[i]? = some x → s' = s ∧ x = some v := fun i s' x hi h1 h2 => by
    subst hi
    rw [List.getElem?_append_right (by omega)] at h1
    rw [List.getElem?_append_right (by omega), hl] at h2
    have e : Δ.length + n - Δ.length = n := by omega
    rw [e] at h1 h2
    have hn : n < Γ.length := by
      have := (List.getElem?_eq_some_iff.mp h1).1
      simpa using this
    rw [List.getElem?_set_self hn] at h1
    rw [List.getElem?_set_self (by omega)] at h2
    exact ⟨(Option.some.inj h1).symm, (Option.some.inj h2).symm⟩
  refine ⟨W.sub, W.new, W.old, W.live, W.ex, by simp [hl, hlen], fun i s' x h1 h2 => ?_, fun i j p d d' h1 h2 h3 h4 => ?_⟩
  · by_cases hi : i = Δ.length + n
    · obtain ⟨e1, e2⟩ := new i s' x hi h1 h2
      rw [e1, e2]
      exact W.head
    · obtain ⟨e1, e2⟩ := old i hi
      exact W.ok (i + 1) s' x (e1 ▸ h1) (e2 ▸ h2)
  · by_cases hi : i = Δ.length + n
    · obtain ⟨e1, e2⟩ := new i _ _ hi h1 h2
      by_cases hj : j = Δ.length + n
      · omega
      · obtain ⟨f1, f2⟩ := old j hj
        have := W.nd 0 (j + 1) p d d' (by rw [e1]; rfl) (by rw [e2]; rfl) (f1 ▸ h3) (f2 ▸ h4)
        omega
    · obtain ⟨e1, e2⟩ := old i hi
      by_cases hj : j = Δ.length + n
      · obtain ⟨f1, f2⟩ := new j _ _ hj h3 h4
        have := W.nd (i + 1) 0 p d d' (e1 ▸ h1) (e2 ▸ h2) (by rw [f1]; rfl) (by rw [f2]; rfl)
        omega
      · obtain ⟨f1, f2⟩ := old j hj
        exact Nat.succ.inj (W.nd (i + 1) (j + 1) p d d' (e1 ▸ h1) (e2 ▸ h2) (f1 ▸ h3) (f2 ▸ h4))
/-- an own object is changed -/
theorem WfO.mut {i : Nat} {p : Addr} {d d' : D} {o' : HO} (W : WfO K H0 Oc O G S H) (hb : stab G = true) (h1 : G[i]? = some (.ow d)) (h2 : S[i]? = some (some (.ref p))) (ho : RepH K (cut H O) d' p o') : WfO K H0 Oc O (G.set i (.ow d')) S (upd H p o') := by
  obtain ⟨hO, h0, o, hp, hr⟩ := W.owner h1 h2
  have hi : i < G.length := (List.getElem?_eq_some_iff.mp h1).1
  have nt : ∀ vs, H p ≠ some (.tup vs) := fun vs z => by
    rw [hp] at z
    exact hr.ntup vs (Option.some.inj z)
  refine ⟨W.sub, W.new, W.old, fun a z q => ?_, fun a u z => ?_, by simpa using W.len, fun j s x h3 h4 => ?_, fun j k q d1 d2 h3 h4 h5 h6 => ?_⟩
  · by_cases e : a = p
    · rw [e, upd_same] at q; cases q
    · rw [upd_ne e] at q; exact W.live a z q
  · rw [upd_ne (ne_of_none z h0)]
    exact W.ex a u z
  · by_cases e : j = i
    · subst e
      rw [List.getElem?_set_self hi] at h3
      cases h3
      rw [h2] at h4
      cases h4
      exact ⟨p, o', rfl, hO, h0, upd_same, by rw [cut_upd hO nt ho.ntup]; exact ho⟩
    · rw [List.getElem?_set_ne (Ne.symm e)] at h3
      have ok := W.ok j s x h3 h4
      cases s with
      | no => trivial
      | va d => obtain ⟨v, g1, g2⟩ := ok; exact ⟨v, g1, by rw [cut_upd hO nt ho.ntup]; exact g2⟩
      | br d => obtain ⟨v, g1, g2⟩ := ok; exact ⟨v, g1, by rw [cut_upd hO nt ho.ntup]; exact g2⟩
      | bw d =>
        have := List.all_eq_true.mp hb _ (List.mem_of_getElem? h3)
        exact absurd this Bool.false_ne_true
      | ow d1 =>
        obtain ⟨q, o1, g1, g2, g3, g4, g5⟩ := ok
        subst g1
        have hne : q ≠ p := fun z => by
          subst z
          exact e (W.nd j i q d1 d h3 h4 h1 h2)
        exact ⟨q, o1, rfl, g2, g3, (upd_ne hne).trans g4, by rw [cut_upd hO nt ho.ntup]; exact g5⟩
  · have key : ∀ {j : Nat} {d1 : D}, (G.set i (.ow d'))[j]? = some (.ow d1) → ∃ d2, G[j]? = some (.ow d2) := fun {j d1} h => by
      by_cases e : j = i
      · exact ⟨d, by rw [e]; exact h1⟩
      · rw [List.getElem?_set_ne (Ne.symm e)] at h
        exact ⟨d1, h⟩
    obtain ⟨e1, g1⟩ := key h3
    obtain ⟨e2, g2⟩ := key h5
    exact W.nd j k q e1 e2 g1 h4 g2 h6
theorem stab_app : stab (Δ ++ Γ) = (stab Δ && stab Γ) := by unfold stab; rw [List.all_append]
theorem stab_cons : stab (s :: Γ) = (stab [s] && stab Γ) := stab_app (Δ := [s])
/-- .. one that a name holds -/
theorem WfO.mutN {n : Nat} {p : Addr} {d d' : D} {o' : HO} {τ : List (Option V)} {σ : L2.St} (hl : τ.length = Δ.length) (W : WfO K H0 Oc O (Δ ++ Γ) (τ ++ σ) H) (hΔ : stab Δ = true) (hΓ : stab Γ = true) (h1 : Γ[n]? = some (.ow d)) (h2 : σ[n]? = some (some (.ref p))) (ho : RepH K (cut H O) d' p o') :
    WfO K H0 Oc O (Δ ++ Γ.set n (.ow d')) (τ ++ σ) (upd H p o') := by
  have e1 : (Δ ++ Γ)[Δ.length + n]? = some (.ow d) := by
    rw [List.getElem?_append_right (by omega)]
    simpa using h1
  have e2 : (τ ++ σ)[Δ.length + n]? = some (some (.ref p)) := by
    rw [List.getElem?_append_right (by omega)]
    have : Δ.length + n - τ.length = n := by omega
    rw [this]
    exact h2
  have := W.mut (by rw [stab_app, hΔ, hΓ]; rfl) e1 e2 ho
  rw [List.set_append_right _ _ (by omega)] at this
  simpa using this
end
section
variable {X : Cx} {W : WX} {H0 : Hp} {Oc : List Addr} {Γ Γ1 Γ' : List Sl} {e a b c o : Expr} {es : List Expr} {rest body els : List Stmt} {s s0 s1 s2 : Sl} {ss : List Sl} {d d1 d2 : D} {ds ds1 ds2 : List D} {i j : Int} {pos p2 p apos : Pos} {x m : Str} {out o1 : Out} {n : Nat} {q : Bool}
theorem sds_nil : Sds X W H0 Oc Γ [] (.nx Γ) := fun Δ τ σ H D hl hs w k => wpSs.of pss_nil (k σ H w)
theorem sds_sub (h : Sds X W H0 Oc Γ1 rest out) (hs : Sub Γ Γ1) : Sds X W H0 Oc Γ rest out := fun Δ τ σ H D hl st w k => h Δ τ σ H D hl st (w.sub hs.app) k
/-- an own object that nobody changes any more -/
theorem sds_freeze (n : Nat) (h : Γ[n]? = some (.ow d)) (k : Sds X W H0 Oc (Γ.set n (.va d)) rest out) : Sds X W H0 Oc Γ rest out := fun Δ τ σ H D hl st w kk => by
  refine k Δ τ σ H D hl st ?_ kk
  obtain ⟨O, w⟩ := w
  obtain ⟨y, hy, p, o, rfl, h2, h3, h4, h5⟩ := slot_of hl w h
  have hn : n < Γ.length := (List.getElem?_eq_some_iff.mp h).1
  have e1 : (Δ ++ Γ)[Δ.length + n]? = some (.ow d) := by
    rw [List.getElem?_append_right (by omega)]
    simpa using h
  have e2 : (τ ++ σ)[Δ.length + n]? = some (some (.ref p)) := by
    rw [List.getElem?_append_right (by omega)]
    have : Δ.length + n - τ.length = n := by omega
    rw [this]
    exact hy
  have sub : ∀ a ∈ O.filter (· ≠ p), a ∈ O := fun a z => (List.mem_filter.mp z).1
  have npc : p ∉ Oc := fun z => w.old p z h3
  have key : ∀ j s', (Δ ++ Γ.set n (.va d))[j]? = some s' → (j = Δ.length + n ∧ s' = .va d) ∨ (j ≠ Δ.length + n ∧ (Δ ++ Γ)[j]? = some s') := fun j s' g => by
    have g' : ((Δ ++ Γ).set (Δ.length + n) (.va d))[j]? = some s' := by
      rw [List.set_append_right _ _ (by omega)]
      simpa using g
    by_cases ej : j = Δ.length + n
    · subst ej
      rw [List.getElem?_set_self (by simp; omega)] at g'
      exact .inl ⟨rfl, (Option.some.inj g').symm⟩
    · rw [List.getElem?_set_ne (Ne.symm ej)] at g'
      exact .inr ⟨ej, g'⟩
  refine ⟨O.filter (· ≠ p), fun a z => List.mem_filter.mpr ⟨w.sub a z, by simpa using fun q : a = p => npc (q ▸ z)⟩, fun a z => w.new a (sub a z), w.old, fun a z => w.live a (sub a z), w.ex, by simpa using w.len, fun j s' x g1 g2 => ?_, fun j k q d1 d2 g1 g2 g3 g4 => ?_⟩
  · rcases key j s' g1 with ⟨ej, es⟩ | ⟨ej, g1'⟩
    · subst ej
      subst es
      rw [e2] at g2
      cases g2
      refine ⟨.ref p, rfl, RepH.rep (RepH.mono (cut_sub sub) h5) ?_⟩
      rw [cut_out (by simp)]
      exact h4
    · refine SlOk.less (fun d' hs hx => ?_) (w.ok j s' x g1' g2)
      subst hs
      exact ej (w.nd j (Δ.length + n) p d' d g1' (hx ▸ g2) e1 e2)
  · rcases key j _ g1 with ⟨_, es⟩ | ⟨_, g1'⟩
    · exact nomatch es
    · rcases key k _ g3 with ⟨_, es⟩ | ⟨_, g3'⟩
      · exact nomatch es
      · exact w.nd j k q d1 d2 g1' g2 g3' g4
theorem tg_name {pos' : Pos} (n : Nat) (hN : X.N.Nodup) (hi : X.N[n]? = some x) (hx : Loc X.env.scope x) (hf : X.fn x = true ∨ X.env.scope.names.lookup x = some .local) : Tg X H0 Oc (.Name x pos') Γ s (Γ.set n s) :=
  fun Δ τ σ H v Q hl st ⟨O, w⟩ k => wpG.of (pg_name hN hi hx hf) (k _ H ⟨O, w.set hl⟩)
theorem sds_set {pos' : Pos} (n : Nat) (he : Ev X H0 Oc Γ e s) (hr : Sds X W H0 Oc (Γ.set n s) rest out) (hN : X.N.Nodup) (hi : X.N[n]? = some x) (hx : Loc X.env.scope x) (hs : swapsWith e (some (.Name x pos')) pos.line X.env = pure false) (hf : X.fn x = true ∨ X.env.scope.names.lookup x = some .local) :
    Sds X W H0 Oc Γ (.Assign [.Name x pos'] e pos :: rest) out := fun Δ τ σ H D hl st w k =>
  wpSs.of (pss_cons (ps_set hN hi hx pe_wp hs hf) pss_wp) (he Δ τ σ H _ hl w fun v H1 ⟨O, w1⟩ => hr Δ τ _ H1 D hl st ⟨O, w1.set hl⟩ k)
theorem sds_ret (he : Ev X H0 Oc Γ e s) : Sds X W H0 Oc Γ (.Return (some e) pos :: rest) (.ret s) := fun Δ τ σ H D hl st w k =>
  wpSs.of (pss_cons (ps_ret pe_wp) pss_wp) (he Δ τ σ H _ hl w fun v H1 w1 => k v H1 w1.only)
theorem sds_retN : Sds X W H0 Oc Γ (.Return none pos :: rest) (.ret (.va .non)) := fun Δ τ σ H D hl st ⟨O, w⟩ k =>
  wpSs.of (pss_cons ps_retN pss_wp) (k .non H (Wf.only ⟨O, w.flat rfl (show Rep X.K H .non .non from rfl)⟩))
theorem sds_pass (hr : Sds X W H0 Oc Γ rest out) : Sds X W H0 Oc Γ (.Pass pos :: rest) out := fun Δ τ σ H D hl st w k => wpSs.of (pss_cons ps_pass pss_wp) (hr Δ τ σ H D hl st w k)
theorem sds_brk : Sds X W H0 Oc Γ (.Break pos :: rest) (.brk Γ) := fun Δ τ σ H D hl st w k => wpSs.of (pss_cons ps_break pss_wp) (k σ H w)
theorem sds_cnt : Sds X W H0 Oc Γ (.Continue pos :: rest) (.cnt Γ) := fun Δ τ σ H D hl st w k => wpSs.of (pss_cons ps_continue pss_wp) (k σ H w)
theorem sds_expr (he : Ev X H0 Oc Γ e s) (hr : Sds X W H0 Oc Γ rest out) (hs : swapsWith e none pos.line X.env = pure false := by rfl) : Sds X W H0 Oc Γ (.Expr e pos :: rest) out := fun Δ τ σ H D hl st w k =>
  wpSs.of (pss_cons (ps_expr pe_wp hs) pss_wp) (he Δ τ σ H _ hl w fun v H1 w1 => hr Δ τ σ H1 D hl st w1.pop k)
/-- how a sub-block's ends reach the outer ones -/
theorem Sat.exit {Δ : List Sl} {τ : List (Option V)} {D : Ends} {N : L2.St → Hp → Prop} (hx : out.exit = true) (h : Sat X W H0 Oc Δ τ D out) : Sat X W H0 Oc Δ τ { D with nx := N } out := by
  cases out <;> first | exact absurd hx Bool.false_ne_true | exact h
/-- if c: something that leaves; rest -/
theorem sds_ifx (hc : Et X H0 Oc Γ c q) (h1 : q = true → Sds X W H0 Oc Γ body out ∧ out.exit = true) (h2 : q = false → Sds X W H0 Oc Γ rest out) : Sds X W H0 Oc Γ (.If c body [] pos :: rest) out := fun Δ τ σ H D hl st w k =>
  wpSs.of (pss_cons (ps_if pt_wp pss_wp pss_nil) pss_wp) (hc Δ τ σ H _ hl w fun H1 w1 => by
    cases q with
    | true => exact (h1 rfl).1 Δ τ σ H1 _ hl st w1 (k.exit (h1 rfl).2)
    | false => exact h2 rfl Δ τ σ H1 D hl st w1 k)
/-- if c: a else: b; both go on -/
theorem sds_ifn (Γ1 : List Sl) (hc : Et X H0 Oc Γ c q) (h1 : q = true → Sds X W H0 Oc Γ body (.nx Γ1)) (h2 : q = false → Sds X W H0 Oc Γ els (.nx Γ1)) (hr : Sds X W H0 Oc Γ1 rest out) : Sds X W H0 Oc Γ (.If c body els pos :: rest) out := fun Δ τ σ H D hl st w k =>
  wpSs.of (pss_cons (ps_if pt_wp pss_wp pss_wp) pss_wp) (hc Δ τ σ H _ hl w fun H1 w1 => by
    cases q with
    | true => exact h1 rfl Δ τ σ H1 _ hl st w1 fun σ' H' w' => hr Δ τ σ' H' D hl st w' k
    | false => exact h2 rfl Δ τ σ H1 _ hl st w1 fun σ' H' w' => hr Δ τ σ' H' D hl st w' k)
/-- the general form: each way tells its own end -/
theorem sds_if (hc : Et X H0 Oc Γ c q) (h1 : q = true → ∃ o1, Sds X W H0 Oc Γ body o1 ∧ (match o1 with | .nx Γ1 => Sds X W H0 Oc Γ1 rest out | o1 => o1 = out))
    (h2 : q = false → ∃ o1, Sds X W H0 Oc Γ els o1 ∧ (match o1 with | .nx Γ1 => Sds X W H0 Oc Γ1 rest out | o1 => o1 = out)) : Sds X W H0 Oc Γ (.If c body els pos :: rest) out := fun Δ τ σ H D hl st w k =>
  wpSs.of (pss_cons (ps_if pt_wp pss_wp pss_wp) pss_wp) (hc Δ τ σ H _ hl w fun H1 w1 => by
    have fin : ∀ {st' : List Stmt} {o1 : Out}, Sds X W H0 Oc Γ st' o1 → (match o1 with | .nx Γ1 => Sds X W H0 Oc Γ1 rest out | o1 => o1 = out) → wpSs X st' { D with nx := fun σ H => wpSs X rest D σ H } σ H1 := fun {st' o1} g1 g2 => by
      refine g1 Δ τ σ H1 _ hl st w1 ?_
      cases o1 with
      | nx Γ1 => exact fun σ' H' w' => g2 Δ τ σ' H' D hl st w' k
      | ret s => subst g2; exact k
      | brk s => subst g2; exact k
      | cnt s => subst g2; exact k
      | exc C ns ds Γe => subst g2; exact k
    cases q with
    | true =>
      obtain ⟨o1, g1, g2⟩ := h1 rfl
      exact fin g1 g2
    | false =>
      obtain ⟨o1, g1, g2⟩ := h2 rfl
      exact fin g1 g2)
/-! ### lists changed in place -/
theorem sds_app {cpos epos : Pos} (n : Nat) (h : Γ[n]? = some (.ow (.lst ds))) (hst : stab Γ = true) (he : Ev X H0 Oc Γ e (.va d)) (hn : ds.length ≤ 1000000) (hr : Sds X W H0 Oc (Γ.set n (.ow (.lst (ds ++ [d])))) rest out)
    (hN : X.N[n]? = some x) (hv : Vis X.env.scope x) (hd : (x == ("__debug__" : Str)) = false) (hcd : (x == ("__classdict__" : Str)) = false)
    (hbase : attributeBase (.Name x p) "append" X.env (eval (.Name x p) X.env) = eval (.Name x p) X.env := by rfl)
    (hfew : ((backTo cpos (starEach [e] X.env)).all (fun x => !x.1) && (backToKw cpos (keywordEach [] X.env)).all (fun x => x.1.isSome)
      && decide (([e] : List Expr).length + ([] : List Keyword).length + (if ([] : List Keyword).isEmpty then 0 else 1) < 30)) = true := by rfl)
    (hline : (apos.endLine == cpos.line) = true := by rfl) (hs : starEach [e] X.env = (false, eval e X.env) :: starEach [] X.env := by rfl) (hplain : (backTo cpos (starEach [] X.env)).any (·.1) = false := by rfl)
    (hsw : swapsWith (.Call (.Attribute (.Name x p) "append" apos) [e] [] cpos) none epos.line X.env = pure false := by rfl) :
    Sds X W H0 Oc Γ (.Expr (.Call (.Attribute (.Name x p) "append" apos) [e] [] cpos) epos :: rest) out := fun Δ τ σ H D hl st w k => by
  refine wpSs.of (pss_cons (ps_expr (pe_bm PySem.F.plainAttrs_list PySem.F.slot_list_append PySem.F.type_list_append mt_append (pe_var hN hv hd hcd) (pa_cons pe_wp pa_nil hs) hbase hfew hline hs hplain) hsw) pss_wp) ?_
  obtain ⟨O0, w0⟩ := id w
  obtain ⟨y, hy, pp, oo, rfl, g2, g3, g4, g5⟩ := slot_of hl w0 h
  refine ⟨.ref pp, hy, ?_, ?_⟩
  · cases oo <;> first
      | exact g5.elim
      | exact .inl ⟨rfl, _, .of g4⟩
  · refine he Δ τ σ H _ hl w fun v H1 ⟨O, w1⟩ => ?_
    obtain ⟨y', hy', q, u, e1, k2, k3, k4, k5⟩ := slot_of hl w1.pop h
    rw [hy] at hy'
    cases hy'
    cases e1
    obtain ⟨v', e2, rv⟩ := w1.head
    cases e2
    cases u <;> first | exact k5.elim | skip
    rename_i vs
    have k5' : Reps X.K (cut H1 O) ds vs := k5
    refine ⟨pp, vs, v, rfl, rfl, k4, ?_, ?_⟩
    · rw [k5'.len, sizeLine_eq]
      omega
    · exact hr Δ τ σ _ D hl st ⟨O, w1.pop.mutN hl st hst h hy (o' := .lst (vs ++ [v])) (d' := .lst (ds ++ [d])) (k5'.app (Reps.one rv))⟩ k
end
end Y

namespace Y
open PySem L2

/-! ## what is walked -/
structure ItOk (K : PySem.W.Frag) (H0 : Hp) (Oc : List Addr) (J : It) (Δh : List Sl) (τh : List (Option V)) (ds : List D) : Prop where
  len : τh.length = Δh.length
  st : stab Δh = true
  go : ∀ (i : Nat) (Δp G : List Sl) (τp S : List (Option V)) (H : Hp), τp.length = Δp.length → i < ds.length → Wf K H0 Oc (Δp ++ (Δh ++ G)) (τp ++ (τh ++ S)) H →
    J.go i H ∧ ∀ x H', J.yld i H x H' → ∃ d, ds[i]? = some d ∧ Wf K H0 Oc (.va d :: (Δp ++ (Δh ++ G))) (some x :: (τp ++ (τh ++ S))) H'
  stop : ∀ (i : Nat) (Δp G : List Sl) (τp S : List (Option V)) (H : Hp), τp.length = Δp.length → ds.length ≤ i → Wf K H0 Oc (Δp ++ (Δh ++ G)) (τp ++ (τh ++ S)) H → J.stop i H
theorem WfO.drop {K : PySem.W.Frag} {H0 : Hp} {O Oc : List Addr} {G : List Sl} {S : List (Option V)} {H : Hp} : ∀ {Δ : List Sl} {τ : List (Option V)}, τ.length = Δ.length → WfO K H0 Oc O (Δ ++ G) (τ ++ S) H → WfO K H0 Oc O G S H
  | [], [], _, w => w
  | [], _ :: _, h, _ => by simp at h
  | _ :: _, [], h, _ => by simp at h
  | _ :: Δ, _ :: τ, h, w => WfO.drop (Δ := Δ) (τ := τ) (by simpa using h) w.pop
def Ei (X : Cx) (H0 : Hp) (Oc : List Addr) (Γ : List Sl) (tg iter : Expr) (ds : List D) : Prop := ∃ wi : TI, PI X tg iter wi ∧ ∀ (Δ : List Sl) (τ : List (Option V)) (σ : L2.St) (H : Hp) (R : It → Hp → Prop), τ.length = Δ.length → Wf X.K H0 Oc (Δ ++ Γ) (τ ++ σ) H →
  (∀ J Δh τh H', (∀ H0' Oc', ItOk X.K H0' Oc' J Δh τh ds) → Δh.map Sl.arg = Δh → Wf X.K H0 Oc (Δh ++ (Δ ++ Γ)) (τh ++ (τ ++ σ)) H' → R J H') → wi σ H R
theorem Ei.as {X : Cx} {H0 : Hp} {Oc : List Addr} {Γ : List Sl} {tg iter : Expr} {ds ds' : List D} (h : Ei X H0 Oc Γ tg iter ds) (e : ds = ds') : Ei X H0 Oc Γ tg iter ds' := e ▸ h
section
variable {X : Cx} {W : WX} {H0 : Hp} {Oc : List Addr} {Γ Γ1 Γ' : List Sl} {e a b c o tg iter : Expr} {es : List Expr} {rest body els : List Stmt} {s s0 s1 s2 : Sl} {ss : List Sl} {d d1 d2 : D} {ds ds1 ds2 : List D} {i j : Int} {pos p2 p apos : Pos} {x m : Str} {out o1 : Out} {n : Nat} {q : Bool}
theorem Reps.lt_get {K : PySem.W.Frag} {H : Hp} {vs : List V} {i : Nat} (h : Reps K H ds vs) (hi : i < ds.length) : ∃ d v, ds[i]? = some d ∧ vs[i]? = some v ∧ Rep K H d v := by
  have e : ds[i]? = some ds[i] := List.getElem?_eq_getElem hi
  obtain ⟨v, h1, h2⟩ := h.get e
  exact ⟨_, v, e, h1, h2⟩
/-- a slot that stands by itself while a loop runs -/
def Sl.held : Sl → Option D
  | .va d => some d
  | .br d => some d
  | _ => none
theorem held_b {K : PySem.W.Frag} {O : List Addr} {H : Hp} {v : V} (e : Ex H0 H) (h : SlOk K H0 O H s (some v)) (hs : s.held = some d) : RepB K H (cut H O) d v := h.b e (by cases s <;> first | exact hs | cases hs)
theorem held_stab (hs : s.held = some d) : stab [s] = true := by cases s <;> first | rfl | cases hs
theorem held_arg (hs : s.held = some d) : [s].map Sl.arg = [s] := by cases s <;> first | rfl | cases hs
theorem it_lst {K : PySem.W.Frag} {l : Addr} (hs : s.held = some (.lst ds)) : ItOk K H0 Oc (Itl K l) [s] [some (.ref l)] ds := by
  refine ⟨rfl, held_stab hs, fun i Δp G τp S H hp hi ⟨O, w⟩ => ?_, fun i Δp G τp S H hp hi ⟨O, w⟩ => ?_⟩
  · obtain ⟨l', vs, e, g1, g2⟩ := held_b w.ex (w.drop hp).head hs
    cases e
    obtain ⟨d', v', e1, e2, rv⟩ := g2.lt_get hi
    refine ⟨⟨vs, v', .of g1, e2⟩, fun x H' y => ?_⟩
    obtain ⟨eH, y⟩ := y
    subst eH
    have e3 := y vs (.of g1)
    rw [e2] at e3
    cases e3
    exact ⟨d', e1, O, w.push ⟨_, rfl, rv⟩ fun _ z => nomatch z⟩
  · obtain ⟨l', vs, e, g1, g2⟩ := held_b w.ex (w.drop hp).head hs
    cases e
    exact ⟨vs, .of g1, by rw [g2.len]; exact hi⟩
theorem it_tup {K : PySem.W.Frag} {l : Addr} (hs : s.held = some (.tup ds)) : ItOk K H0 Oc (Itt K l) [s] [some (.ref l)] ds := by
  refine ⟨rfl, held_stab hs, fun i Δp G τp S H hp hi ⟨O, w⟩ => ?_, fun i Δp G τp S H hp hi ⟨O, w⟩ => ?_⟩
  · obtain ⟨l', vs, e, g1, g2⟩ := held_b w.ex (w.drop hp).head hs
    cases e
    obtain ⟨d', v', e1, e2, rv⟩ := g2.lt_get hi
    refine ⟨⟨vs, v', .of g1, e2⟩, fun x H' y => ?_⟩
    obtain ⟨eH, y⟩ := y
    subst eH
    have e3 := y vs (.of g1)
    rw [e2] at e3
    cases e3
    exact ⟨d', e1, O, w.push ⟨_, rfl, rv⟩ fun _ z => nomatch z⟩
  · obtain ⟨l', vs, e, g1, g2⟩ := held_b w.ex (w.drop hp).head hs
    cases e
    exact ⟨vs, .of g1, by rw [g2.len]; exact hi⟩
theorem ei_lst (he : Ev X H0 Oc Γ iter s) (hs : s.held = some (.lst ds)) : Ei X H0 Oc Γ tg iter ds := ⟨_, pi_list pe_wp, fun Δ τ σ H R hl w k => he Δ τ σ H _ hl w fun v H1 w1 => by
  obtain ⟨O, w1'⟩ := id w1
  obtain ⟨l, vs, rfl, h1, h2⟩ := held_b w1'.ex w1'.head hs
  exact ⟨l, rfl, ⟨vs, .of h1⟩, k _ [s] [some (.ref l)] H1 (fun _ _ => it_lst hs) (held_arg hs) w1⟩⟩
theorem ei_tup (he : Ev X H0 Oc Γ iter s) (hs : s.held = some (.tup ds)) : Ei X H0 Oc Γ tg iter ds := ⟨_, pi_tup pe_wp, fun Δ τ σ H R hl w k => he Δ τ σ H _ hl w fun v H1 w1 => by
  obtain ⟨O, w1'⟩ := id w1
  obtain ⟨l, vs, rfl, h1, h2⟩ := held_b w1'.ex w1'.head hs
  exact ⟨l, rfl, ⟨vs, .of h1⟩, k _ [s] [some (.ref l)] H1 (fun _ _ => it_tup hs) (held_arg hs) w1⟩⟩
/-- range(..) -/
def rngD (lo : Int) (n : Nat) : List D := (List.range n).map fun (i : Nat) => .int (lo + (i : Int))
theorem rngD_get {lo : Int} {n i : Nat} (h : i < n) : (rngD lo n)[i]? = some (.int (lo + (i : Int))) := by
  unfold rngD
  rw [List.getElem?_map, List.getElem?_range h]
  rfl
theorem rngD_len {lo : Int} {n : Nat} : (rngD lo n).length = n := by unfold rngD; simp
theorem it_rng {K : PySem.W.Frag} {lo : Int} {n : Nat} : ItOk K H0 Oc (Itr lo n) [] [] (rngD lo n) := by
  refine ⟨rfl, rfl, fun i Δp G τp S H hp hi ⟨O, w⟩ => ?_, fun i Δp G τp S H hp hi w => ?_⟩
  · rw [rngD_len] at hi
    refine ⟨hi, fun x H' y => ?_⟩
    obtain ⟨eH, ex⟩ := y
    subst eH
    exact ⟨_, rngD_get hi, O, w.flat rfl (by rw [ex]; exact (show Rep K H' (.int (lo + (i : Int))) (.int (lo + (i : Int))) from rfl))⟩
  · rw [rngD_len] at hi
    exact hi
theorem ei_rng1 {j : Int} (ha : Ev X H0 Oc Γ a (.va (.int j))) (h1 : -1000000000 ≤ j) (h2 : j ≤ 1000000000) (hm : X.mg "range" = none) (hg : Gl X "range" := by rfl) (hs : starEach [a] X.env = [(false, eval a X.env)] := by rfl) (hs' : starEach [a] X.env = (false, eval a X.env) :: starEach [] X.env := by rfl) :
    Ei X H0 Oc Γ tg (.Call (.Name "range" p) [a] [] pos) (rngD 0 j.toNat) := ⟨_, pi_range1 hg hm (pa_cons pe_wp pa_nil hs') hs, fun Δ τ σ H R hl w k => ha Δ τ σ H _ hl w fun v H1 ⟨O, w1⟩ => by
  obtain ⟨u, e, r⟩ := w1.head
  cases e
  exact ⟨j, by rw [show v = _ from r], by omega, by omega, k _ [] [] H1 (fun _ _ => it_rng) rfl ⟨O, w1.pop⟩⟩⟩
theorem ei_rng2 {i j : Int} (ha : Ev X H0 Oc Γ a (.va (.int i))) (hb : Ev X H0 Oc Γ b (.va (.int j))) (h1 : -1000000000 ≤ i ∧ i ≤ 1000000000 ∧ -1000000000 ≤ j ∧ j ≤ 1000000000) (hm : X.mg "range" = none) (hg : Gl X "range" := by rfl)
    (hs1 : starEach [a, b] X.env = (false, eval a X.env) :: starEach [b] X.env := by rfl) (hs2 : starEach [b] X.env = (false, eval b X.env) :: starEach [] X.env := by rfl) :
    Ei X H0 Oc Γ tg (.Call (.Name "range" p) [a, b] [] pos) (rngD i (j - i).toNat) := ⟨_, pi_range2 hg hm (pa_cons pe_wp (pa_cons pe_wp pa_nil hs2) hs1) (hs1.trans (by rw [hs2] <;> rfl)) (hs2.trans rfl), fun Δ τ σ H R hl w k => ha Δ τ σ H _ hl w fun v H1 w1 => hb (_ :: Δ) (_ :: τ) σ H1 _ (by simp [hl]) w1 fun v2 H2 ⟨O, w2⟩ => by
  obtain ⟨u, e, r⟩ := w2.head
  obtain ⟨u', e', r'⟩ := w2.pop.head
  cases e
  cases e'
  exact ⟨i, j, by rw [show v2 = _ from r, show v = _ from r'], ⟨by omega, by omega, by omega, by omega⟩, k _ [] [] H2 (fun _ _ => it_rng) rfl ⟨O, w2.pop.pop⟩⟩⟩
/-- enumerate(list) -/
def enumD (ds : List D) : List D := (List.range ds.length).zipWith (fun (i : Nat) d => .tup [.int (i : Int), d]) ds
theorem enumD_get {i : Nat} {d : D} (h : ds[i]? = some d) : (enumD ds)[i]? = some (.tup [.int (i : Int), d]) := by
  unfold enumD
  have hi := (List.getElem?_eq_some_iff.mp h).1
  rw [List.getElem?_zipWith, List.getElem?_range hi, h]
theorem enumD_len : (enumD ds).length = ds.length := by unfold enumD; simp
theorem it_enum {K : PySem.W.Frag} {l : Addr} (hs : s.held = some (.lst ds)) : ItOk K H0 Oc (Ite K l) [s] [some (.ref l)] (enumD ds) := by
  refine ⟨rfl, held_stab hs, fun i Δp G τp S H hp hi ⟨O, w⟩ => ?_, fun i Δp G τp S H hp hi ⟨O, w⟩ => ?_⟩
  · obtain ⟨l', vs, e, g1, g2⟩ := held_b w.ex (w.drop hp).head hs
    cases e
    rw [enumD_len] at hi
    obtain ⟨d', v', e1, e2, rv⟩ := g2.lt_get hi
    refine ⟨⟨vs, v', .of g1, e2⟩, fun x H' y => ?_⟩
    obtain ⟨T, z, ex, hT, eH, y⟩ := y
    subst eH
    subst ex
    have e3 := y vs (.of g1)
    rw [e2] at e3
    cases e3
    exact ⟨_, enumD_get e1, O, w.newTup hT (Reps.cons (show Rep K _ (.int (i : Int)) (.int (i : Int)) from rfl) (Reps.one rv))⟩
  · obtain ⟨l', vs, e, g1, g2⟩ := held_b w.ex (w.drop hp).head hs
    cases e
    rw [enumD_len] at hi
    exact ⟨vs, .of g1, by rw [g2.len]; exact hi⟩
theorem ei_enum {elts : List Expr} {kk : Nat} {tpos : Pos} (ha : Ev X H0 Oc Γ a s) (hs : s.held = some (.lst ds)) (hm : X.mg "enumerate" = none) (hg : Gl X "enumerate" := by rfl) (hst : starEach [a] X.env = [(false, eval a X.env)] := by rfl) (hst' : starEach [a] X.env = (false, eval a X.env) :: starEach [] X.env := by rfl) :
    Ei X H0 Oc Γ (.Tuple elts kk tpos) (.Call (.Name "enumerate" p) [a] [] pos) (enumD ds) := ⟨_, pi_enum hg hm (pa_cons pe_wp pa_nil hst') hst, fun Δ τ σ H R hl w k => ha Δ τ σ H _ hl w fun v H1 w1 => by
  obtain ⟨O, w1'⟩ := id w1
  obtain ⟨l, vs, rfl, h1, h2⟩ := held_b w1'.ex w1'.head hs
  exact ⟨l, vs, rfl, .of h1, k _ [s] [some (.ref l)] H1 (fun _ _ => it_enum hs) (held_arg hs) w1⟩⟩
/-! ## for -/
/-- what a turn's end asks -/
def TurnOk (X : Cx) (W : WX) (H0 : Hp) (Oc : List Addr) (rest : List Stmt) (out : Out) (Nx : List Sl → Prop) : Out → Prop
  | .nx Γ => Nx Γ
  | .cnt Γ => Nx Γ
  | .brk Γ => Sds X W H0 Oc Γ rest out
  | o => o = out
theorem app3 {α : Type} {a b c : List α} : a ++ (b ++ c) = (a ++ b) ++ c := (List.append_assoc a b c).symm
theorem Wf.drop {K : PySem.W.Frag} {G : List Sl} {S : List (Option V)} {H : Hp} : ∀ {Δ : List Sl} {τ : List (Option V)}, τ.length = Δ.length → Wf K H0 Oc (Δ ++ G) (τ ++ S) H → Wf K H0 Oc G S H
  | [], [], _, w => w
  | [], _ :: _, h, _ => by simp at h
  | _ :: _, [], h, _ => by simp at h
  | _ :: Δ, _ :: τ, h, w => Wf.drop (Δ := Δ) (τ := τ) (by simpa using h) w.pop
/-- what lies below the head is left out -/
theorem Wf.drop1 {K : PySem.W.Frag} {G : List Sl} {S : List (Option V)} {H : Hp} {y : Option V} {Δ : List Sl} {τ : List (Option V)} (hl : τ.length = Δ.length) (w : Wf K H0 Oc (s :: (Δ ++ G)) (y :: (τ ++ S)) H) : Wf K H0 Oc (s :: G) (y :: S) H := by
  obtain ⟨O, w⟩ := w
  have low : ∀ {i : Nat}, (s :: (Δ ++ G))[if i = 0 then 0 else i + Δ.length]? = (s :: G)[i]? ∧ (y :: (τ ++ S))[if i = 0 then 0 else i + Δ.length]? = (y :: S)[i]? := fun {i} => by
    cases i with
    | zero => exact ⟨rfl, rfl⟩
    | succ i =>
      rw [if_neg (Nat.succ_ne_zero i)]
      have e : i + 1 + Δ.length = (Δ.length + i) + 1 := by omega
      rw [e]
      refine ⟨?_, ?_⟩
      · show (Δ ++ G)[Δ.length + i]? = G[i]?
        rw [List.getElem?_append_right (by omega)]
        simp
      · show (τ ++ S)[Δ.length + i]? = S[i]?
        rw [← hl, List.getElem?_append_right (by omega)]
        simp
  refine ⟨O, w.sub, w.new, w.old, w.live, w.ex, ?_, fun i s' x h1 h2 => w.ok _ s' x (low.1.trans h1) (low.2.trans h2), fun i j p d d' h1 h2 h3 h4 => ?_⟩
  · have := w.len
    simp only [List.length_cons, List.length_append] at this ⊢
    omega
  · have := w.nd _ _ p d d' (low.1.trans h1) (low.2.trans h2) (low.1.trans h3) (low.2.trans h4)
    by_cases hi : i = 0
    · by_cases hj : j = 0
      · omega
      · rw [if_pos hi, if_neg hj] at this; omega
    · by_cases hj : j = 0
      · rw [if_neg hi, if_pos hj] at this; omega
      · rw [if_neg hi, if_neg hj] at this; omega
theorem sat_in {Δ Δh : List Sl} {τ τh : List (Option V)} {D : Ends} {N : L2.St → Hp → Prop} {o : Out} (hl : τh.length = Δh.length) (hx : (∃ s, o = .ret s) ∨ ∃ C ns ds Γe, o = .exc C ns ds Γe) (h : Sat X W H0 Oc Δ τ D o) (Nb : L2.St → Hp → Prop) :
    Sat X W H0 Oc (Δh ++ Δ) (τh ++ τ) { D with nx := N, ct := N, bk := Nb } o := by
  rcases hx with ⟨s, rfl⟩ | ⟨C, ns, ds, Γe, rfl⟩
  · exact h
  · intro d σ H hw
    refine h d σ H ?_
    cases Γe with
    | none => exact hw
    | some Γe =>
      have hw' : Wf X.K H0 Oc (.va (.xd ns ds) :: ((Δh ++ Δ) ++ Γe)) (some (.ref d) :: ((τh ++ τ) ++ σ)) H := hw
      rw [← app3, ← app3] at hw'
      exact hw'.drop1 hl
theorem sds_for (G : Nat → List Sl) (P : Nat → Prop) (hp : PassesOwn (model X.prog X.w) X.A X.env X.xe) (hc : X.calm = true) (hi : Ei X H0 Oc Γ tg iter ds) (h0 : Sub Γ (G 0)) (p0 : P 0)
    (hb : ∀ i d, ds[i]? = some d → P i → ∃ Γ1 ob, Tg X H0 Oc tg (G i) (.va d) Γ1 ∧ Sds X W H0 Oc Γ1 body ob ∧ TurnOk X W H0 Oc rest out (fun Γ2 => Sub Γ2 (G (i + 1)) ∧ P (i + 1)) ob)
    (hr : P ds.length → Sds X W H0 Oc (G ds.length) rest out)
    (hs : ∀ x, foldedSetIterable iter X.env x = pure x := by intro _; rfl) : Sds X W H0 Oc Γ (.For tg iter body [] pos :: rest) out := fun Δ τ σ H D hl st w k => by
  obtain ⟨wi, hpi, hwi⟩ := hi
  refine wpSs.of (pss_cons (ps_for hp hc hpi pg_wp pss_wp hs) pss_wp) ?_
  refine hwi Δ τ σ H _ hl w fun J Δh τh H1 ok harg w1 => ?_
  have ok := ok H0 Oc
  have hl2 : (τh ++ τ).length = (Δh ++ Δ).length := by rw [List.length_append, List.length_append, hl, ok.len]
  have st2 : stab (Δh ++ Δ) = true := by rw [stab_app, ok.st, st]; rfl
  refine ⟨fun i m σ H => m = ds.length - i ∧ i ≤ ds.length ∧ P i ∧ Wf X.K H0 Oc ((Δh ++ Δ) ++ G i) ((τh ++ τ) ++ σ) H, ⟨ds.length, by simp, Nat.zero_le _, p0, ?_⟩, ?_⟩
  · rw [app3, app3] at w1
    exact w1.sub h0.app
  rintro i m σ1 H2 ⟨rfl, hi, pi, w2⟩
  by_cases hlt : i < ds.length
  · have w2' := w2
    rw [← app3, ← app3] at w2'
    obtain ⟨g1, g2⟩ := ok.go i [] _ [] _ H2 rfl hlt w2'
    refine .inr ⟨g1, fun σ' H' => P (i + 1) ∧ Wf X.K H0 Oc ((Δh ++ Δ) ++ G (i + 1)) ((τh ++ τ) ++ σ') H', fun σ' H' ⟨q1, q2⟩ => ⟨ds.length - (i + 1), by omega, rfl, hlt, q1, q2⟩, fun x H' y => ?_⟩
    obtain ⟨d, hd, w3⟩ := g2 x H' y
    rw [List.nil_append, List.nil_append, app3, app3] at w3
    obtain ⟨Γ1, ob, t1, t2, t3⟩ := hb i d hd pi
    refine t1 (Δh ++ Δ) (τh ++ τ) σ1 H' x _ hl2 st2 w3 fun σ2 H3 w4 => ?_
    refine t2 (Δh ++ Δ) (τh ++ τ) σ2 H3 _ hl2 st2 w4 ?_
    cases ob with
    | nx Γ2 => exact fun σ' H' w' => ⟨t3.2, w'.sub t3.1.app⟩
    | cnt Γ2 => exact fun σ' H' w' => ⟨t3.2, w'.sub t3.1.app⟩
    | brk Γ2 =>
      refine fun σ' H' w' => ?_
      rw [← app3, ← app3] at w'
      exact t3 Δ τ σ' H' D hl st (w'.drop ok.len) k
    | ret s =>
      have e : Out.ret s = out := t3
      subst e
      exact k
    | exc C ns ds' Γe =>
      have e : Out.exc C ns ds' Γe = out := t3
      subst e
      exact sat_in (D := D) ok.len (.inr ⟨C, ns, ds', Γe, rfl⟩) k _
  · have e : i = ds.length := by omega
    subst e
    have w2' := w2
    rw [← app3, ← app3] at w2'
    exact .inl ⟨ok.stop _ [] _ [] _ H2 rfl (Nat.le_refl _) w2', hr pi Δ τ σ1 H2 D hl st (w2'.drop ok.len) k⟩
end
end Y

namespace Y
open PySem L2

/-! ## comprehensions: like a callee that reads what stands -/
def wipeG (Γ : List Sl) : List Nat → List Sl
  | [] => Γ
  | v :: vs => (wipeG Γ vs).set v .no
def Tgw (X : Cx) (H0 : Hp) (Oc : List Addr) (vs : List Nat) (tg : Expr) (Γ : List Sl) (s : Sl) (Γ' : List Sl) : Prop := ∀ (Δ : List Sl) (τ : List (Option V)) (σ : L2.St) (H : Hp) (v : V) (Q : L2.St → Hp → Prop), τ.length = Δ.length → Wf X.K H0 Oc (s :: (Δ ++ Γ)) (some v :: (τ ++ σ)) H →
  (∀ σ' H', wipe σ' vs = wipe σ vs → Wf X.K H0 Oc (Δ ++ Γ') (τ ++ σ') H' → Q σ' H') → wpG X tg v σ H Q
theorem wipe_get (σ : L2.St) : ∀ (vs : List Nat) (i : Nat), (wipe σ vs)[i]? = if i ∈ vs ∧ i < σ.length then some none else σ[i]?
  | [], i => by simp [wipe]
  | v :: vs, i => by
    unfold wipe
    rw [List.getElem?_set, wipe_get σ vs i, wipe_length]
    by_cases h : v = i
    · subst h
      by_cases hl : v < σ.length
      · simp [hl]
      · simp [hl]
    · rw [if_neg h]
      simp only [List.mem_cons, Ne.symm h, false_or]
theorem wipe_set {σ : L2.St} {vs : List Nat} {n : Nat} {x : Option V} (h : n ∈ vs) : wipe (σ.set n x) vs = wipe σ vs := by
  apply List.ext_getElem?
  intro i
  rw [wipe_get, wipe_get, List.length_set]
  by_cases hi : i ∈ vs ∧ i < σ.length
  · rw [if_pos hi, if_pos hi]
  · rw [if_neg hi, if_neg hi]
    by_cases e : n = i
    · subst e
      have : ¬ n < σ.length := fun z => hi ⟨h, z⟩
      rw [List.getElem?_eq_none (by simp; omega), List.getElem?_eq_none (by omega)]
    · rw [List.getElem?_set_ne e]
theorem wipe_wipe {σ : L2.St} {vs : List Nat} : wipe (wipe σ vs) vs = wipe σ vs := by
  apply List.ext_getElem?
  intro i
  rw [wipe_get, wipe_get, wipe_length]
  by_cases hi : i ∈ vs ∧ i < σ.length
  · rw [if_pos hi, if_pos hi]
  · rw [if_neg hi, if_neg hi]
section
variable {K : PySem.W.Frag} {H0 H : Hp} {O Oc : List Addr} {G G' Δ Γ Γ' : List Sl} {S : List (Option V)} {s : Sl}
theorem Wf.unset {n : Nat} {τ : List (Option V)} {σ : L2.St} (hl : τ.length = Δ.length) (w : Wf K H0 Oc (Δ ++ Γ) (τ ++ σ) H) : Wf K H0 Oc (Δ ++ Γ.set n .no) (τ ++ σ.set n none) H := by
  obtain ⟨O, w⟩ := w
  have hlen : σ.length = Γ.length := by
    have := w.len
    simp only [List.length_append] at this
    omega
  have key : ∀ i s', (Δ ++ Γ.set n .no)[i]? = some s' → s' = Sl.no ∨ ((Δ ++ Γ)[i]? = some s' ∧ (τ ++ σ.set n none)[i]? = (τ ++ σ)[i]?) := fun i s' h => by
    by_cases hi : i < Δ.length
    · rw [List.getElem?_append_left hi] at h
      refine .inr ⟨by rw [List.getElem?_append_left hi]; exact h, ?_⟩
      rw [List.getElem?_append_left (by omega), List.getElem?_append_left (by omega)]
    · rw [List.getElem?_append_right (by omega)] at h
      by_cases e : n = i - Δ.length
      · rw [List.getElem?_set, if_pos e] at h
        split at h
        · exact .inl (Option.some.inj h).symm
        · cases h
      · rw [List.getElem?_set_ne e] at h
        refine .inr ⟨by rw [List.getElem?_append_right (by omega)]; exact h, ?_⟩
        rw [List.getElem?_append_right (by omega), List.getElem?_append_right (by omega), List.getElem?_set_ne (by omega)]
  refine ⟨O, w.sub, w.new, w.old, w.live, w.ex, by simp [hl, hlen], fun i s' x h1 h2 => ?_, fun i j p d d' h1 h2 h3 h4 => ?_⟩
  · rcases key i s' h1 with e | ⟨e1, e2⟩
    · rw [e]; trivial
    · exact w.ok i s' x e1 (e2 ▸ h2)
  · rcases key i _ h1 with e | ⟨e1, e2⟩
    · exact nomatch e
    · rcases key j _ h3 with f | ⟨f1, f2⟩
      · exact nomatch f
      · exact w.nd i j p d d' e1 (e2 ▸ h2) f1 (f2 ▸ h4)
theorem Wf.wiped {τ : List (Option V)} {σ : L2.St} (hl : τ.length = Δ.length) (w : Wf K H0 Oc (Δ ++ Γ) (τ ++ σ) H) : ∀ vs : List Nat, Wf K H0 Oc (Δ ++ wipeG Γ vs) (τ ++ wipe σ vs) H
  | [] => w
  | _ :: vs => (Wf.wiped hl w vs).unset hl
theorem WfO.toArg (w : WfO K H0 Oc O G S H) (hs : ∀ (i : Nat) (s : Sl), G[i]? = some s → s ≠ .no → ∃ v, S[i]? = some (some v)) : Wf K H O (G.map Sl.arg) S H := by
  refine ⟨O, fun a z => z, fun a z => .inl z, w.live, w.live, fun _ _ z => z, by rw [List.length_map]; exact w.len, fun i s x h1 h2 => ?_, fun i j p d d' h1 _ _ _ => (arg_not h1).elim⟩
  rw [List.getElem?_map] at h1
  cases q : G[i]? with
  | none => rw [q] at h1; cases h1
  | some s' =>
    rw [q] at h1
    cases h1
    by_cases hn : s' = .no
    · rw [hn]; trivial
    · obtain ⟨v, hv⟩ := hs i s' q hn
      rw [h2] at hv
      cases hv
      exact (w.ok i s' _ q h2).arg w.ex
theorem WfO.toArg' (w : WfO K H0 Oc O G S H) : Wf K H O (G.map Sl.arg) S H := w.toArg fun i s h hn => by
  have hi : i < S.length := by
    rw [w.len]
    exact (List.getElem?_eq_some_iff.mp h).1
  have ok := w.ok i s S[i] h (List.getElem?_eq_getElem hi)
  rw [List.getElem?_eq_getElem hi]
  cases s with
  | no => exact absurd rfl hn
  | va d => obtain ⟨v, e, _⟩ := ok; exact ⟨v, by rw [e]⟩
  | ow d => obtain ⟨p, _, e, _⟩ := ok; exact ⟨.ref p, by rw [e]⟩
  | br d => obtain ⟨v, e, _⟩ := ok; exact ⟨v, by rw [e]⟩
  | bw d => obtain ⟨v, e, _⟩ := ok; exact ⟨v, by rw [e]⟩
theorem stab_arg : stab (G.map Sl.arg) = true := by
  unfold stab
  rw [List.all_map, List.all_eq_true]
  intro s _
  cases s <;> rfl
end
/-- the block's context -/
abbrev blkX (X : Cx) (scope : Scope) (s : Shared) (H : Hp) (C : Addr) (cl : List (Str × Addr)) (fp : List Addr) : Cx := X.blk s H scope (compEnvC scope cl C X.env) fp
/-- the tests of a clause -/
def Ets (X : Cx) (H0 : Hp) (Oc : List Addr) (Γ : List Sl) : List Expr → Bool → Prop
  | [], b => b = true
  | [c], b => Et X H0 Oc Γ c b
  | _, _ => False
section
variable {X : Cx} {W : WX} {H0 : Hp} {Oc : List Addr} {Γ Γ1 Γ' : List Sl} {e a b c o tg iter elt : Expr} {ifs : List Expr} {ds : List D} {pos pos' : Pos} {scope : Scope} {own : List (Str × Nat)}
def wG (X : Cx) (scope : Scope) (tg : Expr) : TG := fun v σ H Q => ∀ s0 H00 C cl fp, wpG (blkX X scope s0 H00 C cl fp) tg v σ H Q
def wE (X : Cx) (scope : Scope) (e : Expr) : TE := fun σ H Q => ∀ s0 H00 C cl fp, wpE (blkX X scope s0 H00 C cl fp) e σ H Q
def wT (X : Cx) (scope : Scope) : List Expr → TT
  | [] => tYes
  | [c] => fun σ H Q => ∀ s0 H00 C cl fp, wpT (blkX X scope s0 H00 C cl fp) c σ H Q
  | _ => fun _ _ _ => False
theorem pts_wT : ∀ {ifs : List Expr} {s0 H00 C cl fp}, PTs (blkX X scope s0 H00 C cl fp) ifs (wT X scope ifs)
  | [], _, _, _, _, _ => pts_nil
  | [c], s0, H00, C, cl, fp => pts_one ⟨fun pins s σ H Q I h => h s0 H00 C cl fp pins s I⟩
  | _ :: _ :: _, _, _, _, _, _ => ⟨fun pins s σ H Q I h => h.elim⟩
theorem lc_run {α : Type} (xs : List α) (enc : α → D) (p : α → Bool) (g : α → D) (Γe : α → List Sl) {Δ : List Sl} {τ : List (Option V)} {σ : L2.St} {H : Hp} {Q : VK} {wi : TI} (hl : τ.length = Δ.length) (w : Wf X.K H0 Oc (Δ ++ Γ) (τ ++ σ) H)
    (hwi : ∀ (Δ : List Sl) (τ : List (Option V)) (σ : L2.St) (H : Hp) (R : It → Hp → Prop), τ.length = Δ.length → Wf X.K H0 Oc (Δ ++ Γ) (τ ++ σ) H →
      (∀ J Δh τh H', (∀ H0' Oc', ItOk X.K H0' Oc' J Δh τh (xs.map enc)) → Δh.map Sl.arg = Δh → Wf X.K H0 Oc (Δh ++ (Δ ++ Γ)) (τh ++ (τ ++ σ)) H' → R J H') → wi σ H R)
    (hn : xs.length ≤ 1000000)
    (ht : ∀ x ∈ xs, ∀ H0' Oc' s0 H00 C cl fp, Tgw (blkX X scope s0 H00 C cl fp) H0' Oc' (own.map (·.2)) tg (wipeG (Γ.map Sl.arg) (own.map (·.2))) (.va (enc x)) (Γe x))
    (hst : ∀ x ∈ xs, stab (Γe x) = true ∧ Sub (wipeG (Γe x) (own.map (·.2))) (wipeG (Γ.map Sl.arg) (own.map (·.2))))
    (hp : ∀ x ∈ xs, ∀ H0' Oc' s0 H00 C cl fp, Ets (blkX X scope s0 H00 C cl fp) H0' Oc' (Γe x) ifs (p x))
    (he : ∀ x ∈ xs, p x = true → ∀ H0' Oc' s0 H00 C cl fp, Ev (blkX X scope s0 H00 C cl fp) H0' Oc' (Γe x) elt (.va (g x)))
    (q : ∀ v H', Wf X.K H0 Oc (.ow (.lst ((xs.filter p).map g)) :: (Δ ++ Γ)) (some v :: (τ ++ σ)) H' → Q v H') : tLc wi (wG X scope tg) (wT X scope ifs) (wE X scope elt) (own.map (·.2)) σ H Q := by
  refine hwi Δ τ σ H _ hl w fun J Δh τh H1 ok harg w1 => fun Dl hD => ?_
  obtain ⟨O, w1⟩ := w1
  have ok := ok H1 O
  have w1o : WfO X.K H0 Oc O (Δ ++ Γ) (τ ++ σ) H1 := w1.drop ok.len
  have hla : τ.length = (Δ.map Sl.arg).length := by simp [hl]
  have wb0 := w1.toArg'
  rw [List.map_append, harg, List.map_append] at wb0
  have hl3 : (τh ++ τ).length = (Δh ++ Δ.map Sl.arg).length := by simp [hl, ok.len]
  let Γw := wipeG (Γ.map Sl.arg) (own.map (·.2))
  let A := Δh ++ Δ.map Sl.arg
  let B := τh ++ τ
  have wb : Wf X.K H1 O (A ++ Γw) (B ++ wipe σ (own.map (·.2))) H1 := by
    rw [app3, app3] at wb0
    exact wb0.wiped hl3 _
  let res : Nat → List D := fun i => ((xs.take i).filter p).map g
  have stA : stab A = true := by rw [stab_app, ok.st, stab_arg]; rfl
  refine ⟨fun i m H => m = xs.length - i ∧ i ≤ xs.length ∧ Wf X.K H1 O (.ow (.lst (res i)) :: (A ++ Γw)) (some (.ref Dl) :: (B ++ wipe σ (own.map (·.2)))) H, ⟨xs.length, by simp, Nat.zero_le _, ?_⟩, ?_⟩
  · obtain ⟨O', wb⟩ := wb
    exact ⟨_, wb.newLst hD Reps.nil⟩
  rintro i m H2 ⟨rfl, hi, w2⟩
  by_cases hlt : i < xs.length
  · have w2' : Wf X.K H1 O ([.ow (.lst (res i))] ++ (Δh ++ (Δ.map Sl.arg ++ Γw))) ([some (.ref Dl)] ++ (τh ++ (τ ++ wipe σ (own.map (·.2))))) H2 := by
      rw [app3 (a := Δh), app3 (a := τh)]
      exact w2
    obtain ⟨g1, g2⟩ := ok.go i [_] _ [_] _ H2 rfl (by simpa using hlt) w2'
    refine .inr ⟨g1, fun H' => Wf X.K H1 O (.ow (.lst (res (i + 1))) :: (A ++ Γw)) (some (.ref Dl) :: (B ++ wipe σ (own.map (·.2)))) H', fun H' q1 => ⟨xs.length - (i + 1), by omega, rfl, hlt, q1⟩, fun y H' yy => ?_⟩
    obtain ⟨d, hd, w3⟩ := g2 y H' yy
    have ex : xs[i]? = some xs[i] := List.getElem?_eq_getElem hlt
    generalize xs[i] = x at ex
    have hx : x ∈ xs := List.mem_of_getElem? ex
    rw [List.getElem?_map, ex] at hd
    have hd' := Option.some.inj hd
    subst hd'
    have hres : res (i + 1) = if p x = true then res i ++ [g x] else res i := by
      show ((xs.take (i + 1)).filter p).map g = if p x = true then ((xs.take i).filter p).map g ++ [g x] else ((xs.take i).filter p).map g
      rw [List.take_add_one, ex, List.filter_append]
      cases hp' : p x <;> simp [hp']
    have hlr : (res i).length ≤ 1000000 := by
      show (((xs.take i).filter p).map g).length ≤ _
      rw [List.length_map]
      have h1 := List.length_filter_le p (xs.take i)
      rw [List.length_take] at h1
      omega
    have w3' : Wf X.K H1 O (.va (enc x) :: ((.ow (.lst (res i)) :: A) ++ Γw)) (some y :: ((some (.ref Dl) :: B) ++ wipe σ (own.map (·.2)))) H' := by
      have e1 : [Sl.ow (.lst (res i))] ++ (Δh ++ (Δ.map Sl.arg ++ Γw)) = (.ow (.lst (res i)) :: A) ++ Γw := by
        show _ :: (Δh ++ (Δ.map Sl.arg ++ Γw)) = _ :: ((Δh ++ Δ.map Sl.arg) ++ Γw)
        rw [app3]
      have e2 : [some (V.ref Dl)] ++ (τh ++ (τ ++ wipe σ (own.map (·.2)))) = (some (.ref Dl) :: B) ++ wipe σ (own.map (·.2)) := by
        show _ :: (τh ++ (τ ++ wipe σ (own.map (·.2)))) = _ :: ((τh ++ τ) ++ wipe σ (own.map (·.2)))
        rw [app3]
      rw [e1, e2] at w3
      exact w3
    have hlA : (some (V.ref Dl) :: B).length = (Sl.ow (.lst (res i)) :: A).length := congrArg Nat.succ hl3
    obtain ⟨st1, st2⟩ := hst x hx
    -- the turn's end, once the slots are wiped
    have back : ∀ {r : List D} {σ2 : L2.St} {H4 : Hp}, wipe σ2 (own.map (·.2)) = wipe σ (own.map (·.2)) → Wf X.K H1 O ((.ow (.lst r) :: A) ++ Γe x) ((some (.ref Dl) :: B) ++ σ2) H4 → Wf X.K H1 O (.ow (.lst r) :: (A ++ Γw)) (some (.ref Dl) :: (B ++ wipe σ (own.map (·.2)))) H4 := fun {r σ2 H4} hw w => by
      have z := (w.wiped (show (some (V.ref Dl) :: B).length = (Sl.ow (.lst r) :: A).length from congrArg Nat.succ hl3) (own.map (·.2))).sub (Sub.app st2)
      rw [hw] at z
      exact z
    refine fun s0 H00 C cl fp => ht x hx H1 O s0 H00 C cl fp (.ow (.lst (res i)) :: A) (some (.ref Dl) :: B) _ H' y _ hlA w3' fun σ2 H3 hw2 w4 => ?_
    rw [wipe_wipe] at hw2
    refine ⟨hw2, ?_⟩
    have cont : ∀ (b : Bool) (H4 : Hp), b = p x → Wf X.K H1 O ((.ow (.lst (res i)) :: A) ++ Γe x) ((some (.ref Dl) :: B) ++ σ2) H4 →
        (if b = true then wE X scope elt σ2 H4 fun y H5 => ∃ acc, H5 Dl = some (.lst acc) ∧ acc.length < sizeLine ∧ Wf X.K H1 O (.ow (.lst (res (i + 1))) :: (A ++ Γw)) (some (.ref Dl) :: (B ++ wipe σ (own.map (·.2)))) (upd H5 Dl (.lst (acc ++ [y])))
          else Wf X.K H1 O (.ow (.lst (res (i + 1))) :: (A ++ Γw)) (some (.ref Dl) :: (B ++ wipe σ (own.map (·.2)))) H4) := fun b H4 hb w5 => by
      subst hb
      cases hpx : p x with
      | false =>
        rw [hres, hpx]
        exact back hw2 w5
      | true =>
        refine fun s0 H00 C cl fp => he x hx hpx H1 O s0 H00 C cl fp (.ow (.lst (res i)) :: A) (some (.ref Dl) :: B) σ2 H4 _ hlA w5 fun y' H5 ⟨O5, w6⟩ => ?_
        obtain ⟨pp, oo, e1, k2, k3, k4, k5⟩ := w6.pop.head
        cases e1
        obtain ⟨v', e2, rv⟩ := w6.head
        cases e2
        cases oo <;> first | exact k5.elim | skip
        rename_i us
        have k5' : Reps X.K (cut H5 O5) (res i) us := k5
        refine ⟨us, k4, ?_, ?_⟩
        · rw [k5'.len, sizeLine_eq]
          omega
        · rw [hres, hpx]
          refine back hw2 ⟨O5, ?_⟩
          have z := w6.pop.mut (i := 0) (d' := .lst (res i ++ [g x])) (o' := .lst (us ++ [y'])) (by
            show stab ((Sl.ow (.lst (res i)) :: A) ++ Γe x) = true
            rw [stab_app, st1, stab_cons, stA]
            rfl) rfl rfl (k5'.app (Reps.one rv))
          exact z
    have tst := hp x hx
    match ifs, tst with
    | [], tst => exact cont true H3 (tst H1 O s0 H00 C cl fp).symm w4
    | [c], tst => exact fun s0 H00 C cl fp => tst H1 O s0 H00 C cl fp (.ow (.lst (res i)) :: A) (some (.ref Dl) :: B) σ2 H3 _ hlA w4 fun H4 w5 => cont _ H4 rfl w5
    | _ :: _ :: _, tst => exact (tst H1 O s0 H00 C cl fp).elim
  · have e : i = xs.length := by omega
    subst e
    have w2' : Wf X.K H1 O ([.ow (.lst (res xs.length))] ++ (Δh ++ (Δ.map Sl.arg ++ Γw))) ([some (.ref Dl)] ++ (τh ++ (τ ++ wipe σ (own.map (·.2))))) H2 := by
      rw [app3 (a := Δh), app3 (a := τh)]
      exact w2
    refine .inl ⟨ok.stop _ [_] _ [_] _ H2 rfl (by simp) w2', ?_⟩
    have w3 := w2.only
    have e : res xs.length = (xs.filter p).map g := by
      show ((xs.take xs.length).filter p).map g = _
      rw [List.take_length]
    rw [e] at w3
    exact q _ H2 (w1o.after w3 rfl)
end
end Y

namespace Sup
open PySem PySem.Spec PyProof.Rows L2 NdefX

/-! ## a body that says super(): it is walked where its own code stands on top -/
structure PSA (X : Cx) (c : Code) (st : List Stmt) (t : TS) : Prop where
  run : ∀ (pins : List (Addr × Obj)) (s : Shared) (σ : L2.St) (H : Hp) (D : Ends), Inv X pins σ H s → t D σ H →
    _root_.PySem.wpAt (model X.prog X.w) X.A c (execs st X.env) (SP X pins D) X.xe s
section
variable {X : Cx} {c : Code} {st : Stmt} {rest : List Stmt} {t u : TS}
theorem psa_of (h : PSs X rest t) : PSA X c rest t := ⟨fun pins s σ H D I q => _root_.PySem.wpAt_of_wpAny (h.run pins s σ H D I q)⟩
theorem psa_cons (h1 : PS X st t) (h2 : PSA X c rest u) : PSA X c (st :: rest) (tSeq t u) := by
  refine ⟨fun pins s σ H D I q => ?_⟩
  refine ks_wpAt_execs_cons (_root_.PySem.wpAt_of_wpAny (thn (h1.run pins s σ H { D with nx := u D } I q) fun f s1 q1 => ?_))
  cases f with
  | next =>
    obtain ⟨σ', H', I', q'⟩ := q1
    exact h2.run pins s1 σ' H' D I' q'
  | ret v => exact q1
  | brk => exact q1
  | cont => exact q1
end

/-- a def whose body may say super(): F tells its text, fr the captured names (`__class__`), ws what they hold -/
theorem fn_ofA {CX : CXT} {P : Program} {w : World} {K : PySem.W.Frag} {mg : Str → Option Value} {base : Heap} {k : Nat} {f : Addr} {F : NF} {dV kV doc pm ct oc : Value} {an od : Option Addr} {osl : Array (Option Value)} {N ps fr : List Str} {ws : List (Option V)} {sp : Sp}
    (lk : K.lookup f = some ⟨oc, od, .func (PySem.W.fnX F.name F.qual F.params F.body F.scope F.cl dV kV doc pm an (.ref F.c) ct), osl⟩) (hcd : PySem.W.codeIn K (.ref F.c) F.qual = true) (S : NScope N ps fr F.scope)
    (hc : ∀ (s : Shared) (A : Around) (outer : List Env) (H : Hp), Env0 P w K mg base A outer s H → CellsAt F.cl fr ws s.heap H)
    (len : ∀ vs H Q E, sp vs H Q E → vs.length = ps.length)
    (hbody : ∀ (A : Around) (outer : List Env) (s : Shared) (H : Hp) (vs : List V) (Q : VK) (E : XK), Room k (A.deeper (envF F f s.heap.objs.size)) → sp vs H Q E →
      ∃ t, PSA (ncx CX P w K mg base N F f A outer s H E) (.func F.body (envF F f s.heap.objs.size)) F.body t ∧ t { nx := fun _ H' => Q .non H', rt := Q } (startF N vs ws) H) :
    FnOk P w K mg base CX (k + 1) f (PySem.W.fnX F.name F.qual F.params F.body F.scope F.cl dV kV doc pm an (.ref F.c) ct) ps sp := by
  refine ⟨len, fun A outer s H args us vs Q E hr e0 hb r hsp => ?_⟩
  have hl := len _ _ _ _ hsp
  have KX : K.In s.heap := e0.mod.kin.keeps fun b o e => (e0.bs b o e).1
  have lim : s.heap.NoLimit := e0.mod.nolimit.keeps fun b o e => (e0.bs b o e).1
  refine ks_codeAny_call_defAt (body := F.body) (binds := ps.zip us) hr.depth (KX _ _ lk) rfl lim (PySem.W.codeRec_of KX hcd) rfl hb S.nocell (fun y hy => S.par _ (List.of_mem_zip hy).1) (fun h₁ hns kp => ?_) S.co S.gen S.kind
  obtain ⟨t, ht, hq⟩ := hbody A outer s H vs Q E (hr.deeper _) hsp
  have I : Inv (ncx CX P w K mg base N F f A outer s H E) [] (startF N vs ws) H { s with heap := h₁, toks := s.toks + (ps.zip us).length } := inv_startN S hr.hd e0 hl r (hc s A outer H e0) hns kp
  refine _root_.PySem.wpAt_mono (ht.run [] _ (startF N vs ws) H _ I hq) (fun fl s' hs => ?_) fun e s' hs => hs
  have fin : ∀ {σ' : L2.St} {H' : Hp} {v : V} {u : Value}, Inv (ncx CX P w K mg base N F f A outer s H E) [] σ' H' s' → L2.RelV v u → Q v H' → CE outer P w H s Q u s' :=
    fun {σ' H' v u} J rv q => ⟨v, H', J.os, J.bare, J.base, J.hok, rv, q⟩
  cases fl with
  | ret u =>
    obtain ⟨v, σ', H', J, rv, q⟩ := hs
    exact fin J rv q
  | next =>
    obtain ⟨σ', H', J, q⟩ := hs
    exact fin (v := V.non) (u := Value.none) J rfl q
  | brk =>
    obtain ⟨_, _, _, q⟩ := hs
    exact False.elim q
  | cont =>
    obtain ⟨_, _, _, q⟩ := hs
    exact False.elim q

/-- the cell of `__class__` stands in the written part -/
theorem cells_class {P : Program} {w : World} {K : PySem.W.Frag} {mg : Str → Option Value} {base : Heap} {A : Around} {outer : List Env} {s : Shared} {H : Hp} {cc C : Addr} {cl : Value} {cld : Option Addr} {csl : Array (Option Value)}
    (hk : K.lookup cc = some ⟨cl, cld, .cell (some (.ref C)), csl⟩) (e0 : Env0 P w K mg base A outer s H) : CellsAt [(("__class__" : Str), cc)] [("__class__" : Str)] [some (.ref C)] s.heap H := by
  have hb : base.get? cc = some ⟨cl, cld, .cell (some (.ref C)), csl⟩ := e0.mod.kin _ _ hk
  obtain ⟨h1, h2⟩ := e0.bs _ _ hb
  have one : ∀ y c, List.lookup y [(("__class__" : Str), cc)] = some c → y = ("__class__" : Str) ∧ c = cc := fun y c e => by
    simp only [List.lookup_cons, List.lookup_nil] at e
    split at e
    · rename_i q
      exact ⟨by simpa using q, (Option.some.inj e).symm⟩
    · cases e
  refine ⟨rfl, fun y c e => ?_, fun x y c e1 e2 => (one x c e1).1.trans (one y c e2).1.symm, fun i y e => ?_⟩
  · obtain ⟨_, rfl⟩ := one y c e
    exact ⟨h2, _, _, h1, rfl⟩
  · cases i with
    | zero =>
      have e' : y = ("__class__" : Str) := (Option.some.inj e).symm
      subst e'
      refine ⟨cc, by simp [List.lookup_cons], fun v hv => ?_⟩
      have : v = V.ref C := by
        have := Option.some.inj (Option.some.inj hv)
        exact this.symm
      subst this
      exact ⟨.ref C, rfl, _, h1, rfl⟩
    | succ i => simp at e

/-- what the written part says of a def with super(): its function object, its code's record, the cell of `__class__` (the class at D) -/
structure SupAt (P : Program) (K : PySem.W.Frag) (mg : Str → Option Value) (f cda cc D : Addr) (fd : FuncData) (sf : Str) : Prop where
  fn : ∃ oc od osl, K.lookup f = some ⟨oc, od, .func fd, osl⟩
  par : ∃ ar : Arg, (fd.params.posonlyargs ++ fd.params.args).head? = some ar ∧ ar.arg = sf
  code : ∃ ccl cdd vs ccs file tf, K.lookup cda = some ⟨ccl, cdd, .fields vs, ccs⟩ ∧ vs[2]? = some (.str file tf) ∧ ((P.main.file : Str) == file) = true
  top : (P.main.scope.names.lookup ("super" : Str)).isSome = false
  noSup : mg "super" = none
  cls : ∃ cdD, PySem.W.clsIn K D = some cdD
  thr : PySem.W.nsIn K PySem.cStatics "thirdparty.any" = some none

/-- `super()` evaluated in the body: a new super object for the class D and the instance in slot i -/
theorem sup_base {X : Cx} {body : List Stmt} {p0 p1 : Pos} {attr : Str} {whole : Sem Value} {f cda cc D C a : Addr} {fd : FuncData} {sf : Str} {ox : Obj} {i j : Nat} {pins : List (Addr × Obj)} {s : Shared} {σ : L2.St} {H : Hp} {Q : Value → Shared → Prop}
    (T : SupAt X.prog X.K X.mg f cda cc D fd sf) (hfu : X.env.func = some f) (hco : X.env.code = .ref cda)
    (hks : X.env.kindOf "super" = some .globalImplicit) (hkc : X.env.kindOf "__class__" = some .free) (hka : X.env.kindOf sf = some .local) (hat : (attr == ("__class__" : Str)) = false)
    (hNi : X.N[i]? = some sf) (hNj : X.N[j]? = some ("__class__" : Str)) (hself : σ[i]? = some (some (.ref a))) (hcls : σ[j]? = some (some (.ref D)))
    (I : Inv X pins σ H s) (ho : s.heap.get? a = some ox) (hc : ox.cls = .ref C) (hnc : ∀ c, ox.data ≠ .cls c) (hsub : PySem.W.mroIn X.K C (.ref D) = some true)
    (h : ∀ so h', h'.get? so = some { cls := .type "super", dict := none, data := .fields #[.ref D, .ref a, .ref C], slots := #[] } → Inv X pins σ H { s with heap := h' } → (∀ b o, s.heap.get? b = some o → h'.get? b = some o) → Q (.ref so) { s with heap := h' }) :
    _root_.PySem.wpAt (model X.prog X.w) X.A (.func body X.env) (attributeBase (.Call (.Name "super" p0) [] [] p1) attr X.env whole) Q X.xe s := by
  obtain ⟨oc, od, osl, hf⟩ := T.fn
  obtain ⟨ar, hp, har⟩ := T.par
  obtain ⟨ccl, cdd, vs, ccs, file, tf, hcode, hvs, hfile⟩ := T.code
  obtain ⟨cdD, hD⟩ := T.cls
  have KX := I.kIn
  obtain ⟨mb, hb1, hb2⟩ := I.mod.blt
  obtain ⟨m, hn, hl⟩ := I.loc
  obtain ⟨us, rs, ls⟩ := hl i sf _ hNi hself (.inl hka)
  obtain ⟨uc, rc, lc⟩ := hl j "__class__" _ hNj hcls (.inr (.inr hkc))
  obtain rfl : us = Value.ref a := rs
  obtain rfl : uc = Value.ref D := rc
  have hmself : m sf = some (Value.ref a) := by
    rcases ls with ⟨_, e⟩ | ⟨k, _⟩
    · exact e
    · rcases k with k | k <;> (rw [hka] at k; cases k)
  obtain ⟨c, hcell, hiscell⟩ : ∃ c, X.env.cells.lookup ("__class__" : Str) = some c ∧ s.heap.IsCell c (some (.ref D)) := by
    rcases lc with ⟨k, _⟩ | ⟨_, c, e1, e2⟩
    · rw [hkc] at k; cases k
    · exact ⟨c, e1, e2⟩
  obtain ⟨oD, hD1, hD2⟩ : ∃ oD, s.heap.get? D = some oD ∧ oD.data = .cls cdD := by
    unfold PySem.W.clsIn at hD
    split at hD
    · rename_i c d cd' sl hh
      cases hD
      exact ⟨_, KX _ _ hh, rfl⟩
    · cases hD
  refine ks_wpAt_super_base hks hkc hat hfu (KX _ _ hf) rfl hp hco (KX _ _ hcode) rfl hvs hfile T.top ?_
  refine PySem.W.ks_loadName_global I.ok.kind hks (Calls.loadGlobal_builtin (by rw [I.ok.glob]; exact I.mod.glob.keeps I.bk) T.noSup (by rw [I.ok.blt]; exact hb1.keeps I.bk) ((hb2 _ (by decide +kernel)).trans (by decide +kernel : bootBuiltins "super" = some (.type "super"))) ⟨rfl, ?_⟩)
  refine wpAny_loadName_free I.ok.kind hkc hcell hiscell ?_
  rw [har]
  refine wpAny_loadName_local I.ok.kind hka hn hmself ?_
  refine ks_wpAny_isType_cls hD1 hD2 ⟨rfl, ?_⟩
  obtain ⟨hh, g, d, t, os⟩ := s
  refine ks_wpAny_call_super hD1 hD2 ho hc hnc (PySem.W.looks_mroIn KX hsub) (fun h' e k => ?_)
  exact h _ h' e (I.kept (t' := t) k) k

section
variable {X : Cx} {pins : List (Addr × Obj)} {σ : L2.St} {H : Hp} {s : Shared}
/-- an untracked new object is kept as a pin -/
theorem pin_new {h' : Heap} {q : Addr} {o : Obj} (I : Inv X pins σ H s) (t' : Nat) (k : ∀ b u, s.heap.get? b = some u → h'.get? b = some u) (hq : s.heap.objs.size ≤ q) (ho : h'.get? q = some o) (hd : ∀ v, o.data ≠ .cell v) :
    Inv X ((q, o) :: pins) σ H { s with heap := h', toks := t' } := by
  have J : Inv X pins σ H { s with heap := h', toks := t' } := I.kept (t' := t') k
  refine J.pins_of fun p hp => ?_
  rcases List.mem_cons.mp hp with rfl | hp
  · exact ⟨ho, I.hok.fresh hq, fun z => absurd (Nat.lt_of_lt_of_le I.lt hq) (by rw [← z]; exact Nat.lt_irrefl _), I.nofs hq, hd⟩
  · exact J.pin p (List.mem_append_right _ hp)
theorem unpin {p : Addr × Obj} (I : Inv X (p :: pins) σ H s) : Inv X pins σ H s := I.pins_of fun q hq => I.pin q (List.mem_append_right _ (List.mem_cons_of_mem _ hq))
end

/-- super().__init__(..) of an exception over ValueError that is being made: nothing of it is told -/
def tSupE (i j : Nat) (C D : Addr) (ta : TA) (u : TS) : TS := fun E σ H => ∃ a : Addr, σ[j]? = some (some (.ref D)) ∧ σ[i]? = some (some (.ref a)) ∧ H a = some (exo a C none) ∧
  ta σ H fun vs H1 => vs.length ≤ 1000 ∧ H1 a = some (exo a C none) ∧ u E σ H1
/-- what the written part says of the class C (the body's class is D) for super().__init__ to be ValueError.__init__ -/
structure SupE (K : PySem.W.Frag) (C D : Addr) : Prop where
  ox : OexC K C
  sub : PySem.W.mroIn K C (.ref D) = some true
  sup : PySem.W.ks_superIn K C D "__init__" = some (some (.builtin "ValueError.__init__"))
  ve : PySem.W.subIn K (.ref C) (.type "ValueError") = some true
theorem mw_nocell {i : String} {x : Addr} : ∀ v, (PySem.W.kxs_mw i x).data ≠ .cell v := fun v => by
  unfold PySem.W.kxs_mw
  exact fun z => nomatch z
theorem call_mw {X : Cx} {pins : List (Addr × Obj)} {σ : L2.St} {H : Hp} {s : Shared} {u a C D : Addr} {us : List Value} {Q : Value → Shared → Prop} {E : Value → Shared → Prop} (T : SupE X.K C D) (I : Inv X pins σ H s) (hu : s.heap.get? u = some (PySem.W.kxs_mw "ValueError.__init__" a)) (e : H a = some (exo a C none)) (hl : us.length ≤ sizeLine)
    (h : ∀ s', Inv X pins σ H s' → Q .none s') : wpAny (model X.prog X.w) X.A (call (.ref u) us) Q E s := by
  obtain ⟨nm, q, N, bs, bm, sn, sub, ab, col, dd, k0, k1, k2, k3, k5, hC, hbm⟩ := T.ox.cls
  obtain ⟨t1, ho⟩ := exo_at I.hok e
  have KX := I.kIn
  obtain ⟨hp, g, d, t, os⟩ := s
  refine wpAny_call (codeAny_of_tree ?_)
  show wpAny _ X.A.in1 (callAny (.ref u) ⟨us, []⟩) _ _ _
  simp only [callAny]
  refine wpAny_bind (wpAny_load hu ?_)
  simp only [PySem.W.kxs_mw, show (Value.type "method-wrapper" == Value.type "method" || Value.type "method-wrapper" == Value.type "builtin_function_or_method" || Value.type "method-wrapper" == Value.type "method-wrapper") = true by decide, if_true]
  refine PySem.W.KFB.if_so (by decide) ?_
  refine wpAny_bind (PySem.W.check_bound_init F.excBase_ValueError.toExcCallFacts (KX _ _ hC) ho rfl ?_)
  refine wpAny_bind (wpAny_pure (wpAny_pure ?_))
  refine ⟨PySem.plainId_quiet F.excBase_ValueError.init.plain _, codeAny_builtin F.excBase_ValueError.initEntry ?_⟩
  refine PySem.W.exc_init_tree (cls := .ref C) (t0 := t1) (dv := none) (c2 := .none) (c3 := .none) (b4 := .bool false) ho hl fun h' k hx _ => ?_
  have J := I.write (t' := t) (x := a) (e := a) (o := exo a C none) (by rw [e]; exact True.intro) (.inl rfl) k ⟨_, hx⟩ (exo_ok hx)
  have eu : upd H a (exo a C none) = H := by
    funext b
    by_cases hb : b = a
    · rw [hb, upd_same, e]
    · rw [upd_ne hb]
  rw [eu] at J
  exact h _ J
theorem psa_superE {X : Cx} {body : List Stmt} {rest : List Stmt} {p0 p1 p2 p3 p4 : Pos} {f cda cc C D : Addr} {fd : FuncData} {sf : Str} {i j : Nat} {e : Expr} {es : List Expr} {ta : TA} {u : TS} {pl : Sem Bool}
    (T : SupAt X.prog X.K X.mg f cda cc D fd sf) (S : SupE X.K C D) (hfu : X.env.func = some f) (hco : X.env.code = .ref cda)
    (hks : X.env.kindOf "super" = some .globalImplicit) (hkc : X.env.kindOf "__class__" = some .free) (hka : X.env.kindOf sf = some .local)
    (hNi : X.N[i]? = some sf) (hNj : X.N[j]? = some ("__class__" : Str))
    (ha : PA X (e :: es) ta) (hr : PSA X (.func body X.env) rest u)
    (hi : interactive X.env = false := by rfl) (hs : swapsWith (.Call (.Attribute (.Call (.Name "super" p0) [] [] p1) "__init__" p2) (e :: es) [] p3) none p4.line X.env = pure false := by rfl)
    (he : starEach (e :: es) X.env = (false, eval e X.env) :: starEach es X.env := by rfl) (hpl : (backTo p3 (starEach es X.env)).any (·.1) = false := by rfl)
    (hev : eval (.Call (.Attribute (.Call (.Name "super" p0) [] [] p1) "__init__" p2) (e :: es) [] p3) X.env = (do
      let ov ← attributeBase (.Call (.Name "super" p0) [] [] p1) "__init__" X.env (eval (.Call (.Name "super" p0) [] [] p1) X.env)
      standAt p2.atName
      let (f, first) ← holding [ov] (getMethod ov "__init__" pl)
      callWith p3 f first (backTo p3 (starEach (e :: es) X.env)) []) := by rfl) :
    PSA X (.func body X.env) (.Expr (.Call (.Attribute (.Call (.Name "super" p0) [] [] p1) "__init__" p2) (e :: es) [] p3) p4 :: rest)
      (tSupE i j C D ta u) := by
  refine ⟨fun pins s σ H D' I q => ?_⟩
  obtain ⟨a, hcls, hself, ea, q⟩ := q
  obtain ⟨nm, qn, N', bs, bm, sn, sub, ab, col, dd, k0, k1, k2, k3, k5, hCl, hbm⟩ := S.ox.cls
  obtain ⟨t1, ho⟩ := exo_at I.hok ea
  have hcl : PySem.W.clsIn X.K C = some { name := nm, bases := bs, mro := .ref C :: bm, ns := N', qualname := qn, hasDict := true, slotNames := sn, subclasses := sub, abstract := ab, collection := col, hasDel := false } := by unfold PySem.W.clsIn; rw [hCl] <;> rfl
  refine ks_wpAt_execs_cons (ks_wpAt_Expr_any ?_ hi hs)
  refine ks_wpAt_MethodCall (pl := pl) ?_ hev
  refine sup_base T hfu hco hks hkc hka (by decide) hNi hNj hself hcls I ho rfl (fun c => by exact fun z => nomatch z) S.sub fun so h' hso J k => ?_
  have KJ := J.kIn
  have hoJ : h'.get? a = some ({ cls := .ref C, dict := none, data := .fields #[.ref t1, .none, .none, .none, .bool false, .none] } : Obj) := k _ _ ho
  have IA : PySem.W.InstAt h' a { cls := .ref C, dict := none, data := .fields #[.ref t1, .none, .none, .none, .bool false, .none] } C none := ⟨hoJ, rfl, rfl, trivial⟩
  have hf := S.sup
  unfold PySem.W.ks_superIn at hf
  rw [hcl] at hf
  obtain ⟨hh, g, d, t, os⟩ := s
  refine PySem.W.kxs_getMethod PySem.W.kxs_ValueError hso (PySem.W.looks_opaque KJ T.thr) ((PySem.W.looks_clsIn KJ hcl).andThen .now) rfl KJ hf (IA.type.andThen (PySem.W.looks_subIn KJ S.ve)) (PySem.W.ks_ne KJ IA hcl) (by decide) ?_
  have J2 := pin_new (t' := t + 1) J (h' := h'.push (PySem.W.kxs_mw "ValueError.__init__" a)) (q := h'.objs.size) (o := PySem.W.kxs_mw "ValueError.__init__" a) (fun b u e => Heap.get?_push_of_some _ e) (Nat.le_refl _) (Heap.get?_push_at rfl rfl) mw_nocell
  rw [he]
  refine PySem.W.kxs_callWith (i := "ValueError.__init__") (x := a) (by show (false || (backTo p3 (starEach es X.env)).any (·.1)) = false; rw [hpl]; rfl) ?_
  refine Calls.evalArgs_plain ?_
  have hrun := ha.run p3 _ _ σ H _ J2 q
  rw [he] at hrun
  refine thn hrun fun us s1 ⟨vs, H1, I1, r1, hl, ea1, q1⟩ => ?_
  have hu : s1.heap.get? h'.objs.size = some (PySem.W.kxs_mw "ValueError.__init__" a) := (I1.pin (h'.objs.size, PySem.W.kxs_mw "ValueError.__init__" a) (List.mem_append_right _ List.mem_cons_self)).1
  refine ⟨hu, call_mw S (unpin I1) hu ea1 (by
    show ([] ++ us).length ≤ sizeLine
    rw [List.nil_append, ← Paired.length r1, sizeLine_eq]
    omega) fun s' J' => ?_⟩
  exact hr.run pins s' σ H1 D' J' q1

/-! ## the own exceptions: super().__init__('..'); self.f = f; (self.g = g) -/
/-- the body's text -/
def exB1 (txt f : Str) (b : List Stmt) : Prop := ∃ p0 p1 p2 p3 p4 p5 p6 p7 p8 p9 ck, (∀ env : Env, ∃ pl, eval (.Call (.Attribute (.Call (.Name "super" p0) [] [] p1) "__init__" p2) [.Constant (.str txt) ck p5] [] p3) env = (do
      let ov ← attributeBase (.Call (.Name "super" p0) [] [] p1) "__init__" env (eval (.Call (.Name "super" p0) [] [] p1) env)
      standAt p2.atName
      let (f, first) ← holding [ov] (getMethod ov "__init__" pl)
      callWith p3 f first (backTo p3 (starEach [.Constant (.str txt) ck p5] env)) [])) ∧ b = [.Expr (.Call (.Attribute (.Call (.Name "super" p0) [] [] p1) "__init__" p2) [.Constant (.str txt) ck p5] [] p3) p4, .Assign [.Attribute (.Name "self" p6) f p7] (.Name f p8) p9]
def exB2 (txt f g : Str) (b : List Stmt) : Prop := ∃ p0 p1 p2 p3 p4 p5 p6 p7 p8 p9 q6 q7 q8 q9 ck, (∀ env : Env, ∃ pl, eval (.Call (.Attribute (.Call (.Name "super" p0) [] [] p1) "__init__" p2) [.Constant (.str txt) ck p5] [] p3) env = (do
      let ov ← attributeBase (.Call (.Name "super" p0) [] [] p1) "__init__" env (eval (.Call (.Name "super" p0) [] [] p1) env)
      standAt p2.atName
      let (f, first) ← holding [ov] (getMethod ov "__init__" pl)
      callWith p3 f first (backTo p3 (starEach [.Constant (.str txt) ck p5] env)) [])) ∧ b = [.Expr (.Call (.Attribute (.Call (.Name "super" p0) [] [] p1) "__init__" p2) [.Constant (.str txt) ck p5] [] p3) p4, .Assign [.Attribute (.Name "self" p6) f p7] (.Name f p8) p9, .Assign [.Attribute (.Name "self" q6) g q7] (.Name g q8) q9]
/-- the exception C(v): its own dict d, new, holds the field -/
def spEx1 (C : Addr) (f : Str) : Sp := fun vs H Q _ => ∃ (a : Addr) (v : V), vs = [.ref a, v] ∧ H a = some (exo a C none) ∧
  ∀ d, H d = none → d ≠ a → Q .non (upd (upd H d (exd d [(f, v)])) a (exo a C (some d)))
def spEx2 (C : Addr) (f g : Str) : Sp := fun vs H Q _ => ∃ (a : Addr) (v w : V), vs = [.ref a, v, w] ∧ H a = some (exo a C none) ∧
  ∀ d, H d = none → d ≠ a → Q .non (upd (upd (upd H d (exd d [(f, v)])) a (exo a C (some d))) d (exd d [(g, w), (f, v)]))
abbrev scOf (nm : List (Str × NameKind)) : Scope := { kind := .function, names := nm, isGenerator := false, isCoroutine := false, more := [] }
/-- the scope's words -/
def exSc (sc : Scope) : Bool := decide (sc.names.lookup ("super" : Str) = some .globalImplicit) && decide (sc.names.lookup ("__class__" : Str) = some .free) && decide (sc.names.lookup ("self" : Str) = some .local)
section
variable {P : Program} {w : World} {K : PySem.W.Frag} {mg : Str → Option Value} {base : Heap} {CX : CXT} {fI cda cc C : Addr} {ar : Arguments} {bd : List Stmt} {nm : List (Str × NameKind)} {qual txt f g : Str} {dV kV doc pm ct oc : Value} {an od : Option Addr} {osl : Array (Option Value)}
theorem ok_ex1 (lk : K.lookup fI = some ⟨oc, od, .func (PySem.W.fnX "__init__" qual ar bd (scOf nm) [("__class__", cc)] dV kV doc pm an (.ref cda) ct), osl⟩) (hcd : PySem.W.codeIn K (.ref cda) qual = true)
    (S : NScope ["self", f, "__class__"] ["self", f] ["__class__"] (scOf nm)) (hsc : exSc (scOf nm) = true) (hb : exB1 txt f bd)
    (T : SupAt P K mg fI cda cc C (PySem.W.fnX "__init__" qual ar bd (scOf nm) [("__class__", cc)] dV kV doc pm an (.ref cda) ct) "self") (TE : SupE K C C)
    (hcell : ∃ cl cld csl, K.lookup cc = some ⟨cl, cld, .cell (some (.ref C)), csl⟩) (noF : PySem.W.findIn K (.ref C) f = some none)
    (hd1 : (f == ("__debug__" : Str)) = false) (hd2 : (f == ("__classdict__" : Str)) = false) :
    FnOk P w K mg base CX 1 fI (PySem.W.fnX "__init__" qual ar bd (scOf nm) [("__class__", cc)] dV kV doc pm an (.ref cda) ct) ["self", f] (spEx1 C f) := by
  obtain ⟨cl, cld, csl, hcell⟩ := hcell
  obtain ⟨p0, p1, p2, p3, p4, p5, p6, p7, p8, p9, ck, hev, hb⟩ := hb
  unfold exSc at hsc
  simp only [Bool.and_eq_true, decide_eq_true_eq] at hsc
  obtain ⟨⟨h1, h2⟩, h3⟩ := hsc
  have h4 : (scOf nm).names.lookup f = some .local := S.par f (by simp)
  have hne : f ≠ ("__class__" : Str) := fun z => by rw [z, h2] at h4; cases h4
  refine fn_ofA (k := 0) (F := ⟨"__init__", qual, ar, bd, scOf nm, [("__class__", cc)], cda⟩) (ws := [some (.ref C)]) lk hcd S (fun s A outer H e0 => cells_class hcell e0) (fun vs H Q E h => ?_) (fun A outer s H vs Q E hr h => ?_)
  · obtain ⟨a, v, rfl, _⟩ := h
    rfl
  · obtain ⟨a, v, rfl, ea, q⟩ := h
    subst hb
    show ∃ t, PSA _ _ _ t ∧ _
    obtain ⟨pl, hev⟩ := hev (envF ⟨"__init__", qual, ar, _, scOf nm, [("__class__", cc)], cda⟩ fI s.heap.objs.size)
    refine ⟨_, psa_superE (X := ncx CX P w K mg base ["self", f, "__class__"] ⟨"__init__", qual, ar, _, scOf nm, [("__class__", cc)], cda⟩ fI A outer s H E) (i := 0) (j := 2) (C := C) T TE rfl rfl h1 h2 h3 rfl rfl
      (pa_cons pe_str pa_nil) (psa_of (pss_one (ps_ost (pe_var (i := 0) rfl (.inl h3)) (pe_var (i := 1) rfl (.inl h4) hd1 hd2)))) (hev := hev), ?_⟩
    refine ⟨a, rfl, rfl, ea, (by show 1 ≤ 1000; decide), ea, ?_⟩
    exact ⟨_, rfl, _, rfl, a, C, rfl, TE.ox, noF, .inl ⟨ea, fun dx n ne => q dx n ne⟩⟩
theorem ok_ex2 (lk : K.lookup fI = some ⟨oc, od, .func (PySem.W.fnX "__init__" qual ar bd (scOf nm) [("__class__", cc)] dV kV doc pm an (.ref cda) ct), osl⟩) (hcd : PySem.W.codeIn K (.ref cda) qual = true)
    (S : NScope ["self", f, g, "__class__"] ["self", f, g] ["__class__"] (scOf nm)) (hsc : exSc (scOf nm) = true) (hb : exB2 txt f g bd)
    (T : SupAt P K mg fI cda cc C (PySem.W.fnX "__init__" qual ar bd (scOf nm) [("__class__", cc)] dV kV doc pm an (.ref cda) ct) "self") (TE : SupE K C C)
    (hcell : ∃ cl cld csl, K.lookup cc = some ⟨cl, cld, .cell (some (.ref C)), csl⟩) (noF : PySem.W.findIn K (.ref C) f = some none) (noG : PySem.W.findIn K (.ref C) g = some none)
    (hd1 : (f == ("__debug__" : Str)) = false) (hd2 : (f == ("__classdict__" : Str)) = false) (hd3 : (g == ("__debug__" : Str)) = false) (hd4 : (g == ("__classdict__" : Str)) = false) :
    FnOk P w K mg base CX 1 fI (PySem.W.fnX "__init__" qual ar bd (scOf nm) [("__class__", cc)] dV kV doc pm an (.ref cda) ct) ["self", f, g] (spEx2 C f g) := by
  obtain ⟨cl, cld, csl, hcell⟩ := hcell
  obtain ⟨p0, p1, p2, p3, p4, p5, p6, p7, p8, p9, q6, q7, q8, q9, ck, hev, hb⟩ := hb
  unfold exSc at hsc
  simp only [Bool.and_eq_true, decide_eq_true_eq] at hsc
  obtain ⟨⟨h1, h2⟩, h3⟩ := hsc
  have h4 : (scOf nm).names.lookup f = some .local := S.par f (by simp)
  have h5 : (scOf nm).names.lookup g = some .local := S.par g (by simp)
  refine fn_ofA (k := 0) (F := ⟨"__init__", qual, ar, bd, scOf nm, [("__class__", cc)], cda⟩) (ws := [some (.ref C)]) lk hcd S (fun s A outer H e0 => cells_class hcell e0) (fun vs H Q E h => ?_) (fun A outer s H vs Q E hr h => ?_)
  · obtain ⟨a, v, w, rfl, _⟩ := h
    rfl
  · obtain ⟨a, v, z, rfl, ea, q⟩ := h
    subst hb
    show ∃ t, PSA _ _ _ t ∧ _
    obtain ⟨pl, hev⟩ := hev (envF ⟨"__init__", qual, ar, _, scOf nm, [("__class__", cc)], cda⟩ fI s.heap.objs.size)
    refine ⟨_, psa_superE (X := ncx CX P w K mg base ["self", f, g, "__class__"] ⟨"__init__", qual, ar, _, scOf nm, [("__class__", cc)], cda⟩ fI A outer s H E) (i := 0) (j := 3) (C := C) T TE rfl rfl h1 h2 h3 rfl rfl
      (pa_cons pe_str pa_nil) (psa_of (pss_cons (ps_ost (pe_var (i := 0) rfl (.inl h3)) (pe_var (i := 1) rfl (.inl h4) hd1 hd2)) (pss_one (ps_ost (pe_var (i := 0) rfl (.inl h3)) (pe_var (i := 2) rfl (.inl h5) hd3 hd4))))) (hev := hev), ?_⟩
    refine ⟨a, rfl, rfl, ea, (by show 1 ≤ 1000; decide), ea, ?_⟩
    refine ⟨_, rfl, _, rfl, a, C, rfl, TE.ox, noF, .inl ⟨ea, fun dx n ne => ?_⟩⟩
    refine ⟨_, rfl, _, rfl, a, C, rfl, TE.ox, noG, .inr ⟨dx, _, upd_same, (upd_ne ne).trans upd_same, (by show 1 ≤ 900; decide), q dx n ne⟩⟩
end

/-! ### raise C(v), raise C(v, w) -/
/-- what a raise of the class x asks of the written part -/
structure Ex1 (P : Program) (K : PySem.W.Frag) (mg : Str → Option Value) (x f : Str) (C : Addr) : Prop where
  gl : mg x = some (.ref C)
  te : SupE K C C
  init : ∃ fI fd, PySem.W.findIn K (.ref C) "__init__" = some (some (.ref fI)) ∧ PySem.W.typeIn K (.ref fI) = some (.type "function") ∧ L2.Binds K fd ["self", f] [] ∧
    ∀ (w : World) (base : Heap) (CX : CXT), FnOk P w K mg base CX 1 fI fd ["self", f] (spEx1 C f)
structure Ex2 (P : Program) (K : PySem.W.Frag) (mg : Str → Option Value) (x f g : Str) (C : Addr) : Prop where
  gl : mg x = some (.ref C)
  te : SupE K C C
  init : ∃ fI fd, PySem.W.findIn K (.ref C) "__init__" = some (some (.ref fI)) ∧ PySem.W.typeIn K (.ref fI) = some (.type "function") ∧ L2.Binds K fd ["self", f, g] [] ∧
    ∀ (w : World) (base : Heap) (CX : CXT), FnOk P w K mg base CX 1 fI fd ["self", f, g] (spEx2 C f g)
def tMk1 (C : Addr) (f : Str) (ta : TA) : L2.St → Hp → XK → Prop := fun σ H Q => ta σ H fun vs H1 => ∃ v, vs = [v] ∧ ∀ d, H1 d = none → Q (.ref C) (some d) (upd H1 d (.xd [(f, v)]))
def tMk2 (C : Addr) (f g : Str) (ta : TA) : L2.St → Hp → XK → Prop := fun σ H Q => ta σ H fun vs H1 => ∃ v w, vs = [v, w] ∧ ∀ d, H1 d = none → Q (.ref C) (some d) (upd H1 d (.xd [(g, w), (f, v)]))
theorem end_heap {H G : Hp} {a d : Addr} {fs : List (Str × V)} (na : H a = none) (ne : d ≠ a) (hG : ∀ b, b ≠ a → b ≠ d → G b = H b) : upd (del G a) d (.xd fs) = upd H d (.xd fs) := by
  funext b
  by_cases hb : b = d
  · rw [hb, upd_same, upd_same]
  · rw [upd_ne hb, upd_ne hb]
    by_cases ha : b = a
    · rw [ha, del_same, na]
    · rw [del_ne ha, hG b ha hb]
/-- an own error is made; its context is None -/
theorem pmkN_oex {X : Cx} {x : Str} {C fI : Addr} {k : Nat} {fd : FuncData} {ps : List Str} {sp : Sp} {e : Expr} {es : List Expr} {ta : TA} {p pos : Pos} (S : OexC X.K C) (hI : PySem.W.findIn X.K (.ref C) "__init__" = some (some (.ref fI)))
    (hT : PySem.W.typeIn X.K (.ref fI) = some (.type "function")) (Fi : FnOk X.prog X.w X.K X.mg X.base CX0 k fI fd ps sp) (hr : Room (k + 1) X.A) (hb : L2.Binds X.K fd ps []) (hg : Gl X x) (hm : X.mg x = some (.ref C)) (ha : PA X (e :: es) ta)
    (hdb : (x == ("__debug__" : Str)) = false) (he : starEach (e :: es) X.env = (false, eval e X.env) :: starEach es X.env) (hpl : (backTo pos (starEach es X.env)).any (·.1) = false) :
    L2N.PMk X (.Call (.Name x p) (e :: es) [] pos) (tMkO C sp [] ta) := fun pins s σ H Q I h => by
  obtain ⟨c1, c2, c3, c4, c5, c6, c7, c8, c9, c10, c11, c12, c13, c14, c15, hC, hB⟩ := S.cls
  apply wpAny_Call_Name_kw
  apply ld_glob I hg hm _ hdb
  refine PySem.W.callWith_K (h₀ := X.base) I.ok.mod.kin S.kC ?_ he hpl
  refine thn (ha.run pos pins s σ H _ I h) ?_
  rintro us ⟨h0, g, dr, tk, os⟩ ⟨vs, H1, I1, rv, hz, mk⟩
  refine ⟨I1.kIn, ?_⟩
  show wpAny _ _ (call (.ref C) us) _ _ _
  -- the new object's place
  generalize hn : h0.objs.size + 1 = n
  have big : h0.objs.size ≤ n := by omega
  have free : H1 n = none := I1.hok.fresh big
  have pr := mk n free
  let h1 := (h0.push (PySem.W.kdv_tup us)).push (PySem.HandSPX.excO C h0.objs.size)
  have old : ∀ b o, h0.get? b = some o → h1.get? b = some o := fun b o z => Heap.get?_push_of_some _ (Heap.get?_push_of_some _ z)
  have there : h1.get? n = some (PySem.HandSPX.excO C h0.objs.size) := by
    subst hn
    show ((h0.push (PySem.W.kdv_tup us)).push (PySem.HandSPX.excO C h0.objs.size)).get? (h0.objs.size + 1) = _
    heap_get
  have I2 : Inv X pins σ (upd H1 n (exo n C none)) ⟨h1, g, dr, tk, os⟩ := I1.laid (t' := tk) old big (exo_ok there)
  have r2 : Vals (V.ref n :: (vs ++ [])) (Value.ref n :: (us ++ [])) := .cons rfl (rv.append .nil)
  have len : ((Value.ref n :: us) ++ []).length = ps.length := by
    rw [← Fi.len _ _ _ _ pr]
    exact r2.length.symm
  have few : us.length ≤ sizeLine := by
    have := rv.length
    rw [sizeLine_eq]
    omega
  subst hn
  refine wpAny_call (PySem.HandSPX.call_own F.excBase_ValueError (fun Y => PySem.HandSPX.refsVE_contains Y c5 hB) (I1.kIn _ _ hC) (PySem.W.looks_findIn I1.kIn hI) (fun self => PySem.W.bind_fn I1.kIn self hT) few ?_)
  refine codeAny_mono (Fi.run _ X.stack _ _ _ _ _ _ _ (hr.make C us []) (I2.env0.make C us []) (hb _ _ I2.kIn len) r2 pr) fun r s' done => ?_
  match r, done with
  | .error er, done => exact pass0 pins σ _ _ er s' I2 done
  | .ok .next, done => exact done.elim
  | .ok .brk, done => exact done.elim
  | .ok .cont, done => exact done.elim
  | .ok (.ret u), ⟨v, H2, os2, bare2, un2, hok2, rv2, isN, d, fs, ea, ed, new, last⟩ =>
    subst isN
    obtain ⟨h2, g2, d2, t2, os3⟩ := s'
    obtain ⟨t0, G, J, kG, goneA, atA, na⟩ := mk_end0 (d2 := d2) (t2 := t2) I1 big old un2 hok2 os2 bare2 ea ed new
    exact ⟨rv2, ⟨_, _, _, ⟨G, g2, d2, t2, os3⟩, _, .ref C, some d, rfl, J, kG, goneA, atA, ⟨rfl, rfl, fun ws z => by cases z; rfl⟩, rfl, rfl, na, rfl, bare2, raises_own S.exC S.tyC, last⟩⟩
theorem PMk.imp {X : Cx} {e : Expr} {t u : L2.St → Hp → XK → Prop} (h : L2N.PMk X e t) (q : ∀ σ H Q, u σ H Q → t σ H Q) : L2N.PMk X e u := fun pins s σ H Q I x => h pins s σ H Q I (q σ H Q x)
/-- an argument list's own weakest reading -/
def wpA (X : Cx) (es : List Expr) : TA := fun σ H Q => ∀ (pos : Pos) (pins : List (Addr × Obj)) (s : Shared), Inv X pins σ H s → wpAny (model X.prog X.w) X.A (spliced (backTo pos (starEach es X.env))) (AP X pins σ Q) X.xe s
theorem pa_wp {X : Cx} {es : List Expr} : PA X es (wpA X es) := ⟨fun pos pins s σ H Q I h => h pos pins s I⟩
theorem pmk_1 {X : Cx} {x f : Str} {C : Addr} {e : Expr} {ta : TA} {p pos : Pos} (T : Ex1 X.prog X.K X.mg x f C) (hr : Room 2 X.A) (hg : Gl X x) (ha : PA X [e] ta)
    (hdb : (x == ("__debug__" : Str)) = false := by decide) (he : starEach [e] X.env = (false, eval e X.env) :: starEach [] X.env := by rfl) (hpl : (backTo pos (starEach [] X.env)).any (·.1) = false := by rfl) :
    L2N.PMk X (.Call (.Name x p) [e] [] pos) (tMk1 C f ta) := by
  obtain ⟨fI, fd, iC, tI, b, F⟩ := T.init
  refine PMk.imp (pmkN_oex T.te.ox iC tI (F X.w X.base CX0) hr b hg T.gl (pa_wp (X := X) (es := [e])) hdb he hpl) fun σ H Q h => ?_
  intro pos' pins s I
  refine thn (ha.run pos' pins s σ H _ I h) fun us s1 ⟨vs, H1, I1, r1, v, ev, q⟩ => ⟨vs, H1, I1, r1, ?_⟩
  subst ev
  refine ⟨(by show 1 ≤ 1000; decide), fun a na => ⟨a, v, rfl, upd_same, fun d hd ne => ⟨rfl, d, [(f, v)], upd_same, (upd_ne ne).trans upd_same, (upd_ne ne).symm.trans hd, ?_⟩⟩⟩
  rw [end_heap na ne fun b h1 h2 => by rw [upd_ne h1, upd_ne h2, upd_ne h1]]
  exact q d ((upd_ne ne).symm.trans hd)
theorem pmk_2 {X : Cx} {x f g : Str} {C : Addr} {e e2 : Expr} {ta : TA} {p pos : Pos} (T : Ex2 X.prog X.K X.mg x f g C) (hr : Room 2 X.A) (hg : Gl X x) (ha : PA X [e, e2] ta)
    (hdb : (x == ("__debug__" : Str)) = false := by decide) (he : starEach [e, e2] X.env = (false, eval e X.env) :: starEach [e2] X.env := by rfl) (hpl : (backTo pos (starEach [e2] X.env)).any (·.1) = false := by rfl) :
    L2N.PMk X (.Call (.Name x p) [e, e2] [] pos) (tMk2 C f g ta) := by
  obtain ⟨fI, fd, iC, tI, b, F⟩ := T.init
  refine PMk.imp (pmkN_oex T.te.ox iC tI (F X.w X.base CX0) hr b hg T.gl (pa_wp (X := X) (es := [e, e2])) hdb he hpl) fun σ H Q h => ?_
  intro pos' pins s I
  refine thn (ha.run pos' pins s σ H _ I h) fun us s1 ⟨vs, H1, I1, r1, v, w, ev, q⟩ => ⟨vs, H1, I1, r1, ?_⟩
  subst ev
  refine ⟨(by show 2 ≤ 1000; decide), fun a na => ⟨a, v, w, rfl, upd_same, fun d hd ne => ⟨rfl, d, [(g, w), (f, v)], (upd_ne ne.symm).trans upd_same, upd_same, (upd_ne ne).symm.trans hd, ?_⟩⟩⟩
  rw [end_heap na ne fun b h1 h2 => by rw [upd_ne h2, upd_ne h1, upd_ne h2, upd_ne h1]]
  exact q d ((upd_ne ne).symm.trans hd)
end Sup

namespace Own
open PySem PySem.Spec PyProof.Rows L2

/-! ## operators of own classes -/
/-- x op y, both instances of the class at C: the method's promise -/
def rOwn (C : Addr) (sp : Sp) (E : XK) : R2 := fun x y H Q => ∃ a dx fs b dy gs, x = .ref a ∧ y = .ref b ∧ H a = some (.ins C dx fs) ∧ H b = some (.ins C dy gs) ∧ sp [x, y] H Q E
theorem back_of {Q : Value → Shared → Prop} {v : V} {u : Value} {s : Shared} (r : RelV v u) (h : Q u s) : PySem.W.CmpBack Q u s := by
  cases v <;> first
    | (obtain ⟨t, rfl⟩ := r; exact h)
    | (cases r; exact h)
theorem op_own {X : Cx} {CX : CXT} {C f : Addr} {op : Operator} {k : Nat} {fd : FuncData} {ps : List Str} {sp : Sp} {E : XK} (hc : PySem.W.selfFirst X.K C = true) (hs : PySem.W.findIn X.K (.ref C) (PySem.dunder op.info.2) = some (some (.ref f))) (hf : PySem.W.isFn X.K (.ref f) = true)
    (F : FnOk X.prog X.w X.K X.mg X.base CX k f fd ps sp) (hr : Room k X.A) (hb : L2.Binds X.K fd ps []) (hx : Passes CX X E) : OpR X (binaryOp op) (rOwn C sp E) := by
  intro pins s σ H x y v u Q I rx ry h
  obtain ⟨a, dx, fs, b, dy, gs, rfl, rfl, ea, eb, q⟩ := h
  cases rx
  cases ry
  obtain ⟨mA, Oa, _⟩ := ins_get I.hok ea
  obtain ⟨mB, Ob, _⟩ := ins_get I.hok eb
  obtain ⟨od, Ja, _⟩ := Oa.look
  obtain ⟨od2, Jb, _⟩ := Ob.look
  obtain ⟨m, fr⟩ := I.fr
  refine PySem.W.binop_K fr I.ok.mod.kin Ja Jb.type hc hs hf ?_
  refine thn (run_fn (us := [.ref a, .ref b]) (vs := [.ref a, .ref b]) F hr hb .nil hx I (.cons rfl (.cons rfl .nil)) q) fun r s' ⟨v', H', I', r', q'⟩ => back_of r' ⟨v', H', I', r', q'⟩
/-- x in y, x not in y; y an instance whose class has __contains__, which gives a bool -/
def rOwnIn (C : Addr) (sp : Sp) (E : XK) (neg : Bool) : R2 := fun x y H Q => ∃ b dy gs, y = .ref b ∧ H b = some (.ins C dy gs) ∧ sp [y, x] H (fun v H' => ∃ c, v = .bl c ∧ Q (.bl (if neg then !c else c)) H') E
theorem op_ownIn {X : Cx} {CX : CXT} {C f : Addr} {k : Nat} {fd : FuncData} {ps : List Str} {sp : Sp} {E : XK} (hs : PySem.W.findIn X.K (.ref C) "__contains__" = some (some (.ref f))) (hf : PySem.W.isFn X.K (.ref f) = true)
    (F : FnOk X.prog X.w X.K X.mg X.base CX k f fd ps sp) (hr : Room k X.A) (hb : L2.Binds X.K fd ps []) (hx : Passes CX X E) : OpR X (compareOp .In) (rOwnIn C sp E false) := by
  intro pins s σ H x y v u Q I rx ry h
  obtain ⟨b, dy, gs, rfl, eb, q⟩ := h
  cases ry
  obtain ⟨mB, Ob, _⟩ := ins_get I.hok eb
  obtain ⟨od2, Jb, _⟩ := Ob.look
  obtain ⟨m, fr⟩ := I.fr
  refine PySem.W.in_K fr I.ok.mod.kin Jb hs hf ?_
  refine thn (run_fn (us := [.ref b, v]) (vs := [.ref b, x]) F hr hb .nil hx I (.cons rfl (.cons rx .nil)) q) fun r s' ⟨v', H', I', r', c, ev, q'⟩ => ?_
  subst ev
  cases r'
  exact wpAny_truthy_bool ⟨.bl _, H', I', rfl, q'⟩
theorem op_ownNotIn {X : Cx} {CX : CXT} {C f : Addr} {k : Nat} {fd : FuncData} {ps : List Str} {sp : Sp} {E : XK} (hs : PySem.W.findIn X.K (.ref C) "__contains__" = some (some (.ref f))) (hf : PySem.W.isFn X.K (.ref f) = true)
    (F : FnOk X.prog X.w X.K X.mg X.base CX k f fd ps sp) (hr : Room k X.A) (hb : L2.Binds X.K fd ps []) (hx : Passes CX X E) : OpR X (compareOp .NotIn) (rOwnIn C sp E true) := by
  intro pins s σ H x y v u Q I rx ry h
  obtain ⟨b, dy, gs, rfl, eb, q⟩ := h
  cases ry
  obtain ⟨mB, Ob, _⟩ := ins_get I.hok eb
  obtain ⟨od2, Jb, _⟩ := Ob.look
  obtain ⟨m, fr⟩ := I.fr
  refine PySem.W.notIn_K fr I.ok.mod.kin Jb hs hf ?_
  refine thn (run_fn (us := [.ref b, v]) (vs := [.ref b, x]) F hr hb .nil hx I (.cons rfl (.cons rx .nil)) q) fun r s' ⟨v', H', I', r', c, ev, q'⟩ => ?_
  subst ev
  cases r'
  exact wpAny_truthy_bool ⟨.bl _, H', I', rfl, q'⟩

/-! ## for x in o, o an instance whose __iter__ hands out iter(self.f), f a list -/
/-- one run of a def by its body: the wish may speak of the state at the entry -/
theorem run_body {CX : CXT} {P : Program} {w : World} {K : PySem.W.Frag} {mg : Str → Option Value} {base : Heap} {k : Nat} {f : Addr} {name qual : Str} {params : Arguments} {body : List Stmt} {scope : Scope} {dV kV doc pm cdv ct oc : Value} {an od : Option Addr}
    {osl : Array (Option Value)} {N ps : List Str} (lk : K.lookup f = some ⟨oc, od, .func (PySem.W.fnOf name qual params body scope dV kV doc pm an cdv ct), osl⟩) (hcd : PySem.W.codeIn K cdv qual = true) (S : FnScope N ps scope)
    {A : Around} {outer : List Env} {s : Shared} {H : Hp} {args : Args} {us : List Value} {vs : List V} {Q : VK} {E : XK} {t : TS} (hr : Room (k + 1) A) (e0 : Env0 P w K mg base A outer s H) (hb : BindsTo s (PySem.W.fnOf name qual params body scope dV kV doc pm an cdv ct) args (ps.zip us)) (r : Vals vs us) (hl : vs.length = ps.length)
    (ht : PSs (cxOf CX P w K mg base N qual scope f cdv A outer s H E) body t) (hq : t { nx := fun _ H' => Q .non H', rt := Q } (start N vs) H) :
    codeAny (model P w) A (.call (.ref f) args) (CR CX outer P w H s Q E) s := by
  have KX : K.In s.heap := e0.mod.kin.keeps fun b o e => (e0.bs b o e).1
  have lim : s.heap.NoLimit := e0.mod.nolimit.keeps fun b o e => (e0.bs b o e).1
  have hkind : ∀ y ∈ ps.zip us, scope.names.lookup y.1 = some .local ∨ (scope.names.lookup y.1 = some .cell ∧ ((cellsFrom (s.heap.objs.size + 1) scope.names []).lookup y.1).isSome = true) := fun y hy =>
    (S.par y.1 (List.of_mem_zip hy).1).elim .inl fun q => .inr ⟨q, PySem.W.cellsFrom_some _ _ _ (.inl q)⟩
  refine codeAny_call_function hr.depth (KX _ _ lk) rfl S.co S.gen rfl (PySem.W.codeRec_of KX hcd) (hb _ _ _ _ ?_)
  refine wpAny_newFunctionEnv_cells S.kind hkind fun env he s1 x => ?_
  subst he
  refine ⟨lim.keeps x.toInCall.keep, codeAny_func ?_⟩
  have I : Inv (cxOf CX P w K mg base N qual scope f cdv A outer s H E) [] (start N vs) H s1 := inv_start S hr.hd e0 hl r x
  refine wpAny_mono (ht.run [] s1 (start N vs) H _ I hq) (fun fl s' hs => ?_) fun e s' hs => hs
  cases fl with
  | ret u =>
    obtain ⟨v, σ', H', J, rv, q⟩ := hs
    exact ⟨v, H', J.os, J.bare, J.base, J.hok, rv, q⟩
  | next =>
    obtain ⟨σ', H', J, q⟩ := hs
    exact ⟨V.non, H', J.os, J.bare, J.base, J.hok, rfl, q⟩
  | brk =>
    obtain ⟨_, _, _, z⟩ := hs
    exact False.elim z
  | cont =>
    obtain ⟨_, _, _, z⟩ := hs
    exact False.elim z

/-- what the written part says of the class C's __iter__, at f: its text is «return iter(self.x)» -/
structure IterAt (K : PySem.W.Frag) (mg : Str → Option Value) (C f : Addr) (x : Str) : Prop where
  at_ : PySem.W.findIn K (.ref C) "__iter__" = some (some (.ref f))
  fn : PySem.W.isFn K (.ref f) = true
  cl : Cls K C
  noX : NoAttr K C x
  noI : mg "iter" = none
  txt : ∃ (qual : Str) (params : Arguments) (scope : Scope) (dV kV doc pm cdv ct oc : Value) (an od : Option Addr) (osl : Array (Option Value)) (N : List Str) (p0 p1 p2 p3 p4 : Pos),
    K.lookup f = some ⟨oc, od, .func (PySem.W.fnOf "__iter__" qual params [.Return (some (.Call (.Name "iter" p0) [.Attribute (.Name "self" p1) x p2] [] p3)) p4] scope dV kV doc pm an cdv ct), osl⟩ ∧ PySem.W.codeIn K cdv qual = true ∧
    FnScope N ["self"] scope ∧ N[0]? = some ("self" : Str) ∧ scope.names.lookup ("iter" : Str) = some .globalImplicit ∧ scope.names.lookup ("self" : Str) = some .local ∧
    (∀ us : List Value, us.length = 1 → bindArgs (PySem.W.fnOf "__iter__" qual params [.Return (some (.Call (.Name "iter" p0) [.Attribute (.Name "self" p1) x p2] [] p3)) p4] scope dV kV doc pm an cdv ct) ⟨us, []⟩ = pure ((["self"] : List Str).zip us)) ∧
    (∀ env : Env, starEach [.Attribute (.Name "self" p1) x p2] env = (false, eval (.Attribute (.Name "self" p1) x p2) env) :: starEach [] env) ∧ (∀ env : Env, (backTo p3 (starEach [] env)).any (·.1) = false) ∧
    (∀ env : Env, attributeBase (.Name "self" p1) x env (eval (.Name "self" p1) env) = eval (.Name "self" p1) env)

/-- o walked: the list at the address l that its attribute x holds -/
def iOwn (K : PySem.W.Frag) (C : Addr) (x : Str) (to : TE) : TI := fun σ H R => to σ H fun v H1 => ∃ a dx fs l, v = .ref a ∧ H1 a = some (.ins C dx fs) ∧ fs.lookup x = some (.ref l) ∧ (∃ xs, SqL K H1 l xs) ∧ R (Itl K l) H1
theorem pi_own {X : Cx} {C f : Addr} {x : Str} {o tg : Expr} {to : TE} (T : IterAt X.K X.mg C f x) (hr : Room 2 X.A) (ho : PE X o to) : PI X tg o (iOwn X.K C x to) := by
  refine ⟨fun pins s σ H R I h => ?_⟩
  refine thn (ho.run pins s σ H _ I h) fun v s1 ⟨y, H1, I1, r1, a, dx, fs, l, ey, ea, hl, ⟨xs, hq⟩, q⟩ => ?_
  subst ey
  cases r1
  obtain ⟨mA, Oa, _⟩ := ins_get I1.hok ea
  obtain ⟨od0, Ja, _⟩ := Oa.look
  obtain ⟨m, fr⟩ := I1.fr
  refine PySem.W.owit_iter fr I1.ok.mod.kin Ja T.at_ T.fn ?_
  obtain ⟨qual, params, scope, dV, kV, doc, pm, cdv, ct, oc, an, od, osl, N, p0, p1, p2, p3, p4, lk, hcd, S, hN, hI, hself, hbnd, hst, hpl, hab⟩ := T.txt
  let Q : VK := fun v H' => ∃ it, v = .ref it ∧ H1 it = none ∧ s1.heap.objs.size ≤ it ∧ H' = upd H1 it (ItO l it 0)
  refine wpAny_call (codeAny_mono (run_body (CX := CX0) (N := N) (ps := ["self"]) (us := [.ref a]) (vs := [.ref a]) (Q := Q) (E := E0) lk hcd S hr I1.env0 (.of_eq (hbnd [.ref a] rfl)) (.cons rfl .nil) rfl
    (pss_one (ps_ret (pe_callB ItX.call_iterN hI T.noI (by decide +kernel) (pa_cons (pe_fld (pe_var (i := 0) hN (.inl hself)) (hab _)) pa_nil) (by decide) (by decide) (hst _) (hpl _)))) ?_) fun r s' hq' => ?_)
  · exact ⟨.ref a, rfl, a, C, dx, fs, .ref l, rfl, ea, T.cl, T.noX, hl, l, xs, rfl, hq, fun it hn hz => ⟨it, rfl, hn, hz, rfl⟩⟩
  · cases r with
    | error er => exact hq'.elim
    | ok fl =>
      cases fl with
      | ret u =>
        obtain ⟨v', H', I', rv, it, rfl, hn, hz, rfl⟩ := I1.after hq'
        obtain rfl : u = Value.ref it := rv
        have hx := itO_get I' upd_same
        have hT : s'.TypeIs (.ref it) "list_iterator" := ⟨_, hx, rfl⟩
        have I2 := ItX.inv_drop I' (a := it) (by rw [upd_same]; rfl)
        rw [ItX.dropH_upd hn] at I2
        show wpAny _ _ (specialOf (.ref it) "__next__") _ _ _
        refine wpAny_specialOf (name := Str.ofString "__next__") hT slot_listiter_next.lookup ?_
        refine ⟨it, [it], _, _, H1, rfl, I2, turn_list l it, ⟨_, hx, rfl, rfl⟩, fun b hb => ?_, q⟩
        have e : b = it := by simpa using hb
        subst e
        exact I1.fpOk hz hn
      | next => exact False.elim hq'
      | brk => exact False.elim hq'
      | cont => exact False.elim hq'
end Own

namespace Y
open PySem L2
section
variable {X : Cx} {W : WX} {H0 : Hp} {Oc : List Addr} {Γ Γ1 Γ' : List Sl} {e a b c o tg iter elt ie : Expr} {es ifs : List Expr} {rest body els : List Stmt} {s s0 s1 s2 : Sl} {ss : List Sl} {d d1 d2 : D} {ds ds1 ds2 : List D} {i j : Int} {pos pos' p2 p apos : Pos} {x y m : Str} {out o1 : Out} {n : Nat} {q : Bool} {scope : Scope} {own : List (Str × Nat)}
/-! ### comprehensions -/
theorem ev_lc {α : Type} (xs : List α) (enc : α → D) (pr : α → Bool) (g : α → D) (Γe : α → List Sl) (hc : X.calm = true) (hN : X.N.Nodup) (ok : BlkOk X.N X.env.scope scope own) (hi : Ei X H0 Oc Γ tg iter (xs.map enc)) (hn : xs.length ≤ 1000000)
    (ht : ∀ x ∈ xs, ∀ H0' Oc' s0 H00 C cl fp, Tgw (blkX X scope s0 H00 C cl fp) H0' Oc' (own.map (·.2)) tg (wipeG (Γ.map Sl.arg) (own.map (·.2))) (.va (enc x)) (Γe x))
    (hst : ∀ x ∈ xs, stab (Γe x) = true ∧ Sub (wipeG (Γe x) (own.map (·.2))) (wipeG (Γ.map Sl.arg) (own.map (·.2))))
    (hp : ∀ x ∈ xs, ∀ H0' Oc' s0 H00 C cl fp, Ets (blkX X scope s0 H00 C cl fp) H0' Oc' (Γe x) ifs (pr x))
    (he : ∀ x ∈ xs, pr x = true → ∀ H0' Oc' s0 H00 C cl fp, Ev (blkX X scope s0 H00 C cl fp) H0' Oc' (Γe x) elt (.va (g x)))
    (hs : ∀ x, foldedSetIterable iter X.env x = pure x := by intro _; rfl) : Ev X H0 Oc Γ (.ListComp elt [⟨tg, iter, ifs, 0⟩] scope pos) (.ow (.lst ((xs.filter pr).map g))) := fun Δ τ σ H Q hl w k => by
  obtain ⟨wi, hpi, hwi⟩ := hi
  refine wpE.of (pe_lc (g := wG X scope tg) (tt := wT X scope ifs) (te := wE X scope elt) hc hN hpi ok (fun s0 H00 C cl fp => ⟨fun pins s σ H v u Q I r h => h s0 H00 C cl fp pins s u I r⟩) (fun s0 H00 C cl fp => pts_wT) (fun s0 H00 C cl fp => ⟨fun pins s σ H Q I h => h s0 H00 C cl fp pins s I⟩) hs) ?_
  exact lc_run xs enc pr g Γe hl w hwi hn ht hst hp he k
theorem sds_setLc {α : Type} (n : Nat) (xs : List α) (enc : α → D) (pr : α → Bool) (g : α → D) (Γe : α → List Sl) (hc : X.calm = true) (hN : X.N.Nodup) (ok : BlkOk X.N X.env.scope scope own) (hi : Ei X H0 Oc Γ tg iter (xs.map enc)) (hn : xs.length ≤ 1000000)
    (ht : ∀ x ∈ xs, ∀ H0' Oc' s0 H00 C cl fp, Tgw (blkX X scope s0 H00 C cl fp) H0' Oc' (own.map (·.2)) tg (wipeG (Γ.map Sl.arg) (own.map (·.2))) (.va (enc x)) (Γe x))
    (hst : ∀ x ∈ xs, stab (Γe x) = true ∧ Sub (wipeG (Γe x) (own.map (·.2))) (wipeG (Γ.map Sl.arg) (own.map (·.2))))
    (hp : ∀ x ∈ xs, ∀ H0' Oc' s0 H00 C cl fp, Ets (blkX X scope s0 H00 C cl fp) H0' Oc' (Γe x) ifs (pr x))
    (he : ∀ x ∈ xs, pr x = true → ∀ H0' Oc' s0 H00 C cl fp, Ev (blkX X scope s0 H00 C cl fp) H0' Oc' (Γe x) elt (.va (g x)))
    (hr : Sds X W H0 Oc (Γ.set n (.ow (.lst ((xs.filter pr).map g)))) rest out)
    (hy : X.N[n]? = some y) (hyl : X.env.scope.names.lookup y = some .local) (hk : X.env.scope.kind = .function := by rfl) (hln : (p.line == pos.line) = true := by rfl)
    (han : (scope.names.any fun (m, k) => m == y && (k == .local || k == .cell)) = false := by decide +kernel)
    (hs : ∀ x, foldedSetIterable iter X.env x = pure x := by intro _; rfl) : Sds X W H0 Oc Γ (.Assign [.Name y p] (.ListComp elt [⟨tg, iter, ifs, 0⟩] scope pos) pos' :: rest) out := fun Δ τ σ H D hl st w k => by
  obtain ⟨wi, hpi, hwi⟩ := hi
  refine wpSs.of (pss_cons (ps_setLc (g := wG X scope tg) (tt := wT X scope ifs) (te := wE X scope elt) hc hN hy hyl (sw_true hk hyl hln han) hpi ok (fun s0 H00 C cl fp => ⟨fun pins s σ H v u Q I r h => h s0 H00 C cl fp pins s u I r⟩) (fun s0 H00 C cl fp => pts_wT) (fun s0 H00 C cl fp => ⟨fun pins s σ H Q I h => h s0 H00 C cl fp pins s I⟩) hs) pss_wp) ?_
  exact lc_run xs enc pr g Γe hl w hwi hn ht hst hp he fun v H1 ⟨O, w1⟩ => hr Δ τ _ H1 D hl st ⟨O, w1.set hl⟩ k
theorem tgw_name {vs : List Nat} (n : Nat) (hN : X.N.Nodup) (hi : X.N[n]? = some x) (hx : Loc X.env.scope x) (hf : X.fn x = true ∨ X.env.scope.names.lookup x = some .local) (hv : n ∈ vs) : Tgw X H0 Oc vs (.Name x pos') Γ s (Γ.set n s) :=
  fun Δ τ σ H v Q hl ⟨O, w⟩ k => wpG.of (pg_name hN hi hx hf) (k _ H (wipe_set hv) ⟨O, w.set hl⟩)
/-! ### pairs as targets -/
theorem tg_tup2 {z : Str} {p3 : Pos} {kk : Nat} (n1 n2 : Nat) (hc : X.calm = true) (hN : X.N.Nodup) (h1 : X.N[n1]? = some x) (h2 : X.N[n2]? = some z) (hx : Loc X.env.scope x) (hz : Loc X.env.scope z) (hf : X.fn x = true ∨ X.env.scope.names.lookup x = some .local) (hg : X.fn z = true ∨ X.env.scope.names.lookup z = some .local) :
    Tg X H0 Oc (.Tuple [.Name x p, .Name z p2] kk p3) Γ (.va (.tup [d1, d2])) ((Γ.set n1 (.va d1)).set n2 (.va d2)) := fun Δ τ σ H v Q hl st ⟨O, w⟩ k => by
  refine wpG.of (pg_tup (n := 2) hc (pgs_cons (pg_name hN h1 hx hf) (pgs_cons (pg_name hN h2 hz hg) pgs_nil))) ?_
  obtain ⟨u, e, a, vs, rfl, ha, hr⟩ := w.head
  cases e
  obtain ⟨v1, us, rfl, r1, v2, us2, rfl, r2, e3⟩ := hr
  cases e3
  refine ⟨a, _, rfl, .of (cut_ex _ _ ha), rfl, v1, [v2], rfl, v2, [], rfl, rfl, k _ H ⟨O, ?_⟩⟩
  have w1 := (w.pop.push (s := .va d1) (y := some v1) ⟨v1, rfl, r1⟩ fun _ z => nomatch z).set (n := n1) hl
  exact (w1.push (s := .va d2) (y := some v2) ⟨v2, rfl, r2⟩ fun _ z => nomatch z).set (n := n2) hl
theorem tgw_tup2 {z : Str} {p3 : Pos} {kk : Nat} {vs : List Nat} (n1 n2 : Nat) (hc : X.calm = true) (hN : X.N.Nodup) (h1 : X.N[n1]? = some x) (h2 : X.N[n2]? = some z) (hx : Loc X.env.scope x) (hz : Loc X.env.scope z) (hf : X.fn x = true ∨ X.env.scope.names.lookup x = some .local) (hg : X.fn z = true ∨ X.env.scope.names.lookup z = some .local) (hv1 : n1 ∈ vs) (hv2 : n2 ∈ vs) :
    Tgw X H0 Oc vs (.Tuple [.Name x p, .Name z p2] kk p3) Γ (.va (.tup [d1, d2])) ((Γ.set n1 (.va d1)).set n2 (.va d2)) := fun Δ τ σ H v Q hl ⟨O, w⟩ k => by
  refine wpG.of (pg_tup (n := 2) hc (pgs_cons (pg_name hN h1 hx hf) (pgs_cons (pg_name hN h2 hz hg) pgs_nil))) ?_
  obtain ⟨u, e, a, vs', rfl, ha, hr⟩ := w.head
  cases e
  obtain ⟨v1, us, rfl, r1, v2, us2, rfl, r2, e3⟩ := hr
  cases e3
  refine ⟨a, _, rfl, .of (cut_ex _ _ ha), rfl, v1, [v2], rfl, v2, [], rfl, rfl, k _ H ((wipe_set hv2).trans (wipe_set hv1)) ⟨O, ?_⟩⟩
  have w1 := (w.pop.push (s := .va d1) (y := some v1) ⟨v1, rfl, r1⟩ fun _ z => nomatch z).set (n := n1) hl
  exact (w1.push (s := .va d2) (y := some v2) ⟨v2, rfl, r2⟩ fun _ z => nomatch z).set (n := n2) hl
/-! ### xs[i] = e -/
theorem sds_ix {ii : Int} {jj : Nat} {tp : Pos} (n : Nat) (h : Γ[n]? = some (.ow (.lst ds))) (hst : stab Γ = true) (he : Ev X H0 Oc Γ e (.va d)) (hi : Ev X H0 Oc Γ ie (.va (.int ii))) (hj : ixN ds.length ii = some jj) (hr : Sds X W H0 Oc (Γ.set n (.ow (.lst (ds.set jj d)))) rest out)
    (hN : X.N[n]? = some x) (hv : Vis X.env.scope x) (hd : (x == ("__debug__" : Str)) = false) (hcd : (x == ("__classdict__" : Str)) = false)
    (hss : swapsWithSole [.Subscript (.Name x p) ie tp] e pos.line X.env = pure false := by rfl) (hw : swappedStores [.Subscript (.Name x p) ie tp] e X.env = pure none := by rfl)
    (h1 : (assignEach [.Subscript (.Name x p) ie tp] X.env).map (·.2) = [assign (.Subscript (.Name x p) ie tp) X.env] := by rfl)
    (has : ∀ v, assign (.Subscript (.Name x p) ie tp) X.env v = (do
      let ov ← holding [v] (eval (.Name x p) X.env)
      let iv ← holding [v, ov] (eval ie X.env)
      standAt tp
      holding [v, ov, iv] (setItem ov iv v)
      release [v, ov, iv] []) := by intro _; rfl) :
    Sds X W H0 Oc Γ (.Assign [.Subscript (.Name x p) ie tp] e pos :: rest) out := fun Δ τ σ H D hl st w k => by
  refine wpSs.of (pss_cons (ps_asg pe_wp (pg_sub (pe_var hN hv hd hcd) pe_wp set_list has) hss hw h1) pss_wp) ?_
  refine he Δ τ σ H _ hl w fun v H1 ⟨O1, w1⟩ => ?_
  obtain ⟨y, hy, pp, oo, rfl, g2, g3, g4, g5⟩ := slot_of hl w1.pop h
  refine ⟨.ref pp, hy, ?_⟩
  refine hi (.va d :: Δ) (some v :: τ) σ H1 _ (by simp [hl]) ⟨O1, w1⟩ fun iv H2 ⟨O2, w2⟩ => ?_
  obtain ⟨iv', e1, r1⟩ := w2.head
  cases e1
  obtain rfl : iv = .int ii := r1
  obtain ⟨y', hy', q, u, e1, k2, k3, k4, k5⟩ := slot_of hl w2.pop.pop h
  rw [hy] at hy'
  cases hy'
  cases e1
  obtain ⟨v', e2, rv⟩ := w2.pop.head
  cases e2
  cases u <;> first | exact k5.elim | skip
  rename_i vs
  have k5' : Reps X.K (cut H2 O2) ds vs := k5
  refine ⟨pp, vs, ii, jj, rfl, rfl, k4, by rw [k5'.len]; exact hj, ?_⟩
  exact hr Δ τ σ _ D hl st ⟨O2, w2.pop.pop.mutN hl st hst h hy (o' := .lst (vs.set jj v)) (d' := .lst (ds.set jj d)) (Reps.set jj k5' rv)⟩ k
/-! ### the truth of a list or tuple -/
theorem et_seq (ha : Ev X H0 Oc Γ a (.bw d)) (hd : seqD d = some ds) (he : ∀ whole, isTrue a X.env whole = (do let v ← whole; standAt a.pos; holding [v] (truthy v)) := by intro _; rfl) : Et X H0 Oc Γ a (!ds.isEmpty) := fun Δ τ σ H Q hl w k =>
  wpT.of (pt_truth pe_wp he) (ha Δ τ σ H _ hl w fun v H' w' => by
    obtain ⟨⟨O, h⟩, w2⟩ := w'.popB
    obtain ⟨pp, vs, rfl, hq, r⟩ := h.seq hd
    have e : (!vs.isEmpty) = !ds.isEmpty := by
      have := r.len
      cases vs <;> cases ds <;> simp at this ⊢
    refine ⟨_, ?_, k H' w2⟩
    rcases hq with hq | hq
    · exact .inl ⟨vs, hq, e.symm⟩
    · exact .inr (.inl ⟨vs, hq, e.symm⟩))
/-! ### isinstance -/
def tyD : D → Option Value
  | .non => some (.type "NoneType")
  | .bl _ => some (.type "bool")
  | .int _ => some (.type "int")
  | .str _ => some (.type "str")
  | .tup _ => some (.type "tuple")
  | .lst _ => some (.type "list")
  | .dT _ _ => some (.type "dict")
  | .dK _ _ => some (.type "dict")
  | .obj C _ _ => some (.ref C)
  | .slf _ C _ _ => some (.ref C)
  | _ => none
structure IsC (K : PySem.W.Frag) (C : Addr) : Prop where
  cl : Cls K C
  ha : PySem.W.findIn K (.ref C) "__class__" = some (some (.builtin "object.__class__"))
  hn : PySem.W.specialIn K (.builtin "object.__class__") "__get__" = some (some (.builtin "getset_descriptor.__get__"))
  tk : PySem.W.takesIn K (.builtin "object.__class__") = some true
  hm : PySem.W.mroIn K C (.type "object") = some true
theorem RepB.ty {K : PySem.W.Frag} {Ht H H' : Hp} {v : V} {t : Value} (ex : Ex Ht H') (h : RepB K Ht H d v) (ht : tyD d = some t) (hc : ∀ C, t = .ref C → IsC K C) : TyX K H' v t := by
  cases d <;> first
    | (cases ht; done)
    | (have e := Option.some.inj ht; subst e; rw [show v = _ from h]; exact .base (by constructor))
    | skip
  · obtain ⟨pp, vs, rfl, h2, h3⟩ := h; cases ht; exact .base (.tup (ex _ _ h2))
  · obtain ⟨pp, vs, rfl, h2, h3⟩ := h; cases ht; exact .base (.lst (ex _ _ h2))
  · obtain ⟨pp, dx, fs, rfl, h2, h3⟩ := h
    cases ht
    have z := hc _ rfl
    exact .base (.ins (ex _ _ h2) z.cl z.ha z.hn z.tk z.hm)
  · obtain ⟨pp, vs, rfl, h2, h3⟩ := h; cases ht; exact .base (.dT (ex _ _ h2))
  · obtain ⟨pp, vs, rfl, h2, h3⟩ := h; cases ht; exact .base (.dK (ex _ _ h2))
  · obtain ⟨dx, fs, rfl, h2, h3⟩ := h
    cases ht
    have z := hc _ rfl
    exact .base (.ins (ex _ _ h2) z.cl z.ha z.hn z.tk z.hm)
/-- names of built-in classes and of one's own -/
theorem ev_ty {T : String} (hg : Gl X x) (hm : X.mg x = none) (hv : bootBuiltins x = some (.type T)) (hn : x ≠ "__name__" := by decide) (hdb : (x == ("__debug__" : Str)) = false := by decide) : Ev X H0 Oc Γ (.Name x pos) (.va (.opq (.ty T))) :=
  ev_flat (pe_bltn (v := .ty T) hg hm hv rfl hn hdb) (fun _ _ _ q => q) rfl fun _ => rfl
theorem ev_cls {C : Addr} (hg : Gl X x) (hm : X.mg x = some (.ref C)) (hdb : (x == ("__debug__" : Str)) = false := by decide) : Ev X H0 Oc Γ (.Name x pos) (.va (.opq (.ref C))) :=
  ev_flat (pe_glob (v := .ref C) hg hm rfl hdb) (fun _ _ _ q => q) rfl fun _ => rfl
theorem ev_isi {cv : V} {u t : Value} (ha : Ev X H0 Oc Γ a (.bw d)) (hb : Ev X H0 Oc Γ b (.va (.opq cv))) (k : ClsV cv u) (ht : tyD d = some t) (hk : PySem.W.kitOne X.K t u = some q) (hm : X.mg "isinstance" = none) (hc : ∀ C, t = .ref C → IsC X.K C) (hg : Gl X "isinstance")
    (he : starEach [a, b] X.env = (false, eval a X.env) :: starEach [b] X.env) (he2 : starEach [b] X.env = (false, eval b X.env) :: starEach [] X.env) (hpl : (backTo pos (starEach [b] X.env)).any (·.1) = false) : Ev X H0 Oc Γ (.Call (.Name "isinstance" p) [a, b] [] pos) (.va (.bl q)) := fun Δ τ σ H Q hl w kk =>
  wpE.of (pe_callB call_isi hg hm (by decide +kernel) (pa_cons pe_wp (pa_cons pe_wp pa_nil he2) he) (by decide) (by decide) he hpl) (ha Δ τ σ H _ hl w fun v H1 w1 =>
    hb (.bw d :: Δ) (some v :: τ) σ H1 _ (by simp [hl]) w1 fun z H2 ⟨O, w2⟩ => by
      obtain ⟨z', e1, r1⟩ := w2.head
      cases e1
      obtain rfl : z = cv := r1
      obtain ⟨v', e2, r2⟩ := w2.pop.head
      cases e2
      exact ⟨v, z, t, u, q, rfl, k, r2.ty (fun _ _ z => z) ht hc, hk, kk _ H2 ⟨O, w2.pop.pop.flat (d := .bl q) (H' := H2) rfl rfl⟩⟩)
/-! ### an error that an except suite holds -/
structure XcE (K : PySem.W.Frag) (C : Addr) : Prop where
  xf : XfC K C
  cl : (PySem.W.clsIn K C).isSome = true
  ha : PySem.W.findIn K (.ref C) "__class__" = some (some (.builtin "object.__class__"))
  hn : PySem.W.specialIn K (.builtin "object.__class__") "__get__" = some (some (.builtin "getset_descriptor.__get__"))
  tk : PySem.W.takesIn K (.builtin "object.__class__") = some true
  hm : PySem.W.mroIn K C (.type "object") = some true
def rIsiE (a C dd : Addr) (K : PySem.W.Frag) : List V → Hp → VK → Prop := fun xs H Q => ∃ c u b fs, xs = [.ref a, c] ∧ H dd = some (.xd fs) ∧ ClsV c u ∧ PySem.W.kitOne K (.ref C) u = some b ∧ Q (.bl b) H
theorem call_isiE {a C dd : Addr} {oe : Obj} {pn : List (Addr × Obj)} (T : XcE X.K C) (hz : L2N.Zn (.ref C) (some dd) oe) (hf : ∃ vs, oe.data = .fields vs) : CallR (X.suite a ((a, oe) :: pn)) (.builtin "isinstance") (rIsiE a C dd X.K) := by
  intro pins s σ H xs us Q I r h
  obtain ⟨c, u, b, fs, rfl, ea, k, e, q⟩ := h
  obtain ⟨u1, u2, rfl, r1, r2⟩ := vals2 r
  have e2 := k.eq r2
  subst e2
  obtain rfl : u1 = Value.ref a := r1
  obtain ⟨hA, _⟩ := I.pin (a, oe) (List.mem_append_left _ List.mem_cons_self)
  obtain ⟨vs, hd⟩ := hf
  have hx : ObjOk X.prog X.w H s.heap dd (.xd fs) := I.hok dd _ ea
  obtain ⟨mA, hns, hr⟩ := hx
  obtain ⟨od, ho, hl⟩ := lookIn_ns hns
  have J : PySem.W.InstAt s.heap a oe C (some od) := ⟨hA, hz.1, by unfold PySem.W.notCls; rw [hd] <;> rfl, by rw [hz.2.1]; exact ho⟩
  exact PySem.W.kia_one (PySem.W.kitx_exc T.cl T.xf.ga T.xf.gg T.xf.exC T.ha T.hn T.tk T.hm) I.kIn J e (fun z => nomatch z) fun tk => ⟨.bl b, H, I.tok tk, rfl, q⟩
theorem ev_isiE {ad C dd : Addr} {oe : Obj} {pn : List (Addr × Obj)} {cv : V} {u : Value} {ns : List Str} (T : XcE X.K C) (hz : L2N.Zn (.ref C) (some dd) oe) (hf : ∃ vs, oe.data = .fields vs) (ha : Ev (X.suite ad ((ad, oe) :: pn)) H0 Oc Γ a (.va (.er ad C dd ns ds))) (hb : Ev (X.suite ad ((ad, oe) :: pn)) H0 Oc Γ b (.va (.opq cv)))
    (k : ClsV cv u) (hk : PySem.W.kitOne X.K (.ref C) u = some q) (hm : X.mg "isinstance" = none) (hg : Gl X "isinstance")
    (he : starEach [a, b] X.env = (false, eval a X.env) :: starEach [b] X.env) (he2 : starEach [b] X.env = (false, eval b X.env) :: starEach [] X.env) (hpl : (backTo pos (starEach [b] X.env)).any (·.1) = false) : Ev (X.suite ad ((ad, oe) :: pn)) H0 Oc Γ (.Call (.Name "isinstance" p) [a, b] [] pos) (.va (.bl q)) := fun Δ τ σ H Q hl w kk =>
  wpE.of (pe_callB (X := X.suite ad ((ad, oe) :: pn)) (call_isiE T hz hf) hg hm (by decide +kernel) (pa_cons pe_wp (pa_cons pe_wp pa_nil he2) he) (by decide) (by decide) he hpl) (ha Δ τ σ H _ hl w fun v H1 w1 =>
    hb (.va (.er ad C dd ns ds) :: Δ) (some v :: τ) σ H1 _ (by simp [hl]) w1 fun z H2 ⟨O, w2⟩ => by
      obtain ⟨z', e1, r1⟩ := w2.head
      cases e1
      obtain rfl : z = cv := r1
      obtain ⟨v', e2, fs, rfl, h2, h3⟩ := w2.pop.head
      cases e2
      exact ⟨z, u, q, fs, rfl, cut_ex _ _ h2, k, hk, kk _ H2 ⟨O, w2.pop.pop.flat (d := .bl q) (H' := H2) rfl rfl⟩⟩)
/-- e.f -/
theorem ev_xf {ad C dd : Addr} {oe : Obj} {pn : List (Addr × Obj)} {f : Str} {ns : List Str} (T : XfC X.K C) (hno : PySem.W.findIn X.K (.ref C) f = some none) (hz : L2N.Zn (.ref C) (some dd) oe) (hf : ∃ vs, oe.data = .fields vs) (ha : Ev (X.suite ad ((ad, oe) :: pn)) H0 Oc Γ a (.va (.er ad C dd ns ds)))
    (hi : (ns.zip ds).lookup f = some d) (hab : attributeBase a f X.env (eval a X.env) = eval a X.env := by rfl) : Ev (X.suite ad ((ad, oe) :: pn)) H0 Oc Γ (.Attribute a f pos) (.va d) := fun Δ τ σ H Q hl w kk =>
  wpE.of (pe_xf T hno hz.zc hf pe_wp hab) (ha Δ τ σ H _ hl w fun v H1 ⟨O, w1⟩ => by
    obtain ⟨v', e2, fs, rfl, h2, h3, h4⟩ := w1.head
    cases e2
    subst h3
    obtain ⟨z, hz, rz⟩ := h4.look hi
    exact ⟨rfl, rfl, dd, fs, z, rfl, cut_ex _ _ h2, hz, kk z H1 ⟨O, w1.pop.push ⟨z, rfl, rz⟩ fun _ z => nomatch z⟩⟩)
end
end Y

namespace Y
open PySem L2
/-! ### calls that may let an exception out: C(..), a op b -/
section
variable {X : Cx} {CX : CXT} {k : Nat} {f C : Addr} {fd : FuncData} {ps : List Str} {sp : Sp} {E : L2.St → XK} {x m : Str} {p pos apos : Pos} {a b e o : Expr} {es : List Expr} {ta tb : TE} {t : TA} {op : Operator}
theorem run_makeS {pins : List (Addr × Obj)} {σ : L2.St} {H : Hp} {s : Shared} {Q : VK} {us : List Value} {vs : List V} (M : Mk X.K C f) (Fi : FnOk X.prog X.w X.K X.mg X.base CX k f fd ps sp) (hr : Room (k + 1) X.A) (hb : L2.Binds X.K fd ps [])
    (hx : PassesAt CX X σ (E σ)) (I : Inv X pins σ H s) (r : Vals vs us)
    (h : ∀ y dx, H y = none → H dx = none → dx ≠ y → sp (.ref y :: vs) (upd (upd H dx (.own y)) y (.ins C dx [])) (fun v H2 => v = .non ∧ Q (.ref y) H2) (E σ)) :
    wpAny (model X.prog X.w) X.A (call (.ref C) us) (EP X pins σ Q) X.xe s := by
  -- the two new places
  obtain ⟨n, hn⟩ : ∃ n, s.heap.objs.size = n := ⟨_, rfl⟩
  have pr := h (n + 1) n (I.hok.fresh (by omega)) (I.hok.fresh (by omega)) (Nat.ne_of_lt (Nat.lt_succ_self n))
  have J := Inv.made (C := C) I
  rw [hn] at J
  have rv : Vals (V.ref (n + 1) :: vs) (Value.ref (n + 1) :: us) := .cons rfl r
  have len : (Value.ref (n + 1) :: us).length = ps.length := rv.length.symm.trans (Fi.len _ _ _ _ pr)
  have bb := hb _ _ J.kIn (by rw [List.append_nil]; exact len)
  rw [List.append_nil] at bb
  subst hn
  apply wpAny_call
  refine make_map (f := f) I.kIn M.makes M.init (beq_iff_eq.mp M.fn) ?_
  refine codeAny_mono (Fi.run _ X.stack _ _ _ _ _ _ _ (hr.make C us []) (J.env0.make C us []) bb rv pr) fun r s' done => ?_
  match r, done with
  | .error er, done => exact hx pins _ _ er s' J done
  | .ok .next, done => exact done.elim
  | .ok .brk, done => exact done.elim
  | .ok .cont, done => exact done.elim
  | .ok (.ret u), done =>
    obtain ⟨v, H', I3, rv3, isN, q3⟩ := J.after done
    subst isN
    exact ⟨rv3, ⟨V.ref (s.heap.objs.size + 1), H', I3, rfl, q3⟩⟩
def tMakeS (C : Addr) (sp : Sp) (E : L2.St → XK) (t : TA) : TE := fun σ H Q => t σ H fun vs H1 => ∀ y dx, H1 y = none → H1 dx = none → dx ≠ y → sp (.ref y :: vs) (upd (upd H1 dx (.own y)) y (.ins C dx [])) (fun v H2 => v = .non ∧ Q (.ref y) H2) (E σ)
theorem pe_makeS (M : Mk X.K C f) (Fi : FnOk X.prog X.w X.K X.mg X.base CX k f fd ps sp) (hr : Room (k + 1) X.A) (hg : Gl X x) (hm : X.mg x = some (.ref C)) (hb : L2.Binds X.K fd ps []) (hx : ∀ σ, PassesAt CX X σ (E σ)) (ha : PA X (e :: es) t)
    (hdb : (x == ("__debug__" : Str)) = false) (he : starEach (e :: es) X.env = (false, eval e X.env) :: starEach es X.env) (hpl : (backTo pos (starEach es X.env)).any (·.1) = false) : PE X (.Call (.Name x p) (e :: es) [] pos) (tMakeS C sp E t) :=
  ⟨fun pins s σ H Q I h => wpAny_Call_Name_kw (ld_glob I hg hm
    (PySem.W.callWith_K (h₀ := X.base) I.ok.mod.kin M.kp (thn (ha.run pos pins s σ H _ I h) fun us s1 ⟨vs, H1, I1, r, q⟩ => ⟨I1.kIn, run_makeS M Fi hr hb (hx σ) I1 r q⟩) he hpl) hdb)⟩
def tOwnS (C : Addr) (sp : Sp) (E : L2.St → XK) (ta tb : TE) : TE := fun σ H Q => ta σ H fun x H1 => tb σ H1 fun y H2 => Own.rOwn C sp (E σ) x y H2 Q
theorem pe_ownS (hc : PySem.W.selfFirst X.K C = true) (hs : PySem.W.findIn X.K (.ref C) (PySem.dunder op.info.2) = some (some (.ref f))) (hf : PySem.W.isFn X.K (.ref f) = true)
    (Fi : FnOk X.prog X.w X.K X.mg X.base CX k f fd ps sp) (hr : Room k X.A) (hb : L2.Binds X.K fd ps []) (hx : ∀ σ, PassesAt CX X σ (E σ)) (ha : PE X a ta) (hb2 : PE X b tb) : PE X (.BinOp a op b pos) (tOwnS C sp E ta tb) := by
  refine ⟨fun pins s σ H Q I h => wpAny_BinOp (binT ha hb2 I h fun v u s2 x y H2 I2 rx ry q => ?_)⟩
  obtain ⟨aa, dx, fs, bb, dy, gs, rfl, rfl, ea, eb, q⟩ := q
  cases rx
  cases ry
  obtain ⟨_, Oa, _⟩ := ins_get I2.hok ea
  obtain ⟨_, Ob, _⟩ := ins_get I2.hok eb
  obtain ⟨_, Ja, _⟩ := Oa.look
  obtain ⟨_, Jb, _⟩ := Ob.look
  obtain ⟨_, fr⟩ := I2.fr
  refine PySem.W.binop_K fr I2.ok.mod.kin Ja Jb.type hc hs hf ?_
  exact thn (run_fnS (us := [.ref aa, .ref bb]) (vs := [.ref aa, .ref bb]) Fi hr hb (hx σ) I2 (.cons rfl (.cons rfl .nil)) q) fun r s' ⟨v', H', I', r', q'⟩ => Own.back_of r' ⟨v', H', I', r', q'⟩
end
section
variable {X : Cx} {W : WX} {H0 : Hp} {Oc : List Addr} {Γ Γ1 Γ' : List Sl} {e a b c o tg iter elt ie : Expr} {es ifs : List Expr} {rest body els : List Stmt} {s s0 s1 s2 : Sl} {ss : List Sl} {d d1 d2 : D} {ds ds1 ds2 : List D} {i j : Int} {pos pos' p2 p apos : Pos} {x y m f g : Str} {out o1 : Out} {n : Nat} {q : Bool} {k : Nat} {ps : List Str} {P : Pm} {C C1 : Addr} {ns : List Str}
/-- C(..), an __init__ that raises -/
theorem exx_make {Γe : Option (List Sl)} (tk : L2N.Takes X W) (F : ClG X.prog X.w X.K X.mg X.base x C k ps P) (hr : Room (k + 1) X.A) (ha : Ea X H0 Oc Γ (e :: es) ss) (hp : P (ss.map Sl.arg) (.exc C1 ns ds Γe)) (hg : Gl X x := by rfl) (hdb : (x == ("__debug__" : Str)) = false := by decide)
    (he : starEach (e :: es) X.env = (false, eval e X.env) :: starEach es X.env := by rfl) (hpl : (backTo pos (starEach es X.env)).any (·.1) = false := by rfl) : Exx X W H0 Oc Γ (.Call (.Name x p) (e :: es) [] pos) C1 ns ds := fun Δ τ σ H Q hl w q => by
  obtain ⟨fi, fd, Fi, hM, hm, hb⟩ := F.ex
  refine wpE.of (pe_makeS (E := WE W) hM Fi hr hg hm hb (fun σ => L2N.passAt tk σ) pa_wp hdb he hpl) ?_
  refine ha Δ τ σ H _ hl w fun vs O H1 w1 ok => ?_
  intro yy dx ny ndx ne
  exact ⟨H1, O, _, _, _, _, hp, rfl, WfO.making (w1.callee ok) ny ndx ne, fun d H' w2 => q d H' (w1.after w2 rfl)⟩
/-- a op b, own classes -/
theorem ev_own {op : Operator} {ns1 : List Str} (hc : PySem.W.selfFirst X.K C = true) (F : MtG X.prog X.w X.K X.mg X.base C (PySem.dunder op.info.2) k ps P) (hr : Room k X.A) (ha : Ev X H0 Oc Γ a s1) (hd1 : s1.dat = some (.obj C ns ds1)) (hb : Ev X H0 Oc Γ b s2) (hd2 : s2.dat = some (.obj C ns1 ds2))
    (hp : P [s1.arg, s2.arg] (.ret s)) (hs : s.res = true := by rfl) : Ev X H0 Oc Γ (.BinOp a op b pos) s := fun Δ τ σ H Q hl w q => by
  obtain ⟨fi, fd, Fi, hM, hbd⟩ := F.ex
  refine wpE.of (pe_op (Own.op_own (E := E0) hc hM.at_ hM.fn Fi hr hbd passLN) pe_wp pe_wp) ?_
  refine ha Δ τ σ H _ hl w fun v H1 w1 => ?_
  refine hb (s1 :: Δ) (some v :: τ) σ H1 _ (by simp [hl]) w1 fun u H2 ⟨O, w2⟩ => ?_
  obtain ⟨r2, dx2, fs2, rfl, g2, g3, g4⟩ := (w2.head.b w2.ex hd2 : RepB _ _ _ (.obj C ns1 ds2) u)
  obtain ⟨r1, dx1, fs1, rfl, k2, k3, k4⟩ := (w2.pop.head.b w2.ex hd1 : RepB _ _ _ (.obj C ns ds1) v)
  refine ⟨r1, dx1, fs1, r2, dx2, fs2, rfl, rfl, k2, g2, O, [s1.arg, s2.arg], _, hp, ?_, fun v H' w3 => q v H' (w2.pop.pop.after w3 hs)⟩
  exact w2.callee (ss := [s1, s2]) (vs := [.ref r1, .ref r2]) ⟨_, _, rfl, w2.pop.head, _, _, rfl, w2.head, rfl⟩
theorem exx_own {op : Operator} {ns1 : List Str} {Γe : Option (List Sl)} {xs : List Str} (tk : L2N.Takes X W) (hc : PySem.W.selfFirst X.K C = true) (F : MtG X.prog X.w X.K X.mg X.base C (PySem.dunder op.info.2) k ps P) (hr : Room k X.A) (ha : Ev X H0 Oc Γ a s1) (hd1 : s1.dat = some (.obj C ns ds1)) (hb : Ev X H0 Oc Γ b s2) (hd2 : s2.dat = some (.obj C ns1 ds2))
    (hp : P [s1.arg, s2.arg] (.exc C1 xs ds Γe)) : Exx X W H0 Oc Γ (.BinOp a op b pos) C1 xs ds := fun Δ τ σ H Q hl w q => by
  obtain ⟨fi, fd, Fi, hM, hbd⟩ := F.ex
  refine wpE.of (pe_ownS (E := WE W) hc hM.at_ hM.fn Fi hr hbd (fun σ => L2N.passAt tk σ) pe_wp pe_wp) ?_
  refine ha Δ τ σ H _ hl w fun v H1 w1 => ?_
  refine hb (s1 :: Δ) (some v :: τ) σ H1 _ (by simp [hl]) w1 fun u H2 ⟨O, w2⟩ => ?_
  obtain ⟨r2, dx2, fs2, rfl, g2, g3, g4⟩ := (w2.head.b w2.ex hd2 : RepB _ _ _ (.obj C ns1 ds2) u)
  obtain ⟨r1, dx1, fs1, rfl, k2, k3, k4⟩ := (w2.pop.head.b w2.ex hd1 : RepB _ _ _ (.obj C ns ds1) v)
  refine ⟨r1, dx1, fs1, r2, dx2, fs2, rfl, rfl, k2, g2, O, [s1.arg, s2.arg], _, hp, ?_, fun d H' w3 => q d H' (w2.pop.pop.after w3 rfl)⟩
  exact w2.callee (ss := [s1, s2]) (vs := [.ref r1, .ref r2]) ⟨_, _, rfl, w2.pop.head, _, _, rfl, w2.head, rfl⟩
/-! ### statements whose expression raises -/
theorem sds_setX {pos2 : Pos} (hN : X.N.Nodup) (hi : X.N[n]? = some x) (hx : Loc X.env.scope x) (he : Exx X W H0 Oc Γ e C ns ds) (hs : swapsWith e (some (.Name x pos2)) pos.line X.env = pure false) (hf : X.fn x = true ∨ X.env.scope.names.lookup x = some .local) :
    Sds X W H0 Oc Γ (.Assign [.Name x pos2] e pos :: rest) (.exc C ns ds (some Γ)) := fun Δ τ σ H D hl st w k => wpSs.of (pss_cons (ps_set hN hi hx pe_wp hs hf) pss_wp) (he Δ τ σ H _ hl w fun d H1 w1 => k d σ H1 w1)
theorem sds_exprX (he : Exx X W H0 Oc Γ e C ns ds) (hs : swapsWith e none pos.line X.env = pure false := by rfl) : Sds X W H0 Oc Γ (.Expr e pos :: rest) (.exc C ns ds (some Γ)) := fun Δ τ σ H D hl st w k =>
  wpSs.of (pss_cons (ps_expr pe_wp hs) pss_wp) (he Δ τ σ H _ hl w fun d H1 w1 => k d σ H1 w1)
theorem sds_retX (he : Exx X W H0 Oc Γ e C ns ds) : Sds X W H0 Oc Γ (.Return (some e) pos :: rest) (.exc C ns ds (some Γ)) := fun Δ τ σ H D hl st w k =>
  wpSs.of (pss_cons (ps_ret pe_wp) pss_wp) (he Δ τ σ H _ hl w fun d H1 w1 => k d σ H1 w1)
theorem Sds.low {st : List Stmt} {Γe : Option (List Sl)} (h : Sds X W H0 Oc Γ st (.exc C ns ds Γe)) : Sds X W H0 Oc Γ st (.exc C ns ds none) := fun Δ τ σ H D hl hst w k => h Δ τ σ H D hl hst w (by
  intro d σ' H' xw
  cases Γe with
  | none => exact k d σ' H' xw
  | some Γ2 => exact k d σ' H' (show Wf _ _ _ _ _ _ from Wf.only (show Wf X.K H0 Oc (.va (.xd ns ds) :: (Δ ++ Γ2)) (some (.ref d) :: (τ ++ σ')) H' from xw)))
/-! ### raise -/
theorem WfO.newXd {K : PySem.W.Frag} {O : List Addr} {G : List Sl} {S : List (Option V)} {H : Hp} {pp : Addr} {fs : List (Str × V)} (w : WfO K H0 Oc O G S H) (hp : H pp = none) (hn : fs.map (·.1) = ns) (h : Reps K (cut H O) ds (fs.map (·.2))) : WfO K H0 Oc O (.va (.xd ns ds) :: G) (some (.ref pp) :: S) (upd H pp (.xd fs)) := by
  have np : pp ∉ O := fun z => w.live pp z hp
  refine (w.grow (Ex.new hp)).push ⟨.ref pp, rfl, pp, fs, rfl, ?_, hn, Reps.mono (cut_mono (Ex.new hp)) h⟩ fun _ z => nomatch z
  rw [cut_out np]
  exact upd_same
theorem sds_raise1 {pos2 : Pos} (hc : X.calm = true) (tk : L2N.Takes X W) (T : Sup.Ex1 X.prog X.K X.mg x f C) (hr : Room 2 X.A) (hg : Gl X x) (he : Ev X H0 Oc Γ e (.va d))
    (hdb : (x == ("__debug__" : Str)) = false := by decide) (hst : starEach [e] X.env = (false, eval e X.env) :: starEach [] X.env := by rfl) (hpl : (backTo pos (starEach [] X.env)).any (·.1) = false := by rfl) :
    Sds X W H0 Oc Γ (.Raise (some (.Call (.Name x p) [e] [] pos)) none pos2 :: rest) (.exc C [f] [d] (some Γ)) := fun Δ τ σ H D hl st w k => by
  refine wpSs.of (pss_cons (L2N.ps_raise hc tk (Sup.pmk_1 T hr hg (pa_cons pe_wp pa_nil hst) hdb hst hpl)) pss_wp) ?_
  refine he Δ τ σ H _ hl w fun v H1 ⟨O, w1⟩ => ?_
  obtain ⟨v', e1, rv⟩ := w1.head
  cases e1
  exact ⟨v, rfl, fun dd nd => k dd σ _ ⟨O, w1.pop.newXd (ns := [f]) (ds := [d]) nd rfl ⟨v, [], rfl, rv, rfl⟩⟩⟩
theorem sds_raise2 {pos2 : Pos} (hc : X.calm = true) (tk : L2N.Takes X W) (T : Sup.Ex2 X.prog X.K X.mg x f g C) (hr : Room 2 X.A) (hg : Gl X x) (he : Ev X H0 Oc Γ a (.va d1)) (he2 : Ev X H0 Oc Γ b (.va d2))
    (hdb : (x == ("__debug__" : Str)) = false := by decide) (hst : starEach [a, b] X.env = (false, eval a X.env) :: starEach [b] X.env := by rfl) (hst2 : starEach [b] X.env = (false, eval b X.env) :: starEach [] X.env := by rfl) (hpl : (backTo pos (starEach [b] X.env)).any (·.1) = false := by rfl) :
    Sds X W H0 Oc Γ (.Raise (some (.Call (.Name x p) [a, b] [] pos)) none pos2 :: rest) (.exc C [g, f] [d2, d1] (some Γ)) := fun Δ τ σ H D hl st w k => by
  refine wpSs.of (pss_cons (L2N.ps_raise hc tk (Sup.pmk_2 T hr hg (pa_cons pe_wp (pa_cons pe_wp pa_nil hst2) hst) hdb hst hpl)) pss_wp) ?_
  refine he Δ τ σ H _ hl w fun v H1 w1 => ?_
  refine he2 (.va d1 :: Δ) (some v :: τ) σ H1 _ (by simp [hl]) w1 fun u H2 ⟨O, w2⟩ => ?_
  obtain ⟨u', e1, ru⟩ := w2.head
  cases e1
  obtain ⟨v', e1, rv⟩ := w2.pop.head
  cases e1
  exact ⟨v, u, rfl, fun dd nd => k dd σ _ ⟨O, w2.pop.pop.newXd (ns := [g, f]) (ds := [d2, d1]) nd rfl ⟨u, [v], rfl, ru, v, [], rfl, rv, rfl⟩⟩⟩
/-! ### try: body except x as n: suite -/
def wNo : WX := fun _ _ _ _ => False
def SuiteOk (X : Cx) (W : WX) (H0 : Hp) (Oc : List Addr) (n : Nat) (rest : List Stmt) (out : Out) : Out → Prop
  | .nx Γ2 => Sds X W H0 Oc (Γ2.set n .no) rest out
  | .ret s => out = .ret s
  | .brk Γ2 => out = .brk (Γ2.set n .no)
  | .cnt Γ2 => out = .cnt (Γ2.set n .no)
  | .exc _ _ _ _ => False
def TryOk (X : Cx) (W : WX) (H0 : Hp) (Oc : List Addr) (n : Nat) (c : Value) (suite rest : List Stmt) (out : Out) : Out → Prop
  | .nx Γ1 => Sds X W H0 Oc Γ1 rest out
  | .ret s => out = .ret s
  | .brk Γ1 => out = .brk Γ1
  | .cnt Γ1 => out = .cnt Γ1
  | .exc C ns ds (some Γe) => (PySem.W.exmOne X.K (.ref C) c = some true ∧ ∀ (a : Addr) (oe : Obj) (d : Addr) (pn : List (Addr × Obj)), L2N.Zn (.ref C) (some d) oe → (∃ vs, oe.data = .fields vs) →
      ∃ os, Sds (X.suite a ((a, oe) :: pn)) wNo H0 Oc (Γe.set n (.va (.er a C d ns ds))) suite os ∧ SuiteOk X W H0 Oc n rest out os) ∨ (PySem.W.exmOne X.K (.ref C) c = some false ∧ out = .exc C ns ds (some Γe))
  | .exc _ _ _ none => False
theorem sds_try {cv : Value} {b0 : Stmt} {suite : List Stmt} {np : Pos} {ob : Out} (hs : X.stack = X.env :: X.outer) (hf : X.env.frame = some X.env.locals) (hN : X.N.Nodup) (hi : X.N[n]? = some y) (hln : X.env.kindOf y = some .local) (hc : Names X x cv) (tk : L2N.Takes X W)
    (hb : ∀ (W' : WX) (pn : List (Addr × Obj)) (xe : Value → Shared → Prop), L2N.Takes (X.tr pn xe) W' → PassesOwn (model X.prog X.w) X.A X.env xe → Sds (X.tr pn xe) W' H0 Oc Γ body ob) (h : TryOk X W H0 Oc n cv (b0 :: suite) rest out ob) :
    Sds X W H0 Oc Γ (.Try body [.ExceptHandler (some (.Name x np)) (some y) (b0 :: suite) pos'] [] [] pos :: rest) out := fun Δ τ σ H D hl st w k => by
  refine wpSs.of (pss_cons (L2N.ps_try_as (tb := fun W' D σ H => ∀ (pn : List (Addr × Obj)) (xe : Value → Shared → Prop), L2N.Takes (X.tr pn xe) W' → PassesOwn (model X.prog X.w) X.A X.env xe → wpSs (X.tr pn xe) body D σ H)
    (ts := fun a cls d D σ H => ∀ (oe : Obj) (pn : List (Addr × Obj)), L2N.Zn cls d oe → (∃ vs, oe.data = .fields vs) → wpSs (X.suite a ((a, oe) :: pn)) (b0 :: suite) D σ H) hs hf hN hi hln hc tk
    (fun W' pn xe t po => ⟨fun pins s σ H D I h => h pn xe t po pins s I⟩) (fun a oe cls d pn z f => ⟨fun pins s σ H D I h => h oe pn z f pins s I⟩)) pss_wp) ?_
  intro pn xe t po
  refine hb _ pn xe t po Δ τ σ H _ hl st w ?_
  match ob, h with
  | .nx Γ1, h => exact fun σ' H' w' => h Δ τ σ' H' D hl st w' k
  | .ret s, h =>
    subst h
    exact k
  | .brk Γ1, h =>
    subst h
    exact k
  | .cnt Γ1, h =>
    subst h
    exact k
  | .exc C ns ds (some Γe), h =>
    intro d σ' H' xw
    have xw' : Wf X.K H0 Oc (.va (.xd ns ds) :: (Δ ++ Γe)) (some (.ref d) :: (τ ++ σ')) H' := xw
    rcases h with ⟨hm, h⟩ | ⟨hm, h⟩
    · refine ⟨true, hm, fun _ aa na => ?_, (fun z => nomatch z)⟩
      intro oe pn2 z f
      obtain ⟨os, h1, h2⟩ := h aa oe d pn2 z f
      obtain ⟨O, w1⟩ := xw'
      obtain ⟨v, e1, d', fs, e2, g2, g3, g4⟩ := w1.head
      cases e1
      cases e2
      have w2 := (w1.pop.push (s := .va (.er aa C d ns ds)) (y := some (.ref aa)) ⟨.ref aa, rfl, fs, rfl, g2, g3, g4⟩ fun _ z => nomatch z).set (n := n) hl
      refine h1 Δ τ _ H' _ hl st ⟨O, w2⟩ ?_
      match os, h2 with
      | .nx Γ2, h2 => exact fun σ4 H4 w4 => h2 Δ τ _ H4 D hl st (w4.unset hl) k
      | .ret s, h2 =>
        subst h2
        exact k
      | .brk Γ2, h2 =>
        subst h2
        exact fun σ4 H4 w4 => k _ H4 (w4.unset hl)
      | .cnt Γ2, h2 =>
        subst h2
        exact fun σ4 H4 w4 => k _ H4 (w4.unset hl)
    · refine ⟨false, hm, (fun z => nomatch z), fun _ => ?_⟩
      subst h
      exact k d σ' H' xw
/-! ### self.f = e -/
def D.own : D → Option (Addr × List Str × List D)
  | .obj C ns ds => some (C, ns, ds)
  | .slf _ C ns ds => some (C, ns, ds)
  | _ => none
def D.put : D → List Str → List D → D
  | .obj C _ _, ns, ds => .obj C ns ds
  | .slf q C _ _, ns, ds => .slf q C ns ds
  | d, _, _ => d
theorem RepH.own {K : PySem.W.Frag} {H : Hp} {a : Addr} {o : HO} (h : RepH K H d a o) (hd : d.own = some (C, ns, ds)) : ∃ dx fs, o = .ins C dx fs ∧ fs.map (·.1) = ns ∧ Reps K H ds (fs.map (·.2)) ∧ ∀ dx' fs', Reps K H ds1 (fs'.map (·.2)) → RepH K H (d.put (fs'.map (·.1)) ds1) a (.ins C dx' fs') := by
  cases d <;> first
    | (cases hd; done)
    | skip
  · cases hd
    cases o <;> first | exact h.elim | skip
    obtain ⟨rfl, h1, h2⟩ := h
    exact ⟨_, _, rfl, h1, h2, fun dx' fs' h3 => ⟨rfl, rfl, h3⟩⟩
  · cases hd
    cases o <;> first | exact h.elim | skip
    obtain ⟨⟨rfl, rfl⟩, h1, h2⟩ := h
    exact ⟨_, _, rfl, h1, h2, fun dx' fs' h3 => ⟨⟨rfl, rfl⟩, rfl, h3⟩⟩
theorem putF_new {v : V} : ∀ {fs : List (Str × V)}, f ∉ fs.map (·.1) → putF f v fs = fs ++ [(f, v)]
  | [], _ => rfl
  | (g, u) :: r, h => by
    unfold putF
    rw [if_neg fun z => h (by rw [← z]; exact List.mem_cons_self), putF_new fun z => h (List.mem_cons_of_mem _ z)]
    rfl
/-- a new field -/
theorem sds_fld {pp : Pos} (n : Nat) (h : Γ[n]? = some (.ow d)) (ho : d.own = some (C, ns, ds)) (hst : stab Γ = true) (cl : Cls X.K C) (na : NoAttr X.K C f) (hf : f ∉ ns) (hlen : ns.length < 1000) (he : Ev X H0 Oc Γ e (.va d1)) (hr : Sds X W H0 Oc (Γ.set n (.ow (d.put (ns ++ [f]) (ds ++ [d1])))) rest out)
    (hN : X.N[n]? = some x) (hv : Vis X.env.scope x) (hd : (x == ("__debug__" : Str)) = false) (hcd : (x == ("__classdict__" : Str)) = false)
    (hs : swapsWith e (some (.Attribute (.Name x p) f pp)) pos.line X.env = pure false := by rfl) : Sds X W H0 Oc Γ (.Assign [.Attribute (.Name x p) f pp] e pos :: rest) out := fun Δ τ σ H D hl st w k => by
  refine wpSs.of (pss_cons (ps_fld (pe_var hN hv hd hcd) pe_wp hs) pss_wp) ?_
  refine he Δ τ σ H _ hl w fun v H1 ⟨O, w1⟩ => ?_
  obtain ⟨yy, hy, pa, oo, rfl, g2, g3, g4, g5⟩ := slot_of hl w1.pop h
  obtain ⟨v', e1, rv⟩ := w1.head
  cases e1
  obtain ⟨dx, fs, rfl, q1, q2, q3⟩ := RepH.own (ds1 := ds ++ [d1]) g5 ho
  refine ⟨.ref pa, hy, pa, C, dx, fs, rfl, g4, cl, na, ?_, ?_⟩
  · have : fs.length = ns.length := by rw [← q1, List.length_map]
    omega
  · subst q1
    have q4 := q3 dx (fs ++ [(f, v)]) (by rw [List.map_append]; exact q2.app (Reps.one rv))
    rw [List.map_append] at q4
    rw [putF_new hf]
    exact hr Δ τ σ _ D hl st ⟨O, w1.pop.mutN hl st hst h hy q4⟩ k
/-! ### iteration over an own class -/
theorem ei_own {ad : Addr} (T : Own.IterAt X.K X.mg C ad f) (hr : Room 2 X.A) (he : Ev X H0 Oc Γ iter (.bw (.obj C ns ds1))) (hi : (ns.zip ds1).lookup f = some (.lst ds)) : Ei X H0 Oc Γ tg iter ds := ⟨_, Own.pi_own T hr pe_wp, fun Δ τ σ H R hl w k => he Δ τ σ H _ hl w fun v H1 ⟨O, w1⟩ => by
  obtain ⟨v', e1, r, dx, fs, rfl, h2, h3, h4⟩ := w1.head
  cases e1
  subst h3
  obtain ⟨z, hz, rz⟩ := h4.look hi
  obtain ⟨l, vs, rfl, g1, g2⟩ := id rz
  exact ⟨r, dx, fs, l, rfl, h2, hz, ⟨vs, .of (cut_ex _ _ g1)⟩, k _ [.va (.lst ds)] [some (.ref l)] H1 (fun _ _ => it_lst rfl) rfl ⟨O, w1.pop.push ⟨.ref l, rfl, rz⟩ fun _ z => nomatch z⟩⟩⟩
end
end Y

namespace Y
open PySem PySem.Spec PyProof.Rows L2
abbrev wx (E : XK) : WX := fun cls d _ H => E cls d H
/-- how a body's end is the call's -/
def Fin : Out → Out → Prop
  | .nx _, o => o = .ret (.va .non)
  | .ret s, o => o = .ret s
  | .exc C ns ds _, o => ∃ Γe, o = .exc C ns ds Γe
  | _, _ => False
def FinI (a C : Addr) : Out → Out → Prop
  | .nx Γ, o => ∃ ns ds, Γ[0]? = some (.ow (.slf a C ns ds)) ∧ o = .ret (.ow (.obj C ns ds))
  | .exc C ns ds _, o => ∃ Γe, o = .exc C ns ds Γe
  | _, _ => False
section
variable {K : PySem.W.Frag} {H0 H : Hp} {O Oc : List Addr} {G Γ : List Sl} {S : List (Option V)}
theorem WfO.pad (n : Nat) (w : WfO K H0 Oc O G S H) : WfO K H0 Oc O (G ++ List.replicate n .no) (S ++ List.replicate n none) H := by
  have no : ∀ i s, (G ++ List.replicate n Sl.no)[i]? = some s → G[i]? = some s ∧ i < G.length ∨ s = .no := fun i s h => by
    by_cases hi : i < G.length
    · rw [List.getElem?_append_left hi] at h
      exact .inl ⟨h, hi⟩
    · rw [List.getElem?_append_right (by omega), List.getElem?_replicate] at h
      split at h
      · exact .inr (Option.some.inj h).symm
      · cases h
  refine ⟨w.sub, w.new, w.old, w.live, w.ex, by simp [w.len], fun i s x h1 h2 => ?_, fun i j p d d' h1 h2 h3 h4 => ?_⟩
  · rcases no i s h1 with ⟨e, hi⟩ | e
    · rw [List.getElem?_append_left (by rw [w.len]; exact hi)] at h2
      exact w.ok i s x e h2
    · subst e
      trivial
  · rcases no i _ h1 with ⟨e, hi⟩ | e
    · rcases no j _ h3 with ⟨f, hj⟩ | f
      · rw [List.getElem?_append_left (by rw [w.len]; exact hi)] at h2
        rw [List.getElem?_append_left (by rw [w.len]; exact hj)] at h4
        exact w.nd i j p d d' e h2 f h4
      · cases f
    · cases e
/-- the object in the making, its address told -/
theorem WfO.slf {C : Addr} {ns : List Str} {ds : List D} {a : Addr} (w : WfO K H0 Oc O (.ow (.obj C ns ds) :: G) (some (.ref a) :: S) H) : WfO K H0 Oc O (.ow (.slf a C ns ds) :: G) (some (.ref a) :: S) H := by
  refine ⟨w.sub, w.new, w.old, w.live, w.ex, by simpa using w.len, fun i s x h1 h2 => ?_, fun i j p d d' h1 h2 h3 h4 => ?_⟩
  · cases i with
    | zero =>
      cases h1
      cases h2
      obtain ⟨p, o, e, h2, h3, h4, h5⟩ := w.head
      cases e
      refine ⟨a, o, rfl, h2, h3, h4, ?_⟩
      cases o <;> first | exact h5.elim | exact ⟨⟨h5.1, rfl⟩, h5.2⟩
    | succ i => exact w.ok (i + 1) s x h1 h2
  · have key : ∀ (k : Nat) (dd : D), (Sl.ow (.slf a C ns ds) :: G)[k]? = some (Sl.ow dd) → ∃ dd', (Sl.ow (.obj C ns ds) :: G)[k]? = some (Sl.ow dd') := fun k dd h => by
      cases k with
      | zero => exact ⟨_, rfl⟩
      | succ k => exact ⟨dd, h⟩
    obtain ⟨_, e⟩ := key i d h1
    obtain ⟨_, f⟩ := key j d' h3
    exact w.nd i j p _ _ e h2 f h4
theorem WfO.at0 {C : Addr} {ns : List Str} {ds : List D} {a : Addr} (w : WfO K H0 Oc O G S H) (h : G[0]? = some (.ow (.slf a C ns ds))) : Wf K H0 Oc [.ow (.obj C ns ds)] [some (.ref a)] H := by
  match G, S, h, w with
  | [], _, h, _ => cases h
  | _ :: G, [], h, w => exact absurd w.len (by simp)
  | s :: G, y :: S, h, w =>
    cases h
    obtain ⟨p, o, rfl, h2, h3, h4, h5⟩ := w.head
    obtain ⟨O', w'⟩ := (Wf.only ⟨O, w⟩ : Wf K H0 Oc [.ow (.slf a C ns ds)] [some (.ref p)] H)
    obtain ⟨p', o', e, k2, k3, k4, k5⟩ := w'.head
    cases e
    cases o' <;> first | exact k5.elim | skip
    obtain ⟨⟨rfl, rfl⟩, k6⟩ := k5
    refine ⟨O', w'.sub, w'.new, w'.old, w'.live, w'.ex, rfl, fun i s x h1 h2 => ?_, fun i j p d d' h1 h2 h3 h4 => ?_⟩
    · cases i with
      | zero =>
        cases h1
        cases h2
        exact ⟨_, _, rfl, k2, k3, k4, rfl, k6⟩
      | succ i => cases h1
    · cases i with
      | zero => cases j with
        | zero => rfl
        | succ j => cases h3
      | succ i => cases h1
end
section
variable {Pr : Program} {w : World} {K : PySem.W.Frag} {mg : Str → Option Value} {base : Heap}
/-- a def by its body's reading -/
theorem fn_sds {x qual : Str} {st : Stmt} {f : Addr} {fd : FuncData} {N ps : List Str} {k : Nat} {P : Pm} (F : Fun K x qual st f fd) (S : FnScope N ps (defScope st)) (hlen : ∀ Γ o, P Γ o → Γ.length = ps.length)
    (hb : ∀ (cdv : Value) (A : Around) (outer : List Env) (s : Shared) (H : Hp) (E : XK), Room k (A.deeper (envOfC qual (defScope st) s.heap.objs.size f cdv)) → ∀ (H0 : Hp) (Oc : List Addr) (Γ : List Sl) (o : Out), P Γ o →
      ∃ o', Sds (cxOf (L2N.CX Pr w) Pr w K mg base N qual (defScope st) f cdv A outer s H E) (wx E) H0 Oc (Γ ++ List.replicate (N.length - ps.length) .no) (defBody st) o' ∧ Fin o' o) :
    FnOk Pr w K mg base (L2N.CX Pr w) (k + 1) f fd ps (mkSp K P) := by
  obtain ⟨oc, od, kV, doc, pm, an, cdv, ct, osl, rfl, lk, hcd⟩ := F.ex
  have len : ∀ vs H Q E, mkSp K P vs H Q E → vs.length = ps.length := fun vs H Q E ⟨Oc, Γ, o, hp, ⟨O, w⟩, _⟩ => by
    rw [← hlen Γ o hp, ← w.len, List.length_map]
  refine fn_of lk hcd S len fun A outer s H vs Q E hr hsp => ?_
  have hl := len vs H Q E hsp
  obtain ⟨Oc, Γ, o, hp, ⟨O, w0⟩, sat⟩ := hsp
  obtain ⟨o', hS, fin⟩ := hb cdv A outer s H E hr H Oc Γ o hp
  refine ⟨wpSs _ _, pss_wp, hS [] [] (L2.start N vs) H _ rfl rfl ⟨O, ?_⟩ ?_⟩
  · unfold L2.start
    rw [← hl]
    exact w0.pad _
  · match o', fin with
    | .nx Γ', fin =>
      subst fin
      exact fun σ H' ⟨O', w'⟩ => sat .non H' (Wf.only ⟨O', w'.flat rfl (show Rep K H' .non .non from rfl)⟩)
    | .ret s', fin =>
      subst fin
      exact sat
    | .exc C ns ds Γe, fin =>
      obtain ⟨Γe', rfl⟩ := fin
      intro d σ H' xw
      refine sat d H' ?_
      cases Γe with
      | none => exact xw
      | some Γ2 => exact Wf.only (show Wf K H Oc (.va (.xd ns ds) :: ([] ++ Γ2)) (some (.ref d) :: ([] ++ σ)) H' from xw)
/-- an __init__ -/
theorem init_sds {x qual : Str} {st : Stmt} {f C : Addr} {fd : FuncData} {N ps : List Str} {k : Nat} {P : Pm} (F : Fun K x qual st f fd) (S : FnScope N ps (defScope st)) (hlen : ∀ Γ o, P Γ o → Γ.length + 1 = ps.length)
    (hb : ∀ (cdv : Value) (A : Around) (outer : List Env) (s : Shared) (H : Hp) (E : XK), Room k (A.deeper (envOfC qual (defScope st) s.heap.objs.size f cdv)) → ∀ (H0 : Hp) (Oc : List Addr) (Γ : List Sl) (o : Out) (a : Addr), P Γ o →
      ∃ o', Sds (cxOf (L2N.CX Pr w) Pr w K mg base N qual (defScope st) f cdv A outer s H E) (wx E) H0 Oc (.ow (.slf a C [] []) :: (Γ ++ List.replicate (N.length - ps.length) .no)) (defBody st) o' ∧ FinI a C o' o) :
    FnOk Pr w K mg base (L2N.CX Pr w) (k + 1) f fd ps (mkSpI K C P) := by
  obtain ⟨oc, od, kV, doc, pm, an, cdv, ct, osl, rfl, lk, hcd⟩ := F.ex
  have len : ∀ vs H Q E, mkSpI K C P vs H Q E → vs.length = ps.length := fun vs H Q E ⟨H0, Oc, Γ, o, self, us, hp, e, ⟨O, w⟩, _⟩ => by
    have := w.len
    rw [← hlen Γ o hp, ← List.length_map (f := some) (as := vs), this]
    rfl
  refine fn_of lk hcd S len fun A outer s H vs Q E hr hsp => ?_
  have hl := len vs H Q E hsp
  obtain ⟨H0, Oc, Γ, o, self, us, hp, rfl, ⟨O, w0⟩, sat⟩ := hsp
  obtain ⟨aa, oo, e, h2, h3, h4, h5⟩ := w0.head
  cases e
  obtain ⟨o', hS, fin⟩ := hb cdv A outer s H E hr H0 Oc Γ o aa hp
  refine ⟨wpSs _ _, pss_wp, hS [] [] (L2.start N _) H _ rfl rfl ⟨O, ?_⟩ ?_⟩
  · unfold L2.start
    rw [← hl]
    exact w0.slf.pad _
  · match o', fin with
    | .nx Γ', fin =>
      obtain ⟨ns, ds, e1, rfl⟩ := fin
      exact fun σ H' ⟨O', w'⟩ => sat H' (w'.at0 e1)
    | .exc C ns ds Γe, fin =>
      obtain ⟨Γe', rfl⟩ := fin
      intro d σ H' xw
      refine sat d H' ?_
      cases Γe with
      | none => exact xw
      | some Γ2 => exact Wf.only (show Wf K H0 Oc (.va (.xd ns ds) :: ([] ++ Γ2)) (some (.ref d) :: ([] ++ σ)) H' from xw)
end
end Y

namespace Y
open PySem L2
/-! ## the rules in short -/
section
variable {X : Cx} {W : WX} {H0 : Hp} {Oc : List Addr} {Γ Γ1 Γ' : List Sl} {e a b c o tg iter elt ie : Expr} {es ifs : List Expr} {rest body els : List Stmt} {s s0 s1 s2 : Sl} {ss : List Sl} {d d1 d2 : D} {ds ds1 ds2 : List D} {i j : Int} {pos pos' p2 p apos : Pos} {x y m f g : Str} {out o1 : Out} {q : Bool} {k : Nat} {C : Addr} {ns : List Str}
theorem vv (n : Nat) (h : Γ[n]? = some (.va d) := by rfl) (hN : X.N[n]? = some x := by rfl) (hv : Vis X.env.scope x := by first | exact .inl rfl | exact .inr (.inl rfl) | exact .inr (.inr rfl)) (hd : (x == ("__debug__" : Str)) = false := by rfl) (hcd : (x == ("__classdict__" : Str)) = false := by rfl) : Ev X H0 Oc Γ (.Name x pos) (.va d) :=
  ev_var n h (fun z => nomatch z) hN hv hd hcd
theorem vo (n : Nat) (h : Γ[n]? = some (.ow d) := by rfl) (hN : X.N[n]? = some x := by rfl) (hv : Vis X.env.scope x := by first | exact .inl rfl | exact .inr (.inl rfl) | exact .inr (.inr rfl)) (hd : (x == ("__debug__" : Str)) = false := by rfl) (hcd : (x == ("__classdict__" : Str)) = false := by rfl) : Ev X H0 Oc Γ (.Name x pos) (.bw d) :=
  ev_var n h (fun z => nomatch z) hN hv hd hcd
theorem vr (n : Nat) (h : Γ[n]? = some (.br d) := by rfl) (hN : X.N[n]? = some x := by rfl) (hv : Vis X.env.scope x := by first | exact .inl rfl | exact .inr (.inl rfl) | exact .inr (.inr rfl)) (hd : (x == ("__debug__" : Str)) = false := by rfl) (hcd : (x == ("__classdict__" : Str)) = false := by rfl) : Ev X H0 Oc Γ (.Name x pos) (.br d) :=
  ev_var n h (fun z => nomatch z) hN hv hd hcd
/-- any of them, read -/
theorem vb (n : Nat) (h : Γ[n]? = some s := by rfl) (hs : s.dat = some d := by rfl) (hN : X.N[n]? = some x := by rfl) (hv : Vis X.env.scope x := by first | exact .inl rfl | exact .inr (.inl rfl) | exact .inr (.inr rfl)) (hd : (x == ("__debug__" : Str)) = false := by rfl) (hcd : (x == ("__classdict__" : Str)) = false := by rfl) : Ev X H0 Oc Γ (.Name x pos) (.bw d) := by
  have := ev_var (H0 := H0) (Oc := Oc) (pos := pos) n h (fun z => by rw [z] at hs; exact nomatch hs) hN hv hd hcd
  cases s <;> first
    | (cases hs; done)
    | (cases hs; exact this.r)
    | (cases hs; exact this)
/-- self of an __init__ or method: an object -/
theorem slf_obj {K : PySem.W.Frag} {Ht H : Hp} {v : V} {aa : Addr} (h : RepB K Ht H (.slf aa C ns ds) v) : RepB K Ht H (.obj C ns ds) v := by
  obtain ⟨dx, fs, h1, h2, h3, h4⟩ := h
  exact ⟨aa, dx, fs, h1, h2, h3, h4⟩
theorem Ev.ob {aa : Addr} (h : Ev X H0 Oc Γ e (.bw (.slf aa C ns ds))) : Ev X H0 Oc Γ e (.bw (.obj C ns ds)) := fun Δ τ σ H Q hl W q => h Δ τ σ H Q hl W fun v H' ⟨O, W'⟩ => by
  obtain ⟨u, h1, h2⟩ := W'.head
  cases h1
  exact q v H' ⟨O, W'.pop.push ⟨v, rfl, slf_obj h2⟩ fun _ z => nomatch z⟩
theorem e_len {p : Pos} (hm : X.mg "len" = none) (ha : Ev X H0 Oc Γ a (.bw d)) (hd : seqD d = some ds := by rfl) (hg : Gl X "len" := by rfl) (he : starEach [a] X.env = (false, eval a X.env) :: starEach [] X.env := by rfl) (hpl : (backTo pos (starEach [] X.env)).any (·.1) = false := by rfl) :
    Ev X H0 Oc Γ (.Call (.Name "len" p) [a] [] pos) (.va (.int ds.length)) := ev_len ha hd hm hg he hpl
theorem e_list {p : Pos} (hm : X.mg "list" = none) (ha : Ev X H0 Oc Γ a (.bw d)) (hd : seqD d = some ds := by rfl) (hg : Gl X "list" := by rfl) (he : starEach [a] X.env = (false, eval a X.env) :: starEach [] X.env := by rfl) (hpl : (backTo pos (starEach [] X.env)).any (·.1) = false := by rfl) :
    Ev X H0 Oc Γ (.Call (.Name "list" p) [a] [] pos) (.ow (.lst ds)) := ev_list ha hd hm hg he hpl
theorem e_tupL {p : Pos} (hm : X.mg "tuple" = none) (ha : Ev X H0 Oc Γ a (.bw (.lst ds))) (hg : Gl X "tuple" := by rfl) (he : starEach [a] X.env = (false, eval a X.env) :: starEach [] X.env := by rfl) (hpl : (backTo pos (starEach [] X.env)).any (·.1) = false := by rfl) :
    Ev X H0 Oc Γ (.Call (.Name "tuple" p) [a] [] pos) (.va (.tup ds)) := ev_tupL ha hm hg he hpl
theorem e_tupT {p : Pos} (hm : X.mg "tuple" = none) (ha : Ev X H0 Oc Γ a (.va (.tup ds))) (hg : Gl X "tuple" := by rfl) (he : starEach [a] X.env = (false, eval a X.env) :: starEach [] X.env := by rfl) (hpl : (backTo pos (starEach [] X.env)).any (·.1) = false := by rfl) :
    Ev X H0 Oc Γ (.Call (.Name "tuple" p) [a] [] pos) (.va (.tup ds)) := ev_tupT ha hm hg he hpl
theorem e_int {p : Pos} (hm : X.mg "int" = none) (ha : Ev X H0 Oc Γ a (.va (.int i))) (hg : Gl X "int" := by rfl) (he : starEach [a] X.env = (false, eval a X.env) :: starEach [] X.env := by rfl) (hpl : (backTo pos (starEach [] X.env)).any (·.1) = false := by rfl) :
    Ev X H0 Oc Γ (.Call (.Name "int" p) [a] [] pos) (.va (.int i)) := ev_int1 ha hm hg he hpl
theorem e_isi {cv : V} {u t : Value} (hm : X.mg "isinstance" = none) (ha : Ev X H0 Oc Γ a (.bw d)) (hb : Ev X H0 Oc Γ b (.va (.opq cv))) (k : ClsV cv u) (ht : tyD d = some t) (hk : PySem.W.kitOne X.K t u = some q) (hc : ∀ C, t = .ref C → IsC X.K C := by exact fun _ z => nomatch z) (hg : Gl X "isinstance" := by rfl)
    (he : starEach [a, b] X.env = (false, eval a X.env) :: starEach [b] X.env := by rfl) (he2 : starEach [b] X.env = (false, eval b X.env) :: starEach [] X.env := by rfl) (hpl : (backTo pos (starEach [b] X.env)).any (·.1) = false := by rfl) : Ev X H0 Oc Γ (.Call (.Name "isinstance" p) [a, b] [] pos) (.va (.bl q)) := ev_isi ha hb k ht hk hm hc hg he he2 hpl
/-- isinstance(x, T), T a built-in type, x no instance of an own class -/
theorem kit_ty {K : PySem.W.Frag} {t c : String} {q : Bool} (h : PySem.W.kitOne [] (.type t) (.type c) = some q) : PySem.W.kitOne K (.type t) (.type c) = some q := by
  exact h
theorem e_isT {T t : String} (hm : X.mg "isinstance" = none) (hT : X.mg x = none) (ha : Ev X H0 Oc Γ a (.bw d)) (hv : bootBuiltins x = some (.type T)) (ht : tyD d = some (.type t)) (hk : PySem.W.kitOne [] (.type t) (.type T) = some q) (hgT : Gl X x := by rfl) (hg : Gl X "isinstance" := by rfl) (hn : x ≠ "__name__" := by decide) (hdb : (x == ("__debug__" : Str)) = false := by decide)
    (he : starEach [a, .Name x p2] X.env = (false, eval a X.env) :: starEach [.Name x p2] X.env := by rfl) (he2 : starEach [.Name x p2] X.env = (false, eval (.Name x p2) X.env) :: starEach [] X.env := by rfl) (hpl : (backTo pos (starEach [.Name x p2] X.env)).any (·.1) = false := by rfl) : Ev X H0 Oc Γ (.Call (.Name "isinstance" p) [a, .Name x p2] [] pos) (.va (.bl q)) :=
  ev_isi ha (ev_ty hgT hT hv hn hdb) (.ty T) ht (kit_ty hk) hm (fun _ z => nomatch z) hg he he2 hpl
theorem d_set {pos' : Pos} (n : Nat) (hN : X.N.Nodup) (he : Ev X H0 Oc Γ e s) (hr : Sds X W H0 Oc (Γ.set n s) rest out) (hi : X.N[n]? = some x := by rfl) (hx : Loc X.env.scope x := by first | exact .inl rfl | exact .inr rfl) (hs : swapsWith e (some (.Name x pos')) pos.line X.env = pure false := by rfl) (hf : X.fn x = true ∨ X.env.scope.names.lookup x = some .local := by first | exact .inr rfl | exact .inl rfl) :
    Sds X W H0 Oc Γ (.Assign [.Name x pos'] e pos :: rest) out := sds_set n he hr hN hi hx hs hf
theorem d_ret (he : Ev X H0 Oc Γ e (.va d)) (h : d = d1) : Sds X W H0 Oc Γ (.Return (some e) pos :: rest) (.ret (.va d1)) := h ▸ sds_ret he
theorem d_retO (he : Ev X H0 Oc Γ e (.ow d)) (h : d = d1) : Sds X W H0 Oc Γ (.Return (some e) pos :: rest) (.ret (.ow d1)) := h ▸ sds_ret he
theorem Ev.ii {i j : Int} (h : Ev X H0 Oc Γ e (.va (.int i))) (hd : i = j) : Ev X H0 Oc Γ e (.va (.int j)) := hd ▸ h
theorem Ev.bb {p q : Bool} (h : Ev X H0 Oc Γ e (.va (.bl p))) (hd : p = q) : Ev X H0 Oc Γ e (.va (.bl q)) := hd ▸ h
theorem Et.bb {p q : Bool} (h : Et X H0 Oc Γ e p) (hd : p = q) : Et X H0 Oc Γ e q := hd ▸ h
/-- if c: leave; rest -/
theorem d_ifx (hc : Et X H0 Oc Γ c q) (hx : out.exit = true) (h1 : q = true → Sds X W H0 Oc Γ body out) (h2 : q = false → Sds X W H0 Oc Γ rest out) : Sds X W H0 Oc Γ (.If c body [] pos :: rest) out := sds_ifx hc (fun z => ⟨h1 z, hx⟩) h2
theorem t_name {pos' : Pos} (n : Nat) (hN : X.N.Nodup) (hi : X.N[n]? = some x := by rfl) (hx : Loc X.env.scope x := by first | exact .inl rfl | exact .inr rfl) (hf : X.fn x = true ∨ X.env.scope.names.lookup x = some .local := by first | exact .inr rfl | exact .inl rfl) : Tg X H0 Oc (.Name x pos') Γ s (Γ.set n s) := tg_name n hN hi hx hf
theorem d_app {cpos epos : Pos} (n : Nat) (he : Ev X H0 Oc Γ e (.va d)) (hn : ds.length ≤ 1000000) (hr : Sds X W H0 Oc (Γ.set n (.ow (.lst (ds ++ [d])))) rest out) (h : Γ[n]? = some (.ow (.lst ds)) := by rfl) (hst : stab Γ = true := by rfl)
    (hN : X.N[n]? = some x := by rfl) (hv : Vis X.env.scope x := by first | exact .inl rfl | exact .inr (.inl rfl) | exact .inr (.inr rfl)) (hd : (x == ("__debug__" : Str)) = false := by rfl) (hcd : (x == ("__classdict__" : Str)) = false := by rfl)
    (hbase : attributeBase (.Name x p) "append" X.env (eval (.Name x p) X.env) = eval (.Name x p) X.env := by rfl)
    (hfew : ((backTo cpos (starEach [e] X.env)).all (fun x => !x.1) && (backToKw cpos (keywordEach [] X.env)).all (fun x => x.1.isSome)
      && decide (([e] : List Expr).length + ([] : List Keyword).length + (if ([] : List Keyword).isEmpty then 0 else 1) < 30)) = true := by rfl)
    (hline : (apos.endLine == cpos.line) = true := by rfl) (hs : starEach [e] X.env = (false, eval e X.env) :: starEach [] X.env := by rfl) (hplain : (backTo cpos (starEach [] X.env)).any (·.1) = false := by rfl)
    (hsw : swapsWith (.Call (.Attribute (.Name x p) "append" apos) [e] [] cpos) none epos.line X.env = pure false := by rfl) :
    Sds X W H0 Oc Γ (.Expr (.Call (.Attribute (.Name x p) "append" apos) [e] [] cpos) epos :: rest) out := sds_app n h hst he hn hr hN hv hd hcd hbase hfew hline hs hplain hsw
end
end Y

namespace Y
open PySem L2
/-! ## loops by their turns -/
def runE {α β ε : Type} (step : α → β → Except ε α) : α → List β → Except ε α
  | a, [] => .ok a
  | a, b :: bs => match step a b with
    | .ok a' => runE step a' bs
    | .error e => .error e
theorem runE_app {α β ε : Type} (step : α → β → Except ε α) : ∀ (a : α) (xs ys : List β), runE step a (xs ++ ys) = match runE step a xs with | .ok a' => runE step a' ys | .error e => .error e
  | a, [], ys => rfl
  | a, b :: bs, ys => by
    show (match step a b with | .ok a' => runE step a' (bs ++ ys) | .error e => .error e) = match (match step a b with | .ok a' => runE step a' bs | .error e => .error e) with | .ok a' => runE step a' ys | .error e => .error e
    cases step a b with
    | ok a' => exact runE_app step a' bs ys
    | error e => rfl
section
variable {X : Cx} {W : WX} {H0 : Hp} {Oc : List Addr} {Γ Γ1 Γ' : List Sl} {e a b c o tg iter elt ie : Expr} {es ifs : List Expr} {rest body els : List Stmt} {pos : Pos} {out : Out}
/-- how a turn's end fits the step -/
def StepOk (X : Cx) (W : WX) (H0 : Hp) (Oc : List Addr) (rest : List Stmt) (out : Out) {α : Type} (GG : α → List Sl) (ob : Out) : Except Out α → Prop
  | .ok st => (∃ Γ2, ob = .nx Γ2 ∧ Sub Γ2 (GG st)) ∨ (∃ Γ2, ob = .cnt Γ2 ∧ Sub Γ2 (GG st))
  | .error r => ob = r ∧ ((∃ s, r = .ret s) ∨ (∃ C ns ds Γe, r = .exc C ns ds Γe) ∨ ∃ Γ2, r = .brk Γ2)
def Behind (X : Cx) (W : WX) (H0 : Hp) (Oc : List Addr) (rest : List Stmt) (out : Out) {α : Type} (GG : α → List Sl) : Except Out α → Prop
  | .ok st => Sds X W H0 Oc (GG st) rest out
  | .error (.brk Γ2) => Sds X W H0 Oc Γ2 rest out
  | .error r => out = r
theorem d_for {α β : Type} (xs : List β) (enc : β → D) (step : α → β → Except Out α) (a0 : α) (GG : α → List Sl) (hp : PassesOwn (model X.prog X.w) X.A X.env X.xe) (hc : X.calm = true) (hi : Ei X H0 Oc Γ tg iter (xs.map enc)) (h0 : Sub Γ (GG a0))
    (hb : ∀ st b pre post, xs = pre ++ b :: post → runE step a0 pre = .ok st → ∃ Γ1 ob, Tg X H0 Oc tg (GG st) (.va (enc b)) Γ1 ∧ Sds X W H0 Oc Γ1 body ob ∧ StepOk X W H0 Oc rest out GG ob (step st b))
    (hr : Behind X W H0 Oc rest out GG (runE step a0 xs))
    (hs : ∀ x, foldedSetIterable iter X.env x = pure x := by intro _; rfl) : Sds X W H0 Oc Γ (.For tg iter body [] pos :: rest) out := by
  let G : Nat → List Sl := fun i => match runE step a0 (xs.take i) with | .ok st => GG st | .error _ => []
  refine sds_for G (fun i => ∃ st, runE step a0 (xs.take i) = .ok st) hp hc hi (by show Sub Γ (match runE step a0 (xs.take 0) with | .ok st => GG st | .error _ => []); rw [List.take_zero]; exact h0) ⟨a0, by rw [List.take_zero]; rfl⟩ ?_ ?_ hs
  · rintro i d hd ⟨st, hst⟩
    rw [List.getElem?_map] at hd
    cases hx : xs[i]? with
    | none => rw [hx] at hd; cases hd
    | some b =>
      rw [hx] at hd
      have hd' := Option.some.inj hd
      subst hd'
      have hi : i < xs.length := (List.getElem?_eq_some_iff.mp hx).1
      have hsp : xs = xs.take i ++ b :: xs.drop (i + 1) := by
        have e : xs.drop i = b :: xs.drop (i + 1) := by
          rw [List.drop_eq_getElem_cons hi]
          congr 1
          exact (List.getElem?_eq_some_iff.mp hx).2
        rw [← e, List.take_append_drop]
      obtain ⟨Γ1, ob, t1, t2, t3⟩ := hb st b _ _ hsp hst
      have eG : G i = GG st := by show (match runE step a0 (xs.take i) with | .ok st => GG st | .error _ => []) = _; rw [hst]
      refine ⟨Γ1, ob, eG ▸ t1, t2, ?_⟩
      have nxt : runE step a0 (xs.take (i + 1)) = match step st b with | .ok a' => .ok a' | .error e => .error e := by
        rw [List.take_add_one, hx, runE_app, hst]
        simp only [Option.toList, runE]
        cases step st b <;> rfl
      have all : ∀ r, step st b = .error r → runE step a0 xs = .error r := fun r hr' => by
        rw [hsp, runE_app, hst]
        simp only [runE, hr']
      cases hstep : step st b with
      | ok st' =>
        rw [hstep] at t3 nxt
        have eG' : G (i + 1) = GG st' := by show (match runE step a0 (xs.take (i + 1)) with | .ok st => GG st | .error _ => []) = _; rw [nxt]
        rcases t3 with ⟨Γ2, rfl, hsub⟩ | ⟨Γ2, rfl, hsub⟩
        · exact ⟨eG' ▸ hsub, st', nxt⟩
        · exact ⟨eG' ▸ hsub, st', nxt⟩
      | error r =>
        rw [hstep] at t3
        rw [all r hstep] at hr
        obtain ⟨rfl, hr'⟩ := t3
        rcases hr' with ⟨s, rfl⟩ | ⟨C, ns, ds, Γe, rfl⟩ | ⟨Γ2, rfl⟩
        · exact Eq.symm hr
        · exact Eq.symm hr
        · exact hr
  · rintro ⟨st, hst⟩
    rw [List.length_map] at hst ⊢
    rw [List.take_length] at hst
    have eG : G xs.length = GG st := by show (match runE step a0 (xs.take xs.length) with | .ok st => GG st | .error _ => []) = _; rw [List.take_length, hst]
    rw [eG]
    rw [hst] at hr
    exact hr
theorem runE_ok {α β ε : Type} (step : α → β → α) : ∀ (a : α) (xs : List β), runE (ε := ε) (fun a b => .ok (step a b)) a xs = .ok (xs.foldl step a)
  | _, [] => rfl
  | a, b :: bs => by
    simp only [runE, List.foldl]
    exact runE_ok step (step a b) bs
theorem d_forP {α β : Type} (xs : List β) (enc : β → D) (step : α → β → α) (a0 : α) (GG : α → List Sl) (hp : PassesOwn (model X.prog X.w) X.A X.env X.xe) (hc : X.calm = true) (hi : Ei X H0 Oc Γ tg iter (xs.map enc)) (h0 : Sub Γ (GG a0))
    (hb : ∀ st b pre post, xs = pre ++ b :: post → st = pre.foldl step a0 → ∃ Γ1 Γ2, Tg X H0 Oc tg (GG st) (.va (enc b)) Γ1 ∧ Sds X W H0 Oc Γ1 body (.nx Γ2) ∧ Sub Γ2 (GG (step st b)))
    (hr : Sds X W H0 Oc (GG (xs.foldl step a0)) rest out)
    (hs : ∀ x, foldedSetIterable iter X.env x = pure x := by intro _; rfl) : Sds X W H0 Oc Γ (.For tg iter body [] pos :: rest) out :=
  d_for xs enc (fun a b => .ok (step a b)) a0 GG hp hc hi h0 (fun st b pre post h1 h2 => by
    rw [runE_ok] at h2
    obtain ⟨Γ1, Γ2, h3, h4, h5⟩ := hb st b pre post h1 (Except.ok.inj h2).symm
    exact ⟨Γ1, _, h3, h4, .inl ⟨Γ2, rfl, h5⟩⟩) (by rw [runE_ok]; exact hr) hs
/-- 10 ** 18 -/
theorem e_1018 {k1 k2 : Nat} {p1 p2 : Pos} {pos : Pos} : Ev X H0 Oc Γ (.BinOp (.Constant (.int 10) k1 p1) .Pow (.Constant (.int 18) k2 p2) pos) (.va (.int 1000000000000000000)) :=
  (ev_pow ev_int ev_int ⟨by decide, by decide, by decide⟩).ii rfl
/-- one slot alone -/
theorem WfO.pick {K : PySem.W.Frag} {H : Hp} {O : List Addr} {G : List Sl} {S : List (Option V)} {i : Nat} {s : Sl} {y : Option V} (w : WfO K H0 Oc O G S H) (h1 : G[i]? = some s) (h2 : S[i]? = some y) : WfO K H0 Oc O [s] [y] H := by
  refine ⟨w.sub, w.new, w.old, w.live, w.ex, rfl, fun j s' x h3 h4 => ?_, fun j k p d d' h3 h4 h5 h6 => ?_⟩
  · cases j with
    | zero =>
      cases h3
      cases h4
      exact w.ok i _ _ h1 h2
    | succ j => cases h3
  · cases j with
    | zero => cases k with
      | zero => rfl
      | succ k => cases h5
    | succ j => cases h3
/-- return x, x one's own -/
theorem d_retV {x : Str} {d d1 : D} {p : Pos} (n : Nat) (he : d = d1) (h : Γ[n]? = some (.ow d) := by rfl) (hN : X.N[n]? = some x := by rfl) (hv : Vis X.env.scope x := by first | exact .inl rfl | exact .inr (.inl rfl) | exact .inr (.inr rfl)) (hd : (x == ("__debug__" : Str)) = false := by rfl) (hcd : (x == ("__classdict__" : Str)) = false := by rfl) :
    Sds X W H0 Oc Γ (.Return (some (.Name x p)) pos :: rest) (.ret (.ow d1)) := fun Δ τ σ H D hl st ⟨O, w⟩ k => by
  subst he
  refine wpSs.of (pss_cons (ps_ret (pe_var hN hv hd hcd)) pss_wp) ?_
  obtain ⟨y, hy, pp, oo, rfl, g2, g3, g4, g5⟩ := slot_of hl w h
  obtain ⟨h1, h2⟩ := len_app (σ := σ) hl h
  exact ⟨.ref pp, hy, k _ H ⟨O, w.pick h1 (h2.trans hy)⟩⟩
theorem Sub.eqc {s s' : Sl} {G G' : List Sl} (e : s = s') (h : Sub G G') : Sub (s :: G) (s' :: G') := e ▸ .eq h
end
/-- a list grown by one -/
theorem lst1 {α : Type} (f : α → D) (xs : List α) (a : α) : Sl.ow (.lst (xs.map f ++ [f a])) = .ow (.lst ((xs ++ [a]).map f)) := by rw [List.map_append] <;> rfl
theorem atI_map {α : Type} {f : α → D} {xs : List α} {k : Nat} {a : α} (h : xs[k]? = some a) : L2.atI (xs.map f) (k : Int) = some (f a) := L2.atI_nat (by rw [List.getElem?_map, h]; rfl)
end Y

namespace Y
open PySem L2
section
variable {X : Cx} {W : WX} {H0 : Hp} {Oc : List Addr} {Γ Γ1 Γ' : List Sl} {e a b c o tg iter elt ie t1 : Expr} {es ifs : List Expr} {rest body els : List Stmt} {pos pos' p : Pos} {out : Out} {scope : Scope} {own : List (Str × Nat)} {y : Str}
/-- [g for x in xs] -/
theorem e_lc {α : Type} (xs : List α) (enc : α → D) (g : α → D) (Γe : α → List Sl) (hc : X.calm = true) (hN : X.N.Nodup) (ok : BlkOk X.N X.env.scope scope own) (hi : Ei X H0 Oc Γ tg iter (xs.map enc)) (hn : xs.length ≤ 1000000)
    (ht : ∀ x ∈ xs, ∀ H0' Oc' s0 H00 C cl fp, Tgw (blkX X scope s0 H00 C cl fp) H0' Oc' (own.map (·.2)) tg (wipeG (Γ.map Sl.arg) (own.map (·.2))) (.va (enc x)) (Γe x))
    (hst : ∀ x ∈ xs, stab (Γe x) = true ∧ Sub (wipeG (Γe x) (own.map (·.2))) (wipeG (Γ.map Sl.arg) (own.map (·.2))))
    (he : ∀ x ∈ xs, ∀ H0' Oc' s0 H00 C cl fp, Ev (blkX X scope s0 H00 C cl fp) H0' Oc' (Γe x) elt (.va (g x)))
    (hs : ∀ x, foldedSetIterable iter X.env x = pure x := by intro _; rfl) : Ev X H0 Oc Γ (.ListComp elt [⟨tg, iter, [], 0⟩] scope pos) (.ow (.lst (xs.map g))) := by
  have := ev_lc (ifs := []) (elt := elt) (iter := iter) (scope := scope) (pos := pos) xs enc (fun _ => true) g Γe hc hN ok hi hn ht hst (fun _ _ _ _ _ _ _ _ _ => rfl) (fun x hx _ => he x hx) hs
  rwa [List.filter_eq_self.mpr fun _ _ => rfl] at this
/-- [g for x in xs if pr] -/
theorem e_lcf {α : Type} (xs : List α) (enc : α → D) (pr : α → Bool) (g : α → D) (Γe : α → List Sl) (hc : X.calm = true) (hN : X.N.Nodup) (ok : BlkOk X.N X.env.scope scope own) (hi : Ei X H0 Oc Γ tg iter (xs.map enc)) (hn : xs.length ≤ 1000000)
    (ht : ∀ x ∈ xs, ∀ H0' Oc' s0 H00 C cl fp, Tgw (blkX X scope s0 H00 C cl fp) H0' Oc' (own.map (·.2)) tg (wipeG (Γ.map Sl.arg) (own.map (·.2))) (.va (enc x)) (Γe x))
    (hst : ∀ x ∈ xs, stab (Γe x) = true ∧ Sub (wipeG (Γe x) (own.map (·.2))) (wipeG (Γ.map Sl.arg) (own.map (·.2))))
    (hp : ∀ x ∈ xs, ∀ H0' Oc' s0 H00 C cl fp, Et (blkX X scope s0 H00 C cl fp) H0' Oc' (Γe x) t1 (pr x))
    (he : ∀ x ∈ xs, pr x = true → ∀ H0' Oc' s0 H00 C cl fp, Ev (blkX X scope s0 H00 C cl fp) H0' Oc' (Γe x) elt (.va (g x)))
    (hs : ∀ x, foldedSetIterable iter X.env x = pure x := by intro _; rfl) : Ev X H0 Oc Γ (.ListComp elt [⟨tg, iter, [t1], 0⟩] scope pos) (.ow (.lst ((xs.filter pr).map g))) :=
  ev_lc (ifs := [t1]) (elt := elt) (iter := iter) (scope := scope) (pos := pos) xs enc pr g Γe hc hN ok hi hn ht hst hp he hs
theorem d_setLc {α : Type} (n : Nat) (xs : List α) (enc : α → D) (g : α → D) (Γe : α → List Sl) (hc : X.calm = true) (hN : X.N.Nodup) (ok : BlkOk X.N X.env.scope scope own) (hi : Ei X H0 Oc Γ tg iter (xs.map enc)) (hn : xs.length ≤ 1000000)
    (ht : ∀ x ∈ xs, ∀ H0' Oc' s0 H00 C cl fp, Tgw (blkX X scope s0 H00 C cl fp) H0' Oc' (own.map (·.2)) tg (wipeG (Γ.map Sl.arg) (own.map (·.2))) (.va (enc x)) (Γe x))
    (hst : ∀ x ∈ xs, stab (Γe x) = true ∧ Sub (wipeG (Γe x) (own.map (·.2))) (wipeG (Γ.map Sl.arg) (own.map (·.2))))
    (he : ∀ x ∈ xs, ∀ H0' Oc' s0 H00 C cl fp, Ev (blkX X scope s0 H00 C cl fp) H0' Oc' (Γe x) elt (.va (g x)))
    (hr : Sds X W H0 Oc (Γ.set n (.ow (.lst (xs.map g)))) rest out)
    (hy : X.N[n]? = some y := by rfl) (hyl : X.env.scope.names.lookup y = some .local := by rfl) (hk : X.env.scope.kind = .function := by rfl) (hln : (p.line == pos.line) = true := by rfl)
    (han : (scope.names.any fun (m, k) => m == y && (k == .local || k == .cell)) = false := by rfl)
    (hs : ∀ x, foldedSetIterable iter X.env x = pure x := by intro _; rfl) : Sds X W H0 Oc Γ (.Assign [.Name y p] (.ListComp elt [⟨tg, iter, [], 0⟩] scope pos) pos' :: rest) out :=
  sds_setLc (ifs := []) (elt := elt) (iter := iter) (scope := scope) n xs enc (fun _ => true) g Γe hc hN ok hi hn ht hst (fun _ _ _ _ _ _ _ _ _ => rfl) (fun x hx _ => he x hx) (by rwa [List.filter_eq_self.mpr fun _ _ => rfl]) hy hyl hk hln han hs
theorem d_setLcf {α : Type} (n : Nat) (xs : List α) (enc : α → D) (pr : α → Bool) (g : α → D) (Γe : α → List Sl) (hc : X.calm = true) (hN : X.N.Nodup) (ok : BlkOk X.N X.env.scope scope own) (hi : Ei X H0 Oc Γ tg iter (xs.map enc)) (hn : xs.length ≤ 1000000)
    (ht : ∀ x ∈ xs, ∀ H0' Oc' s0 H00 C cl fp, Tgw (blkX X scope s0 H00 C cl fp) H0' Oc' (own.map (·.2)) tg (wipeG (Γ.map Sl.arg) (own.map (·.2))) (.va (enc x)) (Γe x))
    (hst : ∀ x ∈ xs, stab (Γe x) = true ∧ Sub (wipeG (Γe x) (own.map (·.2))) (wipeG (Γ.map Sl.arg) (own.map (·.2))))
    (hp : ∀ x ∈ xs, ∀ H0' Oc' s0 H00 C cl fp, Et (blkX X scope s0 H00 C cl fp) H0' Oc' (Γe x) t1 (pr x))
    (he : ∀ x ∈ xs, pr x = true → ∀ H0' Oc' s0 H00 C cl fp, Ev (blkX X scope s0 H00 C cl fp) H0' Oc' (Γe x) elt (.va (g x)))
    (hr : Sds X W H0 Oc (Γ.set n (.ow (.lst ((xs.filter pr).map g)))) rest out)
    (hy : X.N[n]? = some y := by rfl) (hyl : X.env.scope.names.lookup y = some .local := by rfl) (hk : X.env.scope.kind = .function := by rfl) (hln : (p.line == pos.line) = true := by rfl)
    (han : (scope.names.any fun (m, k) => m == y && (k == .local || k == .cell)) = false := by rfl)
    (hs : ∀ x, foldedSetIterable iter X.env x = pure x := by intro _; rfl) : Sds X W H0 Oc Γ (.Assign [.Name y p] (.ListComp elt [⟨tg, iter, [t1], 0⟩] scope pos) pos' :: rest) out :=
  sds_setLc (ifs := [t1]) (elt := elt) (iter := iter) (scope := scope) n xs enc pr g Γe hc hN ok hi hn ht hst hp he hr hy hyl hk hln han hs
theorem tw_name {vs : List Nat} {x : Str} {s : Sl} (n : Nat) (hN : X.N.Nodup) (hi : X.N[n]? = some x := by rfl) (hx : Loc X.env.scope x := by first | exact .inl rfl | exact .inr rfl) (hf : X.fn x = true ∨ X.env.scope.names.lookup x = some .local := by first | exact .inr rfl | exact .inl rfl) (hv : n ∈ vs := by simp) : Tgw X H0 Oc vs (.Name x pos') Γ s (Γ.set n s) :=
  tgw_name n hN hi hx hf hv
/-- range(n), n a natural number, as a list of naturals -/
theorem i_rng {j : Nat} (hm : X.mg "range" = none) (ha : Ev X H0 Oc Γ a (.va (.int (j : Int)))) (h2 : j ≤ 1000000000) (hg : Gl X "range" := by rfl) (hs : starEach [a] X.env = [(false, eval a X.env)] := by rfl) (hs' : starEach [a] X.env = (false, eval a X.env) :: starEach [] X.env := by rfl) :
    Ei X H0 Oc Γ tg (.Call (.Name "range" p) [a] [] pos) ((List.range j).map fun k : Nat => D.int k) :=
  (ei_rng1 ha (by omega) (by omega) hm hg hs hs').as (by
    unfold rngD
    rw [show ((j : Int).toNat) = j from rfl]
    exact List.map_congr_left fun k _ => by rw [Int.zero_add])
end
theorem rep_ints (n : Nat) (v : Int) : (List.replicate n [D.int v]).flatten = (List.replicate n v).map .int := by
  induction n with
  | zero => rfl
  | succ n ih => rw [List.replicate_succ, List.flatten_cons, ih, List.replicate_succ]; rfl
theorem cutD_nat {α : Type} (xs : List α) (a b : Nat) : Y.cutD xs (some (a : Int)) (some (b : Int)) = (xs.take b).drop a := by
  unfold Y.cutD
  rw [HT.sIx_nat, HT.sIx_nat]
  apply List.ext_getElem?
  intro i
  rw [List.getElem?_drop, List.getElem?_take, List.getElem?_take, List.getElem?_drop]
  by_cases h : a + i < xs.length
  · have e : min a xs.length = a := by omega
    rw [e]
    by_cases hb : a + i < b
    · rw [if_pos (by omega), if_pos hb]
    · rw [if_neg (by omega), if_neg hb]
  · rw [List.getElem?_eq_none (by omega : xs.length ≤ a + i)]
    by_cases hA : i < min b xs.length - min a xs.length
    · rw [if_pos hA, List.getElem?_eq_none (by omega)]
      split <;> rfl
    · rw [if_neg hA]
      split <;> rfl
theorem cutD_from {α : Type} (xs : List α) (a : Nat) : Y.cutD xs (some (a : Int)) none = xs.drop a := by
  unfold Y.cutD
  rw [HT.sIx_nat, HT.sIx_none]
  by_cases h : a ≤ xs.length
  · rw [Nat.min_eq_left h, List.take_of_length_le (by rw [List.length_drop]; exact Nat.le_refl _)]
  · rw [Nat.min_eq_right (by omega), List.drop_of_length_le (by omega : xs.length ≤ a), List.drop_length]
    exact List.take_nil
theorem cutD_upto {α : Type} (xs : List α) (b : Nat) : Y.cutD xs none (some (b : Int)) = xs.take b := by
  unfold Y.cutD
  rw [HT.sIx_nat, HT.sIx_none]
  by_cases h : b ≤ xs.length
  · rw [Nat.min_eq_left h]; rfl
  · rw [Nat.min_eq_right (by omega), List.take_of_length_le (by omega : xs.length ≤ b)]
    exact List.take_of_length_le (Nat.le_refl _)
theorem cutD_butLast {α : Type} (xs : List α) : Y.cutD xs none (some (-1)) = xs.dropLast := by
  unfold Y.cutD
  rw [HT.sIx_none, List.dropLast_eq_take]
  have e : HT.sIx xs.length xs.length (some (-1)) = xs.length - 1 := by
    show (if (-1 : Int) < 0 then (-1 + (xs.length : Int)).toNat else min (-1 : Int).toNat xs.length) = _
    rw [if_pos (by decide)]
    omega
  rw [e]
  rfl
/-- enumerate -/
def enumF {α : Type} : Nat → List α → List (Nat × α)
  | _, [] => []
  | i, x :: xs => (i, x) :: enumF (i + 1) xs
theorem enumF_get {α : Type} : ∀ (k : Nat) (xs : List α) (i : Nat), (enumF k xs)[i]? = xs[i]?.map fun x => (k + i, x)
  | _, [], _ => by simp [enumF]
  | k, x :: xs, 0 => by simp [enumF]
  | k, x :: xs, i + 1 => by
    show (enumF (k + 1) xs)[i]? = xs[i]?.map _
    rw [enumF_get (k + 1) xs i]
    congr 1
    funext x
    congr 1
    omega
theorem enumF_len {α : Type} : ∀ (k : Nat) (xs : List α), (enumF k xs).length = xs.length
  | _, [] => rfl
  | k, x :: xs => congrArg Nat.succ (enumF_len (k + 1) xs)
theorem enumD_map {α : Type} (enc : α → D) (xs : List α) : enumD (xs.map enc) = (enumF 0 xs).map fun p => .tup [.int (p.1 : Int), enc p.2] := by
  apply List.ext_getElem?
  intro i
  rw [List.getElem?_map, enumF_get]
  cases e : xs[i]? with
  | none =>
    have : (xs.map enc).length ≤ i := by rw [List.length_map]; exact List.getElem?_eq_none_iff.mp e
    rw [List.getElem?_eq_none (by rw [enumD_len]; exact this)]
    rfl
  | some x =>
    rw [enumD_get (d := enc x) (by rw [List.getElem?_map, e]; rfl)]
    simp
section
variable {X : Cx} {W : WX} {H0 : Hp} {Oc : List Addr} {Γ : List Sl} {a : Expr} {p pos : Pos} {s : Sl}
theorem i_enum {α : Type} (enc : α → D) (xs : List α) {elts : List Expr} {kk : Nat} {tpos : Pos} (hm : X.mg "enumerate" = none) (ha : Ev X H0 Oc Γ a s) (hs : s.held = some (.lst (xs.map enc)) := by rfl) (hg : Gl X "enumerate" := by rfl) (hst : starEach [a] X.env = [(false, eval a X.env)] := by rfl) (hst' : starEach [a] X.env = (false, eval a X.env) :: starEach [] X.env := by rfl) :
    Ei X H0 Oc Γ (.Tuple elts kk tpos) (.Call (.Name "enumerate" p) [a] [] pos) ((enumF 0 xs).map fun p => .tup [.int (p.1 : Int), enc p.2]) :=
  (ei_enum ha hs hm hg hst hst').as (enumD_map enc xs)
theorem t_two {x z : Str} {p2 p3 : Pos} {kk : Nat} {d1 d2 : D} (n1 n2 : Nat) (hc : X.calm = true) (hN : X.N.Nodup) (h1 : X.N[n1]? = some x := by rfl) (h2 : X.N[n2]? = some z := by rfl) (hx : Loc X.env.scope x := by first | exact .inl rfl | exact .inr rfl) (hz : Loc X.env.scope z := by first | exact .inl rfl | exact .inr rfl) (hf : X.fn x = true ∨ X.env.scope.names.lookup x = some .local := by first | exact .inr rfl | exact .inl rfl) (hg : X.fn z = true ∨ X.env.scope.names.lookup z = some .local := by first | exact .inr rfl | exact .inl rfl) :
    Tg X H0 Oc (.Tuple [.Name x p, .Name z p2] kk p3) Γ (.va (.tup [d1, d2])) ((Γ.set n1 (.va d1)).set n2 (.va d2)) := tg_tup2 n1 n2 hc hN h1 h2 hx hz hf hg
theorem t_seq {a : Expr} {d : D} {ds : List D} (ha : Ev X H0 Oc Γ a (.bw d)) (hd : seqD d = some ds := by rfl) (he : ∀ whole, isTrue a X.env whole = (do let v ← whole; standAt a.pos; holding [v] (truthy v)) := by intro _; rfl) : Et X H0 Oc Γ a (!ds.isEmpty) := et_seq ha hd he
/-- self.f = e -/
theorem d_fld {W : WX} {e : Expr} {d d1 : D} {C : Addr} {ns : List Str} {ds : List D} {f x : Str} {rest : List Stmt} {out : Out} {pp : Pos} (n : Nat) (cl : Cls X.K C) (na : NoAttr X.K C f) (he : Ev X H0 Oc Γ e (.va d1)) (hr : Sds X W H0 Oc (Γ.set n (.ow (d.put (ns ++ [f]) (ds ++ [d1])))) rest out)
    (h : Γ[n]? = some (.ow d) := by rfl) (ho : d.own = some (C, ns, ds) := by rfl) (hst : stab Γ = true := by rfl) (hf : f ∉ ns := by decide) (hlen : ns.length < 1000 := by decide)
    (hN : X.N[n]? = some x := by rfl) (hv : Vis X.env.scope x := by first | exact .inl rfl | exact .inr (.inl rfl) | exact .inr (.inr rfl)) (hd : (x == ("__debug__" : Str)) = false := by rfl) (hcd : (x == ("__classdict__" : Str)) = false := by rfl)
    (hs : swapsWith e (some (.Attribute (.Name x p) f pp)) pos.line X.env = pure false := by rfl) : Sds X W H0 Oc Γ (.Assign [.Attribute (.Name x p) f pp] e pos :: rest) out := sds_fld n h ho hst cl na hf hlen he hr hN hv hd hcd hs
end
end Y

namespace Y
open PySem L2
/-! ## comparable data -/
def okN (n : Nat) (d : D) : Prop := isPy d = true ∧ (py d).canLay0 = true ∧ (py d).depth ≤ n
def okNs (n : Nat) (ds : List D) : Prop := isPys ds = true ∧ PyData.canLayAll0 (pys ds) = true ∧ PyData.depthAll (pys ds) ≤ n
theorem okN.ok {n : Nat} {d : D} (h : okN n d) (hn : n ≤ 64) : okD d = true := by
  unfold okD SeqAt.shaped
  rw [h.1, h.2.1, decide_eq_true (Nat.le_trans h.2.2 hn)] <;> rfl
theorem okN_int {n : Nat} {i : Int} : okN n (.int i) := ⟨rfl, rfl, Nat.zero_le _⟩
theorem okN_bl {n : Nat} {b : Bool} : okN n (.bl b) := ⟨rfl, rfl, Nat.zero_le _⟩
theorem okN_non {n : Nat} : okN n .non := ⟨rfl, rfl, Nat.zero_le _⟩
theorem okNs_nil {n : Nat} : okNs n [] := ⟨rfl, rfl, Nat.zero_le _⟩
theorem okNs_cons {n : Nat} {d : D} {ds : List D} (h : okN n d) (g : okNs n ds) : okNs n (d :: ds) := by
  refine ⟨?_, ?_, ?_⟩
  · show (isPy d && isPys ds) = true
    rw [h.1, g.1] <;> rfl
  · show ((py d).canLay0 && PyData.canLayAll0 (pys ds)) = true
    rw [h.2.1, g.2.1] <;> rfl
  · show max (py d).depth (PyData.depthAll (pys ds)) ≤ n
    exact Nat.max_le.mpr ⟨h.2.2, g.2.2⟩
theorem okNs_all {n : Nat} : ∀ {ds : List D}, (∀ d ∈ ds, okN n d) → okNs n ds
  | [], _ => okNs_nil
  | _ :: _, h => okNs_cons (h _ List.mem_cons_self) (okNs_all fun d hd => h d (List.mem_cons_of_mem _ hd))
theorem okN_tup {n : Nat} {ds : List D} (h : okNs n ds) : okN (n + 1) (.tup ds) := ⟨h.1, h.2.1, by
  show PyData.depthAll (pys ds) + 1 ≤ n + 1
  have := h.2.2
  omega⟩
theorem okN_lst {n : Nat} {ds : List D} (h : okNs n ds) : okN (n + 1) (.lst ds) := ⟨h.1, h.2.1, by
  show PyData.depthAll (pys ds) + 1 ≤ n + 1
  have := h.2.2
  omega⟩
theorem okN_map {α : Type} {n : Nat} {f : α → D} {xs : List α} (h : ∀ x, okN n (f x)) : okNs n (xs.map f) := okNs_all fun d hd => by
  obtain ⟨x, _, e⟩ := List.mem_map.mp hd
  exact e ▸ h x
/-- codes that == tells apart as Lean does -/
def EqC {α : Type} [DecidableEq α] (f : α → D) : Prop := ∀ x y, eqD (f x) (f y) = decide (x = y)
def eqDs (xs ys : List D) : Bool := PyData.eqvAll (pys xs) (pys ys)
theorem eqDs_map {α : Type} [DecidableEq α] {f : α → D} (h : EqC f) : ∀ (xs ys : List α), eqDs (xs.map f) (ys.map f) = decide (xs = ys)
  | [], [] => rfl
  | [], _ :: _ => rfl
  | _ :: _, [] => rfl
  | x :: xs, y :: ys => by
    show (eqD (f x) (f y) && eqDs (xs.map f) (ys.map f)) = _
    rw [h x y, eqDs_map h xs ys]
    by_cases a : x = y <;> by_cases b : xs = ys <;> simp [a, b]
theorem eqC_int : EqC (D.int) := fun x y => by
  show (x == y) = _
  by_cases h : x = y <;> simp [h]
theorem eqC_tup {α : Type} [DecidableEq α] {f : α → D} (h : EqC f) : EqC fun xs : List α => D.tup (xs.map f) := fun xs ys => eqDs_map h xs ys
theorem eqC_lst {α : Type} [DecidableEq α] {f : α → D} (h : EqC f) : EqC fun xs : List α => D.lst (xs.map f) := fun xs ys => eqDs_map h xs ys
section
variable {X : Cx} {H0 : Hp} {Oc : List Addr} {d1 d2 : D}
/-- a == b of two such data -/
theorem c_eq {α : Type} [DecidableEq α] {f : α → D} (hu : X.A.units + 64 < cLine) (h : EqC f) (n : Nat) (hk : ∀ x, okN n (f x)) (hn : n ≤ 64) (x y : α) : C2 X H0 Oc .Eq (.bw (f x)) (.bw (f y)) (decide (x = y)) := h x y ▸ cm_eqD hu ((hk x).ok hn) ((hk y).ok hn)
theorem c_ne {α : Type} [DecidableEq α] {f : α → D} (hu : X.A.units + 64 < cLine) (h : EqC f) (n : Nat) (hk : ∀ x, okN n (f x)) (hn : n ≤ 64) (x y : α) : C2 X H0 Oc .NotEq (.bw (f x)) (.bw (f y)) (!decide (x = y)) := h x y ▸ cm_neD hu ((hk x).ok hn) ((hk y).ok hn)
theorem hu64 {A : Around} {k : Nat} (hr : Room k A) : A.units + 64 < cLine := by
  have := hr.un
  omega
end
section
variable {X : Cx} {H0 : Hp} {Oc : List Addr} {Γ : List Sl} {ad C dd : Addr} {oe : Obj} {pn : List (Addr × Obj)} {ns : List Str} {ds : List D} {a b : Expr} {x f : Str} {p p2 pos : Pos} {cv : V} {u : Value} {q : Bool} {d : D}
/-- isinstance(e, C), e the suite's own exception -/
theorem e_isE (hm : X.mg "isinstance" = none) (T : XcE X.K C) (hz : L2N.Zn (.ref C) (some dd) oe) (hf : ∃ vs, oe.data = .fields vs) (ha : Ev (X.suite ad ((ad, oe) :: pn)) H0 Oc Γ a (.va (.er ad C dd ns ds))) (hb : Ev (X.suite ad ((ad, oe) :: pn)) H0 Oc Γ b (.va (.opq cv)))
    (k : ClsV cv u) (hk : PySem.W.kitOne X.K (.ref C) u = some q) (hg : Gl X "isinstance" := by rfl)
    (he : starEach [a, b] X.env = (false, eval a X.env) :: starEach [b] X.env := by rfl) (he2 : starEach [b] X.env = (false, eval b X.env) :: starEach [] X.env := by rfl) (hpl : (backTo pos (starEach [b] X.env)).any (·.1) = false := by rfl) : Ev (X.suite ad ((ad, oe) :: pn)) H0 Oc Γ (.Call (.Name "isinstance" p) [a, b] [] pos) (.va (.bl q)) :=
  ev_isiE T hz hf ha hb k hk hm hg he he2 hpl
theorem e_cls {C : Addr} (hm : X.mg x = some (.ref C)) (hg : Gl X x := by rfl) (hdb : (x == ("__debug__" : Str)) = false := by decide) : Ev X H0 Oc Γ (.Name x pos) (.va (.opq (.ref C))) := ev_cls hg hm hdb
theorem e_ty {T : String} (hm : X.mg x = none) (hv : bootBuiltins x = some (.type T)) (hg : Gl X x := by rfl) (hn : x ≠ "__name__" := by decide) (hdb : (x == ("__debug__" : Str)) = false := by decide) : Ev X H0 Oc Γ (.Name x pos) (.va (.opq (.ty T))) := ev_ty hg hm hv hn hdb
end
end Y

namespace Y
open PySem PySem.Spec PyProof.Rows L2
/-! ## the ends -/
def pLaw : Pm := fun Γ o => ∃ ns : List Int, Γ = [.va (.fz (ns.map .int))] ∧ ns.length ≤ 63 ∧ o = .ret (.va (.bl true))
theorem law_sp {K : PySem.W.Frag} {H : Hp} {a : Addr} {ns : List Int} (hl : ns.length ≤ 63) (hS : SqL K H a (ns.map V.int)) : mkSp K pLaw [.ref a] H (fun v _ => v = .bl true) fun _ _ _ => False := by
  have ec : cut H [] = H := by
    funext b
    exact cut_out (by simp)
  refine ⟨[], _, _, ⟨ns, rfl, hl, rfl⟩, ⟨[], by simp, by simp, by simp, by simp, fun _ _ z => z, rfl, fun i s x h1 h2 => ?_, fun i j p d d' h1 h2 h3 h4 => ?_⟩, fun v H' ⟨O, w⟩ => ?_⟩
  · cases i with
    | zero =>
      cases h1
      cases h2
      refine ⟨_, rfl, a, ns.map V.int, rfl, ?_, Reps.of_ints⟩
      rw [ec]
      exact hS
    | succ i => cases h1
  · cases i with
    | zero => cases h1
    | succ i => cases h1
  · obtain ⟨u, e, r⟩ := w.head
    cases e
    exact r
theorem noCX {P : Program} {w : World} {H : Hp} {s : Shared} {e : Value} {s' : Shared} (c : L2N.CX P w [] H s (fun _ _ _ => False) e s') : False := by
  obtain ⟨_, _, _, _, _, _, _, _, _, _, _, _, z⟩ := c
  exact z
theorem walk (k : Nat) (hr : Room k callerA) {l : PySem.W.OpenLaw} {q : Program} {loose : List Str} {XP : (Str → Option Value) → Heap → Prop} {YP : World → Heap → Prop} {d : DefRec} {K : Params → PySem.W.Frag} (hn : l.most = some 63) (hdf : d.params.defaults = [])
    (hY : ∀ (w : World) (h : Heap), YP w h → (K w.params).In h)
    (F : ∀ (w : World) (mg : Str → Option Value) (fa : Addr) (h : Heap), (K w.params).In h → h.Ns mainGlobals mg → mg d.name = some (.ref fa) →
      ∃ fd : FuncData, (∀ (s : Shared) (u : Value), BindsTo s fd ⟨[u], []⟩ [("script", u)]) ∧ ∀ base : Heap, (K w.params).In base → base.Ns mainGlobals mg → FnOk l.prog w (K w.params) mg base (L2N.CX l.prog w) k fa fd ["script"] (mkSp (K w.params) pLaw)) :
    PySem.W.WalkO q loose XP YP l.row.toRowW d [] (fun f vs => PySem.call f vs) :=
  L2.walk_of (n := 63) (k := k) (x := "script") (CX := fun w => L2N.CX l.prog w) (sp := fun w => mkSp (K w.params) pLaw) hn (by decide) hdf hr hY F (fun _ _ a ns hl _ hS => law_sp hl hS) fun _ _ _ _ _ z => noCX z
/-! ### facts of the written part -/
theorem pins_of {K : PySem.W.Frag} {C : Addr} (cl : Cls K C) (ha : PySem.W.findIn K (.ref C) "__class__" = some (some (.builtin "object.__class__"))) (hn : PySem.W.specialIn K (.builtin "object.__class__") "__get__" = some (some (.builtin "getset_descriptor.__get__"))) (tk : PySem.W.takesIn K (.builtin "object.__class__") = some true) (hm : PySem.W.mroIn K C (.type "object") = some true) : IsC K C := ⟨cl, ha, hn, tk, hm⟩
section
variable {P : Program} {K : PySem.W.Frag} {mg : Str → Option Value} {C fI cda cc : Addr} {x f g txt qual : Str} {st : Stmt} {dV kV doc pm ct oc : Value} {an od : Option Addr} {osl : Array (Option Value)}
/-- what the head asks of an own error: its class, the def of its __init__, the code, the cell of __class__ -/
structure ErrF (P : Program) (K : PySem.W.Frag) (mg : Str → Option Value) (C cda cc : Addr) : Prop where
  ox : OexC K C
  sub : PySem.W.mroIn K C (.ref C) = some true
  sup : PySem.W.ks_superIn K C C "__init__" = some (some (.builtin "ValueError.__init__"))
  ve : PySem.W.subIn K (.ref C) (.type "ValueError") = some true
  code : ∃ ccl cdd vs ccs file tf, K.lookup cda = some ⟨ccl, cdd, .fields vs, ccs⟩ ∧ vs[2]? = some (.str file tf) ∧ ((P.main.file : Str) == file) = true
  top : (P.main.scope.names.lookup ("super" : Str)).isSome = false
  noSup : mg "super" = none
  cls : (PySem.W.clsIn K C).isSome = true
  thr : PySem.W.nsIn K PySem.cStatics "thirdparty.any" = some none
  hcell : ∃ cl cld csl, K.lookup cc = some ⟨cl, cld, .cell (some (.ref C)), csl⟩
theorem ErrF.te (E : ErrF P K mg C cda cc) : Sup.SupE K C C := ⟨E.ox, E.sub, E.sup, E.ve⟩
theorem ErrF.at1 (E : ErrF P K mg C cda cc) {fd : FuncData} (hf : ∃ oc od osl, K.lookup fI = some ⟨oc, od, .func fd, osl⟩) (hp : ∃ ar : Arg, (fd.params.posonlyargs ++ fd.params.args).head? = some ar ∧ ar.arg = "self") : Sup.SupAt P K mg fI cda cc C fd "self" :=
  ⟨hf, hp, E.code, E.top, E.noSup, Option.isSome_iff_exists.mp E.cls, E.thr⟩
theorem err1 {ar : Arguments} {bd : List Stmt} {nm : List (Str × NameKind)} (E : ErrF P K mg C cda cc) (gl : mg x = some (.ref C)) (iC : PySem.W.findIn K (.ref C) "__init__" = some (some (.ref fI))) (tI : PySem.W.typeIn K (.ref fI) = some (.type "function"))
    (lk : K.lookup fI = some ⟨oc, od, .func (PySem.W.fnX "__init__" qual ar bd (Sup.scOf nm) [("__class__", cc)] dV kV doc pm an (.ref cda) ct), osl⟩) (hcd : PySem.W.codeIn K (.ref cda) qual = true)
    (S : NdefX.NScope ["self", f, "__class__"] ["self", f] ["__class__"] (Sup.scOf nm)) (hsc : Sup.exSc (Sup.scOf nm) = true) (hb : Sup.exB1 txt f bd)
    (hp : ∃ a : Arg, (ar.posonlyargs ++ ar.args).head? = some a ∧ a.arg = "self") (noF : PySem.W.findIn K (.ref C) f = some none)
    (hbd : ∀ us : List Value, us.length = 2 → bindArgs (PySem.W.fnX "__init__" qual ar bd (Sup.scOf nm) [("__class__", cc)] dV kV doc pm an (.ref cda) ct) ⟨us, []⟩ = pure ((["self", f] : List Str).zip us))
    (hd1 : (f == ("__debug__" : Str)) = false := by decide) (hd2 : (f == ("__classdict__" : Str)) = false := by decide) : Sup.Ex1 P K mg x f C :=
  ⟨gl, E.te, fI, _, iC, tI, .all hbd, fun w base CX => Sup.ok_ex1 lk hcd S hsc hb (E.at1 ⟨_, _, _, lk⟩ hp) E.te E.hcell noF hd1 hd2⟩
theorem err2 {ar : Arguments} {bd : List Stmt} {nm : List (Str × NameKind)} (E : ErrF P K mg C cda cc) (gl : mg x = some (.ref C)) (iC : PySem.W.findIn K (.ref C) "__init__" = some (some (.ref fI))) (tI : PySem.W.typeIn K (.ref fI) = some (.type "function"))
    (lk : K.lookup fI = some ⟨oc, od, .func (PySem.W.fnX "__init__" qual ar bd (Sup.scOf nm) [("__class__", cc)] dV kV doc pm an (.ref cda) ct), osl⟩) (hcd : PySem.W.codeIn K (.ref cda) qual = true)
    (S : NdefX.NScope ["self", f, g, "__class__"] ["self", f, g] ["__class__"] (Sup.scOf nm)) (hsc : Sup.exSc (Sup.scOf nm) = true) (hb : Sup.exB2 txt f g bd)
    (hp : ∃ a : Arg, (ar.posonlyargs ++ ar.args).head? = some a ∧ a.arg = "self") (noF : PySem.W.findIn K (.ref C) f = some none) (noG : PySem.W.findIn K (.ref C) g = some none)
    (hbd : ∀ us : List Value, us.length = 3 → bindArgs (PySem.W.fnX "__init__" qual ar bd (Sup.scOf nm) [("__class__", cc)] dV kV doc pm an (.ref cda) ct) ⟨us, []⟩ = pure ((["self", f, g] : List Str).zip us))
    (hd1 : (f == ("__debug__" : Str)) = false := by decide) (hd2 : (f == ("__classdict__" : Str)) = false := by decide) (hd3 : (g == ("__debug__" : Str)) = false := by decide) (hd4 : (g == ("__classdict__" : Str)) = false := by decide) : Sup.Ex2 P K mg x f g C :=
  ⟨gl, E.te, fI, _, iC, tI, .all hbd, fun w base CX => Sup.ok_ex2 lk hcd S hsc hb (E.at1 ⟨_, _, _, lk⟩ hp) E.te E.hcell noF noG hd1 hd2 hd3 hd4⟩
end
end Y

namespace Sup
open PySem PySem.Spec PyProof.Rows L2 NdefX
/-! ## super().__init__(..) of an instance: the next class's def -/
structure SupI (K : PySem.W.Frag) (C D f2 : Addr) : Prop where
  cls : ∃ cd, PySem.W.clsIn K C = some cd
  sub : PySem.W.mroIn K C (.ref D) = some true
  sup : PySem.W.ks_superIn K C D "__init__" = some (some (.ref f2))
  ty : PySem.W.typeIn K (.ref f2) = some (.type "function")
  fi : PySem.W.fnIn K f2 = true
def tSupI (i j : Nat) (C D : Addr) (sp : Sp) (ta : TA) (u : TS) : TS := fun E σ H => ∃ (a dx : Addr) (fs : List (Str × V)), σ[j]? = some (some (.ref D)) ∧ σ[i]? = some (some (.ref a)) ∧ H a = some (.ins C dx fs) ∧
  ta σ H fun vs H1 => sp (.ref a :: vs) H1 (fun _ H2 => u E σ H2) E0
theorem psa_superI {X : Cx} {CX : CXT} {body : List Stmt} {rest : List Stmt} {p0 p1 p2 p3 p4 : Pos} {f cda cc C D f2 : Addr} {fd fd2 : FuncData} {sf : Str} {i j k : Nat} {e : Expr} {es : List Expr} {ta : TA} {u : TS} {pl : Sem Bool} {ps : List Str} {sp : Sp}
    (T : SupAt X.prog X.K X.mg f cda cc D fd sf) (S : SupI X.K C D f2) (F2 : FnOk X.prog X.w X.K X.mg X.base CX k f2 fd2 ps sp) (hrm : Room k X.A) (hb : L2.Binds X.K fd2 ps []) (hx : Passes CX X E0)
    (hfu : X.env.func = some f) (hco : X.env.code = .ref cda) (hks : X.env.kindOf "super" = some .globalImplicit) (hkc : X.env.kindOf "__class__" = some .free) (hka : X.env.kindOf sf = some .local)
    (hNi : X.N[i]? = some sf) (hNj : X.N[j]? = some ("__class__" : Str))
    (ha : PA X (e :: es) ta) (hr : PSA X (.func body X.env) rest u)
    (hi : interactive X.env = false) (hs : swapsWith (.Call (.Attribute (.Call (.Name "super" p0) [] [] p1) "__init__" p2) (e :: es) [] p3) none p4.line X.env = pure false)
    (he : starEach (e :: es) X.env = (false, eval e X.env) :: starEach es X.env) (hpl : (backTo p3 (starEach es X.env)).any (·.1) = false)
    (hev : eval (.Call (.Attribute (.Call (.Name "super" p0) [] [] p1) "__init__" p2) (e :: es) [] p3) X.env = (do
      let ov ← attributeBase (.Call (.Name "super" p0) [] [] p1) "__init__" X.env (eval (.Call (.Name "super" p0) [] [] p1) X.env)
      standAt p2.atName
      let (f, first) ← holding [ov] (getMethod ov "__init__" pl)
      callWith p3 f first (backTo p3 (starEach (e :: es) X.env)) [])) :
    PSA X (.func body X.env) (.Expr (.Call (.Attribute (.Call (.Name "super" p0) [] [] p1) "__init__" p2) (e :: es) [] p3) p4 :: rest) (tSupI i j C D sp ta u) := by
  refine ⟨fun pins s σ H D' I q => ?_⟩
  obtain ⟨a, dx, fs, hcls, hself, ea, q⟩ := q
  obtain ⟨cd, hcd⟩ := S.cls
  obtain ⟨_, Oa, _⟩ := ins_get I.hok ea
  obtain ⟨od, Ja, _⟩ := Oa.look
  have hno : ∀ c, (PySem.W.instObj C dx).data ≠ .cls c := fun c z => by
    have := Ja.no
    unfold PySem.W.notCls at this
    rw [z] at this
    exact Bool.noConfusion this
  refine ks_wpAt_execs_cons (ks_wpAt_Expr_any ?_ hi hs)
  refine ks_wpAt_MethodCall (pl := pl) ?_ hev
  refine sup_base T hfu hco hks hkc hka (by decide) hNi hNj hself hcls I Ja.at_ Ja.cls hno S.sub fun so h' hso J kp => ?_
  have KJ := J.kIn
  have JA : PySem.W.InstAt h' a (PySem.W.instObj C dx) C (some od) := by
    obtain ⟨_, Ob, _⟩ := ins_get J.hok ea
    obtain ⟨od2, Jb, _⟩ := Ob.look
    exact ⟨kp _ _ Ja.at_, Ja.cls, Ja.no, kp _ _ Ja.dict⟩
  obtain ⟨of, hof, hofc⟩ : ∃ of, h'.get? f2 = some of ∧ of.cls = .type "function" := by
    have ht : (X.K.lookup f2).map (·.cls) = some (.type "function") := S.ty
    cases z : X.K.lookup f2 with
    | none => rw [z] at ht; cases ht
    | some of => rw [z] at ht; exact ⟨of, KJ _ _ z, Option.some.inj ht⟩
  have hf := S.sup
  unfold PySem.W.ks_superIn at hf
  rw [hcd] at hf
  obtain ⟨hh, g, d, t, os⟩ := s
  refine ks_wpAny_getMethod_super hso (PySem.W.looks_opaque KJ T.thr) (l₀ := cd.mro) (fun A Q E s k q => wpAny_bind ((PySem.W.looks_clsIn KJ hcd) A _ E s k (wpAny_pure q))) rfl KJ hf hof hofc (PySem.W.ks_ne KJ JA hcd) (by decide) ?_
  have J2 := pin_new (t' := t + 1) J (h' := h'.push (PySem.W.methodObj (.ref f2) (.ref a))) (q := h'.objs.size) (o := PySem.W.methodObj (.ref f2) (.ref a)) (fun b u e => Heap.get?_push_of_some _ e) (Nat.le_refl _) (Heap.get?_push_at rfl rfl) (fun v z => nomatch z)
  have keep := PySem.W.keeps_M (M := model X.prog X.w) (K := X.K) (q := h'.objs.size) (f := f2) (self := .ref a) S.fi
  have hrun := ha.run p3 _ _ σ H _ J2 q
  rw [he] at hrun ⊢
  refine PySem.W.callWith_of (P := PySem.W.MethP X.K h'.objs.size f2 (.ref a)) ?_ keep (Calls.evalArgs_plain ?_)
  · show ((false || (backTo p3 (starEach es X.env)).any (·.1)) || false) = false
    rw [hpl]
    rfl
  refine thn hrun fun us s1 ⟨vs, H1, I1, r1, q1⟩ => ?_
  have hu : s1.heap.get? h'.objs.size = some (PySem.W.methodObj (.ref f2) (.ref a)) := (I1.pin (h'.objs.size, PySem.W.methodObj (.ref f2) (.ref a)) (List.mem_append_right _ List.mem_cons_self)).1
  refine ⟨⟨hu, I1.kIn⟩, ?_⟩
  have I2 := unpin I1
  have rv : Vals (V.ref a :: vs) (Value.ref a :: us) := .cons rfl r1
  have len : (Value.ref a :: us).length = ps.length := rv.length.symm.trans (F2.len _ _ _ _ q1)
  have bb := hb _ _ I2.kIn (by rw [List.append_nil]; exact len)
  rw [List.append_nil] at bb
  refine wpAny_call (PySem.ks_codeAny_call_bound hu ?_)
  refine codeAny_mono (F2.run X.A X.stack s1 H1 _ _ _ _ _ hrm I2.env0 bb rv q1) fun r s' done => ?_
  match r, done with
  | .error er, done => exact hx _ _ _ _ er s' I2 done
  | .ok .next, done => exact done.elim
  | .ok .brk, done => exact done.elim
  | .ok .cont, done => exact done.elim
  | .ok (.ret w), done =>
    obtain ⟨v, H2, I3, _, q3⟩ := I2.after done
    exact hr.run pins s' σ H2 D' I3 q3
end Sup

namespace Y
open PySem PySem.Spec PyProof.Rows L2 Sup NdefX
/-! ## bodies with super().__init__(..) of a subclass -/
def wpSA (X : Cx) (c : Code) (st : List Stmt) : TS := fun D σ H => ∀ (pins : List (Addr × Obj)) (s : Shared), Inv X pins σ H s → _root_.PySem.wpAt (model X.prog X.w) X.A c (execs st X.env) (SP X pins D) X.xe s
section
variable {X : Cx} {c : Code} {st : Stmt} {rest : List Stmt} {σ : L2.St} {H : Hp} {D : Ends}
theorem psa_wp {sts : List Stmt} : PSA X c sts (wpSA X c sts) := ⟨fun pins s σ H D I h => h pins s I⟩
theorem wpSA.of {sts : List Stmt} {t : TS} (h : PSA X c sts t) (q : t D σ H) : wpSA X c sts D σ H := fun pins s I => h.run pins s σ H D I q
theorem exec_one {M : Model} {A : Around} {E : Value → Shared → Prop} {env : Env} {Q : Flow → Shared → Prop} {s : Shared} (h : wpAny M A (execs [st] env) Q E s) : wpAny M A (exec st env) Q E s := fun Γ p hΓ => by
  have h1 := h Γ p hΓ
  rw [execs_cons, Sem.wp_bind'] at h1
  refine Sem.wp_mono M Γ _ (fun f p' s' h' => ?_) (fun _ _ _ h' => h') _ _ h1
  cases f <;> exact h'
theorem ps_one : PS X st (wpSs X [st]) := ⟨fun pins s σ H D I h => exec_one (h pins s I)⟩
end
def SdsA (X : Cx) (W : WX) (H0 : Hp) (Oc : List Addr) (c : Code) (Γ : List Sl) (st : List Stmt) (o : Out) : Prop := ∀ (σ : L2.St) (H : Hp) (D : Ends), Wf X.K H0 Oc Γ σ H → Sat X W H0 Oc [] [] D o → wpSA X c st D σ H
section
variable {X : Cx} {W : WX} {H0 : Hp} {Oc : List Addr} {c : Code} {Γ Γ1 : List Sl} {st : Stmt} {rest : List Stmt} {out : Out}
theorem sa_of {sts : List Stmt} (h : Sds X W H0 Oc Γ sts out) : SdsA X W H0 Oc c Γ sts out := fun σ H D w k => wpSA.of (psa_of pss_wp) (h [] [] σ H D rfl rfl w k)
theorem sa_cons (h1 : Sds X W H0 Oc Γ [st] (.nx Γ1)) (h2 : SdsA X W H0 Oc c Γ1 rest out) : SdsA X W H0 Oc c Γ (st :: rest) out := fun σ H D w k =>
  wpSA.of (psa_cons ps_one psa_wp) (h1 [] [] σ H _ rfl rfl w fun σ' H' w' => h2 σ' H' D w' k)
theorem sa_exit (h1 : Sds X W H0 Oc Γ [st] out) (hx : out.exit = true) : SdsA X W H0 Oc c Γ (st :: rest) out := fun σ H D w k =>
  wpSA.of (psa_cons (u := wpSA X c rest) ps_one psa_wp) (h1 [] [] σ H _ rfl rfl w (k.exit hx))
/-- the heap without one object -/
def less (H : Hp) (a : Addr) : Hp := fun b => if b = a then none else H b
theorem less_ne {H : Hp} {a b : Addr} (h : b ≠ a) : less H a b = H b := if_neg h
theorem less_same {H : Hp} {a : Addr} : less H a a = none := if_pos rfl
/-- values that stand frozen -/
def vaD : List Sl → Option (List D)
  | [] => some []
  | .va d :: ss => (vaD ss).map (d :: ·)
  | _ :: _ => none
theorem vaD_at : ∀ {ss : List Sl} {ds : List D}, vaD ss = some ds → ss = ds.map .va
  | [], _, h => by cases h; rfl
  | s :: ss, ds, h => by
    cases s <;> first | (cases h; done) | skip
    rename_i d
    unfold vaD at h
    cases e : vaD ss with
    | none => rw [e] at h; cases h
    | some ds' =>
      rw [e] at h
      cases h
      rw [vaD_at e]
      rfl
theorem args_va {K : PySem.W.Frag} {H : Hp} {O : List Addr} : ∀ {ds : List D} {vs : List V}, ArgsOk K H0 O H (ds.map .va) vs → Reps K (cut H O) ds vs
  | [], _, h => h
  | _ :: _, _, ⟨v, us, h1, ⟨v', e, h2⟩, h3⟩ => by
    cases e
    exact ⟨v, us, h1, h2, args_va h3⟩
/-- the object in slot i is lent to its next class's __init__ -/
theorem WfO.lend {K : PySem.W.Frag} {H : Hp} {O : List Addr} {G : List Sl} {S : List (Option V)} {i : Nat} {a C : Addr} {ds : List D} {vs : List V} (w : WfO K H0 Oc O G S H) (h1 : G[i]? = some (.ow (.slf a C [] []))) (h2 : S[i]? = some (some (.ref a))) (hr : Reps K (cut H O) ds vs) :
    WfO K (less H a) (O.filter (· ≠ a)) O (.ow (.obj C [] []) :: ds.map .va) (some (.ref a) :: vs.map some) H := by
  obtain ⟨hO, h0, o, hp, ho⟩ := w.owner h1 h2
  refine ⟨fun b z => (List.mem_filter.mp z).1, fun b z => ?_, fun b z => ?_, w.live, fun b u z => ?_, ?_, fun j s x h3 h4 => ?_, fun j k q d1 d2 h3 h4 h5 h6 => ?_⟩
  · by_cases e : b = a
    · exact .inr (by rw [e]; exact less_same)
    · exact .inl (List.mem_filter.mpr ⟨z, by simpa using e⟩)
  · obtain ⟨z1, z2⟩ := List.mem_filter.mp z
    rw [less_ne (by simpa using z2)]
    exact w.live b z1
  · by_cases e : b = a
    · rw [e, less_same] at z; cases z
    · rw [less_ne e] at z; exact z
  · have := hr.len
    simp [this]
  · cases j with
    | zero =>
      cases h3
      cases h4
      refine ⟨a, o, rfl, hO, less_same, hp, ?_⟩
      cases o <;> first | exact ho.elim | exact ⟨ho.1.1, ho.2⟩
    | succ j =>
      have h3' : (ds.map Sl.va)[j]? = some s := h3
      have h4' : (vs.map some)[j]? = some x := h4
      rw [List.getElem?_map] at h3' h4'
      cases e : ds[j]? with
      | none => rw [e] at h3'; cases h3'
      | some d =>
        rw [e] at h3'
        cases h3'
        obtain ⟨v, e2, rv⟩ := hr.get e
        rw [e2] at h4'
        cases h4'
        exact ⟨v, rfl, rv⟩
  · have only : ∀ j d, (Sl.ow (.obj C [] []) :: ds.map Sl.va)[j]? = some (.ow d) → j = 0 := fun j d h => by
      cases j with
      | zero => rfl
      | succ j =>
        have h' : (ds.map Sl.va)[j]? = some (.ow d) := h
        rw [List.getElem?_map] at h'
        cases e : ds[j]? with
        | none => rw [e] at h'; cases h'
        | some d' => rw [e] at h'; cases h'
    rw [only j d1 h3, only k d2 h5]
/-- .. and comes back -/
theorem WfO.back {K : PySem.W.Frag} {H H' : Hp} {O : List Addr} {G : List Sl} {S : List (Option V)} {i : Nat} {a C : Addr} {ns : List Str} {es : List D} (w : WfO K H0 Oc O G S H) (hb : stab G = true) (h1 : G[i]? = some (.ow (.slf a C [] []))) (h2 : S[i]? = some (some (.ref a)))
    (w' : Wf K (less H a) (O.filter (· ≠ a)) [.ow (.obj C ns es)] [some (.ref a)] H') : Wf K H0 Oc (G.set i (.ow (.slf a C ns es))) S H' := by
  obtain ⟨O2, w'⟩ := w'
  obtain ⟨hO, h0, o, hp, ho⟩ := w.owner h1 h2
  obtain ⟨p', o', e, k2, k3, k4, k5⟩ := w'.head
  cases e
  have hi : i < G.length := (List.getElem?_eq_some_iff.mp h1).1
  have keep : ∀ b u, b ≠ a → H b = some u → H' b = some u := fun b u e z => w'.ex b u (by rw [less_ne e]; exact z)
  have fr : Ex (cut H O) (cut H' O2) := fun b u z => by
    obtain ⟨z1, z2⟩ := cut_iff.mp z
    have ne : b ≠ a := fun e => by
      rcases z2 with n | ⟨vs, rfl⟩
      · exact n (e ▸ hO)
      · rw [e, hp] at z1
        exact ho.ntup vs (Option.some.inj z1)
    refine cut_iff.mpr ⟨keep b u ne z1, z2.imp (fun n m => ?_) id⟩
    rcases w'.new b m with q | q
    · exact n (List.mem_filter.mp q).1
    · rw [less_ne ne, z1] at q; cases q
  have nOc : a ∉ Oc := fun z => w.old a z h0
  refine ⟨O2, fun b z => w'.sub b (List.mem_filter.mpr ⟨w.sub b z, by simpa using fun q : b = a => nOc (q ▸ z)⟩), fun b z => ?_, w.old, w'.live, fun b u z => ?_, by simpa using w.len, fun j s x h3 h4 => ?_, fun j k q d1 d2 h3 h4 h5 h6 => ?_⟩
  · rcases w'.new b z with q | q
    · exact w.new b (List.mem_filter.mp q).1
    · by_cases e : b = a
      · exact .inr (e ▸ h0)
      · rw [less_ne e] at q
        refine .inr ?_
        cases z0 : H0 b with
        | none => rfl
        | some u => rw [w.ex b u z0] at q; cases q
  · have ne : b ≠ a := fun e => by rw [e, h0] at z; cases z
    exact keep b u ne (w.ex b u z)
  · by_cases ej : j = i
    · subst ej
      rw [List.getElem?_set_self hi] at h3
      cases h3
      rw [h2] at h4
      cases h4
      refine ⟨a, o', rfl, k2, h0, k4, ?_⟩
      cases o' <;> first | exact k5.elim | exact ⟨⟨k5.1, rfl⟩, k5.2⟩
    · rw [List.getElem?_set_ne (Ne.symm ej)] at h3
      have ok := w.ok j s x h3 h4
      cases s with
      | no => trivial
      | va d => obtain ⟨v, g1, g2⟩ := ok; exact ⟨v, g1, Rep.mono fr g2⟩
      | br d => obtain ⟨v, g1, g2⟩ := ok; exact ⟨v, g1, RepB.mono (fun _ _ z => z) fr g2⟩
      | bw d =>
        have := List.all_eq_true.mp hb _ (List.mem_of_getElem? h3)
        exact absurd this Bool.false_ne_true
      | ow d1 =>
        obtain ⟨q, o1, g1, g2, g3, g4, g5⟩ := ok
        subst g1
        have nq : q ≠ a := fun e => by
          subst e
          exact ej (w.nd j i q _ _ h3 h4 h1 h2)
        exact ⟨q, o1, rfl, w'.sub q (List.mem_filter.mpr ⟨g2, by simpa using nq⟩), g3, keep q o1 nq g4, RepH.mono fr g5⟩
  · have key : ∀ (k : Nat) (dd : D), (G.set i (Sl.ow (.slf a C ns es)))[k]? = some (Sl.ow dd) → ∃ dd', G[k]? = some (Sl.ow dd') := fun k dd h => by
      by_cases ek : k = i
      · subst ek
        exact ⟨_, h1⟩
      · rw [List.getElem?_set_ne (Ne.symm ek)] at h
        exact ⟨dd, h⟩
    obtain ⟨_, e⟩ := key j d1 h3
    obtain ⟨_, f⟩ := key k d2 h5
    exact w.nd j k q _ _ e h4 f h6
/-- super().__init__(..), self in slot i, `__class__` in slot j -/
theorem sa_super {body : List Stmt} {p0 p1 p2 p3 p4 : Pos} {f cda cc C DD f2 a : Addr} {fd fd2 : FuncData} {sf : Str} {k : Nat} {e : Expr} {es : List Expr} {pl : Sem Bool} {ps : List Str} {P2 : Pm} {ss : List Sl} {ds es2 : List D} {ns : List Str} (i j : Nat)
    (T : SupAt X.prog X.K X.mg f cda cc DD fd sf) (S : SupI X.K C DD f2) (F2 : FnOk X.prog X.w X.K X.mg X.base (L2N.CX X.prog X.w) k f2 fd2 ps (mkSpI X.K C P2)) (hrm : Room k X.A) (hb : L2.Binds X.K fd2 ps [])
    (hi : Γ[i]? = some (.ow (.slf a C [] []))) (hj : Γ[j]? = some (.va (.opq (.ref DD)))) (hst : stab Γ = true) (ha : Ea X H0 Oc Γ (e :: es) ss) (hva : vaD ss = some ds) (hp : P2 (ds.map .va) (.ret (.ow (.obj C ns es2))))
    (hr : SdsA X W H0 Oc (.func body X.env) (Γ.set i (.ow (.slf a C ns es2))) rest out)
    (hNi : X.N[i]? = some sf) (hNj : X.N[j]? = some ("__class__" : Str)) (hfu : X.env.func = some f := by rfl) (hco : X.env.code = .ref cda := by rfl) (hks : X.env.kindOf "super" = some .globalImplicit := by rfl) (hkc : X.env.kindOf "__class__" = some .free := by rfl) (hka : X.env.kindOf sf = some .local := by rfl)
    (hin : interactive X.env = false := by rfl) (hs : swapsWith (.Call (.Attribute (.Call (.Name "super" p0) [] [] p1) "__init__" p2) (e :: es) [] p3) none p4.line X.env = pure false := by rfl)
    (he : starEach (e :: es) X.env = (false, eval e X.env) :: starEach es X.env := by rfl) (hpl : (backTo p3 (starEach es X.env)).any (·.1) = false := by rfl)
    (hev : eval (.Call (.Attribute (.Call (.Name "super" p0) [] [] p1) "__init__" p2) (e :: es) [] p3) X.env = (do
      let ov ← attributeBase (.Call (.Name "super" p0) [] [] p1) "__init__" X.env (eval (.Call (.Name "super" p0) [] [] p1) X.env)
      standAt p2.atName
      let (f, first) ← holding [ov] (getMethod ov "__init__" pl)
      callWith p3 f first (backTo p3 (starEach (e :: es) X.env)) []) := by rfl) :
    SdsA X W H0 Oc (.func body X.env) Γ (.Expr (.Call (.Attribute (.Call (.Name "super" p0) [] [] p1) "__init__" p2) (e :: es) [] p3) p4 :: rest) out := fun σ H D w kk => by
  refine wpSA.of (psa_superI (i := i) (j := j) T S F2 hrm hb passLN hfu hco hks hkc hka hNi hNj pa_wp psa_wp hin hs he hpl hev) ?_
  obtain ⟨O, w0⟩ := id w
  obtain ⟨x, hx, pa, oo, rfl, g2, g3, g4, g5⟩ := slot_of (Δ := []) (τ := []) rfl w0 hi
  obtain ⟨y, hy, vy, rfl, ry⟩ := slot_of (Δ := []) (τ := []) rfl w0 hj
  obtain rfl : vy = .ref DD := ry
  cases oo <;> first | exact g5.elim | skip
  rename_i C' dx fs
  obtain ⟨⟨rfl, rfl⟩, g6⟩ := g5
  refine ⟨a, dx, fs, hy, hx, g4, ?_⟩
  refine ha [] [] σ H _ rfl w fun vs O1 H1 w1 ok => ?_
  have hss := vaD_at hva
  subst hss
  have rr := args_va ok
  have w1' : WfO X.K H0 Oc O1 Γ σ H1 := w1
  refine ⟨less H1 a, O1.filter (· ≠ a), ds.map .va, _, .ref a, vs, hp, rfl, ⟨O1, w1'.lend hi hx rr⟩, fun H2 w2 => ?_⟩
  exact hr σ H2 D (w1'.back hst hi hx w2) kk
end
section
variable {K : PySem.W.Frag} {H0 H : Hp} {O Oc : List Addr} {G : List Sl} {S : List (Option V)}
theorem WfO.snoc {s : Sl} {x : Option V} (w : WfO K H0 Oc O G S H) (h : SlOk K H0 O H s x) (hs : ∀ d, s ≠ .ow d) : WfO K H0 Oc O (G ++ [s]) (S ++ [x]) H := by
  have key : ∀ i s', (G ++ [s])[i]? = some s' → (G[i]? = some s' ∧ i < G.length) ∨ (i = G.length ∧ s' = s) := fun i s' h => by
    by_cases hi : i < G.length
    · rw [List.getElem?_append_left hi] at h
      exact .inl ⟨h, hi⟩
    · rw [List.getElem?_append_right (by omega)] at h
      cases e : i - G.length with
      | zero =>
        rw [e] at h
        cases h
        exact .inr ⟨by omega, rfl⟩
      | succ n => rw [e] at h; cases h
  refine ⟨w.sub, w.new, w.old, w.live, w.ex, by simp [w.len], fun i s' y h1 h2 => ?_, fun i j p d d' h1 h2 h3 h4 => ?_⟩
  · rcases key i s' h1 with ⟨e, hi⟩ | ⟨e, e2⟩
    · rw [List.getElem?_append_left (by rw [w.len]; exact hi)] at h2
      exact w.ok i s' y e h2
    · subst e2
      rw [e, ← w.len, List.getElem?_append_right (by omega), Nat.sub_self] at h2
      cases h2
      exact h
  · rcases key i _ h1 with ⟨e, hi⟩ | ⟨_, e⟩
    · rcases key j _ h3 with ⟨f, hj⟩ | ⟨_, f⟩
      · rw [List.getElem?_append_left (by rw [w.len]; exact hi)] at h2
        rw [List.getElem?_append_left (by rw [w.len]; exact hj)] at h4
        exact w.nd i j p d d' e h2 f h4
      · exact absurd f.symm (hs d')
    · exact absurd e.symm (hs d)
end
section
variable {Pr : Program} {w : World} {K : PySem.W.Frag} {mg : Str → Option Value} {base : Heap}
/-- an __init__ that calls super().__init__ -/
theorem initS_sds {fI cda cc C DD : Addr} {ar : Arguments} {bd : List Stmt} {sc : Scope} {qual : Str} {dV kV doc pm ct oc : Value} {an od : Option Addr} {osl : Array (Option Value)} {N ps : List Str} {k : Nat} {P : Pm}
    (lk : K.lookup fI = some ⟨oc, od, .func (PySem.W.fnX "__init__" qual ar bd sc [("__class__", cc)] dV kV doc pm an (.ref cda) ct), osl⟩) (hcd : PySem.W.codeIn K (.ref cda) qual = true)
    (S : NScope N ps ["__class__"] sc) (hcell : ∃ cl cld csl, K.lookup cc = some ⟨cl, cld, .cell (some (.ref DD)), csl⟩) (hlen : ∀ Γ o, P Γ o → Γ.length + 1 = ps.length)
    (hb : ∀ (A : Around) (outer : List Env) (s : Shared) (H : Hp) (E : XK), Room k (A.deeper (envF ⟨"__init__", qual, ar, bd, sc, [("__class__", cc)], cda⟩ fI s.heap.objs.size)) → ∀ (H0 : Hp) (Oc : List Addr) (Γ : List Sl) (o : Out) (a : Addr), P Γ o →
      ∃ o', SdsA (ncx (L2N.CX Pr w) Pr w K mg base N ⟨"__init__", qual, ar, bd, sc, [("__class__", cc)], cda⟩ fI A outer s H E) (wx E) H0 Oc (.func bd (envF ⟨"__init__", qual, ar, bd, sc, [("__class__", cc)], cda⟩ fI s.heap.objs.size))
        (.ow (.slf a C [] []) :: (Γ ++ (.va (.opq (.ref DD)) :: List.replicate (N.length - ps.length - 1) .no))) bd o' ∧ FinI a C o' o) :
    FnOk Pr w K mg base (L2N.CX Pr w) (k + 1) fI (PySem.W.fnX "__init__" qual ar bd sc [("__class__", cc)] dV kV doc pm an (.ref cda) ct) ps (mkSpI K C P) := by
  obtain ⟨cl, cld, csl, hcell⟩ := hcell
  have len : ∀ vs H Q E, mkSpI K C P vs H Q E → vs.length = ps.length := fun vs H Q E ⟨H0, Oc, Γ, o, self, us, hp, e, ⟨O, w⟩, _⟩ => by
    have := w.len
    rw [← hlen Γ o hp, ← List.length_map (f := some) (as := vs), this]
    rfl
  refine fn_ofA (k := k) (F := ⟨"__init__", qual, ar, bd, sc, [("__class__", cc)], cda⟩) (ws := [some (.ref DD)]) lk hcd S (fun s A outer H e0 => cells_class hcell e0) len fun A outer s H vs Q E hr hsp => ?_
  have hl := len vs H Q E hsp
  obtain ⟨H0, Oc, Γ, o, self, us, hp, rfl, ⟨O, w0⟩, sat⟩ := hsp
  obtain ⟨aa, oo, e, h2, h3, h4, h5⟩ := w0.head
  cases e
  obtain ⟨o', hS, fin⟩ := hb A outer s H E hr H0 Oc Γ o aa hp
  refine ⟨wpSA _ _ _, psa_wp, hS _ H _ ⟨O, ?_⟩ ?_⟩
  · have z := (w0.slf.snoc (s := .va (.opq (.ref DD))) (x := some (.ref DD)) ⟨.ref DD, rfl, rfl⟩ fun _ z => nomatch z).pad (N.length - ps.length - 1)
    rw [List.append_assoc, List.append_assoc] at z
    unfold startF
    rw [hl]
    exact z
  · match o', fin with
    | .nx Γ', fin =>
      obtain ⟨ns, ds, e1, rfl⟩ := fin
      exact fun σ H' ⟨O', w'⟩ => sat H' (w'.at0 e1)
    | .exc C ns ds Γe, fin =>
      obtain ⟨Γe', rfl⟩ := fin
      intro d σ H' xw
      refine sat d H' ?_
      cases Γe with
      | none => exact xw
      | some Γ2 => exact Wf.only (show Wf K H0 Oc (.va (.xd ns ds) :: ([] ++ Γ2)) (some (.ref d) :: ([] ++ σ)) H' from xw)
end
end Y

/-! # sorted(t), t a tuple of ints -/
namespace Srt2
open PySem PySem.Spec PyProof.Rows
section
variable {prog : Program} {w : World} {A : Around} {E : Value → Shared → Prop} {s : Shared}
theorem gather {t : Addr} {its : List Value} {Q : List Value → Shared → Prop} (ht : s.heap.IsTuple t its.toArray) (few : its.length ≤ sizeLine)
    (q : Q its { s with heap := (s.heap.push (seqObj "list" #[] 0)).update s.heap.objs.size (Obj.mapSeq (· ++ its.toArray)) }) : wpAny (model prog w) A (collect (.ref t)) Q E s := by
  obtain ⟨ob, at_, cls, ep, dat⟩ := id ht
  have at2 : (s.heap.push (seqObj "list" #[] 0)).get? t = some ob := Heap.get?_push_of_some _ at_
  have fresh : (s.heap.push (seqObj "list" #[] 0)).get? s.heap.objs.size = some (seqObj "list" #[] 0) := Heap.get?_push_size _ rfl
  unfold collect
  apply wpAny_bind
  apply wpAny_runValue
  apply codeAny_builtin entry_proto_collect'
  show wpAny _ _ (do again (.builtin "list.__iadd__" ⟨[← newList [], .ref t], []⟩)) _ _ s
  refine wpAny_bind (wpAny_newList ?_)
  apply wpAny_pure
  refine ⟨Code.quiet_builtin _ (by decide +kernel), codeAny_builtin entry_list_iadd' ?_⟩
  show wpAny _ _ (Builtin.List.listExtendWith (.ref s.heap.objs.size) (.ref t) (.ref s.heap.objs.size)) _ _ { s with heap := s.heap.push (seqObj "list" #[] 0) }
  unfold Builtin.List.listExtendWith
  apply wpAny_bind
  refine wpAny_typeOf (T := "tuple") ⟨ob, at2, cls⟩ ?_
  rw [if_pos (by rw [show (Value.type "tuple" == Value.type "list") = false by rfl, show (Value.type "tuple" == Value.type "tuple") = true by rfl]; simp)]
  apply wpAny_bind
  refine listItems_at at2 dat ?_
  apply wpAny_bind
  refine listItems_at (xs := #[]) (n := 0) fresh rfl ?_
  rw [if_neg (by simp)]
  apply wpAny_bind
  refine listUpdate_at (xs := #[]) (n := 0) fresh rfl ?_ (Nat.zero_le _) ?_
  · apply wpAny_pure
    show wpAny (model prog w) A (do
        let o ← load s.heap.objs.size
        match o.data with
        | .seq ys _ => pure ys.toList
        | _ => unsupported "internal:collect") Q E { s with heap := (s.heap.push (seqObj "list" #[] 0)).update s.heap.objs.size (Obj.mapSeq (· ++ its.toArray)) }
    apply wpAny_bind
    refine wpAny_load (get?_update_seq fresh _) ?_
    show wpAny _ _ (pure ((#[] : Array Value) ++ its.toArray).toList) Q E _
    have e : ((#[] : Array Value) ++ its.toArray).toList = its := by simp
    rw [e]
    exact wpAny_pure q
  · show (#[] ++ its.toArray).size ≤ sizeLine + 1
    have e : (#[] ++ its.toArray).size = its.length := by simp
    rw [e]
    exact Nat.le_succ_of_le few
theorem sorted_t {t : Addr} {its : List Value} {lt : Value → Value → Bool} {Q : Value → Shared → Prop} (O : SrtO.Swo lt) (ht : s.heap.IsTuple t its.toArray) (few : its.length ≤ sizeLine)
    (can : 2 ≤ its.length → ∀ (g : Heap) (b : Addr), g.get? b = some (seqObj "list" its.toArray 0) → (∀ c o, s.heap.get? c = some o → c ≠ b ∧ g.get? c = some o) → SrtO.SortableO prog w A.in1.in1 { s with heap := g } b its lt)
    (q : ∀ out : List Value, SrtO.Srtd lt out → SrtO.Stb lt out its → Q (.ref (s.heap.objs.size + 1)) { s with heap := sortedAll s.heap its out.toArray }) :
    wpAny (model prog w) A (call (.builtin "sorted") [.ref t]) Q E s := by
  refine Calls.call_function_entry kind_sorted plain_sorted entry_sorted (args_sorted1 _) ?_
  unfold Builtin.«sorted»
  apply wpAny_bind (m := checkCount "sorted" 1 1 _)
  apply wpAny_pure
  apply wpAny_bind
  refine gather ht few ?_
  apply wpAny_bind
  refine wpAny_newList ?_ few
  let g1 := (s.heap.push (seqObj "list" #[] 0)).update s.heap.objs.size (Obj.mapSeq (· ++ its.toArray))
  have z1 : g1.objs.size = s.heap.objs.size + 1 := (Heap.size_update ..).trans (size_push' ..)
  have z2 : (g1.push (seqObj "list" its.toArray 0)).get? (s.heap.objs.size + 1) = some (seqObj "list" its.toArray 0) := z1 ▸ Heap.get?_push_size _ rfl
  have old : ∀ c o, s.heap.get? c = some o → c ≠ s.heap.objs.size + 1 ∧ (g1.push (seqObj "list" its.toArray 0)).get? c = some o := fun c o e => by
    have lt : c < s.heap.objs.size := Heap.lt_size e
    refine ⟨Nat.ne_of_lt (Nat.lt_succ_of_lt lt), Heap.get?_push_of_some _ ((Heap.get?_update_ne _ _ _ _ (Nat.ne_of_lt lt)).trans (Heap.get?_push_of_some _ e))⟩
  show wpAny _ _ _ _ _ { s with heap := g1.push (seqObj "list" its.toArray 0) }
  rw [show ((s.heap.push (seqObj "list" #[] 0)).update s.heap.objs.size (Obj.mapSeq (· ++ its.toArray))).objs.size = s.heap.objs.size + 1 from z1]
  apply wpAny_bind
  apply wpAny_holding
  refine wpAny_call_entry slot_list_sort ⟨_, z2, rfl⟩ entry_list_sort ?_ (args_list_sort _)
  refine SrtO.list_sort_ord O z2 few (fun two => can two _ _ z2 old) fun out a b => ⟨_, rfl, ?_⟩
  exact wpAny_pure ⟨_, rfl, q out a b⟩
end
open L2
def rSortedTI (K : PySem.W.Frag) : List V → Hp → VK → Prop := fun vs H Q => ∃ (a : Addr) (ns : List Int), vs = [V.ref a] ∧ SqT K H a (ns.map V.int) ∧
  ∀ (ms : List Int) (p : Addr), ms.Perm ns → ms.Pairwise (· ≤ ·) → H p = none → Q (.ref p) (upd H p (.lst (ms.map V.int)))
theorem cr_sortedTI {X : Cx} : CallR X (.builtin "sorted") (rSortedTI X.K) := by
  intro pins s σ H vs us Q I r h
  obtain ⟨a, ns, rfl, hs, q⟩ := h
  obtain ⟨its, rv, ht, hz⟩ := I.tuple hs
  rw [Vals.ref1 r]
  have hi := rv.ints
  refine sorted_t SrtO.swo_int ht (by rw [← rv.length]; exact hz) (fun h2 g b _ _ => SrtO.ints_sortable hi h2) fun out a1 a2 => ?_
  obtain ⟨k1, k2, k3⟩ := SrtO.ints_out hi a1 a2
  obtain ⟨ep, at_⟩ := sortedAll_at s.heap its out.toArray
  have few : ((out.map SrtO.iv).map V.int).length ≤ sizeLine := by
    rw [List.length_map, k2.length_eq, ← List.length_map (f := V.int)]
    exact hz
  exact ⟨.ref _, upd H (s.heap.objs.size + 1) (.lst ((out.map SrtO.iv).map V.int)), I.laid (t' := s.toks) (fun _ _ => sortedAll_old) (Nat.le_succ _) ⟨few, out, ep, vals_of_ints k1, at_⟩, rfl, q _ _ k2 k3 (I.hok.fresh (Nat.le_succ _))⟩
end Srt2

namespace Y
open PySem PySem.Spec PyProof.Rows L2
/-! ## order -/
def lexLe : List Int → List Int → Bool
  | [], _ => true
  | _ :: _, [] => false
  | a :: r, b :: q => decide (a < b) || (decide (a = b) && lexLe r q)
theorem lex_total : ∀ a b : List Int, (lexLe a b || lexLe b a) = true
  | [], _ => by simp [lexLe]
  | _ :: _, [] => by simp [lexLe]
  | a :: r, b :: q => by
    have ih := lex_total r q
    simp only [lexLe, Bool.or_eq_true, decide_eq_true_eq, Bool.and_eq_true] at ih ⊢
    rcases Int.lt_trichotomy a b with h | h | h
    · exact .inl (.inl h)
    · rcases ih with i | i
      · exact .inl (.inr ⟨h, i⟩)
      · exact .inr (.inr ⟨h.symm, i⟩)
    · exact .inr (.inl h)
theorem lex_trans : ∀ a b c : List Int, lexLe a b = true → lexLe b c = true → lexLe a c = true
  | [], _, _, _, _ => by simp [lexLe]
  | _ :: _, [], _, h, _ => by simp [lexLe] at h
  | _ :: _, _ :: _, [], _, h => by simp [lexLe] at h
  | a :: r, b :: q, c :: t, h1, h2 => by
    have ih := lex_trans r q t
    simp only [lexLe, Bool.or_eq_true, decide_eq_true_eq, Bool.and_eq_true] at h1 h2 ⊢
    rcases h1 with h1 | ⟨e1, h1⟩
    · rcases h2 with h2 | ⟨e2, h2⟩
      · exact .inl (by omega)
      · exact .inl (by omega)
    · rcases h2 with h2 | ⟨e2, h2⟩
      · exact .inl (by omega)
      · exact .inr ⟨by omega, ih h1 h2⟩
theorem lex_anti : ∀ a b : List Int, lexLe a b = true → lexLe b a = true → a = b
  | [], [], _, _ => rfl
  | [], _ :: _, _, h => by simp [lexLe] at h
  | _ :: _, [], h, _ => by simp [lexLe] at h
  | a :: r, b :: q, h1, h2 => by
    simp only [lexLe, Bool.or_eq_true, decide_eq_true_eq, Bool.and_eq_true] at h1 h2
    rcases h1 with h1 | ⟨e1, h1⟩
    · rcases h2 with h2 | ⟨e2, h2⟩ <;> omega
    · rcases h2 with h2 | ⟨e2, h2⟩
      · omega
      · rw [e1, lex_anti r q h1 h2]
theorem lex_code {B : Int} : ∀ {a b : List Int}, a.length = b.length → TS.Bd B a → TS.Bd B b → TS.code B a ≤ TS.code B b → lexLe a b = true
  | [], _, _, _, _, _ => by simp [lexLe]
  | _ :: _, [], h, _, _, _ => by simp at h
  | a :: r, b :: q, hl, h1, h2, hc => by
    have hl' : r.length = q.length := by simpa using hl
    simp only [lexLe, Bool.or_eq_true, decide_eq_true_eq, Bool.and_eq_true]
    rcases Int.lt_trichotomy a b with h | h | h
    · exact .inl h
    · subst h
      refine .inr ⟨rfl, lex_code hl' h1.tail h2.tail ?_⟩
      have := (TS.code_same (d := a) hl'.symm (B := B)).mpr
      rcases Int.lt_or_le (TS.code B q) (TS.code B r) with z | z
      · have := this z
        omega
      · exact z
    · have := TS.code_lt hl'.symm h2.tail h1.tail h
      omega
/-- sorted(..) of tuples of ints, of ints -/
def sortL (L : List (List Int)) : List (List Int) := L.mergeSort lexLe
def sortI (ns : List Int) : List Int := ns.mergeSort (fun x y => decide (x ≤ y))
theorem sortL_perm (L : List (List Int)) : (sortL L).Perm L := List.mergeSort_perm _ _
theorem sortL_pair (L : List (List Int)) : (sortL L).Pairwise (fun a b => lexLe a b = true) := List.pairwise_mergeSort lex_trans lex_total L
theorem sortL_uniq {M L : List (List Int)} (h : M.Perm L) (hp : M.Pairwise (fun a b => lexLe a b = true)) : M = sortL L :=
  List.Perm.eq_of_pairwise (fun a b _ _ h1 h2 => lex_anti a b h1 h2) hp (sortL_pair L) (h.trans (sortL_perm L).symm)
/-! ## permuted values -/
theorem Reps.perm {K : PySem.W.Frag} {H : Hp} {α : Type} {f : α → D} {us vs : List V} (p : us.Perm vs) : ∀ {L : List α}, Reps K H (L.map f) vs → ∃ M : List α, M.Perm L ∧ Reps K H (M.map f) us := by
  induction p with
  | nil =>
    intro L h
    exact ⟨L, .refl _, h⟩
  | cons x p ih =>
    intro L h
    match L, h with
    | [], h => cases (show _ = [] from h)
    | a :: L, ⟨v, ws, e, h1, h2⟩ =>
      cases e
      obtain ⟨M, m1, m2⟩ := ih h2
      exact ⟨a :: M, m1.cons a, x, _, rfl, h1, m2⟩
  | swap x y l =>
    intro L h
    match L, h with
    | [], h => cases (show _ = [] from h)
    | [a], ⟨v, ws, e, h1, h2⟩ =>
      cases e
      cases (show _ = [] from h2)
    | a :: b :: L, ⟨v, ws, e, h1, v', ws', e', h2, h3⟩ =>
      cases e
      cases e'
      exact ⟨b :: a :: L, .swap a b L, y, _, rfl, h2, x, _, rfl, h1, h3⟩
  | trans p q ih1 ih2 =>
    intro L h
    obtain ⟨M, m1, m2⟩ := ih2 h
    obtain ⟨N, n1, n2⟩ := ih1 m2
    exact ⟨N, n1.trans m1, n2⟩
theorem Reps.bls {K : PySem.W.Frag} {H : Hp} : ∀ {bs : List Bool} {vs : List V}, Reps K H (bs.map .bl) vs → vs = bs.map V.bl
  | [], _, h => h
  | _ :: _, _, ⟨_, _, h1, h2, h3⟩ => by rw [h1, h2, Reps.bls h3] <;> rfl
/-- a tuple of ints -/
def encT (ns : List Int) : D := .tup (ns.map .int)
theorem rep_tup {K : PySem.W.Frag} {H : Hp} {ns : List Int} {v : V} (h : Rep K H (encT ns) v) : ∃ t, v = .ref t ∧ H t = some (.tup (ns.map V.int)) := by
  obtain ⟨t, vs, e, h1, h2⟩ := h
  rw [Reps.ints h2] at h1
  exact ⟨t, e, h1⟩
theorem map_int_inj : ∀ {a b : List Int}, a.map V.int = b.map V.int → a = b
  | [], [], _ => rfl
  | [], _ :: _, h => by simp at h
  | _ :: _, [], h => by simp at h
  | x :: a, y :: b, h => by
    simp only [List.map_cons, List.cons.injEq] at h
    obtain ⟨h1, h2⟩ := h
    cases h1
    rw [map_int_inj h2]
section
variable {X : Cx} {W : WX} {H0 : Hp} {Oc : List Addr} {Γ : List Sl} {a b : Expr} {d : D} {ds : List D} {i j : Int} {pos p : Pos} {bs : List Bool} {ns : List Int}
theorem e_all (hm : X.mg "all" = none) (hc : X.calm = true) (ha : Ev X H0 Oc Γ a (.bw (.lst (bs.map .bl)))) (hg : Gl X "all" := by rfl) (he : starEach [a] X.env = (false, eval a X.env) :: starEach [] X.env := by rfl) (hpl : (backTo pos (starEach [] X.env)).any (·.1) = false := by rfl) :
    Ev X H0 Oc Γ (.Call (.Name "all" p) [a] [] pos) (.va (.bl (bs.all id))) := ev_b1 (cr_all hc) ha hm (by decide +kernel) hg (fun G S H v Q W q => by
      obtain ⟨⟨O, h⟩, O', W'⟩ := W.popB
      obtain ⟨t, vs, rfl, h1, h2⟩ := h
      have e : vs = bs.map V.bl := Reps.bls h2
      subst e
      exact ⟨t, bs, rfl, .of h1, q _ H ⟨O', W'.flat (d := .bl (bs.all id)) (H' := H) rfl rfl⟩⟩) (by decide) (by decide) he hpl
theorem e_any (hm : X.mg "any" = none) (hc : X.calm = true) (ha : Ev X H0 Oc Γ a (.bw (.lst (bs.map .bl)))) (hg : Gl X "any" := by rfl) (he : starEach [a] X.env = (false, eval a X.env) :: starEach [] X.env := by rfl) (hpl : (backTo pos (starEach [] X.env)).any (·.1) = false := by rfl) :
    Ev X H0 Oc Γ (.Call (.Name "any" p) [a] [] pos) (.va (.bl (bs.any id))) := ev_b1 (cr_any hc) ha hm (by decide +kernel) hg (fun G S H v Q W q => by
      obtain ⟨⟨O, h⟩, O', W'⟩ := W.popB
      obtain ⟨t, vs, rfl, h1, h2⟩ := h
      have e : vs = bs.map V.bl := Reps.bls h2
      subst e
      exact ⟨t, bs, rfl, .of h1, q _ H ⟨O', W'.flat (d := .bl (bs.any id)) (H' := H) rfl rfl⟩⟩) (by decide) (by decide) he hpl
theorem e_max (hm : X.mg "max" = none) (hc : X.calm = true) (ha : Ev X H0 Oc Γ a (.va (.int i))) (hb : Ev X H0 Oc Γ b (.va (.int j))) (hg : Gl X "max" := by rfl) (he : starEach [a, b] X.env = (false, eval a X.env) :: starEach [b] X.env := by rfl) (he2 : starEach [b] X.env = (false, eval b X.env) :: starEach [] X.env := by rfl) (hpl : (backTo pos (starEach [b] X.env)).any (·.1) = false := by rfl) :
    Ev X H0 Oc Γ (.Call (.Name "max" p) [a, b] [] pos) (.va (.int (max i j))) := fun Δ τ σ H Q hl w kk =>
  wpE.of (pe_callB (call_max2 hc) hg hm (by decide +kernel) (pa_cons pe_wp (pa_cons pe_wp pa_nil he2) he) (by decide) (by decide) he hpl) (ha Δ τ σ H _ hl w fun v H1 w1 =>
    hb (.va (.int i) :: Δ) (some v :: τ) σ H1 _ (by simp [hl]) w1 fun z H2 ⟨O, w2⟩ => by
      obtain ⟨z', e1, r1⟩ := w2.head
      cases e1
      obtain ⟨v', e2, r2⟩ := w2.pop.head
      cases e2
      refine ⟨i, j, by rw [show v = _ from r2, show z = _ from r1], kk _ H2 ⟨O, w2.pop.pop.flat (H' := H2) rfl ?_⟩⟩
      show V.int _ = V.int _
      congr 1
      split <;> omega)
theorem e_min (hm : X.mg "min" = none) (hc : X.calm = true) (ha : Ev X H0 Oc Γ a (.va (.int i))) (hb : Ev X H0 Oc Γ b (.va (.int j))) (hg : Gl X "min" := by rfl) (he : starEach [a, b] X.env = (false, eval a X.env) :: starEach [b] X.env := by rfl) (he2 : starEach [b] X.env = (false, eval b X.env) :: starEach [] X.env := by rfl) (hpl : (backTo pos (starEach [b] X.env)).any (·.1) = false := by rfl) :
    Ev X H0 Oc Γ (.Call (.Name "min" p) [a, b] [] pos) (.va (.int (min i j))) := fun Δ τ σ H Q hl w kk =>
  wpE.of (pe_callB (call_min2 hc) hg hm (by decide +kernel) (pa_cons pe_wp (pa_cons pe_wp pa_nil he2) he) (by decide) (by decide) he hpl) (ha Δ τ σ H _ hl w fun v H1 w1 =>
    hb (.va (.int i) :: Δ) (some v :: τ) σ H1 _ (by simp [hl]) w1 fun z H2 ⟨O, w2⟩ => by
      obtain ⟨z', e1, r1⟩ := w2.head
      cases e1
      obtain ⟨v', e2, r2⟩ := w2.pop.head
      cases e2
      refine ⟨i, j, by rw [show v = _ from r2, show z = _ from r1], kk _ H2 ⟨O, w2.pop.pop.flat (H' := H2) rfl ?_⟩⟩
      show V.int _ = V.int _
      congr 1
      split <;> omega)
/-- sorted(list of ints) -/
theorem e_sortI (hm : X.mg "sorted" = none) (ha : Ev X H0 Oc Γ a (.bw (.lst (ns.map .int)))) (hg : Gl X "sorted" := by rfl) (he : starEach [a] X.env = (false, eval a X.env) :: starEach [] X.env := by rfl) (hpl : (backTo pos (starEach [] X.env)).any (·.1) = false := by rfl) :
    Ev X H0 Oc Γ (.Call (.Name "sorted" p) [a] [] pos) (.ow (.lst ((sortI ns).map .int))) := ev_b1 cr_sortedI ha hm (by decide +kernel) hg (fun G S H v Q ⟨O, W⟩ q => by
      obtain ⟨u, g1, t, vs, rfl, h1, h2⟩ := W.head
      cases g1
      rw [Reps.ints h2] at h1
      refine ⟨t, ns, rfl, .of h1, fun ms pp m1 m2 hp => q _ _ ⟨_, W.pop.newLst hp (ds := (sortI ns).map .int) ?_⟩⟩
      rw [PySem.W.os_sorted_mergeSort m1 m2]
      exact Reps.of_ints) (by decide) (by decide) he hpl
/-- sorted(tuple of ints) -/
theorem e_sortTI (hm : X.mg "sorted" = none) (ha : Ev X H0 Oc Γ a (.bw (encT ns))) (hg : Gl X "sorted" := by rfl) (he : starEach [a] X.env = (false, eval a X.env) :: starEach [] X.env := by rfl) (hpl : (backTo pos (starEach [] X.env)).any (·.1) = false := by rfl) :
    Ev X H0 Oc Γ (.Call (.Name "sorted" p) [a] [] pos) (.ow (.lst ((sortI ns).map .int))) := ev_b1 Srt2.cr_sortedTI ha hm (by decide +kernel) hg (fun G S H v Q ⟨O, W⟩ q => by
      obtain ⟨u, g1, t, vs, rfl, h1, h2⟩ := W.head
      cases g1
      rw [Reps.ints h2] at h1
      refine ⟨t, ns, rfl, .of h1, fun ms pp m1 m2 hp => q _ _ ⟨_, W.pop.newLst hp (ds := (sortI ns).map .int) ?_⟩⟩
      rw [PySem.W.os_sorted_mergeSort m1 m2]
      exact Reps.of_ints) (by decide) (by decide) he hpl
end
theorem Reps.mem {K : PySem.W.Frag} {H : Hp} {α : Type} {f : α → D} : ∀ {L : List α} {vs : List V} {v : V}, Reps K H (L.map f) vs → v ∈ vs → ∃ a ∈ L, Rep K H (f a) v
  | [], _, _, h, hm => by cases (show _ = [] from h); simp at hm
  | a :: L, _, v, ⟨u, us, e, h1, h2⟩, hm => by
    subst e
    rcases List.mem_cons.mp hm with e | hm
    · exact ⟨a, List.mem_cons_self, e ▸ h1⟩
    · obtain ⟨b, hb, r⟩ := Reps.mem h2 hm
      exact ⟨b, List.mem_cons_of_mem _ hb, r⟩
theorem Reps.pair {K : PySem.W.Frag} {H : Hp} {α : Type} {f : α → D} {R : V → V → Prop} {P : α → α → Prop} : ∀ {L : List α} {vs : List V}, Reps K H (L.map f) vs → vs.Pairwise R → (∀ a ∈ L, ∀ b ∈ L, ∀ x y, Rep K H (f a) x → Rep K H (f b) y → R x y → P a b) → L.Pairwise P
  | [], _, _, _, _ => .nil
  | a :: L, _, ⟨u, us, e, h1, h2⟩, hp, hP => by
    subst e
    obtain ⟨p1, p2⟩ := List.pairwise_cons.mp hp
    refine List.pairwise_cons.mpr ⟨fun b hb => ?_, Reps.pair h2 p2 fun a' ha' b' hb' => hP a' (List.mem_cons_of_mem _ ha') b' (List.mem_cons_of_mem _ hb')⟩
    obtain ⟨i, hi⟩ := List.mem_iff_getElem?.mp hb
    obtain ⟨y, hy, ry⟩ := h2.get (i := i) (d := f b) (by rw [List.getElem?_map, hi]; rfl)
    exact hP a List.mem_cons_self b (List.mem_cons_of_mem _ hb) u y h1 ry (p1 y (List.mem_of_getElem? hy))
section
variable {X : Cx} {W : WX} {H0 : Hp} {Oc : List Addr} {Γ : List Sl} {a b : Expr} {pos p p2 pos2 : Pos} {L : List (List Int)}
theorem tupI_of {K : PySem.W.Frag} {H : Hp} {O : List Addr} {ns : List Int} {v : V} (h : Rep K (cut H O) (encT ns) v) : TupI K H v ns := by
  obtain ⟨t, e, ht⟩ := rep_tup h
  exact ⟨t, e, .of (cut_ex _ _ ht)⟩
/-- sorted(list of tuples of d ints in [0, B)), fewer than 64 -/
theorem e_sortL (d : Nat) (B : Int) (hd : 1 ≤ d) (hm : X.mg "sorted" = none) (ha : Ev X H0 Oc Γ a (.bw (.lst (L.map encT)))) (hlen : L.length < 64) (hL : ∀ x ∈ L, x.length = d ∧ TS.Bd B x) (hg : Gl X "sorted" := by rfl) (he : starEach [a] X.env = (false, eval a X.env) :: starEach [] X.env := by rfl) (hpl : (backTo pos (starEach [] X.env)).any (·.1) = false := by rfl) :
    Ev X H0 Oc Γ (.Call (.Name "sorted" p) [a] [] pos) (.ow (.lst ((sortL L).map encT))) := ev_b1 (cr_sortT (d := d) (B := B) hd) ha hm (by decide +kernel) hg (fun G S H v Q ⟨O, W⟩ q => by
      obtain ⟨u, g1, t, vs, rfl, h1, h2⟩ := W.head
      cases g1
      refine ⟨t, vs, rfl, .of h1, by rw [h2.len, List.length_map]; exact hlen, fun x hx => ?_, fun ys pp m1 m2 hp => q _ _ ⟨_, W.pop.newLst hp (ds := (sortL L).map encT) ?_⟩⟩
      · obtain ⟨ns, hns, r⟩ := h2.mem hx
        exact ⟨ns, tupI_of r, hL ns hns⟩
      · obtain ⟨M, n1, n2⟩ := h2.perm m1
        have e : M = sortL L := sortL_uniq n1 (n2.pair m2 fun a ha b hb x y rx ry hR => by
          obtain ⟨l1, b1⟩ := hL a (n1.mem_iff.mp ha)
          obtain ⟨l2, b2⟩ := hL b (n1.mem_iff.mp hb)
          exact lex_code (l1.trans l2.symm) b1 b2 (hR a b (tupI_of rx) (tupI_of ry)))
        rw [← e]
        exact n2) (by decide) (by decide) he hpl
def dd {α : Type} [DecidableEq α] : List α → List α
  | [] => []
  | x :: xs => if x ∈ xs then dd xs else x :: dd xs
theorem mem_dd {α : Type} [DecidableEq α] {x : α} : ∀ {xs : List α}, x ∈ dd xs ↔ x ∈ xs
  | [] => Iff.rfl
  | y :: ys => by
    unfold dd
    split
    · rename_i h
      rw [mem_dd, List.mem_cons]
      exact ⟨.inr, fun z => z.elim (fun e => e ▸ h) id⟩
    · rw [List.mem_cons, List.mem_cons, mem_dd]
theorem nodup_dd {α : Type} [DecidableEq α] : ∀ (xs : List α), (dd xs).Nodup
  | [] => List.nodup_nil
  | y :: ys => by
    unfold dd
    split
    · exact nodup_dd ys
    · rename_i h
      exact List.nodup_cons.mpr ⟨fun z => h (mem_dd.mp z), nodup_dd ys⟩
def sortSet (L : List (List Int)) : List (List Int) := sortL (dd L)
theorem sortSet_uniq {M L : List (List Int)} (hn : M.Nodup) (hm : ∀ x, x ∈ M ↔ x ∈ L) (hp : M.Pairwise (fun a b => lexLe a b = true)) : M = sortSet L :=
  sortL_uniq ((List.perm_ext_iff_of_nodup hn (nodup_dd L)).mpr fun x => by rw [hm, mem_dd]) hp
theorem mem_sortSet {L : List (List Int)} {x : List Int} : x ∈ sortSet L ↔ x ∈ L := by
  unfold sortSet
  rw [(sortL_perm _).mem_iff, mem_dd]
theorem refs_of {K : PySem.W.Frag} {H : Hp} : ∀ {L : List (List Int)} {vs : List V}, Reps K H (L.map encT) vs → ∃ ks : List (Addr × List Int), vs = ks.map (fun p => V.ref p.1) ∧ ks.map (·.2) = L ∧ ∀ p ∈ ks, Rep K H (encT p.2) (.ref p.1)
  | [], _, h => by cases (show _ = [] from h); exact ⟨[], rfl, rfl, by simp⟩
  | a :: L, _, ⟨u, us, e, h1, h2⟩ => by
    subst e
    obtain ⟨ks, e1, e2, e3⟩ := refs_of h2
    obtain ⟨t, e, _⟩ := rep_tup h1
    subst e
    refine ⟨(t, a) :: ks, by rw [e1]; rfl, by rw [← e2]; rfl, fun p hp => ?_⟩
    rcases List.mem_cons.mp hp with e | hp
    · rw [e]; exact h1
    · exact e3 p hp
theorem reps_of {K : PySem.W.Frag} {H : Hp} : ∀ {ks : List (Addr × List Int)}, (∀ p ∈ ks, Rep K H (encT p.2) (.ref p.1)) → Reps K H ((ks.map (·.2)).map encT) (ks.map fun p => V.ref p.1)
  | [], _ => rfl
  | p :: ks, h => ⟨_, _, rfl, h p List.mem_cons_self, reps_of fun q hq => h q (List.mem_cons_of_mem _ hq)⟩
/-- sorted(set(list of tuples of d ints in [0, B))) -/
theorem e_sortSet (d : Nat) (B : Int) (hd : 1 ≤ d) (hm : X.mg "sorted" = none) (hm2 : X.mg "set" = none) (hc : X.calm = true) (hu : X.A.units + 64 < cLine) (ha : Ev X H0 Oc Γ a (.bw (.lst (L.map encT)))) (hlen : L.length < 64) (hL : ∀ x ∈ L, x.length = d ∧ TS.Bd B x) (hg : Gl X "sorted" := by rfl) (hg2 : Gl X "set" := by rfl)
    (he : starEach [.Call (.Name "set" p2) [a] [] pos2] X.env = (false, eval (.Call (.Name "set" p2) [a] [] pos2) X.env) :: starEach [] X.env := by rfl) (hpl : (backTo pos (starEach [] X.env)).any (·.1) = false := by rfl)
    (he2 : starEach [a] X.env = (false, eval a X.env) :: starEach [] X.env := by rfl) (hpl2 : (backTo pos2 (starEach [] X.env)).any (·.1) = false := by rfl) :
    Ev X H0 Oc Γ (.Call (.Name "sorted" p) [.Call (.Name "set" p2) [a] [] pos2] [] pos) (.ow (.lst ((sortSet L).map encT))) := fun Δ τ σ H Q hl w kk => by
  refine wpE.of (pe_callB (cr_sortedT hc) hg hm (by decide +kernel) (pa_cons (pe_callTy (cr_setOfT hc hu) hg2 hm2 (by decide +kernel) (pa_cons pe_wp pa_nil he2) (by decide) (by decide) he2 hpl2) pa_nil he) (by decide) (by decide) he hpl) ?_
  refine ha Δ τ σ H _ hl w fun v H1 ⟨O, w1⟩ => ?_
  obtain ⟨u, g1, t, vs, rfl, h1, h2⟩ := w1.head
  cases g1
  obtain ⟨ks, rfl, k2, k3⟩ := refs_of h2
  have st : ∀ p ∈ ks, SqT X.K H1 p.1 (p.2.map V.int) := fun p hp => by
    obtain ⟨t, e, ht⟩ := rep_tup (k3 p hp)
    cases e
    exact .of (cut_ex _ _ ht)
  have kl : ks.length < 64 := by rw [← List.length_map (f := (·.2)), k2]; exact hlen
  refine ⟨t, ks, rfl, .of h1, st, kl, fun sa S na s1 s2 => ?_⟩
  have gr : Ex H1 (upd H1 sa (SetTO X.prog X.w sa S)) := Ex.new na
  refine ⟨sa, S, d, B, rfl, upd_same, fun p hp => Ex.t gr (st p (s1 p hp)), hd, fun p hp => hL p.2 (by rw [← k2]; exact List.mem_map.mpr ⟨p, s1 p hp, rfl⟩), fun L' pp m1 m2 m3 m4 hp => ?_⟩
  have e : L'.map (·.2) = sortSet L := by
    refine sortSet_uniq m2 (fun x => ?_) ?_
    · constructor
      · intro hx
        obtain ⟨q, hq, e⟩ := List.mem_map.mp hx
        rw [← k2, ← e]
        exact List.mem_map.mpr ⟨q, s1 q (m1.mem_iff.mp hq), rfl⟩
      · intro hx
        rw [← k2] at hx
        obtain ⟨q, hq, e⟩ := List.mem_map.mp hx
        obtain ⟨q', hq', e'⟩ := List.mem_map.mp (s2 q hq)
        exact List.mem_map.mpr ⟨q', m1.mem_iff.mpr hq', e'.trans e⟩
    · refine List.pairwise_map.mpr (List.Pairwise.imp_of_mem (fun {q r} hq hr hcd => ?_) m4)
      have z : ∀ q ∈ L', q.2 ∈ L := fun q hq => by rw [← k2]; exact List.mem_map.mpr ⟨q, s1 q (m1.mem_iff.mp hq), rfl⟩
      obtain ⟨l1, b1⟩ := hL q.2 (z q hq)
      obtain ⟨l2, b2⟩ := hL r.2 (z r hr)
      exact lex_code (l1.trans l2.symm) b1 b2 hcd
  have w2 := w1.pop.grow gr
  refine kk _ _ ⟨_, w2.newLst hp (ds := (sortSet L).map encT) ?_⟩
  rw [← e]
  refine reps_of fun q hq => Rep.mono (cut_mono gr) (k3 q (s1 q (m1.mem_iff.mp hq)))
end
end Y

/-! # enumerate(t), t a tuple -/
namespace EnT
open PySem PySem.Spec PyProof.Rows
abbrev tIt (t : Addr) : Obj := { cls := .type "tuple_iterator", data := .fields #[.ref t, .int 0 0] }
abbrev eOb (a : Addr) : Obj := { cls := .type "enumerate", data := .fields #[.none, .bool false, .ref a, rawInt 0, .none, .none] }
theorem new_meets (t : Addr) (its : Array Value) (n : Nat) (dct : Option Addr) (sl : Array (Option Value)) :
    Meets (Builtin.«enumerate.__new__» ⟨[.type "enumerate", .ref t], []⟩) (fun _ R s => s.heap.get? t = some { cls := .type "tuple", dict := dct, data := .seq its n, slots := sl } ∧
      R (.ok (.ret (.ref (s.heap.push (tIt t)).objs.size))) { s with heap := (s.heap.push (tIt t)).push (eOb s.heap.objs.size) }) :=
  .of_wp fun prog w A R s h => by
    obtain ⟨hp, g, d, tk, os⟩ := s
    obtain ⟨at_, h⟩ := h
    have sub := sub_enumerate
    have tup : Heap.IsTuple (Shared.heap ⟨hp, g, d, tk, os⟩) t its := ⟨_, at_, rfl, n, rfl⟩
    wp_walk using wpAny_loadPart' at_
    refine wpAny_stack_any fun zz => wpAny_pure ?_
    split
    · rename_i k0 _ _ _ _ _
      cases (k0 == Value.type "enumerate")
      · wp_walk using wpAny_loadPart' at_, wpAny_pyIter_tuple tup
        exact ⟨_, rfl, h⟩
      · wp_walk using wpAny_loadPart' at_, wpAny_pyIter_tuple tup
        exact ⟨_, rfl, h⟩
    · wp_walk using wpAny_loadPart' at_, wpAny_pyIter_tuple tup
      exact ⟨_, rfl, h⟩
section
variable {prog : Program} {w : World} {A : Around} {E : Value → Shared → Prop} {s : Shared}
theorem call_it {t : Addr} {its : Array Value} {Q : Value → Shared → Prop} (ht : s.heap.IsTuple t its)
    (q : ∀ g, IsEnum g (s.heap.objs.size + 1) s.heap.objs.size 0 .none → g.IsTupleIter s.heap.objs.size t 0 → (∀ b o, s.heap.get? b = some o → g.get? b = some o) → Q (.ref (s.heap.objs.size + 1)) { s with heap := g }) :
    wpAny (model prog w) A (call (.type "enumerate") [.ref t]) Q E s := by
  obtain ⟨⟨cl, dct, dt, sl⟩, at_, hc, n, hd⟩ := ht
  cases (show cl = .type "tuple" from hc)
  cases (show dt = .seq its n from hd)
  refine callType_new F.called_enumerate (by decide) (F.typeCall_enumerate_1 _) (F.newCall_enumerate_1 _) (fun obj => F.args_object_init_2 obj _) F.entry_enumerate_new (new_meets t its n dct sl) ⟨at_, ?_⟩
  have z : (s.heap.push (tIt t)).objs.size = s.heap.objs.size + 1 := Heap.size_push ..
  have en : IsEnum ((s.heap.push (tIt t)).push (eOb s.heap.objs.size)) (s.heap.objs.size + 1) s.heap.objs.size 0 .none := by
    have y := Heap.get?_push_size (s.heap.push (tIt t)) (o := eOb s.heap.objs.size) rfl
    rw [z] at y
    exact y
  show _ ∧ _
  rw [z]
  exact ⟨⟨_, en, rfl⟩, q _ en ⟨_, Heap.get?_push_of_some _ (Heap.get?_push_size _ rfl), rfl, rfl⟩ fun b o e => Heap.get?_push_of_some _ (Heap.get?_push_of_some _ e)⟩
end
open L2
/-- the tuple at a, each item in a new pair -/
def Iet (K : PySem.W.Frag) (a : Addr) : It :=
  ⟨fun i H => ∃ (xs : List V) (x : V), SqT K H a xs ∧ xs[i]? = some x, fun i H v H' => ∃ T x, v = .ref T ∧ H T = none ∧ H' = upd H T (.tup [.int (i : Nat), x]) ∧ ∀ xs, SqT K H a xs → xs[i]? = some x, fun i H => ∃ xs : List V, SqT K H a xs ∧ xs.length ≤ i⟩
theorem turn {P : Program} {w : World} {K : PySem.W.Frag} {elts : List Expr} {kk : Nat} {tpos : Pos} (a e it : Addr) :
    Turn P w K (.Tuple elts kk tpos) (Iet K a) [e, it] e (fun i h => (∃ old, IsEnum h e it ((i : Nat) : Int) old) ∧ h.IsTupleIter it a i ∧ e ≠ it) where
  mem := List.mem_cons_self
  obj := fun i h st b hb => by
    obtain ⟨⟨old, at_⟩, ⟨o, ho, _, hd⟩, _⟩ := st
    rcases List.mem_cons.mp hb with rfl | hb
    · exact ⟨_, at_, fun v q => nomatch q⟩
    · rw [List.mem_singleton.mp hb]
      exact ⟨o, ho, fun v q => by rw [hd] at q; cases q⟩
  keep := fun i h h' st k => ⟨⟨st.1.choose, k e List.mem_cons_self _ st.1.choose_spec⟩, st.2.1.at fun o q => k it (List.mem_cons_of_mem _ List.mem_cons_self) o q, st.2.2⟩
  item := by
    intro X hP hw hK hc i pins s σ H E I hf st hg
    subst hP hw hK
    obtain ⟨⟨old, at_⟩, hit, hne⟩ := st
    obtain ⟨xs, x, hq, hx⟩ := hg
    obtain ⟨its, rv, tp, hz⟩ := I.tuple hq
    obtain ⟨u, hu, ru⟩ := rv.get hx
    have le : e < s.heap.objs.size := Heap.lt_size at_
    have li : it < s.heap.objs.size := by obtain ⟨_, q, _⟩ := hit; exact Heap.lt_size q
    have nt : a ≠ it := fun z => by
      obtain ⟨o1, q1, c1, _⟩ := hit
      obtain ⟨o2, q2, c2, _⟩ := tp
      rw [z, q1] at q2
      cases q2
      rw [c1] at c2
      exact absurd c2 (by decide)
    have ne : e ≠ a := fun z => by
      obtain ⟨o2, q2, c2, _⟩ := tp
      have q1 : s.heap.get? e = _ := at_
      rw [← z, q1] at q2
      cases q2
      have c3 : Value.type "enumerate" = Value.type "tuple" := c2
      exact absurd c3 (by decide)
    have hi : i < its.toArray.size := by
      have := (List.getElem?_eq_some_iff.mp hu).1
      simpa using this
    refine wpAny_pyNext_enum_itemD (Draws.tuple (prog := X.prog) (w := X.w) (A := X.A.in1) (by simp [I.ok.hd hc]) it a nt its.toArray) at_ ⟨hit, tp⟩ hi hne (fun z => ?_) fun y g tk hy ho st2 hT _ hk => ?_
    · rcases List.mem_cons.mp z with z | z
      · exact hne z
      · exact ne (List.mem_singleton.mp z)
    have ey : y = u := by
      have h1 : its.toArray[i]? = some y := hy
      rw [List.getElem?_toArray, hu] at h1
      exact (Option.some.inj h1).symm
    subst ey
    refine ⟨_, rfl, wpAny_letOwnedTupleGo_enum (s := { s with heap := g, toks := tk + 1 }) ho fun g2 he' sb => ?_⟩
    have hT2 : g2.get? s.heap.objs.size = some { cls := .type "tuple", data := .seq #[.int i tk, y] } := (sb.2 _ (Nat.ne_of_gt le)).trans hT
    have new : ObjOk X.prog X.w (upd H s.heap.objs.size (.tup [.int (i : Nat), x])) g2 s.heap.objs.size (.tup [.int (i : Nat), x]) :=
      ⟨by show 2 ≤ sizeLine; decide, [.int i tk, y], .cons ⟨_, rfl⟩ (.cons ru .nil), ⟨_, hT2, rfl, _, rfl⟩⟩
    have I1 : Inv X pins σ (upd H s.heap.objs.size (.tup [.int (i : Nat), x])) { s with heap := g2, toks := tk + 1 } :=
      I.turnedNew (ch := [e, it]) (fun b ob hb q => (sb.2 b fun z => hb (by rw [z]; exact List.mem_cons_self)).trans (hk b ob (fun z => hb (by rw [z]; exact List.mem_cons_self)) (fun z => hb (by rw [z]; exact List.mem_cons_of_mem _ List.mem_cons_self)) q)) hf (Nat.le_refl _) new
    refine ⟨.ref s.heap.objs.size, _, I1, rfl, ⟨_, x, rfl, I.hok.fresh (Nat.le_refl _), rfl, fun ys hy => by rw [I.tuple_inj hy hq]; exact hx⟩, ⟨⟨y, ?_⟩, st2.1.at fun o q => (sb.2 it (Ne.symm hne)).trans q, hne⟩, fun b hb => ?_⟩
    · have e1 : ((i + 1 : Nat) : Int) = (i : Int) + 1 := rfl
      rw [e1]
      exact he'
    · have lb : b < s.heap.objs.size := by
        rcases List.mem_cons.mp hb with rfl | hb
        · exact le
        · rw [List.mem_singleton.mp hb]; exact li
      rw [upd_ne (Nat.ne_of_lt lb)]
      exact (hf b hb).1
  done := by
    intro X hP hw hK hc i pins s σ H E I hf st hg
    subst hP hw hK
    obtain ⟨⟨old, at_⟩, hit, hne⟩ := st
    obtain ⟨xs, hq, hx⟩ := hg
    obtain ⟨its, rv, tp, hz⟩ := I.tuple hq
    obtain ⟨f0, f1, f2, f3, f4, f5⟩ := hf it (List.mem_cons_of_mem _ List.mem_cons_self)
    have nt : a ≠ it := fun z => by
      obtain ⟨o1, q1, c1, _⟩ := hit
      obtain ⟨o2, q2, c2, _⟩ := tp
      rw [z, q1] at q2
      cases q2
      rw [c1] at c2
      exact absurd c2 (by decide)
    unfold pyNext
    have hT : s.TypeIs (.ref e) "enumerate" := ⟨_, at_, rfl⟩
    refine wpAny_bind (wpAny_attempt (wpAny_callSpecial?_slot (name := Str.ofString "__next__") hT F.slot_enumerate_next (wpAny_call_entry F.slot_enumerate_next hT F.entry_enumerate_next ?_ (F.args_enumerate_next_1 _))))
    show wpAny _ _ (field (.ref e) 2 >>= _) _ _ _
    refine wpAny_bind (wpAny_field at_ rfl (x := .ref it) rfl ?_)
    have none : its.toArray[i]? = Option.none := by
      rw [List.getElem?_toArray]
      exact List.getElem?_eq_none (by rw [← rv.length]; exact hx)
    refine wpAny_bind (wpAny_nextOf_tuple_end (I.ok.hd hc) hit tp none fun g x hg2 hx2 => ?_)
    obtain ⟨o, ho, hcl⟩ := hx2
    refine wpAny_bind (wpAny_isInstance (T := "StopIteration") (b := true) ⟨o, ho, hcl⟩ isSubtype_stop ?_)
    exact wpAny_pure ⟨rfl, I.turned (t' := s.toks) (fun b o hb q => hg2 b o hb q) f0 f1 f3 f4 f5⟩
  self := fun A i s Q E st h => let ⟨⟨_, at_⟩, _⟩ := st; wpAny_pyIter_enum at_ h
def iEnT (K : PySem.W.Frag) (ta : TA) : TI := fun σ H R => ta σ H fun vs H1 => ∃ a xs, vs = [.ref a] ∧ SqT K H1 a xs ∧ R (Iet K a) H1
theorem pi_enT {X : Cx} {e : Expr} {ta : TA} {p pos tpos : Pos} {elts : List Expr} {kk : Nat} (hg : Gl X "enumerate") (hm : X.mg "enumerate" = none) (ha : PA X [e] ta) (hs : starEach [e] X.env = [(false, eval e X.env)]) :
    PI X (.Tuple elts kk tpos) (.Call (.Name "enumerate" p) [e] [] pos) (iEnT X.K ta) := by
  refine ⟨fun pins s σ H R I h => Call_ (ld_blt I hg hm boot_enumerate (PyProof.Rows.callWith_type1 (thn (ha.run pos pins s σ H _ I h) fun us s1 ⟨vs, H1, I1, r1, q1⟩ => ?_) hs rfl))⟩
  obtain ⟨a, xs, rfl, hq, q⟩ := q1
  rw [Vals.ref1 r1]
  obtain ⟨its, rv, tp, hz⟩ := I1.tuple hq
  refine call_it tp fun g he hit hk => wpAny_pyIter_enum he ?_
  refine ⟨s1.heap.objs.size + 1, [s1.heap.objs.size + 1, s1.heap.objs.size], _, _, H1, rfl, I1.kept (t' := s1.toks) hk, turn a (s1.heap.objs.size + 1) s1.heap.objs.size, ⟨⟨.none, he⟩, hit, Nat.succ_ne_self _⟩, fun b hb => ?_, q⟩
  have le : s1.heap.objs.size ≤ b := by
    rcases List.mem_cons.mp hb with rfl | hb
    · exact Nat.le_succ _
    · rw [List.mem_singleton.mp hb]; exact Nat.le_refl _
  exact I1.fpOk le (I1.hok.fresh le)
end EnT

namespace Y
open PySem PySem.Spec PyProof.Rows L2
section
variable {X : Cx} {W : WX} {H0 : Hp} {Oc : List Addr} {Γ : List Sl} {a b tg elt : Expr} {d : D} {ds : List D} {i j : Int} {pos p p2 pos2 : Pos} {s : Sl} {rest : List Stmt} {out : Out}
theorem it_enT {K : PySem.W.Frag} {l : Addr} (hs : s.held = some (.tup ds)) : ItOk K H0 Oc (EnT.Iet K l) [s] [some (.ref l)] (enumD ds) := by
  refine ⟨rfl, held_stab hs, fun i Δp G τp S H hp hi ⟨O, w⟩ => ?_, fun i Δp G τp S H hp hi ⟨O, w⟩ => ?_⟩
  · obtain ⟨l', vs, e, g1, g2⟩ := held_b w.ex (w.drop hp).head hs
    cases e
    rw [enumD_len] at hi
    obtain ⟨d', v', e1, e2, rv⟩ := g2.lt_get hi
    refine ⟨⟨vs, v', .of g1, e2⟩, fun x H' y => ?_⟩
    obtain ⟨T, z, ex, hT, eH, y⟩ := y
    subst eH
    subst ex
    have e3 := y vs (.of g1)
    rw [e2] at e3
    cases e3
    exact ⟨_, enumD_get e1, O, w.newTup hT (Reps.cons (show Rep K _ (.int (i : Int)) (.int (i : Int)) from rfl) (Reps.one rv))⟩
  · obtain ⟨l', vs, e, g1, g2⟩ := held_b w.ex (w.drop hp).head hs
    cases e
    rw [enumD_len] at hi
    exact ⟨vs, .of g1, by rw [g2.len]; exact hi⟩
/-- enumerate(tuple) -/
theorem i_enT {α : Type} (enc : α → D) (xs : List α) {elts : List Expr} {kk : Nat} {tpos : Pos} (hm : X.mg "enumerate" = none) (ha : Ev X H0 Oc Γ a s) (hs : s.held = some (.tup (xs.map enc)) := by rfl) (hg : Gl X "enumerate" := by rfl) (hst : starEach [a] X.env = [(false, eval a X.env)] := by rfl) (hst' : starEach [a] X.env = (false, eval a X.env) :: starEach [] X.env := by rfl) :
    Ei X H0 Oc Γ (.Tuple elts kk tpos) (.Call (.Name "enumerate" p) [a] [] pos) ((enumF 0 xs).map fun p => .tup [.int (p.1 : Int), enc p.2]) :=
  Ei.as ⟨_, EnT.pi_enT hg hm (pa_cons pe_wp pa_nil hst') hst, fun Δ τ σ H R hl w k => ha Δ τ σ H _ hl w fun v H1 w1 => by
    obtain ⟨O, w1'⟩ := id w1
    obtain ⟨l, vs, rfl, h1, h2⟩ := held_b w1'.ex w1'.head hs
    exact ⟨l, vs, rfl, .of h1, k _ [s] [some (.ref l)] H1 (fun _ _ => it_enT hs) (held_arg hs) w1⟩⟩ (enumD_map enc xs)
/-- range(a, b) as numbers -/
theorem i_rng2 {i j : Nat} (hm : X.mg "range" = none) (ha : Ev X H0 Oc Γ a (.va (.int (i : Int)))) (hb : Ev X H0 Oc Γ b (.va (.int (j : Int)))) (h1 : i ≤ 1000000000) (h2 : j ≤ 1000000000) (hg : Gl X "range" := by rfl)
    (hs : starEach [a, b] X.env = (false, eval a X.env) :: starEach [b] X.env := by rfl) (hs2 : starEach [b] X.env = (false, eval b X.env) :: starEach [] X.env := by rfl) (hs' : starEach [a, b] X.env = [(false, eval a X.env), (false, eval b X.env)] := by rfl) :
    Ei X H0 Oc Γ tg (.Call (.Name "range" p) [a, b] [] pos) ((List.range (j - i)).map fun k : Nat => D.int ((i + k : Nat) : Int)) :=
  (ei_rng2 ha hb ⟨by omega, by omega, by omega, by omega⟩ hm hg (hs1 := hs) (hs2 := hs2)).as (by
    unfold rngD
    rw [show (((j : Int) - (i : Int)).toNat) = j - i by omega]
    exact List.map_congr_left fun k _ => by rw [Int.natCast_add])
/-- list(range(n)) -/
theorem e_listRg {n : Nat} (hm : X.mg "list" = none) (hm2 : X.mg "range" = none) (hc : X.calm = true) (ha : Ev X H0 Oc Γ a (.va (.int (n : Int)))) (hn : n ≤ 1000000) (hg : Gl X "list" := by rfl) (hg2 : Gl X "range" := by rfl)
    (he : starEach [.Call (.Name "range" p2) [a] [] pos2] X.env = (false, eval (.Call (.Name "range" p2) [a] [] pos2) X.env) :: starEach [] X.env := by rfl) (he2 : starEach [a] X.env = (false, eval a X.env) :: starEach [] X.env := by rfl) :
    Ev X H0 Oc Γ (.Call (.Name "list" p) [.Call (.Name "range" p2) [a] [] pos2] [] pos) (.ow (.lst ((List.range n).map fun k : Nat => .int k))) := fun Δ τ σ H Q hl w kk => by
  refine wpE.of (pe_listRg hc hg hm (prg_1 hg2 hm2 pe_wp he2) he) ?_
  refine ha Δ τ σ H _ hl w fun v H1 ⟨O, w1⟩ => ?_
  obtain ⟨u, g1, r⟩ := w1.head
  cases g1
  obtain rfl : v = .int (n : Int) := r
  refine ⟨n, rfl, .of_le (by omega) (by omega) (by omega) (by omega), fun pp hp => kk _ _ ⟨_, w1.pop.newLst hp (ds := (List.range n).map fun k : Nat => .int k) ?_⟩⟩
  have e : rgV 0 (n : Int) = (((List.range n).map fun k : Nat => (k : Int)).map V.int) := by
    unfold rgV
    rw [show ((n : Int) - 0).toNat = n by omega, List.map_map]
    exact List.map_congr_left fun k _ => by show V.int (0 + (k : Int)) = V.int (k : Int); rw [Int.zero_add]
  rw [e, show ((List.range n).map fun k : Nat => D.int (k : Int)) = ((List.range n).map fun k : Nat => (k : Int)).map .int by rw [List.map_map]; rfl]
  exact Reps.of_ints
/-- all([..]), any([..]) -/
theorem e_allL {α : Type} {xs : List α} (f : α → Bool) (hm : X.mg "all" = none) (hc : X.calm = true) (ha : Ev X H0 Oc Γ a (.ow (.lst (xs.map fun x => .bl (f x))))) (hg : Gl X "all" := by rfl) (he : starEach [a] X.env = (false, eval a X.env) :: starEach [] X.env := by rfl) (hpl : (backTo pos (starEach [] X.env)).any (·.1) = false := by rfl) :
    Ev X H0 Oc Γ (.Call (.Name "all" p) [a] [] pos) (.va (.bl (xs.all f))) := by
  have e : (xs.map fun x => D.bl (f x)) = (xs.map f).map .bl := by rw [List.map_map]; rfl
  have := e_all (pos := pos) (p := p) hm hc ((Ev.aso ha (congrArg D.lst e)).r) hg he hpl
  rw [List.all_map] at this
  exact this
theorem e_anyL {α : Type} {xs : List α} (f : α → Bool) (hm : X.mg "any" = none) (hc : X.calm = true) (ha : Ev X H0 Oc Γ a (.ow (.lst (xs.map fun x => .bl (f x))))) (hg : Gl X "any" := by rfl) (he : starEach [a] X.env = (false, eval a X.env) :: starEach [] X.env := by rfl) (hpl : (backTo pos (starEach [] X.env)).any (·.1) = false := by rfl) :
    Ev X H0 Oc Γ (.Call (.Name "any" p) [a] [] pos) (.va (.bl (xs.any f))) := by
  have e : (xs.map fun x => D.bl (f x)) = (xs.map f).map .bl := by rw [List.map_map]; rfl
  have := e_any (pos := pos) (p := p) hm hc ((Ev.aso ha (congrArg D.lst e)).r) hg he hpl
  rw [List.any_map] at this
  exact this
/-- x in list, x not in list -/
theorem pys_map {α : Type} {f : α → D} : ∀ xs : List α, pys (xs.map f) = xs.map fun x => py (f x)
  | [] => rfl
  | x :: xs => by show py (f x) :: pys (xs.map f) = _; rw [pys_map xs]; rfl
theorem any_eq {α : Type} [DecidableEq α] {f : α → D} (h : EqC f) (x : α) : ∀ xs : List α, ((xs.map fun z => py (f z)).any fun z => PyData.eqv z (py (f x))) = decide (x ∈ xs)
  | [] => rfl
  | z :: zs => by
    show (eqD (f z) (f x) || (zs.map fun z => py (f z)).any _) = _
    rw [h z x, any_eq h x zs]
    by_cases e : z = x
    · simp [e]
    · simp [e, Ne.symm e]
theorem c_in {α : Type} [DecidableEq α] {f : α → D} (hu : X.A.units + 65 < cLine) (h : EqC f) (n : Nat) (hk : ∀ x, okN n (f x)) (hn : n + 1 ≤ 64) (x : α) (xs : List α) : C2 X H0 Oc .In (.bw (f x)) (.bw (.lst (xs.map f))) (decide (x ∈ xs)) := ⟨_, op_inD hu, fun G S H v w Q ⟨O, W⟩ q => by
  obtain ⟨r1, r2, W'⟩ := bw2 W
  have k1 := Bool.and_eq_true_iff.mp ((hk x).ok (by omega))
  have k2 := Bool.and_eq_true_iff.mp ((okN_lst (okN_map (xs := xs) hk)).ok hn)
  have e : py (.lst (xs.map f)) = .list (xs.map fun z => py (f z)) := by show PyData.list (pys (xs.map f)) = _; rw [pys_map]
  have d2 := r2.dp cut_ex k2.1
  rw [e] at d2
  have s2 := k2.2
  rw [e] at s2
  refine ⟨_, _, r1.dp cut_ex k1.1, d2, k1.2, s2, ?_⟩
  rw [any_eq h]
  exact q H ⟨O, W'⟩⟩
theorem c_nin {α : Type} [DecidableEq α] {f : α → D} (hu : X.A.units + 65 < cLine) (h : EqC f) (n : Nat) (hk : ∀ x, okN n (f x)) (hn : n + 1 ≤ 64) (x : α) (xs : List α) : C2 X H0 Oc .NotIn (.bw (f x)) (.bw (.lst (xs.map f))) (!decide (x ∈ xs)) := ⟨_, op_notInD hu, fun G S H v w Q ⟨O, W⟩ q => by
  obtain ⟨r1, r2, W'⟩ := bw2 W
  have k1 := Bool.and_eq_true_iff.mp ((hk x).ok (by omega))
  have k2 := Bool.and_eq_true_iff.mp ((okN_lst (okN_map (xs := xs) hk)).ok hn)
  have e : py (.lst (xs.map f)) = .list (xs.map fun z => py (f z)) := by show PyData.list (pys (xs.map f)) = _; rw [pys_map]
  have d2 := r2.dp cut_ex k2.1
  rw [e] at d2
  have s2 := k2.2
  rw [e] at s2
  refine ⟨_, _, r1.dp cut_ex k1.1, d2, k1.2, s2, ?_⟩
  rw [any_eq h]
  exact q H ⟨O, W'⟩⟩
theorem hu65 {A : Around} {k : Nat} (hr : Room k A) : A.units + 65 < cLine := by
  have := hr.un
  omega
theorem tw_two {x z : Str} {p3 : Pos} {kk : Nat} {d1 d2 : D} {vs : List Nat} (n1 n2 : Nat) (hc : X.calm = true) (hN : X.N.Nodup) (h1 : X.N[n1]? = some x := by rfl) (h2 : X.N[n2]? = some z := by rfl) (hx : Loc X.env.scope x := by first | exact .inl rfl | exact .inr rfl) (hz : Loc X.env.scope z := by first | exact .inl rfl | exact .inr rfl) (hf : X.fn x = true ∨ X.env.scope.names.lookup x = some .local := by first | exact .inr rfl | exact .inl rfl) (hg : X.fn z = true ∨ X.env.scope.names.lookup z = some .local := by first | exact .inr rfl | exact .inl rfl) (hv1 : n1 ∈ vs := by simp) (hv2 : n2 ∈ vs := by simp) :
    Tgw X H0 Oc vs (.Tuple [.Name x p, .Name z p2] kk p3) Γ (.va (.tup [d1, d2])) ((Γ.set n1 (.va d1)).set n2 (.va d2)) := tgw_tup2 n1 n2 hc hN h1 h2 hx hz hf hg hv1 hv2
end
theorem okT (ns : List Int) : okN 1 (encT ns) := okN_tup (okN_map fun _ => okN_int)
theorem eqT' : EqC encT := eqC_tup eqC_int
theorem okI (n : Int) : okN 0 (D.int n) := okN_int
theorem okLI (ns : List Int) : okN 1 (D.lst (ns.map .int)) := okN_lst (okN_map fun _ => okN_int)
theorem eqLI : EqC fun ns : List Int => D.lst (ns.map .int) := eqC_lst eqC_int
theorem okLT (ns : List (List Int)) : okN 2 (D.lst (ns.map encT)) := okN_lst (okN_map okT)
theorem eqLT : EqC fun ns : List (List Int) => D.lst (ns.map encT) := eqC_lst eqT'
end Y

namespace Y
open PySem PySem.Spec PyProof.Rows L2
/-! ## the built-in names that stand for themselves -/
structure Bi (mg : Str → Option Value) : Prop where
  len : mg "len" = none
  int : mg "int" = none
  tuple : mg "tuple" = none
  range : mg "range" = none
  list : mg "list" = none
  enum : mg "enumerate" = none
  isi : mg "isinstance" = none
  bool : mg "bool" = none
  all : mg "all" = none
  any : mg "any" = none
  min : mg "min" = none
  max : mg "max" = none
  sorted : mg "sorted" = none
  set : mg "set" = none
  vE : mg "ValueError" = none
theorem bt_list : bootBuiltins ("list" : Str) = some (.type "list") := by decide +kernel
theorem bt_tuple : bootBuiltins ("tuple" : Str) = some (.type "tuple") := by decide +kernel
theorem bt_int : bootBuiltins ("int" : Str) = some (.type "int") := by decide +kernel
theorem bt_bool : bootBuiltins ("bool" : Str) = some (.type "bool") := by decide +kernel
theorem bt_str : bootBuiltins ("str" : Str) = some (.type "str") := by decide +kernel
theorem bt_ve : bootBuiltins ("ValueError" : Str) = some (.type "ValueError") := by decide +kernel
theorem ki_ll : PySem.W.kitOne [] (.type "list") (.type "list") = some true := by decide +kernel
theorem ki_tt : PySem.W.kitOne [] (.type "tuple") (.type "tuple") = some true := by decide +kernel
theorem ki_ii : PySem.W.kitOne [] (.type "int") (.type "int") = some true := by decide +kernel
theorem ki_ib : PySem.W.kitOne [] (.type "int") (.type "bool") = some false := by decide +kernel
theorem ki_bb : PySem.W.kitOne [] (.type "bool") (.type "bool") = some true := by decide +kernel
theorem ki_ss : PySem.W.kitOne [] (.type "str") (.type "str") = some true := by decide +kernel
theorem kit_self {K : PySem.W.Frag} {C : Addr} : PySem.W.kitOne K (.ref C) (.ref C) = some true := by
  unfold PySem.W.kitOne
  rw [if_pos (by simp)]
/-- a slot with these data -/
def One (s0 : Sl) (d : D) : Prop := s0.dat = some d
theorem rng_lt {n k : Nat} {pre post : List Nat} (h : List.range n = pre ++ k :: post) : k < n := by
  have : k ∈ List.range n := by rw [h]; simp
  exact List.mem_range.mp this
theorem ixN_last {n : Nat} (h : 0 < n) : L2.ixN n (-1) = some (n - 1) := by
  unfold L2.ixN
  rw [if_neg (by decide), if_pos (by omega)]
  congr 1
  omega
theorem ixN_nat {n k : Nat} (h : k < n) : L2.ixN n (k : Int) = some k := by
  unfold L2.ixN
  rw [if_pos (by omega), if_pos (by omega)]
  simp
theorem sds_nilq {X : Cx} {W : WX} {H0 : Hp} {Oc : List Addr} {Γ Γ1 : List Sl} (e : Γ = Γ1) : Sds X W H0 Oc Γ [] (.nx Γ1) := e ▸ sds_nil
/-! ## defs called in an except suite -/
open L2H
structure FnGH (Pr : Program) (w : World) (K : PySem.W.Frag) (mg : Str → Option Value) (base : Heap) (x : Str) (k : Nat) (ps : List Str) (P : Pm) : Prop where
  ex : ∃ f fd, FnH Pr w K mg base (L2N.CX Pr w) k f fd ps (mkSp K P) ∧ mg x = some (.ref f) ∧ PySem.W.keepIn K (.ref f) = true ∧ L2.Binds K fd ps []
section
variable {Pr : Program} {w : World} {K : PySem.W.Frag} {mg : Str → Option Value} {base : Heap}
theorem fn_sdsH {x qual : Str} {st : Stmt} {f : Addr} {fd : FuncData} {N ps : List Str} {k : Nat} {P : Pm} (F : Fun K x qual st f fd) (S : FnScope N ps (defScope st)) (hlen : ∀ Γ o, P Γ o → Γ.length = ps.length)
    (hb : ∀ (cdv : Value) (A : Around) (outer : List Env) (s : Shared) (H : Hp) (E : XK) (p : Addr × Obj), Hot1 A p → RoomH k (A.deeper (envOfC qual (defScope st) s.heap.objs.size f cdv)) → ∀ (H0 : Hp) (Oc : List Addr) (Γ : List Sl) (o : Out), P Γ o →
      ∃ o', Sds (cxH (L2N.CX Pr w) Pr w K mg base N qual (defScope st) f cdv A outer s H E p) (wx E) H0 Oc (Γ ++ List.replicate (N.length - ps.length) .no) (defBody st) o' ∧ Fin o' o) :
    FnH Pr w K mg base (L2N.CX Pr w) (k + 1) f fd ps (mkSp K P) := by
  obtain ⟨oc, od, kV, doc, pm, an, cdv, ct, osl, rfl, lk, hcd⟩ := F.ex
  have len : ∀ vs H Q E, mkSp K P vs H Q E → vs.length = ps.length := fun vs H Q E ⟨Oc, Γ, o, hp, ⟨O, w⟩, _⟩ => by
    rw [← hlen Γ o hp, ← w.len, List.length_map]
  refine fn_ofH lk hcd S len fun A outer s H vs Q E p hot hr hsp => ?_
  have hl := len vs H Q E hsp
  obtain ⟨Oc, Γ, o, hp, ⟨O, w0⟩, sat⟩ := hsp
  obtain ⟨o', hS, fin⟩ := hb cdv A outer s H E p hot hr H Oc Γ o hp
  refine ⟨wpSs _ _, pss_wp, hS [] [] (L2.start N vs) H _ rfl rfl ⟨O, ?_⟩ ?_⟩
  · unfold L2.start
    rw [← hl]
    exact w0.pad _
  · match o', fin with
    | .nx Γ', fin =>
      subst fin
      exact fun σ H' ⟨O', w'⟩ => sat .non H' (Wf.only ⟨O', w'.flat rfl (show Rep K H' .non .non from rfl)⟩)
    | .ret s', fin =>
      subst fin
      exact sat
    | .exc C ns ds Γe, fin =>
      obtain ⟨Γe', rfl⟩ := fin
      intro d σ H' xw
      refine sat d H' ?_
      cases Γe with
      | none => exact xw
      | some Γ2 => exact Wf.only (show Wf K H Oc (.va (.xd ns ds) :: ([] ++ Γ2)) (some (.ref d) :: ([] ++ σ)) H' from xw)
end
theorem hot_suite {X : Cx} {a C dd : Addr} {oe : Obj} {pn : List (Addr × Obj)} (hz : L2N.Zn (.ref C) (some dd) oe) (hf : ∃ vs, oe.data = .fields vs) : HotC (X.suite a ((a, oe) :: pn)) := by
  obtain ⟨vs, hv⟩ := hf
  exact ⟨(a, oe), ⟨rfl, vs, hv, hz.2.2 vs hv⟩, List.mem_cons_self⟩
theorem ev_callH {X : Cx} {H0 : Hp} {Oc : List Addr} {Γ : List Sl} {e : Expr} {es : List Expr} {ss : List Sl} {s : Sl} {x : Str} {k : Nat} {ps : List Str} {P : Pm} {p pos : Pos} {ad C dd : Addr} {oe : Obj} {pn : List (Addr × Obj)} (hz : L2N.Zn (.ref C) (some dd) oe) (hf : ∃ vs, oe.data = .fields vs)
    (F : FnGH X.prog X.w X.K X.mg X.base x k ps P) (hr : RoomH k X.A) (ha : Ea (X.suite ad ((ad, oe) :: pn)) H0 Oc Γ (e :: es) ss) (hp : P (ss.map Sl.arg) (.ret s)) (hs : s.res = true := by rfl) (hg : Gl X x := by rfl) (hdb : (x == ("__debug__" : Str)) = false := by decide)
    (he : starEach (e :: es) X.env = (false, eval e X.env) :: starEach es X.env := by rfl) (hpl : (backTo pos (starEach es X.env)).any (·.1) = false := by rfl) : Ev (X.suite ad ((ad, oe) :: pn)) H0 Oc Γ (.Call (.Name x p) (e :: es) [] pos) s := fun Δ τ σ H Q hl W q => by
  obtain ⟨f, fd, F, hm, hk, hb⟩ := F.ex
  refine wpE.of (L2H.pe_callH (X := X.suite ad ((ad, oe) :: pn)) (E := fun _ => E0) F ⟨hr.dp, hr.un⟩ (hot_suite hz hf) hg hm hk hb (fun σ pins H s e s' I c => (passLN (X := X.suite ad ((ad, oe) :: pn))) pins σ H s e s' I c) pa_wp hdb he hpl) ?_
  refine ha Δ τ σ H _ hl W fun vs O H1 W1 ok => ?_
  exact ⟨O, _, _, hp, W1.callee ok, fun v H' W2 => q v H' (W1.after W2 hs)⟩
end Y

namespace Y
open PySem PySem.Spec PyProof.Rows L2
section
variable {X : Cx} {W : WX} {H0 : Hp} {Oc : List Addr} {Γ : List Sl} {x y z : Str} {p p2 p3 p4 p5 pos : Pos} {d1 d2 d3 : D} {k1 k2 : Nat} {i : Int}
/-- a constant of the module -/
theorem e_gint (hm : ∃ t, X.mg x = some (.int i t)) (hg : Gl X x := by rfl) (hd : (x == ("__debug__" : Str)) = false := by decide) : Ev X H0 Oc Γ (.Name x pos) (.va (.int i)) := by
  obtain ⟨t, hm⟩ := hm
  exact ev_flat (pe_glob (v := .int i) hg hm ⟨t, rfl⟩ hd) (fun _ _ _ q => q) rfl fun _ => rfl
/-- i, (a, b) = .. -/
theorem t_nest (n1 n2 n3 : Nat) (hc : X.calm = true) (hN : X.N.Nodup) (h1 : X.N[n1]? = some x := by rfl) (h2 : X.N[n2]? = some y := by rfl) (h3 : X.N[n3]? = some z := by rfl) (hx : Loc X.env.scope x := by first | exact .inl rfl | exact .inr rfl) (hy : Loc X.env.scope y := by first | exact .inl rfl | exact .inr rfl) (hz : Loc X.env.scope z := by first | exact .inl rfl | exact .inr rfl)
    (fx : X.fn x = true ∨ X.env.scope.names.lookup x = some .local := by first | exact .inr rfl | exact .inl rfl) (fy : X.fn y = true ∨ X.env.scope.names.lookup y = some .local := by first | exact .inr rfl | exact .inl rfl) (fz : X.fn z = true ∨ X.env.scope.names.lookup z = some .local := by first | exact .inr rfl | exact .inl rfl) :
    Tg X H0 Oc (.Tuple [.Name x p, .Tuple [.Name y p2, .Name z p3] k1 p4] k2 p5) Γ (.va (.tup [d1, .tup [d2, d3]])) (((Γ.set n1 (.va d1)).set n2 (.va d2)).set n3 (.va d3)) := fun Δ τ σ H v Q hl st ⟨O, w⟩ k => by
  refine wpG.of (pg_tup (n := 2) hc (pgs_cons (pg_name hN h1 hx fx) (pgs_cons (pg_tup (n := 2) hc (pgs_cons (pg_name hN h2 hy fy) (pgs_cons (pg_name hN h3 hz fz) pgs_nil))) pgs_nil))) ?_
  obtain ⟨u, e, a, vs, rfl, ha, hr⟩ := w.head
  cases e
  obtain ⟨v1, us, rfl, r1, v2, us2, rfl, r2, e3⟩ := hr
  cases e3
  obtain ⟨b, ws, rfl, hb, q1, us3, rfl, s1, q2, us4, rfl, s2, e4⟩ := r2
  cases e4
  refine ⟨a, _, rfl, .of (cut_ex _ _ ha), rfl, v1, [.ref b], rfl, .ref b, [], rfl, ⟨b, _, rfl, .of (cut_ex _ _ hb), rfl, q1, [q2], rfl, q2, [], rfl, rfl, rfl, k _ H ⟨O, ?_⟩⟩⟩
  have w1 := (w.pop.push (s := .va d1) (y := some v1) ⟨v1, rfl, r1⟩ fun _ z => nomatch z).set (n := n1) hl
  have w2 := (w1.push (s := .va d2) (y := some q1) ⟨q1, rfl, s1⟩ fun _ z => nomatch z).set (n := n2) hl
  exact (w2.push (s := .va d3) (y := some q2) ⟨q2, rfl, s2⟩ fun _ z => nomatch z).set (n := n3) hl
end
end Y

namespace TrV
open PySem PySem.Spec PyProof.Rows L2 HT
/-! ## t[::-1] of a tuple -/
section
variable {prog : Program} {w : World} {A : Around} {E : Value → Shared → Prop} {s : Shared}
theorem back_at (n : Nat) : Builtin.Slice.sliceAdjust none none (-1) (n : Int) = ((n : Int) - 1, -1) := rfl
theorem back_n (n : Nat) : Builtin.Slice.slicePlaces ((n : Int) - 1) (-1) (-1) = n := by
  unfold Builtin.Slice.slicePlaces
  rw [if_neg (by decide), show (-(-1) : Int) = 1 from rfl, Int.ediv_one]
  split <;> omega
theorem fm_congr {α β : Type} {f g : α → Option β} : ∀ {l : List α}, (∀ x ∈ l, f x = g x) → l.filterMap f = l.filterMap g
  | [], _ => rfl
  | x :: l, h => by
    rw [List.filterMap_cons, List.filterMap_cons, h x (by simp), fm_congr fun y hy => h y (by simp [hy])]
theorem pick_back (xs : Array Value) : (List.range xs.size).filterMap (fun (k : Nat) => xs[((xs.size : Int) - 1 + (k : Int) * (-1)).toNat]?) = xs.toList.reverse := by
  have h := congrArg List.reverse (PySem.W.krv_all xs)
  rw [← h, ← List.filterMap_reverse, ← PySem.W.krv_range, List.filterMap_map]
  refine fm_congr fun k hk => ?_
  have := List.mem_range.mp hk
  show xs[((xs.size : Int) - 1 + (k : Int) * (-1)).toNat]? = xs[xs.size - 1 - k]?
  rw [show ((xs.size : Int) - 1 + (k : Int) * (-1)).toNat = xs.size - 1 - k by omega]
theorem cut_back {sl : Addr} {v : Value} {n : Nat} {Q : Int × Int × Nat → Shared → Prop} (hs : s.heap.IsSliceOf sl .none .none v) (pv : IsPart v (some (-1)))
    (h : Q ((n : Int) - 1, -1, n) s) : wpAny (model prog w) A (Builtin.Slice.sliceApplied (.ref sl) (pure (n : Int))) Q E s := by
  obtain ⟨os, hos, hcs, hds⟩ := id hs
  unfold Builtin.Slice.sliceApplied Builtin.Slice.sliceFields
  refine wpAny_bind (wpAny_bind (wpAny_field hos hds (x := .none) rfl (wpAny_bind (wpAny_field hos hds (x := .none) rfl (wpAny_bind (wpAny_field hos hds (x := v) rfl (wpAny_pure ?_)))))))
  refine wpAny_bind (slicePart_ pv ?_)
  show wpAny _ _ (if ((-1 : Int) == 0) = true then _ else _) _ _ s
  rw [if_neg (by decide)]
  refine wpAny_bind (slicePart_none (wpAny_bind (slicePart_none (wpAny_bind (wpAny_pure ?_)))))
  show wpAny _ _ (match Builtin.Slice.sliceAdjust none none (-1) (n : Int) with | (lo, hi) => pure (lo, (-1 : Int), Builtin.Slice.slicePlaces lo hi (-1))) _ _ s
  rw [back_at]
  show wpAny _ _ (pure ((n : Int) - 1, (-1 : Int), Builtin.Slice.slicePlaces ((n : Int) - 1) (-1) (-1))) _ _ s
  rw [back_n]
  exact wpAny_pure h
theorem item_back {t sl : Addr} {items : Array Value} {v : Value} {Q : Value → Shared → Prop} (ht : IsTup s.heap t items) (hs : s.heap.IsSliceOf sl .none .none v) (pv : IsPart v (some (-1)))
    (h : Q (.ref s.heap.objs.size) { s with heap := s.heap.push { cls := .type "tuple", data := .seq items.toList.reverse.toArray } })
    (hsz : items.size ≤ sizeLine) : wpAny (model prog w) A (getItem (.ref t) (.ref sl)) Q E s := by
  have htake : sizeOk (.seq items.toList.reverse.toArray) := by
    show items.toList.reverse.toArray.size ≤ sizeLine
    rw [List.size_toArray, List.length_reverse, Array.length_toList]
    omega
  obtain ⟨os, hos, hcs, hds⟩ := id hs
  have hTs : s.TypeIs (.ref sl) "slice" := ⟨os, hos, hcs⟩
  unfold getItem
  try with_reducible refine wpAny_holding ?_
  first | refine wpAny_bind (wpAny_pure ?_) | skip
  refine wpAny_bind (wpAny_sequenceKey ht.typeIs (by decide) ?_)
  refine wpAny_bind (wpAny_callSpecial?_slot (name := Str.ofString "__getitem__") ht.typeIs PyProof.Rows.slot_tuple_getitem
    (wpAny_call_entry PyProof.Rows.slot_tuple_getitem ht.typeIs entry_tuple_getitem ?_ (args_tuple_getitem _ _)))
  show wpAny _ _ (Builtin.Tuple.tupleItemsOf (.ref t) >>= _) _ _ s
  refine wpAny_bind (tupleItemsOf_ ht ?_)
  refine wpAny_bind (wpAny_typeOf hTs ?_)
  rw [if_pos (by decide)]
  refine wpAny_bind (cut_back hs pv ?_)
  have hno : ¬ ((((items.size : Int) - 1) == 0 && (-1 : Int) == 1 && items.size == items.size) = true) := by
    intro q
    rw [Bool.and_eq_true, Bool.and_eq_true] at q
    exact absurd q.1.2 (by decide)
  show wpAny _ _ (if (((items.size : Int) - 1) == 0 && (-1 : Int) == 1 && items.size == items.size) = true then _ else _) _ _ s
  rw [if_neg hno, pick_back]
  first
    | exact wpAny_bind (m := Builtin.Tuple.tupleExact _) (wpAny_newObj_type (wpAny_pure ⟨_, rfl, wpAny_pure h⟩) htake)
    | exact wpAny_bind (m := Builtin.Tuple.tupleExact _) (wpAny_newObj_type (wpAny_bind (wpAny_pure (wpAny_pure ⟨_, rfl, wpAny_pure h⟩))) htake)
    | exact wpAny_bind (wpAny_bind (m := Builtin.Tuple.tupleExact _) (wpAny_newObj_type (wpAny_pure (wpAny_pure ⟨_, rfl, wpAny_pure h⟩)) htake))
    | exact wpAny_bind (wpAny_bind (m := Builtin.Tuple.tupleExact _) (wpAny_newObj_type (wpAny_pure ⟨_, rfl, wpAny_pure h⟩) htake))
end
section
variable {X : Cx}
def tBack (K : PySem.W.Frag) (te : TE) : TE := fun σ H Q => te σ H fun x H1 => ∃ a xs, x = .ref a ∧ SqT K H1 a xs ∧ ∀ p, H1 p = none → Q (.ref p) (upd H1 p (.tup xs.reverse))
theorem pe_back {e : Expr} {te : TE} {k : Nat} {p1 p2 p3 pos : Pos} (he : PE X e te) : PE X (.Subscript e (.Slice none none (some (.UnaryOp .USub (.Constant (.int 1) k p1) p2)) p3) pos) (tBack X.K te) := by
  refine ⟨fun pins s σ H Q I h => ?_⟩
  refine Subscript_ (thn (he.run pins s σ H _ I h) fun v s1 ⟨x, H1, I1, r1, q1⟩ => ?_)
  obtain ⟨a, xs, ex, hx, q⟩ := q1
  subst ex
  cases r1
  have hst : PO X (some (.UnaryOp .USub (.Constant (.int 1) k p1) p2)) (tPart (tUn (rU fun i => .int (-i)) (tC (.int 1)))) := po_some (pe_un un_neg pe_int)
  refine wpAny_Slice (thn (po_none.run pins s1 σ H1 (fun o H2 => o = none ∧ H2 = H1) I1 ⟨rfl, rfl⟩) fun vl s2 ⟨l, H2, I2, pl, el, e2⟩ => ?_)
  subst el e2
  refine thn (po_none.run pins s2 σ H2 (fun o H3 => o = none ∧ H3 = H2) I2 ⟨rfl, rfl⟩) fun vu s3 ⟨u, H3, I3, pu, eu, e3⟩ => ?_
  subst eu e3
  refine thn (hst.run pins s3 σ H3 (fun o H4 => o = some (-1) ∧ H4 = H3) I3 ⟨1, rfl, -1, rfl, rfl, rfl⟩) fun vs s4 ⟨o, H4, I4, ps, eo, e4⟩ => ?_
  subst eo e4
  cases pl
  cases pu
  have I5 : Inv X pins σ H4 { s4 with heap := s4.heap.push { cls := .type "slice", data := .fields #[.none, .none, vs] } } := I4.kept (t' := s4.toks) fun b ob q => Heap.get?_push_of_some _ q
  obtain ⟨its, r, ht, hz⟩ := I5.tuple hx
  have hlen := r.length
  show wpAny (model X.prog X.w) X.A (subscriptTail e (.Slice none none (some (.UnaryOp .USub (.Constant (.int 1) k p1) p2)) p3) (.ref a) (.ref s4.heap.objs.size)) (EP X pins σ Q) X.xe { s4 with heap := s4.heap.push { cls := .type "slice", data := .fields #[.none, .none, vs] } }
  refine tail_any (ops := [.ref a, .ref s4.heap.objs.size]) ht.typeIs PyProof.Rows.slot_tuple_getitem.lookup ?_ (by with_unfolding_all rfl)
  refine item_back ht (Heap.IsSliceOf.new _ .none .none vs) ps ?_ (by rw [List.size_toArray]; omega)
  refine ⟨.ref _, _, I5.laid (t' := s4.toks) (o := .tup xs.reverse) (fun b ob q => Heap.get?_push_of_some _ q) (Nat.le_refl _) ?_, rfl, q _ (I5.hok.fresh (Nat.le_refl _))⟩
  exact ⟨by rw [List.length_reverse]; exact hz, _, r.reverse, IsTup.new _ _⟩
end
end TrV
namespace Y
open PySem L2
theorem ev_revT {X : Cx} {H0 : Hp} {Oc : List Addr} {Γ : List Sl} {a : Expr} {pos p1 p3 p4 : Pos} {k : Nat} {ds : List D} (ha : Ev X H0 Oc Γ a (.va (.tup ds))) : Ev X H0 Oc Γ (.Subscript a (.Slice none none (some (.UnaryOp .USub (.Constant (.int 1) k p1) p3)) p4) pos) (.va (.tup ds.reverse)) := fun Δ τ σ H Q hl W q =>
  wpE.of (TrV.pe_back pe_wp) (ha Δ τ σ H _ hl W fun v H' ⟨O, W'⟩ => by
    obtain ⟨u, g1, p, vs, e1, g3, r⟩ := W'.head
    cases g1
    exact ⟨p, vs, e1, .of (cut_ex _ _ g3), fun x hx => q _ _ ⟨_, W'.pop.newTup hx r.rev⟩⟩)
end Y

namespace Y
open PySem L2
/-! ## a display of int literals -/
def intsOf : List Expr → Option (List Int)
  | [] => some []
  | .Constant (.int i) _ _ :: es => (intsOf es).map (i :: ·)
  | _ => none
section
variable {X : Cx} {W : WX} {H0 : Hp} {Oc : List Addr} {Γ Γ' : List Sl} {es : List Expr} {ns : List Int} {pos : Pos} {b : List Stmt} {o : Out}
theorem ea_ints : ∀ {es : List Expr} {ns : List Int}, intsOf es = some ns → Ea X H0 Oc Γ es (ns.map fun i => .va (.int i))
  | [], ns, h => by
    cases h
    exact ea_nil
  | e :: es, ns, h => by
    unfold intsOf at h
    split at h
    · rename_i heq
      cases heq
    · rename_i heq
      cases heq
      cases q : intsOf es with
      | none => rw [q] at h; cases h
      | some ms =>
        rw [q] at h
        cases h
        exact ea_cons ev_int (ea_ints q)
    · cases h
theorem dats_ints : ∀ (ns : List Int), dats (ns.map fun i => .va (.int i)) = some (ns.map .int)
  | [] => rfl
  | i :: ns => by
    show (dats (ns.map fun i => .va (.int i))).map _ = _
    rw [dats_ints ns]
    rfl
theorem ev_ints (h : intsOf es = some ns) (hn : ns.length ≤ 1000000) : Ev X H0 Oc Γ (.List es pos) (.ow (.lst (ns.map .int))) := ev_lst (ea_ints h) (dats_ints ns) (by rw [List.length_map]; exact hn)
/-- slots that are not needed behind -/
theorem sds_in (hs : Sub Γ Γ') (h : Sds X W H0 Oc Γ' b o) : Sds X W H0 Oc Γ b o := fun Δ τ σ H D hl st w k => h Δ τ σ H D hl st (w.sub hs.app) k
end
end Y

namespace Y
open PySem L2
/-! ## while; dicts whose keys are tuples of ints -/
section
variable {X : Cx} {W : WX} {H0 : Hp} {Oc : List Addr} {Γ : List Sl} {c e ie a b : Expr} {rest body : List Stmt} {pos pos' p tp : Pos} {out : Out} {d : D} {ds : List D} {x : Str} {i j : Int}
theorem d_while {α : Type} (Iv : α → Prop) (μ : α → Nat) (GG : α → List Sl) (a0 : α) (hp : PassesOwn (model X.prog X.w) X.A X.env X.xe) (h0 : Sub Γ (GG a0)) (i0 : Iv a0)
    (hb : ∀ st, Iv st → ∃ q, Et X H0 Oc (GG st) c q ∧ (q = true → (∃ Γ2 st2, Sds X W H0 Oc (GG st) body (.nx Γ2) ∧ Sub Γ2 (GG st2) ∧ Iv st2 ∧ μ st2 < μ st) ∨ (out.exit = true ∧ (∀ G, out ≠ .brk G) ∧ (∀ G, out ≠ .cnt G) ∧ Sds X W H0 Oc (GG st) body out)) ∧ (q = false → Sds X W H0 Oc (GG st) rest out)) :
    Sds X W H0 Oc Γ (.While c body [] pos :: rest) out := fun Δ τ σ H D hl st w k => by
  refine wpSs.of (pss_cons (ps_while hp pt_wp pss_wp) pss_wp) ?_
  refine ⟨fun m σ H => ∃ st, m = μ st ∧ Iv st ∧ Wf X.K H0 Oc (Δ ++ GG st) (τ ++ σ) H, ⟨_, a0, rfl, i0, w.sub h0.app⟩, ?_⟩
  rintro m σ1 H1 ⟨st1, rfl, i1, w1⟩
  obtain ⟨q, hc, ht, hf⟩ := hb st1 i1
  refine hc Δ τ σ1 H1 _ hl w1 fun H2 w2 => ?_
  cases q with
  | false => exact hf rfl Δ τ σ1 H2 D hl st w2 k
  | true =>
    show ∃ N : L2.St → Hp → Prop, _ ∧ _
    rcases ht rfl with ⟨Γ2, st2, s1, s2, i2, lt⟩ | ⟨hx, nb, nc, s1⟩
    · refine ⟨fun σ' H' => Wf X.K H0 Oc (Δ ++ GG st2) (τ ++ σ') H', fun σ' H' w' => ⟨_, lt, st2, rfl, i2, w'⟩, s1 Δ τ σ1 H2 _ hl st w2 fun σ' H' w' => w'.sub s2.app⟩
    · refine ⟨fun _ _ => False, fun _ _ z => z.elim, s1 Δ τ σ1 H2 _ hl st w2 ?_⟩
      cases out with
      | nx G => exact absurd hx Bool.false_ne_true
      | brk G => exact absurd rfl (nb G)
      | cnt G => exact absurd rfl (nc G)
      | ret s => exact k
      | exc C ns ds Γe => exact k
/-- x += e, ints -/
theorem d_aug (n : Nat) (hN : X.N.Nodup) (he : Ev X H0 Oc Γ e (.va (.int j))) (hr : Sds X W H0 Oc (Γ.set n (.va (.int (i + j)))) rest out) (h : Γ[n]? = some (.va (.int i)) := by rfl) (hi : X.N[n]? = some x := by rfl) (hx : Loc X.env.scope x := by first | exact .inl rfl | exact .inr rfl) (hf : X.fn x = true ∨ X.env.scope.names.lookup x = some .local := by first | exact .inr rfl | exact .inl rfl) :
    Sds X W H0 Oc Γ (.AugAssign (.Name x pos') .Add e pos :: rest) out := fun Δ τ σ H D hl st w k => by
  refine wpSs.of (pss_cons (ps_aug hN hi hx pe_wp ip_add hf) pss_wp) ?_
  obtain ⟨O0, w0⟩ := id w
  obtain ⟨y, hy, v, rfl, rv⟩ := slot_of hl w0 h
  refine ⟨v, hy, he Δ τ σ H _ hl w fun u H1 ⟨O, w1⟩ => ?_⟩
  obtain ⟨u', e1, r1⟩ := w1.head
  cases e1
  obtain rfl : u = .int j := r1
  obtain rfl : v = .int i := rv
  exact ⟨i, j, rfl, rfl, hr Δ τ _ H1 D hl st ⟨O, (w1.pop.push (s := .va (.int (i + j))) (y := some (.int (i + j))) ⟨_, rfl, rfl⟩ fun _ z => nomatch z).set hl⟩ k⟩
/-! ### dicts -/
/-- a key: a tuple of ints -/
def kT (k : List Int) : List Key := k.map .inl
theorem kT_inj : ∀ {a b : List Int}, kT a = kT b → a = b
  | [], [], _ => rfl
  | [], _ :: _, h => by cases h
  | _ :: _, [], h => by cases h
  | x :: a, y :: b, h => by
    obtain ⟨h1, h2⟩ := List.cons.inj h
    cases h1
    rw [kT_inj h2]
theorem kT_vs {k : List Int} : (kT k).map kV = k.map V.int := by unfold kT; rw [List.map_map]; rfl
/-- the dict with the keys ks and the values ds -/
def dctT (ks : List (List Int)) (ds : List D) : D := .dT (ks.map kT) ds
theorem rep_key {K : PySem.W.Frag} {H : Hp} {k : List Int} {v : V} (h : Rep K H (encT k) v) : ∃ b, v = .ref b ∧ H b = some (.tup ((kT k).map kV)) := by
  obtain ⟨b, vs, e, h1, h2⟩ := h
  rw [Reps.ints h2] at h1
  exact ⟨b, e, by rw [kT_vs]; exact h1⟩
theorem keys_mem {kvs : List (List Key × V)} {ks : List (List Int)} (h : kvs.map (·.1) = ks.map kT) (k : List Int) : (valV kvs (kT k)).isSome = decide (k ∈ ks) := by
  rw [← valV_any]
  induction kvs generalizing ks with
  | nil =>
    cases ks with
    | nil => simp
    | cons a ks => cases h
  | cons p kvs ih =>
    cases ks with
    | nil => cases h
    | cons a ks =>
      obtain ⟨h1, h2⟩ := List.cons.inj h
      have h1 : p.1 = kT a := h1
      rw [List.any_cons, ih h2, h1]
      by_cases z : k = a
      · subst z
        simp
      · have z' : ¬ kT a = kT k := fun q => z (kT_inj q).symm
        simp [z, z']
/-- the value at a key -/
def atD : List (List Int) → List D → List Int → Option D
  | k :: ks, d :: ds, j => if k = j then some d else atD ks ds j
  | _, _, _ => none
theorem at_rep {K : PySem.W.Frag} {H : Hp} {k : List Int} {d : D} : ∀ {kvs : List (List Key × V)} {ks : List (List Int)} {ds : List D}, kvs.map (·.1) = ks.map kT → Reps K H ds (kvs.map (·.2)) → atD ks ds k = some d → ∃ v, valV kvs (kT k) = some v ∧ Rep K H d v
  | [], [], _, _, _, h => by simp [atD] at h
  | [], _ :: _, _, h, _, _ => by cases h
  | _ :: _, [], _, h, _, _ => by cases h
  | p :: kvs, a :: ks, [], _, r, _ => by
    have := r.len
    simp at this
  | p :: kvs, a :: ks, d0 :: ds, h, ⟨v, us, e1, r1, r2⟩, hd => by
    obtain ⟨h1, h2⟩ := List.cons.inj h
    obtain ⟨e2, e3⟩ := List.cons.inj e1
    have e2 : p.2 = v := e2
    unfold atD at hd
    split at hd
    · rename_i q
      cases hd
      exact ⟨p.2, valV_pos (h1.trans (by rw [q])), by rw [e2]; exact r1⟩
    · rename_i q
      rw [valV_neg fun z => q (kT_inj (h1.symm.trans z))]
      exact at_rep h2 (e3 ▸ r2) hd
theorem dct_rd {K : PySem.W.Frag} {Ht H : Hp} {ks : List (List Int)} {v : V} (h : RepB K Ht H (dctT ks ds) v) : ∃ q kvs, v = .ref q ∧ Rd Ht q (.dT kvs) ∧ kvs.map (·.1) = ks.map kT ∧ Reps K H ds (kvs.map (·.2)) := by
  obtain ⟨q, kvs, e, h1, h2, h3⟩ := h
  exact ⟨q, kvs, e, .of h1, h2, h3⟩
theorem ev_dT0 : Ev X H0 Oc Γ (.Dict [] [] pos) (.ow (dctT [] [])) := fun Δ τ σ H Q hl ⟨O, W⟩ q =>
  wpE.of pe_dnewT fun p hp => q _ _ ⟨_, W.pushOw (o := .dT []) (Ex.new hp) hp upd_same ⟨rfl, rfl⟩⟩
def rInT : R2 := fun y v H Q => ∃ q o, v = .ref q ∧ DGet H q y o ∧ Q (.bl o.isSome) H
def rNinT : R2 := fun y v H Q => ∃ q o, v = .ref q ∧ DGet H q y o ∧ Q (.bl (!o.isSome)) H
theorem op_inT (hu : X.A.units + 1 < cLine) : OpR X (compareOp .In) rInT := by
  intro pins s σ H x y v u Q I rx ry ⟨q, o, e, g, h⟩
  subst e
  cases ry
  exact d_in hu I g rx fun s3 I3 => ⟨.bl o.isSome, H, I3, rfl, h⟩
theorem op_ninT (hu : X.A.units + 1 < cLine) : OpR X (compareOp .NotIn) rNinT := by
  intro pins s σ H x y v u Q I rx ry ⟨q, o, e, g, h⟩
  subst e
  cases ry
  exact d_notIn hu I g rx fun s3 I3 => ⟨.bl (!o.isSome), H, I3, rfl, h⟩
theorem dget_of {K : PySem.W.Frag} {H : Hp} {O : List Addr} {k : List Int} {ks : List (List Int)} {v w : V} (hk : Rep K (cut H O) (encT k) v) (hd : RepB K H (cut H O) (dctT ks ds) w) : ∃ q kvs, w = .ref q ∧ DGet H q v (valV kvs (kT k)) ∧ kvs.map (·.1) = ks.map kT ∧ Reps K (cut H O) ds (kvs.map (·.2)) := by
  obtain ⟨b, rfl, hb⟩ := rep_key hk
  obtain ⟨q, kvs, rfl, h1, h2, h3⟩ := dct_rd hd
  exact ⟨q, kvs, rfl, .inr ⟨kvs, kT k, b, h1, rfl, cut_ex _ _ hb, rfl⟩, h2, h3⟩
theorem vb2 {K : PySem.W.Frag} {O : List Addr} {d1 d2 : D} {G : List Sl} {S : List (Option V)} {H : Hp} {v w : V} (W : WfO K H0 Oc O (.bw d2 :: .va d1 :: G) (some w :: some v :: S) H) : Rep K (cut H O) d1 v ∧ RepB K H (cut H O) d2 w := by
  obtain ⟨w', e, r⟩ := W.head
  cases e
  obtain ⟨v', e2, r2⟩ := W.pop.head
  cases e2
  exact ⟨r2, r⟩
theorem c_inT (hu : X.A.units + 1 < cLine) (k : List Int) (ks : List (List Int)) (ds : List D) : C2 X H0 Oc .In (.va (encT k)) (.bw (dctT ks ds)) (decide (k ∈ ks)) := ⟨_, op_inT hu, fun G S H v w Q ⟨O, W⟩ q => by
  obtain ⟨r1, r2⟩ := vb2 W
  obtain ⟨a, kvs, e, g, h1, h2⟩ := dget_of r1 r2
  refine ⟨a, _, e, g, ?_⟩
  rw [keys_mem h1]
  exact q H ⟨O, W.pop.pop⟩⟩
theorem c_ninT (hu : X.A.units + 1 < cLine) (k : List Int) (ks : List (List Int)) (ds : List D) : C2 X H0 Oc .NotIn (.va (encT k)) (.bw (dctT ks ds)) (!decide (k ∈ ks)) := ⟨_, op_ninT hu, fun G S H v w Q ⟨O, W⟩ q => by
  obtain ⟨r1, r2⟩ := vb2 W
  obtain ⟨a, kvs, e, g, h1, h2⟩ := dget_of r1 r2
  refine ⟨a, _, e, g, ?_⟩
  rw [keys_mem h1]
  exact q H ⟨O, W.pop.pop⟩⟩
/-- d[k], there -/
theorem ev_dget {k : List Int} {ks : List (List Int)} (hu : X.A.units + 1 < cLine) (ha : Ev X H0 Oc Γ a (.bw (dctT ks ds))) (hb : Ev X H0 Oc Γ b (.va (encT k))) (hd : atD ks ds k = some d) (hs : NoSl b := by exact fun _ _ => rfl) : Ev X H0 Oc Γ (.Subscript a b pos) (.va d) := fun Δ τ σ H Q hl W q => by
  refine wpE.of (pe_dget hu pe_wp pe_wp hs) (ha Δ τ σ H _ hl W fun v H1 W1 => ?_)
  refine hb (.bw (dctT ks ds) :: Δ) (some v :: τ) σ H1 _ (by simp [hl]) W1 fun u H2 ⟨O, W2⟩ => ?_
  obtain ⟨u', e1, r1⟩ := W2.head
  cases e1
  obtain ⟨v', e2, r2⟩ := W2.pop.head
  cases e2
  obtain ⟨q0, kvs, e, g, h1, h2⟩ := dget_of r1 r2
  obtain ⟨z, hz, rz⟩ := at_rep h1 h2 hd
  rw [hz] at g
  exact ⟨q0, z, e, g, q z H2 ⟨O, W2.pop.pop.push ⟨z, rfl, rz⟩ fun _ y => nomatch y⟩⟩
/-- d[k] = e, a new key -/
theorem d_dput {k : List Int} {ks : List (List Int)} (n : Nat) (hu : X.A.units + 1 < cLine) (he : Ev X H0 Oc Γ e (.va d)) (hi : Ev X H0 Oc Γ ie (.va (encT k))) (hk : k ∉ ks) (hn : ds.length ≤ 1000000) (hr : Sds X W H0 Oc (Γ.set n (.ow (dctT (ks ++ [k]) (ds ++ [d])))) rest out)
    (h : Γ[n]? = some (.ow (dctT ks ds)) := by rfl) (hst : stab Γ = true := by rfl)
    (hN : X.N[n]? = some x := by rfl) (hv : Vis X.env.scope x := by first | exact .inl rfl | exact .inr (.inl rfl) | exact .inr (.inr rfl)) (hd : (x == ("__debug__" : Str)) = false := by rfl) (hcd : (x == ("__classdict__" : Str)) = false := by rfl)
    (hs : swapsWith e (some (.Subscript (.Name x p) ie tp)) pos.line X.env = pure false := by rfl) : Sds X W H0 Oc Γ (.Assign [.Subscript (.Name x p) ie tp] e pos :: rest) out := fun Δ τ σ H D hl st w k0 => by
  refine wpSs.of (pss_cons (ps_dput hu (pe_var hN hv hd hcd) pe_wp pe_wp hs) pss_wp) ?_
  refine he Δ τ σ H _ hl w fun v H1 ⟨O1, w1⟩ => ?_
  obtain ⟨y, hy, pp, oo, rfl, g2, g3, g4, g5⟩ := slot_of hl w1.pop h
  refine ⟨.ref pp, hy, ?_⟩
  refine hi (.va d :: Δ) (some v :: τ) σ H1 _ (by simp [hl]) ⟨O1, w1⟩ fun iv H2 ⟨O2, w2⟩ => ?_
  obtain ⟨iv', e1, r1⟩ := w2.head
  cases e1
  obtain ⟨y', hy', q, u, e1, k2, k3, k4, k5⟩ := slot_of hl w2.pop.pop h
  rw [hy] at hy'
  cases hy'
  cases e1
  obtain ⟨v', e2, rv⟩ := w2.pop.head
  cases e2
  cases u <;> first | exact k5.elim | skip
  rename_i kvs
  have k5' : RepH X.K (cut H2 O2) (Y.D.dT (ks.map kT) ds) pp (HO.dT kvs) := k5
  unfold RepH at k5'
  obtain ⟨k5, k6⟩ := k5'
  obtain ⟨b0, rfl, hb0⟩ := rep_key r1
  have lk : kvs.length = ds.length := by have := k6.len; rwa [List.length_map] at this
  have new : valV kvs (kT k) = none := by
    have := keys_mem k5 k
    rw [decide_eq_false hk] at this
    cases z : valV kvs (kT k) with
    | none => rfl
    | some v => rw [z] at this; cases this
  have ep : putK kvs (kT k) v = kvs ++ [(kT k, v)] := by
    unfold putK
    rw [valV_any, new]
    rfl
  refine ⟨pp, _, rfl, .t k4 (cut_ex _ _ hb0) (by rw [lk, sizeLine_eq]; omega), ?_⟩
  rw [ep]
  exact hr Δ τ σ _ D hl st ⟨O2, w2.pop.pop.mutN hl st hst h hy (o' := .dT (kvs ++ [(kT k, v)])) (d' := dctT (ks ++ [k]) (ds ++ [d])) ⟨by rw [List.map_append, List.map_append, k5]; rfl, by rw [List.map_append]; exact Reps.app k6 (Reps.one rv)⟩⟩ k0
/-- list(d): the keys -/
theorem keys_rep {K : PySem.W.Frag} {H : Hp} {O : List Addr} : ∀ {kvs : List (List Key × V)} {ks : List (List Int)} {bs : List Addr}, kvs.map (·.1) = ks.map kT → IsKeys H kvs bs → Reps K (cut H O) (ks.map encT) (bs.map V.ref)
  | [], [], _, _, h => by cases h; exact rfl
  | [], _ :: _, _, h, _ => by cases h
  | _ :: _, [], _, h, _ => by cases h
  | p :: kvs, a :: ks, _, h, hb => by
    cases hb with
    | cons b1 b2 =>
      obtain ⟨h1, h2⟩ := List.cons.inj h
      have h1 : p.1 = kT a := h1
      rw [h1, kT_vs] at b1
      exact ⟨_, _, rfl, ⟨_, _, rfl, cut_iff.mpr ⟨b1, .inr ⟨_, rfl⟩⟩, Reps.of_ints⟩, keys_rep h2 b2⟩
theorem e_listT {ks : List (List Int)} (hm : X.mg "list" = none) (hc : X.calm = true) (ha : Ev X H0 Oc Γ a (.bw (dctT ks ds))) (hg : Gl X "list" := by rfl) (he : starEach [a] X.env = (false, eval a X.env) :: starEach [] X.env := by rfl) (hpl : (backTo pos (starEach [] X.env)).any (·.1) = false := by rfl) :
    Ev X H0 Oc Γ (.Call (.Name "list" p) [a] [] pos) (.ow (.lst (ks.map encT))) := ev_t1 (call_list_dT hc) ha hm (by decide +kernel) hg (fun G S H v Q ⟨O, W⟩ q => by
      obtain ⟨u, g1, h⟩ := W.head
      cases g1
      obtain ⟨a0, kvs, rfl, h1, h2, _⟩ := dct_rd h
      exact ⟨a0, kvs, rfl, h1, fun pp bs hp hb => q _ _ ⟨_, W.pop.newLst hp (keys_rep h2 hb)⟩⟩) (by decide) (by decide) he hpl
end
end Y

namespace Y
open PySem L2
/-! ## own objects that no name holds: they stand among the slots ahead of the names -/
section
variable {K : PySem.W.Frag} {H0 H H' : Hp} {O Oc : List Addr} {G : List Sl} {S : List (Option V)} {d d' : D}
theorem WfO.ghosts : ∀ (gs : List (Addr × D)) {H' : Hp}, WfO K H0 Oc O G S H → Ex H H' → (gs.map (·.1)).Nodup → (∀ g ∈ gs, H g.1 = none ∧ ∃ o, H' g.1 = some o ∧ ∀ Hc, RepH K Hc g.2 g.1 o) → ∃ O', WfO K H0 Oc O' (gs.map (fun g => .ow g.2) ++ G) (gs.map (fun g => some (.ref g.1)) ++ S) H'
  | [], H', W, e, _, _ => ⟨O, W.grow e⟩
  | g :: gs, H', W, e, nd, fr => by
    obtain ⟨hn, o, ho, hr⟩ := fr g List.mem_cons_self
    rw [List.map_cons, List.nodup_cons] at nd
    have e1 : Ex H (less H' g.1) := fun a u q => by
      rw [less_ne (ne_of_none q hn)]
      exact e _ _ q
    obtain ⟨O', W'⟩ := WfO.ghosts gs W e1 nd.2 fun g' hg => by
      obtain ⟨h1, o', h2, h3⟩ := fr g' (List.mem_cons_of_mem _ hg)
      have ne : g'.1 ≠ g.1 := fun z => nd.1 (z ▸ List.mem_map_of_mem hg)
      exact ⟨h1, o', by rw [less_ne ne]; exact h2, h3⟩
    have e2 : Ex (less H' g.1) H' := fun a u q => by
      by_cases z : a = g.1
      · rw [z, less_same] at q; cases q
      · rw [less_ne z] at q; exact q
    exact ⟨_, W'.pushOw e2 less_same ho (hr _)⟩
theorem WfO.thaw : ∀ (gs : List (Addr × D)) {O : List Addr}, WfO K H0 Oc O (gs.map (fun g => .ow g.2) ++ G) (gs.map (fun g => some (.ref g.1)) ++ S) H → ∃ O', (∀ a ∈ O', a ∈ O) ∧ WfO K H0 Oc O' G S H ∧ ∀ g ∈ gs, Rep K (cut H O') g.2 (.ref g.1)
  | [], O, W => ⟨O, fun _ h => h, W, fun _ h => nomatch h⟩
  | g :: gs, O, W => by
    obtain ⟨O1, s1, W1⟩ := WfO.freezeS W
    obtain ⟨v, e, r⟩ := W1.head
    cases e
    obtain ⟨O2, s2, W2, r2⟩ := WfO.thaw gs W1.pop
    refine ⟨O2, fun a h => s1 a (s2 a h), W2, fun g' hg => ?_⟩
    rcases List.mem_cons.mp hg with rfl | hg
    · exact Rep.mono (cut_sub s2) r
    · exact r2 g' hg
/-- an own object told otherwise -/
theorem WfO.redata {i : Nat} {p : Addr} {o : HO} (W : WfO K H0 Oc O G S H) (h1 : G[i]? = some (.ow d)) (h2 : S[i]? = some (some (.ref p))) (ho : H p = some o) (h : RepH K (cut H O) d' p o) : WfO K H0 Oc O (G.set i (.ow d')) S H := by
  obtain ⟨hO, h0, _, _, _⟩ := W.owner h1 h2
  have hi : i < G.length := (List.getElem?_eq_some_iff.mp h1).1
  have key : ∀ {j : Nat} {d1 : D}, (G.set i (.ow d'))[j]? = some (.ow d1) → ∃ d2, G[j]? = some (.ow d2) := fun {j d1} h => by
    by_cases e : j = i
    · exact ⟨d, by rw [e]; exact h1⟩
    · rw [List.getElem?_set_ne (Ne.symm e)] at h
      exact ⟨d1, h⟩
  refine ⟨W.sub, W.new, W.old, W.live, W.ex, by simpa using W.len, fun j s x h3 h4 => ?_, fun j k q d1 d2 h3 h4 h5 h6 => ?_⟩
  · by_cases e : j = i
    · subst e
      rw [List.getElem?_set_self hi] at h3
      cases h3
      rw [h2] at h4
      cases h4
      exact ⟨p, o, rfl, hO, h0, ho, h⟩
    · rw [List.getElem?_set_ne (Ne.symm e)] at h3
      exact W.ok j s x h3 h4
  · obtain ⟨e1, g1⟩ := key h3
    obtain ⟨e2, g2⟩ := key h5
    exact W.nd j k q e1 e2 g1 h4 g2 h6
theorem Reps.opqs : ∀ {qs : List Addr} {vs : List V}, Reps K H (qs.map fun q => .opq (.ref q)) vs → vs = qs.map V.ref
  | [], _, h => h
  | _ :: _, _, ⟨_, _, h1, h2, h3⟩ => by rw [h1, h2, Reps.opqs h3] <;> rfl
theorem Reps.of_opqs : ∀ {qs : List Addr}, Reps K H (qs.map fun q => .opq (.ref q)) (qs.map V.ref)
  | [] => rfl
  | _ :: _ => ⟨_, _, rfl, rfl, Reps.of_opqs⟩
end
/-- a list of lists of one's own: the outer one's slot, the inner ones' slots -/
def grSl (qs : List Addr) (adj : List (List D)) : List Sl := .ow (.lst (qs.map fun q => .opq (.ref q))) :: adj.map fun l => .ow (.lst l)
def grSt (p : Addr) (qs : List Addr) : List (Option V) := some (.ref p) :: qs.map fun q => some (.ref q)
theorem grSl_stab (qs : List Addr) : ∀ (adj : List (List D)), stab (grSl qs adj) = true := fun adj => by
  unfold grSl stab
  rw [List.all_cons]
  refine Bool.and_eq_true_iff.mpr ⟨rfl, List.all_eq_true.mpr fun s hs => ?_⟩
  obtain ⟨l, _, rfl⟩ := List.mem_map.mp hs
  rfl
theorem grSl_set (qs : List Addr) (adj : List (List D)) (k : Nat) (l : List D) : (grSl qs adj).set (k + 1) (.ow (.lst l)) = grSl qs (adj.set k l) := by
  unfold grSl
  rw [List.set_cons_succ, List.map_set]
section
variable {X : Cx} {W : WX} {H0 : Hp} {Oc : List Addr} {Γ Γ1 : List Sl} {r i e tg iter a : Expr} {rest body : List Stmt} {pos pos' ipos apos cpos epos p1 p2 np lp : Pos} {d : D} {out : Out}
/-- r[i].append(e), r[i] one of such lists -/
theorem wp_gapp {p q : Addr} {qs : List Addr} {k j0 j1 : Nat} {l : List D} {Δ : List Sl} {τ : List (Option V)} {σ : L2.St} {H : Hp} {D' : Ends} (hr : Ev X H0 Oc Γ r (.va (.opq (.ref p)))) (hi : Ev X H0 Oc Γ i (.va (.int (k : Int)))) (he : Ev X H0 Oc Γ e (.va d)) (hst : stab Γ = true)
    (hl : τ.length = Δ.length) (st : stab Δ = true) (g0 : Δ[j0]? = some (.ow (.lst (qs.map fun q => .opq (.ref q))))) (t0 : τ[j0]? = some (some (.ref p))) (hk : qs[k]? = some q) (g1 : Δ[j1]? = some (.ow (.lst l))) (t1 : τ[j1]? = some (some (.ref q))) (hn : l.length ≤ 1000000)
    (w : Wf X.K H0 Oc (Δ ++ Γ) (τ ++ σ) H) (nx : ∀ H', Wf X.K H0 Oc (Δ.set j1 (.ow (.lst (l ++ [d]))) ++ Γ) (τ ++ σ) H' → D'.nx σ H')
    (hpi : PlainIx i)
    (hbase : attributeBase (.Subscript r i ipos) "append" X.env (eval (.Subscript r i ipos) X.env) = eval (.Subscript r i ipos) X.env)
    (hfew : ((backTo cpos (starEach [e] X.env)).all (fun x => !x.1) && (backToKw cpos (keywordEach [] X.env)).all (fun x => x.1.isSome)
      && decide (([e] : List Expr).length + ([] : List Keyword).length + (if ([] : List Keyword).isEmpty then 0 else 1) < 30)) = true)
    (hline : (apos.endLine == cpos.line) = true) (hs : starEach [e] X.env = (false, eval e X.env) :: starEach [] X.env) (hplain : (backTo cpos (starEach [] X.env)).any (·.1) = false)
    (hsw : swapsWith (.Call (.Attribute (.Subscript r i ipos) "append" apos) [e] [] cpos) none epos.line X.env = pure false) :
    wpS X (.Expr (.Call (.Attribute (.Subscript r i ipos) "append" apos) [e] [] cpos) epos) D' σ H := by
  refine wpS.of (ps_expr (pe_bm PySem.F.plainAttrs_list PySem.F.slot_list_append PySem.F.type_list_append mt_append (pe_ix ix_list pe_wp pe_wp hpi) (pa_cons pe_wp pa_nil hs) hbase hfew hline hs hplain) hsw) ?_
  have at0 : ∀ {x : Sl} {j : Nat}, Δ[j]? = some x → (Δ ++ Γ)[j]? = some x := fun {x j} h => by
    rw [List.getElem?_append_left (List.getElem?_eq_some_iff.mp h).1]
    exact h
  have as0 : ∀ {x : Option V} {j : Nat}, τ[j]? = some x → (τ ++ σ)[j]? = some x := fun {x j} h => by
    rw [List.getElem?_append_left (List.getElem?_eq_some_iff.mp h).1]
    exact h
  refine hr Δ τ σ H _ hl w fun v H1 w1 => ?_
  refine hi (.va (.opq (.ref p)) :: Δ) (some v :: τ) σ H1 _ (by simp [hl]) w1 fun u H2 ⟨O2, w2⟩ => ?_
  obtain ⟨u', e1, r1⟩ := w2.head
  cases e1
  obtain ⟨v', e2, r2⟩ := w2.pop.head
  cases e2
  obtain rfl : u = .int (k : Int) := r1
  obtain rfl : v = .ref p := r2
  obtain ⟨_, _, o0, h0, q0⟩ := w2.pop.pop.owner (at0 g0) (as0 t0)
  cases o0 <;> first | exact q0.elim | skip
  rename_i vs0
  have q0 : Reps X.K (cut H2 O2) (qs.map fun q => .opq (.ref q)) vs0 := q0
  have ev := Reps.opqs q0
  subst ev
  refine ⟨p, _, (k : Int), .ref q, rfl, rfl, .of h0, L2.atI_nat (by rw [List.getElem?_map, hk]; rfl), ?_⟩
  obtain ⟨_, _, o1, h1, q1⟩ := w2.pop.pop.owner (at0 g1) (as0 t1)
  refine ⟨?_, ?_⟩
  · cases o1 <;> first
      | exact q1.elim
      | exact .inl ⟨rfl, _, .of h1⟩
  · refine he Δ τ σ H2 _ hl ⟨O2, w2.pop.pop⟩ fun z H3 ⟨O3, w3⟩ => ?_
    obtain ⟨z', e3, r3⟩ := w3.head
    cases e3
    obtain ⟨_, _, o2, h2, q2⟩ := w3.pop.owner (at0 g1) (as0 t1)
    cases o2 <;> first | exact q2.elim | skip
    rename_i vs1
    have q2 : Reps X.K (cut H3 O3) l vs1 := q2
    refine ⟨q, vs1, z, rfl, rfl, h2, by rw [q2.len, sizeLine_eq]; omega, ?_⟩
    have W3 := w3.pop.mut (d' := .lst (l ++ [d])) (o' := .lst (vs1 ++ [z])) (by rw [stab_app, st, hst]; rfl) (at0 g1) (as0 t1) (Reps.app q2 (Reps.one r3))
    rw [List.set_append_left _ _ (List.getElem?_eq_some_iff.mp g1).1] at W3
    exact nx _ ⟨O3, W3⟩
/-- a loop whose turns change such lists -/
theorem wp_gfor {α β : Type} {p : Addr} {qs : List Addr} (xs : List α) (enc : α → D) (vw : β → List (List D)) (step : β → α → β) (adj0 : β) (hp : PassesOwn (model X.prog X.w) X.A X.env X.xe) (hc : X.calm = true) (hi : Ei X H0 Oc Γ tg iter (xs.map enc)) (hq : qs.length = (vw adj0).length)
    (hb : ∀ i x, xs[i]? = some x → ∃ Γ1, Tg X H0 Oc tg Γ (.va (enc x)) Γ1 ∧ Sub Γ1 Γ ∧ ∀ (Δp Δ : List Sl) (τp τ : List (Option V)) (σ : L2.St) (H : Hp) (D : Ends), τp.length = Δp.length → τ.length = Δ.length → stab (Δp ++ (grSl qs (vw ((xs.take i).foldl step adj0)) ++ Δ)) = true →
      Wf X.K H0 Oc ((Δp ++ (grSl qs (vw ((xs.take i).foldl step adj0)) ++ Δ)) ++ Γ1) ((τp ++ (grSt p qs ++ τ)) ++ σ) H → (∀ σ' H', Wf X.K H0 Oc ((Δp ++ (grSl qs (vw ((xs.take (i + 1)).foldl step adj0)) ++ Δ)) ++ Γ1) ((τp ++ (grSt p qs ++ τ)) ++ σ') H' → D.nx σ' H') → wpSs X body D σ H)
    (hlen : ∀ i, (vw ((xs.take i).foldl step adj0)).length = (vw adj0).length)
    (hs : ∀ x, foldedSetIterable iter X.env x = pure x) {Δ : List Sl} {τ : List (Option V)} {σ : L2.St} {H : Hp} {D : Ends} (hl : τ.length = Δ.length) (st : stab Δ = true) (w : Wf X.K H0 Oc ((grSl qs (vw adj0) ++ Δ) ++ Γ) ((grSt p qs ++ τ) ++ σ) H)
    (nx : ∀ σ' H', Wf X.K H0 Oc ((grSl qs (vw (xs.foldl step adj0)) ++ Δ) ++ Γ) ((grSt p qs ++ τ) ++ σ') H' → wpSs X rest D σ' H') : wpSs X (.For tg iter body [] pos :: rest) D σ H := by
  obtain ⟨wi, hpi, hwi⟩ := hi
  have gl : ∀ adj : List (List Y.D), adj.length = (vw adj0).length → (grSt p qs ++ τ).length = (grSl qs adj ++ Δ).length := fun adj h => by
    unfold grSl grSt
    simp [hl, hq, h]
  refine wpSs.of (pss_cons (ps_for hp hc hpi pg_wp pss_wp hs) pss_wp) ?_
  refine hwi (grSl qs (vw adj0) ++ Δ) (grSt p qs ++ τ) σ H _ (gl _ rfl) w fun J Δh τh H1 ok harg w1 => ?_
  have ok := ok H0 Oc
  have st2 : ∀ adj : List (List Y.D), stab (Δh ++ (grSl qs adj ++ Δ)) = true := fun adj => by rw [stab_app, ok.st, stab_app, grSl_stab, st]; rfl
  refine ⟨fun i m σ H => m = xs.length - i ∧ i ≤ xs.length ∧ Wf X.K H0 Oc (Δh ++ ((grSl qs (vw ((xs.take i).foldl step adj0)) ++ Δ) ++ Γ)) (τh ++ ((grSt p qs ++ τ) ++ σ)) H, ⟨xs.length, by simp, Nat.zero_le _, w1⟩, ?_⟩
  rintro i m σ1 H2 ⟨rfl, hi, w2⟩
  by_cases hlt : i < xs.length
  · obtain ⟨g1, g2⟩ := ok.go i [] _ [] _ H2 rfl (by rw [List.length_map]; exact hlt) w2
    have hx : xs[i]? = some xs[i] := List.getElem?_eq_getElem hlt
    obtain ⟨Γ1, t1, s1, b1⟩ := hb i _ hx
    refine .inr ⟨g1, fun σ' H' => Wf X.K H0 Oc (Δh ++ ((grSl qs (vw ((xs.take (i + 1)).foldl step adj0)) ++ Δ) ++ Γ)) (τh ++ ((grSt p qs ++ τ) ++ σ')) H', fun σ' H' q => ⟨xs.length - (i + 1), by omega, rfl, hlt, q⟩, fun x H' y => ?_⟩
    obtain ⟨d, hd, w3⟩ := g2 x H' y
    rw [List.getElem?_map, hx] at hd
    cases hd
    rw [List.nil_append, List.nil_append, ← List.append_assoc Δh, ← List.append_assoc τh] at w3
    have l2 : (τh ++ (grSt p qs ++ τ)).length = (Δh ++ (grSl qs (vw ((xs.take i).foldl step adj0)) ++ Δ)).length := by
      have q := gl _ (hlen i)
      rw [List.length_append (as := τh), List.length_append (as := Δh), ok.len, q]
    refine t1 (Δh ++ (grSl qs (vw ((xs.take i).foldl step adj0)) ++ Δ)) (τh ++ (grSt p qs ++ τ)) σ1 H' x _ l2 (st2 _) w3 fun σ2 H3 w4 => ?_
    refine b1 Δh Δ τh τ σ2 H3 _ ok.len hl (st2 _) w4 fun σ' H' w' => ?_
    have w'' := w'.sub s1.app
    rw [List.append_assoc Δh, List.append_assoc τh] at w''
    exact w''
  · have e : i = xs.length := by omega
    subst e
    refine .inl ⟨ok.stop _ [] _ [] _ H2 rfl (by rw [List.length_map]; exact Nat.le_refl _) w2, nx σ1 H2 ?_⟩
    rw [List.take_length] at w2
    obtain ⟨O, w2⟩ := w2
    exact ⟨O, w2.drop ok.len⟩
end
end Y

namespace Y
open PySem L2
/-! ## [[] for u in range(a)] -/
section
variable {X : Cx} {W : WX} {H0 : Hp} {Oc : List Addr} {Γ Γ1 : List Sl} {tg a : Expr} {pos p1 p2 lp : Pos} {scope : Scope} {u : Str}
theorem fst_all (d : Y.D) : ∀ qs : List Addr, (qs.map fun q => (q, d)).map (·.1) = qs
  | [] => rfl
  | q :: qs => congrArg (q :: ·) (fst_all d qs)
theorem rep_all : ∀ qs : List Addr, (List.replicate qs.length ([] : List Y.D)).map (fun l => Sl.ow (.lst l)) = (qs.map fun q => (q, Y.D.lst [])).map fun g : Addr × Y.D => Sl.ow g.2
  | [] => rfl
  | q :: qs => congrArg (Sl.ow (.lst []) :: ·) (rep_all qs)
theorem wp_empties {n ix : Nat} (hc : X.calm = true) (hN : X.N.Nodup) (ok : BlkOk X.N X.env.scope scope [(u, ix)]) (hm : X.mg "range" = none) (hgr : Gl X "range") (ha : Ev X H0 Oc Γ a (.va (.int (n : Int)))) (hn : n ≤ 1000000)
    (hg : ∀ s0 H00 C cl fp, PG (blkX X scope s0 H00 C cl fp) tg (gName ix)) (hs1 : starEach [a] X.env = [(false, eval a X.env)]) (hs2 : starEach [a] X.env = (false, eval a X.env) :: starEach [] X.env)
    (hs : ∀ x, foldedSetIterable (.Call (.Name "range" p1) [a] [] p2) X.env x = pure x) {Δ : List Sl} {τ : List (Option V)} {σ : L2.St} {H : Hp} {Q : VK} (hl : τ.length = Δ.length) (w : Wf X.K H0 Oc (Δ ++ Γ) (τ ++ σ) H)
    (k : ∀ p qs H', qs.length = n → Wf X.K H0 Oc (grSl qs (List.replicate n []) ++ (Δ ++ Γ)) (grSt p qs ++ (τ ++ σ)) H' → Q (.ref p) H') : wpE X (.ListComp (.List [] lp) [⟨tg, .Call (.Name "range" p1) [a] [] p2, [], 0⟩] scope pos) σ H Q := by
  refine wpE.of (pe_lc (g := gName ix) hc hN (pi_range1 hgr hm (pa_cons pe_wp pa_nil hs2) hs1) ok (fun s0 H00 C cl fp => hg s0 H00 C cl fp) (fun _ _ _ _ _ => pts_nil) (fun _ _ _ _ _ => pe_lst pa_nil) hs) ?_
  refine ha Δ τ σ H _ hl w fun v H1 ⟨O, w1⟩ => ?_
  obtain ⟨v', e1, r1⟩ := w1.head
  cases e1
  obtain rfl : v = .int (n : Int) := r1
  refine ⟨(n : Int), rfl, by omega, by omega, fun D hD => ?_⟩
  refine ⟨fun i m H2 => m = n - i ∧ i ≤ n ∧ ∃ qs : List Addr, qs.length = i ∧ (D :: qs).Nodup ∧ (∀ q ∈ qs, H1 q = none ∧ H2 q = some (.lst [])) ∧ H2 D = some (.lst (qs.map V.ref)) ∧ Ex H1 H2, ⟨n, by simp, Nat.zero_le _, [], rfl, by simp, (fun q hq => nomatch hq), upd_same, Ex.new hD⟩, ?_⟩
  rintro i m H2 ⟨rfl, hi, qs, hq, nd, hqs, hDq, ex⟩
  by_cases hlt : i < n
  · refine .inr ⟨hlt, fun H' => i + 1 ≤ n ∧ ∃ qs : List Addr, qs.length = i + 1 ∧ (D :: qs).Nodup ∧ (∀ q ∈ qs, H1 q = none ∧ H' q = some (.lst [])) ∧ H' D = some (.lst (qs.map V.ref)) ∧ Ex H1 H', fun H' z => ⟨n - (i + 1), by omega, rfl, z⟩, fun x H' y => ?_⟩
    obtain ⟨eH, _⟩ := y
    subst eH
    refine ⟨(wipe_set List.mem_cons_self).trans wipe_wipe, ?_⟩
    simp only [tYes, if_true]
    refine ⟨by show 0 ≤ _; exact Nat.zero_le _, fun q hqn => ?_⟩
    have neD : D ≠ q := ne_of_none hDq hqn
    refine ⟨qs.map V.ref, (upd_ne neD).trans hDq, by rw [List.length_map, hq, sizeLine_eq]; omega, hlt, qs ++ [q], by rw [List.length_append, hq]; rfl, ?_, ?_, ?_, ?_⟩
    · rw [← List.cons_append, List.nodup_append]
      refine ⟨nd, by simp, fun b hb c hc => ?_⟩
      rw [List.mem_singleton.mp hc]
      rcases List.mem_cons.mp hb with rfl | hb
      · exact neD
      · exact ne_of_none (hqs b hb).2 hqn
    · intro b hb
      have nb : b ≠ D := by
        rcases List.mem_append.mp hb with hb | hb
        · exact fun z => (List.nodup_cons.mp nd).1 (z ▸ hb)
        · rw [List.mem_singleton.mp hb]; exact neD.symm
      rw [upd_ne nb]
      rcases List.mem_append.mp hb with hb | hb
      · exact ⟨(hqs b hb).1, (upd_ne (ne_of_none (hqs b hb).2 hqn)).trans (hqs b hb).2⟩
      · rw [List.mem_singleton.mp hb]
        refine ⟨?_, upd_same⟩
        cases z : H1 q with
        | none => rfl
        | some o => rw [ex _ _ z] at hqn; cases hqn
    · rw [upd_same, List.map_append] <;> rfl
    · intro b o hb
      have e1 := ex _ _ hb
      have nb : b ≠ D := fun z => by rw [z, hD] at hb; cases hb
      rw [upd_ne nb, upd_ne (ne_of_none e1 hqn)]
      exact e1
  · have e : i = n := by omega
    subst e
    refine .inl ⟨by show (i : Int).toNat ≤ i; omega, ?_⟩
    obtain ⟨O', W'⟩ := w1.pop.ghosts ((D, .lst (qs.map fun q => .opq (.ref q))) :: qs.map fun q => (q, .lst [])) ex (by rw [List.map_cons, fst_all]; exact nd) (fun g hg => by
      rcases List.mem_cons.mp hg with rfl | hg
      · exact ⟨hD, _, hDq, fun Hc => Reps.of_opqs⟩
      · obtain ⟨q, hq', rfl⟩ := List.mem_map.mp hg
        exact ⟨(hqs q hq').1, _, (hqs q hq').2, fun Hc => Reps.nil (K := X.K) (H := Hc)⟩)
    refine k D qs H2 hq ⟨O', ?_⟩
    have e1 : grSl qs (List.replicate i []) = (((D, Y.D.lst (qs.map fun q => .opq (.ref q))) :: qs.map fun q => (q, Y.D.lst [])).map fun g : Addr × Y.D => Sl.ow g.2) := by
      unfold grSl
      rw [List.map_cons, ← hq, rep_all]
    have e2 : grSt D qs = (((D, Y.D.lst (qs.map fun q => .opq (.ref q))) :: qs.map fun q => (q, Y.D.lst [])).map fun g : Addr × Y.D => some (V.ref g.1)) := by
      unfold grSt
      rw [List.map_cons, List.map_map]
      rfl
    rw [e1, e2]
    exact W'
end
end Y

namespace Y
open PySem L2
theorem Reps.split {K : PySem.W.Frag} {H : Hp} : ∀ {ds es : List D} {vs : List V}, Reps K H (ds ++ es) vs → ∃ us ws, vs = us ++ ws ∧ Reps K H ds us ∧ Reps K H es ws
  | [], es, vs, h => ⟨[], vs, rfl, rfl, h⟩
  | d :: ds, es, _, ⟨v, us, h1, h2, h3⟩ => by
    obtain ⟨us', ws, e, r1, r2⟩ := Reps.split h3
    exact ⟨v :: us', ws, by rw [h1, e] <;> rfl, ⟨v, us', rfl, h2, r1⟩, r2⟩
/-- one tie more -/
def stepG (adj : List (List Int)) (x : Nat × Nat) : List (List Int) :=
  (adj.set x.1 (adj.getD x.1 [] ++ [(x.2 : Int)])).set x.2 ((adj.set x.1 (adj.getD x.1 [] ++ [(x.2 : Int)])).getD x.2 [] ++ [(x.1 : Int)])
theorem stepG_len (adj : List (List Int)) (x : Nat × Nat) : (stepG adj x).length = adj.length := by unfold stepG; rw [List.length_set, List.length_set]
theorem foldG_len : ∀ (xs : List (Nat × Nat)) (adj : List (List Int)), (xs.foldl stepG adj).length = adj.length
  | [], _ => rfl
  | x :: xs, adj => by rw [List.foldl_cons, foldG_len xs, stepG_len]
theorem stepG_max (adj : List (List Int)) (x : Nat × Nat) (B : Nat) (h : ∀ l ∈ adj, l.length ≤ B) : ∀ l ∈ stepG adj x, l.length ≤ B + 2 := by
  have g : ∀ (a : List (List Int)) (k : Nat) (B : Nat), (∀ l ∈ a, l.length ≤ B) → (a.getD k []).length ≤ B := fun a k B h => by
    rw [List.getD_eq_getElem?_getD]
    cases e : a[k]? with
    | none => exact Nat.zero_le _
    | some l => exact h l (List.mem_of_getElem? e)
  have s : ∀ (a : List (List Int)) (k : Nat) (y : Int) (B : Nat), (∀ l ∈ a, l.length ≤ B) → ∀ l ∈ a.set k (a.getD k [] ++ [y]), l.length ≤ B + 1 := fun a k y B h l hl => by
    rcases List.mem_or_eq_of_mem_set hl with hl | rfl
    · exact Nat.le_succ_of_le (h l hl)
    · rw [List.length_append]
      exact Nat.succ_le_succ (g a k B h)
  exact s _ _ _ _ (s _ _ _ _ h)
theorem foldG_max : ∀ (xs : List (Nat × Nat)) (adj : List (List Int)) (B : Nat), (∀ l ∈ adj, l.length ≤ B) → ∀ l ∈ xs.foldl stepG adj, l.length ≤ B + 2 * xs.length
  | [], _, _, h => h
  | x :: xs, adj, B, h => by
    intro l hl
    have := foldG_max xs (stepG adj x) (B + 2) (stepG_max adj x B h) l hl
    rw [List.length_cons]
    omega
def vwG (adj : List (List Int)) : List (List D) := adj.map fun l => l.map .int
theorem vwG_at {adj : List (List Int)} {k : Nat} (h : k < adj.length) : (vwG adj)[k]? = some ((adj.getD k []).map .int) := by
  unfold vwG
  rw [List.getElem?_map, List.getElem?_eq_getElem h, List.getD_eq_getElem?_getD, List.getElem?_eq_getElem h]
  rfl
theorem vwG_set (adj : List (List Int)) (k : Nat) (y : Int) : (vwG adj).set k ((adj.getD k []).map .int ++ [.int y]) = vwG (adj.set k (adj.getD k [] ++ [y])) := by
  unfold vwG
  rw [List.map_set, List.map_append]
  rfl
theorem gr_maps : ∀ (qs : List Addr) (adj : List (List D)), qs.length = adj.length → adj.map (fun l => Sl.ow (.lst l)) = ((qs.zip adj).map fun z => (z.1, Y.D.lst z.2)).map (fun g : Addr × Y.D => Sl.ow g.2) ∧ qs.map (fun q => some (V.ref q)) = ((qs.zip adj).map fun z => (z.1, Y.D.lst z.2)).map (fun g : Addr × Y.D => some (V.ref g.1))
  | [], [], _ => ⟨rfl, rfl⟩
  | [], _ :: _, h => by cases h
  | _ :: _, [], h => by cases h
  | q :: qs, l :: adj, h => by
    obtain ⟨h1, h2⟩ := gr_maps qs adj (by simpa using h)
    exact ⟨congrArg (Sl.ow (.lst l) :: ·) h1, congrArg (some (V.ref q) :: ·) h2⟩
theorem gr_reps {K : PySem.W.Frag} {H : Hp} : ∀ (qs : List Addr) (adj : List (List D)), qs.length = adj.length → (∀ g ∈ (qs.zip adj).map fun z => (z.1, Y.D.lst z.2), Rep K H g.2 (.ref g.1)) → Reps K H (adj.map .lst) (qs.map V.ref)
  | [], [], _, _ => rfl
  | [], _ :: _, h, _ => by cases h
  | _ :: _, [], h, _ => by cases h
  | q :: qs, l :: adj, h, r => ⟨_, _, rfl, r (q, .lst l) List.mem_cons_self, gr_reps qs adj (by simpa using h) fun g hg => r g (List.mem_cons_of_mem _ hg)⟩
theorem put_put {d : D} {C : Addr} {ns n1 n2 : List Str} {ds d1 d2 : List D} (h : d.own = some (C, ns, ds)) : (d.put n1 d1).own = some (C, n1, d1) ∧ (d.put n1 d1).put n2 d2 = d.put n2 d2 := by
  cases d <;> first
    | (cases h; done)
    | (cases h; exact ⟨rfl, rfl⟩)
section
variable {X : Cx} {W : WX} {H0 : Hp} {Oc : List Addr} {Γ : List Sl} {tg iter a r1 i1 e1 r2 i2 e2 : Expr} {rest : List Stmt} {pos pos' pp p1 p2 p5 lp q1 q2 q3 q4 s1 s2 s3 s4 : Pos} {scope : Scope} {u x f : Str} {out : Out} {d : D} {C : Addr} {ns : List Str} {ds : List D}
/-- self.f = [[] for u in range(a)]; for tg in iter: r1[i1].append(e1); r2[i2].append(e2) -/
theorem sds_grid {m ix : Nat} (n : Nat) (xs : List (Nat × Nat)) (enc : Nat × Nat → D) (h : Γ[n]? = some (.ow d)) (ho : d.own = some (C, ns, ds)) (hst : stab Γ = true) (cl : Cls X.K C) (na : NoAttr X.K C f) (hf : f ∉ ns) (hlen : ns.length < 1000)
    (hN : X.N[n]? = some x) (hv : Vis X.env.scope x) (hd : (x == ("__debug__" : Str)) = false) (hcd : (x == ("__classdict__" : Str)) = false)
    (hp : PassesOwn (model X.prog X.w) X.A X.env X.xe) (hc : X.calm = true) (hNd : X.N.Nodup) (ok : BlkOk X.N X.env.scope scope [(u, ix)]) (hm : X.mg "range" = none) (hgr : Gl X "range") (ha : Ev X H0 Oc Γ a (.va (.int (m : Int)))) (hm1 : m ≤ 1000000) (hxs : xs.length ≤ 400000) (hx1 : ∀ y ∈ xs, y.1 < m ∧ y.2 < m)
    {tg0 : Expr} (hg : ∀ s0 H00 C cl fp, PG (blkX X scope s0 H00 C cl fp) tg0 (gName ix)) (hs1 : starEach [a] X.env = [(false, eval a X.env)]) (hs2 : starEach [a] X.env = (false, eval a X.env) :: starEach [] X.env)
    (hfs : ∀ x, foldedSetIterable (.Call (.Name "range" p1) [a] [] p2) X.env x = pure x) (hfs2 : ∀ x, foldedSetIterable iter X.env x = pure x)
    (hsw : swapsWith (.ListComp (.List [] lp) [⟨tg0, .Call (.Name "range" p1) [a] [] p2, [], 0⟩] scope pos) (some (.Attribute (.Name x p5) f pp)) pos'.line X.env = pure false)
    (hi : ∀ w, Ei X H0 Oc (Γ.set n (.ow (d.put (ns ++ [f]) (ds ++ [w])))) tg iter (xs.map enc))
    (hb : ∀ w y, y ∈ xs → ∃ Γ1, Tg X H0 Oc tg (Γ.set n (.ow (d.put (ns ++ [f]) (ds ++ [w])))) (.va (enc y)) Γ1 ∧ Sub Γ1 (Γ.set n (.ow (d.put (ns ++ [f]) (ds ++ [w])))) ∧ stab Γ1 = true ∧
      Ev X H0 Oc Γ1 r1 (.va w) ∧ Ev X H0 Oc Γ1 i1 (.va (.int (y.1 : Int))) ∧ Ev X H0 Oc Γ1 e1 (.va (.int (y.2 : Int))) ∧ Ev X H0 Oc Γ1 r2 (.va w) ∧ Ev X H0 Oc Γ1 i2 (.va (.int (y.2 : Int))) ∧ Ev X H0 Oc Γ1 e2 (.va (.int (y.1 : Int))))
    (k1 : ∀ {D' : Ends} {σ : L2.St} {H : Hp} {p q : Addr} {qs : List Addr} {k j0 j1 : Nat} {l : List D} {Δ : List Sl} {τ : List (Option V)} {Γ1 : List Sl} {d : D}, Ev X H0 Oc Γ1 r1 (.va (.opq (.ref p))) → Ev X H0 Oc Γ1 i1 (.va (.int (k : Int))) → Ev X H0 Oc Γ1 e1 (.va d) → stab Γ1 = true → τ.length = Δ.length → stab Δ = true → Δ[j0]? = some (.ow (.lst (qs.map fun q => .opq (.ref q)))) → τ[j0]? = some (some (.ref p)) → qs[k]? = some q → Δ[j1]? = some (.ow (.lst l)) → τ[j1]? = some (some (.ref q)) → l.length ≤ 1000000 →
      Wf X.K H0 Oc (Δ ++ Γ1) (τ ++ σ) H → (∀ H', Wf X.K H0 Oc (Δ.set j1 (.ow (.lst (l ++ [d]))) ++ Γ1) (τ ++ σ) H' → D'.nx σ H') → wpS X (.Expr (.Call (.Attribute (.Subscript r1 i1 q1) "append" q2) [e1] [] q3) q4) D' σ H)
    (k2 : ∀ {D' : Ends} {σ : L2.St} {H : Hp} {p q : Addr} {qs : List Addr} {k j0 j1 : Nat} {l : List D} {Δ : List Sl} {τ : List (Option V)} {Γ1 : List Sl} {d : D}, Ev X H0 Oc Γ1 r2 (.va (.opq (.ref p))) → Ev X H0 Oc Γ1 i2 (.va (.int (k : Int))) → Ev X H0 Oc Γ1 e2 (.va d) → stab Γ1 = true → τ.length = Δ.length → stab Δ = true → Δ[j0]? = some (.ow (.lst (qs.map fun q => .opq (.ref q)))) → τ[j0]? = some (some (.ref p)) → qs[k]? = some q → Δ[j1]? = some (.ow (.lst l)) → τ[j1]? = some (some (.ref q)) → l.length ≤ 1000000 →
      Wf X.K H0 Oc (Δ ++ Γ1) (τ ++ σ) H → (∀ H', Wf X.K H0 Oc (Δ.set j1 (.ow (.lst (l ++ [d]))) ++ Γ1) (τ ++ σ) H' → D'.nx σ H') → wpS X (.Expr (.Call (.Attribute (.Subscript r2 i2 s1) "append" s2) [e2] [] s3) s4) D' σ H)
    (hr : Sds X W H0 Oc (Γ.set n (.ow (d.put (ns ++ [f]) (ds ++ [.lst ((xs.foldl stepG (List.replicate m [])).map fun l => .lst (l.map .int))])))) rest out) :
    Sds X W H0 Oc Γ (.Assign [.Attribute (.Name x p5) f pp] (.ListComp (.List [] lp) [⟨tg0, .Call (.Name "range" p1) [a] [] p2, [], 0⟩] scope pos) pos' :: .For tg iter [.Expr (.Call (.Attribute (.Subscript r1 i1 q1) "append" q2) [e1] [] q3) q4, .Expr (.Call (.Attribute (.Subscript r2 i2 s1) "append" s2) [e2] [] s3) s4] [] q5 :: rest) out := fun Δ τ σ H D' hl st w k => by
  refine wpSs.of (pss_cons (ps_fld (pe_var hN hv hd hcd) pe_wp hsw) pss_wp) ?_
  refine wp_empties hc hNd ok hm hgr ha hm1 hg hs1 hs2 hfs hl w fun p qs H1 hq ⟨O1, w1⟩ => ?_
  rw [← List.append_assoc, ← List.append_assoc] at w1
  have gl : ∀ adj : List (List Int), adj.length = m → (grSt p qs ++ τ).length = (grSl qs (vwG adj) ++ Δ).length := fun adj e => by
    unfold grSl grSt vwG
    simp [hl, hq, e]
  have e0 : List.replicate m ([] : List Y.D) = vwG (List.replicate m []) := by unfold vwG; rw [List.map_replicate]; rfl
  rw [e0] at w1
  have l0 := gl (List.replicate m []) (List.length_replicate ..)
  have stg : ∀ adj, stab (grSl qs adj ++ Δ) = true := fun adj => by rw [stab_app, grSl_stab, st]; rfl
  obtain ⟨yy, hy, pa, oo, rfl, g2, g3, g4, g5⟩ := slot_of l0 w1 h
  obtain ⟨dx, fs, rfl, z1, z2, z3⟩ := RepH.own (ds1 := ds ++ [.opq (.ref p)]) g5 ho
  refine ⟨.ref pa, hy, pa, C, dx, fs, rfl, g4, cl, na, ?_, ?_⟩
  · have : fs.length = ns.length := by rw [← z1, List.length_map]
    omega
  subst z1
  have z4 := z3 dx (fs ++ [(f, .ref p)]) (by rw [List.map_append]; exact z2.app (Reps.one (show Rep X.K _ (.opq (.ref p)) (.ref p) from rfl)))
  rw [List.map_append] at z4
  rw [putF_new hf]
  have w2 := w1.mutN l0 (stg _) hst h hy z4
  have len0 : ∀ i, ((xs.take i).foldl stepG (List.replicate m [])).length = m := fun i => by rw [foldG_len, List.length_replicate]
  refine wp_gfor (p := p) (qs := qs) xs enc vwG stepG (List.replicate m []) hp hc (hi (.opq (.ref p))) (by unfold vwG; rw [List.length_map, List.length_replicate]; exact hq) ?_ (fun i => by unfold vwG; rw [List.length_map, List.length_map, len0, List.length_replicate]) hfs2 hl st ⟨O1, w2⟩ ?_
  · intro i y hy'
    have hin := List.mem_of_getElem? hy'
    obtain ⟨b1, b2⟩ := hx1 y hin
    obtain ⟨Γ1, t1, t2, t3, v1, v2, v3, v4, v5, v6⟩ := hb (.opq (.ref p)) y hin
    refine ⟨Γ1, t1, t2, fun Δp Δ τp τ σ H D hlp hl' sts w' nx => ?_⟩
    have stp : ∀ adj, stab (Δp ++ (grSl qs adj ++ Δ)) = true := fun adj => by
      rw [stab_app, stab_app] at sts ⊢
      rw [grSl_stab] at sts ⊢
      exact sts
    have step1 : (xs.take (i + 1)).foldl stepG (List.replicate m []) = stepG ((xs.take i).foldl stepG (List.replicate m [])) y := by
      rw [List.take_add_one, hy', List.foldl_append]
      rfl
    rw [step1] at nx
    have la := len0 i
    have mx := foldG_max (xs.take i) (List.replicate m []) 0 (fun l hl => by rw [(List.mem_replicate.mp hl).2]; exact Nat.le_refl _)
    have mx2 : (xs.take i).length ≤ 400000 := by rw [List.length_take]; omega
    generalize (xs.take i).foldl stepG (List.replicate m []) = adj at w' nx la mx
    have gm : ∀ (a : List (List Int)) (B : Nat), (∀ l ∈ a, l.length ≤ B) → ∀ k : Nat, (a.getD k []).length ≤ B := fun a B hh k => by
      rw [List.getD_eq_getElem?_getD]
      cases e : a[k]? with
      | none => exact Nat.zero_le _
      | some l => exact hh l (List.mem_of_getElem? e)
    have ll : ∀ a : List (List Int), a.length = m → (τp ++ (grSt p qs ++ τ)).length = (Δp ++ (grSl qs (vwG a) ++ Δ)).length := fun a e => by
      unfold grSl grSt vwG
      simp [hlp, hl', hq, e]
    have at0 : ∀ a : List (List Int), (Δp ++ (grSl qs (vwG a) ++ Δ))[Δp.length]? = some (.ow (.lst (qs.map fun q => .opq (.ref q)))) := fun a => by
      rw [List.getElem?_append_right (Nat.le_refl _), Nat.sub_self]
      rfl
    have st0 : (τp ++ (grSt p qs ++ τ))[Δp.length]? = some (some (.ref p)) := by
      rw [List.getElem?_append_right (by omega), hlp, Nat.sub_self]
      rfl
    have atk : ∀ (a : List (List Int)) (k : Nat), a.length = m → k < m → (Δp ++ (grSl qs (vwG a) ++ Δ))[Δp.length + (k + 1)]? = some (.ow (.lst ((a.getD k []).map .int))) := fun a k e hk => by
      rw [List.getElem?_append_right (by omega), show Δp.length + (k + 1) - Δp.length = k + 1 by omega, List.getElem?_append_left (by unfold grSl vwG; simp [e, hk])]
      unfold grSl
      rw [List.getElem?_cons_succ, List.getElem?_map, vwG_at (by omega)]
      rfl
    have qk : ∀ k, k < m → ∃ q, qs[k]? = some q := fun k hk => ⟨qs[k], List.getElem?_eq_getElem (by omega)⟩
    have stk : ∀ (k : Nat) (q : Addr), qs[k]? = some q → (τp ++ (grSt p qs ++ τ))[Δp.length + (k + 1)]? = some (some (.ref q)) := fun k q e => by
      have hk := (List.getElem?_eq_some_iff.mp e).1
      rw [List.getElem?_append_right (by omega), show Δp.length + (k + 1) - τp.length = k + 1 by omega, List.getElem?_append_left (by unfold grSt; simp [hk])]
      unfold grSt
      rw [List.getElem?_cons_succ, List.getElem?_map, e]
      rfl
    have set_ : ∀ (a : List (List Int)) (k : Nat) (z : Int), k < m → a.length = m → (Δp ++ (grSl qs (vwG a) ++ Δ)).set (Δp.length + (k + 1)) (.ow (.lst ((a.getD k []).map .int ++ [.int z]))) = Δp ++ (grSl qs (vwG (a.set k (a.getD k [] ++ [z]))) ++ Δ) := fun a k z hk e => by
      rw [List.set_append_right _ _ (by omega), show Δp.length + (k + 1) - Δp.length = k + 1 by omega, List.set_append_left _ _ (by unfold grSl vwG; simp [e, hk]), grSl_set, vwG_set]
    obtain ⟨qa, hqa⟩ := qk y.1 b1
    obtain ⟨qb, hqb⟩ := qk y.2 b2
    refine wpSs.of (pss_cons ps_wp (pss_cons ps_wp pss_nil)) ?_
    refine k1 v1 v2 v3 t3 (ll adj la) (stp _) (at0 adj) st0 hqa (atk adj y.1 la b1) (stk _ _ hqa) (by rw [List.length_map]; have := gm adj _ mx y.1; omega) w' fun H' w3 => ?_
    rw [set_ adj y.1 _ b1 la] at w3
    refine k2 v4 v5 v6 t3 (ll _ (by rw [List.length_set]; exact la)) (stp _) (at0 _) st0 hqb (atk _ y.2 (by rw [List.length_set]; exact la) b2) (stk _ _ hqb) ?_ w3 fun H'' w4 => ?_
    · rw [List.length_map]
      have mm : ∀ l ∈ adj.set y.1 (adj.getD y.1 [] ++ [(y.2 : Int)]), l.length ≤ 0 + 2 * (xs.take i).length + 1 := fun l hl => by
        rcases List.mem_or_eq_of_mem_set hl with hl | rfl
        · exact Nat.le_succ_of_le (mx l hl)
        · rw [List.length_append]
          exact Nat.succ_le_succ (gm adj _ mx y.1)
      have := gm _ _ mm y.2
      omega
    rw [set_ _ y.2 _ b2 (by rw [List.length_set]; exact la)] at w4
    exact nx σ H'' w4
  · intro σ' H' ⟨O', w3⟩
    have lN : (xs.foldl stepG (List.replicate m [])).length = m := by rw [foldG_len, List.length_replicate]
    generalize xs.foldl stepG (List.replicate m []) = adj at w3 lN hr
    have lv : qs.length = (vwG adj).length := by unfold vwG; rw [List.length_map, lN]; exact hq
    have g1 := (gr_maps qs (vwG adj) lv).1
    have g2 := (gr_maps qs (vwG adj) lv).2
    rw [List.append_assoc, List.append_assoc] at w3
    have w3' : WfO X.K H0 Oc O' ((((p, Y.D.lst (qs.map fun q => .opq (.ref q))) :: (qs.zip (vwG adj)).map fun z => (z.1, Y.D.lst z.2)).map fun g : Addr × Y.D => Sl.ow g.2) ++ (Δ ++ Γ.set n (.ow (d.put (fs.map (·.1) ++ [f]) (ds ++ [.opq (.ref p)])))))
        ((((p, Y.D.lst (qs.map fun q => .opq (.ref q))) :: (qs.zip (vwG adj)).map fun z => (z.1, Y.D.lst z.2)).map fun g : Addr × Y.D => some (V.ref g.1)) ++ (τ ++ σ')) H' := by
      rw [List.map_cons, List.map_cons, ← g1, ← g2]
      exact w3
    obtain ⟨O2, _, w4, reps⟩ := WfO.thaw _ w3'
    have r0 := reps _ List.mem_cons_self
    have rl : Rep X.K (cut H' O2) (.lst ((vwG adj).map .lst)) (.ref p) := by
      obtain ⟨pz, vz, ez, hz, rz⟩ := r0
      cases ez
      rw [Reps.opqs rz] at hz
      exact ⟨_, _, rfl, hz, gr_reps qs (vwG adj) lv fun g hg => reps g (List.mem_cons_of_mem _ hg)⟩
    have hn : n < Γ.length := (List.getElem?_eq_some_iff.mp h).1
    obtain ⟨yy2, hy2, pa2, oo2, rfl, m2, m3, m4, m5⟩ := slot_of hl w4 (n := n) (by rw [List.getElem?_set_self hn])
    obtain ⟨pw1, pw2⟩ := put_put (n1 := fs.map (·.1) ++ [f]) (n2 := fs.map (·.1) ++ [f]) (d1 := ds ++ [.opq (.ref p)]) (d2 := ds ++ [.lst ((vwG adj).map .lst)]) ho
    obtain ⟨dx2, fs2, rfl, y1, y2, y3⟩ := RepH.own (ds1 := ds ++ [.lst ((vwG adj).map .lst)]) m5 pw1
    obtain ⟨us, ws, e5, r5, r6⟩ := Reps.split y2
    obtain ⟨v6, ws', e6, r7, r8⟩ := r6
    obtain rfl : v6 = .ref p := r7
    obtain rfl : ws' = [] := r8
    have y4 := y3 dx2 fs2 (by rw [e5, e6]; exact r5.app (Reps.one rl))
    rw [y1, pw2] at y4
    obtain ⟨i1', i2'⟩ := len_app (σ := σ') hl (n := n) (Γ := Γ.set n (.ow (d.put (fs.map (·.1) ++ [f]) (ds ++ [.opq (.ref p)])))) (by rw [List.getElem?_set_self hn])
    have w5 := w4.redata i1' (i2'.trans hy2) m4 y4
    rw [List.set_append_right _ _ (by omega), show Δ.length + n - Δ.length = n by omega, List.set_set] at w5
    refine hr Δ τ σ' H' D' hl st ⟨O2, ?_⟩ k
    have e9 : (vwG adj).map Y.D.lst = adj.map fun l => Y.D.lst (l.map .int) := by unfold vwG; rw [List.map_map]; rfl
    rw [← e9]
    exact w5
end
end Y

namespace TrM
open PySem PySem.Spec PyProof.Rows L2
/-! ## try with several clauses `except x as n`, all with one name n -/
abbrev Su := Addr → Value → Option Addr → TS
/-- what the clauses wish, one behind the other -/
def wEach (K : PySem.W.Frag) (i : Nat) (Wo : WX) (D : Ends) : List (Value × Su) → WX
  | [] => Wo
  | ct :: r => wAs K ct.1 i ct.2 (wEach K i Wo D r) D
inductive Cls (X : Cx) (n : Str) : List ExceptHandler → List (Value × Su) → Prop
  | nil : Cls X n [] []
  | cons {x : Str} {c : Value} {ts : Su} {b0 : Stmt} {sui : List Stmt} {p1 p2 : Pos} {hs : List ExceptHandler} {l : List (Value × Su)} (nm : Names X x c)
      (run : ∀ (a : Addr) (oe : Obj) (cl : Value) (dd : Option Addr) (q : List (Addr × Obj)), L2N.Zn cl dd oe → (∃ us, oe.data = .fields us) → PSs (X.suite a ((a, oe) :: q)) (b0 :: sui) (ts a cl dd)) (r : Cls X n hs l) :
      Cls X n (.ExceptHandler (some (.Name x p1)) (some n) (b0 :: sui) p2 :: hs) ((c, ts) :: l)
section
variable {X : Cx} {n : Str} {i : Nat} {body : List Stmt} {h0 : ExceptHandler} {hs : List ExceptHandler} {l : List (Value × Su)} {pos : Pos} {tb : WX → TS} {Wo : WX}
theorem ps_each (stk : X.stack = X.env :: X.outer) (frm : X.env.frame = some X.env.locals) (nd : X.N.Nodup) (ni : X.N[i]? = some n) (nl : X.env.kindOf n = some .local) (tk : L2N.Takes X Wo)
    (hb : ∀ (W : WX) (q : List (Addr × Obj)) (xe : Value → Shared → Prop), L2N.Takes (X.tr q xe) W → PassesOwn (model X.prog X.w) X.A X.env xe → PSs (X.tr q xe) body (tb W))
    (all : Cls X n (h0 :: hs) l) : PS X (.Try body (h0 :: hs) [] [] pos) (fun D σ H => tb (wEach X.K i Wo D l) D σ H) := by
  refine ⟨fun pins s σ H D I want => ?_⟩
  have well := I.ok
  have fr : X.A.frames = some (X.env :: X.outer) := by rw [well.frames, stk]
  have lc : Loc X.env.scope n := .inl nl
  refine wpAny_Try_except ?_
  have bodyRun := hb (wEach X.K i Wo D l) (X.pn ++ pins) (fun e z1 => wpAny (model X.prog X.w) X.A (noteFrame e X.env) (fun _ z2 => wpAny (model X.prog X.w) X.A (setFlight e none) (fun _ z3 => wpAny (model X.prog X.w) X.A (handleBy e X.env (h0 :: hs)) (SP X pins D) X.xe z3) X.xe z2) X.xe z1)
    (fun u s' caught => by
      obtain ⟨a, B, sI, pins', σ', H', cl, dd, rfl, JB, new, upT, skyT, fresh, osE, bare, wish⟩ := caught
      have JT : Inv X pins σ' H' sI := JB.ofTry well
      have sky1 : Sky B (X.env :: X.outer) a (L2N.Zn cl dd) X.env.locals s'.heap := by rw [← stk]; exact skyT
      show wpAny (model X.prog X.w) X.A (noteFrame (.ref a) X.env) _ _ _
      refine L2N.Sky.land L2N.Zn.steady fr frm sky1 fun g3 fl3 up3 => ?_
      have J3 : Inv X pins σ' H' { s' with heap := g3 } := JT.landed new fl3.1 (upT.trans up3) osE bare
      obtain ⟨o3, us3, at3, zn3, da3⟩ := fl3.there
      have away : ∀ {g : Heap} {o : Obj} {us : Array Value}, g.FunFrames B (X.env :: X.outer) → g.get? a = some o → o.data = .fields us → a ∉ frs (X.env :: X.outer) := fun {g o us} ff e1 e2 m => by
        obtain ⟨_, o', e3, nf⟩ := ff.mem m
        rw [e1] at e3
        cases e3
        exact nf _ e2
      have aw := away fl3.2.2.1 at3 da3
      have a1 : a ≠ X.env.locals := fun e => aw (List.mem_filterMap.mpr ⟨X.env, List.mem_cons_self, by rw [frm, e]⟩)
      have a2 : a ∉ X.fs := fun m => by
        obtain ⟨en, m1, m2⟩ := List.mem_filterMap.mp m
        exact aw (List.mem_filterMap.mpr ⟨en, List.mem_cons_of_mem _ m1, m2⟩)
      have T3 := J3.suite at3 da3 fresh a1 a2
      have each : ∀ {ks : List ExceptHandler} {r : List (Value × Su)}, Cls X n ks r → wEach X.K i Wo D r cl dd σ' H' → wpAny (model X.prog X.w) X.A (handleBy (.ref a) X.env ks) (SP X pins D) X.xe { s' with heap := g3 } := by
        intro ks r ok
        induction ok with
        | nil =>
          intro wish
          refine wpAny_handleBy_nil ?_
          obtain ⟨y1, y2, y3, oe, us, T, oT, ts', q1, q2, q3, q4, q5⟩ := id fl3
          unfold PySem.passOn
          refine wpAny_bind (wpAny_field q1 q3 q4 ?_)
          rw [if_neg (show ¬ ((Value.ref T == Value.none) = true) from by simp)]
          have off : wpAny (model X.prog X.w) X.A (setFlight (.ref a) X.env.frame) (fun _ z => wpAny (model X.prog X.w) X.A (throw (.ref a) : Sem Flow) (SP X pins D) X.xe z) X.xe { s' with heap := g3 } := by
            rw [frm]
            refine HandSPX.setFlight_upZ fl3 fun g4 hh4 up4 => wpAny_throw (tk _ _ ?_)
            exact ⟨a, B, sI, pins, σ', H', cl, dd, rfl, JT, new, (upT.trans up3).trans up4, .inr (.inr (by rw [stk]; exact hh4)), fresh, osE, bare, wish⟩
          first | exact wpAny_bind (wpAny_pure (wpAny_bind off)) | exact wpAny_bind off
        | @cons x c ts b0 sui p1 p2 hs2 l2 nm run r2 ih =>
          intro wish
          obtain ⟨b, isB, yes, no⟩ := wish
          refine wpAny_handleBy_cons (codeAny_handlers_test ?_) (by intro q; cases q)
          have LT : PySem.W.Looks (model X.prog X.w) g3 (typeOf (.ref a)) cl := fun A Q E z k q => wpAny_typeOf_ref (k _ _ at3) (by rw [zn3.1]; exact q)
          have LM := PySem.W.exm_one (M := model X.prog X.w) (J3.kIn) LT isB
          have nameIs : ∀ {Q E : Value → Shared → Prop}, Q c { s' with heap := g3 } → wpAny (model X.prog X.w) (X.A.mark (some (.ref a))) (eval (.Name x p1) X.env) Q E { s' with heap := g3 } := fun {Q E} q => by
            obtain ⟨gl, db, hm | ⟨hm, hv, hn⟩⟩ := nm
            · exact ld_glob (X := X.suite a ((a, o3) :: (X.pn ++ pins))) T3 gl hm q db
            · exact ld_blt (X := X.suite a ((a, o3) :: (X.pn ++ pins))) T3 gl hm hv q hn db
          refine nameIs (LM.here ?_)
          cases b with
          | false =>
            show wpAny _ X.A (handleBy (.ref a) X.env hs2) _ _ _
            exact ih (no rfl)
          | true =>
            refine codeAny_handlers_suite_as ?_
            refine HandSPX.lands_againZ fl3 fun g4 fl4 up4 => ?_
            have J4 : Inv X pins σ' H' { s' with heap := g4 } := JT.landed new fl4.1 ((upT.trans up3).trans up4) osE bare
            obtain ⟨o4, us4, at4, zn4, da4⟩ := fl4.there
            have T4 := J4.suite at4 da4 fresh a1 a2
            refine store_ok (X := X.suite a ((a, o4) :: (X.pn ++ pins))) (v := .ref a) T4 nd ni lc rfl (fun z5 T5 => ?_) (.inr nl)
            refine wpAny_mono ((run a o4 cl dd (X.pn ++ pins) zn4 ⟨_, da4⟩).run [] z5 _ H' _ T5 (yes rfl a fresh)) (fun f z6 ends => ?_) (fun _ _ z => False.elim z)
            have gone : ∀ {σ6 : L2.St} {H6 : Hp} {Q : Shared → Prop}, Inv (X.suite a ((a, o4) :: (X.pn ++ pins))) [] σ6 H6 z6 → (∀ z7, Inv X pins (σ6.set i none) H6 z7 → Q z7) →
                wpAny (model X.prog X.w) X.A (do bindName X.env n .none; unbindBehindTheSuite X.env n p2) (fun _ z7 => Q z7) X.xe z6 := fun {σ6 H6 Q} T6 hq => gone_ok (T6.unsuite well) nd ni nl hq
            match f, ends with
            | .next, ⟨σ6, H6, T6, q6⟩ => exact gone T6 fun z7 J7 => ⟨_, _, J7, q6⟩
            | .brk, ⟨σ6, H6, T6, q6⟩ => exact gone T6 fun z7 J7 => ⟨_, _, J7, q6⟩
            | .cont, ⟨σ6, H6, T6, q6⟩ => exact gone T6 fun z7 J7 => ⟨_, _, J7, q6⟩
            | .ret u, ⟨v6, σ6, H6, T6, r6, q6⟩ => exact gone T6 fun z7 J7 => ⟨_, _, _, J7, r6, q6⟩
      exact each all wish) PassesOwn.looking
  refine wpAny_mono (bodyRun.run [] s σ H D (I.toTry _) want) (fun f z1 ends => ?_) (fun e z1 he => he)
  match f, ends with
  | .next, ⟨σ', H', J', q⟩ => exact wpAny_execs_nil ⟨σ', H', J'.ofTry well, q⟩
  | .brk, ⟨σ', H', J', q⟩ => exact ⟨σ', H', J'.ofTry well, q⟩
  | .cont, ⟨σ', H', J', q⟩ => exact ⟨σ', H', J'.ofTry well, q⟩
  | .ret u, ⟨v, σ', H', J', r, q⟩ => exact ⟨v, σ', H', J'.ofTry well, r, q⟩
end
end TrM
namespace Y
open PySem L2
section
variable {X : Cx} {W : WX} {H0 : Hp} {Oc : List Addr} {Γ : List Sl} {rest body : List Stmt} {pos pos' : Pos} {out : Out} {n : Nat} {y : Str}
/-- the clauses by data: class, suite -/
inductive CD (X : Cx) (y : Str) : List ExceptHandler → List (Value × List Stmt) → Prop
  | nil : CD X y [] []
  | cons {x : Str} {c : Value} {b0 : Stmt} {sui : List Stmt} {p1 p2 : Pos} {hs : List ExceptHandler} {l : List (Value × List Stmt)} (nm : Names X x c) (r : CD X y hs l) : CD X y (.ExceptHandler (some (.Name x p1)) (some y) (b0 :: sui) p2 :: hs) ((c, b0 :: sui) :: l)
/-- the first clause that takes C runs its suite -/
def TakeOk (X : Cx) (W : WX) (H0 : Hp) (Oc : List Addr) (n : Nat) (rest : List Stmt) (out : Out) (C : Addr) (ns : List Str) (ds : List D) (Γe : List Sl) : List (Value × List Stmt) → Prop
  | [] => out = .exc C ns ds (some Γe)
  | (c, sui) :: r => (PySem.W.exmOne X.K (.ref C) c = some true ∧ ∀ (a : Addr) (oe : Obj) (d : Addr) (pn : List (Addr × Obj)), L2N.Zn (.ref C) (some d) oe → (∃ vs, oe.data = .fields vs) →
      ∃ os, Sds (X.suite a ((a, oe) :: pn)) wNo H0 Oc (Γe.set n (.va (.er a C d ns ds))) sui os ∧ SuiteOk X W H0 Oc n rest out os) ∨ (PySem.W.exmOne X.K (.ref C) c = some false ∧ TakeOk X W H0 Oc n rest out C ns ds Γe r)
def EachOk (X : Cx) (W : WX) (H0 : Hp) (Oc : List Addr) (n : Nat) (l : List (Value × List Stmt)) (rest : List Stmt) (out : Out) : Out → Prop
  | .nx Γ1 => Sds X W H0 Oc Γ1 rest out
  | .ret s => out = .ret s
  | .brk Γ1 => out = .brk Γ1
  | .cnt Γ1 => out = .cnt Γ1
  | .exc C ns ds (some Γe) => TakeOk X W H0 Oc n rest out C ns ds Γe l
  | .exc _ _ _ none => False
def tSui (X : Cx) (sui : List Stmt) : TrM.Su := fun a cls d D σ H => ∀ (oe : Obj) (pn : List (Addr × Obj)), L2N.Zn cls d oe → (∃ vs, oe.data = .fields vs) → wpSs (X.suite a ((a, oe) :: pn)) sui D σ H
theorem CD.cls : ∀ {hs : List ExceptHandler} {l : List (Value × List Stmt)}, CD X y hs l → TrM.Cls X y hs (l.map fun z => (z.1, tSui X z.2))
  | _, _, .nil => .nil
  | _, _, .cons nm r => .cons nm (fun a oe cl dd q z f => ⟨fun pins s σ H D I h => h oe q z f pins s I⟩) r.cls
theorem sds_each {h0 : ExceptHandler} {hs : List ExceptHandler} {l : List (Value × List Stmt)} {ob : Out} (stk : X.stack = X.env :: X.outer) (frm : X.env.frame = some X.env.locals) (nd : X.N.Nodup) (ni : X.N[n]? = some y) (nl : X.env.kindOf y = some .local) (tk : L2N.Takes X W) (all : CD X y (h0 :: hs) l)
    (hb : ∀ (W' : WX) (pn : List (Addr × Obj)) (xe : Value → Shared → Prop), L2N.Takes (X.tr pn xe) W' → PassesOwn (model X.prog X.w) X.A X.env xe → Sds (X.tr pn xe) W' H0 Oc Γ body ob) (h : EachOk X W H0 Oc n l rest out ob) :
    Sds X W H0 Oc Γ (.Try body (h0 :: hs) [] [] pos :: rest) out := fun Δ τ σ H D hl st w k => by
  refine wpSs.of (pss_cons (TrM.ps_each (tb := fun W' D σ H => ∀ (pn : List (Addr × Obj)) (xe : Value → Shared → Prop), L2N.Takes (X.tr pn xe) W' → PassesOwn (model X.prog X.w) X.A X.env xe → wpSs (X.tr pn xe) body D σ H) stk frm nd ni nl tk
    (fun W' pn xe t po => ⟨fun pins s σ H D I h => h pn xe t po pins s I⟩) all.cls) pss_wp) ?_
  intro pn xe t po
  refine hb _ pn xe t po Δ τ σ H _ hl st w ?_
  match ob, h with
  | .nx Γ1, h => exact fun σ' H' w' => h Δ τ σ' H' D hl st w' k
  | .ret s, h => subst h; exact k
  | .brk Γ1, h => subst h; exact k
  | .cnt Γ1, h => subst h; exact k
  | .exc C ns ds (some Γe), h =>
    intro d σ' H' xw
    have xw' : Wf X.K H0 Oc (.va (.xd ns ds) :: (Δ ++ Γe)) (some (.ref d) :: (τ ++ σ')) H' := xw
    have go : ∀ {l : List (Value × List Stmt)}, TakeOk X W H0 Oc n rest out C ns ds Γe l → TrM.wEach X.K n W { D with nx := fun σ H => wpSs X rest D σ H } (l.map fun z => (z.1, tSui X z.2)) (.ref C) (some d) σ' H' := by
      intro l
      induction l with
      | nil =>
        intro h
        have h : out = .exc C ns ds (some Γe) := h
        subst h
        exact k d σ' H' xw
      | cons z l ih =>
        intro h
        obtain ⟨c, sui⟩ := z
        rcases h with ⟨hm, h⟩ | ⟨hm, h⟩
        · refine ⟨true, hm, fun _ aa na => ?_, (fun z => nomatch z)⟩
          intro oe pn2 z f
          obtain ⟨os, h1, h2⟩ := h aa oe d pn2 z f
          obtain ⟨O, w1⟩ := xw'
          obtain ⟨v, e1, d', fs, e2, g2, g3, g4⟩ := w1.head
          cases e1
          cases e2
          have w2 := (w1.pop.push (s := .va (.er aa C d ns ds)) (y := some (.ref aa)) ⟨.ref aa, rfl, fs, rfl, g2, g3, g4⟩ fun _ z => nomatch z).set (n := n) hl
          refine h1 Δ τ _ H' _ hl st ⟨O, w2⟩ ?_
          match os, h2 with
          | .nx Γ2, h2 => exact fun σ4 H4 w4 => h2 Δ τ _ H4 D hl st (w4.unset hl) k
          | .ret s, h2 => subst h2; exact k
          | .brk Γ2, h2 => subst h2; exact fun σ4 H4 w4 => k _ H4 (w4.unset hl)
          | .cnt Γ2, h2 => subst h2; exact fun σ4 H4 w4 => k _ H4 (w4.unset hl)
        · exact ⟨false, hm, (fun z => nomatch z), fun _ => ih h⟩
    exact go h
end
end Y

namespace Y
open PySem PySem.Spec PyProof.Rows L2
section
variable {X : Cx} {W : WX} {H0 : Hp} {Oc : List Addr} {Γ : List Sl} {a b c e : Expr} {pos p p2 : Pos} {d : D} {ds : List D} {i j k : Int} {ns : List Int} {f : Str}
/-! ### i <= j < k -/
theorem ev_lelt (ha : Ev X H0 Oc Γ a (.va (.int i))) (hb : Ev X H0 Oc Γ b (.va (.int j))) (hc : Ev X H0 Oc Γ c (.va (.int k))) (hm : lastMarks [.LtE, .Lt] [b, c] = false := by with_unfolding_all rfl) : Ev X H0 Oc Γ (.Compare a [.LtE, .Lt] [b, c] pos) (.va (.bl (decide (i ≤ j) && decide (j < k)))) := fun Δ τ σ H Q hl w q => by
  refine wpE.of (pe_chain op_le op_lt pe_wp pe_wp pe_wp hm) (ha Δ τ σ H _ hl w fun v H1 w1 => ?_)
  refine hb (.va (.int i) :: Δ) (some v :: τ) σ H1 _ (by simp [hl]) w1 fun u H2 w2 => ?_
  obtain ⟨O2, w2'⟩ := id w2
  obtain ⟨u', e1, r1⟩ := w2'.head
  cases e1
  obtain ⟨v', e2, r2⟩ := w2'.pop.head
  cases e2
  obtain rfl : u = .int j := r1
  obtain rfl : v = .int i := r2
  refine ⟨i, j, rfl, rfl, decide (i ≤ j), rfl, ?_⟩
  by_cases hij : i ≤ j
  · rw [if_pos (decide_eq_true hij)]
    refine hc (.va (.int j) :: .va (.int i) :: Δ) (some (.int j) :: some (.int i) :: τ) σ H2 _ (by simp [hl]) w2 fun z H3 ⟨O3, w3⟩ => ?_
    obtain ⟨z', e3, r3⟩ := w3.head
    cases e3
    obtain rfl : z = .int k := r3
    refine ⟨j, k, rfl, rfl, ?_⟩
    have := q (.bl (decide (i ≤ j) && decide (j < k))) H3 ⟨O3, w3.pop.pop.pop.flat rfl (show Rep X.K H3 (.bl (decide (i ≤ j) && decide (j < k))) (.bl (decide (i ≤ j) && decide (j < k))) from rfl)⟩
    rwa [decide_eq_true hij, Bool.true_and] at this
  · rw [if_neg (by simp [hij])]
    have := q (.bl (decide (i ≤ j) && decide (j < k))) H2 ⟨O2, w2'.pop.pop.flat rfl (show Rep X.K H2 (.bl (decide (i ≤ j) && decide (j < k))) (.bl (decide (i ≤ j) && decide (j < k))) from rfl)⟩
    rwa [decide_eq_false hij, Bool.false_and] at this
/-! ### a class's constant -/
theorem ev_cval {C : Addr} {mc u : Value} (he : Ev X H0 Oc Γ e (.va (.opq (.ref C)))) (r : ClX.CRead X.K C mc) (kv : ClX.CVal X.K C mc f (.int i) u) (hb : attributeBase e f X.env (eval e X.env) = eval e X.env := by rfl) : Ev X H0 Oc Γ (.Attribute e f pos) (.va (.int i)) := fun Δ τ σ H Q hl w q =>
  wpE.of (ClX.pe_cval pe_wp hb) (he Δ τ σ H _ hl w fun v H1 ⟨O, w1⟩ => by
    obtain ⟨v', e1, r1⟩ := w1.head
    cases e1
    obtain rfl : v = .ref C := r1
    exact ⟨C, mc, .int i, u, rfl, r, kv, q _ H1 ⟨O, w1.pop.flat rfl (show Rep X.K H1 (.int i) (.int i) from rfl)⟩⟩)
/-! ### is, is not, of truth values -/
theorem va2' {K : PySem.W.Frag} {O : List Addr} {d1 d2 : D} {G : List Sl} {S : List (Option V)} {H : Hp} {v w : V} (W : WfO K H0 Oc O (.va d2 :: .va d1 :: G) (some w :: some v :: S) H) : Rep K (cut H O) d1 v ∧ Rep K (cut H O) d2 w := by
  obtain ⟨w', e, r⟩ := W.head
  cases e
  obtain ⟨v', e2, r2⟩ := W.pop.head
  cases e2
  exact ⟨r2, r⟩
theorem c_isB {x y : Bool} : C2 X H0 Oc .Is (.va (.bl x)) (.va (.bl y)) (decide (x = y)) := ⟨_, op_isBl, fun G S H v w Q ⟨O, W⟩ q => by
  obtain ⟨r1, r2⟩ := va2' W
  exact ⟨x, y, r1, r2, q H ⟨O, W.pop.pop⟩⟩⟩
theorem c_nisB {x y : Bool} : C2 X H0 Oc .IsNot (.va (.bl x)) (.va (.bl y)) (!decide (x = y)) := ⟨_, op_notBl, fun G S H v w Q ⟨O, W⟩ q => by
  obtain ⟨r1, r2⟩ := va2' W
  exact ⟨x, y, r1, r2, q H ⟨O, W.pop.pop⟩⟩⟩
/-! ### an int in a tuple or list of ints -/
theorem inV_ints (x : Int) : ∀ ns : List Int, inV (.int x) (ns.map V.int) = decide (x ∈ ns)
  | [] => rfl
  | n :: ns => by
    have ih := inV_ints x ns
    unfold inV at ih ⊢
    rw [List.map_cons, List.any_cons, ih]
    show ((n == x) || _) = _
    by_cases e : n = x
    · simp [e]
    · simp [e, Ne.symm e]
theorem flat_ints : ∀ ns : List Int, (ns.map V.int).all flatV = true
  | [] => rfl
  | _ :: ns => flat_ints ns
theorem c_inTI (x : Int) (ns : List Int) : C2 X H0 Oc .In (.va (.int x)) (.bw (encT ns)) (decide (x ∈ ns)) := ⟨_, op_in_seq, fun G S H v w Q ⟨O, W⟩ q => by
  obtain ⟨r1, r2⟩ := vb2 W
  obtain ⟨pp, vs, rfl, h1, h2⟩ := r2
  obtain rfl : v = .int x := r1
  have e := Reps.ints h2
  subst e
  refine ⟨pp, _, rfl, .inr (.of h1), rfl, flat_ints ns, ?_⟩
  show Q (.bl (inV (.int x) (ns.map V.int))) H
  rw [inV_ints]
  exact q H ⟨O, W.pop.pop⟩⟩
theorem c_inLI (x : Int) (ns : List Int) : C2 X H0 Oc .In (.va (.int x)) (.bw (.lst (ns.map .int))) (decide (x ∈ ns)) := ⟨_, op_in_seq, fun G S H v w Q ⟨O, W⟩ q => by
  obtain ⟨r1, r2⟩ := vb2 W
  obtain ⟨pp, vs, rfl, h1, h2⟩ := r2
  obtain rfl : v = .int x := r1
  have e := Reps.ints h2
  subst e
  refine ⟨pp, _, rfl, .inl (.of h1), rfl, flat_ints ns, ?_⟩
  show Q (.bl (inV (.int x) (ns.map V.int))) H
  rw [inV_ints]
  exact q H ⟨O, W.pop.pop⟩⟩
theorem c_ninLI (x : Int) (ns : List Int) : C2 X H0 Oc .NotIn (.va (.int x)) (.bw (.lst (ns.map .int))) (!decide (x ∈ ns)) := ⟨_, op_notIn_seq, fun G S H v w Q ⟨O, W⟩ q => by
  obtain ⟨r1, r2⟩ := vb2 W
  obtain ⟨pp, vs, rfl, h1, h2⟩ := r2
  obtain rfl : v = .int x := r1
  have e := Reps.ints h2
  subst e
  refine ⟨pp, _, rfl, .inl (.of h1), rfl, flat_ints ns, ?_⟩
  show Q (.bl (!inV (.int x) (ns.map V.int))) H
  rw [inV_ints]
  exact q H ⟨O, W.pop.pop⟩⟩
/-! ### max of a list -/
def mxI (n : Int) (ns : List Int) : Int := ns.foldl max n
theorem mxI_ge (n : Int) : ∀ (ns : List Int), n ≤ mxI n ns ∧ ∀ y ∈ ns, y ≤ mxI n ns
  | [] => ⟨Int.le_refl _, fun _ h => nomatch h⟩
  | m :: ns => by
    obtain ⟨h1, h2⟩ := mxI_ge (max n m) ns
    refine ⟨Int.le_trans (Int.le_max_left n m) h1, fun y hy => ?_⟩
    rcases List.mem_cons.mp hy with rfl | hy
    · exact Int.le_trans (Int.le_max_right n y) h1
    · exact h2 y hy
theorem mxI_mem (n : Int) : ∀ (ns : List Int), mxI n ns = n ∨ mxI n ns ∈ ns
  | [] => .inl rfl
  | m :: ns => by
    rcases mxI_mem (max n m) ns with h | h
    · have : mxI n (m :: ns) = max n m := h
      rw [this]
      rcases Int.le_total n m with q | q
      · rw [Int.max_eq_right q]; exact .inr List.mem_cons_self
      · rw [Int.max_eq_left q]; exact .inl rfl
    · exact .inr (List.mem_cons_of_mem _ h)
theorem e_maxL {n : Int} (hm : X.mg "max" = none) (hc : X.calm = true) (ha : Ev X H0 Oc Γ a (.bw (.lst ((n :: ns).map .int)))) (hg : Gl X "max" := by rfl) (he : starEach [a] X.env = (false, eval a X.env) :: starEach [] X.env := by rfl) (hpl : (backTo pos (starEach [] X.env)).any (·.1) = false := by rfl) :
    Ev X H0 Oc Γ (.Call (.Name "max" p) [a] [] pos) (.va (.int (mxI n ns))) := ev_b1 (cr_max hc) ha hm (by decide +kernel) hg (fun G S H v Q ⟨O, W⟩ q => by
      obtain ⟨u, g1, t, vs, rfl, h1, h2⟩ := W.head
      cases g1
      have e := Reps.ints h2
      subst e
      refine ⟨t, n :: ns, rfl, .of h1, Nat.zero_lt_succ _, fun m hm hy => ?_⟩
      have e : m = mxI n ns := by
        obtain ⟨g1, g2⟩ := mxI_ge n ns
        have k1 : m ≤ mxI n ns := by
          rcases List.mem_cons.mp hm with rfl | hm
          · exact g1
          · exact g2 m hm
        have k2 : mxI n ns ≤ m := by
          rcases mxI_mem n ns with z | z
          · rw [z]; exact hy n List.mem_cons_self
          · exact hy _ (List.mem_cons_of_mem _ z)
        omega
      rw [e]
      exact q _ H ⟨O, W.pop.flat rfl (show Rep X.K H (.int (mxI n ns)) (.int (mxI n ns)) from rfl)⟩) (by decide) (by decide) he hpl
/-- max(xs, default=i) -/
def mxDef (i : Int) : List Int → Int
  | [] => i
  | n :: ns => mxI n ns
def rMxD (K : PySem.W.Frag) : List V → List V → Hp → VK → Prop := fun xs zs H Q => ∃ (t : Addr) (ns : List Int) (i : Int), xs = [.ref t] ∧ zs = [.int i] ∧ SqL K H t (ns.map V.int) ∧ Q (.int (mxDef i ns)) H
theorem reads_ints {h : Heap} : ∀ {ns : List Int} {us : List Value}, IntsAre us ns → ReadsAll h us (ns.map PyData.int) []
  | _, _, .nil => .nil
  | _, _, .cons n t r => .cons (as := []) (.int n t) (reads_ints r)
theorem alikes_ints (ns : List Int) : PySem.W.AlikeAll (ns.map PyData.int) := by
  refine ⟨fun x hx y hy => ?_, fun x hx => ?_⟩
  · obtain ⟨i, _, rfl⟩ := List.mem_map.mp hx
    obtain ⟨j, _, rfl⟩ := List.mem_map.mp hy
    rfl
  · obtain ⟨i, _, rfl⟩ := List.mem_map.mp hx
    exact fun z => nomatch z
theorem depth_ints : ∀ ns : List Int, PyData.depthAll (ns.map PyData.int) = 0
  | [] => rfl
  | n :: ns => by show max 0 (PyData.depthAll (ns.map PyData.int)) = 0; rw [depth_ints ns]; rfl
theorem cr_mxD (hc : X.calm = true) (hu : X.A.units + 64 < cLine) : CallRK X (.builtin "max") [Str.ofString "default"] (rMxD X.K) := by
  intro pins s σ H xs zs us ws Q I r rz h
  obtain ⟨t, ns, i, rfl, rfl, hs, q⟩ := h
  obtain ⟨its, rv, hl, _⟩ := I.list hs
  obtain ⟨w1, rfl, tk, e1⟩ := vals1 rz
  rw [Vals.ref1 r, e1]
  refine PySem.W.max_list_default (xs := ns.map PyData.int) (I.ok.hd hc) hl.isList (by simpa using reads_ints rv.ints) (alikes_ints ns) (by rw [depth_ints]; omega) (fun e0 h' k hk => ?_) (fun y ys n v h' k bs e0 hv hr hk => ?_)
  · cases ns with
    | nil => exact ⟨.int i, H, I.kept hk, ⟨_, rfl⟩, q⟩
    | cons m ns => cases e0
  · cases ns with
    | nil => cases e0
    | cons m ns =>
      obtain ⟨rfl, rfl⟩ := List.cons.inj e0
      rw [PySem.W.maxD_ints] at hr
      cases hr
      exact ⟨.int _, H, I.kept hk, ⟨_, rfl⟩, q⟩
theorem e_mxD {kw : Str} {kp : Pos} (hm : X.mg "max" = none) (hc : X.calm = true) (hu : X.A.units + 64 < cLine) (ha : Ev X H0 Oc Γ a (.bw (.lst (ns.map .int)))) (hb : Ev X H0 Oc Γ b (.va (.int i))) {kws : List Keyword} (hk : ∀ {tb : TE}, PE X b tb → PK X kws (tCons tb tNil)) (hg : Gl X "max" := by rfl)
    (he : starEach [a] X.env = (false, eval a X.env) :: starEach [] X.env := by rfl) (he2 : backTo pos (starEach [a] X.env) = (false, eval a X.env) :: backTo pos (starEach [] X.env) := by rfl) (hpl : (backTo pos (starEach [a] X.env)).any (·.1) = false := by rfl)
    (hall : (backToKw pos (keywordEach kws X.env)).all (·.1.isSome) = true := by rfl) (hno : (backToKw pos (keywordEach kws X.env)).any (·.1.isNone) = false := by rfl) (hks : (backToKw pos (keywordEach kws X.env)).filterMap (·.1) = [Str.ofString "default"] := by rfl) :
    Ev X H0 Oc Γ (.Call (.Name "max" p) [a] kws pos) (.va (.int (mxDef i ns))) := fun Δ τ σ H Q hl w q => by
  refine wpE.of (pe_callBK (cr_mxD hc hu) hg hm (by decide +kernel) (pa_cons pe_wp pa_nil he) (hk pe_wp) (by decide) (by decide) he2 hpl hall hno hks) ?_
  refine ha Δ τ σ H _ hl w fun v H1 w1 => ?_
  refine hb (.bw (.lst (ns.map .int)) :: Δ) (some v :: τ) σ H1 _ (by simp [hl]) w1 fun u H2 ⟨O, w2⟩ => ?_
  obtain ⟨u', e1, r1⟩ := w2.head
  cases e1
  obtain rfl : u = .int i := r1
  obtain ⟨v', e2, t, vs, rfl, h1, h2⟩ := w2.pop.head
  cases e2
  have e := Reps.ints h2
  subst e
  exact ⟨t, ns, i, rfl, rfl, .of h1, q _ H2 ⟨O, w2.pop.pop.flat rfl (show Rep X.K H2 (.int (mxDef i ns)) (.int (mxDef i ns)) from rfl)⟩⟩
end
end Y

namespace Y
open PySem L2
/-! ## [elt for tg in iter for tg1 in range(b) if ..] -/
theorem wipe_sub {σ : L2.St} {vs1 vs : List Nat} (h : ∀ i ∈ vs1, i ∈ vs) : wipe (wipe σ vs1) vs = wipe σ vs := by
  apply List.ext_getElem?
  intro i
  rw [wipe_get, wipe_get, wipe_get, wipe_length]
  by_cases hi : i ∈ vs ∧ i < σ.length
  · rw [if_pos hi, if_pos hi]
  · rw [if_neg hi, if_neg hi, if_neg fun z => hi ⟨h i z.1, z.2⟩]
section
variable {X : Cx} {W : WX} {H0 : Hp} {Oc : List Addr} {Γ : List Sl} {tg tg1 iter b elt : Expr} {ifs : List Expr} {pos pos' p p1 p2 : Pos} {scope : Scope} {own : List (Str × Nat)} {vs1 : List Nat} {rest : List Stmt} {out : Out} {y : Str}
def part2 {α : Type} (m : α → Nat) (pr : α → Nat → Bool) (g : α → Nat → D) (x : α) : List D := ((List.range (m x)).filter (pr x)).map (g x)
theorem lc2_run {α : Type} (xs : List α) (enc : α → D) (m : α → Nat) (pr : α → Nat → Bool) (g : α → Nat → D) (Γe : α → List Sl) (Γf : α → Nat → List Sl) {Δ : List Sl} {τ : List (Option V)} {σ : L2.St} {H : Hp} {Q : VK} {wi : TI} (hl : τ.length = Δ.length) (w : Wf X.K H0 Oc (Δ ++ Γ) (τ ++ σ) H)
    (hwi : ∀ (Δ : List Sl) (τ : List (Option V)) (σ : L2.St) (H : Hp) (R : It → Hp → Prop), τ.length = Δ.length → Wf X.K H0 Oc (Δ ++ Γ) (τ ++ σ) H →
      (∀ J Δh τh H', (∀ H0' Oc', ItOk X.K H0' Oc' J Δh τh (xs.map enc)) → Δh.map Sl.arg = Δh → Wf X.K H0 Oc (Δh ++ (Δ ++ Γ)) (τh ++ (τ ++ σ)) H' → R J H') → wi σ H R)
    (hn : (xs.flatMap (part2 m pr g)).length ≤ 1000000) (hm : ∀ x ∈ xs, m x ≤ 1000000) (hv : ∀ i ∈ vs1, i ∈ own.map (·.2))
    (ht : ∀ x ∈ xs, ∀ H0' Oc' s0 H00 C cl fp, Tgw (blkX X scope s0 H00 C cl fp) H0' Oc' (own.map (·.2)) tg (wipeG (Γ.map Sl.arg) (own.map (·.2))) (.va (enc x)) (Γe x))
    (hst : ∀ x ∈ xs, stab (Γe x) = true ∧ Sub (wipeG (wipeG (Γe x) vs1) (own.map (·.2))) (wipeG (Γ.map Sl.arg) (own.map (·.2))))
    (hb : ∀ x ∈ xs, ∀ H0' Oc' s0 H00 C cl fp, Ev (blkX X scope s0 H00 C cl fp) H0' Oc' (Γe x) b (.va (.int (m x : Int))))
    (ht1 : ∀ x ∈ xs, ∀ k, k < m x → ∀ H0' Oc' s0 H00 C cl fp, Tgw (blkX X scope s0 H00 C cl fp) H0' Oc' vs1 tg1 (wipeG (Γe x) vs1) (.va (.int (k : Int))) (Γf x k))
    (hst1 : ∀ x ∈ xs, ∀ k, k < m x → stab (Γf x k) = true ∧ Sub (wipeG (Γf x k) vs1) (wipeG (Γe x) vs1))
    (hp : ∀ x ∈ xs, ∀ k, k < m x → ∀ H0' Oc' s0 H00 C cl fp, Ets (blkX X scope s0 H00 C cl fp) H0' Oc' (Γf x k) ifs (pr x k))
    (he : ∀ x ∈ xs, ∀ k, k < m x → pr x k = true → ∀ H0' Oc' s0 H00 C cl fp, Ev (blkX X scope s0 H00 C cl fp) H0' Oc' (Γf x k) elt (.va (g x k)))
    (q : ∀ v H', Wf X.K H0 Oc (.ow (.lst (xs.flatMap (part2 m pr g))) :: (Δ ++ Γ)) (some v :: (τ ++ σ)) H' → Q v H') : tLc2 wi (wG X scope tg) tYes (iRng1 (tCons (wE X scope b) tNil)) (wG X scope tg1) (wT X scope ifs) (wE X scope elt) (own.map (·.2)) vs1 σ H Q := by
  refine hwi Δ τ σ H _ hl w fun J Δh τh H1 ok harg w1 => fun Dl hD => ?_
  obtain ⟨O, w1⟩ := w1
  have ok := ok H1 O
  have w1o : WfO X.K H0 Oc O (Δ ++ Γ) (τ ++ σ) H1 := w1.drop ok.len
  have wb0 := w1.toArg'
  rw [List.map_append, harg, List.map_append] at wb0
  have hl3 : (τh ++ τ).length = (Δh ++ Δ.map Sl.arg).length := by simp [hl, ok.len]
  let vs := own.map (·.2)
  let Γw := wipeG (Γ.map Sl.arg) vs
  let A := Δh ++ Δ.map Sl.arg
  let B := τh ++ τ
  have wb : Wf X.K H1 O (A ++ Γw) (B ++ wipe σ vs) H1 := by
    rw [app3, app3] at wb0
    exact wb0.wiped hl3 _
  let res : Nat → List D := fun i => (xs.take i).flatMap (part2 m pr g)
  have resl : ∀ i, (res i).length ≤ 1000000 := fun i => by
    refine Nat.le_trans ?_ hn
    have e : xs.flatMap (part2 m pr g) = res i ++ (xs.drop i).flatMap (part2 m pr g) := by
      show _ = (xs.take i).flatMap _ ++ _
      rw [← List.flatMap_append, List.take_append_drop]
    rw [e, List.length_append]
    exact Nat.le_add_right _ _
  have stA : stab A = true := by rw [stab_app, ok.st, stab_arg]; rfl
  refine ⟨fun i z H => z = xs.length - i ∧ i ≤ xs.length ∧ Wf X.K H1 O (.ow (.lst (res i)) :: (A ++ Γw)) (some (.ref Dl) :: (B ++ wipe σ vs)) H, ⟨xs.length, by simp, Nat.zero_le _, ?_⟩, ?_⟩
  · obtain ⟨O', wb⟩ := wb
    exact ⟨_, wb.newLst hD Reps.nil⟩
  rintro i z H2 ⟨rfl, hi, w2⟩
  by_cases hlt : i < xs.length
  · have w2' : Wf X.K H1 O ([.ow (.lst (res i))] ++ (Δh ++ (Δ.map Sl.arg ++ Γw))) ([some (.ref Dl)] ++ (τh ++ (τ ++ wipe σ vs))) H2 := by
      rw [app3 (a := Δh), app3 (a := τh)]
      exact w2
    obtain ⟨g1, g2⟩ := ok.go i [_] _ [_] _ H2 rfl (by simpa using hlt) w2'
    refine .inr ⟨g1, fun H' => Wf X.K H1 O (.ow (.lst (res (i + 1))) :: (A ++ Γw)) (some (.ref Dl) :: (B ++ wipe σ vs)) H', fun H' q1 => ⟨xs.length - (i + 1), by omega, rfl, hlt, q1⟩, fun yv H' yy => ?_⟩
    obtain ⟨d, hd, w3⟩ := g2 yv H' yy
    have ex : xs[i]? = some xs[i] := List.getElem?_eq_getElem hlt
    generalize xs[i] = x at ex
    have hx : x ∈ xs := List.mem_of_getElem? ex
    rw [List.getElem?_map, ex] at hd
    have hd' := Option.some.inj hd
    subst hd'
    have hres : res (i + 1) = res i ++ part2 m pr g x := by
      show (xs.take (i + 1)).flatMap _ = (xs.take i).flatMap _ ++ _
      rw [List.take_add_one, ex, List.flatMap_append]
      simp
    have w3' : Wf X.K H1 O (.va (enc x) :: ((.ow (.lst (res i)) :: A) ++ Γw)) (some yv :: ((some (.ref Dl) :: B) ++ wipe σ vs)) H' := by
      have e1 : [Sl.ow (.lst (res i))] ++ (Δh ++ (Δ.map Sl.arg ++ Γw)) = (.ow (.lst (res i)) :: A) ++ Γw := by
        show _ :: (Δh ++ (Δ.map Sl.arg ++ Γw)) = _ :: ((Δh ++ Δ.map Sl.arg) ++ Γw)
        rw [app3]
      have e2 : [some (V.ref Dl)] ++ (τh ++ (τ ++ wipe σ vs)) = (some (.ref Dl) :: B) ++ wipe σ vs := by
        show _ :: (τh ++ (τ ++ wipe σ vs)) = _ :: ((τh ++ τ) ++ wipe σ vs)
        rw [app3]
      rw [e1, e2] at w3
      exact w3
    have hlA : ∀ r : List D, (some (V.ref Dl) :: B).length = (Sl.ow (.lst r) :: A).length := fun _ => congrArg Nat.succ hl3
    obtain ⟨st1, st2⟩ := hst x hx
    refine fun s0 H00 C cl fp => ht x hx H1 O s0 H00 C cl fp (.ow (.lst (res i)) :: A) (some (.ref Dl) :: B) _ H' yv _ (hlA _) w3' fun σ2 H3 hw2 w4 => ?_
    rw [wipe_wipe] at hw2
    refine ⟨hw2, ?_⟩
    simp only [tYes, if_true]
    refine fun s0 H00 C cl fp => hb x hx H1 O s0 H00 C cl fp (.ow (.lst (res i)) :: A) (some (.ref Dl) :: B) σ2 H3 _ (hlA _) w4 fun v H4 ⟨O4, w5⟩ => ?_
    obtain ⟨v', e1, r1⟩ := w5.head
    cases e1
    obtain rfl : v = .int (m x : Int) := r1
    have hmx := hm x hx
    refine ⟨(m x : Int), rfl, by omega, by omega, ?_⟩
    let pt : Nat → List D := fun j => res i ++ ((List.range j).filter (pr x)).map (g x)
    have w6 : Wf X.K H1 O ((.ow (.lst (pt 0)) :: A) ++ wipeG (Γe x) vs1) ((some (.ref Dl) :: B) ++ wipe σ2 vs1) H4 := by
      have e : pt 0 = res i := by show res i ++ _ = _; simp
      rw [e]
      have w5' : Wf X.K H1 O ((.ow (.lst (res i)) :: A) ++ Γe x) ((some (.ref Dl) :: B) ++ σ2) H4 := ⟨O4, w5.pop⟩
      exact Wf.wiped (hlA _) w5' _
    refine ⟨fun j z H => z = m x - j ∧ j ≤ m x ∧ Wf X.K H1 O ((.ow (.lst (pt j)) :: A) ++ wipeG (Γe x) vs1) ((some (.ref Dl) :: B) ++ wipe σ2 vs1) H, ⟨m x, by simp, Nat.zero_le _, w6⟩, ?_⟩
    rintro j z H5 ⟨rfl, hj, w7⟩
    by_cases hjl : j < m x
    · refine .inr ⟨hjl, fun H' => Wf X.K H1 O ((.ow (.lst (pt (j + 1))) :: A) ++ wipeG (Γe x) vs1) ((some (.ref Dl) :: B) ++ wipe σ2 vs1) H', fun H' q1 => ⟨m x - (j + 1), by omega, rfl, hjl, q1⟩, fun v H' yy => ?_⟩
      obtain ⟨eH, ev⟩ := yy
      subst eH
      have ev : v = .int (j : Int) := by rw [ev, Int.zero_add]
      subst ev
      obtain ⟨sf1, sf2⟩ := hst1 x hx j hjl
      have hpt : pt (j + 1) = if pr x j = true then pt j ++ [g x j] else pt j := by
        show res i ++ ((List.range (j + 1)).filter (pr x)).map (g x) = if pr x j = true then (res i ++ ((List.range j).filter (pr x)).map (g x)) ++ [g x j] else res i ++ ((List.range j).filter (pr x)).map (g x)
        rw [List.range_succ, List.filter_append]
        cases hp' : pr x j <;> simp [hp']
      have hlp : (pt j).length ≤ 1000000 := by
        refine Nat.le_trans ?_ (resl (i + 1))
        rw [hres]
        show (res i ++ _).length ≤ _
        rw [List.length_append, List.length_append]
        refine Nat.add_le_add_left ?_ _
        unfold part2
        rw [List.length_map, List.length_map]
        have e : List.range (m x) = List.range j ++ (List.range' j (m x - j)) := by
          have := List.range'_append_1 (s := 0) (m := j) (n := m x - j)
          rw [Nat.zero_add, show j + (m x - j) = m x by omega] at this
          rw [List.range_eq_range', List.range_eq_range', this]
        rw [e, List.filter_append, List.length_append]
        exact Nat.le_add_right _ _
      obtain ⟨O7, w7'⟩ := w7
      have w8 : Wf X.K H1 O (.va (.int (j : Int)) :: ((.ow (.lst (pt j)) :: A) ++ wipeG (Γe x) vs1)) (some (.int (j : Int)) :: ((some (.ref Dl) :: B) ++ wipe σ2 vs1)) H' := ⟨O7, w7'.flat rfl (show Rep X.K H' (.int (j : Int)) (.int (j : Int)) from rfl)⟩
      refine fun s0 H00 C cl fp => ht1 x hx j hjl H1 O s0 H00 C cl fp (.ow (.lst (pt j)) :: A) (some (.ref Dl) :: B) _ H' _ _ (hlA _) w8 fun σ3 H6 hw3 w9 => ?_
      rw [wipe_wipe] at hw3
      refine ⟨hw3, ?_⟩
      have back : ∀ {r : List D} {H7 : Hp}, Wf X.K H1 O ((.ow (.lst r) :: A) ++ Γf x j) ((some (.ref Dl) :: B) ++ σ3) H7 → Wf X.K H1 O ((.ow (.lst r) :: A) ++ wipeG (Γe x) vs1) ((some (.ref Dl) :: B) ++ wipe σ2 vs1) H7 := fun {r H7} w => by
        have z := (w.wiped (hlA r) vs1).sub (Sub.app sf2)
        rw [hw3] at z
        exact z
      have cont : ∀ (bb : Bool) (H7 : Hp), bb = pr x j → Wf X.K H1 O ((.ow (.lst (pt j)) :: A) ++ Γf x j) ((some (.ref Dl) :: B) ++ σ3) H7 →
          (if bb = true then wE X scope elt σ3 H7 fun y H8 => ∃ acc, H8 Dl = some (.lst acc) ∧ acc.length < sizeLine ∧ Wf X.K H1 O ((.ow (.lst (pt (j + 1))) :: A) ++ wipeG (Γe x) vs1) ((some (.ref Dl) :: B) ++ wipe σ2 vs1) (upd H8 Dl (.lst (acc ++ [y])))
            else Wf X.K H1 O ((.ow (.lst (pt (j + 1))) :: A) ++ wipeG (Γe x) vs1) ((some (.ref Dl) :: B) ++ wipe σ2 vs1) H7) := fun bb H7 hbb wx => by
        subst hbb
        cases hpx : pr x j with
        | false =>
          rw [hpt, hpx]
          exact back wx
        | true =>
          refine fun s0 H00 C cl fp => he x hx j hjl hpx H1 O s0 H00 C cl fp (.ow (.lst (pt j)) :: A) (some (.ref Dl) :: B) σ3 H7 _ (hlA _) wx fun y' H8 ⟨O8, wy⟩ => ?_
          obtain ⟨pp, oo, e1, k2, k3, k4, k5⟩ := wy.pop.head
          cases e1
          obtain ⟨v', e2, rv⟩ := wy.head
          cases e2
          cases oo <;> first | exact k5.elim | skip
          rename_i us
          have k5' : Reps X.K (cut H8 O8) (pt j) us := k5
          refine ⟨us, k4, ?_, ?_⟩
          · rw [k5'.len, sizeLine_eq]
            omega
          · rw [hpt, hpx]
            refine back ⟨O8, ?_⟩
            have z := wy.pop.mut (i := 0) (d' := .lst (pt j ++ [g x j])) (o' := .lst (us ++ [y'])) (by
              show stab ((Sl.ow (.lst (pt j)) :: A) ++ Γf x j) = true
              rw [stab_app, sf1, stab_cons, stA]
              rfl) rfl rfl (k5'.app (Reps.one rv))
            exact z
      have tst := hp x hx j hjl
      match ifs, tst with
      | [], tst => exact cont true H6 (tst H1 O s0 H00 C cl fp).symm w9
      | [c], tst => exact fun s0 H00 C cl fp => tst H1 O s0 H00 C cl fp (.ow (.lst (pt j)) :: A) (some (.ref Dl) :: B) σ3 H6 _ (hlA _) w9 fun H7 wx => cont _ H7 rfl wx
      | _ :: _ :: _, tst => exact (tst H1 O s0 H00 C cl fp).elim
    · have e : j = m x := by omega
      subst e
      refine .inl ⟨by show (m x : Int).toNat ≤ m x; omega, ?_⟩
      have ep : pt (m x) = res (i + 1) := by rw [hres] <;> rfl
      rw [← ep]
      have z := (w7.wiped (hlA _) vs).sub (Sub.app st2)
      rw [wipe_sub hv, hw2] at z
      exact z
  · have e : i = xs.length := by omega
    subst e
    have w2' : Wf X.K H1 O ([.ow (.lst (res xs.length))] ++ (Δh ++ (Δ.map Sl.arg ++ Γw))) ([some (.ref Dl)] ++ (τh ++ (τ ++ wipe σ vs))) H2 := by
      rw [app3 (a := Δh), app3 (a := τh)]
      exact w2
    refine .inl ⟨ok.stop _ [_] _ [_] _ H2 rfl (by simp) w2', ?_⟩
    have w3 := w2.only
    have e : res xs.length = xs.flatMap (part2 m pr g) := by
      show (xs.take xs.length).flatMap _ = _
      rw [List.take_length]
    rw [e] at w3
    exact q _ H2 (w1o.after w3 rfl)
/-- y = [elt for tg in iter for tg1 in range(b) if ..] -/
theorem d_setLc2 {α : Type} (n : Nat) (xs : List α) (enc : α → D) (m : α → Nat) (pr : α → Nat → Bool) (g : α → Nat → D) (Γe : α → List Sl) (Γf : α → Nat → List Sl) (hc : X.calm = true) (hN : X.N.Nodup) (hmg : X.mg "range" = none) (ok : BlkOk X.N X.env.scope scope own) (hi : Ei X H0 Oc Γ tg iter (xs.map enc))
    (hn : (xs.flatMap (part2 m pr g)).length ≤ 1000000) (hm : ∀ x ∈ xs, m x ≤ 1000000) (hv : ∀ i ∈ vs1, i ∈ own.map (·.2))
    (ht : ∀ x ∈ xs, ∀ H0' Oc' s0 H00 C cl fp, Tgw (blkX X scope s0 H00 C cl fp) H0' Oc' (own.map (·.2)) tg (wipeG (Γ.map Sl.arg) (own.map (·.2))) (.va (enc x)) (Γe x))
    (hst : ∀ x ∈ xs, stab (Γe x) = true ∧ Sub (wipeG (wipeG (Γe x) vs1) (own.map (·.2))) (wipeG (Γ.map Sl.arg) (own.map (·.2))))
    (hb : ∀ x ∈ xs, ∀ H0' Oc' s0 H00 C cl fp, Ev (blkX X scope s0 H00 C cl fp) H0' Oc' (Γe x) b (.va (.int (m x : Int))))
    (ht1 : ∀ x ∈ xs, ∀ k, k < m x → ∀ H0' Oc' s0 H00 C cl fp, Tgw (blkX X scope s0 H00 C cl fp) H0' Oc' vs1 tg1 (wipeG (Γe x) vs1) (.va (.int (k : Int))) (Γf x k))
    (hst1 : ∀ x ∈ xs, ∀ k, k < m x → stab (Γf x k) = true ∧ Sub (wipeG (Γf x k) vs1) (wipeG (Γe x) vs1))
    (hp : ∀ x ∈ xs, ∀ k, k < m x → ∀ H0' Oc' s0 H00 C cl fp, Ets (blkX X scope s0 H00 C cl fp) H0' Oc' (Γf x k) ifs (pr x k))
    (he : ∀ x ∈ xs, ∀ k, k < m x → pr x k = true → ∀ H0' Oc' s0 H00 C cl fp, Ev (blkX X scope s0 H00 C cl fp) H0' Oc' (Γf x k) elt (.va (g x k)))
    (hr : Sds X W H0 Oc (Γ.set n (.ow (.lst (xs.flatMap (part2 m pr g))))) rest out)
    (hgl : ∀ s0 H00 C cl fp, Gl (blkX X scope s0 H00 C cl fp) "range" := by intros; rfl) (hs1 : ∀ s0 H00 C cl fp, starEach [b] (blkX X scope s0 H00 C cl fp).env = [(false, eval b (blkX X scope s0 H00 C cl fp).env)] := by intros; rfl) (hs2 : ∀ s0 H00 C cl fp, starEach [b] (blkX X scope s0 H00 C cl fp).env = (false, eval b (blkX X scope s0 H00 C cl fp).env) :: starEach [] (blkX X scope s0 H00 C cl fp).env := by intros; rfl)
    (hy : X.N[n]? = some y := by rfl) (hyl : X.env.scope.names.lookup y = some .local := by rfl)
    (hsw : swapsWith (.ListComp elt [⟨tg, iter, [], 0⟩, ⟨tg1, .Call (.Name "range" p1) [b] [] p2, ifs, 0⟩] scope pos) (some (.Name y p)) pos'.line X.env = pure true := by rfl)
    (hs : ∀ x, foldedSetIterable iter X.env x = pure x := by intro _; rfl) (hf2 : ∀ env x, foldedSetIterable (.Call (.Name "range" p1) [b] [] p2) env x = pure x := by intro _ _; rfl) :
    Sds X W H0 Oc Γ (.Assign [.Name y p] (.ListComp elt [⟨tg, iter, [], 0⟩, ⟨tg1, .Call (.Name "range" p1) [b] [] p2, ifs, 0⟩] scope pos) pos' :: rest) out := fun Δ τ σ H D hl st w k => by
  obtain ⟨wi, hpi, hwi⟩ := hi
  refine wpSs.of (pss_cons (ps_setLc2 (g := wG X scope tg) (tt := tYes) (wi1 := iRng1 (tCons (wE X scope b) tNil)) (g1 := wG X scope tg1) (tt1 := wT X scope ifs) (te := wE X scope elt) hc hN hy hyl hsw hpi ok hv
    (fun s0 H00 C cl fp => ⟨fun pins s σ H v u Q I r h => h s0 H00 C cl fp pins s u I r⟩) (fun _ _ _ _ _ => pts_nil) (fun s0 H00 C cl fp => pi_range1 (hgl s0 H00 C cl fp) hmg (pa_cons ⟨fun pins s σ H Q I h => h s0 H00 C cl fp pins s I⟩ pa_nil (hs2 s0 H00 C cl fp)) (hs1 s0 H00 C cl fp))
    (fun s0 H00 C cl fp => ⟨fun pins s σ H v u Q I r h => h s0 H00 C cl fp pins s u I r⟩) (fun s0 H00 C cl fp => pts_wT) (fun s0 H00 C cl fp => ⟨fun pins s σ H Q I h => h s0 H00 C cl fp pins s I⟩) hs hf2) pss_wp) ?_
  exact lc2_run xs enc m pr g Γe Γf hl w hwi hn hm hv ht hst hb ht1 hst1 hp he fun v H1 ⟨O, w1⟩ => hr Δ τ _ H1 D hl st ⟨O, w1.set hl⟩ k
end
end Y

/-! # sorted of any number of tuples, sum of a tuple, tuple.count, list.insert, tuple * int -/
namespace Srt3
open PySem PySem.Spec PyProof.Rows
section
variable {prog : Program} {w : World} {A : Around} {E : Value → Shared → Prop} {s : Shared}
theorem swo_rk {r : Value → Int} : SrtO.Swo (fun v u : Value => decide (r v < r u)) := ⟨fun x y h => by
    have := of_decide_eq_true h
    exact decide_eq_false (by omega), fun x y z h1 h2 => by
    have := of_decide_eq_false h1
    have := of_decide_eq_false h2
    exact decide_eq_false (by omega)⟩
theorem tups_sortableO {d : Nat} {B : Int} {a : Addr} {vs : List Value} {r : Value → Int} (hd : 1 ≤ d) (h2 : 2 ≤ vs.length) (x : TS.TupsOk s.heap d B vs) (hr : ∀ v, v ∈ vs → ∀ ns, TS.TupInts s.heap v ns → r v = TS.code B ns) (ha : ∀ o, s.heap.get? a = some o → o.cls ≠ .type "tuple") :
    SrtO.SortableO prog w A s a vs fun v u => decide (r v < r u) := by
  intro h' keep
  have kp : ∀ b o, s.heap.get? b = some o → o.cls = .type "tuple" → h'.get? b = some o := fun b o e c => keep b o (fun z => by subst z; exact ha o e c) e
  have x' : TS.TupsOk h' d B vs := x.keeps kp
  have at' : ∀ v ∈ vs, ∃ ns, TS.TupInts h' v ns ∧ ns.length = d ∧ TS.Bd B ns ∧ r v = TS.code B ns := fun v hv => by
    obtain ⟨ns, t, l, b⟩ := x v hv
    exact ⟨ns, t.keeps kp, l, b, hr v hv ns t⟩
  obtain ⟨fs, k, hl, hi⟩ := TS.firsts_of hd vs x'
  refine ⟨tuples' true, fun Q E hq => ?_, fun p q hp hq => ?_⟩
  · refine PySem.W.kat_kind (T := .type "int") k (by omega) (fun f hf => ?_) (by rfl) ?_
    · obtain ⟨n, t, rfl⟩ := hi f hf
      exact PySem.W.Looks.now
    · have e : (Value.type "int" != Value.type "tuple") = true := by first | decide +kernel | rfl | decide
      rw [e]
      exact hq
  · obtain ⟨ns, tp, lp, bp, ep⟩ := at' p.1 hp
    obtain ⟨ms, tq, lq, bq, eq2⟩ := at' q.1 hq
    have el : SrtO.lt2 (fun v u => decide (r v < r u)) p q = decide (TS.code B ns < TS.code B ms) := by
      show decide (r p.1 < r q.1) = _
      rw [ep, eq2]
    rw [el]
    obtain ⟨a1, xs, e1, ⟨o, ho, hc, n, hdt⟩, i⟩ := tp
    obtain ⟨a2, ys, e2, ⟨o', ho', hc', n', hdt'⟩, i'⟩ := tq
    rw [e1, e2]
    refine PySem.W.kat_lt ho hdt ho' hdt' ?_
    have sz : decide (xs.size < ys.size) = false := by
      have l1 := i.length
      have l2 := i'.length
      rw [Array.length_toList] at l1 l2
      exact decide_eq_false (by omega)
    rw [sz]
    exact TS.lex_ints 0 i i' (by omega) bp bq ⟨rfl, rfl⟩
theorem sum_intTupG {l : Addr} {xs : Array (Int × Tok)} {Q : Value → Shared → Prop} (hh : A.handled = none) (ht : s.heap.IsTuple l (intItems xs))
    (h : ∀ h' tk t', (∀ b o, s.heap.get? b = some o → h'.get? b = some o) → Q (.int (preSum (numAt xs) xs.size) t') { s with heap := h', toks := tk }) :
    wpAny (model prog w) A (call (.builtin "sum") [.ref l]) Q E s := by
  have hlt : l < s.heap.objs.size := by obtain ⟨_, e, _⟩ := ht; exact Heap.lt_size e
  have hsz : (s.heap.push { cls := .type "tuple_iterator", data := .fields #[.ref l, .int 0 0] }).objs.size = s.heap.objs.size + 1 := Heap.size_push ..
  refine call_sum_walkG (wpAny_pyIter_tuple ht ?_)
  refine ⟨_, _, _, _, _, _, numAt xs, rfl, Walks.tuple (A := A.in1) hh _ l (Nat.ne_of_lt hlt) (intItems xs), ⟨⟨_, Heap.get?_push_size _ rfl, rfl, rfl⟩, ht.push _⟩, fun b hb => ?_, (fun _ _ => intItems_at), fun h' tk t' hk => ?_⟩
  · show b < (s.heap.push _).objs.size
    rw [hsz]
    rcases List.mem_cons.mp hb with rfl | hb
    · exact Nat.lt_succ_self _
    · rcases List.mem_cons.mp hb with rfl | hb
      · exact Nat.lt_succ_of_lt hlt
      · cases hb
  · have := h h' tk t' fun b o e => by
      refine hk b o (fun hm => ?_) (Heap.get?_push_of_some _ e)
      rcases List.mem_cons.mp hm with e1 | hm
      · exact absurd (e1 ▸ Heap.lt_size e) (Nat.lt_irrefl _)
      · cases hm
    simpa [intItems] using this
end
open L2
section
variable {X : Cx}
def rSortB (K : PySem.W.Frag) (d : Nat) (B : Int) : List V → Hp → VK → Prop := fun vs H Q => ∃ (a : Addr) (xs : List V), vs = [V.ref a] ∧ SqL K H a xs ∧ (∀ x ∈ xs, ∃ ns, TupI K H x ns ∧ ns.length = d ∧ TS.Bd B ns) ∧
  ∀ (ys : List V) (p : Addr), ys.Perm xs → ys.Pairwise (fun x y => ∀ n m, TupI K H x n → TupI K H y m → TS.code B n ≤ TS.code B m) → H p = none → Q (.ref p) (upd H p (.lst ys))
theorem cr_sortB {d : Nat} {B : Int} (hd : 1 ≤ d) : CallR X (.builtin "sorted") (rSortB X.K d B) := by
  intro pins s σ H vs us Q I r h
  obtain ⟨a, xs, rfl, hs, hx, q⟩ := h
  obtain ⟨its, rv, hl, hz⟩ := I.list hs
  rw [Vals.ref1 r]
  obtain ⟨e1, e2⟩ := bkV_refs rv fun x m => by
    obtain ⟨ns, ⟨t, e, _⟩, _⟩ := hx x m
    exact ⟨t, e⟩
  have tok : TS.TupsOk s.heap d B its := fun v hv => by
    obtain ⟨t, rfl⟩ := e2 v hv
    have hm : V.ref t ∈ xs := by
      rw [e1]
      exact List.mem_map.mpr ⟨_, hv, rfl⟩
    obtain ⟨ns, ⟨t', e, ht⟩, hn, hb⟩ := hx _ hm
    cases e
    exact ⟨ns, tupI_raw I ht, hn, hb⟩
  refine SrtO.sorted_ord (ltv := fun v u => decide (TS.code B (TS.intsOf s.heap v) < TS.code B (TS.intsOf s.heap u))) (swo_rk (r := fun v => TS.code B (TS.intsOf s.heap v))) hl.isList (by rw [← rv.length]; exact hz) (fun h2 g b hb kk => ?_) fun out h1 h2 => ?_
  · refine tups_sortableO (d := d) (B := B) (r := fun v => TS.code B (TS.intsOf s.heap v)) (s := { s with heap := g }) hd h2 (tok.keeps fun b o e _ => (kk b o e).2) (fun v hv ns t => ?_) fun o e => ?_
    · obtain ⟨ms, tm, _, _⟩ := tok v hv
      have t2 := tm.keeps (h' := g) fun b o e _ => (kk b o e).2
      have a1 := t2.ints
      have a2 : TS.intsOf g v = ns := t.ints
      show TS.code B (TS.intsOf s.heap v) = _
      rw [tm.ints, ← a1, a2]
    · have e' : some o = some (seqObj "list" its.toArray 0) := e.symm.trans hb
      cases e'
      intro c
      exact absurd (Value.type.inj c) (by decide)
  · obtain ⟨ep, he'⟩ := PyProof.Rows.sortedAll_at s.heap its out.toArray
    have hperm : out.Perm its := h2.perm
    have h3 : ∀ u ∈ out, ∃ a, u = Value.ref a := fun u hu => e2 u (hperm.mem_iff.mp hu)
    have hp : (out.map bkV).Perm xs := by
      rw [e1]
      exact hperm.map bkV
    have hlen : (out.map bkV).length ≤ sizeLine := by
      rw [hp.length_eq]
      exact hz
    refine ⟨.ref _, upd H (s.heap.objs.size + 1) (.lst (out.map bkV)), I.laid (t' := s.toks) (fun _ _ => PyProof.Rows.sortedAll_old) (Nat.le_succ _) ⟨hlen, out, ep, bkV_vals h3, he'⟩, rfl, q _ _ hp ?_ (I.hok.fresh (Nat.le_succ _))⟩
    rw [List.pairwise_map]
    refine List.Pairwise.imp (fun {u v} huv n m hn hm => ?_) h1
    obtain ⟨t, et, ht⟩ := hn
    obtain ⟨t', et', ht'⟩ := hm
    have eu := bkV_ref et
    have ev := bkV_ref et'
    have i1 : TS.intsOf s.heap u = n := by
      rw [eu]
      exact (tupI_raw I ht).ints
    have i2 : TS.intsOf s.heap v = m := by
      rw [ev]
      exact (tupI_raw I ht').ints
    have huv := of_decide_eq_false huv
    rw [i1, i2] at huv
    omega
def rSumT (K : PySem.W.Frag) : List V → Hp → VK → Prop := fun vs H Q => ∃ (a : Addr) (ns : List Int), vs = [V.ref a] ∧ SqT K H a (ns.map V.int) ∧ Q (.int ns.sum) H
theorem cr_sumT (hc : X.calm = true) : CallR X (.builtin "sum") (rSumT X.K) := by
  intro pins s σ H vs us Q I r h
  obtain ⟨a, ns, rfl, hs, q⟩ := h
  obtain ⟨its, rv, ht, hz⟩ := I.tuple hs
  rw [Vals.ref1 r]
  have hi := rv.ints
  obtain ⟨xs, e⟩ := hi.allInts.items
  have hn : numsOf (intItems xs).toList = ns := by rw [← e]; exact hi.numsOf
  rw [nums_intItems] at hn
  have ht' : s.heap.IsTuple a its.toArray := ht
  rw [e] at ht'
  refine sum_intTupG (I.ok.hd hc) ht' fun h' tk t' hk => ⟨.int _, H, I.kept hk, ⟨t', ?_⟩, q⟩
  rw [preSum_eq, List.take_of_length_le (by simp), hn]
def rCntT (K : PySem.W.Frag) : V → List V → Hp → VK → Prop := fun x xs H Q => ∃ (p : Addr) (ns : List Int) (k : Int), x = .ref p ∧ xs = [.int k] ∧ SqT K H p (ns.map V.int) ∧ Q (.int (ns.count k : Nat)) H
theorem mt_tcount : MtR X "tuple.count" (rCntT X.K) := by
  intro pins s σ H x xs v us Q I rx rxs h
  obtain ⟨p, ns, k, rfl, rfl, hs, q⟩ := h
  cases rx
  obtain ⟨u, rfl, ru⟩ := rxs.one
  obtain ⟨t, rfl⟩ := ru
  obtain ⟨its, rv, ⟨⟨cls, dd, data, sl⟩, ho, hc, n, hd⟩, hlen⟩ := I.tuple hs
  simp only at hc hd
  subst hc hd
  have hi := ints_of_vals rv
  refine call_meets PySem.F.slot_tuple_count ⟨_, ho, rfl⟩ PySem.F.entry_tuple_count (PySem.F.args_tuple_count_2 _ _)
    (SeqAt.tuple_countAt p its.toArray n dd sl (.int k t) (eqk k)) ⟨ho, fun y hy => (eqk_gives hi y (by simpa using hy)).at _ _, ?_⟩
  have ec : its.toArray.toList.countP (eqk k) = ns.count k := eqk_count hi
  refine ⟨.int (ns.count k : Nat), H, I.tok _, ⟨s.toks, ?_⟩, q⟩
  show Value.int ((its.toArray.toList.countP (eqk k) : Nat) : Int) s.toks = Value.int ((ns.count k : Nat) : Int) s.toks
  rw [ec]
end
end Srt3

namespace Y
open PySem L2
/-! ## [elt for tg in iter for tg1 in iter1 if ..] -/
def wpIt (X : Cx) (tg iter : Expr) : TI := fun σ H R => ∀ (pins : List (Addr × Obj)) (s : Shared), Inv X pins σ H s → wpAny (model X.prog X.w) X.A (eval iter X.env) (fun v s1 => wpAny (model X.prog X.w) X.A (pyIter v) (PIE X pins σ tg R) X.xe s1) X.xe s
section
variable {X : Cx} {W : WX} {H0 : Hp} {Oc : List Addr} {Γ : List Sl} {tg tg1 iter iter1 elt : Expr} {ifs : List Expr} {pos pos' p : Pos} {scope : Scope} {own : List (Str × Nat)} {vs1 : List Nat} {rest : List Stmt} {out : Out} {y : Str}
def wI (X : Cx) (scope : Scope) (tg iter : Expr) : TI := fun σ H R => ∀ s0 H00 C cl fp, wpIt (blkX X scope s0 H00 C cl fp) tg iter σ H R
theorem at1 {α : Type} (a : List α) (s : α) (b c : List α) : ((a ++ (s :: b)) ++ c)[a.length]? = some s := by
  rw [List.append_assoc, List.getElem?_append_right (Nat.le_refl _), Nat.sub_self]
  rfl
theorem set1 {α : Type} (a : List α) (s s' : α) (b c : List α) : ((a ++ (s :: b)) ++ c).set a.length s' = (a ++ (s' :: b)) ++ c := by
  rw [List.append_assoc, List.set_append_right _ _ (Nat.le_refl _), Nat.sub_self, List.append_assoc]
  rfl
def part3 {α β : Type} (ys : α → List β) (pr : α → β → Bool) (g : α → β → D) (x : α) : List D := ((ys x).filter (pr x)).map (g x)
theorem lc2_runG {α β : Type} (xs : List α) (enc : α → D) (ys : α → List β) (enc1 : β → D) (pr : α → β → Bool) (g : α → β → D) (Γe : α → List Sl) (Γf : α → β → List Sl) {Δ : List Sl} {τ : List (Option V)} {σ : L2.St} {H : Hp} {Q : VK} {wi : TI} (hl : τ.length = Δ.length) (w : Wf X.K H0 Oc (Δ ++ Γ) (τ ++ σ) H)
    (hwi : ∀ (Δ : List Sl) (τ : List (Option V)) (σ : L2.St) (H : Hp) (R : It → Hp → Prop), τ.length = Δ.length → Wf X.K H0 Oc (Δ ++ Γ) (τ ++ σ) H →
      (∀ J Δh τh H', (∀ H0' Oc', ItOk X.K H0' Oc' J Δh τh (xs.map enc)) → Δh.map Sl.arg = Δh → Wf X.K H0 Oc (Δh ++ (Δ ++ Γ)) (τh ++ (τ ++ σ)) H' → R J H') → wi σ H R)
    (hn : (xs.flatMap (part3 ys pr g)).length ≤ 1000000) (hv : ∀ i ∈ vs1, i ∈ own.map (·.2))
    (ht : ∀ x ∈ xs, ∀ H0' Oc' s0 H00 C cl fp, Tgw (blkX X scope s0 H00 C cl fp) H0' Oc' (own.map (·.2)) tg (wipeG (Γ.map Sl.arg) (own.map (·.2))) (.va (enc x)) (Γe x))
    (hst : ∀ x ∈ xs, stab (Γe x) = true ∧ Sub (wipeG (wipeG (Γe x) vs1) (own.map (·.2))) (wipeG (Γ.map Sl.arg) (own.map (·.2))))
    (hi1 : ∀ x ∈ xs, ∀ H0' Oc' s0 H00 C cl fp, Ei (blkX X scope s0 H00 C cl fp) H0' Oc' (Γe x) tg1 iter1 ((ys x).map enc1))
    (ht1 : ∀ x ∈ xs, ∀ k ∈ ys x, ∀ H0' Oc' s0 H00 C cl fp, Tgw (blkX X scope s0 H00 C cl fp) H0' Oc' vs1 tg1 (wipeG (Γe x) vs1) (.va (enc1 k)) (Γf x k))
    (hst1 : ∀ x ∈ xs, ∀ k ∈ ys x, stab (Γf x k) = true ∧ Sub (wipeG (Γf x k) vs1) (wipeG (Γe x) vs1))
    (hp : ∀ x ∈ xs, ∀ k ∈ ys x, ∀ H0' Oc' s0 H00 C cl fp, Ets (blkX X scope s0 H00 C cl fp) H0' Oc' (Γf x k) ifs (pr x k))
    (he : ∀ x ∈ xs, ∀ k ∈ ys x, pr x k = true → ∀ H0' Oc' s0 H00 C cl fp, Ev (blkX X scope s0 H00 C cl fp) H0' Oc' (Γf x k) elt (.va (g x k)))
    (q : ∀ v H', Wf X.K H0 Oc (.ow (.lst (xs.flatMap (part3 ys pr g))) :: (Δ ++ Γ)) (some v :: (τ ++ σ)) H' → Q v H') : tLc2 wi (wG X scope tg) tYes (wI X scope tg1 iter1) (wG X scope tg1) (wT X scope ifs) (wE X scope elt) (own.map (·.2)) vs1 σ H Q := by
  refine hwi Δ τ σ H _ hl w fun J Δh τh H1 ok harg w1 => fun Dl hD => ?_
  obtain ⟨O, w1⟩ := w1
  have ok := ok H1 O
  have w1o : WfO X.K H0 Oc O (Δ ++ Γ) (τ ++ σ) H1 := w1.drop ok.len
  have wb0 := w1.toArg'
  rw [List.map_append, harg, List.map_append] at wb0
  have hl3 : (τh ++ τ).length = (Δh ++ Δ.map Sl.arg).length := by simp [hl, ok.len]
  let vs := own.map (·.2)
  let Γw := wipeG (Γ.map Sl.arg) vs
  let A := Δh ++ Δ.map Sl.arg
  let B := τh ++ τ
  have wb : Wf X.K H1 O (A ++ Γw) (B ++ wipe σ vs) H1 := by
    rw [app3, app3] at wb0
    exact wb0.wiped hl3 _
  let res : Nat → List D := fun i => (xs.take i).flatMap (part3 ys pr g)
  have resl : ∀ i, (res i).length ≤ 1000000 := fun i => by
    refine Nat.le_trans ?_ hn
    have e : xs.flatMap (part3 ys pr g) = res i ++ (xs.drop i).flatMap (part3 ys pr g) := by
      show _ = (xs.take i).flatMap _ ++ _
      rw [← List.flatMap_append, List.take_append_drop]
    rw [e, List.length_append]
    exact Nat.le_add_right _ _
  have stA : stab A = true := by rw [stab_app, ok.st, stab_arg]; rfl
  refine ⟨fun i z H => z = xs.length - i ∧ i ≤ xs.length ∧ Wf X.K H1 O (.ow (.lst (res i)) :: (A ++ Γw)) (some (.ref Dl) :: (B ++ wipe σ vs)) H, ⟨xs.length, by simp, Nat.zero_le _, ?_⟩, ?_⟩
  · obtain ⟨O', wb⟩ := wb
    exact ⟨_, wb.newLst hD Reps.nil⟩
  rintro i z H2 ⟨rfl, hi, w2⟩
  by_cases hlt : i < xs.length
  · have w2' : Wf X.K H1 O ([.ow (.lst (res i))] ++ (Δh ++ (Δ.map Sl.arg ++ Γw))) ([some (.ref Dl)] ++ (τh ++ (τ ++ wipe σ vs))) H2 := by
      rw [app3 (a := Δh), app3 (a := τh)]
      exact w2
    obtain ⟨g1, g2⟩ := ok.go i [_] _ [_] _ H2 rfl (by simpa using hlt) w2'
    refine .inr ⟨g1, fun H' => Wf X.K H1 O (.ow (.lst (res (i + 1))) :: (A ++ Γw)) (some (.ref Dl) :: (B ++ wipe σ vs)) H', fun H' q1 => ⟨xs.length - (i + 1), by omega, rfl, hlt, q1⟩, fun yv H' yy => ?_⟩
    obtain ⟨d, hd, w3⟩ := g2 yv H' yy
    have ex : xs[i]? = some xs[i] := List.getElem?_eq_getElem hlt
    generalize xs[i] = x at ex
    have hx : x ∈ xs := List.mem_of_getElem? ex
    rw [List.getElem?_map, ex] at hd
    have hd' := Option.some.inj hd
    subst hd'
    have hres : res (i + 1) = res i ++ part3 ys pr g x := by
      show (xs.take (i + 1)).flatMap _ = (xs.take i).flatMap _ ++ _
      rw [List.take_add_one, ex, List.flatMap_append]
      simp
    have w3' : Wf X.K H1 O (.va (enc x) :: ((.ow (.lst (res i)) :: A) ++ Γw)) (some yv :: ((some (.ref Dl) :: B) ++ wipe σ vs)) H' := by
      have e1 : [Sl.ow (.lst (res i))] ++ (Δh ++ (Δ.map Sl.arg ++ Γw)) = (.ow (.lst (res i)) :: A) ++ Γw := by
        show _ :: (Δh ++ (Δ.map Sl.arg ++ Γw)) = _ :: ((Δh ++ Δ.map Sl.arg) ++ Γw)
        rw [app3]
      have e2 : [some (V.ref Dl)] ++ (τh ++ (τ ++ wipe σ vs)) = (some (.ref Dl) :: B) ++ wipe σ vs := by
        show _ :: (τh ++ (τ ++ wipe σ vs)) = _ :: ((τh ++ τ) ++ wipe σ vs)
        rw [app3]
      rw [e1, e2] at w3
      exact w3
    have hlA : ∀ r : List D, (some (V.ref Dl) :: B).length = (Sl.ow (.lst r) :: A).length := fun _ => congrArg Nat.succ hl3
    obtain ⟨st1, st2⟩ := hst x hx
    refine fun s0 H00 C cl fp => ht x hx H1 O s0 H00 C cl fp (.ow (.lst (res i)) :: A) (some (.ref Dl) :: B) _ H' yv _ (hlA _) w3' fun σ2 H3 hw2 w4 => ?_
    rw [wipe_wipe] at hw2
    refine ⟨hw2, ?_⟩
    simp only [tYes, if_true]
    intro s0 H00 C cl fp pins s I
    obtain ⟨ti, pi, run⟩ := hi1 x hx H1 O s0 H00 C cl fp
    refine pi.run pins s σ2 H3 _ I (run (.ow (.lst (res i)) :: A) (some (.ref Dl) :: B) σ2 H3 _ (hlA _) w4 fun J1 Δ1 τ1 H4 ok1 harg1 w5 => ?_)
    have ok1 := ok1 H1 O
    let pt : Nat → List D := fun j => res i ++ (((ys x).take j).filter (pr x)).map (g x)
    let AA : List D → List Sl := fun r => Δ1 ++ (.ow (.lst r) :: A)
    let BB := τ1 ++ (some (V.ref Dl) :: B)
    have hlB : ∀ r : List D, BB.length = (AA r).length := fun r => by
      show (τ1 ++ _).length = (Δ1 ++ _).length
      rw [List.length_append, List.length_append, ok1.len, hlA r]
    have w6 : Wf X.K H1 O (AA (pt 0) ++ wipeG (Γe x) vs1) (BB ++ wipe σ2 vs1) H4 := by
      have e : pt 0 = res i := by show res i ++ _ = _; simp
      rw [e]
      refine Wf.wiped (hlB _) ?_ _
      show Wf X.K H1 O ((Δ1 ++ (.ow (.lst (res i)) :: A)) ++ Γe x) ((τ1 ++ (some (.ref Dl) :: B)) ++ σ2) H4
      rw [List.append_assoc, List.append_assoc]
      exact w5
    refine ⟨fun j z H => z = (ys x).length - j ∧ j ≤ (ys x).length ∧ Wf X.K H1 O (AA (pt j) ++ wipeG (Γe x) vs1) (BB ++ wipe σ2 vs1) H, ⟨(ys x).length, by simp, Nat.zero_le _, w6⟩, ?_⟩
    rintro j z H5 ⟨rfl, hj, w7⟩
    have w7' : Wf X.K H1 O ([] ++ (Δ1 ++ ((.ow (.lst (pt j)) :: A) ++ wipeG (Γe x) vs1))) ([] ++ (τ1 ++ ((some (.ref Dl) :: B) ++ wipe σ2 vs1))) H5 := by
      rw [List.nil_append, List.nil_append, app3 (a := Δ1), app3 (a := τ1)]
      exact w7
    by_cases hjl : j < (ys x).length
    · obtain ⟨k1, k2⟩ := ok1.go j [] _ [] _ H5 rfl (by simpa using hjl) w7'
      refine .inr ⟨k1, fun H' => Wf X.K H1 O (AA (pt (j + 1)) ++ wipeG (Γe x) vs1) (BB ++ wipe σ2 vs1) H', fun H' q1 => ⟨(ys x).length - (j + 1), by omega, rfl, hjl, q1⟩, fun v H' yy => ?_⟩
      obtain ⟨d1, hd1, w8⟩ := k2 v H' yy
      have ey : (ys x)[j]? = some (ys x)[j] := List.getElem?_eq_getElem hjl
      generalize (ys x)[j] = k at ey
      have hk : k ∈ ys x := List.mem_of_getElem? ey
      rw [List.getElem?_map, ey] at hd1
      have hd1' := Option.some.inj hd1
      subst hd1'
      obtain ⟨sf1, sf2⟩ := hst1 x hx k hk
      have hpt : pt (j + 1) = if pr x k = true then pt j ++ [g x k] else pt j := by
        show res i ++ (((ys x).take (j + 1)).filter (pr x)).map (g x) = if pr x k = true then (res i ++ (((ys x).take j).filter (pr x)).map (g x)) ++ [g x k] else res i ++ (((ys x).take j).filter (pr x)).map (g x)
        rw [List.take_add_one, ey, List.filter_append]
        cases hp' : pr x k <;> simp [hp']
      have hlp : (pt j).length ≤ 1000000 := by
        refine Nat.le_trans ?_ (resl (i + 1))
        rw [hres]
        show (res i ++ _).length ≤ _
        rw [List.length_append, List.length_append]
        refine Nat.add_le_add_left ?_ _
        unfold part3
        rw [List.length_map, List.length_map]
        exact ((List.take_sublist j (ys x)).filter _).length_le
      have w8' : Wf X.K H1 O (.va (enc1 k) :: (AA (pt j) ++ wipeG (Γe x) vs1)) (some v :: (BB ++ wipe σ2 vs1)) H' := by
        show Wf X.K H1 O (.va (enc1 k) :: ((Δ1 ++ (.ow (.lst (pt j)) :: A)) ++ wipeG (Γe x) vs1)) (some v :: ((τ1 ++ (some (.ref Dl) :: B)) ++ wipe σ2 vs1)) H'
        rw [List.append_assoc, List.append_assoc]
        exact w8
      refine fun s0 H00 C cl fp => ht1 x hx k hk H1 O s0 H00 C cl fp (AA (pt j)) BB _ H' _ _ (hlB _) w8' fun σ3 H6 hw3 w9 => ?_
      rw [wipe_wipe] at hw3
      refine ⟨hw3, ?_⟩
      have back : ∀ {r : List D} {H7 : Hp}, Wf X.K H1 O (AA r ++ Γf x k) (BB ++ σ3) H7 → Wf X.K H1 O (AA r ++ wipeG (Γe x) vs1) (BB ++ wipe σ2 vs1) H7 := fun {r H7} w => by
        have z := (w.wiped (hlB r) vs1).sub (Sub.app sf2)
        rw [hw3] at z
        exact z
      have cont : ∀ (bb : Bool) (H7 : Hp), bb = pr x k → Wf X.K H1 O (AA (pt j) ++ Γf x k) (BB ++ σ3) H7 →
          (if bb = true then wE X scope elt σ3 H7 fun y H8 => ∃ acc, H8 Dl = some (.lst acc) ∧ acc.length < sizeLine ∧ Wf X.K H1 O (AA (pt (j + 1)) ++ wipeG (Γe x) vs1) (BB ++ wipe σ2 vs1) (upd H8 Dl (.lst (acc ++ [y])))
            else Wf X.K H1 O (AA (pt (j + 1)) ++ wipeG (Γe x) vs1) (BB ++ wipe σ2 vs1) H7) := fun bb H7 hbb wx => by
        subst hbb
        cases hpx : pr x k with
        | false =>
          rw [hpt, hpx]
          exact back wx
        | true =>
          refine fun s0 H00 C cl fp => he x hx k hk hpx H1 O s0 H00 C cl fp (AA (pt j)) BB σ3 H7 _ (hlB _) wx fun y' H8 ⟨O8, wy⟩ => ?_
          have wz : WfO X.K H1 O O8 (Δ1 ++ ((.ow (.lst (pt j)) :: A) ++ Γf x k)) (τ1 ++ ((some (.ref Dl) :: B) ++ σ3)) H8 := by
            rw [app3 (a := Δ1), app3 (a := τ1)]
            exact wy.pop
          obtain ⟨yy2, hy2, pp, oo, e1, k2, k3, k4, k5⟩ := slot_of (n := 0) ok1.len wz rfl
          have hy2' : some (some (V.ref Dl)) = some yy2 := hy2
          obtain rfl : some (V.ref Dl) = yy2 := Option.some.inj hy2'
          cases e1
          obtain ⟨v', e2, rv⟩ := wy.head
          cases e2
          cases oo <;> first | exact k5.elim | skip
          rename_i us
          have k5' : Reps X.K (cut H8 O8) (pt j) us := k5
          refine ⟨us, k4, ?_, ?_⟩
          · rw [k5'.len, sizeLine_eq]
            omega
          · rw [hpt, hpx]
            refine back ⟨O8, ?_⟩
            have z := wy.pop.mut (i := Δ1.length) (d' := .lst (pt j ++ [g x k])) (o' := .lst (us ++ [y'])) (by
              show stab ((Δ1 ++ (.ow (.lst (pt j)) :: A)) ++ Γf x k) = true
              rw [stab_app, sf1, stab_app, ok1.st, stab_cons, stA]
              rfl) (at1 _ _ _ _) (by rw [← ok1.len]; exact at1 _ _ _ _) (k5'.app (Reps.one rv))
            have e9 := set1 Δ1 (Sl.ow (.lst (pt j))) (.ow (.lst (pt j ++ [g x k]))) A (Γf x k)
            rw [show (AA (pt j) ++ Γf x k).set Δ1.length (.ow (.lst (pt j ++ [g x k]))) = AA (pt j ++ [g x k]) ++ Γf x k from e9] at z
            exact z
      have tst := hp x hx k hk
      match ifs, tst with
      | [], tst => exact cont true H6 (tst H1 O s0 H00 C cl fp).symm w9
      | [c], tst => exact fun s0 H00 C cl fp => tst H1 O s0 H00 C cl fp (AA (pt j)) BB σ3 H6 _ (hlB _) w9 fun H7 wx => cont _ H7 rfl wx
      | _ :: _ :: _, tst => exact (tst H1 O s0 H00 C cl fp).elim
    · have e : j = (ys x).length := by omega
      subst e
      refine .inl ⟨ok1.stop _ [] _ [] _ H5 rfl (by simp) w7', ?_⟩
      have ep : pt (ys x).length = res (i + 1) := by
        rw [hres]
        show res i ++ (((ys x).take (ys x).length).filter (pr x)).map (g x) = _
        rw [List.take_length]
        rfl
      rw [← ep]
      have w7d : Wf X.K H1 O ((.ow (.lst (pt (ys x).length)) :: A) ++ wipeG (Γe x) vs1) ((some (.ref Dl) :: B) ++ wipe σ2 vs1) H5 := by
        rw [List.nil_append, List.nil_append] at w7'
        exact Wf.drop ok1.len w7'
      have z := (w7d.wiped (hlA _) vs).sub (Sub.app st2)
      rw [wipe_sub hv, hw2] at z
      exact z
  · have e : i = xs.length := by omega
    subst e
    have w2' : Wf X.K H1 O ([.ow (.lst (res xs.length))] ++ (Δh ++ (Δ.map Sl.arg ++ Γw))) ([some (.ref Dl)] ++ (τh ++ (τ ++ wipe σ vs))) H2 := by
      rw [app3 (a := Δh), app3 (a := τh)]
      exact w2
    refine .inl ⟨ok.stop _ [_] _ [_] _ H2 rfl (by simp) w2', ?_⟩
    have w3 := w2.only
    have e : res xs.length = xs.flatMap (part3 ys pr g) := by
      show (xs.take xs.length).flatMap _ = _
      rw [List.take_length]
    rw [e] at w3
    exact q _ H2 (w1o.after w3 rfl)
/-- y = [elt for tg in iter for tg1 in iter1 if ..] -/
theorem d_setLc3 {α β : Type} (n : Nat) (xs : List α) (enc : α → D) (ys : α → List β) (enc1 : β → D) (pr : α → β → Bool) (g : α → β → D) (Γe : α → List Sl) (Γf : α → β → List Sl) (hc : X.calm = true) (hN : X.N.Nodup) (ok : BlkOk X.N X.env.scope scope own) (hi : Ei X H0 Oc Γ tg iter (xs.map enc))
    (hn : (xs.flatMap (part3 ys pr g)).length ≤ 1000000) (hv : ∀ i ∈ vs1, i ∈ own.map (·.2))
    (ht : ∀ x ∈ xs, ∀ H0' Oc' s0 H00 C cl fp, Tgw (blkX X scope s0 H00 C cl fp) H0' Oc' (own.map (·.2)) tg (wipeG (Γ.map Sl.arg) (own.map (·.2))) (.va (enc x)) (Γe x))
    (hst : ∀ x ∈ xs, stab (Γe x) = true ∧ Sub (wipeG (wipeG (Γe x) vs1) (own.map (·.2))) (wipeG (Γ.map Sl.arg) (own.map (·.2))))
    (hi1 : ∀ x ∈ xs, ∀ H0' Oc' s0 H00 C cl fp, Ei (blkX X scope s0 H00 C cl fp) H0' Oc' (Γe x) tg1 iter1 ((ys x).map enc1))
    (ht1 : ∀ x ∈ xs, ∀ k ∈ ys x, ∀ H0' Oc' s0 H00 C cl fp, Tgw (blkX X scope s0 H00 C cl fp) H0' Oc' vs1 tg1 (wipeG (Γe x) vs1) (.va (enc1 k)) (Γf x k))
    (hst1 : ∀ x ∈ xs, ∀ k ∈ ys x, stab (Γf x k) = true ∧ Sub (wipeG (Γf x k) vs1) (wipeG (Γe x) vs1))
    (hp : ∀ x ∈ xs, ∀ k ∈ ys x, ∀ H0' Oc' s0 H00 C cl fp, Ets (blkX X scope s0 H00 C cl fp) H0' Oc' (Γf x k) ifs (pr x k))
    (he : ∀ x ∈ xs, ∀ k ∈ ys x, pr x k = true → ∀ H0' Oc' s0 H00 C cl fp, Ev (blkX X scope s0 H00 C cl fp) H0' Oc' (Γf x k) elt (.va (g x k)))
    (hr : Sds X W H0 Oc (Γ.set n (.ow (.lst (xs.flatMap (part3 ys pr g))))) rest out)
    (hy : X.N[n]? = some y := by rfl) (hyl : X.env.scope.names.lookup y = some .local := by rfl)
    (hsw : swapsWith (.ListComp elt [⟨tg, iter, [], 0⟩, ⟨tg1, iter1, ifs, 0⟩] scope pos) (some (.Name y p)) pos'.line X.env = pure true := by rfl)
    (hs : ∀ x, foldedSetIterable iter X.env x = pure x := by intro _; rfl) (hf2 : ∀ env x, foldedSetIterable iter1 env x = pure x := by intro _ _; rfl) :
    Sds X W H0 Oc Γ (.Assign [.Name y p] (.ListComp elt [⟨tg, iter, [], 0⟩, ⟨tg1, iter1, ifs, 0⟩] scope pos) pos' :: rest) out := fun Δ τ σ H D hl st w k => by
  obtain ⟨wi, hpi, hwi⟩ := hi
  refine wpSs.of (pss_cons (ps_setLc2 (g := wG X scope tg) (tt := tYes) (wi1 := wI X scope tg1 iter1) (g1 := wG X scope tg1) (tt1 := wT X scope ifs) (te := wE X scope elt) hc hN hy hyl hsw hpi ok hv
    (fun s0 H00 C cl fp => ⟨fun pins s σ H v u Q I r h => h s0 H00 C cl fp pins s u I r⟩) (fun _ _ _ _ _ => pts_nil) (fun s0 H00 C cl fp => ⟨fun pins s σ H R I h => h s0 H00 C cl fp pins s I⟩)
    (fun s0 H00 C cl fp => ⟨fun pins s σ H v u Q I r h => h s0 H00 C cl fp pins s u I r⟩) (fun s0 H00 C cl fp => pts_wT) (fun s0 H00 C cl fp => ⟨fun pins s σ H Q I h => h s0 H00 C cl fp pins s I⟩) hs hf2) pss_wp) ?_
  exact lc2_runG xs enc ys enc1 pr g Γe Γf hl w hwi hn hv ht hst hi1 ht1 hst1 hp he fun v H1 ⟨O, w1⟩ => hr Δ τ _ H1 D hl st ⟨O, w1.set hl⟩ k
/-- the same as a value -/
theorem e_lc3 {α β : Type} (xs : List α) (enc : α → D) (ys : α → List β) (enc1 : β → D) (pr : α → β → Bool) (g : α → β → D) (Γe : α → List Sl) (Γf : α → β → List Sl) (hc : X.calm = true) (hN : X.N.Nodup) (ok : BlkOk X.N X.env.scope scope own) (hi : Ei X H0 Oc Γ tg iter (xs.map enc))
    (hn : (xs.flatMap (part3 ys pr g)).length ≤ 1000000) (hv : ∀ i ∈ vs1, i ∈ own.map (·.2))
    (ht : ∀ x ∈ xs, ∀ H0' Oc' s0 H00 C cl fp, Tgw (blkX X scope s0 H00 C cl fp) H0' Oc' (own.map (·.2)) tg (wipeG (Γ.map Sl.arg) (own.map (·.2))) (.va (enc x)) (Γe x))
    (hst : ∀ x ∈ xs, stab (Γe x) = true ∧ Sub (wipeG (wipeG (Γe x) vs1) (own.map (·.2))) (wipeG (Γ.map Sl.arg) (own.map (·.2))))
    (hi1 : ∀ x ∈ xs, ∀ H0' Oc' s0 H00 C cl fp, Ei (blkX X scope s0 H00 C cl fp) H0' Oc' (Γe x) tg1 iter1 ((ys x).map enc1))
    (ht1 : ∀ x ∈ xs, ∀ k ∈ ys x, ∀ H0' Oc' s0 H00 C cl fp, Tgw (blkX X scope s0 H00 C cl fp) H0' Oc' vs1 tg1 (wipeG (Γe x) vs1) (.va (enc1 k)) (Γf x k))
    (hst1 : ∀ x ∈ xs, ∀ k ∈ ys x, stab (Γf x k) = true ∧ Sub (wipeG (Γf x k) vs1) (wipeG (Γe x) vs1))
    (hp : ∀ x ∈ xs, ∀ k ∈ ys x, ∀ H0' Oc' s0 H00 C cl fp, Ets (blkX X scope s0 H00 C cl fp) H0' Oc' (Γf x k) ifs (pr x k))
    (he : ∀ x ∈ xs, ∀ k ∈ ys x, pr x k = true → ∀ H0' Oc' s0 H00 C cl fp, Ev (blkX X scope s0 H00 C cl fp) H0' Oc' (Γf x k) elt (.va (g x k)))
    (hs : ∀ x, foldedSetIterable iter X.env x = pure x := by intro _; rfl) (hf2 : ∀ env x, foldedSetIterable iter1 env x = pure x := by intro _ _; rfl) :
    Ev X H0 Oc Γ (.ListComp elt [⟨tg, iter, [], 0⟩, ⟨tg1, iter1, ifs, 0⟩] scope pos) (.ow (.lst (xs.flatMap (part3 ys pr g)))) := fun Δ τ σ H Q hl w q => by
  obtain ⟨wi, hpi, hwi⟩ := hi
  refine wpE.of (pe_lc2 (g := wG X scope tg) (tt := tYes) (wi1 := wI X scope tg1 iter1) (g1 := wG X scope tg1) (tt1 := wT X scope ifs) (te := wE X scope elt) hc hN hpi ok hv
    (fun s0 H00 C cl fp => ⟨fun pins s σ H v u Q I r h => h s0 H00 C cl fp pins s u I r⟩) (fun _ _ _ _ _ => pts_nil)
    (fun s0 H00 C cl fp => ⟨fun pins s σ H R I h => h s0 H00 C cl fp pins s I⟩)
    (fun s0 H00 C cl fp => ⟨fun pins s σ H v u Q I r h => h s0 H00 C cl fp pins s u I r⟩) (fun s0 H00 C cl fp => pts_wT) (fun s0 H00 C cl fp => ⟨fun pins s σ H Q I h => h s0 H00 C cl fp pins s I⟩) hs hf2) ?_
  exact lc2_runG xs enc ys enc1 pr g Γe Γf hl w hwi hn hv ht hst hi1 ht1 hst1 hp he fun v H1 w1 => q v H1 w1
end
end Y

/-! # zip of a list and a tuple (any mix of the two) -/
namespace Zp
open PySem PySem.Spec PyProof.Rows
/-- b tells a list from a tuple -/
def It (b : Bool) (h : Heap) (i l : Addr) (k : Nat) : Prop := match b with
  | true => h.IsListIter i l k
  | false => h.IsTupleIter i l k
def Sq (b : Bool) (h : Heap) (l : Addr) (xs : Array Value) : Prop := match b with
  | true => h.IsList l xs
  | false => h.IsTuple l xs
section
variable {b : Bool} {h h' : Heap} {c i l : Addr} {k : Nat} {xs : Array Value}
theorem It.ext (t : It b h i l k) (e : Heap.ExtBut c h h') (n : i ≠ c) : It b h' i l k := match b, t with
  | true, t => Heap.IsListIter.extBut t e n
  | false, t => Heap.IsTupleIter.extBut t e n
theorem Sq.ext (t : Sq b h l xs) (e : Heap.ExtBut c h h') (n : l ≠ c) : Sq b h' l xs := match b, t with
  | true, t => Heap.IsList.extBut t e n
  | false, t => Heap.IsTuple.extBut t e n
theorem It.at (t : It b h i l k) (e : ∀ o, h.get? i = some o → h'.get? i = some o) : It b h' i l k := match b, t with
  | true, t => Heap.IsListIter.at t e
  | false, t => Heap.IsTupleIter.at t e
theorem It.lt (t : It b h i l k) : i < h.objs.size := match b, t with
  | true, ⟨_, e, _⟩ => Heap.lt_size e
  | false, ⟨_, e, _⟩ => Heap.lt_size e
theorem It.ob (t : It b h i l k) : ∃ o, h.get? i = some o ∧ ∀ v, o.data ≠ .cell v := match b, t with
  | true, ⟨o, e, _, d⟩ => ⟨o, e, fun v q => by rw [d] at q; cases q⟩
  | false, ⟨o, e, _, d⟩ => ⟨o, e, fun v q => by rw [d] at q; cases q⟩
end
section
variable {prog : Program} {w : World} {A : Around} {E : Value → Shared → Prop} {s : Shared} {b b1 b2 : Bool}
theorem nx {i l : Addr} {k : Nat} {xs : Array Value} {x : Value} {Q : Value → Shared → Prop} (t : It b s.heap i l k) (q : Sq b s.heap l xs) (hx : xs[k]? = some x)
    (hQ : ∀ g, It b g i l (k + 1) → Heap.SameBut i s.heap g → Q x { s with heap := g }) : wpAny (model prog w) A (Builtin.SmallTypes.nextOf (.ref i)) Q E s := match b, t, q, hQ with
  | true, t, q, hQ => wpAny_nextOf_list_item t q hx hQ
  | false, t, q, hQ => RZ.nextOf_tuple_item t q hx hQ
theorem nxE {i l : Addr} {k : Nat} {xs : Array Value} {Q : Value → Shared → Prop} (hh : A.handled = none) (t : It b s.heap i l k) (q : Sq b s.heap l xs) (hx : xs[k]? = none)
    (hE : ∀ g e, Heap.ExtBut i s.heap g → (∃ o, g.get? e = some o ∧ o.cls = .type "StopIteration") → E (.ref e) { s with heap := g }) : wpAny (model prog w) A (Builtin.SmallTypes.nextOf (.ref i)) Q E s := match b, t, q with
  | true, t, q => wpAny_nextOf_list_end hh t q hx hE
  | false, t, q => RZ.nextOf_tuple_end hh t q hx hE
theorem zn_item {z T O i j l m : Addr} {k1 k2 : Nat} {xs ys : Array Value} {x y u v : Value} {Q : Value → Shared → Prop} (D : ZipApart z T O i j l m)
    (gz : IsZip s.heap z T O .none) (gT : IsPair s.heap T (.ref i) (.ref j)) (gO : IsPair s.heap O u v)
    (t1 : It b1 s.heap i l k1) (t2 : It b2 s.heap j m k2) (q1 : Sq b1 s.heap l xs) (q2 : Sq b2 s.heap m ys) (ex : xs[k1]? = some x) (ey : ys[k2]? = some y)
    (hQ : ∀ g, IsZip g z T O (rawInt s.heap.objs.size) → IsPair g O x y → It b1 g i l (k1 + 1) → It b2 g j m (k2 + 1) → IsPair g s.heap.objs.size x y → g.objs.size = s.heap.objs.size + 1 →
      (∀ c o, c ≠ z → c ≠ O → c ≠ i → c ≠ j → s.heap.get? c = some o → g.get? c = some o) → Q (.ref s.heap.objs.size) { s with heap := g }) :
    wpAny (model prog w) A (Builtin.«zip.__next__» ⟨[.ref z], []⟩) (fun fin s' => ∃ v, fin = .done (.ret v) ∧ Q v s') E s := by
  show wpAny _ _ (field (.ref z) 2 >>= _) _ _ _
  refine wpAny_bind (wpAny_field gz rfl (x := .bool false) rfl ?_)
  show wpAny _ _ (field (.ref z) 3 >>= _) _ _ _
  refine wpAny_bind (wpAny_field gz rfl (x := .ref T) rfl (wpAny_bind (wpAny_seqItems gT rfl ?_)))
  show wpAny _ _ (Builtin.SmallTypes.ownedTupleIsFree (.ref z) >>= _) _ _ _
  unfold Builtin.SmallTypes.ownedTupleIsFree
  refine wpAny_bind (wpAny_bind (wpAny_field gz rfl (x := .none) rfl (wpAny_pure ?_)))
  simp only [if_true]
  refine wpAny_bind (wpAny_rule (wpAny_bind (wpAny_field gz rfl (x := .ref O) rfl (wpAny_bind (wpAny_setField_rec gz (by simp) fun ga za sa => ?_)))))
  have za : IsZip ga z T O .ellipsis := za
  refine wpAny_bind ?_
  simp only [List.zipIdx_cons, List.zipIdx_nil, List.forIn_cons, List.forIn_nil]
  refine wpAny_bind (wpAny_bind (wpAny_onRaise ?_))
  show wpAny _ _ (Builtin.SmallTypes.nextOf (.ref i) >>= _) _ _ _
  refine wpAny_bind (nx (t1.ext sa.extBut D.i1z) (q1.ext sa.extBut D.l1z) ex fun gb tb sb => wpAny_pure ?_)
  have ob : IsPair gb O u v := sb.extBut _ _ D.TOi1 (sa.extBut _ _ D.TOz gO)
  refine wpAny_bind (wpAny_seqItems ob rfl (wpAny_bind (wpAny_updateSeq_pair ob fun gc oc sc => ?_)))
  have oc : IsPair gc O x v := oc
  refine wpAny_bind (wpAny_letGo (wpAny_pure (wpAny_bind (wpAny_bind (wpAny_onRaise ?_)))))
  show wpAny _ _ (Builtin.SmallTypes.nextOf (.ref j) >>= _) _ _ _
  refine wpAny_bind (nx (((t2.ext sa.extBut D.i2z).ext sb.extBut D.i12.symm).ext sc.extBut D.TOi2.symm) (((q2.ext sa.extBut D.l2z).ext sb.extBut D.l2i1).ext sc.extBut D.l2TO) ey fun gd td sd => wpAny_pure ?_)
  have od : IsPair gd O x v := sd.extBut _ _ D.TOi2 oc
  refine wpAny_bind (wpAny_seqItems od rfl (wpAny_bind (wpAny_updateSeq_pair od fun ge oe se => ?_)))
  have oe : IsPair ge O x y := oe
  refine wpAny_bind (wpAny_letGo (wpAny_pure (wpAny_pure (wpAny_bind (wpAny_seqItems oe rfl (wpAny_bind (wpAny_newTuple ?_)))))))
  have sz : ge.objs.size = s.heap.objs.size := by rw [se.1, sd.1, sc.1, sb.1, sa.1]
  have ze : IsZip ge z T O .ellipsis := se.extBut _ _ D.TOz.symm (sd.extBut _ _ D.i2z.symm (sc.extBut _ _ D.TOz.symm (sb.extBut _ _ D.i1z.symm za)))
  have old : ∀ c o, c ≠ z → c ≠ O → c ≠ i → c ≠ j → s.heap.get? c = some o → ge.get? c = some o := fun c o c1 c2 c3 c4 e =>
    se.extBut _ _ c2 (sd.extBut _ _ c4 (sc.extBut _ _ c2 (sb.extBut _ _ c3 (sa.extBut _ _ c1 e))))
  have te : It b1 ge i l (k1 + 1) := ((tb.ext sc.extBut D.TOi1.symm).ext sd.extBut D.i12).ext se.extBut D.TOi1.symm
  have ue : It b2 ge j m (k2 + 1) := td.ext se.extBut D.TOi2.symm
  have lz : z < ge.objs.size := Heap.lt_size ze
  show wpAny _ _ (Builtin.SmallTypes.ownedTupleHandOut (.ref z) (.ref ge.objs.size) >>= _) _ _ _
  unfold Builtin.SmallTypes.ownedTupleHandOut
  have zf : IsZip (ge.push { cls := .type "tuple", data := .seq #[x, y] }) z T O .ellipsis := Heap.get?_push_of_some _ ze
  refine wpAny_bind (wpAny_bind (wpAny_setField_rec zf (by simp) fun gg zg sg => ?_))
  have zg : IsZip gg z T O (rawInt ge.objs.size) := zg
  refine wpAny_setField_rec zg (by simp) fun gh zh sh => ?_
  have zh : IsZip gh z T O (rawInt ge.objs.size) := zh
  have up : ∀ c o, c ≠ z → ge.get? c = some o → gh.get? c = some o := fun c o n e => sh.extBut _ _ n (sg.extBut _ _ n (Heap.get?_push_of_some _ e))
  have ph : IsPair gh ge.objs.size x y := sh.extBut _ _ (Nat.ne_of_gt lz) (sg.extBut _ _ (Nat.ne_of_gt lz) (Heap.get?_push_size _ rfl))
  have sz2 : gh.objs.size = ge.objs.size + 1 := by rw [sh.1, sg.1, Heap.size_push]
  rw [sz] at zh ph sz2
  refine wpAny_pure ⟨_, rfl, ?_⟩
  show Q (.ref ge.objs.size) _
  rw [sz]
  exact hQ gh zh (up _ _ D.TOz oe) (te.at fun o e => up _ o D.i1z e) (ue.at fun o e => up _ o D.i2z e) ph sz2 fun c o c1 c2 c3 c4 e => up c o c1 (old c o c1 c2 c3 c4 e)
theorem zn_end {z T O i j l m : Addr} {k1 k2 : Nat} {xs ys : Array Value} {u v : Value} {Q : Fin → Shared → Prop} (hh : A.handled = none) (D : ZipApart z T O i j l m)
    (gz : IsZip s.heap z T O .none) (gT : IsPair s.heap T (.ref i) (.ref j)) (gO : IsPair s.heap O u v)
    (t1 : It b1 s.heap i l k1) (t2 : It b2 s.heap j m k2) (q1 : Sq b1 s.heap l xs) (q2 : Sq b2 s.heap m ys) (en : xs[k1]? = none ∨ ys[k2]? = none)
    (hE : ∀ g e, (∀ c o, c ≠ z → c ≠ O → c ≠ i → c ≠ j → s.heap.get? c = some o → g.get? c = some o) → (∃ o, g.get? e = some o ∧ o.cls = .type "StopIteration") → E (.ref e) { s with heap := g }) :
    wpAny (model prog w) A (Builtin.«zip.__next__» ⟨[.ref z], []⟩) Q E s := by
  show wpAny _ _ (field (.ref z) 2 >>= _) _ _ _
  refine wpAny_bind (wpAny_field gz rfl (x := .bool false) rfl ?_)
  show wpAny _ _ (field (.ref z) 3 >>= _) _ _ _
  refine wpAny_bind (wpAny_field gz rfl (x := .ref T) rfl (wpAny_bind (wpAny_seqItems gT rfl ?_)))
  show wpAny _ _ (Builtin.SmallTypes.ownedTupleIsFree (.ref z) >>= _) _ _ _
  unfold Builtin.SmallTypes.ownedTupleIsFree
  refine wpAny_bind (wpAny_bind (wpAny_field gz rfl (x := .none) rfl (wpAny_pure ?_)))
  simp only [if_true]
  refine wpAny_bind (wpAny_rule (wpAny_bind (wpAny_field gz rfl (x := .ref O) rfl (wpAny_bind (wpAny_setField_rec gz (by simp) fun ga za sa => ?_)))))
  have za : IsZip ga z T O .ellipsis := za
  refine wpAny_bind ?_
  simp only [List.zipIdx_cons, List.zipIdx_nil, List.forIn_cons, List.forIn_nil]
  refine wpAny_bind (wpAny_bind (wpAny_onRaise ?_))
  show wpAny _ _ (Builtin.SmallTypes.nextOf (.ref i) >>= _) _ _ _
  cases ex : xs[k1]? with
  | none =>
    refine wpAny_bind (nxE hh (t1.ext sa.extBut D.i1z) (q1.ext sa.extBut D.l1z) ex fun gb e sb he => ?_)
    obtain ⟨oe, he1, he2⟩ := he
    have zb : IsZip gb z T O .ellipsis := sb _ _ D.i1z.symm za
    have ne : e ≠ z := fun q => by subst q; rw [zb] at he1; cases he1; simp at he2
    exact wpAny_setField_rec zb (by simp) fun gc _ sc => hE gc e (fun c o c1 _ c3 _ q => sc.extBut _ _ c1 (sb _ _ c3 (sa.extBut _ _ c1 q))) ⟨oe, sc.extBut _ _ ne he1, he2⟩
  | some x =>
    have ey : ys[k2]? = none := en.elim (fun q => by rw [ex] at q; cases q) id
    refine wpAny_bind (nx (t1.ext sa.extBut D.i1z) (q1.ext sa.extBut D.l1z) ex fun gb tb sb => wpAny_pure ?_)
    have ob : IsPair gb O u v := sb.extBut _ _ D.TOi1 (sa.extBut _ _ D.TOz gO)
    refine wpAny_bind (wpAny_seqItems ob rfl (wpAny_bind (wpAny_updateSeq_pair ob fun gc oc sc => ?_)))
    refine wpAny_bind (wpAny_letGo (wpAny_pure (wpAny_bind (wpAny_bind (wpAny_onRaise ?_)))))
    show wpAny _ _ (Builtin.SmallTypes.nextOf (.ref j) >>= _) _ _ _
    refine wpAny_bind (nxE hh (((t2.ext sa.extBut D.i2z).ext sb.extBut D.i12.symm).ext sc.extBut D.TOi2.symm) (((q2.ext sa.extBut D.l2z).ext sb.extBut D.l2i1).ext sc.extBut D.l2TO) ey fun gd e sd he => ?_)
    obtain ⟨oe, he1, he2⟩ := he
    have zd : IsZip gd z T O .ellipsis := sd _ _ D.i2z.symm (sc.extBut _ _ D.TOz.symm (sb.extBut _ _ D.i1z.symm za))
    have ne : e ≠ z := fun q => by subst q; rw [zd] at he1; cases he1; simp at he2
    exact wpAny_setField_rec zd (by simp) fun ge _ se => hE ge e (fun c o c1 c2 c3 c4 q => se.extBut _ _ c1 (sd _ _ c4 (sc.extBut _ _ c2 (sb.extBut _ _ c3 (sa.extBut _ _ c1 q))))) ⟨oe, se.extBut _ _ ne he1, he2⟩
theorem py_item {z T O i j l m : Addr} {k1 k2 : Nat} {xs ys : Array Value} {x y u v : Value} {Q : Option Value → Shared → Prop} (D : ZipApart z T O i j l m)
    (gz : IsZip s.heap z T O .none) (gT : IsPair s.heap T (.ref i) (.ref j)) (gO : IsPair s.heap O u v)
    (t1 : It b1 s.heap i l k1) (t2 : It b2 s.heap j m k2) (q1 : Sq b1 s.heap l xs) (q2 : Sq b2 s.heap m ys) (ex : xs[k1]? = some x) (ey : ys[k2]? = some y)
    (hQ : ∀ g, IsZip g z T O (rawInt s.heap.objs.size) → IsPair g O x y → It b1 g i l (k1 + 1) → It b2 g j m (k2 + 1) → IsPair g s.heap.objs.size x y → g.objs.size = s.heap.objs.size + 1 →
      (∀ c o, c ≠ z → c ≠ O → c ≠ i → c ≠ j → s.heap.get? c = some o → g.get? c = some o) → Q (some (.ref s.heap.objs.size)) { s with heap := g }) : wpAny (model prog w) A (pyNext (.ref z)) Q E s := by
  have ty : s.TypeIs (.ref z) "zip" := ⟨_, gz, rfl⟩
  unfold pyNext
  exact wpAny_bind (wpAny_attempt (wpAny_callSpecial?_slot (name := Str.ofString "__next__") ty F.slot_zip_next (wpAny_call_entry F.slot_zip_next ty F.entry_zip_next
    (zn_item D gz gT gO t1 t2 q1 q2 ex ey fun g a1 a2 a3 a4 a5 a6 a7 => wpAny_pure (hQ g a1 a2 a3 a4 a5 a6 a7)) (F.args_zip_next_1 _))))
theorem py_end {z T O i j l m : Addr} {k1 k2 : Nat} {xs ys : Array Value} {u v : Value} {Q : Option Value → Shared → Prop} (hh : A.handled = none) (D : ZipApart z T O i j l m)
    (gz : IsZip s.heap z T O .none) (gT : IsPair s.heap T (.ref i) (.ref j)) (gO : IsPair s.heap O u v)
    (t1 : It b1 s.heap i l k1) (t2 : It b2 s.heap j m k2) (q1 : Sq b1 s.heap l xs) (q2 : Sq b2 s.heap m ys) (en : xs[k1]? = none ∨ ys[k2]? = none)
    (hQ : ∀ g, (∀ c o, c ≠ z → c ≠ O → c ≠ i → c ≠ j → s.heap.get? c = some o → g.get? c = some o) → Q none { s with heap := g }) : wpAny (model prog w) A (pyNext (.ref z)) Q E s := by
  have ty : s.TypeIs (.ref z) "zip" := ⟨_, gz, rfl⟩
  unfold pyNext
  refine wpAny_bind (wpAny_attempt (wpAny_callSpecial?_slot (name := Str.ofString "__next__") ty F.slot_zip_next (wpAny_call_entry F.slot_zip_next ty F.entry_zip_next
    (zn_end hh D gz gT gO t1 t2 q1 q2 en fun g e hk he => ?_) (F.args_zip_next_1 _))))
  obtain ⟨o, e1, e2⟩ := he
  exact wpAny_bind (wpAny_isInstance (T := "StopIteration") (b := true) ⟨o, e1, e2⟩ isSubtype_stop (wpAny_pure (hQ _ hk)))
end
/-! ### zip(list, tuple): made -/
abbrev hA (h : Heap) (l : Addr) : Heap := h.push { cls := .type "list_iterator", data := .fields #[.ref l, .int 0 0] }
abbrev hB (h : Heap) (l m : Addr) : Heap := (hA h l).push { cls := .type "tuple_iterator", data := .fields #[.ref m, .int 0 0] }
abbrev hC (h : Heap) (l m : Addr) : Heap := (hB h l m).push { cls := .type "tuple", data := .seq #[.ref h.objs.size, .ref (hA h l).objs.size] }
abbrev hD (h : Heap) (l m : Addr) : Heap := (hC h l m).push { cls := .type "tuple", data := .seq #[.none, .none] }
abbrev hE (h : Heap) (l m : Addr) : Heap := (hD h l m).push { cls := .type "zip", data := .fields #[.none, .bool false, .bool false, .ref (hB h l m).objs.size, .ref (hC h l m).objs.size] }
theorem meets_new (l m : Addr) (xs ys : Array Value) :
    Meets (Builtin.«zip.__new__» ⟨[.type "zip", .ref l, .ref m], []⟩) (fun _ R s => s.heap.IsList l xs ∧ s.heap.IsTuple m ys ∧ R (.ok (.ret (.ref (hD s.heap l m).objs.size))) { s with heap := hE s.heap l m }) :=
  .of_wp fun prog w A R s h => by
    obtain ⟨hp, g, d, tk, os⟩ := s
    obtain ⟨q1, q2, h⟩ := h
    have su := sub_zip
    have p1 : Heap.IsList (Shared.heap ⟨hp, g, d, tk, os⟩) l xs := q1
    have p2 : Heap.IsTuple (Shared.heap ⟨hp.push { cls := .type "list_iterator", data := .fields #[.ref l, .int 0 0] }, g, d, tk, os⟩) m ys := Heap.IsTuple.push q2 _
    wp_walk using wpAny_pyIter_list p1, wpAny_pyIter_tuple p2
    exact ⟨_, rfl, h⟩
theorem call_new {prog : Program} {w : World} {A : Around} {E : Value → Shared → Prop} {s : Shared} {l m : Addr} {xs ys : Array Value} {Q : Value → Shared → Prop} (q1 : s.heap.IsList l xs) (q2 : s.heap.IsTuple m ys)
    (h : ∀ g, IsZip g (s.heap.objs.size + 4) (s.heap.objs.size + 2) (s.heap.objs.size + 3) .none → IsPair g (s.heap.objs.size + 2) (.ref s.heap.objs.size) (.ref (s.heap.objs.size + 1)) → IsPair g (s.heap.objs.size + 3) .none .none →
      g.IsListIter s.heap.objs.size l 0 → g.IsTupleIter (s.heap.objs.size + 1) m 0 → (∀ c o, s.heap.get? c = some o → g.get? c = some o) → Q (.ref (s.heap.objs.size + 4)) { s with heap := g }) :
    wpAny (model prog w) A (call (.type "zip") [.ref l, .ref m]) Q E s := by
  refine callType_new F.called_zip (by decide) (F.typeCall_zip_2 _ _) (F.newCall_zip_2 _ _) (fun obj => F.args_object_init_3 obj _ _) F.entry_zip_new (meets_new l m xs ys) ⟨q1, q2, ?_⟩
  have n1 : (hA s.heap l).objs.size = s.heap.objs.size + 1 := Heap.size_push ..
  have n2 : (hB s.heap l m).objs.size = s.heap.objs.size + 2 := by rw [Heap.size_push, n1]
  have n3 : (hC s.heap l m).objs.size = s.heap.objs.size + 3 := by rw [Heap.size_push, n2]
  have n4 : (hD s.heap l m).objs.size = s.heap.objs.size + 4 := by rw [Heap.size_push, n3]
  have u : ∀ {g : Heap} {o o' : Obj} {a : Addr}, g.get? a = some o → (g.push o').get? a = some o := fun e => Heap.get?_push_of_some _ e
  have g5 : (hE s.heap l m).get? (hD s.heap l m).objs.size = some _ := Heap.get?_push_size _ rfl
  have g4 : (hE s.heap l m).get? (hC s.heap l m).objs.size = some _ := u (Heap.get?_push_size _ rfl)
  have g3 : (hE s.heap l m).get? (hB s.heap l m).objs.size = some _ := u (u (Heap.get?_push_size _ rfl))
  have g2 : (hE s.heap l m).get? (hA s.heap l).objs.size = some _ := u (u (u (Heap.get?_push_size _ rfl)))
  have g1 : (hE s.heap l m).get? s.heap.objs.size = some _ := u (u (u (u (Heap.get?_push_size _ rfl))))
  show _ ∧ _
  rw [n2, n3, n4] at g5
  rw [n1, n2] at g3
  rw [n3] at g4
  rw [n1] at g2
  rw [n4]
  exact ⟨⟨_, g5, rfl⟩, h _ g5 g3 g4 ⟨_, g1, rfl, rfl⟩ ⟨_, g2, rfl, rfl⟩ fun c o q => u (u (u (u (u q))))⟩
open L2
/-- the list at a and the tuple at c, item by item -/
def Iz (K : PySem.W.Frag) (a c : Addr) : L2.It :=
  ⟨fun i H => ∃ (xs ys : List V) (x y : V), SqL K H a xs ∧ SqT K H c ys ∧ xs[i]? = some x ∧ ys[i]? = some y,
    fun i H v H' => ∃ T x y, v = .ref T ∧ H T = none ∧ H' = upd H T (.tup [x, y]) ∧ (∀ xs, SqL K H a xs → xs[i]? = some x) ∧ ∀ ys, SqT K H c ys → ys[i]? = some y,
    fun i H => ∃ xs ys : List V, SqL K H a xs ∧ SqT K H c ys ∧ (xs.length ≤ i ∨ ys.length ≤ i)⟩
theorem turn {P : Program} {w : World} {K : PySem.W.Frag} {elts : List Expr} {kk : Nat} {tpos : Pos} {a c z T O i1 i2 : Addr} (D : ZipApart z T O i1 i2 a c) :
    Turn P w K (.Tuple elts kk tpos) (Iz K a c) [z, T, O, i1, i2] z (fun i h => IsZip h z T O .none ∧ IsPair h T (.ref i1) (.ref i2) ∧ (∃ x y, IsPair h O x y) ∧ Zp.It true h i1 a i ∧ Zp.It false h i2 c i) where
  mem := by simp
  obj := fun i h st e he => by
    obtain ⟨gz, gT, ⟨x, y, gO⟩, t1, t2⟩ := st
    have e' : e = z ∨ e = T ∨ e = O ∨ e = i1 ∨ e = i2 := by simpa using he
    rcases e' with rfl | rfl | rfl | rfl | rfl
    · exact ⟨_, gz, fun v q => nomatch q⟩
    · exact ⟨_, gT, fun v q => nomatch q⟩
    · exact ⟨_, gO, fun v q => nomatch q⟩
    · exact t1.ob
    · exact t2.ob
  keep := fun i h h' st k => by
    obtain ⟨gz, gT, ⟨x, y, gO⟩, t1, t2⟩ := st
    exact ⟨k z (by simp) _ gz, k T (by simp) _ gT, ⟨x, y, k O (by simp) _ gO⟩, t1.at fun o q => k i1 (by simp) o q, t2.at fun o q => k i2 (by simp) o q⟩
  item := by
    intro X hP hw hK hc i pins s σ H E I hf st hg
    subst hP hw hK
    obtain ⟨gz, gT, ⟨x0, y0, gO⟩, t1, t2⟩ := st
    obtain ⟨xs, ys, x, y, sx, sy, ex, ey⟩ := hg
    obtain ⟨its, rv, p, _⟩ := I.list sx
    obtain ⟨its2, rv2, p2, _⟩ := I.tuple sy
    obtain ⟨u, hu, ru⟩ := rv.get ex
    obtain ⟨u2, hu2, ru2⟩ := rv2.get ey
    have lz : z < s.heap.objs.size := Heap.lt_size gz
    refine py_item D gz gT gO t1 t2 (show Sq true s.heap a its.toArray from p.isList) (show Sq false s.heap c its2.toArray from p2) (x := u) (y := u2) (by simpa using hu) (by simpa using hu2) fun g z' O' t1' t2' hT hsz hk => ?_
    refine ⟨_, rfl, wpAny_letOwnedTupleGo_zip (s := { s with heap := g }) z' fun g2 z2 sb => ?_⟩
    have hT2 : g2.get? s.heap.objs.size = some { cls := .type "tuple", data := .seq #[u, u2] } := (sb.2 _ (Nat.ne_of_gt lz)).trans hT
    have new : ObjOk X.prog X.w (upd H s.heap.objs.size (.tup [x, y])) g2 s.heap.objs.size (.tup [x, y]) := ⟨by show 2 ≤ sizeLine; decide, [u, u2], .cons ru (.cons ru2 .nil), ⟨_, hT2, rfl, _, rfl⟩⟩
    have kk : ∀ b o, b ∉ [z, T, O, i1, i2] → s.heap.get? b = some o → g2.get? b = some o := fun b o hb q => by
      simp only [List.mem_cons, List.not_mem_nil, or_false, not_or] at hb
      exact (sb.2 b hb.1).trans (hk b o hb.1 hb.2.2.1 hb.2.2.2.1 hb.2.2.2.2 q)
    have I1 : Inv X pins σ (upd H s.heap.objs.size (.tup [x, y])) { s with heap := g2 } := I.turnedNew (t' := s.toks) (ch := [z, T, O, i1, i2]) kk hf (Nat.le_refl _) new
    refine ⟨.ref s.heap.objs.size, _, I1, rfl, ⟨_, x, y, rfl, I.hok.fresh (Nat.le_refl _), rfl, fun l hl => by rw [I.list_inj hl sx]; exact ex, fun l hl => by rw [I.tuple_inj hl sy]; exact ey⟩, ⟨z2, ?_, ⟨u, u2, ?_⟩, ?_, ?_⟩, fun e he => ?_⟩
    · exact (sb.2 _ D.TIz).trans (hk _ _ D.TIz D.TITO D.TIi1 D.TIi2 gT)
    · exact (sb.2 _ D.TOz).trans O'
    · exact t1'.at fun o q => (sb.2 _ D.i1z).trans q
    · exact t2'.at fun o q => (sb.2 _ D.i2z).trans q
    · have lt : e < s.heap.objs.size := by
        have e' : e = z ∨ e = T ∨ e = O ∨ e = i1 ∨ e = i2 := by simpa using he
        rcases e' with rfl | rfl | rfl | rfl | rfl
        · exact lz
        · exact Heap.lt_size gT
        · exact Heap.lt_size gO
        · exact t1.lt
        · exact t2.lt
      rw [upd_ne (Nat.ne_of_lt lt)]
      exact (hf e he).1
  done := by
    intro X hP hw hK hc i pins s σ H E I hf st hg
    subst hP hw hK
    obtain ⟨gz, gT, ⟨x0, y0, gO⟩, t1, t2⟩ := st
    obtain ⟨xs, ys, sx, sy, en⟩ := hg
    obtain ⟨its, rv, p, _⟩ := I.list sx
    obtain ⟨its2, rv2, p2, _⟩ := I.tuple sy
    have n1 := rv.length
    have n2 := rv2.length
    have he : its.toArray[i]? = none ∨ its2.toArray[i]? = none := en.elim (fun q => .inl (by simp; omega)) fun q => .inr (by simp; omega)
    exact py_end (I.ok.hd hc) D gz gT gO t1 t2 (show Sq true s.heap a its.toArray from p.isList) (show Sq false s.heap c its2.toArray from p2) he fun g hk => ⟨rfl, I.turnedL (t' := s.toks) (ch := [z, T, O, i1, i2]) (fun b o hb q => by
      simp only [List.mem_cons, List.not_mem_nil, or_false, not_or] at hb
      exact hk b o hb.1 hb.2.2.1 hb.2.2.2.1 hb.2.2.2.2 q) hf⟩
  self := fun A i s Q E st h => wpAny_pyIter_zip st.1 h
def iZ (K : PySem.W.Frag) (ta : TA) : TI := fun σ H R => ta σ H fun vs H1 => ∃ a c xs ys, vs = [.ref a, .ref c] ∧ SqL K H1 a xs ∧ SqT K H1 c ys ∧ R (Iz K a c) H1
theorem pi_z {X : Cx} {e e2 : Expr} {ta : TA} {p pos tpos : Pos} {elts : List Expr} {kk : Nat} (hg : Gl X "zip") (hm : X.mg "zip" = none) (ha : PA X [e, e2] ta)
    (hs : starEach [e, e2] X.env = (false, eval e X.env) :: starEach [e2] X.env) (hpl : (backTo pos (starEach [e2] X.env)).any (·.1) = false) : PI X (.Tuple elts kk tpos) (.Call (.Name "zip" p) [e, e2] [] pos) (iZ X.K ta) := by
  refine ⟨fun pins s σ H R I h => ?_⟩
  refine Call_ (ld_blt I hg hm PyProof.Rows.boot_zip (PyProof.Rows.callWith_type1 (thn (ha.run pos pins s σ H _ I h) fun us s1 ⟨vs, H1, I1, r1, q1⟩ => ?_) hs hpl))
  obtain ⟨a, c, xs, ys, ex, sx, sy, q⟩ := q1
  subst ex
  cases r1 with
  | cons r rr =>
    cases rr with
    | cons r' rr =>
      cases rr
      cases r
      cases r'
      have fr : ∀ e, e ∈ [s1.heap.objs.size + 4, s1.heap.objs.size + 2, s1.heap.objs.size + 3, s1.heap.objs.size, s1.heap.objs.size + 1] → FpOk X pins H1 e := fun e he => by
        have le : s1.heap.objs.size ≤ e := by
          simp only [List.mem_cons, List.not_mem_nil, or_false] at he
          rcases he with z | z | z | z | z <;> rw [z] <;> first | exact Nat.le_refl _ | exact Nat.le_add_right _ _
        exact I1.fpOk le (I1.hok.fresh le)
      obtain ⟨its, rv, p1, _⟩ := I1.list sx
      obtain ⟨its2, rv2, p2, _⟩ := I1.tuple sy
      obtain ⟨o2, ho2, _⟩ := id p2
      refine call_new p1.isList (show s1.heap.IsTuple c its2.toArray from p2) fun g gz gT gO t1 t2 hk => wpAny_pyIter_zip gz ?_
      have I2 : Inv X pins σ H1 { s1 with heap := g } := I1.kept (t' := s1.toks) hk
      exact ⟨s1.heap.objs.size + 4, [s1.heap.objs.size + 4, s1.heap.objs.size + 2, s1.heap.objs.size + 3, s1.heap.objs.size, s1.heap.objs.size + 1], _, _, H1, rfl, I2, turn (PySem.W.ktu_apart s1.heap.objs.size a c p1.lt (Heap.lt_size ho2)), ⟨gz, gT, ⟨_, _, gO⟩, t1, t2⟩, fr, q⟩
end Zp
namespace Y
open PySem L2
/-- zip of a list and a tuple -/
theorem it_z {K : PySem.W.Frag} {H0 : Hp} {Oc : List Addr} {l m : Addr} {s1 s2 : Sl} {ds es : List D} (h1 : s1.held = some (.lst ds)) (h2 : s2.held = some (.tup es)) : ItOk K H0 Oc (Zp.Iz K l m) [s2, s1] [some (.ref m), some (.ref l)] ((ds.zip es).map fun p => .tup [p.1, p.2]) := by
  have st : stab [s2, s1] = true := by
    have a := held_stab h1
    have b := held_stab h2
    have e : [s2, s1] = [s2] ++ [s1] := rfl
    rw [e, stab_app, a, b] <;> rfl
  refine ⟨rfl, st, fun i Δp G τp S H hp hi ⟨O, w⟩ => ?_, fun i Δp G τp S H hp hi ⟨O, w⟩ => ?_⟩
  · obtain ⟨m', us, e2, k1, k2⟩ := held_b w.ex (w.drop hp).head h2
    obtain ⟨l', vs, e1, g1, g2⟩ := held_b w.ex (w.drop hp).pop.head h1
    cases e1
    cases e2
    have hi' : i < ds.length ∧ i < es.length := by
      rw [List.length_map, List.length_zip] at hi
      omega
    obtain ⟨d, v, a1, a2, rv⟩ := g2.lt_get hi'.1
    obtain ⟨e, u, b1, b2, ru⟩ := k2.lt_get hi'.2
    refine ⟨⟨vs, us, v, u, .of g1, .of k1, a2, b2⟩, fun x H' y => ?_⟩
    obtain ⟨T, x1, y1, ex, hT, eH, f1, f2⟩ := y
    subst eH
    subst ex
    have f1 := f1 vs (.of g1)
    have f2 := f2 us (.of k1)
    rw [a2] at f1
    rw [b2] at f2
    cases f1
    cases f2
    refine ⟨.tup [d, e], ?_, O, w.newTup hT (Reps.cons rv (Reps.one ru))⟩
    rw [List.getElem?_map, List.getElem?_zip_eq_some (z := (d, e)) |>.mpr ⟨a1, b1⟩]
    rfl
  · obtain ⟨m', us, e2, k1, k2⟩ := held_b w.ex (w.drop hp).head h2
    obtain ⟨l', vs, e1, g1, g2⟩ := held_b w.ex (w.drop hp).pop.head h1
    cases e1
    cases e2
    rw [List.length_map, List.length_zip] at hi
    refine ⟨vs, us, .of g1, .of k1, ?_⟩
    rw [g2.len, k2.len]
    omega
theorem i_zip {α β : Type} (enc : α → D) (enc2 : β → D) (xs : List α) (ys : List β) {X : Cx} {H0 : Hp} {Oc : List Addr} {Γ : List Sl} {e e2 : Expr} {s1 s2 : Sl} {p pos tpos : Pos} {elts : List Expr} {kk : Nat} (hm : X.mg "zip" = none) (ha : Ev X H0 Oc Γ e s1) (hb : Ev X H0 Oc Γ e2 s2) (h1 : s1.held = some (.lst (xs.map enc)) := by rfl) (h2 : s2.held = some (.tup (ys.map enc2)) := by rfl) (hg : Gl X "zip" := by rfl)
    (hs1 : starEach [e, e2] X.env = (false, eval e X.env) :: starEach [e2] X.env := by rfl) (hs2 : starEach [e2] X.env = (false, eval e2 X.env) :: starEach [] X.env := by rfl) (hpl : (backTo pos (starEach [e2] X.env)).any (·.1) = false := by rfl) :
    Ei X H0 Oc Γ (.Tuple elts kk tpos) (.Call (.Name "zip" p) [e, e2] [] pos) ((xs.zip ys).map fun p => .tup [enc p.1, enc2 p.2]) :=
  Ei.as ⟨_, Zp.pi_z hg hm (pa_cons pe_wp (pa_cons pe_wp pa_nil hs2) hs1) hs1 hpl, fun Δ τ σ H R hl w k => ha Δ τ σ H _ hl w fun v H1 w1 => hb (_ :: Δ) (_ :: τ) σ H1 _ (by simp [hl]) w1 fun u H2 w2 => by
    obtain ⟨O, w2'⟩ := id w2
    obtain ⟨m, us, rfl, k1, k2⟩ := held_b w2'.ex w2'.head h2
    obtain ⟨l, vs, e1, g1, g2⟩ := held_b w2'.ex w2'.pop.head h1
    cases e1
    refine ⟨l, m, vs, us, rfl, .of g1, .of k1, k _ [s2, s1] [some (.ref m), some (.ref l)] H2 (fun _ _ => it_z h1 h2) ?_ w2⟩
    have a := held_arg h1
    have b := held_arg h2
    simp only [List.map_cons, List.map_nil, List.cons.injEq, and_true] at a b ⊢
    exact ⟨b, a⟩⟩ (by
    rw [List.zip_map, List.map_map]
    rfl)
end Y

namespace Y
open PySem PySem.Spec PyProof.Rows L2
/-! ## texts, x in own, len(set(t)) -/
def chD (c : Nat) : D := .str ⟨#[c]⟩
theorem mem_len {α : Type} [DecidableEq α] : ∀ (L M : List α), L.Nodup → (∀ x ∈ L, x ∈ M) → L.length ≤ M.length
  | [], _, _, _ => Nat.zero_le _
  | a :: L, M, nd, h => by
    have ha : a ∈ M := h a List.mem_cons_self
    rw [List.nodup_cons] at nd
    have := mem_len L (M.erase a) nd.2 fun x hx => (List.mem_erase_of_ne (by rintro rfl; exact nd.1 hx)).mpr (h x (List.mem_cons_of_mem _ hx))
    rw [List.length_erase_of_mem ha] at this
    have : 0 < M.length := List.length_pos_of_mem ha
    rw [List.length_cons]
    omega
section
variable {X : Cx} {H0 : Hp} {Oc : List Addr} {Γ : List Sl} {a b c tg : Expr} {pos p p2 pos2 : Pos} {i : Int} {x z : Str} {s1 : Sl} {k n : Nat} {C : Addr} {ns : List Str} {ds : List D} {ps : List Str} {P : Pm}
/-- len(text) -/
theorem e_lenS (hm : X.mg "len" = none) (ha : Ev X H0 Oc Γ a (.va (.str x))) (hz : x.length ≤ 1000000) (hg : Gl X "len" := by rfl) (he : starEach [a] X.env = (false, eval a X.env) :: starEach [] X.env := by rfl) (hpl : (backTo pos (starEach [] X.env)).any (·.1) = false := by rfl) :
    Ev X H0 Oc Γ (.Call (.Name "len" p) [a] [] pos) (.va (.int x.length)) := ev_b1 call_len_str ha hm PySem.boot_len hg (fun G S H v Q ⟨O, W⟩ q => by
      obtain ⟨u, g1, g2⟩ := W.head
      cases g1
      exact ⟨x, by rw [show v = _ from g2], by rw [sizeLine_eq]; exact Nat.le_trans hz (by decide), q _ H ⟨O, W.pop.flat rfl (show Rep X.K H (.int x.length) (.int x.length) from rfl)⟩⟩) (by decide) (by decide) he hpl
/-- for c in text -/
theorem i_str (ha : Ev X H0 Oc Γ a (.va (.str x))) : Ei X H0 Oc Γ tg a (x.cps.toList.map chD) := ⟨_, pi_str pe_wp, fun Δ τ σ H R hl w q => ha Δ τ σ H _ hl w fun v H1 ⟨O, w1⟩ => by
  obtain ⟨u, g1, g2⟩ := w1.head
  cases g1
  refine ⟨x, g2, q _ [] [] H1 (fun _ _ => ⟨rfl, rfl, fun i Δp G τp S H hp hi ⟨O, w⟩ => ?_, fun i Δp G τp S H hp hi w => ?_⟩) rfl ⟨O, w1.pop⟩⟩
  · rw [List.length_map, Array.length_toList] at hi
    refine ⟨hi, fun y H' yy => ?_⟩
    obtain ⟨eH, c, hc, ey⟩ := yy
    subst eH
    refine ⟨chD c, ?_, O, w.flat rfl (by rw [ey]; exact (show Rep X.K H' (chD c) (.str ⟨#[c]⟩) from rfl))⟩
    rw [List.getElem?_map, Array.getElem?_toList, hc]
    rfl
  · rw [List.length_map, Array.length_toList] at hi
    exact hi⟩
/-- one sign in a text -/
theorem c_inS (c : Nat) (z : Str) : C2 X H0 Oc .In (.va (chD c)) (.va (.str z)) (decide (c ∈ z.cps.toList)) := ⟨_, op_inS, fun G S H v w Q ⟨O, W⟩ q => by
  obtain ⟨w', e, r⟩ := W.head
  cases e
  obtain ⟨v', e2, r2⟩ := W.pop.head
  cases e2
  exact ⟨c, z, r2, r, q H ⟨O, W.pop.pop⟩⟩⟩
/-- text[i] -/
theorem ev_ixS {c : Nat} (ha : Ev X H0 Oc Γ a (.va (.str z))) (hb : Ev X H0 Oc Γ b (.va (.int i))) (hz : z.length ≤ 1000000) (hi : L2.atI z.cps.toList i = some c) (hs : PlainIx b := by exact fun _ _ => rfl) : Ev X H0 Oc Γ (.Subscript a b pos) (.va (chD c)) :=
  ev_op2 (fun ha hb => pe_ix ix_str ha hb hs) ha hb fun G S H v w Q ⟨O, W⟩ q => by
    obtain ⟨u, h1, h2⟩ := W.head
    obtain ⟨u', h1', h3⟩ := W.pop.head
    cases h1
    cases h1'
    exact ⟨z, i, c, h3, h2, by rw [sizeLine_eq]; exact Nat.le_trans hz (by decide), hi, q _ H ⟨O, W.pop.pop.flat rfl (show Rep X.K H (chD c) (.str ⟨#[c]⟩) from rfl)⟩⟩
/-- d in y, y an own instance with __contains__ -/
theorem c_ownIn {q : Bool} (F : MtG X.prog X.w X.K X.mg X.base C "__contains__" k ps P) (hr : Room k X.A) (s1 s2 : Sl) (h2 : s2.dat = some (.obj C ns ds)) (hp : P [s2.arg, s1.arg] (.ret (.va (.bl q)))) : C2 X H0 Oc .In s1 s2 q := by
  obtain ⟨fi, fd, Fi, hM, hbd⟩ := F.ex
  refine ⟨_, Own.op_ownIn (E := E0) hM.at_ hM.fn Fi hr hbd passLN, fun G S H v w Q ⟨O, W⟩ kk => ?_⟩
  obtain ⟨r2, dx2, fs2, rfl, g2, g3, g4⟩ := (W.head.b W.ex h2 : RepB _ _ _ (.obj C ns ds) w)
  refine ⟨r2, dx2, fs2, rfl, g2, O, [s2.arg, s1.arg], _, hp, ?_, fun u H' w3 => ?_⟩
  · exact W.callee (ss := [s2, s1]) (vs := [.ref r2, v]) ⟨_, _, rfl, W.head, _, _, rfl, W.pop.head, rfl⟩
  · have w4 := W.pop.pop.after w3 rfl
    obtain ⟨O4, w5⟩ := w4
    obtain ⟨u', e, r⟩ := w5.head
    cases e
    exact ⟨q, r, kk H' ⟨O4, w5.pop⟩⟩
theorem c_ownNin {q : Bool} (F : MtG X.prog X.w X.K X.mg X.base C "__contains__" k ps P) (hr : Room k X.A) (s1 s2 : Sl) (h2 : s2.dat = some (.obj C ns ds)) (hp : P [s2.arg, s1.arg] (.ret (.va (.bl q)))) : C2 X H0 Oc .NotIn s1 s2 (!q) := by
  obtain ⟨fi, fd, Fi, hM, hbd⟩ := F.ex
  refine ⟨_, Own.op_ownNotIn (E := E0) hM.at_ hM.fn Fi hr hbd passLN, fun G S H v w Q ⟨O, W⟩ kk => ?_⟩
  obtain ⟨r2, dx2, fs2, rfl, g2, g3, g4⟩ := (W.head.b W.ex h2 : RepB _ _ _ (.obj C ns ds) w)
  refine ⟨r2, dx2, fs2, rfl, g2, O, [s2.arg, s1.arg], _, hp, ?_, fun u H' w3 => ?_⟩
  · exact W.callee (ss := [s2, s1]) (vs := [.ref r2, v]) ⟨_, _, rfl, W.head, _, _, rfl, W.pop.head, rfl⟩
  · have w4 := W.pop.pop.after w3 rfl
    obtain ⟨O4, w5⟩ := w4
    obtain ⟨u', e, r⟩ := w5.head
    cases e
    exact ⟨q, r, kk H' ⟨O4, w5.pop⟩⟩
end
/-! ### len(set(t)), t a tuple of different ints -/
def tLenSetT (K : PySem.W.Frag) (ta : TE) : TE := fun σ H Q => ta σ H fun x H1 => ∃ (l : Addr) (ns : List Int), x = .ref l ∧ SqT K H1 l (ns.map V.int) ∧ ns.Nodup ∧ ns.length ≤ 4000 ∧ Q (.int (ns.length : Nat)) H1
theorem pe_lenSetT {X : Cx} {a : Expr} {ta : TE} {p p2 q pos : Pos} (hg : Gl X "len") (hm : X.mg "len" = none) (hg2 : Gl X "set") (hm2 : X.mg "set" = none) (ha : PE X a ta) (hc : X.calm = true)
    (na : starEach [a] X.env = (false, eval a X.env) :: starEach [] X.env) : PE X (.Call (.Name "len" p) [.Call (.Name "set" p2) [a] [] q] [] pos) (tLenSetT X.K ta) := by
  refine ⟨fun pins s σ H Q I h => Call_ (ld_blt I hg hm boot_len (PyProof.Rows.callWith_builtin1 (PyProof.Rows.args_cons (Call_ (ld_blt I hg2 hm2 boot_set ?_)) rfl) rfl rfl))⟩
  refine PyProof.Rows.callWith_type1 (PyProof.Rows.args_cons (thn (ha.run pins s σ H _ I h) fun v s1 ⟨x, H1, I1, r1, q1⟩ => PyProof.Rows.args_nil ?_) na) na rfl
  obtain ⟨l, ns, rfl, hq, hnd, hl, q1⟩ := q1
  cases r1
  obtain ⟨its, r, pl, hz⟩ := I1.tuple hq
  refine call_set_tupI ns (I1.ok.hd hc) (show s1.heap.IsTuple l its.toArray from pl) (by simpa using ints_of_vals r) (by unfold scanBound; omega) fun h' tk m hS hm hk => PyProof.Rows.args_nil ?_
  obtain ⟨o, es, ep, t, ho, hex, hd, hgood, hnod, hmem, _, hf, hn, _⟩ := hS
  have e1 : (es.toList.map keyOf).length = m := by rw [List.length_map, Array.length_toList, hn]
  have e2 := mem_len ns (es.toList.map keyOf) hnd fun y hy => (hmem y).mp (decide_eq_true hy)
  have em : m = ns.length := by omega
  have I2 : Inv X pins σ H1 { s1 with heap := h', toks := tk } := I1.kept hk
  exact call_len_set ho hex hd hf (by rw [hn] <;> omega) ⟨.int ns.length, H1, I2.tok _, ⟨_, by rw [hn, em]⟩, q1⟩
theorem e_lenSetT {X : Cx} {H0 : Hp} {Oc : List Addr} {Γ : List Sl} {a : Expr} {p p2 q pos : Pos} {ns : List Int} (hm : X.mg "len" = none) (hm2 : X.mg "set" = none) (hc : X.calm = true) (ha : Ev X H0 Oc Γ a (.bw (encT ns))) (nd : ns.Nodup) (hl : ns.length ≤ 4000) (hg : Gl X "len" := by rfl) (hg2 : Gl X "set" := by rfl) (na : starEach [a] X.env = (false, eval a X.env) :: starEach [] X.env := by rfl) :
    Ev X H0 Oc Γ (.Call (.Name "len" p) [.Call (.Name "set" p2) [a] [] q] [] pos) (.va (.int ns.length)) := fun Δ τ σ H Q hl' w k => wpE.of (pe_lenSetT hg hm hg2 hm2 pe_wp hc na) (ha Δ τ σ H _ hl' w fun v H1 ⟨O, w1⟩ => by
  obtain ⟨u, g1, t, vs, rfl, h1, h2⟩ := w1.head
  cases g1
  rw [Reps.ints h2] at h1
  exact ⟨t, ns, rfl, .of h1, nd, hl, k _ H1 ⟨O, w1.pop.flat rfl (show Rep X.K H1 (.int ns.length) (.int ns.length) from rfl)⟩⟩)
end Y

namespace Y
open PySem PySem.Spec PyProof.Rows L2
/-! ## d[k] = v in general; d.setdefault(k, v) of a new text -/
def putKs (ks : List (List Int)) (k : List Int) : List (List Int) := if k ∈ ks then ks else ks ++ [k]
def setDs (k : List Int) (d : D) : List (List Int) → List D → List D
  | j :: ks, e :: ds => (if j = k then d else e) :: setDs k d ks ds
  | _, ds => ds
def putDs (ks : List (List Int)) (ds : List D) (k : List Int) (d : D) : List D := if k ∈ ks then setDs k d ks ds else ds ++ [d]
theorem setDs_len (k : List Int) (d : D) : ∀ (ks : List (List Int)) (ds : List D), (setDs k d ks ds).length = ds.length
  | [], ds => by unfold setDs; rfl
  | _ :: _, [] => by unfold setDs; rfl
  | j :: ks, e :: ds => by
    unfold setDs
    rw [List.length_cons, setDs_len k d ks ds, List.length_cons]
theorem set_rep {K : PySem.W.Frag} {H : Hp} {k : List Int} {d : D} {v : V} (rv : Rep K H d v) : ∀ {kvs : List (List Key × V)} {ks : List (List Int)} {ds : List D}, kvs.map (·.1) = ks.map kT → Reps K H ds (kvs.map (·.2)) →
    (kvs.map fun kv => if kv.1 = kT k then (kv.1, v) else kv).map (·.1) = ks.map kT ∧ Reps K H (setDs k d ks ds) ((kvs.map fun kv => if kv.1 = kT k then (kv.1, v) else kv).map (·.2))
  | [], [], ds, _, h => ⟨rfl, by unfold setDs; exact h⟩
  | [], _ :: _, _, h, _ => by cases h
  | _ :: _, [], _, h, _ => by cases h
  | p :: kvs, a :: ks, [], _, h => by cases (show _ = [] from h)
  | p :: kvs, a :: ks, e :: ds, h, r => by
    obtain ⟨h1, h2⟩ := List.cons.inj h
    have h1 : p.1 = kT a := h1
    obtain ⟨u, us, eu, r1, r2⟩ := r
    obtain ⟨e1, e2⟩ := List.cons.inj eu
    have e1 : p.2 = u := e1
    subst e1
    rw [← e2] at r2
    obtain ⟨i1, i2⟩ := set_rep rv h2 r2
    by_cases c : a = k
    · have c1 : p.1 = kT k := by rw [h1, c]
      refine ⟨?_, ?_⟩
      · rw [List.map_cons, if_pos c1, List.map_cons, List.map_cons, i1, h1]
      · unfold setDs
        rw [List.map_cons, if_pos c1, List.map_cons, if_pos c]
        exact Reps.cons rv i2
    · have c1 : ¬ p.1 = kT k := fun z => c (kT_inj (h1.symm.trans z))
      refine ⟨?_, ?_⟩
      · rw [List.map_cons, if_neg c1, List.map_cons, List.map_cons, i1, h1]
      · unfold setDs
        rw [List.map_cons, if_neg c1, List.map_cons, if_neg c]
        exact Reps.cons r1 i2
theorem put_rep {K : PySem.W.Frag} {H : Hp} {k : List Int} {d : D} {v : V} (rv : Rep K H d v) {kvs : List (List Key × V)} {ks : List (List Int)} {ds : List D} (h : kvs.map (·.1) = ks.map kT) (r : Reps K H ds (kvs.map (·.2))) :
    (putK kvs (kT k) v).map (·.1) = (putKs ks k).map kT ∧ Reps K H (putDs ks ds k d) ((putK kvs (kT k) v).map (·.2)) := by
  have hm := keys_mem h k
  have ha : (kvs.any fun kv => decide (kv.1 = kT k)) = decide (k ∈ ks) := by rw [valV_any]; exact hm
  unfold putK putKs putDs
  rw [ha]
  by_cases c : k ∈ ks
  · rw [decide_eq_true c, if_pos rfl, if_pos c, if_pos c]
    exact set_rep rv h r
  · rw [decide_eq_false c, if_neg (by decide), if_neg c, if_neg c]
    exact ⟨by rw [List.map_append, List.map_append, h]; rfl, by rw [List.map_append]; exact Reps.app r (Reps.one rv)⟩
section
variable {X : Cx} {W : WX} {H0 : Hp} {Oc : List Addr} {Γ : List Sl} {a b c e e1 e2 ie : Expr} {pos p tp apos cpos pos' : Pos} {x y : Str} {d : D} {ds : List D} {rest : List Stmt} {out : Out}
/-- d[k] = e -/
theorem d_dputG {k : List Int} {ks : List (List Int)} (n : Nat) (hu : X.A.units + 1 < cLine) (he : Ev X H0 Oc Γ e (.va d)) (hi : Ev X H0 Oc Γ ie (.va (encT k))) (hn : ds.length ≤ 1000000) (hr : Sds X W H0 Oc (Γ.set n (.ow (dctT (putKs ks k) (putDs ks ds k d)))) rest out)
    (h : Γ[n]? = some (.ow (dctT ks ds)) := by rfl) (hst : stab Γ = true := by rfl)
    (hN : X.N[n]? = some x := by rfl) (hv : Vis X.env.scope x := by first | exact .inl rfl | exact .inr (.inl rfl) | exact .inr (.inr rfl)) (hd : (x == ("__debug__" : Str)) = false := by rfl) (hcd : (x == ("__classdict__" : Str)) = false := by rfl)
    (hs : swapsWith e (some (.Subscript (.Name x p) ie tp)) pos.line X.env = pure false := by rfl) : Sds X W H0 Oc Γ (.Assign [.Subscript (.Name x p) ie tp] e pos :: rest) out := fun Δ τ σ H D hl st w k0 => by
  refine wpSs.of (pss_cons (ps_dput hu (pe_var hN hv hd hcd) pe_wp pe_wp hs) pss_wp) ?_
  refine he Δ τ σ H _ hl w fun v H1 ⟨O1, w1⟩ => ?_
  obtain ⟨y, hy, pp, oo, rfl, g2, g3, g4, g5⟩ := slot_of hl w1.pop h
  refine ⟨.ref pp, hy, ?_⟩
  refine hi (.va d :: Δ) (some v :: τ) σ H1 _ (by simp [hl]) ⟨O1, w1⟩ fun iv H2 ⟨O2, w2⟩ => ?_
  obtain ⟨iv', e1, r1⟩ := w2.head
  cases e1
  obtain ⟨y', hy', q, u, e1, k2, k3, k4, k5⟩ := slot_of hl w2.pop.pop h
  rw [hy] at hy'
  cases hy'
  cases e1
  obtain ⟨v', e2, rv⟩ := w2.pop.head
  cases e2
  cases u <;> first | exact k5.elim | skip
  rename_i kvs
  have k5' : RepH X.K (cut H2 O2) (Y.D.dT (ks.map kT) ds) pp (HO.dT kvs) := k5
  unfold RepH at k5'
  obtain ⟨k5, k6⟩ := k5'
  obtain ⟨b0, rfl, hb0⟩ := rep_key r1
  have lk : kvs.length = ds.length := by have := k6.len; rwa [List.length_map] at this
  obtain ⟨p1, p2⟩ := put_rep (k := k) rv k5 k6
  exact ⟨pp, _, rfl, .t k4 (cut_ex _ _ hb0) (by rw [lk, sizeLine_eq]; omega), hr Δ τ σ _ D hl st ⟨O2, w2.pop.pop.mutN hl st hst h hy (o' := .dT (putK kvs (kT k) v)) (d' := dctT (putKs ks k) (putDs ks ds k d)) ⟨p1, p2⟩⟩ k0⟩
/-! ### texts as keys -/
theorem mt_setdefault : MtR X "dict.setdefault" rSetd := by
  intro pins s σ H x xs v us Q I rx rxs h
  obtain ⟨a, kvs, k, v0, rfl, rfl, ea, hl, w1, w2⟩ := h
  cases rx
  cases rxs with
  | cons ry rv =>
    cases rv with
    | cons rd rv =>
      cases rv
      obtain ⟨z, hd, vs0, rel, dd⟩ := dk_of I.hok ea
      have dd2 := dd
      obtain ⟨o, es, ep, eo, exd, hdat, _⟩ := dd2
      have hz : vs0.length ≤ sizeLine := by rw [← rel.length]; exact z
      refine call_meetsIn F.slot_dict_setdefault ⟨o, eo, exd.1⟩ F.entry_dict_setdefault (F.args_dict_setdefault_3 _ _ _) (kt_meets_setdefault (mixKind X.prog X.w) _ (kV_is ry) hd _) ⟨vs0, dd, hz, fun u hu => ?_, fun hn h' dd' hs => ?_⟩
      · have rr := rel.val k
        rw [hu] at rr
        cases hv : valV kvs k with
        | none => rw [hv] at rr; exact False.elim rr
        | some x =>
          rw [hv] at rr
          exact (⟨x, H, I.tok _, rr, w1 x hv⟩ : EP X pins σ Q u _)
      · have rr := rel.val k
        rw [hn] at rr
        cases hv : valV kvs k with
        | some x => rw [hv] at rr; exact False.elim rr
        | none =>
          have hl2 : (putK kvs k v0).length ≤ sizeLine := by have := length_putK kvs k v0; omega
          exact (⟨v0, _, d_write (t' := s.toks + 1) I (by rw [ea]; exact True.intro) hs (let ⟨q, _, _, hq, _⟩ := dd'; ⟨q, hq⟩) (dk_new hl2 hd (rel.put k rd) dd'), rd, w2 hv⟩ : EP X pins σ Q _ _)
def dctS (ks : List Str) (ds : List D) : D := .dK (ks.map .inr) ds
theorem ev_dK0 : Ev X H0 Oc Γ (.Dict [] [] pos) (.ow (dctS [] [])) := fun Δ τ σ H Q hl ⟨O, W⟩ q =>
  wpE.of pe_dnewK fun p hp => q _ _ ⟨_, W.pushOw (o := .dK []) (Ex.new hp) hp upd_same ⟨rfl, rfl⟩⟩
/-- y = d.setdefault(k, e), k a new text -/
theorem d_setdef {k : Str} {ks : List Str} (n m : Nat) (hNd : X.N.Nodup) (ha : Ev X H0 Oc Γ e1 (.va (.str k))) (hb : Ev X H0 Oc Γ e2 (.va d)) (hk : k ∉ ks) (hn : ds.length ≤ 1000000) (hr : Sds X W H0 Oc ((Γ.set n (.ow (dctS (ks ++ [k]) (ds ++ [d])))).set m (.va d)) rest out)
    (h : Γ[n]? = some (.ow (dctS ks ds)) := by rfl) (hst : stab Γ = true := by rfl)
    (hN : X.N[n]? = some x := by rfl) (hv : Vis X.env.scope x := by first | exact .inl rfl | exact .inr (.inl rfl) | exact .inr (.inr rfl)) (hd : (x == ("__debug__" : Str)) = false := by rfl) (hcd : (x == ("__classdict__" : Str)) = false := by rfl)
    (hm : X.N[m]? = some y := by rfl) (hy : Loc X.env.scope y := by first | exact .inl rfl | exact .inr rfl) (hf : X.fn y = true ∨ X.env.scope.names.lookup y = some .local := by first | exact .inr rfl | exact .inl rfl)
    (hbase : attributeBase (.Name x p) "setdefault" X.env (eval (.Name x p) X.env) = eval (.Name x p) X.env := by rfl)
    (hfew : ((backTo cpos (starEach [e1, e2] X.env)).all (fun x => !x.1) && (backToKw cpos (keywordEach [] X.env)).all (fun x => x.1.isSome)
      && decide (([e1, e2] : List Expr).length + ([] : List Keyword).length + (if ([] : List Keyword).isEmpty then 0 else 1) < 30)) = true := by rfl)
    (hline : (apos.endLine == cpos.line) = true := by rfl) (hs1 : starEach [e1, e2] X.env = (false, eval e1 X.env) :: starEach [e2] X.env := by rfl) (hs2 : starEach [e2] X.env = (false, eval e2 X.env) :: starEach [] X.env := by rfl) (hplain : (backTo cpos (starEach [e2] X.env)).any (·.1) = false := by rfl)
    (hsw : swapsWith (.Call (.Attribute (.Name x p) "setdefault" apos) [e1, e2] [] cpos) (some (.Name y pos')) pos.line X.env = pure false := by rfl) :
    Sds X W H0 Oc Γ (.Assign [.Name y pos'] (.Call (.Attribute (.Name x p) "setdefault" apos) [e1, e2] [] cpos) pos :: rest) out := fun Δ τ σ H D hl st w k0 => by
  refine wpSs.of (pss_cons (ps_set hNd hm hy (pe_bm PySem.F.plainAttrs_dict PySem.F.slot_dict_setdefault PySem.F.type_dict_setdefault mt_setdefault (pe_var hN hv hd hcd) (pa_cons pe_wp (pa_cons pe_wp pa_nil hs2) hs1) hbase hfew hline hs1 hplain) hsw hf) pss_wp) ?_
  obtain ⟨O0, w0⟩ := id w
  obtain ⟨z, hz, pp, oo, rfl, g2, g3, g4, g5⟩ := slot_of hl w0 h
  refine ⟨.ref pp, hz, ?_, ?_⟩
  · cases oo <;> first
      | exact g5.elim
      | exact .inr (.inr (.inl ⟨rfl, .inl ⟨_, g4⟩⟩))
  · refine ha Δ τ σ H _ hl w fun v1 H1 w1 => ?_
    refine hb (.va (.str k) :: Δ) (some v1 :: τ) σ H1 _ (by simp [hl]) w1 fun v2 H2 ⟨O, w2⟩ => ?_
    obtain ⟨v1', e3, r1⟩ := w2.pop.head
    cases e3
    obtain ⟨v2', e4, r2⟩ := w2.head
    cases e4
    obtain ⟨z', hz', q, u, e5, k2, k3, k4, k5⟩ := slot_of hl w2.pop.pop h
    rw [hz] at hz'
    cases hz'
    cases e5
    cases u <;> first | exact k5.elim | skip
    rename_i kvs
    have k5' : RepH X.K (cut H2 O) (Y.D.dK (ks.map .inr) ds) pp (HO.dK kvs) := k5
    unfold RepH at k5'
    obtain ⟨k5, k6⟩ := k5'
    have lk : kvs.length = ds.length := by have := k6.len; rwa [List.length_map] at this
    have new : ∀ {l : List (Key × V)} {js : List Str}, l.map (·.1) = js.map .inr → k ∉ js → valV l (.inr k) = none := by
      intro l
      induction l with
      | nil => intro js _ _; rfl
      | cons a l ih =>
        intro js hj hn
        cases js with
        | nil => cases hj
        | cons j js =>
          obtain ⟨j1, j2⟩ := List.cons.inj hj
          have j1 : a.1 = .inr j := j1
          rw [valV_neg (fun z => hn (by rw [j1] at z; cases z; exact List.mem_cons_self))]
          exact ih j2 fun z => hn (List.mem_cons_of_mem _ z)
    have nw := new k5 hk
    have ep : putK kvs (.inr k) v2 = kvs ++ [(.inr k, v2)] := by
      unfold putK
      rw [valV_any, nw]
      rfl
    refine ⟨pp, kvs, .inr k, v2, rfl, by rw [show v1 = .str k from r1]; rfl, k4, by rw [lk, sizeLine_eq]; omega, (fun u hu => by rw [nw] at hu; cases hu), fun _ => ?_⟩
    rw [ep]
    have st2 : stab (.va d :: .va (.str k) :: Δ) = true := by
      show stab ([.va d, .va (.str k)] ++ Δ) = true
      rw [stab_app, st]
      rfl
    have w3 := w2.mutN (Δ := .va d :: .va (.str k) :: Δ) (τ := some v2 :: some v1 :: τ) (by simp [hl]) st2 hst h hz (o' := .dK (kvs ++ [(.inr k, v2)])) (d' := dctS (ks ++ [k]) (ds ++ [d])) ⟨by rw [List.map_append, List.map_append, k5]; rfl, by rw [List.map_append]; exact Reps.app k6 (Reps.one r2)⟩
    have w4 := WfO.set (Δ := .va (.str k) :: Δ) (τ := some v1 :: τ) (n := m) (s := .va d) (by simp [hl]) w3
    exact hr Δ τ _ _ D hl st ⟨O, w4.pop⟩ k0
end
end Y

namespace Y
open PySem PySem.Spec PyProof.Rows L2 Sup NdefX
/-! ## a def with captured names (`__class__`) and with cells of its own -/
theorem cellsFrom_app : ∀ (names : List (Str × NameKind)) (n : Nat) (acc : List (Str × Addr)), cellsFrom n names acc = cellsFrom n names [] ++ acc
  | [], _, _ => rfl
  | (name, kind) :: r, n, acc => by
    unfold cellsFrom
    split
    · rw [cellsFrom_app r (n + 1) ((name, n) :: acc), cellsFrom_app r (n + 1) [(name, n)], List.append_assoc]
      rfl
    · exact cellsFrom_app r n acc
theorem cellsFrom_name : ∀ (names : List (Str × NameKind)) (n : Nat) (acc : List (Str × Addr)) (x : Str) (c : Addr), (x, c) ∈ cellsFrom n names acc → (x, c) ∈ acc ∨ (x, NameKind.cell) ∈ names
  | [], _, _, _, _, h => .inl h
  | (name, kind) :: r, n, acc, x, c, h => by
    unfold cellsFrom at h
    split at h
    · rename_i hk
      rcases cellsFrom_name r (n + 1) _ x c h with q | q
      · rcases List.mem_cons.mp q with e | q
        · cases e
          have : kind = .cell := by simpa using hk
          subst this
          exact .inr List.mem_cons_self
        · exact .inl q
      · exact .inr (List.mem_cons_of_mem _ q)
    · rcases cellsFrom_name r n acc x c h with q | q
      · exact .inl q
      · exact .inr (List.mem_cons_of_mem _ q)
section
variable {M : Model} {A : Around} {E : Value → Shared → Prop} {s₀ s : Shared} {m cm : Str → Option Value} {env : Env} {own : List (Str × Addr)}
theorem stLX {n : Str} {v : Value} {Q : Unit → Shared → Prop} (x : InCallC s₀ env.locals m own cm s) (hk : env.scope.kind = .function) (hl : env.kindOf n = some .local)
    (h : ∀ s', InCallC s₀ env.locals (fun y => if y = n then some v else m y) own cm s' → Q () s') : wpAny M A (storeName env n v) Q E s := by
  refine wpAny_storeName_local hl x.toInCall.ns (fun h' hn' hs' => h _ ⟨⟨?_, hn', fun b o e => ?_, x.toInCall.fresh⟩, fun k c hc => ?_, x.apart, x.above⟩) (by rw [hk]; rfl)
  · obtain ⟨h₁, tk, rfl⟩ := x.toInCall.same
    exact ⟨h', _, rfl⟩
  · exact hs'.extBut b o (Nat.ne_of_lt (Nat.lt_of_lt_of_le (Heap.lt_size e) x.toInCall.fresh)) (x.toInCall.keep b o e)
  · exact (x.cell k c hc).sameBut hs' (Nat.ne_of_gt (x.above k c (mem_of_lookup hc)))
theorem stCX {n : Str} {c : Addr} {v : Value} {Q : Unit → Shared → Prop} (sub : ∀ n c, own.lookup n = some c → env.cells.lookup n = some c) (x : InCallC s₀ env.locals m own cm s) (hk : env.scope.kind = .function) (hl : env.kindOf n = some .cell)
    (hc : own.lookup n = some c) (h : ∀ s', InCallC s₀ env.locals m own (fun y => if y = n then some v else cm y) s' → Q () s') : wpAny M A (storeName env n v) Q E s := by
  have hLc := x.above n c (mem_of_lookup hc)
  refine wpAny_storeName_cell hk hl (sub n c hc) (x.cell n c hc) fun h' hc' hs' => h _ ⟨⟨?_, x.toInCall.ns.sameBut hs' (Nat.ne_of_lt hLc), fun b o e => ?_, x.toInCall.fresh⟩, fun k c' hk' => ?_, x.apart, x.above⟩
  · obtain ⟨h₁, tk, rfl⟩ := x.toInCall.same
    exact ⟨h', _, rfl⟩
  · exact hs'.extBut b o (Nat.ne_of_lt (Nat.lt_trans (Nat.lt_of_lt_of_le (Heap.lt_size e) x.toInCall.fresh) hLc)) (x.toInCall.keep b o e)
  · by_cases hkn : k = n
    · subst hkn
      rw [hc] at hk'
      cases hk'
      simpa using hc'
    · rw [if_neg hkn]
      exact (x.cell k c' hk').sameBut hs' fun e => hkn (name_of_addr x.apart (mem_of_lookup hk') (e ▸ mem_of_lookup hc))
theorem bindParamsX (f : Str × Value → PUnit → Sem (ForInStep PUnit)) (hf : ∀ n v u, f (n, v) u = (do storeName env n v; pure (.yield ⟨⟩))) (hk : env.scope.kind = .function) (sub : ∀ n c, own.lookup n = some c → env.cells.lookup n = some c) :
    ∀ (binds : List (Str × Value)) (m cm : Str → Option Value) (s : Shared) (Q : PUnit → Shared → Prop), InCallC s₀ env.locals m own cm s →
      (∀ x ∈ binds, env.kindOf x.1 = some .local ∨ (env.kindOf x.1 = some .cell ∧ (own.lookup x.1).isSome = true)) →
      (∀ s', InCallC s₀ env.locals (bindL env.kindOf binds m) own (bindC env.kindOf binds cm) s' → Q ⟨⟩ s') → wpAny M A (forIn binds ⟨⟩ f) Q E s
  | [], m, cm, s, Q, x, _, h => by rw [List.forIn_nil]; exact wpAny_pure (h s x)
  | (n, v) :: r, m, cm, s, Q, x, hkind, h => by
    rw [List.forIn_cons, hf]
    have hr : ∀ y ∈ r, env.kindOf y.1 = some .local ∨ (env.kindOf y.1 = some .cell ∧ (own.lookup y.1).isSome = true) := fun y hy => hkind y (List.mem_cons_of_mem _ hy)
    rcases hkind (n, v) List.mem_cons_self with hl | ⟨hl, hc⟩
    · refine wpAny_bind (wpAny_bind (stLX x hk hl fun s' x' => wpAny_pure (bindParamsX f hf hk sub r _ _ s' Q x' hr fun s'' x'' => h s'' ?_)))
      unfold bindL bindC; rw [if_pos hl, if_pos hl]; exact x''
    · obtain ⟨c, hc⟩ := Option.isSome_iff_exists.mp hc
      have hnl : ¬ env.kindOf n = some .local := by rw [hl]; decide
      refine wpAny_bind (wpAny_bind (stCX sub x hk hl hc fun s' x' => wpAny_pure (bindParamsX f hf hk sub r _ _ s' Q x' hr fun s'' x'' => h s'' ?_)))
      unfold bindL bindC; rw [if_neg hnl, if_neg hnl]; exact x''
end
section
variable {M : Model} {A : Around} {E : Value → Shared → Prop} {s : Shared}
theorem lookup_app {own cl : List (Str × Addr)} {n : Str} {c : Addr} (h : own.lookup n = some c) : (own ++ cl).lookup n = some c := by rw [List.lookup_append, h]; rfl
theorem newFunctionEnvX {scope : Scope} {globals : Addr} {cl : List (Str × Addr)} {binds : List (Str × Value)} {qual : Str} {func : Option Addr} {code : Value} {builtins : Addr} {Q : Env → Shared → Prop}
    (hk : scope.kind = .function)
    (hkind : ∀ x ∈ binds, scope.names.lookup x.1 = some .local ∨ (scope.names.lookup x.1 = some .cell ∧ ((cellsFrom (s.heap.objs.size + 1) scope.names []).lookup x.1).isSome = true))
    (hQ : ∀ env, env = newEnv scope s.heap.objs.size globals (cellsFrom (s.heap.objs.size + 1) scope.names cl) qual func code none builtins →
      ∀ s', InCallC s env.locals (bindL env.kindOf binds fun _ => none) (cellsFrom (s.heap.objs.size + 1) scope.names []) (bindC env.kindOf binds fun _ => none) s' → Q env s') :
    wpAny M A (newFunctionEnv scope globals cl binds qual func code none builtins) Q E s := by
  simp only [newFunctionEnv, Option.isSome_none, Bool.false_eq_true, if_false]
  refine wpAny_bind (wpAny_alloc ?_)
  refine wpAny_bind (wpAny_layCells _ (fun name kind cells => by cases hkc : kind == NameKind.cell <;> simp [hkc]) _ _ _ _ ?_)
  have ok := cellsFrom_ok scope.names (s.heap.push { cls := .type "frame", data := .dict #[] }) (s.heap.objs.size + 1) [] ⟨fun _ _ hm => (nomatch hm), List.Pairwise.nil⟩ (by rw [Heap.size_push]; exact Nat.le_refl _)
  rw [Heap.size_push] at ok
  rw [show ({ s with heap := s.heap.push { cls := .type "frame", data := .dict #[] } } : Shared).heap.objs.size = s.heap.objs.size + 1 from Heap.size_push ..]
  refine wpAny_bind (bindParamsX (s₀ := s) (env := newEnv scope s.heap.objs.size globals (cellsFrom (s.heap.objs.size + 1) scope.names cl) qual func code none builtins) (own := cellsFrom (s.heap.objs.size + 1) scope.names [])
    _ (fun _ _ _ => rfl) hk (fun n c h => by show List.lookup n (cellsFrom (s.heap.objs.size + 1) scope.names cl) = _; rw [cellsFrom_app]; exact lookup_app h) binds (fun _ => none) (fun _ => none) _ _
    ⟨⟨⟨_, _, rfl⟩, (Heap.Ns.new s.heap (.type "frame")).keeps (pushCells_keeps _ _), fun b o e => pushCells_keeps _ _ b o (Heap.get?_push_of_some _ e), Nat.le_refl _⟩,
      fun n c hc => (ok.empty n c (mem_of_lookup hc)).1, ok.apart, fun n c hm => (ok.empty n c hm).2⟩
    hkind fun s' x => wpAny_pure (hQ _ rfl s' x))
end
/-- its names: the parameters, then the captured ones, then its locals; parameters may be cells -/
structure XScope (N ps fr : List Str) (sc : Scope) : Prop where
  kind : sc.kind = .function
  co : sc.isCoroutine = false
  gen : sc.isGenerator = false
  nd : N.Nodup
  pre : N.take (ps.length + fr.length) = ps ++ fr
  par : ∀ x ∈ ps, sc.names.lookup x = some .local ∨ sc.names.lookup x = some .cell
  disj : ∀ y ∈ sc.names, y.2 = .cell → y.1 ∉ fr
  free : ∀ y ∈ sc.names, y.2 = .free → y.1 ∈ fr
  frk : ∀ x ∈ fr, sc.names.lookup x = some .free
def xscB (N ps fr : List Str) (sc : Scope) : Bool :=
  decide (sc.kind = .function) && !sc.isCoroutine && !sc.isGenerator && decide N.Nodup && decide (N.take (ps.length + fr.length) = ps ++ fr) && ps.all (fun x => decide (sc.names.lookup x = some .local) || decide (sc.names.lookup x = some .cell)) && sc.names.all (fun y => !decide (y.2 = .cell) || !decide (y.1 ∈ fr)) && sc.names.all (fun y => !decide (y.2 = .free) || decide (y.1 ∈ fr)) && fr.all (fun x => decide (sc.names.lookup x = some .free))
theorem xscope_by {N ps fr : List Str} {sc : Scope} (h : xscB N ps fr sc = true) : XScope N ps fr sc := by
  unfold xscB at h
  simp only [Bool.and_eq_true, Bool.not_eq_true', decide_eq_true_eq, List.all_eq_true, Bool.or_eq_true, decide_eq_false_iff_not] at h
  obtain ⟨⟨⟨⟨⟨⟨⟨⟨h1, h2⟩, h3⟩, h4⟩, h5⟩, h6⟩, h7⟩, h8⟩, h9⟩ := h
  exact ⟨h1, h2, h3, h4, h5, h6, fun y hy e => (h7 y hy).elim (fun z => absurd e z) id, fun y hy e => (h8 y hy).elim (fun z => absurd e z) id, h9⟩
abbrev envZ (F : NF) (f L : Addr) : Env := PySem.W.envX F.qual F.scope L f (.ref F.c) (cellsFrom (L + 1) F.scope.names F.cl)
/-- the context of its body, at its entry -/
def zcx (CX : CXT) (P : Program) (w : World) (K : PySem.W.Frag) (mg : Str → Option Value) (base : Heap) (N : List Str) (F : NF) (f : Addr) (A : Around) (outer : List Env) (s : Shared) (H : Hp) (E : XK) : Cx where
  prog := P
  w := w
  K := K
  mg := mg
  base := base
  A := A.deeper (envZ F f s.heap.objs.size)
  N := N
  s_0 := s
  H_0 := H
  env := envZ F f s.heap.objs.size
  outer := outer
  stack := envZ F f s.heap.objs.size :: outer
  ex := []
  calm := true
  fn := fun x => decide (F.scope.names.lookup x = some .cell)
  pn := []
  xe := fun e s' => wpAny (model P w) (A.deeper (envZ F f s.heap.objs.size)) (leaving (envZ F f s.heap.objs.size) e) (fun _ s'' => CX outer H s E e s'') (fun e' s'' => CX outer H s E e' s'') s'
section
variable {CX : CXT} {P : Program} {w : World} {K : PySem.W.Frag} {mg : Str → Option Value} {base : Heap} {N ps fr : List Str} {F : NF} {f : Addr} {A : Around} {outer : List Env} {s s1 : Shared} {H : Hp} {E : XK} {us : List Value} {vs : List V} {ws : List (Option V)}
theorem inv_startZ (S : XScope N ps fr F.scope) (hd : A.handled = none) (e0 : Env0 P w K mg base A outer s H) (hl : vs.length = ps.length) (r : Vals vs us) (C : CellsAt F.cl fr ws s.heap H) (hcl : ∀ y c, F.cl.lookup y = some c → y ∈ fr)
    (x : InCallC s s.heap.objs.size (bindL (envZ F f s.heap.objs.size).kindOf (ps.zip us) fun _ => none) (cellsFrom (s.heap.objs.size + 1) F.scope.names []) (bindC (envZ F f s.heap.objs.size).kindOf (ps.zip us) fun _ => none) s1) :
    Inv (zcx CX P w K mg base N F f A outer s H E) [] (startF N vs ws) H s1 := by
  have hpl : ps.length + fr.length ≤ N.length := by
    have q := congrArg List.length S.pre
    rw [List.length_take, List.length_append] at q
    omega
  obtain ⟨h1, tk, rfl, hk⟩ := x.done
  have noA : ∀ b : Addr, b ∉ (zcx CX P w K mg base N F f A outer s H E).ex := fun b z => absurd (show b ∈ ([] : List Addr) from z) (by simp)
  have cellK : ∀ {c : Addr} {v : Option Value}, s.heap.IsCell c v → h1.IsCell c v := fun {c v} ⟨o, ho, hd⟩ => ⟨o, hk _ _ ho, hd⟩
  have ceq : (envZ F f s.heap.objs.size).cells = cellsFrom (s.heap.objs.size + 1) F.scope.names [] ++ F.cl := cellsFrom_app _ _ _
  have split : ∀ {y : Str} {c : Addr}, (envZ F f s.heap.objs.size).cells.lookup y = some c → (cellsFrom (s.heap.objs.size + 1) F.scope.names []).lookup y = some c ∨ ((cellsFrom (s.heap.objs.size + 1) F.scope.names []).lookup y = none ∧ F.cl.lookup y = some c) := fun {y c} e => by
    rw [ceq, List.lookup_append] at e
    cases q : (cellsFrom (s.heap.objs.size + 1) F.scope.names []).lookup y with
    | none => rw [q] at e; exact .inr ⟨rfl, e⟩
    | some c' => rw [q] at e; exact .inl e
  have clt : ∀ {y : Str} {c : Addr}, F.cl.lookup y = some c → c < s.heap.objs.size := fun {y c} e => by
    obtain ⟨v, o, ho, _⟩ := (C.all y c e).2
    exact Heap.lt_size ho
  have ownNo : ∀ {y : Str}, y ∈ fr → (cellsFrom (s.heap.objs.size + 1) F.scope.names []).lookup y = none := fun {y} hy => by
    cases q : (cellsFrom (s.heap.objs.size + 1) F.scope.names []).lookup y with
    | none => rfl
    | some c =>
      rcases cellsFrom_name _ _ _ _ _ (PySem.mem_of_lookup q) with z | z
      · cases z
      · exact absurd hy (S.disj _ z rfl)
  have clAt : ∀ {y : Str} {c : Addr}, F.cl.lookup y = some c → (envZ F f s.heap.objs.size).cells.lookup y = some c := fun {y c} e => by
    rw [ceq, List.lookup_append, ownNo (hcl y c e)]
    exact e
  refine ⟨⟨e0.mod, S.kind, rfl, rfl, Nat.le_refl _, fun y z c h1 h2 => ?_, fun y hy => ?_, fun y c hf h => ?_, fun _ => hd, Around.frames_deeper e0.frames, .inr ⟨rfl, rfl⟩, fun b z => absurd z (noA b), e0.bs, e0.bsz, fun b _ _ => noA b, fun b z => absurd z (noA b), e0.funs, e0.frf⟩,
    rfl, e0.bare, Un.kept hk, ⟨_, x.toInCall.ns, fun i y v h1 h2 h3 => ?_⟩, fun y c h => ?_, e0.hok.fresh (Nat.le_refl _), fun y c h => ?_, fun p hp => absurd (show p ∈ ([] : List (Addr × Obj)) from hp) (by simp), e0.hok.kept hk, ?_⟩
  · rcases split h1 with a1 | ⟨_, a1⟩ <;> rcases split h2 with a2 | ⟨_, a2⟩
    · exact name_of_addr x.apart (PySem.mem_of_lookup a1) (PySem.mem_of_lookup a2)
    · have b1 := x.above _ _ (PySem.mem_of_lookup a1)
      have b2 := clt a2
      exact absurd b1 (Nat.not_lt.mpr (Nat.le_of_lt b2))
    · have b1 := x.above _ _ (PySem.mem_of_lookup a2)
      have b2 := clt a1
      exact absurd b1 (Nat.not_lt.mpr (Nat.le_of_lt b2))
    · exact C.inj _ _ _ a1 a2
  · have hy : F.scope.names.lookup y = some .cell ∨ F.scope.names.lookup y = some .free := hy
    rcases hy with hy | hy
    · obtain ⟨c, e⟩ := cell_has (n := s.heap.objs.size + 1) hy
      exact ⟨c, by show (envZ F f s.heap.objs.size).cells.lookup y = some c; rw [ceq]; exact lookup_app e⟩
    · obtain ⟨i, hi⟩ := List.mem_iff_getElem?.mp (S.free _ (PySem.mem_of_lookup hy) rfl)
      obtain ⟨c, hc, _⟩ := C.has i y hi
      exact ⟨c, clAt hc⟩
  · have hf : F.scope.names.lookup y = some .cell := of_decide_eq_true hf
    rcases split h with a | ⟨a, b⟩
    · exact Nat.le_of_lt (x.above y c (PySem.mem_of_lookup a))
    · obtain ⟨c', e⟩ := cell_has (n := s.heap.objs.size + 1) hf
      rw [e] at a
      cases a
  · have h1 : N[i]? = some y := h1
    have clen := C.len
    unfold startF at h2
    have ndP : ps.Nodup := by
      have q := S.nd.sublist (List.take_sublist (ps.length + fr.length) N)
      rw [S.pre] at q
      exact (List.nodup_append.mp q).1
    by_cases hi : i < ps.length
    · have hq : (ps ++ fr)[i]? = some y := by
        rw [← S.pre, List.getElem?_take_of_lt (by omega)]
        exact h1
      rw [List.getElem?_append_left hi] at hq
      rw [List.getElem?_append_left (by rw [List.length_map]; omega), List.getElem?_map] at h2
      have ha : vs[i]? = some v := by
        cases e : vs[i]? with
        | none => rw [e] at h2; cases h2
        | some a => rw [e] at h2; cases h2; rfl
      obtain ⟨u, hu, rv⟩ := r.get ha
      refine ⟨u, rv, ?_⟩
      rcases S.par y (List.mem_of_getElem? hq) with k | k
      · exact .inl ⟨k, bindL_get ndP hq hu k⟩
      · obtain ⟨c, e⟩ := cell_has (n := s.heap.objs.size + 1) k
        refine .inr ⟨.inl k, c, by show (envZ F f s.heap.objs.size).cells.lookup y = some c; rw [ceq]; exact lookup_app e, ?_⟩
        have q := x.cell y c e
        rw [bindC_get ndP hq hu (by show F.scope.names.lookup y ≠ _; rw [k]; decide)] at q
        exact q
    · rw [List.getElem?_append_right (by rw [List.length_map]; omega), List.length_map] at h2
      by_cases hj : i < ps.length + fr.length
      · have hq : (ps ++ fr)[i]? = some y := by
          rw [← S.pre, List.getElem?_take_of_lt (by omega)]
          exact h1
        rw [List.getElem?_append_right (by omega)] at hq
        rw [List.getElem?_append_left (by omega), hl] at h2
        obtain ⟨c, hc, hv⟩ := C.has (i - ps.length) y hq
        obtain ⟨u, ru, hu⟩ := hv v h2
        exact ⟨u, ru, .inr ⟨.inr (S.frk y (List.mem_of_getElem? hq)), c, clAt hc, cellK hu⟩⟩
      · rw [List.getElem?_append_right (by omega), List.getElem?_replicate] at h2
        split at h2 <;> cases h2
  · rcases split h with a | ⟨_, a⟩
    · exact ⟨_, x.cell y c a⟩
    · obtain ⟨v, z⟩ := (C.all y c a).2
      exact ⟨v, cellK z⟩
  · rcases split h with a | ⟨_, a⟩
    · exact e0.hok.fresh (Nat.le_of_lt (x.above y c (PySem.mem_of_lookup a)))
    · exact (C.all y c a).1
  · have clen := C.len
    unfold startF
    show _ = N.length
    rw [List.length_append, List.length_append, List.length_map, List.length_replicate]
    omega
end
/-- as Sup.fn_ofA, with cells of its own -/
theorem fn_ofZ {CX : CXT} {P : Program} {w : World} {K : PySem.W.Frag} {mg : Str → Option Value} {base : Heap} {k : Nat} {f : Addr} {F : NF} {dV kV doc pm ct oc : Value} {an od : Option Addr} {osl : Array (Option Value)} {N ps fr : List Str} {ws : List (Option V)} {sp : Sp}
    (lk : K.lookup f = some ⟨oc, od, .func (PySem.W.fnX F.name F.qual F.params F.body F.scope F.cl dV kV doc pm an (.ref F.c) ct), osl⟩) (hcd : PySem.W.codeIn K (.ref F.c) F.qual = true) (S : XScope N ps fr F.scope)
    (hc : ∀ (s : Shared) (A : Around) (outer : List Env) (H : Hp), Env0 P w K mg base A outer s H → CellsAt F.cl fr ws s.heap H) (hcl : ∀ y c, F.cl.lookup y = some c → y ∈ fr)
    (len : ∀ vs H Q E, sp vs H Q E → vs.length = ps.length)
    (hbody : ∀ (A : Around) (outer : List Env) (s : Shared) (H : Hp) (vs : List V) (Q : VK) (E : XK), Room k (A.deeper (envZ F f s.heap.objs.size)) → sp vs H Q E →
      ∃ t, PSA (zcx CX P w K mg base N F f A outer s H E) (.func F.body (envZ F f s.heap.objs.size)) F.body t ∧ t { nx := fun _ H' => Q .non H', rt := Q } (startF N vs ws) H) :
    FnOk P w K mg base CX (k + 1) f (PySem.W.fnX F.name F.qual F.params F.body F.scope F.cl dV kV doc pm an (.ref F.c) ct) ps sp := by
  refine ⟨len, fun A outer s H args us vs Q E hr e0 hb r hsp => ?_⟩
  have hl := len _ _ _ _ hsp
  have KX : K.In s.heap := e0.mod.kin.keeps fun b o e => (e0.bs b o e).1
  have lim : s.heap.NoLimit := e0.mod.nolimit.keeps fun b o e => (e0.bs b o e).1
  have hkind : ∀ y ∈ ps.zip us, F.scope.names.lookup y.1 = some .local ∨ (F.scope.names.lookup y.1 = some .cell ∧ ((cellsFrom (s.heap.objs.size + 1) F.scope.names []).lookup y.1).isSome = true) := fun ⟨n, v⟩ hy => by
    rcases S.par n (List.of_mem_zip hy).1 with q | q
    · exact .inl q
    · exact .inr ⟨q, PySem.W.cellsFrom_some _ _ _ (.inl q)⟩
  refine codeAny_call_function hr.depth (KX _ _ lk) rfl S.co S.gen rfl (PySem.W.codeRec_of KX hcd) (hb _ _ _ _ ?_)
  refine newFunctionEnvX S.kind hkind fun env he s1 x => ?_
  subst he
  refine ⟨lim.keeps x.toInCall.keep, ks_codeAny_funcAt ?_⟩
  obtain ⟨t, ht, hq⟩ := hbody A outer s H vs Q E (hr.deeper _) hsp
  have I : Inv (zcx CX P w K mg base N F f A outer s H E) [] (startF N vs ws) H s1 := inv_startZ S hr.hd e0 hl r (hc s A outer H e0) hcl x
  refine _root_.PySem.wpAt_mono (ht.run [] s1 (startF N vs ws) H _ I hq) (fun fl s' hs => ?_) fun e s' hs => hs
  have fin : ∀ {σ' : L2.St} {H' : Hp} {v : V} {u : Value}, Inv (zcx CX P w K mg base N F f A outer s H E) [] σ' H' s' → L2.RelV v u → Q v H' → CE outer P w H s Q u s' :=
    fun {σ' H' v u} J rv q => ⟨v, H', J.os, J.bare, J.base, J.hok, rv, q⟩
  cases fl with
  | ret u =>
    obtain ⟨v, σ', H', J, rv, q⟩ := hs
    exact fin J rv q
  | next =>
    obtain ⟨σ', H', J, q⟩ := hs
    exact fin (v := V.non) (u := Value.none) J rfl q
  | brk =>
    obtain ⟨_, _, _, q⟩ := hs
    exact False.elim q
  | cont =>
    obtain ⟨_, _, _, q⟩ := hs
    exact False.elim q
section
variable {Pr : Program} {w : World} {K : PySem.W.Frag} {mg : Str → Option Value} {base : Heap}
/-- an __init__ that calls super().__init__, with cells of its own -/
theorem initZ_sds {fI cda cc C DD : Addr} {ar : Arguments} {bd : List Stmt} {sc : Scope} {qual : Str} {dV kV doc pm ct oc : Value} {an od : Option Addr} {osl : Array (Option Value)} {N ps : List Str} {k : Nat} {P : Pm}
    (lk : K.lookup fI = some ⟨oc, od, .func (PySem.W.fnX "__init__" qual ar bd sc [("__class__", cc)] dV kV doc pm an (.ref cda) ct), osl⟩) (hcd : PySem.W.codeIn K (.ref cda) qual = true)
    (S : XScope N ps ["__class__"] sc) (hcell : ∃ cl cld csl, K.lookup cc = some ⟨cl, cld, .cell (some (.ref DD)), csl⟩) (hlen : ∀ Γ o, P Γ o → Γ.length + 1 = ps.length)
    (hb : ∀ (A : Around) (outer : List Env) (s : Shared) (H : Hp) (E : XK), Room k (A.deeper (envZ ⟨"__init__", qual, ar, bd, sc, [("__class__", cc)], cda⟩ fI s.heap.objs.size)) → ∀ (H0 : Hp) (Oc : List Addr) (Γ : List Sl) (o : Out) (a : Addr), P Γ o →
      ∃ o', SdsA (zcx (L2N.CX Pr w) Pr w K mg base N ⟨"__init__", qual, ar, bd, sc, [("__class__", cc)], cda⟩ fI A outer s H E) (wx E) H0 Oc (.func bd (envZ ⟨"__init__", qual, ar, bd, sc, [("__class__", cc)], cda⟩ fI s.heap.objs.size))
        (.ow (.slf a C [] []) :: (Γ ++ (.va (.opq (.ref DD)) :: List.replicate (N.length - ps.length - 1) .no))) bd o' ∧ FinI a C o' o) :
    FnOk Pr w K mg base (L2N.CX Pr w) (k + 1) fI (PySem.W.fnX "__init__" qual ar bd sc [("__class__", cc)] dV kV doc pm an (.ref cda) ct) ps (mkSpI K C P) := by
  obtain ⟨cl, cld, csl, hcell⟩ := hcell
  have len : ∀ vs H Q E, mkSpI K C P vs H Q E → vs.length = ps.length := fun vs H Q E ⟨H0, Oc, Γ, o, self, us, hp, e, ⟨O, w⟩, _⟩ => by
    have := w.len
    rw [← hlen Γ o hp, ← List.length_map (f := some) (as := vs), this]
    rfl
  refine fn_ofZ (k := k) (F := ⟨"__init__", qual, ar, bd, sc, [("__class__", cc)], cda⟩) (ws := [some (.ref DD)]) lk hcd S (fun s A outer H e0 => cells_class hcell e0) (fun y c e => by
    simp only [List.lookup_cons, List.lookup_nil] at e
    split at e
    · rename_i q
      exact List.mem_singleton.mpr (by simpa using q)
    · cases e) len fun A outer s H vs Q E hr hsp => ?_
  have hl := len vs H Q E hsp
  obtain ⟨H0, Oc, Γ, o, self, us, hp, rfl, ⟨O, w0⟩, sat⟩ := hsp
  obtain ⟨aa, oo, e, h2, h3, h4, h5⟩ := w0.head
  cases e
  obtain ⟨o', hS, fin⟩ := hb A outer s H E hr H0 Oc Γ o aa hp
  refine ⟨wpSA _ _ _, psa_wp, hS _ H _ ⟨O, ?_⟩ ?_⟩
  · have z := (w0.slf.snoc (s := .va (.opq (.ref DD))) (x := some (.ref DD)) ⟨.ref DD, rfl, rfl⟩ fun _ z => nomatch z).pad (N.length - ps.length - 1)
    rw [List.append_assoc, List.append_assoc] at z
    unfold startF
    rw [hl]
    exact z
  · match o', fin with
    | .nx Γ', fin =>
      obtain ⟨ns, ds, e1, rfl⟩ := fin
      exact fun σ H' ⟨O', w'⟩ => sat H' (w'.at0 e1)
    | .exc C ns ds Γe, fin =>
      obtain ⟨Γe', rfl⟩ := fin
      intro d σ H' xw
      refine sat d H' ?_
      cases Γe with
      | none => exact xw
      | some Γ2 => exact Wf.only (show Wf K H0 Oc (.va (.xd ns ds) :: ([] ++ Γ2)) (some (.ref d) :: ([] ++ σ)) H' from xw)
end
end Y

namespace Ht
open PySem PySem.Spec PyProof.Rows L2 HotX L2H
/-! ## within an except suite: a list's iterator ends; all(..) of a list -/
section
variable {prog : Program} {w : World} {A : Around} {E : Value → Shared → Prop} {z : Shared}
theorem list_stop {itr ls xx : Addr} {k : Nat} {its : Array Value} {Q : Option Value → Shared → Prop} (hot : HotAt A xx z.heap) (hit : z.heap.IsListIter itr ls k) (hls : z.heap.IsList ls its) (hk : its[k]? = none) (nx : xx ≠ itr)
    (hQ : ∀ h', (∀ b u, b ≠ itr → z.heap.get? b = some u → h'.get? b = some u) → Q none { z with heap := h' }) : wpAny (model prog w) A (pyNext (.ref itr)) Q E z := by
  obtain ⟨oi, hoi, hci, hdi⟩ := id hit
  obtain ⟨ol, hol, _, nl, hdl⟩ := hls
  obtain ⟨hh, o1, vs1, h1, d1, c1⟩ := hot
  unfold pyNext
  refine wpAny_bind (wpAny_attempt (wpAny_callSpecial?_slot (name := Str.ofString "__next__") hit.typeIs slot_listiter_next (wpAny_call_entry slot_listiter_next hit.typeIs entry_listiter_next ?_ (args_listiter_next _))))
  show wpAny _ _ (field (.ref itr) 0 >>= _) _ _ z
  refine wpAny_bind (wpAny_field hoi hdi (x := .ref ls) rfl ?_)
  show wpAny _ _ (if (Value.ref ls == Value.none) = true then _ else _) _ _ z
  rw [if_neg (show ¬ ((Value.ref ls == Value.none) = true) from Bool.false_ne_true)]
  show wpAny _ _ (field (.ref itr) 1 >>= _) _ _ z
  refine wpAny_bind (wpAny_field hoi hdi (x := .int k 0) rfl ?_)
  show wpAny _ _ (seqItems? (.ref ls) >>= _) _ _ z
  refine wpAny_bind (wpAny_seqItems hol hdl ?_)
  simp only [Int.toNat_natCast, hk]
  refine wpAny_bind (wpAny_rule (wpAny_bind (wpAny_setField hoi hdi (by simp) ?_)))
  refine wpAny_bind (m := newExc (.type "StopIteration") []) ?_
  simp only [newExc, newTuple]
  refine wpAny_bind (wpAny_newObj_type ?_ (by size_fits))
  refine wpAny_bind (m := firstArgMember _ _) (wpAny_of_eq (a := Value.none) (by first | rfl | (simp only [firstArgMember]; rfl)) ?_)
  refine wpAny_newObj_type ?_ (by size_fits)
  have h1' : (z.heap.update itr (Obj.mapFields (·.setIfInBounds 0 .none))).get? xx = some o1 := by rw [Heap.get?_update_other _ _ nx.symm]; exact h1
  refine raiseNew_hot ⟨hh, o1, vs1, Heap.get?_push_of_some _ (Heap.get?_push_of_some _ h1'), d1, c1⟩ (Nat.ne_of_lt (Heap.lt_size (Heap.get?_push_of_some _ h1'))) (Heap.get?_push_size _ rfl) rfl (by first | (simp; done) | (simp; omega)) ?_
  refine wpAny_bind (wpAny_isInstance (T := "StopIteration") (b := true) ⟨_, Heap.get?_update_self _ (Heap.get?_push_size _ rfl) rfl, rfl⟩ isSubtype_stop ?_)
  refine wpAny_pure (hQ _ fun b u nb e => ?_)
  have e' : (z.heap.update itr (Obj.mapFields (·.setIfInBounds 0 .none))).get? b = some u := by rw [Heap.get?_update_other _ _ nb.symm]; exact e
  rw [Heap.get?_update_other _ _ (Nat.ne_of_gt (Heap.lt_size (Heap.get?_push_of_some _ e')))]
  exact Heap.get?_push_of_some _ (Heap.get?_push_of_some _ e')
theorem walks_hot (J ax xx : Addr) (hne : ax ≠ J) (hnx : xx ≠ J) (its : Array Value) : Walks prog w A J [J, ax, xx] [J] its.size (fun i v => its[i]? = some v) (fun i h => h.IsListIter J ax i ∧ h.IsList ax its ∧ HotAt A xx h) where
  sub := fun b hb => by simp at hb; simp [hb]
  frame := fun _ _ _ st k => ⟨st.1.at fun o e => k J (by simp) o e, st.2.1.at fun o e => k ax (by simp) o e, let ⟨q1, o, us, q2, q3, q4⟩ := st.2.2; ⟨q1, o, us, k xx (by simp) o q2, q3, q4⟩⟩
  item := fun i s Q E hi st hQ => by
    refine wpAny_pyNext_list_item st.1 st.2.1 (x := its[i]) (by simp [hi]) fun g hit' sb => ?_
    obtain ⟨q1, o, us, q2, q3, q4⟩ := st.2.2
    exact hQ _ g s.toks (by simp [hi]) ⟨hit', st.2.1.extBut sb.extBut hne, q1, o, us, sb.extBut xx o hnx q2, q3, q4⟩ fun b u nb e => sb.extBut b u (fun q => nb (by simp [q])) e
  done := fun s Q E st hQ => list_stop st.2.2 st.1 st.2.1 (by simp) hnx fun g k => hQ g s.toks fun b u nb e => k b u (fun q => nb (by simp [q])) e
  self := fun _ _ _ _ st hQ => wpAny_pyIter_listiter st.1 hQ
end
theorem cr_allH {X : Cx} (hc : HotC X) : CallR X (.builtin "all") (rAll X.K) := by
  intro pins s σ H vs us Q I r ⟨a, bs, e0, hs, q⟩
  subst e0
  obtain ⟨its, rv, hl, _⟩ := I.list hs
  obtain ⟨xx, hot⟩ := hc.at I
  rw [Vals.ref1 r]
  have hb := rv.bls
  have xlt : xx < s.heap.objs.size := by obtain ⟨_, o, _, e, _⟩ := hot; exact Heap.lt_size e
  refine call_all_walk (iter_any hl.isList fun s₂ e2 st hne => ?_)
  subst e2
  obtain ⟨q1, o, ys, q2, q3, q4⟩ := hot
  refine ⟨_, _, _, _, _, _, _, rfl, walks_hot (A := X.A.in1) _ a xx hne (Nat.ne_of_lt xlt) its.toArray, ⟨st.1, st.2, q1, o, ys, Heap.get?_push_of_some _ q2, q3, q4⟩, truth_bools hb, fun h' tk hk => ?_⟩
  refine ⟨.bl _, H, I.kept fun b u eo => hk b u (fun m => ?_) (Heap.get?_push_of_some _ eo), ?_, q⟩
  · rcases List.mem_cons.mp m with e1 | m
    · exact absurd (e1 ▸ Heap.lt_size eo) (Nat.lt_irrefl _)
    · cases m
  · show Value.bool _ = Value.bool _
    rw [← L2.all_range, hb, List.size_toArray, List.length_map]
end Ht

namespace Ht
open PySem PySem.Spec PyProof.Rows L2 HotX L2H
/-! ## a list comprehension over a range within an except suite -/
/-- the block's context, the handled exception pinned -/
abbrev hblk (X : Cx) (p : Addr × Obj) (s : Shared) (H : Hp) (scope : Scope) (cenv : Env) (fp : List Addr) : Cx := { X.blk s H scope cenv fp with pn := [p] }
theorem hot_blk {X : Cx} {p : Addr × Obj} (h : Hot1 X.A p) {s : Shared} {H : Hp} {scope : Scope} {cenv : Env} {fp : List Addr} : HotC (hblk X p s H scope cenv fp) := ⟨p, h, List.mem_cons_self⟩
section
variable {X : Cx}
theorem lc_hot {p : Addr × Obj} {pins : List (Addr × Obj)} {s : Shared} {σ : L2.St} {H : Hp} {Q : VK} {elt tg iter : Expr} {ifs : List Expr} {scope : Scope} {own : List (Str × Nat)} {pos pos' : Pos} {wi : TI} {g : TG} {tt : TT} {te : TE} {use : Option (Value → Sem Unit)} {Qf : Value → Shared → Prop}
    (h1 : Hot1 X.A p) (hp : p ∈ X.pn) (nd : X.N.Nodup) (I : Inv X pins σ H s) (hi : PIH X tg iter wi) (ok : BlkOk X.N X.env.scope scope own)
    (hg : ∀ s H C cl fp, PG (hblk X p s H scope (compEnvC scope cl C X.env) fp) tg g) (ht : ∀ s H C cl fp, PTs (hblk X p s H scope (compEnvC scope cl C X.env) fp) ifs tt) (he : ∀ s H C cl fp, PE (hblk X p s H scope (compEnvC scope cl C X.env) fp) elt te)
    (hs : ∀ x, foldedSetIterable iter X.env x = pure x) (want : tLc wi g tt te (own.map (·.2)) σ H Q)
    (hRR : ∀ D C s' m H', Inv X pins σ H' s' → Q (.ref D) H' → s'.heap.Ns C m → FpOk X pins H' C → compPost (model X.prog X.w) X.A X.xe use Qf (.ref D) C (.ok .next) s') :
    wpAny (model X.prog X.w) X.A (comprehension (.ListComp elt [⟨tg, iter, ifs, 0⟩] scope pos) scope X.env pos' (newList []) false (eval iter X.env) use) Qf X.xe s := by
  have cellsAt : ∀ y ∈ scope.names, y.2 = .free → ∃ c, X.env.cells.lookup y.1 = some c := fun y hy e => (ok.free y hy e).elim (fun k => I.ok.has _ (.inl k)) fun k => I.ok.has _ (.inr k)
  refine wpAny_comprehension_free (use := use) rfl hs (closure_ok cellsAt) ok.kind (fun y hy e => by rw [ok.uniq y hy, e]) (thn (hi.run pins s σ H _ I want) fun xv z1 hx => thn hx fun itv z2 got => ?_)
  obtain ⟨itr, fp, tn, J, H2, e, I2, T, t2, f2, q⟩ := got
  subst e
  refine wpAny_newObj_type (newEnv_comp ?_) (by show 0 ≤ sizeLine; decide)
  generalize hD : z2.heap.objs.size = D
  obtain ⟨W, ⟨m0, w0⟩, turn⟩ := q D (I2.hok.fresh (Nat.le_of_eq hD))
  generalize hz3 : ({ z2 with heap := z2.heap.push { cls := .type "list", data := .seq ([] : List Value).toArray } } : Shared) = z3
  have hz3' : z3.heap = z2.heap.push { cls := .type "list", data := .seq ([] : List Value).toArray } := by rw [← hz3]
  have I3 : Inv X pins σ (upd H2 D (.lst [])) z3 := by
    rw [← hz3]
    refine I2.laid (t' := z2.toks) (fun b o e => Heap.get?_push_of_some _ e) (Nat.le_of_eq hD) ⟨Nat.zero_le _, [], 0, .nil, ?_⟩
    rw [← hD]
    exact Heap.get?_push_size _ rfl
  have f3 : ∀ b ∈ fp, FpOk X pins (upd H2 D (.lst [])) b ∧ b < z3.heap.objs.size := fun b hb => by
    obtain ⟨o, e, _⟩ := T.obj _ _ t2 b hb
    have lt := Heap.lt_size e
    refine ⟨⟨?_, (f2 b hb).2⟩, by rw [hz3', Heap.size_push]; exact Nat.lt_succ_of_lt lt⟩
    rw [upd_ne (by rw [← hD]; exact Nat.ne_of_lt lt)]
    exact (f2 b hb).1
  have t3 : tn 0 z3.heap := T.keep _ _ _ t2 fun b _ o e => by rw [hz3']; exact Heap.get?_push_of_some _ e
  have I4 := block_start I3 ok nd f3
  let cl0 := cellsFrom (z3.heap.objs.size + 1) scope.names (cloFrom X.env.cells scope.names [])
  have pg := hg z3 (upd H2 D (.lst [])) z3.heap.objs.size cl0 fp
  have pt := ht z3 (upd H2 D (.lst [])) z3.heap.objs.size cl0 fp
  have pe := he z3 (upd H2 D (.lst [])) z3.heap.objs.size cl0 fp
  show codeAny _ _ (.compStart (.ListComp elt [⟨tg, iter, ifs, 0⟩] scope pos) 0 (.ref itr) (.ref D) (compEnvC scope cl0 z3.heap.objs.size X.env)) (compPost (model X.prog X.w) X.A X.xe use Qf (.ref D) z3.heap.objs.size) { z3 with heap := pushCells (z3.heap.push { cls := .type "dict", data := .dict #[] }) scope.names }
  have nfp : ∀ b ∈ fp, (upd H2 D (.lst [])) b = none := fun b hb => (f3 b hb).1.1
  have pinP := I3.pin p (List.mem_append_left _ hp)
  have pfp : ∀ b ∈ fp, p.1 ≠ b := fun b hb => (f3 b hb).1.2.2.2.2.2 p (List.mem_append_left _ hp)
  -- the exception is pinned within the block too
  have J4 : Inv (hblk X p z3 (upd H2 D (.lst [])) scope (compEnvC scope cl0 z3.heap.objs.size X.env) fp) [] (wipe σ (own.map (·.2))) (upd H2 D (.lst [])) { z3 with heap := pushCells (z3.heap.push { cls := .type "dict", data := .dict #[] }) scope.names } := by
    refine ⟨⟨I4.ok.mod, I4.ok.kind, I4.ok.glob, I4.ok.blt, I4.ok.above, I4.ok.inj, I4.ok.has, I4.ok.cab, I4.ok.hd, I4.ok.frames, I4.ok.stk, I4.ok.exf, I4.ok.bs, I4.ok.bsz, I4.ok.noex, I4.ok.exfs, I4.ok.funs, I4.ok.frf⟩, I4.os, I4.bare, I4.base, I4.loc, I4.cell, I4.free, I4.freeC, fun b hb => ?_, I4.hok, I4.len⟩
    have e : b = p := by simpa using hb
    subst e
    refine ⟨pushCells_keeps _ _ _ _ (Heap.get?_push_of_some _ pinP.1), pinP.2.1, Nat.ne_of_lt (Heap.lt_size pinP.1), fun m => ?_, pinP.2.2.2.2⟩
    rcases I.ok.stk with k | ⟨k, k2⟩
    · exact pinP.2.2.2.1 (by have m' : b.1 ∈ frs X.stack := m; rw [k] at m'; exact m')
    · have m' : b.1 ∈ frs X.stack := m
      rw [k] at m'
      obtain ⟨en, q1, q2⟩ := List.mem_filterMap.mp m'
      rcases List.mem_cons.mp q1 with rfl | q1
      · rw [k2] at q2
        exact pinP.2.2.1 (Option.some.inj q2).symm
      · exact pinP.2.2.2.1 (List.mem_filterMap.mpr ⟨en, q1, q2⟩)
  clear I4
  generalize hce : compEnvC scope cl0 z3.heap.objs.size X.env = ce at J4 pg pt pe ⊢
  have cL : ce.locals = z3.heap.objs.size := by subst hce; rfl
  generalize hH3 : upd H2 D (.lst []) = H3 at I3 J4 pg pt pe w0 nfp f3
  generalize hz4 : ({ z3 with heap := pushCells (z3.heap.push { cls := .type "dict", data := .dict #[] }) scope.names } : Shared) = z4 at J4 ⊢
  have t4 : tn 0 z4.heap := T.keep _ _ _ t3 fun b _ o e => by rw [← hz4]; exact pushCells_keeps _ _ _ _ (Heap.get?_push_of_some _ e)
  have hotB : HotC (hblk X p z3 H3 scope ce fp) := hot_blk h1
  have stat : ∀ {σ' : L2.St} {H' : Hp} {s' : Shared}, Inv (hblk X p z3 H3 scope ce fp) [] σ' H' s' → (∀ b ∈ fp, H' b = none) → ∀ b ∈ fp, FpOk (hblk X p z3 H3 scope ce fp) [] H' b := fun {σ' H' s'} I' hn b hb =>
    ⟨hn b hb, (I'.ok.exf b hb).1, I'.ok.exfs b hb, .inl hb, fun x c e => (I'.ok.exf b hb).2 x c e, fun y hy => by
      have e : y = p := by simpa using hy
      rw [e]
      exact pfp b hb⟩
  have loop : codeAny (model X.prog X.w) X.A (.compLoop (.ListComp elt [⟨tg, iter, ifs, 0⟩] scope pos) 0 (.ref itr) (.ref D) ce) (compPost (model X.prog X.w) X.A X.xe use Qf (.ref D) z3.heap.objs.size) z4 := by
    refine compLoop_any (fun n s' => ∃ i H', Inv (hblk X p z3 H3 scope ce fp) [] (wipe σ (own.map (·.2))) H' s' ∧ tn i s'.heap ∧ (∀ b ∈ fp, H' b = none) ∧ W i n H') ?_ m0 ⟨0, H3, J4, t4, nfp, w0⟩
    rintro n z5 ⟨i, H5, I5, t5, n5, w5⟩
    rcases turn i n H5 w5 with ⟨stop, qq⟩ | ⟨go, Nx, hNx, step⟩
    · refine thnF (T.done (hblk X p z3 H3 scope ce fp) rfl rfl rfl hotB i [] z5 _ H5 (fun _ _ => False) I5 (stat I5 n5) t5 stop) fun r z6 ⟨hr, I6⟩ => ?_
      subst hr
      have I7 : Inv X pins σ H5 z6 := I3.call' (ch := fp) I6.os I6.base I6.hok I6.bare fun b hb => ⟨(f3 b hb).1.2.2.2.1, (f3 b hb).1.2.1, (f3 b hb).1.2.2.2.2.1, (f3 b hb).1.2.2.2.2.2⟩
      have nC : H5 z3.heap.objs.size = none := cL ▸ I6.free
      obtain ⟨m, hn, _⟩ := I6.loc
      exact hRR D z3.heap.objs.size z6 m H5 I7 qq (cL ▸ (hn : z6.heap.Ns ce.locals m)) (I3.fpOk (Nat.le_refl _) nC)
    · refine thnF (T.item (hblk X p z3 H3 scope ce fp) rfl rfl rfl hotB i [] z5 _ H5 (fun _ _ => False) I5 (stat I5 n5) t5 go) fun r z6 ⟨u, hr, h6⟩ => ?_
      subst hr
      refine thnF h6 fun _ z7 ⟨x, H7, I7, r7, y7, t7, n7⟩ => ?_
      refine thnF (pg.run _ z7 _ H7 x u _ (I7.pinned (stat I7 n7) (T.obj _ _ t7)) r7 (step x H7 y7)) fun _ z8 ⟨σ8, H8, I8, hw8, q8⟩ => ?_
      refine thnF (pt.run _ z8 σ8 H8 _ I8 q8) fun b z9 ⟨H9, I9, q9⟩ => ?_
      have fin : ∀ {s' : Shared} {H' : Hp}, Inv (hblk X p z3 H3 scope ce fp) ([] ++ pinsAt fp z7.heap) σ8 H' s' → Nx H' → ∃ m, m < n ∧ ∃ i H', Inv (hblk X p z3 H3 scope ce fp) [] (wipe σ (own.map (·.2))) H' s' ∧ tn i s'.heap ∧ (∀ b ∈ fp, H' b = none) ∧ W i m H' := fun {s' H'} I' nx => by
        obtain ⟨m', hm, w'⟩ := hNx H' nx
        have still : ∀ b ∈ fp, ∀ o, z7.heap.get? b = some o → s'.heap.get? b = some o ∧ H' b = none := fun b hb o e =>
          ⟨(I'.pin (b, o) (List.mem_append_right _ (List.mem_append_right _ (mem_pinsAt hb e)))).1, (I'.pin (b, o) (List.mem_append_right _ (List.mem_append_right _ (mem_pinsAt hb e)))).2.1⟩
        refine ⟨m', hm, i + 1, H', (I'.unpinned (pins := [])).weak (by rw [← hw8, wipe_length]) (fun j v e => ?_), T.keep _ _ _ t7 fun b hb o e => (still b hb o e).1, fun b hb => ?_, w'⟩
        · rw [← hw8] at e
          exact (wipe_some e).1
        · obtain ⟨o, e, _⟩ := T.obj _ _ t7 b hb
          exact (still b hb o e).2
      cases b with
      | false =>
        simp only [Bool.false_eq_true, if_false] at q9 ⊢
        exact fin I9 q9
      | true =>
        simp only [if_true] at q9 ⊢
        refine thnF (pe.run _ z9 σ8 H9 _ I9 q9) fun _ z10 ⟨yv, H10, I10, r10, acc, hD10, hz10, nx⟩ => ?_
        exact app_ok (X := hblk X p z3 H3 scope ce fp) I10 hD10 hz10 r10 fun z11 I11 => fin I11 nx
  exact codeAny_compStart_list loop (T.self X.A 0 _ _ _ t4 loop)
theorem pe_lcHot {p : Addr × Obj} {elt tg iter : Expr} {ifs : List Expr} {scope : Scope} {own : List (Str × Nat)} {pos : Pos} {wi : TI} {g : TG} {tt : TT} {te : TE} (h1 : Hot1 X.A p) (hp : p ∈ X.pn) (nd : X.N.Nodup) (hi : PIH X tg iter wi) (ok : BlkOk X.N X.env.scope scope own)
    (hg : ∀ s H C cl fp, PG (hblk X p s H scope (compEnvC scope cl C X.env) fp) tg g) (ht : ∀ s H C cl fp, PTs (hblk X p s H scope (compEnvC scope cl C X.env) fp) ifs tt) (he : ∀ s H C cl fp, PE (hblk X p s H scope (compEnvC scope cl C X.env) fp) elt te)
    (hs : ∀ x, foldedSetIterable iter X.env x = pure x := by intro _; rfl) : PE X (.ListComp elt [⟨tg, iter, ifs, 0⟩] scope pos) (tLc wi g tt te (own.map (·.2))) := by
  refine ⟨fun pins s σ H Q I want => ?_⟩
  rw [eval_ListComp]
  refine lc_hot h1 hp nd I hi ok hg ht he hs want fun D C s' m H' I' q hn f => ⟨m, hn, fun h'' sb => ?_⟩
  obtain ⟨f0, f1, f2, f3, f4, f5⟩ := f
  exact ⟨.ref D, H', I'.turned (t' := s'.toks) (fun b o hb e => (sb.2 b hb).trans e) f0 f1 f3 f4 f5, rfl, q⟩
end
end Ht

namespace Y
open PySem L2
/-! ## within an except suite: [elt for tg in range(b)], all(..), calls -/
abbrev hbX (X : Cx) (p : Addr × Obj) (scope : Scope) (s : Shared) (H : Hp) (C : Addr) (cl : List (Str × Addr)) (fp : List Addr) : Cx := Ht.hblk X p s H scope (compEnvC scope cl C X.env) fp
section
variable {X : Cx} {W : WX} {H0 : Hp} {Oc : List Addr} {Γ : List Sl} {tg b elt a e : Expr} {pos p1 p2 pp : Pos} {scope : Scope} {own : List (Str × Nat)} {pn : Addr × Obj} {bs : List Bool}
theorem ev_lcHot {m : Nat} (g : Nat → D) (Γe : Nat → List Sl) (h1 : L2H.Hot1 X.A pn) (hp : pn ∈ X.pn) (hN : X.N.Nodup) (hmg : X.mg "range" = none) (ok : BlkOk X.N X.env.scope scope own) (ha : Ev X H0 Oc Γ b (.va (.int (m : Int)))) (hm : m ≤ 1000000)
    (ht : ∀ k, k < m → ∀ H0' Oc' s0 H00 C cl fp, Tgw (hbX X pn scope s0 H00 C cl fp) H0' Oc' (own.map (·.2)) tg (wipeG (Γ.map Sl.arg) (own.map (·.2))) (.va (.int (k : Int))) (Γe k))
    (hst : ∀ k, k < m → stab (Γe k) = true ∧ Sub (wipeG (Γe k) (own.map (·.2))) (wipeG (Γ.map Sl.arg) (own.map (·.2))))
    (he : ∀ k, k < m → ∀ H0' Oc' s0 H00 C cl fp, Ev (hbX X pn scope s0 H00 C cl fp) H0' Oc' (Γe k) elt (.va (g k)))
    (hgl : Gl X "range" := by rfl) (hs1 : starEach [b] X.env = [(false, eval b X.env)] := by rfl) (hs2 : starEach [b] X.env = (false, eval b X.env) :: starEach [] X.env := by rfl)
    (hs : ∀ x, foldedSetIterable (.Call (.Name "range" p1) [b] [] p2) X.env x = pure x := by intro _; rfl) :
    Ev X H0 Oc Γ (.ListComp elt [⟨tg, .Call (.Name "range" p1) [b] [] p2, [], 0⟩] scope pos) (.ow (.lst ((List.range m).map g))) := fun Δ τ σ H Q hl w q => by
  let wGH : TG := fun v σ H Q => ∀ s0 H00 C cl fp, wpG (hbX X pn scope s0 H00 C cl fp) tg v σ H Q
  let wEH : TE := fun σ H Q => ∀ s0 H00 C cl fp, wpE (hbX X pn scope s0 H00 C cl fp) elt σ H Q
  refine wpE.of (Ht.pe_lcHot (g := wGH) (te := wEH) h1 hp hN (L2H.pi_range1H hgl hmg (pa_cons pe_wp pa_nil hs2) hs1) ok (fun s0 H00 C cl fp => ⟨fun pins s σ H v u Q I r h => h s0 H00 C cl fp pins s u I r⟩) (fun _ _ _ _ _ => pts_nil) (fun s0 H00 C cl fp => ⟨fun pins s σ H Q I h => h s0 H00 C cl fp pins s I⟩) hs) ?_
  refine ha Δ τ σ H _ hl w fun v H1 ⟨O, w1⟩ => ?_
  obtain ⟨v', e1, r1⟩ := w1.head
  cases e1
  obtain rfl : v = .int (m : Int) := r1
  refine ⟨(m : Int), rfl, by omega, by omega, fun Dl hD => ?_⟩
  have w1o : WfO X.K H0 Oc O (Δ ++ Γ) (τ ++ σ) H1 := w1.pop
  have wb0 := w1o.toArg'
  rw [List.map_append] at wb0
  have hl3 : τ.length = (Δ.map Sl.arg).length := by simp [hl]
  let vs := own.map (·.2)
  let Γw := wipeG (Γ.map Sl.arg) vs
  let A := Δ.map Sl.arg
  have wb : Wf X.K H1 O (A ++ Γw) (τ ++ wipe σ vs) H1 := wb0.wiped hl3 _
  let res : Nat → List D := fun i => (List.range i).map g
  have stA : stab A = true := stab_arg
  have hlA : ∀ r : List D, (some (V.ref Dl) :: τ).length = (Sl.ow (.lst r) :: A).length := fun _ => congrArg Nat.succ hl3
  refine ⟨fun i z H => z = m - i ∧ i ≤ m ∧ Wf X.K H1 O ((.ow (.lst (res i)) :: A) ++ Γw) ((some (.ref Dl) :: τ) ++ wipe σ vs) H, ⟨m, by simp, Nat.zero_le _, ?_⟩, ?_⟩
  · obtain ⟨O', wb⟩ := wb
    exact ⟨_, wb.newLst hD Reps.nil⟩
  rintro i z H2 ⟨rfl, hi, w2⟩
  by_cases hlt : i < m
  · refine .inr ⟨hlt, fun H' => Wf X.K H1 O ((.ow (.lst (res (i + 1))) :: A) ++ Γw) ((some (.ref Dl) :: τ) ++ wipe σ vs) H', fun H' q1 => ⟨m - (i + 1), by omega, rfl, hlt, q1⟩, fun y H' yy => ?_⟩
    obtain ⟨eH, ev⟩ := yy
    subst eH
    have ev : y = .int (i : Int) := by rw [ev, Int.zero_add]
    subst ev
    obtain ⟨O2, w2'⟩ := w2
    have w3 : Wf X.K H1 O (.va (.int (i : Int)) :: ((.ow (.lst (res i)) :: A) ++ Γw)) (some (.int (i : Int)) :: ((some (.ref Dl) :: τ) ++ wipe σ vs)) H' := ⟨O2, w2'.flat rfl (show Rep X.K H' (.int (i : Int)) (.int (i : Int)) from rfl)⟩
    obtain ⟨st1, st2⟩ := hst i hlt
    have hlr : (res i).length ≤ 1000000 := by
      show ((List.range i).map g).length ≤ _
      rw [List.length_map, List.length_range]
      omega
    have hres : res (i + 1) = res i ++ [g i] := by
      show (List.range (i + 1)).map g = (List.range i).map g ++ [g i]
      rw [List.range_succ, List.map_append]
      rfl
    refine fun s0 H00 C cl fp => ht i hlt H1 O s0 H00 C cl fp (.ow (.lst (res i)) :: A) (some (.ref Dl) :: τ) _ H' _ _ (hlA _) w3 fun σ2 H3 hw2 w4 => ?_
    rw [wipe_wipe] at hw2
    refine ⟨hw2, ?_⟩
    simp only [tYes, if_true]
    refine fun s0 H00 C cl fp => he i hlt H1 O s0 H00 C cl fp (.ow (.lst (res i)) :: A) (some (.ref Dl) :: τ) σ2 H3 _ (hlA _) w4 fun y' H5 ⟨O5, w6⟩ => ?_
    obtain ⟨p0, oo, e1, k2, k3, k4, k5⟩ := w6.pop.head
    cases e1
    obtain ⟨v', e2, rv⟩ := w6.head
    cases e2
    cases oo <;> first | exact k5.elim | skip
    rename_i us
    have k5' : Reps X.K (cut H5 O5) (res i) us := k5
    refine ⟨us, k4, ?_, ?_⟩
    · rw [k5'.len, sizeLine_eq]
      omega
    · rw [hres]
      have z := w6.pop.mut (i := 0) (d' := .lst (res i ++ [g i])) (o' := .lst (us ++ [y'])) (by
        show stab ((Sl.ow (.lst (res i)) :: A) ++ Γe i) = true
        rw [stab_app, st1, stab_cons, stA]
        rfl) rfl rfl (k5'.app (Reps.one rv))
      have z2 : Wf X.K H1 O ((.ow (.lst (res i ++ [g i])) :: A) ++ Γe i) ((some (.ref Dl) :: τ) ++ σ2) (upd H5 Dl (.lst (us ++ [y']))) := ⟨O5, z⟩
      have z3 := (Wf.wiped (hlA _) z2 vs).sub (Sub.app st2)
      rw [hw2] at z3
      exact z3
  · have e : i = m := by omega
    subst e
    refine .inl ⟨by show (i : Int).toNat ≤ i; omega, ?_⟩
    have w3 := Wf.only (show Wf X.K H1 O (.ow (.lst (res i)) :: (A ++ Γw)) (some (.ref Dl) :: (τ ++ wipe σ vs)) H2 from w2)
    exact q _ H2 (w1o.after w3 rfl)
theorem e_allHot (hot : L2H.HotC X) (hm : X.mg "all" = none) (ha : Ev X H0 Oc Γ a (.bw (.lst (bs.map .bl)))) (hg : Gl X "all" := by rfl) (he : starEach [a] X.env = (false, eval a X.env) :: starEach [] X.env := by rfl) (hpl : (backTo pos (starEach [] X.env)).any (·.1) = false := by rfl) :
    Ev X H0 Oc Γ (.Call (.Name "all" pp) [a] [] pos) (.va (.bl (bs.all id))) := ev_b1 (Ht.cr_allH hot) ha hm (by decide +kernel) hg (fun G S H v Q W q => by
      obtain ⟨⟨O, h⟩, O', W'⟩ := W.popB
      obtain ⟨t, vs, rfl, h1, h2⟩ := h
      have e : vs = bs.map V.bl := Reps.bls h2
      subst e
      exact ⟨t, bs, rfl, .of h1, q _ H ⟨O', W'.flat (d := .bl (bs.all id)) (H' := H) rfl rfl⟩⟩) (by decide) (by decide) he hpl
/-- a call within a hot context -/
theorem ev_callHot {es : List Expr} {ss : List Sl} {s : Sl} {x : Str} {k : Nat} {ps : List Str} {P : Pm} {p : Pos} (hot : L2H.HotC X) (F : FnGH X.prog X.w X.K X.mg X.base x k ps P) (hr : L2H.RoomH k X.A) (ha : Ea X H0 Oc Γ (e :: es) ss) (hp : P (ss.map Sl.arg) (.ret s)) (hs : s.res = true := by rfl) (hg : Gl X x := by rfl) (hdb : (x == ("__debug__" : Str)) = false := by decide)
    (he : starEach (e :: es) X.env = (false, eval e X.env) :: starEach es X.env := by rfl) (hpl : (backTo pos (starEach es X.env)).any (·.1) = false := by rfl) : Ev X H0 Oc Γ (.Call (.Name x p) (e :: es) [] pos) s := fun Δ τ σ H Q hl W q => by
  obtain ⟨f, fd, F, hm, hk, hb⟩ := F.ex
  refine wpE.of (L2H.pe_callH (E := fun _ => E0) F hr hot hg hm hk hb (fun σ pins H s e s' I c => (passLN (X := X)) pins σ H s e s' I c) pa_wp hdb he hpl) ?_
  refine ha Δ τ σ H _ hl W fun vs O H1 W1 ok => ?_
  exact ⟨O, _, _, hp, W1.callee ok, fun v H' W2 => q v H' (W1.after W2 hs)⟩
end
end Y

/-! # mirrors: what a def computes, with all that must hold on the way -/
namespace Y
open PySem L2
/-- how a block ends: goes on, hands back, raises, leaves the loop, goes to the next turn -/
inductive Lp (ε α ρ : Type) where
  | nx (a : α) | ret (r : ρ) | exc (x : ε) | brk (a : α) | cnt (a : α)
/-- how a def that may raise ends -/
inductive Rs (ε ρ : Type) where
  | ret (r : ρ) | exc (x : ε)
section
variable {ε α β γ ρ : Type}
def bnd (v : α) (f : α → β) : β := f v
theorem bndE {v : α} {f : α → Option β} {r : β} (h : bnd v f = some r) : ∃ x, v = x ∧ f x = some r := ⟨v, rfl, h⟩
theorem bindE {v : Option α} {f : α → Option β} {r : β} (h : v.bind f = some r) : ∃ x, v = some x ∧ f x = some r := Option.bind_eq_some_iff.mp h
theorem tailE {v : Option α} {r : α} (h : v = some r) : ∃ x, v = some x ∧ some x = some r := ⟨r, h, rfl⟩
theorem iteE {q : Bool} {a b : Option β} {r : β} (h : (if q = true then a else b) = some r) : (q = true ∧ a = some r) ∨ (q = false ∧ b = some r) := by
  cases q with
  | true => exact .inl ⟨rfl, h⟩
  | false => exact .inr ⟨rfl, h⟩
/-- behind a block: as a def that may raise -/
def thenR (x : Option (Lp ε α ρ)) (k : α → Option (Rs ε ρ)) : Option (Rs ε ρ) := x.bind fun
  | .nx a => k a | .ret r => some (.ret r) | .exc e => some (.exc e) | .brk _ => none | .cnt _ => none
/-- .. of an __init__: nothing is handed back -/
def thenI (x : Option (Lp ε α Empty)) (k : α → Option (Rs ε ρ)) : Option (Rs ε ρ) := x.bind fun
  | .nx a => k a | .ret r => r.elim | .exc e => some (.exc e) | .brk _ => none | .cnt _ => none
/-- .. as a def that does not raise -/
def thenO (x : Option (Lp ε α ρ)) (k : α → Option ρ) : Option ρ := x.bind fun
  | .nx a => k a | .ret r => some r | .exc _ => none | .brk _ => none | .cnt _ => none
/-- .. as a block -/
def thenL (x : Option (Lp ε α ρ)) (k : α → Option (Lp ε β ρ)) : Option (Lp ε β ρ) := x.bind fun
  | .nx a => k a | .ret r => some (.ret r) | .exc e => some (.exc e) | .brk _ => none | .cnt _ => none
theorem thenRE {x : Option (Lp ε α ρ)} {k : α → Option (Rs ε ρ)} {r : Rs ε ρ} (h : thenR x k = some r) : (∃ a, x = some (.nx a) ∧ k a = some r) ∨ (∃ v, x = some (.ret v) ∧ r = .ret v) ∨ ∃ e, x = some (.exc e) ∧ r = .exc e := by
  obtain ⟨y, h1, h2⟩ := bindE h
  cases y with
  | nx a => exact .inl ⟨a, h1, h2⟩
  | ret v => exact .inr (.inl ⟨v, h1, (Option.some.inj h2).symm⟩)
  | exc e => exact .inr (.inr ⟨e, h1, (Option.some.inj h2).symm⟩)
  | brk _ => cases h2
  | cnt _ => cases h2
theorem thenOE {x : Option (Lp ε α ρ)} {k : α → Option ρ} {r : ρ} (h : thenO x k = some r) : (∃ a, x = some (.nx a) ∧ k a = some r) ∨ x = some (.ret r) := by
  obtain ⟨y, h1, h2⟩ := bindE h
  cases y with
  | nx a => exact .inl ⟨a, h1, h2⟩
  | ret v => exact .inr ((show v = r from Option.some.inj h2) ▸ h1)
  | exc e => cases h2
  | brk _ => cases h2
  | cnt _ => cases h2
theorem thenLE {x : Option (Lp ε α ρ)} {k : α → Option (Lp ε β ρ)} {r : Lp ε β ρ} (h : thenL x k = some r) : (∃ a, x = some (.nx a) ∧ k a = some r) ∨ (∃ v, x = some (.ret v) ∧ r = .ret v) ∨ ∃ e, x = some (.exc e) ∧ r = .exc e := by
  obtain ⟨y, h1, h2⟩ := bindE h
  cases y with
  | nx a => exact .inl ⟨a, h1, h2⟩
  | ret v => exact .inr (.inl ⟨v, h1, (Option.some.inj h2).symm⟩)
  | exc e => exact .inr (.inr ⟨e, h1, (Option.some.inj h2).symm⟩)
  | brk _ => cases h2
  | cnt _ => cases h2
/-! loops -/
def runF (step : α → β → Option (Lp ε α ρ)) : α → List β → Option (Lp ε α ρ)
  | a, [] => some (.nx a)
  | a, b :: bs => (step a b).bind fun
    | .nx a' => runF step a' bs
    | .cnt a' => runF step a' bs
    | .brk a' => some (.nx a')
    | .ret r => some (.ret r)
    | .exc e => some (.exc e)
def foldO (step : α → β → Option α) : α → List β → Option α
  | a, [] => some a
  | a, b :: bs => (step a b).bind fun a' => foldO step a' bs
def whileF (c : α → Option Bool) (step : α → Option (Lp ε α ρ)) : Nat → α → Option (Lp ε α ρ)
  | 0, _ => none
  | n + 1, a => (c a).bind fun q => if q = true then (step a).bind fun
    | .nx a' => whileF c step n a'
    | .cnt a' => whileF c step n a'
    | .brk a' => some (.nx a')
    | .ret r => some (.ret r)
    | .exc e => some (.exc e)
    else some (.nx a)
def whileO (c : α → Option Bool) (step : α → Option α) : Nat → α → Option α
  | 0, _ => none
  | n + 1, a => (c a).bind fun q => if q = true then (step a).bind fun a' => whileO c step n a' else some a
/-! comprehensions -/
def lenG (xs : List α) : Option Unit := if xs.length ≤ 1000000 then some () else none
def mapA (f : α → Option β) : List α → Option (List β)
  | [] => some []
  | x :: xs => (f x).bind fun y => (mapA f xs).bind fun ys => some (y :: ys)
def mapO (f : α → Option β) (xs : List α) : Option (List β) := if xs.length ≤ 1000000 then mapA f xs else none
def fmapA (f : α → Option (Option β)) : List α → Option (List β)
  | [] => some []
  | x :: xs => (f x).bind fun y => (fmapA f xs).bind fun ys => some (match y with | some y => y :: ys | none => ys)
def fmapO (f : α → Option (Option β)) (xs : List α) : Option (List β) := if xs.length ≤ 1000000 then fmapA f xs else none
def flatO (f : α → Option (List β)) (xs : List α) : Option (List β) := (mapA f xs).bind fun ys => if ys.flatten.length ≤ 1000000 then some ys.flatten else none
theorem lenGE {xs : List α} {u : Unit} (h : lenG xs = some u) : xs.length ≤ 1000000 := by
  unfold lenG at h
  split at h
  · assumption
  · cases h
theorem lenG_of {xs : List α} (h : xs.length ≤ 1000000) : lenG xs = some () := if_pos h
theorem mapOE {f : α → Option β} {xs : List α} {ys : List β} (h : mapO f xs = some ys) : xs.length ≤ 1000000 ∧ mapA f xs = some ys := by
  unfold mapO at h
  split at h
  · exact ⟨by assumption, h⟩
  · cases h
theorem fmapOE {f : α → Option (Option β)} {xs : List α} {ys : List β} (h : fmapO f xs = some ys) : xs.length ≤ 1000000 ∧ fmapA f xs = some ys := by
  unfold fmapO at h
  split at h
  · exact ⟨by assumption, h⟩
  · cases h
theorem mapA_mem {f : α → Option β} : ∀ {xs : List α} {ys : List β}, mapA f xs = some ys → ∀ x ∈ xs, ∃ y, f x = some y
  | [], _, _, _, h => nomatch h
  | x :: xs, ys, h, z, hz => by
    obtain ⟨y, h1, h⟩ := bindE h
    obtain ⟨ys', h2, _⟩ := bindE h
    rcases List.mem_cons.mp hz with rfl | hz
    · exact ⟨y, h1⟩
    · exact mapA_mem h2 z hz
theorem fmapA_mem {f : α → Option (Option β)} : ∀ {xs : List α} {ys : List β}, fmapA f xs = some ys → ∀ x ∈ xs, ∃ y, f x = some y
  | [], _, _, _, h => nomatch h
  | x :: xs, ys, h, z, hz => by
    obtain ⟨y, h1, h⟩ := bindE h
    obtain ⟨ys', h2, _⟩ := bindE h
    rcases List.mem_cons.mp hz with rfl | hz
    · exact ⟨y, h1⟩
    · exact fmapA_mem h2 z hz
theorem mapA_map {f : α → Option β} {g : α → γ} {e : β → γ} : ∀ {xs : List α} {ys : List β}, mapA f xs = some ys → (∀ x y, f x = some y → g x = e y) → xs.map g = ys.map e
  | [], _, h, _ => by cases h; rfl
  | x :: xs, ys, h, k => by
    obtain ⟨y, h1, h⟩ := bindE h
    obtain ⟨ys', h2, h⟩ := bindE h
    cases h
    rw [List.map_cons, List.map_cons, k x y h1, mapA_map h2 k]
theorem fmapA_map {f : α → Option (Option β)} {pr : α → Bool} {g : α → γ} {e : β → γ} : ∀ {xs : List α} {ys : List β}, fmapA f xs = some ys → (∀ x y, f x = some (some y) → pr x = true ∧ g x = e y) → (∀ x, f x = some none → pr x = false) → (xs.filter pr).map g = ys.map e
  | [], _, h, _, _ => by cases h; rfl
  | x :: xs, ys, h, k, k2 => by
    obtain ⟨y, h1, h⟩ := bindE h
    obtain ⟨ys', h2, h⟩ := bindE h
    cases h
    cases y with
    | none => rw [List.filter_cons, k2 x h1, if_neg (by decide), fmapA_map h2 k k2]
    | some y => rw [List.filter_cons, (k x y h1).1, if_pos rfl, List.map_cons, List.map_cons, (k x y h1).2, fmapA_map h2 k k2]
/-! lists -/
def appO (xs : List α) (x : α) : Option (List α) := if xs.length ≤ 1000000 then some (xs ++ [x]) else none
theorem appOE {xs ys : List α} {x : α} (h : appO xs x = some ys) : xs.length ≤ 1000000 ∧ ys = xs ++ [x] := by
  unfold appO at h
  split at h
  · cases h; exact ⟨by assumption, rfl⟩
  · cases h
def ixO (xs : List α) (i : Int) : Option α := L2.atI xs i
def setO (xs : List α) (i : Int) (x : α) : Option (List α) := (L2.ixN xs.length i).bind fun j => some (xs.set j x)
theorem setOE {xs ys : List α} {i : Int} {x : α} (h : setO xs i x = some ys) : ∃ j, L2.ixN xs.length i = some j ∧ ys = xs.set j x := by
  obtain ⟨j, h1, h2⟩ := bindE h
  exact ⟨j, h1, (Option.some.inj h2).symm⟩
def catO (xs ys : List α) : Option (List α) := if xs.length + ys.length ≤ 1000000 then some (xs ++ ys) else none
theorem catOE {xs ys zs : List α} (h : catO xs ys = some zs) : xs.length + ys.length ≤ 1000000 ∧ zs = xs ++ ys := by
  unfold catO at h
  split at h
  · cases h; exact ⟨by assumption, rfl⟩
  · cases h
def repO (xs : List α) (i : Int) : Option (List α) := if i ≤ 1000000 ∧ -1000000 ≤ i ∧ xs.length * i.toNat ≤ 1000000 then some (List.replicate i.toNat xs).flatten else none
theorem repOE {xs zs : List α} {i : Int} (h : repO xs i = some zs) : (i ≤ 1000000 ∧ -1000000 ≤ i ∧ xs.length * i.toNat ≤ 1000000) ∧ zs = (List.replicate i.toNat xs).flatten := by
  unfold repO at h
  split at h
  · cases h; exact ⟨by assumption, rfl⟩
  · cases h
def irange (n : Int) : List Int := (List.range n.toNat).map fun k : Nat => (k : Int)
def rngO (n : Int) : Option (List Int) := if -1000000000 ≤ n ∧ n ≤ 1000000000 then some (irange n) else none
def irange2 (a b : Int) : List Int := (List.range (b - a).toNat).map fun k : Nat => a + (k : Int)
def rng2O (a b : Int) : Option (List Int) := if -1000000000 ≤ a ∧ a ≤ 1000000000 ∧ -1000000000 ≤ b ∧ b ≤ 1000000000 then some (irange2 a b) else none
theorem rngOE {n : Int} {xs : List Int} (h : rngO n = some xs) : (-1000000000 ≤ n ∧ n ≤ 1000000000) ∧ xs = irange n := by
  unfold rngO at h
  split at h
  · cases h; exact ⟨by assumption, rfl⟩
  · cases h
theorem rng2OE {a b : Int} {xs : List Int} (h : rng2O a b = some xs) : (-1000000000 ≤ a ∧ a ≤ 1000000000 ∧ -1000000000 ≤ b ∧ b ≤ 1000000000) ∧ xs = irange2 a b := by
  unfold rng2O at h
  split at h
  · cases h; exact ⟨by assumption, rfl⟩
  · cases h
end
/-! whole numbers -/
def mulO (i j : Int) : Option Int := if (-(2 ^ 64) < i ∧ i < 2 ^ 64) ∨ (-(2 ^ 64) < j ∧ j < 2 ^ 64) then some (i * j) else none
theorem mulOE {i j k : Int} (h : mulO i j = some k) : CMul i j ∧ k = i * j := by
  unfold mulO at h
  split at h
  · cases h; exact ⟨by assumption, rfl⟩
  · cases h
def divO (i j : Int) : Option Int := if 0 < j ∧ j < 1073741824 then some (i / j) else none
theorem divOE {i j k : Int} (h : divO i j = some k) : CDiv i j ∧ k = i / j := by
  unfold divO at h
  split at h
  · cases h; exact ⟨by assumption, rfl⟩
  · cases h
def modO (i j : Int) : Option Int := if 0 < j then some (i % j) else none
theorem modOE {i j k : Int} (h : modO i j = some k) : 0 < j ∧ k = i % j := by
  unfold modO at h
  split at h
  · cases h; exact ⟨by assumption, rfl⟩
  · cases h
/-! the ways data of these kinds stand -/
abbrev eL {α : Type} (e : α → D) : List α → D := fun xs => .lst (xs.map e)
abbrev eT {α : Type} (e : α → D) : List α → D := fun xs => .tup (xs.map e)
abbrev eO {α : Type} (e : α → D) : Option α → D
  | none => .non
  | some a => e a
abbrev eN : Unit → D := fun _ => .non
abbrev eF : List Int → D := fun xs => .fz (xs.map .int)
abbrev eP2 {α β : Type} (a : α → D) (b : β → D) : α × β → D := fun p => .tup [a p.1, b p.2]
abbrev eP3 {α β γ : Type} (a : α → D) (b : β → D) (c : γ → D) : α × β × γ → D := fun p => .tup [a p.1, b p.2.1, c p.2.2]
abbrev eP4 {α β γ δ : Type} (a : α → D) (b : β → D) (c : γ → D) (d : δ → D) : α × β × γ × δ → D := fun p => .tup [a p.1, b p.2.1, c p.2.2.1, d p.2.2.2]
end Y

namespace Y
open PySem L2
/-! # blocks, with what follows -/
/-- slots as a callee may take them: what is frozen may be read -/
inductive Blw : List Sl → List Sl → Prop where
  | nil : Blw [] []
  | eq {s : Sl} {G G' : List Sl} : Blw G G' → Blw (s :: G) (s :: G')
  | vb {d : D} {G G' : List Sl} : Blw G G' → Blw (.va d :: G) (.br d :: G')
theorem Blw.len : ∀ {G G' : List Sl}, Blw G G' → G.length = G'.length
  | _, _, .nil => rfl
  | _, _, .eq h => congrArg Nat.succ h.len
  | _, _, .vb h => congrArg Nat.succ h.len
theorem Blw.at : ∀ {G G' : List Sl} {i : Nat} {s : Sl}, Blw G G' → G'[i]? = some s → G[i]? = some s ∨ ∃ d, G[i]? = some (.va d) ∧ s = .br d
  | _, _, _, _, .nil, h => by simp at h
  | _, _, 0, _, .eq _, h => .inl h
  | _, _, 0, _, .vb _, h => .inr ⟨_, rfl, (Option.some.inj h).symm⟩
  | _, _, i + 1, _, .eq z, h => Blw.at (i := i) z h
  | _, _, i + 1, _, .vb z, h => Blw.at (i := i) z h
theorem Wf.blw {K : PySem.W.Frag} {H : Hp} {Oc : List Addr} {G G' : List Sl} {S : List (Option V)} (W : Wf K H Oc G S H) (h : Blw G G') : Wf K H Oc G' S H := by
  obtain ⟨O, W⟩ := W
  refine ⟨O, W.sub, W.new, W.old, W.live, W.ex, W.len.trans h.len, fun i s x h1 h2 => ?_, fun i j p d d' h1 h2 h3 h4 => ?_⟩
  · rcases h.at h1 with e | ⟨d, e, rfl⟩
    · exact W.ok i s x e h2
    · obtain ⟨v, rfl, hv⟩ := W.ok i _ x e h2
      exact ⟨v, rfl, Rep.b cut_ex hv⟩
  · have k : ∀ {i : Nat} {d : D}, G'[i]? = some (.ow d) → G[i]? = some (.ow d) := fun {i d} q => by
      rcases h.at q with e | ⟨d, _, e⟩
      · exact e
      · cases e
    exact W.nd i j p d d' (k h1) h2 (k h3) h4
section
variable {X : Cx} {W : WX} {H0 : Hp} {Oc : List Addr} {Γ Γ1 Γ' : List Sl} {e a b c o tg iter elt ie : Expr} {es ifs : List Expr} {rest body els sts : List Stmt} {s s0 s1 s2 : Sl} {ss : List Sl} {d d1 d2 : D} {ds ds1 ds2 : List D} {i j : Int} {pos pos' p2 p apos cpos epos tp : Pos} {x y m f g : Str} {out o1 : Out} {q : Bool} {k : Nat} {ps : List Str} {P : Pm} {C C1 : Addr} {ns ns1 : List Str}
/-! ### calls -/
theorem g_call (F : FnG X.prog X.w X.K X.mg X.base x k ps P) (hr : Room k X.A) (ha : Ea X H0 Oc Γ (e :: es) ss) (hp : P Γ' (.ret s)) (hw : Blw (ss.map Sl.arg) Γ') (hs : s.res = true := by rfl) (hg : Gl X x := by rfl) (hdb : (x == ("__debug__" : Str)) = false := by decide)
    (he : starEach (e :: es) X.env = (false, eval e X.env) :: starEach es X.env := by rfl) (hpl : (backTo pos (starEach es X.env)).any (·.1) = false := by rfl) : Ev X H0 Oc Γ (.Call (.Name x p) (e :: es) [] pos) s := fun Δ τ σ H Q hl w q => by
  obtain ⟨f, fd, F, hm, hk, hb⟩ := F.ex
  refine wpE.of (pe_call (E := E0) F hr hg hm hk hb .nil passLN pa_wp hdb he hpl) ?_
  refine ha Δ τ σ H _ hl w fun vs O H1 W1 ok => ?_
  rw [List.append_nil]
  exact ⟨O, _, _, hp, (W1.callee ok).blw hw, fun v H' W2 => q v H' (W1.after W2 hs)⟩
theorem g_meth {pl : Sem Bool} (c : Cls X.K C) (F : MtG X.prog X.w X.K X.mg X.base C m k ps P) (hr : Room k X.A) (ho : Ev X H0 Oc Γ o s0) (ha : Ea X H0 Oc Γ (e :: es) ss) (hp : P Γ' (.ret s)) (hw : Blw (s0.arg :: ss.map Sl.arg) Γ') (hd : s0.dat = some (.obj C ns ds) := by rfl) (hn : m ∉ ns := by decide) (hs : s.res = true := by rfl)
    (hst : starEach (e :: es) X.env = (false, eval e X.env) :: starEach es X.env := by rfl) (hpl : (backTo pos (starEach es X.env)).any (·.1) = false := by rfl)
    (ht : eval (.Call (.Attribute o m apos) (e :: es) [] pos) X.env = (do
      let ov ← eval o X.env
      standAt apos.atName
      let (f, first) ← holding [ov] (getMethod ov m pl)
      callWith pos f first (backTo pos (starEach (e :: es) X.env)) (backToKw pos (keywordEach [] X.env))) := by rfl) : Ev X H0 Oc Γ (.Call (.Attribute o m apos) (e :: es) [] pos) s := fun Δ τ σ H Q hl w q => by
  obtain ⟨f, fd, F, hm, hb⟩ := F.ex
  refine wpE.of (pe_meth (pl := pl) (E := E0) pe_wp c hm F hr hb .nil passLN pa_wp hst hpl ht) ?_
  refine ho Δ τ σ H _ hl w fun v H1 W1 => ?_
  obtain ⟨O1, W1'⟩ := id W1
  obtain ⟨r, dx, fs, rfl, h2, h3, h4⟩ := (W1'.head.b W1'.ex hd : RepB _ _ _ (.obj C ns ds) v)
  refine ⟨r, dx, fs, rfl, h2, ?_, ?_⟩
  · cases q : fs.lookup m with
    | none => rfl
    | some z =>
      refine absurd ?_ hn
      rw [← h3]
      exact List.mem_map_of_mem (f := (·.1)) (PySem.mem_of_lookup q)
  · refine ha (s0 :: Δ) (some (.ref r) :: τ) σ H1 _ (by simp [hl]) W1 fun vs O H2 W2 ok => ?_
    rw [List.append_nil]
    exact ⟨O, Γ', _, hp, (W2.callee (ss := s0 :: ss) (vs := .ref r :: vs) ⟨_, _, rfl, W2.head, ok⟩).blw hw, fun v H' W3 => q v H' (W2.pop.after W3 hs)⟩
theorem g_meth0 {pl : Sem Bool} (c : Cls X.K C) (F : MtG X.prog X.w X.K X.mg X.base C m k ps P) (hr : Room k X.A) (ho : Ev X H0 Oc Γ o s0) (hp : P Γ' (.ret s)) (hw : Blw [s0.arg] Γ') (hd : s0.dat = some (.obj C ns ds) := by rfl) (hn : m ∉ ns := by decide) (hs : s.res = true := by rfl)
    (ht : eval (.Call (.Attribute o m apos) [] [] pos) X.env = (do
      let ov ← eval o X.env
      standAt apos.atName
      let (f, first) ← holding [ov] (getMethod ov m pl)
      callWith pos f first (backTo pos (starEach [] X.env)) (backToKw pos (keywordEach [] X.env))) := by rfl) : Ev X H0 Oc Γ (.Call (.Attribute o m apos) [] [] pos) s := fun Δ τ σ H Q hl w q => by
  obtain ⟨f, fd, F, hm, hb⟩ := F.ex
  refine wpE.of (pe_meth0 (pl := pl) (E := E0) pe_wp c hm F hr hb .nil passLN ht) ?_
  refine ho Δ τ σ H _ hl w fun v H1 ⟨O1, W1'⟩ => ?_
  obtain ⟨r, dx, fs, rfl, h2, h3, h4⟩ := (W1'.head.b W1'.ex hd : RepB _ _ _ (.obj C ns ds) v)
  refine ⟨r, dx, fs, rfl, h2, ?_, ?_⟩
  · cases q : fs.lookup m with
    | none => rfl
    | some z =>
      refine absurd ?_ hn
      rw [← h3]
      exact List.mem_map_of_mem (f := (·.1)) (PySem.mem_of_lookup q)
  · exact ⟨O1, Γ', _, hp, (W1'.callee (ss := [s0]) (vs := [.ref r]) ⟨_, _, rfl, W1'.head, rfl⟩).blw hw, fun v H' W3 => q v H' (W1'.pop.after W3 hs)⟩
theorem g_prop (c : Cls X.K C) (F : PrG X.prog X.w X.K X.mg X.base C m k ps P) (hr : Room (k + 1) X.A) (ho : Ev X H0 Oc Γ o s0) (hp : P Γ' (.ret s)) (hw : Blw [s0.arg] Γ') (hd : s0.dat = some (.obj C ns ds) := by rfl) (hs : s.res = true := by rfl)
    (hab : attributeBase o m X.env (eval o X.env) = eval o X.env := by rfl) : Ev X H0 Oc Γ (.Attribute o m pos) s := fun Δ τ σ H Q hl w q => by
  obtain ⟨p, f, fd, F, hm, hb⟩ := F.ex
  refine wpE.of (pe_prop (E := E0) pe_wp c hm F hr hb .nil (by exact passLN) hab) ?_
  refine ho Δ τ σ H _ hl w fun v H1 ⟨O1, W1'⟩ => ?_
  obtain ⟨r, dx, fs, rfl, h2, h3, h4⟩ := (W1'.head.b W1'.ex hd : RepB _ _ _ (.obj C ns ds) v)
  exact ⟨r, dx, fs, rfl, h2, O1, Γ', _, hp, (W1'.callee (ss := [s0]) (vs := [.ref r]) ⟨_, _, rfl, W1'.head, rfl⟩).blw hw, fun v H' W3 => q v H' (W1'.pop.after W3 hs)⟩
theorem g_make (F : ClG X.prog X.w X.K X.mg X.base x C k ps P) (hr : Room (k + 1) X.A) (ha : Ea X H0 Oc Γ (e :: es) ss) (hp : P Γ' (.ret (.ow d))) (hw : Blw (ss.map Sl.arg) Γ') (hg : Gl X x := by rfl) (hdb : (x == ("__debug__" : Str)) = false := by decide)
    (he : starEach (e :: es) X.env = (false, eval e X.env) :: starEach es X.env := by rfl) (hpl : (backTo pos (starEach es X.env)).any (·.1) = false := by rfl) : Ev X H0 Oc Γ (.Call (.Name x p) (e :: es) [] pos) (.ow d) := fun Δ τ σ H Q hl w q => by
  obtain ⟨f, fd, F, hM, hm, hb⟩ := F.ex
  refine wpE.of (pe_make (E := E0) hM F hr hg hm hb .nil passLN pa_wp hdb he hpl) ?_
  refine ha Δ τ σ H _ hl w fun vs O H1 W1 ok => ?_
  intro y dx ny ndx ne
  rw [List.append_nil]
  exact ⟨H1, O, _, _, _, _, hp, rfl, WfO.making ((W1.callee ok).blw hw) ny ndx ne, fun H' W2 => ⟨rfl, q _ H' (W1.after W2 rfl)⟩⟩
theorem gx_call {Γe : Option (List Sl)} (tk : L2N.Takes X W) (F : FnG X.prog X.w X.K X.mg X.base x k ps P) (hr : Room k X.A) (ha : Ea X H0 Oc Γ (e :: es) ss) (hp : P Γ' (.exc C ns ds Γe)) (hw : Blw (ss.map Sl.arg) Γ') (hg : Gl X x := by rfl) (hdb : (x == ("__debug__" : Str)) = false := by decide)
    (he : starEach (e :: es) X.env = (false, eval e X.env) :: starEach es X.env := by rfl) (hpl : (backTo pos (starEach es X.env)).any (·.1) = false := by rfl) : Exx X W H0 Oc Γ (.Call (.Name x p) (e :: es) [] pos) C ns ds := fun Δ τ σ H Q hl W' q => by
  obtain ⟨f, fd, F, hm, hk, hb⟩ := F.ex
  refine wpE.of (pe_callS (E := WE W) F hr hg hm hk hb (fun σ => L2N.passAt tk σ) pa_wp hdb he hpl) ?_
  refine ha Δ τ σ H _ hl W' fun vs O H1 W1 ok => ?_
  exact ⟨O, _, _, hp, (W1.callee ok).blw hw, fun d H' W2 => q d H' (W1.after W2 rfl)⟩
theorem gx_make {Γe : Option (List Sl)} (tk : L2N.Takes X W) (F : ClG X.prog X.w X.K X.mg X.base x C k ps P) (hr : Room (k + 1) X.A) (ha : Ea X H0 Oc Γ (e :: es) ss) (hp : P Γ' (.exc C1 ns ds Γe)) (hw : Blw (ss.map Sl.arg) Γ') (hg : Gl X x := by rfl) (hdb : (x == ("__debug__" : Str)) = false := by decide)
    (he : starEach (e :: es) X.env = (false, eval e X.env) :: starEach es X.env := by rfl) (hpl : (backTo pos (starEach es X.env)).any (·.1) = false := by rfl) : Exx X W H0 Oc Γ (.Call (.Name x p) (e :: es) [] pos) C1 ns ds := fun Δ τ σ H Q hl w q => by
  obtain ⟨fi, fd, Fi, hM, hm, hb⟩ := F.ex
  refine wpE.of (pe_makeS (E := WE W) hM Fi hr hg hm hb (fun σ => L2N.passAt tk σ) pa_wp hdb he hpl) ?_
  refine ha Δ τ σ H _ hl w fun vs O H1 w1 ok => ?_
  intro yy dx ny ndx ne
  exact ⟨H1, O, _, _, _, _, hp, rfl, WfO.making ((w1.callee ok).blw hw) ny ndx ne, fun d H' w2 => q d H' (w1.after w2 rfl)⟩
theorem g_own {op : Operator} (hc : PySem.W.selfFirst X.K C = true) (F : MtG X.prog X.w X.K X.mg X.base C (PySem.dunder op.info.2) k ps P) (hr : Room k X.A) (ha : Ev X H0 Oc Γ a s1) (hb : Ev X H0 Oc Γ b s2) (hp : P Γ' (.ret s)) (hw : Blw [s1.arg, s2.arg] Γ') (hd1 : s1.dat = some (.obj C ns ds1) := by rfl) (hd2 : s2.dat = some (.obj C ns1 ds2) := by rfl)
    (hs : s.res = true := by rfl) : Ev X H0 Oc Γ (.BinOp a op b pos) s := fun Δ τ σ H Q hl w q => by
  obtain ⟨fi, fd, Fi, hM, hbd⟩ := F.ex
  refine wpE.of (pe_op (Own.op_own (E := E0) hc hM.at_ hM.fn Fi hr hbd passLN) pe_wp pe_wp) ?_
  refine ha Δ τ σ H _ hl w fun v H1 w1 => ?_
  refine hb (s1 :: Δ) (some v :: τ) σ H1 _ (by simp [hl]) w1 fun u H2 ⟨O, w2⟩ => ?_
  obtain ⟨r2, dx2, fs2, rfl, g2, g3, g4⟩ := (w2.head.b w2.ex hd2 : RepB _ _ _ (.obj C ns1 ds2) u)
  obtain ⟨r1, dx1, fs1, rfl, k2, k3, k4⟩ := (w2.pop.head.b w2.ex hd1 : RepB _ _ _ (.obj C ns ds1) v)
  refine ⟨r1, dx1, fs1, r2, dx2, fs2, rfl, rfl, k2, g2, O, Γ', _, hp, ?_, fun v H' w3 => q v H' (w2.pop.pop.after w3 hs)⟩
  exact (w2.callee (ss := [s1, s2]) (vs := [.ref r1, .ref r2]) ⟨_, _, rfl, w2.pop.head, _, _, rfl, w2.head, rfl⟩).blw hw
theorem gx_own {op : Operator} {Γe : Option (List Sl)} {xs : List Str} (tk : L2N.Takes X W) (hc : PySem.W.selfFirst X.K C = true) (F : MtG X.prog X.w X.K X.mg X.base C (PySem.dunder op.info.2) k ps P) (hr : Room k X.A) (ha : Ev X H0 Oc Γ a s1) (hb : Ev X H0 Oc Γ b s2)
    (hp : P Γ' (.exc C1 xs ds Γe)) (hw : Blw [s1.arg, s2.arg] Γ') (hd1 : s1.dat = some (.obj C ns ds1) := by rfl) (hd2 : s2.dat = some (.obj C ns1 ds2) := by rfl) : Exx X W H0 Oc Γ (.BinOp a op b pos) C1 xs ds := fun Δ τ σ H Q hl w q => by
  obtain ⟨fi, fd, Fi, hM, hbd⟩ := F.ex
  refine wpE.of (pe_ownS (E := WE W) hc hM.at_ hM.fn Fi hr hbd (fun σ => L2N.passAt tk σ) pe_wp pe_wp) ?_
  refine ha Δ τ σ H _ hl w fun v H1 w1 => ?_
  refine hb (s1 :: Δ) (some v :: τ) σ H1 _ (by simp [hl]) w1 fun u H2 ⟨O, w2⟩ => ?_
  obtain ⟨r2, dx2, fs2, rfl, g2, g3, g4⟩ := (w2.head.b w2.ex hd2 : RepB _ _ _ (.obj C ns1 ds2) u)
  obtain ⟨r1, dx1, fs1, rfl, k2, k3, k4⟩ := (w2.pop.head.b w2.ex hd1 : RepB _ _ _ (.obj C ns ds1) v)
  refine ⟨r1, dx1, fs1, r2, dx2, fs2, rfl, rfl, k2, g2, O, Γ', _, hp, ?_, fun d H' w3 => q d H' (w2.pop.pop.after w3 rfl)⟩
  exact (w2.callee (ss := [s1, s2]) (vs := [.ref r1, .ref r2]) ⟨_, _, rfl, w2.pop.head, _, _, rfl, w2.head, rfl⟩).blw hw
end
end Y

namespace Y
open PySem L2
/-! # expressions, by lists of any kind -/
section
variable {X : Cx} {W : WX} {H0 : Hp} {Oc : List Addr} {Γ Γ1 Γ' : List Sl} {e a b c o tg iter elt ie t1 : Expr} {es ifs : List Expr} {s s0 s1 s2 : Sl} {ss : List Sl} {d d1 d2 : D} {i j k : Int} {pos pos' p p2 p3 p4 pos2 : Pos} {x y m : Str} {q r : Bool} {scope : Scope} {own : List (Str × Nat)}
variable {α β γ : Type} {f : α → D} {xs ys zs : List α}
theorem Ev.asv {d' : D} (h : Ev X H0 Oc Γ e (.va d)) (hd : d = d') : Ev X H0 Oc Γ e (.va d') := hd ▸ h
/-- the name of a value -/
theorem Ev.cv {g : α → D} {u v : α} (h : Ev X H0 Oc Γ e (.va (g u))) (hd : u = v) : Ev X H0 Oc Γ e (.va (g v)) := hd ▸ h
theorem Ev.co {g : α → D} {u v : α} (h : Ev X H0 Oc Γ e (.ow (g u))) (hd : u = v) : Ev X H0 Oc Γ e (.ow (g v)) := hd ▸ h
theorem atM {x : α} (h : ixO xs i = some x) : L2.atI (xs.map f) i = some (f x) := by
  unfold ixO L2.atI at h
  unfold L2.atI
  rw [List.length_map]
  obtain ⟨j, h1, h2⟩ := bindE h
  rw [h1]
  show (xs.map f)[j]? = _
  rw [List.getElem?_map, h2]
  rfl
theorem g_len (hm : X.mg "len" = none) (ha : Ev X H0 Oc Γ a (.bw d)) (hd : seqD d = some (xs.map f) := by rfl) (hg : Gl X "len" := by rfl) (he : starEach [a] X.env = (false, eval a X.env) :: starEach [] X.env := by rfl) (hpl : (backTo pos (starEach [] X.env)).any (·.1) = false := by rfl) :
    Ev X H0 Oc Γ (.Call (.Name "len" p) [a] [] pos) (.va (.int xs.length)) := by
  have := e_len (p := p) hm ha hd hg he hpl
  rw [List.length_map] at this
  exact this
theorem g_tseq {a : Expr} (ha : Ev X H0 Oc Γ a (.bw d)) (hd : seqD d = some (xs.map f) := by rfl) (he : ∀ whole, isTrue a X.env whole = (do let v ← whole; standAt a.pos; holding [v] (truthy v)) := by intro _; rfl) : Et X H0 Oc Γ a (!xs.isEmpty) := by
  have := t_seq ha hd he
  rw [List.isEmpty_map] at this
  exact this
theorem g_slL {lo hi : Option Expr} {l h : Option Int} (ha : Ev X H0 Oc Γ a (.bw (.lst (xs.map f)))) (hlo : Eo X H0 Oc Γ lo l) (hhi : Eo X H0 Oc Γ hi h) : Ev X H0 Oc Γ (.Subscript a (.Slice lo hi none p2) pos) (.ow (.lst ((cutD xs l h).map f))) := cutD_map ▸ ev_slL ha hlo hhi
theorem g_slT {lo hi : Option Expr} {l h : Option Int} (ha : Ev X H0 Oc Γ a (.va (.tup (xs.map f)))) (hlo : Eo X H0 Oc Γ lo l) (hhi : Eo X H0 Oc Γ hi h) : Ev X H0 Oc Γ (.Subscript a (.Slice lo hi none p2) pos) (.va (.tup ((cutD xs l h).map f))) := cutD_map ▸ ev_slT ha hlo hhi
theorem g_revL {k : Nat} {p1 p3 p4 : Pos} (ha : Ev X H0 Oc Γ a (.bw (.lst (xs.map f)))) : Ev X H0 Oc Γ (.Subscript a (.Slice none none (some (.UnaryOp .USub (.Constant (.int 1) k p1) p3)) p4) pos) (.ow (.lst (xs.reverse.map f))) := by
  rw [List.map_reverse]
  exact ev_revL ha
theorem g_revT {k : Nat} {p1 p3 p4 : Pos} (ha : Ev X H0 Oc Γ a (.va (.tup (xs.map f)))) : Ev X H0 Oc Γ (.Subscript a (.Slice none none (some (.UnaryOp .USub (.Constant (.int 1) k p1) p3)) p4) pos) (.va (.tup (xs.reverse.map f))) := by
  rw [List.map_reverse]
  exact ev_revT ha
theorem g_catL (ha : Ev X H0 Oc Γ a (.bw (.lst (xs.map f)))) (hb : Ev X H0 Oc Γ b (.bw (.lst (ys.map f)))) (h : catO xs ys = some zs) : Ev X H0 Oc Γ (.BinOp a .Add b pos) (.ow (.lst (zs.map f))) := by
  obtain ⟨h1, rfl⟩ := catOE h
  rw [List.map_append]
  exact ev_catL ha hb (by simpa using h1)
theorem g_catT (ha : Ev X H0 Oc Γ a (.va (.tup (xs.map f)))) (hb : Ev X H0 Oc Γ b (.va (.tup (ys.map f)))) (h : catO xs ys = some zs) : Ev X H0 Oc Γ (.BinOp a .Add b pos) (.va (.tup (zs.map f))) := by
  obtain ⟨h1, rfl⟩ := catOE h
  rw [List.map_append]
  exact ev_catT ha hb (by simpa using h1)
theorem g_repL (ha : Ev X H0 Oc Γ a (.bw (.lst (xs.map f)))) (hb : Ev X H0 Oc Γ b (.va (.int i))) (h : repO xs i = some zs) : Ev X H0 Oc Γ (.BinOp a .Mult b pos) (.ow (.lst (zs.map f))) := by
  obtain ⟨⟨h1, h2, h3⟩, rfl⟩ := repOE h
  have := ev_repL (pos := pos) ha hb h1 h2 (by simpa using h3)
  rw [List.map_flatten, List.map_replicate]
  exact this
theorem g_mul (ha : Ev X H0 Oc Γ a (.va (.int i))) (hb : Ev X H0 Oc Γ b (.va (.int j))) (h : mulO i j = some k) : Ev X H0 Oc Γ (.BinOp a .Mult b pos) (.va (.int k)) := by
  obtain ⟨h1, rfl⟩ := mulOE h
  exact ev_mul ha hb h1
theorem g_div (ha : Ev X H0 Oc Γ a (.va (.int i))) (hb : Ev X H0 Oc Γ b (.va (.int j))) (h : divO i j = some k) : Ev X H0 Oc Γ (.BinOp a .FloorDiv b pos) (.va (.int k)) := by
  obtain ⟨h1, rfl⟩ := divOE h
  exact ev_fdiv ha hb h1
theorem g_mod (ha : Ev X H0 Oc Γ a (.va (.int i))) (hb : Ev X H0 Oc Γ b (.va (.int j))) (h : modO i j = some k) : Ev X H0 Oc Γ (.BinOp a .Mod b pos) (.va (.int k)) := by
  obtain ⟨h1, rfl⟩ := modOE h
  exact ev_mod ha hb h1
theorem g_rng {n : Int} {xs : List Int} (hm : X.mg "range" = none) (ha : Ev X H0 Oc Γ a (.va (.int n))) (h : rngO n = some xs) (hg : Gl X "range" := by rfl) (hs : starEach [a] X.env = [(false, eval a X.env)] := by rfl) (hs' : starEach [a] X.env = (false, eval a X.env) :: starEach [] X.env := by rfl) :
    Ei X H0 Oc Γ tg (.Call (.Name "range" p) [a] [] pos) (xs.map D.int) := by
  obtain ⟨⟨h1, h2⟩, rfl⟩ := rngOE h
  refine (ei_rng1 ha h1 h2 hm hg hs hs').as ?_
  unfold rngD irange
  rw [List.map_map]
  exact List.map_congr_left fun k _ => by simp
theorem g_rng2 {n n2 : Int} {xs : List Int} (hm : X.mg "range" = none) (ha : Ev X H0 Oc Γ a (.va (.int n))) (hb : Ev X H0 Oc Γ b (.va (.int n2))) (h : rng2O n n2 = some xs) (hg : Gl X "range" := by rfl)
    (hs : starEach [a, b] X.env = (false, eval a X.env) :: starEach [b] X.env := by rfl) (hs2 : starEach [b] X.env = (false, eval b X.env) :: starEach [] X.env := by rfl) :
    Ei X H0 Oc Γ tg (.Call (.Name "range" p) [a, b] [] pos) (xs.map D.int) := by
  obtain ⟨h1, rfl⟩ := rng2OE h
  refine (ei_rng2 ha hb h1 hm hg hs hs2).as ?_
  unfold rngD irange2
  rw [List.map_map]
  exact List.map_congr_left fun k _ => by simp
/-! ### both, either, one or the other -/
theorem g_and {m : Option Bool} {t : Bool} (ha : Ev X H0 Oc Γ a (.va (.bl q))) (h : (if q = true then m else some false) = some t) (hb : ∀ r, q = true → m = some r → Ev X H0 Oc Γ (.BoolOp .And (b :: es) pos) (.va (.bl r))) : Ev X H0 Oc Γ (.BoolOp .And (a :: b :: es) pos) (.va (.bl t)) := by
  cases q with
  | true => exact (ev_and ha fun _ => hb t rfl h : Ev X H0 Oc Γ _ (.va (.bl (true && t))))
  | false =>
    cases h
    exact ev_and (r := false) ha fun z => nomatch z
theorem g_or {m : Option Bool} {t : Bool} (ha : Ev X H0 Oc Γ a (.va (.bl q))) (h : (if q = true then some true else m) = some t) (hb : ∀ r, q = false → m = some r → Ev X H0 Oc Γ (.BoolOp .Or (b :: es) pos) (.va (.bl r))) : Ev X H0 Oc Γ (.BoolOp .Or (a :: b :: es) pos) (.va (.bl t)) := by
  cases q with
  | false => exact (ev_or ha fun _ => hb t rfl h : Ev X H0 Oc Γ _ (.va (.bl (false || t))))
  | true =>
    cases h
    exact ev_or (r := false) ha fun z => nomatch z
theorem gt_and {m : Option Bool} {t : Bool} (ha : Et X H0 Oc Γ a q) (h : (if q = true then m else some false) = some t) (hb : ∀ r, q = true → m = some r → Ew X H0 Oc Γ (.BoolOp .And (b :: es) pos) r) : Ew X H0 Oc Γ (.BoolOp .And (a :: b :: es) pos) t := by
  cases q with
  | true => exact (ew_and ha fun _ => hb t rfl h : Ew X H0 Oc Γ _ (true && t))
  | false =>
    cases h
    exact ew_and (r := false) ha fun z => nomatch z
theorem gt_or {m : Option Bool} {t : Bool} (ha : Et X H0 Oc Γ a q) (h : (if q = true then some true else m) = some t) (hb : ∀ r, q = false → m = some r → Ew X H0 Oc Γ (.BoolOp .Or (b :: es) pos) r) : Ew X H0 Oc Γ (.BoolOp .Or (a :: b :: es) pos) t := by
  cases q with
  | false => exact (ew_or ha fun _ => hb t rfl h : Ew X H0 Oc Γ _ (false || t))
  | true =>
    cases h
    exact ew_or (r := false) ha fun z => nomatch z
theorem g_if {m1 m2 : Option α} {t : α} {K : α → Sl} (hc : Et X H0 Oc Γ c q) (h : (if q = true then m1 else m2) = some t) (h1 : q = true → m1 = some t → Ev X H0 Oc Γ a (K t)) (h2 : q = false → m2 = some t → Ev X H0 Oc Γ b (K t)) : Ev X H0 Oc Γ (.IfExp c a b pos) (K t) := by
  refine ev_if hc (fun z => ?_) (fun z => ?_)
  · subst z; exact h1 rfl h
  · subst z; exact h2 rfl h
theorem g_ifv {u v : α} {K : α → Sl} (hc : Et X H0 Oc Γ c q) (h1 : q = true → Ev X H0 Oc Γ a (K u)) (h2 : q = false → Ev X H0 Oc Γ b (K v)) : Ev X H0 Oc Γ (.IfExp c a b pos) (K (if q = true then u else v)) := by
  refine ev_if hc (fun z => ?_) (fun z => ?_)
  · subst z; exact h1 rfl
  · subst z; exact h2 rfl
/-! ### comprehensions -/
def opD (e : β → D) : Option β → D
  | some y => e y
  | none => .non
theorem mapA_opD {h : α → Option β} {e : β → D} {xs : List α} {ys : List β} (q : mapA h xs = some ys) : xs.map (fun x => opD e (h x)) = ys.map e := mapA_map q fun x y hy => by rw [hy]; rfl
def opB : Option (Option β) → Bool
  | some (some _) => true
  | _ => false
def opF (e : β → D) : Option (Option β) → D
  | some (some y) => e y
  | _ => .non
theorem fmapA_opD {h : α → Option (Option β)} {e : β → D} {xs : List α} {ys : List β} (q : fmapA h xs = some ys) : (xs.filter fun x => opB (h x)).map (fun x => opF e (h x)) = ys.map e := fmapA_map q (fun x y hy => by rw [hy]; exact ⟨rfl, rfl⟩) fun x hy => by rw [hy]; rfl
theorem g_lc (own : List (Str × Nat)) (xs : List α) (enc : α → D) (h : α → Option β) (e : β → D) (Γe : α → List Sl) {ys : List β} (hy : mapO h xs = some ys) (hc : X.calm = true) (hN : X.N.Nodup) (ok : BlkOk X.N X.env.scope scope own) (hi : Ei X H0 Oc Γ tg iter (xs.map enc))
    (ht : ∀ x ∈ xs, ∀ H0' Oc' s0 H00 C cl fp, Tgw (blkX X scope s0 H00 C cl fp) H0' Oc' (own.map (·.2)) tg (wipeG (Γ.map Sl.arg) (own.map (·.2))) (.va (enc x)) (Γe x))
    (hst : ∀ x ∈ xs, stab (Γe x) = true ∧ Sub (wipeG (Γe x) (own.map (·.2))) (wipeG (Γ.map Sl.arg) (own.map (·.2))))
    (he : ∀ x ∈ xs, ∀ y, h x = some y → ∀ H0' Oc' s0 H00 C cl fp, Ev (blkX X scope s0 H00 C cl fp) H0' Oc' (Γe x) elt (.va (e y)))
    (hs : ∀ x, foldedSetIterable iter X.env x = pure x := by intro _; rfl) : Ev X H0 Oc Γ (.ListComp elt [⟨tg, iter, [], 0⟩] scope pos) (.ow (.lst (ys.map e))) := by
  obtain ⟨hn, hy⟩ := mapOE hy
  rw [← mapA_opD (e := e) hy]
  refine e_lc xs enc _ Γe hc hN ok hi hn ht hst (fun x hx => ?_) hs
  obtain ⟨y, q⟩ := mapA_mem hy x hx
  rw [q]
  exact he x hx y q
theorem g_lcf (own : List (Str × Nat)) (xs : List α) (enc : α → D) (h : α → Option (Option β)) (e : β → D) (Γe : α → List Sl) {ys : List β} (hy : fmapO h xs = some ys) (hc : X.calm = true) (hN : X.N.Nodup) (ok : BlkOk X.N X.env.scope scope own) (hi : Ei X H0 Oc Γ tg iter (xs.map enc))
    (ht : ∀ x ∈ xs, ∀ H0' Oc' s0 H00 C cl fp, Tgw (blkX X scope s0 H00 C cl fp) H0' Oc' (own.map (·.2)) tg (wipeG (Γ.map Sl.arg) (own.map (·.2))) (.va (enc x)) (Γe x))
    (hst : ∀ x ∈ xs, stab (Γe x) = true ∧ Sub (wipeG (Γe x) (own.map (·.2))) (wipeG (Γ.map Sl.arg) (own.map (·.2))))
    (hp : ∀ x ∈ xs, ∀ y, h x = some y → ∀ H0' Oc' s0 H00 C cl fp, Et (blkX X scope s0 H00 C cl fp) H0' Oc' (Γe x) t1 y.isSome)
    (he : ∀ x ∈ xs, ∀ y, h x = some (some y) → ∀ H0' Oc' s0 H00 C cl fp, Ev (blkX X scope s0 H00 C cl fp) H0' Oc' (Γe x) elt (.va (e y)))
    (hs : ∀ x, foldedSetIterable iter X.env x = pure x := by intro _; rfl) : Ev X H0 Oc Γ (.ListComp elt [⟨tg, iter, [t1], 0⟩] scope pos) (.ow (.lst (ys.map e))) := by
  obtain ⟨hn, hy⟩ := fmapOE hy
  rw [← fmapA_opD (e := e) hy]
  refine e_lcf xs enc _ _ Γe hc hN ok hi hn ht hst (fun x hx => ?_) (fun x hx ho => ?_) hs
  · obtain ⟨y, q⟩ := fmapA_mem hy x hx
    have := hp x hx y q
    rw [q]
    cases y <;> exact this
  · obtain ⟨y, q⟩ := fmapA_mem hy x hx
    rw [q] at ho ⊢
    cases y with
    | none => cases ho
    | some y => exact he x hx y q
/-- two fors: the inner list, and each element of it (with its test) -/
def flat2 (iy : α → Option (List γ)) (pe : α → γ → Option (Option β)) (xs : List α) : Option (List β) := flatO (fun x => (iy x).bind fun ys => fmapA (pe x) ys) xs
theorem flat2E {iy : α → Option (List γ)} {pe : α → γ → Option (Option β)} {xs : List α} {zs : List β} (h : flat2 iy pe xs = some zs) (e : β → D) :
    (xs.flatMap (part3 (fun x => (iy x).getD []) (fun x k => opB (pe x k)) (fun x k => opF e (pe x k)))) = zs.map e ∧ zs.length ≤ 1000000 ∧ ∀ x ∈ xs, ∃ ys, iy x = some ys ∧ ∀ k ∈ ys, ∃ z, pe x k = some z := by
  unfold flat2 flatO at h
  obtain ⟨yss, h1, h⟩ := bindE h
  split at h
  · rename_i hl
    cases h
    refine ⟨?_, hl, fun x hx => ?_⟩
    · rw [List.flatMap_def, List.map_flatten]
      congr 1
      refine mapA_map (e := fun ys : List β => ys.map e) h1 fun x zs hz => ?_
      obtain ⟨ys, q1, q2⟩ := bindE hz
      show (((iy x).getD []).filter fun k => opB (pe x k)).map (fun k => opF e (pe x k)) = _
      rw [q1]
      exact fmapA_opD q2
    · obtain ⟨zs, hz⟩ := mapA_mem h1 x hx
      obtain ⟨ys, q1, q2⟩ := bindE hz
      exact ⟨ys, q1, fmapA_mem q2⟩
  · cases h
theorem g_lc3 (own : List (Str × Nat)) (vs1 : List Nat) {tg1 iter1 : Expr} (xs : List α) (enc : α → D) (iy : α → Option (List γ)) (enc1 : γ → D) (pe : α → γ → Option (Option β)) (e : β → D) (Γe : α → List Sl) (Γf : α → γ → List Sl) {zs : List β} (hy : flat2 iy pe xs = some zs) (hc : X.calm = true) (hN : X.N.Nodup) (ok : BlkOk X.N X.env.scope scope own) (hi : Ei X H0 Oc Γ tg iter (xs.map enc))
    (hv : ∀ i ∈ vs1, i ∈ own.map (·.2))
    (ht : ∀ x ∈ xs, ∀ H0' Oc' s0 H00 C cl fp, Tgw (blkX X scope s0 H00 C cl fp) H0' Oc' (own.map (·.2)) tg (wipeG (Γ.map Sl.arg) (own.map (·.2))) (.va (enc x)) (Γe x))
    (hst : ∀ x ∈ xs, stab (Γe x) = true ∧ Sub (wipeG (wipeG (Γe x) vs1) (own.map (·.2))) (wipeG (Γ.map Sl.arg) (own.map (·.2))))
    (hi1 : ∀ x ∈ xs, ∀ ys, iy x = some ys → ∀ H0' Oc' s0 H00 C cl fp, Ei (blkX X scope s0 H00 C cl fp) H0' Oc' (Γe x) tg1 iter1 (ys.map enc1))
    (ht1 : ∀ x ∈ xs, ∀ k : γ, ∀ H0' Oc' s0 H00 C cl fp, Tgw (blkX X scope s0 H00 C cl fp) H0' Oc' vs1 tg1 (wipeG (Γe x) vs1) (.va (enc1 k)) (Γf x k))
    (hst1 : ∀ x ∈ xs, ∀ k : γ, stab (Γf x k) = true ∧ Sub (wipeG (Γf x k) vs1) (wipeG (Γe x) vs1))
    (hp : ∀ x ∈ xs, ∀ (k : γ) y, pe x k = some y → ∀ H0' Oc' s0 H00 C cl fp, Ets (blkX X scope s0 H00 C cl fp) H0' Oc' (Γf x k) ifs y.isSome)
    (he : ∀ x ∈ xs, ∀ (k : γ) y, pe x k = some (some y) → ∀ H0' Oc' s0 H00 C cl fp, Ev (blkX X scope s0 H00 C cl fp) H0' Oc' (Γf x k) elt (.va (e y)))
    (hs : ∀ x, foldedSetIterable iter X.env x = pure x := by intro _; rfl) (hf2 : ∀ env x, foldedSetIterable iter1 env x = pure x := by intro _ _; rfl) :
    Ev X H0 Oc Γ (.ListComp elt [⟨tg, iter, [], 0⟩, ⟨tg1, iter1, ifs, 0⟩] scope pos) (.ow (.lst (zs.map e))) := by
  obtain ⟨eq, hl, hm⟩ := flat2E hy e
  rw [← eq]
  refine e_lc3 xs enc _ enc1 _ _ Γe Γf hc hN ok hi (by rw [eq, List.length_map]; exact hl) hv ht hst (fun x hx => ?_) (fun x hx k _ => ht1 x hx k) (fun x hx k _ => hst1 x hx k) (fun x hx k hk => ?_) (fun x hx k hk ho => ?_) hs hf2
  · obtain ⟨ys, q1, _⟩ := hm x hx
    rw [q1]
    exact hi1 x hx ys q1
  · obtain ⟨ys, q1, q2⟩ := hm x hx
    rw [q1] at hk
    obtain ⟨z, hz⟩ := q2 k hk
    have := hp x hx k z hz
    rw [hz]
    cases z <;> exact this
  · obtain ⟨ys, q1, q2⟩ := hm x hx
    rw [q1] at hk
    obtain ⟨z, hz⟩ := q2 k hk
    rw [hz] at ho ⊢
    cases z with
    | none => cases ho
    | some y => exact he x hx k y hz
/-! ### sorted -/
end
end Y

namespace Y
open PySem PySem.Spec PyProof.Rows L2
/-! # statements, with what follows -/
section
variable {X : Cx} {W : WX} {H0 : Hp} {Oc : List Addr} {Γ Γ1 Γ2 Γ' : List Sl} {e a b c o tg iter elt ie t1 e1 e2 : Expr} {es ifs : List Expr} {rest body els sts : List Stmt} {s s0 s1 s2 : Sl} {ss : List Sl} {d d1 d2 : D} {ds ds1 ds2 : List D} {i j : Int} {pos pos' p p2 apos cpos epos tp : Pos} {x y m f g : Str} {out o1 : Out} {q : Bool} {k : Nat} {ps : List Str} {C C1 : Addr} {ns ns1 : List Str} {scope : Scope} {own : List (Str × Nat)}
variable {N : List Sl → Prop} {P : Out → Prop}
def endsK (N : List Sl → Prop) (P : Out → Prop) : Out → Prop
  | .nx Γ' => N Γ'
  | o => P o
/-- a block: its end is as said -/
def SdK (X : Cx) (W : WX) (H0 : Hp) (Oc : List Addr) (Γ : List Sl) (b : List Stmt) (N : List Sl → Prop) (P : Out → Prop) : Prop := ∃ o, Sds X W H0 Oc Γ b o ∧ endsK N P o
theorem SdK.map (h : SdK X W H0 Oc Γ1 sts N P) (k : ∀ o, Sds X W H0 Oc Γ1 sts o → Sds X W H0 Oc Γ rest o) : SdK X W H0 Oc Γ rest N P := let ⟨o, h, p⟩ := h; ⟨o, k o h, p⟩
theorem k_nil (h : N Γ) : SdK X W H0 Oc Γ [] N P := ⟨.nx Γ, sds_nil, h⟩
theorem k_pass (hr : SdK X W H0 Oc Γ rest N P) : SdK X W H0 Oc Γ (.Pass pos :: rest) N P := hr.map fun _ h => sds_pass h
theorem k_set (n : Nat) (hN : X.N.Nodup) (he : Ev X H0 Oc Γ e s) (hr : SdK X W H0 Oc (Γ.set n s) rest N P) (hi : X.N[n]? = some x := by rfl) (hx : Loc X.env.scope x := by first | exact .inl rfl | exact .inr rfl) (hs : swapsWith e (some (.Name x pos')) pos.line X.env = pure false := by rfl) (hf : X.fn x = true ∨ X.env.scope.names.lookup x = some .local := by first | exact .inr rfl | exact .inl rfl) :
    SdK X W H0 Oc Γ (.Assign [.Name x pos'] e pos :: rest) N P := hr.map fun _ h => d_set n hN he h hi hx hs hf
theorem k_expr (he : Ev X H0 Oc Γ e s) (hr : SdK X W H0 Oc Γ rest N P) (hs : swapsWith e none pos.line X.env = pure false := by rfl) : SdK X W H0 Oc Γ (.Expr e pos :: rest) N P := hr.map fun _ h => sds_expr he h hs
theorem k_freeze (n : Nat) (hr : SdK X W H0 Oc (Γ.set n (.va d)) rest N P) (h : Γ[n]? = some (.ow d) := by rfl) : SdK X W H0 Oc Γ rest N P := hr.map fun _ z => sds_freeze n h z
theorem k_sub (hs : Sub Γ Γ') (hr : SdK X W H0 Oc Γ' rest N P) : SdK X W H0 Oc Γ rest N P := hr.map fun _ z => sds_in hs z
theorem k_ret (he : Ev X H0 Oc Γ e s) (hp : P (.ret s)) : SdK X W H0 Oc Γ (.Return (some e) pos :: rest) N P := ⟨_, sds_ret he, hp⟩
theorem k_retN (hp : P (.ret (.va .non))) : SdK X W H0 Oc Γ (.Return none pos :: rest) N P := ⟨_, sds_retN, hp⟩
theorem k_retV (n : Nat) (hp : P (.ret (.ow d))) (h : Γ[n]? = some (.ow d) := by rfl) (hN : X.N[n]? = some x := by rfl) (hv : Vis X.env.scope x := by first | exact .inl rfl | exact .inr (.inl rfl) | exact .inr (.inr rfl)) (hd : (x == ("__debug__" : Str)) = false := by rfl) (hcd : (x == ("__classdict__" : Str)) = false := by rfl) :
    SdK X W H0 Oc Γ (.Return (some (.Name x p)) pos :: rest) N P := ⟨_, d_retV n rfl h hN hv hd hcd, hp⟩
theorem k_brk (hp : P (.brk Γ)) : SdK X W H0 Oc Γ (.Break pos :: rest) N P := ⟨_, sds_brk, hp⟩
theorem k_cnt (hp : P (.cnt Γ)) : SdK X W H0 Oc Γ (.Continue pos :: rest) N P := ⟨_, sds_cnt, hp⟩
theorem k_raise1 (hc : X.calm = true) (tk : L2N.Takes X W) (T : Sup.Ex1 X.prog X.K X.mg x f C) (hr : Room 2 X.A) (he : Ev X H0 Oc Γ e (.va d)) (hp : P (.exc C [f] [d] (some Γ))) (hg : Gl X x := by rfl)
    (hdb : (x == ("__debug__" : Str)) = false := by decide) (hst : starEach [e] X.env = (false, eval e X.env) :: starEach [] X.env := by rfl) (hpl : (backTo pos (starEach [] X.env)).any (·.1) = false := by rfl) :
    SdK X W H0 Oc Γ (.Raise (some (.Call (.Name x p) [e] [] pos)) none p2 :: rest) N P := ⟨_, sds_raise1 hc tk T hr hg he hdb hst hpl, hp⟩
theorem k_raise2 (hc : X.calm = true) (tk : L2N.Takes X W) (T : Sup.Ex2 X.prog X.K X.mg x f g C) (hr : Room 2 X.A) (he : Ev X H0 Oc Γ a (.va d1)) (he2 : Ev X H0 Oc Γ b (.va d2)) (hp : P (.exc C [g, f] [d2, d1] (some Γ))) (hg : Gl X x := by rfl)
    (hdb : (x == ("__debug__" : Str)) = false := by decide) (hst : starEach [a, b] X.env = (false, eval a X.env) :: starEach [b] X.env := by rfl) (hst2 : starEach [b] X.env = (false, eval b X.env) :: starEach [] X.env := by rfl) (hpl : (backTo pos (starEach [b] X.env)).any (·.1) = false := by rfl) :
    SdK X W H0 Oc Γ (.Raise (some (.Call (.Name x p) [a, b] [] pos)) none p2 :: rest) N P := ⟨_, sds_raise2 hc tk T hr hg he he2 hdb hst hst2 hpl, hp⟩
theorem k_setX (hN : X.N.Nodup) (he : Exx X W H0 Oc Γ e C ns ds) (n : Nat) (hp : P (.exc C ns ds (some Γ))) (hi : X.N[n]? = some x := by rfl) (hx : Loc X.env.scope x := by first | exact .inl rfl | exact .inr rfl) (hs : swapsWith e (some (.Name x p2)) pos.line X.env = pure false := by rfl) (hf : X.fn x = true ∨ X.env.scope.names.lookup x = some .local := by first | exact .inr rfl | exact .inl rfl) :
    SdK X W H0 Oc Γ (.Assign [.Name x p2] e pos :: rest) N P := ⟨_, sds_setX hN hi hx he hs hf, hp⟩
theorem k_exprX (he : Exx X W H0 Oc Γ e C ns ds) (hp : P (.exc C ns ds (some Γ))) (hs : swapsWith e none pos.line X.env = pure false := by rfl) : SdK X W H0 Oc Γ (.Expr e pos :: rest) N P := ⟨_, sds_exprX he hs, hp⟩
theorem k_retX (he : Exx X W H0 Oc Γ e C ns ds) (hp : P (.exc C ns ds (some Γ))) : SdK X W H0 Oc Γ (.Return (some e) pos :: rest) N P := ⟨_, sds_retX he, hp⟩
/-! if -/
theorem k_ifT (hc : Et X H0 Oc Γ c q) (hq : q = true) (hr : SdK X W H0 Oc Γ body (fun Γ' => SdK X W H0 Oc Γ' rest N P) P) : SdK X W H0 Oc Γ (.If c body els pos :: rest) N P := by
  subst hq
  obtain ⟨o, h, p⟩ := hr
  cases o with
  | nx Γ1 =>
    obtain ⟨o2, h2, p2⟩ := (p : SdK X W H0 Oc Γ1 rest N P)
    exact ⟨o2, sds_if hc (fun _ => ⟨_, h, h2⟩) (fun z => nomatch z), p2⟩
  | ret s => exact ⟨_, sds_if hc (fun _ => ⟨_, h, rfl⟩) (fun z => nomatch z), p⟩
  | brk s => exact ⟨_, sds_if hc (fun _ => ⟨_, h, rfl⟩) (fun z => nomatch z), p⟩
  | cnt s => exact ⟨_, sds_if hc (fun _ => ⟨_, h, rfl⟩) (fun z => nomatch z), p⟩
  | exc C ns ds Γe => exact ⟨_, sds_if hc (fun _ => ⟨_, h, rfl⟩) (fun z => nomatch z), p⟩
theorem k_ifF (hc : Et X H0 Oc Γ c q) (hq : q = false) (hr : SdK X W H0 Oc Γ els (fun Γ' => SdK X W H0 Oc Γ' rest N P) P) : SdK X W H0 Oc Γ (.If c body els pos :: rest) N P := by
  subst hq
  obtain ⟨o, h, p⟩ := hr
  cases o with
  | nx Γ1 =>
    obtain ⟨o2, h2, p2⟩ := (p : SdK X W H0 Oc Γ1 rest N P)
    exact ⟨o2, sds_if hc (fun z => nomatch z) (fun _ => ⟨_, h, h2⟩), p2⟩
  | ret s => exact ⟨_, sds_if hc (fun z => nomatch z) (fun _ => ⟨_, h, rfl⟩), p⟩
  | brk s => exact ⟨_, sds_if hc (fun z => nomatch z) (fun _ => ⟨_, h, rfl⟩), p⟩
  | cnt s => exact ⟨_, sds_if hc (fun z => nomatch z) (fun _ => ⟨_, h, rfl⟩), p⟩
  | exc C ns ds Γe => exact ⟨_, sds_if hc (fun z => nomatch z) (fun _ => ⟨_, h, rfl⟩), p⟩
/-- .. joined behind it -/
theorem sds_toK {o : Out} (h : Sds X W H0 Oc Γ sts o) (p : endsK N P o) : SdK X W H0 Oc Γ sts N P := ⟨o, h, p⟩
theorem sds_nxS (h : Sds X W H0 Oc Γ sts (.nx Γ1)) (hs : Sub Γ1 Γ2) : Sds X W H0 Oc Γ sts (.nx Γ2) := fun Δ τ σ H D hl st w k => h Δ τ σ H D hl st w fun σ' H' w' => k σ' H' (w'.sub hs.app)
theorem sds_brkS (h : Sds X W H0 Oc Γ sts (.brk Γ1)) (hs : Sub Γ1 Γ2) : Sds X W H0 Oc Γ sts (.brk Γ2) := fun Δ τ σ H D hl st w k => h Δ τ σ H D hl st w fun σ' H' w' => k σ' H' (w'.sub hs.app)
theorem sds_excS (h : Sds X W H0 Oc Γ sts (.exc C ns ds (some Γ1))) (hs : Sub Γ1 Γ2) : Sds X W H0 Oc Γ sts (.exc C ns ds (some Γ2)) := fun Δ τ σ H D hl st w k => h Δ τ σ H D hl st w fun d' σ' H' w' => k d' σ' H' (Wf.sub w' (.eq hs.app))
theorem k_ifJ (Γ1 : List Sl) (hc : Et X H0 Oc Γ c q) (h1 : q = true → SdK X W H0 Oc Γ body (fun Γ' => Sub Γ' Γ1) fun _ => False) (h2 : q = false → SdK X W H0 Oc Γ els (fun Γ' => Sub Γ' Γ1) fun _ => False) (hr : SdK X W H0 Oc Γ1 rest N P) : SdK X W H0 Oc Γ (.If c body els pos :: rest) N P := by
  have nx : ∀ {b : List Stmt}, SdK X W H0 Oc Γ b (fun Γ' => Sub Γ' Γ1) (fun _ => False) → Sds X W H0 Oc Γ b (.nx Γ1) := fun {b} ⟨o, h, p⟩ => by
    cases o <;> first | exact sds_nxS h p | exact (p : False).elim
  exact hr.map fun _ h => sds_ifn Γ1 hc (fun z => nx (h1 z)) (fun z => nx (h2 z)) h
/-! loops -/
section
variable {ε α β ρ : Type}
def LpN (GG : α → List Sl) : Lp ε α ρ → List Sl → Prop
  | .nx a, Γ => Sub Γ (GG a)
  | _, _ => False
def LpP (GG : α → List Sl) (kr : D → Sl) (e : ρ → D) (xO : ε → Addr × List Str × List D) : Lp ε α ρ → Out → Prop
  | .ret r, o => o = .ret (kr (e r))
  | .exc x, o => ∃ Γe, o = .exc (xO x).1 (xO x).2.1 (xO x).2.2 Γe
  | .brk a, o => ∃ Γ2, o = .brk Γ2 ∧ Sub Γ2 (GG a)
  | .cnt a, o => ∃ Γ2, o = .cnt Γ2 ∧ Sub Γ2 (GG a)
  | .nx _, _ => False
def toE (GG : α → List Sl) (kr : D → Sl) (e : ρ → D) (xO : ε → Addr × List Str × List D) : Option (Lp ε α ρ) → Except Out α
  | some (.nx a) => .ok a
  | some (.cnt a) => .ok a
  | some (.brk a) => .error (.brk (GG a))
  | some (.ret r) => .error (.ret (kr (e r)))
  | some (.exc x) => .error (.exc (xO x).1 (xO x).2.1 (xO x).2.2 none)
  | none => .error (.ret (.va .non))
theorem runE_of {GG : α → List Sl} {kr : D → Sl} {e : ρ → D} {xO : ε → Addr × List Str × List D} {step : α → β → Option (Lp ε α ρ)} : ∀ {xs : List β} {a : α} {r : Lp ε α ρ}, runF step a xs = some r →
    (∃ a2, r = .nx a2 ∧ (runE (fun a b => toE GG kr e xO (step a b)) a xs = .ok a2 ∨ runE (fun a b => toE GG kr e xO (step a b)) a xs = .error (.brk (GG a2)))) ∨ (∃ v, r = .ret v ∧ runE (fun a b => toE GG kr e xO (step a b)) a xs = .error (.ret (kr (e v)))) ∨
    (∃ x, r = .exc x ∧ runE (fun a b => toE GG kr e xO (step a b)) a xs = .error (.exc (xO x).1 (xO x).2.1 (xO x).2.2 none))
  | [], a, r, h => by cases h; exact .inl ⟨a, rfl, .inl rfl⟩
  | b :: bs, a, r, h => by
    obtain ⟨z, h1, h⟩ := bindE h
    unfold runE
    rw [h1]
    cases z with
    | nx a' => exact runE_of h
    | cnt a' => exact runE_of h
    | brk a' => cases h; exact .inl ⟨a', rfl, .inr rfl⟩
    | ret v => cases h; exact .inr (.inl ⟨v, rfl, rfl⟩)
    | exc x => cases h; exact .inr (.inr ⟨x, rfl, rfl⟩)
theorem run_pre {GG : α → List Sl} {kr : D → Sl} {e : ρ → D} {xO : ε → Addr × List Str × List D} {step : α → β → Option (Lp ε α ρ)} {b : β} {post : List β} : ∀ {pre : List β} {a st : α} {r : Lp ε α ρ}, runF step a (pre ++ b :: post) = some r → runE (fun a b => toE GG kr e xO (step a b)) a pre = .ok st → ∃ z, step st b = some z
  | [], a, st, r, h, h2 => by
    cases h2
    obtain ⟨z, h1, _⟩ := bindE h
    exact ⟨z, h1⟩
  | c :: pre, a, st, r, h, h2 => by
    obtain ⟨z, h1, h⟩ := bindE h
    unfold runE at h2
    rw [h1] at h2
    cases z with
    | nx a' => exact run_pre h h2
    | cnt a' => exact run_pre h h2
    | brk a' => cases h2
    | ret v => cases h2
    | exc x => cases h2
theorem k_for (xs : List β) (enc : β → D) (step : α → β → Option (Lp ε α ρ)) (a0 : α) (GG : α → List Sl) (kr : D → Sl) (er : ρ → D) (xO : ε → Addr × List Str × List D) {r : Lp ε α ρ} (hrun : runF step a0 xs = some r) (hp : PassesOwn (model X.prog X.w) X.A X.env X.xe) (hc : X.calm = true) (hi : Ei X H0 Oc Γ tg iter (xs.map enc)) (h0 : Sub Γ (GG a0))
    (hb : ∀ st b, b ∈ xs → ∀ r', step st b = some r' → ∃ Γ1, Tg X H0 Oc tg (GG st) (.va (enc b)) Γ1 ∧ SdK X W H0 Oc Γ1 body (LpN GG r') (LpP GG kr er xO r'))
    (hn : ∀ st, r = .nx st → SdK X W H0 Oc (GG st) rest N P) (hv : ∀ v, r = .ret v → P (.ret (kr (er v)))) (hx : ∀ x, r = .exc x → P (.exc (xO x).1 (xO x).2.1 (xO x).2.2 none))
    (hs : ∀ x, foldedSetIterable iter X.env x = pure x := by intro _; rfl) : SdK X W H0 Oc Γ (.For tg iter body [] pos :: rest) N P := by
  have key : ∀ out, Behind X W H0 Oc rest out GG (runE (fun a b => toE GG kr er xO (step a b)) a0 xs) → Sds X W H0 Oc Γ (.For tg iter body [] pos :: rest) out := fun out hout => by
    refine d_for xs enc _ a0 GG hp hc hi h0 (fun st b pre post hsp hpre => ?_) hout hs
    obtain ⟨z, hz⟩ := run_pre (hsp ▸ hrun) hpre
    obtain ⟨Γ1, t1, o, t2, t3⟩ := hb st b (by rw [hsp]; simp) z hz
    rw [hz]
    cases z with
    | nx a' =>
      cases o <;> first | exact ⟨Γ1, _, t1, t2, .inl ⟨_, rfl, t3⟩⟩ | exact (t3 : False).elim
    | cnt a' =>
      cases o with
      | nx Γ2 => exact (t3 : False).elim
      | _ =>
        obtain ⟨Γ2, e, h⟩ := (t3 : ∃ Γ2, _ = _ ∧ _)
        rw [e] at t2
        exact ⟨Γ1, _, t1, t2, .inr ⟨_, rfl, h⟩⟩
    | brk a' =>
      cases o with
      | nx Γ2 => exact (t3 : False).elim
      | _ =>
        obtain ⟨Γ2, e, h⟩ := (t3 : ∃ Γ2, _ = _ ∧ _)
        rw [e] at t2
        exact ⟨Γ1, _, t1, sds_brkS t2 h, rfl, .inr (.inr ⟨_, rfl⟩)⟩
    | ret v =>
      cases o with
      | nx Γ2 => exact (t3 : False).elim
      | _ =>
        have e := (t3 : _ = _)
        rw [e] at t2
        exact ⟨Γ1, _, t1, t2, rfl, .inl ⟨_, rfl⟩⟩
    | exc x =>
      cases o with
      | nx Γ2 => exact (t3 : False).elim
      | _ =>
        obtain ⟨Γe, e⟩ := (t3 : ∃ Γe, _ = _)
        rw [e] at t2
        exact ⟨Γ1, _, t1, t2.low, rfl, .inr (.inl ⟨_, _, _, _, rfl⟩)⟩
  rcases runE_of (GG := GG) (kr := kr) (e := er) (xO := xO) hrun with ⟨a2, e, h | h⟩ | ⟨v, e, h⟩ | ⟨x, e, h⟩
  · obtain ⟨o, h1, h2⟩ := hn a2 e
    exact ⟨o, key o (by rw [h]; exact h1), h2⟩
  · obtain ⟨o, h1, h2⟩ := hn a2 e
    exact ⟨o, key o (by rw [h]; exact h1), h2⟩
  · exact ⟨.ret (kr (er v)), key _ (by rw [h]; rfl), hv v e⟩
  · exact ⟨.exc (xO x).1 (xO x).2.1 (xO x).2.2 none, key _ (by rw [h]; rfl), hx x e⟩
theorem runF_foldO {step : α → β → Option α} : ∀ {xs : List β} {a a2 : α}, foldO step a xs = some a2 → runF (ε := Unit) (ρ := Unit) (fun a b => (step a b).bind fun a' => some (.nx a')) a xs = some (.nx a2)
  | [], _, _, h => by cases h; rfl
  | b :: bs, a, a2, h => by
    obtain ⟨z, h1, h⟩ := bindE h
    unfold runF
    rw [h1]
    exact runF_foldO h
theorem k_forO (xs : List β) (enc : β → D) (step : α → β → Option α) (a0 : α) (GG : α → List Sl) {st' : α} (hrun : foldO step a0 xs = some st') (hp : PassesOwn (model X.prog X.w) X.A X.env X.xe) (hc : X.calm = true) (hi : Ei X H0 Oc Γ tg iter (xs.map enc)) (h0 : Sub Γ (GG a0))
    (hb : ∀ st b, b ∈ xs → ∀ st2, step st b = some st2 → ∃ Γ1, Tg X H0 Oc tg (GG st) (.va (enc b)) Γ1 ∧ SdK X W H0 Oc Γ1 body (fun Γ2 => Sub Γ2 (GG st2)) fun _ => False)
    (hn : SdK X W H0 Oc (GG st') rest N P)
    (hs : ∀ x, foldedSetIterable iter X.env x = pure x := by intro _; rfl) : SdK X W H0 Oc Γ (.For tg iter body [] pos :: rest) N P := by
  refine k_for xs enc _ a0 GG (fun _ => .no) (fun _ : Unit => .non) (fun _ : Unit => (default, [], [])) (runF_foldO hrun) hp hc hi h0 (fun st b hm r' hr' => ?_) (fun st e => by cases e; exact hn) (fun v e => nomatch e) (fun x e => nomatch e) hs
  obtain ⟨st2, h1, h2⟩ := bindE hr'
  cases h2
  obtain ⟨Γ1, t1, o, t2, t3⟩ := hb st b hm st2 h1
  cases o with
  | nx Γ2 => exact ⟨Γ1, t1, _, t2, t3⟩
  | _ => exact (t3 : False).elim
theorem k_while (c' : α → Option Bool) (step : α → Option (Lp ε α ρ)) (n : Nat) (a0 : α) (GG : α → List Sl) (kr : D → Sl) (er : ρ → D) (xO : ε → Addr × List Str × List D) {r : Lp ε α ρ} (hrun : whileF c' step n a0 = some r) (hp : PassesOwn (model X.prog X.w) X.A X.env X.xe) (h0 : Sub Γ (GG a0))
    (hc : ∀ st q, c' st = some q → Et X H0 Oc (GG st) c q)
    (hb : ∀ st r', step st = some r' → SdK X W H0 Oc (GG st) body (LpN GG r') (fun o => match r' with | .ret v => o = .ret (kr (er v)) | .exc x => ∃ Γe, o = .exc (xO x).1 (xO x).2.1 (xO x).2.2 Γe | _ => False))
    (hn : ∀ st, r = .nx st → SdK X W H0 Oc (GG st) rest N P) (hv : ∀ v, r = .ret v → P (.ret (kr (er v)))) (hx : ∀ x, r = .exc x → P (.exc (xO x).1 (xO x).2.1 (xO x).2.2 none)) : SdK X W H0 Oc Γ (.While c body [] pos :: rest) N P := by
  have key : ∀ out, (∀ st, r = .nx st → Sds X W H0 Oc (GG st) rest out) → (∀ v, r = .ret v → out = .ret (kr (er v))) → (∀ x, r = .exc x → out = .exc (xO x).1 (xO x).2.1 (xO x).2.2 none) → Sds X W H0 Oc Γ (.While c body [] pos :: rest) out := fun out o1 o2 o3 => by
    refine d_while (α := Nat × α) (fun p => whileF c' step p.1 p.2 = some r) (fun p => p.1) (fun p => GG p.2) (n, a0) hp h0 hrun fun ⟨m, st⟩ hI => ?_
    have hI : whileF c' step m st = some r := hI
    cases m with
    | zero => cases hI
    | succ m =>
      obtain ⟨q, h1, h2⟩ := bindE hI
      refine ⟨q, hc st q h1, fun hq => ?_, fun hq => ?_⟩
      · subst hq
        rw [if_pos rfl] at h2
        obtain ⟨z, h3, h4⟩ := bindE h2
        obtain ⟨o, t2, t3⟩ := hb st z h3
        cases z with
        | nx a' => cases o <;> first | exact .inl ⟨_, (m, a'), t2, t3, h4, Nat.lt_succ_self m⟩ | exact (t3 : False).elim
        | cnt a' => cases o <;> exact (t3 : False).elim
        | brk a' => cases o <;> exact (t3 : False).elim
        | ret v =>
          cases h4
          cases o with
          | nx _ => exact (t3 : False).elim
          | _ =>
            rw [(t3 : _ = _)] at t2
            rw [o2 v rfl]
            exact .inr ⟨rfl, (fun _ z => nomatch z), (fun _ z => nomatch z), t2⟩
        | exc x =>
          cases h4
          cases o with
          | nx _ => exact (t3 : False).elim
          | _ =>
            obtain ⟨Γe, e⟩ := (t3 : ∃ Γe, _ = _)
            rw [e] at t2
            rw [o3 x rfl]
            exact .inr ⟨rfl, (fun _ z => nomatch z), (fun _ z => nomatch z), t2.low⟩
      · subst hq
        cases h2
        exact o1 st rfl
  cases r with
  | nx st =>
    obtain ⟨o, h1, h2⟩ := hn st rfl
    exact ⟨o, key o (fun st' e => by cases e; exact h1) (fun _ e => nomatch e) (fun _ e => nomatch e), h2⟩
  | ret v => exact ⟨.ret (kr (er v)), key _ (fun _ e => nomatch e) (fun v' e => by cases e; rfl) (fun _ e => nomatch e), hv v rfl⟩
  | exc x => exact ⟨.exc (xO x).1 (xO x).2.1 (xO x).2.2 none, key _ (fun _ e => nomatch e) (fun _ e => nomatch e) (fun x' e => by cases e; rfl), hx x rfl⟩
  | brk st =>
    exfalso
    have : ∀ n a, whileF c' step n a ≠ some (.brk st) := fun n => by
      induction n with
      | zero => intro a e; cases e
      | succ n ih =>
        intro a e
        obtain ⟨q, h1, h2⟩ := bindE e
        cases q with
        | false => cases h2
        | true =>
          rw [if_pos rfl] at h2
          obtain ⟨z, h3, h4⟩ := bindE h2
          cases z <;> first | exact ih _ h4 | cases h4
    exact this _ _ hrun
  | cnt st =>
    exfalso
    have : ∀ n a, whileF c' step n a ≠ some (.cnt st) := fun n => by
      induction n with
      | zero => intro a e; cases e
      | succ n ih =>
        intro a e
        obtain ⟨q, h1, h2⟩ := bindE e
        cases q with
        | false => cases h2
        | true =>
          rw [if_pos rfl] at h2
          obtain ⟨z, h3, h4⟩ := bindE h2
          cases z <;> first | exact ih _ h4 | cases h4
    exact this _ _ hrun
theorem whileF_O {c' : α → Option Bool} {step : α → Option α} : ∀ {n : Nat} {a a2 : α}, whileO c' step n a = some a2 → whileF (ε := Unit) (ρ := Unit) c' (fun a => (step a).bind fun a' => some (.nx a')) n a = some (.nx a2)
  | 0, _, _, h => by cases h
  | n + 1, a, a2, h => by
    obtain ⟨q, h1, h2⟩ := bindE h
    unfold whileF
    rw [h1]
    cases q with
    | false => cases h2; rfl
    | true =>
      rw [if_pos rfl] at h2
      obtain ⟨z, h3, h4⟩ := bindE h2
      show Option.bind ((step a).bind fun a' => some (Lp.nx a')) _ = _
      rw [h3]
      exact whileF_O h4
theorem k_whileO (c' : α → Option Bool) (step : α → Option α) (n : Nat) (a0 : α) (GG : α → List Sl) {st' : α} (hrun : whileO c' step n a0 = some st') (hp : PassesOwn (model X.prog X.w) X.A X.env X.xe) (h0 : Sub Γ (GG a0))
    (hc : ∀ st q, c' st = some q → Et X H0 Oc (GG st) c q)
    (hb : ∀ st st2, step st = some st2 → SdK X W H0 Oc (GG st) body (fun Γ2 => Sub Γ2 (GG st2)) (fun _ => False))
    (hn : SdK X W H0 Oc (GG st') rest N P) : SdK X W H0 Oc Γ (.While c body [] pos :: rest) N P := by
  refine k_while c' _ n a0 GG (fun _ => .no) (fun _ : Unit => .non) (fun _ : Unit => (default, [], [])) (whileF_O hrun) hp h0 hc (fun st r' hr' => ?_) (fun st e => by cases e; exact hn) (fun v e => nomatch e) (fun x e => nomatch e)
  obtain ⟨st2, h1, h2⟩ := bindE hr'
  cases h2
  obtain ⟨o, t2, t3⟩ := hb st st2 h1
  cases o with
  | nx Γ2 => exact ⟨_, t2, t3⟩
  | _ => exact (t3 : False).elim
end
/-! the ends of a def -/
def outR {ε ρ : Type} (kr : D → Sl) (er : ρ → D) (xO : ε → Addr × List Str × List D) : Rs ε ρ → Out
  | .ret r => .ret (kr (er r))
  | .exc x => .exc (xO x).1 (xO x).2.1 (xO x).2.2 none
theorem k_top {o : Out} (h : SdK X W H0 Oc Γ body (fun _ => o = .ret (.va .non)) (fun o' => Fin o' o)) : ∃ o', Sds X W H0 Oc Γ body o' ∧ Fin o' o := by
  obtain ⟨o', h1, h2⟩ := h
  cases o' with
  | nx Γ' => exact ⟨_, h1, (h2 : _ = _)⟩
  | _ => exact ⟨_, h1, h2⟩
theorem k_topI {o : Out} {aa : Addr} (h : SdK X W H0 Oc Γ body (fun Γ' => FinI aa C (.nx Γ') o) (fun o' => FinI aa C o' o)) : ∃ o', Sds X W H0 Oc Γ body o' ∧ FinI aa C o' o := by
  obtain ⟨o', h1, h2⟩ := h
  cases o' with
  | nx Γ' => exact ⟨_, h1, h2⟩
  | _ => exact ⟨_, h1, h2⟩
end
end Y

namespace Y
open PySem PySem.Spec PyProof.Rows L2
section
variable {X : Cx} {W : WX} {H0 : Hp} {Oc : List Addr} {Γ Γ1 Γ2 Γ' : List Sl} {e a b c o tg iter elt ie t1 e1 e2 tg1 iter1 : Expr} {es ifs : List Expr} {rest body els sts : List Stmt} {s s0 s1 s2 : Sl} {ss : List Sl} {d d1 d2 : D} {ds ds1 ds2 : List D} {i j : Int} {pos pos' p p2 apos cpos epos tp : Pos} {x y m : Str} {out o1 : Out} {q : Bool} {k : Nat} {ps : List Str} {C C1 : Addr} {ns ns1 : List Str} {scope : Scope} {own : List (Str × Nat)}
variable {N : List Sl → Prop} {P : Out → Prop} {α β γ : Type} {f : α → D} {xs ys zs : List α}
theorem k_app (n : Nat) {v : α} (he : Ev X H0 Oc Γ e (.va (f v))) (ha : appO xs v = some ys) (hr : SdK X W H0 Oc (Γ.set n (.ow (.lst (ys.map f)))) rest N P) (h : Γ[n]? = some (.ow (.lst (xs.map f))) := by rfl) (hst : stab Γ = true := by rfl)
    (hN : X.N[n]? = some x := by rfl) (hv : Vis X.env.scope x := by first | exact .inl rfl | exact .inr (.inl rfl) | exact .inr (.inr rfl)) (hd : (x == ("__debug__" : Str)) = false := by rfl) (hcd : (x == ("__classdict__" : Str)) = false := by rfl)
    (hbase : attributeBase (.Name x p) "append" X.env (eval (.Name x p) X.env) = eval (.Name x p) X.env := by rfl)
    (hfew : ((backTo cpos (starEach [e] X.env)).all (fun x => !x.1) && (backToKw cpos (keywordEach [] X.env)).all (fun x => x.1.isSome)
      && decide (([e] : List Expr).length + ([] : List Keyword).length + (if ([] : List Keyword).isEmpty then 0 else 1) < 30)) = true := by rfl)
    (hline : (apos.endLine == cpos.line) = true := by rfl) (hs : starEach [e] X.env = (false, eval e X.env) :: starEach [] X.env := by rfl) (hplain : (backTo cpos (starEach [] X.env)).any (·.1) = false := by rfl)
    (hsw : swapsWith (.Call (.Attribute (.Name x p) "append" apos) [e] [] cpos) none epos.line X.env = pure false := by rfl) :
    SdK X W H0 Oc Γ (.Expr (.Call (.Attribute (.Name x p) "append" apos) [e] [] cpos) epos :: rest) N P := by
  obtain ⟨hl, rfl⟩ := appOE ha
  refine hr.map fun _ z => d_app n he (by rw [List.length_map]; exact hl) ?_ h hst hN hv hd hcd hbase hfew hline hs hplain hsw
  rw [List.map_append] at z
  exact z
theorem k_ix (n : Nat) {v : α} {ii : Int} (he : Ev X H0 Oc Γ e (.va (f v))) (hi : Ev X H0 Oc Γ ie (.va (.int ii))) (ha : setO xs ii v = some ys) (hr : SdK X W H0 Oc (Γ.set n (.ow (.lst (ys.map f)))) rest N P) (h : Γ[n]? = some (.ow (.lst (xs.map f))) := by rfl) (hst : stab Γ = true := by rfl)
    (hN : X.N[n]? = some x := by rfl) (hv : Vis X.env.scope x := by first | exact .inl rfl | exact .inr (.inl rfl) | exact .inr (.inr rfl)) (hd : (x == ("__debug__" : Str)) = false := by rfl) (hcd : (x == ("__classdict__" : Str)) = false := by rfl)
    (hss : swapsWithSole [.Subscript (.Name x p) ie tp] e pos.line X.env = pure false := by rfl) (hw : swappedStores [.Subscript (.Name x p) ie tp] e X.env = pure none := by rfl)
    (h1 : (assignEach [.Subscript (.Name x p) ie tp] X.env).map (·.2) = [assign (.Subscript (.Name x p) ie tp) X.env] := by rfl)
    (has : ∀ v, assign (.Subscript (.Name x p) ie tp) X.env v = (do
      let ov ← holding [v] (eval (.Name x p) X.env)
      let iv ← holding [v, ov] (eval ie X.env)
      standAt tp
      holding [v, ov, iv] (setItem ov iv v)
      release [v, ov, iv] []) := by intro _; rfl) :
    SdK X W H0 Oc Γ (.Assign [.Subscript (.Name x p) ie tp] e pos :: rest) N P := by
  obtain ⟨jj, hj, rfl⟩ := setOE ha
  refine hr.map fun _ z => sds_ix n h hst he hi (by rw [List.length_map]; exact hj) ?_ hN hv hd hcd hss hw h1 has
  rw [List.map_set] at z
  exact z
theorem k_aug (n : Nat) (hN : X.N.Nodup) (he : Ev X H0 Oc Γ e (.va (.int j))) (hr : SdK X W H0 Oc (Γ.set n (.va (.int (i + j)))) rest N P) (h : Γ[n]? = some (.va (.int i)) := by rfl) (hi : X.N[n]? = some x := by rfl) (hx : Loc X.env.scope x := by first | exact .inl rfl | exact .inr rfl) (hf : X.fn x = true ∨ X.env.scope.names.lookup x = some .local := by first | exact .inr rfl | exact .inl rfl) :
    SdK X W H0 Oc Γ (.AugAssign (.Name x pos') .Add e pos :: rest) N P := hr.map fun _ z => d_aug n hN he z h hi hx hf
theorem k_fld {g : Str} (n : Nat) (cl : Cls X.K C) (na : NoAttr X.K C g) (he : Ev X H0 Oc Γ e (.va d1)) (hr : SdK X W H0 Oc (Γ.set n (.ow (d.put (ns ++ [g]) (ds ++ [d1])))) rest N P)
    (h : Γ[n]? = some (.ow d) := by rfl) (ho : d.own = some (C, ns, ds) := by rfl) (hst : stab Γ = true := by rfl) (hf : g ∉ ns := by decide) (hlen : ns.length < 1000 := by decide)
    (hN : X.N[n]? = some x := by rfl) (hv : Vis X.env.scope x := by first | exact .inl rfl | exact .inr (.inl rfl) | exact .inr (.inr rfl)) (hd : (x == ("__debug__" : Str)) = false := by rfl) (hcd : (x == ("__classdict__" : Str)) = false := by rfl)
    (hs : swapsWith e (some (.Attribute (.Name x p) g tp)) pos.line X.env = pure false := by rfl) : SdK X W H0 Oc Γ (.Assign [.Attribute (.Name x p) g tp] e pos :: rest) N P := hr.map fun _ z => d_fld n cl na he z h ho hst hf hlen hN hv hd hcd hs
/-! y = [.. for ..] -/
theorem k_setLc (n : Nat) (own : List (Str × Nat)) (xs : List α) (enc : α → D) (h : α → Option β) (e : β → D) (Γe : α → List Sl) {ys : List β} (hy : mapO h xs = some ys) (hc : X.calm = true) (hN : X.N.Nodup) (ok : BlkOk X.N X.env.scope scope own) (hi : Ei X H0 Oc Γ tg iter (xs.map enc))
    (ht : ∀ x ∈ xs, ∀ H0' Oc' s0 H00 C cl fp, Tgw (blkX X scope s0 H00 C cl fp) H0' Oc' (own.map (·.2)) tg (wipeG (Γ.map Sl.arg) (own.map (·.2))) (.va (enc x)) (Γe x))
    (hst : ∀ x ∈ xs, stab (Γe x) = true ∧ Sub (wipeG (Γe x) (own.map (·.2))) (wipeG (Γ.map Sl.arg) (own.map (·.2))))
    (he : ∀ x ∈ xs, ∀ y, h x = some y → ∀ H0' Oc' s0 H00 C cl fp, Ev (blkX X scope s0 H00 C cl fp) H0' Oc' (Γe x) elt (.va (e y)))
    (hr : SdK X W H0 Oc (Γ.set n (.ow (.lst (ys.map e)))) rest N P)
    (hz : X.N[n]? = some y := by rfl) (hyl : X.env.scope.names.lookup y = some .local := by rfl) (hk : X.env.scope.kind = .function := by rfl) (hln : (p.line == pos.line) = true := by rfl)
    (han : (scope.names.any fun (m, k) => m == y && (k == .local || k == .cell)) = false := by rfl)
    (hs : ∀ x, foldedSetIterable iter X.env x = pure x := by intro _; rfl) : SdK X W H0 Oc Γ (.Assign [.Name y p] (.ListComp elt [⟨tg, iter, [], 0⟩] scope pos) pos' :: rest) N P := by
  obtain ⟨hn, hy⟩ := mapOE hy
  rw [← mapA_opD (e := e) hy] at hr
  refine hr.map fun _ z => d_setLc n xs enc _ Γe hc hN ok hi hn ht hst (fun x hx => ?_) z hz hyl hk hln han hs
  obtain ⟨y, q⟩ := mapA_mem hy x hx
  rw [q]
  exact he x hx y q
theorem k_setLcf (n : Nat) (own : List (Str × Nat)) (xs : List α) (enc : α → D) (h : α → Option (Option β)) (e : β → D) (Γe : α → List Sl) {ys : List β} (hy : fmapO h xs = some ys) (hc : X.calm = true) (hN : X.N.Nodup) (ok : BlkOk X.N X.env.scope scope own) (hi : Ei X H0 Oc Γ tg iter (xs.map enc))
    (ht : ∀ x ∈ xs, ∀ H0' Oc' s0 H00 C cl fp, Tgw (blkX X scope s0 H00 C cl fp) H0' Oc' (own.map (·.2)) tg (wipeG (Γ.map Sl.arg) (own.map (·.2))) (.va (enc x)) (Γe x))
    (hst : ∀ x ∈ xs, stab (Γe x) = true ∧ Sub (wipeG (Γe x) (own.map (·.2))) (wipeG (Γ.map Sl.arg) (own.map (·.2))))
    (hp : ∀ x ∈ xs, ∀ y, h x = some y → ∀ H0' Oc' s0 H00 C cl fp, Et (blkX X scope s0 H00 C cl fp) H0' Oc' (Γe x) t1 y.isSome)
    (he : ∀ x ∈ xs, ∀ y, h x = some (some y) → ∀ H0' Oc' s0 H00 C cl fp, Ev (blkX X scope s0 H00 C cl fp) H0' Oc' (Γe x) elt (.va (e y)))
    (hr : SdK X W H0 Oc (Γ.set n (.ow (.lst (ys.map e)))) rest N P)
    (hz : X.N[n]? = some y := by rfl) (hyl : X.env.scope.names.lookup y = some .local := by rfl) (hk : X.env.scope.kind = .function := by rfl) (hln : (p.line == pos.line) = true := by rfl)
    (han : (scope.names.any fun (m, k) => m == y && (k == .local || k == .cell)) = false := by rfl)
    (hs : ∀ x, foldedSetIterable iter X.env x = pure x := by intro _; rfl) : SdK X W H0 Oc Γ (.Assign [.Name y p] (.ListComp elt [⟨tg, iter, [t1], 0⟩] scope pos) pos' :: rest) N P := by
  obtain ⟨hn, hy⟩ := fmapOE hy
  rw [← fmapA_opD (e := e) hy] at hr
  refine hr.map fun _ z => d_setLcf n xs enc _ _ Γe hc hN ok hi hn ht hst (fun x hx => ?_) (fun x hx ho => ?_) z hz hyl hk hln han hs
  · obtain ⟨y, q⟩ := fmapA_mem hy x hx
    have := hp x hx y q
    rw [q]
    cases y <;> exact this
  · obtain ⟨y, q⟩ := fmapA_mem hy x hx
    rw [q] at ho ⊢
    cases y with
    | none => cases ho
    | some y => exact he x hx y q
theorem k_setLc3 (n : Nat) (own : List (Str × Nat)) (vs1 : List Nat) (xs : List α) (enc : α → D) (iy : α → Option (List γ)) (enc1 : γ → D) (pe : α → γ → Option (Option β)) (e : β → D) (Γe : α → List Sl) (Γf : α → γ → List Sl) {zs : List β} (hy : flat2 iy pe xs = some zs) (hc : X.calm = true) (hN : X.N.Nodup) (ok : BlkOk X.N X.env.scope scope own) (hi : Ei X H0 Oc Γ tg iter (xs.map enc))
    (hv : ∀ i ∈ vs1, i ∈ own.map (·.2))
    (ht : ∀ x ∈ xs, ∀ H0' Oc' s0 H00 C cl fp, Tgw (blkX X scope s0 H00 C cl fp) H0' Oc' (own.map (·.2)) tg (wipeG (Γ.map Sl.arg) (own.map (·.2))) (.va (enc x)) (Γe x))
    (hst : ∀ x ∈ xs, stab (Γe x) = true ∧ Sub (wipeG (wipeG (Γe x) vs1) (own.map (·.2))) (wipeG (Γ.map Sl.arg) (own.map (·.2))))
    (hi1 : ∀ x ∈ xs, ∀ ys, iy x = some ys → ∀ H0' Oc' s0 H00 C cl fp, Ei (blkX X scope s0 H00 C cl fp) H0' Oc' (Γe x) tg1 iter1 (ys.map enc1))
    (ht1 : ∀ x ∈ xs, ∀ k : γ, ∀ H0' Oc' s0 H00 C cl fp, Tgw (blkX X scope s0 H00 C cl fp) H0' Oc' vs1 tg1 (wipeG (Γe x) vs1) (.va (enc1 k)) (Γf x k))
    (hst1 : ∀ x ∈ xs, ∀ k : γ, stab (Γf x k) = true ∧ Sub (wipeG (Γf x k) vs1) (wipeG (Γe x) vs1))
    (hp : ∀ x ∈ xs, ∀ (k : γ) y, pe x k = some y → ∀ H0' Oc' s0 H00 C cl fp, Ets (blkX X scope s0 H00 C cl fp) H0' Oc' (Γf x k) ifs y.isSome)
    (he : ∀ x ∈ xs, ∀ (k : γ) y, pe x k = some (some y) → ∀ H0' Oc' s0 H00 C cl fp, Ev (blkX X scope s0 H00 C cl fp) H0' Oc' (Γf x k) elt (.va (e y)))
    (hr : SdK X W H0 Oc (Γ.set n (.ow (.lst (zs.map e)))) rest N P)
    (hz : X.N[n]? = some y := by rfl) (hyl : X.env.scope.names.lookup y = some .local := by rfl)
    (hsw : swapsWith (.ListComp elt [⟨tg, iter, [], 0⟩, ⟨tg1, iter1, ifs, 0⟩] scope pos) (some (.Name y p)) pos'.line X.env = pure true := by rfl)
    (hs : ∀ x, foldedSetIterable iter X.env x = pure x := by intro _; rfl) (hf2 : ∀ env x, foldedSetIterable iter1 env x = pure x := by intro _ _; rfl) :
    SdK X W H0 Oc Γ (.Assign [.Name y p] (.ListComp elt [⟨tg, iter, [], 0⟩, ⟨tg1, iter1, ifs, 0⟩] scope pos) pos' :: rest) N P := by
  obtain ⟨eq, hl, hm⟩ := flat2E hy e
  rw [← eq] at hr
  refine hr.map fun _ z => d_setLc3 n xs enc _ enc1 _ _ Γe Γf hc hN ok hi (by rw [eq, List.length_map]; exact hl) hv ht hst (fun x hx => ?_) (fun x hx k _ => ht1 x hx k) (fun x hx k _ => hst1 x hx k) (fun x hx k hk => ?_) (fun x hx k hk ho => ?_) z hz hyl hsw hs hf2
  · obtain ⟨ys, q1, _⟩ := hm x hx
    rw [q1]
    exact hi1 x hx ys q1
  · obtain ⟨ys, q1, q2⟩ := hm x hx
    rw [q1] at hk
    obtain ⟨z, hz⟩ := q2 k hk
    have := hp x hx k z hz
    rw [hz]
    cases z <;> exact this
  · obtain ⟨ys, q1, q2⟩ := hm x hx
    rw [q1] at hk
    obtain ⟨z, hz⟩ := q2 k hk
    rw [hz] at ho ⊢
    cases z with
    | none => cases ho
    | some y => exact he x hx k y hz
/-! try: one clause; what the body does is said once for all contexts -/
theorem k_try {cv : Value} {b0 : Stmt} {suite : List Stmt} {np : Pos} (n : Nat) (ob : Out) (hs : X.stack = X.env :: X.outer) (hf : X.env.frame = some X.env.locals) (hN : X.N.Nodup) (hc : Names X x cv) (tk : L2N.Takes X W)
    (hb : ∀ (W' : WX) (pn : List (Addr × Obj)) (xe : Value → Shared → Prop), L2N.Takes (X.tr pn xe) W' → PassesOwn (model X.prog X.w) X.A X.env xe → Sds (X.tr pn xe) W' H0 Oc Γ body ob)
    (h : ∃ out, TryOk X W H0 Oc n cv (b0 :: suite) rest out ob ∧ endsK N P out) (hi : X.N[n]? = some y := by rfl) (hln : X.env.kindOf y = some .local := by rfl) :
    SdK X W H0 Oc Γ (.Try body [.ExceptHandler (some (.Name x np)) (some y) (b0 :: suite) pos'] [] [] pos :: rest) N P := by
  obtain ⟨out, h1, h2⟩ := h
  exact ⟨out, sds_try hs hf hN hi hln hc tk hb h1, h2⟩
theorem k_each {h0 : ExceptHandler} {hs : List ExceptHandler} {l : List (Value × List Stmt)} (n : Nat) (ob : Out) (stk : X.stack = X.env :: X.outer) (frm : X.env.frame = some X.env.locals) (nd : X.N.Nodup) (tk : L2N.Takes X W) (all : CD X y (h0 :: hs) l)
    (hb : ∀ (W' : WX) (pn : List (Addr × Obj)) (xe : Value → Shared → Prop), L2N.Takes (X.tr pn xe) W' → PassesOwn (model X.prog X.w) X.A X.env xe → Sds (X.tr pn xe) W' H0 Oc Γ body ob) (h : ∃ out, EachOk X W H0 Oc n l rest out ob ∧ endsK N P out) (ni : X.N[n]? = some y := by rfl) (nl : X.env.kindOf y = some .local := by rfl) :
    SdK X W H0 Oc Γ (.Try body (h0 :: hs) [] [] pos :: rest) N P := by
  obtain ⟨out, h1, h2⟩ := h
  exact ⟨out, sds_each stk frm nd ni nl tk all hb h1, h2⟩
end
end Y

namespace Y
open PySem PySem.Spec PyProof.Rows L2
section
variable {ε ρ κ : Type}
/-- a call that may raise, where it must not -/
def okO (x : Option (Rs ε ρ)) : Option ρ := x.bind fun | .ret v => some v | .exc _ => none
theorem okOE {x : Option (Rs ε ρ)} {v : ρ} (h : okO x = some v) : x = some (.ret v) := by
  obtain ⟨y, h1, h2⟩ := bindE h
  cases y with
  | ret w => cases h2; exact h1
  | exc _ => cases h2
/-- .. where it may -/
def tryR (x : Option (Rs ε ρ)) (k : ρ → Option κ) (ke : ε → Option κ) : Option κ := x.bind fun | .ret v => k v | .exc e => ke e
theorem tryRE {x : Option (Rs ε ρ)} {k : ρ → Option κ} {ke : ε → Option κ} {r : κ} (h : tryR x k ke = some r) : (∃ v, x = some (.ret v) ∧ k v = some r) ∨ ∃ e, x = some (.exc e) ∧ ke e = some r := by
  obtain ⟨y, h1, h2⟩ := bindE h
  cases y with
  | ret v => exact .inl ⟨v, h1, h2⟩
  | exc e => exact .inr ⟨e, h1, h2⟩
end
section
variable {X : Cx} {W : WX} {H0 : Hp} {Oc : List Addr} {Γ Γ1 Γ2 Γ' Γe : List Sl} {e a b c o tg iter elt ie t1 e1 e2 tg1 iter1 : Expr} {es ifs : List Expr} {rest body els sts : List Stmt} {s s0 s1 s2 : Sl} {ss : List Sl} {d d1 d2 : D} {ds ds1 ds2 : List D} {i j : Int} {pos pos' p p2 apos cpos epos tp : Pos} {x y m : Str} {out o1 : Out} {q : Bool} {k n : Nat} {ps : List Str} {C C1 : Addr} {ns ns1 : List Str} {scope : Scope} {own : List (Str × Nat)}
variable {N : List Sl → Prop} {P : Out → Prop} {α β γ : Type} {f : α → D} {xs ys zs : List α}
/-! try -/
theorem k_tryNx {h0 : ExceptHandler} {hs : List ExceptHandler} {l : List (Value × List Stmt)} (n : Nat) (stk : X.stack = X.env :: X.outer) (frm : X.env.frame = some X.env.locals) (nd : X.N.Nodup) (tk : L2N.Takes X W) (all : CD X y (h0 :: hs) l)
    (hb : ∀ (W' : WX) (pn : List (Addr × Obj)) (xe : Value → Shared → Prop), L2N.Takes (X.tr pn xe) W' → PassesOwn (model X.prog X.w) X.A X.env xe → Sds (X.tr pn xe) W' H0 Oc Γ body (.nx Γ1)) (hr : SdK X W H0 Oc Γ1 rest N P) (ni : X.N[n]? = some y := by rfl) (nl : X.env.kindOf y = some .local := by rfl) :
    SdK X W H0 Oc Γ (.Try body (h0 :: hs) [] [] pos :: rest) N P := hr.map fun _ h => sds_each stk frm nd ni nl tk all hb h
theorem k_tryRet {h0 : ExceptHandler} {hs : List ExceptHandler} {l : List (Value × List Stmt)} (n : Nat) (stk : X.stack = X.env :: X.outer) (frm : X.env.frame = some X.env.locals) (nd : X.N.Nodup) (tk : L2N.Takes X W) (all : CD X y (h0 :: hs) l)
    (hb : ∀ (W' : WX) (pn : List (Addr × Obj)) (xe : Value → Shared → Prop), L2N.Takes (X.tr pn xe) W' → PassesOwn (model X.prog X.w) X.A X.env xe → Sds (X.tr pn xe) W' H0 Oc Γ body (.ret s)) (hr : P (.ret s)) (ni : X.N[n]? = some y := by rfl) (nl : X.env.kindOf y = some .local := by rfl) :
    SdK X W H0 Oc Γ (.Try body (h0 :: hs) [] [] pos :: rest) N P := ⟨_, sds_each stk frm nd ni nl tk all hb rfl, hr⟩
/-- it raises, and a clause's suite hands back -/
theorem k_tryExR {h0 : ExceptHandler} {hs : List ExceptHandler} {l : List (Value × List Stmt)} (n : Nat) (stk : X.stack = X.env :: X.outer) (frm : X.env.frame = some X.env.locals) (nd : X.N.Nodup) (tk : L2N.Takes X W) (all : CD X y (h0 :: hs) l)
    (hb : ∀ (W' : WX) (pn : List (Addr × Obj)) (xe : Value → Shared → Prop), L2N.Takes (X.tr pn xe) W' → PassesOwn (model X.prog X.w) X.A X.env xe → Sds (X.tr pn xe) W' H0 Oc Γ body (.exc C ns ds (some Γe))) (ht : TakeOk X W H0 Oc n rest (.ret s) C ns ds Γe l) (hr : P (.ret s)) (ni : X.N[n]? = some y := by rfl) (nl : X.env.kindOf y = some .local := by rfl) :
    SdK X W H0 Oc Γ (.Try body (h0 :: hs) [] [] pos :: rest) N P := ⟨_, sds_each stk frm nd ni nl tk all hb ht, hr⟩
/-- .. or goes on -/
theorem k_tryExN {h0 : ExceptHandler} {hs : List ExceptHandler} {l : List (Value × List Stmt)} (n : Nat) (stk : X.stack = X.env :: X.outer) (frm : X.env.frame = some X.env.locals) (nd : X.N.Nodup) (tk : L2N.Takes X W) (all : CD X y (h0 :: hs) l)
    (hb : ∀ (W' : WX) (pn : List (Addr × Obj)) (xe : Value → Shared → Prop), L2N.Takes (X.tr pn xe) W' → PassesOwn (model X.prog X.w) X.A X.env xe → Sds (X.tr pn xe) W' H0 Oc Γ body (.exc C ns ds (some Γe))) (ht : ∀ out, Sds X W H0 Oc Γ2 rest out → TakeOk X W H0 Oc n rest out C ns ds Γe l) (hr : SdK X W H0 Oc Γ2 rest N P) (ni : X.N[n]? = some y := by rfl) (nl : X.env.kindOf y = some .local := by rfl) :
    SdK X W H0 Oc Γ (.Try body (h0 :: hs) [] [] pos :: rest) N P := hr.map fun out h => sds_each stk frm nd ni nl tk all hb (ht out h)
/-- no clause takes it -/
theorem k_tryExX {h0 : ExceptHandler} {hs : List ExceptHandler} {l : List (Value × List Stmt)} (n : Nat) (stk : X.stack = X.env :: X.outer) (frm : X.env.frame = some X.env.locals) (nd : X.N.Nodup) (tk : L2N.Takes X W) (all : CD X y (h0 :: hs) l)
    (hb : ∀ (W' : WX) (pn : List (Addr × Obj)) (xe : Value → Shared → Prop), L2N.Takes (X.tr pn xe) W' → PassesOwn (model X.prog X.w) X.A X.env xe → Sds (X.tr pn xe) W' H0 Oc Γ body (.exc C ns ds (some Γe))) (ht : TakeOk X W H0 Oc n rest (.exc C ns ds (some Γe)) C ns ds Γe l) (hr : P (.exc C ns ds (some Γe))) (ni : X.N[n]? = some y := by rfl) (nl : X.env.kindOf y = some .local := by rfl) :
    SdK X W H0 Oc Γ (.Try body (h0 :: hs) [] [] pos :: rest) N P := ⟨_, sds_each stk frm nd ni nl tk all hb ht, hr⟩
theorem su_ret {X' : Cx} (h : SdK X' wNo H0 Oc Γe sts (fun _ => False) (fun o => o = .ret s)) : ∃ os, Sds X' wNo H0 Oc Γe sts os ∧ SuiteOk X W H0 Oc n rest (.ret s) os := by
  obtain ⟨o, h1, h2⟩ := h
  cases o with
  | nx _ => exact (h2 : False).elim
  | _ => rw [(h2 : _ = _)] at h1; exact ⟨_, h1, rfl⟩
theorem su_nx {X' : Cx} (h : SdK X' wNo H0 Oc Γe sts (fun Γ' => Sub (Γ'.set n .no) Γ2) (fun _ => False)) (hr : Sds X W H0 Oc Γ2 rest out) : ∃ os, Sds X' wNo H0 Oc Γe sts os ∧ SuiteOk X W H0 Oc n rest out os := by
  obtain ⟨o, h1, h2⟩ := h
  cases o with
  | nx Γ' => exact ⟨_, h1, sds_in (h2 : Sub (Γ'.set n .no) Γ2) hr⟩
  | _ => exact (h2 : False).elim
/-! iteration -/
def enumI {α : Type} (xs : List α) : List (Int × α) := (enumF 0 xs).map fun p => ((p.1 : Int), p.2)
theorem enumI_enc (xs : List α) : ((enumF 0 xs).map fun p => D.tup [.int (p.1 : Int), f p.2]) = (enumI xs).map (eP2 D.int f) := by
  unfold enumI
  rw [List.map_map]
  exact List.map_congr_left fun p _ => rfl
theorem g_enumL {elts : List Expr} {kk : Nat} {tpos : Pos} (hm : X.mg "enumerate" = none) (ha : Ev X H0 Oc Γ a s) (hs : s.held = some (.lst (xs.map f)) := by rfl) (hg : Gl X "enumerate" := by rfl) (hst : starEach [a] X.env = [(false, eval a X.env)] := by rfl) (hst' : starEach [a] X.env = (false, eval a X.env) :: starEach [] X.env := by rfl) :
    Ei X H0 Oc Γ (.Tuple elts kk tpos) (.Call (.Name "enumerate" p) [a] [] pos) ((enumI xs).map (eP2 D.int f)) := (i_enum f xs hm ha hs hg hst hst').as (enumI_enc xs)
theorem g_enumT {elts : List Expr} {kk : Nat} {tpos : Pos} (hm : X.mg "enumerate" = none) (ha : Ev X H0 Oc Γ a s) (hs : s.held = some (.tup (xs.map f)) := by rfl) (hg : Gl X "enumerate" := by rfl) (hst : starEach [a] X.env = [(false, eval a X.env)] := by rfl) (hst' : starEach [a] X.env = (false, eval a X.env) :: starEach [] X.env := by rfl) :
    Ei X H0 Oc Γ (.Tuple elts kk tpos) (.Call (.Name "enumerate" p) [a] [] pos) ((enumI xs).map (eP2 D.int f)) := (i_enT f xs hm ha hs hg hst hst').as (enumI_enc xs)
/-- equal data of any kind -/
theorem eqC_bl : EqC (D.bl) := fun x y => by
  show PyData.eqv (py (.bl x)) (py (.bl y)) = decide (x = y)
  unfold py
  rw [PyData.eqv]
  cases x <;> cases y <;> rfl
theorem eqC_str : EqC (D.str) := fun x y => by
  show PyData.eqv (py (.str x)) (py (.str y)) = decide (x = y)
  unfold py
  rw [PyData.eqv]
  by_cases h : x = y
  · subst h; simp
  · simp [h]
theorem eqC_p2 {α β : Type} [DecidableEq α] [DecidableEq β] {f : α → D} {g : β → D} (hf : EqC f) (hg : EqC g) : EqC (eP2 f g) := fun x y => by
  have h1 := hf x.1 y.1
  have h2 := hg x.2 y.2
  unfold eqD at h1 h2
  show PyData.eqv (.tuple [py (f x.1), py (g x.2)]) (.tuple [py (f y.1), py (g y.2)]) = _
  rw [PyData.eqv]
  show (PyData.eqv (py (f x.1)) (py (f y.1)) && (PyData.eqv (py (g x.2)) (py (g y.2)) && true)) = _
  rw [h1, h2]
  obtain ⟨a, b⟩ := x
  obtain ⟨c, d⟩ := y
  by_cases p : a = c <;> by_cases q : b = d <;> simp [p, q]
theorem okN_p2 {α β : Type} {n : Nat} {f : α → D} {g : β → D} (hf : ∀ x, okN n (f x)) (hg : ∀ x, okN n (g x)) (p : α × β) : okN (n + 1) (eP2 f g p) := okN_tup (okNs_cons (hf _) (okNs_cons (hg _) okNs_nil))
theorem okN_T {α : Type} {n : Nat} {f : α → D} (hf : ∀ x, okN n (f x)) (xs : List α) : okN (n + 1) (eT f xs) := okN_tup (okN_map hf)
theorem okN_L {α : Type} {n : Nat} {f : α → D} (hf : ∀ x, okN n (f x)) (xs : List α) : okN (n + 1) (eL f xs) := okN_lst (okN_map hf)
theorem okN_le {n m : Nat} {d : D} (h : okN n d) (hm : n ≤ m) : okN m d := ⟨h.1, h.2.1, Nat.le_trans h.2.2 hm⟩
/-! ### sorted, of tuples of whole numbers -/
/-- tuples of one length, nowhere below 0 -/
def sortG (toI : α → List Int) : List α → Bool
  | [] => true
  | x :: xs => decide (1 ≤ (toI x).length) && (x :: xs).all fun y => decide ((toI y).length = (toI x).length) && (toI y).all fun n => decide (0 ≤ n)
def sortBy (toI : α → List Int) (xs : List α) : List α := xs.mergeSort fun a b => lexLe (toI a) (toI b)
def sortO (toI : α → List Int) (xs : List α) : Option (List α) := if sortG toI xs = true then some (sortBy toI xs) else none
theorem sortBy_map (toI : α → List Int) (xs : List α) : (sortBy toI xs).map toI = sortL (xs.map toI) := List.map_mergeSort fun _ _ _ _ => rfl
theorem bd_all : ∀ L : List (List Int), (∀ x ∈ L, ∀ n ∈ x, 0 ≤ n) → ∃ B : Int, ∀ x ∈ L, TS.Bd B x
  | [], _ => ⟨0, fun _ h => nomatch h⟩
  | x :: L, h => by
    obtain ⟨B, hB⟩ := bd_all L fun y hy => h y (List.mem_cons_of_mem _ hy)
    have one : ∀ y : List Int, (∀ n ∈ y, 0 ≤ n) → ∃ B : Int, TS.Bd B y := fun y => by
      induction y with
      | nil => exact fun _ => ⟨0, fun _ h => nomatch h⟩
      | cons n y ih =>
        intro hy
        obtain ⟨B, hB⟩ := ih fun m hm => hy m (List.mem_cons_of_mem _ hm)
        refine ⟨max B (n + 1), fun m hm => ?_⟩
        rcases List.mem_cons.mp hm with rfl | hm
        · exact ⟨hy m List.mem_cons_self, by omega⟩
        · have := hB m hm
          exact ⟨this.1, by have := this.2; omega⟩
    obtain ⟨B2, hB2⟩ := one x (h x List.mem_cons_self)
    refine ⟨max B B2, fun y hy m hm => ?_⟩
    rcases List.mem_cons.mp hy with rfl | hy
    · have := hB2 m hm
      exact ⟨this.1, by have := this.2; omega⟩
    · have := hB y hy m hm
      exact ⟨this.1, by have := this.2; omega⟩
theorem sortOE {toI : α → List Int} {xs ys : List α} (h : sortO toI xs = some ys) : ys = sortBy toI xs ∧ ∃ (d : Nat) (B : Int), 1 ≤ d ∧ ∀ x ∈ xs.map toI, x.length = d ∧ TS.Bd B x := by
  unfold sortO at h
  split at h
  · rename_i g
    cases h
    refine ⟨rfl, ?_⟩
    cases xs with
    | nil => exact ⟨1, 0, Nat.le_refl _, fun _ h => nomatch h⟩
    | cons x xs =>
      unfold sortG at g
      rw [Bool.and_eq_true, decide_eq_true_eq, List.all_eq_true] at g
      obtain ⟨g1, g2⟩ := g
      obtain ⟨B, hB⟩ := bd_all ((x :: xs).map toI) fun y hy n hn => by
        obtain ⟨z, hz, rfl⟩ := List.mem_map.mp hy
        have := g2 z hz
        rw [Bool.and_eq_true, List.all_eq_true] at this
        exact of_decide_eq_true (this.2 n hn)
      refine ⟨(toI x).length, B, g1, fun y hy => ⟨?_, hB y hy⟩⟩
      obtain ⟨z, hz, rfl⟩ := List.mem_map.mp hy
      have := g2 z hz
      rw [Bool.and_eq_true] at this
      exact of_decide_eq_true this.1
  · cases h
theorem e_sortN {L : List (List Int)} (d : Nat) (B : Int) (hd : 1 ≤ d) (hm : X.mg "sorted" = none) (ha : Ev X H0 Oc Γ a (.bw (.lst (L.map encT)))) (hL : ∀ x ∈ L, x.length = d ∧ TS.Bd B x) (hg : Gl X "sorted" := by rfl) (he : starEach [a] X.env = (false, eval a X.env) :: starEach [] X.env := by rfl) (hpl : (backTo pos (starEach [] X.env)).any (·.1) = false := by rfl) :
    Ev X H0 Oc Γ (.Call (.Name "sorted" p) [a] [] pos) (.ow (.lst ((sortL L).map encT))) := ev_b1 (Srt3.cr_sortB (d := d) (B := B) hd) ha hm (by decide +kernel) hg (fun G S H v Q ⟨O, W⟩ q => by
      obtain ⟨u, g1, t, vs, rfl, h1, h2⟩ := W.head
      cases g1
      refine ⟨t, vs, rfl, .of h1, fun x hx => ?_, fun ys pp m1 m2 hp => q _ _ ⟨_, W.pop.newLst hp (ds := (sortL L).map encT) ?_⟩⟩
      · obtain ⟨ns, hns, r⟩ := h2.mem hx
        exact ⟨ns, tupI_of r, hL ns hns⟩
      · obtain ⟨M, n1, n2⟩ := h2.perm m1
        have e : M = sortL L := sortL_uniq n1 (n2.pair m2 fun a ha b hb x y rx ry hR => by
          obtain ⟨l1, b1⟩ := hL a (n1.mem_iff.mp ha)
          obtain ⟨l2, b2⟩ := hL b (n1.mem_iff.mp hb)
          exact lex_code (l1.trans l2.symm) b1 b2 (hR a b (tupI_of rx) (tupI_of ry)))
        rw [← e]
        exact n2) (by decide) (by decide) he hpl
theorem g_sort (toI : α → List Int) (hf : ∀ v, f v = encT (toI v)) (hm : X.mg "sorted" = none) (ha : Ev X H0 Oc Γ a (.bw (.lst (xs.map f)))) (h : sortO toI xs = some ys) (hg : Gl X "sorted" := by rfl) (he : starEach [a] X.env = (false, eval a X.env) :: starEach [] X.env := by rfl) (hpl : (backTo pos (starEach [] X.env)).any (·.1) = false := by rfl) :
    Ev X H0 Oc Γ (.Call (.Name "sorted" p) [a] [] pos) (.ow (.lst (ys.map f))) := by
  obtain ⟨rfl, d, B, hd, hL⟩ := sortOE h
  have e : ∀ zs : List α, zs.map f = (zs.map toI).map encT := fun zs => by
    rw [List.map_map]
    exact List.map_congr_left fun z _ => hf z
  rw [e, sortBy_map]
  rw [e] at ha
  exact e_sortN d B hd hm ha hL hg he hpl
theorem hu1 {A : Around} {k : Nat} (hr : Room k A) : A.units + 1 < cLine := by
  have := hu64 hr
  omega
end
end Y

namespace Y
open PySem PySem.Spec PyProof.Rows L2
section
variable {X : Cx} {W : WX} {H0 : Hp} {Oc : List Addr} {Γ Γ1 Γ2 Γ' Γe : List Sl} {e a b c o : Expr} {es : List Expr} {rest body sts : List Stmt} {st : Stmt} {s : Sl} {ss : List Sl} {d : D} {ds : List D} {i j : Int} {pos p : Pos} {x y f : Str} {out : Out} {C : Addr} {cc : Code} {N : List Sl → Prop} {P : Out → Prop} {α : Type} {fe : α → D} {xs : List α}
theorem g_cval {mc : Value} (he : Ev X H0 Oc Γ e (.va (.opq (.ref C)))) (r : ClX.CRead X.K C mc) (kv : ∃ u, ClX.CVal X.K C mc f (.int i) u) (hb : attributeBase e f X.env (eval e X.env) = eval e X.env := by rfl) : Ev X H0 Oc Γ (.Attribute e f pos) (.va (.int i)) := let ⟨_, h⟩ := kv; ev_cval he r h hb
def SdKA (X : Cx) (W : WX) (H0 : Hp) (Oc : List Addr) (c : Code) (Γ : List Sl) (b : List Stmt) (N : List Sl → Prop) (P : Out → Prop) : Prop := ∃ o, SdsA X W H0 Oc c Γ b o ∧ endsK N P o
theorem ka_of (h : SdK X W H0 Oc Γ sts N P) : SdKA X W H0 Oc cc Γ sts N P := let ⟨o, h1, h2⟩ := h; ⟨o, sa_of h1, h2⟩
theorem ka_st (h : SdK X W H0 Oc Γ [st] (fun Γ' => SdKA X W H0 Oc cc Γ' rest N P) P) : SdKA X W H0 Oc cc Γ (st :: rest) N P := by
  obtain ⟨o, h1, h2⟩ := h
  cases o with
  | nx Γ' =>
    obtain ⟨o2, h3, h4⟩ := (h2 : SdKA X W H0 Oc cc Γ' rest N P)
    exact ⟨o2, sa_cons h1 h3, h4⟩
  | _ => exact ⟨_, sa_exit h1 rfl, h2⟩
theorem k_topIA {o : Out} {aa : Addr} (h : SdKA X W H0 Oc cc Γ body (fun Γ' => FinI aa C (.nx Γ') o) (fun o' => FinI aa C o' o)) : ∃ o', SdsA X W H0 Oc cc Γ body o' ∧ FinI aa C o' o := by
  obtain ⟨o', h1, h2⟩ := h
  cases o' with
  | nx Γ' => exact ⟨_, h1, h2⟩
  | _ => exact ⟨_, h1, h2⟩
theorem ka_super {body : List Stmt} {p0 p1 p2 p3 p4 : Pos} {f cda cl C DD f2 a : Addr} {fd fd2 : FuncData} {sf : Str} {k : Nat} {e : Expr} {es : List Expr} {pl : Sem Bool} {ps : List Str} {P2 : Pm} {ss : List Sl} {ds es2 : List D} {ns : List Str} (i j : Nat)
    (T : Sup.SupAt X.prog X.K X.mg f cda cl DD fd sf) (S : Sup.SupI X.K C DD f2) (F2 : FnOk X.prog X.w X.K X.mg X.base (L2N.CX X.prog X.w) k f2 fd2 ps (mkSpI X.K C P2)) (hrm : Room k X.A) (hb : L2.Binds X.K fd2 ps [])
    (ha : Ea X H0 Oc Γ (e :: es) ss) (hp : P2 (ds.map .va) (.ret (.ow (.obj C ns es2))))
    (hr : SdKA X W H0 Oc (.func body X.env) (Γ.set i (.ow (.slf a C ns es2))) rest N P) (hva : vaD ss = some ds := by rfl)
    (hi : Γ[i]? = some (.ow (.slf a C [] [])) := by rfl) (hj : Γ[j]? = some (.va (.opq (.ref DD))) := by rfl) (hst : stab Γ = true := by rfl)
    (hNi : X.N[i]? = some sf := by rfl) (hNj : X.N[j]? = some ("__class__" : Str) := by rfl) (hfu : X.env.func = some f := by rfl) (hco : X.env.code = .ref cda := by rfl) (hks : X.env.kindOf "super" = some .globalImplicit := by rfl) (hkc : X.env.kindOf "__class__" = some .free := by rfl) (hka : X.env.kindOf sf = some .local := by rfl)
    (hin : interactive X.env = false := by rfl) (hs : swapsWith (.Call (.Attribute (.Call (.Name "super" p0) [] [] p1) "__init__" p2) (e :: es) [] p3) none p4.line X.env = pure false := by rfl)
    (he : starEach (e :: es) X.env = (false, eval e X.env) :: starEach es X.env := by rfl) (hpl : (backTo p3 (starEach es X.env)).any (·.1) = false := by rfl)
    (hev : eval (.Call (.Attribute (.Call (.Name "super" p0) [] [] p1) "__init__" p2) (e :: es) [] p3) X.env = (do
      let ov ← attributeBase (.Call (.Name "super" p0) [] [] p1) "__init__" X.env (eval (.Call (.Name "super" p0) [] [] p1) X.env)
      standAt p2.atName
      let (f, first) ← holding [ov] (getMethod ov "__init__" pl)
      callWith p3 f first (backTo p3 (starEach (e :: es) X.env)) []) := by rfl) :
    SdKA X W H0 Oc (.func body X.env) Γ (.Expr (.Call (.Attribute (.Call (.Name "super" p0) [] [] p1) "__init__" p2) (e :: es) [] p3) p4 :: rest) N P := by
  obtain ⟨o, h1, h2⟩ := hr
  exact ⟨o, sa_super i j T S F2 hrm hb hi hj hst ha hva hp h1 hNi hNj hfu hco hks hkc hka hin hs he hpl hev, h2⟩
theorem isN_opt {x : Option α} : isN (eO (fun _ => .int 0) x) = x.isNone := by cases x <;> rfl
theorem blw_refl : ∀ {G : List Sl}, Blw G G
  | [] => .nil
  | _ :: _ => .eq blw_refl
end
end Y

namespace Y
open PySem PySem.Spec PyProof.Rows L2
/-! # dicts -/
section
variable {κ β : Type} [DecidableEq κ]
def dget : List (κ × β) → κ → Option β
  | [], _ => none
  | p :: m, k => if p.1 = k then some p.2 else dget m k
def dhas (m : List (κ × β)) (k : κ) : Bool := decide (k ∈ m.map (·.1))
def dkeys (m : List (κ × β)) : List κ := m.map (·.1)
def dset : List (κ × β) → κ → β → List (κ × β)
  | [], _, _ => []
  | p :: m, k, v => (if p.1 = k then (p.1, v) else p) :: dset m k v
def dput (m : List (κ × β)) (k : κ) (v : β) : List (κ × β) := if k ∈ m.map (·.1) then dset m k v else m ++ [(k, v)]
def dputO (m : List (κ × β)) (k : κ) (v : β) : Option (List (κ × β)) := if m.length ≤ 1000000 then some (dput m k v) else none
theorem dputOE {m m' : List (κ × β)} {k : κ} {v : β} (h : dputO m k v = some m') : m.length ≤ 1000000 ∧ m' = dput m k v := by
  unfold dputO at h
  split at h
  · cases h; exact ⟨by assumption, rfl⟩
  · cases h
/-- d.setdefault(k, v): the dict behind it and the value -/
def dsetd (m : List (κ × β)) (k : κ) (v : β) : List (κ × β) × β := match dget m k with
  | some u => (m, u)
  | none => (m ++ [(k, v)], v)
def dsetdO (m : List (κ × β)) (k : κ) (v : β) : Option (List (κ × β) × β) := if m.length ≤ 1000000 then some (dsetd m k v) else none
theorem dset_keys {k : κ} {v : β} : ∀ {m : List (κ × β)}, (dset m k v).map (·.1) = m.map (·.1)
  | [] => rfl
  | p :: m => by
    show (if p.1 = k then (p.1, v) else p).1 :: (dset m k v).map (·.1) = _
    rw [dset_keys, List.map_cons]
    congr 1
    split <;> rfl
theorem dset_map {k : κ} {v : β} {f : κ × β → γ} {g : γ → γ} (hg : ∀ p : κ × β, f (if p.1 = k then (p.1, v) else p) = g (f p)) : ∀ {m : List (κ × β)}, (dset m k v).map f = m.map fun p => g (f p)
  | [] => rfl
  | p :: m => by
    show f (if p.1 = k then (p.1, v) else p) :: (dset m k v).map f = _
    rw [dset_map hg, hg]
    rfl
end
/-! keys that are tuples of whole numbers -/
abbrev eDT {κ β : Type} (tk : κ → List Int) (ev : β → D) : List (κ × β) → D := fun m => dctT (m.map fun p => tk p.1) (m.map fun p => ev p.2)
abbrev kId : List Int → List Int := fun x => x
abbrev kP2 : Int × Int → List Int := fun p => [p.1, p.2]
theorem kId_inj : ∀ a b, kId a = kId b → a = b := fun _ _ h => h
theorem kP2_inj : ∀ a b, kP2 a = kP2 b → a = b := fun ⟨a, b⟩ ⟨c, d⟩ h => by
  simp only [kP2, List.cons.injEq, and_true] at h
  exact Prod.ext h.1 h.2
section
variable {κ β : Type} [DecidableEq κ] {tk : κ → List Int} {ev : β → D}
theorem mem_tk (hk : ∀ a b, tk a = tk b → a = b) {m : List (κ × β)} {k : κ} : decide (tk k ∈ m.map fun p => tk p.1) = dhas m k := by
  unfold dhas
  refine decide_eq_decide.mpr ⟨fun h => ?_, fun h => ?_⟩
  · obtain ⟨p, hp, e⟩ := List.mem_map.mp h
    exact List.mem_map.mpr ⟨p, hp, hk _ _ e⟩
  · obtain ⟨p, hp, e⟩ := List.mem_map.mp h
    exact List.mem_map.mpr ⟨p, hp, by rw [e]⟩
theorem dget_at (hk : ∀ a b, tk a = tk b → a = b) {k : κ} {v : β} : ∀ {m : List (κ × β)}, dget m k = some v → atD (m.map fun p => tk p.1) (m.map fun p => ev p.2) (tk k) = some (ev v)
  | [], h => by cases h
  | p :: m, h => by
    unfold dget at h
    show (if tk p.1 = tk k then some (ev p.2) else atD (m.map fun p => tk p.1) (m.map fun p => ev p.2) (tk k)) = _
    split at h
    · rename_i e
      cases h
      rw [if_pos (by rw [e])]
    · rename_i e
      rw [if_neg fun z => e (hk _ _ z)]
      exact dget_at hk h
theorem dset_vals (hk : ∀ a b, tk a = tk b → a = b) {k : κ} {v : β} : ∀ {m : List (κ × β)}, (dset m k v).map (fun p => ev p.2) = setDs (tk k) (ev v) (m.map fun p => tk p.1) (m.map fun p => ev p.2)
  | [] => rfl
  | p :: m => by
    show ev (if p.1 = k then (p.1, v) else p).2 :: (dset m k v).map (fun p => ev p.2) = (if tk p.1 = tk k then ev v else ev p.2) :: setDs (tk k) (ev v) (m.map fun p => tk p.1) (m.map fun p => ev p.2)
    rw [dset_vals hk]
    congr 1
    by_cases e : p.1 = k
    · rw [if_pos e, if_pos (by rw [e])]
    · rw [if_neg e, if_neg fun z => e (hk _ _ z)]
theorem dset_tk {k : κ} {v : β} {m : List (κ × β)} : (dset m k v).map (fun p => tk p.1) = m.map fun p => tk p.1 := by
  have e : ∀ m : List (κ × β), m.map (fun p => tk p.1) = (m.map (·.1)).map tk := fun m => by rw [List.map_map]; rfl
  rw [e, e, dset_keys]
theorem dput_enc (hk : ∀ a b, tk a = tk b → a = b) {k : κ} {v : β} {m : List (κ × β)} : eDT tk ev (dput m k v) = dctT (putKs (m.map fun p => tk p.1) (tk k)) (putDs (m.map fun p => tk p.1) (m.map fun p => ev p.2) (tk k) (ev v)) := by
  have mm := mem_tk hk (m := m) (k := k)
  unfold dput putKs putDs
  by_cases h : k ∈ m.map (·.1)
  · have h2 : tk k ∈ m.map fun p => tk p.1 := by
      unfold dhas at mm
      rw [decide_eq_true h] at mm
      exact of_decide_eq_true mm
    rw [if_pos h, if_pos h2, if_pos h2]
    show dctT _ _ = _
    rw [dset_tk, dset_vals hk]
  · have h2 : tk k ∉ m.map fun p => tk p.1 := by
      unfold dhas at mm
      rw [decide_eq_false h] at mm
      exact of_decide_eq_false mm
    rw [if_neg h, if_neg h2, if_neg h2]
    show dctT _ _ = _
    rw [List.map_append, List.map_append]
    rfl
end
section
variable {X : Cx} {W : WX} {H0 : Hp} {Oc : List Addr} {Γ Γ1 Γ2 Γ' : List Sl} {a b e ie e1 e2 : Expr} {rest : List Stmt} {s : Sl} {d : D} {ds : List D} {i j : Int} {pos pos' p tp apos cpos : Pos} {x y : Str} {N : List Sl → Prop} {P : Out → Prop}
variable {κ β : Type} [DecidableEq κ] {tk : κ → List Int} {ev : β → D} {m m' : List (κ × β)} {k : κ} {v : β}
theorem g_inT (hk : ∀ a b, tk a = tk b → a = b) (hu : X.A.units + 1 < cLine) (k : κ) (m : List (κ × β)) : C2 X H0 Oc .In (.va (encT (tk k))) (.bw (eDT tk ev m)) (dhas m k) := mem_tk hk (m := m) (k := k) ▸ c_inT hu _ _ _
theorem g_ninT (hk : ∀ a b, tk a = tk b → a = b) (hu : X.A.units + 1 < cLine) (k : κ) (m : List (κ × β)) : C2 X H0 Oc .NotIn (.va (encT (tk k))) (.bw (eDT tk ev m)) (!dhas m k) := mem_tk hk (m := m) (k := k) ▸ c_ninT hu _ _ _
theorem g_dget (hk : ∀ a b, tk a = tk b → a = b) (hu : X.A.units + 1 < cLine) (ha : Ev X H0 Oc Γ a (.bw (eDT tk ev m))) (hb : Ev X H0 Oc Γ b (.va (encT (tk k)))) (hd : dget m k = some v) (hs : NoSl b := by exact fun _ _ => rfl) : Ev X H0 Oc Γ (.Subscript a b pos) (.va (ev v)) := ev_dget hu ha hb (dget_at hk hd) hs
theorem k_dput (hk : ∀ a b, tk a = tk b → a = b) (n : Nat) (hu : X.A.units + 1 < cLine) (he : Ev X H0 Oc Γ e (.va (ev v))) (hi : Ev X H0 Oc Γ ie (.va (encT (tk k)))) (hp : dputO m k v = some m') (hr : SdK X W H0 Oc (Γ.set n (.ow (eDT tk ev m'))) rest N P)
    (h : Γ[n]? = some (.ow (eDT tk ev m)) := by rfl) (hst : stab Γ = true := by rfl)
    (hN : X.N[n]? = some x := by rfl) (hv : Vis X.env.scope x := by first | exact .inl rfl | exact .inr (.inl rfl) | exact .inr (.inr rfl)) (hd : (x == ("__debug__" : Str)) = false := by rfl) (hcd : (x == ("__classdict__" : Str)) = false := by rfl)
    (hs : swapsWith e (some (.Subscript (.Name x p) ie tp)) pos.line X.env = pure false := by rfl) : SdK X W H0 Oc Γ (.Assign [.Subscript (.Name x p) ie tp] e pos :: rest) N P := by
  obtain ⟨hl, rfl⟩ := dputOE hp
  rw [dput_enc hk] at hr
  exact hr.map fun _ z => d_dputG n hu he hi (by rw [List.length_map]; exact hl) z h hst hN hv hd hcd hs
theorem g_listD {f : κ → D} (hf : ∀ z, f z = encT (tk z)) (hm : X.mg "list" = none) (hc : X.calm = true) (ha : Ev X H0 Oc Γ a (.bw (eDT tk ev m))) (hg : Gl X "list" := by rfl) (he : starEach [a] X.env = (false, eval a X.env) :: starEach [] X.env := by rfl) (hpl : (backTo pos (starEach [] X.env)).any (·.1) = false := by rfl) :
    Ev X H0 Oc Γ (.Call (.Name "list" p) [a] [] pos) (.ow (.lst ((dkeys m).map f))) := by
  have := e_listT (p := p) hm hc ha hg he hpl
  have e : (m.map fun p => tk p.1).map encT = (dkeys m).map f := by
    unfold dkeys
    rw [List.map_map, List.map_map]
    exact List.map_congr_left fun z _ => (hf z.1).symm
  rw [e] at this
  exact this
end
/-! keys that are whole numbers or texts -/
abbrev eDK {κ β : Type} (tk : κ → Key) (ev : β → D) : List (κ × β) → D := fun m => .dK (m.map fun p => tk p.1) (m.map fun p => ev p.2)
abbrev kI : Int → Key := .inl
abbrev kS : Str → Key := .inr
theorem kI_inj : ∀ a b, kI a = kI b → a = b := fun _ _ h => Sum.inl.inj h
theorem kS_inj : ∀ a b, kS a = kS b → a = b := fun _ _ h => Sum.inr.inj h
def kD : Key → D
  | .inl i => .int i
  | .inr x => .str x
theorem rep_kD {K : PySem.W.Frag} {H : Hp} {k : Key} {v : V} (h : Rep K H (kD k) v) : v = kV k := by cases k <;> exact h
section
variable {K : PySem.W.Frag} {κ β : Type} [DecidableEq κ] {tk : κ → Key} {ev : β → D}
theorem val_has {H : Hp} (hk : ∀ a b, tk a = tk b → a = b) {k : κ} : ∀ {m : List (κ × β)} {kvs : List (Key × V)}, kvs.map (·.1) = m.map (fun p => tk p.1) → (valV kvs (tk k)).isSome = dhas m k
  | [], [], _ => rfl
  | [], _ :: _, h => by cases h
  | _ :: _, [], h => by cases h
  | p :: m, q :: kvs, h => by
    obtain ⟨h1, h2⟩ := List.cons.inj h
    have h1 : q.1 = tk p.1 := h1
    unfold dhas
    by_cases e : p.1 = k
    · rw [valV_pos (h1.trans (by rw [e]))]
      exact (decide_eq_true (by simp [e])).symm
    · rw [valV_neg fun z => e (hk _ _ (h1.symm.trans z))]
      have := val_has (H := H) hk (k := k) h2
      rw [this]
      unfold dhas
      refine decide_eq_decide.mpr ?_
      simp [Ne.symm e]
theorem val_get {H : Hp} (hk : ∀ a b, tk a = tk b → a = b) {k : κ} {v : β} : ∀ {m : List (κ × β)} {kvs : List (Key × V)}, kvs.map (·.1) = m.map (fun p => tk p.1) → Reps K H (m.map fun p => ev p.2) (kvs.map (·.2)) → dget m k = some v → ∃ u, valV kvs (tk k) = some u ∧ Rep K H (ev v) u
  | [], _, _, _, h => by cases h
  | _ :: _, [], h, _, _ => by cases h
  | p :: m, q :: kvs, h, ⟨u, us, e1, r1, r2⟩, hd => by
    obtain ⟨h1, h2⟩ := List.cons.inj h
    obtain ⟨e2, e3⟩ := List.cons.inj e1
    have h1 : q.1 = tk p.1 := h1
    have e2 : q.2 = u := e2
    unfold dget at hd
    split at hd
    · rename_i e
      cases hd
      exact ⟨q.2, valV_pos (h1.trans (by rw [e])), by rw [e2]; exact r1⟩
    · rename_i e
      rw [valV_neg fun z => e (hk _ _ (h1.symm.trans z))]
      exact val_get hk h2 (e3 ▸ r2) hd
theorem val_no {H : Hp} (hk : ∀ a b, tk a = tk b → a = b) {k : κ} {m : List (κ × β)} {kvs : List (Key × V)} (h : kvs.map (·.1) = m.map (fun p => tk p.1)) (hd : dhas m k = false) : valV kvs (tk k) = none := by
  have := val_has (H := H) hk (k := k) h
  rw [hd] at this
  cases q : valV kvs (tk k) with
  | none => rfl
  | some u => rw [q] at this; cases this
theorem dget_none {k : κ} : ∀ {m : List (κ × β)}, dget m k = none ↔ dhas m k = false
  | [] => by simp [dget, dhas]
  | p :: m => by
    unfold dget dhas
    by_cases e : p.1 = k
    · simp [e]
    · rw [if_neg e, dget_none]
      unfold dhas
      simp [Ne.symm e]
theorem map_set {H : Hp} (hk : ∀ a b, tk a = tk b → a = b) {k : κ} {v : β} {u : V} (rv : Rep K H (ev v) u) : ∀ {m : List (κ × β)} {kvs : List (Key × V)}, kvs.map (·.1) = m.map (fun p => tk p.1) → Reps K H (m.map fun p => ev p.2) (kvs.map (·.2)) →
    (kvs.map fun kv => if kv.1 = tk k then (kv.1, u) else kv).map (·.1) = (dset m k v).map (fun p => tk p.1) ∧ Reps K H ((dset m k v).map fun p => ev p.2) ((kvs.map fun kv => if kv.1 = tk k then (kv.1, u) else kv).map (·.2))
  | [], [], _, _ => ⟨rfl, rfl⟩
  | [], _ :: _, h, _ => by cases h
  | _ :: _, [], h, _ => by cases h
  | p :: m, q :: kvs, h, ⟨w, us, e1, r1, r2⟩ => by
    obtain ⟨h1, h2⟩ := List.cons.inj h
    obtain ⟨e2, e3⟩ := List.cons.inj e1
    have h1 : q.1 = tk p.1 := h1
    have e2 : q.2 = w := e2
    obtain ⟨i1, i2⟩ := map_set hk rv h2 (e3 ▸ r2)
    by_cases e : p.1 = k
    · have e' : q.1 = tk k := h1.trans (by rw [e])
      refine ⟨?_, ?_⟩
      · show (if q.1 = tk k then (q.1, u) else q).1 :: _ = tk (if p.1 = k then (p.1, v) else p).1 :: _
        rw [if_pos e, if_pos e']
        exact List.cons_eq_cons.mpr ⟨h1, i1⟩
      · show Reps K H (ev (if p.1 = k then (p.1, v) else p).2 :: _) ((if q.1 = tk k then (q.1, u) else q).2 :: _)
        rw [if_pos e, if_pos e']
        exact Reps.cons rv i2
    · have e' : ¬ q.1 = tk k := fun z => e (hk _ _ (h1.symm.trans z))
      refine ⟨?_, ?_⟩
      · show (if q.1 = tk k then (q.1, u) else q).1 :: _ = tk (if p.1 = k then (p.1, v) else p).1 :: _
        rw [if_neg e, if_neg e']
        exact List.cons_eq_cons.mpr ⟨h1, i1⟩
      · show Reps K H (ev (if p.1 = k then (p.1, v) else p).2 :: _) ((if q.1 = tk k then (q.1, u) else q).2 :: _)
        rw [if_neg e, if_neg e']
        exact Reps.cons (by rw [e2]; exact r1) i2
theorem put_dK {H : Hp} (hk : ∀ a b, tk a = tk b → a = b) {k : κ} {v : β} {u : V} (rv : Rep K H (ev v) u) {m : List (κ × β)} {kvs : List (Key × V)} (h : kvs.map (·.1) = m.map (fun p => tk p.1)) (r : Reps K H (m.map fun p => ev p.2) (kvs.map (·.2))) :
    (putK kvs (tk k) u).map (·.1) = (dput m k v).map (fun p => tk p.1) ∧ Reps K H ((dput m k v).map fun p => ev p.2) ((putK kvs (tk k) u).map (·.2)) := by
  have hh := val_has (H := H) hk (k := k) h
  unfold dput putK
  rw [valV_any, hh]
  by_cases hm : k ∈ m.map (·.1)
  · rw [if_pos hm, show dhas m k = true from decide_eq_true hm, if_pos rfl]
    exact map_set hk rv h r
  · rw [if_neg hm, show dhas m k = false from decide_eq_false hm, if_neg (by decide)]
    refine ⟨by rw [List.map_append, List.map_append, h]; rfl, ?_⟩
    rw [List.map_append, List.map_append]
    exact Reps.app r (Reps.one rv)
end
section
variable {X : Cx} {W : WX} {H0 : Hp} {Oc : List Addr} {Γ Γ1 Γ2 Γ' : List Sl} {a b e ie e1 e2 : Expr} {rest : List Stmt} {s : Sl} {d : D} {ds : List D} {i j : Int} {pos pos' p tp apos cpos : Pos} {x y : Str} {N : List Sl → Prop} {P : Out → Prop}
variable {κ β : Type} [DecidableEq κ] {tk : κ → Key} {ev : β → D} {m m' : List (κ × β)} {k : κ} {v : β}
theorem ev_dK : Ev X H0 Oc Γ (.Dict [] [] pos) (.ow (.dK [] [])) := ev_dK0
theorem dK_rd {K : PySem.W.Frag} {Ht H : Hp} {ks : List Key} {v : V} (h : RepB K Ht H (.dK ks ds) v) : ∃ q kvs, v = .ref q ∧ Rd Ht q (.dK kvs) ∧ kvs.map (·.1) = ks ∧ Reps K H ds (kvs.map (·.2)) := by
  obtain ⟨q, kvs, e, h1, h2, h3⟩ := h
  exact ⟨q, kvs, e, .of h1, h2, h3⟩
theorem g_inK (hk : ∀ a b, tk a = tk b → a = b) (hu : X.A.units + 1 < cLine) (k : κ) (m : List (κ × β)) : C2 X H0 Oc .In (.va (kD (tk k))) (.bw (eDK tk ev m)) (dhas m k) := ⟨_, op_inT hu, fun G S H v w Q ⟨O, W⟩ q => by
  obtain ⟨r1, r2⟩ := vb2 W
  obtain ⟨a, kvs, e, g, h1, h2⟩ := dK_rd r2
  obtain rfl := rep_kD r1
  refine ⟨a, _, e, .inl ⟨kvs, _, g, rfl, rfl⟩, ?_⟩
  rw [val_has (H := H) hk h1]
  exact q H ⟨O, W.pop.pop⟩⟩
theorem g_ninK (hk : ∀ a b, tk a = tk b → a = b) (hu : X.A.units + 1 < cLine) (k : κ) (m : List (κ × β)) : C2 X H0 Oc .NotIn (.va (kD (tk k))) (.bw (eDK tk ev m)) (!dhas m k) := ⟨_, op_ninT hu, fun G S H v w Q ⟨O, W⟩ q => by
  obtain ⟨r1, r2⟩ := vb2 W
  obtain ⟨a, kvs, e, g, h1, h2⟩ := dK_rd r2
  obtain rfl := rep_kD r1
  refine ⟨a, _, e, .inl ⟨kvs, _, g, rfl, rfl⟩, ?_⟩
  rw [val_has (H := H) hk h1]
  exact q H ⟨O, W.pop.pop⟩⟩
theorem g_dgetK (hk : ∀ a b, tk a = tk b → a = b) (hu : X.A.units + 1 < cLine) (ha : Ev X H0 Oc Γ a (.bw (eDK tk ev m))) (hb : Ev X H0 Oc Γ b (.va (kD (tk k)))) (hd : dget m k = some v) (hs : NoSl b := by exact fun _ _ => rfl) : Ev X H0 Oc Γ (.Subscript a b pos) (.va (ev v)) := fun Δ τ σ H Q hl W q => by
  refine wpE.of (pe_dget hu pe_wp pe_wp hs) (ha Δ τ σ H _ hl W fun v1 H1 W1 => ?_)
  refine hb (.bw (eDK tk ev m) :: Δ) (some v1 :: τ) σ H1 _ (by simp [hl]) W1 fun u H2 ⟨O, W2⟩ => ?_
  obtain ⟨u', e1, r1⟩ := W2.head
  cases e1
  obtain ⟨v', e2, r2⟩ := W2.pop.head
  cases e2
  obtain ⟨q0, kvs, e, g, h1, h2⟩ := dK_rd r2
  obtain rfl := rep_kD r1
  obtain ⟨z, hz, rz⟩ := val_get hk h1 h2 hd
  exact ⟨q0, z, e, .inl ⟨kvs, _, g, rfl, hz.symm⟩, q z H2 ⟨O, W2.pop.pop.push ⟨z, rfl, rz⟩ fun _ y => nomatch y⟩⟩
theorem k_dputK (hk : ∀ a b, tk a = tk b → a = b) (n : Nat) (hu : X.A.units + 1 < cLine) (he : Ev X H0 Oc Γ e (.va (ev v))) (hi : Ev X H0 Oc Γ ie (.va (kD (tk k)))) (hp : dputO m k v = some m') (hr : SdK X W H0 Oc (Γ.set n (.ow (eDK tk ev m'))) rest N P)
    (h : Γ[n]? = some (.ow (eDK tk ev m)) := by rfl) (hst : stab Γ = true := by rfl)
    (hN : X.N[n]? = some x := by rfl) (hv : Vis X.env.scope x := by first | exact .inl rfl | exact .inr (.inl rfl) | exact .inr (.inr rfl)) (hd : (x == ("__debug__" : Str)) = false := by rfl) (hcd : (x == ("__classdict__" : Str)) = false := by rfl)
    (hs : swapsWith e (some (.Subscript (.Name x p) ie tp)) pos.line X.env = pure false := by rfl) : SdK X W H0 Oc Γ (.Assign [.Subscript (.Name x p) ie tp] e pos :: rest) N P := by
  obtain ⟨hlen, rfl⟩ := dputOE hp
  refine hr.map fun out hr => fun Δ τ σ H D hl st w k0 => ?_
  refine wpSs.of (pss_cons (ps_dput hu (pe_var hN hv hd hcd) pe_wp pe_wp hs) pss_wp) ?_
  refine he Δ τ σ H _ hl w fun v1 H1 ⟨O1, w1⟩ => ?_
  obtain ⟨y, hy, pp, oo, rfl, g2, g3, g4, g5⟩ := slot_of hl w1.pop h
  refine ⟨.ref pp, hy, ?_⟩
  refine hi (.va (ev v) :: Δ) (some v1 :: τ) σ H1 _ (by simp [hl]) ⟨O1, w1⟩ fun iv H2 ⟨O2, w2⟩ => ?_
  obtain ⟨iv', e1, r1⟩ := w2.head
  cases e1
  obtain rfl := rep_kD r1
  obtain ⟨y', hy', q, u, e1, k2, k3, k4, k5⟩ := slot_of hl w2.pop.pop h
  rw [hy] at hy'
  cases hy'
  cases e1
  obtain ⟨v', e2, rv⟩ := w2.pop.head
  cases e2
  cases u <;> first | exact k5.elim | skip
  rename_i kvs
  have k5' : RepH X.K (cut H2 O2) (Y.D.dK (m.map fun p => tk p.1) (m.map fun p => ev p.2)) pp (HO.dK kvs) := k5
  unfold RepH at k5'
  obtain ⟨k5, k6⟩ := k5'
  have lk : kvs.length = m.length := by have := k6.len; rwa [List.length_map, List.length_map] at this
  obtain ⟨p1, p2⟩ := put_dK hk (k := k) rv k5 k6
  exact ⟨pp, _, rfl, .k k4 (by rw [lk, sizeLine_eq]; omega), hr Δ τ σ _ D hl st ⟨O2, w2.pop.pop.mutN hl st hst h hy (o' := .dK (putK kvs (tk k) v1)) (d' := eDK tk ev (dput m k v)) ⟨p1, p2⟩⟩ k0⟩
theorem g_listDK {f : κ → D} (hf : ∀ z, f z = kD (tk z)) (hm : X.mg "list" = none) (hc : X.calm = true) (ha : Ev X H0 Oc Γ a (.bw (eDK tk ev m))) (hg : Gl X "list" := by rfl) (he : starEach [a] X.env = (false, eval a X.env) :: starEach [] X.env := by rfl) (hpl : (backTo pos (starEach [] X.env)).any (·.1) = false := by rfl) :
    Ev X H0 Oc Γ (.Call (.Name "list" p) [a] [] pos) (.ow (.lst ((dkeys m).map f))) := ev_t1 (call_list_dK hc) ha hm (by decide +kernel) hg (fun G S H v Q ⟨O, W⟩ q => by
      obtain ⟨u, g1, a0, kvs, rfl, h1, h2, h3⟩ := W.head
      cases g1
      refine ⟨a0, kvs, rfl, h1, fun pp hp => q _ _ ⟨_, W.pop.newLst hp ?_⟩⟩
      have e : ∀ (ks : List (Key × V)) (m : List (κ × β)), ks.map (·.1) = m.map (fun p => tk p.1) → Reps X.K (cut H O) ((dkeys m).map f) (ks.map fun kv => kV kv.1) := by
        intro ks
        induction ks with
        | nil => intro m h; cases m with | nil => exact rfl | cons _ _ => cases h
        | cons kv ks ih =>
          intro m h
          cases m with
          | nil => cases h
          | cons p m =>
            obtain ⟨i1, i2⟩ := List.cons.inj h
            have i1 : kv.1 = tk p.1 := i1
            refine ⟨_, _, rfl, ?_, ih m i2⟩
            show Rep X.K (cut H O) (f p.1) (kV kv.1)
            rw [hf, i1]
            cases tk p.1 <;> exact rfl
      exact e kvs m h2) (by decide) (by decide) he hpl
/-- y = d.setdefault(k, v) -/
theorem k_setdef (hk : ∀ a b, tk a = tk b → a = b) (n i : Nat) (hNd : X.N.Nodup) (ha : Ev X H0 Oc Γ e1 (.va (kD (tk k)))) (hb : Ev X H0 Oc Γ e2 (.va (ev v))) {mv : List (κ × β) × β} (hp : dsetdO m k v = some mv) (hr : SdK X W H0 Oc ((Γ.set n (.ow (eDK tk ev mv.1))).set i (.va (ev mv.2))) rest N P)
    (h : Γ[n]? = some (.ow (eDK tk ev m)) := by rfl) (hst : stab Γ = true := by rfl)
    (hN : X.N[n]? = some x := by rfl) (hv : Vis X.env.scope x := by first | exact .inl rfl | exact .inr (.inl rfl) | exact .inr (.inr rfl)) (hd : (x == ("__debug__" : Str)) = false := by rfl) (hcd : (x == ("__classdict__" : Str)) = false := by rfl)
    (hm : X.N[i]? = some y := by rfl) (hy : Loc X.env.scope y := by first | exact .inl rfl | exact .inr rfl) (hf : X.fn y = true ∨ X.env.scope.names.lookup y = some .local := by first | exact .inr rfl | exact .inl rfl)
    (hbase : attributeBase (.Name x p) "setdefault" X.env (eval (.Name x p) X.env) = eval (.Name x p) X.env := by rfl)
    (hfew : ((backTo cpos (starEach [e1, e2] X.env)).all (fun x => !x.1) && (backToKw cpos (keywordEach [] X.env)).all (fun x => x.1.isSome)
      && decide (([e1, e2] : List Expr).length + ([] : List Keyword).length + (if ([] : List Keyword).isEmpty then 0 else 1) < 30)) = true := by rfl)
    (hline : (apos.endLine == cpos.line) = true := by rfl) (hs1 : starEach [e1, e2] X.env = (false, eval e1 X.env) :: starEach [e2] X.env := by rfl) (hs2 : starEach [e2] X.env = (false, eval e2 X.env) :: starEach [] X.env := by rfl) (hplain : (backTo cpos (starEach [e2] X.env)).any (·.1) = false := by rfl)
    (hsw : swapsWith (.Call (.Attribute (.Name x p) "setdefault" apos) [e1, e2] [] cpos) (some (.Name y pos')) pos.line X.env = pure false := by rfl) :
    SdK X W H0 Oc Γ (.Assign [.Name y pos'] (.Call (.Attribute (.Name x p) "setdefault" apos) [e1, e2] [] cpos) pos :: rest) N P := by
  obtain ⟨hlen, rfl⟩ : m.length ≤ 1000000 ∧ mv = dsetd m k v := by
    unfold dsetdO at hp
    split at hp
    · cases hp; exact ⟨by assumption, rfl⟩
    · cases hp
  refine hr.map fun out hr => fun Δ τ σ H D hl st w k0 => ?_
  refine wpSs.of (pss_cons (ps_set hNd hm hy (pe_bm PySem.F.plainAttrs_dict PySem.F.slot_dict_setdefault PySem.F.type_dict_setdefault mt_setdefault (pe_var hN hv hd hcd) (pa_cons pe_wp (pa_cons pe_wp pa_nil hs2) hs1) hbase hfew hline hs1 hplain) hsw hf) pss_wp) ?_
  obtain ⟨O0, w0⟩ := id w
  obtain ⟨z, hz, pp, oo, rfl, g2, g3, g4, g5⟩ := slot_of hl w0 h
  refine ⟨.ref pp, hz, ?_, ?_⟩
  · cases oo <;> first
      | exact g5.elim
      | exact .inr (.inr (.inl ⟨rfl, .inl ⟨_, g4⟩⟩))
  · refine ha Δ τ σ H _ hl w fun v1 H1 w1 => ?_
    refine hb (.va (kD (tk k)) :: Δ) (some v1 :: τ) σ H1 _ (by simp [hl]) w1 fun v2 H2 ⟨O, w2⟩ => ?_
    obtain ⟨v1', e3, r1⟩ := w2.pop.head
    cases e3
    obtain rfl := rep_kD r1
    obtain ⟨v2', e4, r2⟩ := w2.head
    cases e4
    obtain ⟨z', hz', q, u, e5, k2, k3, k4, k5⟩ := slot_of hl w2.pop.pop h
    rw [hz] at hz'
    cases hz'
    cases e5
    cases u <;> first | exact k5.elim | skip
    rename_i kvs
    have k5' : RepH X.K (cut H2 O) (Y.D.dK (m.map fun p => tk p.1) (m.map fun p => ev p.2)) pp (HO.dK kvs) := k5
    unfold RepH at k5'
    obtain ⟨k5, k6⟩ := k5'
    have lk : kvs.length = m.length := by have := k6.len; rwa [List.length_map, List.length_map] at this
    refine ⟨pp, kvs, tk k, v2, rfl, rfl, k4, by rw [lk, sizeLine_eq]; omega, fun u hu => ?_, fun hno => ?_⟩
    · -- there
      have hdh := val_has (H := H2) hk (k := k) k5
      rw [hu] at hdh
      cases hg : dget m k with
      | none => rw [dget_none.mp hg] at hdh; cases hdh
      | some g0 =>
        obtain ⟨u', hu', ru⟩ := val_get hk k5 k6 hg
        rw [hu] at hu'
        cases hu'
        have e1 : dsetd m k v = (m, g0) := by unfold dsetd; rw [hg]
        rw [e1] at hr
        have e2 : Γ.set n (.ow (eDK tk ev m)) = Γ := by
          obtain ⟨hn, he⟩ := List.getElem?_eq_some_iff.mp h
          rw [← he, List.set_getElem_self]
        rw [show (m, g0).1 = m from rfl, e2] at hr
        have w3 : WfO X.K H0 Oc O (.va (ev g0) :: (Δ ++ Γ)) (some u :: (τ ++ σ)) H2 := w2.pop.pop.push ⟨u, rfl, ru⟩ fun _ y => nomatch y
        exact hr Δ τ _ _ D hl st ⟨O, WfO.set hl w3⟩ k0
    · have hdh := val_has (H := H2) hk (k := k) k5
      rw [hno] at hdh
      have hg : dget m k = none := dget_none.mpr hdh.symm
      have e1 : dsetd m k v = (m ++ [(k, v)], v) := by unfold dsetd; rw [hg]
      rw [e1] at hr
      have ep : putK kvs (tk k) v2 = kvs ++ [(tk k, v2)] := putK_new _ hno
      rw [ep]
      have st2 : stab (.va (ev v) :: .va (kD (tk k)) :: Δ) = true := by
        show stab ([.va (ev v), .va (kD (tk k))] ++ Δ) = true
        rw [stab_app, st]
        rfl
      have w3 := w2.mutN (Δ := .va (ev v) :: .va (kD (tk k)) :: Δ) (τ := some v2 :: some (kV (tk k)) :: τ) (by simp [hl]) st2 hst h hz (o' := .dK (kvs ++ [(tk k, v2)])) (d' := eDK tk ev (m ++ [(k, v)])) ⟨by rw [List.map_append, List.map_append, k5]; rfl, by rw [List.map_append, List.map_append]; exact Reps.app k6 (Reps.one r2)⟩
      have w4 := WfO.set (Δ := .va (kD (tk k)) :: Δ) (τ := some (kV (tk k)) :: τ) (n := i) (s := .va (ev v)) (by simp [hl]) w3
      exact hr Δ τ _ _ D hl st ⟨O, w4.pop⟩ k0
end
end Y

namespace Y
open PySem PySem.Spec PyProof.Rows L2
/-! # texts, methods that raise, and the rest -/
def slenO (x : Str) : Option Int := if x.length ≤ 1000000 then some (x.length : Int) else none
def chars (x : Str) : List Str := x.cps.toList.map fun c => (⟨#[c]⟩ : Str)
def strInO (c z : Str) : Option Bool := match c.cps.toList with
  | [k] => some (decide (k ∈ z.cps.toList))
  | _ => none
def six (z : Str) (i : Int) : Option Str := if z.length ≤ 1000000 then (L2.atI z.cps.toList i).bind fun c => some (⟨#[c]⟩ : Str) else none
def setLenO (xs : List Int) : Option Int := if xs.Nodup ∧ xs.length ≤ 4000 then some (xs.length : Int) else none
def lrngO (n : Int) : Option (List Int) := if n ≤ 1000000 then some (irange n) else none
def memB {α : Type} [DecidableEq α] (x : α) (xs : List α) : Bool := decide (x ∈ xs)
def eqB {α : Type} [DecidableEq α] (x y : α) : Bool := decide (x = y)
def absI (n : Int) : Int := (n.natAbs : Int)
section
variable {X : Cx} {W : WX} {H0 : Hp} {Oc : List Addr} {Γ Γ1 Γ2 Γ' : List Sl} {e a b c o tg iter elt ie t1 e1 e2 : Expr} {es ifs : List Expr} {rest body els sts : List Stmt} {s s0 s1 s2 : Sl} {ss : List Sl} {d d1 d2 d3 : D} {ds ds1 ds2 : List D} {i j k : Int} {pos pos' p p2 p3 p4 p5 apos cpos epos tp : Pos} {x y z m : Str} {out o1 : Out} {q : Bool} {n : Nat} {ps : List Str} {C C1 : Addr} {ns ns1 : List Str} {scope : Scope} {own : List (Str × Nat)} {N : List Sl → Prop} {P : Pm} {α : Type} {f : α → D}
theorem g_lenS {r : Int} (hm : X.mg "len" = none) (ha : Ev X H0 Oc Γ a (.va (.str x))) (h : slenO x = some r) (hg : Gl X "len" := by rfl) (he : starEach [a] X.env = (false, eval a X.env) :: starEach [] X.env := by rfl) (hpl : (backTo pos (starEach [] X.env)).any (·.1) = false := by rfl) :
    Ev X H0 Oc Γ (.Call (.Name "len" p) [a] [] pos) (.va (.int r)) := by
  unfold slenO at h
  split at h
  · cases h
    exact e_lenS hm ha (by assumption) hg he hpl
  · cases h
theorem g_chars (ha : Ev X H0 Oc Γ a (.va (.str x))) : Ei X H0 Oc Γ tg a ((chars x).map D.str) := (i_str ha).as (by
  unfold chars
  rw [List.map_map]
  rfl)
theorem one_ch {c : Str} {k : Nat} (h : c.cps.toList = [k]) : c = ⟨#[k]⟩ := by
  obtain ⟨l⟩ := c
  have : l = #[k] := by
    apply Array.toList_inj.mp
    exact h
  rw [this]
theorem g_inS {c z : Str} (h : strInO c z = some q) : C2 X H0 Oc .In (.va (.str c)) (.va (.str z)) q := by
  unfold strInO at h
  split at h
  · rename_i k hk
    cases h
    rw [one_ch hk]
    exact c_inS k z
  · cases h
theorem g_ixS {z r : Str} (ha : Ev X H0 Oc Γ a (.va (.str z))) (hb : Ev X H0 Oc Γ b (.va (.int i))) (h : six z i = some r) (hs : PlainIx b := by exact fun _ _ => rfl) : Ev X H0 Oc Γ (.Subscript a b pos) (.va (.str r)) := by
  unfold six at h
  split at h
  · obtain ⟨c, h1, h2⟩ := bindE h
    cases h2
    exact ev_ixS ha hb (by assumption) h1 hs
  · cases h
theorem g_lenSetT {ns : List Int} {r : Int} (hm : X.mg "len" = none) (hm2 : X.mg "set" = none) (hc : X.calm = true) (ha : Ev X H0 Oc Γ a (.bw (encT ns))) (h : setLenO ns = some r) (hg : Gl X "len" := by rfl) (hg2 : Gl X "set" := by rfl) (na : starEach [a] X.env = (false, eval a X.env) :: starEach [] X.env := by rfl) :
    Ev X H0 Oc Γ (.Call (.Name "len" p) [.Call (.Name "set" p2) [a] [] p3] [] pos) (.va (.int r)) := by
  unfold setLenO at h
  split at h
  · rename_i hh
    cases h
    exact e_lenSetT hm hm2 hc ha hh.1 hh.2 hg hg2 na
  · cases h
theorem g_listRg {r : List Int} (hm : X.mg "list" = none) (hm2 : X.mg "range" = none) (hc : X.calm = true) (ha : Ev X H0 Oc Γ a (.va (.int i))) (h : lrngO i = some r) (h0 : 0 ≤ i) (hg : Gl X "list" := by rfl) (hg2 : Gl X "range" := by rfl)
    (he : starEach [.Call (.Name "range" p2) [a] [] p3] X.env = (false, eval (.Call (.Name "range" p2) [a] [] p3) X.env) :: starEach [] X.env := by rfl) (he2 : starEach [a] X.env = (false, eval a X.env) :: starEach [] X.env := by rfl) :
    Ev X H0 Oc Γ (.Call (.Name "list" p) [.Call (.Name "range" p2) [a] [] p3] [] pos) (.ow (.lst (r.map .int))) := by
  unfold lrngO at h
  split at h
  · cases h
    obtain ⟨n, rfl⟩ : ∃ n : Nat, i = (n : Int) := ⟨i.toNat, by omega⟩
    have := e_listRg (p := p) (p2 := p2) (pos2 := p3) (pos := pos) hm hm2 hc ha (by omega) hg hg2 he he2
    unfold irange
    rw [List.map_map, Int.toNat_natCast]
    exact this
  · cases h
/-! membership -/
theorem g_in [DecidableEq α] (hu : X.A.units + 65 < cLine) (h : EqC f) (n : Nat) (hk : ∀ x, okN n (f x)) (hn : n + 1 ≤ 64) (x : α) (xs : List α) : C2 X H0 Oc .In (.bw (f x)) (.bw (.lst (xs.map f))) (memB x xs) := c_in hu h n hk hn x xs
theorem g_nin [DecidableEq α] (hu : X.A.units + 65 < cLine) (h : EqC f) (n : Nat) (hk : ∀ x, okN n (f x)) (hn : n + 1 ≤ 64) (x : α) (xs : List α) : C2 X H0 Oc .NotIn (.bw (f x)) (.bw (.lst (xs.map f))) (!memB x xs) := c_nin hu h n hk hn x xs
theorem memI (x : Int) (xs : List Int) : decide (x ∈ xs) = memB x xs := by
  unfold memB
  exact decide_eq_decide.mpr Iff.rfl
theorem g_inLI (x : Int) (ns : List Int) : C2 X H0 Oc .In (.va (.int x)) (.bw (.lst (ns.map .int))) (memB x ns) := memI x ns ▸ c_inLI x ns
theorem g_ninLI (x : Int) (ns : List Int) : C2 X H0 Oc .NotIn (.va (.int x)) (.bw (.lst (ns.map .int))) (!memB x ns) := memI x ns ▸ c_ninLI x ns
theorem g_inTI (x : Int) (ns : List Int) : C2 X H0 Oc .In (.va (.int x)) (.bw (encT ns)) (memB x ns) := memI x ns ▸ c_inTI x ns
theorem g_eq [DecidableEq α] (hu : X.A.units + 64 < cLine) (h : EqC f) (n : Nat) (hk : ∀ x, okN n (f x)) (hn : n ≤ 64) (x y : α) : C2 X H0 Oc .Eq (.bw (f x)) (.bw (f y)) (eqB x y) := c_eq hu h n hk hn x y
theorem g_ne [DecidableEq α] (hu : X.A.units + 64 < cLine) (h : EqC f) (n : Nat) (hk : ∀ x, okN n (f x)) (hn : n ≤ 64) (x y : α) : C2 X H0 Oc .NotEq (.bw (f x)) (.bw (f y)) (!eqB x y) := c_ne hu h n hk hn x y
/-! None -/
theorem isN_eO {g : α → D} (hg : ∀ v, isN (g v) = false) (x : Option α) : isN (eO g x) = x.isNone := by
  cases x with
  | none => rfl
  | some v => exact hg v
theorem ev_isO {g : α → D} {x : Option α} (ha : Ev X H0 Oc Γ a (.bw (eO g x))) (hg : ∀ v, isN (g v) = false := by intro _; rfl) {k pos'} : Ev X H0 Oc Γ (.Compare a [.Is] [.Constant .none k pos'] pos) (.va (.bl x.isNone)) := isN_eO hg x ▸ ev_isN ha
theorem et_isO {g : α → D} {x : Option α} (ha : Ev X H0 Oc Γ a (.bw (eO g x))) (hg : ∀ v, isN (g v) = false := by intro _; rfl) {k pos'} : Et X H0 Oc Γ (.Compare a [.Is] [.Constant .none k pos'] pos) x.isNone := isN_eO hg x ▸ et_isN ha
theorem et_notO {g : α → D} {x : Option α} (ha : Ev X H0 Oc Γ a (.bw (eO g x))) (hg : ∀ v, isN (g v) = false := by intro _; rfl) {k pos'} : Et X H0 Oc Γ (.Compare a [.IsNot] [.Constant .none k pos'] pos) (!x.isNone) := isN_eO hg x ▸ et_notN ha
/-! own classes: in -/
theorem g_ownIn {q : Bool} {k : Nat} (F : MtG X.prog X.w X.K X.mg X.base C "__contains__" k ps P) (hr : Room k X.A) (hp : P Γ' (.ret (.va (.bl q)))) (hw : Blw [s2.arg, s1.arg] Γ') (h2 : s2.dat = some (.obj C ns ds) := by rfl) : C2 X H0 Oc .In s1 s2 q := by
  obtain ⟨fi, fd, Fi, hM, hbd⟩ := F.ex
  refine ⟨_, Own.op_ownIn (E := E0) hM.at_ hM.fn Fi hr hbd passLN, fun G S H v w Q ⟨O, W⟩ kk => ?_⟩
  obtain ⟨r2, dx2, fs2, rfl, g2, g3, g4⟩ := (W.head.b W.ex h2 : RepB _ _ _ (.obj C ns ds) w)
  refine ⟨r2, dx2, fs2, rfl, g2, O, Γ', _, hp, ?_, fun u H' w3 => ?_⟩
  · exact (W.callee (ss := [s2, s1]) (vs := [.ref r2, v]) ⟨_, _, rfl, W.head, _, _, rfl, W.pop.head, rfl⟩).blw hw
  · have w4 := W.pop.pop.after w3 rfl
    obtain ⟨O4, w5⟩ := w4
    obtain ⟨u', e, r⟩ := w5.head
    cases e
    exact ⟨q, r, kk H' ⟨O4, w5.pop⟩⟩
theorem g_ownNin {q : Bool} {k : Nat} (F : MtG X.prog X.w X.K X.mg X.base C "__contains__" k ps P) (hr : Room k X.A) (hp : P Γ' (.ret (.va (.bl q)))) (hw : Blw [s2.arg, s1.arg] Γ') (h2 : s2.dat = some (.obj C ns ds) := by rfl) : C2 X H0 Oc .NotIn s1 s2 (!q) := by
  obtain ⟨fi, fd, Fi, hM, hbd⟩ := F.ex
  refine ⟨_, Own.op_ownNotIn (E := E0) hM.at_ hM.fn Fi hr hbd passLN, fun G S H v w Q ⟨O, W⟩ kk => ?_⟩
  obtain ⟨r2, dx2, fs2, rfl, g2, g3, g4⟩ := (W.head.b W.ex h2 : RepB _ _ _ (.obj C ns ds) w)
  refine ⟨r2, dx2, fs2, rfl, g2, O, Γ', _, hp, ?_, fun u H' w3 => ?_⟩
  · exact (W.callee (ss := [s2, s1]) (vs := [.ref r2, v]) ⟨_, _, rfl, W.head, _, _, rfl, W.pop.head, rfl⟩).blw hw
  · have w4 := W.pop.pop.after w3 rfl
    obtain ⟨O4, w5⟩ := w4
    obtain ⟨u', e, r⟩ := w5.head
    cases e
    exact ⟨q, r, kk H' ⟨O4, w5.pop⟩⟩
theorem c_ninTI (x : Int) (ns : List Int) : C2 X H0 Oc .NotIn (.va (.int x)) (.bw (encT ns)) (!decide (x ∈ ns)) := ⟨_, op_notIn_seq, fun G S H v w Q ⟨O, W⟩ q => by
  obtain ⟨r1, r2⟩ := vb2 W
  obtain ⟨pp, vs, rfl, h1, h2⟩ := r2
  obtain rfl : v = .int x := r1
  have e := Reps.ints h2
  subst e
  refine ⟨pp, _, rfl, .inr (.of h1), rfl, flat_ints ns, ?_⟩
  show Q (.bl (!inV (.int x) (ns.map V.int))) H
  rw [inV_ints]
  exact q H ⟨O, W.pop.pop⟩⟩
theorem g_ninTI (x : Int) (ns : List Int) : C2 X H0 Oc .NotIn (.va (.int x)) (.bw (encT ns)) (!memB x ns) := memI x ns ▸ c_ninTI x ns
/-! within an except suite -/
theorem g_callHot {k : Nat} {p : Pos} (hot : L2H.HotC X) (F : FnGH X.prog X.w X.K X.mg X.base x k ps P) (hr : L2H.RoomH k X.A) (ha : Ea X H0 Oc Γ (e :: es) ss) (hp : P Γ' (.ret s)) (hw : Blw (ss.map Sl.arg) Γ') (hs : s.res = true := by rfl) (hg : Gl X x := by rfl) (hdb : (x == ("__debug__" : Str)) = false := by decide)
    (he : starEach (e :: es) X.env = (false, eval e X.env) :: starEach es X.env := by rfl) (hpl : (backTo pos (starEach es X.env)).any (·.1) = false := by rfl) : Ev X H0 Oc Γ (.Call (.Name x p) (e :: es) [] pos) s := fun Δ τ σ H Q hl W q => by
  obtain ⟨f, fd, F, hm, hk, hb⟩ := F.ex
  refine wpE.of (L2H.pe_callH (E := fun _ => E0) F hr hot hg hm hk hb (fun σ pins H s e s' I c => (passLN (X := X)) pins σ H s e s' I c) pa_wp hdb he hpl) ?_
  refine ha Δ τ σ H _ hl W fun vs O H1 W1 ok => ?_
  exact ⟨O, _, _, hp, (W1.callee ok).blw hw, fun v H' W2 => q v H' (W1.after W2 hs)⟩
theorem hu64s {X : Cx} {k : Nat} {a : Addr} {q : List (Addr × Obj)} (hr : Room k X.A) : (X.suite a q).A.units + 64 < cLine := by have h : X.A.units + 64 < cLine := hu64 hr; exact h
theorem hu65s {X : Cx} {k : Nat} {a : Addr} {q : List (Addr × Obj)} (hr : Room k X.A) : (X.suite a q).A.units + 65 < cLine := by have h : X.A.units + 65 < cLine := hu65 hr; exact h
theorem hu1s {X : Cx} {k : Nat} {a : Addr} {q : List (Addr × Obj)} (hr : Room k X.A) : (X.suite a q).A.units + 1 < cLine := by have h : X.A.units + 1 < cLine := hu1 hr; exact h
/-! methods that raise -/
def tMethS (C : Addr) (m : Str) (sp : Sp) (E : L2.St → XK) (ta : TE) (t : TA) : TE := fun σ H Q => ta σ H fun x H1 => ∃ a dx fs, x = .ref a ∧ H1 a = some (.ins C dx fs) ∧ fs.lookup m = none ∧ t σ H1 fun vs H2 => sp (x :: vs) H2 Q (E σ)
theorem pe_methSx {CX : CXT} {k : Nat} {f : Addr} {fd : FuncData} {sp : Sp} {E : L2.St → XK} {ta : TE} {t : TA} {pl : Sem Bool} (he : PE X o ta) (c : Cls X.K C) (hm : Meth X.K C m f) (F : FnOk X.prog X.w X.K X.mg X.base CX k f fd ps sp) (hr : Room k X.A) (hb : L2.Binds X.K fd ps []) (hx : ∀ σ, PassesAt CX X σ (E σ)) (ha : PA X (e :: es) t)
    (hst : starEach (e :: es) X.env = (false, eval e X.env) :: starEach es X.env) (hpl : (backTo pos (starEach es X.env)).any (·.1) = false)
    (ht : eval (.Call (.Attribute o m apos) (e :: es) [] pos) X.env = (do
      let ov ← eval o X.env
      standAt apos.atName
      let (f, first) ← holding [ov] (getMethod ov m pl)
      callWith pos f first (backTo pos (starEach (e :: es) X.env)) (backToKw pos (keywordEach [] X.env)))) :
    PE X (.Call (.Attribute o m apos) (e :: es) [] pos) (tMethS C m sp E ta t) := by
  refine ⟨fun pins s σ H Q I h => ?_⟩
  refine PySem.W.methodCall_KW (pl := pl) (thn (he.run pins s σ H _ I h) fun u s1 ⟨x, H1, I1, rx, a, dx, fs, ex, ea, l, q⟩ => ?_) ht
  subst ex
  obtain rfl : u = Value.ref a := rx
  refine getmeth_ok I1 ea c hm l ?_
  refine PySem.W.callWith_K (first := [.ref a]) (h₀ := X.base) I.ok.mod.kin hm.kp (thn (ha.run pos pins s1 σ H1 _ I1 q) fun us s2 ⟨vs, H2, I2, r, q2⟩ => ⟨I2.kIn, ?_⟩) hst hpl
  exact run_fnS (us := .ref a :: us) (vs := .ref a :: vs) F hr hb (hx σ) I2 (.cons rfl r) q2
theorem pe_methSx0 {CX : CXT} {k : Nat} {f : Addr} {fd : FuncData} {sp : Sp} {E : L2.St → XK} {ta : TE} {pl : Sem Bool} (he : PE X o ta) (c : Cls X.K C) (hm : Meth X.K C m f) (F : FnOk X.prog X.w X.K X.mg X.base CX k f fd ps sp) (hr : Room k X.A) (hb : L2.Binds X.K fd ps []) (hx : ∀ σ, PassesAt CX X σ (E σ))
    (ht : eval (.Call (.Attribute o m apos) [] [] pos) X.env = (do
      let ov ← eval o X.env
      standAt apos.atName
      let (f, first) ← holding [ov] (getMethod ov m pl)
      callWith pos f first (backTo pos (starEach [] X.env)) (backToKw pos (keywordEach [] X.env)))) :
    PE X (.Call (.Attribute o m apos) [] [] pos) (tMethS C m sp E ta tNil) := by
  refine ⟨fun pins s σ H Q I h => ?_⟩
  refine PySem.W.methodCall_KW (pl := pl) (thn (he.run pins s σ H _ I h) fun u s1 ⟨x, H1, I1, rx, a, dx, fs, ex, ea, l, q⟩ => ?_) ht
  subst ex
  obtain rfl : u = Value.ref a := rx
  refine getmeth_ok I1 ea c hm l ?_
  exact PySem.W.callWith_K0 (first := [.ref a]) I1.kIn hm.kp (run_fnS (us := [.ref a]) (vs := [.ref a]) F hr hb (hx σ) I1 (.cons rfl .nil) q)
theorem gx_meth {k : Nat} {Γe : Option (List Sl)} {xs : List Str} {pl : Sem Bool} (tk : L2N.Takes X W) (c : Cls X.K C) (F : MtG X.prog X.w X.K X.mg X.base C m k ps P) (hr : Room k X.A) (ho : Ev X H0 Oc Γ o s0) (ha : Ea X H0 Oc Γ (e :: es) ss) (hp : P Γ' (.exc C1 xs ds1 Γe)) (hw : Blw (s0.arg :: ss.map Sl.arg) Γ') (hd : s0.dat = some (.obj C ns ds) := by rfl) (hn : m ∉ ns := by decide)
    (hst : starEach (e :: es) X.env = (false, eval e X.env) :: starEach es X.env := by rfl) (hpl : (backTo pos (starEach es X.env)).any (·.1) = false := by rfl)
    (ht : eval (.Call (.Attribute o m apos) (e :: es) [] pos) X.env = (do
      let ov ← eval o X.env
      standAt apos.atName
      let (f, first) ← holding [ov] (getMethod ov m pl)
      callWith pos f first (backTo pos (starEach (e :: es) X.env)) (backToKw pos (keywordEach [] X.env))) := by rfl) : Exx X W H0 Oc Γ (.Call (.Attribute o m apos) (e :: es) [] pos) C1 xs ds1 := fun Δ τ σ H Q hl w q => by
  obtain ⟨f, fd, F, hm, hb⟩ := F.ex
  refine wpE.of (pe_methSx (pl := pl) (E := WE W) pe_wp c hm F hr hb (fun σ => L2N.passAt tk σ) pa_wp hst hpl ht) ?_
  refine ho Δ τ σ H _ hl w fun v H1 W1 => ?_
  obtain ⟨O1, W1'⟩ := id W1
  obtain ⟨r, dx, fs, rfl, h2, h3, h4⟩ := (W1'.head.b W1'.ex hd : RepB _ _ _ (.obj C ns ds) v)
  refine ⟨r, dx, fs, rfl, h2, ?_, ?_⟩
  · cases q : fs.lookup m with
    | none => rfl
    | some z =>
      refine absurd ?_ hn
      rw [← h3]
      exact List.mem_map_of_mem (f := (·.1)) (PySem.mem_of_lookup q)
  · refine ha (s0 :: Δ) (some (.ref r) :: τ) σ H1 _ (by simp [hl]) W1 fun vs O H2 W2 ok => ?_
    exact ⟨O, Γ', _, hp, (W2.callee (ss := s0 :: ss) (vs := .ref r :: vs) ⟨_, _, rfl, W2.head, ok⟩).blw hw, fun d H' W3 => q d H' (W2.pop.after W3 rfl)⟩
theorem gx_meth0 {k : Nat} {Γe : Option (List Sl)} {xs : List Str} {pl : Sem Bool} (tk : L2N.Takes X W) (c : Cls X.K C) (F : MtG X.prog X.w X.K X.mg X.base C m k ps P) (hr : Room k X.A) (ho : Ev X H0 Oc Γ o s0) (hp : P Γ' (.exc C1 xs ds1 Γe)) (hw : Blw [s0.arg] Γ') (hd : s0.dat = some (.obj C ns ds) := by rfl) (hn : m ∉ ns := by decide)
    (ht : eval (.Call (.Attribute o m apos) [] [] pos) X.env = (do
      let ov ← eval o X.env
      standAt apos.atName
      let (f, first) ← holding [ov] (getMethod ov m pl)
      callWith pos f first (backTo pos (starEach [] X.env)) (backToKw pos (keywordEach [] X.env))) := by rfl) : Exx X W H0 Oc Γ (.Call (.Attribute o m apos) [] [] pos) C1 xs ds1 := fun Δ τ σ H Q hl w q => by
  obtain ⟨f, fd, F, hm, hb⟩ := F.ex
  refine wpE.of (pe_methSx0 (pl := pl) (E := WE W) pe_wp c hm F hr hb (fun σ => L2N.passAt tk σ) ht) ?_
  refine ho Δ τ σ H _ hl w fun v H1 W1 => ?_
  obtain ⟨O1, W1'⟩ := id W1
  obtain ⟨r, dx, fs, rfl, h2, h3, h4⟩ := (W1'.head.b W1'.ex hd : RepB _ _ _ (.obj C ns ds) v)
  refine ⟨r, dx, fs, rfl, h2, ?_, ?_⟩
  · cases q : fs.lookup m with
    | none => rfl
    | some z =>
      refine absurd ?_ hn
      rw [← h3]
      exact List.mem_map_of_mem (f := (·.1)) (PySem.mem_of_lookup q)
  · exact ⟨O1, Γ', _, hp, (W1'.callee (ss := [s0]) (vs := [.ref r]) ⟨_, _, rfl, W1'.head, rfl⟩).blw hw, fun d H' W3 => q d H' (W1'.pop.after W3 rfl)⟩
/-! a test a <= b < c -/
theorem et_lelt (ha : Ev X H0 Oc Γ a (.va (.int i))) (hb : Ev X H0 Oc Γ b (.va (.int j))) (hc : Ev X H0 Oc Γ c (.va (.int k))) (hm : lastMarks [.LtE, .Lt] [b, c] = false := by with_unfolding_all rfl)
    (he : ∀ whole, isTrue (.Compare a [.LtE, .Lt] [b, c] pos) X.env whole = (do let v ← whole; standAt (Expr.Compare a [.LtE, .Lt] [b, c] pos).pos; holding [v] (truthy v)) := by intro _; rfl) : Et X H0 Oc Γ (.Compare a [.LtE, .Lt] [b, c] pos) (decide (i ≤ j) && decide (j < k)) := et_val (ev_lelt ha hb hc hm) he
/-! targets of three names -/
end
end Y

namespace Y
open PySem L2
inductive Exc where
  | BadKind (index_ : Int)
  | BadRule (index_ : Int)
  | NotAnAnswer (setting_ : List Int)
  | TooMany (limit_ : Int)
structure C_World where
  f_size : Int
structure C_Kind where
  f_name : Str
  f_width : Int
  f_tuples : List (List Int)
  f_grouped : List ((List Int) × (List (List Int)))
structure C_Rules where
  f_size : Int
  f_rules : List (C_Kind × (List Int))
  f_on_letter : List (List Int)
def m_law_draw (cell : Int) (bases : List Int) : Option (List Int) :=
  bnd (([] : List Int)) fun drawn_1 =>
  if (decide ((1000000000000000000 : Int) ≤ cell)) = true then (bnd ((cell - (1000000000000000000 : Int))) fun rest_2 =>
  (foldO (fun (st_3 : (List Int) × Int) (b_4 : Int) => (modO st_3.2 b_4).bind fun d_7 =>
  (appO st_3.1 d_7).bind fun drawn_8 =>
  (divO st_3.2 b_4).bind fun d_9 =>
  some (drawn_8, d_9)) (drawn_1, rest_2) bases).bind fun st_5 =>
  some st_5.1)
  else (bnd ((cell % (2147483647 : Int))) fun state_10 =>
  (foldO (fun (st_11 : (List Int) × Int) (b_12 : Int) => bnd ((((st_11.2 * (48271 : Int)) + (12345 : Int)) % (2147483647 : Int))) fun state_15 =>
  (modO (state_15 / (64 : Int)) b_12).bind fun d_16 =>
  (appO st_11.1 d_16).bind fun drawn_17 =>
  some (drawn_17, state_15)) (drawn_1, state_10) bases).bind fun st_13 =>
  some st_13.1)

def m_law_picked (digits : List Int) (size : Int) : Option (List Int) :=
  (rngO size).bind fun rg_1 =>
  (mapO (fun (b_2 : Int) => some b_2) rg_1).bind fun ys_3 =>
  bnd (([] : List Int)) fun chosen_4 =>
  (foldO (fun (st_5 : (List Int) × (List Int)) (b_6 : Int) => (modO b_6 (st_5.1.length : Int)).bind fun d_9 =>
  (ixO st_5.1 d_9).bind fun i_10 =>
  (appO st_5.2 i_10).bind fun chosen_11 =>
  (catO (cutD st_5.1 none (some d_9)) (cutD st_5.1 (some (d_9 + (1 : Int))) none)).bind fun c_12 =>
  some (c_12, chosen_11)) (ys_3, chosen_4) digits).bind fun st_7 =>
  some st_7.2

def m_law_some (cell : Int) (size : Int) (count : Int) : Option (List Int) :=
  (repO ([(360360 : Int)] : List Int) count).bind fun c_1 =>
  (m_law_draw cell c_1).bind fun draw_2 =>
  m_law_picked draw_2 size

def m_are_letters (letters : List Int) (width : Int) (size : Int) : Option Bool :=
  (if (!decide ((letters.length : Int) = width)) = true then some true else ((setLenO letters).bind fun n_1 =>
  some ((!decide (n_1 = width))))).bind fun q_2 =>
  if q_2 = true then (some false)
  else ((mapO (fun (b_3 : Int) => some (decide ((0 : Int) ≤ b_3) && decide (b_3 < size))) letters).bind fun ys_4 =>
  some (List.all ys_4 id))

def m_World_init (size : Int) : Option C_World :=
  some (C_World.mk size)

def m_Rules_init (size : Int) (rules : List (C_Kind × (List Int))) : Option (Rs Exc C_Rules) :=
  if ((decide (size < (0 : Int))) || ((decide ((14 : Int) < size)) || (decide ((80 : Int) < (rules.length : Int))))) = true then (some (.exc (Exc.BadRule (-1 : Int))))
  else (bnd (([] : List (Str × C_Kind))) fun known_1 =>
  thenI (runF (ε := Exc) (ρ := Empty) (fun (st_2 : (List (Str × C_Kind))) (b_3 : Int × (C_Kind × (List Int))) => (m_are_letters b_3.2.2 b_3.2.1.f_width size).bind fun areletters_6 =>
  if (!areletters_6) = true then (some (.exc (Exc.BadRule b_3.1)))
  else ((dsetdO st_2 b_3.2.1.f_name b_3.2.1).bind fun sd_7 =>
  if ((!decide (sd_7.2.f_width = b_3.2.1.f_width)) || (!eqB sd_7.2.f_tuples b_3.2.1.f_tuples)) = true then (some (.exc (Exc.BadRule b_3.1)))
  else (some (.nx sd_7.1)))) known_1 (enumI rules)) fun st_4 =>
  (m_World_init size).bind fun base_8 =>
  (mapO (fun (b_9 : C_Kind × (List Int)) => some (b_9.1, b_9.2)) rules).bind fun ys_10 =>
  (rngO size).bind fun rg_11 =>
  (mapO (fun (b_12 : Int) => fmapO (fun (b_13 : Int × (C_Kind × (List Int))) => if (memB b_12 b_13.2.2) = true then (some (some b_13.1)) else some none) (enumI rules)) rg_11).bind fun ys_15 =>
  some (.ret (C_Rules.mk base_8.f_size ys_10 ys_15)))

def m_check_width (width : Int) : Option (Rs Exc Unit) :=
  if ((decide (width < (1 : Int))) || (decide ((4 : Int) < width))) = true then (some (.exc (Exc.BadKind (-1 : Int))))
  else (some (.ret ()))

def m_flipped (setting : List Int) (positions : List Int) : Option (List Int) :=
  (foldO (fun (st_1 : (List Int)) (b_2 : Int) => (ixO st_1 b_2).bind fun i_5 =>
  setO st_1 b_2 ((1 : Int) - i_5)) setting positions).bind fun st_3 =>
  some st_3

def m_piece_around (values : List Int) (tuples : List (List Int)) : Option (List (List Int)) :=
  bnd (([values] : List (List Int))) fun reached_1 =>
  (whileO (fun (st_2 : (List (List Int)) × Int) => some (decide (st_2.2 < (st_2.1.length : Int)))) (fun (st_2 : (List (List Int)) × Int) => (rngO (values.length : Int)).bind fun rg_6 =>
  (foldO (fun (st_7 : (List (List Int))) (b_8 : Int) => (ixO st_7 st_2.2).bind fun i_11 =>
  (m_flipped i_11 ([b_8] : List Int)).bind fun flipped_12 =>
  if ((memB flipped_12 tuples) && (!memB flipped_12 st_7)) = true then (appO st_7 flipped_12)
  else (some st_7)) st_2.1 rg_6).bind fun st_9 =>
  some (st_9, (st_2.2 + (1 : Int)))) 1000000 (reached_1, (0 : Int))).bind fun st_4 =>
  sortO (fun x => x) st_4.1

def m_grouped_by_piece (tuples : List (List Int)) : Option (List ((List Int) × (List (List Int)))) :=
  bnd (([] : List ((List Int) × (List (List Int))))) fun grouped_1 =>
  (foldO (fun (st_2 : (List ((List Int) × (List (List Int))))) (b_3 : List Int) => if (!dhas st_2 b_3) = true then ((m_piece_around b_3 tuples).bind fun piecearound_6 =>
  (foldO (fun (st_7 : (List ((List Int) × (List (List Int))))) (b_8 : List Int) => dputO st_7 b_8 piecearound_6) st_2 piecearound_6).bind fun st_9 =>
  some st_9)
  else (some st_2)) grouped_1 tuples).bind fun st_4 =>
  some st_4

def m_is_name (text : Str) : Option Bool :=
  (slenO text).bind fun n_1 =>
  (if (decide (n_1 < (1 : Int))) = true then some true else ((slenO text).bind fun n_2 =>
  some ((decide ((12 : Int) < n_2))))).bind fun q_3 =>
  if q_3 = true then (some false)
  else ((mapO (fun (b_4 : Str) => strInO b_4 ("abcdefghijklmnopqrstuvwxyz" : Str)) (chars text)).bind fun ys_6 =>
  some (List.all ys_6 id))

def m_is_binary (setting : List Int) (size : Int) : Option Bool :=
  if (decide ((setting.length : Int) = size)) = true then ((mapO (fun (b_1 : Int) => some ((decide (b_1 = (0 : Int))) || (decide (b_1 = (1 : Int))))) setting).bind fun ys_2 =>
  some ((List.all ys_2 id))) else some false

def m_Kind_init (name : Str) (width : Int) (tuples : List (List Int)) : Option (Rs Exc C_Kind) :=
  (m_is_name name).bind fun isname_1 =>
  if (!isname_1) = true then (some (.exc (Exc.BadKind (-1 : Int))))
  else (tryR (m_check_width width) (fun u_2 => bnd (([] : List ((List Int) × Int))) fun known_4 =>
  thenI (runF (ε := Exc) (ρ := Empty) (fun (st_5 : (List ((List Int) × Int))) (b_6 : Int × (List Int)) => (m_is_binary b_6.2 width).bind fun isbinary_9 =>
  if ((!isbinary_9) || (dhas st_5 b_6.2)) = true then (some (.exc (Exc.BadKind b_6.1)))
  else ((dputO st_5 b_6.2 b_6.1).bind fun known_10 =>
  some (.nx known_10))) known_4 (enumI tuples)) fun st_7 =>
  (sortO (fun x => x) (dkeys st_7)).bind fun so_11 =>
  (m_grouped_by_piece so_11).bind fun groupedbypiece_12 =>
  some (.ret (C_Kind.mk name width so_11 groupedbypiece_12))) (fun e_3 => some (.exc e_3)))

def m_law_world (size : Int) (rules : List ((List Int) × (List (List Int)))) : Option C_Rules :=
  bnd (("abcdefghijkl" : Str)) fun names_1 =>
  bnd (([] : List (C_Kind × (List Int)))) fun passed_2 =>
  (rngO (rules.length : Int)).bind fun rg_3 =>
  (foldO (fun (st_4 : (List (C_Kind × (List Int)))) (b_5 : Int) => (six names_1 b_5).bind fun ch_8 =>
  (ixO rules b_5).bind fun i_9 =>
  (ixO rules b_5).bind fun i_10 =>
  (okO (m_Kind_init ch_8 (i_9.1.length : Int) i_10.2)).bind fun Kind_11 =>
  (ixO rules b_5).bind fun i_12 =>
  appO st_4 (Kind_11, i_12.1)) passed_2 rg_3).bind fun st_6 =>
  okO (m_Rules_init size st_6)

def m_law_tuples (width : Int) : Option (List (List Int)) :=
  bnd (([([] : List Int)] : List (List Int))) fun rows_1 =>
  (rngO width).bind fun rg_2 =>
  (foldO (fun (st_3 : (List (List Int))) (b_4 : Int) => (mapO (fun (b_7 : List Int) => catO b_7 ([(0 : Int)] : List Int)) st_3).bind fun ys_9 =>
  (mapO (fun (b_10 : List Int) => catO b_10 ([(1 : Int)] : List Int)) st_3).bind fun ys_12 =>
  catO ys_9 ys_12) rows_1 rg_2).bind fun st_5 =>
  some st_5

def m_law_values_v2 (setting : List Int) (letters : List Int) : Option (List Int) :=
  mapO (fun (b_1 : Int) => ixO setting b_1) letters

def m_law_keeps (setting : List Int) (rules : List ((List Int) × (List (List Int)))) : Option Bool :=
  (mapO (fun (b_1 : (List Int) × (List (List Int))) => (m_law_values_v2 setting b_1.1).bind fun values_2 =>
  some (memB values_2 b_1.2)) rules).bind fun ys_3 =>
  some (List.all ys_3 id)

def m_law_due (setting : List Int) (rules : List ((List Int) × (List (List Int)))) (letters : List Int) : Option Bool :=
  (m_law_tuples (letters.length : Int)).bind fun tuples_1 =>
  thenO (runF (ε := Exc) (ρ := Bool) (fun (st_2 : Unit) (b_3 : List Int) => (rngO (letters.length : Int)).bind fun rg_6 =>
  (foldO (fun (st_7 : (List Int)) (b_8 : Int) => (ixO b_3 b_8).bind fun i_11 =>
  if (decide (i_11 = (1 : Int))) = true then ((ixO letters b_8).bind fun i_12 =>
  (ixO st_7 i_12).bind fun i_13 =>
  (ixO letters b_8).bind fun i_14 =>
  setO st_7 i_14 ((1 : Int) - i_13))
  else (some st_7)) setting rg_6).bind fun st_9 =>
  (m_law_keeps st_9 rules).bind fun keeps_16 =>
  if (!keeps_16) = true then (some (.ret false))
  else (some (.nx ()))) () tuples_1) fun st_4 =>
  some true

def m_law_values_v3 (setting : List Int) (letters : List Int) : Option (List Int) :=
  mapO (fun (b_1 : Int) => ixO setting b_1) letters

def m_law_keeps_v2 (setting : List Int) (rules : List ((List Int) × (List (List Int)))) : Option Bool :=
  (mapO (fun (b_1 : (List Int) × (List (List Int))) => (m_law_values_v3 setting b_1.1).bind fun values_2 =>
  some (memB values_2 b_1.2)) rules).bind fun ys_3 =>
  some (List.all ys_3 id)

def m_law_wrong_settings (setting : List Int) (rules : List ((List Int) × (List (List Int)))) (at_ : Int) : Option (List (List Int)) :=
  (catO setting ([(0 : Int)] : List Int)).bind fun c_1 =>
  (catO (cutD setting none (some at_)) ([(2 : Int)] : List Int)).bind fun c_2 =>
  (catO c_2 (cutD setting (some (at_ + (1 : Int))) none)).bind fun c_3 =>
  bnd (([c_1, (cutD setting none (some (-1 : Int))), c_3] : List (List Int))) fun wrong_4 =>
  (rngO (setting.length : Int)).bind fun rg_5 =>
  (foldO (fun (st_6 : (List (List Int))) (b_7 : Int) => (ixO setting b_7).bind fun i_10 =>
  (catO (cutD setting none (some b_7)) ([((1 : Int) - i_10)] : List Int)).bind fun c_11 =>
  (catO c_11 (cutD setting (some (b_7 + (1 : Int))) none)).bind fun c_12 =>
  (if (decide ((st_6.length : Int) = (3 : Int))) = true then ((m_law_keeps_v2 c_12 rules).bind fun keeps_13 =>
  some ((!keeps_13))) else some false).bind fun q_14 =>
  if q_14 = true then (appO st_6 c_12)
  else (some st_6)) wrong_4 rg_5).bind fun st_8 =>
  some st_8

def m_Rules_at_rule (self : C_Rules) (index : Int) (setting : List Int) : Option (List Int) :=
  (ixO self.f_rules index).bind fun i_1 =>
  mapO (fun (b_2 : Int) => ixO setting b_2) i_1.2

def m_Kind_contains (self : C_Kind) (values : List Int) : Option Bool :=
  some (dhas self.f_grouped values)

def m_Rules_broken (self : C_Rules) (setting : List Int) : Option Int :=
  thenO (runF (ε := Exc) (ρ := Int) (fun (st_1 : Unit) (b_2 : Int × (C_Kind × (List Int))) => (m_Rules_at_rule self b_2.1 setting).bind fun atrule_5 =>
  (m_Kind_contains b_2.2.1 atrule_5).bind fun contains_6 =>
  if (!contains_6) = true then (some (.ret b_2.1))
  else (some (.nx ()))) () (enumI self.f_rules)) fun st_3 =>
  some (-1 : Int)

def m_Rules_is_answer (self : C_Rules) (setting : List Int) : Option Bool :=
  (m_is_binary setting self.f_size).bind fun isbinary_1 =>
  if isbinary_1 = true then ((m_Rules_broken self setting).bind fun broken_2 =>
  some ((decide (broken_2 = (-1 : Int))))) else some false

def m_check_answer (world : C_Rules) (setting : List Int) : Option (Rs Exc Unit) :=
  (m_Rules_is_answer world setting).bind fun isanswer_1 =>
  if (!isanswer_1) = true then (some (.exc (Exc.NotAnAnswer setting)))
  else (some (.ret ()))

def m_all_binary (size : Int) : Option (List (List Int)) :=
  bnd (([([] : List Int)] : List (List Int))) fun rows_1 =>
  (rngO size).bind fun rg_2 =>
  (foldO (fun (st_3 : (List (List Int))) (b_4 : Int) => flat2 (fun (b_7 : List Int) => some [(0 : Int), (1 : Int)]) (fun (b_7 : List Int) (c_8 : Int) => (catO b_7 ([c_8] : List Int)).bind fun c_9 =>
  some (some c_9)) st_3) rows_1 rg_2).bind fun st_5 =>
  some st_5

def m_any_order (rules : C_Rules) (setting : List Int) (letters : List Int) : Option (Rs Exc Bool) :=
  tryR (m_check_answer rules setting) (fun u_1 => if (decide ((8 : Int) < (letters.length : Int))) = true then (some (.exc (Exc.TooMany (8 : Int))))
  else ((m_all_binary (letters.length : Int)).bind fun allbinary_3 =>
  thenR (runF (ε := Exc) (ρ := Bool) (fun (st_4 : Unit) (b_5 : List Int) => (fmapO (fun (b_8 : Int × Int) => if (decide (b_8.2 = (1 : Int))) = true then (some (some b_8.1)) else some none) (List.zip letters b_5)).bind fun ys_9 =>
  (m_flipped setting ys_9).bind fun flipped_10 =>
  (m_Rules_is_answer rules flipped_10).bind fun isanswer_11 =>
  if (!isanswer_11) = true then (some (.ret false))
  else (some (.nx ()))) () allbinary_3) fun st_6 =>
  some (.ret true))) (fun e_2 => some (.exc e_2))

def m_law_told (world : C_Rules) (setting : List Int) (letters : List Int) (due : Bool) : Option Bool :=
  (okO (m_any_order world setting letters)).bind fun anyorder_1 =>
  some (true && ((decide (anyorder_1 = due)) && (eqB letters letters)))

def m_law_cell (script : List Int) (k : Int) : Option Int :=
  if (decide (k < (script.length : Int))) = true then (ixO script k)
  else (if (decide ((0 : Int) < (script.length : Int))) = true then ((modO k (script.length : Int)).bind fun d_2 =>
  (ixO script d_2).bind fun i_3 =>
  some (((i_3 % (1000003 : Int)) * (31 : Int)) + k))
  else (some k))

def m_law_values (setting : List Int) (letters : List Int) : Option (List Int) :=
  mapO (fun (b_1 : Int) => ixO setting b_1) letters

def m_law_shown (values : List Int) (own : List Int) (chosen : List Int) (letters : List Int) : Option Bool :=
  (rngO (chosen.length : Int)).bind fun rg_1 =>
  (mapO (fun (b_2 : Int) => (ixO values b_2).bind fun i_3 =>
  (ixO own b_2).bind fun i_4 =>
  if (decide (i_3 = i_4)) = true then some true else ((ixO chosen b_2).bind fun i_5 =>
  some ((memB i_5 letters)))) rg_1).bind fun ys_7 =>
  some (List.all ys_7 id)

def m_law_rule (cell : Int) (size : Int) (setting : List Int) (letters : List Int) (mode : Int) : Option ((List Int) × (List (List Int))) :=
  (repO ([(360360 : Int)] : List Int) (4 : Int)).bind fun c_1 =>
  (catO ([(4 : Int), (16 : Int)] : List Int) c_1).bind fun c_2 =>
  (repO ([(4 : Int)] : List Int) (16 : Int)).bind fun c_3 =>
  (catO c_2 c_3).bind fun c_4 =>
  (m_law_draw cell c_4).bind fun draw_5 =>
  (ixO draw_5 (0 : Int)).bind fun i_6 =>
  (m_law_picked (cutD draw_5 (some (2 : Int)) (some ((2 : Int) + (min size ((1 : Int) + i_6))))) size).bind fun picked_7 =>
  (m_law_values setting picked_7).bind fun values_8 =>
  (m_law_tuples (picked_7.length : Int)).bind fun tuples_9 =>
  (ixO draw_5 (1 : Int)).bind fun i_10 =>
  (modO i_10 (tuples_9.length : Int)).bind fun d_11 =>
  (ixO tuples_9 d_11).bind fun i_12 =>
  bnd (([] : List (List Int))) fun table_13 =>
  (rngO (tuples_9.length : Int)).bind fun rg_14 =>
  (foldO (fun (st_15 : (List (List Int))) (b_16 : Int) => (ixO draw_5 ((6 : Int) + b_16)).bind fun i_19 =>
  bnd ((!decide (i_19 = (0 : Int)))) fun kept_20 =>
  (if (decide ((0 : Int) < mode)) = true then ((ixO tuples_9 b_16).bind fun i_21 =>
  m_law_shown i_21 values_8 picked_7 letters) else some false).bind fun q_23 =>
  (if q_23 = true then (if (decide (mode = (1 : Int))) = true then some true else ((ixO tuples_9 b_16).bind fun i_25 =>
  some ((!eqB i_25 i_12))))
  else (some kept_20)).bind fun (j_24 : Bool) =>
  (if j_24 = true then some true else ((ixO tuples_9 b_16).bind fun i_27 =>
  some ((eqB i_27 values_8)))).bind fun q_28 =>
  if q_28 = true then ((ixO tuples_9 b_16).bind fun i_29 =>
  appO st_15 i_29)
  else (some st_15)) table_13 rg_14).bind fun st_17 =>
  some (picked_7, st_17)

def m_law_refused (world : C_Rules) (setting : List Int) (letters : List Int) (word : Str) : Option Bool :=
  tryR (m_any_order world setting letters) (fun v_1 => some false) (fun e_2 => match e_2 with
  | Exc.BadKind w_3 => none
  | Exc.BadRule w_4 => none
  | Exc.NotAnAnswer w_5 => (some ((decide (word = ("setting" : Str))) && (true && (eqB w_5 setting))))
  | Exc.TooMany w_6 => (some ((decide (word = ("many" : Str))) && (true && ((!false) && (decide (w_6 = (8 : Int))))))))

def m_law (script : List Int) : Option Bool :=
  (m_law_cell script (0 : Int)).bind fun cell_1 =>
  (m_law_draw cell_1 ([4, 6, 6, 6, 7, 3, 9, 360360] : List Int)).bind fun draw_2 =>
  (ixO draw_2 (1 : Int)).bind fun i_3 =>
  bnd (((1 : Int) + i_3)) fun size_4 =>
  (ixO draw_2 (3 : Int)).bind fun i_5 =>
  (ixO draw_2 (0 : Int)).bind fun i_6 =>
  (if (decide (i_6 = (1 : Int))) = true then ((ixO draw_2 (2 : Int)).bind fun i_8 =>
  bnd (((9 : Int) + i_8)) fun size_9 =>
  (ixO draw_2 (4 : Int)).bind fun i_10 =>
  some (i_10, size_9))
  else (some (i_5, size_4))).bind fun (j_7 : Int × Int) =>
  (m_law_cell script (1 : Int)).bind fun cell_11 =>
  (repO ([(2 : Int)] : List Int) j_7.2).bind fun c_12 =>
  (m_law_draw cell_11 c_12).bind fun draw_13 =>
  (m_law_cell script (2 : Int)).bind fun cell_14 =>
  (ixO draw_2 (6 : Int)).bind fun i_15 =>
  (m_law_some cell_14 j_7.2 (min j_7.2 i_15)).bind fun some_16 =>
  (rngO j_7.1).bind fun rg_17 =>
  (mapO (fun (b_18 : Int) => (m_law_cell script ((4 : Int) + b_18)).bind fun cell_19 =>
  (ixO draw_2 (5 : Int)).bind fun i_20 =>
  m_law_rule cell_19 j_7.2 draw_13 some_16 i_20) rg_17).bind fun ys_22 =>
  (m_law_world j_7.2 ys_22).bind fun world_23 =>
  (m_law_due draw_13 ys_22 some_16).bind fun due_24 =>
  (m_law_told world_23 draw_13 some_16 due_24).bind fun told_25 =>
  if (!told_25) = true then (some false)
  else ((m_law_world j_7.2 (cutD ys_22 none (some (-1 : Int)))).bind fun world_26 =>
  (m_law_due draw_13 (cutD ys_22 none (some (-1 : Int))) some_16).bind fun due_27 =>
  (m_law_told world_26 draw_13 some_16 due_27).bind fun told_28 =>
  if (!told_28) = true then (some false)
  else ((m_law_due draw_13 ys_22 (cutD some_16 (some (1 : Int)) none)).bind fun due_29 =>
  (m_law_told world_23 draw_13 (cutD some_16 (some (1 : Int)) none) due_29).bind fun told_30 =>
  if (!told_30) = true then (some false)
  else ((m_law_told world_23 draw_13 (List.reverse some_16) due_24).bind fun told_31 =>
  (if (!told_31) = true then some true else ((m_law_told world_23 draw_13 ([] : List Int) true).bind fun told_32 =>
  some ((!told_32)))).bind fun q_33 =>
  if q_33 = true then (some false)
  else ((ixO draw_2 (7 : Int)).bind fun i_34 =>
  (modO i_34 j_7.2).bind fun d_35 =>
  (m_law_wrong_settings draw_13 ys_22 d_35).bind fun wrongsettings_36 =>
  (mapO (fun (b_37 : List Int) => m_law_refused world_23 b_37 some_16 ("setting" : Str)) wrongsettings_36).bind fun ys_39 =>
  if (!(List.all ys_39 id)) = true then (some false)
  else ((ixO draw_2 (0 : Int)).bind fun i_40 =>
  if (decide (i_40 = (1 : Int))) = true then ((m_law_cell script (3 : Int)).bind fun cell_41 =>
  (m_law_some cell_41 j_7.2 (9 : Int)).bind fun some_42 =>
  (m_law_refused world_23 draw_13 some_42 ("many" : Str)).bind fun refused_43 =>
  if (!refused_43) = true then (some false)
  else ((mapO (fun (b_44 : List Int) => m_law_refused world_23 b_44 some_42 ("setting" : Str)) wrongsettings_36).bind fun ys_46 =>
  if (!(List.all ys_46 id)) = true then (some false)
  else ((m_law_due draw_13 ys_22 (cutD some_42 none (some (8 : Int)))).bind fun due_47 =>
  (m_law_told world_23 draw_13 (cutD some_42 none (some (8 : Int))) due_47).bind fun told_48 =>
  if (!told_48) = true then (some false)
  else (m_law_told world_23 draw_13 some_16 due_24))))
  else (m_law_told world_23 draw_13 some_16 due_24))))))

end Y

namespace Y
open PySem PySem.Spec PyProof.Rows L2
def top (i : Nat) : Stmt := PySem.Challenge.pw_everystepstands_k93_any_order_of_letters.main.body.getD i (.Pass ⟨0, 0, 0, 0⟩)
structure Ad where
  World : Addr
  Kind : Addr
  Rules : Addr
  StepError : Addr
  BadKind : Addr
  BadRule : Addr
  NotAnAnswer : Addr
  TooMany : Addr
abbrev encf_World (A : Ad) (C : Addr) : C_World → D := fun x => .obj C ["size"] [.int x.f_size]
abbrev enc_World (A : Ad) : C_World → D := fun x => .obj A.World ["size"] [.int x.f_size]
abbrev encf_Kind (A : Ad) (C : Addr) : C_Kind → D := fun x => .obj C ["name", "width", "tuples", "grouped"] [.str x.f_name, .int x.f_width, (eL encT) x.f_tuples, (eDT kId (eL encT)) x.f_grouped]
abbrev enc_Kind (A : Ad) : C_Kind → D := fun x => .obj A.Kind ["name", "width", "tuples", "grouped"] [.str x.f_name, .int x.f_width, (eL encT) x.f_tuples, (eDT kId (eL encT)) x.f_grouped]
abbrev encf_Rules (A : Ad) (C : Addr) : C_Rules → D := fun x => .obj C ["size", "rules", "on_letter"] [.int x.f_size, (eL (eP2 (enc_Kind A) encT)) x.f_rules, (eL (eL D.int)) x.f_on_letter]
abbrev enc_Rules (A : Ad) : C_Rules → D := fun x => .obj A.Rules ["size", "rules", "on_letter"] [.int x.f_size, (eL (eP2 (enc_Kind A) encT)) x.f_rules, (eL (eL D.int)) x.f_on_letter]
def xO (A : Ad) : Exc → Addr × List Str × List D
  | .BadKind a => (A.BadKind, ["index"], [.int a])
  | .BadRule a => (A.BadRule, ["index"], [.int a])
  | .NotAnAnswer a => (A.NotAnAnswer, ["setting"], [encT a])
  | .TooMany a => (A.TooMany, ["limit"], [.int a])
structure Fx (Pr : Program) (K : PySem.W.Frag) (mg : Str → Option Value) (A : Ad) : Prop where
  z_int : mg "int" = none
  z_range : mg "range" = none
  z_len : mg "len" = none
  crd_Rules : ClX.CRead K A.Rules (.type "type")
  cv_Rules_MOST_LETTERS : ∃ u, ClX.CVal K A.Rules (.type "type") "MOST_LETTERS" (.int 14) u
  g_Rules : mg "Rules" = some (.ref A.Rules)
  cv_Rules_MOST_RULES : ∃ u, ClX.CVal K A.Rules (.type "type") "MOST_RULES" (.int 80) u
  ex_BadRule : Sup.Ex1 Pr K mg "BadRule" "index" A.BadRule
  z_enumerate : mg "enumerate" = none
  cl_Kind : Cls K A.Kind
  no_Kind_width : NoAttr K A.Kind "width"
  z_set : mg "set" = none
  z_all : mg "all" = none
  no_Kind_name : NoAttr K A.Kind "name"
  no_Kind_tuples : NoAttr K A.Kind "tuples"
  z_tuple : mg "tuple" = none
  cl_Rules : Cls K A.Rules
  no_Rules_on_letter : NoAttr K A.Rules "on_letter"
  no_Rules_rules : NoAttr K A.Rules "rules"
  z_list : mg "list" = none
  i_MOST_WIDTH : ∃ t, mg "MOST_WIDTH" = some (.int 4 t)
  ex_BadKind : Sup.Ex1 Pr K mg "BadKind" "index" A.BadKind
  z_sorted : mg "sorted" = none
  no_Kind_grouped : NoAttr K A.Kind "grouped"
  no_Rules_size : NoAttr K A.Rules "size"
  ex_NotAnAnswer : Sup.Ex1 Pr K mg "NotAnAnswer" "setting" A.NotAnAnswer
  i_MOST_AT_ONCE : ∃ t, mg "MOST_AT_ONCE" = some (.int 8 t)
  ex_TooMany : Sup.Ex1 Pr K mg "TooMany" "limit" A.TooMany
  z_zip : mg "zip" = none
  z_isinstance : mg "isinstance" = none
  z_bool : mg "bool" = none
  z_min : mg "min" = none
  g_TooMany : mg "TooMany" = some (.ref A.TooMany)
  g_NotAnAnswer : mg "NotAnAnswer" = some (.ref A.NotAnAnswer)
  kit_NotAnAnswer_TooMany : PySem.W.kitOne K (.ref A.NotAnAnswer) (.ref A.TooMany) = some false
  xc_NotAnAnswer : XcE K A.NotAnAnswer
  kit_NotAnAnswer_StepError : PySem.W.kitOne K (.ref A.NotAnAnswer) (.ref A.StepError) = some true
  g_StepError : mg "StepError" = some (.ref A.StepError)
  kit_NotAnAnswer_ValueError : PySem.W.kitOne K (.ref A.NotAnAnswer) (.type "ValueError") = some true
  z_ValueError : mg "ValueError" = none
  nox_NotAnAnswer_setting : PySem.W.findIn K (.ref A.NotAnAnswer) "setting" = some none
  exm_NotAnAnswer_NotAnAnswer : PySem.W.exmOne K (.ref A.NotAnAnswer) (.ref A.NotAnAnswer) = some true
  kit_TooMany_StepError : PySem.W.kitOne K (.ref A.TooMany) (.ref A.StepError) = some true
  xc_TooMany : XcE K A.TooMany
  kit_TooMany_ValueError : PySem.W.kitOne K (.ref A.TooMany) (.type "ValueError") = some true
  nox_TooMany_limit : PySem.W.findIn K (.ref A.TooMany) "limit" = some none
  exm_TooMany_TooMany : PySem.W.exmOne K (.ref A.TooMany) (.ref A.TooMany) = some true
  exm_TooMany_NotAnAnswer : PySem.W.exmOne K (.ref A.TooMany) (.ref A.NotAnAnswer) = some false
section
variable {Pr : Program} {w : World} {K : PySem.W.Frag} {mg : Str → Option Value} {base : Heap} {A : Ad}
def p_law_draw (A : Ad) : Pm := fun Γ o => ∃ (cell : Int) (bases : List Int) (r : List Int), Γ = [.va (.int cell), .br ((eL D.int) bases)] ∧ m_law_draw cell bases = some r ∧ o = .ret (.ow ((eL D.int) r))
theorem sc_law_draw : FnScope ["cell", "bases", "drawn", "rest", "base", "state"] ["cell", "bases"] (defScope (top 29)) := ⟨rfl, rfl, rfl, by decide +kernel, rfl, by decide +kernel, by decide +kernel⟩
theorem ok_law_draw {f : Addr} {fd : FuncData} (F : Fun K "_law_draw" "_law_draw" (top 29) f fd) (Z : Fx Pr K mg A) : FnOk Pr w K mg base (L2N.CX Pr w) 1 f fd ["cell", "bases"] (mkSp K (p_law_draw A)) := by
  refine fn_sds F sc_law_draw (fun Γ o ⟨_, _, _, h2, _⟩ => by rw [h2]; rfl) fun cdv A' outer s H E hr H0 Oc Γ o ⟨cell, bases, r, hΓ, hm, ho⟩ => ?_
  subst hΓ ho
  unfold m_law_draw at hm
  refine k_top ?_
  obtain ⟨drawn_1, h_drawn_1, hm⟩ := bndE hm
  refine k_set 2 sc_law_draw.nd (Ev.co (g := (eL D.int)) (ev_lst ea_nil rfl (by show 0 ≤ _; decide)) h_drawn_1) ?_
  refine k_set 3 sc_law_draw.nd (e_int Z.z_int (vv 0)) ?_
  rcases iteE hm with ⟨hq, hm⟩ | ⟨hq, hm⟩
  · refine k_ifT (et_c cm_ge (vv 3) e_1018) hq ?_
    obtain ⟨rest_2, h_rest_2, hm⟩ := bndE hm
    refine k_set 3 sc_law_draw.nd (Ev.cv (g := D.int) (ev_sub (vv 3) e_1018) h_rest_2) ?_
    obtain ⟨st_5, h_st_5, hm⟩ := bindE hm
    refine k_forO bases D.int _ (drawn_1, rest_2) (fun (st_3 : (List Int) × Int) => [.va (.int cell), .br ((eL D.int) bases), .ow ((eL D.int) st_3.1), .va (.int st_3.2), .no, .no]) h_st_5 (passes_of rfl) rfl (ei_lst (vr 1) rfl) (.eq (.eq (.eq (.eq (.no (.no .nil)))))) (fun st_3 b_4 _ z_6 hml => ⟨_, t_name 4 sc_law_draw.nd, ?_⟩) ?_
    · obtain ⟨d_7, h_d_7, hml⟩ := bindE hml
      obtain ⟨drawn_8, h_drawn_8, hml⟩ := bindE hml
      refine k_app (f := D.int) (v := d_7) 2 (g_mod (vv 3) (vv 4) h_d_7) h_drawn_8 ?_
      obtain ⟨d_9, h_d_9, hml⟩ := bindE hml
      refine k_set 3 sc_law_draw.nd (g_div (vv 3) (vv 4) h_d_9) ?_
      obtain rfl := Option.some.inj hml
      exact k_nil (.eq (.eq (.eq (.eq (.no (.no .nil))))))
    · obtain rfl := Option.some.inj hm
      exact k_retV 2 rfl
  · refine k_ifF (et_c cm_ge (vv 3) e_1018) hq ?_
    refine k_nil ?_
    obtain ⟨state_10, h_state_10, hm⟩ := bndE hm
    refine k_set 5 sc_law_draw.nd (Ev.cv (g := D.int) (ev_mod (vv 3) ev_int (by decide)) h_state_10) ?_
    obtain ⟨st_13, h_st_13, hm⟩ := bindE hm
    refine k_forO bases D.int _ (drawn_1, state_10) (fun (st_11 : (List Int) × Int) => [.va (.int cell), .br ((eL D.int) bases), .ow ((eL D.int) st_11.1), .va (.int cell), .no, .va (.int st_11.2)]) h_st_13 (passes_of rfl) rfl (ei_lst (vr 1) rfl) (.eq (.eq (.eq (.eq (.no (.eq .nil)))))) (fun st_11 b_12 _ z_14 hml => ⟨_, t_name 4 sc_law_draw.nd, ?_⟩) ?_
    · obtain ⟨state_15, h_state_15, hml⟩ := bndE hml
      refine k_set 5 sc_law_draw.nd (Ev.cv (g := D.int) (ev_mod (ev_add (ev_mul (vv 5) ev_int (.inr ⟨by decide, by decide⟩)) ev_int) ev_int (by decide)) h_state_15) ?_
      obtain ⟨d_16, h_d_16, hml⟩ := bindE hml
      obtain ⟨drawn_17, h_drawn_17, hml⟩ := bindE hml
      refine k_app (f := D.int) (v := d_16) 2 (g_mod (ev_fdiv (vv 5) ev_int ⟨by decide, by decide⟩) (vv 4) h_d_16) h_drawn_17 ?_
      obtain rfl := Option.some.inj hml
      exact k_nil (.eq (.eq (.eq (.eq (.no (.eq .nil))))))
    · obtain rfl := Option.some.inj hm
      exact k_retV 2 rfl
def p_law_picked (A : Ad) : Pm := fun Γ o => ∃ (digits : List Int) (size : Int) (r : List Int), Γ = [.br ((eL D.int) digits), .va (.int size)] ∧ m_law_picked digits size = some r ∧ o = .ret (.ow ((eL D.int) r))
theorem sc_law_picked : FnScope ["digits", "size", "pool", "chosen", "digit", "at", "letter"] ["digits", "size"] (defScope (top 31)) := ⟨rfl, rfl, rfl, by decide +kernel, rfl, by decide +kernel, by decide +kernel⟩
theorem ok_law_picked {f : Addr} {fd : FuncData} (F : Fun K "_law_picked" "_law_picked" (top 31) f fd) (Z : Fx Pr K mg A) : FnOk Pr w K mg base (L2N.CX Pr w) 1 f fd ["digits", "size"] (mkSp K (p_law_picked A)) := by
  refine fn_sds F sc_law_picked (fun Γ o ⟨_, _, _, h2, _⟩ => by rw [h2]; rfl) fun cdv A' outer s H E hr H0 Oc Γ o ⟨digits, size, r, hΓ, hm, ho⟩ => ?_
  subst hΓ ho
  unfold m_law_picked at hm
  refine k_top ?_
  obtain ⟨rg_1, h_rg_1, hm⟩ := bindE hm
  obtain ⟨ys_3, h_ys_3, hm⟩ := bindE hm
  refine k_setLc 2 [("letter", 6)] rg_1 D.int _ D.int (fun b_2 => [.br ((eL D.int) digits), .va (.int size), .no, .no, .no, .no, .va (.int b_2)]) h_ys_3 rfl sc_law_picked.nd (blkOk_by (by rfl)) (g_rng Z.z_range (vv 1) h_rg_1) (fun b_2 _ _ _ _ _ _ _ _ => tw_name 6 sc_law_picked.nd) (fun _ _ => ⟨rfl, Sub.refl⟩) (fun b_2 _ y hy _ _ _ _ _ _ _ => by obtain rfl := Option.some.inj hy; exact (vv 6)) ?_
  obtain ⟨chosen_4, h_chosen_4, hm⟩ := bndE hm
  refine k_set 3 sc_law_picked.nd (Ev.co (g := (eL D.int)) (ev_lst ea_nil rfl (by show 0 ≤ _; decide)) h_chosen_4) ?_
  obtain ⟨st_7, h_st_7, hm⟩ := bindE hm
  refine k_forO digits D.int _ (ys_3, chosen_4) (fun (st_5 : (List Int) × (List Int)) => [.br ((eL D.int) digits), .va (.int size), .ow ((eL D.int) st_5.1), .ow ((eL D.int) st_5.2), .no, .no, .no]) h_st_7 (passes_of rfl) rfl (ei_lst (vr 0) rfl) (.eq (.eq (.eq (.eq (.no (.no (.no .nil))))))) (fun st_5 b_6 _ z_8 hml => ⟨_, t_name 4 sc_law_picked.nd, ?_⟩) ?_
  · obtain ⟨d_9, h_d_9, hml⟩ := bindE hml
    refine k_set 5 sc_law_picked.nd (g_mod (e_int Z.z_int (vv 4)) (g_len (f := D.int) Z.z_len (vo 2)) h_d_9) ?_
    obtain ⟨i_10, h_i_10, hml⟩ := bindE hml
    obtain ⟨chosen_11, h_chosen_11, hml⟩ := bindE hml
    refine k_app (f := D.int) (v := i_10) 3 (ev_ixL (vo 2) (vv 5) (atM (f := D.int) h_i_10)) h_chosen_11 ?_
    obtain ⟨c_12, h_c_12, hml⟩ := bindE hml
    refine k_set 2 sc_law_picked.nd (g_catL (f := D.int) (Ev.r (g_slL (vo 2) eo_no (eo_at (vv 5)))) (Ev.r (g_slL (vo 2) (eo_at (ev_add (vv 5) ev_int)) eo_no)) h_c_12) ?_
    obtain rfl := Option.some.inj hml
    exact k_nil (.eq (.eq (.eq (.eq (.no (.no (.no .nil)))))))
  · obtain rfl := Option.some.inj hm
    exact k_retV 3 rfl
def p_law_some (A : Ad) : Pm := fun Γ o => ∃ (cell : Int) (size : Int) (count : Int) (r : List Int), Γ = [.va (.int cell), .va (.int size), .va (.int count)] ∧ m_law_some cell size count = some r ∧ o = .ret (.ow ((eL D.int) r))
theorem sc_law_some : FnScope ["cell", "size", "count"] ["cell", "size", "count"] (defScope (top 32)) := ⟨rfl, rfl, rfl, by decide +kernel, rfl, by decide +kernel, by decide +kernel⟩
theorem ok_law_some {f : Addr} {fd : FuncData} (F : Fun K "_law_some" "_law_some" (top 32) f fd) (Z : Fx Pr K mg A) (G_law_draw : FnG Pr w K mg base "_law_draw" 1 ["cell", "bases"] (p_law_draw A)) (G_law_picked : FnG Pr w K mg base "_law_picked" 1 ["digits", "size"] (p_law_picked A)) : FnOk Pr w K mg base (L2N.CX Pr w) 2 f fd ["cell", "size", "count"] (mkSp K (p_law_some A)) := by
  refine fn_sds F sc_law_some (fun Γ o ⟨_, _, _, _, h2, _⟩ => by rw [h2]; rfl) fun cdv A' outer s H E hr H0 Oc Γ o ⟨cell, size, count, r, hΓ, hm, ho⟩ => ?_
  subst hΓ ho
  unfold m_law_some at hm
  refine k_top ?_
  obtain ⟨c_1, h_c_1, hm⟩ := bindE hm
  obtain ⟨draw_2, h_draw_2, hm⟩ := bindE hm
  obtain ⟨picked_3, h_picked_3, hm⟩ := tailE hm
  obtain rfl := Option.some.inj hm
  exact k_ret (g_call G_law_picked (hr.mono (by decide)) (ea_cons (g_call G_law_draw (hr.mono (by decide)) (ea_cons (vv 0) (ea_cons (g_repL (f := D.int) (Ev.r (ev_lst (ea_cons ev_int ea_nil) rfl (by show 1 ≤ _; decide))) (vv 2) h_c_1) ea_nil)) ⟨cell, c_1, draw_2, rfl, h_draw_2, rfl⟩ (.eq (.eq .nil))) (ea_cons (vv 1) ea_nil)) ⟨draw_2, size, picked_3, rfl, h_picked_3, rfl⟩ (.eq (.eq .nil))) rfl
def p_are_letters (A : Ad) : Pm := fun Γ o => ∃ (letters : List Int) (width : Int) (size : Int) (r : Bool), Γ = [.va (encT letters), .va (.int width), .va (.int size)] ∧ m_are_letters letters width size = some r ∧ o = .ret (.va (D.bl r))
theorem sc_are_letters : FnScope ["letters", "width", "size", "letter"] ["letters", "width", "size"] (defScope (top 26)) := ⟨rfl, rfl, rfl, by decide +kernel, rfl, by decide +kernel, by decide +kernel⟩
theorem ok_are_letters {f : Addr} {fd : FuncData} (F : Fun K "are_letters" "are_letters" (top 26) f fd) (Z : Fx Pr K mg A) : FnOk Pr w K mg base (L2N.CX Pr w) 1 f fd ["letters", "width", "size"] (mkSp K (p_are_letters A)) := by
  refine fn_sds F sc_are_letters (fun Γ o ⟨_, _, _, _, h2, _⟩ => by rw [h2]; rfl) fun cdv A' outer s H E hr H0 Oc Γ o ⟨letters, width, size, r, hΓ, hm, ho⟩ => ?_
  subst hΓ ho
  unfold m_are_letters at hm
  refine k_top ?_
  obtain ⟨q_2, h_q_2, hm⟩ := bindE hm
  rcases iteE hm with ⟨hq, hm⟩ | ⟨hq, hm⟩
  · refine k_ifT (et_w (gt_or (et_c cm_neI (g_len (f := D.int) Z.z_len (Ev.r (vv 0))) (vv 1)) h_q_2 (fun r hq hm => by obtain ⟨n_1, h_n_1, hm⟩ := bindE hm; obtain rfl := Option.some.inj hm; exact (ew_or1 (et_c cm_neI (g_lenSetT Z.z_len Z.z_set rfl (Ev.r (vv 0)) h_n_1) (vv 1)))))) hq ?_
    obtain rfl := Option.some.inj hm
    exact k_ret ev_bl rfl
  · refine k_ifF (et_w (gt_or (et_c cm_neI (g_len (f := D.int) Z.z_len (Ev.r (vv 0))) (vv 1)) h_q_2 (fun r hq hm => by obtain ⟨n_1, h_n_1, hm⟩ := bindE hm; obtain rfl := Option.some.inj hm; exact (ew_or1 (et_c cm_neI (g_lenSetT Z.z_len Z.z_set rfl (Ev.r (vv 0)) h_n_1) (vv 1)))))) hq ?_
    refine k_nil ?_
    obtain ⟨ys_4, h_ys_4, hm⟩ := bindE hm
    obtain rfl := Option.some.inj hm
    exact k_ret (e_all Z.z_all rfl (Ev.r (g_lc [("letter", 3)] letters D.int _ D.bl (fun b_3 => [.va (encT letters), .va (.int width), .va (.int size), .va (.int b_3)]) h_ys_4 rfl sc_are_letters.nd (blkOk_by (by rfl)) (ei_tup (vv 0) rfl) (fun b_3 _ _ _ _ _ _ _ _ => tw_name 3 sc_are_letters.nd) (fun _ _ => ⟨rfl, Sub.refl⟩) (fun b_3 _ y hy _ _ _ _ _ _ _ => by obtain rfl := Option.some.inj hy; exact (ev_lelt ev_int (vv 3) (vv 2)))))) rfl
def p_World_init (A : Ad) (C : Addr) : Pm := fun Γ o => ∃ (size : Int) (r : C_World), Γ = [.va (.int size)] ∧ m_World_init size = some r ∧ o = .ret (.ow ((encf_World A C) r))
theorem sc_World_init : FnScope ["self", "size"] ["self", "size"] (defScope (inClass (top 13) 0)) := ⟨rfl, rfl, rfl, by decide +kernel, rfl, by decide +kernel, by decide +kernel⟩
theorem ok_World_init {f C : Addr} {fd : FuncData} (F : Fun K "__init__" "World.__init__" (inClass (top 13) 0) f fd) (Z : Fx Pr K mg A) (cl : Cls K C) (no_size : NoAttr K C "size") : FnOk Pr w K mg base (L2N.CX Pr w) 1 f fd ["self", "size"] (mkSpI K C (p_World_init A C)) := by
  refine init_sds F sc_World_init (fun Γ o ⟨_, _, h2, _⟩ => by rw [h2]; rfl) fun cdv A' outer s H E hr H0 Oc Γ o aa ⟨size, r, hΓ, hm, ho⟩ => ?_
  subst hΓ ho
  unfold m_World_init at hm
  refine k_topI ?_
  refine k_fld 0 cl no_size (vv 1) ?_
  obtain rfl := Option.some.inj hm
  exact k_nil ⟨_, _, rfl, rfl⟩
def p_Rules_init (A : Ad) : Pm := fun Γ o => ∃ (size : Int) (rules : List (C_Kind × (List Int))) (r : Rs Exc C_Rules), Γ = [.va (.int size), .br ((eL (eP2 (enc_Kind A) encT)) rules)] ∧ m_Rules_init size rules = some r ∧ o = outR Sl.ow (enc_Rules A) (xO A) r
def N_Rules_init : List Str := ["self", "size", "rules", "__class__", "known", "index", "kind", "letters", "elder", "letter", "rule"]
theorem Rules_init_nd : (N_Rules_init).Nodup := by decide +kernel
theorem ok_Rules_init {fO fW cda cc : Addr} {fdW : FuncData} {dV kV doc pm ct oc : Value} {an od : Option Addr} {osl : Array (Option Value)} (Z : Fx Pr K mg A)
    (lk : K.lookup fO = some ⟨oc, od, .func (PySem.W.fnX "__init__" "Rules.__init__" (defArgs (inClass (top 25) 2)) (defBody (inClass (top 25) 2)) (defScope (inClass (top 25) 2)) [("__class__", cc)] dV kV doc pm an (.ref cda) ct), osl⟩) (hcd : PySem.W.codeIn K (.ref cda) "Rules.__init__" = true)
    (hcell : ∃ cl cld csl, K.lookup cc = some ⟨cl, cld, .cell (some (.ref A.Rules)), csl⟩) (at_ : Sup.SupAt Pr K mg fO cda cc A.Rules (PySem.W.fnX "__init__" "Rules.__init__" (defArgs (inClass (top 25) 2)) (defBody (inClass (top 25) 2)) (defScope (inClass (top 25) 2)) [("__class__", cc)] dV kV doc pm an (.ref cda) ct) "self") (su : Sup.SupI K A.Rules A.Rules fW)
    (FW : FnOk Pr w K mg base (L2N.CX Pr w) 1 fW fdW ["self", "size"] (mkSpI K A.Rules (p_World_init A A.Rules))) (bW : L2.Binds K fdW ["self", "size"] []) (G_are_letters : FnG Pr w K mg base "are_letters" 1 ["letters", "width", "size"] (p_are_letters A)) :
    FnOk Pr w K mg base (L2N.CX Pr w) 3 fO (PySem.W.fnX "__init__" "Rules.__init__" (defArgs (inClass (top 25) 2)) (defBody (inClass (top 25) 2)) (defScope (inClass (top 25) 2)) [("__class__", cc)] dV kV doc pm an (.ref cda) ct) ["self", "size", "rules"] (mkSpI K A.Rules (p_Rules_init A)) := by
  refine initZ_sds (N := N_Rules_init) lk hcd (xscope_by (by decide +kernel)) hcell (fun Γ o ⟨_, _, _, h2, _⟩ => by rw [h2]; rfl) fun A' outer s H E hr H0 Oc Γ o aa ⟨size, rules, r, hΓ, hm, ho⟩ => ?_
  subst hΓ ho
  unfold m_Rules_init at hm
  refine k_topIA ?_
  refine ka_st ?_
  rcases iteE hm with ⟨hq, hm⟩ | ⟨hq, hm⟩
  · refine k_ifT (et_w (ew_or (et_c cm_lt (vv 1) ev_int) fun _ => (ew_or (et_c cm_gt (vv 1) (g_cval (e_cls Z.g_Rules) Z.crd_Rules Z.cv_Rules_MOST_LETTERS)) fun _ => (ew_or1 (et_c cm_gt (g_len (f := (eP2 (enc_Kind A) encT)) Z.z_len (Ev.r (vr 2))) (g_cval (e_cls Z.g_Rules) Z.crd_Rules Z.cv_Rules_MOST_RULES)))))) hq ?_
    obtain rfl := Option.some.inj hm
    exact k_raise1 rfl (L2N.takes_of rfl rfl rfl rfl) Z.ex_BadRule (hr.mono (by decide)) (ev_neg ev_int) ⟨_, rfl⟩
  · refine k_ifF (et_w (ew_or (et_c cm_lt (vv 1) ev_int) fun _ => (ew_or (et_c cm_gt (vv 1) (g_cval (e_cls Z.g_Rules) Z.crd_Rules Z.cv_Rules_MOST_LETTERS)) fun _ => (ew_or1 (et_c cm_gt (g_len (f := (eP2 (enc_Kind A) encT)) Z.z_len (Ev.r (vr 2))) (g_cval (e_cls Z.g_Rules) Z.crd_Rules Z.cv_Rules_MOST_RULES)))))) hq ?_
    refine k_nil ?_
    refine k_nil ?_
    refine ka_st ?_
    obtain ⟨known_1, h_known_1, hm⟩ := bndE hm
    refine k_set 4 Rules_init_nd (Ev.co (g := (eDK kS (enc_Kind A))) ev_dK h_known_1) ?_
    refine k_nil ?_
    refine ka_st ?_
    obtain ⟨lp_16, h_lp_16, hm⟩ := bindE hm
    refine k_for (enumI rules) (eP2 D.int (eP2 (enc_Kind A) encT)) _ known_1 (fun (st_2 : (List (Str × C_Kind))) => [.ow (.slf aa A.Rules [] []), .va (.int size), .br ((eL (eP2 (enc_Kind A) encT)) rules), .va (.opq (.ref A.Rules)), .ow ((eDK kS (enc_Kind A)) st_2), .no, .no, .no, .no, .no, .no]) Sl.ow (fun v : Empty => v.elim) (xO A) h_lp_16 (passes_of rfl) rfl (g_enumL (f := (eP2 (enc_Kind A) encT)) Z.z_enumerate (vr 2)) (.eq (.eq (.eq (.eq (.eq (.no (.no (.no (.no (.no (.no .nil))))))))))) (fun st_2 b_3 _ z_5 hml => ⟨_, t_nest (d1 := .int b_3.1) (d2 := (enc_Kind A) b_3.2.1) (d3 := encT b_3.2.2) 5 6 7 rfl Rules_init_nd, ?_⟩) (fun st_4 q => ?_) (fun v_17 q => ?_) (fun e_18 q => ?_)
    · obtain ⟨areletters_6, h_areletters_6, hml⟩ := bindE hml
      rcases iteE hml with ⟨hq, hml⟩ | ⟨hq, hml⟩
      · refine k_ifT (et_not (et_val (g_call G_are_letters (hr.mono (by decide)) (ea_cons (vv 7) (ea_cons (ev_fld (d := .int b_3.2.1.f_width) Z.cl_Kind Z.no_Kind_width (Ev.r (vv 6)) rfl) (ea_cons (vv 1) ea_nil))) ⟨b_3.2.2, b_3.2.1.f_width, size, areletters_6, rfl, h_areletters_6, rfl⟩ (.eq (.eq (.eq .nil)))))) hq ?_
        obtain rfl := Option.some.inj hml
        exact k_raise1 rfl (L2N.takes_of rfl rfl rfl rfl) Z.ex_BadRule (hr.mono (by decide)) (vv 5) ⟨_, rfl⟩
      · refine k_ifF (et_not (et_val (g_call G_are_letters (hr.mono (by decide)) (ea_cons (vv 7) (ea_cons (ev_fld (d := .int b_3.2.1.f_width) Z.cl_Kind Z.no_Kind_width (Ev.r (vv 6)) rfl) (ea_cons (vv 1) ea_nil))) ⟨b_3.2.2, b_3.2.1.f_width, size, areletters_6, rfl, h_areletters_6, rfl⟩ (.eq (.eq (.eq .nil)))))) hq ?_
        refine k_nil ?_
        obtain ⟨sd_7, h_sd_7, hml⟩ := bindE hml
        refine k_setdef (ev := (enc_Kind A)) kS_inj 4 8 Rules_init_nd (ev_fld (d := .str b_3.2.1.f_name) Z.cl_Kind Z.no_Kind_name (Ev.r (vv 6)) rfl) (vv 6) h_sd_7 ?_
        rcases iteE hml with ⟨hq, hml⟩ | ⟨hq, hml⟩
        · refine k_ifT (et_w (ew_or (et_c cm_neI (ev_fld (d := .int sd_7.2.f_width) Z.cl_Kind Z.no_Kind_width (Ev.r (vv 8)) rfl) (ev_fld (d := .int b_3.2.1.f_width) Z.cl_Kind Z.no_Kind_width (Ev.r (vv 6)) rfl)) fun _ => (ew_or1 (et_c (g_ne (f := (eL encT)) (hu64 hr) (eqC_lst eqT') 2 (okN_L okT) (by decide) sd_7.2.f_tuples b_3.2.1.f_tuples) (Ev.r (ev_fld (d := (eL encT) sd_7.2.f_tuples) Z.cl_Kind Z.no_Kind_tuples (Ev.r (vv 8)) rfl)) (Ev.r (ev_fld (d := (eL encT) b_3.2.1.f_tuples) Z.cl_Kind Z.no_Kind_tuples (Ev.r (vv 6)) rfl)))))) hq ?_
          obtain rfl := Option.some.inj hml
          exact k_raise1 rfl (L2N.takes_of rfl rfl rfl rfl) Z.ex_BadRule (hr.mono (by decide)) (vv 5) ⟨_, rfl⟩
        · refine k_ifF (et_w (ew_or (et_c cm_neI (ev_fld (d := .int sd_7.2.f_width) Z.cl_Kind Z.no_Kind_width (Ev.r (vv 8)) rfl) (ev_fld (d := .int b_3.2.1.f_width) Z.cl_Kind Z.no_Kind_width (Ev.r (vv 6)) rfl)) fun _ => (ew_or1 (et_c (g_ne (f := (eL encT)) (hu64 hr) (eqC_lst eqT') 2 (okN_L okT) (by decide) sd_7.2.f_tuples b_3.2.1.f_tuples) (Ev.r (ev_fld (d := (eL encT) sd_7.2.f_tuples) Z.cl_Kind Z.no_Kind_tuples (Ev.r (vv 8)) rfl)) (Ev.r (ev_fld (d := (eL encT) b_3.2.1.f_tuples) Z.cl_Kind Z.no_Kind_tuples (Ev.r (vv 6)) rfl)))))) hq ?_
          refine k_nil ?_
          obtain rfl := Option.some.inj hml
          exact k_nil (.eq (.eq (.eq (.eq (.eq (.no (.no (.no (.no (.no (.no .nil)))))))))))
    · subst q
      refine k_nil ?_
      obtain ⟨base_8, h_base_8, hm⟩ := bindE hm
      refine ka_super (P2 := p_World_init A A.Rules) (ns := ["size"]) (es2 := [.int base_8.f_size]) (ds := [.int size]) 0 3 at_ su FW (hr.mono (by decide)) bW (ea_cons (vv 1) ea_nil) ⟨size, base_8, rfl, h_base_8, rfl⟩ ?_
      refine ka_of ?_
      obtain ⟨ys_10, h_ys_10, hm⟩ := bindE hm
      refine k_fld 0 Z.cl_Rules Z.no_Rules_rules (Ev.fz (g_lc [("kind", 6), ("letters", 7)] rules (eP2 (enc_Kind A) encT) _ (eP2 (enc_Kind A) encT) (fun b_9 => [.br (.slf aa A.Rules ["size"] [.int base_8.f_size]), .va (.int size), .br ((eL (eP2 (enc_Kind A) encT)) rules), .va (.opq (.ref A.Rules)), .br ((eDK kS (enc_Kind A)) st_4), .no, .va ((enc_Kind A) b_9.1), .va (encT b_9.2), .no, .no, .no]) h_ys_10 rfl Rules_init_nd (blkOk_by (by rfl)) (ei_lst (vr 2) rfl) (fun b_9 _ _ _ _ _ _ _ _ => tw_two (d1 := (enc_Kind A) b_9.1) (d2 := encT b_9.2) 6 7 rfl Rules_init_nd) (fun _ _ => ⟨rfl, Sub.refl⟩) (fun b_9 _ y hy _ _ _ _ _ _ _ => by obtain rfl := Option.some.inj hy; exact (ev_tup (ea_cons (vv 6) (ea_cons (e_tupT Z.z_tuple (vv 7)) ea_nil)) rfl (by show 2 ≤ _; decide))))) ?_
      obtain ⟨rg_11, h_rg_11, hm⟩ := bindE hm
      obtain ⟨ys_15, h_ys_15, hm⟩ := bindE hm
      refine k_fld 0 Z.cl_Rules Z.no_Rules_on_letter (Ev.fz (g_lc [("letter", 9)] rg_11 D.int _ (eL D.int) (fun b_12 => [.br (.slf aa A.Rules ["size", "rules"] [.int base_8.f_size, (eL (eP2 (enc_Kind A) encT)) ys_10]), .va (.int size), .br ((eL (eP2 (enc_Kind A) encT)) rules), .va (.opq (.ref A.Rules)), .br ((eDK kS (enc_Kind A)) st_4), .no, .no, .no, .no, .va (.int b_12), .no]) h_ys_15 rfl Rules_init_nd (blkOk_by (by rfl)) (g_rng Z.z_range (vv 1) h_rg_11) (fun b_12 _ _ _ _ _ _ _ _ => tw_name 9 Rules_init_nd) (fun _ _ => ⟨rfl, Sub.refl⟩) (fun b_12 _ y hy _ _ _ _ _ _ _ => by obtain ⟨ys_14, h_ys_14, hy⟩ := tailE hy; obtain rfl := Option.some.inj hy; exact (Ev.fz (g_lcf [("index", 5), ("rule", 10)] (enumI rules) (eP2 D.int (eP2 (enc_Kind A) encT)) _ D.int (fun b_13 => [.br (.slf aa A.Rules ["size", "rules"] [.int base_8.f_size, (eL (eP2 (enc_Kind A) encT)) ys_10]), .va (.int size), .br ((eL (eP2 (enc_Kind A) encT)) rules), .va (.opq (.ref A.Rules)), .br ((eDK kS (enc_Kind A)) st_4), .va (.int b_13.1), .no, .no, .no, .va (.int b_12), .va ((eP2 (enc_Kind A) encT) b_13.2)]) h_ys_14 rfl Rules_init_nd (blkOk_by (by rfl)) (g_enumL (f := (eP2 (enc_Kind A) encT)) Z.z_enumerate (vr 2)) (fun b_13 _ _ _ _ _ _ _ _ => tw_two (d1 := .int b_13.1) (d2 := (eP2 (enc_Kind A) encT) b_13.2) 5 10 rfl Rules_init_nd) (fun _ _ => ⟨rfl, Sub.refl⟩) (fun b_13 _ y hy _ _ _ _ _ _ _ => by rcases iteE hy with ⟨hq, hy⟩ | ⟨hq, hy⟩; (obtain rfl := Option.some.inj hy; exact Et.bb (et_c (g_inTI b_12 b_13.2.2) (vv 9) (Ev.r (ev_ixT (d := encT b_13.2.2) (Ev.r (vv 10)) ev_int rfl))) hq); (obtain rfl := Option.some.inj hy; exact Et.bb (et_c (g_inTI b_12 b_13.2.2) (vv 9) (Ev.r (ev_ixT (d := encT b_13.2.2) (Ev.r (vv 10)) ev_int rfl))) hq)) (fun b_13 _ y hy _ _ _ _ _ _ _ => by rcases iteE hy with ⟨hq, hy⟩ | ⟨hq, hy⟩; (obtain rfl := Option.some.inj (Option.some.inj hy); exact (vv 5)); cases hy)))))) ?_
      obtain rfl := Option.some.inj hm
      exact k_nil ⟨_, _, rfl, rfl⟩
    · subst q
      exact v_17.elim
    · subst q
      obtain rfl := Option.some.inj hm
      exact ⟨_, rfl⟩
def p_check_width (A : Ad) : Pm := fun Γ o => ∃ (width : Int) (r : Rs Exc Unit), Γ = [.va (.int width)] ∧ m_check_width width = some r ∧ o = outR Sl.va eN (xO A) r
theorem sc_check_width : FnScope ["width"] ["width"] (defScope (top 21)) := ⟨rfl, rfl, rfl, by decide +kernel, rfl, by decide +kernel, by decide +kernel⟩
theorem ok_check_width {f : Addr} {fd : FuncData} (F : Fun K "check_width" "check_width" (top 21) f fd) (Z : Fx Pr K mg A) : FnOk Pr w K mg base (L2N.CX Pr w) 3 f fd ["width"] (mkSp K (p_check_width A)) := by
  refine fn_sds F sc_check_width (fun Γ o ⟨_, _, h2, _⟩ => by rw [h2]; rfl) fun cdv A' outer s H E hr H0 Oc Γ o ⟨width, r, hΓ, hm, ho⟩ => ?_
  subst hΓ ho
  unfold m_check_width at hm
  refine k_top ?_
  rcases iteE hm with ⟨hq, hm⟩ | ⟨hq, hm⟩
  · refine k_ifT (et_w (ew_or (et_c cm_lt (vv 0) ev_int) fun _ => (ew_or1 (et_c cm_gt (vv 0) (e_gint Z.i_MOST_WIDTH))))) hq ?_
    obtain rfl := Option.some.inj hm
    exact k_raise1 rfl (L2N.takes_of rfl rfl rfl rfl) Z.ex_BadKind (hr.mono (by decide)) (ev_neg ev_int) ⟨_, rfl⟩
  · refine k_ifF (et_w (ew_or (et_c cm_lt (vv 0) ev_int) fun _ => (ew_or1 (et_c cm_gt (vv 0) (e_gint Z.i_MOST_WIDTH))))) hq ?_
    refine k_nil ?_
    obtain rfl := Option.some.inj hm
    exact k_nil rfl
def p_flipped (A : Ad) : Pm := fun Γ o => ∃ (setting : List Int) (positions : List Int) (r : List Int), Γ = [.va (encT setting), .br ((eL D.int) positions)] ∧ m_flipped setting positions = some r ∧ o = .ret (.va (encT r))
theorem sc_flipped : FnScope ["setting", "positions", "values", "position"] ["setting", "positions"] (defScope (top 3)) := ⟨rfl, rfl, rfl, by decide +kernel, rfl, by decide +kernel, by decide +kernel⟩
theorem ok_flipped {f : Addr} {fd : FuncData} (F : Fun K "flipped" "flipped" (top 3) f fd) (Z : Fx Pr K mg A) : FnOk Pr w K mg base (L2N.CX Pr w) 1 f fd ["setting", "positions"] (mkSp K (p_flipped A)) := by
  refine fn_sds F sc_flipped (fun Γ o ⟨_, _, _, h2, _⟩ => by rw [h2]; rfl) fun cdv A' outer s H E hr H0 Oc Γ o ⟨setting, positions, r, hΓ, hm, ho⟩ => ?_
  subst hΓ ho
  unfold m_flipped at hm
  refine k_top ?_
  refine k_set 2 sc_flipped.nd (e_list Z.z_list (Ev.r (vv 0))) ?_
  obtain ⟨st_3, h_st_3, hm⟩ := bindE hm
  refine k_forO positions D.int _ setting (fun (st_1 : (List Int)) => [.va (encT setting), .br ((eL D.int) positions), .ow ((eL D.int) st_1), .no]) h_st_3 (passes_of rfl) rfl (ei_lst (vr 1) rfl) (.eq (.eq (.eq (.no .nil)))) (fun st_1 b_2 _ z_4 hml => ⟨_, t_name 3 sc_flipped.nd, ?_⟩) ?_
  · obtain ⟨i_5, h_i_5, hml⟩ := bindE hml
    obtain ⟨values_6, h_values_6, hml⟩ := tailE hml
    refine k_ix (f := D.int) 2 (ev_sub ev_int (ev_ixL (vo 2) (vv 3) (atM (f := D.int) h_i_5))) (vv 3) h_values_6 ?_
    obtain rfl := Option.some.inj hml
    exact k_nil (.eq (.eq (.eq (.no .nil))))
  · obtain rfl := Option.some.inj hm
    exact k_ret (e_tupL Z.z_tuple (vo 2)) rfl
def p_piece_around (A : Ad) : Pm := fun Γ o => ∃ (values : List Int) (tuples : List (List Int)) (r : List (List Int)), Γ = [.va (encT values), .br ((eL encT) tuples)] ∧ m_piece_around values tuples = some r ∧ o = .ret (.ow ((eL encT) r))
theorem sc_piece_around : FnScope ["values", "tuples", "reached", "at", "position", "other"] ["values", "tuples"] (defScope (top 22)) := ⟨rfl, rfl, rfl, by decide +kernel, rfl, by decide +kernel, by decide +kernel⟩
theorem ok_piece_around {f : Addr} {fd : FuncData} (F : Fun K "piece_around" "piece_around" (top 22) f fd) (Z : Fx Pr K mg A) (G_flipped : FnG Pr w K mg base "flipped" 1 ["setting", "positions"] (p_flipped A)) : FnOk Pr w K mg base (L2N.CX Pr w) 2 f fd ["values", "tuples"] (mkSp K (p_piece_around A)) := by
  refine fn_sds F sc_piece_around (fun Γ o ⟨_, _, _, h2, _⟩ => by rw [h2]; rfl) fun cdv A' outer s H E hr H0 Oc Γ o ⟨values, tuples, r, hΓ, hm, ho⟩ => ?_
  subst hΓ ho
  unfold m_piece_around at hm
  refine k_top ?_
  obtain ⟨reached_1, h_reached_1, hm⟩ := bndE hm
  refine k_set 2 sc_piece_around.nd (Ev.co (g := (eL encT)) (ev_lst (ea_cons (vv 0) ea_nil) rfl (by show 1 ≤ _; decide)) h_reached_1) ?_
  refine k_set 3 sc_piece_around.nd ev_int ?_
  obtain ⟨st_4, h_st_4, hm⟩ := bindE hm
  refine k_whileO _ _ 1000000 (reached_1, (0 : Int)) (fun (st_2 : (List (List Int)) × Int) => [.va (encT values), .br ((eL encT) tuples), .ow ((eL encT) st_2.1), .va (.int st_2.2), .no, .no]) h_st_4 (passes_of rfl) (.eq (.eq (.eq (.eq (.no (.no .nil)))))) (fun st_2 q hq => by obtain rfl := Option.some.inj hq; exact (et_c cm_lt (vv 3) (g_len (f := encT) Z.z_len (vo 2)))) (fun st_2 z_5 hml => ?_) ?_
  · obtain ⟨rg_6, h_rg_6, hml⟩ := bindE hml
    obtain ⟨st_9, h_st_9, hml⟩ := bindE hml
    refine k_forO rg_6 D.int _ st_2.1 (fun (st_7 : (List (List Int))) => [.va (encT values), .br ((eL encT) tuples), .ow ((eL encT) st_7), .va (.int st_2.2), .no, .no]) h_st_9 (passes_of rfl) rfl (g_rng Z.z_range (g_len (f := D.int) Z.z_len (Ev.r (vv 0))) h_rg_6) (.eq (.eq (.eq (.eq (.no (.no .nil)))))) (fun st_7 b_8 _ z_10 hmll => ⟨_, t_name 4 sc_piece_around.nd, ?_⟩) ?_
    · obtain ⟨i_11, h_i_11, hmll⟩ := bindE hmll
      obtain ⟨flipped_12, h_flipped_12, hmll⟩ := bindE hmll
      refine k_set 5 sc_piece_around.nd (g_call G_flipped (hr.mono (by decide)) (ea_cons (ev_ixL (vo 2) (vv 3) (atM (f := encT) h_i_11)) (ea_cons (ev_lst (ea_cons (vv 4) ea_nil) rfl (by show 1 ≤ _; decide)) ea_nil)) ⟨i_11, ([b_8] : List Int), flipped_12, rfl, h_flipped_12, rfl⟩ (.eq (.eq .nil))) ?_
      rcases iteE hmll with ⟨hq, hmll⟩ | ⟨hq, hmll⟩
      · refine k_ifT (et_w (ew_and (et_c (g_in (f := encT) (hu65 hr) eqT' 1 okT (by decide) flipped_12 tuples) (Ev.r (vv 5)) (Ev.r (vr 1))) fun _ => (ew_and1 (et_c (g_nin (f := encT) (hu65 hr) eqT' 1 okT (by decide) flipped_12 st_7) (Ev.r (vv 5)) (vo 2))))) hq ?_
        obtain ⟨reached_13, h_reached_13, hmll⟩ := tailE hmll
        refine k_app (f := encT) (v := flipped_12) 2 (vv 5) h_reached_13 ?_
        refine k_nil ?_
        obtain rfl := Option.some.inj hmll
        exact k_nil (.eq (.eq (.eq (.eq (.no (.no .nil))))))
      · refine k_ifF (et_w (ew_and (et_c (g_in (f := encT) (hu65 hr) eqT' 1 okT (by decide) flipped_12 tuples) (Ev.r (vv 5)) (Ev.r (vr 1))) fun _ => (ew_and1 (et_c (g_nin (f := encT) (hu65 hr) eqT' 1 okT (by decide) flipped_12 st_7) (Ev.r (vv 5)) (vo 2))))) hq ?_
        refine k_nil ?_
        obtain rfl := Option.some.inj hmll
        exact k_nil (.eq (.eq (.eq (.eq (.no (.no .nil))))))
    · refine k_aug 3 sc_piece_around.nd ev_int ?_
      obtain rfl := Option.some.inj hml
      exact k_nil (.eq (.eq (.eq (.eq (.no (.no .nil))))))
  · obtain ⟨so_14, h_so_14, hm⟩ := tailE hm
    obtain rfl := Option.some.inj hm
    exact k_ret (g_sort (f := encT) (fun x => x) (fun _ => rfl) Z.z_sorted (vo 2) h_so_14) rfl
def p_grouped_by_piece (A : Ad) : Pm := fun Γ o => ∃ (tuples : List (List Int)) (r : List ((List Int) × (List (List Int)))), Γ = [.br ((eL encT) tuples)] ∧ m_grouped_by_piece tuples = some r ∧ o = .ret (.ow ((eDT kId (eL encT)) r))
theorem sc_grouped_by_piece : FnScope ["tuples", "grouped", "values", "piece", "other"] ["tuples"] (defScope (top 23)) := ⟨rfl, rfl, rfl, by decide +kernel, rfl, by decide +kernel, by decide +kernel⟩
theorem ok_grouped_by_piece {f : Addr} {fd : FuncData} (F : Fun K "grouped_by_piece" "grouped_by_piece" (top 23) f fd) (Z : Fx Pr K mg A) (G_piece_around : FnG Pr w K mg base "piece_around" 2 ["values", "tuples"] (p_piece_around A)) : FnOk Pr w K mg base (L2N.CX Pr w) 3 f fd ["tuples"] (mkSp K (p_grouped_by_piece A)) := by
  refine fn_sds F sc_grouped_by_piece (fun Γ o ⟨_, _, h2, _⟩ => by rw [h2]; rfl) fun cdv A' outer s H E hr H0 Oc Γ o ⟨tuples, r, hΓ, hm, ho⟩ => ?_
  subst hΓ ho
  unfold m_grouped_by_piece at hm
  refine k_top ?_
  obtain ⟨grouped_1, h_grouped_1, hm⟩ := bndE hm
  refine k_set 1 sc_grouped_by_piece.nd (Ev.co (g := (eDT kId (eL encT))) ev_dT0 h_grouped_1) ?_
  obtain ⟨st_4, h_st_4, hm⟩ := bindE hm
  refine k_forO tuples encT _ grouped_1 (fun (st_2 : (List ((List Int) × (List (List Int))))) => [.br ((eL encT) tuples), .ow ((eDT kId (eL encT)) st_2), .no, .no, .no]) h_st_4 (passes_of rfl) rfl (ei_lst (vr 0) rfl) (.eq (.eq (.no (.no (.no .nil))))) (fun st_2 b_3 _ z_5 hml => ⟨_, t_name 2 sc_grouped_by_piece.nd, ?_⟩) ?_
  · rcases iteE hml with ⟨hq, hml⟩ | ⟨hq, hml⟩
    · refine k_ifT (et_c (g_ninT (ev := (eL encT)) kId_inj (hu1 hr) b_3 st_2) (vv 2) (vo 1)) hq ?_
      obtain ⟨piecearound_6, h_piecearound_6, hml⟩ := bindE hml
      refine k_set 3 sc_grouped_by_piece.nd (g_call G_piece_around (hr.mono (by decide)) (ea_cons (vv 2) (ea_cons (vr 0) ea_nil)) ⟨b_3, tuples, piecearound_6, rfl, h_piecearound_6, rfl⟩ (.eq (.eq .nil))) ?_
      refine k_freeze 3 ?_
      obtain ⟨st_9, h_st_9, hml⟩ := bindE hml
      refine k_forO piecearound_6 encT _ st_2 (fun (st_7 : (List ((List Int) × (List (List Int))))) => [.br ((eL encT) tuples), .ow ((eDT kId (eL encT)) st_7), .va (encT b_3), .va ((eL encT) piecearound_6), .no]) h_st_9 (passes_of rfl) rfl (ei_lst (vv 3) rfl) (.eq (.eq (.eq (.eq (.no .nil))))) (fun st_7 b_8 _ z_10 hmll => ⟨_, t_name 4 sc_grouped_by_piece.nd, ?_⟩) ?_
      · obtain ⟨grouped_11, h_grouped_11, hmll⟩ := tailE hmll
        refine k_dput (ev := (eL encT)) kId_inj 1 (hu1 hr) (vv 3) (vv 4) h_grouped_11 ?_
        obtain rfl := Option.some.inj hmll
        exact k_nil (.eq (.eq (.eq (.eq (.no .nil)))))
      · refine k_nil ?_
        obtain rfl := Option.some.inj hml
        exact k_nil (.eq (.eq (.no (.no (.no .nil)))))
    · refine k_ifF (et_c (g_ninT (ev := (eL encT)) kId_inj (hu1 hr) b_3 st_2) (vv 2) (vo 1)) hq ?_
      refine k_nil ?_
      obtain rfl := Option.some.inj hml
      exact k_nil (.eq (.eq (.no (.no (.no .nil)))))
  · obtain rfl := Option.some.inj hm
    exact k_retV 1 rfl
def p_is_name (A : Ad) : Pm := fun Γ o => ∃ (text : Str) (r : Bool), Γ = [.va (.str text)] ∧ m_is_name text = some r ∧ o = .ret (.va (D.bl r))
theorem sc_is_name : FnScope ["text", "char"] ["text"] (defScope (top 5)) := ⟨rfl, rfl, rfl, by decide +kernel, rfl, by decide +kernel, by decide +kernel⟩
theorem ok_is_name {f : Addr} {fd : FuncData} (F : Fun K "is_name" "is_name" (top 5) f fd) (Z : Fx Pr K mg A) : FnOk Pr w K mg base (L2N.CX Pr w) 1 f fd ["text"] (mkSp K (p_is_name A)) := by
  refine fn_sds F sc_is_name (fun Γ o ⟨_, _, h2, _⟩ => by rw [h2]; rfl) fun cdv A' outer s H E hr H0 Oc Γ o ⟨text, r, hΓ, hm, ho⟩ => ?_
  subst hΓ ho
  unfold m_is_name at hm
  refine k_top ?_
  obtain ⟨n_1, h_n_1, hm⟩ := bindE hm
  obtain ⟨q_3, h_q_3, hm⟩ := bindE hm
  rcases iteE hm with ⟨hq, hm⟩ | ⟨hq, hm⟩
  · refine k_ifT (et_w (gt_or (et_c cm_lt (g_lenS Z.z_len (vv 0) h_n_1) ev_int) h_q_3 (fun r hq hm => by obtain ⟨n_2, h_n_2, hm⟩ := bindE hm; obtain rfl := Option.some.inj hm; exact (ew_or1 (et_c cm_gt (g_lenS Z.z_len (vv 0) h_n_2) ev_int))))) hq ?_
    obtain rfl := Option.some.inj hm
    exact k_ret ev_bl rfl
  · refine k_ifF (et_w (gt_or (et_c cm_lt (g_lenS Z.z_len (vv 0) h_n_1) ev_int) h_q_3 (fun r hq hm => by obtain ⟨n_2, h_n_2, hm⟩ := bindE hm; obtain rfl := Option.some.inj hm; exact (ew_or1 (et_c cm_gt (g_lenS Z.z_len (vv 0) h_n_2) ev_int))))) hq ?_
    refine k_nil ?_
    obtain ⟨ys_6, h_ys_6, hm⟩ := bindE hm
    obtain rfl := Option.some.inj hm
    exact k_ret (e_all Z.z_all rfl (Ev.r (g_lc [("char", 1)] (chars text) D.str _ D.bl (fun b_4 => [.va (.str text), .va (.str b_4)]) h_ys_6 rfl sc_is_name.nd (blkOk_by (by rfl)) (g_chars (vv 0)) (fun b_4 _ _ _ _ _ _ _ _ => tw_name 1 sc_is_name.nd) (fun _ _ => ⟨rfl, Sub.refl⟩) (fun b_4 _ y hy _ _ _ _ _ _ _ => by obtain ⟨q_5, h_q_5, hy⟩ := tailE hy; obtain rfl := Option.some.inj hy; exact (ev_c (g_inS h_q_5) (vv 1) ev_str))))) rfl
def p_is_binary (A : Ad) : Pm := fun Γ o => ∃ (setting : List Int) (size : Int) (r : Bool), Γ = [.va (encT setting), .va (.int size)] ∧ m_is_binary setting size = some r ∧ o = .ret (.va (D.bl r))
theorem sc_is_binary : FnScope ["setting", "size", "value"] ["setting", "size"] (defScope (top 2)) := ⟨rfl, rfl, rfl, by decide +kernel, rfl, by decide +kernel, by decide +kernel⟩
theorem ok_is_binary {f : Addr} {fd : FuncData} (F : Fun K "is_binary" "is_binary" (top 2) f fd) (Z : Fx Pr K mg A) : FnOk Pr w K mg base (L2N.CX Pr w) 1 f fd ["setting", "size"] (mkSp K (p_is_binary A)) := by
  refine fn_sds F sc_is_binary (fun Γ o ⟨_, _, _, h2, _⟩ => by rw [h2]; rfl) fun cdv A' outer s H E hr H0 Oc Γ o ⟨setting, size, r, hΓ, hm, ho⟩ => ?_
  subst hΓ ho
  unfold m_is_binary at hm
  refine k_top ?_
  obtain ⟨q_3, h_q_3, hm⟩ := tailE hm
  obtain rfl := Option.some.inj hm
  exact k_ret (g_and (ev_c cm_eqI (g_len (f := D.int) Z.z_len (Ev.r (vv 0))) (vv 1)) h_q_3 (fun r hq hm => by obtain ⟨ys_2, h_ys_2, hm⟩ := bindE hm; obtain rfl := Option.some.inj hm; exact (ev_one (e_all Z.z_all rfl (Ev.r (g_lc [("value", 2)] setting D.int _ D.bl (fun b_1 => [.va (encT setting), .va (.int size), .va (.int b_1)]) h_ys_2 rfl sc_is_binary.nd (blkOk_by (by rfl)) (ei_tup (vv 0) rfl) (fun b_1 _ _ _ _ _ _ _ _ => tw_name 2 sc_is_binary.nd) (fun _ _ => ⟨rfl, Sub.refl⟩) (fun b_1 _ y hy _ _ _ _ _ _ _ => by obtain rfl := Option.some.inj hy; exact (ev_or (ev_c cm_eqI (vv 2) ev_int) fun _ => (ev_one (ev_c cm_eqI (vv 2) ev_int)))))))))) rfl
def p_Kind_init (A : Ad) : Pm := fun Γ o => ∃ (name : Str) (width : Int) (tuples : List (List Int)) (r : Rs Exc C_Kind), Γ = [.va (.str name), .va (.int width), .br ((eL encT) tuples)] ∧ m_Kind_init name width tuples = some r ∧ o = outR Sl.ow (enc_Kind A) (xO A) r
theorem sc_Kind_init : FnScope ["self", "name", "width", "tuples", "known", "index", "values"] ["self", "name", "width", "tuples"] (defScope (inClass (top 20) 0)) := ⟨rfl, rfl, rfl, by decide +kernel, rfl, by decide +kernel, by decide +kernel⟩
theorem ok_Kind_init {f : Addr} {fd : FuncData} (F : Fun K "__init__" "Kind.__init__" (inClass (top 20) 0) f fd) (Z : Fx Pr K mg A) (G_is_name : FnG Pr w K mg base "is_name" 1 ["text"] (p_is_name A)) (G_check_width : FnG Pr w K mg base "check_width" 3 ["width"] (p_check_width A)) (G_is_binary : FnG Pr w K mg base "is_binary" 1 ["setting", "size"] (p_is_binary A)) (G_grouped_by_piece : FnG Pr w K mg base "grouped_by_piece" 3 ["tuples"] (p_grouped_by_piece A)) : FnOk Pr w K mg base (L2N.CX Pr w) 4 f fd ["self", "name", "width", "tuples"] (mkSpI K A.Kind (p_Kind_init A)) := by
  refine init_sds F sc_Kind_init (fun Γ o ⟨_, _, _, _, h2, _⟩ => by rw [h2]; rfl) fun cdv A' outer s H E hr H0 Oc Γ o aa ⟨name, width, tuples, r, hΓ, hm, ho⟩ => ?_
  subst hΓ ho
  unfold m_Kind_init at hm
  refine k_topI ?_
  obtain ⟨isname_1, h_isname_1, hm⟩ := bindE hm
  rcases iteE hm with ⟨hq, hm⟩ | ⟨hq, hm⟩
  · refine k_ifT (et_not (et_val (g_call G_is_name (hr.mono (by decide)) (ea_cons (vv 1) ea_nil) ⟨name, isname_1, rfl, h_isname_1, rfl⟩ (.eq .nil)))) hq ?_
    obtain rfl := Option.some.inj hm
    exact k_raise1 rfl (L2N.takes_of rfl rfl rfl rfl) Z.ex_BadKind (hr.mono (by decide)) (ev_neg ev_int) ⟨_, rfl⟩
  · refine k_ifF (et_not (et_val (g_call G_is_name (hr.mono (by decide)) (ea_cons (vv 1) ea_nil) ⟨name, isname_1, rfl, h_isname_1, rfl⟩ (.eq .nil)))) hq ?_
    refine k_nil ?_
    rcases tryRE hm with ⟨u_2, h_u_2, hm⟩ | ⟨e_3, h_e_3, hm⟩
    · refine k_expr (g_call G_check_width (hr.mono (by decide)) (ea_cons (vv 2) ea_nil) ⟨width, .ret u_2, rfl, h_u_2, rfl⟩ (.eq .nil)) ?_
      obtain ⟨known_4, h_known_4, hm⟩ := bndE hm
      refine k_set 4 sc_Kind_init.nd (Ev.co (g := (eDT kId D.int)) ev_dT0 h_known_4) ?_
      obtain ⟨lp_13, h_lp_13, hm⟩ := bindE hm
      refine k_for (enumI tuples) (eP2 D.int encT) _ known_4 (fun (st_5 : (List ((List Int) × Int))) => [.ow (.slf aa A.Kind [] []), .va (.str name), .va (.int width), .br ((eL encT) tuples), .ow ((eDT kId D.int) st_5), .no, .no]) Sl.ow (fun v : Empty => v.elim) (xO A) h_lp_13 (passes_of rfl) rfl (g_enumL (f := encT) Z.z_enumerate (vr 3)) (.eq (.eq (.eq (.eq (.eq (.no (.no .nil))))))) (fun st_5 b_6 _ z_8 hml => ⟨_, t_two (d1 := .int b_6.1) (d2 := encT b_6.2) 5 6 rfl sc_Kind_init.nd, ?_⟩) (fun st_7 q => ?_) (fun v_14 q => ?_) (fun e_15 q => ?_)
      · obtain ⟨isbinary_9, h_isbinary_9, hml⟩ := bindE hml
        rcases iteE hml with ⟨hq, hml⟩ | ⟨hq, hml⟩
        · refine k_ifT (et_w (ew_or (et_not (et_val (g_call G_is_binary (hr.mono (by decide)) (ea_cons (vv 6) (ea_cons (vv 2) ea_nil)) ⟨b_6.2, width, isbinary_9, rfl, h_isbinary_9, rfl⟩ (.eq (.eq .nil))))) fun _ => (ew_or1 (et_c (g_inT (ev := D.int) kId_inj (hu1 hr) b_6.2 st_5) (vv 6) (vo 4))))) hq ?_
          obtain rfl := Option.some.inj hml
          exact k_raise1 rfl (L2N.takes_of rfl rfl rfl rfl) Z.ex_BadKind (hr.mono (by decide)) (vv 5) ⟨_, rfl⟩
        · refine k_ifF (et_w (ew_or (et_not (et_val (g_call G_is_binary (hr.mono (by decide)) (ea_cons (vv 6) (ea_cons (vv 2) ea_nil)) ⟨b_6.2, width, isbinary_9, rfl, h_isbinary_9, rfl⟩ (.eq (.eq .nil))))) fun _ => (ew_or1 (et_c (g_inT (ev := D.int) kId_inj (hu1 hr) b_6.2 st_5) (vv 6) (vo 4))))) hq ?_
          refine k_nil ?_
          obtain ⟨known_10, h_known_10, hml⟩ := bindE hml
          refine k_dput (ev := D.int) kId_inj 4 (hu1 hr) (vv 5) (vv 6) h_known_10 ?_
          obtain rfl := Option.some.inj hml
          exact k_nil (.eq (.eq (.eq (.eq (.eq (.no (.no .nil)))))))
      · subst q
        refine k_fld 0 Z.cl_Kind Z.no_Kind_name (vv 1) ?_
        refine k_fld 0 Z.cl_Kind Z.no_Kind_width (vv 2) ?_
        obtain ⟨so_11, h_so_11, hm⟩ := bindE hm
        refine k_fld 0 Z.cl_Kind Z.no_Kind_tuples (Ev.fz (g_sort (f := encT) (fun x => x) (fun _ => rfl) Z.z_sorted (Ev.r (g_listD (f := encT) (fun _ => rfl) Z.z_list rfl (vo 4))) h_so_11)) ?_
        obtain ⟨groupedbypiece_12, h_groupedbypiece_12, hm⟩ := bindE hm
        refine k_fld 0 Z.cl_Kind Z.no_Kind_grouped (Ev.fz (g_call G_grouped_by_piece (hr.mono (by decide)) (ea_cons (ev_fld Z.cl_Kind Z.no_Kind_tuples (Ev.ob (vo 0)) rfl) ea_nil) ⟨so_11, groupedbypiece_12, rfl, h_groupedbypiece_12, rfl⟩ (.vb .nil))) ?_
        obtain rfl := Option.some.inj hm
        exact k_nil ⟨_, _, rfl, rfl⟩
      · subst q
        exact v_14.elim
      · subst q
        obtain rfl := Option.some.inj hm
        exact ⟨_, rfl⟩
    · obtain rfl := Option.some.inj hm
      exact k_exprX (gx_call (Γe := none) (L2N.takes_of rfl rfl rfl rfl) G_check_width (hr.mono (by decide)) (ea_cons (vv 2) ea_nil) ⟨width, .exc e_3, rfl, h_e_3, rfl⟩ (.eq .nil)) ⟨_, rfl⟩
def p_law_world (A : Ad) : Pm := fun Γ o => ∃ (size : Int) (rules : List ((List Int) × (List (List Int)))) (r : C_Rules), Γ = [.va (.int size), .br ((eL (eP2 encT (eL encT))) rules)] ∧ m_law_world size rules = some r ∧ o = .ret (.ow ((enc_Rules A) r))
theorem sc_law_world : FnScope ["size", "rules", "names", "passed", "k"] ["size", "rules"] (defScope (top 38)) := ⟨rfl, rfl, rfl, by decide +kernel, rfl, by decide +kernel, by decide +kernel⟩
theorem ok_law_world {f : Addr} {fd : FuncData} (F : Fun K "_law_world" "_law_world" (top 38) f fd) (Z : Fx Pr K mg A) (G_Kind_init : ClG Pr w K mg base "Kind" A.Kind 4 ["self", "name", "width", "tuples"] (p_Kind_init A)) (G_Rules_init : ClG Pr w K mg base "Rules" A.Rules 3 ["self", "size", "rules"] (p_Rules_init A)) : FnOk Pr w K mg base (L2N.CX Pr w) 6 f fd ["size", "rules"] (mkSp K (p_law_world A)) := by
  refine fn_sds F sc_law_world (fun Γ o ⟨_, _, _, h2, _⟩ => by rw [h2]; rfl) fun cdv A' outer s H E hr H0 Oc Γ o ⟨size, rules, r, hΓ, hm, ho⟩ => ?_
  subst hΓ ho
  unfold m_law_world at hm
  refine k_top ?_
  obtain ⟨names_1, h_names_1, hm⟩ := bndE hm
  refine k_set 2 sc_law_world.nd (Ev.cv (g := D.str) ev_str h_names_1) ?_
  obtain ⟨passed_2, h_passed_2, hm⟩ := bndE hm
  refine k_set 3 sc_law_world.nd (Ev.co (g := (eL (eP2 (enc_Kind A) encT))) (ev_lst ea_nil rfl (by show 0 ≤ _; decide)) h_passed_2) ?_
  obtain ⟨rg_3, h_rg_3, hm⟩ := bindE hm
  obtain ⟨st_6, h_st_6, hm⟩ := bindE hm
  refine k_forO rg_3 D.int _ passed_2 (fun (st_4 : (List (C_Kind × (List Int)))) => [.va (.int size), .br ((eL (eP2 encT (eL encT))) rules), .va (.str names_1), .ow ((eL (eP2 (enc_Kind A) encT)) st_4), .no]) h_st_6 (passes_of rfl) rfl (g_rng Z.z_range (g_len (f := (eP2 encT (eL encT))) Z.z_len (Ev.r (vr 1))) h_rg_3) (.eq (.eq (.eq (.eq (.no .nil))))) (fun st_4 b_5 _ z_7 hml => ⟨_, t_name 4 sc_law_world.nd, ?_⟩) ?_
  · obtain ⟨ch_8, h_ch_8, hml⟩ := bindE hml
    obtain ⟨i_9, h_i_9, hml⟩ := bindE hml
    obtain ⟨i_10, h_i_10, hml⟩ := bindE hml
    obtain ⟨Kind_11, h_Kind_11, hml⟩ := bindE hml
    obtain ⟨i_12, h_i_12, hml⟩ := bindE hml
    obtain ⟨passed_13, h_passed_13, hml⟩ := tailE hml
    refine k_app (f := (eP2 (enc_Kind A) encT)) (v := (Kind_11, i_12.1)) 3 (ev_tup (ea_cons (Ev.fz (g_make G_Kind_init (hr.mono (by decide)) (ea_cons (g_ixS (vv 2) (vv 4) h_ch_8) (ea_cons (g_len (f := D.int) Z.z_len (Ev.r (ev_ixT (d := encT i_9.1) (Ev.r (ev_ixL (Ev.r (vr 1)) (vv 4) (atM (f := (eP2 encT (eL encT))) h_i_9))) ev_int rfl))) (ea_cons (e_list Z.z_list (Ev.r (ev_ixT (d := (eL encT) i_10.2) (Ev.r (ev_ixL (Ev.r (vr 1)) (vv 4) (atM (f := (eP2 encT (eL encT))) h_i_10))) ev_int rfl))) ea_nil))) ⟨ch_8, (i_9.1.length : Int), i_10.2, .ret Kind_11, rfl, okOE h_Kind_11, rfl⟩ (.eq (.eq (.eq .nil))))) (ea_cons (ev_ixT (d := encT i_12.1) (Ev.r (ev_ixL (Ev.r (vr 1)) (vv 4) (atM (f := (eP2 encT (eL encT))) h_i_12))) ev_int rfl) ea_nil)) rfl (by show 2 ≤ _; decide)) h_passed_13 ?_
    obtain rfl := Option.some.inj hml
    exact k_nil (.eq (.eq (.eq (.eq (.no .nil)))))
  · obtain ⟨Rules_14, h_Rules_14, hm⟩ := tailE hm
    obtain rfl := Option.some.inj hm
    exact k_ret (g_make G_Rules_init (hr.mono (by decide)) (ea_cons (vv 0) (ea_cons (vo 3) ea_nil)) ⟨size, st_6, .ret Rules_14, rfl, okOE h_Rules_14, rfl⟩ (.eq (.eq .nil))) rfl
end
end Y

namespace Y
open PySem PySem.Spec PyProof.Rows L2
section
variable {Pr : Program} {w : World} {K : PySem.W.Frag} {mg : Str → Option Value} {base : Heap} {A : Ad}
def p_law_tuples (A : Ad) : Pm := fun Γ o => ∃ (width : Int) (r : List (List Int)), Γ = [.va (.int width)] ∧ m_law_tuples width = some r ∧ o = .ret (.ow ((eL encT) r))
theorem sc_law_tuples : FnScope ["width", "rows", "turn", "row"] ["width"] (defScope (top 30)) := ⟨rfl, rfl, rfl, by decide +kernel, rfl, by decide +kernel, by decide +kernel⟩
theorem ok_law_tuples {f : Addr} {fd : FuncData} (F : Fun K "_law_tuples" "_law_tuples" (top 30) f fd) (Z : Fx Pr K mg A) : FnOk Pr w K mg base (L2N.CX Pr w) 1 f fd ["width"] (mkSp K (p_law_tuples A)) := by
  refine fn_sds F sc_law_tuples (fun Γ o ⟨_, _, h2, _⟩ => by rw [h2]; rfl) fun cdv A' outer s H E hr H0 Oc Γ o ⟨width, r, hΓ, hm, ho⟩ => ?_
  subst hΓ ho
  unfold m_law_tuples at hm
  refine k_top ?_
  obtain ⟨rows_1, h_rows_1, hm⟩ := bndE hm
  refine k_set 1 sc_law_tuples.nd (Ev.co (g := (eL encT)) (ev_lst (ea_cons (ev_tup ea_nil rfl (by show 0 ≤ _; decide)) ea_nil) rfl (by show 1 ≤ _; decide)) h_rows_1) ?_
  obtain ⟨rg_2, h_rg_2, hm⟩ := bindE hm
  obtain ⟨st_5, h_st_5, hm⟩ := bindE hm
  refine k_forO rg_2 D.int _ rows_1 (fun (st_3 : (List (List Int))) => [.va (.int width), .ow ((eL encT) st_3), .no, .no]) h_st_5 (passes_of rfl) rfl (g_rng Z.z_range (vv 0) h_rg_2) (.eq (.eq (.no (.no .nil)))) (fun st_3 b_4 _ z_6 hml => ⟨_, t_name 2 sc_law_tuples.nd, ?_⟩) ?_
  · refine k_freeze 1 ?_
    obtain ⟨ys_9, h_ys_9, hml⟩ := bindE hml
    obtain ⟨ys_12, h_ys_12, hml⟩ := bindE hml
    obtain ⟨c_13, h_c_13, hml⟩ := tailE hml
    refine k_set 1 sc_law_tuples.nd (g_catL (f := encT) (Ev.r (g_lc [("row", 3)] st_3 encT _ encT (fun b_7 => [.va (.int width), .va ((eL encT) st_3), .va (.int b_4), .va (encT b_7)]) h_ys_9 rfl sc_law_tuples.nd (blkOk_by (by rfl)) (ei_lst (vv 1) rfl) (fun b_7 _ _ _ _ _ _ _ _ => tw_name 3 sc_law_tuples.nd) (fun _ _ => ⟨rfl, Sub.refl⟩) (fun b_7 _ y hy _ _ _ _ _ _ _ => by obtain ⟨c_8, h_c_8, hy⟩ := tailE hy; obtain rfl := Option.some.inj hy; exact (g_catT (f := D.int) (vv 3) (ev_tup (ea_cons ev_int ea_nil) rfl (by show 1 ≤ _; decide)) h_c_8)))) (Ev.r (g_lc [("row", 3)] st_3 encT _ encT (fun b_10 => [.va (.int width), .va ((eL encT) st_3), .va (.int b_4), .va (encT b_10)]) h_ys_12 rfl sc_law_tuples.nd (blkOk_by (by rfl)) (ei_lst (vv 1) rfl) (fun b_10 _ _ _ _ _ _ _ _ => tw_name 3 sc_law_tuples.nd) (fun _ _ => ⟨rfl, Sub.refl⟩) (fun b_10 _ y hy _ _ _ _ _ _ _ => by obtain ⟨c_11, h_c_11, hy⟩ := tailE hy; obtain rfl := Option.some.inj hy; exact (g_catT (f := D.int) (vv 3) (ev_tup (ea_cons ev_int ea_nil) rfl (by show 1 ≤ _; decide)) h_c_11)))) h_c_13) ?_
    obtain rfl := Option.some.inj hml
    exact k_nil (.eq (.eq (.no (.no .nil))))
  · obtain rfl := Option.some.inj hm
    exact k_retV 1 rfl
def p_law_values_v2 (A : Ad) : Pm := fun Γ o => ∃ (setting : List Int) (letters : List Int) (r : List Int), Γ = [.br ((eL D.int) setting), .va (encT letters)] ∧ m_law_values_v2 setting letters = some r ∧ o = .ret (.va (encT r))
theorem sc_law_values_v2 : FnScope ["setting", "letters", "letter"] ["setting", "letters"] (defScope (top 33)) := ⟨rfl, rfl, rfl, by decide +kernel, rfl, by decide +kernel, by decide +kernel⟩
theorem ok_law_values_v2 {f : Addr} {fd : FuncData} (F : Fun K "_law_values" "_law_values" (top 33) f fd) (Z : Fx Pr K mg A) : FnOk Pr w K mg base (L2N.CX Pr w) 1 f fd ["setting", "letters"] (mkSp K (p_law_values_v2 A)) := by
  refine fn_sds F sc_law_values_v2 (fun Γ o ⟨_, _, _, h2, _⟩ => by rw [h2]; rfl) fun cdv A' outer s H E hr H0 Oc Γ o ⟨setting, letters, r, hΓ, hm, ho⟩ => ?_
  subst hΓ ho
  unfold m_law_values_v2 at hm
  refine k_top ?_
  obtain ⟨ys_3, h_ys_3, hm⟩ := tailE hm
  obtain rfl := Option.some.inj hm
  exact k_ret (e_tupL Z.z_tuple (Ev.r (g_lc [("letter", 2)] letters D.int _ D.int (fun b_1 => [.br ((eL D.int) setting), .va (encT letters), .va (.int b_1)]) h_ys_3 rfl sc_law_values_v2.nd (blkOk_by (by rfl)) (ei_tup (vv 1) rfl) (fun b_1 _ _ _ _ _ _ _ _ => tw_name 2 sc_law_values_v2.nd) (fun _ _ => ⟨rfl, Sub.refl⟩) (fun b_1 _ y hy _ _ _ _ _ _ _ => by obtain ⟨i_2, h_i_2, hy⟩ := tailE hy; obtain rfl := Option.some.inj hy; exact (ev_ixL (Ev.r (vr 0)) (vv 2) (atM (f := D.int) h_i_2)))))) rfl
def p_law_keeps (A : Ad) : Pm := fun Γ o => ∃ (setting : List Int) (rules : List ((List Int) × (List (List Int)))) (r : Bool), Γ = [.br ((eL D.int) setting), .br ((eL (eP2 encT (eL encT))) rules)] ∧ m_law_keeps setting rules = some r ∧ o = .ret (.va (D.bl r))
theorem sc_law_keeps : FnScope ["setting", "rules", "rule"] ["setting", "rules"] (defScope (top 36)) := ⟨rfl, rfl, rfl, by decide +kernel, rfl, by decide +kernel, by decide +kernel⟩
theorem ok_law_keeps {f : Addr} {fd : FuncData} (F : Fun K "_law_keeps" "_law_keeps" (top 36) f fd) (Z : Fx Pr K mg A) (G_law_values_v2 : FnG Pr w K mg base "_law_values" 1 ["setting", "letters"] (p_law_values_v2 A)) : FnOk Pr w K mg base (L2N.CX Pr w) 2 f fd ["setting", "rules"] (mkSp K (p_law_keeps A)) := by
  refine fn_sds F sc_law_keeps (fun Γ o ⟨_, _, _, h2, _⟩ => by rw [h2]; rfl) fun cdv A' outer s H E hr H0 Oc Γ o ⟨setting, rules, r, hΓ, hm, ho⟩ => ?_
  subst hΓ ho
  unfold m_law_keeps at hm
  refine k_top ?_
  obtain ⟨ys_3, h_ys_3, hm⟩ := bindE hm
  obtain rfl := Option.some.inj hm
  exact k_ret (e_all Z.z_all rfl (Ev.r (g_lc [("rule", 2)] rules (eP2 encT (eL encT)) _ D.bl (fun b_1 => [.br ((eL D.int) setting), .br ((eL (eP2 encT (eL encT))) rules), .va ((eP2 encT (eL encT)) b_1)]) h_ys_3 rfl sc_law_keeps.nd (blkOk_by (by rfl)) (ei_lst (vr 1) rfl) (fun b_1 _ _ _ _ _ _ _ _ => tw_name 2 sc_law_keeps.nd) (fun _ _ => ⟨rfl, Sub.refl⟩) (fun b_1 _ y hy _ _ _ _ _ _ _ => by obtain ⟨values_2, h_values_2, hy⟩ := bindE hy; obtain rfl := Option.some.inj hy; exact (ev_c (g_in (f := encT) (hu65 hr) eqT' 1 okT (by decide) values_2 b_1.2) (Ev.r (g_call G_law_values_v2 (hr.mono (by decide)) (ea_cons (vr 0) (ea_cons (ev_ixT (d := encT b_1.1) (Ev.r (vv 2)) ev_int rfl) ea_nil)) ⟨setting, b_1.1, values_2, rfl, h_values_2, rfl⟩ (.eq (.eq .nil)))) (Ev.r (ev_ixT (d := (eL encT) b_1.2) (Ev.r (vv 2)) ev_int rfl))))))) rfl
def p_law_due (A : Ad) : Pm := fun Γ o => ∃ (setting : List Int) (rules : List ((List Int) × (List (List Int)))) (letters : List Int) (r : Bool), Γ = [.va (encT setting), .br ((eL (eP2 encT (eL encT))) rules), .br ((eL D.int) letters)] ∧ m_law_due setting rules letters = some r ∧ o = .ret (.va (D.bl r))
theorem sc_law_due : FnScope ["setting", "rules", "letters", "choices", "changed", "k"] ["setting", "rules", "letters"] (defScope (top 37)) := ⟨rfl, rfl, rfl, by decide +kernel, rfl, by decide +kernel, by decide +kernel⟩
theorem ok_law_due {f : Addr} {fd : FuncData} (F : Fun K "_law_due" "_law_due" (top 37) f fd) (Z : Fx Pr K mg A) (G_law_tuples : FnG Pr w K mg base "_law_tuples" 1 ["width"] (p_law_tuples A)) (G_law_keeps : FnG Pr w K mg base "_law_keeps" 2 ["setting", "rules"] (p_law_keeps A)) : FnOk Pr w K mg base (L2N.CX Pr w) 3 f fd ["setting", "rules", "letters"] (mkSp K (p_law_due A)) := by
  refine fn_sds F sc_law_due (fun Γ o ⟨_, _, _, _, h2, _⟩ => by rw [h2]; rfl) fun cdv A' outer s H E hr H0 Oc Γ o ⟨setting, rules, letters, r, hΓ, hm, ho⟩ => ?_
  subst hΓ ho
  unfold m_law_due at hm
  refine k_top ?_
  obtain ⟨tuples_1, h_tuples_1, hm⟩ := bindE hm
  obtain ⟨lp_17, h_lp_17, hm⟩ := bindE hm
  refine k_for tuples_1 encT _ () (fun (st_2 : Unit) => [.va (encT setting), .br ((eL (eP2 encT (eL encT))) rules), .br ((eL D.int) letters), .no, .no, .no]) Sl.va D.bl (xO A) h_lp_17 (passes_of rfl) rfl (ei_lst (Ev.fz (g_call G_law_tuples (hr.mono (by decide)) (ea_cons (g_len (f := D.int) Z.z_len (Ev.r (vr 2))) ea_nil) ⟨(letters.length : Int), tuples_1, rfl, h_tuples_1, rfl⟩ (.eq .nil))) rfl) (.eq (.eq (.eq (.no (.no (.no .nil)))))) (fun st_2 b_3 _ z_5 hml => ⟨_, t_name 3 sc_law_due.nd, ?_⟩) (fun st_4 q => ?_) (fun v_18 q => ?_) (fun e_19 q => ?_)
  · refine k_set 4 sc_law_due.nd (e_list Z.z_list (Ev.r (vv 0))) ?_
    obtain ⟨rg_6, h_rg_6, hml⟩ := bindE hml
    obtain ⟨st_9, h_st_9, hml⟩ := bindE hml
    refine k_forO rg_6 D.int _ setting (fun (st_7 : (List Int)) => [.va (encT setting), .br ((eL (eP2 encT (eL encT))) rules), .br ((eL D.int) letters), .va (encT b_3), .ow ((eL D.int) st_7), .no]) h_st_9 (passes_of rfl) rfl (g_rng Z.z_range (g_len (f := D.int) Z.z_len (Ev.r (vr 2))) h_rg_6) (.eq (.eq (.eq (.eq (.eq (.no .nil)))))) (fun st_7 b_8 _ z_10 hmll => ⟨_, t_name 5 sc_law_due.nd, ?_⟩) ?_
    · obtain ⟨i_11, h_i_11, hmll⟩ := bindE hmll
      rcases iteE hmll with ⟨hq, hmll⟩ | ⟨hq, hmll⟩
      · refine k_ifT (et_c cm_eqI (ev_ixT (Ev.r (vv 3)) (vv 5) (atM (f := D.int) h_i_11)) ev_int) hq ?_
        obtain ⟨i_12, h_i_12, hmll⟩ := bindE hmll
        obtain ⟨i_13, h_i_13, hmll⟩ := bindE hmll
        obtain ⟨i_14, h_i_14, hmll⟩ := bindE hmll
        obtain ⟨changed_15, h_changed_15, hmll⟩ := tailE hmll
        refine k_ix (f := D.int) 4 (ev_sub ev_int (ev_ixL (vo 4) (ev_ixL (Ev.r (vr 2)) (vv 5) (atM (f := D.int) h_i_12)) (atM (f := D.int) h_i_13))) (ev_ixL (Ev.r (vr 2)) (vv 5) (atM (f := D.int) h_i_14)) h_changed_15 ?_
        refine k_nil ?_
        obtain rfl := Option.some.inj hmll
        exact k_nil (.eq (.eq (.eq (.eq (.eq (.no .nil))))))
      · refine k_ifF (et_c cm_eqI (ev_ixT (Ev.r (vv 3)) (vv 5) (atM (f := D.int) h_i_11)) ev_int) hq ?_
        refine k_nil ?_
        obtain rfl := Option.some.inj hmll
        exact k_nil (.eq (.eq (.eq (.eq (.eq (.no .nil))))))
    · obtain ⟨keeps_16, h_keeps_16, hml⟩ := bindE hml
      rcases iteE hml with ⟨hq, hml⟩ | ⟨hq, hml⟩
      · refine k_ifT (et_not (et_val (g_call G_law_keeps (hr.mono (by decide)) (ea_cons (vo 4) (ea_cons (vr 1) ea_nil)) ⟨st_9, rules, keeps_16, rfl, h_keeps_16, rfl⟩ (.eq (.eq .nil))))) hq ?_
        obtain rfl := Option.some.inj hml
        exact k_ret ev_bl rfl
      · refine k_ifF (et_not (et_val (g_call G_law_keeps (hr.mono (by decide)) (ea_cons (vo 4) (ea_cons (vr 1) ea_nil)) ⟨st_9, rules, keeps_16, rfl, h_keeps_16, rfl⟩ (.eq (.eq .nil))))) hq ?_
        refine k_nil ?_
        obtain rfl := Option.some.inj hml
        exact k_nil (.eq (.eq (.eq (.no (.no (.no .nil))))))
  · subst q
    obtain rfl := Option.some.inj hm
    exact k_ret ev_bl rfl
  · subst q
    obtain rfl := Option.some.inj hm
    exact rfl
  · subst q
    cases hm
def p_law_values_v3 (A : Ad) : Pm := fun Γ o => ∃ (setting : List Int) (letters : List Int) (r : List Int), Γ = [.va (encT setting), .va (encT letters)] ∧ m_law_values_v3 setting letters = some r ∧ o = .ret (.va (encT r))
theorem sc_law_values_v3 : FnScope ["setting", "letters", "letter"] ["setting", "letters"] (defScope (top 33)) := ⟨rfl, rfl, rfl, by decide +kernel, rfl, by decide +kernel, by decide +kernel⟩
theorem ok_law_values_v3 {f : Addr} {fd : FuncData} (F : Fun K "_law_values" "_law_values" (top 33) f fd) (Z : Fx Pr K mg A) : FnOk Pr w K mg base (L2N.CX Pr w) 1 f fd ["setting", "letters"] (mkSp K (p_law_values_v3 A)) := by
  refine fn_sds F sc_law_values_v3 (fun Γ o ⟨_, _, _, h2, _⟩ => by rw [h2]; rfl) fun cdv A' outer s H E hr H0 Oc Γ o ⟨setting, letters, r, hΓ, hm, ho⟩ => ?_
  subst hΓ ho
  unfold m_law_values_v3 at hm
  refine k_top ?_
  obtain ⟨ys_3, h_ys_3, hm⟩ := tailE hm
  obtain rfl := Option.some.inj hm
  exact k_ret (e_tupL Z.z_tuple (Ev.r (g_lc [("letter", 2)] letters D.int _ D.int (fun b_1 => [.va (encT setting), .va (encT letters), .va (.int b_1)]) h_ys_3 rfl sc_law_values_v3.nd (blkOk_by (by rfl)) (ei_tup (vv 1) rfl) (fun b_1 _ _ _ _ _ _ _ _ => tw_name 2 sc_law_values_v3.nd) (fun _ _ => ⟨rfl, Sub.refl⟩) (fun b_1 _ y hy _ _ _ _ _ _ _ => by obtain ⟨i_2, h_i_2, hy⟩ := tailE hy; obtain rfl := Option.some.inj hy; exact (ev_ixT (Ev.r (vv 0)) (vv 2) (atM (f := D.int) h_i_2)))))) rfl
def p_law_keeps_v2 (A : Ad) : Pm := fun Γ o => ∃ (setting : List Int) (rules : List ((List Int) × (List (List Int)))) (r : Bool), Γ = [.va (encT setting), .br ((eL (eP2 encT (eL encT))) rules)] ∧ m_law_keeps_v2 setting rules = some r ∧ o = .ret (.va (D.bl r))
theorem sc_law_keeps_v2 : FnScope ["setting", "rules", "rule"] ["setting", "rules"] (defScope (top 36)) := ⟨rfl, rfl, rfl, by decide +kernel, rfl, by decide +kernel, by decide +kernel⟩
theorem ok_law_keeps_v2 {f : Addr} {fd : FuncData} (F : Fun K "_law_keeps" "_law_keeps" (top 36) f fd) (Z : Fx Pr K mg A) (G_law_values_v3 : FnG Pr w K mg base "_law_values" 1 ["setting", "letters"] (p_law_values_v3 A)) : FnOk Pr w K mg base (L2N.CX Pr w) 2 f fd ["setting", "rules"] (mkSp K (p_law_keeps_v2 A)) := by
  refine fn_sds F sc_law_keeps_v2 (fun Γ o ⟨_, _, _, h2, _⟩ => by rw [h2]; rfl) fun cdv A' outer s H E hr H0 Oc Γ o ⟨setting, rules, r, hΓ, hm, ho⟩ => ?_
  subst hΓ ho
  unfold m_law_keeps_v2 at hm
  refine k_top ?_
  obtain ⟨ys_3, h_ys_3, hm⟩ := bindE hm
  obtain rfl := Option.some.inj hm
  exact k_ret (e_all Z.z_all rfl (Ev.r (g_lc [("rule", 2)] rules (eP2 encT (eL encT)) _ D.bl (fun b_1 => [.va (encT setting), .br ((eL (eP2 encT (eL encT))) rules), .va ((eP2 encT (eL encT)) b_1)]) h_ys_3 rfl sc_law_keeps_v2.nd (blkOk_by (by rfl)) (ei_lst (vr 1) rfl) (fun b_1 _ _ _ _ _ _ _ _ => tw_name 2 sc_law_keeps_v2.nd) (fun _ _ => ⟨rfl, Sub.refl⟩) (fun b_1 _ y hy _ _ _ _ _ _ _ => by obtain ⟨values_2, h_values_2, hy⟩ := bindE hy; obtain rfl := Option.some.inj hy; exact (ev_c (g_in (f := encT) (hu65 hr) eqT' 1 okT (by decide) values_2 b_1.2) (Ev.r (g_call G_law_values_v3 (hr.mono (by decide)) (ea_cons (vv 0) (ea_cons (ev_ixT (d := encT b_1.1) (Ev.r (vv 2)) ev_int rfl) ea_nil)) ⟨setting, b_1.1, values_2, rfl, h_values_2, rfl⟩ (.eq (.eq .nil)))) (Ev.r (ev_ixT (d := (eL encT) b_1.2) (Ev.r (vv 2)) ev_int rfl))))))) rfl
def p_law_wrong_settings (A : Ad) : Pm := fun Γ o => ∃ (setting : List Int) (rules : List ((List Int) × (List (List Int)))) (at_ : Int) (r : List (List Int)), Γ = [.va (encT setting), .br ((eL (eP2 encT (eL encT))) rules), .va (.int at_)] ∧ m_law_wrong_settings setting rules at_ = some r ∧ o = .ret (.ow ((eL encT) r))
theorem sc_law_wrong_settings : FnScope ["setting", "rules", "at", "wrong", "k", "other"] ["setting", "rules", "at"] (defScope (top 41)) := ⟨rfl, rfl, rfl, by decide +kernel, rfl, by decide +kernel, by decide +kernel⟩
theorem ok_law_wrong_settings {f : Addr} {fd : FuncData} (F : Fun K "_law_wrong_settings" "_law_wrong_settings" (top 41) f fd) (Z : Fx Pr K mg A) (G_law_keeps_v2 : FnG Pr w K mg base "_law_keeps" 2 ["setting", "rules"] (p_law_keeps_v2 A)) : FnOk Pr w K mg base (L2N.CX Pr w) 3 f fd ["setting", "rules", "at"] (mkSp K (p_law_wrong_settings A)) := by
  refine fn_sds F sc_law_wrong_settings (fun Γ o ⟨_, _, _, _, h2, _⟩ => by rw [h2]; rfl) fun cdv A' outer s H E hr H0 Oc Γ o ⟨setting, rules, at_, r, hΓ, hm, ho⟩ => ?_
  subst hΓ ho
  unfold m_law_wrong_settings at hm
  refine k_top ?_
  obtain ⟨c_1, h_c_1, hm⟩ := bindE hm
  obtain ⟨c_2, h_c_2, hm⟩ := bindE hm
  obtain ⟨c_3, h_c_3, hm⟩ := bindE hm
  obtain ⟨wrong_4, h_wrong_4, hm⟩ := bndE hm
  refine k_set 3 sc_law_wrong_settings.nd (Ev.co (g := (eL encT)) (ev_lst (ea_cons (g_catT (f := D.int) (vv 0) (ev_tup (ea_cons ev_int ea_nil) rfl (by show 1 ≤ _; decide)) h_c_1) (ea_cons (g_slT (vv 0) eo_no (eo_at (ev_neg ev_int))) (ea_cons (g_catT (f := D.int) (g_catT (f := D.int) (g_slT (vv 0) eo_no (eo_at (vv 2))) (ev_tup (ea_cons ev_int ea_nil) rfl (by show 1 ≤ _; decide)) h_c_2) (g_slT (vv 0) (eo_at (ev_add (vv 2) ev_int)) eo_no) h_c_3) ea_nil))) rfl (by show 3 ≤ _; decide)) h_wrong_4) ?_
  obtain ⟨rg_5, h_rg_5, hm⟩ := bindE hm
  obtain ⟨st_8, h_st_8, hm⟩ := bindE hm
  refine k_forO rg_5 D.int _ wrong_4 (fun (st_6 : (List (List Int))) => [.va (encT setting), .br ((eL (eP2 encT (eL encT))) rules), .va (.int at_), .ow ((eL encT) st_6), .no, .no]) h_st_8 (passes_of rfl) rfl (g_rng Z.z_range (g_len (f := D.int) Z.z_len (Ev.r (vv 0))) h_rg_5) (.eq (.eq (.eq (.eq (.no (.no .nil)))))) (fun st_6 b_7 _ z_9 hml => ⟨_, t_name 4 sc_law_wrong_settings.nd, ?_⟩) ?_
  · obtain ⟨i_10, h_i_10, hml⟩ := bindE hml
    obtain ⟨c_11, h_c_11, hml⟩ := bindE hml
    obtain ⟨c_12, h_c_12, hml⟩ := bindE hml
    refine k_set 5 sc_law_wrong_settings.nd (g_catT (f := D.int) (g_catT (f := D.int) (g_slT (vv 0) eo_no (eo_at (vv 4))) (ev_tup (ea_cons (ev_sub ev_int (ev_ixT (Ev.r (vv 0)) (vv 4) (atM (f := D.int) h_i_10))) ea_nil) rfl (by show 1 ≤ _; decide)) h_c_11) (g_slT (vv 0) (eo_at (ev_add (vv 4) ev_int)) eo_no) h_c_12) ?_
    obtain ⟨q_14, h_q_14, hml⟩ := bindE hml
    rcases iteE hml with ⟨hq, hml⟩ | ⟨hq, hml⟩
    · refine k_ifT (et_w (gt_and (et_c cm_eqI (g_len (f := encT) Z.z_len (vo 3)) ev_int) h_q_14 (fun r hq hm => by obtain ⟨keeps_13, h_keeps_13, hm⟩ := bindE hm; obtain rfl := Option.some.inj hm; exact (ew_and1 (et_not (et_val (g_call G_law_keeps_v2 (hr.mono (by decide)) (ea_cons (vv 5) (ea_cons (vr 1) ea_nil)) ⟨c_12, rules, keeps_13, rfl, h_keeps_13, rfl⟩ (.eq (.eq .nil))))))))) hq ?_
      obtain ⟨wrong_15, h_wrong_15, hml⟩ := tailE hml
      refine k_app (f := encT) (v := c_12) 3 (vv 5) h_wrong_15 ?_
      refine k_nil ?_
      obtain rfl := Option.some.inj hml
      exact k_nil (.eq (.eq (.eq (.eq (.no (.no .nil))))))
    · refine k_ifF (et_w (gt_and (et_c cm_eqI (g_len (f := encT) Z.z_len (vo 3)) ev_int) h_q_14 (fun r hq hm => by obtain ⟨keeps_13, h_keeps_13, hm⟩ := bindE hm; obtain rfl := Option.some.inj hm; exact (ew_and1 (et_not (et_val (g_call G_law_keeps_v2 (hr.mono (by decide)) (ea_cons (vv 5) (ea_cons (vr 1) ea_nil)) ⟨c_12, rules, keeps_13, rfl, h_keeps_13, rfl⟩ (.eq (.eq .nil))))))))) hq ?_
      refine k_nil ?_
      obtain rfl := Option.some.inj hml
      exact k_nil (.eq (.eq (.eq (.eq (.no (.no .nil))))))
  · obtain rfl := Option.some.inj hm
    exact k_retV 3 rfl
def p_Rules_at_rule (A : Ad) : Pm := fun Γ o => ∃ (self : C_Rules) (index : Int) (setting : List Int) (r : List Int), Γ = [.br ((enc_Rules A) self), .va (.int index), .va (encT setting)] ∧ m_Rules_at_rule self index setting = some r ∧ o = .ret (.va (encT r))
theorem sc_Rules_at_rule : FnScope ["self", "index", "setting", "letter"] ["self", "index", "setting"] (defScope (inClass (top 25) 8)) := ⟨rfl, rfl, rfl, by decide +kernel, rfl, by decide +kernel, by decide +kernel⟩
theorem ok_Rules_at_rule {f : Addr} {fd : FuncData} (F : Fun K "at_rule" "Rules.at_rule" (inClass (top 25) 8) f fd) (Z : Fx Pr K mg A) : FnOk Pr w K mg base (L2N.CX Pr w) 1 f fd ["self", "index", "setting"] (mkSp K (p_Rules_at_rule A)) := by
  refine fn_sds F sc_Rules_at_rule (fun Γ o ⟨_, _, _, _, h2, _⟩ => by rw [h2]; rfl) fun cdv A' outer s H E hr H0 Oc Γ o ⟨self, index, setting, r, hΓ, hm, ho⟩ => ?_
  subst hΓ ho
  unfold m_Rules_at_rule at hm
  refine k_top ?_
  obtain ⟨i_1, h_i_1, hm⟩ := bindE hm
  obtain ⟨ys_4, h_ys_4, hm⟩ := tailE hm
  obtain rfl := Option.some.inj hm
  exact k_ret (e_tupL Z.z_tuple (Ev.r (g_lc [("letter", 3)] i_1.2 D.int _ D.int (fun b_2 => [.br ((enc_Rules A) self), .va (.int index), .va (encT setting), .va (.int b_2)]) h_ys_4 rfl sc_Rules_at_rule.nd (blkOk_by (by rfl)) (ei_tup (ev_ixT (d := encT i_1.2) (Ev.r (ev_ixL (Ev.r (ev_fld (d := (eL (eP2 (enc_Kind A) encT)) self.f_rules) Z.cl_Rules Z.no_Rules_rules (Ev.r (vr 0)) rfl)) (vv 1) (atM (f := (eP2 (enc_Kind A) encT)) h_i_1))) ev_int rfl) rfl) (fun b_2 _ _ _ _ _ _ _ _ => tw_name 3 sc_Rules_at_rule.nd) (fun _ _ => ⟨rfl, Sub.refl⟩) (fun b_2 _ y hy _ _ _ _ _ _ _ => by obtain ⟨i_3, h_i_3, hy⟩ := tailE hy; obtain rfl := Option.some.inj hy; exact (ev_ixT (Ev.r (vv 2)) (vv 3) (atM (f := D.int) h_i_3)))))) rfl
def p_Kind_contains (A : Ad) : Pm := fun Γ o => ∃ (self : C_Kind) (values : List Int) (r : Bool), Γ = [.br ((enc_Kind A) self), .va (encT values)] ∧ m_Kind_contains self values = some r ∧ o = .ret (.va (D.bl r))
theorem sc_Kind_contains : FnScope ["self", "values"] ["self", "values"] (defScope (inClass (top 20) 1)) := ⟨rfl, rfl, rfl, by decide +kernel, rfl, by decide +kernel, by decide +kernel⟩
theorem ok_Kind_contains {f : Addr} {fd : FuncData} (F : Fun K "__contains__" "Kind.__contains__" (inClass (top 20) 1) f fd) (Z : Fx Pr K mg A) : FnOk Pr w K mg base (L2N.CX Pr w) 1 f fd ["self", "values"] (mkSp K (p_Kind_contains A)) := by
  refine fn_sds F sc_Kind_contains (fun Γ o ⟨_, _, _, h2, _⟩ => by rw [h2]; rfl) fun cdv A' outer s H E hr H0 Oc Γ o ⟨self, values, r, hΓ, hm, ho⟩ => ?_
  subst hΓ ho
  unfold m_Kind_contains at hm
  refine k_top ?_
  obtain rfl := Option.some.inj hm
  exact k_ret (ev_c (g_inT (ev := (eL encT)) kId_inj (hu1 hr) values self.f_grouped) (vv 1) (Ev.r (ev_fld (d := (eDT kId (eL encT)) self.f_grouped) Z.cl_Kind Z.no_Kind_grouped (Ev.r (vr 0)) rfl))) rfl
def p_Rules_broken (A : Ad) : Pm := fun Γ o => ∃ (self : C_Rules) (setting : List Int) (r : Int), Γ = [.br ((enc_Rules A) self), .va (encT setting)] ∧ m_Rules_broken self setting = some r ∧ o = .ret (.va (D.int r))
theorem sc_Rules_broken : FnScope ["self", "setting", "index", "rule"] ["self", "setting"] (defScope (inClass (top 25) 10)) := ⟨rfl, rfl, rfl, by decide +kernel, rfl, by decide +kernel, by decide +kernel⟩
theorem ok_Rules_broken {f : Addr} {fd : FuncData} (F : Fun K "broken" "Rules.broken" (inClass (top 25) 10) f fd) (Z : Fx Pr K mg A) (G_Rules_at_rule : MtG Pr w K mg base A.Rules "at_rule" 1 ["self", "index", "setting"] (p_Rules_at_rule A)) (G_Kind_contains : MtG Pr w K mg base A.Kind "__contains__" 1 ["self", "values"] (p_Kind_contains A)) : FnOk Pr w K mg base (L2N.CX Pr w) 2 f fd ["self", "setting"] (mkSp K (p_Rules_broken A)) := by
  refine fn_sds F sc_Rules_broken (fun Γ o ⟨_, _, _, h2, _⟩ => by rw [h2]; rfl) fun cdv A' outer s H E hr H0 Oc Γ o ⟨self, setting, r, hΓ, hm, ho⟩ => ?_
  subst hΓ ho
  unfold m_Rules_broken at hm
  refine k_top ?_
  obtain ⟨lp_7, h_lp_7, hm⟩ := bindE hm
  refine k_for (enumI self.f_rules) (eP2 D.int (eP2 (enc_Kind A) encT)) _ () (fun (st_1 : Unit) => [.br ((enc_Rules A) self), .va (encT setting), .no, .no]) Sl.va D.int (xO A) h_lp_7 (passes_of rfl) rfl (g_enumL (f := (eP2 (enc_Kind A) encT)) Z.z_enumerate (ev_fld (d := (eL (eP2 (enc_Kind A) encT)) self.f_rules) Z.cl_Rules Z.no_Rules_rules (Ev.r (vr 0)) rfl)) (.eq (.eq (.no (.no .nil)))) (fun st_1 b_2 _ z_4 hml => ⟨_, t_two (d1 := .int b_2.1) (d2 := (eP2 (enc_Kind A) encT) b_2.2) 2 3 rfl sc_Rules_broken.nd, ?_⟩) (fun st_3 q => ?_) (fun v_8 q => ?_) (fun e_9 q => ?_)
  · obtain ⟨atrule_5, h_atrule_5, hml⟩ := bindE hml
    obtain ⟨contains_6, h_contains_6, hml⟩ := bindE hml
    rcases iteE hml with ⟨hq, hml⟩ | ⟨hq, hml⟩
    · refine k_ifT (et_c (g_ownNin (s1 := .va (encT atrule_5)) (s2 := .va ((enc_Kind A) b_2.2.1)) G_Kind_contains (hr.mono (by decide)) ⟨b_2.2.1, atrule_5, contains_6, rfl, h_contains_6, rfl⟩ (.vb (.eq .nil))) (g_meth Z.cl_Rules G_Rules_at_rule (hr.mono (by decide)) (vr 0) (ea_cons (vv 2) (ea_cons (vv 1) ea_nil)) ⟨self, b_2.1, setting, atrule_5, rfl, h_atrule_5, rfl⟩ (.eq (.eq (.eq .nil)))) (ev_ixT (d := (enc_Kind A) b_2.2.1) (Ev.r (vv 3)) ev_int rfl)) hq ?_
      obtain rfl := Option.some.inj hml
      exact k_ret (vv 2) rfl
    · refine k_ifF (et_c (g_ownNin (s1 := .va (encT atrule_5)) (s2 := .va ((enc_Kind A) b_2.2.1)) G_Kind_contains (hr.mono (by decide)) ⟨b_2.2.1, atrule_5, contains_6, rfl, h_contains_6, rfl⟩ (.vb (.eq .nil))) (g_meth Z.cl_Rules G_Rules_at_rule (hr.mono (by decide)) (vr 0) (ea_cons (vv 2) (ea_cons (vv 1) ea_nil)) ⟨self, b_2.1, setting, atrule_5, rfl, h_atrule_5, rfl⟩ (.eq (.eq (.eq .nil)))) (ev_ixT (d := (enc_Kind A) b_2.2.1) (Ev.r (vv 3)) ev_int rfl)) hq ?_
      refine k_nil ?_
      obtain rfl := Option.some.inj hml
      exact k_nil (.eq (.eq (.no (.no .nil))))
  · subst q
    obtain rfl := Option.some.inj hm
    exact k_ret (ev_neg ev_int) rfl
  · subst q
    obtain rfl := Option.some.inj hm
    exact rfl
  · subst q
    cases hm
def p_Rules_is_answer (A : Ad) : Pm := fun Γ o => ∃ (self : C_Rules) (setting : List Int) (r : Bool), Γ = [.br ((enc_Rules A) self), .va (encT setting)] ∧ m_Rules_is_answer self setting = some r ∧ o = .ret (.va (D.bl r))
theorem sc_Rules_is_answer : FnScope ["self", "setting"] ["self", "setting"] (defScope (inClass (top 25) 3)) := ⟨rfl, rfl, rfl, by decide +kernel, rfl, by decide +kernel, by decide +kernel⟩
theorem ok_Rules_is_answer {f : Addr} {fd : FuncData} (F : Fun K "is_answer" "Rules.is_answer" (inClass (top 25) 3) f fd) (Z : Fx Pr K mg A) (G_is_binary : FnG Pr w K mg base "is_binary" 1 ["setting", "size"] (p_is_binary A)) (G_Rules_broken : MtG Pr w K mg base A.Rules "broken" 2 ["self", "setting"] (p_Rules_broken A)) : FnOk Pr w K mg base (L2N.CX Pr w) 3 f fd ["self", "setting"] (mkSp K (p_Rules_is_answer A)) := by
  refine fn_sds F sc_Rules_is_answer (fun Γ o ⟨_, _, _, h2, _⟩ => by rw [h2]; rfl) fun cdv A' outer s H E hr H0 Oc Γ o ⟨self, setting, r, hΓ, hm, ho⟩ => ?_
  subst hΓ ho
  unfold m_Rules_is_answer at hm
  refine k_top ?_
  obtain ⟨isbinary_1, h_isbinary_1, hm⟩ := bindE hm
  obtain ⟨q_3, h_q_3, hm⟩ := tailE hm
  obtain rfl := Option.some.inj hm
  exact k_ret (g_and (g_call G_is_binary (hr.mono (by decide)) (ea_cons (vv 1) (ea_cons (ev_fld (d := .int self.f_size) Z.cl_Rules Z.no_Rules_size (Ev.r (vr 0)) rfl) ea_nil)) ⟨setting, self.f_size, isbinary_1, rfl, h_isbinary_1, rfl⟩ (.eq (.eq .nil))) h_q_3 (fun r hq hm => by obtain ⟨broken_2, h_broken_2, hm⟩ := bindE hm; obtain rfl := Option.some.inj hm; exact (ev_one (ev_c cm_eqI (g_meth Z.cl_Rules G_Rules_broken (hr.mono (by decide)) (vr 0) (ea_cons (vv 1) ea_nil) ⟨self, setting, broken_2, rfl, h_broken_2, rfl⟩ (.eq (.eq .nil))) (ev_neg ev_int))))) rfl
def p_check_answer (A : Ad) : Pm := fun Γ o => ∃ (world : C_Rules) (setting : List Int) (r : Rs Exc Unit), Γ = [.br ((enc_Rules A) world), .va (encT setting)] ∧ m_check_answer world setting = some r ∧ o = outR Sl.va eN (xO A) r
theorem sc_check_answer : FnScope ["world", "setting"] ["world", "setting"] (defScope (top 14)) := ⟨rfl, rfl, rfl, by decide +kernel, rfl, by decide +kernel, by decide +kernel⟩
theorem ok_check_answer {f : Addr} {fd : FuncData} (F : Fun K "check_answer" "check_answer" (top 14) f fd) (Z : Fx Pr K mg A) (G_Rules_is_answer : MtG Pr w K mg base A.Rules "is_answer" 3 ["self", "setting"] (p_Rules_is_answer A)) : FnOk Pr w K mg base (L2N.CX Pr w) 4 f fd ["world", "setting"] (mkSp K (p_check_answer A)) := by
  refine fn_sds F sc_check_answer (fun Γ o ⟨_, _, _, h2, _⟩ => by rw [h2]; rfl) fun cdv A' outer s H E hr H0 Oc Γ o ⟨world, setting, r, hΓ, hm, ho⟩ => ?_
  subst hΓ ho
  unfold m_check_answer at hm
  refine k_top ?_
  obtain ⟨isanswer_1, h_isanswer_1, hm⟩ := bindE hm
  rcases iteE hm with ⟨hq, hm⟩ | ⟨hq, hm⟩
  · refine k_ifT (et_not (et_val (g_meth Z.cl_Rules G_Rules_is_answer (hr.mono (by decide)) (vr 0) (ea_cons (vv 1) ea_nil) ⟨world, setting, isanswer_1, rfl, h_isanswer_1, rfl⟩ (.eq (.eq .nil))))) hq ?_
    obtain rfl := Option.some.inj hm
    exact k_raise1 rfl (L2N.takes_of rfl rfl rfl rfl) Z.ex_NotAnAnswer (hr.mono (by decide)) (vv 1) ⟨_, rfl⟩
  · refine k_ifF (et_not (et_val (g_meth Z.cl_Rules G_Rules_is_answer (hr.mono (by decide)) (vr 0) (ea_cons (vv 1) ea_nil) ⟨world, setting, isanswer_1, rfl, h_isanswer_1, rfl⟩ (.eq (.eq .nil))))) hq ?_
    refine k_nil ?_
    obtain rfl := Option.some.inj hm
    exact k_nil rfl
def p_all_binary (A : Ad) : Pm := fun Γ o => ∃ (size : Int) (r : List (List Int)), Γ = [.va (.int size)] ∧ m_all_binary size = some r ∧ o = .ret (.ow ((eL encT) r))
theorem sc_all_binary : FnScope ["size", "rows", "_", "row", "value"] ["size"] (defScope (top 4)) := ⟨rfl, rfl, rfl, by decide +kernel, rfl, by decide +kernel, by decide +kernel⟩
theorem ok_all_binary {f : Addr} {fd : FuncData} (F : Fun K "all_binary" "all_binary" (top 4) f fd) (Z : Fx Pr K mg A) : FnOk Pr w K mg base (L2N.CX Pr w) 1 f fd ["size"] (mkSp K (p_all_binary A)) := by
  refine fn_sds F sc_all_binary (fun Γ o ⟨_, _, h2, _⟩ => by rw [h2]; rfl) fun cdv A' outer s H E hr H0 Oc Γ o ⟨size, r, hΓ, hm, ho⟩ => ?_
  subst hΓ ho
  unfold m_all_binary at hm
  refine k_top ?_
  obtain ⟨rows_1, h_rows_1, hm⟩ := bndE hm
  refine k_set 1 sc_all_binary.nd (Ev.co (g := (eL encT)) (ev_lst (ea_cons (ev_tup ea_nil rfl (by show 0 ≤ _; decide)) ea_nil) rfl (by show 1 ≤ _; decide)) h_rows_1) ?_
  obtain ⟨rg_2, h_rg_2, hm⟩ := bindE hm
  obtain ⟨st_5, h_st_5, hm⟩ := bindE hm
  refine k_forO rg_2 D.int _ rows_1 (fun (st_3 : (List (List Int))) => [.va (.int size), .ow ((eL encT) st_3), .no, .no, .no]) h_st_5 (passes_of rfl) rfl (g_rng Z.z_range (vv 0) h_rg_2) (.eq (.eq (.no (.no (.no .nil))))) (fun st_3 b_4 _ z_6 hml => ⟨_, t_name 2 sc_all_binary.nd, ?_⟩) ?_
  · refine k_freeze 1 ?_
    obtain ⟨ys_10, h_ys_10, hml⟩ := tailE hml
    refine k_setLc3 1 [("row", 3), ("value", 4)] [4] st_3 encT _ D.int _ encT (fun b_7 => [.va (.int size), .va ((eL encT) st_3), .va (.int b_4), .va (encT b_7), .no]) (fun b_7 c_8 => [.va (.int size), .va ((eL encT) st_3), .va (.int b_4), .va (encT b_7), .va (.int c_8)]) h_ys_10 rfl sc_all_binary.nd (blkOk_by (by rfl)) (ei_lst (vv 1) rfl) (by decide) (fun b_7 _ _ _ _ _ _ _ _ => tw_name 3 sc_all_binary.nd) (fun _ _ => ⟨rfl, Sub.refl⟩) (fun b_7 _ ys hy _ _ _ _ _ _ _ => by obtain rfl := Option.some.inj hy; exact (ei_tup (ev_tup (ea_cons ev_int (ea_cons ev_int ea_nil)) rfl (by show 2 ≤ _; decide)) rfl)) (fun b_7 _ c_8 _ _ _ _ _ _ _ => tw_name 4 sc_all_binary.nd) (fun _ _ _ => ⟨rfl, Sub.refl⟩) (fun b_7 _ c_8 y hy _ _ _ _ _ _ _ => by obtain ⟨c_9, h_c_9, hy⟩ := bindE hy; obtain rfl := Option.some.inj hy; rfl) (fun b_7 _ c_8 y hy _ _ _ _ _ _ _ => by obtain ⟨c_9, h_c_9, hy⟩ := bindE hy; obtain rfl := Option.some.inj (Option.some.inj hy); exact (g_catT (f := D.int) (vv 3) (ev_tup (ea_cons (vv 4) ea_nil) rfl (by show 1 ≤ _; decide)) h_c_9)) ?_
    obtain rfl := Option.some.inj hml
    exact k_nil (.eq (.eq (.no (.no (.no .nil)))))
  · obtain rfl := Option.some.inj hm
    exact k_retV 1 rfl
def p_any_order (A : Ad) : Pm := fun Γ o => ∃ (rules : C_Rules) (setting : List Int) (letters : List Int) (r : Rs Exc Bool), Γ = [.br ((enc_Rules A) rules), .va (encT setting), .br ((eL D.int) letters)] ∧ m_any_order rules setting letters = some r ∧ o = outR Sl.va D.bl (xO A) r
theorem sc_any_order : FnScope ["rules", "setting", "letters", "choices", "chosen", "letter", "choice"] ["rules", "setting", "letters"] (defScope (top 17)) := ⟨rfl, rfl, rfl, by decide +kernel, rfl, by decide +kernel, by decide +kernel⟩
theorem ok_any_order {f : Addr} {fd : FuncData} (F : Fun K "any_order" "any_order" (top 17) f fd) (Z : Fx Pr K mg A) (G_check_answer : FnG Pr w K mg base "check_answer" 4 ["world", "setting"] (p_check_answer A)) (G_all_binary : FnG Pr w K mg base "all_binary" 1 ["size"] (p_all_binary A)) (G_flipped : FnG Pr w K mg base "flipped" 1 ["setting", "positions"] (p_flipped A)) (G_Rules_is_answer : MtG Pr w K mg base A.Rules "is_answer" 3 ["self", "setting"] (p_Rules_is_answer A)) : FnOk Pr w K mg base (L2N.CX Pr w) 5 f fd ["rules", "setting", "letters"] (mkSp K (p_any_order A)) := by
  refine fn_sds F sc_any_order (fun Γ o ⟨_, _, _, _, h2, _⟩ => by rw [h2]; rfl) fun cdv A' outer s H E hr H0 Oc Γ o ⟨rules, setting, letters, r, hΓ, hm, ho⟩ => ?_
  subst hΓ ho
  unfold m_any_order at hm
  refine k_top ?_
  rcases tryRE hm with ⟨u_1, h_u_1, hm⟩ | ⟨e_2, h_e_2, hm⟩
  · refine k_expr (g_call G_check_answer (hr.mono (by decide)) (ea_cons (vr 0) (ea_cons (vv 1) ea_nil)) ⟨rules, setting, .ret u_1, rfl, h_u_1, rfl⟩ (.eq (.eq .nil))) ?_
    rcases iteE hm with ⟨hq, hm⟩ | ⟨hq, hm⟩
    · refine k_ifT (et_c cm_gt (g_len (f := D.int) Z.z_len (Ev.r (vr 2))) (e_gint Z.i_MOST_AT_ONCE)) hq ?_
      obtain rfl := Option.some.inj hm
      exact k_raise1 rfl (L2N.takes_of rfl rfl rfl rfl) Z.ex_TooMany (hr.mono (by decide)) (e_gint Z.i_MOST_AT_ONCE) ⟨_, rfl⟩
    · refine k_ifF (et_c cm_gt (g_len (f := D.int) Z.z_len (Ev.r (vr 2))) (e_gint Z.i_MOST_AT_ONCE)) hq ?_
      refine k_nil ?_
      obtain ⟨allbinary_3, h_allbinary_3, hm⟩ := bindE hm
      obtain ⟨lp_12, h_lp_12, hm⟩ := bindE hm
      refine k_for allbinary_3 encT _ () (fun (st_4 : Unit) => [.br ((enc_Rules A) rules), .va (encT setting), .br ((eL D.int) letters), .no, .no, .no, .no]) Sl.va D.bl (xO A) h_lp_12 (passes_of rfl) rfl (ei_lst (Ev.fz (g_call G_all_binary (hr.mono (by decide)) (ea_cons (g_len (f := D.int) Z.z_len (Ev.r (vr 2))) ea_nil) ⟨(letters.length : Int), allbinary_3, rfl, h_allbinary_3, rfl⟩ (.eq .nil))) rfl) (.eq (.eq (.eq (.no (.no (.no (.no .nil))))))) (fun st_4 b_5 _ z_7 hml => ⟨_, t_name 3 sc_any_order.nd, ?_⟩) (fun st_6 q => ?_) (fun v_13 q => ?_) (fun e_14 q => ?_)
      · obtain ⟨ys_9, h_ys_9, hml⟩ := bindE hml
        refine k_setLcf 4 [("letter", 5), ("choice", 6)] (List.zip letters b_5) (eP2 D.int D.int) _ D.int (fun b_8 => [.br ((enc_Rules A) rules), .va (encT setting), .br ((eL D.int) letters), .va (encT b_5), .no, .va (.int b_8.1), .va (.int b_8.2)]) h_ys_9 rfl sc_any_order.nd (blkOk_by (by rfl)) (i_zip D.int D.int letters b_5 Z.z_zip (vr 2) (vv 3)) (fun b_8 _ _ _ _ _ _ _ _ => tw_two (d1 := .int b_8.1) (d2 := .int b_8.2) 5 6 rfl sc_any_order.nd) (fun _ _ => ⟨rfl, Sub.refl⟩) (fun b_8 _ y hy _ _ _ _ _ _ _ => by rcases iteE hy with ⟨hq, hy⟩ | ⟨hq, hy⟩; (obtain rfl := Option.some.inj hy; exact Et.bb (et_c cm_eqI (vv 6) ev_int) hq); (obtain rfl := Option.some.inj hy; exact Et.bb (et_c cm_eqI (vv 6) ev_int) hq)) (fun b_8 _ y hy _ _ _ _ _ _ _ => by rcases iteE hy with ⟨hq, hy⟩ | ⟨hq, hy⟩; (obtain rfl := Option.some.inj (Option.some.inj hy); exact (vv 5)); cases hy) ?_
        obtain ⟨flipped_10, h_flipped_10, hml⟩ := bindE hml
        obtain ⟨isanswer_11, h_isanswer_11, hml⟩ := bindE hml
        rcases iteE hml with ⟨hq, hml⟩ | ⟨hq, hml⟩
        · refine k_ifT (et_not (et_val (g_meth Z.cl_Rules G_Rules_is_answer (hr.mono (by decide)) (vr 0) (ea_cons (g_call G_flipped (hr.mono (by decide)) (ea_cons (vv 1) (ea_cons (vo 4) ea_nil)) ⟨setting, ys_9, flipped_10, rfl, h_flipped_10, rfl⟩ (.eq (.eq .nil))) ea_nil) ⟨rules, flipped_10, isanswer_11, rfl, h_isanswer_11, rfl⟩ (.eq (.eq .nil))))) hq ?_
          obtain rfl := Option.some.inj hml
          exact k_ret ev_bl rfl
        · refine k_ifF (et_not (et_val (g_meth Z.cl_Rules G_Rules_is_answer (hr.mono (by decide)) (vr 0) (ea_cons (g_call G_flipped (hr.mono (by decide)) (ea_cons (vv 1) (ea_cons (vo 4) ea_nil)) ⟨setting, ys_9, flipped_10, rfl, h_flipped_10, rfl⟩ (.eq (.eq .nil))) ea_nil) ⟨rules, flipped_10, isanswer_11, rfl, h_isanswer_11, rfl⟩ (.eq (.eq .nil))))) hq ?_
          refine k_nil ?_
          obtain rfl := Option.some.inj hml
          exact k_nil (.eq (.eq (.eq (.no (.no (.no (.no .nil)))))))
      · subst q
        obtain rfl := Option.some.inj hm
        exact k_ret ev_bl rfl
      · subst q
        obtain rfl := Option.some.inj hm
        exact rfl
      · subst q
        obtain rfl := Option.some.inj hm
        exact ⟨_, rfl⟩
  · obtain rfl := Option.some.inj hm
    exact k_exprX (gx_call (Γe := none) (L2N.takes_of rfl rfl rfl rfl) G_check_answer (hr.mono (by decide)) (ea_cons (vr 0) (ea_cons (vv 1) ea_nil)) ⟨rules, setting, .exc e_2, rfl, h_e_2, rfl⟩ (.eq (.eq .nil))) ⟨_, rfl⟩
def p_law_told (A : Ad) : Pm := fun Γ o => ∃ (world : C_Rules) (setting : List Int) (letters : List Int) (due : Bool) (r : Bool), Γ = [.br ((enc_Rules A) world), .va (encT setting), .br ((eL D.int) letters), .va (.bl due)] ∧ m_law_told world setting letters due = some r ∧ o = .ret (.va (D.bl r))
theorem sc_law_told : FnScope ["world", "setting", "letters", "due", "given", "told"] ["world", "setting", "letters", "due"] (defScope (top 39)) := ⟨rfl, rfl, rfl, by decide +kernel, rfl, by decide +kernel, by decide +kernel⟩
theorem ok_law_told {f : Addr} {fd : FuncData} (F : Fun K "_law_told" "_law_told" (top 39) f fd) (Z : Fx Pr K mg A) (G_any_order : FnG Pr w K mg base "any_order" 5 ["rules", "setting", "letters"] (p_any_order A)) : FnOk Pr w K mg base (L2N.CX Pr w) 6 f fd ["world", "setting", "letters", "due"] (mkSp K (p_law_told A)) := by
  refine fn_sds F sc_law_told (fun Γ o ⟨_, _, _, _, _, h2, _⟩ => by rw [h2]; rfl) fun cdv A' outer s H E hr H0 Oc Γ o ⟨world, setting, letters, due, r, hΓ, hm, ho⟩ => ?_
  subst hΓ ho
  unfold m_law_told at hm
  refine k_top ?_
  refine k_set 4 sc_law_told.nd (e_list Z.z_list (Ev.r (vr 2))) ?_
  obtain ⟨anyorder_1, h_anyorder_1, hm⟩ := bindE hm
  refine k_set 5 sc_law_told.nd (g_call G_any_order (hr.mono (by decide)) (ea_cons (vr 0) (ea_cons (vv 1) (ea_cons (vo 4) ea_nil))) ⟨world, setting, letters, .ret anyorder_1, rfl, okOE h_anyorder_1, rfl⟩ (.eq (.eq (.eq .nil)))) ?_
  obtain rfl := Option.some.inj hm
  exact k_ret (ev_and (e_isT Z.z_isinstance Z.z_bool (Ev.r (vv 5)) bt_bool rfl ki_bb) fun _ => (ev_and (ev_c cm_eqB (vv 5) (vv 3)) fun _ => (ev_one (ev_c (g_eq (f := (eL D.int)) (hu64 hr) eqLI 1 okLI (by decide) letters letters) (vo 4) (Ev.r (vr 2)))))) rfl
def p_law_cell (A : Ad) : Pm := fun Γ o => ∃ (script : List Int) (k : Int) (r : Int), Γ = [.va (eF script), .va (.int k)] ∧ m_law_cell script k = some r ∧ o = .ret (.va (D.int r))
theorem sc_law_cell : FnScope ["script", "k"] ["script", "k"] (defScope (top 28)) := ⟨rfl, rfl, rfl, by decide +kernel, rfl, by decide +kernel, by decide +kernel⟩
theorem ok_law_cell {f : Addr} {fd : FuncData} (F : Fun K "_law_cell" "_law_cell" (top 28) f fd) (Z : Fx Pr K mg A) : FnOk Pr w K mg base (L2N.CX Pr w) 1 f fd ["script", "k"] (mkSp K (p_law_cell A)) := by
  refine fn_sds F sc_law_cell (fun Γ o ⟨_, _, _, h2, _⟩ => by rw [h2]; rfl) fun cdv A' outer s H E hr H0 Oc Γ o ⟨script, k, r, hΓ, hm, ho⟩ => ?_
  subst hΓ ho
  unfold m_law_cell at hm
  refine k_top ?_
  rcases iteE hm with ⟨hq, hm⟩ | ⟨hq, hm⟩
  · refine k_ifT (et_c cm_lt (vv 1) (g_len (f := D.int) Z.z_len (Ev.r (vv 0)))) hq ?_
    obtain ⟨i_1, h_i_1, hm⟩ := tailE hm
    obtain rfl := Option.some.inj hm
    exact k_ret (e_int Z.z_int (ev_ixF (Ev.r (vv 0)) (vv 1) (atM (f := D.int) h_i_1))) rfl
  · refine k_ifF (et_c cm_lt (vv 1) (g_len (f := D.int) Z.z_len (Ev.r (vv 0)))) hq ?_
    refine k_nil ?_
    rcases iteE hm with ⟨hq, hm⟩ | ⟨hq, hm⟩
    · refine k_ifT (et_c cm_gt (g_len (f := D.int) Z.z_len (Ev.r (vv 0))) ev_int) hq ?_
      obtain ⟨d_2, h_d_2, hm⟩ := bindE hm
      obtain ⟨i_3, h_i_3, hm⟩ := bindE hm
      obtain rfl := Option.some.inj hm
      exact k_ret (ev_add (ev_mul (ev_mod (e_int Z.z_int (ev_ixF (Ev.r (vv 0)) (g_mod (vv 1) (g_len (f := D.int) Z.z_len (Ev.r (vv 0))) h_d_2) (atM (f := D.int) h_i_3))) ev_int (by decide)) ev_int (.inr ⟨by decide, by decide⟩)) (vv 1)) rfl
    · refine k_ifF (et_c cm_gt (g_len (f := D.int) Z.z_len (Ev.r (vv 0))) ev_int) hq ?_
      refine k_nil ?_
      obtain rfl := Option.some.inj hm
      exact k_ret (vv 1) rfl
def p_law_values (A : Ad) : Pm := fun Γ o => ∃ (setting : List Int) (letters : List Int) (r : List Int), Γ = [.va (encT setting), .br ((eL D.int) letters)] ∧ m_law_values setting letters = some r ∧ o = .ret (.va (encT r))
theorem sc_law_values : FnScope ["setting", "letters", "letter"] ["setting", "letters"] (defScope (top 33)) := ⟨rfl, rfl, rfl, by decide +kernel, rfl, by decide +kernel, by decide +kernel⟩
theorem ok_law_values {f : Addr} {fd : FuncData} (F : Fun K "_law_values" "_law_values" (top 33) f fd) (Z : Fx Pr K mg A) : FnOk Pr w K mg base (L2N.CX Pr w) 1 f fd ["setting", "letters"] (mkSp K (p_law_values A)) := by
  refine fn_sds F sc_law_values (fun Γ o ⟨_, _, _, h2, _⟩ => by rw [h2]; rfl) fun cdv A' outer s H E hr H0 Oc Γ o ⟨setting, letters, r, hΓ, hm, ho⟩ => ?_
  subst hΓ ho
  unfold m_law_values at hm
  refine k_top ?_
  obtain ⟨ys_3, h_ys_3, hm⟩ := tailE hm
  obtain rfl := Option.some.inj hm
  exact k_ret (e_tupL Z.z_tuple (Ev.r (g_lc [("letter", 2)] letters D.int _ D.int (fun b_1 => [.va (encT setting), .br ((eL D.int) letters), .va (.int b_1)]) h_ys_3 rfl sc_law_values.nd (blkOk_by (by rfl)) (ei_lst (vr 1) rfl) (fun b_1 _ _ _ _ _ _ _ _ => tw_name 2 sc_law_values.nd) (fun _ _ => ⟨rfl, Sub.refl⟩) (fun b_1 _ y hy _ _ _ _ _ _ _ => by obtain ⟨i_2, h_i_2, hy⟩ := tailE hy; obtain rfl := Option.some.inj hy; exact (ev_ixT (Ev.r (vv 0)) (vv 2) (atM (f := D.int) h_i_2)))))) rfl
def p_law_shown (A : Ad) : Pm := fun Γ o => ∃ (values : List Int) (own : List Int) (chosen : List Int) (letters : List Int) (r : Bool), Γ = [.va (encT values), .va (encT own), .br ((eL D.int) chosen), .br ((eL D.int) letters)] ∧ m_law_shown values own chosen letters = some r ∧ o = .ret (.va (D.bl r))
theorem sc_law_shown : FnScope ["values", "own", "chosen", "letters", "k"] ["values", "own", "chosen", "letters"] (defScope (top 34)) := ⟨rfl, rfl, rfl, by decide +kernel, rfl, by decide +kernel, by decide +kernel⟩
theorem ok_law_shown {f : Addr} {fd : FuncData} (F : Fun K "_law_shown" "_law_shown" (top 34) f fd) (Z : Fx Pr K mg A) : FnOk Pr w K mg base (L2N.CX Pr w) 1 f fd ["values", "own", "chosen", "letters"] (mkSp K (p_law_shown A)) := by
  refine fn_sds F sc_law_shown (fun Γ o ⟨_, _, _, _, _, h2, _⟩ => by rw [h2]; rfl) fun cdv A' outer s H E hr H0 Oc Γ o ⟨values, own, chosen, letters, r, hΓ, hm, ho⟩ => ?_
  subst hΓ ho
  unfold m_law_shown at hm
  refine k_top ?_
  obtain ⟨rg_1, h_rg_1, hm⟩ := bindE hm
  obtain ⟨ys_7, h_ys_7, hm⟩ := bindE hm
  obtain rfl := Option.some.inj hm
  exact k_ret (e_all Z.z_all rfl (Ev.r (g_lc [("k", 4)] rg_1 D.int _ D.bl (fun b_2 => [.va (encT values), .va (encT own), .br ((eL D.int) chosen), .br ((eL D.int) letters), .va (.int b_2)]) h_ys_7 rfl sc_law_shown.nd (blkOk_by (by rfl)) (g_rng Z.z_range (g_len (f := D.int) Z.z_len (Ev.r (vr 2))) h_rg_1) (fun b_2 _ _ _ _ _ _ _ _ => tw_name 4 sc_law_shown.nd) (fun _ _ => ⟨rfl, Sub.refl⟩) (fun b_2 _ y hy _ _ _ _ _ _ _ => by obtain ⟨i_3, h_i_3, hy⟩ := bindE hy; obtain ⟨i_4, h_i_4, hy⟩ := bindE hy; obtain ⟨q_6, h_q_6, hy⟩ := tailE hy; obtain rfl := Option.some.inj hy; exact (g_or (ev_c cm_eqI (ev_ixT (Ev.r (vv 0)) (vv 4) (atM (f := D.int) h_i_3)) (ev_ixT (Ev.r (vv 1)) (vv 4) (atM (f := D.int) h_i_4))) h_q_6 (fun r hq hm => by obtain ⟨i_5, h_i_5, hm⟩ := bindE hm; obtain rfl := Option.some.inj hm; exact (ev_one (ev_c (g_inLI i_5 letters) (ev_ixL (Ev.r (vr 2)) (vv 4) (atM (f := D.int) h_i_5)) (Ev.r (vr 3)))))))))) rfl
end
end Y

namespace Y
open PySem PySem.Spec PyProof.Rows L2
section
variable {Pr : Program} {w : World} {K : PySem.W.Frag} {mg : Str → Option Value} {base : Heap} {A : Ad}
def p_law_rule (A : Ad) : Pm := fun Γ o => ∃ (cell : Int) (size : Int) (setting : List Int) (letters : List Int) (mode : Int) (r : (List Int) × (List (List Int))), Γ = [.va (.int cell), .va (.int size), .va (encT setting), .br ((eL D.int) letters), .va (.int mode)] ∧ m_law_rule cell size setting letters mode = some r ∧ o = .ret (.va ((eP2 encT (eL encT)) r))
theorem sc_law_rule : FnScope ["cell", "size", "setting", "letters", "mode", "digits", "chosen", "own", "every", "missing", "table", "k", "kept"] ["cell", "size", "setting", "letters", "mode"] (defScope (top 35)) := ⟨rfl, rfl, rfl, by decide +kernel, rfl, by decide +kernel, by decide +kernel⟩
theorem ok_law_rule {f : Addr} {fd : FuncData} (F : Fun K "_law_rule" "_law_rule" (top 35) f fd) (Z : Fx Pr K mg A) (G_law_draw : FnG Pr w K mg base "_law_draw" 1 ["cell", "bases"] (p_law_draw A)) (G_law_picked : FnG Pr w K mg base "_law_picked" 1 ["digits", "size"] (p_law_picked A)) (G_law_values : FnG Pr w K mg base "_law_values" 1 ["setting", "letters"] (p_law_values A)) (G_law_tuples : FnG Pr w K mg base "_law_tuples" 1 ["width"] (p_law_tuples A)) (G_law_shown : FnG Pr w K mg base "_law_shown" 1 ["values", "own", "chosen", "letters"] (p_law_shown A)) : FnOk Pr w K mg base (L2N.CX Pr w) 2 f fd ["cell", "size", "setting", "letters", "mode"] (mkSp K (p_law_rule A)) := by
  refine fn_sds F sc_law_rule (fun Γ o ⟨_, _, _, _, _, _, h2, _⟩ => by rw [h2]; rfl) fun cdv A' outer s H E hr H0 Oc Γ o ⟨cell, size, setting, letters, mode, r, hΓ, hm, ho⟩ => ?_
  subst hΓ ho
  unfold m_law_rule at hm
  refine k_top ?_
  obtain ⟨c_1, h_c_1, hm⟩ := bindE hm
  obtain ⟨c_2, h_c_2, hm⟩ := bindE hm
  obtain ⟨c_3, h_c_3, hm⟩ := bindE hm
  obtain ⟨c_4, h_c_4, hm⟩ := bindE hm
  obtain ⟨draw_5, h_draw_5, hm⟩ := bindE hm
  refine k_set 5 sc_law_rule.nd (g_call G_law_draw (hr.mono (by decide)) (ea_cons (vv 0) (ea_cons (g_catL (f := D.int) (Ev.r (g_catL (f := D.int) (Ev.r (ev_lst (ea_cons ev_int (ea_cons ev_int ea_nil)) rfl (by show 2 ≤ _; decide))) (Ev.r (g_repL (f := D.int) (Ev.r (ev_lst (ea_cons ev_int ea_nil) rfl (by show 1 ≤ _; decide))) ev_int h_c_1)) h_c_2)) (Ev.r (g_repL (f := D.int) (Ev.r (ev_lst (ea_cons ev_int ea_nil) rfl (by show 1 ≤ _; decide))) ev_int h_c_3)) h_c_4) ea_nil)) ⟨cell, c_4, draw_5, rfl, h_draw_5, rfl⟩ (.eq (.eq .nil))) ?_
  obtain ⟨i_6, h_i_6, hm⟩ := bindE hm
  obtain ⟨picked_7, h_picked_7, hm⟩ := bindE hm
  refine k_set 6 sc_law_rule.nd (g_call G_law_picked (hr.mono (by decide)) (ea_cons (g_slL (vo 5) (eo_at ev_int) (eo_at (ev_add ev_int (e_min Z.z_min rfl (vv 1) (ev_add ev_int (ev_ixL (vo 5) ev_int (atM (f := D.int) h_i_6))))))) (ea_cons (vv 1) ea_nil)) ⟨(cutD draw_5 (some (2 : Int)) (some ((2 : Int) + (min size ((1 : Int) + i_6))))), size, picked_7, rfl, h_picked_7, rfl⟩ (.eq (.eq .nil))) ?_
  obtain ⟨values_8, h_values_8, hm⟩ := bindE hm
  refine k_set 7 sc_law_rule.nd (g_call G_law_values (hr.mono (by decide)) (ea_cons (vv 2) (ea_cons (vo 6) ea_nil)) ⟨setting, picked_7, values_8, rfl, h_values_8, rfl⟩ (.eq (.eq .nil))) ?_
  obtain ⟨tuples_9, h_tuples_9, hm⟩ := bindE hm
  refine k_set 8 sc_law_rule.nd (g_call G_law_tuples (hr.mono (by decide)) (ea_cons (g_len (f := D.int) Z.z_len (vo 6)) ea_nil) ⟨(picked_7.length : Int), tuples_9, rfl, h_tuples_9, rfl⟩ (.eq .nil)) ?_
  obtain ⟨i_10, h_i_10, hm⟩ := bindE hm
  obtain ⟨d_11, h_d_11, hm⟩ := bindE hm
  obtain ⟨i_12, h_i_12, hm⟩ := bindE hm
  refine k_set 9 sc_law_rule.nd (ev_ixL (vo 8) (g_mod (e_int Z.z_int (ev_ixL (vo 5) ev_int (atM (f := D.int) h_i_10))) (g_len (f := encT) Z.z_len (vo 8)) h_d_11) (atM (f := encT) h_i_12)) ?_
  obtain ⟨table_13, h_table_13, hm⟩ := bndE hm
  refine k_set 10 sc_law_rule.nd (Ev.co (g := (eL encT)) (ev_lst ea_nil rfl (by show 0 ≤ _; decide)) h_table_13) ?_
  obtain ⟨rg_14, h_rg_14, hm⟩ := bindE hm
  obtain ⟨st_17, h_st_17, hm⟩ := bindE hm
  refine k_forO rg_14 D.int _ table_13 (fun (st_15 : (List (List Int))) => [.va (.int cell), .va (.int size), .va (encT setting), .br ((eL D.int) letters), .va (.int mode), .ow ((eL D.int) draw_5), .ow ((eL D.int) picked_7), .va (encT values_8), .ow ((eL encT) tuples_9), .va (encT i_12), .ow ((eL encT) st_15), .no, .no]) h_st_17 (passes_of rfl) rfl (g_rng Z.z_range (g_len (f := encT) Z.z_len (vo 8)) h_rg_14) (.eq (.eq (.eq (.eq (.eq (.eq (.eq (.eq (.eq (.eq (.eq (.no (.no .nil))))))))))))) (fun st_15 b_16 _ z_18 hml => ⟨_, t_name 11 sc_law_rule.nd, ?_⟩) ?_
  · obtain ⟨i_19, h_i_19, hml⟩ := bindE hml
    obtain ⟨kept_20, h_kept_20, hml⟩ := bndE hml
    refine k_set 12 sc_law_rule.nd (Ev.cv (g := D.bl) (ev_c cm_neI (ev_ixL (vo 5) (ev_add ev_int (vv 11)) (atM (f := D.int) h_i_19)) ev_int) h_kept_20) ?_
    obtain ⟨q_23, h_q_23, hml⟩ := bindE hml
    obtain ⟨j_24, hmlj, hml⟩ := bindE hml
    refine k_ifJ [.va (.int cell), .va (.int size), .va (encT setting), .br ((eL D.int) letters), .va (.int mode), .ow ((eL D.int) draw_5), .ow ((eL D.int) picked_7), .va (encT values_8), .ow ((eL encT) tuples_9), .va (encT i_12), .ow ((eL encT) st_15), .va (.int b_16), .va (.bl j_24)] (et_w (gt_and (et_c cm_gt (vv 4) ev_int) h_q_23 (fun r hq hm => by obtain ⟨i_21, h_i_21, hm⟩ := bindE hm; obtain ⟨shown_22, h_shown_22, hm⟩ := tailE hm; obtain rfl := Option.some.inj hm; exact (ew_and1 (et_val (g_call G_law_shown (hr.mono (by decide)) (ea_cons (ev_ixL (vo 8) (vv 11) (atM (f := encT) h_i_21)) (ea_cons (vv 7) (ea_cons (vo 6) (ea_cons (vr 3) ea_nil)))) ⟨i_21, values_8, picked_7, letters, shown_22, rfl, h_shown_22, rfl⟩ (.eq (.eq (.eq (.eq .nil)))))))))) (fun hq => ?_) (fun hq => ?_) ?_
    · rw [if_pos hq] at hmlj
      obtain ⟨q_26, h_q_26, hmlj⟩ := tailE hmlj
      refine k_set 12 sc_law_rule.nd (g_or (ev_c cm_eqI (vv 4) ev_int) h_q_26 (fun r hq hm => by obtain ⟨i_25, h_i_25, hm⟩ := bindE hm; obtain rfl := Option.some.inj hm; exact (ev_one (ev_c (g_ne (f := encT) (hu64 hr) eqT' 1 okT (by decide) i_25 i_12) (Ev.r (ev_ixL (vo 8) (vv 11) (atM (f := encT) h_i_25))) (Ev.r (vv 9)))))) ?_
      obtain rfl := Option.some.inj hmlj
      exact k_nil (.eq (.eq (.eq (.eq (.eq (.eq (.eq (.eq (.eq (.eq (.eq (.eq (.eq .nil)))))))))))))
    · rw [if_neg (by rw [hq]; decide)] at hmlj
      obtain rfl := Option.some.inj hmlj
      exact k_nil (.eq (.eq (.eq (.eq (.eq (.eq (.eq (.eq (.eq (.eq (.eq (.eq (.eq .nil)))))))))))))
    · obtain ⟨q_28, h_q_28, hml⟩ := bindE hml
      rcases iteE hml with ⟨hq, hml⟩ | ⟨hq, hml⟩
      · refine k_ifT (et_w (gt_or (et_val (vv 12)) h_q_28 (fun r hq hm => by obtain ⟨i_27, h_i_27, hm⟩ := bindE hm; obtain rfl := Option.some.inj hm; exact (ew_or1 (et_c (g_eq (f := encT) (hu64 hr) eqT' 1 okT (by decide) i_27 values_8) (Ev.r (ev_ixL (vo 8) (vv 11) (atM (f := encT) h_i_27))) (Ev.r (vv 7))))))) hq ?_
        obtain ⟨i_29, h_i_29, hml⟩ := bindE hml
        obtain ⟨table_30, h_table_30, hml⟩ := tailE hml
        refine k_app (f := encT) (v := i_29) 10 (ev_ixL (vo 8) (vv 11) (atM (f := encT) h_i_29)) h_table_30 ?_
        refine k_nil ?_
        obtain rfl := Option.some.inj hml
        exact k_nil (.eq (.eq (.eq (.eq (.eq (.eq (.eq (.eq (.eq (.eq (.eq (.no (.no .nil)))))))))))))
      · refine k_ifF (et_w (gt_or (et_val (vv 12)) h_q_28 (fun r hq hm => by obtain ⟨i_27, h_i_27, hm⟩ := bindE hm; obtain rfl := Option.some.inj hm; exact (ew_or1 (et_c (g_eq (f := encT) (hu64 hr) eqT' 1 okT (by decide) i_27 values_8) (Ev.r (ev_ixL (vo 8) (vv 11) (atM (f := encT) h_i_27))) (Ev.r (vv 7))))))) hq ?_
        refine k_nil ?_
        obtain rfl := Option.some.inj hml
        exact k_nil (.eq (.eq (.eq (.eq (.eq (.eq (.eq (.eq (.eq (.eq (.eq (.no (.no .nil)))))))))))))
  · refine k_freeze 10 ?_
    obtain rfl := Option.some.inj hm
    exact k_ret (ev_tup (ea_cons (e_tupL Z.z_tuple (vo 6)) (ea_cons (vv 10) ea_nil)) rfl (by show 2 ≤ _; decide)) rfl
def p_law_refused (A : Ad) : Pm := fun Γ o => ∃ (world : C_Rules) (setting : List Int) (letters : List Int) (word : Str) (r : Bool), Γ = [.br ((enc_Rules A) world), .va (encT setting), .br ((eL D.int) letters), .va (.str word)] ∧ m_law_refused world setting letters word = some r ∧ o = .ret (.va (D.bl r))
theorem sc_law_refused : FnScope ["world", "setting", "letters", "word", "e"] ["world", "setting", "letters", "word"] (defScope (top 40)) := ⟨rfl, rfl, rfl, by decide +kernel, rfl, by decide +kernel, by decide +kernel⟩
theorem ok_law_refused {f : Addr} {fd : FuncData} (F : Fun K "_law_refused" "_law_refused" (top 40) f fd) (Z : Fx Pr K mg A) (G_any_order : FnG Pr w K mg base "any_order" 5 ["rules", "setting", "letters"] (p_any_order A)) : FnOk Pr w K mg base (L2N.CX Pr w) 6 f fd ["world", "setting", "letters", "word"] (mkSp K (p_law_refused A)) := by
  refine fn_sds F sc_law_refused (fun Γ o ⟨_, _, _, _, _, h2, _⟩ => by rw [h2]; rfl) fun cdv A' outer s H E hr H0 Oc Γ o ⟨world, setting, letters, word, r, hΓ, hm, ho⟩ => ?_
  subst hΓ ho
  unfold m_law_refused at hm
  refine k_top ?_
  rcases tryRE hm with ⟨v_1, h_v_1, hm⟩ | ⟨e_2, h_e_2, hm⟩
  · refine k_tryNx (Γ1 := [.br ((enc_Rules A) world), .va (encT setting), .br ((eL D.int) letters), .va (.str word), .no]) 4 rfl rfl sc_law_refused.nd (L2N.takes_of rfl rfl rfl rfl) (.cons ⟨rfl, by decide, .inl Z.g_NotAnAnswer⟩ (.cons ⟨rfl, by decide, .inl Z.g_TooMany⟩ .nil)) (fun W' pn xe tk po => sds_expr (g_call G_any_order (hr.mono (by decide)) (ea_cons (vr 0) (ea_cons (vv 1) (ea_cons (e_list Z.z_list (Ev.r (vr 2))) ea_nil))) ⟨world, setting, letters, .ret v_1, rfl, h_v_1, rfl⟩ (.eq (.eq (.eq .nil)))) sds_nil) ?_
    obtain rfl := Option.some.inj hm
    exact k_ret ev_bl rfl
  · cases e_2 with
    | BadKind w_3 =>
      cases hm
    | BadRule w_4 =>
      cases hm
    | NotAnAnswer w_5 =>
      refine k_tryExR (s := Sl.va (D.bl r)) 4 rfl rfl sc_law_refused.nd (L2N.takes_of rfl rfl rfl rfl) (.cons ⟨rfl, by decide, .inl Z.g_NotAnAnswer⟩ (.cons ⟨rfl, by decide, .inl Z.g_TooMany⟩ .nil)) (fun W' pn xe tk po => sds_exprX (gx_call (Γe := none) tk G_any_order (hr.mono (by decide)) (ea_cons (vr 0) (ea_cons (vv 1) (ea_cons (e_list Z.z_list (Ev.r (vr 2))) ea_nil))) ⟨world, setting, letters, .exc (Exc.NotAnAnswer w_5), rfl, h_e_2, rfl⟩ (.eq (.eq (.eq .nil))))) (.inl ⟨Z.exm_NotAnAnswer_NotAnAnswer, fun ad oe dd pn hz hf => su_ret ?_⟩) rfl
      refine k_ifF (et_w (ew_or (et_val (e_isE Z.z_isinstance Z.xc_NotAnAnswer hz hf (vv 4) (e_cls Z.g_TooMany) (.own _) Z.kit_NotAnAnswer_TooMany)) fun _ => (ew_or (et_not (et_val (e_isE Z.z_isinstance Z.xc_NotAnAnswer hz hf (vv 4) (e_cls Z.g_StepError) (.own _) Z.kit_NotAnAnswer_StepError))) fun _ => (ew_or1 (et_not (et_val (e_isE Z.z_isinstance Z.xc_NotAnAnswer hz hf (vv 4) (e_ty Z.z_ValueError bt_ve) (.ty "ValueError") Z.kit_NotAnAnswer_ValueError))))))) rfl ?_
      refine k_nil ?_
      obtain rfl := Option.some.inj hm
      exact k_ret (ev_and (ev_c cm_eqT (vv 3) ev_str) fun _ => (ev_and (e_isT Z.z_isinstance Z.z_tuple (Ev.r (ev_xf Z.xc_NotAnAnswer.xf Z.nox_NotAnAnswer_setting hz hf (vv 4) rfl)) bt_tuple rfl ki_tt) fun _ => (ev_one (ev_c (g_eq (f := encT) (hu64s hr) eqT' 1 okT (by decide) w_5 setting) (Ev.r (ev_xf Z.xc_NotAnAnswer.xf Z.nox_NotAnAnswer_setting hz hf (vv 4) rfl)) (Ev.r (vv 1)))))) rfl
    | TooMany w_6 =>
      refine k_tryExR (s := Sl.va (D.bl r)) 4 rfl rfl sc_law_refused.nd (L2N.takes_of rfl rfl rfl rfl) (.cons ⟨rfl, by decide, .inl Z.g_NotAnAnswer⟩ (.cons ⟨rfl, by decide, .inl Z.g_TooMany⟩ .nil)) (fun W' pn xe tk po => sds_exprX (gx_call (Γe := none) tk G_any_order (hr.mono (by decide)) (ea_cons (vr 0) (ea_cons (vv 1) (ea_cons (e_list Z.z_list (Ev.r (vr 2))) ea_nil))) ⟨world, setting, letters, .exc (Exc.TooMany w_6), rfl, h_e_2, rfl⟩ (.eq (.eq (.eq .nil))))) (.inr ⟨Z.exm_TooMany_NotAnAnswer, .inl ⟨Z.exm_TooMany_TooMany, fun ad oe dd pn hz hf => su_ret ?_⟩⟩) rfl
      refine k_ifF (et_w (ew_or (et_not (et_val (e_isE Z.z_isinstance Z.xc_TooMany hz hf (vv 4) (e_cls Z.g_StepError) (.own _) Z.kit_TooMany_StepError))) fun _ => (ew_or1 (et_not (et_val (e_isE Z.z_isinstance Z.xc_TooMany hz hf (vv 4) (e_ty Z.z_ValueError bt_ve) (.ty "ValueError") Z.kit_TooMany_ValueError)))))) rfl ?_
      refine k_nil ?_
      obtain rfl := Option.some.inj hm
      exact k_ret (ev_and (ev_c cm_eqT (vv 3) ev_str) fun _ => (ev_and (e_isT Z.z_isinstance Z.z_int (Ev.r (ev_xf Z.xc_TooMany.xf Z.nox_TooMany_limit hz hf (vv 4) rfl)) bt_int rfl ki_ii) fun _ => (ev_and (ev_not (e_isT Z.z_isinstance Z.z_bool (Ev.r (ev_xf Z.xc_TooMany.xf Z.nox_TooMany_limit hz hf (vv 4) rfl)) bt_bool rfl ki_ib)) fun _ => (ev_one (ev_c cm_eqI (ev_xf Z.xc_TooMany.xf Z.nox_TooMany_limit hz hf (vv 4) rfl) ev_int))))) rfl
def p_law (A : Ad) : Pm := fun Γ o => ∃ (script : List Int) (r : Bool), Γ = [.va (eF script)] ∧ m_law script = some r ∧ o = .ret (.va (D.bl r))
theorem sc_law : FnScope ["script", "count", "rules", "due", "less", "wrong", "letters", "many", "setting", "shape", "size", "world", "k", "other"] ["script"] (defScope (top 42)) := ⟨rfl, rfl, rfl, by decide +kernel, rfl, by decide +kernel, by decide +kernel⟩
theorem ok_law {f : Addr} {fd : FuncData} (F : Fun K "law" "law" (top 42) f fd) (Z : Fx Pr K mg A) (G_law_cell : FnG Pr w K mg base "_law_cell" 1 ["script", "k"] (p_law_cell A)) (G_law_draw : FnG Pr w K mg base "_law_draw" 1 ["cell", "bases"] (p_law_draw A)) (G_law_some : FnG Pr w K mg base "_law_some" 2 ["cell", "size", "count"] (p_law_some A)) (G_law_rule : FnG Pr w K mg base "_law_rule" 2 ["cell", "size", "setting", "letters", "mode"] (p_law_rule A)) (G_law_world : FnG Pr w K mg base "_law_world" 6 ["size", "rules"] (p_law_world A)) (G_law_due : FnG Pr w K mg base "_law_due" 3 ["setting", "rules", "letters"] (p_law_due A)) (G_law_told : FnG Pr w K mg base "_law_told" 6 ["world", "setting", "letters", "due"] (p_law_told A)) (G_law_wrong_settings : FnG Pr w K mg base "_law_wrong_settings" 3 ["setting", "rules", "at"] (p_law_wrong_settings A)) (G_law_refused : FnG Pr w K mg base "_law_refused" 6 ["world", "setting", "letters", "word"] (p_law_refused A)) : FnOk Pr w K mg base (L2N.CX Pr w) 7 f fd ["script"] (mkSp K (p_law A)) := by
  refine fn_sds F sc_law (fun Γ o ⟨_, _, h2, _⟩ => by rw [h2]; rfl) fun cdv A' outer s H E hr H0 Oc Γ o ⟨script, r, hΓ, hm, ho⟩ => ?_
  subst hΓ ho
  unfold m_law at hm
  refine k_top ?_
  obtain ⟨cell_1, h_cell_1, hm⟩ := bindE hm
  obtain ⟨draw_2, h_draw_2, hm⟩ := bindE hm
  refine k_set 9 sc_law.nd (g_call G_law_draw (hr.mono (by decide)) (ea_cons (g_call G_law_cell (hr.mono (by decide)) (ea_cons (vv 0) (ea_cons ev_int ea_nil)) ⟨script, (0 : Int), cell_1, rfl, h_cell_1, rfl⟩ (.eq (.eq .nil))) (ea_cons (ev_ints (ns := [4, 6, 6, 6, 7, 3, 9, 360360]) rfl (by decide)) ea_nil)) ⟨cell_1, ([4, 6, 6, 6, 7, 3, 9, 360360] : List Int), draw_2, rfl, h_draw_2, rfl⟩ (.eq (.eq .nil))) ?_
  obtain ⟨i_3, h_i_3, hm⟩ := bindE hm
  obtain ⟨size_4, h_size_4, hm⟩ := bndE hm
  refine k_set 10 sc_law.nd (Ev.cv (g := D.int) (ev_add ev_int (ev_ixL (vo 9) ev_int (atM (f := D.int) h_i_3))) h_size_4) ?_
  obtain ⟨i_5, h_i_5, hm⟩ := bindE hm
  refine k_set 1 sc_law.nd (ev_ixL (vo 9) ev_int (atM (f := D.int) h_i_5)) ?_
  obtain ⟨i_6, h_i_6, hm⟩ := bindE hm
  obtain ⟨j_7, hmj, hm⟩ := bindE hm
  refine k_ifJ [.va (eF script), .va (.int j_7.1), .no, .no, .no, .no, .no, .no, .no, .ow ((eL D.int) draw_2), .va (.int j_7.2), .no, .no, .no] (et_c cm_eqI (ev_ixL (vo 9) ev_int (atM (f := D.int) h_i_6)) ev_int) (fun hq => ?_) (fun hq => ?_) ?_
  · rw [if_pos hq] at hmj
    obtain ⟨i_8, h_i_8, hmj⟩ := bindE hmj
    obtain ⟨size_9, h_size_9, hmj⟩ := bndE hmj
    refine k_set 10 sc_law.nd (Ev.cv (g := D.int) (ev_add ev_int (ev_ixL (vo 9) ev_int (atM (f := D.int) h_i_8))) h_size_9) ?_
    obtain ⟨i_10, h_i_10, hmj⟩ := bindE hmj
    refine k_set 1 sc_law.nd (ev_ixL (vo 9) ev_int (atM (f := D.int) h_i_10)) ?_
    obtain rfl := Option.some.inj hmj
    exact k_nil (.eq (.eq (.no (.no (.no (.no (.no (.no (.no (.eq (.eq (.no (.no (.no .nil))))))))))))))
  · rw [if_neg (by rw [hq]; decide)] at hmj
    obtain rfl := Option.some.inj hmj
    exact k_nil (.eq (.eq (.no (.no (.no (.no (.no (.no (.no (.eq (.eq (.no (.no (.no .nil))))))))))))))
  · obtain ⟨cell_11, h_cell_11, hm⟩ := bindE hm
    obtain ⟨c_12, h_c_12, hm⟩ := bindE hm
    obtain ⟨draw_13, h_draw_13, hm⟩ := bindE hm
    refine k_set 8 sc_law.nd (e_tupL Z.z_tuple (Ev.r (g_call G_law_draw (hr.mono (by decide)) (ea_cons (g_call G_law_cell (hr.mono (by decide)) (ea_cons (vv 0) (ea_cons ev_int ea_nil)) ⟨script, (1 : Int), cell_11, rfl, h_cell_11, rfl⟩ (.eq (.eq .nil))) (ea_cons (g_repL (f := D.int) (Ev.r (ev_lst (ea_cons ev_int ea_nil) rfl (by show 1 ≤ _; decide))) (vv 10) h_c_12) ea_nil)) ⟨cell_11, c_12, draw_13, rfl, h_draw_13, rfl⟩ (.eq (.eq .nil))))) ?_
    obtain ⟨cell_14, h_cell_14, hm⟩ := bindE hm
    obtain ⟨i_15, h_i_15, hm⟩ := bindE hm
    obtain ⟨some_16, h_some_16, hm⟩ := bindE hm
    refine k_set 6 sc_law.nd (g_call G_law_some (hr.mono (by decide)) (ea_cons (g_call G_law_cell (hr.mono (by decide)) (ea_cons (vv 0) (ea_cons ev_int ea_nil)) ⟨script, (2 : Int), cell_14, rfl, h_cell_14, rfl⟩ (.eq (.eq .nil))) (ea_cons (vv 10) (ea_cons (e_min Z.z_min rfl (vv 10) (ev_ixL (vo 9) ev_int (atM (f := D.int) h_i_15))) ea_nil))) ⟨cell_14, j_7.2, (min j_7.2 i_15), some_16, rfl, h_some_16, rfl⟩ (.eq (.eq (.eq .nil)))) ?_
    obtain ⟨rg_17, h_rg_17, hm⟩ := bindE hm
    obtain ⟨ys_22, h_ys_22, hm⟩ := bindE hm
    refine k_setLc 2 [("k", 12)] rg_17 D.int _ (eP2 encT (eL encT)) (fun b_18 => [.va (eF script), .va (.int j_7.1), .no, .no, .no, .no, .br ((eL D.int) some_16), .no, .va (encT draw_13), .br ((eL D.int) draw_2), .va (.int j_7.2), .no, .va (.int b_18), .no]) h_ys_22 rfl sc_law.nd (blkOk_by (by rfl)) (g_rng Z.z_range (vv 1) h_rg_17) (fun b_18 _ _ _ _ _ _ _ _ => tw_name 12 sc_law.nd) (fun _ _ => ⟨rfl, Sub.refl⟩) (fun b_18 _ y hy _ _ _ _ _ _ _ => by obtain ⟨cell_19, h_cell_19, hy⟩ := bindE hy; obtain ⟨i_20, h_i_20, hy⟩ := bindE hy; obtain ⟨rule_21, h_rule_21, hy⟩ := tailE hy; obtain rfl := Option.some.inj hy; exact (g_call G_law_rule (hr.mono (by decide)) (ea_cons (g_call G_law_cell (hr.mono (by decide)) (ea_cons (vv 0) (ea_cons (ev_add ev_int (vv 12)) ea_nil)) ⟨script, ((4 : Int) + b_18), cell_19, rfl, h_cell_19, rfl⟩ (.eq (.eq .nil))) (ea_cons (vv 10) (ea_cons (vv 8) (ea_cons (vr 6) (ea_cons (ev_ixL (Ev.r (vr 9)) ev_int (atM (f := D.int) h_i_20)) ea_nil))))) ⟨cell_19, j_7.2, draw_13, some_16, i_20, rule_21, rfl, h_rule_21, rfl⟩ (.eq (.eq (.eq (.eq (.eq .nil))))))) ?_
    obtain ⟨world_23, h_world_23, hm⟩ := bindE hm
    refine k_set 11 sc_law.nd (g_call G_law_world (hr.mono (by decide)) (ea_cons (vv 10) (ea_cons (vo 2) ea_nil)) ⟨j_7.2, ys_22, world_23, rfl, h_world_23, rfl⟩ (.eq (.eq .nil))) ?_
    obtain ⟨due_24, h_due_24, hm⟩ := bindE hm
    refine k_set 3 sc_law.nd (g_call G_law_due (hr.mono (by decide)) (ea_cons (vv 8) (ea_cons (vo 2) (ea_cons (vo 6) ea_nil))) ⟨draw_13, ys_22, some_16, due_24, rfl, h_due_24, rfl⟩ (.eq (.eq (.eq .nil)))) ?_
    obtain ⟨told_25, h_told_25, hm⟩ := bindE hm
    rcases iteE hm with ⟨hq, hm⟩ | ⟨hq, hm⟩
    · refine k_ifT (et_not (et_val (g_call G_law_told (hr.mono (by decide)) (ea_cons (vo 11) (ea_cons (vv 8) (ea_cons (vo 6) (ea_cons (vv 3) ea_nil)))) ⟨world_23, draw_13, some_16, due_24, told_25, rfl, h_told_25, rfl⟩ (.eq (.eq (.eq (.eq .nil))))))) hq ?_
      obtain rfl := Option.some.inj hm
      exact k_ret ev_bl rfl
    · refine k_ifF (et_not (et_val (g_call G_law_told (hr.mono (by decide)) (ea_cons (vo 11) (ea_cons (vv 8) (ea_cons (vo 6) (ea_cons (vv 3) ea_nil)))) ⟨world_23, draw_13, some_16, due_24, told_25, rfl, h_told_25, rfl⟩ (.eq (.eq (.eq (.eq .nil))))))) hq ?_
      refine k_nil ?_
      obtain ⟨world_26, h_world_26, hm⟩ := bindE hm
      refine k_set 4 sc_law.nd (g_call G_law_world (hr.mono (by decide)) (ea_cons (vv 10) (ea_cons (g_slL (vo 2) eo_no (eo_at (ev_neg ev_int))) ea_nil)) ⟨j_7.2, (cutD ys_22 none (some (-1 : Int))), world_26, rfl, h_world_26, rfl⟩ (.eq (.eq .nil))) ?_
      obtain ⟨due_27, h_due_27, hm⟩ := bindE hm
      obtain ⟨told_28, h_told_28, hm⟩ := bindE hm
      rcases iteE hm with ⟨hq, hm⟩ | ⟨hq, hm⟩
      · refine k_ifT (et_not (et_val (g_call G_law_told (hr.mono (by decide)) (ea_cons (vo 4) (ea_cons (vv 8) (ea_cons (vo 6) (ea_cons (g_call G_law_due (hr.mono (by decide)) (ea_cons (vv 8) (ea_cons (g_slL (vo 2) eo_no (eo_at (ev_neg ev_int))) (ea_cons (vo 6) ea_nil))) ⟨draw_13, (cutD ys_22 none (some (-1 : Int))), some_16, due_27, rfl, h_due_27, rfl⟩ (.eq (.eq (.eq .nil)))) ea_nil)))) ⟨world_26, draw_13, some_16, due_27, told_28, rfl, h_told_28, rfl⟩ (.eq (.eq (.eq (.eq .nil))))))) hq ?_
        obtain rfl := Option.some.inj hm
        exact k_ret ev_bl rfl
      · refine k_ifF (et_not (et_val (g_call G_law_told (hr.mono (by decide)) (ea_cons (vo 4) (ea_cons (vv 8) (ea_cons (vo 6) (ea_cons (g_call G_law_due (hr.mono (by decide)) (ea_cons (vv 8) (ea_cons (g_slL (vo 2) eo_no (eo_at (ev_neg ev_int))) (ea_cons (vo 6) ea_nil))) ⟨draw_13, (cutD ys_22 none (some (-1 : Int))), some_16, due_27, rfl, h_due_27, rfl⟩ (.eq (.eq (.eq .nil)))) ea_nil)))) ⟨world_26, draw_13, some_16, due_27, told_28, rfl, h_told_28, rfl⟩ (.eq (.eq (.eq (.eq .nil))))))) hq ?_
        refine k_nil ?_
        obtain ⟨due_29, h_due_29, hm⟩ := bindE hm
        obtain ⟨told_30, h_told_30, hm⟩ := bindE hm
        rcases iteE hm with ⟨hq, hm⟩ | ⟨hq, hm⟩
        · refine k_ifT (et_not (et_val (g_call G_law_told (hr.mono (by decide)) (ea_cons (vo 11) (ea_cons (vv 8) (ea_cons (g_slL (vo 6) (eo_at ev_int) eo_no) (ea_cons (g_call G_law_due (hr.mono (by decide)) (ea_cons (vv 8) (ea_cons (vo 2) (ea_cons (g_slL (vo 6) (eo_at ev_int) eo_no) ea_nil))) ⟨draw_13, ys_22, (cutD some_16 (some (1 : Int)) none), due_29, rfl, h_due_29, rfl⟩ (.eq (.eq (.eq .nil)))) ea_nil)))) ⟨world_23, draw_13, (cutD some_16 (some (1 : Int)) none), due_29, told_30, rfl, h_told_30, rfl⟩ (.eq (.eq (.eq (.eq .nil))))))) hq ?_
          obtain rfl := Option.some.inj hm
          exact k_ret ev_bl rfl
        · refine k_ifF (et_not (et_val (g_call G_law_told (hr.mono (by decide)) (ea_cons (vo 11) (ea_cons (vv 8) (ea_cons (g_slL (vo 6) (eo_at ev_int) eo_no) (ea_cons (g_call G_law_due (hr.mono (by decide)) (ea_cons (vv 8) (ea_cons (vo 2) (ea_cons (g_slL (vo 6) (eo_at ev_int) eo_no) ea_nil))) ⟨draw_13, ys_22, (cutD some_16 (some (1 : Int)) none), due_29, rfl, h_due_29, rfl⟩ (.eq (.eq (.eq .nil)))) ea_nil)))) ⟨world_23, draw_13, (cutD some_16 (some (1 : Int)) none), due_29, told_30, rfl, h_told_30, rfl⟩ (.eq (.eq (.eq (.eq .nil))))))) hq ?_
          refine k_nil ?_
          obtain ⟨told_31, h_told_31, hm⟩ := bindE hm
          obtain ⟨q_33, h_q_33, hm⟩ := bindE hm
          rcases iteE hm with ⟨hq, hm⟩ | ⟨hq, hm⟩
          · refine k_ifT (et_w (gt_or (et_not (et_val (g_call G_law_told (hr.mono (by decide)) (ea_cons (vo 11) (ea_cons (vv 8) (ea_cons (g_revL (vo 6)) (ea_cons (vv 3) ea_nil)))) ⟨world_23, draw_13, (List.reverse some_16), due_24, told_31, rfl, h_told_31, rfl⟩ (.eq (.eq (.eq (.eq .nil))))))) h_q_33 (fun r hq hm => by obtain ⟨told_32, h_told_32, hm⟩ := bindE hm; obtain rfl := Option.some.inj hm; exact (ew_or1 (et_not (et_val (g_call G_law_told (hr.mono (by decide)) (ea_cons (vo 11) (ea_cons (vv 8) (ea_cons (ev_lst ea_nil rfl (by show 0 ≤ _; decide)) (ea_cons ev_bl ea_nil)))) ⟨world_23, draw_13, ([] : List Int), true, told_32, rfl, h_told_32, rfl⟩ (.eq (.eq (.eq (.eq .nil))))))))))) hq ?_
            obtain rfl := Option.some.inj hm
            exact k_ret ev_bl rfl
          · refine k_ifF (et_w (gt_or (et_not (et_val (g_call G_law_told (hr.mono (by decide)) (ea_cons (vo 11) (ea_cons (vv 8) (ea_cons (g_revL (vo 6)) (ea_cons (vv 3) ea_nil)))) ⟨world_23, draw_13, (List.reverse some_16), due_24, told_31, rfl, h_told_31, rfl⟩ (.eq (.eq (.eq (.eq .nil))))))) h_q_33 (fun r hq hm => by obtain ⟨told_32, h_told_32, hm⟩ := bindE hm; obtain rfl := Option.some.inj hm; exact (ew_or1 (et_not (et_val (g_call G_law_told (hr.mono (by decide)) (ea_cons (vo 11) (ea_cons (vv 8) (ea_cons (ev_lst ea_nil rfl (by show 0 ≤ _; decide)) (ea_cons ev_bl ea_nil)))) ⟨world_23, draw_13, ([] : List Int), true, told_32, rfl, h_told_32, rfl⟩ (.eq (.eq (.eq (.eq .nil))))))))))) hq ?_
            refine k_nil ?_
            obtain ⟨i_34, h_i_34, hm⟩ := bindE hm
            obtain ⟨d_35, h_d_35, hm⟩ := bindE hm
            obtain ⟨wrongsettings_36, h_wrongsettings_36, hm⟩ := bindE hm
            refine k_set 5 sc_law.nd (g_call G_law_wrong_settings (hr.mono (by decide)) (ea_cons (vv 8) (ea_cons (vo 2) (ea_cons (g_mod (e_int Z.z_int (ev_ixL (vo 9) ev_int (atM (f := D.int) h_i_34))) (vv 10) h_d_35) ea_nil))) ⟨draw_13, ys_22, d_35, wrongsettings_36, rfl, h_wrongsettings_36, rfl⟩ (.eq (.eq (.eq .nil)))) ?_
            refine k_freeze 5 ?_
            obtain ⟨ys_39, h_ys_39, hm⟩ := bindE hm
            rcases iteE hm with ⟨hq, hm⟩ | ⟨hq, hm⟩
            · refine k_ifT (et_not (et_val (e_all Z.z_all rfl (Ev.r (g_lc [("other", 13)] wrongsettings_36 encT _ D.bl (fun b_37 => [.va (eF script), .va (.int j_7.1), .br ((eL (eP2 encT (eL encT))) ys_22), .va (.bl due_24), .br ((enc_Rules A) world_26), .va ((eL encT) wrongsettings_36), .br ((eL D.int) some_16), .no, .va (encT draw_13), .br ((eL D.int) draw_2), .va (.int j_7.2), .br ((enc_Rules A) world_23), .no, .va (encT b_37)]) h_ys_39 rfl sc_law.nd (blkOk_by (by rfl)) (ei_lst (vv 5) rfl) (fun b_37 _ _ _ _ _ _ _ _ => tw_name 13 sc_law.nd) (fun _ _ => ⟨rfl, Sub.refl⟩) (fun b_37 _ y hy _ _ _ _ _ _ _ => by obtain ⟨refused_38, h_refused_38, hy⟩ := tailE hy; obtain rfl := Option.some.inj hy; exact (g_call G_law_refused (hr.mono (by decide)) (ea_cons (vr 11) (ea_cons (vv 13) (ea_cons (vr 6) (ea_cons ev_str ea_nil)))) ⟨world_23, b_37, some_16, ("setting" : Str), refused_38, rfl, h_refused_38, rfl⟩ (.eq (.eq (.eq (.eq .nil))))))))))) hq ?_
              obtain rfl := Option.some.inj hm
              exact k_ret ev_bl rfl
            · refine k_ifF (et_not (et_val (e_all Z.z_all rfl (Ev.r (g_lc [("other", 13)] wrongsettings_36 encT _ D.bl (fun b_37 => [.va (eF script), .va (.int j_7.1), .br ((eL (eP2 encT (eL encT))) ys_22), .va (.bl due_24), .br ((enc_Rules A) world_26), .va ((eL encT) wrongsettings_36), .br ((eL D.int) some_16), .no, .va (encT draw_13), .br ((eL D.int) draw_2), .va (.int j_7.2), .br ((enc_Rules A) world_23), .no, .va (encT b_37)]) h_ys_39 rfl sc_law.nd (blkOk_by (by rfl)) (ei_lst (vv 5) rfl) (fun b_37 _ _ _ _ _ _ _ _ => tw_name 13 sc_law.nd) (fun _ _ => ⟨rfl, Sub.refl⟩) (fun b_37 _ y hy _ _ _ _ _ _ _ => by obtain ⟨refused_38, h_refused_38, hy⟩ := tailE hy; obtain rfl := Option.some.inj hy; exact (g_call G_law_refused (hr.mono (by decide)) (ea_cons (vr 11) (ea_cons (vv 13) (ea_cons (vr 6) (ea_cons ev_str ea_nil)))) ⟨world_23, b_37, some_16, ("setting" : Str), refused_38, rfl, h_refused_38, rfl⟩ (.eq (.eq (.eq (.eq .nil))))))))))) hq ?_
              refine k_nil ?_
              obtain ⟨i_40, h_i_40, hm⟩ := bindE hm
              rcases iteE hm with ⟨hq, hm⟩ | ⟨hq, hm⟩
              · refine k_ifT (et_c cm_eqI (ev_ixL (vo 9) ev_int (atM (f := D.int) h_i_40)) ev_int) hq ?_
                obtain ⟨cell_41, h_cell_41, hm⟩ := bindE hm
                obtain ⟨some_42, h_some_42, hm⟩ := bindE hm
                refine k_set 7 sc_law.nd (g_call G_law_some (hr.mono (by decide)) (ea_cons (g_call G_law_cell (hr.mono (by decide)) (ea_cons (vv 0) (ea_cons ev_int ea_nil)) ⟨script, (3 : Int), cell_41, rfl, h_cell_41, rfl⟩ (.eq (.eq .nil))) (ea_cons (vv 10) (ea_cons ev_int ea_nil))) ⟨cell_41, j_7.2, (9 : Int), some_42, rfl, h_some_42, rfl⟩ (.eq (.eq (.eq .nil)))) ?_
                obtain ⟨refused_43, h_refused_43, hm⟩ := bindE hm
                rcases iteE hm with ⟨hq, hm⟩ | ⟨hq, hm⟩
                · refine k_ifT (et_not (et_val (g_call G_law_refused (hr.mono (by decide)) (ea_cons (vo 11) (ea_cons (vv 8) (ea_cons (vo 7) (ea_cons ev_str ea_nil)))) ⟨world_23, draw_13, some_42, ("many" : Str), refused_43, rfl, h_refused_43, rfl⟩ (.eq (.eq (.eq (.eq .nil))))))) hq ?_
                  obtain rfl := Option.some.inj hm
                  exact k_ret ev_bl rfl
                · refine k_ifF (et_not (et_val (g_call G_law_refused (hr.mono (by decide)) (ea_cons (vo 11) (ea_cons (vv 8) (ea_cons (vo 7) (ea_cons ev_str ea_nil)))) ⟨world_23, draw_13, some_42, ("many" : Str), refused_43, rfl, h_refused_43, rfl⟩ (.eq (.eq (.eq (.eq .nil))))))) hq ?_
                  refine k_nil ?_
                  obtain ⟨ys_46, h_ys_46, hm⟩ := bindE hm
                  rcases iteE hm with ⟨hq, hm⟩ | ⟨hq, hm⟩
                  · refine k_ifT (et_not (et_val (e_all Z.z_all rfl (Ev.r (g_lc [("other", 13)] wrongsettings_36 encT _ D.bl (fun b_44 => [.va (eF script), .va (.int j_7.1), .br ((eL (eP2 encT (eL encT))) ys_22), .va (.bl due_24), .br ((enc_Rules A) world_26), .va ((eL encT) wrongsettings_36), .br ((eL D.int) some_16), .br ((eL D.int) some_42), .va (encT draw_13), .br ((eL D.int) draw_2), .va (.int j_7.2), .br ((enc_Rules A) world_23), .no, .va (encT b_44)]) h_ys_46 rfl sc_law.nd (blkOk_by (by rfl)) (ei_lst (vv 5) rfl) (fun b_44 _ _ _ _ _ _ _ _ => tw_name 13 sc_law.nd) (fun _ _ => ⟨rfl, Sub.refl⟩) (fun b_44 _ y hy _ _ _ _ _ _ _ => by obtain ⟨refused_45, h_refused_45, hy⟩ := tailE hy; obtain rfl := Option.some.inj hy; exact (g_call G_law_refused (hr.mono (by decide)) (ea_cons (vr 11) (ea_cons (vv 13) (ea_cons (vr 7) (ea_cons ev_str ea_nil)))) ⟨world_23, b_44, some_42, ("setting" : Str), refused_45, rfl, h_refused_45, rfl⟩ (.eq (.eq (.eq (.eq .nil))))))))))) hq ?_
                    obtain rfl := Option.some.inj hm
                    exact k_ret ev_bl rfl
                  · refine k_ifF (et_not (et_val (e_all Z.z_all rfl (Ev.r (g_lc [("other", 13)] wrongsettings_36 encT _ D.bl (fun b_44 => [.va (eF script), .va (.int j_7.1), .br ((eL (eP2 encT (eL encT))) ys_22), .va (.bl due_24), .br ((enc_Rules A) world_26), .va ((eL encT) wrongsettings_36), .br ((eL D.int) some_16), .br ((eL D.int) some_42), .va (encT draw_13), .br ((eL D.int) draw_2), .va (.int j_7.2), .br ((enc_Rules A) world_23), .no, .va (encT b_44)]) h_ys_46 rfl sc_law.nd (blkOk_by (by rfl)) (ei_lst (vv 5) rfl) (fun b_44 _ _ _ _ _ _ _ _ => tw_name 13 sc_law.nd) (fun _ _ => ⟨rfl, Sub.refl⟩) (fun b_44 _ y hy _ _ _ _ _ _ _ => by obtain ⟨refused_45, h_refused_45, hy⟩ := tailE hy; obtain rfl := Option.some.inj hy; exact (g_call G_law_refused (hr.mono (by decide)) (ea_cons (vr 11) (ea_cons (vv 13) (ea_cons (vr 7) (ea_cons ev_str ea_nil)))) ⟨world_23, b_44, some_42, ("setting" : Str), refused_45, rfl, h_refused_45, rfl⟩ (.eq (.eq (.eq (.eq .nil))))))))))) hq ?_
                    refine k_nil ?_
                    obtain ⟨due_47, h_due_47, hm⟩ := bindE hm
                    obtain ⟨told_48, h_told_48, hm⟩ := bindE hm
                    rcases iteE hm with ⟨hq, hm⟩ | ⟨hq, hm⟩
                    · refine k_ifT (et_not (et_val (g_call G_law_told (hr.mono (by decide)) (ea_cons (vo 11) (ea_cons (vv 8) (ea_cons (g_slL (vo 7) eo_no (eo_at ev_int)) (ea_cons (g_call G_law_due (hr.mono (by decide)) (ea_cons (vv 8) (ea_cons (vo 2) (ea_cons (g_slL (vo 7) eo_no (eo_at ev_int)) ea_nil))) ⟨draw_13, ys_22, (cutD some_42 none (some (8 : Int))), due_47, rfl, h_due_47, rfl⟩ (.eq (.eq (.eq .nil)))) ea_nil)))) ⟨world_23, draw_13, (cutD some_42 none (some (8 : Int))), due_47, told_48, rfl, h_told_48, rfl⟩ (.eq (.eq (.eq (.eq .nil))))))) hq ?_
                      obtain rfl := Option.some.inj hm
                      exact k_ret ev_bl rfl
                    · refine k_ifF (et_not (et_val (g_call G_law_told (hr.mono (by decide)) (ea_cons (vo 11) (ea_cons (vv 8) (ea_cons (g_slL (vo 7) eo_no (eo_at ev_int)) (ea_cons (g_call G_law_due (hr.mono (by decide)) (ea_cons (vv 8) (ea_cons (vo 2) (ea_cons (g_slL (vo 7) eo_no (eo_at ev_int)) ea_nil))) ⟨draw_13, ys_22, (cutD some_42 none (some (8 : Int))), due_47, rfl, h_due_47, rfl⟩ (.eq (.eq (.eq .nil)))) ea_nil)))) ⟨world_23, draw_13, (cutD some_42 none (some (8 : Int))), due_47, told_48, rfl, h_told_48, rfl⟩ (.eq (.eq (.eq (.eq .nil))))))) hq ?_
                      refine k_nil ?_
                      refine k_nil ?_
                      obtain ⟨told_49, h_told_49, hm⟩ := tailE hm
                      obtain rfl := Option.some.inj hm
                      exact k_ret (g_call G_law_told (hr.mono (by decide)) (ea_cons (vo 11) (ea_cons (vv 8) (ea_cons (vo 6) (ea_cons (vv 3) ea_nil)))) ⟨world_23, draw_13, some_16, due_24, told_49, rfl, h_told_49, rfl⟩ (.eq (.eq (.eq (.eq .nil))))) rfl
              · refine k_ifF (et_c cm_eqI (ev_ixL (vo 9) ev_int (atM (f := D.int) h_i_40)) ev_int) hq ?_
                refine k_nil ?_
                obtain ⟨told_50, h_told_50, hm⟩ := tailE hm
                obtain rfl := Option.some.inj hm
                exact k_ret (g_call G_law_told (hr.mono (by decide)) (ea_cons (vo 11) (ea_cons (vv 8) (ea_cons (vo 6) (ea_cons (vv 3) ea_nil)))) ⟨world_23, draw_13, some_16, due_24, told_50, rfl, h_told_50, rfl⟩ (.eq (.eq (.eq (.eq .nil))))) rfl
end
end Y

namespace Y
open PySem L2
/-! # mirrors, in plain words -/
section
variable {ε α β γ ρ κ : Type}
theorem bind_some' {v : α} {f : α → Option β} : (some v).bind f = f v := rfl
theorem exb {x : Option α} {k : α → Option β} {P : α → Prop} {R : β → Prop} (h : ∃ a, x = some a ∧ P a) (hk : ∀ a, P a → ∃ b, k a = some b ∧ R b) : ∃ b, x.bind k = some b ∧ R b := by
  obtain ⟨a, h1, h2⟩ := h
  rw [h1]
  exact hk a h2
theorem exv {x : Option α} {k : α → Option β} {a : α} {R : β → Prop} (h : x = some a) (hk : ∃ b, k a = some b ∧ R b) : ∃ b, x.bind k = some b ∧ R b := by
  rw [h]
  exact hk
theorem appO_of {xs : List α} {x : α} (h : xs.length ≤ 1000000) : appO xs x = some (xs ++ [x]) := if_pos h
theorem catO_of {xs ys : List α} (h : xs.length + ys.length ≤ 1000000) : catO xs ys = some (xs ++ ys) := if_pos h
theorem ixO_nat {xs : List α} {i : Nat} (h : i < xs.length) : ixO xs (i : Int) = some xs[i] := by
  unfold ixO
  exact L2.atI_nat (List.getElem?_eq_getElem h)
theorem ixO_at {xs : List α} {i : Int} {x : α} (h0 : 0 ≤ i) (h : xs[i.toNat]? = some x) : ixO xs i = some x := by
  obtain ⟨n, rfl⟩ : ∃ n : Nat, i = (n : Int) := ⟨i.toNat, by omega⟩
  exact L2.atI_nat h
theorem ixO_lt {xs : List α} {i : Int} (h0 : 0 ≤ i) (h1 : i < (xs.length : Int)) : ∃ x, ixO xs i = some x ∧ x ∈ xs ∧ xs[i.toNat]? = some x := by
  have hi : i.toNat < xs.length := by omega
  exact ⟨xs[i.toNat], ixO_at h0 (List.getElem?_eq_getElem hi), List.getElem_mem hi, List.getElem?_eq_getElem hi⟩
theorem ixO_getD {xs : List Int} {i : Int} (h0 : 0 ≤ i) (h1 : i < (xs.length : Int)) : ixO xs i = some (xs.getD i.toNat 0) := by
  have hi : i.toNat < xs.length := by omega
  exact ixO_at h0 (by rw [List.getD_eq_getElem?_getD, List.getElem?_eq_getElem hi]; rfl)
theorem ixO_last {xs : List α} {x : α} : ixO (xs ++ [x]) (-1) = some x := L2.atI_last xs x
theorem setO_nat {xs : List α} {i : Nat} {x : α} (h : i < xs.length) : setO xs (i : Int) x = some (xs.set i x) := by
  unfold setO
  rw [ixN_nat h]
  rfl
theorem setO_at {xs : List α} {i : Int} {x : α} (h0 : 0 ≤ i) (h1 : i < (xs.length : Int)) : setO xs i x = some (xs.set i.toNat x) := by
  obtain ⟨n, rfl⟩ : ∃ n : Nat, i = (n : Int) := ⟨i.toNat, by omega⟩
  exact setO_nat (by omega)
theorem repO_of {xs : List α} {i : Int} (h0 : 0 ≤ i) (h1 : i ≤ 1000000) (h2 : xs.length * i.toNat ≤ 1000000) : repO xs i = some (List.replicate i.toNat xs).flatten := if_pos ⟨h1, by omega, h2⟩
theorem rep1 (n : Nat) (v : α) : (List.replicate n [v]).flatten = List.replicate n v := by
  induction n with
  | zero => rfl
  | succ n ih => rw [List.replicate_succ, List.flatten_cons, ih]; rfl
theorem repO_one {v : α} {n : Nat} (h : n ≤ 1000000) : repO [v] (n : Int) = some (List.replicate n v) := by
  rw [repO_of (by omega) (by omega) (by simp; exact h), Int.toNat_natCast, rep1]
theorem irange_nat (n : Nat) : irange (n : Int) = (List.range n).map fun k : Nat => (k : Int) := by unfold irange; rw [Int.toNat_natCast]
theorem irange_len {n : Int} : (irange n).length = n.toNat := by unfold irange; simp
theorem mem_irange {n i : Int} : i ∈ irange n ↔ 0 ≤ i ∧ i < n := by
  unfold irange
  rw [List.mem_map]
  constructor
  · rintro ⟨k, hk, rfl⟩
    rw [List.mem_range] at hk
    omega
  · rintro ⟨h0, h1⟩
    exact ⟨i.toNat, by rw [List.mem_range]; omega, by omega⟩
theorem rngO_of {n : Int} (h0 : -1000000000 ≤ n) (h1 : n ≤ 1000000000) : rngO n = some (irange n) := if_pos ⟨h0, h1⟩
theorem rngO_nat {n : Nat} (h : n ≤ 1000000000) : rngO (n : Int) = some (irange (n : Int)) := rngO_of (by omega) (by omega)
theorem modO_of {i j : Int} (h : 0 < j) : modO i j = some (i % j) := if_pos h
theorem divO_of {i j : Int} (h : 0 < j) (h1 : j < 1073741824) : divO i j = some (i / j) := if_pos ⟨h, h1⟩
theorem mapA_some {f : α → Option β} {g : α → β} : ∀ {xs : List α}, (∀ x ∈ xs, f x = some (g x)) → mapA f xs = some (xs.map g)
  | [], _ => rfl
  | x :: xs, h => by
    unfold mapA
    rw [h x List.mem_cons_self, mapA_some fun z hz => h z (List.mem_cons_of_mem _ hz)]
    rfl
theorem mapO_some {f : α → Option β} (g : α → β) {xs : List α} (hl : xs.length ≤ 1000000) (h : ∀ x ∈ xs, f x = some (g x)) : mapO f xs = some (xs.map g) := by
  unfold mapO
  rw [if_pos hl, mapA_some h]
theorem mapA_ex {f : α → Option β} {R : α → β → Prop} : ∀ {xs : List α}, (∀ x ∈ xs, ∃ y, f x = some y ∧ R x y) → ∃ ys, mapA f xs = some ys ∧ ys.length = xs.length ∧ ∀ (i : Nat) x y, xs[i]? = some x → ys[i]? = some y → f x = some y ∧ R x y
  | [], _ => ⟨[], rfl, rfl, fun i x y h => by simp at h⟩
  | x :: xs, h => by
    obtain ⟨y, h1, h2⟩ := h x List.mem_cons_self
    obtain ⟨ys, h3, h4, h5⟩ := mapA_ex (R := R) fun z hz => h z (List.mem_cons_of_mem _ hz)
    refine ⟨y :: ys, by unfold mapA; rw [h1, h3]; rfl, by simp [h4], fun i => ?_⟩
    cases i with
    | zero =>
      intro a b q1 q2
      cases q1
      cases q2
      exact ⟨h1, h2⟩
    | succ i => exact h5 i
theorem mapO_ex {f : α → Option β} {R : α → β → Prop} {xs : List α} (hl : xs.length ≤ 1000000) (h : ∀ x ∈ xs, ∃ y, f x = some y ∧ R x y) : ∃ ys, mapO f xs = some ys ∧ ys.length = xs.length ∧ ∀ (i : Nat) x y, xs[i]? = some x → ys[i]? = some y → f x = some y ∧ R x y := by
  unfold mapO
  rw [if_pos hl]
  exact mapA_ex h
theorem fmapA_some {f : α → Option (Option β)} {p : α → Bool} {g : α → β} : ∀ {xs : List α}, (∀ x ∈ xs, f x = some (if p x = true then some (g x) else none)) → fmapA f xs = some ((xs.filter p).map g)
  | [], _ => rfl
  | x :: xs, h => by
    unfold fmapA
    rw [h x List.mem_cons_self, fmapA_some fun z hz => h z (List.mem_cons_of_mem _ hz), List.filter_cons]
    cases p x <;> rfl
theorem fmapO_some {f : α → Option (Option β)} (p : α → Bool) (g : α → β) {xs : List α} (hl : xs.length ≤ 1000000) (h : ∀ x ∈ xs, f x = some (if p x = true then some (g x) else none)) : fmapO f xs = some ((xs.filter p).map g) := by
  unfold fmapO
  rw [if_pos hl, fmapA_some h]
theorem flat2_some {iy : α → Option (List γ)} {pe : α → γ → Option (Option β)} (ys : α → List γ) (p : α → γ → Bool) (g : α → γ → β) {xs : List α} (h1 : ∀ x ∈ xs, iy x = some (ys x)) (h2 : ∀ x ∈ xs, ∀ y ∈ ys x, pe x y = some (if p x y = true then some (g x y) else none))
    (hl : (xs.map fun x => ((ys x).filter (p x)).map (g x)).flatten.length ≤ 1000000) : flat2 iy pe xs = some (xs.map fun x => ((ys x).filter (p x)).map (g x)).flatten := by
  unfold flat2 flatO
  rw [mapA_some (g := fun x => ((ys x).filter (p x)).map (g x)) fun x hx => ?_]
  · exact if_pos hl
  · rw [h1 x hx]
    exact fmapA_some (h2 x hx)
/-! loops -/
theorem foldO_inv {step : α → β → Option α} (Inv : List β → α → Prop) {xs : List β} {a : α} (h0 : Inv [] a) (hs : ∀ pre b post st, xs = pre ++ b :: post → Inv pre st → ∃ st', step st b = some st' ∧ Inv (pre ++ [b]) st') : ∃ st, foldO step a xs = some st ∧ Inv xs st := by
  have key : ∀ (post pre : List β) (st : α), xs = pre ++ post → Inv pre st → ∃ st', foldO step st post = some st' ∧ Inv xs st' := by
    intro post
    induction post with
    | nil =>
      intro pre st e h
      exact ⟨st, rfl, by rw [e, List.append_nil]; exact h⟩
    | cons b post ih =>
      intro pre st e h
      obtain ⟨st1, h1, h2⟩ := hs pre b post st e h
      obtain ⟨st2, h3, h4⟩ := ih (pre ++ [b]) st1 (by rw [e, List.append_assoc]; rfl) h2
      exact ⟨st2, by unfold foldO; rw [h1]; exact h3, h4⟩
  exact key xs [] a rfl h0
theorem foldO_some {step : α → β → Option α} (g : α → β → α) (Inv : α → Prop) {xs : List β} {a : α} (h0 : Inv a) (hs : ∀ b ∈ xs, ∀ st, Inv st → step st b = some (g st b) ∧ Inv (g st b)) : foldO step a xs = some (xs.foldl g a) ∧ Inv (xs.foldl g a) := by
  induction xs generalizing a with
  | nil => exact ⟨rfl, h0⟩
  | cons b bs ih =>
    obtain ⟨h1, h2⟩ := hs b List.mem_cons_self a h0
    have := ih h2 fun c hc => hs c (List.mem_cons_of_mem _ hc)
    unfold foldO
    rw [h1]
    exact this
theorem runF_inv {step : α → β → Option (Lp ε α ρ)} (Inv : List β → α → Prop) {xs : List β} {a : α} (h0 : Inv [] a) (hs : ∀ pre b post st, xs = pre ++ b :: post → Inv pre st → ∃ st', step st b = some (.nx st') ∧ Inv (pre ++ [b]) st') : ∃ st, runF step a xs = some (.nx st) ∧ Inv xs st := by
  have key : ∀ (post pre : List β) (st : α), xs = pre ++ post → Inv pre st → ∃ st', runF step st post = some (.nx st') ∧ Inv xs st' := by
    intro post
    induction post with
    | nil =>
      intro pre st e h
      exact ⟨st, rfl, by rw [e, List.append_nil]; exact h⟩
    | cons b post ih =>
      intro pre st e h
      obtain ⟨st1, h1, h2⟩ := hs pre b post st e h
      obtain ⟨st2, h3, h4⟩ := ih (pre ++ [b]) st1 (by rw [e, List.append_assoc]; rfl) h2
      exact ⟨st2, by unfold runF; rw [h1]; exact h3, h4⟩
  exact key xs [] a rfl h0
/-- a loop without a state that hands v back at the first element without p -/
theorem runF_all {step : Unit → β → Option (Lp ε Unit ρ)} (p : β → Bool) (v : ρ) {xs : List β} (h : ∀ b ∈ xs, step () b = some (if p b = true then .nx () else .ret v)) : runF step () xs = some (if xs.all p = true then .nx () else .ret v) := by
  induction xs with
  | nil => rfl
  | cons b bs ih =>
    unfold runF
    rw [h b List.mem_cons_self, List.all_cons]
    cases p b with
    | true => exact ih fun c hc => h c (List.mem_cons_of_mem _ hc)
    | false => rfl
/-- .. that hands back what the first element with a value has -/
theorem runF_find {step : Unit → β → Option (Lp ε Unit ρ)} (p : β → Option ρ) {xs : List β} (h : ∀ b ∈ xs, step () b = some (match p b with | some v => .ret v | none => .nx ())) : runF step () xs = some (match xs.findSome? p with | some v => .ret v | none => .nx ()) := by
  induction xs with
  | nil => rfl
  | cons b bs ih =>
    unfold runF
    rw [h b List.mem_cons_self, List.findSome?_cons]
    cases p b with
    | none => exact ih fun c hc => h c (List.mem_cons_of_mem _ hc)
    | some v => rfl
/-- the loop gets to an element that ends it -/
theorem runF_stop {step : α → β → Option (Lp ε α ρ)} (Inv : List β → α → Prop) {pre : List β} {b : β} {post : List β} {a : α} {r : Lp ε α ρ} (h0 : Inv [] a) (hs : ∀ pr c po st, pre = pr ++ c :: po → Inv pr st → ∃ st', step st c = some (.nx st') ∧ Inv (pr ++ [c]) st') (hb : ∀ st, Inv pre st → step st b = some r) (hr : ∀ a, r ≠ .nx a ∧ r ≠ .cnt a ∧ r ≠ .brk a) : runF step a (pre ++ b :: post) = some r := by
  -- directly, along the same invariant
  have key : ∀ (po pr : List β) (st : α), pre = pr ++ po → Inv pr st → runF step st (po ++ b :: post) = some r := by
    intro po
    induction po with
    | nil =>
      intro pr st e h
      have hI : Inv pre st := by rw [e, List.append_nil]; exact h
      show (step st b).bind _ = _
      rw [hb st hI]
      cases r with
      | nx a => exact absurd rfl (hr a).1
      | cnt a => exact absurd rfl (hr a).2.1
      | brk a => exact absurd rfl (hr a).2.2
      | ret _ => rfl
      | exc _ => rfl
    | cons c po ih =>
      intro pr st e h
      obtain ⟨st1, q1, q2⟩ := hs pr c po st e h
      show (step st c).bind _ = _
      rw [q1]
      exact ih (pr ++ [c]) st1 (by rw [e, List.append_assoc]; rfl) q2
  exact key pre [] a rfl h0
theorem whileO_inv {c : α → Option Bool} {step : α → Option α} (Inv : α → Prop) (μ : α → Nat) (hc : ∀ st, Inv st → ∃ q, c st = some q ∧ (q = true → ∃ st', step st = some st' ∧ Inv st' ∧ μ st' < μ st)) : ∀ (n : Nat) (a : α), Inv a → μ a < n → ∃ st, whileO c step n a = some st ∧ Inv st ∧ c st = some false
  | 0, _, _, h => by omega
  | n + 1, a, hI, h => by
    obtain ⟨q, h1, h2⟩ := hc a hI
    unfold whileO
    rw [h1]
    cases q with
    | false => exact ⟨a, rfl, hI, h1⟩
    | true =>
      obtain ⟨st, h3, h4, h5⟩ := h2 rfl
      obtain ⟨st2, h6, h7, h8⟩ := whileO_inv Inv μ hc n st h4 (by omega)
      refine ⟨st2, ?_, h7, h8⟩
      show (step a).bind _ = _
      rw [h3]
      exact h6
theorem enumI_cons (x : α) (xs : List α) : enumI (x :: xs) = (0, x) :: (enumI xs).map fun p => (p.1 + 1, p.2) := by
  have sh : ∀ (xs : List α) (k : Nat), enumF (k + 1) xs = (enumF k xs).map fun p => (p.1 + 1, p.2) := by
    intro xs
    induction xs with
    | nil => intro k; rfl
    | cons y ys ih =>
      intro k
      show (k + 1, y) :: enumF (k + 1 + 1) ys = (k + 1, y) :: (enumF (k + 1) ys).map _
      rw [ih (k + 1)]
  unfold enumI
  show (((0 : Nat) : Int), x) :: (enumF 1 xs).map _ = _
  rw [sh xs 0, List.map_map, List.map_map]
  congr 1
theorem enumI_get (xs : List α) (i : Nat) : (enumI xs)[i]? = xs[i]?.map fun x => ((i : Int), x) := by
  unfold enumI
  rw [List.getElem?_map, enumF_get, Option.map_map]
  congr 1
  funext x
  simp
theorem enumI_len (xs : List α) : (enumI xs).length = xs.length := by unfold enumI; rw [List.length_map, enumF_len]
theorem enumI_snd (xs : List α) : (enumI xs).map (·.2) = xs := by
  refine List.ext_getElem? fun i => ?_
  rw [List.getElem?_map, enumI_get, Option.map_map]
  cases xs[i]? <;> rfl
theorem mem_enumI {xs : List α} {p : Int × α} (h : p ∈ enumI xs) : ∃ i : Nat, p.1 = (i : Int) ∧ xs[i]? = some p.2 := by
  obtain ⟨i, hi⟩ := List.mem_iff_getElem?.mp h
  rw [enumI_get] at hi
  obtain ⟨x, h1, rfl⟩ := Option.map_eq_some_iff.mp hi
  exact ⟨i, rfl, h1⟩
theorem memB_iff [DecidableEq α] {x : α} {xs : List α} : memB x xs = true ↔ x ∈ xs := by unfold memB; exact decide_eq_true_iff
theorem memB_no [DecidableEq α] {x : α} {xs : List α} : memB x xs = false ↔ x ∉ xs := by unfold memB; exact decide_eq_false_iff_not
theorem eqB_no [DecidableEq α] {x y : α} : eqB x y = false ↔ x ≠ y := by unfold eqB; exact decide_eq_false_iff_not
theorem eqB_iff [DecidableEq α] {x y : α} : eqB x y = true ↔ x = y := by unfold eqB; exact decide_eq_true_iff
theorem eqB_self [DecidableEq α] {x : α} : eqB x x = true := eqB_iff.mpr rfl
/-! dicts -/
theorem dhas_iff [DecidableEq κ] {m : List (κ × β)} {k : κ} : dhas m k = true ↔ k ∈ dkeys m := by unfold dhas dkeys; exact decide_eq_true_iff
theorem dput_new [DecidableEq κ] {m : List (κ × β)} {k : κ} {v : β} (h : dhas m k = false) : dput m k v = m ++ [(k, v)] := by
  unfold dput
  exact if_neg (of_decide_eq_false h)
theorem dput_keys [DecidableEq κ] {m : List (κ × β)} {k : κ} {v : β} : dkeys (dput m k v) = if k ∈ dkeys m then dkeys m else dkeys m ++ [k] := by
  unfold dput dkeys
  by_cases h : k ∈ m.map (·.1)
  · rw [if_pos h, if_pos h, dset_keys]
  · rw [if_neg h, if_neg h, List.map_append]
    rfl
theorem dget_dset [DecidableEq κ] {k j : κ} {v : β} : ∀ {m : List (κ × β)}, dget (dset m k v) j = if j = k then (dget m j).map (fun _ => v) else dget m j
  | [] => by unfold dset dget; split <;> rfl
  | p :: m => by
    show dget ((if p.1 = k then (p.1, v) else p) :: dset m k v) j = _
    unfold dget
    rw [dget_dset]
    by_cases e : p.1 = k <;> by_cases e2 : j = k <;> by_cases e3 : p.1 = j
    all_goals simp_all
theorem dget_app [DecidableEq κ] {j : κ} {m l : List (κ × β)} : dget (m ++ l) j = match dget m j with | some v => some v | none => dget l j := by
  induction m with
  | nil => rfl
  | cons p m ih =>
    show (if p.1 = j then some p.2 else dget (m ++ l) j) = match (if p.1 = j then some p.2 else dget m j) with | some v => some v | none => dget l j
    split
    · rfl
    · exact ih
theorem dget_dput [DecidableEq κ] {m : List (κ × β)} {k j : κ} {v : β} : dget (dput m k v) j = if j = k then some v else dget m j := by
  unfold dput
  by_cases h : k ∈ m.map (·.1)
  · rw [if_pos h, dget_dset]
    by_cases e : j = k
    · rw [if_pos e, if_pos e]
      subst e
      cases q : dget m j with
      | none =>
        have := dget_none.mp q
        unfold dhas at this
        exact absurd h (of_decide_eq_false this)
      | some u => rfl
    · rw [if_neg e, if_neg e]
  · rw [if_neg h, dget_app]
    by_cases e : j = k
    · subst e
      rw [if_pos rfl, dget_none.mpr (by unfold dhas; exact decide_eq_false h)]
      unfold dget
      rw [if_pos rfl]
    · rw [if_neg e]
      cases dget m j with
      | some u => rfl
      | none =>
        show dget [(k, v)] j = none
        unfold dget
        rw [if_neg (fun z => e z.symm)]
        rfl
theorem dget_some_has [DecidableEq κ] {m : List (κ × β)} {k : κ} {v : β} (h : dget m k = some v) : dhas m k = true := by
  cases q : dhas m k with
  | true => rfl
  | false => rw [dget_none.mpr q] at h; cases h
theorem dget_of_has [DecidableEq κ] {m : List (κ × β)} {k : κ} (h : dhas m k = true) : ∃ v, dget m k = some v := by
  cases q : dget m k with
  | some v => exact ⟨v, rfl⟩
  | none => rw [dget_none.mp q] at h; cases h
theorem dputO_of [DecidableEq κ] {m : List (κ × β)} {k : κ} {v : β} (h : m.length ≤ 1000000) : dputO m k v = some (dput m k v) := if_pos h
theorem dkeys_len (m : List (κ × β)) : (dkeys m).length = m.length := by unfold dkeys; rw [List.length_map]
theorem okO_ret {v : ρ} : okO (some (Rs.ret (ε := ε) v)) = some v := rfl
theorem cutD_all {xs : List α} : cutD xs none none = xs := by
  unfold cutD HT.sIx
  simp
end
end Y

namespace Y
open PySem L2
/-! ## what the law draws -/
/-- drawn numbers: each below its base -/
def Drawn (bs ds : List Int) : Prop := ds.length = bs.length ∧ ∀ i, i < bs.length → 0 ≤ ds.getD i 0 ∧ ds.getD i 0 < bs.getD i 0
theorem Drawn.snoc {bs ds : List Int} {b d : Int} (h : Drawn bs ds) (h0 : 0 ≤ d) (h1 : d < b) : Drawn (bs ++ [b]) (ds ++ [d]) := by
  refine ⟨by rw [List.length_append, List.length_append, h.1]; rfl, fun i hi => ?_⟩
  rw [List.length_append, List.length_singleton] at hi
  rw [List.getD_eq_getElem?_getD, List.getD_eq_getElem?_getD]
  by_cases e : i < bs.length
  · rw [List.getElem?_append_left (by rw [h.1]; exact e), List.getElem?_append_left e]
    have := h.2 i e
    rw [List.getD_eq_getElem?_getD, List.getD_eq_getElem?_getD] at this
    exact this
  · have e2 : i = bs.length := by omega
    subst e2
    rw [List.getElem?_append_right (by rw [h.1]; omega), List.getElem?_append_right (by omega), h.1, Nat.sub_self]
    exact ⟨h0, h1⟩
theorem draw_ok (c : Int) (bs : List Int) (hb : ∀ b ∈ bs, 0 < b ∧ b < 1073741824) (hl : bs.length ≤ 1000000) : ∃ ds, m_law_draw c bs = some ds ∧ Drawn bs ds := by
  unfold m_law_draw
  simp only [bnd]
  have lx : ∀ {pre post : List Int} {b : Int} {xs : List Int}, bs = pre ++ b :: post → Drawn pre xs → xs.length ≤ 1000000 := fun {pre post b xs} e h => by
    rw [h.1]
    have := congrArg List.length e
    rw [List.length_append] at this
    omega
  have mb : ∀ {pre post : List Int} {b : Int}, bs = pre ++ b :: post → 0 < b ∧ b < 1073741824 := fun {pre post b} e => hb b (by rw [e]; simp)
  split
  · refine exb (foldO_inv (fun pre st => Drawn pre st.1) ⟨rfl, fun i hi => absurd hi (Nat.not_lt_zero i)⟩ fun pre b post st e h => ?_) fun st h => ⟨_, rfl, h⟩
    obtain ⟨b0, b1⟩ := mb e
    exact ⟨_, by rw [modO_of b0, bind_some', appO_of (lx e h), bind_some', divO_of b0 b1]; rfl, h.snoc (Int.emod_nonneg _ (by omega)) (Int.emod_lt_of_pos _ b0)⟩
  · refine exb (foldO_inv (fun pre st => Drawn pre st.1) ⟨rfl, fun i hi => absurd hi (Nat.not_lt_zero i)⟩ fun pre b post st e h => ?_) fun st h => ⟨_, rfl, h⟩
    obtain ⟨b0, b1⟩ := mb e
    exact ⟨_, by rw [modO_of b0, bind_some', appO_of (lx e h)]; rfl, h.snoc (Int.emod_nonneg _ (by omega)) (Int.emod_lt_of_pos _ b0)⟩
theorem Drawn.at {bs ds : List Int} (h : Drawn bs ds) (i : Nat) (hi : i < bs.length) : ixO ds (i : Int) = some (ds.getD i 0) := by
  have := ixO_getD (xs := ds) (i := (i : Int)) (by omega) (by rw [h.1]; omega)
  rw [Int.toNat_natCast] at this
  exact this
theorem Drawn.lit {bs ds : List Int} (h : Drawn bs ds) (k : Int) (i : Nat) (hi : i < bs.length := by decide) (e : k = (i : Int) := by rfl) : ixO ds k = some (ds.getD i 0) := e ▸ h.at i hi
theorem Drawn.rep {n : Nat} {b : Int} {ds : List Int} (h : Drawn (List.replicate n b) ds) : ds.length = n ∧ ∀ d ∈ ds, 0 ≤ d ∧ d < b := by
  refine ⟨by rw [h.1, List.length_replicate], fun d hd => ?_⟩
  obtain ⟨i, hi⟩ := List.mem_iff_getElem?.mp hd
  have hl : i < ds.length := (List.getElem?_eq_some_iff.mp hi).1
  rw [h.1, List.length_replicate] at hl
  have := h.2 i (by rw [List.length_replicate]; exact hl)
  rw [List.getD_eq_getElem?_getD, hi, List.getD_eq_getElem?_getD, List.getElem?_replicate, if_pos hl] at this
  exact this
theorem cell_ok (ns : List Int) (k : Nat) : ∃ c, m_law_cell ns (k : Int) = some c := by
  unfold m_law_cell
  split
  · rename_i h
    have h := of_decide_eq_true h
    exact ⟨_, ixO_getD (by omega) h⟩
  · split
    · rename_i h
      have h := of_decide_eq_true h
      rw [modO_of h, bind_some']
      have h2 : (k : Int) % (ns.length : Int) < ns.length := Int.emod_lt_of_pos _ h
      have h3 := Int.emod_nonneg (k : Int) (b := (ns.length : Int)) (by omega)
      rw [ixO_getD h3 h2]
      exact ⟨_, rfl⟩
    · exact ⟨_, rfl⟩
end Y

namespace Y
open PySem L2
/-! ## kinds -/
def Bin (w : Nat) (v : List Int) : Prop := v.length = w ∧ ∀ x ∈ v, x = 0 ∨ x = 1
def binB (s : List Int) (n : Int) : Bool := decide ((s.length : Int) = n) && s.all fun x => decide (x = 0) || decide (x = 1)
theorem binB_iff {s : List Int} {n : Nat} : binB s n = true ↔ Bin n s := by
  unfold binB Bin
  simp only [Bool.and_eq_true, decide_eq_true_eq, List.all_eq_true, Bool.or_eq_true]
  exact ⟨fun h => ⟨by omega, h.2⟩, fun h => ⟨by omega, h.2⟩⟩
theorem is_binary_ok {s : List Int} (n : Int) (hs : s.length ≤ 1000000) : m_is_binary s n = some (binB s n) := by
  unfold m_is_binary binB
  by_cases h : (s.length : Int) = n
  · rw [if_pos (decide_eq_true h), mapO_some (fun x => decide (x = 0) || decide (x = 1)) hs fun _ _ => rfl, bind_some', decide_eq_true h, Bool.true_and, List.all_map]
    rfl
  · rw [if_neg (by simpa using h), decide_eq_false h, Bool.false_and]
/-- one value exchanged -/
def flipI (s : List Int) (i : Nat) : List Int := s.set i (1 - s.getD i 0)
theorem flipI_len {s : List Int} {i : Nat} : (flipI s i).length = s.length := by unfold flipI; rw [List.length_set]
theorem flip_step {s : List Int} {i : Nat} (h : i < s.length) : ((ixO s (i : Int)).bind fun x => setO s (i : Int) (1 - x)) = some (flipI s i) := by
  have h1 := ixO_getD (xs := s) (i := (i : Int)) (by omega) (by omega)
  rw [Int.toNat_natCast] at h1
  rw [h1, bind_some', setO_nat h]
  rfl
theorem flipped_ok : ∀ (ps : List Nat) (s : List Int), (∀ p ∈ ps, p < s.length) → m_flipped s (ps.map fun p : Nat => (p : Int)) = some (ps.foldl flipI s) := by
  intro ps s h
  have := (foldO_some (step := fun (st : List Int) (b : Int) => (ixO st b).bind fun x => setO st b (1 - x)) (fun st b => flipI st b.toNat) (fun st => st.length = s.length) (xs := ps.map fun p : Nat => (p : Int)) (a := s) rfl fun b hb st hst => by
    obtain ⟨p, hp, rfl⟩ := List.mem_map.mp hb
    rw [Int.toNat_natCast]
    exact ⟨flip_step (by rw [hst]; exact h p hp), by rw [flipI_len]; exact hst⟩).1
  unfold m_flipped
  rw [this, bind_some', List.foldl_map]
  congr 2
theorem flipped_one {s : List Int} {i : Nat} (h : i < s.length) : m_flipped s [(i : Int)] = some (flipI s i) := flipped_ok [i] s fun p hp => by
  rw [List.mem_singleton] at hp
  rw [hp]
  exact h
theorem flipI_at {s : List Int} {i j : Nat} (h : i < s.length) : (flipI s i).getD j 0 = if j = i then 1 - s.getD i 0 else s.getD j 0 := by
  unfold flipI
  rw [List.getD_eq_getElem?_getD, List.getElem?_set]
  by_cases e : i = j
  · subst e
    rw [if_pos rfl, if_pos h, if_pos rfl]
    rfl
  · rw [if_neg e, if_neg (Ne.symm e), List.getD_eq_getElem?_getD]
theorem flipI_flipI {s : List Int} {i : Nat} (h : i < s.length) : flipI (flipI s i) i = s := by
  have e : (flipI s i).getD i 0 = 1 - s.getD i 0 := by rw [flipI_at h, if_pos rfl]
  unfold flipI at e ⊢
  rw [e, List.set_set]
  have : 1 - (1 - s.getD i 0) = s[i] := by
    rw [List.getD_eq_getElem?_getD, List.getElem?_eq_getElem h]
    simp only [Option.getD_some]
    omega
  rw [this, List.set_getElem_self]
theorem Bin.flip {w : Nat} {s : List Int} {i : Nat} (h : Bin w s) : Bin w (flipI s i) := by
  refine ⟨by rw [flipI_len]; exact h.1, fun x hx => ?_⟩
  unfold flipI at hx
  rcases List.mem_or_eq_of_mem_set hx with hx | rfl
  · exact h.2 x hx
  · have : s.getD i 0 = 0 ∨ s.getD i 0 = 1 := by
      rw [List.getD_eq_getElem?_getD]
      cases q : s[i]? with
      | none => exact .inl rfl
      | some y => exact h.2 y (List.mem_of_getElem? q)
    omega
/-- chains of neighbours within S -/
inductive Conn (S : List (List Int)) (v : List Int) : List Int → Prop where
  | refl : Conn S v v
  | step {a : List Int} {i : Nat} : Conn S v a → i < a.length → flipI a i ∈ S → Conn S v (flipI a i)
section
variable {S : List (List Int)} {v u z : List Int}
theorem Conn.mem (h : Conn S v u) (hv : v ∈ S) : u ∈ S := by cases h with
  | refl => exact hv
  | step _ _ h => exact h
theorem Conn.trans (h : Conn S v u) (g : Conn S u z) : Conn S v z := by
  induction g with
  | refl => exact h
  | step _ hi hs ih => exact .step ih hi hs
theorem Conn.symm (h : Conn S v u) (hv : v ∈ S) : Conn S u v := by
  induction h with
  | refl => exact .refl
  | step g hi hs ih =>
    rename_i a i
    have e := flipI_flipI hi
    have one : Conn S (flipI a i) a := by
      have := Conn.step (S := S) (v := flipI a i) (i := i) .refl (by rw [flipI_len]; exact hi) (by rw [e]; exact g.mem hv)
      rwa [e] at this
    exact one.trans ih
theorem Conn.sub {S' : List (List Int)} (h : Conn S v u) (hs : ∀ x ∈ S, x ∈ S') : Conn S' v u := by
  induction h with
  | refl => exact .refl
  | step _ hi h ih => exact .step ih hi (hs _ h)
end
/-- the ascending list of a piece -/
structure Piece (S : List (List Int)) (v : List Int) (P : List (List Int)) : Prop where
  mem : ∀ u, u ∈ P ↔ Conn S v u
  nd : P.Nodup
  srt : P.Pairwise fun a b => lexLe a b = true
theorem Piece.uniq {S : List (List Int)} {v u : List Int} {P P' : List (List Int)} (h : Piece S v P) (h' : Piece S u P') (c : Conn S v u) (hv : v ∈ S) : P = P' := by
  have p : P.Perm P' := (List.perm_ext_iff_of_nodup h.nd h'.nd).mpr fun z => by
    rw [h.mem, h'.mem]
    exact ⟨fun g => (c.symm hv).trans g, fun g => c.trans g⟩
  have e1 := sortL_uniq (List.Perm.refl P) h.srt
  have e2 := sortL_uniq (p.symm) h'.srt
  rw [e1, ← e2]
theorem sortBy_id (L : List (List Int)) : sortBy (fun x => x) L = sortL L := rfl
theorem sortO_bin {L : List (List Int)} {w : Nat} (hw : 1 ≤ w) (h : ∀ v ∈ L, Bin w v) : sortO (fun x => x) L = some (sortL L) := by
  unfold sortO
  rw [if_pos, sortBy_id]
  unfold sortG
  cases L with
  | nil => rfl
  | cons x xs =>
    have hx := h x List.mem_cons_self
    simp only [Bool.and_eq_true, decide_eq_true_eq, List.all_eq_true]
    refine ⟨by rw [hx.1]; exact hw, fun y hy => ⟨by rw [(h y hy).1, hx.1], fun n hn => ?_⟩⟩
    rcases (h y hy).2 n hn with e | e <;> omega
theorem sortL_nd {L : List (List Int)} (h : L.Nodup) : (sortL L).Nodup := (sortL_perm L).symm.nodup h
theorem mem_sortL {L : List (List Int)} {x : List Int} : x ∈ sortL L ↔ x ∈ L := (sortL_perm L).mem_iff
theorem nd_len {L M : List (List Int)} (h : L.Nodup) (hs : ∀ x ∈ L, x ∈ M) : L.length ≤ M.length := mem_len L M h hs
/-- piece_around -/
theorem piece_ok {S : List (List Int)} {w : Nat} {v : List Int} (hw : 1 ≤ w) (hw2 : w ≤ 1000) (hS : ∀ x ∈ S, Bin w x) (hl : S.length ≤ 900000) (hv : v ∈ S) : ∃ P, m_piece_around v S = some P ∧ Piece S v P := by
  unfold m_piece_around
  simp only [bnd]
  have bv := hS v hv
  let Inv : List (List Int) × Int → Prop := fun st => ∃ k : Nat, st.2 = (k : Int) ∧ k ≤ st.1.length ∧ st.1.Nodup ∧ v ∈ st.1 ∧ (∀ u ∈ st.1, Conn S v u) ∧ ∀ (j : Nat) a, j < k → st.1[j]? = some a → ∀ i, i < w → flipI a i ∈ S → flipI a i ∈ st.1
  have key : ∀ st, Inv st → ∃ q, (some (decide (st.2 < (st.1.length : Int))) : Option Bool) = some q ∧ (q = true → ∃ st', ((rngO (v.length : Int)).bind fun rg => (foldO (fun (r : List (List Int)) (b : Int) => (ixO r st.2).bind fun i => (m_flipped i [b]).bind fun f => if ((memB f S) && (!memB f r)) = true then appO r f else some r) st.1 rg).bind fun r => some (r, st.2 + 1)) = some st' ∧ Inv st' ∧ S.length - st'.2.toNat < S.length - st.2.toNat) := by
    rintro ⟨rd, at'⟩ ⟨k, e1, hk, nd, mv, cn, cl⟩
    simp only at e1
    subst e1
    refine ⟨_, rfl, fun hq => ?_⟩
    have hq := of_decide_eq_true hq
    have hk' : k < rd.length := by simp only at hq; omega
    have inS : ∀ u, Conn S v u → u ∈ S := fun u c => c.mem hv
    obtain ⟨cur, hcur⟩ : ∃ c, rd[k]? = some c := ⟨_, List.getElem?_eq_getElem hk'⟩
    have ccur := cn cur (List.mem_of_getElem? hcur)
    have bcur := hS cur (inS cur ccur)
    rw [bv.1, rngO_nat (by omega), bind_some', irange_nat]
    have lS : ∀ r : List (List Int), r.Nodup → (∀ u ∈ r, Conn S v u) → r.length ≤ 900000 := fun r nr cr => Nat.le_trans (nd_len nr fun x hx => inS x (cr x hx)) hl
    have hin := foldO_inv (step := fun (r : List (List Int)) (b : Int) => (ixO r (k : Int)).bind fun i => (m_flipped i [b]).bind fun f => if ((memB f S) && (!memB f r)) = true then appO r f else some r)
      (fun pre r => (∃ ext, r = rd ++ ext) ∧ r.Nodup ∧ (∀ u ∈ r, Conn S v u) ∧ ∀ b ∈ pre, flipI cur b.toNat ∈ S → flipI cur b.toNat ∈ r) (xs := (List.range w).map fun k : Nat => (k : Int)) (a := rd) ⟨⟨[], by simp⟩, nd, cn, fun _ h => nomatch h⟩ fun pre b post r e ⟨⟨ext, er⟩, nr, cr, fr⟩ => by
        have hb : b ∈ (List.range w).map fun k : Nat => (k : Int) := by rw [e]; simp
        obtain ⟨i, hi, rfl⟩ := List.mem_map.mp hb
        rw [List.mem_range] at hi
        have hr : r[k]? = some cur := by rw [er, List.getElem?_append_left hk']; exact hcur
        have hix : ixO r (k : Int) = some cur := ixO_at (by omega) (by rw [Int.toNat_natCast]; exact hr)
        have hfl : m_flipped cur [(i : Int)] = some (flipI cur i) := flipped_one (by rw [bcur.1]; exact hi)
        simp only [hix, hfl, bind_some']
        by_cases c : flipI cur i ∈ S ∧ flipI cur i ∉ r
        · rw [if_pos (by rw [memB_iff.mpr c.1, memB_no.mpr c.2]; rfl), appO_of (by have := lS r nr cr; omega)]
          refine ⟨_, rfl, ⟨ext ++ [flipI cur i], by rw [er, List.append_assoc]⟩, ?_, fun u hu => ?_, fun b' hb' hm => ?_⟩
          · rw [List.nodup_append]
            exact ⟨nr, by simp, fun a ha b hb => by rw [List.mem_singleton] at hb; rw [hb]; exact fun z => c.2 (z ▸ ha)⟩
          · rcases List.mem_append.mp hu with hu | hu
            · exact cr u hu
            · rw [List.mem_singleton] at hu
              rw [hu]
              exact .step ccur (by rw [bcur.1]; exact hi) c.1
          · rcases List.mem_append.mp hb' with hb' | hb'
            · exact List.mem_append_left _ (fr b' hb' hm)
            · rw [List.mem_singleton] at hb'
              rw [hb', Int.toNat_natCast]
              simp
        · rw [if_neg (fun z => c (by
            simp only [Bool.and_eq_true, Bool.not_eq_true', memB_iff, memB_no] at z
            exact z))]
          refine ⟨_, rfl, ⟨ext, er⟩, nr, cr, fun b' hb' hm => ?_⟩
          rcases List.mem_append.mp hb' with hb' | hb'
          · exact fr b' hb' hm
          · rw [List.mem_singleton] at hb'
            rw [hb', Int.toNat_natCast] at hm ⊢
            exact Decidable.not_not.mp fun z => c ⟨hm, z⟩
    obtain ⟨r, h1, ⟨ext, er⟩, nr, cr, fr⟩ := hin
    refine ⟨(r, (k : Int) + 1), ?_, ⟨k + 1, by simp, ?_, nr, ?_, cr, ?_⟩, ?_⟩
    · rw [h1]
      rfl
    · rw [er, List.length_append]
      omega
    · rw [er]
      exact List.mem_append_left _ mv
    · intro j a hj ha i hi hm
      by_cases ej : j = k
      · subst ej
        have : r[j]? = some cur := by rw [er, List.getElem?_append_left hk']; exact hcur
        simp only at ha
        rw [this] at ha
        cases ha
        have := fr (i : Int) (List.mem_map.mpr ⟨i, List.mem_range.mpr hi, rfl⟩)
        rw [Int.toNat_natCast] at this
        exact this hm
      · have : rd[j]? = some a := by
          simp only at ha
          rw [er, List.getElem?_append_left (by omega)] at ha
          exact ha
        have := cl j a (by omega) this i hi hm
        simp only [er]
        exact List.mem_append_left _ this
    · have h9 := nd_len nd fun x hx => inS x (cn x hx)
      simp only [Int.toNat_natCast]
      have : ((k : Int) + 1).toNat = k + 1 := by omega
      rw [this]
      omega
  obtain ⟨st, h1, ⟨k, e1, hk, nd, mv, cn, cl⟩, h3⟩ := whileO_inv Inv (fun st => S.length - st.2.toNat) key 1000000 ([v], 0) ⟨0, rfl, by simp, by simp, by simp, fun u hu => by rw [List.mem_singleton] at hu; rw [hu]; exact .refl, fun j a hj => by omega⟩ (by simp; omega)
  rw [h1, bind_some']
  have fin := Option.some.inj h3
  have fin := of_decide_eq_false fin
  have hk2 : k = st.1.length := by omega
  have bin : ∀ u ∈ st.1, Bin w u := fun u hu => hS u ((cn u hu).mem hv)
  rw [sortO_bin hw bin]
  refine ⟨_, rfl, fun u => ?_, sortL_nd nd, sortL_pair _⟩
  rw [mem_sortL]
  constructor
  · exact cn u
  · intro c
    induction c with
    | refl => exact mv
    | step g hi hs ih =>
      rename_i a i
      obtain ⟨j, hj⟩ := List.mem_iff_getElem?.mp ih
      have hjl := (List.getElem?_eq_some_iff.mp hj).1
      exact cl j a (by omega) hj i (by have := (bin a ih).1; omega) hs
/-- grouped_by_piece -/
structure Grouped (S : List (List Int)) (m : List (List Int × List (List Int))) : Prop where
  has : ∀ u, dhas m u = true ↔ u ∈ S
  get : ∀ u P, dget m u = some P → Piece S u P
theorem grouped_ok {S : List (List Int)} {w : Nat} (hw : 1 ≤ w) (hw2 : w ≤ 1000) (hS : ∀ x ∈ S, Bin w x) (hl : S.length ≤ 900000) : ∃ m, m_grouped_by_piece S = some m ∧ Grouped S m := by
  unfold m_grouped_by_piece
  simp only [bnd]
  let Inv : List (List Int) → List (List Int × List (List Int)) → Prop := fun pre m => (dkeys m).Nodup ∧ (∀ u, dhas m u = true → u ∈ S) ∧ (∀ u P, dget m u = some P → Piece S u P) ∧ ∀ u ∈ pre, dhas m u = true
  have kl : ∀ m : List (List Int × List (List Int)), (dkeys m).Nodup → (∀ u, dhas m u = true → u ∈ S) → m.length ≤ 900000 := fun m nd h => by
    rw [← dkeys_len]
    exact Nat.le_trans (nd_len nd fun x hx => h x (dhas_iff.mpr hx)) hl
  refine exb (P := fun m => Inv S m) (foldO_inv Inv ⟨by simp [dkeys], (fun u h => by simp [dhas] at h), (fun u P h => by cases h), (fun _ h => nomatch h)⟩ fun pre b post m e ⟨nd, i1, i2, i3⟩ => ?_) fun m ⟨nd, i1, i2, i3⟩ => ⟨m, rfl, fun u => ⟨i1 u, i3 u⟩, i2⟩
  have hb : b ∈ S := by rw [e]; simp
  cases hh : dhas m b with
  | true => exact ⟨m, rfl, nd, i1, i2, fun u hu => by
      rcases List.mem_append.mp hu with hu | hu
      · exact i3 u hu
      · rw [List.mem_singleton] at hu
        rw [hu]
        exact hh⟩
  | false =>
    obtain ⟨P, p1, p2⟩ := piece_ok hw hw2 hS hl hb
    rw [if_pos (show (!false) = true from rfl), p1, bind_some']
    refine exb (P := fun m' => Inv pre m' ∧ ∀ u ∈ P, dhas m' u = true) (foldO_inv (fun pr m' => Inv pre m' ∧ ∀ u ∈ pr, dhas m' u = true) ⟨⟨nd, i1, i2, i3⟩, fun _ h => nomatch h⟩ fun pr c po m' e' ⟨⟨nd', j1, j2, j3⟩, j4⟩ => ?_) fun m' ⟨⟨nd', j1, j2, j3⟩, j4⟩ => ⟨m', rfl, nd', j1, j2, fun u hu => ?_⟩
    · have hc : c ∈ P := by rw [e']; simp
      have cc := (p2.mem c).mp hc
      rw [dputO_of (by have := kl m' nd' j1; omega)]
      have keys : ∀ u, dhas (dput m' c P) u = true ↔ dhas m' u = true ∨ u = c := fun u => by
        rw [dhas_iff, dhas_iff, dput_keys]
        split
        · rename_i h
          exact ⟨.inl, fun z => z.elim id fun z => z ▸ h⟩
        · rw [List.mem_append, List.mem_singleton]
      refine ⟨_, rfl, ⟨?_, fun u hu => ?_, fun u Q hQ => ?_, fun u hu => (keys u).mpr (.inl (j3 u hu))⟩, fun u hu => ?_⟩
      · rw [dput_keys]
        split
        · exact nd'
        · rename_i h
          rw [List.nodup_append]
          exact ⟨nd', by simp, fun a ha b hb => by rw [List.mem_singleton] at hb; rw [hb]; exact fun z => h (z ▸ ha)⟩
      · rcases (keys u).mp hu with h | rfl
        · exact j1 u h
        · exact cc.mem hb
      · rw [dget_dput] at hQ
        split at hQ
        · rename_i e3
          cases hQ
          rw [e3]
          exact ⟨fun z => by rw [p2.mem]; exact ⟨fun g => (cc.symm hb).trans g, fun g => cc.trans g⟩, p2.nd, p2.srt⟩
        · exact j2 u Q hQ
      · rcases List.mem_append.mp hu with hu | hu
        · exact (keys u).mpr (.inl (j4 u hu))
        · rw [List.mem_singleton] at hu
          exact (keys u).mpr (.inr hu)
    · rcases List.mem_append.mp hu with hu | hu
      · exact j3 u hu
      · rw [List.mem_singleton] at hu
        rw [hu]
        exact j4 b ((p2.mem b).mpr .refl)
theorem check_width_ok {w : Nat} (h1 : 1 ≤ w) (h2 : w ≤ 4) : m_check_width (w : Int) = some (.ret ()) := by
  unfold m_check_width
  rw [if_neg (by simp; omega)]
/-- a kind with its table -/
structure KindOk (k : C_Kind) (nm : Str) (w : Nat) (S : List (List Int)) : Prop where
  nm : k.f_name = nm
  wd : k.f_width = (w : Int)
  tup : k.f_tuples = sortL S
  grp : Grouped k.f_tuples k.f_grouped
  bin : ∀ x ∈ S, Bin w x
  nd : S.Nodup
theorem KindOk.has {k : C_Kind} {nm : Str} {w : Nat} {S : List (List Int)} (h : KindOk k nm w S) (u : List Int) : dhas k.f_grouped u = decide (u ∈ S) := by
  have := h.grp.has u
  rw [h.tup, mem_sortL] at this
  by_cases m : u ∈ S
  · rw [this.mpr m, decide_eq_true m]
  · rw [decide_eq_false m]
    cases q : dhas k.f_grouped u with
    | true => exact absurd (this.mp q) m
    | false => rfl
theorem kind_ok {nm : Str} {w : Nat} {S : List (List Int)} (hn : m_is_name nm = some true) (h1 : 1 ≤ w) (h2 : w ≤ 4) (hS : ∀ x ∈ S, Bin w x) (nd : S.Nodup) (hl : S.length ≤ 900000) : ∃ k, m_Kind_init nm (w : Int) S = some (.ret k) ∧ KindOk k nm w S := by
  unfold m_Kind_init
  simp only [bnd]
  rw [hn, bind_some', if_neg (by decide), check_width_ok h1 h2]
  show ∃ k, thenI _ _ = _ ∧ _
  obtain ⟨m, q1, q2⟩ := runF_inv (ε := Exc) (ρ := Empty) (step := fun (st : List (List Int × Int)) (b : Int × List Int) => (m_is_binary b.2 (w : Int)).bind fun q => if ((!q) || (dhas st b.2)) = true then (some (.exc (Exc.BadKind b.1))) else ((dputO st b.2 b.1).bind fun k => some (.nx k)))
    (fun pre st => dkeys st = pre.map (·.2)) (xs := enumI S) (a := []) rfl fun pre b post st e h => by
      have hb : b ∈ enumI S := by rw [e]; simp
      obtain ⟨i, _, hi⟩ := mem_enumI hb
      have hm : b.2 ∈ S := List.mem_of_getElem? hi
      have bb := hS b.2 hm
      have fresh : b.2 ∉ dkeys st := by
        rw [h]
        have := congrArg (List.map (·.2)) e
        rw [enumI_snd, List.map_append, List.map_cons] at this
        rw [this, List.nodup_append] at nd
        exact fun z => nd.2.2 _ z _ List.mem_cons_self rfl
      have hd : dhas st b.2 = false := by
        cases q : dhas st b.2 with
        | true => exact absurd (dhas_iff.mp q) fresh
        | false => rfl
      have hlen : st.length ≤ 1000000 := by
        rw [← dkeys_len, h, List.length_map]
        have := congrArg List.length e
        rw [enumI_len, List.length_append] at this
        omega
      refine ⟨_, by rw [is_binary_ok _ (by rw [bb.1]; omega), bind_some', binB_iff.mpr bb, hd, if_neg (by decide), dputO_of hlen]; rfl, ?_⟩
      rw [dput_keys, if_neg fresh, h, List.map_append]
      rfl
  rw [enumI_snd] at q2
  unfold thenI
  rw [q1, bind_some']
  show ∃ k, (sortO (fun x => x) (dkeys m)).bind _ = _ ∧ _
  rw [q2, sortO_bin h1 hS, bind_some']
  obtain ⟨g, g1, g2⟩ := grouped_ok (S := sortL S) h1 (by omega) (fun x hx => hS x (mem_sortL.mp hx)) (by rw [(sortL_perm S).length_eq]; exact hl)
  rw [g1]
  exact ⟨_, rfl, rfl, rfl, rfl, g2, hS, nd⟩
end Y

namespace Y
open PySem L2
/-! ## rules -/
/-- the letters of a rule -/
structure LetOk (n : Nat) (w : Nat) (ls : List Int) : Prop where
  len : ls.length = w
  nd : ls.Nodup
  rng : ∀ l ∈ ls, 0 ≤ l ∧ l < (n : Int)
theorem are_letters_ok {n w : Nat} {ls : List Int} (h : LetOk n w ls) (hw : w ≤ 4000) : m_are_letters ls (w : Int) (n : Int) = some true := by
  unfold m_are_letters setLenO
  have e : (ls.length : Int) = (w : Int) := by rw [h.len]
  rw [if_neg (by simp [e]), if_pos ⟨h.nd, by rw [h.len]; exact hw⟩, bind_some', e]
  simp only [decide_true, Bool.not_true, bind_some', Bool.false_eq_true, if_false]
  rw [mapO_some (fun l => decide ((0 : Int) ≤ l) && decide (l < (n : Int))) (by rw [h.len]; omega) fun _ _ => rfl, bind_some']
  congr 1
  rw [List.all_eq_true]
  intro b hb
  obtain ⟨l, hl, rfl⟩ := List.mem_map.mp hb
  have := h.rng l hl
  simp [this]
/-- the values of the letters in a setting -/
def atL (s ls : List Int) : List Int := ls.map fun l => s.getD l.toNat 0
theorem atL_ok {s ls : List Int} (hl : ls.length ≤ 1000000) (h : ∀ l ∈ ls, 0 ≤ l ∧ l < (s.length : Int)) : mapO (fun b => ixO s b) ls = some (atL s ls) := mapO_some _ hl fun l hm => ixO_getD (h l hm).1 (h l hm).2
abbrev RuleE := C_Kind × List Int
/-- rules that make a world of n letters -/
structure RulesIn (n : Nat) (rs : List RuleE) : Prop where
  n14 : n ≤ 14
  len : rs.length ≤ 80
  row : ∀ r ∈ rs, ∃ nm w S, KindOk r.1 nm w S ∧ LetOk n w r.2 ∧ w ≤ 4
  same : ∀ r ∈ rs, ∀ q ∈ rs, r.1.f_name = q.1.f_name → r.1.f_width = q.1.f_width ∧ r.1.f_tuples = q.1.f_tuples
def onL (rs : List RuleE) (l : Int) : List Int := ((enumI rs).filter fun p => memB l p.2.2).map (·.1)
def rulesW (n : Nat) (rs : List RuleE) : C_Rules := ⟨(n : Int), rs, (irange (n : Int)).map (onL rs)⟩
theorem rules_ok {n : Nat} {rs : List RuleE} (h : RulesIn n rs) : m_Rules_init (n : Int) rs = some (.ret (rulesW n rs)) := by
  have n14 := h.n14
  have len := h.len
  unfold m_Rules_init
  simp only [bnd]
  rw [if_neg (by simp; omega)]
  obtain ⟨m, q1, _⟩ := runF_inv (ε := Exc) (ρ := Empty) (step := fun (st : List (Str × C_Kind)) (b : Int × RuleE) => (m_are_letters b.2.2 b.2.1.f_width (n : Int)).bind fun a => if (!a) = true then (some (.exc (Exc.BadRule b.1))) else ((dsetdO st b.2.1.f_name b.2.1).bind fun sd =>
      if ((!decide (sd.2.f_width = b.2.1.f_width)) || (!eqB sd.2.f_tuples b.2.1.f_tuples)) = true then (some (.exc (Exc.BadRule b.1))) else (some (.nx sd.1))))
    (fun pre st => st.length ≤ pre.length ∧ ∀ nm k, dget st nm = some k → k.f_name = nm ∧ ∃ r ∈ rs, r.1 = k) (xs := enumI rs) (a := []) ⟨Nat.le_refl _, fun _ _ z => by cases z⟩ fun pre b post st e ⟨hlen, hk⟩ => by
      have hb : b ∈ enumI rs := by rw [e]; simp
      obtain ⟨i, _, hi⟩ := mem_enumI hb
      have hm : b.2 ∈ rs := List.mem_of_getElem? hi
      obtain ⟨nm, w, S, kd, lt, w4⟩ := h.row b.2 hm
      have hle : pre.length ≤ 80 := by
        have := congrArg List.length e
        rw [enumI_len, List.length_append] at this
        omega
      have hset : dsetdO st b.2.1.f_name b.2.1 = some (dsetd st b.2.1.f_name b.2.1) := if_pos (by omega)
      rw [kd.wd, are_letters_ok lt (by omega), bind_some', if_neg (by decide), hset, bind_some']
      unfold dsetd
      cases hg : dget st b.2.1.f_name with
      | some k =>
        obtain ⟨e1, r, hr, rfl⟩ := hk _ _ hg
        obtain ⟨s1, s2⟩ := h.same r hr b.2 hm e1
        simp only
        rw [if_neg (by rw [eqB_iff.mpr s2, ← kd.wd, decide_eq_true s1]; decide)]
        exact ⟨st, rfl, by rw [List.length_append]; omega, hk⟩
      | none =>
        simp only
        rw [if_neg (by rw [eqB_self, ← kd.wd, decide_eq_true rfl]; decide)]
        refine ⟨_, rfl, by rw [List.length_append, List.length_append]; simp; exact hlen, fun nm' k' hk' => ?_⟩
        rw [dget_app] at hk'
        cases hg2 : dget st nm' with
        | some k2 =>
          rw [hg2] at hk'
          cases hk'
          exact hk _ _ hg2
        | none =>
          rw [hg2] at hk'
          unfold dget at hk'
          simp only at hk'
          split at hk'
          · rename_i e4
            cases hk'
            exact ⟨e4, b.2, hm, rfl⟩
          · cases hk'
  unfold thenI
  rw [q1, bind_some']
  show ((m_World_init (n : Int)).bind _) = _
  unfold m_World_init
  rw [bind_some', mapO_some (fun b : RuleE => (b.1, b.2)) (by omega) fun _ _ => rfl, bind_some', rngO_nat (by omega), bind_some', mapO_some (onL rs) (by rw [irange_len]; omega) fun l _ => ?_, bind_some']
  · have : rs.map (fun b : RuleE => (b.1, b.2)) = rs := by simp
    rw [this]
    rfl
  · exact fmapO_some (xs := enumI rs) (fun p : Int × RuleE => memB l p.2.2) (fun p : Int × RuleE => p.1) (by rw [enumI_len]; omega) fun p _ => by cases memB l p.2.2 <;> rfl
/-! ### answers -/
def keepR (s : List Int) (r : RuleE) : Bool := dhas r.1.f_grouped (atL s r.2)
def okR (n : Nat) (rs : List RuleE) (s : List Int) : Bool := binB s (n : Int) && rs.all (keepR s)
theorem at_rule_ok {n : Nat} {rs : List RuleE} (h : RulesIn n rs) {s : List Int} (hs : s.length = n) {i : Nat} {r : RuleE} (hi : rs[i]? = some r) : m_Rules_at_rule (rulesW n rs) (i : Int) s = some (atL s r.2) := by
  unfold m_Rules_at_rule
  rw [ixO_at (x := r) (by omega) (by rw [Int.toNat_natCast]; exact hi), bind_some']
  obtain ⟨_, w, _, _, lt, w4⟩ := h.row r (List.mem_of_getElem? hi)
  exact atL_ok (by rw [lt.len]; omega) fun l hl => by rw [hs]; exact lt.rng l hl
def firstBad (s : List Int) (p : Int × RuleE) : Option Int := if keepR s p.2 = true then none else some p.1
theorem broken_ok {n : Nat} {rs : List RuleE} (h : RulesIn n rs) {s : List Int} (hs : s.length = n) : m_Rules_broken (rulesW n rs) s = some (match (enumI rs).findSome? (firstBad s) with | some v => v | none => -1) := by
  unfold m_Rules_broken
  show thenO (runF _ () (enumI rs)) _ = _
  rw [runF_find (firstBad s) fun b hb => ?_]
  · unfold thenO
    rw [bind_some']
    cases (enumI rs).findSome? (firstBad s) <;> rfl
  · obtain ⟨i, e, hi⟩ := mem_enumI hb
    rw [e, at_rule_ok h hs hi, bind_some']
    unfold m_Kind_contains
    rw [bind_some']
    unfold firstBad keepR
    cases dhas b.2.1.f_grouped (atL s b.2.2) with
    | true => rfl
    | false =>
      rw [if_pos (by decide), if_neg (by decide), e]
theorem broken_all {rs : List RuleE} {s : List Int} : decide ((match (enumI rs).findSome? (firstBad s) with | some v => v | none => (-1 : Int)) = -1) = rs.all (keepR s) := by
  cases q : (enumI rs).findSome? (firstBad s) with
  | none =>
    symm
    simp only [decide_true]
    rw [List.all_eq_true]
    intro r hr
    obtain ⟨i, hi⟩ := List.mem_iff_getElem?.mp hr
    have hm : ((i : Int), r) ∈ enumI rs := List.mem_of_getElem? (by rw [enumI_get, hi]; rfl)
    have := List.findSome?_eq_none_iff.mp q _ hm
    unfold firstBad at this
    split at this
    · assumption
    · cases this
  | some v =>
    obtain ⟨l1, p, l2, e, hp, _⟩ := List.findSome?_eq_some_iff.mp q
    have hm : p ∈ enumI rs := by rw [e]; simp
    obtain ⟨i, e1, hi⟩ := mem_enumI hm
    unfold firstBad at hp
    split at hp
    · cases hp
    · rename_i hk
      cases hp
      have h1 : decide (p.1 = (-1 : Int)) = false := decide_eq_false (by omega)
      rw [h1]
      symm
      rw [← Bool.not_eq_true, List.all_eq_true]
      exact fun z => hk (z p.2 (List.mem_of_getElem? hi))
theorem is_answer_ok {n : Nat} {rs : List RuleE} (h : RulesIn n rs) {s : List Int} (hs : s.length ≤ 1000000) : m_Rules_is_answer (rulesW n rs) s = some (okR n rs s) := by
  unfold m_Rules_is_answer
  show ((m_is_binary s (n : Int)).bind _) = _
  rw [is_binary_ok _ hs, bind_some']
  unfold okR
  cases hb : binB s (n : Int) with
  | false => rfl
  | true =>
    rw [if_pos rfl, broken_ok h (binB_iff.mp hb).1, bind_some', broken_all]
    rfl
theorem check_answer_ok {n : Nat} {rs : List RuleE} (h : RulesIn n rs) {s : List Int} (hs : s.length ≤ 1000000) : m_check_answer (rulesW n rs) s = some (if okR n rs s = true then .ret () else .exc (Exc.NotAnAnswer s)) := by
  unfold m_check_answer
  rw [is_answer_ok h hs, bind_some']
  cases okR n rs s <;> rfl
end Y

namespace Y
open PySem L2
/-! ## all tuples of zeros and ones -/
def allT : Nat → List (List Int)
  | 0 => [[]]
  | n + 1 => (allT n).map (· ++ [0]) ++ (allT n).map (· ++ [1])
theorem allT_len : ∀ n, (allT n).length = 2 ^ n
  | 0 => rfl
  | n + 1 => by
    unfold allT
    rw [List.length_append, List.length_map, List.length_map, allT_len n, Nat.pow_succ]
    omega
theorem Bin.snoc {n : Nat} {v : List Int} {x : Int} (h : Bin n v) (hx : x = 0 ∨ x = 1) : Bin (n + 1) (v ++ [x]) := ⟨by rw [List.length_append, h.1]; rfl, fun y hy => by
  rcases List.mem_append.mp hy with hy | hy
  · exact h.2 y hy
  · rw [List.mem_singleton] at hy
    rw [hy]
    exact hx⟩
theorem Bin.unsnoc {n : Nat} {v : List Int} (h : Bin (n + 1) v) : ∃ u x, v = u ++ [x] ∧ Bin n u ∧ (x = 0 ∨ x = 1) := by
  have hne : v ≠ [] := fun z => by have := h.1; rw [z] at this; cases this
  have e := List.dropLast_concat_getLast hne
  refine ⟨v.dropLast, v.getLast hne, e.symm, ⟨by rw [List.length_dropLast, h.1]; rfl, fun x hx => h.2 x ((List.dropLast_sublist v).subset hx)⟩, h.2 _ (List.getLast_mem hne)⟩
theorem mem_allT : ∀ {n : Nat} {v : List Int}, v ∈ allT n ↔ Bin n v
  | 0, v => by
    unfold allT
    rw [List.mem_singleton]
    constructor
    · rintro rfl
      exact ⟨rfl, fun _ h => nomatch h⟩
    · intro h
      exact List.length_eq_zero_iff.mp h.1
  | n + 1, v => by
    unfold allT
    rw [List.mem_append, List.mem_map, List.mem_map]
    constructor
    · rintro (⟨u, hu, rfl⟩ | ⟨u, hu, rfl⟩)
      · exact (mem_allT.mp hu).snoc (.inl rfl)
      · exact (mem_allT.mp hu).snoc (.inr rfl)
    · intro h
      obtain ⟨u, x, rfl, hu, rfl | rfl⟩ := h.unsnoc
      · exact .inl ⟨u, mem_allT.mpr hu, rfl⟩
      · exact .inr ⟨u, mem_allT.mpr hu, rfl⟩
theorem snoc_inj {x : Int} : ∀ a b : List Int, a ++ [x] = b ++ [x] → a = b := fun a b h => List.append_cancel_right h
theorem nd_map {α β : Type} {f : α → β} (hf : ∀ a b, f a = f b → a = b) {xs : List α} (h : xs.Nodup) : (xs.map f).Nodup := List.Pairwise.map f (fun a b hab e => hab (hf a b e)) h
theorem allT_nd : ∀ n, (allT n).Nodup
  | 0 => by unfold allT; simp
  | n + 1 => by
    unfold allT
    rw [List.nodup_append]
    refine ⟨nd_map (fun a b => snoc_inj a b) (allT_nd n), nd_map (fun a b => snoc_inj a b) (allT_nd n), fun a ha b hb e => ?_⟩
    obtain ⟨u, _, rfl⟩ := List.mem_map.mp ha
    obtain ⟨w, _, rfl⟩ := List.mem_map.mp hb
    have := congrArg List.getLast? e
    simp at this
theorem pow20 {n : Nat} (h : n ≤ 19) : 2 ^ n ≤ 524288 := Nat.pow_le_pow_right (by decide) h
theorem law_tuples_ok {n : Nat} (hn : n ≤ 19) : m_law_tuples (n : Int) = some (allT n) := by
  unfold m_law_tuples
  simp only [bnd]
  rw [rngO_nat (by omega), bind_some']
  obtain ⟨st, h1, k, h2, rfl⟩ := foldO_inv (step := fun (st : List (List Int)) (b : Int) => (mapO (fun (r : List Int) => catO r [0]) st).bind fun a => (mapO (fun (r : List Int) => catO r [1]) st).bind fun c => catO a c)
    (fun pre st => ∃ k, k = pre.length ∧ st = allT k) (xs := irange (n : Int)) (a := [[]]) ⟨0, rfl, rfl⟩ fun pre b post st e ⟨k, h, he⟩ => by
      have hk : k + 1 ≤ n := by
        have := congrArg List.length e
        rw [irange_len, List.length_append, List.length_cons, Int.toNat_natCast] at this
        omega
      subst he
      have hl := allT_len k
      have p1 := pow20 (show k ≤ 19 by omega)
      have p2 := pow20 (show k + 1 ≤ 19 by omega)
      have hc : ∀ x : Int, ∀ r ∈ allT k, catO r [x] = some (r ++ [x]) := fun x r hr => catO_of (by rw [(mem_allT.mp hr).1]; simp; omega)
      rw [mapO_some (· ++ [0]) (by omega) (hc 0), bind_some', mapO_some (· ++ [1]) (by omega) (hc 1), bind_some', catO_of (by
        rw [List.length_map, List.length_map]
        rw [Nat.pow_succ] at p2
        omega)]
      exact ⟨_, rfl, k + 1, by rw [List.length_append, h]; rfl, rfl⟩
  rw [h1, h2, irange_len, Int.toNat_natCast]
  rfl
end Y

namespace Y
open PySem L2
/-! ## all_binary -/
def allB : Nat → List (List Int)
  | 0 => [[]]
  | n + 1 => ((allB n).map fun r => [r ++ [0], r ++ [1]]).flatten
theorem mem_allB : ∀ {n : Nat} {v : List Int}, v ∈ allB n ↔ Bin n v
  | 0, v => mem_allT (n := 0)
  | n + 1, v => by
    unfold allB
    rw [List.mem_flatten]
    constructor
    · rintro ⟨l, hl, hv⟩
      obtain ⟨u, hu, rfl⟩ := List.mem_map.mp hl
      rcases List.mem_cons.mp hv with rfl | hv
      · exact (mem_allB.mp hu).snoc (.inl rfl)
      · rw [List.mem_singleton] at hv
        subst hv
        exact (mem_allB.mp hu).snoc (.inr rfl)
    · intro h
      obtain ⟨u, x, rfl, hu, hx⟩ := h.unsnoc
      refine ⟨_, List.mem_map.mpr ⟨u, mem_allB.mpr hu, rfl⟩, ?_⟩
      rcases hx with rfl | rfl <;> simp
theorem allB_len : ∀ n, (allB n).length = 2 ^ n
  | 0 => rfl
  | n + 1 => by
    have h : ∀ L : List (List Int), ((L.map fun r => [r ++ [(0 : Int)], r ++ [1]]).flatten).length = 2 * L.length := fun L => by
      induction L with
      | nil => rfl
      | cons a L ih => rw [List.map_cons, List.flatten_cons, List.length_append, ih, List.length_cons]; simp; omega
    unfold allB
    rw [h, allB_len n, Nat.pow_succ]
    omega
theorem all_binary_ok {n : Nat} (hn : n ≤ 18) : m_all_binary (n : Int) = some (allB n) := by
  unfold m_all_binary
  simp only [bnd]
  rw [rngO_nat (by omega), bind_some']
  obtain ⟨st, h1, k, h2, rfl⟩ := foldO_inv (step := fun (st : List (List Int)) (b : Int) => flat2 (fun (b : List Int) => some [(0 : Int), 1]) (fun (b : List Int) (c : Int) => (catO b [c]).bind fun x => some (some x)) st)
    (fun pre st => ∃ k, k = pre.length ∧ st = allB k) (xs := irange (n : Int)) (a := [[]]) ⟨0, rfl, rfl⟩ fun pre b post st e ⟨k, h, he⟩ => by
      have hk : k + 1 ≤ n := by
        have := congrArg List.length e
        rw [irange_len, List.length_append, List.length_cons, Int.toNat_natCast] at this
        omega
      subst he
      have p2 := pow20 (show k + 1 ≤ 19 by omega)
      have ex : ((allB k).map fun x => (([(0 : Int), 1]).filter (fun _ => true)).map fun c => x ++ [c]).flatten = allB (k + 1) := rfl
      have hl := allB_len (k + 1)
      rw [flat2_some (fun _ => [0, 1]) (fun _ _ => true) (fun r c => r ++ [c]) (fun _ _ => rfl) (fun x hx y _ => by rw [catO_of (by rw [(mem_allB.mp hx).1]; simp; omega)]; rfl) (by rw [ex]; omega)]
      exact ⟨_, rfl, k + 1, by rw [List.length_append, h]; rfl, rfl⟩
  rw [h1, h2, irange_len, Int.toNat_natCast]
  rfl
end Y

namespace Y
open PySem L2
/-! ## the law's own words -/
theorem picked_ok {digits : List Int} {n : Nat} (hd : digits.length ≤ n) (hn : n ≤ 1000) : ∃ ls, m_law_picked digits (n : Int) = some ls ∧ LetOk n digits.length ls := by
  unfold m_law_picked
  simp only [bnd]
  rw [rngO_nat (by omega), bind_some', mapO_some (fun x => x) (by rw [irange_len]; omega) fun _ _ => rfl, bind_some', List.map_id']
  have pl : (irange (n : Int)).length = n := by rw [irange_len]; omega
  refine exb (foldO_inv (fun pre (st : List Int × List Int) => st.2.length = pre.length ∧ (st.1 ++ st.2).Perm (irange (n : Int))) ⟨rfl, by rw [List.append_nil]⟩ fun pre b post st e ⟨h1, h2⟩ => ?_) fun st ⟨h1, h2⟩ => ⟨_, rfl, h1, ?_, fun l hl => ?_⟩
  · have ll := h2.length_eq
    rw [List.length_append, pl] at ll
    have le := congrArg List.length e
    rw [List.length_append, List.length_cons] at le
    have hp : 0 < st.1.length := by omega
    have m0 := Int.emod_nonneg b (b := (st.1.length : Int)) (by omega)
    have m1 := Int.emod_lt_of_pos b (b := (st.1.length : Int)) (by omega)
    rw [modO_of (by omega), bind_some']
    obtain ⟨k, hk⟩ : ∃ k : Nat, b % (st.1.length : Int) = (k : Int) := ⟨(b % (st.1.length : Int)).toNat, by omega⟩
    rw [hk] at m1 ⊢
    have hk1 : k < st.1.length := by omega
    have ek : ((k : Int) + 1) = ((k + 1 : Nat) : Int) := by omega
    rw [ixO_nat hk1, bind_some', appO_of (by omega), bind_some', ek, cutD_upto, cutD_from, catO_of (by rw [List.length_take, List.length_drop]; omega), bind_some']
    refine ⟨_, rfl, by rw [List.length_append, List.length_append, h1]; rfl, ?_⟩
    refine List.Perm.trans ?_ h2
    show (st.1.take k ++ st.1.drop (k + 1) ++ (st.2 ++ [st.1[k]])).Perm _
    have e1 : st.1 = st.1.take k ++ st.1[k] :: st.1.drop (k + 1) := by
      rw [← List.drop_eq_getElem_cons hk1, List.take_append_drop]
    have p1 : (st.1.take k ++ st.1.drop (k + 1) ++ (st.2 ++ [st.1[k]])).Perm (st.1[k] :: (st.1.take k ++ st.1.drop (k + 1) ++ st.2)) := by
      rw [← List.append_assoc]
      exact List.perm_append_singleton _ _
    refine p1.trans ?_
    have p2 : (st.1[k] :: (st.1.take k ++ st.1.drop (k + 1))).Perm st.1 := by
      refine List.Perm.trans (List.perm_middle.symm) ?_
      rw [← e1]
    exact (p2.append_right st.2)
  · have nd := h2.nodup_iff.mpr (by
      unfold irange
      exact nd_map (fun a b h => by omega) List.nodup_range)
    exact (List.nodup_append.mp nd).2.1
  · exact mem_irange.mp (h2.mem_iff.mp (List.mem_append_right _ hl))
theorem values_ok {s ls : List Int} (hl : ls.length ≤ 1000000) (h : ∀ l ∈ ls, 0 ≤ l ∧ l < (s.length : Int)) : m_law_values s ls = some (atL s ls) ∧ m_law_values_v2 s ls = some (atL s ls) ∧ m_law_values_v3 s ls = some (atL s ls) := by
  refine ⟨?_, ?_, ?_⟩
  · unfold m_law_values; exact atL_ok hl h
  · unfold m_law_values_v2; exact atL_ok hl h
  · unfold m_law_values_v3; exact atL_ok hl h
theorem some_ok {n m : Nat} (c : Int) (hm : m ≤ n) (hn : n ≤ 1000) : ∃ ls, m_law_some c (n : Int) (m : Int) = some ls ∧ LetOk n m ls := by
  unfold m_law_some
  rw [repO_one (by omega), bind_some']
  obtain ⟨ds, d1, d2⟩ := draw_ok c (List.replicate m 360360) (fun b hb => by rw [List.eq_of_mem_replicate hb]; decide) (by simp; omega)
  rw [d1, bind_some']
  have hl := d2.rep.1
  obtain ⟨ls, p1, p2⟩ := picked_ok (digits := ds) (n := n) (by omega) hn
  rw [p1]
  rw [hl] at p2
  exact ⟨_, rfl, p2⟩
theorem atL_bin {n w : Nat} {s ls : List Int} (hs : Bin n s) (h : LetOk n w ls) : Bin w (atL s ls) := by
  refine ⟨by unfold atL; rw [List.length_map, h.len], fun x hx => ?_⟩
  obtain ⟨l, hl, rfl⟩ := List.mem_map.mp hx
  have := h.rng l hl
  rw [List.getD_eq_getElem?_getD, List.getElem?_eq_getElem (by rw [hs.1]; omega)]
  exact hs.2 _ (List.getElem_mem _)
theorem shown_ok {w : Nat} {a b ls letters : List Int} (ha : a.length = w) (hb : b.length = w) (hl : ls.length = w) (hw : w ≤ 1000) : ∃ q, m_law_shown a b ls letters = some q := by
  unfold m_law_shown
  rw [hl, rngO_nat (by omega), bind_some']
  rw [mapO_some (fun k => decide (a.getD k.toNat 0 = b.getD k.toNat 0) || memB (ls.getD k.toNat 0) letters) (by rw [irange_len]; omega) fun k hk => ?_, bind_some']
  · exact ⟨_, rfl⟩
  · obtain ⟨k0, k1⟩ := mem_irange.mp hk
    rw [ixO_getD k0 (by omega), bind_some', ixO_getD k0 (by omega), bind_some', ixO_getD k0 (by omega), bind_some']
    cases decide (a.getD k.toNat 0 = b.getD k.toNat 0) <;> rfl
/-- a rule as the law draws it -/
structure RuleOk (n : Nat) (s : List Int) (r : List Int × List (List Int)) : Prop where
  ex : ∃ w, LetOk n w r.1 ∧ 1 ≤ w ∧ w ≤ 4 ∧ ∀ x ∈ r.2, Bin w x
  nd : r.2.Nodup
  len : r.2.length ≤ 16
  own : atL s r.1 ∈ r.2
theorem rule_ok {n : Nat} {s letters : List Int} (c mode : Int) (hn : 1 ≤ n) (hn2 : n ≤ 14) (hs : Bin n s) : ∃ r, m_law_rule c (n : Int) s letters mode = some r ∧ RuleOk n s r := by
  unfold m_law_rule
  have r4 : repO [(360360 : Int)] 4 = some (List.replicate 4 360360) := repO_one (n := 4) (by decide)
  have r16 : repO [(4 : Int)] 16 = some (List.replicate 16 4) := repO_one (n := 16) (by decide)
  rw [r4, bind_some', catO_of (by decide), bind_some', r16, bind_some', catO_of (by decide), bind_some']
  obtain ⟨ds, d1, d2⟩ := draw_ok c ([4, 16] ++ List.replicate 4 360360 ++ List.replicate 16 4) (by decide) (by decide)
  have dl : ds.length = 22 := d2.1
  have b0 := d2.2 0 (by decide)
  have b1 := d2.2 1 (by decide)
  rw [d1, bind_some', d2.lit 0 0, bind_some']
  generalize ds.getD 0 0 = x0 at b0 ⊢
  have x04 : x0 < 4 := b0.2
  obtain ⟨k, hk, k1, k4, kn⟩ : ∃ k : Nat, min (n : Int) (1 + x0) = (k : Int) ∧ 1 ≤ k ∧ k ≤ 4 ∧ k ≤ n := ⟨(min (n : Int) (1 + x0)).toNat, by omega, by omega, by omega, by omega⟩
  have e2 : (2 : Int) + (k : Int) = ((2 + k : Nat) : Int) := by omega
  rw [hk, e2, show (2 : Int) = ((2 : Nat) : Int) from rfl, cutD_nat]
  have lc : ((ds.take (2 + k)).drop 2).length = k := by rw [List.length_drop, List.length_take]; omega
  obtain ⟨ls, p1, p2⟩ := picked_ok (digits := (ds.take (2 + k)).drop 2) (n := n) (by omega) (by omega)
  rw [lc] at p2
  have lsl := p2.len
  rw [p1, bind_some', (values_ok (by omega) fun l hl => by rw [hs.1]; exact p2.rng l hl).1, bind_some', lsl, law_tuples_ok (by omega), bind_some']
  have tl := allT_len k
  have tl2 : 1 ≤ 2 ^ k ∧ 2 ^ k ≤ 16 := ⟨Nat.one_le_two_pow, Nat.pow_le_pow_right (by decide) k4⟩
  rw [d2.lit 1 1, bind_some', modO_of (by omega), bind_some']
  obtain ⟨miss, hm, _, _⟩ := ixO_lt (xs := allT k) (i := ds.getD 1 0 % ((allT k).length : Int)) (Int.emod_nonneg _ (by omega)) (Int.emod_lt_of_pos _ (by omega))
  have ho := atL_bin hs p2
  obtain ⟨own, hown⟩ : ∃ o, atL s ls = o := ⟨_, rfl⟩
  rw [hown] at ho ⊢
  simp only [hm, bind_some', bnd]
  rw [rngO_nat (by omega), bind_some']
  -- the table
  refine exb (foldO_inv (fun pre (st : List (List Int)) => (∀ x ∈ st, ∃ i ∈ pre, ixO (allT k) i = some x) ∧ st.Nodup ∧ st.length ≤ pre.length ∧ ∀ i ∈ pre, ixO (allT k) i = some own → own ∈ st) ⟨(fun _ h => nomatch h), List.nodup_nil, Nat.le_refl _, (fun _ h => nomatch h)⟩ fun pre b post st e ⟨i1, i2, i3, i4⟩ => ?_) fun st ⟨i1, i2, i3, i4⟩ => ⟨_, rfl, ⟨k, p2, k1, k4, fun x hx => ?_⟩, i2, ?_, ?_⟩
  · have hb : b ∈ irange ((allT k).length : Int) := by rw [e]; simp
    obtain ⟨q0, q1⟩ := mem_irange.mp hb
    obtain ⟨i, rfl⟩ : ∃ i : Nat, b = (i : Int) := ⟨b.toNat, by omega⟩
    have hi : i < (allT k).length := by omega
    have e6 : (6 : Int) + (i : Int) = ((6 + i : Nat) : Int) := by omega
    have bt := mem_allT.mp (List.getElem_mem hi)
    rw [e6, d2.at (6 + i) (by show 6 + i < 22; omega), bind_some']
    have fresh : (i : Int) ∉ pre := by
      have nd : (irange ((allT k).length : Int)).Nodup := by
        unfold irange
        exact nd_map (fun a b h => by omega) List.nodup_range
      rw [e, List.nodup_append] at nd
      exact fun z => nd.2.2 _ z _ List.mem_cons_self rfl
    obtain ⟨q, hq⟩ := shown_ok (letters := letters) bt.1 ho.1 lsl (by omega)
    simp only [ixO_nat hi, bind_some', hq]
    -- whatever the choices are: kept, or not and then not the own one
    have fin : ∀ keep : Bool, ∃ st', ((if keep = true then some true else some (eqB (allT k)[i] own)).bind fun z => if z = true then appO st (allT k)[i] else some st) = some st' ∧ (∀ x ∈ st', ∃ i' ∈ pre ++ [(i : Int)], ixO (allT k) i' = some x) ∧ st'.Nodup ∧ st'.length ≤ (pre ++ [(i : Int)]).length ∧ ∀ i' ∈ pre ++ [(i : Int)], ixO (allT k) i' = some own → own ∈ st' := by
      intro keep
      have yes : ∃ st', appO st (allT k)[i] = some st' ∧ (∀ x ∈ st', ∃ i' ∈ pre ++ [(i : Int)], ixO (allT k) i' = some x) ∧ st'.Nodup ∧ st'.length ≤ (pre ++ [(i : Int)]).length ∧ ∀ i' ∈ pre ++ [(i : Int)], ixO (allT k) i' = some own → own ∈ st' := by
        have lp := congrArg List.length e
        rw [irange_len, List.length_append, Int.toNat_natCast] at lp
        rw [appO_of (by omega)]
        refine ⟨_, rfl, fun x hx => ?_, ?_, by rw [List.length_append, List.length_append]; simp; exact i3, fun i' hi' h' => ?_⟩
        · rcases List.mem_append.mp hx with hx | hx
          · obtain ⟨j, j1, j2⟩ := i1 x hx
            exact ⟨j, List.mem_append_left _ j1, j2⟩
          · rw [List.mem_singleton] at hx
            exact ⟨i, by simp, by rw [hx, ixO_nat hi]⟩
        · rw [List.nodup_append]
          refine ⟨i2, by simp, fun a ha c hc => ?_⟩
          rw [List.mem_singleton] at hc
          rw [hc]
          intro z
          obtain ⟨j, j1, j2⟩ := i1 a ha
          have jm : j ∈ irange ((allT k).length : Int) := by rw [e]; exact List.mem_append_left _ j1
          obtain ⟨j3, j4⟩ := mem_irange.mp jm
          obtain ⟨jj, rfl⟩ : ∃ jj : Nat, j = (jj : Int) := ⟨j.toNat, by omega⟩
          have hjj : jj < (allT k).length := by omega
          rw [ixO_nat hjj] at j2
          have := Option.some.inj j2
          rw [z] at this
          have := (List.getElem_inj (allT_nd k)).mp this
          exact fresh (by rw [← this]; exact j1)
        · rcases List.mem_append.mp hi' with hi' | hi'
          · exact List.mem_append_left _ (i4 i' hi' h')
          · rw [List.mem_singleton] at hi'
            rw [hi', ixO_nat hi] at h'
            rw [Option.some.inj h']
            simp
      cases keep with
      | true => exact yes
      | false =>
        simp only [Bool.false_eq_true, if_false, bind_some']
        by_cases ho' : (allT k)[i] = own
        · rw [if_pos (eqB_iff.mpr ho')]
          exact yes
        · rw [if_neg (by rw [eqB_no.mpr ho']; decide)]
          refine ⟨st, rfl, fun x hx => ?_, i2, by rw [List.length_append]; omega, fun i' hi' h' => ?_⟩
          · obtain ⟨j, j1, j2⟩ := i1 x hx
            exact ⟨j, List.mem_append_left _ j1, j2⟩
          · rcases List.mem_append.mp hi' with hi' | hi'
            · exact i4 i' hi' h'
            · rw [List.mem_singleton] at hi'
              rw [hi', ixO_nat hi] at h'
              exact absurd (Option.some.inj h') ho'
    -- the choices
    have norm : ∀ (A : Option Bool) (keep : Bool), A = some keep → ∃ st', (A.bind fun j => (if j = true then some true else some (eqB (allT k)[i] own)).bind fun z => if z = true then appO st (allT k)[i] else some st) = some st' ∧ (∀ x ∈ st', ∃ i' ∈ pre ++ [(i : Int)], ixO (allT k) i' = some x) ∧ st'.Nodup ∧ st'.length ≤ (pre ++ [(i : Int)]).length ∧ ∀ i' ∈ pre ++ [(i : Int)], ixO (allT k) i' = some own → own ∈ st' := fun A keep hA => by
      rw [hA]
      exact fin keep
    by_cases hmode : (0 : Int) < mode
    · rw [if_pos (decide_eq_true hmode), bind_some']
      cases q with
      | true =>
        rw [if_pos rfl]
        by_cases hm1 : mode = 1
        · rw [if_pos (decide_eq_true hm1)]
          exact fin true
        · rw [if_neg (by simpa using hm1)]
          exact fin _
      | false =>
        rw [if_neg (by decide)]
        exact fin _
    · rw [if_neg (by simpa using hmode), bind_some', if_neg (by decide)]
      exact fin _
  · obtain ⟨i, h1, h2⟩ := i1 x hx
    obtain ⟨q0, q1⟩ := mem_irange.mp h1
    obtain ⟨j, rfl⟩ : ∃ j : Nat, i = (j : Int) := ⟨i.toNat, by omega⟩
    have hj : j < (allT k).length := by omega
    rw [ixO_nat hj] at h2
    rw [← Option.some.inj h2]
    exact mem_allT.mp (List.getElem_mem hj)
  · rw [irange_len, Int.toNat_natCast] at i3
    show st.length ≤ 16
    omega
  · obtain ⟨j, hj⟩ := List.mem_iff_getElem?.mp (mem_allT.mpr ho)
    have hjl := (List.getElem?_eq_some_iff.mp hj).1
    show atL s ls ∈ st
    rw [hown]
    exact i4 (j : Int) (mem_irange.mpr ⟨by omega, by omega⟩) (ixO_at (by omega) (by rw [Int.toNat_natCast]; exact hj))
end Y

namespace Y
open PySem L2
/-! ### the world -/
abbrev RuleL := List Int × List (List Int)
def nmL (k : Nat) : Str := ⟨#[97 + k]⟩
theorem names_ok : ∀ k : Nat, k < 12 → six ("abcdefghijkl" : Str) (k : Int) = some (nmL k) ∧ m_is_name (nmL k) = some true := by decide +kernel
theorem nmL_inj {a b : Nat} (h : nmL a = nmL b) : a = b := by
  unfold nmL at h
  have := congrArg (fun x : Str => x.cps.toList) h
  simp at this
  exact this
/-- the world's rules are the law's -/
structure Same (n : Nat) (s : List Int) (rules : List RuleL) (rs : List RuleE) : Prop where
  len : rs.length = rules.length
  at_ : ∀ (i : Nat) r e, rules[i]? = some r → rs[i]? = some e → e.2 = r.1 ∧ ∃ w, KindOk e.1 (nmL i) w r.2 ∧ LetOk n w r.1 ∧ w ≤ 4
theorem world_ok {n : Nat} {s : List Int} {rules : List RuleL} (hn : n ≤ 14) (hl : rules.length ≤ 12) (h : ∀ r ∈ rules, RuleOk n s r) : ∃ rs, m_law_world (n : Int) rules = some (rulesW n rs) ∧ RulesIn n rs ∧ Same n s rules rs := by
  unfold m_law_world
  simp only [bnd]
  rw [rngO_nat (by omega), bind_some']
  obtain ⟨rs, h1, h2, h3⟩ := foldO_inv (step := fun (st : List RuleE) (b : Int) => (six ("abcdefghijkl" : Str) b).bind fun ch => (ixO rules b).bind fun i => (ixO rules b).bind fun j => (okO (m_Kind_init ch (i.1.length : Int) j.2)).bind fun K => (ixO rules b).bind fun z => appO st (K, z.1))
    (fun pre st => st.length = pre.length ∧ ∀ (i : Nat) r e, rules[i]? = some r → st[i]? = some e → e.2 = r.1 ∧ ∃ w, KindOk e.1 (nmL i) w r.2 ∧ LetOk n w r.1 ∧ w ≤ 4) (xs := irange (rules.length : Int)) (a := []) ⟨rfl, fun i r e _ z => by simp at z⟩ fun pre b post st e ⟨i1, i2⟩ => by
      have hb : b ∈ irange (rules.length : Int) := by rw [e]; simp
      obtain ⟨q0, q1⟩ := mem_irange.mp hb
      have hpre : (pre.length : Int) = b := by
        have : (irange (rules.length : Int))[pre.length]? = some b := by rw [e, List.getElem?_append_right (Nat.le_refl _), Nat.sub_self]; rfl
        rw [irange_nat, List.getElem?_map] at this
        obtain ⟨j, hj, hj2⟩ := Option.map_eq_some_iff.mp this
        have hlt : pre.length < rules.length := by
          have := (List.getElem?_eq_some_iff.mp hj).1
          rw [List.length_range] at this
          exact this
        rw [List.getElem?_range hlt] at hj
        rw [← Option.some.inj hj] at hj2
        exact hj2
      subst hpre
      have hi : pre.length < rules.length := by omega
      obtain ⟨n1, n2⟩ := names_ok pre.length (by omega)
      have hm := h _ (List.getElem_mem hi)
      obtain ⟨w, l1, l2, l3, l4⟩ := hm.ex
      obtain ⟨K, k1, k2⟩ := kind_ok n2 l2 l3 l4 hm.nd (by have := hm.len; omega)
      simp only [n1, ixO_nat hi, bind_some', l1.len, k1, okO_ret]
      rw [appO_of (by omega)]
      refine ⟨_, rfl, by rw [List.length_append, List.length_append, i1]; rfl, fun i r e' hr he => ?_⟩
      by_cases c : i < st.length
      · rw [List.getElem?_append_left c] at he
        exact i2 i r e' hr he
      · rw [List.getElem?_append_right (by omega)] at he
        have : i - st.length = 0 := by
          have := (List.getElem?_eq_some_iff.mp he).1
          simp at this
          exact this
        rw [this] at he
        cases he
        have ei : i = pre.length := by omega
        subst ei
        rw [List.getElem?_eq_getElem hi] at hr
        cases hr
        exact ⟨rfl, w, k2, l1, l3⟩
  rw [h1, bind_some']
  rw [irange_len, Int.toNat_natCast] at h2
  have row : ∀ e ∈ rs, ∃ (i : Nat) (r : RuleL) (w : Nat), rs[i]? = some e ∧ rules[i]? = some r ∧ e.2 = r.1 ∧ KindOk e.1 (nmL i) w r.2 ∧ LetOk n w r.1 ∧ w ≤ 4 := fun e he => by
    obtain ⟨i, hi⟩ := List.mem_iff_getElem?.mp he
    have hil := (List.getElem?_eq_some_iff.mp hi).1
    have hr : rules[i]? = some rules[i] := List.getElem?_eq_getElem (by omega)
    obtain ⟨e1, w, k, l, w4⟩ := h3 i _ e hr hi
    exact ⟨i, _, w, hi, hr, e1, k, l, w4⟩
  have rin : RulesIn n rs := ⟨hn, by omega, fun e he => by
      obtain ⟨i, r, w, _, _, e1, k, l, w4⟩ := row e he
      exact ⟨_, w, _, k, by rw [e1]; exact l, w4⟩, fun e he f hf hnm => by
      obtain ⟨i, r, w, a1, _, _, k, _, _⟩ := row e he
      obtain ⟨j, r2, w2, b1, _, _, k2, _, _⟩ := row f hf
      rw [k.nm, k2.nm] at hnm
      obtain rfl := nmL_inj hnm
      rw [a1] at b1
      cases b1
      exact ⟨rfl, rfl⟩⟩
  exact ⟨rs, by rw [rules_ok rin]; rfl, rin, h2, h3⟩
/-! ### what keeps the rules -/
def keepL (s : List Int) (r : RuleL) : Bool := memB (atL s r.1) r.2
theorem Same.keep {n : Nat} {s0 : List Int} {rules : List RuleL} {rs : List RuleE} (h : Same n s0 rules rs) (s : List Int) : rs.all (keepR s) = rules.all (keepL s) := by
  have key : ∀ (i : Nat) r e, rules[i]? = some r → rs[i]? = some e → keepR s e = keepL s r := fun i r e hr he => by
    obtain ⟨e1, w, k, _, _⟩ := h.at_ i r e hr he
    unfold keepR keepL
    rw [k.has, e1]
    unfold memB
    exact decide_eq_decide.mpr Iff.rfl
  have hl := h.len
  rw [Bool.eq_iff_iff, List.all_eq_true, List.all_eq_true]
  constructor
  · intro q r hr
    obtain ⟨i, hi⟩ := List.mem_iff_getElem?.mp hr
    have hil := (List.getElem?_eq_some_iff.mp hi).1
    have he : rs[i]? = some rs[i] := List.getElem?_eq_getElem (by omega)
    rw [← key i r _ hi he]
    exact q _ (List.getElem_mem _)
  · intro q e he
    obtain ⟨i, hi⟩ := List.mem_iff_getElem?.mp he
    have hil := (List.getElem?_eq_some_iff.mp hi).1
    have hr : rules[i]? = some rules[i] := List.getElem?_eq_getElem (by omega)
    rw [key i _ e hr hi]
    exact q _ (List.getElem_mem _)
/-- the law's rules -/
structure RulesL (n : Nat) (s : List Int) (rules : List RuleL) : Prop where
  ok : ∀ r ∈ rules, RuleOk n s r
  len : rules.length ≤ 12
theorem keeps_ok {n : Nat} {s0 s : List Int} {rules : List RuleL} (h : RulesL n s0 rules) (hs : s.length = n) : m_law_keeps s rules = some (rules.all (keepL s)) ∧ m_law_keeps_v2 s rules = some (rules.all (keepL s)) := by
  have hr : ∀ r ∈ rules, atL s r.1 = atL s r.1 ∧ m_law_values_v2 s r.1 = some (atL s r.1) ∧ m_law_values_v3 s r.1 = some (atL s r.1) := fun r hr => by
    obtain ⟨w, l1, l2, l3, _⟩ := (h.ok r hr).ex
    have := values_ok (s := s) (ls := r.1) (by rw [l1.len]; omega) fun l hl => by rw [hs]; exact l1.rng l hl
    exact ⟨rfl, this.2.1, this.2.2⟩
  have hl := h.len
  constructor
  · unfold m_law_keeps
    rw [mapO_some (keepL s) (by omega) fun r hm => by rw [(hr r hm).2.1]; rfl, bind_some', List.all_map]
    rfl
  · unfold m_law_keeps_v2
    rw [mapO_some (keepL s) (by omega) fun r hm => by rw [(hr r hm).2.2]; rfl, bind_some', List.all_map]
    rfl
/-! ### changes of selections -/
def stepF (st : List Int) (p : Int × Int) : List Int := if p.2 = 1 then flipI st p.1.toNat else st
def changed (s letters ch : List Int) : List Int := (letters.zip ch).foldl stepF s
theorem fold_len : ∀ (ps : List (Int × Int)) (s : List Int), (ps.foldl stepF s).length = s.length
  | [], _ => rfl
  | p :: ps, s => by
    rw [List.foldl_cons, fold_len ps]
    unfold stepF
    split
    · exact flipI_len
    · rfl
theorem fold_bin {n : Nat} : ∀ (ps : List (Int × Int)) (s : List Int), Bin n s → Bin n (ps.foldl stepF s)
  | [], _, h => h
  | p :: ps, s, h => by
    rw [List.foldl_cons]
    refine fold_bin ps _ ?_
    unfold stepF
    split
    · exact h.flip
    · exact h
def dueV (s : List Int) (rules : List RuleL) (letters ch : List Int) : Bool := rules.all (keepL (changed s letters ch))
theorem due_ok {n : Nat} {s letters : List Int} {rules : List RuleL} (h : RulesL n s rules) (hs : Bin n s) (hl : letters.length ≤ 8) (hr : ∀ l ∈ letters, 0 ≤ l ∧ l < (n : Int)) : m_law_due s rules letters = some ((allT letters.length).all (dueV s rules letters)) := by
  unfold m_law_due
  rw [law_tuples_ok (by omega), bind_some']
  rw [runF_all (dueV s rules letters) false fun ch hch => ?_]
  · unfold thenO
    rw [bind_some']
    cases (allT letters.length).all (dueV s rules letters) <;> rfl
  · have bc := mem_allT.mp hch
    rw [rngO_nat (by omega), bind_some']
    obtain ⟨st, h1, h2⟩ := foldO_inv (step := fun (st : List Int) (b : Int) => (ixO ch b).bind fun c => if (decide (c = (1 : Int))) = true then ((ixO letters b).bind fun l => (ixO st l).bind fun x => (ixO letters b).bind fun l2 => setO st l2 (1 - x)) else (some st))
      (fun pre st => st = ((letters.zip ch).take pre.length).foldl stepF s) (xs := irange (letters.length : Int)) (a := s) rfl fun pre b post st e hst => by
        have hb : b ∈ irange (letters.length : Int) := by rw [e]; simp
        obtain ⟨q0, q1⟩ := mem_irange.mp hb
        have hpre : (pre.length : Int) = b := by
          have : (irange (letters.length : Int))[pre.length]? = some b := by rw [e, List.getElem?_append_right (Nat.le_refl _), Nat.sub_self]; rfl
          rw [irange_nat, List.getElem?_map] at this
          obtain ⟨j, hj, hj2⟩ := Option.map_eq_some_iff.mp this
          have hlt : pre.length < letters.length := by
            have := (List.getElem?_eq_some_iff.mp hj).1
            rw [List.length_range] at this
            exact this
          rw [List.getElem?_range hlt] at hj
          rw [← Option.some.inj hj] at hj2
          exact hj2
        subst hpre
        have hi : pre.length < letters.length := by omega
        have hi2 : pre.length < ch.length := by rw [bc.1]; exact hi
        have hz : (letters.zip ch)[pre.length]? = some (letters[pre.length], ch[pre.length]) := by
          rw [List.getElem?_zip_eq_some]
          exact ⟨List.getElem?_eq_getElem hi, List.getElem?_eq_getElem hi2⟩
        have nxt : ((letters.zip ch).take (pre.length + 1)).foldl stepF s = stepF st (letters[pre.length], ch[pre.length]) := by
          rw [List.take_add_one, hz, List.foldl_append, ← hst]
          rfl
        have hsl : st.length = n := by rw [hst, fold_len, hs.1]
        have hlt := hr _ (List.getElem_mem hi)
        rw [List.length_append, List.length_singleton, nxt]
        simp only [ixO_nat hi, ixO_nat hi2, bind_some']
        unfold stepF
        by_cases c : ch[pre.length] = 1
        · rw [if_pos (decide_eq_true c), if_pos c]
          obtain ⟨l, hle⟩ : ∃ l : Nat, letters[pre.length] = (l : Int) := ⟨(letters[pre.length]).toNat, by omega⟩
          rw [hle] at hlt ⊢
          have := flip_step (s := st) (i := l) (by omega)
          refine ⟨_, this, ?_⟩
          rw [Int.toNat_natCast]
        · rw [if_neg (by simpa using c), if_neg c]
          exact ⟨st, rfl, rfl⟩
    rw [h1, bind_some']
    have ez : (letters.zip ch).take (irange (letters.length : Int)).length = letters.zip ch := by
      rw [irange_len, Int.toNat_natCast]
      refine List.take_of_length_le ?_
      rw [List.length_zip, bc.1]
      omega
    rw [ez] at h2
    subst h2
    rw [(keeps_ok h (by rw [fold_len, hs.1])).1, bind_some']
    show (if (!dueV s rules letters ch) = true then _ else _) = _
    cases dueV s rules letters ch <;> rfl
theorem fold_filter : ∀ (ps : List (Int × Int)) (s : List Int), (((ps.filter fun p => decide (p.2 = 1)).map fun p => p.1.toNat).foldl flipI s) = ps.foldl stepF s
  | [], _ => rfl
  | p :: ps, s => by
    rw [List.filter_cons, List.foldl_cons]
    unfold stepF
    by_cases c : p.2 = 1
    · rw [if_pos (decide_eq_true c), if_pos c, List.map_cons, List.foldl_cons]
      exact fold_filter ps _
    · rw [if_neg (by simpa using c), if_neg c]
      exact fold_filter ps _
theorem any_ok {n : Nat} {s letters : List Int} {rules : List RuleL} {rs : List RuleE} (h : RulesL n s rules) (hR : RulesIn n rs) (hS : Same n s rules rs) (hs : Bin n s) (ha : rules.all (keepL s) = true) (hl : letters.length ≤ 8) (hr : ∀ l ∈ letters, 0 ≤ l ∧ l < (n : Int)) : m_any_order (rulesW n rs) s letters = some (.ret ((allB letters.length).all (dueV s rules letters))) := by
  have n14 := hR.n14
  have ok : okR n rs s = true := by
    unfold okR
    rw [binB_iff.mpr hs, hS.keep, ha]
    rfl
  unfold m_any_order
  rw [check_answer_ok hR (by rw [hs.1]; omega), ok, if_pos rfl]
  show (if (decide ((8 : Int) < (letters.length : Int))) = true then _ else _) = _
  rw [if_neg (by simp; omega), all_binary_ok (by omega), bind_some', runF_all (dueV s rules letters) false fun ch hch => ?_]
  · unfold thenR
    rw [bind_some']
    cases (allB letters.length).all (dueV s rules letters) <;> rfl
  · have bc := mem_allB.mp hch
    have lz : (letters.zip ch).length ≤ 8 := by rw [List.length_zip]; omega
    rw [fmapO_some (fun p : Int × Int => decide (p.2 = 1)) (fun p : Int × Int => p.1) (by omega) fun p _ => by cases decide (p.2 = 1) <;> rfl, bind_some']
    have em : ((letters.zip ch).filter fun p => decide (p.2 = 1)).map (fun p => p.1) = (((letters.zip ch).filter fun p => decide (p.2 = 1)).map fun p => p.1.toNat).map fun k : Nat => (k : Int) := by
      rw [List.map_map]
      refine List.map_congr_left fun p hp => ?_
      have := hr p.1 (List.of_mem_zip (List.mem_filter.mp hp).1).1
      show p.1 = ((p.1.toNat : Nat) : Int)
      omega
    rw [em, flipped_ok _ _ fun k hk => ?_, bind_some', fold_filter]
    · rw [is_answer_ok hR (by rw [fold_len, hs.1]; omega), bind_some']
      have e2 : okR n rs (changed s letters ch) = dueV s rules letters ch := by
        unfold okR dueV changed
        rw [binB_iff.mpr (fold_bin _ _ hs), hS.keep]
        rfl
      show (if (!okR n rs (changed s letters ch)) = true then _ else _) = _
      rw [e2]
      cases dueV s rules letters ch <;> rfl
    · obtain ⟨p, hp, rfl⟩ := List.mem_map.mp hk
      have := hr p.1 (List.of_mem_zip (List.mem_filter.mp hp).1).1
      rw [hs.1]
      omega
theorem all_same (n : Nat) (p : List Int → Bool) : (allB n).all p = (allT n).all p := by
  rw [Bool.eq_iff_iff, List.all_eq_true, List.all_eq_true]
  exact ⟨fun h v hv => h v (mem_allB.mpr (mem_allT.mp hv)), fun h v hv => h v (mem_allT.mpr (mem_allB.mp hv))⟩
theorem stepF_comm (st : List Int) (p q : Int × Int) : stepF (stepF st p) q = stepF (stepF st q) p := by
  unfold stepF
  by_cases a : p.2 = 1 <;> by_cases b : q.2 = 1
  · rw [if_pos a, if_pos b, if_pos b, if_pos a]
    by_cases e : p.1.toNat = q.1.toNat
    · rw [e]
    · generalize p.1.toNat = i at *
      generalize q.1.toNat = j at *
      have h1 : (flipI st i).getD j 0 = st.getD j 0 := by
        unfold flipI
        rw [List.getD_eq_getElem?_getD, List.getElem?_set_ne e, List.getD_eq_getElem?_getD]
      have h2 : (flipI st j).getD i 0 = st.getD i 0 := by
        unfold flipI
        rw [List.getD_eq_getElem?_getD, List.getElem?_set_ne (Ne.symm e), List.getD_eq_getElem?_getD]
      unfold flipI at h1 h2 ⊢
      rw [h1, h2, List.set_comm _ _ e]
  · rw [if_pos a, if_neg b, if_neg b, if_pos a]
  · rw [if_neg a, if_pos b, if_neg a]
  · rw [if_neg a, if_neg b, if_neg a]
theorem changed_rev {n : Nat} {s letters ch : List Int} (hc : Bin letters.length ch) : changed s letters.reverse ch = changed s letters ch.reverse := by
  unfold changed
  have e : (letters.reverse.zip ch) = (letters.zip ch.reverse).reverse := by
    have := List.reverse_zipWith (f := Prod.mk) (l := letters) (l' := ch.reverse) (by rw [List.length_reverse, hc.1])
    rw [List.reverse_reverse] at this
    exact this.symm
  rw [e]
  exact List.Perm.foldl_eq' (List.reverse_perm _) (fun x _ y _ z => stepF_comm z x y) s
theorem due_rev {s letters : List Int} {rules : List RuleL} : (allT letters.reverse.length).all (dueV s rules letters.reverse) = (allT letters.length).all (dueV s rules letters) := by
  rw [List.length_reverse, Bool.eq_iff_iff, List.all_eq_true, List.all_eq_true]
  have rb : ∀ v, Bin letters.length v → Bin letters.length v.reverse := fun v h => ⟨by rw [List.length_reverse, h.1], fun x hx => h.2 x (List.mem_reverse.mp hx)⟩
  constructor
  · intro h v hv
    have hb := mem_allT.mp hv
    have := h v.reverse (mem_allT.mpr (rb v hb))
    unfold dueV at this ⊢
    rw [changed_rev (n := 0) (rb v hb), List.reverse_reverse] at this
    exact this
  · intro h v hv
    have hb := mem_allT.mp hv
    have := h v.reverse (mem_allT.mpr (rb v hb))
    unfold dueV at this ⊢
    rw [changed_rev (n := 0) hb]
    exact this
/-- everything about one world and its start -/
structure Wld (n : Nat) (s : List Int) (rules : List RuleL) (rs : List RuleE) : Prop where
  L : RulesL n s rules
  R : RulesIn n rs
  S : Same n s rules rs
  b : Bin n s
  keep : rules.all (keepL s) = true
theorem told_ok {n : Nat} {s letters : List Int} {rules : List RuleL} {rs : List RuleE} (W : Wld n s rules rs) (hl : letters.length ≤ 8) (hr : ∀ l ∈ letters, 0 ≤ l ∧ l < (n : Int)) (due : Bool) (hd : m_law_due s rules letters = some due) : m_law_told (rulesW n rs) s letters due = some true := by
  rw [due_ok W.L W.b hl hr] at hd
  unfold m_law_told
  rw [any_ok W.L W.R W.S W.b W.keep hl hr, okO_ret, bind_some', all_same, Option.some.inj hd, eqB_self]
  simp
theorem Wld.ok {n : Nat} {s : List Int} {rules : List RuleL} {rs : List RuleE} (W : Wld n s rules rs) : okR n rs s = true := by
  unfold okR
  rw [binB_iff.mpr W.b, W.S.keep, W.keep]
  rfl
theorem refused_set {n : Nat} {s letters : List Int} {rs : List RuleE} (hR : RulesIn n rs) (hs : s.length ≤ 1000000) (hno : okR n rs s = false) : m_law_refused (rulesW n rs) s letters ("setting" : Str) = some true := by
  unfold m_law_refused m_any_order
  rw [check_answer_ok hR hs, hno]
  show some ((decide (("setting" : Str) = ("setting" : Str))) && (true && (eqB s s))) = some true
  rw [eqB_self, decide_eq_true rfl]
  rfl
theorem refused_many {n : Nat} {s letters : List Int} {rules : List RuleL} {rs : List RuleE} (W : Wld n s rules rs) (hl : letters.length = 9) : m_law_refused (rulesW n rs) s letters ("many" : Str) = some true := by
  have n14 := W.R.n14
  unfold m_law_refused m_any_order
  rw [check_answer_ok W.R (by rw [W.b.1]; omega), W.ok, if_pos rfl]
  have : (if (decide ((8 : Int) < (letters.length : Int))) = true then (some (Rs.exc (ρ := Bool) (Exc.TooMany (8 : Int)))) else none) = some (.exc (Exc.TooMany 8)) := if_pos (by rw [hl]; decide)
  show tryR (if (decide ((8 : Int) < (letters.length : Int))) = true then (some (Rs.exc (ρ := Bool) (Exc.TooMany (8 : Int)))) else _) _ _ = _
  rw [if_pos (by rw [hl]; decide)]
  show some ((decide (("many" : Str) = ("many" : Str))) && (true && ((!false) && (decide ((8 : Int) = (8 : Int)))))) = some true
  rw [decide_eq_true rfl]
  rfl
theorem not_bin {n : Nat} {rs : List RuleE} {s : List Int} (h : ¬ Bin n s) : okR n rs s = false := by
  unfold okR
  have : binB s (n : Int) = false := by
    rw [← Bool.not_eq_true]
    exact fun z => h (binB_iff.mp z)
  rw [this]
  rfl
theorem wrong_ok {n : Nat} {s : List Int} {rules : List RuleL} {rs : List RuleE} (W : Wld n s rules rs) (hn : 1 ≤ n) {a : Nat} (ha : a < n) : ∃ wr, m_law_wrong_settings s rules (a : Int) = some wr ∧ wr.length ≤ 1000 ∧ ∀ x ∈ wr, x.length ≤ 1000 ∧ okR n rs x = false := by
  have n14 := W.R.n14
  have ls := W.b.1
  unfold m_law_wrong_settings
  simp only [bnd]
  have e1 : ((a : Int) + 1) = ((a + 1 : Nat) : Int) := by omega
  rw [catO_of (by simp; omega), bind_some', cutD_upto, catO_of (by rw [List.length_take]; simp; omega), bind_some', e1, cutD_from, catO_of (by rw [List.length_append, List.length_take, List.length_drop]; simp; omega), bind_some', cutD_butLast, ls, rngO_nat (by omega), bind_some']
  refine exb (foldO_inv (fun pre (st : List (List Int)) => st.length ≤ 3 + pre.length ∧ ∀ x ∈ st, x.length ≤ 1000 ∧ okR n rs x = false) ⟨by simp, fun x hx => ?_⟩ fun pre b post st e ⟨i1, i2⟩ => ?_) fun st ⟨i1, i2⟩ => ⟨_, rfl, ?_, i2⟩
  · rcases List.mem_cons.mp hx with rfl | hx
    · exact ⟨by rw [List.length_append]; simp; omega, not_bin fun z => by have := z.1; rw [List.length_append] at this; simp at this; omega⟩
    · rcases List.mem_cons.mp hx with rfl | hx
      · exact ⟨by rw [List.length_dropLast]; omega, not_bin fun z => by have := z.1; rw [List.length_dropLast] at this; omega⟩
      · rw [List.mem_singleton] at hx
        subst hx
        refine ⟨by rw [List.length_append, List.length_append, List.length_take, List.length_drop]; simp; omega, not_bin fun z => ?_⟩
        have := z.2 2 (by simp)
        omega
  · have hb : b ∈ irange (n : Int) := by rw [e]; simp
    obtain ⟨q0, q1⟩ := mem_irange.mp hb
    obtain ⟨i, rfl⟩ : ∃ i : Nat, b = (i : Int) := ⟨b.toNat, by omega⟩
    have hi : i < s.length := by omega
    have e2 : ((i : Int) + 1) = ((i + 1 : Nat) : Int) := by omega
    have ef : s.take i ++ [1 - s[i]] ++ s.drop (i + 1) = flipI s i := by
      unfold flipI
      rw [List.getD_eq_getElem?_getD, List.getElem?_eq_getElem hi, List.set_eq_take_append_cons_drop, if_pos hi]
      simp
    have le := congrArg List.length e
    rw [irange_len, List.length_append, List.length_cons, Int.toNat_natCast] at le
    simp only [ixO_nat hi, bind_some', cutD_upto, e2, cutD_from]
    rw [catO_of (by rw [List.length_take]; simp; omega), bind_some', catO_of (by rw [List.length_append, List.length_take, List.length_drop]; simp; omega), bind_some', ef]
    have lf : (flipI s i).length = n := by rw [flipI_len, ls]
    have keep := (keeps_ok W.L (s := flipI s i) lf).2
    have stay : st.length ≤ 3 + (pre ++ [(i : Int)]).length := by rw [List.length_append]; omega
    by_cases c3 : (st.length : Int) = 3
    · rw [if_pos (decide_eq_true c3), keep, bind_some', bind_some']
      cases hk : rules.all (keepL (flipI s i)) with
      | true =>
        rw [if_neg (by decide)]
        exact ⟨st, rfl, stay, i2⟩
      | false =>
        rw [if_pos (by decide), appO_of (by omega)]
        refine ⟨_, rfl, by rw [List.length_append, List.length_append]; simp; omega, fun x hx => ?_⟩
        rcases List.mem_append.mp hx with hx | hx
        · exact i2 x hx
        · rw [List.mem_singleton] at hx
          rw [hx]
          refine ⟨by omega, ?_⟩
          unfold okR
          rw [W.S.keep, hk, Bool.and_false]
    · rw [if_neg (by simpa using c3), bind_some', if_neg (by decide)]
      exact ⟨st, rfl, stay, i2⟩
  · rw [irange_len, Int.toNat_natCast] at i1
    omega
theorem all_refused {n : Nat} {rs : List RuleE} (hR : RulesIn n rs) {wr : List (List Int)} (hl : wr.length ≤ 1000) (h : ∀ x ∈ wr, x.length ≤ 1000 ∧ okR n rs x = false) (letters : List Int) : ∃ ys, mapO (fun b => m_law_refused (rulesW n rs) b letters ("setting" : Str)) wr = some ys ∧ List.all ys id = true := by
  refine ⟨_, mapO_some (fun _ => true) (by omega) fun x hx => refused_set hR (by have := (h x hx).1; omega) (h x hx).2, ?_⟩
  rw [List.all_eq_true]
  intro y hy
  obtain ⟨_, _, rfl⟩ := List.mem_map.mp hy
  rfl
theorem RulesL.keep {n : Nat} {s : List Int} {rules : List RuleL} (h : RulesL n s rules) : rules.all (keepL s) = true := by
  rw [List.all_eq_true]
  intro r hr
  exact memB_iff.mpr (h.ok r hr).own
theorem wld_of {n : Nat} {s : List Int} {rules : List RuleL} (hn : n ≤ 14) (hs : Bin n s) (h : RulesL n s rules) : ∃ rs, m_law_world (n : Int) rules = some (rulesW n rs) ∧ Wld n s rules rs := by
  obtain ⟨rs, h1, h2, h3⟩ := world_ok hn h.len h.ok
  exact ⟨rs, h1, h, h2, h3, hs, h.keep⟩
theorem law_true (ns : List Int) (hns : ns.length ≤ 63) : m_law ns = some true := by
  unfold m_law
  simp only [bnd]
  have cell : ∀ (k : Int) (i : Nat), k = (i : Int) → ∃ c, m_law_cell ns k = some c := fun k i e => e ▸ cell_ok ns i
  obtain ⟨c0, hc0⟩ := cell 0 0 rfl
  obtain ⟨c1, hc1⟩ := cell 1 1 rfl
  obtain ⟨c2, hc2⟩ := cell 2 2 rfl
  obtain ⟨c3, hc3⟩ := cell 3 3 rfl
  rw [hc0, bind_some']
  obtain ⟨sh, s1, s2⟩ := draw_ok c0 [4, 6, 6, 6, 7, 3, 9, 360360] (by decide) (by decide)
  rw [s1, bind_some', s2.lit 0 0, s2.lit 1 1, s2.lit 2 2, s2.lit 3 3, s2.lit 4 4, s2.lit 5 5, s2.lit 6 6, s2.lit 7 7]
  have b1 := s2.2 1 (by decide)
  have b2 := s2.2 2 (by decide)
  have b3 := s2.2 3 (by decide)
  have b4 := s2.2 4 (by decide)
  have b6 := s2.2 6 (by decide)
  simp only [bind_some']
  generalize sh.getD 0 0 = x0 at *
  generalize sh.getD 1 0 = x1 at *
  generalize sh.getD 2 0 = x2 at *
  generalize sh.getD 3 0 = x3 at *
  generalize sh.getD 4 0 = x4 at *
  generalize sh.getD 5 0 = x5 at *
  generalize sh.getD 6 0 = x6 at *
  generalize sh.getD 7 0 = x7 at *
  have b1' : 0 ≤ x1 ∧ x1 < 6 := b1
  have b2' : 0 ≤ x2 ∧ x2 < 6 := b2
  have b3' : 0 ≤ x3 ∧ x3 < 6 := b3
  have b4' : 0 ≤ x4 ∧ x4 < 7 := b4
  have b6' : 0 ≤ x6 ∧ x6 < 9 := b6
  obtain ⟨n, cnt, hj, hn1, hn2, hn9, hcnt⟩ : ∃ n cnt : Nat, (if decide (x0 = 1) = true then some (x4, 9 + x2) else some (x3, 1 + x1)) = some ((cnt : Int), (n : Int)) ∧ 1 ≤ n ∧ n ≤ 14 ∧ (x0 = 1 → 9 ≤ n) ∧ cnt ≤ 12 := by
    by_cases c : x0 = 1
    · exact ⟨(9 + x2).toNat, x4.toNat, by rw [if_pos (decide_eq_true c), show ((x4.toNat : Nat) : Int) = x4 by omega, show (((9 + x2).toNat : Nat) : Int) = 9 + x2 by omega], by omega, by omega, fun _ => by omega, by omega⟩
    · exact ⟨(1 + x1).toNat, x3.toNat, by rw [if_neg (by simpa using c), show ((x3.toNat : Nat) : Int) = x3 by omega, show (((1 + x1).toNat : Nat) : Int) = 1 + x1 by omega], by omega, by omega, fun z => absurd z c, by omega⟩
  rw [hj, bind_some', hc1, bind_some', repO_one (by omega), bind_some']
  obtain ⟨s, d1, d2⟩ := draw_ok c1 (List.replicate n 2) (fun b hb => by rw [List.eq_of_mem_replicate hb]; decide) (by simp; omega)
  have hs : Bin n s := ⟨d2.rep.1, fun x hx => by have := d2.rep.2 x hx; omega⟩
  rw [d1, bind_some', hc2, bind_some']
  obtain ⟨m, hm, m1, m2⟩ : ∃ m : Nat, min (n : Int) x6 = (m : Int) ∧ m ≤ n ∧ m ≤ 8 := ⟨(min (n : Int) x6).toNat, by omega, by omega, by omega⟩
  obtain ⟨letters, l1, l2⟩ := some_ok c2 m1 (by omega : n ≤ 1000)
  have ll := l2.len
  rw [hm, l1, bind_some', rngO_nat (by omega), bind_some']
  obtain ⟨rules, r1, r2, r3⟩ := mapO_ex (f := fun b => (m_law_cell ns (4 + b)).bind fun c => m_law_rule c (n : Int) s letters x5) (R := fun _ r => RuleOk n s r) (xs := irange (cnt : Int)) (by rw [irange_len]; omega) fun b hb => by
    obtain ⟨q0, q1⟩ := mem_irange.mp hb
    obtain ⟨c, hc⟩ := cell (4 + b) (4 + b.toNat) (by omega)
    rw [hc, bind_some']
    obtain ⟨r, e1, e2⟩ := rule_ok c x5 hn1 hn2 hs
    exact ⟨r, e1, e2⟩
  rw [r1, bind_some']
  rw [irange_len, Int.toNat_natCast] at r2
  have hL : RulesL n s rules := ⟨fun r hr => by
    obtain ⟨i, hi⟩ := List.mem_iff_getElem?.mp hr
    have hil := (List.getElem?_eq_some_iff.mp hi).1
    exact (r3 i _ r (List.getElem?_eq_getElem (by rw [irange_len, Int.toNat_natCast]; omega)) hi).2, by omega⟩
  have hL2 : RulesL n s rules.dropLast := ⟨fun r hr => hL.ok r ((List.dropLast_sublist rules).subset hr), by rw [List.length_dropLast]; have := hL.len; omega⟩
  obtain ⟨rs, w1, W⟩ := wld_of hn2 hs hL
  obtain ⟨rs2, w2, W2⟩ := wld_of hn2 hs hL2
  rw [w1, bind_some']
  have lr : ∀ l ∈ letters, 0 ≤ l ∧ l < (n : Int) := l2.rng
  have D := fun {rules : List RuleL} {rs : List RuleE} (W : Wld n s rules rs) {ls : List Int} (h8 : ls.length ≤ 8) (hr : ∀ l ∈ ls, 0 ≤ l ∧ l < (n : Int)) => (⟨_, due_ok W.L W.b h8 hr⟩ : ∃ d, m_law_due s rules ls = some d)
  obtain ⟨u1, hu1⟩ := D W (by omega) lr
  rw [hu1, bind_some', told_ok W (by omega) lr u1 hu1, bind_some', if_neg (by decide), cutD_butLast, w2, bind_some']
  obtain ⟨u2, hu2⟩ := D W2 (by omega) lr
  rw [hu2, bind_some', told_ok W2 (by omega) lr u2 hu2, bind_some', if_neg (by decide), show (1 : Int) = ((1 : Nat) : Int) from rfl, cutD_from]
  have lr3 : ∀ l ∈ letters.drop 1, 0 ≤ l ∧ l < (n : Int) := fun l hl => lr l (List.mem_of_mem_drop hl)
  obtain ⟨u3, hu3⟩ := D W (ls := letters.drop 1) (by rw [List.length_drop]; omega) lr3
  have hrev : m_law_due s rules letters.reverse = some u1 := by
    rw [due_ok W.L W.b (by rw [List.length_reverse]; omega) (fun l hl => lr l (List.mem_reverse.mp hl)), due_rev, ← due_ok W.L W.b (by omega) lr]
    exact hu1
  have hnil : m_law_due s rules [] = some true := by
    rw [due_ok W.L W.b (by decide) (fun _ h => by cases h)]
    show some ((allT 0).all (dueV s rules [])) = some true
    congr 1
    show (dueV s rules [] [] && true) = true
    rw [Bool.and_true]
    exact W.keep
  rw [hu3, bind_some', told_ok W (by rw [List.length_drop]; omega) lr3 u3 hu3, bind_some', if_neg (by decide), told_ok W (by rw [List.length_reverse]; omega) (fun l hl => lr l (List.mem_reverse.mp hl)) u1 hrev, bind_some', if_neg (by decide), told_ok W (by decide) (fun _ h => by cases h) true hnil, bind_some', bind_some', if_neg (by decide)]
  rw [modO_of (by omega), bind_some']
  obtain ⟨a, ha⟩ : ∃ a : Nat, x7 % (n : Int) = (a : Int) := ⟨(x7 % (n : Int)).toNat, by have := Int.emod_nonneg x7 (b := (n : Int)) (by omega); omega⟩
  have ha2 : a < n := by have := Int.emod_lt_of_pos x7 (b := (n : Int)) (by omega); omega
  obtain ⟨wr, wr1, wr2, wr3⟩ := wrong_ok W hn1 ha2
  obtain ⟨ys, y1, y2⟩ := all_refused W.R wr2 wr3 letters
  rw [ha, wr1, bind_some', y1, bind_some', y2, if_neg (by decide)]
  by_cases c : x0 = 1
  · have h9 := hn9 c
    have c' : x0 = ((1 : Nat) : Int) := c
    obtain ⟨many, m1', m2'⟩ := some_ok c3 (show 9 ≤ n from h9) (by omega : n ≤ 1000)
    have m1'' : m_law_some c3 (n : Int) 9 = some many := m1'
    obtain ⟨ys2, z1, z2⟩ := all_refused W.R wr2 wr3 many
    rw [if_pos (decide_eq_true c'), hc3, bind_some', m1'', bind_some', refused_many W m2'.len, bind_some', if_neg (by decide), z1, bind_some', z2, if_neg (by decide), show (8 : Int) = ((8 : Nat) : Int) from rfl, cutD_upto]
    have lr8 : ∀ l ∈ many.take 8, 0 ≤ l ∧ l < (n : Int) := fun l hl => m2'.rng l (List.mem_of_mem_take hl)
    obtain ⟨u8, hu8⟩ := D W (ls := many.take 8) (by rw [List.length_take]; omega) lr8
    rw [hu8, bind_some', told_ok W (by rw [List.length_take]; omega) lr8 u8 hu8, bind_some', if_neg (by decide)]
  · have c' : ¬ x0 = ((1 : Nat) : Int) := c
    rw [if_neg (by simpa using c')]
end Y

namespace Y
open PySem PySem.Spec PyProof.Rows L2
theorem law_imp {K : PySem.W.Frag} {A : Ad} (hl : ∀ ns : List Int, ns.length ≤ 63 → m_law ns = some true) (vs : List V) (H : Hp) (Q : VK) (E : XK) (h : mkSp K pLaw vs H Q E) : mkSp K (p_law A) vs H Q E := by
  obtain ⟨Oc, Γ, o, ⟨ns, h1, h2, h3⟩, h4⟩ := h
  exact ⟨Oc, Γ, o, ⟨ns, true, h1, hl ns h2, h3⟩, h4⟩
theorem all_mk {l : PySem.W.OpenLaw} {w : World} {K : PySem.W.Frag} {h : Heap} {mg : Str → Option Value} {fa a_StepError a_BadKind a_BadRule a_NotAnAnswer a_TooMany a_World a_Kind a_Rules f_World_init f_Kind_init f_Kind_contains f_Rules_at_rule f_Rules_broken f_Rules_is_answer f_Rules_init cda_Rules_init cc_Rules_init f_law_draw f_law_picked f_law_some f_are_letters f_check_width f_flipped f_piece_around f_grouped_by_piece f_is_name f_is_binary f_law_world f_law_tuples f_law_values f_law_keeps f_law_due f_law_wrong_settings f_check_answer f_all_binary f_any_order f_law_told f_law_cell f_law_shown f_law_rule f_law_refused f_law f_a_BadKind cda_a_BadKind cc_a_BadKind f_a_BadRule cda_a_BadRule cc_a_BadRule f_a_NotAnAnswer cda_a_NotAnAnswer cc_a_NotAnAnswer f_a_TooMany cda_a_TooMany cc_a_TooMany : Addr} (X : K.In h) (G : h.Ns mainGlobals mg) (hfa : mg "law" = some (.ref fa))
    {od_World_init an_World_init : Option Addr} {sl_World_init : Array (Option Value)} {oc_World_init kV_World_init dc_World_init pm_World_init cd_World_init ct_World_init : Value}
    {od_Kind_init an_Kind_init : Option Addr} {sl_Kind_init : Array (Option Value)} {oc_Kind_init kV_Kind_init dc_Kind_init pm_Kind_init cd_Kind_init ct_Kind_init : Value}
    {od_Kind_contains an_Kind_contains : Option Addr} {sl_Kind_contains : Array (Option Value)} {oc_Kind_contains kV_Kind_contains dc_Kind_contains pm_Kind_contains cd_Kind_contains ct_Kind_contains : Value}
    {u_a_Rules_MOST_LETTERS : Tok}
    {u_a_Rules_MOST_RULES : Tok}
    {od_Rules_at_rule an_Rules_at_rule : Option Addr} {sl_Rules_at_rule : Array (Option Value)} {oc_Rules_at_rule kV_Rules_at_rule dc_Rules_at_rule pm_Rules_at_rule cd_Rules_at_rule ct_Rules_at_rule : Value}
    {od_Rules_broken an_Rules_broken : Option Addr} {sl_Rules_broken : Array (Option Value)} {oc_Rules_broken kV_Rules_broken dc_Rules_broken pm_Rules_broken cd_Rules_broken ct_Rules_broken : Value}
    {od_Rules_is_answer an_Rules_is_answer : Option Addr} {sl_Rules_is_answer : Array (Option Value)} {oc_Rules_is_answer kV_Rules_is_answer dc_Rules_is_answer pm_Rules_is_answer cd_Rules_is_answer ct_Rules_is_answer : Value}
    {od_Rules_init an_Rules_init ccd_Rules_init cld_Rules_init : Option Addr} {sl_Rules_init ccs_Rules_init csl_Rules_init : Array (Option Value)} {vs_Rules_init : Array Value} {file_Rules_init : Str} {tf_Rules_init : Tok} {oc_Rules_init kV_Rules_init dc_Rules_init pm_Rules_init ct_Rules_init ccl_Rules_init cl_Rules_init : Value}
    {od_law_draw an_law_draw : Option Addr} {sl_law_draw : Array (Option Value)} {oc_law_draw kV_law_draw dc_law_draw pm_law_draw cd_law_draw ct_law_draw : Value}
    {od_law_picked an_law_picked : Option Addr} {sl_law_picked : Array (Option Value)} {oc_law_picked kV_law_picked dc_law_picked pm_law_picked cd_law_picked ct_law_picked : Value}
    {od_law_some an_law_some : Option Addr} {sl_law_some : Array (Option Value)} {oc_law_some kV_law_some dc_law_some pm_law_some cd_law_some ct_law_some : Value}
    {od_are_letters an_are_letters : Option Addr} {sl_are_letters : Array (Option Value)} {oc_are_letters kV_are_letters dc_are_letters pm_are_letters cd_are_letters ct_are_letters : Value}
    {od_check_width an_check_width : Option Addr} {sl_check_width : Array (Option Value)} {oc_check_width kV_check_width dc_check_width pm_check_width cd_check_width ct_check_width : Value}
    {od_flipped an_flipped : Option Addr} {sl_flipped : Array (Option Value)} {oc_flipped kV_flipped dc_flipped pm_flipped cd_flipped ct_flipped : Value}
    {od_piece_around an_piece_around : Option Addr} {sl_piece_around : Array (Option Value)} {oc_piece_around kV_piece_around dc_piece_around pm_piece_around cd_piece_around ct_piece_around : Value}
    {od_grouped_by_piece an_grouped_by_piece : Option Addr} {sl_grouped_by_piece : Array (Option Value)} {oc_grouped_by_piece kV_grouped_by_piece dc_grouped_by_piece pm_grouped_by_piece cd_grouped_by_piece ct_grouped_by_piece : Value}
    {od_is_name an_is_name : Option Addr} {sl_is_name : Array (Option Value)} {oc_is_name kV_is_name dc_is_name pm_is_name cd_is_name ct_is_name : Value}
    {od_is_binary an_is_binary : Option Addr} {sl_is_binary : Array (Option Value)} {oc_is_binary kV_is_binary dc_is_binary pm_is_binary cd_is_binary ct_is_binary : Value}
    {od_law_world an_law_world : Option Addr} {sl_law_world : Array (Option Value)} {oc_law_world kV_law_world dc_law_world pm_law_world cd_law_world ct_law_world : Value}
    {od_law_tuples an_law_tuples : Option Addr} {sl_law_tuples : Array (Option Value)} {oc_law_tuples kV_law_tuples dc_law_tuples pm_law_tuples cd_law_tuples ct_law_tuples : Value}
    {od_law_values an_law_values : Option Addr} {sl_law_values : Array (Option Value)} {oc_law_values kV_law_values dc_law_values pm_law_values cd_law_values ct_law_values : Value}
    {od_law_keeps an_law_keeps : Option Addr} {sl_law_keeps : Array (Option Value)} {oc_law_keeps kV_law_keeps dc_law_keeps pm_law_keeps cd_law_keeps ct_law_keeps : Value}
    {od_law_due an_law_due : Option Addr} {sl_law_due : Array (Option Value)} {oc_law_due kV_law_due dc_law_due pm_law_due cd_law_due ct_law_due : Value}
    {od_law_wrong_settings an_law_wrong_settings : Option Addr} {sl_law_wrong_settings : Array (Option Value)} {oc_law_wrong_settings kV_law_wrong_settings dc_law_wrong_settings pm_law_wrong_settings cd_law_wrong_settings ct_law_wrong_settings : Value}
    {od_check_answer an_check_answer : Option Addr} {sl_check_answer : Array (Option Value)} {oc_check_answer kV_check_answer dc_check_answer pm_check_answer cd_check_answer ct_check_answer : Value}
    {od_all_binary an_all_binary : Option Addr} {sl_all_binary : Array (Option Value)} {oc_all_binary kV_all_binary dc_all_binary pm_all_binary cd_all_binary ct_all_binary : Value}
    {od_any_order an_any_order : Option Addr} {sl_any_order : Array (Option Value)} {oc_any_order kV_any_order dc_any_order pm_any_order cd_any_order ct_any_order : Value}
    {od_law_told an_law_told : Option Addr} {sl_law_told : Array (Option Value)} {oc_law_told kV_law_told dc_law_told pm_law_told cd_law_told ct_law_told : Value}
    {od_law_cell an_law_cell : Option Addr} {sl_law_cell : Array (Option Value)} {oc_law_cell kV_law_cell dc_law_cell pm_law_cell cd_law_cell ct_law_cell : Value}
    {od_law_shown an_law_shown : Option Addr} {sl_law_shown : Array (Option Value)} {oc_law_shown kV_law_shown dc_law_shown pm_law_shown cd_law_shown ct_law_shown : Value}
    {od_law_rule an_law_rule : Option Addr} {sl_law_rule : Array (Option Value)} {oc_law_rule kV_law_rule dc_law_rule pm_law_rule cd_law_rule ct_law_rule : Value}
    {od_law_refused an_law_refused : Option Addr} {sl_law_refused : Array (Option Value)} {oc_law_refused kV_law_refused dc_law_refused pm_law_refused cd_law_refused ct_law_refused : Value}
    {od_law an_law : Option Addr} {sl_law : Array (Option Value)} {oc_law kV_law dc_law pm_law cd_law ct_law : Value}
    {nm_a_BadKind qn_a_BadKind : Str} {N_a_BadKind : Addr} {bs_a_BadKind su_a_BadKind : List Value} {sn_a_BadKind : List Str} {ab_a_BadKind : Bool} {col_a_BadKind : Option Bool} {dd_a_BadKind : Option Addr} {m0_a_BadKind m1_a_BadKind m2_a_BadKind m3_a_BadKind m5_a_BadKind : Option Value}
    {od_a_BadKind an_a_BadKind ccd_a_BadKind cld_a_BadKind : Option Addr} {sl_a_BadKind ccs_a_BadKind csl_a_BadKind : Array (Option Value)} {vs_a_BadKind : Array Value} {file_a_BadKind : Str} {tf_a_BadKind : Tok} {oc_a_BadKind kV_a_BadKind dc_a_BadKind pm_a_BadKind ct_a_BadKind ccl_a_BadKind cl_a_BadKind : Value}
    {nm_a_BadRule qn_a_BadRule : Str} {N_a_BadRule : Addr} {bs_a_BadRule su_a_BadRule : List Value} {sn_a_BadRule : List Str} {ab_a_BadRule : Bool} {col_a_BadRule : Option Bool} {dd_a_BadRule : Option Addr} {m0_a_BadRule m1_a_BadRule m2_a_BadRule m3_a_BadRule m5_a_BadRule : Option Value}
    {od_a_BadRule an_a_BadRule ccd_a_BadRule cld_a_BadRule : Option Addr} {sl_a_BadRule ccs_a_BadRule csl_a_BadRule : Array (Option Value)} {vs_a_BadRule : Array Value} {file_a_BadRule : Str} {tf_a_BadRule : Tok} {oc_a_BadRule kV_a_BadRule dc_a_BadRule pm_a_BadRule ct_a_BadRule ccl_a_BadRule cl_a_BadRule : Value}
    {nm_a_NotAnAnswer qn_a_NotAnAnswer : Str} {N_a_NotAnAnswer : Addr} {bs_a_NotAnAnswer su_a_NotAnAnswer : List Value} {sn_a_NotAnAnswer : List Str} {ab_a_NotAnAnswer : Bool} {col_a_NotAnAnswer : Option Bool} {dd_a_NotAnAnswer : Option Addr} {m0_a_NotAnAnswer m1_a_NotAnAnswer m2_a_NotAnAnswer m3_a_NotAnAnswer m5_a_NotAnAnswer : Option Value}
    {od_a_NotAnAnswer an_a_NotAnAnswer ccd_a_NotAnAnswer cld_a_NotAnAnswer : Option Addr} {sl_a_NotAnAnswer ccs_a_NotAnAnswer csl_a_NotAnAnswer : Array (Option Value)} {vs_a_NotAnAnswer : Array Value} {file_a_NotAnAnswer : Str} {tf_a_NotAnAnswer : Tok} {oc_a_NotAnAnswer kV_a_NotAnAnswer dc_a_NotAnAnswer pm_a_NotAnAnswer ct_a_NotAnAnswer ccl_a_NotAnAnswer cl_a_NotAnAnswer : Value}
    {nm_a_TooMany qn_a_TooMany : Str} {N_a_TooMany : Addr} {bs_a_TooMany su_a_TooMany : List Value} {sn_a_TooMany : List Str} {ab_a_TooMany : Bool} {col_a_TooMany : Option Bool} {dd_a_TooMany : Option Addr} {m0_a_TooMany m1_a_TooMany m2_a_TooMany m3_a_TooMany m5_a_TooMany : Option Value}
    {od_a_TooMany an_a_TooMany ccd_a_TooMany cld_a_TooMany : Option Addr} {sl_a_TooMany ccs_a_TooMany csl_a_TooMany : Array (Option Value)} {vs_a_TooMany : Array Value} {file_a_TooMany : Str} {tf_a_TooMany : Tok} {oc_a_TooMany kV_a_TooMany dc_a_TooMany pm_a_TooMany ct_a_TooMany ccl_a_TooMany cl_a_TooMany : Value}
    {t_MOST_WIDTH : Tok}
    {t_MOST_AT_ONCE : Tok}
    (n_a_StepError : PySem.W.nsIn K mainGlobals "StepError" = some (some (.ref a_StepError)))
    (n_a_BadKind : PySem.W.nsIn K mainGlobals "BadKind" = some (some (.ref a_BadKind)))
    (n_a_BadRule : PySem.W.nsIn K mainGlobals "BadRule" = some (some (.ref a_BadRule)))
    (n_a_NotAnAnswer : PySem.W.nsIn K mainGlobals "NotAnAnswer" = some (some (.ref a_NotAnAnswer)))
    (n_a_TooMany : PySem.W.nsIn K mainGlobals "TooMany" = some (some (.ref a_TooMany)))
    (n_a_World : PySem.W.nsIn K mainGlobals "World" = some (some (.ref a_World)))
    (n_a_Kind : PySem.W.nsIn K mainGlobals "Kind" = some (some (.ref a_Kind)))
    (n_a_Rules : PySem.W.nsIn K mainGlobals "Rules" = some (some (.ref a_Rules)))
    (oc0 : PySem.W.specialIn K (.builtin "object.__class__") "__get__" = some (some (.builtin "getset_descriptor.__get__")))
    (oc1 : PySem.W.takesIn K (.builtin "object.__class__") = some true)
    (a_World_init : PySem.W.findIn K (.ref a_World) "__init__" = some (some (.ref f_World_init)))
    (i_World_init : PySem.W.isFn K (.ref f_World_init) = true)
    (l_World_init : K.lookup f_World_init = some ⟨oc_World_init, od_World_init, .func (PySem.W.fnOf "__init__" "World.__init__" (defArgs (inClass (top 13) 0)) (defBody (inClass (top 13) 0)) (defScope (inClass (top 13) 0)) .none kV_World_init dc_World_init pm_World_init an_World_init cd_World_init ct_World_init), sl_World_init⟩)
    (c_World_init : PySem.W.codeIn K cd_World_init "World.__init__" = true)
    (k_World_init : PySem.W.keepIn K (.ref f_World_init) = true)
    (pg_a_Kind : PySem.W.plainGet K a_Kind Str.empty = true)
    (hd_a_Kind : PySem.W.hasDictIn K a_Kind = true)
    (po_a_Kind : PySem.W.plainOver K a_Kind = true)
    (sa_a_Kind : PySem.W.findIn K (.ref a_Kind) "__setattr__" = some (some (.builtin "object.__setattr__")))
    (kc_a_Kind : PySem.W.keepIn K (.ref a_Kind) = true)
    (mk_a_Kind : PySem.W.makesIn K a_Kind = true)
    (ca_a_Kind : PySem.W.findIn K (.ref a_Kind) "__class__" = some (some (.builtin "object.__class__")))
    (mo_a_Kind : PySem.W.mroIn K a_Kind (.type "object") = some true)
    (no_a_Kind_width : PySem.W.findIn K (.ref a_Kind) "width" = some none)
    (no_a_Kind_name : PySem.W.findIn K (.ref a_Kind) "name" = some none)
    (no_a_Kind_tuples : PySem.W.findIn K (.ref a_Kind) "tuples" = some none)
    (no_a_Kind_grouped : PySem.W.findIn K (.ref a_Kind) "grouped" = some none)
    (a_Kind_init : PySem.W.findIn K (.ref a_Kind) "__init__" = some (some (.ref f_Kind_init)))
    (i_Kind_init : PySem.W.isFn K (.ref f_Kind_init) = true)
    (l_Kind_init : K.lookup f_Kind_init = some ⟨oc_Kind_init, od_Kind_init, .func (PySem.W.fnOf "__init__" "Kind.__init__" (defArgs (inClass (top 20) 0)) (defBody (inClass (top 20) 0)) (defScope (inClass (top 20) 0)) .none kV_Kind_init dc_Kind_init pm_Kind_init an_Kind_init cd_Kind_init ct_Kind_init), sl_Kind_init⟩)
    (c_Kind_init : PySem.W.codeIn K cd_Kind_init "Kind.__init__" = true)
    (k_Kind_init : PySem.W.keepIn K (.ref f_Kind_init) = true)
    (a_Kind_contains : PySem.W.findIn K (.ref a_Kind) "__contains__" = some (some (.ref f_Kind_contains)))
    (i_Kind_contains : PySem.W.isFn K (.ref f_Kind_contains) = true)
    (l_Kind_contains : K.lookup f_Kind_contains = some ⟨oc_Kind_contains, od_Kind_contains, .func (PySem.W.fnOf "__contains__" "Kind.__contains__" (defArgs (inClass (top 20) 1)) (defBody (inClass (top 20) 1)) (defScope (inClass (top 20) 1)) .none kV_Kind_contains dc_Kind_contains pm_Kind_contains an_Kind_contains cd_Kind_contains ct_Kind_contains), sl_Kind_contains⟩)
    (c_Kind_contains : PySem.W.codeIn K cd_Kind_contains "Kind.__contains__" = true)
    (k_Kind_contains : PySem.W.keepIn K (.ref f_Kind_contains) = true)
    (pg_a_Rules : PySem.W.plainGet K a_Rules Str.empty = true)
    (hd_a_Rules : PySem.W.hasDictIn K a_Rules = true)
    (po_a_Rules : PySem.W.plainOver K a_Rules = true)
    (sa_a_Rules : PySem.W.findIn K (.ref a_Rules) "__setattr__" = some (some (.builtin "object.__setattr__")))
    (kc_a_Rules : PySem.W.keepIn K (.ref a_Rules) = true)
    (mk_a_Rules : PySem.W.makesIn K a_Rules = true)
    (ca_a_Rules : PySem.W.findIn K (.ref a_Rules) "__class__" = some (some (.builtin "object.__class__")))
    (mo_a_Rules : PySem.W.mroIn K a_Rules (.type "object") = some true)
    (rd_a_Rules : PySem.W.readsIn K a_Rules (.type "type") = true)
    (rg_a_Rules : PySem.W.specialIn K (.ref a_Rules) "__getattribute__" = some (some (.builtin "type.__getattribute__")))
    (cv_a_Rules_MOST_LETTERS : PySem.W.findCls K (.ref a_Rules) (.type "type") "MOST_LETTERS" = some (.val (.int 14 u_a_Rules_MOST_LETTERS)))
    (cv_a_Rules_MOST_RULES : PySem.W.findCls K (.ref a_Rules) (.type "type") "MOST_RULES" = some (.val (.int 80 u_a_Rules_MOST_RULES)))
    (no_a_Rules_on_letter : PySem.W.findIn K (.ref a_Rules) "on_letter" = some none)
    (no_a_Rules_rules : PySem.W.findIn K (.ref a_Rules) "rules" = some none)
    (no_a_Rules_size : PySem.W.findIn K (.ref a_Rules) "size" = some none)
    (a_Rules_at_rule : PySem.W.findIn K (.ref a_Rules) "at_rule" = some (some (.ref f_Rules_at_rule)))
    (i_Rules_at_rule : PySem.W.isFn K (.ref f_Rules_at_rule) = true)
    (l_Rules_at_rule : K.lookup f_Rules_at_rule = some ⟨oc_Rules_at_rule, od_Rules_at_rule, .func (PySem.W.fnOf "at_rule" "Rules.at_rule" (defArgs (inClass (top 25) 8)) (defBody (inClass (top 25) 8)) (defScope (inClass (top 25) 8)) .none kV_Rules_at_rule dc_Rules_at_rule pm_Rules_at_rule an_Rules_at_rule cd_Rules_at_rule ct_Rules_at_rule), sl_Rules_at_rule⟩)
    (c_Rules_at_rule : PySem.W.codeIn K cd_Rules_at_rule "Rules.at_rule" = true)
    (k_Rules_at_rule : PySem.W.keepIn K (.ref f_Rules_at_rule) = true)
    (a_Rules_broken : PySem.W.findIn K (.ref a_Rules) "broken" = some (some (.ref f_Rules_broken)))
    (i_Rules_broken : PySem.W.isFn K (.ref f_Rules_broken) = true)
    (l_Rules_broken : K.lookup f_Rules_broken = some ⟨oc_Rules_broken, od_Rules_broken, .func (PySem.W.fnOf "broken" "Rules.broken" (defArgs (inClass (top 25) 10)) (defBody (inClass (top 25) 10)) (defScope (inClass (top 25) 10)) .none kV_Rules_broken dc_Rules_broken pm_Rules_broken an_Rules_broken cd_Rules_broken ct_Rules_broken), sl_Rules_broken⟩)
    (c_Rules_broken : PySem.W.codeIn K cd_Rules_broken "Rules.broken" = true)
    (k_Rules_broken : PySem.W.keepIn K (.ref f_Rules_broken) = true)
    (a_Rules_is_answer : PySem.W.findIn K (.ref a_Rules) "is_answer" = some (some (.ref f_Rules_is_answer)))
    (i_Rules_is_answer : PySem.W.isFn K (.ref f_Rules_is_answer) = true)
    (l_Rules_is_answer : K.lookup f_Rules_is_answer = some ⟨oc_Rules_is_answer, od_Rules_is_answer, .func (PySem.W.fnOf "is_answer" "Rules.is_answer" (defArgs (inClass (top 25) 3)) (defBody (inClass (top 25) 3)) (defScope (inClass (top 25) 3)) .none kV_Rules_is_answer dc_Rules_is_answer pm_Rules_is_answer an_Rules_is_answer cd_Rules_is_answer ct_Rules_is_answer), sl_Rules_is_answer⟩)
    (c_Rules_is_answer : PySem.W.codeIn K cd_Rules_is_answer "Rules.is_answer" = true)
    (k_Rules_is_answer : PySem.W.keepIn K (.ref f_Rules_is_answer) = true)
    (a_Rules_init : PySem.W.findIn K (.ref a_Rules) "__init__" = some (some (.ref f_Rules_init)))
    (i_Rules_init : PySem.W.isFn K (.ref f_Rules_init) = true)
    (l_Rules_init : K.lookup f_Rules_init = some ⟨oc_Rules_init, od_Rules_init, .func (PySem.W.fnX "__init__" "Rules.__init__" (defArgs (inClass (top 25) 2)) (defBody (inClass (top 25) 2)) (defScope (inClass (top 25) 2)) [("__class__", cc_Rules_init)] .none kV_Rules_init dc_Rules_init pm_Rules_init an_Rules_init (.ref cda_Rules_init) ct_Rules_init), sl_Rules_init⟩)
    (c_Rules_init : PySem.W.codeIn K (.ref cda_Rules_init) "Rules.__init__" = true)
    (k_Rules_init : PySem.W.keepIn K (.ref f_Rules_init) = true)
    (cd_Rules_init : K.lookup cda_Rules_init = some ⟨ccl_Rules_init, ccd_Rules_init, .fields vs_Rules_init, ccs_Rules_init⟩)
    (v2_Rules_init : vs_Rules_init[2]? = some (.str file_Rules_init tf_Rules_init))
    (pf_Rules_init : ((l.prog.main.file : Str) == file_Rules_init) = true)
    (hc_Rules_init : K.lookup cc_Rules_init = some ⟨cl_Rules_init, cld_Rules_init, .cell (some (.ref a_Rules)), csl_Rules_init⟩)
    (ci_Rules_init : PySem.W.isClsIn K a_Rules = true)
    (ms_Rules_init : PySem.W.mroIn K a_Rules (.ref a_Rules) = some true)
    (su_Rules_init : PySem.W.ks_superIn K a_Rules a_Rules "__init__" = some (some (.ref f_World_init)))
    (wt_Rules_init : PySem.W.typeIn K (.ref f_World_init) = some (.type "function"))
    (wf_Rules_init : PySem.W.fnIn K f_World_init = true)
    (a_law_draw : PySem.W.nsIn K mainGlobals "_law_draw" = some (some (.ref f_law_draw)))
    (l_law_draw : K.lookup f_law_draw = some ⟨oc_law_draw, od_law_draw, .func (PySem.W.fnOf "_law_draw" "_law_draw" (defArgs (top 29)) (defBody (top 29)) (defScope (top 29)) .none kV_law_draw dc_law_draw pm_law_draw an_law_draw cd_law_draw ct_law_draw), sl_law_draw⟩)
    (c_law_draw : PySem.W.codeIn K cd_law_draw "_law_draw" = true)
    (k_law_draw : PySem.W.keepIn K (.ref f_law_draw) = true)
    (a_law_picked : PySem.W.nsIn K mainGlobals "_law_picked" = some (some (.ref f_law_picked)))
    (l_law_picked : K.lookup f_law_picked = some ⟨oc_law_picked, od_law_picked, .func (PySem.W.fnOf "_law_picked" "_law_picked" (defArgs (top 31)) (defBody (top 31)) (defScope (top 31)) .none kV_law_picked dc_law_picked pm_law_picked an_law_picked cd_law_picked ct_law_picked), sl_law_picked⟩)
    (c_law_picked : PySem.W.codeIn K cd_law_picked "_law_picked" = true)
    (k_law_picked : PySem.W.keepIn K (.ref f_law_picked) = true)
    (a_law_some : PySem.W.nsIn K mainGlobals "_law_some" = some (some (.ref f_law_some)))
    (l_law_some : K.lookup f_law_some = some ⟨oc_law_some, od_law_some, .func (PySem.W.fnOf "_law_some" "_law_some" (defArgs (top 32)) (defBody (top 32)) (defScope (top 32)) .none kV_law_some dc_law_some pm_law_some an_law_some cd_law_some ct_law_some), sl_law_some⟩)
    (c_law_some : PySem.W.codeIn K cd_law_some "_law_some" = true)
    (k_law_some : PySem.W.keepIn K (.ref f_law_some) = true)
    (a_are_letters : PySem.W.nsIn K mainGlobals "are_letters" = some (some (.ref f_are_letters)))
    (l_are_letters : K.lookup f_are_letters = some ⟨oc_are_letters, od_are_letters, .func (PySem.W.fnOf "are_letters" "are_letters" (defArgs (top 26)) (defBody (top 26)) (defScope (top 26)) .none kV_are_letters dc_are_letters pm_are_letters an_are_letters cd_are_letters ct_are_letters), sl_are_letters⟩)
    (c_are_letters : PySem.W.codeIn K cd_are_letters "are_letters" = true)
    (k_are_letters : PySem.W.keepIn K (.ref f_are_letters) = true)
    (a_check_width : PySem.W.nsIn K mainGlobals "check_width" = some (some (.ref f_check_width)))
    (l_check_width : K.lookup f_check_width = some ⟨oc_check_width, od_check_width, .func (PySem.W.fnOf "check_width" "check_width" (defArgs (top 21)) (defBody (top 21)) (defScope (top 21)) .none kV_check_width dc_check_width pm_check_width an_check_width cd_check_width ct_check_width), sl_check_width⟩)
    (c_check_width : PySem.W.codeIn K cd_check_width "check_width" = true)
    (k_check_width : PySem.W.keepIn K (.ref f_check_width) = true)
    (a_flipped : PySem.W.nsIn K mainGlobals "flipped" = some (some (.ref f_flipped)))
    (l_flipped : K.lookup f_flipped = some ⟨oc_flipped, od_flipped, .func (PySem.W.fnOf "flipped" "flipped" (defArgs (top 3)) (defBody (top 3)) (defScope (top 3)) .none kV_flipped dc_flipped pm_flipped an_flipped cd_flipped ct_flipped), sl_flipped⟩)
    (c_flipped : PySem.W.codeIn K cd_flipped "flipped" = true)
    (k_flipped : PySem.W.keepIn K (.ref f_flipped) = true)
    (a_piece_around : PySem.W.nsIn K mainGlobals "piece_around" = some (some (.ref f_piece_around)))
    (l_piece_around : K.lookup f_piece_around = some ⟨oc_piece_around, od_piece_around, .func (PySem.W.fnOf "piece_around" "piece_around" (defArgs (top 22)) (defBody (top 22)) (defScope (top 22)) .none kV_piece_around dc_piece_around pm_piece_around an_piece_around cd_piece_around ct_piece_around), sl_piece_around⟩)
    (c_piece_around : PySem.W.codeIn K cd_piece_around "piece_around" = true)
    (k_piece_around : PySem.W.keepIn K (.ref f_piece_around) = true)
    (a_grouped_by_piece : PySem.W.nsIn K mainGlobals "grouped_by_piece" = some (some (.ref f_grouped_by_piece)))
    (l_grouped_by_piece : K.lookup f_grouped_by_piece = some ⟨oc_grouped_by_piece, od_grouped_by_piece, .func (PySem.W.fnOf "grouped_by_piece" "grouped_by_piece" (defArgs (top 23)) (defBody (top 23)) (defScope (top 23)) .none kV_grouped_by_piece dc_grouped_by_piece pm_grouped_by_piece an_grouped_by_piece cd_grouped_by_piece ct_grouped_by_piece), sl_grouped_by_piece⟩)
    (c_grouped_by_piece : PySem.W.codeIn K cd_grouped_by_piece "grouped_by_piece" = true)
    (k_grouped_by_piece : PySem.W.keepIn K (.ref f_grouped_by_piece) = true)
    (a_is_name : PySem.W.nsIn K mainGlobals "is_name" = some (some (.ref f_is_name)))
    (l_is_name : K.lookup f_is_name = some ⟨oc_is_name, od_is_name, .func (PySem.W.fnOf "is_name" "is_name" (defArgs (top 5)) (defBody (top 5)) (defScope (top 5)) .none kV_is_name dc_is_name pm_is_name an_is_name cd_is_name ct_is_name), sl_is_name⟩)
    (c_is_name : PySem.W.codeIn K cd_is_name "is_name" = true)
    (k_is_name : PySem.W.keepIn K (.ref f_is_name) = true)
    (a_is_binary : PySem.W.nsIn K mainGlobals "is_binary" = some (some (.ref f_is_binary)))
    (l_is_binary : K.lookup f_is_binary = some ⟨oc_is_binary, od_is_binary, .func (PySem.W.fnOf "is_binary" "is_binary" (defArgs (top 2)) (defBody (top 2)) (defScope (top 2)) .none kV_is_binary dc_is_binary pm_is_binary an_is_binary cd_is_binary ct_is_binary), sl_is_binary⟩)
    (c_is_binary : PySem.W.codeIn K cd_is_binary "is_binary" = true)
    (k_is_binary : PySem.W.keepIn K (.ref f_is_binary) = true)
    (a_law_world : PySem.W.nsIn K mainGlobals "_law_world" = some (some (.ref f_law_world)))
    (l_law_world : K.lookup f_law_world = some ⟨oc_law_world, od_law_world, .func (PySem.W.fnOf "_law_world" "_law_world" (defArgs (top 38)) (defBody (top 38)) (defScope (top 38)) .none kV_law_world dc_law_world pm_law_world an_law_world cd_law_world ct_law_world), sl_law_world⟩)
    (c_law_world : PySem.W.codeIn K cd_law_world "_law_world" = true)
    (k_law_world : PySem.W.keepIn K (.ref f_law_world) = true)
    (a_law_tuples : PySem.W.nsIn K mainGlobals "_law_tuples" = some (some (.ref f_law_tuples)))
    (l_law_tuples : K.lookup f_law_tuples = some ⟨oc_law_tuples, od_law_tuples, .func (PySem.W.fnOf "_law_tuples" "_law_tuples" (defArgs (top 30)) (defBody (top 30)) (defScope (top 30)) .none kV_law_tuples dc_law_tuples pm_law_tuples an_law_tuples cd_law_tuples ct_law_tuples), sl_law_tuples⟩)
    (c_law_tuples : PySem.W.codeIn K cd_law_tuples "_law_tuples" = true)
    (k_law_tuples : PySem.W.keepIn K (.ref f_law_tuples) = true)
    (a_law_values : PySem.W.nsIn K mainGlobals "_law_values" = some (some (.ref f_law_values)))
    (l_law_values : K.lookup f_law_values = some ⟨oc_law_values, od_law_values, .func (PySem.W.fnOf "_law_values" "_law_values" (defArgs (top 33)) (defBody (top 33)) (defScope (top 33)) .none kV_law_values dc_law_values pm_law_values an_law_values cd_law_values ct_law_values), sl_law_values⟩)
    (c_law_values : PySem.W.codeIn K cd_law_values "_law_values" = true)
    (k_law_values : PySem.W.keepIn K (.ref f_law_values) = true)
    (a_law_keeps : PySem.W.nsIn K mainGlobals "_law_keeps" = some (some (.ref f_law_keeps)))
    (l_law_keeps : K.lookup f_law_keeps = some ⟨oc_law_keeps, od_law_keeps, .func (PySem.W.fnOf "_law_keeps" "_law_keeps" (defArgs (top 36)) (defBody (top 36)) (defScope (top 36)) .none kV_law_keeps dc_law_keeps pm_law_keeps an_law_keeps cd_law_keeps ct_law_keeps), sl_law_keeps⟩)
    (c_law_keeps : PySem.W.codeIn K cd_law_keeps "_law_keeps" = true)
    (k_law_keeps : PySem.W.keepIn K (.ref f_law_keeps) = true)
    (a_law_due : PySem.W.nsIn K mainGlobals "_law_due" = some (some (.ref f_law_due)))
    (l_law_due : K.lookup f_law_due = some ⟨oc_law_due, od_law_due, .func (PySem.W.fnOf "_law_due" "_law_due" (defArgs (top 37)) (defBody (top 37)) (defScope (top 37)) .none kV_law_due dc_law_due pm_law_due an_law_due cd_law_due ct_law_due), sl_law_due⟩)
    (c_law_due : PySem.W.codeIn K cd_law_due "_law_due" = true)
    (k_law_due : PySem.W.keepIn K (.ref f_law_due) = true)
    (a_law_wrong_settings : PySem.W.nsIn K mainGlobals "_law_wrong_settings" = some (some (.ref f_law_wrong_settings)))
    (l_law_wrong_settings : K.lookup f_law_wrong_settings = some ⟨oc_law_wrong_settings, od_law_wrong_settings, .func (PySem.W.fnOf "_law_wrong_settings" "_law_wrong_settings" (defArgs (top 41)) (defBody (top 41)) (defScope (top 41)) .none kV_law_wrong_settings dc_law_wrong_settings pm_law_wrong_settings an_law_wrong_settings cd_law_wrong_settings ct_law_wrong_settings), sl_law_wrong_settings⟩)
    (c_law_wrong_settings : PySem.W.codeIn K cd_law_wrong_settings "_law_wrong_settings" = true)
    (k_law_wrong_settings : PySem.W.keepIn K (.ref f_law_wrong_settings) = true)
    (a_check_answer : PySem.W.nsIn K mainGlobals "check_answer" = some (some (.ref f_check_answer)))
    (l_check_answer : K.lookup f_check_answer = some ⟨oc_check_answer, od_check_answer, .func (PySem.W.fnOf "check_answer" "check_answer" (defArgs (top 14)) (defBody (top 14)) (defScope (top 14)) .none kV_check_answer dc_check_answer pm_check_answer an_check_answer cd_check_answer ct_check_answer), sl_check_answer⟩)
    (c_check_answer : PySem.W.codeIn K cd_check_answer "check_answer" = true)
    (k_check_answer : PySem.W.keepIn K (.ref f_check_answer) = true)
    (a_all_binary : PySem.W.nsIn K mainGlobals "all_binary" = some (some (.ref f_all_binary)))
    (l_all_binary : K.lookup f_all_binary = some ⟨oc_all_binary, od_all_binary, .func (PySem.W.fnOf "all_binary" "all_binary" (defArgs (top 4)) (defBody (top 4)) (defScope (top 4)) .none kV_all_binary dc_all_binary pm_all_binary an_all_binary cd_all_binary ct_all_binary), sl_all_binary⟩)
    (c_all_binary : PySem.W.codeIn K cd_all_binary "all_binary" = true)
    (k_all_binary : PySem.W.keepIn K (.ref f_all_binary) = true)
    (a_any_order : PySem.W.nsIn K mainGlobals "any_order" = some (some (.ref f_any_order)))
    (l_any_order : K.lookup f_any_order = some ⟨oc_any_order, od_any_order, .func (PySem.W.fnOf "any_order" "any_order" (defArgs (top 17)) (defBody (top 17)) (defScope (top 17)) .none kV_any_order dc_any_order pm_any_order an_any_order cd_any_order ct_any_order), sl_any_order⟩)
    (c_any_order : PySem.W.codeIn K cd_any_order "any_order" = true)
    (k_any_order : PySem.W.keepIn K (.ref f_any_order) = true)
    (a_law_told : PySem.W.nsIn K mainGlobals "_law_told" = some (some (.ref f_law_told)))
    (l_law_told : K.lookup f_law_told = some ⟨oc_law_told, od_law_told, .func (PySem.W.fnOf "_law_told" "_law_told" (defArgs (top 39)) (defBody (top 39)) (defScope (top 39)) .none kV_law_told dc_law_told pm_law_told an_law_told cd_law_told ct_law_told), sl_law_told⟩)
    (c_law_told : PySem.W.codeIn K cd_law_told "_law_told" = true)
    (k_law_told : PySem.W.keepIn K (.ref f_law_told) = true)
    (a_law_cell : PySem.W.nsIn K mainGlobals "_law_cell" = some (some (.ref f_law_cell)))
    (l_law_cell : K.lookup f_law_cell = some ⟨oc_law_cell, od_law_cell, .func (PySem.W.fnOf "_law_cell" "_law_cell" (defArgs (top 28)) (defBody (top 28)) (defScope (top 28)) .none kV_law_cell dc_law_cell pm_law_cell an_law_cell cd_law_cell ct_law_cell), sl_law_cell⟩)
    (c_law_cell : PySem.W.codeIn K cd_law_cell "_law_cell" = true)
    (k_law_cell : PySem.W.keepIn K (.ref f_law_cell) = true)
    (a_law_shown : PySem.W.nsIn K mainGlobals "_law_shown" = some (some (.ref f_law_shown)))
    (l_law_shown : K.lookup f_law_shown = some ⟨oc_law_shown, od_law_shown, .func (PySem.W.fnOf "_law_shown" "_law_shown" (defArgs (top 34)) (defBody (top 34)) (defScope (top 34)) .none kV_law_shown dc_law_shown pm_law_shown an_law_shown cd_law_shown ct_law_shown), sl_law_shown⟩)
    (c_law_shown : PySem.W.codeIn K cd_law_shown "_law_shown" = true)
    (k_law_shown : PySem.W.keepIn K (.ref f_law_shown) = true)
    (a_law_rule : PySem.W.nsIn K mainGlobals "_law_rule" = some (some (.ref f_law_rule)))
    (l_law_rule : K.lookup f_law_rule = some ⟨oc_law_rule, od_law_rule, .func (PySem.W.fnOf "_law_rule" "_law_rule" (defArgs (top 35)) (defBody (top 35)) (defScope (top 35)) .none kV_law_rule dc_law_rule pm_law_rule an_law_rule cd_law_rule ct_law_rule), sl_law_rule⟩)
    (c_law_rule : PySem.W.codeIn K cd_law_rule "_law_rule" = true)
    (k_law_rule : PySem.W.keepIn K (.ref f_law_rule) = true)
    (a_law_refused : PySem.W.nsIn K mainGlobals "_law_refused" = some (some (.ref f_law_refused)))
    (l_law_refused : K.lookup f_law_refused = some ⟨oc_law_refused, od_law_refused, .func (PySem.W.fnOf "_law_refused" "_law_refused" (defArgs (top 40)) (defBody (top 40)) (defScope (top 40)) .none kV_law_refused dc_law_refused pm_law_refused an_law_refused cd_law_refused ct_law_refused), sl_law_refused⟩)
    (c_law_refused : PySem.W.codeIn K cd_law_refused "_law_refused" = true)
    (k_law_refused : PySem.W.keepIn K (.ref f_law_refused) = true)
    (a_law : PySem.W.nsIn K mainGlobals "law" = some (some (.ref f_law)))
    (l_law : K.lookup f_law = some ⟨oc_law, od_law, .func (PySem.W.fnOf "law" "law" (defArgs (top 42)) (defBody (top 42)) (defScope (top 42)) .none kV_law dc_law pm_law an_law cd_law ct_law), sl_law⟩)
    (c_law : PySem.W.codeIn K cd_law "law" = true)
    (k_law : PySem.W.keepIn K (.ref f_law) = true)
    (z_int : PySem.W.nsIn K mainGlobals "int" = some none)
    (z_range : PySem.W.nsIn K mainGlobals "range" = some none)
    (z_len : PySem.W.nsIn K mainGlobals "len" = some none)
    (z_enumerate : PySem.W.nsIn K mainGlobals "enumerate" = some none)
    (z_set : PySem.W.nsIn K mainGlobals "set" = some none)
    (z_all : PySem.W.nsIn K mainGlobals "all" = some none)
    (z_tuple : PySem.W.nsIn K mainGlobals "tuple" = some none)
    (z_list : PySem.W.nsIn K mainGlobals "list" = some none)
    (z_sorted : PySem.W.nsIn K mainGlobals "sorted" = some none)
    (z_zip : PySem.W.nsIn K mainGlobals "zip" = some none)
    (z_isinstance : PySem.W.nsIn K mainGlobals "isinstance" = some none)
    (z_bool : PySem.W.nsIn K mainGlobals "bool" = some none)
    (z_min : PySem.W.nsIn K mainGlobals "min" = some none)
    (z_ValueError : PySem.W.nsIn K mainGlobals "ValueError" = some none)
    (z_super : PySem.W.nsIn K mainGlobals "super" = some none)
    (tp : (l.prog.main.scope.names.lookup ("super" : Str)).isSome = false)
    (thr : PySem.W.nsIn K PySem.cStatics "thirdparty.any" = some none)
    (x_a_BadKind : K.lookup a_BadKind = some (excClassObj nm_a_BadKind qn_a_BadKind a_BadKind N_a_BadKind bs_a_BadKind [.ref a_StepError, .type "ValueError", .type "Exception", .type "BaseException", .type "object"] true sn_a_BadKind su_a_BadKind ab_a_BadKind col_a_BadKind dd_a_BadKind m0_a_BadKind m1_a_BadKind m2_a_BadKind m3_a_BadKind m5_a_BadKind "ValueError.__new__"))
    (sa_a_BadKind : PySem.W.findIn K (.ref a_BadKind) "__setattr__" = some (some (.builtin "object.__setattr__")))
    (eb_a_BadKind : PySem.W.subIn K (.ref a_BadKind) (.type "BaseException") = some true)
    (ty_a_BadKind : PySem.W.typeIn K (.ref a_BadKind) = some (.type "type"))
    (kc_a_BadKind : PySem.W.keepIn K (.ref a_BadKind) = true)
    (ms_a_BadKind : PySem.W.mroIn K a_BadKind (.ref a_BadKind) = some true)
    (su_a_BadKind : PySem.W.ks_superIn K a_BadKind a_BadKind "__init__" = some (some (.builtin "ValueError.__init__")))
    (ve_a_BadKind : PySem.W.subIn K (.ref a_BadKind) (.type "ValueError") = some true)
    (ci_a_BadKind : PySem.W.isClsIn K a_BadKind = true)
    (a_a_BadKind : PySem.W.findIn K (.ref a_BadKind) "__init__" = some (some (.ref f_a_BadKind)))
    (t_a_BadKind : PySem.W.typeIn K (.ref f_a_BadKind) = some (.type "function"))
    (l_a_BadKind : K.lookup f_a_BadKind = some ⟨oc_a_BadKind, od_a_BadKind, .func (PySem.W.fnX "__init__" "BadKind.__init__" (defArgs (inClass (top 8) 0)) (defBody (inClass (top 8) 0)) (Sup.scOf (defScope (inClass (top 8) 0)).names) [("__class__", cc_a_BadKind)] .none kV_a_BadKind dc_a_BadKind pm_a_BadKind an_a_BadKind (.ref cda_a_BadKind) ct_a_BadKind), sl_a_BadKind⟩)
    (c_a_BadKind : PySem.W.codeIn K (.ref cda_a_BadKind) "BadKind.__init__" = true)
    (cd_a_BadKind : K.lookup cda_a_BadKind = some ⟨ccl_a_BadKind, ccd_a_BadKind, .fields vs_a_BadKind, ccs_a_BadKind⟩)
    (v2_a_BadKind : vs_a_BadKind[2]? = some (.str file_a_BadKind tf_a_BadKind))
    (pf_a_BadKind : ((l.prog.main.file : Str) == file_a_BadKind) = true)
    (hc_a_BadKind : K.lookup cc_a_BadKind = some ⟨cl_a_BadKind, cld_a_BadKind, .cell (some (.ref a_BadKind)), csl_a_BadKind⟩)
    (no_a_BadKind_index : PySem.W.findIn K (.ref a_BadKind) "index" = some none)
    (ga_a_BadKind : PySem.W.findIn K (.ref a_BadKind) "__getattribute__" = some (some (.builtin "BaseException.__getattribute__")))
    (gg_a_BadKind : PySem.W.findIn K (.ref a_BadKind) "__getattr__" = some none)
    (hd_a_BadKind : PySem.W.hasDictIn K a_BadKind = true)
    (ca_a_BadKind : PySem.W.findIn K (.ref a_BadKind) "__class__" = some (some (.builtin "object.__class__")))
    (mo_a_BadKind : PySem.W.mroIn K a_BadKind (.type "object") = some true)
    (x_a_BadRule : K.lookup a_BadRule = some (excClassObj nm_a_BadRule qn_a_BadRule a_BadRule N_a_BadRule bs_a_BadRule [.ref a_StepError, .type "ValueError", .type "Exception", .type "BaseException", .type "object"] true sn_a_BadRule su_a_BadRule ab_a_BadRule col_a_BadRule dd_a_BadRule m0_a_BadRule m1_a_BadRule m2_a_BadRule m3_a_BadRule m5_a_BadRule "ValueError.__new__"))
    (sa_a_BadRule : PySem.W.findIn K (.ref a_BadRule) "__setattr__" = some (some (.builtin "object.__setattr__")))
    (eb_a_BadRule : PySem.W.subIn K (.ref a_BadRule) (.type "BaseException") = some true)
    (ty_a_BadRule : PySem.W.typeIn K (.ref a_BadRule) = some (.type "type"))
    (kc_a_BadRule : PySem.W.keepIn K (.ref a_BadRule) = true)
    (ms_a_BadRule : PySem.W.mroIn K a_BadRule (.ref a_BadRule) = some true)
    (su_a_BadRule : PySem.W.ks_superIn K a_BadRule a_BadRule "__init__" = some (some (.builtin "ValueError.__init__")))
    (ve_a_BadRule : PySem.W.subIn K (.ref a_BadRule) (.type "ValueError") = some true)
    (ci_a_BadRule : PySem.W.isClsIn K a_BadRule = true)
    (a_a_BadRule : PySem.W.findIn K (.ref a_BadRule) "__init__" = some (some (.ref f_a_BadRule)))
    (t_a_BadRule : PySem.W.typeIn K (.ref f_a_BadRule) = some (.type "function"))
    (l_a_BadRule : K.lookup f_a_BadRule = some ⟨oc_a_BadRule, od_a_BadRule, .func (PySem.W.fnX "__init__" "BadRule.__init__" (defArgs (inClass (top 9) 0)) (defBody (inClass (top 9) 0)) (Sup.scOf (defScope (inClass (top 9) 0)).names) [("__class__", cc_a_BadRule)] .none kV_a_BadRule dc_a_BadRule pm_a_BadRule an_a_BadRule (.ref cda_a_BadRule) ct_a_BadRule), sl_a_BadRule⟩)
    (c_a_BadRule : PySem.W.codeIn K (.ref cda_a_BadRule) "BadRule.__init__" = true)
    (cd_a_BadRule : K.lookup cda_a_BadRule = some ⟨ccl_a_BadRule, ccd_a_BadRule, .fields vs_a_BadRule, ccs_a_BadRule⟩)
    (v2_a_BadRule : vs_a_BadRule[2]? = some (.str file_a_BadRule tf_a_BadRule))
    (pf_a_BadRule : ((l.prog.main.file : Str) == file_a_BadRule) = true)
    (hc_a_BadRule : K.lookup cc_a_BadRule = some ⟨cl_a_BadRule, cld_a_BadRule, .cell (some (.ref a_BadRule)), csl_a_BadRule⟩)
    (no_a_BadRule_index : PySem.W.findIn K (.ref a_BadRule) "index" = some none)
    (ga_a_BadRule : PySem.W.findIn K (.ref a_BadRule) "__getattribute__" = some (some (.builtin "BaseException.__getattribute__")))
    (gg_a_BadRule : PySem.W.findIn K (.ref a_BadRule) "__getattr__" = some none)
    (hd_a_BadRule : PySem.W.hasDictIn K a_BadRule = true)
    (ca_a_BadRule : PySem.W.findIn K (.ref a_BadRule) "__class__" = some (some (.builtin "object.__class__")))
    (mo_a_BadRule : PySem.W.mroIn K a_BadRule (.type "object") = some true)
    (x_a_NotAnAnswer : K.lookup a_NotAnAnswer = some (excClassObj nm_a_NotAnAnswer qn_a_NotAnAnswer a_NotAnAnswer N_a_NotAnAnswer bs_a_NotAnAnswer [.ref a_StepError, .type "ValueError", .type "Exception", .type "BaseException", .type "object"] true sn_a_NotAnAnswer su_a_NotAnAnswer ab_a_NotAnAnswer col_a_NotAnAnswer dd_a_NotAnAnswer m0_a_NotAnAnswer m1_a_NotAnAnswer m2_a_NotAnAnswer m3_a_NotAnAnswer m5_a_NotAnAnswer "ValueError.__new__"))
    (sa_a_NotAnAnswer : PySem.W.findIn K (.ref a_NotAnAnswer) "__setattr__" = some (some (.builtin "object.__setattr__")))
    (eb_a_NotAnAnswer : PySem.W.subIn K (.ref a_NotAnAnswer) (.type "BaseException") = some true)
    (ty_a_NotAnAnswer : PySem.W.typeIn K (.ref a_NotAnAnswer) = some (.type "type"))
    (kc_a_NotAnAnswer : PySem.W.keepIn K (.ref a_NotAnAnswer) = true)
    (ms_a_NotAnAnswer : PySem.W.mroIn K a_NotAnAnswer (.ref a_NotAnAnswer) = some true)
    (su_a_NotAnAnswer : PySem.W.ks_superIn K a_NotAnAnswer a_NotAnAnswer "__init__" = some (some (.builtin "ValueError.__init__")))
    (ve_a_NotAnAnswer : PySem.W.subIn K (.ref a_NotAnAnswer) (.type "ValueError") = some true)
    (ci_a_NotAnAnswer : PySem.W.isClsIn K a_NotAnAnswer = true)
    (a_a_NotAnAnswer : PySem.W.findIn K (.ref a_NotAnAnswer) "__init__" = some (some (.ref f_a_NotAnAnswer)))
    (t_a_NotAnAnswer : PySem.W.typeIn K (.ref f_a_NotAnAnswer) = some (.type "function"))
    (l_a_NotAnAnswer : K.lookup f_a_NotAnAnswer = some ⟨oc_a_NotAnAnswer, od_a_NotAnAnswer, .func (PySem.W.fnX "__init__" "NotAnAnswer.__init__" (defArgs (inClass (top 10) 0)) (defBody (inClass (top 10) 0)) (Sup.scOf (defScope (inClass (top 10) 0)).names) [("__class__", cc_a_NotAnAnswer)] .none kV_a_NotAnAnswer dc_a_NotAnAnswer pm_a_NotAnAnswer an_a_NotAnAnswer (.ref cda_a_NotAnAnswer) ct_a_NotAnAnswer), sl_a_NotAnAnswer⟩)
    (c_a_NotAnAnswer : PySem.W.codeIn K (.ref cda_a_NotAnAnswer) "NotAnAnswer.__init__" = true)
    (cd_a_NotAnAnswer : K.lookup cda_a_NotAnAnswer = some ⟨ccl_a_NotAnAnswer, ccd_a_NotAnAnswer, .fields vs_a_NotAnAnswer, ccs_a_NotAnAnswer⟩)
    (v2_a_NotAnAnswer : vs_a_NotAnAnswer[2]? = some (.str file_a_NotAnAnswer tf_a_NotAnAnswer))
    (pf_a_NotAnAnswer : ((l.prog.main.file : Str) == file_a_NotAnAnswer) = true)
    (hc_a_NotAnAnswer : K.lookup cc_a_NotAnAnswer = some ⟨cl_a_NotAnAnswer, cld_a_NotAnAnswer, .cell (some (.ref a_NotAnAnswer)), csl_a_NotAnAnswer⟩)
    (no_a_NotAnAnswer_setting : PySem.W.findIn K (.ref a_NotAnAnswer) "setting" = some none)
    (ga_a_NotAnAnswer : PySem.W.findIn K (.ref a_NotAnAnswer) "__getattribute__" = some (some (.builtin "BaseException.__getattribute__")))
    (gg_a_NotAnAnswer : PySem.W.findIn K (.ref a_NotAnAnswer) "__getattr__" = some none)
    (hd_a_NotAnAnswer : PySem.W.hasDictIn K a_NotAnAnswer = true)
    (ca_a_NotAnAnswer : PySem.W.findIn K (.ref a_NotAnAnswer) "__class__" = some (some (.builtin "object.__class__")))
    (mo_a_NotAnAnswer : PySem.W.mroIn K a_NotAnAnswer (.type "object") = some true)
    (x_a_TooMany : K.lookup a_TooMany = some (excClassObj nm_a_TooMany qn_a_TooMany a_TooMany N_a_TooMany bs_a_TooMany [.ref a_StepError, .type "ValueError", .type "Exception", .type "BaseException", .type "object"] true sn_a_TooMany su_a_TooMany ab_a_TooMany col_a_TooMany dd_a_TooMany m0_a_TooMany m1_a_TooMany m2_a_TooMany m3_a_TooMany m5_a_TooMany "ValueError.__new__"))
    (sa_a_TooMany : PySem.W.findIn K (.ref a_TooMany) "__setattr__" = some (some (.builtin "object.__setattr__")))
    (eb_a_TooMany : PySem.W.subIn K (.ref a_TooMany) (.type "BaseException") = some true)
    (ty_a_TooMany : PySem.W.typeIn K (.ref a_TooMany) = some (.type "type"))
    (kc_a_TooMany : PySem.W.keepIn K (.ref a_TooMany) = true)
    (ms_a_TooMany : PySem.W.mroIn K a_TooMany (.ref a_TooMany) = some true)
    (su_a_TooMany : PySem.W.ks_superIn K a_TooMany a_TooMany "__init__" = some (some (.builtin "ValueError.__init__")))
    (ve_a_TooMany : PySem.W.subIn K (.ref a_TooMany) (.type "ValueError") = some true)
    (ci_a_TooMany : PySem.W.isClsIn K a_TooMany = true)
    (a_a_TooMany : PySem.W.findIn K (.ref a_TooMany) "__init__" = some (some (.ref f_a_TooMany)))
    (t_a_TooMany : PySem.W.typeIn K (.ref f_a_TooMany) = some (.type "function"))
    (l_a_TooMany : K.lookup f_a_TooMany = some ⟨oc_a_TooMany, od_a_TooMany, .func (PySem.W.fnX "__init__" "TooMany.__init__" (defArgs (inClass (top 11) 0)) (defBody (inClass (top 11) 0)) (Sup.scOf (defScope (inClass (top 11) 0)).names) [("__class__", cc_a_TooMany)] .none kV_a_TooMany dc_a_TooMany pm_a_TooMany an_a_TooMany (.ref cda_a_TooMany) ct_a_TooMany), sl_a_TooMany⟩)
    (c_a_TooMany : PySem.W.codeIn K (.ref cda_a_TooMany) "TooMany.__init__" = true)
    (cd_a_TooMany : K.lookup cda_a_TooMany = some ⟨ccl_a_TooMany, ccd_a_TooMany, .fields vs_a_TooMany, ccs_a_TooMany⟩)
    (v2_a_TooMany : vs_a_TooMany[2]? = some (.str file_a_TooMany tf_a_TooMany))
    (pf_a_TooMany : ((l.prog.main.file : Str) == file_a_TooMany) = true)
    (hc_a_TooMany : K.lookup cc_a_TooMany = some ⟨cl_a_TooMany, cld_a_TooMany, .cell (some (.ref a_TooMany)), csl_a_TooMany⟩)
    (no_a_TooMany_limit : PySem.W.findIn K (.ref a_TooMany) "limit" = some none)
    (ga_a_TooMany : PySem.W.findIn K (.ref a_TooMany) "__getattribute__" = some (some (.builtin "BaseException.__getattribute__")))
    (gg_a_TooMany : PySem.W.findIn K (.ref a_TooMany) "__getattr__" = some none)
    (hd_a_TooMany : PySem.W.hasDictIn K a_TooMany = true)
    (ca_a_TooMany : PySem.W.findIn K (.ref a_TooMany) "__class__" = some (some (.builtin "object.__class__")))
    (mo_a_TooMany : PySem.W.mroIn K a_TooMany (.type "object") = some true)
    (g_MOST_WIDTH : PySem.W.nsIn K mainGlobals "MOST_WIDTH" = some (some (.int 4 t_MOST_WIDTH)))
    (g_MOST_AT_ONCE : PySem.W.nsIn K mainGlobals "MOST_AT_ONCE" = some (some (.int 8 t_MOST_AT_ONCE)))
    (kit_NotAnAnswer_TooMany : PySem.W.kitOne K (.ref a_NotAnAnswer) (.ref a_TooMany) = some false)
    (kit_NotAnAnswer_StepError : PySem.W.kitOne K (.ref a_NotAnAnswer) (.ref a_StepError) = some true)
    (kit_NotAnAnswer_ValueError : PySem.W.kitOne K (.ref a_NotAnAnswer) (.type "ValueError") = some true)
    (exm_NotAnAnswer_NotAnAnswer : PySem.W.exmOne K (.ref a_NotAnAnswer) (.ref a_NotAnAnswer) = some true)
    (kit_TooMany_StepError : PySem.W.kitOne K (.ref a_TooMany) (.ref a_StepError) = some true)
    (kit_TooMany_ValueError : PySem.W.kitOne K (.ref a_TooMany) (.type "ValueError") = some true)
    (exm_TooMany_TooMany : PySem.W.exmOne K (.ref a_TooMany) (.ref a_TooMany) = some true)
    (exm_TooMany_NotAnAnswer : PySem.W.exmOne K (.ref a_TooMany) (.ref a_NotAnAnswer) = some false) :
    ∃ fd : FuncData, (∀ (s : Shared) (v : Value), BindsTo s fd ⟨[v], []⟩ [("script", v)]) ∧ ∀ base : Heap, K.In base → base.Ns mainGlobals mg → FnOk l.prog w K mg base (L2N.CX l.prog w) 7 fa fd ["script"] (mkSp K pLaw) := by
  have e := hfa.symm.trans (PySem.W.mg_of X G a_law)
  cases e
  have g_a_StepError : mg "StepError" = some (.ref a_StepError) := PySem.W.mg_of X G n_a_StepError
  have g_a_BadKind : mg "BadKind" = some (.ref a_BadKind) := PySem.W.mg_of X G n_a_BadKind
  have g_a_BadRule : mg "BadRule" = some (.ref a_BadRule) := PySem.W.mg_of X G n_a_BadRule
  have g_a_NotAnAnswer : mg "NotAnAnswer" = some (.ref a_NotAnAnswer) := PySem.W.mg_of X G n_a_NotAnAnswer
  have g_a_TooMany : mg "TooMany" = some (.ref a_TooMany) := PySem.W.mg_of X G n_a_TooMany
  have g_a_World : mg "World" = some (.ref a_World) := PySem.W.mg_of X G n_a_World
  have g_a_Kind : mg "Kind" = some (.ref a_Kind) := PySem.W.mg_of X G n_a_Kind
  have g_a_Rules : mg "Rules" = some (.ref a_Rules) := PySem.W.mg_of X G n_a_Rules
  have F_World_init := fun_mk (st := (inClass (top 13) 0)) l_World_init c_World_init k_World_init
  have b_World_init := F_World_init.binds (ps := ["self", "size"]) fun _ _ _ _ _ _ us hl => match us, hl with | [_, _], _ => rfl
  have Cl_a_Kind : Cls K a_Kind := ⟨pg_a_Kind, hd_a_Kind, po_a_Kind, sa_a_Kind⟩
  have Is_a_Kind : IsC K a_Kind := ⟨Cl_a_Kind, ca_a_Kind, oc0, oc1, mo_a_Kind⟩
  have F_Kind_init := fun_mk (st := (inClass (top 20) 0)) l_Kind_init c_Kind_init k_Kind_init
  have b_Kind_init := F_Kind_init.binds (ps := ["self", "name", "width", "tuples"]) fun _ _ _ _ _ _ us hl => match us, hl with | [_, _, _, _], _ => rfl
  have F_Kind_contains := fun_mk (st := (inClass (top 20) 1)) l_Kind_contains c_Kind_contains k_Kind_contains
  have b_Kind_contains := F_Kind_contains.binds (ps := ["self", "values"]) fun _ _ _ _ _ _ us hl => match us, hl with | [_, _], _ => rfl
  have V_a_Rules_MOST_LETTERS : ∃ u, ClX.CVal K a_Rules (.type "type") "MOST_LETTERS" (.int 14) u := ⟨_, cv_a_Rules_MOST_LETTERS, ⟨_, rfl⟩⟩
  have V_a_Rules_MOST_RULES : ∃ u, ClX.CVal K a_Rules (.type "type") "MOST_RULES" (.int 80) u := ⟨_, cv_a_Rules_MOST_RULES, ⟨_, rfl⟩⟩
  have Cl_a_Rules : Cls K a_Rules := ⟨pg_a_Rules, hd_a_Rules, po_a_Rules, sa_a_Rules⟩
  have Is_a_Rules : IsC K a_Rules := ⟨Cl_a_Rules, ca_a_Rules, oc0, oc1, mo_a_Rules⟩
  have F_Rules_at_rule := fun_mk (st := (inClass (top 25) 8)) l_Rules_at_rule c_Rules_at_rule k_Rules_at_rule
  have b_Rules_at_rule := F_Rules_at_rule.binds (ps := ["self", "index", "setting"]) fun _ _ _ _ _ _ us hl => match us, hl with | [_, _, _], _ => rfl
  have F_Rules_broken := fun_mk (st := (inClass (top 25) 10)) l_Rules_broken c_Rules_broken k_Rules_broken
  have b_Rules_broken := F_Rules_broken.binds (ps := ["self", "setting"]) fun _ _ _ _ _ _ us hl => match us, hl with | [_, _], _ => rfl
  have F_Rules_is_answer := fun_mk (st := (inClass (top 25) 3)) l_Rules_is_answer c_Rules_is_answer k_Rules_is_answer
  have b_Rules_is_answer := F_Rules_is_answer.binds (ps := ["self", "setting"]) fun _ _ _ _ _ _ us hl => match us, hl with | [_, _], _ => rfl
  have F_law_draw := fun_mk (st := (top 29)) l_law_draw c_law_draw k_law_draw
  have b_law_draw := F_law_draw.binds (ps := ["cell", "bases"]) fun _ _ _ _ _ _ us hl => match us, hl with | [_, _], _ => rfl
  have F_law_picked := fun_mk (st := (top 31)) l_law_picked c_law_picked k_law_picked
  have b_law_picked := F_law_picked.binds (ps := ["digits", "size"]) fun _ _ _ _ _ _ us hl => match us, hl with | [_, _], _ => rfl
  have F_law_some := fun_mk (st := (top 32)) l_law_some c_law_some k_law_some
  have b_law_some := F_law_some.binds (ps := ["cell", "size", "count"]) fun _ _ _ _ _ _ us hl => match us, hl with | [_, _, _], _ => rfl
  have F_are_letters := fun_mk (st := (top 26)) l_are_letters c_are_letters k_are_letters
  have b_are_letters := F_are_letters.binds (ps := ["letters", "width", "size"]) fun _ _ _ _ _ _ us hl => match us, hl with | [_, _, _], _ => rfl
  have F_check_width := fun_mk (st := (top 21)) l_check_width c_check_width k_check_width
  have b_check_width := F_check_width.binds (ps := ["width"]) fun _ _ _ _ _ _ us hl => match us, hl with | [_], _ => rfl
  have F_flipped := fun_mk (st := (top 3)) l_flipped c_flipped k_flipped
  have b_flipped := F_flipped.binds (ps := ["setting", "positions"]) fun _ _ _ _ _ _ us hl => match us, hl with | [_, _], _ => rfl
  have F_piece_around := fun_mk (st := (top 22)) l_piece_around c_piece_around k_piece_around
  have b_piece_around := F_piece_around.binds (ps := ["values", "tuples"]) fun _ _ _ _ _ _ us hl => match us, hl with | [_, _], _ => rfl
  have F_grouped_by_piece := fun_mk (st := (top 23)) l_grouped_by_piece c_grouped_by_piece k_grouped_by_piece
  have b_grouped_by_piece := F_grouped_by_piece.binds (ps := ["tuples"]) fun _ _ _ _ _ _ us hl => match us, hl with | [_], _ => rfl
  have F_is_name := fun_mk (st := (top 5)) l_is_name c_is_name k_is_name
  have b_is_name := F_is_name.binds (ps := ["text"]) fun _ _ _ _ _ _ us hl => match us, hl with | [_], _ => rfl
  have F_is_binary := fun_mk (st := (top 2)) l_is_binary c_is_binary k_is_binary
  have b_is_binary := F_is_binary.binds (ps := ["setting", "size"]) fun _ _ _ _ _ _ us hl => match us, hl with | [_, _], _ => rfl
  have F_law_world := fun_mk (st := (top 38)) l_law_world c_law_world k_law_world
  have b_law_world := F_law_world.binds (ps := ["size", "rules"]) fun _ _ _ _ _ _ us hl => match us, hl with | [_, _], _ => rfl
  have F_law_tuples := fun_mk (st := (top 30)) l_law_tuples c_law_tuples k_law_tuples
  have b_law_tuples := F_law_tuples.binds (ps := ["width"]) fun _ _ _ _ _ _ us hl => match us, hl with | [_], _ => rfl
  have F_law_values := fun_mk (st := (top 33)) l_law_values c_law_values k_law_values
  have b_law_values := F_law_values.binds (ps := ["setting", "letters"]) fun _ _ _ _ _ _ us hl => match us, hl with | [_, _], _ => rfl
  have F_law_keeps := fun_mk (st := (top 36)) l_law_keeps c_law_keeps k_law_keeps
  have b_law_keeps := F_law_keeps.binds (ps := ["setting", "rules"]) fun _ _ _ _ _ _ us hl => match us, hl with | [_, _], _ => rfl
  have F_law_due := fun_mk (st := (top 37)) l_law_due c_law_due k_law_due
  have b_law_due := F_law_due.binds (ps := ["setting", "rules", "letters"]) fun _ _ _ _ _ _ us hl => match us, hl with | [_, _, _], _ => rfl
  have F_law_wrong_settings := fun_mk (st := (top 41)) l_law_wrong_settings c_law_wrong_settings k_law_wrong_settings
  have b_law_wrong_settings := F_law_wrong_settings.binds (ps := ["setting", "rules", "at"]) fun _ _ _ _ _ _ us hl => match us, hl with | [_, _, _], _ => rfl
  have F_check_answer := fun_mk (st := (top 14)) l_check_answer c_check_answer k_check_answer
  have b_check_answer := F_check_answer.binds (ps := ["world", "setting"]) fun _ _ _ _ _ _ us hl => match us, hl with | [_, _], _ => rfl
  have F_all_binary := fun_mk (st := (top 4)) l_all_binary c_all_binary k_all_binary
  have b_all_binary := F_all_binary.binds (ps := ["size"]) fun _ _ _ _ _ _ us hl => match us, hl with | [_], _ => rfl
  have F_any_order := fun_mk (st := (top 17)) l_any_order c_any_order k_any_order
  have b_any_order := F_any_order.binds (ps := ["rules", "setting", "letters"]) fun _ _ _ _ _ _ us hl => match us, hl with | [_, _, _], _ => rfl
  have F_law_told := fun_mk (st := (top 39)) l_law_told c_law_told k_law_told
  have b_law_told := F_law_told.binds (ps := ["world", "setting", "letters", "due"]) fun _ _ _ _ _ _ us hl => match us, hl with | [_, _, _, _], _ => rfl
  have F_law_cell := fun_mk (st := (top 28)) l_law_cell c_law_cell k_law_cell
  have b_law_cell := F_law_cell.binds (ps := ["script", "k"]) fun _ _ _ _ _ _ us hl => match us, hl with | [_, _], _ => rfl
  have F_law_shown := fun_mk (st := (top 34)) l_law_shown c_law_shown k_law_shown
  have b_law_shown := F_law_shown.binds (ps := ["values", "own", "chosen", "letters"]) fun _ _ _ _ _ _ us hl => match us, hl with | [_, _, _, _], _ => rfl
  have F_law_rule := fun_mk (st := (top 35)) l_law_rule c_law_rule k_law_rule
  have b_law_rule := F_law_rule.binds (ps := ["cell", "size", "setting", "letters", "mode"]) fun _ _ _ _ _ _ us hl => match us, hl with | [_, _, _, _, _], _ => rfl
  have F_law_refused := fun_mk (st := (top 40)) l_law_refused c_law_refused k_law_refused
  have b_law_refused := F_law_refused.binds (ps := ["world", "setting", "letters", "word"]) fun _ _ _ _ _ _ us hl => match us, hl with | [_, _, _, _], _ => rfl
  have F_law := fun_mk (st := (top 42)) l_law c_law k_law
  have b_law := F_law.binds (ps := ["script"]) fun _ _ _ _ _ _ us hl => match us, hl with | [_], _ => rfl
  have m_int : mg "int" = none := PySem.W.mg_none_of X G z_int
  have m_range : mg "range" = none := PySem.W.mg_none_of X G z_range
  have m_len : mg "len" = none := PySem.W.mg_none_of X G z_len
  have m_enumerate : mg "enumerate" = none := PySem.W.mg_none_of X G z_enumerate
  have m_set : mg "set" = none := PySem.W.mg_none_of X G z_set
  have m_all : mg "all" = none := PySem.W.mg_none_of X G z_all
  have m_tuple : mg "tuple" = none := PySem.W.mg_none_of X G z_tuple
  have m_list : mg "list" = none := PySem.W.mg_none_of X G z_list
  have m_sorted : mg "sorted" = none := PySem.W.mg_none_of X G z_sorted
  have m_zip : mg "zip" = none := PySem.W.mg_none_of X G z_zip
  have m_isinstance : mg "isinstance" = none := PySem.W.mg_none_of X G z_isinstance
  have m_bool : mg "bool" = none := PySem.W.mg_none_of X G z_bool
  have m_min : mg "min" = none := PySem.W.mg_none_of X G z_min
  have m_ValueError : mg "ValueError" = none := PySem.W.mg_none_of X G z_ValueError
  have m_super : mg "super" = none := PySem.W.mg_none_of X G z_super
  have Ef_a_BadKind : ErrF l.prog K mg a_BadKind cda_a_BadKind cc_a_BadKind := ⟨⟨⟨_, _, _, _, _, _, _, _, _, _, _, _, _, _, _, x_a_BadKind, by rfl⟩, sa_a_BadKind, eb_a_BadKind, ty_a_BadKind, kc_a_BadKind⟩, ms_a_BadKind, su_a_BadKind, ve_a_BadKind, ⟨_, _, _, _, _, _, cd_a_BadKind, v2_a_BadKind, pf_a_BadKind⟩, tp, m_super, ci_a_BadKind, thr, ⟨_, _, _, hc_a_BadKind⟩⟩
  have Xc_a_BadKind : XcE K a_BadKind := ⟨⟨ga_a_BadKind, gg_a_BadKind, eb_a_BadKind, hd_a_BadKind⟩, ci_a_BadKind, ca_a_BadKind, oc0, oc1, mo_a_BadKind⟩
  have X_a_BadKind : Sup.Ex1 l.prog K mg "BadKind" "index" a_BadKind := err1 (txt := "not a kind") Ef_a_BadKind g_a_BadKind a_a_BadKind t_a_BadKind l_a_BadKind c_a_BadKind (NdefX.nscope_by (by decide +kernel)) (by decide +kernel) ⟨_, _, _, _, _, _, _, _, _, _, _, fun env => ⟨_, rfl⟩, rfl⟩ ⟨_, rfl, rfl⟩ no_a_BadKind_index (fun us hl => match us, hl with | [_, _], _ => rfl)
  have Ef_a_BadRule : ErrF l.prog K mg a_BadRule cda_a_BadRule cc_a_BadRule := ⟨⟨⟨_, _, _, _, _, _, _, _, _, _, _, _, _, _, _, x_a_BadRule, by rfl⟩, sa_a_BadRule, eb_a_BadRule, ty_a_BadRule, kc_a_BadRule⟩, ms_a_BadRule, su_a_BadRule, ve_a_BadRule, ⟨_, _, _, _, _, _, cd_a_BadRule, v2_a_BadRule, pf_a_BadRule⟩, tp, m_super, ci_a_BadRule, thr, ⟨_, _, _, hc_a_BadRule⟩⟩
  have Xc_a_BadRule : XcE K a_BadRule := ⟨⟨ga_a_BadRule, gg_a_BadRule, eb_a_BadRule, hd_a_BadRule⟩, ci_a_BadRule, ca_a_BadRule, oc0, oc1, mo_a_BadRule⟩
  have X_a_BadRule : Sup.Ex1 l.prog K mg "BadRule" "index" a_BadRule := err1 (txt := "not a rule") Ef_a_BadRule g_a_BadRule a_a_BadRule t_a_BadRule l_a_BadRule c_a_BadRule (NdefX.nscope_by (by decide +kernel)) (by decide +kernel) ⟨_, _, _, _, _, _, _, _, _, _, _, fun env => ⟨_, rfl⟩, rfl⟩ ⟨_, rfl, rfl⟩ no_a_BadRule_index (fun us hl => match us, hl with | [_, _], _ => rfl)
  have Ef_a_NotAnAnswer : ErrF l.prog K mg a_NotAnAnswer cda_a_NotAnAnswer cc_a_NotAnAnswer := ⟨⟨⟨_, _, _, _, _, _, _, _, _, _, _, _, _, _, _, x_a_NotAnAnswer, by rfl⟩, sa_a_NotAnAnswer, eb_a_NotAnAnswer, ty_a_NotAnAnswer, kc_a_NotAnAnswer⟩, ms_a_NotAnAnswer, su_a_NotAnAnswer, ve_a_NotAnAnswer, ⟨_, _, _, _, _, _, cd_a_NotAnAnswer, v2_a_NotAnAnswer, pf_a_NotAnAnswer⟩, tp, m_super, ci_a_NotAnAnswer, thr, ⟨_, _, _, hc_a_NotAnAnswer⟩⟩
  have Xc_a_NotAnAnswer : XcE K a_NotAnAnswer := ⟨⟨ga_a_NotAnAnswer, gg_a_NotAnAnswer, eb_a_NotAnAnswer, hd_a_NotAnAnswer⟩, ci_a_NotAnAnswer, ca_a_NotAnAnswer, oc0, oc1, mo_a_NotAnAnswer⟩
  have X_a_NotAnAnswer : Sup.Ex1 l.prog K mg "NotAnAnswer" "setting" a_NotAnAnswer := err1 (txt := "the setting is not an answer") Ef_a_NotAnAnswer g_a_NotAnAnswer a_a_NotAnAnswer t_a_NotAnAnswer l_a_NotAnAnswer c_a_NotAnAnswer (NdefX.nscope_by (by decide +kernel)) (by decide +kernel) ⟨_, _, _, _, _, _, _, _, _, _, _, fun env => ⟨_, rfl⟩, rfl⟩ ⟨_, rfl, rfl⟩ no_a_NotAnAnswer_setting (fun us hl => match us, hl with | [_, _], _ => rfl)
  have Ef_a_TooMany : ErrF l.prog K mg a_TooMany cda_a_TooMany cc_a_TooMany := ⟨⟨⟨_, _, _, _, _, _, _, _, _, _, _, _, _, _, _, x_a_TooMany, by rfl⟩, sa_a_TooMany, eb_a_TooMany, ty_a_TooMany, kc_a_TooMany⟩, ms_a_TooMany, su_a_TooMany, ve_a_TooMany, ⟨_, _, _, _, _, _, cd_a_TooMany, v2_a_TooMany, pf_a_TooMany⟩, tp, m_super, ci_a_TooMany, thr, ⟨_, _, _, hc_a_TooMany⟩⟩
  have Xc_a_TooMany : XcE K a_TooMany := ⟨⟨ga_a_TooMany, gg_a_TooMany, eb_a_TooMany, hd_a_TooMany⟩, ci_a_TooMany, ca_a_TooMany, oc0, oc1, mo_a_TooMany⟩
  have X_a_TooMany : Sup.Ex1 l.prog K mg "TooMany" "limit" a_TooMany := err1 (txt := "the limit is exceeded") Ef_a_TooMany g_a_TooMany a_a_TooMany t_a_TooMany l_a_TooMany c_a_TooMany (NdefX.nscope_by (by decide +kernel)) (by decide +kernel) ⟨_, _, _, _, _, _, _, _, _, _, _, fun env => ⟨_, rfl⟩, rfl⟩ ⟨_, rfl, rfl⟩ no_a_TooMany_limit (fun us hl => match us, hl with | [_, _], _ => rfl)
  have m_MOST_WIDTH : mg "MOST_WIDTH" = some (.int 4 t_MOST_WIDTH) := PySem.W.mg_of X G g_MOST_WIDTH
  have m_MOST_AT_ONCE : mg "MOST_AT_ONCE" = some (.int 8 t_MOST_AT_ONCE) := PySem.W.mg_of X G g_MOST_AT_ONCE
  have S_Rules_init : Sup.SupAt l.prog K mg f_Rules_init cda_Rules_init cc_Rules_init a_Rules _ "self" := ⟨⟨_, _, _, l_Rules_init⟩, ⟨_, rfl, rfl⟩, ⟨_, _, _, _, _, _, cd_Rules_init, v2_Rules_init, pf_Rules_init⟩, tp, m_super, Option.isSome_iff_exists.mp ci_Rules_init, thr⟩
  have SI_Rules_init : Sup.SupI K a_Rules a_Rules f_World_init := ⟨Option.isSome_iff_exists.mp ci_Rules_init, ms_Rules_init, su_Rules_init, wt_Rules_init, wf_Rules_init⟩
  have Z : Fx l.prog K mg (Ad.mk a_World a_Kind a_Rules a_StepError a_BadKind a_BadRule a_NotAnAnswer a_TooMany) := ⟨m_int, m_range, m_len, ⟨rd_a_Rules, rg_a_Rules⟩, V_a_Rules_MOST_LETTERS, g_a_Rules, V_a_Rules_MOST_RULES, X_a_BadRule, m_enumerate, Cl_a_Kind, no_a_Kind_width, m_set, m_all, no_a_Kind_name, no_a_Kind_tuples, m_tuple, Cl_a_Rules, no_a_Rules_on_letter, no_a_Rules_rules, m_list, ⟨_, m_MOST_WIDTH⟩, X_a_BadKind, m_sorted, no_a_Kind_grouped, no_a_Rules_size, X_a_NotAnAnswer, ⟨_, m_MOST_AT_ONCE⟩, X_a_TooMany, m_zip, m_isinstance, m_bool, m_min, g_a_TooMany, g_a_NotAnAnswer, kit_NotAnAnswer_TooMany, Xc_a_NotAnAnswer, kit_NotAnAnswer_StepError, g_a_StepError, kit_NotAnAnswer_ValueError, m_ValueError, no_a_NotAnAnswer_setting, exm_NotAnAnswer_NotAnAnswer, kit_TooMany_StepError, Xc_a_TooMany, kit_TooMany_ValueError, no_a_TooMany_limit, exm_TooMany_TooMany, exm_TooMany_NotAnAnswer⟩
  refine ⟨PySem.W.fnOf "law" "law" (defArgs (top 42)) (defBody (top 42)) (defScope (top 42)) .none kV_law dc_law pm_law an_law cd_law ct_law, fun s v => .of_eq rfl, fun base _ _ => ?_⟩
  have G_law_draw : FnG l.prog w K mg base "_law_draw" 1 ["cell", "bases"] (p_law_draw (Ad.mk a_World a_Kind a_Rules a_StepError a_BadKind a_BadRule a_NotAnAnswer a_TooMany)) := ⟨_, _, ok_law_draw F_law_draw Z , PySem.W.mg_of X G a_law_draw, k_law_draw, b_law_draw⟩
  have G_law_picked : FnG l.prog w K mg base "_law_picked" 1 ["digits", "size"] (p_law_picked (Ad.mk a_World a_Kind a_Rules a_StepError a_BadKind a_BadRule a_NotAnAnswer a_TooMany)) := ⟨_, _, ok_law_picked F_law_picked Z , PySem.W.mg_of X G a_law_picked, k_law_picked, b_law_picked⟩
  have G_law_some : FnG l.prog w K mg base "_law_some" 2 ["cell", "size", "count"] (p_law_some (Ad.mk a_World a_Kind a_Rules a_StepError a_BadKind a_BadRule a_NotAnAnswer a_TooMany)) := ⟨_, _, ok_law_some F_law_some Z G_law_draw G_law_picked, PySem.W.mg_of X G a_law_some, k_law_some, b_law_some⟩
  have G_are_letters : FnG l.prog w K mg base "are_letters" 1 ["letters", "width", "size"] (p_are_letters (Ad.mk a_World a_Kind a_Rules a_StepError a_BadKind a_BadRule a_NotAnAnswer a_TooMany)) := ⟨_, _, ok_are_letters F_are_letters Z , PySem.W.mg_of X G a_are_letters, k_are_letters, b_are_letters⟩
  have G_Rules_init : ClG l.prog w K mg base "Rules" a_Rules 3 ["self", "size", "rules"] (p_Rules_init (Ad.mk a_World a_Kind a_Rules a_StepError a_BadKind a_BadRule a_NotAnAnswer a_TooMany)) := ⟨_, _, ok_Rules_init Z l_Rules_init c_Rules_init ⟨_, _, _, hc_Rules_init⟩ S_Rules_init SI_Rules_init (ok_World_init F_World_init Z Cl_a_Rules no_a_Rules_size) b_World_init G_are_letters, ⟨mk_a_Rules, a_Rules_init, i_Rules_init, kc_a_Rules⟩, g_a_Rules, .all fun us hl => match us, hl with | [_, _, _], _ => rfl⟩
  have G_check_width : FnG l.prog w K mg base "check_width" 3 ["width"] (p_check_width (Ad.mk a_World a_Kind a_Rules a_StepError a_BadKind a_BadRule a_NotAnAnswer a_TooMany)) := ⟨_, _, ok_check_width F_check_width Z , PySem.W.mg_of X G a_check_width, k_check_width, b_check_width⟩
  have G_flipped : FnG l.prog w K mg base "flipped" 1 ["setting", "positions"] (p_flipped (Ad.mk a_World a_Kind a_Rules a_StepError a_BadKind a_BadRule a_NotAnAnswer a_TooMany)) := ⟨_, _, ok_flipped F_flipped Z , PySem.W.mg_of X G a_flipped, k_flipped, b_flipped⟩
  have G_piece_around : FnG l.prog w K mg base "piece_around" 2 ["values", "tuples"] (p_piece_around (Ad.mk a_World a_Kind a_Rules a_StepError a_BadKind a_BadRule a_NotAnAnswer a_TooMany)) := ⟨_, _, ok_piece_around F_piece_around Z G_flipped, PySem.W.mg_of X G a_piece_around, k_piece_around, b_piece_around⟩
  have G_grouped_by_piece : FnG l.prog w K mg base "grouped_by_piece" 3 ["tuples"] (p_grouped_by_piece (Ad.mk a_World a_Kind a_Rules a_StepError a_BadKind a_BadRule a_NotAnAnswer a_TooMany)) := ⟨_, _, ok_grouped_by_piece F_grouped_by_piece Z G_piece_around, PySem.W.mg_of X G a_grouped_by_piece, k_grouped_by_piece, b_grouped_by_piece⟩
  have G_is_name : FnG l.prog w K mg base "is_name" 1 ["text"] (p_is_name (Ad.mk a_World a_Kind a_Rules a_StepError a_BadKind a_BadRule a_NotAnAnswer a_TooMany)) := ⟨_, _, ok_is_name F_is_name Z , PySem.W.mg_of X G a_is_name, k_is_name, b_is_name⟩
  have G_is_binary : FnG l.prog w K mg base "is_binary" 1 ["setting", "size"] (p_is_binary (Ad.mk a_World a_Kind a_Rules a_StepError a_BadKind a_BadRule a_NotAnAnswer a_TooMany)) := ⟨_, _, ok_is_binary F_is_binary Z , PySem.W.mg_of X G a_is_binary, k_is_binary, b_is_binary⟩
  have G_Kind_init : ClG l.prog w K mg base "Kind" a_Kind 4 ["self", "name", "width", "tuples"] (p_Kind_init (Ad.mk a_World a_Kind a_Rules a_StepError a_BadKind a_BadRule a_NotAnAnswer a_TooMany)) := ⟨_, _, ok_Kind_init F_Kind_init Z G_is_name G_check_width G_is_binary G_grouped_by_piece, ⟨mk_a_Kind, a_Kind_init, i_Kind_init, kc_a_Kind⟩, g_a_Kind, b_Kind_init⟩
  have G_law_world : FnG l.prog w K mg base "_law_world" 6 ["size", "rules"] (p_law_world (Ad.mk a_World a_Kind a_Rules a_StepError a_BadKind a_BadRule a_NotAnAnswer a_TooMany)) := ⟨_, _, ok_law_world F_law_world Z G_Kind_init G_Rules_init, PySem.W.mg_of X G a_law_world, k_law_world, b_law_world⟩
  have G_law_tuples : FnG l.prog w K mg base "_law_tuples" 1 ["width"] (p_law_tuples (Ad.mk a_World a_Kind a_Rules a_StepError a_BadKind a_BadRule a_NotAnAnswer a_TooMany)) := ⟨_, _, ok_law_tuples F_law_tuples Z , PySem.W.mg_of X G a_law_tuples, k_law_tuples, b_law_tuples⟩
  have G_law_values_v2 : FnG l.prog w K mg base "_law_values" 1 ["setting", "letters"] (p_law_values_v2 (Ad.mk a_World a_Kind a_Rules a_StepError a_BadKind a_BadRule a_NotAnAnswer a_TooMany)) := ⟨_, _, ok_law_values_v2 F_law_values Z , PySem.W.mg_of X G a_law_values, k_law_values, b_law_values⟩
  have G_law_keeps : FnG l.prog w K mg base "_law_keeps" 2 ["setting", "rules"] (p_law_keeps (Ad.mk a_World a_Kind a_Rules a_StepError a_BadKind a_BadRule a_NotAnAnswer a_TooMany)) := ⟨_, _, ok_law_keeps F_law_keeps Z G_law_values_v2, PySem.W.mg_of X G a_law_keeps, k_law_keeps, b_law_keeps⟩
  have G_law_due : FnG l.prog w K mg base "_law_due" 3 ["setting", "rules", "letters"] (p_law_due (Ad.mk a_World a_Kind a_Rules a_StepError a_BadKind a_BadRule a_NotAnAnswer a_TooMany)) := ⟨_, _, ok_law_due F_law_due Z G_law_tuples G_law_keeps, PySem.W.mg_of X G a_law_due, k_law_due, b_law_due⟩
  have G_law_values_v3 : FnG l.prog w K mg base "_law_values" 1 ["setting", "letters"] (p_law_values_v3 (Ad.mk a_World a_Kind a_Rules a_StepError a_BadKind a_BadRule a_NotAnAnswer a_TooMany)) := ⟨_, _, ok_law_values_v3 F_law_values Z , PySem.W.mg_of X G a_law_values, k_law_values, b_law_values⟩
  have G_law_keeps_v2 : FnG l.prog w K mg base "_law_keeps" 2 ["setting", "rules"] (p_law_keeps_v2 (Ad.mk a_World a_Kind a_Rules a_StepError a_BadKind a_BadRule a_NotAnAnswer a_TooMany)) := ⟨_, _, ok_law_keeps_v2 F_law_keeps Z G_law_values_v3, PySem.W.mg_of X G a_law_keeps, k_law_keeps, b_law_keeps⟩
  have G_law_wrong_settings : FnG l.prog w K mg base "_law_wrong_settings" 3 ["setting", "rules", "at"] (p_law_wrong_settings (Ad.mk a_World a_Kind a_Rules a_StepError a_BadKind a_BadRule a_NotAnAnswer a_TooMany)) := ⟨_, _, ok_law_wrong_settings F_law_wrong_settings Z G_law_keeps_v2, PySem.W.mg_of X G a_law_wrong_settings, k_law_wrong_settings, b_law_wrong_settings⟩
  have G_Rules_at_rule : MtG l.prog w K mg base a_Rules "at_rule" 1 ["self", "index", "setting"] (p_Rules_at_rule (Ad.mk a_World a_Kind a_Rules a_StepError a_BadKind a_BadRule a_NotAnAnswer a_TooMany)) := ⟨_, _, ok_Rules_at_rule F_Rules_at_rule Z , ⟨a_Rules_at_rule, i_Rules_at_rule, k_Rules_at_rule⟩, b_Rules_at_rule⟩
  have G_Kind_contains : MtG l.prog w K mg base a_Kind "__contains__" 1 ["self", "values"] (p_Kind_contains (Ad.mk a_World a_Kind a_Rules a_StepError a_BadKind a_BadRule a_NotAnAnswer a_TooMany)) := ⟨_, _, ok_Kind_contains F_Kind_contains Z , ⟨a_Kind_contains, i_Kind_contains, k_Kind_contains⟩, b_Kind_contains⟩
  have G_Rules_broken : MtG l.prog w K mg base a_Rules "broken" 2 ["self", "setting"] (p_Rules_broken (Ad.mk a_World a_Kind a_Rules a_StepError a_BadKind a_BadRule a_NotAnAnswer a_TooMany)) := ⟨_, _, ok_Rules_broken F_Rules_broken Z G_Rules_at_rule G_Kind_contains, ⟨a_Rules_broken, i_Rules_broken, k_Rules_broken⟩, b_Rules_broken⟩
  have G_Rules_is_answer : MtG l.prog w K mg base a_Rules "is_answer" 3 ["self", "setting"] (p_Rules_is_answer (Ad.mk a_World a_Kind a_Rules a_StepError a_BadKind a_BadRule a_NotAnAnswer a_TooMany)) := ⟨_, _, ok_Rules_is_answer F_Rules_is_answer Z G_is_binary G_Rules_broken, ⟨a_Rules_is_answer, i_Rules_is_answer, k_Rules_is_answer⟩, b_Rules_is_answer⟩
  have G_check_answer : FnG l.prog w K mg base "check_answer" 4 ["world", "setting"] (p_check_answer (Ad.mk a_World a_Kind a_Rules a_StepError a_BadKind a_BadRule a_NotAnAnswer a_TooMany)) := ⟨_, _, ok_check_answer F_check_answer Z G_Rules_is_answer, PySem.W.mg_of X G a_check_answer, k_check_answer, b_check_answer⟩
  have G_all_binary : FnG l.prog w K mg base "all_binary" 1 ["size"] (p_all_binary (Ad.mk a_World a_Kind a_Rules a_StepError a_BadKind a_BadRule a_NotAnAnswer a_TooMany)) := ⟨_, _, ok_all_binary F_all_binary Z , PySem.W.mg_of X G a_all_binary, k_all_binary, b_all_binary⟩
  have G_any_order : FnG l.prog w K mg base "any_order" 5 ["rules", "setting", "letters"] (p_any_order (Ad.mk a_World a_Kind a_Rules a_StepError a_BadKind a_BadRule a_NotAnAnswer a_TooMany)) := ⟨_, _, ok_any_order F_any_order Z G_check_answer G_all_binary G_flipped G_Rules_is_answer, PySem.W.mg_of X G a_any_order, k_any_order, b_any_order⟩
  have G_law_told : FnG l.prog w K mg base "_law_told" 6 ["world", "setting", "letters", "due"] (p_law_told (Ad.mk a_World a_Kind a_Rules a_StepError a_BadKind a_BadRule a_NotAnAnswer a_TooMany)) := ⟨_, _, ok_law_told F_law_told Z G_any_order, PySem.W.mg_of X G a_law_told, k_law_told, b_law_told⟩
  have G_law_cell : FnG l.prog w K mg base "_law_cell" 1 ["script", "k"] (p_law_cell (Ad.mk a_World a_Kind a_Rules a_StepError a_BadKind a_BadRule a_NotAnAnswer a_TooMany)) := ⟨_, _, ok_law_cell F_law_cell Z , PySem.W.mg_of X G a_law_cell, k_law_cell, b_law_cell⟩
  have G_law_values : FnG l.prog w K mg base "_law_values" 1 ["setting", "letters"] (p_law_values (Ad.mk a_World a_Kind a_Rules a_StepError a_BadKind a_BadRule a_NotAnAnswer a_TooMany)) := ⟨_, _, ok_law_values F_law_values Z , PySem.W.mg_of X G a_law_values, k_law_values, b_law_values⟩
  have G_law_shown : FnG l.prog w K mg base "_law_shown" 1 ["values", "own", "chosen", "letters"] (p_law_shown (Ad.mk a_World a_Kind a_Rules a_StepError a_BadKind a_BadRule a_NotAnAnswer a_TooMany)) := ⟨_, _, ok_law_shown F_law_shown Z , PySem.W.mg_of X G a_law_shown, k_law_shown, b_law_shown⟩
  have G_law_rule : FnG l.prog w K mg base "_law_rule" 2 ["cell", "size", "setting", "letters", "mode"] (p_law_rule (Ad.mk a_World a_Kind a_Rules a_StepError a_BadKind a_BadRule a_NotAnAnswer a_TooMany)) := ⟨_, _, ok_law_rule F_law_rule Z G_law_draw G_law_picked G_law_values G_law_tuples G_law_shown, PySem.W.mg_of X G a_law_rule, k_law_rule, b_law_rule⟩
  have G_law_refused : FnG l.prog w K mg base "_law_refused" 6 ["world", "setting", "letters", "word"] (p_law_refused (Ad.mk a_World a_Kind a_Rules a_StepError a_BadKind a_BadRule a_NotAnAnswer a_TooMany)) := ⟨_, _, ok_law_refused F_law_refused Z G_any_order, PySem.W.mg_of X G a_law_refused, k_law_refused, b_law_refused⟩
  exact (ok_law F_law Z G_law_cell G_law_draw G_law_some G_law_rule G_law_world G_law_due G_law_told G_law_wrong_settings G_law_refused).imp (law_imp (A := (Ad.mk a_World a_Kind a_Rules a_StepError a_BadKind a_BadRule a_NotAnAnswer a_TooMany)) law_true)
end Y

open PySem PySem.W PyProof.Rows in
set_option maxRecDepth 100000 in
set_option maxHeartbeats 0 in
theorem PySem.Challenge.cw_everystepstands_k93_any_order_of_letters_holds : PySem.Challenge.rw_everystepstands_k93_any_order_of_letters.Holds := by
  w_on; o_law; k_head; (case hw => w_witness2)
  k_fill
  refine Y.walk 7 ⟨rfl, by decide, by decide⟩ (l := PySem.Challenge.rw_everystepstands_k93_any_order_of_letters) rfl rfl (fun w h Z => PySem.W.kIn_of Z) ?F
  case F =>
    intro w mg fa h KX G hmg
    refine' Y.all_mk KX G hmg ?n_a_StepError ?n_a_BadKind ?n_a_BadRule ?n_a_NotAnAnswer ?n_a_TooMany ?n_a_World ?n_a_Kind ?n_a_Rules ?oc0 ?oc1 ?a_World_init ?i_World_init ?l_World_init ?c_World_init ?k_World_init ?pg_a_Kind ?hd_a_Kind ?po_a_Kind ?sa_a_Kind ?kc_a_Kind ?mk_a_Kind ?ca_a_Kind ?mo_a_Kind ?no_a_Kind_width ?no_a_Kind_name ?no_a_Kind_tuples ?no_a_Kind_grouped ?a_Kind_init ?i_Kind_init ?l_Kind_init ?c_Kind_init ?k_Kind_init ?a_Kind_contains ?i_Kind_contains ?l_Kind_contains ?c_Kind_contains ?k_Kind_contains ?pg_a_Rules ?hd_a_Rules ?po_a_Rules ?sa_a_Rules ?kc_a_Rules ?mk_a_Rules ?ca_a_Rules ?mo_a_Rules ?rd_a_Rules ?rg_a_Rules ?cv_a_Rules_MOST_LETTERS ?cv_a_Rules_MOST_RULES ?no_a_Rules_on_letter ?no_a_Rules_rules ?no_a_Rules_size ?a_Rules_at_rule ?i_Rules_at_rule ?l_Rules_at_rule ?c_Rules_at_rule ?k_Rules_at_rule ?a_Rules_broken ?i_Rules_broken ?l_Rules_broken ?c_Rules_broken ?k_Rules_broken ?a_Rules_is_answer ?i_Rules_is_answer ?l_Rules_is_answer ?c_Rules_is_answer ?k_Rules_is_answer ?a_Rules_init ?i_Rules_init ?l_Rules_init ?c_Rules_init ?k_Rules_init ?cd_Rules_init ?v2_Rules_init ?pf_Rules_init ?hc_Rules_init ?ci_Rules_init ?ms_Rules_init ?su_Rules_init ?wt_Rules_init ?wf_Rules_init ?a_law_draw ?l_law_draw ?c_law_draw ?k_law_draw ?a_law_picked ?l_law_picked ?c_law_picked ?k_law_picked ?a_law_some ?l_law_some ?c_law_some ?k_law_some ?a_are_letters ?l_are_letters ?c_are_letters ?k_are_letters ?a_check_width ?l_check_width ?c_check_width ?k_check_width ?a_flipped ?l_flipped ?c_flipped ?k_flipped ?a_piece_around ?l_piece_around ?c_piece_around ?k_piece_around ?a_grouped_by_piece ?l_grouped_by_piece ?c_grouped_by_piece ?k_grouped_by_piece ?a_is_name ?l_is_name ?c_is_name ?k_is_name ?a_is_binary ?l_is_binary ?c_is_binary ?k_is_binary ?a_law_world ?l_law_world ?c_law_world ?k_law_world ?a_law_tuples ?l_law_tuples ?c_law_tuples ?k_law_tuples ?a_law_values ?l_law_values ?c_law_values ?k_law_values ?a_law_keeps ?l_law_keeps ?c_law_keeps ?k_law_keeps ?a_law_due ?l_law_due ?c_law_due ?k_law_due ?a_law_wrong_settings ?l_law_wrong_settings ?c_law_wrong_settings ?k_law_wrong_settings ?a_check_answer ?l_check_answer ?c_check_answer ?k_check_answer ?a_all_binary ?l_all_binary ?c_all_binary ?k_all_binary ?a_any_order ?l_any_order ?c_any_order ?k_any_order ?a_law_told ?l_law_told ?c_law_told ?k_law_told ?a_law_cell ?l_law_cell ?c_law_cell ?k_law_cell ?a_law_shown ?l_law_shown ?c_law_shown ?k_law_shown ?a_law_rule ?l_law_rule ?c_law_rule ?k_law_rule ?a_law_refused ?l_law_refused ?c_law_refused ?k_law_refused ?a_law ?l_law ?c_law ?k_law ?z_int ?z_range ?z_len ?z_enumerate ?z_set ?z_all ?z_tuple ?z_list ?z_sorted ?z_zip ?z_isinstance ?z_bool ?z_min ?z_ValueError ?z_super ?tp ?thr ?x_a_BadKind ?sa_a_BadKind ?eb_a_BadKind ?ty_a_BadKind ?kc_a_BadKind ?ms_a_BadKind ?su_a_BadKind ?ve_a_BadKind ?ci_a_BadKind ?a_a_BadKind ?t_a_BadKind ?l_a_BadKind ?c_a_BadKind ?cd_a_BadKind ?v2_a_BadKind ?pf_a_BadKind ?hc_a_BadKind ?no_a_BadKind_index ?ga_a_BadKind ?gg_a_BadKind ?hd_a_BadKind ?ca_a_BadKind ?mo_a_BadKind ?x_a_BadRule ?sa_a_BadRule ?eb_a_BadRule ?ty_a_BadRule ?kc_a_BadRule ?ms_a_BadRule ?su_a_BadRule ?ve_a_BadRule ?ci_a_BadRule ?a_a_BadRule ?t_a_BadRule ?l_a_BadRule ?c_a_BadRule ?cd_a_BadRule ?v2_a_BadRule ?pf_a_BadRule ?hc_a_BadRule ?no_a_BadRule_index ?ga_a_BadRule ?gg_a_BadRule ?hd_a_BadRule ?ca_a_BadRule ?mo_a_BadRule ?x_a_NotAnAnswer ?sa_a_NotAnAnswer ?eb_a_NotAnAnswer ?ty_a_NotAnAnswer ?kc_a_NotAnAnswer ?ms_a_NotAnAnswer ?su_a_NotAnAnswer ?ve_a_NotAnAnswer ?ci_a_NotAnAnswer ?a_a_NotAnAnswer ?t_a_NotAnAnswer ?l_a_NotAnAnswer ?c_a_NotAnAnswer ?cd_a_NotAnAnswer ?v2_a_NotAnAnswer ?pf_a_NotAnAnswer ?hc_a_NotAnAnswer ?no_a_NotAnAnswer_setting ?ga_a_NotAnAnswer ?gg_a_NotAnAnswer ?hd_a_NotAnAnswer ?ca_a_NotAnAnswer ?mo_a_NotAnAnswer ?x_a_TooMany ?sa_a_TooMany ?eb_a_TooMany ?ty_a_TooMany ?kc_a_TooMany ?ms_a_TooMany ?su_a_TooMany ?ve_a_TooMany ?ci_a_TooMany ?a_a_TooMany ?t_a_TooMany ?l_a_TooMany ?c_a_TooMany ?cd_a_TooMany ?v2_a_TooMany ?pf_a_TooMany ?hc_a_TooMany ?no_a_TooMany_limit ?ga_a_TooMany ?gg_a_TooMany ?hd_a_TooMany ?ca_a_TooMany ?mo_a_TooMany ?g_MOST_WIDTH ?g_MOST_AT_ONCE ?kit_NotAnAnswer_TooMany ?kit_NotAnAnswer_StepError ?kit_NotAnAnswer_ValueError ?exm_NotAnAnswer_NotAnAnswer ?kit_TooMany_StepError ?kit_TooMany_ValueError ?exm_TooMany_TooMany ?exm_TooMany_NotAnAnswer
    (case n_a_StepError => k_is)
    (case n_a_BadKind => k_is)
    (case n_a_BadRule => k_is)
    (case n_a_NotAnAnswer => k_is)
    (case n_a_TooMany => k_is)
    (case n_a_World => k_is)
    (case n_a_Kind => k_is)
    (case n_a_Rules => k_is)
    (case oc0 => k_is)
    (case oc1 => k_is)
    (case a_World_init => k_is)
    (case i_World_init => k_is)
    (case l_World_init => k_is)
    (case c_World_init => k_is)
    (case k_World_init => k_is)
    (case pg_a_Kind => k_is)
    (case hd_a_Kind => k_is)
    (case po_a_Kind => k_is)
    (case sa_a_Kind => k_is)
    (case kc_a_Kind => k_is)
    (case mk_a_Kind => k_is)
    (case ca_a_Kind => k_is)
    (case mo_a_Kind => k_is)
    (case no_a_Kind_width => k_is)
    (case no_a_Kind_name => k_is)
    (case no_a_Kind_tuples => k_is)
    (case no_a_Kind_grouped => k_is)
    (case a_Kind_init => k_is)
    (case i_Kind_init => k_is)
    (case l_Kind_init => k_is)
    (case c_Kind_init => k_is)
    (case k_Kind_init => k_is)
    (case a_Kind_contains => k_is)
    (case i_Kind_contains => k_is)
    (case l_Kind_contains => k_is)
    (case c_Kind_contains => k_is)
    (case k_Kind_contains => k_is)
    (case pg_a_Rules => k_is)
    (case hd_a_Rules => k_is)
    (case po_a_Rules => k_is)
    (case sa_a_Rules => k_is)
    (case kc_a_Rules => k_is)
    (case mk_a_Rules => k_is)
    (case ca_a_Rules => k_is)
    (case mo_a_Rules => k_is)
    (case rd_a_Rules => k_is)
    (case rg_a_Rules => k_is)
    (case cv_a_Rules_MOST_LETTERS => k_is)
    (case cv_a_Rules_MOST_RULES => k_is)
    (case no_a_Rules_on_letter => k_is)
    (case no_a_Rules_rules => k_is)
    (case no_a_Rules_size => k_is)
    (case a_Rules_at_rule => k_is)
    (case i_Rules_at_rule => k_is)
    (case l_Rules_at_rule => k_is)
    (case c_Rules_at_rule => k_is)
    (case k_Rules_at_rule => k_is)
    (case a_Rules_broken => k_is)
    (case i_Rules_broken => k_is)
    (case l_Rules_broken => k_is)
    (case c_Rules_broken => k_is)
    (case k_Rules_broken => k_is)
    (case a_Rules_is_answer => k_is)
    (case i_Rules_is_answer => k_is)
    (case l_Rules_is_answer => k_is)
    (case c_Rules_is_answer => k_is)
    (case k_Rules_is_answer => k_is)
    (case a_Rules_init => k_is)
    (case i_Rules_init => k_is)
    (case l_Rules_init => k_is)
    (case c_Rules_init => k_is)
    (case k_Rules_init => k_is)
    (case cd_Rules_init => k_is)
    (case v2_Rules_init => rfl)
    (case pf_Rules_init => decide +kernel)
    (case hc_Rules_init => k_is)
    (case ci_Rules_init => k_is)
    (case ms_Rules_init => k_is)
    (case su_Rules_init => ks_is)
    (case wt_Rules_init => k_is)
    (case wf_Rules_init => k_is)
    (case a_law_draw => k_is)
    (case l_law_draw => k_is)
    (case c_law_draw => k_is)
    (case k_law_draw => k_is)
    (case a_law_picked => k_is)
    (case l_law_picked => k_is)
    (case c_law_picked => k_is)
    (case k_law_picked => k_is)
    (case a_law_some => k_is)
    (case l_law_some => k_is)
    (case c_law_some => k_is)
    (case k_law_some => k_is)
    (case a_are_letters => k_is)
    (case l_are_letters => k_is)
    (case c_are_letters => k_is)
    (case k_are_letters => k_is)
    (case a_check_width => k_is)
    (case l_check_width => k_is)
    (case c_check_width => k_is)
    (case k_check_width => k_is)
    (case a_flipped => k_is)
    (case l_flipped => k_is)
    (case c_flipped => k_is)
    (case k_flipped => k_is)
    (case a_piece_around => k_is)
    (case l_piece_around => k_is)
    (case c_piece_around => k_is)
    (case k_piece_around => k_is)
    (case a_grouped_by_piece => k_is)
    (case l_grouped_by_piece => k_is)
    (case c_grouped_by_piece => k_is)
    (case k_grouped_by_piece => k_is)
    (case a_is_name => k_is)
    (case l_is_name => k_is)
    (case c_is_name => k_is)
    (case k_is_name => k_is)
    (case a_is_binary => k_is)
    (case l_is_binary => k_is)
    (case c_is_binary => k_is)
    (case k_is_binary => k_is)
    (case a_law_world => k_is)
    (case l_law_world => k_is)
    (case c_law_world => k_is)
    (case k_law_world => k_is)
    (case a_law_tuples => k_is)
    (case l_law_tuples => k_is)
    (case c_law_tuples => k_is)
    (case k_law_tuples => k_is)
    (case a_law_values => k_is)
    (case l_law_values => k_is)
    (case c_law_values => k_is)
    (case k_law_values => k_is)
    (case a_law_keeps => k_is)
    (case l_law_keeps => k_is)
    (case c_law_keeps => k_is)
    (case k_law_keeps => k_is)
    (case a_law_due => k_is)
    (case l_law_due => k_is)
    (case c_law_due => k_is)
    (case k_law_due => k_is)
    (case a_law_wrong_settings => k_is)
    (case l_law_wrong_settings => k_is)
    (case c_law_wrong_settings => k_is)
    (case k_law_wrong_settings => k_is)
    (case a_check_answer => k_is)
    (case l_check_answer => k_is)
    (case c_check_answer => k_is)
    (case k_check_answer => k_is)
    (case a_all_binary => k_is)
    (case l_all_binary => k_is)
    (case c_all_binary => k_is)
    (case k_all_binary => k_is)
    (case a_any_order => k_is)
    (case l_any_order => k_is)
    (case c_any_order => k_is)
    (case k_any_order => k_is)
    (case a_law_told => k_is)
    (case l_law_told => k_is)
    (case c_law_told => k_is)
    (case k_law_told => k_is)
    (case a_law_cell => k_is)
    (case l_law_cell => k_is)
    (case c_law_cell => k_is)
    (case k_law_cell => k_is)
    (case a_law_shown => k_is)
    (case l_law_shown => k_is)
    (case c_law_shown => k_is)
    (case k_law_shown => k_is)
    (case a_law_rule => k_is)
    (case l_law_rule => k_is)
    (case c_law_rule => k_is)
    (case k_law_rule => k_is)
    (case a_law_refused => k_is)
    (case l_law_refused => k_is)
    (case c_law_refused => k_is)
    (case k_law_refused => k_is)
    (case a_law => k_is)
    (case l_law => k_is)
    (case c_law => k_is)
    (case k_law => k_is)
    (case z_int => k_is)
    (case z_range => k_is)
    (case z_len => k_is)
    (case z_enumerate => k_is)
    (case z_set => k_is)
    (case z_all => k_is)
    (case z_tuple => k_is)
    (case z_list => k_is)
    (case z_sorted => k_is)
    (case z_zip => k_is)
    (case z_isinstance => k_is)
    (case z_bool => k_is)
    (case z_min => k_is)
    (case z_ValueError => k_is)
    (case z_super => k_is)
    (case tp => decide +kernel)
    (case thr => k_is)
    (case x_a_BadKind => k_is)
    (case sa_a_BadKind => k_is)
    (case eb_a_BadKind => k_is)
    (case ty_a_BadKind => k_is)
    (case kc_a_BadKind => k_is)
    (case ms_a_BadKind => k_is)
    (case su_a_BadKind => ks_is)
    (case ve_a_BadKind => k_is)
    (case ci_a_BadKind => k_is)
    (case a_a_BadKind => k_is)
    (case t_a_BadKind => k_is)
    (case l_a_BadKind => k_is)
    (case c_a_BadKind => k_is)
    (case cd_a_BadKind => k_is)
    (case v2_a_BadKind => rfl)
    (case pf_a_BadKind => decide +kernel)
    (case hc_a_BadKind => k_is)
    (case no_a_BadKind_index => k_is)
    (case ga_a_BadKind => k_is)
    (case gg_a_BadKind => k_is)
    (case hd_a_BadKind => k_is)
    (case ca_a_BadKind => k_is)
    (case mo_a_BadKind => k_is)
    (case x_a_BadRule => k_is)
    (case sa_a_BadRule => k_is)
    (case eb_a_BadRule => k_is)
    (case ty_a_BadRule => k_is)
    (case kc_a_BadRule => k_is)
    (case ms_a_BadRule => k_is)
    (case su_a_BadRule => ks_is)
    (case ve_a_BadRule => k_is)
    (case ci_a_BadRule => k_is)
    (case a_a_BadRule => k_is)
    (case t_a_BadRule => k_is)
    (case l_a_BadRule => k_is)
    (case c_a_BadRule => k_is)
    (case cd_a_BadRule => k_is)
    (case v2_a_BadRule => rfl)
    (case pf_a_BadRule => decide +kernel)
    (case hc_a_BadRule => k_is)
    (case no_a_BadRule_index => k_is)
    (case ga_a_BadRule => k_is)
    (case gg_a_BadRule => k_is)
    (case hd_a_BadRule => k_is)
    (case ca_a_BadRule => k_is)
    (case mo_a_BadRule => k_is)
    (case x_a_NotAnAnswer => k_is)
    (case sa_a_NotAnAnswer => k_is)
    (case eb_a_NotAnAnswer => k_is)
    (case ty_a_NotAnAnswer => k_is)
    (case kc_a_NotAnAnswer => k_is)
    (case ms_a_NotAnAnswer => k_is)
    (case su_a_NotAnAnswer => ks_is)
    (case ve_a_NotAnAnswer => k_is)
    (case ci_a_NotAnAnswer => k_is)
    (case a_a_NotAnAnswer => k_is)
    (case t_a_NotAnAnswer => k_is)
    (case l_a_NotAnAnswer => k_is)
    (case c_a_NotAnAnswer => k_is)
    (case cd_a_NotAnAnswer => k_is)
    (case v2_a_NotAnAnswer => rfl)
    (case pf_a_NotAnAnswer => decide +kernel)
    (case hc_a_NotAnAnswer => k_is)
    (case no_a_NotAnAnswer_setting => k_is)
    (case ga_a_NotAnAnswer => k_is)
    (case gg_a_NotAnAnswer => k_is)
    (case hd_a_NotAnAnswer => k_is)
    (case ca_a_NotAnAnswer => k_is)
    (case mo_a_NotAnAnswer => k_is)
    (case x_a_TooMany => k_is)
    (case sa_a_TooMany => k_is)
    (case eb_a_TooMany => k_is)
    (case ty_a_TooMany => k_is)
    (case kc_a_TooMany => k_is)
    (case ms_a_TooMany => k_is)
    (case su_a_TooMany => ks_is)
    (case ve_a_TooMany => k_is)
    (case ci_a_TooMany => k_is)
    (case a_a_TooMany => k_is)
    (case t_a_TooMany => k_is)
    (case l_a_TooMany => k_is)
    (case c_a_TooMany => k_is)
    (case cd_a_TooMany => k_is)
    (case v2_a_TooMany => rfl)
    (case pf_a_TooMany => decide +kernel)
    (case hc_a_TooMany => k_is)
    (case no_a_TooMany_limit => k_is)
    (case ga_a_TooMany => k_is)
    (case gg_a_TooMany => k_is)
    (case hd_a_TooMany => k_is)
    (case ca_a_TooMany => k_is)
    (case mo_a_TooMany => k_is)
    (case g_MOST_WIDTH => k_is)
    (case g_MOST_AT_ONCE => k_is)
    (case kit_NotAnAnswer_TooMany => kit_is)
    (case kit_NotAnAnswer_StepError => kit_is)
    (case kit_NotAnAnswer_ValueError => kit_is)
    (case exm_NotAnAnswer_NotAnAnswer => kts_exm)
    (case kit_TooMany_StepError => kit_is)
    (case kit_TooMany_ValueError => kit_is)
    (case exm_TooMany_TooMany => kts_exm)
    (case exm_TooMany_NotAnAnswer => kts_exm)

