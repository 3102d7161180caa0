import PyProof.Rows.All
import Wide.All
import OpenK.AllK
import Wide.FinOn
import HandS.ForMost
import HandS.ForExc
import HandS.Deep
import HandS.TupAny
import HandS.Conv
import HandS.IsInst
import HandS.Small
import HandS.SortInts
import KE.SortData
import HandS.ExcOwn
import HandS.ExcInit
import HandS.ExcField
import HandS.TryOnly
import HandS.ClsMeth
import KE.KDictCopyH
import HandS.TupLen
import HandS.Zip
import HandS.ExcIs
import KE.KExcIs
import KE.DataMinMax
import HandS.Text
import HandS.Strs
import PyProof.ListStr
import HandS.More
import HandS.Nested
import HandS.EndTab
import PySem.Challenge.RW_newfaces_k16_refusals_stand_apart
set_option Elab.async false
set_option linter.all false
set_option maxRecDepth 100000
set_option autoImplicit false
set_option maxHeartbeats 4000000
/-! DL1: deep data, what stands for it, what is known of the slots, and the judgements of the data layer. -/
namespace DL
open PySem PySem.Spec PyProof.Rows L2

inductive D where
  | non | bl (b : Bool) | int (i : Int) | str (s : Str)
  | tup (ds : List D) | lst (ds : List D)
  | pty (g s : Int)
  | raw (a : Addr)
  | exn (a dd : Addr) (f : Str) (n : Int)
  | clo (f : Addr) (obs : List (Addr × HO)) (vs : List V) (ds : List D)
  | dt (kvs : List (List Int × V))
  | dk (kvs : List (Int × V))

structure Cs where
  K : PySem.W.Frag
  C : Addr

def ptyF (g s : Int) : List (Str × V) := [("many", .int g), ("seats", .int s)]
def keyT (kvs : List (List Int × V)) : List (List Key × V) := kvs.map fun p => (p.1.map Sum.inl, p.2)
def keyK (kvs : List (Int × V)) : List (Key × V) := kvs.map fun p => (Sum.inl p.1, p.2)
def noH : Hp := fun _ => none
def TupAt (H : Hp) (A : Addr → Prop) (a : Addr) (vs : List V) : Prop := H a = some (.tup vs)
def LstAt (K : PySem.W.Frag) (H : Hp) (A : Addr → Prop) (a : Addr) (vs : List V) : Prop := (¬ A a ∧ Rd H a (.lst vs)) ∨ SqL K noH a vs
mutual
def Rep (Z : Cs) (H : Hp) (A : Addr → Prop) : D → V → Prop
  | .non, v => v = .non
  | .bl b, v => v = .bl b
  | .int i, v => v = .int i
  | .str s, v => v = .str s
  | .tup ds, v => ∃ a vs, v = .ref a ∧ TupAt H A a vs ∧ RepL Z H A ds vs
  | .lst ds, v => ∃ a vs, v = .ref a ∧ ¬ A a ∧ H a = some (.lst vs) ∧ RepL Z H A ds vs
  | .pty g s, v => ∃ a dx, v = .ref a ∧ H a = some (.ins Z.C dx (ptyF g s))
  | .raw a, v => v = .ref a
  | .exn a dd f n, v => v = .ref a ∧ H dd = some (.xd [(f, .int n)])
  | .clo f obs ws ds, v => v = .ref f ∧ (∀ p ∈ obs, (∀ ps, p.2 ≠ .tbl ps) ∧ ¬ A p.1 ∧ H p.1 = some p.2) ∧ RepL Z H A ds ws
  | .dt kvs, v => ∃ a, v = .ref a ∧ ¬ A a ∧ H a = some (.dT (keyT kvs))
  | .dk kvs, v => ∃ a, v = .ref a ∧ ¬ A a ∧ H a = some (.dK (keyK kvs))
def RepL (Z : Cs) (H : Hp) (A : Addr → Prop) : List D → List V → Prop
  | [], vs => vs = []
  | d :: ds, vs => ∃ v r, vs = v :: r ∧ Rep Z H A d v ∧ RepL Z H A ds r
end

section
variable {Z : Cs} {H H' : Hp} {A A' : Addr → Prop} {d : D} {ds es : List D} {v : V} {vs ws : List V} {i : Int} {b : Bool} {s : Str}
theorem rep_non : Rep Z H A .non v ↔ v = .non := by rw [Rep]
theorem rep_bl : Rep Z H A (.bl b) v ↔ v = .bl b := by rw [Rep]
theorem rep_int : Rep Z H A (.int i) v ↔ v = .int i := by rw [Rep]
theorem rep_str : Rep Z H A (.str s) v ↔ v = .str s := by rw [Rep]
theorem rep_tup : Rep Z H A (.tup ds) v ↔ ∃ a vs, v = .ref a ∧ TupAt H A a vs ∧ RepL Z H A ds vs := by rw [Rep]
theorem rep_lst : Rep Z H A (.lst ds) v ↔ ∃ a vs, v = .ref a ∧ ¬ A a ∧ H a = some (.lst vs) ∧ RepL Z H A ds vs := by rw [Rep]
theorem rep_pty {g s : Int} : Rep Z H A (.pty g s) v ↔ ∃ a dx, v = .ref a ∧ H a = some (.ins Z.C dx (ptyF g s)) := by rw [Rep]
theorem rep_exn {a dd : Addr} {f : Str} {n : Int} : Rep Z H A (.exn a dd f n) v ↔ v = .ref a ∧ H dd = some (.xd [(f, .int n)]) := by rw [Rep]
theorem rep_clo {f : Addr} {obs : List (Addr × HO)} : Rep Z H A (.clo f obs vs ds) v ↔ v = .ref f ∧ (∀ p ∈ obs, (∀ ps, p.2 ≠ .tbl ps) ∧ ¬ A p.1 ∧ H p.1 = some p.2) ∧ RepL Z H A ds vs := by rw [Rep]
theorem rep_raw {a : Addr} : Rep Z H A (.raw a) v ↔ v = .ref a := by rw [Rep]
theorem rep_dt {kvs : List (List Int × V)} : Rep Z H A (.dt kvs) v ↔ ∃ a, v = .ref a ∧ ¬ A a ∧ H a = some (.dT (keyT kvs)) := by rw [Rep]
theorem rep_dk {kvs : List (Int × V)} : Rep Z H A (.dk kvs) v ↔ ∃ a, v = .ref a ∧ ¬ A a ∧ H a = some (.dK (keyK kvs)) := by rw [Rep]
theorem repL_nil : RepL Z H A [] vs ↔ vs = [] := by rw [RepL]
theorem repL_cons : RepL Z H A (d :: ds) vs ↔ ∃ v r, vs = v :: r ∧ Rep Z H A d v ∧ RepL Z H A ds r := by rw [RepL]
/-- what never changes: tuples, instances -/
def immO : HO → Bool
  | .tup _ => true
  | .ins _ _ _ => true
  | .xd _ => true
  | _ => false
/-- the way data is carried over -/
structure Mv (H : Hp) (A : Addr → Prop) (H' : Hp) (A' : Addr → Prop) : Prop where
  mv : ∀ a o, ¬ A a → H a = some o → H' a = some o ∧ ¬ A' a
  tp : ∀ a o, immO o = true → H a = some o → H' a = some o
theorem Mv.rd (m : Mv H A H' A') {a : Addr} {u : HO} (n : ¬ A a) (h : Rd H a u) : ¬ A' a ∧ Rd H' a u := by
  rcases h with h | ⟨o, h⟩
  · exact ⟨(m.mv a _ n h).2, .inl (m.mv a _ n h).1⟩
  · exact ⟨(m.mv a _ n h).2, .inr ⟨o, (m.mv a _ n h).1⟩⟩
theorem TupAt.mv (m : Mv H A H' A') {a : Addr} (h : TupAt H A a vs) : TupAt H' A' a vs := m.tp a _ rfl h
theorem LstAt.mv {K : PySem.W.Frag} (m : Mv H A H' A') {a : Addr} (h : LstAt K H A a vs) : LstAt K H' A' a vs := by
  rcases h with ⟨n, h⟩ | h
  · exact .inl (m.rd n h)
  · exact .inr h
theorem TupAt.sq {K : PySem.W.Frag} {a : Addr} (h : TupAt H A a vs) : SqT K H a vs := .of h
theorem LstAt.sq {K : PySem.W.Frag} {a : Addr} (h : LstAt K H A a vs) : SqL K H a vs := by
  rcases h with ⟨_, h⟩ | h
  · exact .inl h
  · rcases h with (h | ⟨o, h⟩) | h
    · cases h
    · cases h
    · exact .inr h
mutual
theorem Rep.mv (m : Mv H A H' A') : ∀ {d : D} {v : V}, Rep Z H A d v → Rep Z H' A' d v
  | .non, _, h => rep_non.mpr (rep_non.mp h)
  | .bl _, _, h => rep_bl.mpr (rep_bl.mp h)
  | .int _, _, h => rep_int.mpr (rep_int.mp h)
  | .str _, _, h => rep_str.mpr (rep_str.mp h)
  | .tup ds, _, h => by
    obtain ⟨a, vs, e, t, r⟩ := rep_tup.mp h
    exact rep_tup.mpr ⟨a, vs, e, t.mv m, RepL.mv m r⟩
  | .lst ds, _, h => by
    obtain ⟨a, vs, e, n, t, r⟩ := rep_lst.mp h
    exact rep_lst.mpr ⟨a, vs, e, (m.mv a _ n t).2, (m.mv a _ n t).1, RepL.mv m r⟩
  | .raw _, _, h => rep_raw.mpr (rep_raw.mp h)
  | .exn _ _ _ _, _, h => rep_exn.mpr ⟨(rep_exn.mp h).1, m.tp _ _ rfl (rep_exn.mp h).2⟩
  | .clo _ _ _ _, _, h => by
    obtain ⟨e, o, r⟩ := rep_clo.mp h
    exact rep_clo.mpr ⟨e, fun p hp => ⟨(o p hp).1, (m.mv _ _ (o p hp).2.1 (o p hp).2.2).2, (m.mv _ _ (o p hp).2.1 (o p hp).2.2).1⟩, RepL.mv m r⟩
  | .pty g s, _, h => by
    obtain ⟨a, dx, e, t⟩ := rep_pty.mp h
    exact rep_pty.mpr ⟨a, dx, e, m.tp a _ rfl t⟩
  | .dt kvs, _, h => by
    obtain ⟨a, e, n, t⟩ := rep_dt.mp h
    exact rep_dt.mpr ⟨a, e, (m.mv a _ n t).2, (m.mv a _ n t).1⟩
  | .dk kvs, _, h => by
    obtain ⟨a, e, n, t⟩ := rep_dk.mp h
    exact rep_dk.mpr ⟨a, e, (m.mv a _ n t).2, (m.mv a _ n t).1⟩
theorem RepL.mv (m : Mv H A H' A') : ∀ {ds : List D} {vs : List V}, RepL Z H A ds vs → RepL Z H' A' ds vs
  | [], _, h => repL_nil.mpr (repL_nil.mp h)
  | d :: ds, _, h => by
    obtain ⟨v, r, e, h1, h2⟩ := repL_cons.mp h
    exact repL_cons.mpr ⟨v, r, e, Rep.mv m h1, RepL.mv m h2⟩
end
theorem RepL.length : ∀ {ds : List D} {vs : List V}, RepL Z H A ds vs → vs.length = ds.length
  | [], _, h => by rw [repL_nil.mp h]; rfl
  | d :: ds, _, h => by
    obtain ⟨v, r, rfl, h1, h2⟩ := repL_cons.mp h
    rw [List.length_cons, List.length_cons, RepL.length h2]
theorem RepL.get : ∀ {ds : List D} {vs : List V} {j : Nat} {v : V}, RepL Z H A ds vs → vs[j]? = some v → ∃ d, ds[j]? = some d ∧ Rep Z H A d v
  | [], _, _, _, h, e => by rw [repL_nil.mp h] at e; simp at e
  | d :: ds, _, 0, _, h, e => by
    obtain ⟨v, r, rfl, h1, h2⟩ := repL_cons.mp h
    cases e
    exact ⟨d, rfl, h1⟩
  | d :: ds, _, j + 1, _, h, e => by
    obtain ⟨v, r, rfl, h1, h2⟩ := repL_cons.mp h
    obtain ⟨d', a, b⟩ := RepL.get (j := j) h2 (by simpa using e)
    exact ⟨d', by simpa using a, b⟩
theorem RepL.at : ∀ {ds : List D} {vs : List V} {j : Nat} {d : D}, RepL Z H A ds vs → ds[j]? = some d → ∃ v, vs[j]? = some v ∧ Rep Z H A d v
  | [], _, _, _, h, e => by simp at e
  | d :: ds, _, 0, _, h, e => by
    obtain ⟨v, r, rfl, h1, h2⟩ := repL_cons.mp h
    cases e
    exact ⟨v, rfl, h1⟩
  | d :: ds, _, j + 1, _, h, e => by
    obtain ⟨v, r, rfl, h1, h2⟩ := repL_cons.mp h
    obtain ⟨d', a, b⟩ := RepL.at (j := j) h2 (by simpa using e)
    exact ⟨d', by simpa using a, b⟩
theorem RepL.append : ∀ {ds es : List D} {vs ws : List V}, RepL Z H A ds vs → RepL Z H A es ws → RepL Z H A (ds ++ es) (vs ++ ws)
  | [], _, _, _, h, k => by rw [repL_nil.mp h]; exact k
  | d :: ds, _, _, _, h, k => by
    obtain ⟨v, r, rfl, h1, h2⟩ := repL_cons.mp h
    exact repL_cons.mpr ⟨v, r ++ _, rfl, h1, RepL.append h2 k⟩
theorem RepL.one (h : Rep Z H A d v) : RepL Z H A [d] [v] := repL_cons.mpr ⟨v, [], rfl, h, repL_nil.mpr rfl⟩
theorem RepL.take : ∀ {ds : List D} {vs : List V} (n : Nat), RepL Z H A ds vs → RepL Z H A (ds.take n) (vs.take n)
  | ds, vs, 0, h => by rw [List.take_zero, List.take_zero]; exact repL_nil.mpr rfl
  | [], _, n + 1, h => by rw [repL_nil.mp h]; exact repL_nil.mpr rfl
  | d :: ds, _, n + 1, h => by
    obtain ⟨v, r, rfl, h1, h2⟩ := repL_cons.mp h
    exact repL_cons.mpr ⟨v, r.take n, rfl, h1, RepL.take n h2⟩
theorem RepL.drop : ∀ {ds : List D} {vs : List V} (n : Nat), RepL Z H A ds vs → RepL Z H A (ds.drop n) (vs.drop n)
  | ds, vs, 0, h => by rw [List.drop_zero, List.drop_zero]; exact h
  | [], _, n + 1, h => by rw [repL_nil.mp h]; exact repL_nil.mpr rfl
  | d :: ds, _, n + 1, h => by
    obtain ⟨v, r, rfl, h1, h2⟩ := repL_cons.mp h
    exact RepL.drop n h2
theorem RepL.reverse : ∀ {ds : List D} {vs : List V}, RepL Z H A ds vs → RepL Z H A ds.reverse vs.reverse
  | [], _, h => by rw [repL_nil.mp h]; exact repL_nil.mpr rfl
  | d :: ds, _, h => by
    obtain ⟨v, r, rfl, h1, h2⟩ := repL_cons.mp h
    rw [List.reverse_cons, List.reverse_cons]
    exact (RepL.reverse h2).append (.one h1)
theorem RepL.set : ∀ {ds : List D} {vs : List V} (j : Nat), Rep Z H A d v → RepL Z H A ds vs → RepL Z H A (ds.set j d) (vs.set j v)
  | [], _, _, _, h => by rw [repL_nil.mp h]; exact repL_nil.mpr rfl
  | _ :: ds, _, 0, k, h => by
    obtain ⟨_, r, rfl, h1, h2⟩ := repL_cons.mp h
    exact repL_cons.mpr ⟨v, r, rfl, k, h2⟩
  | e :: ds, _, j + 1, k, h => by
    obtain ⟨w, r, rfl, h1, h2⟩ := repL_cons.mp h
    exact repL_cons.mpr ⟨w, r.set j v, rfl, h1, RepL.set j k h2⟩
theorem RepL.eraseIdx : ∀ {ds : List D} {vs : List V} (j : Nat), RepL Z H A ds vs → RepL Z H A (ds.eraseIdx j) (vs.eraseIdx j)
  | [], _, _, h => by rw [repL_nil.mp h]; exact repL_nil.mpr rfl
  | _ :: ds, _, 0, h => by
    obtain ⟨_, r, rfl, h1, h2⟩ := repL_cons.mp h
    exact h2
  | e :: ds, _, j + 1, h => by
    obtain ⟨w, r, rfl, h1, h2⟩ := repL_cons.mp h
    exact repL_cons.mpr ⟨w, r.eraseIdx j, rfl, h1, RepL.eraseIdx j h2⟩
theorem repL_ints : ∀ {ns : List Int} {vs : List V}, RepL Z H A (ns.map D.int) vs ↔ vs = ns.map V.int
  | [], vs => repL_nil
  | n :: ns, vs => by
    rw [List.map_cons, List.map_cons, repL_cons]
    constructor
    · rintro ⟨v, r, rfl, h1, h2⟩
      rw [rep_int.mp h1, repL_ints.mp h2]
    · rintro rfl
      exact ⟨_, _, rfl, rep_int.mpr rfl, repL_ints.mpr rfl⟩
theorem repL_bls : ∀ {ns : List Bool} {vs : List V}, RepL Z H A (ns.map D.bl) vs ↔ vs = ns.map V.bl
  | [], vs => repL_nil
  | n :: ns, vs => by
    rw [List.map_cons, List.map_cons, repL_cons]
    constructor
    · rintro ⟨v, r, rfl, h1, h2⟩
      rw [rep_bl.mp h1, repL_bls.mp h2]
    · rintro rfl
      exact ⟨_, _, rfl, rep_bl.mpr rfl, repL_bls.mpr rfl⟩
theorem repL_strs : ∀ {ns : List Str} {vs : List V}, RepL Z H A (ns.map D.str) vs ↔ vs = ns.map V.str
  | [], vs => repL_nil
  | n :: ns, vs => by
    rw [List.map_cons, List.map_cons, repL_cons]
    constructor
    · rintro ⟨v, r, rfl, h1, h2⟩
      rw [rep_str.mp h1, repL_strs.mp h2]
    · rintro rfl
      exact ⟨_, _, rfl, rep_str.mpr rfl, repL_strs.mpr rfl⟩
end

/-! ### what is known of a slot -/
inductive En where
  | un | v (d : D) | l (ds : List D) | t (kvs : List (List Int × V)) | row
def own : En → Bool
  | .l _ => true
  | .t _ => true
  | _ => false
def Ow (σ : L2.St) (ρ : List En) (a : Addr) : Prop := ∃ (i : Nat) (e : En), ρ[i]? = some e ∧ own e = true ∧ σ[i]? = some (some (.ref a))
def Av (r : Option Addr) (X : Addr → Prop) (σ : L2.St) (ρ : List En) (a : Addr) : Prop := Ow σ ρ a ∨ X a ∨ r = some a
def RowOk (K : PySem.W.Frag) (H : Hp) (A : Addr → Prop) (a : Addr) : Prop :=
  ∃ (sc : Addr) (i m g : Int) (ns : List Int), H a = some (.lst [.ref sc, .int i, .int m, .int g]) ∧ LstAt K H A sc (ns.map V.int) ∧ ns.length ≤ 63 ∧ 0 ≤ i ∧ 0 ≤ m ∧ m < 2147483647
def EnOk (Z : Cs) (r : Option Addr) (H : Hp) (A : Addr → Prop) : En → Option (Option V) → Prop
  | .un, _ => True
  | .v d, s => ∃ v, s = some (some v) ∧ Rep Z H A d v
  | .l ds, s => ∃ a vs, s = some (some (.ref a)) ∧ H a = some (.lst vs) ∧ RepL Z H A ds vs
  | .t kvs, s => ∃ a, s = some (some (.ref a)) ∧ H a = some (.dT (keyT kvs))
  | .row, s => ∃ a, s = some (some (.ref a)) ∧ r = some a
structure Sv (Z : Cs) (r : Option Addr) (X : Addr → Prop) (H : Hp) (σ : L2.St) (ρ : List En) : Prop where
  len : σ.length = ρ.length
  at_ : ∀ (i : Nat) (e : En), ρ[i]? = some e → EnOk Z r H (Av r X σ ρ) e (σ[i]?)
  dis : ∀ (i j : Nat) (e e' : En) (a : Addr), ρ[i]? = some e → ρ[j]? = some e' → own e = true → own e' = true → σ[i]? = some (some (.ref a)) → σ[j]? = some (some (.ref a)) → i = j
  xin : ∀ a, X a → (∃ o, H a = some o) ∧ ¬ Ow σ ρ a
  row : ∀ a, r = some a → RowOk Z.K H (Av r X σ ρ) a ∧ ¬ Ow σ ρ a ∧ ¬ X a
/-- what was tracked and not owned stands -/
structure Fr (r : Option Addr) (σ : L2.St) (ρ : List En) (H : Hp) (σ' : L2.St) (ρ' : List En) (H' : Hp) : Prop where
  fr : ∀ a o, H a = some o → ¬ Ow σ ρ a → r ≠ some a → H' a = some o ∧ ¬ Ow σ' ρ' a
  dm : ∀ a o, H a = some o → ∃ o', H' a = some o'
  tp : ∀ a o, immO o = true → H a = some o → H' a = some o
/-- all but the row stands -/
structure Fx (r : Option Addr) (H H' : Hp) : Prop where
  fx : ∀ a o, H a = some o → r ≠ some a → H' a = some o
  dm : ∀ a o, H a = some o → ∃ o', H' a = some o'
  tp : ∀ a o, immO o = true → H a = some o → H' a = some o

section
variable {Z : Cs} {r : Option Addr} {X X' : Addr → Prop} {H H' H1 H2 : Hp} {σ σ' σ1 σ2 : L2.St} {ρ ρ' ρ1 ρ2 : List En} {d : D} {ds : List D} {v : V} {vs : List V} {a p : Addr} {o : HO}
theorem Fr.refl : Fr r σ ρ H σ ρ H := ⟨fun _ _ h n _ => ⟨h, n⟩, fun _ o h => ⟨o, h⟩, fun _ _ _ h => h⟩
theorem Fr.trans (a : Fr r σ ρ H σ1 ρ1 H1) (b : Fr r σ1 ρ1 H1 σ2 ρ2 H2) : Fr r σ ρ H σ2 ρ2 H2 :=
  ⟨fun x o h n k => b.fr x o (a.fr x o h n k).1 (a.fr x o h n k).2 k, fun x o h => let ⟨_, q⟩ := a.dm x o h; b.dm x _ q, fun x o i h => b.tp x o i (a.tp x o i h)⟩
theorem Fx.refl : Fx r H H := ⟨fun _ _ h _ => h, fun _ o h => ⟨o, h⟩, fun _ _ _ h => h⟩
theorem Fx.trans (a : Fx r H H1) (b : Fx r H1 H2) : Fx r H H2 :=
  ⟨fun x o h k => b.fx x o (a.fx x o h k) k, fun x o h => let ⟨_, q⟩ := a.dm x o h; b.dm x _ q, fun x o i h => b.tp x o i (a.tp x o i h)⟩
theorem Fx.fr (f : Fx r H H') : Fr r σ ρ H σ ρ H' := ⟨fun a o h n k => ⟨f.fx a o h k, n⟩, f.dm, f.tp⟩
theorem Fx.same (s : Same H H') : Fx r H H' := ⟨fun a o h _ => s a o h, fun a o h => ⟨o, s a o h⟩, fun a o _ h => s a o h⟩
theorem Fr.mv (f : Fr r σ ρ H σ' ρ' H') : Mv H (Av r X σ ρ) H' (Av r X σ' ρ') := ⟨fun a o n h => by
  have h1 := f.fr a o h (fun z => n (.inl z)) (fun z => n (.inr (.inr z)))
  refine ⟨h1.1, ?_⟩
  rintro (z | z | z)
  · exact h1.2 z
  · exact n (.inr (.inl z))
  · exact n (.inr (.inr z)), f.tp⟩
theorem Fx.mv (f : Fx r H H') : Mv H (Av r X σ ρ) H' (Av r X σ ρ) := f.fr.mv
theorem Fx.new (f : Fx r H H') (h : H' p = none) : H p = none := by
  cases e : H p with
  | none => rfl
  | some o =>
    obtain ⟨o', q⟩ := f.dm p o e
    rw [h] at q
    cases q
theorem Fr.new (f : Fr r σ ρ H σ' ρ' H') (h : H' p = none) : H p = none := by
  cases e : H p with
  | none => rfl
  | some o =>
    obtain ⟨o', q⟩ := f.dm p o e
    rw [h] at q
    cases q
theorem Sv.tracked (E : Sv Z r X H σ ρ) (h : Ow σ ρ a) : ∃ o, H a = some o := by
  obtain ⟨i, e, h1, h2, h3⟩ := h
  have q := E.at_ i e h1
  cases e with
  | l ds =>
    obtain ⟨b, vs, e1, e2, _⟩ := q
    rw [h3] at e1
    cases e1
    exact ⟨_, e2⟩
  | t kvs =>
    obtain ⟨b, e1, e2⟩ := q
    rw [h3] at e1
    cases e1
    exact ⟨_, e2⟩
  | un => cases h2
  | v d => cases h2
  | row => cases h2
theorem Sv.av_tracked (E : Sv Z r X H σ ρ) (h : Av r X σ ρ a) : ∃ o, H a = some o := by
  rcases h with h | h | h
  · exact E.tracked h
  · exact (E.xin a h).1
  · obtain ⟨sc, i, m, g, ns, q, _⟩ := (E.row a h).1
    exact ⟨_, q⟩
theorem RowOk.mv {K : PySem.W.Frag} {A A' : Addr → Prop} (h : RowOk K H A a) (m : Mv H A H' A') (k : ∀ o, H a = some o → H' a = some o) : RowOk K H' A' a := by
  obtain ⟨sc, i, mm, g, ns, h1, h2, h3⟩ := h
  exact ⟨sc, i, mm, g, ns, k _ h1, h2.mv m, h3⟩
theorem EnOk.mv {A A' : Addr → Prop} {e : En} {s : Option (Option V)} (m : Mv H A H' A') (k : own e = true → ∀ a o, s = some (some (.ref a)) → H a = some o → H' a = some o) (h : EnOk Z r H A e s) : EnOk Z r H' A' e s := by
  cases e with
  | un => trivial
  | v d =>
    obtain ⟨v, h1, h2⟩ := h
    exact ⟨v, h1, h2.mv m⟩
  | l ds =>
    obtain ⟨a, vs, h1, h2, h3⟩ := h
    exact ⟨a, vs, h1, k rfl a _ h1 h2, h3.mv m⟩
  | t kvs =>
    obtain ⟨a, h1, h2⟩ := h
    exact ⟨a, h1, k rfl a _ h1 h2⟩
  | row => exact h
/-- the heap grows; what is new may be kept apart -/
theorem Sv.grow (E : Sv Z r X H σ ρ) (s : Same H H') (hx : ∀ a, X' a → X a ∨ (H a = none ∧ ∃ o, H' a = some o)) : Sv Z r X' H' σ ρ := by
  have m : Mv H (Av r X σ ρ) H' (Av r X' σ ρ) := ⟨fun a o n h => by
    refine ⟨s a o h, ?_⟩
    rintro (z | z | z)
    · exact n (.inl z)
    · rcases hx a z with z | ⟨z, _⟩
      · exact n (.inr (.inl z))
      · rw [h] at z; cases z
    · exact n (.inr (.inr z)), fun a o _ h => s a o h⟩
  refine ⟨E.len, fun i e h => (E.at_ i e h).mv m fun _ a o _ q => s a o q, E.dis, fun a h => ?_, fun a h => ?_⟩
  · rcases hx a h with h | ⟨h, q⟩
    · obtain ⟨⟨o, h1⟩, h2⟩ := E.xin a h
      exact ⟨⟨o, s a o h1⟩, h2⟩
    · refine ⟨q, fun z => ?_⟩
      obtain ⟨o, z⟩ := E.tracked z
      rw [h] at z; cases z
  · obtain ⟨h1, h2, h3⟩ := E.row a h
    refine ⟨h1.mv m (s a), h2, fun z => ?_⟩
    rcases hx a z with z | ⟨z, _⟩
    · exact h3 z
    · obtain ⟨sc, i, mm, g, ns, q, _⟩ := h1
      rw [q] at z; cases z
theorem Sv.same (E : Sv Z r X H σ ρ) (s : Same H H') : Sv Z r X H' σ ρ := E.grow s fun _ h => .inl h
theorem same_upd (h : H p = none) : Same H (upd H p o) := fun b x e => by
  rw [upd_ne (ne_of_none e h)]
  exact e
/-- X with one more kept apart -/
def Xp (X : Addr → Prop) (p : Addr) : Addr → Prop := fun a => X a ∨ a = p
theorem Sv.put (E : Sv Z r X H σ ρ) (h : H p = none) : Sv Z r (Xp X p) (upd H p o) σ ρ := E.grow (same_upd h) fun a z => by
  rcases z with z | z
  · exact .inl z
  · subst z; exact .inr ⟨h, o, upd_same⟩
/-- nothing of X need be kept apart any more -/
theorem Sv.less (E : Sv Z r X H σ ρ) (h : ∀ a, X' a → X a) : Sv Z r X' H σ ρ := E.grow (Same.refl H) fun a z => .inl (h a z)
/-- an object kept apart changes -/
theorem Sv.turn {u : HO} (E : Sv Z r X H σ ρ) (h : X p) (hp : H p = some u) (hu : immO u = false) : Sv Z r X (upd H p o) σ ρ := by
  have np : ¬ Ow σ ρ p := (E.xin p h).2
  have nr : r ≠ some p := fun z => (E.row p z).2.2 h
  have m : Mv H (Av r X σ ρ) (upd H p o) (Av r X σ ρ) := ⟨fun a u n e => by
    refine ⟨?_, n⟩
    rw [upd_ne (fun z => n (.inr (.inl (by rw [z]; exact h))))]
    exact e, fun a w i e => by
    rw [upd_ne (fun z => by subst z; rw [hp] at e; cases e; rw [hu] at i; cases i)]
    exact e⟩
  refine ⟨E.len, fun i e q => (E.at_ i e q).mv m fun k a u z w => ?_, E.dis, fun a q => ?_, fun a q => ?_⟩
  · rw [upd_ne (fun y => np ⟨i, e, q, k, by rw [← y]; exact z⟩)]
    exact w
  · refine ⟨?_, (E.xin a q).2⟩
    by_cases e : a = p
    · subst e; exact ⟨o, upd_same⟩
    · rw [upd_ne e]; exact (E.xin a q).1
  · obtain ⟨h1, h2, h3⟩ := E.row a q
    refine ⟨h1.mv m fun u w => ?_, h2, h3⟩
    rw [upd_ne (fun z => nr (by rw [← z]; exact q))]
    exact w
end

/-! ### judgements -/
/-- data that may be read: apart from what is owned, or the list (dict) that a slot owns -/
def EnD : En → D → Prop
  | .l ds, d => d = .lst ds
  | .t kvs, d => d = .dt kvs
  | _, _ => False
def Rb (Z : Cs) (r : Option Addr) (X : Addr → Prop) (H : Hp) (σ : L2.St) (ρ : List En) (d : D) (v : V) : Prop :=
  Rep Z H (Av r X σ ρ) d v ∨ ∃ (i : Nat) (e : En), ρ[i]? = some e ∧ σ[i]? = some (some v) ∧ EnD e d
inductive RbL (Z : Cs) (r : Option Addr) (X : Addr → Prop) (H : Hp) (σ : L2.St) (ρ : List En) : List D → List V → Prop
  | nil : RbL Z r X H σ ρ [] []
  | cons {d : D} {v : V} {ds : List D} {vs : List V} (h : Rb Z r X H σ ρ d v) (t : RbL Z r X H σ ρ ds vs) : RbL Z r X H σ ρ (d :: ds) (v :: vs)
section
variable {Z : Cs} {r : Option Addr} {X X' : Addr → Prop} {H H' H1 H2 : Hp} {σ : L2.St} {ρ : List En} {d : D} {ds : List D} {v : V} {vs : List V} {a p : Addr}
theorem Rb.keep (f : Fx r H H') (h : Rb Z r X H σ ρ d v) : Rb Z r X H' σ ρ d v := by
  rcases h with h | h
  · exact .inl (h.mv f.mv)
  · exact .inr h
theorem RbL.keep (f : Fx r H H') : ∀ {ds : List D} {vs : List V}, RbL Z r X H σ ρ ds vs → RbL Z r X H' σ ρ ds vs
  | _, _, .nil => .nil
  | _, _, .cons h t => .cons (h.keep f) (RbL.keep f t)
theorem RepL.rb (h : RepL Z H (Av r X σ ρ) ds vs) : RbL Z r X H σ ρ ds vs := by
  induction ds generalizing vs with
  | nil => rw [repL_nil.mp h]; exact .nil
  | cons d ds ih =>
    obtain ⟨v, w, rfl, h1, h2⟩ := repL_cons.mp h
    exact .cons (.inl h1) (ih h2)
theorem Rb.lst (E : Sv Z r X H σ ρ) (h : Rb Z r X H σ ρ (.lst ds) v) : ∃ a vs, v = .ref a ∧ H a = some (.lst vs) ∧ RepL Z H (Av r X σ ρ) ds vs := by
  rcases h with h | ⟨i, e, h1, h2, h3⟩
  · obtain ⟨a, vs, e, _, t, q⟩ := rep_lst.mp h
    exact ⟨a, vs, e, t, q⟩
  · cases e with
    | l es =>
      cases h3
      obtain ⟨a, vs, q1, q2, q3⟩ := E.at_ i _ h1
      rw [h2] at q1
      cases q1
      exact ⟨a, vs, rfl, q2, q3⟩
    | t _ => cases h3
    | un => cases h3
    | v _ => cases h3
    | row => cases h3
theorem Rb.dt (E : Sv Z r X H σ ρ) {kvs : List (List Int × V)} (h : Rb Z r X H σ ρ (.dt kvs) v) : ∃ a, v = .ref a ∧ H a = some (.dT (keyT kvs)) := by
  rcases h with h | ⟨i, e, h1, h2, h3⟩
  · obtain ⟨a, e, _, t⟩ := rep_dt.mp h
    exact ⟨a, e, t⟩
  · cases e with
    | t es =>
      cases h3
      obtain ⟨a, q1, q2⟩ := E.at_ i _ h1
      rw [h2] at q1
      cases q1
      exact ⟨a, rfl, q2⟩
    | l _ => cases h3
    | un => cases h3
    | v _ => cases h3
    | row => cases h3
theorem Rb.rep (n1 : ∀ ds, d ≠ .lst ds) (n2 : ∀ k, d ≠ .dt k) (h : Rb Z r X H σ ρ d v) : Rep Z H (Av r X σ ρ) d v := by
  rcases h with h | ⟨i, e, h1, h2, h3⟩
  · exact h
  · cases e with
    | t k => exact absurd h3 (n2 k)
    | l k => exact absurd h3 (n1 k)
    | un => cases h3
    | v _ => cases h3
    | row => cases h3
theorem Rb.tup (h : Rb Z r X H σ ρ (.tup ds) v) : ∃ a vs, v = .ref a ∧ TupAt H (Av r X σ ρ) a vs ∧ RepL Z H (Av r X σ ρ) ds vs := rep_tup.mp (h.rep (fun _ z => nomatch z) (fun _ z => nomatch z))
theorem Rb.int {i : Int} (h : Rb Z r X H σ ρ (.int i) v) : v = .int i := rep_int.mp (h.rep (fun _ z => nomatch z) (fun _ z => nomatch z))
theorem Rb.bl {b : Bool} (h : Rb Z r X H σ ρ (.bl b) v) : v = .bl b := rep_bl.mp (h.rep (fun _ z => nomatch z) (fun _ z => nomatch z))
theorem Rb.str {s : Str} (h : Rb Z r X H σ ρ (.str s) v) : v = .str s := rep_str.mp (h.rep (fun _ z => nomatch z) (fun _ z => nomatch z))
theorem Rb.non (h : Rb Z r X H σ ρ .non v) : v = .non := rep_non.mp (h.rep (fun _ z => nomatch z) (fun _ z => nomatch z))
theorem Rb.exn {a dd : Addr} {f : Str} {n : Int} (h : Rb Z r X H σ ρ (.exn a dd f n) v) : v = .ref a ∧ H dd = some (.xd [(f, .int n)]) := rep_exn.mp (h.rep (fun _ z => nomatch z) (fun _ z => nomatch z))
theorem Rb.clo {f : Addr} {obs : List (Addr × HO)} {ws : List V} (h : Rb Z r X H σ ρ (.clo f obs ws ds) v) : v = .ref f ∧ (∀ p ∈ obs, (∀ ps, p.2 ≠ .tbl ps) ∧ ¬ Av r X σ ρ p.1 ∧ H p.1 = some p.2) ∧ RepL Z H (Av r X σ ρ) ds ws := rep_clo.mp (h.rep (fun _ z => nomatch z) (fun _ z => nomatch z))
theorem Rb.raw {a : Addr} (h : Rb Z r X H σ ρ (.raw a) v) : v = .ref a := rep_raw.mp (h.rep (fun _ z => nomatch z) (fun _ z => nomatch z))
theorem Rb.pty {g s : Int} (h : Rb Z r X H σ ρ (.pty g s) v) : ∃ a dx, v = .ref a ∧ H a = some (.ins Z.C dx (ptyF g s)) := by
  obtain ⟨a, dx, e, q⟩ := rep_pty.mp (h.rep (fun _ z => nomatch z) (fun _ z => nomatch z))
  exact ⟨a, dx, e, q⟩
end

/-- an expression gives data apart from all that is owned | data that may be read | a new list -/
def We (Z : Cs) (te : TE) (ρ : List En) (Q : D → Prop) : Prop := ∀ r X σ H, Sv Z r X H σ ρ → ∀ k : VK,
  (∀ v d H', Sv Z r X H' σ ρ → Fx r H H' → Rep Z H' (Av r X σ ρ) d v → Q d → k v H') → te σ H k
def Wb (Z : Cs) (te : TE) (ρ : List En) (Q : D → Prop) : Prop := ∀ r X σ H, Sv Z r X H σ ρ → ∀ k : VK,
  (∀ v d H', Sv Z r X H' σ ρ → Fx r H H' → Rb Z r X H' σ ρ d v → Q d → k v H') → te σ H k
def Wl (Z : Cs) (te : TE) (ρ : List En) (Q : List D → Prop) : Prop := ∀ r X σ H, Sv Z r X H σ ρ → ∀ k : VK,
  (∀ p vs ds H', H p = none → Sv Z r (Xp X p) H' σ ρ → Fx r H H' → H' p = some (.lst vs) → RepL Z H' (Av r (Xp X p) σ ρ) ds vs → Q ds → k (.ref p) H') → te σ H k
def Wd (Z : Cs) (te : TE) (ρ : List En) (Q : List (List Int × V) → Prop) : Prop := ∀ r X σ H, Sv Z r X H σ ρ → ∀ k : VK,
  (∀ p kvs H', H p = none → Sv Z r (Xp X p) H' σ ρ → Fx r H H' → H' p = some (.dT (keyT kvs)) → Q kvs → k (.ref p) H') → te σ H k
def Wt (Z : Cs) (tt : TT) (ρ : List En) (Q : Bool → Prop) : Prop := ∀ r X σ H, Sv Z r X H σ ρ → ∀ k : Bool → Hp → Prop,
  (∀ b H', Sv Z r X H' σ ρ → Fx r H H' → Q b → k b H') → tt σ H k
def Wa (Z : Cs) (ta : TA) (ρ : List En) (Q : List D → Prop) : Prop := ∀ r X σ H, Sv Z r X H σ ρ → ∀ k : List V → Hp → Prop,
  (∀ vs ds H', Sv Z r X H' σ ρ → Fx r H H' → RepL Z H' (Av r X σ ρ) ds vs → Q ds → k vs H') → ta σ H k
def Wab (Z : Cs) (ta : TA) (ρ : List En) (Q : List D → Prop) : Prop := ∀ r X σ H, Sv Z r X H σ ρ → ∀ k : List V → Hp → Prop,
  (∀ vs ds H', Sv Z r X H' σ ρ → Fx r H H' → RbL Z r X H' σ ρ ds vs → Q ds → k vs H') → ta σ H k
/-- what is wanted behind a statement: of the slots; of what is returned, a value | a new list | a new dict -/
structure Po where
  nx : List En → Prop
  rt : D → Prop := fun _ => False
  rl : List D → Prop := fun _ => False
  rd : List (List Int × V) → Prop := fun _ => False
def Ws (Z : Cs) (ts : TS) (ρ : List En) (P : Po) : Prop := ∀ r X σ H, Sv Z r X H σ ρ → ∀ F : Ends,
  (∀ σ' ρ' H', Sv Z r X H' σ' ρ' → Fr r σ ρ H σ' ρ' H' → P.nx ρ' → F.nx σ' H') →
  (∀ v d H' σ' ρ', Sv Z r X H' σ' ρ' → Fr r σ ρ H σ' ρ' H' → Rep Z H' (Av r X σ' ρ') d v → P.rt d → F.rt v H') →
  (∀ p vs ds H' σ' ρ', H p = none → Sv Z r (Xp X p) H' σ' ρ' → Fr r σ ρ H σ' ρ' H' → H' p = some (.lst vs) → RepL Z H' (Av r (Xp X p) σ' ρ') ds vs → P.rl ds → F.rt (.ref p) H') →
  (∀ p kvs H' σ' ρ', H p = none → Sv Z r (Xp X p) H' σ' ρ' → Fr r σ ρ H σ' ρ' H' → H' p = some (.dT (keyT kvs)) → P.rd kvs → F.rt (.ref p) H') → ts F σ H
end DL
/-! DL2: expressions over the data layer. -/
namespace DL
open PySem PySem.Spec PyProof.Rows L2

/-! ### data as PyData: ==, in, sorted -/
mutual
def toPy : D → PyData
  | .non => .none
  | .bl b => .bool b
  | .int i => .int i
  | .str s => .str s
  | .tup ds => .tuple (toPyL ds)
  | .lst ds => .list (toPyL ds)
  | .pty _ _ => .dict []
  | .raw _ => .dict []
  | .exn _ _ _ _ => .dict []
  | .clo _ _ _ _ => .dict []
  | .dt _ => .dict []
  | .dk _ => .dict []
def toPyL : List D → List PyData
  | [] => []
  | d :: ds => toPy d :: toPyL ds
end
theorem toPyL_map : ∀ ds : List D, toPyL ds = ds.map toPy
  | [] => by rw [toPyL]; rfl
  | d :: ds => by rw [toPyL, toPyL_map ds]; rfl
theorem toPy_int (i : Int) : toPy (.int i) = .int i := by rw [toPy]
theorem toPy_bl (i : Bool) : toPy (.bl i) = .bool i := by rw [toPy]
theorem toPy_str (i : Str) : toPy (.str i) = .str i := by rw [toPy]
theorem toPy_non : toPy .non = .none := by rw [toPy]
theorem toPy_tup (ds : List D) : toPy (.tup ds) = .tuple (ds.map toPy) := by rw [toPy, toPyL_map]
theorem toPy_lst (ds : List D) : toPy (.lst ds) = .list (ds.map toPy) := by rw [toPy, toPyL_map]
section
variable {Z : Cs} {r : Option Addr} {X X' : Addr → Prop} {H H' H1 H2 : Hp} {A : Addr → Prop} {σ : L2.St} {ρ : List En} {d : D} {ds : List D} {v w : V} {vs ws : List V} {a p : Addr}
mutual
theorem rep_dp : ∀ {d : D} {v : V}, PyData.canLay0 (toPy d) = true → Rep Z H A d v → Dp Z.K H v (toPy d)
  | .non, _, _, h => by rw [rep_non.mp h, toPy]; exact .non
  | .bl b, _, _, h => by rw [rep_bl.mp h, toPy]; exact .bl b
  | .int i, _, _, h => by rw [rep_int.mp h, toPy]; exact .int i
  | .str s, _, _, h => by rw [rep_str.mp h, toPy]; exact .str s
  | .tup ds, _, c, h => by
    obtain ⟨a, vs, rfl, t, q⟩ := rep_tup.mp h
    rw [toPy] at c ⊢
    exact .tup t.sq (repL_dp (by simpa only [PyData.canLay0] using c) q)
  | .lst ds, _, c, h => by
    obtain ⟨a, vs, rfl, _, t, q⟩ := rep_lst.mp h
    rw [toPy] at c ⊢
    exact .lst (.inl (.inl t)) (repL_dp (by simpa only [PyData.canLay0] using c) q)
  | .exn _ _ _ _, _, c, _ => by rw [toPy] at c; simp [PyData.canLay0] at c
  | .clo _ _ _ _, _, c, _ => by rw [toPy] at c; simp [PyData.canLay0] at c
  | .raw _, _, c, _ => by rw [toPy] at c; simp [PyData.canLay0] at c
  | .pty _ _, _, c, _ => by rw [toPy] at c; simp [PyData.canLay0] at c
  | .dt _, _, c, _ => by rw [toPy] at c; simp [PyData.canLay0] at c
  | .dk _, _, c, _ => by rw [toPy] at c; simp [PyData.canLay0] at c
theorem repL_dp : ∀ {ds : List D} {vs : List V}, PyData.canLayAll0 (toPyL ds) = true → RepL Z H A ds vs → DpAll Z.K H vs (toPyL ds)
  | [], _, _, h => by rw [repL_nil.mp h, toPyL]; exact .nil
  | d :: ds, _, c, h => by
    obtain ⟨v, r, rfl, h1, h2⟩ := repL_cons.mp h
    rw [toPyL] at c ⊢
    rw [PyData.canLayAll0, Bool.and_eq_true] at c
    exact .cons (rep_dp c.1 h1) (repL_dp c.2 h2)
end
theorem Rb.dp (E : Sv Z r X H σ ρ) (c : PyData.canLay0 (toPy d) = true) (h : Rb Z r X H σ ρ d v) : Dp Z.K H v (toPy d) := by
  cases d with
  | lst ds =>
    obtain ⟨a, vs, rfl, t, q⟩ := h.lst E
    rw [toPy] at c ⊢
    exact .lst (.inl (.inl t)) (repL_dp (by simpa only [PyData.canLay0] using c) q)
  | dt k => rw [toPy] at c; simp [PyData.canLay0] at c
  | _ => exact rep_dp c (h.rep (fun _ z => nomatch z) (fun _ z => nomatch z))
end

/-! ### from one judgement to another -/
section
variable {Z : Cs} {ρ : List En} {Q Q' : D → Prop} {te ta tb tc : TE} {tt tu : TT} {d : D} {ds : List D}
theorem We.imp (h : We Z te ρ Q) (w : ∀ d, Q d → Q' d) : We Z te ρ Q' := fun r X σ H E k hk => h r X σ H E k fun v d H' a b c q => hk v d H' a b c (w d q)
theorem Wb.imp (h : Wb Z te ρ Q) (w : ∀ d, Q d → Q' d) : Wb Z te ρ Q' := fun r X σ H E k hk => h r X σ H E k fun v d H' a b c q => hk v d H' a b c (w d q)
theorem Wl.imp {Q Q' : List D → Prop} (h : Wl Z te ρ Q) (w : ∀ d, Q d → Q' d) : Wl Z te ρ Q' := fun r X σ H E k hk => h r X σ H E k fun p vs ds H' n a b c e q => hk p vs ds H' n a b c e (w ds q)
theorem Wt.imp {Q Q' : Bool → Prop} (h : Wt Z tt ρ Q) (w : ∀ d, Q d → Q' d) : Wt Z tt ρ Q' := fun r X σ H E k hk => h r X σ H E k fun b H' a c q => hk b H' a c (w b q)
theorem wb_we (h : We Z te ρ Q) : Wb Z te ρ Q := fun r X σ H E k hk => h r X σ H E k fun v d H' a b c q => hk v d H' a b (.inl c) q
theorem Xp.av {r : Option Addr} {X : Addr → Prop} {σ : L2.St} {p a : Addr} (h : Av r X σ ρ a) : Av r (Xp X p) σ ρ a := by
  rcases h with h | h | h
  · exact .inl h
  · exact .inr (.inl (.inl h))
  · exact .inr (.inr h)
theorem RepL.less {r : Option Addr} {X : Addr → Prop} {σ : L2.St} {p : Addr} {H : Hp} {vs : List V} (h : RepL Z H (Av r (Xp X p) σ ρ) ds vs) : RepL Z H (Av r X σ ρ) ds vs := h.mv ⟨fun _ _ n e => ⟨e, fun z => n (Xp.av z)⟩, fun _ _ _ e => e⟩
theorem Rep.less {r : Option Addr} {X : Addr → Prop} {σ : L2.St} {p : Addr} {H : Hp} {v : V} (h : Rep Z H (Av r (Xp X p) σ ρ) d v) : Rep Z H (Av r X σ ρ) d v := h.mv ⟨fun _ _ n e => ⟨e, fun z => n (Xp.av z)⟩, fun _ _ _ e => e⟩
theorem new_apart {r : Option Addr} {X : Addr → Prop} {σ : L2.St} {H : Hp} {p : Addr} (E : Sv Z r X H σ ρ) (h : H p = none) : ¬ Av r X σ ρ p := fun z => by
  obtain ⟨o, q⟩ := E.av_tracked z
  rw [h] at q; cases q
theorem we_wl (h : Wl Z te ρ fun ds => Q (.lst ds)) : We Z te ρ Q := fun r X σ H E k hk => h r X σ H E k fun p vs ds H' n a b c e q =>
  hk _ _ H' (a.less fun _ z => .inl z) b (rep_lst.mpr ⟨p, vs, rfl, new_apart E n, c, e.less⟩) q
theorem we_wd (h : Wd Z te ρ fun ds => Q (.dt ds)) : We Z te ρ Q := fun r X σ H E k hk => h r X σ H E k fun p kvs H' n a b c q =>
  hk _ _ H' (a.less fun _ z => .inl z) b (rep_dt.mpr ⟨p, rfl, new_apart E n, c⟩) q
theorem wb_wl (h : Wl Z te ρ fun ds => Q (.lst ds)) : Wb Z te ρ Q := wb_we (we_wl h)
/-! names, constants -/
theorem we_var {i : Nat} (h : ρ[i]? = some (.v d)) (q : Q d) : We Z (tVar i) ρ Q := fun r X σ H E k hk => by
  obtain ⟨v, h1, h2⟩ := E.at_ i _ h
  exact ⟨v, h1, hk v d H E Fx.refl h2 q⟩
theorem wb_var {i : Nat} (h : ρ[i]? = some (.v d)) (q : Q d) : Wb Z (tVar i) ρ Q := wb_we (we_var h q)
theorem wb_varl {i : Nat} (h : ρ[i]? = some (.l ds)) (q : Q (.lst ds)) : Wb Z (tVar i) ρ Q := fun r X σ H E k hk => by
  obtain ⟨a, vs, h1, h2, h3⟩ := E.at_ i _ h
  exact ⟨.ref a, h1, hk _ _ H E Fx.refl (.inr ⟨i, _, h, h1, rfl⟩) q⟩
theorem wb_vart {i : Nat} {kvs : List (List Int × V)} (h : ρ[i]? = some (.t kvs)) (q : Q (.dt kvs)) : Wb Z (tVar i) ρ Q := fun r X σ H E k hk => by
  obtain ⟨a, h1, h2⟩ := E.at_ i _ h
  exact ⟨.ref a, h1, hk _ _ H E Fx.refl (.inr ⟨i, _, h, h1, rfl⟩) q⟩
theorem we_int {i : Int} (q : Q (.int i)) : We Z (tC (.int i)) ρ Q := fun r X σ H E k hk => hk _ _ H E Fx.refl (rep_int.mpr rfl) q
theorem we_bl {i : Bool} (q : Q (.bl i)) : We Z (tC (.bl i)) ρ Q := fun r X σ H E k hk => hk _ _ H E Fx.refl (rep_bl.mpr rfl) q
theorem we_str {i : Str} (q : Q (.str i)) : We Z (tC (.str i)) ρ Q := fun r X σ H E k hk => hk _ _ H E Fx.refl (rep_str.mpr rfl) q
theorem we_non (q : Q .non) : We Z (tC .non) ρ Q := fun r X σ H E k hk => hk _ _ H E Fx.refl (rep_non.mpr rfl) q
/-! ### operators -/
def OpD (Z : Cs) (ρ : List En) (r2 : R2) (x y : D) (Q : D → Prop) : Prop := ∀ r X σ H v w, Sv Z r X H σ ρ → Rb Z r X H σ ρ x v → Rb Z r X H σ ρ y w → ∀ k : VK,
  (∀ u d H', Sv Z r X H' σ ρ → Fx r H H' → Rep Z H' (Av r X σ ρ) d u → Q d → k u H') → r2 v w H k
def OpL (Z : Cs) (ρ : List En) (r2 : R2) (x y : D) (Q : List D → Prop) : Prop := ∀ r X σ H v w, Sv Z r X H σ ρ → Rb Z r X H σ ρ x v → Rb Z r X H σ ρ y w → ∀ k : VK,
  (∀ p vs ds H', H p = none → Sv Z r (Xp X p) H' σ ρ → Fx r H H' → H' p = some (.lst vs) → RepL Z H' (Av r (Xp X p) σ ρ) ds vs → Q ds → k (.ref p) H') → r2 v w H k
theorem we_op {r2 : R2} (h : Wb Z ta ρ fun x => Wb Z tb ρ fun y => OpD Z ρ r2 x y Q) : We Z (tOp r2 ta tb) ρ Q := fun r X σ H E k hk =>
  h r X σ H E _ fun v x H1 E1 f1 b1 h1 => h1 r X σ H1 E1 _ fun w y H2 E2 f2 b2 h2 => h2 r X σ H2 v w E2 (b1.keep f2) b2 k fun u d H3 E3 f3 q3 q => hk u d H3 E3 ((f1.trans f2).trans f3) q3 q
theorem wl_op {r2 : R2} {Q : List D → Prop} (h : Wb Z ta ρ fun x => Wb Z tb ρ fun y => OpL Z ρ r2 x y Q) : Wl Z (tOp r2 ta tb) ρ Q := fun r X σ H E k hk =>
  h r X σ H E _ fun v x H1 E1 f1 b1 h1 => h1 r X σ H1 E1 _ fun w y H2 E2 f2 b2 h2 => h2 r X σ H2 v w E2 (b1.keep f2) b2 k fun p vs ds H3 n E3 f3 q3 q4 q =>
    hk p vs ds H3 ((f1.trans f2).new n) E3 ((f1.trans f2).trans f3) q3 q4 q
theorem od_I0i {g : Int → Int → Int} {i j : Int} (q : Q (.int (g i j))) : OpD Z ρ (rI0 fun i j => .int (g i j)) (.int i) (.int j) Q := fun r X σ H v w E h1 h2 k hk =>
  ⟨i, j, h1.int, h2.int, hk _ _ H E Fx.refl (rep_int.mpr rfl) q⟩
theorem od_I0b {g : Int → Int → Bool} {i j : Int} (q : Q (.bl (g i j))) : OpD Z ρ (rI0 fun i j => .bl (g i j)) (.int i) (.int j) Q := fun r X σ H v w E h1 h2 k hk =>
  ⟨i, j, h1.int, h2.int, hk _ _ H E Fx.refl (rep_bl.mpr rfl) q⟩
theorem od_I {C : Int → Int → Prop} {g : Int → Int → Int} {i j : Int} (c : C i j) (q : Q (.int (g i j))) : OpD Z ρ (rI C fun i j => .int (g i j)) (.int i) (.int j) Q := fun r X σ H v w E h1 h2 k hk =>
  ⟨i, j, h1.int, h2.int, c, hk _ _ H E Fx.refl (rep_int.mpr rfl) q⟩
theorem od_isN (q : Q (.bl (match d with | .non => true | _ => false))) : OpD Z ρ (fun x y H Q => y = .non ∧ Q (.bl (decide (x = .non))) H) d .non Q := fun r X σ H v w E h1 h2 k hk => by
  refine ⟨h2.non, hk _ _ H E Fx.refl (rep_bl.mpr ?_) q⟩
  cases d with
  | non => rw [h1.non]; rfl
  | bl b => rw [h1.bl]; rfl
  | int b => rw [h1.int]; rfl
  | str b => rw [h1.str]; rfl
  | tup b => obtain ⟨a, vs, rfl, _⟩ := h1.tup; rfl
  | lst b => obtain ⟨a, vs, rfl, _⟩ := h1.lst E; rfl
  | pty g s => obtain ⟨a, dx, rfl, _⟩ := h1.pty; rfl
  | raw b => rw [h1.raw]; rfl
  | exn b _ _ _ => rw [h1.exn.1]; rfl
  | clo b _ _ _ => rw [h1.clo.1]; rfl
  | dt k => obtain ⟨a, rfl, _⟩ := h1.dt E; rfl
  | dk k => obtain ⟨a, rfl, _⟩ := rep_dk.mp (h1.rep (fun _ z => nomatch z) (fun _ z => nomatch z)); rfl
theorem od_notN (q : Q (.bl (match d with | .non => false | _ => true))) : OpD Z ρ (fun x y H Q => y = .non ∧ Q (.bl (!decide (x = .non))) H) d .non Q := fun r X σ H v w E h1 h2 k hk => by
  refine ⟨h2.non, hk _ _ H E Fx.refl (rep_bl.mpr ?_) q⟩
  cases d with
  | non => rw [h1.non]; rfl
  | bl b => rw [h1.bl]; rfl
  | int b => rw [h1.int]; rfl
  | str b => rw [h1.str]; rfl
  | tup b => obtain ⟨a, vs, rfl, _⟩ := h1.tup; rfl
  | lst b => obtain ⟨a, vs, rfl, _⟩ := h1.lst E; rfl
  | pty g s => obtain ⟨a, dx, rfl, _⟩ := h1.pty; rfl
  | raw b => rw [h1.raw]; rfl
  | exn b _ _ _ => rw [h1.exn.1]; rfl
  | clo b _ _ _ => rw [h1.clo.1]; rfl
  | dt k => obtain ⟨a, rfl, _⟩ := h1.dt E; rfl
  | dk k => obtain ⟨a, rfl, _⟩ := rep_dk.mp (h1.rep (fun _ z => nomatch z) (fun _ z => nomatch z)); rfl
theorem od_eqI {i j : Int} (q : Q (.bl (decide (i = j)))) : OpD Z ρ rEq (.int i) (.int j) Q := fun r X σ H v w E h1 h2 k hk => by
  have e1 := h1.int
  have e2 := h2.int
  subst e1 e2
  refine ⟨rfl, hk _ _ H E Fx.refl (rep_bl.mpr ?_) q⟩
  simp
theorem od_neI {i j : Int} (q : Q (.bl (!decide (i = j)))) : OpD Z ρ rNe (.int i) (.int j) Q := fun r X σ H v w E h1 h2 k hk => by
  have e1 := h1.int
  have e2 := h2.int
  subst e1 e2
  refine ⟨rfl, hk _ _ H E Fx.refl (rep_bl.mpr ?_) q⟩
  simp
theorem od_eqS {i j : Str} (q : Q (.bl (decide (i = j)))) : OpD Z ρ rEq (.str i) (.str j) Q := fun r X σ H v w E h1 h2 k hk => by
  have e1 := h1.str
  have e2 := h2.str
  subst e1 e2
  refine ⟨rfl, hk _ _ H E Fx.refl (rep_bl.mpr ?_) q⟩
  simp
theorem od_neS {i j : Str} (q : Q (.bl (!decide (i = j)))) : OpD Z ρ rNe (.str i) (.str j) Q := fun r X σ H v w E h1 h2 k hk => by
  have e1 := h1.str
  have e2 := h2.str
  subst e1 e2
  refine ⟨rfl, hk _ _ H E Fx.refl (rep_bl.mpr ?_) q⟩
  simp
theorem od_eqB {i j : Bool} (q : Q (.bl (decide (i = j)))) : OpD Z ρ rEq (.bl i) (.bl j) Q := fun r X σ H v w E h1 h2 k hk => by
  have e1 := h1.bl
  have e2 := h2.bl
  subst e1 e2
  refine ⟨rfl, hk _ _ H E Fx.refl (rep_bl.mpr ?_) q⟩
  simp
theorem od_neB {i j : Bool} (q : Q (.bl (!decide (i = j)))) : OpD Z ρ rNe (.bl i) (.bl j) Q := fun r X σ H v w E h1 h2 k hk => by
  have e1 := h1.bl
  have e2 := h2.bl
  subst e1 e2
  refine ⟨rfl, hk _ _ H E Fx.refl (rep_bl.mpr ?_) q⟩
  simp
def beqD (x y : D) : Bool := PyData.eqv (toPy x) (toPy y)
theorem canLay_of {d : D} (h : SeqAt.shaped (toPy d) = true) : PyData.canLay0 (toPy d) = true := SeqAt.canLay_of_shaped h
theorem od_eqD {x y : D} (sx : SeqAt.shaped (toPy x) = true) (sy : SeqAt.shaped (toPy y) = true) (q : Q (.bl (beqD x y))) : OpD Z ρ (rEqD Z.K) x y Q := fun r X σ H v w E h1 h2 k hk =>
  ⟨_, _, h1.dp E (canLay_of sx), h2.dp E (canLay_of sy), sx, sy, hk _ _ H E Fx.refl (rep_bl.mpr rfl) q⟩
theorem od_neD {x y : D} (sx : SeqAt.shaped (toPy x) = true) (sy : SeqAt.shaped (toPy y) = true) (q : Q (.bl (!beqD x y))) : OpD Z ρ (rNeD Z.K) x y Q := fun r X σ H v w E h1 h2 k hk =>
  ⟨_, _, h1.dp E (canLay_of sx), h2.dp E (canLay_of sy), sx, sy, hk _ _ H E Fx.refl (rep_bl.mpr rfl) q⟩
theorem od_inD {x : D} (sx : SeqAt.shaped (toPy x) = true) (sy : SeqAt.shaped (toPy (.lst ds)) = true) (q : Q (.bl (ds.any fun z => beqD z x))) : OpD Z ρ (rInD Z.K) x (.lst ds) Q := fun r X σ H v w E h1 h2 k hk => by
  have h3 := h2.dp E (canLay_of sy)
  rw [toPy_lst] at h3 sy
  refine ⟨_, _, h1.dp E (canLay_of sx), h3, sx, sy, hk _ _ H E Fx.refl (rep_bl.mpr ?_) q⟩
  rw [List.any_map]
  rfl
theorem od_niD {x : D} (sx : SeqAt.shaped (toPy x) = true) (sy : SeqAt.shaped (toPy (.lst ds)) = true) (q : Q (.bl (!ds.any fun z => beqD z x))) : OpD Z ρ (rNotInD Z.K) x (.lst ds) Q := fun r X σ H v w E h1 h2 k hk => by
  have h3 := h2.dp E (canLay_of sy)
  rw [toPy_lst] at h3 sy
  refine ⟨_, _, h1.dp E (canLay_of sx), h3, sx, sy, hk _ _ H E Fx.refl (rep_bl.mpr ?_) q⟩
  rw [List.any_map]
  rfl
/-- x in xs, ints -/
theorem inV_int (x : Int) (xs : List Int) : inV (.int x) (xs.map V.int) = decide (x ∈ xs) := by
  unfold inV
  induction xs with
  | nil => rfl
  | cons y ys ih =>
    rw [List.map_cons, List.any_cons, ih]
    have e : eqV (.int y) (.int x) = decide (x = y) := by
      show decide (y = x) = decide (x = y)
      exact decide_eq_decide.mpr eq_comm
    rw [e]
    by_cases h : x = y <;> simp [h]
theorem inV_str (x : Str) (xs : List Str) : inV (.str x) (xs.map V.str) = decide (x ∈ xs) := by
  unfold inV
  induction xs with
  | nil => rfl
  | cons y ys ih =>
    rw [List.map_cons, List.any_cons, ih]
    have e : eqV (.str y) (.str x) = decide (x = y) := by
      show decide (y = x) = decide (x = y)
      exact decide_eq_decide.mpr eq_comm
    rw [e]
    by_cases h : x = y <;> simp [h]
theorem flat_ints (xs : List Int) : (xs.map V.int).all flatV = true := by
  rw [List.all_map, List.all_eq_true]
  intro _ _; rfl
theorem flat_strs (xs : List Str) : (xs.map V.str).all flatV = true := by
  rw [List.all_map, List.all_eq_true]
  intro _ _; rfl
theorem od_inI {neg : Bool} {x : Int} {xs : List Int} (q : Q (.bl (if neg then !decide (x ∈ xs) else decide (x ∈ xs)))) : OpD Z ρ (rIn Z.K neg) (.int x) (.lst (xs.map .int)) Q := fun r X σ H v w E h1 h2 k hk => by
  obtain ⟨a, vs, rfl, h3, h4⟩ := h2.lst E
  have e := repL_ints.mp h4
  have e1 := h1.int
  subst e e1
  refine ⟨a, _, rfl, .inl (.of h3), rfl, flat_ints xs, hk _ _ H E Fx.refl (rep_bl.mpr ?_) q⟩
  rw [inV_int]
theorem od_inIt {neg : Bool} {x : Int} {xs : List Int} (q : Q (.bl (if neg then !decide (x ∈ xs) else decide (x ∈ xs)))) : OpD Z ρ (rIn Z.K neg) (.int x) (.tup (xs.map .int)) Q := fun r X σ H v w E h1 h2 k hk => by
  obtain ⟨a, vs, rfl, h3, h4⟩ := h2.tup
  have e := repL_ints.mp h4
  have e1 := h1.int
  subst e e1
  refine ⟨a, _, rfl, .inr h3.sq, rfl, flat_ints xs, hk _ _ H E Fx.refl (rep_bl.mpr ?_) q⟩
  rw [inV_int]
theorem od_inS {neg : Bool} {x : Str} {xs : List Str} (q : Q (.bl (if neg then !decide (x ∈ xs) else decide (x ∈ xs)))) : OpD Z ρ (rIn Z.K neg) (.str x) (.lst (xs.map .str)) Q := fun r X σ H v w E h1 h2 k hk => by
  obtain ⟨a, vs, rfl, h3, h4⟩ := h2.lst E
  have e := repL_strs.mp h4
  have e1 := h1.str
  subst e e1
  refine ⟨a, _, rfl, .inl (.of h3), rfl, flat_strs xs, hk _ _ H E Fx.refl (rep_bl.mpr ?_) q⟩
  rw [inV_str]
/-- an item by its place -/
theorem RepL.atI {H : Hp} {A : Addr → Prop} {vs : List V} {i : Int} (h : RepL Z H A ds vs) (e : L2.atI ds i = some d) : ∃ v, L2.atI vs i = some v ∧ Rep Z H A d v := by
  unfold L2.atI at e ⊢
  rw [h.length]
  cases q : ixN ds.length i with
  | none => rw [q] at e; cases e
  | some j =>
    rw [q] at e
    exact h.at e
theorem od_ixL {i : Int} (e : atI ds i = some d) (q : Q d) : OpD Z ρ (rIxL Z.K) (.lst ds) (.int i) Q := fun r X σ H v w E h1 h2 k hk => by
  obtain ⟨a, vs, rfl, h3, h4⟩ := h1.lst E
  obtain ⟨u, h5, h6⟩ := h4.atI e
  exact ⟨a, vs, i, u, rfl, h2.int, .of h3, h5, hk _ _ H E Fx.refl h6 q⟩
theorem od_ixT {i : Int} (e : atI ds i = some d) (q : Q d) : OpD Z ρ (rIxT Z.K) (.tup ds) (.int i) Q := fun r X σ H v w E h1 h2 k hk => by
  obtain ⟨a, vs, rfl, h3, h4⟩ := h1.tup
  obtain ⟨u, h5, h6⟩ := h4.atI e
  exact ⟨a, vs, i, u, rfl, h2.int, h3.sq, h5, hk _ _ H E Fx.refl h6 q⟩
theorem od_ixXl {i : Int} (e : atI ds i = some d) (q : Q d) : OpD Z ρ (rIx Z.K) (.lst ds) (.int i) Q := fun r X σ H v w E h1 h2 k hk => .inl (od_ixL e q r X σ H v w E h1 h2 k hk)
theorem od_ixXt {i : Int} (e : atI ds i = some d) (q : Q d) : OpD Z ρ (rIx Z.K) (.tup ds) (.int i) Q := fun r X σ H v w E h1 h2 k hk => .inr (.inl (od_ixT e q r X σ H v w E h1 h2 k hk))
theorem od_ixS {s : Str} {i : Int} {c : Nat} (l : s.length ≤ sizeLine) (e : atI s.cps.toList i = some c) (q : Q (.str ⟨#[c]⟩)) : OpD Z ρ rIxS (.str s) (.int i) Q := fun r X σ H v w E h1 h2 k hk =>
  ⟨s, i, c, h1.str, h2.int, l, e, hk _ _ H E Fx.refl (rep_str.mpr rfl) q⟩
/-- tuple + tuple -/
theorem od_catA {es : List D} (hl : ds.length + es.length ≤ sizeLine) (q : Q (.tup (ds ++ es))) : OpD Z ρ (rCatA Z.K) (.tup ds) (.tup es) Q := fun r X σ H v w E h1 h2 k hk => by
  obtain ⟨a, vs, rfl, h3, h4⟩ := h1.tup
  obtain ⟨b, ws, rfl, h5, h6⟩ := h2.tup
  refine ⟨a, b, vs, ws, rfl, rfl, h3.sq, h5.sq, by rw [h4.length, h6.length]; exact hl, fun e => ?_, fun n e => ?_, fun n m p hp => ?_⟩
  · subst e
    have e0 : ds = [] := List.length_eq_zero_iff.mp (by rw [← h4.length]; rfl)
    subst e0
    exact hk _ _ H E Fx.refl (rep_tup.mpr ⟨b, ws, rfl, h5, h6⟩) q
  · subst e
    have e0 : es = [] := List.length_eq_zero_iff.mp (by rw [← h6.length]; rfl)
    subst e0
    rw [List.append_nil] at q
    exact hk _ _ H E Fx.refl (rep_tup.mpr ⟨a, vs, rfl, h3, h4⟩) q
  · have s := same_upd (o := .tup (vs ++ ws)) hp
    exact hk _ _ _ (E.same s) (Fx.same s) (rep_tup.mpr ⟨p, _, rfl, upd_same, (h4.mv (Fx.same s).mv).append (h6.mv (Fx.same s).mv)⟩) q
/-- a new list put at p -/
theorem new_list {r : Option Addr} {X : Addr → Prop} {σ : L2.St} {H : Hp} {p : Addr} {vs : List V} (E : Sv Z r X H σ ρ) (hp : H p = none) (h : RepL Z H (Av r X σ ρ) ds vs) : RepL Z (upd H p (.lst vs)) (Av r (Xp X p) σ ρ) ds vs := h.mv ⟨fun a o n e => by
  refine ⟨by rw [upd_ne (ne_of_none e hp)]; exact e, ?_⟩
  rintro (z | (z | z) | z)
  · exact n (.inl z)
  · exact n (.inr (.inl z))
  · subst z; rw [hp] at e; cases e
  · exact n (.inr (.inr z)), fun a o _ e => same_upd hp a o e⟩
theorem ol_cat {es : List D} {Q : List D → Prop} (hl : ds.length + es.length ≤ sizeLine) (q : Q (ds ++ es)) : OpL Z ρ rCat (.lst ds) (.lst es) Q := fun r X σ H v w E h1 h2 k hk => by
  obtain ⟨a, vs, rfl, h3, h4⟩ := h1.lst E
  obtain ⟨b, ws, rfl, h5, h6⟩ := h2.lst E
  exact ⟨a, b, vs, ws, rfl, rfl, h3, h5, by rw [h4.length, h6.length]; exact hl, fun p hp => hk p _ _ _ hp (E.put hp) (Fx.same (same_upd hp)) upd_same (new_list E hp (h4.append h6)) q⟩
theorem od_addS {s t : Str} (hl : s.length + t.length ≤ sizeLine) (q : Q (.str (s ++ t))) : OpD Z ρ (fun x y H Q => ∃ i j, x = .str i ∧ y = .str j ∧ i.length + j.length ≤ sizeLine ∧ Q (.str (i ++ j)) H) (.str s) (.str t) Q := fun r X σ H v w E h1 h2 k hk =>
  ⟨s, t, h1.str, h2.str, hl, hk _ _ H E Fx.refl (rep_str.mpr rfl) q⟩

/-! ### one operand; slices -/
def Wo (Z : Cs) (to : TO) (ρ : List En) (Q : Option Int → Prop) : Prop := ∀ r X σ H, Sv Z r X H σ ρ → ∀ k : Option Int → Hp → Prop, (∀ o H', Sv Z r X H' σ ρ → Fx r H H' → Q o → k o H') → to σ H k
theorem wo_none {Q : Option Int → Prop} (q : Q none) : Wo Z tNoPart ρ Q := fun r X σ H E k hk => hk none H E Fx.refl q
theorem wo_some {Q : Option Int → Prop} (h : Wb Z te ρ fun d => ∃ i, d = .int i ∧ Q (some i)) : Wo Z (tPart te) ρ Q := fun r X σ H E k hk => h r X σ H E _ fun v d H1 E1 f1 b1 ⟨i, e, q⟩ => by
  subst e
  exact ⟨i, b1.int, hk _ H1 E1 f1 q⟩
theorem RepL.cut {H : Hp} {A : Addr → Prop} {vs : List V} (lo hi : Option Int) (h : RepL Z H A ds vs) : RepL Z H A ((ds.drop (HT.sIx ds.length 0 lo)).take (HT.sIx ds.length ds.length hi - HT.sIx ds.length 0 lo)) (cutV vs lo hi) := by
  unfold cutV
  rw [h.length]
  exact (h.drop _).take _
def cutD (ds : List D) (lo hi : Option Int) : List D := (ds.drop (HT.sIx ds.length 0 lo)).take (HT.sIx ds.length ds.length hi - HT.sIx ds.length 0 lo)
theorem wl_sl {tl th : TO} {Q : List D → Prop} (h : Wb Z te ρ fun x => Wo Z tl ρ fun lo => Wo Z th ρ fun hi => ∃ ds, x = .lst ds ∧ Q (cutD ds lo hi)) : Wl Z (tSl (rSlL Z.K) te tl th) ρ Q := fun r X σ H E k hk =>
  h r X σ H E _ fun v x H1 E1 f1 b1 h1 => h1 r X σ H1 E1 _ fun lo H2 E2 f2 h2 => h2 r X σ H2 E2 _ fun hi H3 E3 f3 ⟨ds, e, q⟩ => by
    subst e
    obtain ⟨a, vs, rfl, h3, h4⟩ := ((b1.keep f2).keep f3).lst E3
    have f := (f1.trans f2).trans f3
    exact ⟨a, vs, rfl, .of h3, fun p hp => hk p _ _ _ (f.new hp) (E3.put hp) (f.trans (Fx.same (same_upd hp))) upd_same (new_list E3 hp (h4.cut lo hi)) q⟩
theorem we_slT {tl th : TO} (h : Wb Z te ρ fun x => Wo Z tl ρ fun lo => Wo Z th ρ fun hi => ∃ ds, x = .tup ds ∧ Q (.tup (cutD ds lo hi))) : We Z (tSl (rSlA Z.K) te tl th) ρ Q := fun r X σ H E k hk =>
  h r X σ H E _ fun v x H1 E1 f1 b1 h1 => h1 r X σ H1 E1 _ fun lo H2 E2 f2 h2 => h2 r X σ H2 E2 _ fun hi H3 E3 f3 ⟨ds, e, q⟩ => by
    subst e
    obtain ⟨a, vs, rfl, h3, h4⟩ := ((b1.keep f2).keep f3).tup
    have f := (f1.trans f2).trans f3
    refine ⟨a, vs, rfl, h3.sq, fun c => ?_, fun c p hp => ?_⟩
    · refine hk _ _ H3 E3 f (rep_tup.mpr ⟨a, vs, rfl, h3, ?_⟩) q
      have e : cutD ds lo hi = ds := by
        unfold cutD
        rw [h4.length] at c
        rw [c.1, c.2, List.drop_zero, Nat.sub_zero, List.take_length]
      rw [e]
      exact h4
    · have s := same_upd (o := .tup (cutV vs lo hi)) hp
      exact hk _ _ _ (E3.same s) (f.trans (Fx.same s)) (rep_tup.mpr ⟨p, _, rfl, upd_same, (h4.cut lo hi).mv (Fx.same s).mv⟩) q
theorem we_slS {tl th : TO} (h : Wb Z te ρ fun x => Wo Z tl ρ fun lo => Wo Z th ρ fun hi => ∃ s, x = .str s ∧ s.length ≤ sizeLine ∧ Q (.str (cutS s lo hi))) : We Z (tSl rSlS te tl th) ρ Q := fun r X σ H E k hk =>
  h r X σ H E _ fun v x H1 E1 f1 b1 h1 => h1 r X σ H1 E1 _ fun lo H2 E2 f2 h2 => h2 r X σ H2 E2 _ fun hi H3 E3 f3 ⟨s, e, l, q⟩ => by
    subst e
    exact ⟨s, b1.str, l, hk _ _ H3 E3 ((f1.trans f2).trans f3) (rep_str.mpr rfl) q⟩

/-! ### tests -/
theorem wt_test (h : Wb Z te ρ fun d => ∃ b, d = .bl b ∧ Q (.bl b)) : Wt Z (tTest te) ρ fun b => Q (.bl b) := fun r X σ H E k hk => h r X σ H E _ fun v d H1 E1 f1 b1 ⟨b, e, q⟩ => by
  subst e
  exact ⟨b, b1.bl, hk b H1 E1 f1 q⟩
theorem wt_cmp {Q : Bool → Prop} (h : Wb Z te ρ fun d => ∃ b, d = .bl b ∧ Q b) : Wt Z (tTest te) ρ Q := fun r X σ H E k hk => h r X σ H E _ fun v d H1 E1 f1 b1 ⟨b, e, q⟩ => by
  subst e
  exact ⟨b, b1.bl, hk b H1 E1 f1 q⟩
theorem wt_val {Q : Bool → Prop} (h : Wb Z te ρ fun d => ∃ b, d = .bl b ∧ Q b) : Wt Z (tB te) ρ Q := fun r X σ H E k hk => h r X σ H E _ fun v d H1 E1 f1 b1 ⟨b, e, q⟩ => by
  subst e
  exact ⟨b, b1.bl, hk b H1 E1 f1 q⟩
theorem wt_not {Q : Bool → Prop} (h : Wt Z tt ρ fun b => Q (!b)) : Wt Z (tNot tt) ρ Q := fun r X σ H E k hk => h r X σ H E _ fun b H1 E1 f1 q => hk _ H1 E1 f1 q
theorem wt_and {Q : Bool → Prop} (h : Wt Z tt ρ fun b => (b = true → Wt Z tu ρ Q) ∧ (b = false → Q false)) : Wt Z (tAnd tt tu) ρ Q := fun r X σ H E k hk => h r X σ H E _ fun b H1 E1 f1 q => by
  cases b with
  | true => exact iteT (q.1 rfl r X σ H1 E1 k fun c H2 E2 f2 q2 => hk c H2 E2 (f1.trans f2) q2)
  | false => exact iteF (hk false H1 E1 f1 (q.2 rfl))
theorem wt_or {Q : Bool → Prop} (h : Wt Z tt ρ fun b => (b = true → Q true) ∧ (b = false → Wt Z tu ρ Q)) : Wt Z (tOr tt tu) ρ Q := fun r X σ H E k hk => h r X σ H E _ fun b H1 E1 f1 q => by
  cases b with
  | true => exact iteT (hk true H1 E1 f1 (q.1 rfl))
  | false => exact iteF (q.2 rfl r X σ H1 E1 k fun c H2 E2 f2 q2 => hk c H2 E2 (f1.trans f2) q2)
theorem we_andV (h : Wb Z ta ρ fun d => ∃ b, d = .bl b ∧ (b = true → We Z tb ρ Q) ∧ (b = false → Q (.bl false))) : We Z (tAndV ta tb) ρ Q := fun r X σ H E k hk => h r X σ H E _ fun v d H1 E1 f1 b1 ⟨b, e, q⟩ => by
  subst e
  refine ⟨b, b1.bl, ?_⟩
  cases b with
  | true => exact iteT (q.1 rfl r X σ H1 E1 k fun u d H2 E2 f2 q2 q3 => hk u d H2 E2 (f1.trans f2) q2 q3)
  | false => exact iteF (hk _ _ H1 E1 f1 (rep_bl.mpr rfl) (q.2 rfl))
theorem we_orV (h : Wb Z ta ρ fun d => ∃ b, d = .bl b ∧ (b = true → Q (.bl true)) ∧ (b = false → We Z tb ρ Q)) : We Z (tOrV ta tb) ρ Q := fun r X σ H E k hk => h r X σ H E _ fun v d H1 E1 f1 b1 ⟨b, e, q⟩ => by
  subst e
  refine ⟨b, b1.bl, ?_⟩
  cases b with
  | true => exact iteT (hk _ _ H1 E1 f1 (rep_bl.mpr rfl) (q.1 rfl))
  | false => exact iteF (q.2 rfl r X σ H1 E1 k fun u d H2 E2 f2 q2 q3 => hk u d H2 E2 (f1.trans f2) q2 q3)
theorem we_notV (h : Wb Z ta ρ fun d => ∃ b, d = .bl b ∧ Q (.bl (!b))) : We Z (tNotV ta) ρ Q := fun r X σ H E k hk => h r X σ H E _ fun v d H1 E1 f1 b1 ⟨b, e, q⟩ => by
  subst e
  exact ⟨b, b1.bl, hk _ _ H1 E1 f1 (rep_bl.mpr rfl) q⟩
theorem we_if (h : Wt Z tt ρ fun b => (b = true → We Z ta ρ Q) ∧ (b = false → We Z tb ρ Q)) : We Z (tIf tt ta tb) ρ Q := fun r X σ H E k hk => h r X σ H E _ fun b H1 E1 f1 q => by
  cases b with
  | true => exact iteT (q.1 rfl r X σ H1 E1 k fun u d H2 E2 f2 q2 q3 => hk u d H2 E2 (f1.trans f2) q2 q3)
  | false => exact iteF (q.2 rfl r X σ H1 E1 k fun u d H2 E2 f2 q2 q3 => hk u d H2 E2 (f1.trans f2) q2 q3)
theorem wl_if {Q : List D → Prop} (h : Wt Z tt ρ fun b => (b = true → Wl Z ta ρ Q) ∧ (b = false → Wl Z tb ρ Q)) : Wl Z (tIf tt ta tb) ρ Q := fun r X σ H E k hk => h r X σ H E _ fun b H1 E1 f1 q => by
  cases b with
  | true => exact iteT (q.1 rfl r X σ H1 E1 k fun p vs ds H2 n E2 f2 q2 q3 q4 => hk p vs ds H2 (f1.new n) E2 (f1.trans f2) q2 q3 q4)
  | false => exact iteF (q.2 rfl r X σ H1 E1 k fun p vs ds H2 n E2 f2 q2 q3 q4 => hk p vs ds H2 (f1.new n) E2 (f1.trans f2) q2 q3 q4)
/-- a op b op' c: the value of the first, then the second -/
theorem we_chain {r1 r2 : R2} (h : Wb Z ta ρ fun x => Wb Z tb ρ fun y => OpD Z ρ r1 x y fun z => ∃ b, z = .bl b ∧ (b = true → Wb Z tc ρ fun u => OpD Z ρ r2 y u Q) ∧ (b = false → Q (.bl false))) : We Z (tChain r1 r2 ta tb tc) ρ Q := fun r X σ H E k hk =>
  h r X σ H E _ fun v x H1 E1 f1 b1 h1 => h1 r X σ H1 E1 _ fun w y H2 E2 f2 b2 h2 => h2 r X σ H2 v w E2 (b1.keep f2) b2 _ fun u d H3 E3 f3 q3 ⟨b, e, q⟩ => by
    subst e
    have f := (f1.trans f2).trans f3
    refine ⟨b, rep_bl.mp q3, ?_⟩
    cases b with
    | true => exact iteT (q.1 rfl r X σ H3 E3 _ fun w' z H4 E4 f4 b4 h4 => h4 r X σ H4 w w' E4 ((b2.keep f3).keep f4) b4 k fun u' d' H5 E5 f5 q5 q6 => hk u' d' H5 E5 ((f.trans f4).trans f5) q5 q6)
    | false => exact iteF (hk _ _ H3 E3 f (rep_bl.mpr rfl) (q.2 rfl))

/-! ### arguments, displays -/
variable {tl : TA}
theorem wa_nil {Q : List D → Prop} (q : Q []) : Wa Z tNil ρ Q := fun r X σ H E k hk => hk [] [] H E Fx.refl (repL_nil.mpr rfl) q
theorem wa_cons {Q : List D → Prop} (h : We Z te ρ fun d => Wa Z tl ρ fun ds => Q (d :: ds)) : Wa Z (tCons te tl) ρ Q := fun r X σ H E k hk =>
  h r X σ H E _ fun v d H1 E1 f1 b1 h1 => h1 r X σ H1 E1 _ fun vs ds H2 E2 f2 b2 q => hk _ _ H2 E2 (f1.trans f2) (repL_cons.mpr ⟨v, vs, rfl, b1.mv f2.mv, b2⟩) q
theorem wab_nil {Q : List D → Prop} (q : Q []) : Wab Z tNil ρ Q := fun r X σ H E k hk => hk [] [] H E Fx.refl .nil q
theorem wab_cons {Q : List D → Prop} (h : Wb Z te ρ fun d => Wab Z tl ρ fun ds => Q (d :: ds)) : Wab Z (tCons te tl) ρ Q := fun r X σ H E k hk =>
  h r X σ H E _ fun v d H1 E1 f1 b1 h1 => h1 r X σ H1 E1 _ fun vs ds H2 E2 f2 b2 q => hk _ _ H2 E2 (f1.trans f2) (.cons (b1.keep f2) b2) q
theorem we_tup (h : Wa Z tl ρ fun ds => ds.length ≤ sizeLine ∧ Q (.tup ds)) : We Z (tTup tl) ρ Q := fun r X σ H E k hk => h r X σ H E _ fun vs ds H1 E1 f1 b1 ⟨l, q⟩ => by
  refine ⟨by rw [b1.length]; exact l, fun p hp => ?_⟩
  have s := same_upd (o := .tup vs) hp
  exact hk _ _ _ (E1.same s) (f1.trans (Fx.same s)) (rep_tup.mpr ⟨p, vs, rfl, upd_same, b1.mv (Fx.same s).mv⟩) q
theorem wl_lst {Q : List D → Prop} (h : Wa Z tl ρ fun ds => ds.length ≤ sizeLine ∧ Q ds) : Wl Z (tLst tl) ρ Q := fun r X σ H E k hk => h r X σ H E _ fun vs ds H1 E1 f1 b1 ⟨l, q⟩ =>
  ⟨by rw [b1.length]; exact l, fun p hp => hk p vs ds _ (f1.new hp) (E1.put hp) (f1.trans (Fx.same (same_upd hp))) upd_same (new_list E1 hp b1) q⟩
theorem wd_new {Q : List (List Int × V) → Prop} (q : Q []) : Wd Z tDNewT ρ Q := fun r X σ H E k hk p hp => hk p [] _ hp (E.put hp) (Fx.same (same_upd hp)) upd_same q

/-! ### calls of built-ins -/
def CbD (Z : Cs) (ρ : List En) (r1 : List V → Hp → VK → Prop) (ds : List D) (Q : D → Prop) : Prop := ∀ r X σ H vs, Sv Z r X H σ ρ → RbL Z r X H σ ρ ds vs → ∀ k : VK,
  (∀ u d H', Sv Z r X H' σ ρ → Fx r H H' → Rep Z H' (Av r X σ ρ) d u → Q d → k u H') → r1 vs H k
def CbL (Z : Cs) (ρ : List En) (r1 : List V → Hp → VK → Prop) (ds : List D) (Q : List D → Prop) : Prop := ∀ r X σ H vs, Sv Z r X H σ ρ → RbL Z r X H σ ρ ds vs → ∀ k : VK,
  (∀ p vs ds H', H p = none → Sv Z r (Xp X p) H' σ ρ → Fx r H H' → H' p = some (.lst vs) → RepL Z H' (Av r (Xp X p) σ ρ) ds vs → Q ds → k (.ref p) H') → r1 vs H k
theorem we_cb {r1 : List V → Hp → VK → Prop} (h : Wab Z tl ρ fun ds => CbD Z ρ r1 ds Q) : We Z (tCB r1 tl) ρ Q := fun r X σ H E k hk => h r X σ H E _ fun vs ds H1 E1 f1 b1 h1 => h1 r X σ H1 vs E1 b1 k fun u d H2 E2 f2 q2 q => hk u d H2 E2 (f1.trans f2) q2 q
theorem wl_cb {r1 : List V → Hp → VK → Prop} {Q : List D → Prop} (h : Wab Z tl ρ fun ds => CbL Z ρ r1 ds Q) : Wl Z (tCB r1 tl) ρ Q := fun r X σ H E k hk => h r X σ H E _ fun vs ds H1 E1 f1 b1 h1 => h1 r X σ H1 vs E1 b1 k fun p vs ds H2 n E2 f2 q2 q3 q => hk p vs ds H2 (f1.new n) E2 (f1.trans f2) q2 q3 q
theorem RbL.one {r : Option Addr} {X : Addr → Prop} {σ : L2.St} {H : Hp} {vs : List V} (h : RbL Z r X H σ ρ [d] vs) : ∃ v, vs = [v] ∧ Rb Z r X H σ ρ d v := by
  cases h with
  | cons h t => cases t; exact ⟨_, rfl, h⟩
theorem RbL.two {r : Option Addr} {X : Addr → Prop} {σ : L2.St} {H : Hp} {vs : List V} {e : D} (h : RbL Z r X H σ ρ [d, e] vs) : ∃ v w, vs = [v, w] ∧ Rb Z r X H σ ρ d v ∧ Rb Z r X H σ ρ e w := by
  cases h with
  | cons h t =>
    obtain ⟨w, rfl, h2⟩ := RbL.one t
    exact ⟨_, _, rfl, h, h2⟩
def rLenB (K : PySem.W.Frag) : List V → Hp → VK → Prop := fun xs H Q => ∃ x n, xs = [x] ∧ LenV K x H n ∧ Q (.int n) H
theorem cd_lenL (q : Q (.int ds.length)) : CbD Z ρ (rLenB Z.K) [.lst ds] Q := fun r X σ H vs E h k hk => by
  obtain ⟨v, rfl, b⟩ := h.one
  obtain ⟨a, ws, rfl, h3, h4⟩ := b.lst E
  exact ⟨_, ds.length, rfl, .inl ⟨ws, .of h3, h4.length.symm⟩, hk _ _ H E Fx.refl (rep_int.mpr rfl) q⟩
theorem cd_lenT (q : Q (.int ds.length)) : CbD Z ρ (rLenB Z.K) [.tup ds] Q := fun r X σ H vs E h k hk => by
  obtain ⟨v, rfl, b⟩ := h.one
  obtain ⟨a, ws, rfl, h3, h4⟩ := b.tup
  exact ⟨_, ds.length, rfl, .inr ⟨ws, h3.sq, h4.length.symm⟩, hk _ _ H E Fx.refl (rep_int.mpr rfl) q⟩
theorem cd_lenS {s : Str} (l : s.length ≤ sizeLine) (q : Q (.int s.length)) : CbD Z ρ (rLenB Z.K) [.str s] Q := fun r X σ H vs E h k hk => by
  obtain ⟨v, rfl, b⟩ := h.one
  have e := b.str
  subst e
  exact ⟨_, s.length, rfl, ⟨l, rfl⟩, hk _ _ H E Fx.refl (rep_int.mpr rfl) q⟩
def rListB (K : PySem.W.Frag) : List V → Hp → VK → Prop := fun xs H Q => ∃ p ys, xs = [.ref p] ∧ (SqL K H p ys ∨ SqT K H p ys) ∧ ∀ l, H l = none → Q (.ref l) (upd H l (.lst ys))
theorem cl_listL {Q : List D → Prop} (q : Q ds) : CbL Z ρ (rListB Z.K) [.lst ds] Q := fun r X σ H vs E h k hk => by
  obtain ⟨v, rfl, b⟩ := h.one
  obtain ⟨a, ws, rfl, h3, h4⟩ := b.lst E
  exact ⟨a, ws, rfl, .inl (.of h3), fun p hp => hk p _ _ _ hp (E.put hp) (Fx.same (same_upd hp)) upd_same (new_list E hp h4) q⟩
theorem cl_listT {Q : List D → Prop} (q : Q ds) : CbL Z ρ (rListB Z.K) [.tup ds] Q := fun r X σ H vs E h k hk => by
  obtain ⟨v, rfl, b⟩ := h.one
  obtain ⟨a, ws, rfl, h3, h4⟩ := b.tup
  exact ⟨a, ws, rfl, .inr h3.sq, fun p hp => hk p _ _ _ hp (E.put hp) (Fx.same (same_upd hp)) upd_same (new_list E hp h4) q⟩
def rTupB (K : PySem.W.Frag) : List V → Hp → VK → Prop := fun xs H Q => ∃ p ys, xs = [.ref p] ∧ ((SqL K H p ys ∧ ∀ l, H l = none → Q (.ref l) (upd H l (.tup ys))) ∨ (SqT K H p ys ∧ Q (.ref p) H))
theorem cd_tupL (q : Q (.tup ds)) : CbD Z ρ (rTupB Z.K) [.lst ds] Q := fun r X σ H vs E h k hk => by
  obtain ⟨v, rfl, b⟩ := h.one
  obtain ⟨a, ws, rfl, h3, h4⟩ := b.lst E
  refine ⟨a, ws, rfl, .inl ⟨.of h3, fun p hp => ?_⟩⟩
  have s := same_upd (o := .tup ws) hp
  exact hk _ _ _ (E.same s) (Fx.same s) (rep_tup.mpr ⟨p, ws, rfl, upd_same, h4.mv (Fx.same s).mv⟩) q
theorem cd_tupT (q : Q (.tup ds)) : CbD Z ρ (rTupB Z.K) [.tup ds] Q := fun r X σ H vs E h k hk => by
  obtain ⟨v, rfl, b⟩ := h.one
  obtain ⟨a, ws, rfl, h3, h4⟩ := b.tup
  exact ⟨a, ws, rfl, .inr ⟨h3.sq, hk _ _ H E Fx.refl (rep_tup.mpr ⟨a, ws, rfl, h3, h4⟩) q⟩⟩
theorem cd_sum {ns : List Int} (q : Q (.int ns.sum)) : CbD Z ρ (rSum Z.K) [.lst (ns.map .int)] Q := fun r X σ H vs E h k hk => by
  obtain ⟨v, rfl, b⟩ := h.one
  obtain ⟨a, ws, rfl, h3, h4⟩ := b.lst E
  have e := repL_ints.mp h4
  subst e
  exact ⟨a, ns, rfl, .of h3, hk _ _ H E Fx.refl (rep_int.mpr rfl) q⟩
theorem cd_min {ns : List Int} (l : 0 < ns.length) (q : ∀ m, m ∈ ns → (∀ y, y ∈ ns → m ≤ y) → Q (.int m)) : CbD Z ρ (rMin Z.K) [.lst (ns.map .int)] Q := fun r X σ H vs E h k hk => by
  obtain ⟨v, rfl, b⟩ := h.one
  obtain ⟨a, ws, rfl, h3, h4⟩ := b.lst E
  have e := repL_ints.mp h4
  subst e
  exact ⟨a, ns, rfl, .of h3, l, fun m h1 h2 => hk _ _ H E Fx.refl (rep_int.mpr rfl) (q m h1 h2)⟩
theorem cd_max {ns : List Int} (l : 0 < ns.length) (q : ∀ m, m ∈ ns → (∀ y, y ∈ ns → y ≤ m) → Q (.int m)) : CbD Z ρ (rMax Z.K) [.lst (ns.map .int)] Q := fun r X σ H vs E h k hk => by
  obtain ⟨v, rfl, b⟩ := h.one
  obtain ⟨a, ws, rfl, h3, h4⟩ := b.lst E
  have e := repL_ints.mp h4
  subst e
  exact ⟨a, ns, rfl, .of h3, l, fun m h1 h2 => hk _ _ H E Fx.refl (rep_int.mpr rfl) (q m h1 h2)⟩
def rIntB : List V → Hp → VK → Prop := fun xs H Q => (∃ i, xs = [.int i] ∧ Q (.int i) H) ∨ ∃ k, xs = [.bl k] ∧ Q (.int (if k then 1 else 0)) H
theorem cd_intB {b : Bool} (q : Q (.int (if b then 1 else 0))) : CbD Z ρ rIntB [.bl b] Q := fun r X σ H vs E h k hk => by
  obtain ⟨v, rfl, c⟩ := h.one
  have e := c.bl
  subst e
  exact .inr ⟨b, rfl, hk _ _ H E Fx.refl (rep_int.mpr rfl) q⟩
def rAbsB : List V → Hp → VK → Prop := fun xs H Q => ∃ i, xs = [.int i] ∧ Q (.int (if i < 0 then -i else i)) H
theorem cd_abs {i : Int} (q : Q (.int (if i < 0 then -i else i))) : CbD Z ρ rAbsB [.int i] Q := fun r X σ H vs E h k hk => by
  obtain ⟨v, rfl, c⟩ := h.one
  have e := c.int
  subst e
  exact ⟨i, rfl, hk _ _ H E Fx.refl (rep_int.mpr rfl) q⟩
/-- list(range(n)) -/
def rgD (a b : Int) : List Int := (List.range (b - a).toNat).map fun i => a + ((i : Nat) : Int)
theorem wl_listRg1 {Q : List D → Prop} (h : Wb Z te ρ fun d => ∃ n, d = .int n ∧ 0 ≤ n ∧ n ≤ 16777216 ∧ Q ((rgD 0 n).map .int)) : Wl Z (tLstRg (tRg1 te)) ρ Q := fun r X σ H E k hk => h r X σ H E _ fun v d H1 E1 f1 b1 ⟨n, e, l1, l2, q⟩ => by
  subst e
  refine ⟨n, b1.int, RgOk.of_le (Int.le_refl 0) l2 (by decide) l1, fun p hp => hk p _ _ _ (f1.new hp) (E1.put hp) (f1.trans (Fx.same (same_upd hp))) upd_same (repL_ints.mpr ?_) q⟩
  unfold rgV rgD
  rw [List.map_map]
  rfl
end
end DL
/-! DL3: sorted of data of any depth (a list, a tuple), over HandS; then over the data layer. -/
namespace DLS
open PySem PySem.W PySem.SeqAt PySem.Calls PyProof.Rows
/-- can be sorted: as the kit's, or all are tuples, empty ones among them -/
def Srt2 (ds : List PyData) : Prop := Sortable ds ∨ ∀ d, d ∈ ds → ∃ xs, d = .tuple xs
def neT : PyData → Bool
  | .tuple [] => false
  | _ => true
theorem neT_of {d : PyData} (h : d ≠ .tuple []) : neT d = true := by
  cases d with
  | tuple xs => cases xs with
    | nil => exact absurd rfl h
    | cons x xs => rfl
  | _ => rfl
section
variable {prog : Program} {w : World} {A : Around} {s : Shared} {E : Value → Shared → Prop}
theorem firsts_run {M : Model} : ∀ {vs : List Value} {ds : List PyData} {Q : List (Option Value) → Shared → Prop}, EachIs (fun v d => ∃ as, Reads s.heap v d as) vs ds → (∀ d, d ∈ ds → ∃ xs, d = .tuple xs) →
    (∀ fs : List (Option Value), fs.length = vs.length → (∀ i (h : i < fs.length) (h2 : i < ds.length), fs[i].isSome = neT ds[i]) → Q fs s) → wpAny M A (vs.mapM firstOfTuple') Q E s
  | [], [], Q, _, _, h => by rw [List.mapM_nil]; exact wpAny_pure (h [] rfl fun i h => absurd h (Nat.not_lt_zero i))
  | v :: vs, d :: ds, Q, .cons ⟨as, r⟩ t, ht, h => by
    obtain ⟨xs, rfl⟩ := ht d (List.mem_cons_self ..)
    cases r with
    | @tuple a o ys n _ _ ho hc hd hr =>
      rw [List.mapM_cons]
      refine wpAny_bind ?_
      rw [kas_first_eq]
      refine wpAny_bind (Looks.here (show Looks M s.heap (typeOf (.ref a)) o.cls from (Looks.ld ho).andThen .now) ?_)
      rw [hc, if_neg (by first | decide | simp)]
      refine wpAny_bind (listItems_at ho hd (wpAny_pure ?_))
      refine wpAny_bind (firsts_run (Q := fun bs s' => wpAny M A (pure (ys[0]? :: bs)) Q E s') t (fun d hd => ht d (List.mem_cons_of_mem _ hd)) fun fs hl hf => wpAny_pure (h _ (by simp [hl]) fun i h1 h2 => ?_))
      cases i with
      | zero =>
        have e := ReadsAll.length _ _ _ hr
        show (ys[0]?).isSome = neT (.tuple xs)
        cases xs with
        | nil =>
          have : ys.size = 0 := by simpa using e
          simp [this, neT]
        | cons x xs =>
          have : 0 < ys.size := by simp at e; omega
          simp [this, neT]
      | succ i => exact hf i (by simpa using h1) (by simpa using h2)
theorem call_tuple_lt {Q : Value → Shared → Prop} {l b : Addr} {items items2 : Array Value} {e r : Nat → Bool} (hl : s.heap.IsTuple l items) (hb : s.heap.IsTuple b items2)
    (he : ∀ j (h1 : j < items.size) (h2 : j < items2.size), EqAt A.in1 s items[j] items2[j] (e j)) (hr : ∀ j (h1 : j < items.size) (h2 : j < items2.size), e j = false → RcLt A.in1 s items[j] items2[j] (r j))
    (h : Q (.bool (firstLt e r (decide (items.size < items2.size)) (List.range (min items.size items2.size)))) s) : wpAny (model prog w) A (call (.builtin "tuple.__lt__") [.ref l, .ref b]) Q E s := by
  obtain ⟨⟨cls, dd, data, sl⟩, ho, hc, n, hd⟩ := id hl
  obtain ⟨⟨cls2, dd2, data2, sl2⟩, ho2, hc2, n2, hd2⟩ := id hb
  simp only at hc hd hc2 hd2
  subst hc hd hc2 hd2
  exact call_meets F.slot_tuple_lt ⟨_, ho, rfl⟩ F.entry_tuple_lt (F.args_tuple_lt_2 _ _) (tuple_ltAt l b items items2 n n2 dd dd2 sl sl2 e r) ⟨ho, ho2, he, hr, h⟩
theorem oneLt_tuple {xs ys : List PyData} {a b : Value} {as bs : List Addr} {Q : Bool → Shared → Prop} (ra : Reads s.heap a (.tuple xs) as) (rb : Reads s.heap b (.tuple ys) bs) (h : alike (.tuple xs) (.tuple ys) = true)
    (hu : A.units + min (PyData.tuple xs).depth (PyData.tuple ys).depth < cLine) (hq : Q (dataLt (.tuple xs) (.tuple ys)) s) : wpAny (model prog w) A (oneLt' true a b) Q E s := by
  have hal : alikeAll xs ys = true := by simpa [alike] using h
  cases ra with
  | @tuple l o vs n _ as₁ h1 h2 h3 h4 =>
    cases rb with
    | @tuple l' o' vs' n' _ bs₁ k1 k2 k3 k4 =>
      have n1 : vs.size = xs.length := by simpa using ReadsAll.length _ _ _ h4
      have n2 : vs'.size = ys.length := by simpa using ReadsAll.length _ _ _ k4
      rw [dataLt_tuple, ← firstLt_toks xs ys hal, ← n1, ← n2] at hq
      rw [oneLt'_eq]
      simp only [if_true]
      refine wpAny_bind (wpAny_cRoomFor (room_here hu) ?_)
      refine wpAny_bind (wpAny_callSpecialIfBound?_slot (T := "tuple") ⟨_, h1, h2⟩ F.slot_tuple_lt (call_tuple_lt (e := pairEq xs ys) (r := fun j => dataLt (xs.getD j .none) (ys.getD j .none)) ⟨_, h1, h2, _, h3⟩ ⟨_, k1, k2, _, k3⟩ (fun j j1 j2 => ?_) (fun j j1 j2 hj => ?_) ?_))
      · have := eqAt_alikeAll xs ys A.in1 s vs.toList vs'.toList _ _ h4 k4 hal (room_in hu) j (by simpa using j1) (by simpa using j2)
        simpa using this
      · have := rcLt_alikeAll xs ys A.in1 s vs.toList vs'.toList _ _ h4 k4 hal (room_in hu) j (by simpa using j1) (by simpa using j2) hj
        simpa using this
      · exact wpAny_truthy_bool hq
theorem sortsAt2 {vs : List Value} {ds : List PyData} (e : EachIs (fun v d => ∃ as, Reads s.heap v d as) vs ds) (hal : AllAlike ds) (hk : Srt2 ds) (hu : ∀ d, d ∈ ds → A.units + d.depth < cLine) : SortsAt prog w A s (dataKind s.heap ds) vs := by
  rcases hk with hk | ht
  · exact SortsAt.data e hal hk hu
  by_cases hne : ∀ d, d ∈ ds → d ≠ .tuple []
  · refine SortsAt.data e hal (.inl fun d hd => ?_) hu
    obtain ⟨xs, rfl⟩ := ht d hd
    cases xs with
    | nil => exact absurd rfl (hne _ hd)
    | cons x r => exact ⟨x, r, rfl⟩
  have room : ∀ {d d' : PyData}, d ∈ ds → A.units + min d.depth d'.depth < cLine := fun {d d'} hd => Nat.lt_of_le_of_lt (Nat.add_le_add_left (Nat.min_le_left _ _) _) (hu d hd)
  have hsome : ∃ i, ∃ h : i < ds.length, ds[i] = .tuple [] := by
    rw [Classical.not_forall] at hne
    obtain ⟨d, hne⟩ := hne
    rw [Classical.not_imp] at hne
    obtain ⟨hd, hne⟩ := hne
    rw [Classical.not_not] at hne
    obtain ⟨i, hi, q⟩ := List.mem_iff_getElem.mp hd
    exact ⟨i, hi, q.trans hne⟩
  obtain ⟨i, hi, hiE⟩ := hsome
  have hlen := e.length
  refine ⟨fun v hv => ?_, ?_⟩
  · obtain ⟨d, hd, as, r⟩ := e.left v hv
    exact ⟨_, dataKind_some hal hd r⟩
  by_cases h0 : ds[0]? = some (.tuple [])
  · refine ⟨oneType', ?_, fun h2 E Q hq => ?_⟩
    · intro E x y a b Q ha hb hq
      obtain ⟨d, as, hd, ra, rfl⟩ := dataKind_inv ha
      obtain ⟨d', as', hd', rb, rfl⟩ := dataKind_inv hb
      rw [keyLt'_oneType]
      have hdd := hal d hd d' hd'
      have hroom := room (d' := d') hd
      obtain ⟨x1, rfl⟩ := ht d hd
      obtain ⟨x2, rfl⟩ := ht d' hd'
      exact oneLt_tuple ra rb hdd hroom hq
    · rw [keyKind'_eq, List.mapM_toArray, map_eq_pure_bind]
      refine wpAny_bind (wpAny_bind (firsts_run e ht fun fs hl hf => wpAny_pure ?_))
      have hn : ¬ ((fs.toArray.all fun x => x.isSome) = true) := by
        intro z
        simp only [List.all_toArray, List.all_eq_true] at z
        have := z _ (List.getElem_mem (n := i) (by omega))
        rw [hf i (by omega) hi, hiE] at this
        cases this
      rw [if_neg hn]
      have hf0 : (fs.toArray[0]?.bind id).isSome = false := by
        have l0 : 0 < fs.length := by omega
        have ld : 0 < ds.length := by omega
        have := hf 0 l0 ld
        rw [List.getElem?_eq_getElem ld] at h0
        injection h0 with h0
        rw [h0] at this
        simp only [List.getElem?_toArray, List.getElem?_eq_getElem l0, Option.bind_some, id_eq]
        rw [this]
        rfl
      rw [if_neg (by rw [hf0]; simp)]
      rw [oneTypeOnly'_eq, List.mapM_toArray, map_eq_pure_bind]
      refine wpAny_bind (wpAny_bind (wpAny_bind (kas_mapM (r := Value.type "tuple") _ (fun v hv Q' hq => ?_) (wpAny_pure ?_))))
      · obtain ⟨d, hd, as, r⟩ := e.left v hv
        obtain ⟨xs, rfl⟩ := ht d hd
        exact (looks_reads r).here hq
      obtain ⟨v₁, rest, rfl⟩ : ∃ v₁ rest, vs = v₁ :: rest := by
        match vs, h2 with
        | [], h2 => simp at h2
        | v₁ :: rest, _ => exact ⟨v₁, rest, rfl⟩
      have hall : ((List.map (fun _ => Value.type "tuple") (v₁ :: rest)).toArray.all fun x => x == Value.type "tuple") = true := by
        simp only [List.all_toArray, List.all_map, List.all_eq_true]
        intro _ _
        rfl
      have g0 : (List.map (fun _ => Value.type "tuple") (v₁ :: rest)).toArray[0]? = some (Value.type "tuple") := by simp
      rw [g0]
      simp only [hall, if_true]
      exact wpAny_pure (wpAny_pure hq)
  · refine ⟨general', ?_, fun h2 E Q hq => ?_⟩
    · intro E x y a b Q ha hb hq
      obtain ⟨d, as, hd, ra, rfl⟩ := dataKind_inv ha
      obtain ⟨d', as', hd', rb, rfl⟩ := dataKind_inv hb
      show wpAny (model prog w) A (oneLt' false x y) Q E s
      refine oneLt_alike (fun z => by cases z) ra rb (hal d hd d' hd') (fun z => ?_) (room hd) hq
      obtain ⟨xs, e⟩ := ht d hd
      rw [e] at z
      cases z
    · rw [keyKind'_eq, List.mapM_toArray, map_eq_pure_bind]
      refine wpAny_bind (wpAny_bind (firsts_run e ht fun fs hl hf => wpAny_pure ?_))
      have hn : ¬ ((fs.toArray.all fun x => x.isSome) = true) := by
        intro z
        simp only [List.all_toArray, List.all_eq_true] at z
        have := z _ (List.getElem_mem (n := i) (by omega))
        rw [hf i (by omega) hi, hiE] at this
        cases this
      rw [if_neg hn]
      have hf0 : (fs.toArray[0]?.bind id).isSome = true := by
        have l0 : 0 < fs.length := by omega
        have ld : 0 < ds.length := by omega
        have := hf 0 l0 ld
        rw [List.getElem?_eq_getElem ld] at h0
        have h0' : ds[0] ≠ .tuple [] := fun z => h0 (by rw [z])
        simp only [List.getElem?_toArray, List.getElem?_eq_getElem l0, Option.bind_some, id_eq]
        rw [this]
        exact neT_of h0'
      rw [if_pos hf0]
      exact wpAny_pure hq
end
end DLS
namespace DLS
open PySem PySem.W PySem.Calls PyProof.Rows
section
variable {prog : Program} {w : World} {A : Around} {E : Value → Shared → Prop} {s : Shared}
theorem collect_tup {l : Addr} {vs : List Value} {Q : List Value → Shared → Prop} (hl : IsTup s.heap l vs.toArray)
    (h : Q vs { s with heap := (s.heap.push (seqObj "list" #[] 0)).update s.heap.objs.size (Obj.mapSeq (· ++ vs.toArray)) }) (hsz : vs.length ≤ sizeLine) :
    wpAny (model prog w) A (collect (.ref l)) Q E s := by
  obtain ⟨o, ho, hc, n, hd⟩ := id hl
  unfold collect
  refine wpAny_bind (wpAny_runValue (codeAny_builtin entry_proto_collect' ?_))
  show wpAny _ _ (do again (.builtin "list.__iadd__" ⟨[← newList [], .ref l], []⟩)) _ _ s
  refine wpAny_bind (wpAny_newList (wpAny_pure ⟨Code.quiet_builtin _ (by decide +kernel), codeAny_builtin entry_list_iadd' ?_⟩))
  show wpAny _ _ (Builtin.List.listExtendWith (.ref s.heap.objs.size) (.ref l) (.ref s.heap.objs.size)) _ _ { s with heap := s.heap.push (seqObj "list" #[] 0) }
  unfold Builtin.List.listExtendWith
  have ho' : (s.heap.push (seqObj "list" #[] 0)).get? l = some o := Heap.get?_push_of_some _ ho
  refine wpAny_bind (wpAny_typeOf (T := "tuple") ⟨o, ho', hc⟩ ?_)
  have ht : (Value.type "tuple" == Value.type "tuple") = true := by rfl
  rw [if_pos (by rw [ht]; simp)]
  refine wpAny_bind (listItems_at ho' hd ?_)
  refine wpAny_bind (listItems_at (xs := #[]) (n := 0) (Heap.get?_push_size _ rfl) rfl ?_)
  rw [if_neg (by simp)]
  refine wpAny_bind (listUpdate_at (xs := #[]) (n := 0) (Heap.get?_push_size _ rfl) rfl ?_ (Nat.zero_le _) (by show (#[] ++ vs.toArray).size ≤ sizeLine + 1; simp only [Array.size_append, List.size_toArray, List.length_nil]; omega))
  refine wpAny_pure ?_
  show wpAny (model prog w) A (do
      let o ← load s.heap.objs.size
      match o.data with
      | .seq xs _ => pure xs.toList
      | _ => unsupported "internal:collect") Q E { s with heap := (s.heap.push (seqObj "list" #[] 0)).update s.heap.objs.size (Obj.mapSeq (· ++ vs.toArray)) }
  refine wpAny_bind (wpAny_load (get?_update_seq (Heap.get?_push_size _ rfl) _) ?_)
  show wpAny _ _ (pure ((#[] : Array Value) ++ vs.toArray).toList) Q E _
  rw [show ((#[] : Array Value) ++ vs.toArray).toList = vs by simp]
  exact wpAny_pure h
theorem sorted_of_sortT {l : Addr} {vs : List Value} {kw : List (Str × Value)} {Q : Value → Shared → Prop} (hl : IsTup s.heap l vs.toArray) (hL : vs.length ≤ sizeLine) (ha1 : argsOk "sorted" ⟨[.ref l], kw⟩) (ha2 : ∀ x, argsOk "list.sort" ⟨[.ref x], kw⟩)
    (body : ∀ E' : Value → Shared → Prop, wpAny (model prog w) A.in1.in1 (Builtin.«list.sort» ⟨[.ref (s.heap.objs.size + 1)], kw⟩) (fun f s' => f = .done (.ret .none) ∧ Q (.ref (s.heap.objs.size + 1)) s') E' { s with heap := copyHeap s.heap vs }) :
    wpAny (model prog w) A (call (.builtin "sorted") [.ref l] kw) Q E s := by
  refine call_function_entry_kw kind_sorted plain_sorted entry_sorted ha1 ?_
  unfold Builtin.«sorted»
  refine wpAny_bind (m := checkCount "sorted" 1 1 _) (wpAny_pure ?_)
  refine wpAny_bind (collect_tup hl ?_ hL)
  refine wpAny_bind (wpAny_newList ?_ hL)
  have hsz : ((s.heap.push (seqObj "list" #[] 0)).update s.heap.objs.size (Obj.mapSeq (· ++ vs.toArray))).objs.size = s.heap.objs.size + 1 := by
    rw [Heap.size_update, size_push']
  show wpAny _ _ _ _ _ { s with heap := copyHeap s.heap vs }
  rw [hsz]
  refine wpAny_bind (wpAny_holding (wpAny_call_entry_kw slot_list_sort ⟨_, copyHeap_at s.heap vs, rfl⟩ entry_list_sort ?body (ha2 _)))
  case body =>
    show wpAny (model prog w) A.in1.in1 (Builtin.«list.sort» ⟨[.ref (s.heap.objs.size + 1)], kw⟩) _ _ _
    refine wpAny_mono (body _) (fun f s' hf => ?_) fun _ _ e => e
    obtain ⟨rfl, hq⟩ := hf
    exact ⟨_, rfl, wpAny_pure ⟨_, rfl, hq⟩⟩
theorem sorted_valsT {κ : PyProof.Rows.KeyKind} {l : Addr} {vs : List Value} {Q : Value → Shared → Prop} (hl : IsTup s.heap l vs.toArray) (S : SortsAt prog w A.in1.in1 { s with heap := sortingHeap (copyHeap s.heap vs) (s.heap.objs.size + 1) vs } κ vs) (hL : vs.length ≤ sizeLine)
    (h : Q (.ref (s.heap.objs.size + 1)) { s with heap := sortedAll s.heap vs (sortVals κ false vs vs).toArray }) : wpAny (model prog w) A (call (.builtin "sorted") [.ref l]) Q E s :=
  sorted_of_sortT hl hL (args_sorted1 _) (fun _ => args_list_sort _) fun _ => list_sort_vals (s := { s with heap := copyHeap s.heap vs }) (copyHeap_at s.heap vs) S hL ⟨rfl, h⟩
theorem sorted_dataT {β : Type} {vs : List Value} {bs : List β} {enc : β → PyData} {R : Value → β → Prop} {l : Addr} {Q : Value → Shared → Prop} (hl : IsTup s.heap l vs.toArray) (e : EachIs R vs bs) (er : EachIs (fun v b => ∃ as, Reads s.heap v (enc b) as) vs bs) (hal : AllAlike (bs.map enc)) (hk : Srt2 (bs.map enc)) (hL : bs.length ≤ sizeLine)
    (hu : ∀ b, b ∈ bs → A.units + 2 + (enc b).depth < cLine) (h : ∀ out, out.length = bs.length → EachIs R out (bs.mergeSort (dataLe false enc)) → Q (.ref (s.heap.objs.size + 1)) { s with heap := sortedAll s.heap vs (List.toArray out) }) :
    wpAny (model prog w) A (call (.builtin "sorted") [.ref l]) Q E s := by
  have er' : EachIs (fun v b => ∃ as, Reads (sortingHeap (copyHeap s.heap vs) (s.heap.objs.size + 1) vs) v (enc b) as) vs bs := er.mono fun _ _ ⟨as, r⟩ => ⟨as, PyProof.Rows.Reads.keeps (fun _ _ => sorting_copy_old) r⟩
  exact sorted_valsT hl (sortsAt2 (s := { s with heap := sortingHeap (copyHeap s.heap vs) (s.heap.objs.size + 1) vs }) (each_map (R := fun v d => ∃ as, Reads (sortingHeap (copyHeap s.heap vs) (s.heap.objs.size + 1) vs) v d as) enc er') hal hk (bound_map hu)) (by rw [e.length]; exact hL)
    (h _ (by rw [sortVals_length false rfl]; exact e.length) (sortVals_data false e er' hal))
theorem sorted_data2 {β : Type} {vs : List Value} {bs : List β} {enc : β → PyData} {R : Value → β → Prop} {l : Addr} {Q : Value → Shared → Prop} (hl : s.heap.IsList l vs.toArray) (e : EachIs R vs bs) (er : EachIs (fun v b => ∃ as, Reads s.heap v (enc b) as) vs bs) (hal : AllAlike (bs.map enc)) (hk : Srt2 (bs.map enc)) (hL : bs.length ≤ sizeLine)
    (hu : ∀ b, b ∈ bs → A.units + 2 + (enc b).depth < cLine) (h : ∀ out, out.length = bs.length → EachIs R out (bs.mergeSort (dataLe false enc)) → Q (.ref (s.heap.objs.size + 1)) { s with heap := sortedAll s.heap vs (List.toArray out) }) :
    wpAny (model prog w) A (call (.builtin "sorted") [.ref l]) Q E s := by
  have er' : EachIs (fun v b => ∃ as, Reads (sortingHeap (copyHeap s.heap vs) (s.heap.objs.size + 1) vs) v (enc b) as) vs bs := er.mono fun _ _ ⟨as, r⟩ => ⟨as, PyProof.Rows.Reads.keeps (fun _ _ => sorting_copy_old) r⟩
  exact sorted_vals hl (sortsAt2 (s := { s with heap := sortingHeap (copyHeap s.heap vs) (s.heap.objs.size + 1) vs }) (each_map (R := fun v d => ∃ as, Reads (sortingHeap (copyHeap s.heap vs) (s.heap.objs.size + 1) vs) v d as) enc er') hal hk (bound_map hu)) (by rw [e.length]; exact hL)
    (h _ (by rw [sortVals_length false rfl]; exact e.length) (sortVals_data false e er' hal))
end
end DLS
namespace L2
open PySem PySem.Spec PyProof.Rows
def SortD (bs : List (V × PyData)) (H : Hp) (Q : VK) : Prop := W.AllAlike (bs.map (·.2)) ∧ DLS.Srt2 (bs.map (·.2)) ∧ (∀ b ∈ bs, b.2.depth ≤ 20) ∧
  ∀ p, H p = none → Q (.ref p) (upd H p (.lst ((bs.mergeSort (W.dataLe false Prod.snd)).map (·.1))))
def rSortDl (K : PySem.W.Frag) : List V → Hp → VK → Prop := fun vs H Q => ∃ (a : Addr) (bs : List (V × PyData)), vs = [V.ref a] ∧ SqL K H a (bs.map (·.1)) ∧ (∀ b ∈ bs, Dp K H b.1 b.2) ∧ SortD bs H Q
def rSortDt (K : PySem.W.Frag) : List V → Hp → VK → Prop := fun vs H Q => ∃ (a : Addr) (bs : List (V × PyData)), vs = [V.ref a] ∧ SqT K H a (bs.map (·.1)) ∧ (∀ b ∈ bs, Dp K H b.1 b.2) ∧ SortD bs H Q
theorem each_of_vals {P : Value → V × PyData → Prop} : ∀ {bs : List (V × PyData)} {its : List Value}, Vals (bs.map (·.1)) its → (∀ b ∈ bs, ∀ v, RelV b.1 v → P v b) → W.EachIs P its bs
  | [], _, h, _ => by cases h; exact .nil
  | b :: bs, _, h, k => by
    cases h with
    | cons r t => exact .cons (k b List.mem_cons_self _ r) (each_of_vals t fun c hc => k c (List.mem_cons_of_mem _ hc))
theorem vals_of_each : ∀ {bs : List (V × PyData)} {its : List Value}, W.EachIs (fun v b => RelV b.1 v) its bs → Vals (bs.map (·.1)) its
  | [], _, h => by cases h; exact .nil
  | b :: bs, _, h => by
    cases h with
    | cons r t => exact .cons r (vals_of_each t)
section
variable {X : Cx}
theorem sort_end {pins : List (Addr × Obj)} {s : Shared} {σ : St} {H : Hp} {Q : VK} {bs : List (V × PyData)} {its out : List Value} (I : Inv X pins σ H s) (hz : (bs.map (·.1)).length ≤ sizeLine) (h : W.EachIs (fun v b => RelV b.1 v) out (bs.mergeSort (W.dataLe false Prod.snd)))
    (q : ∀ p, H p = none → Q (.ref p) (upd H p (.lst ((bs.mergeSort (W.dataLe false Prod.snd)).map (·.1))))) : EP X pins σ Q (.ref (s.heap.objs.size + 1)) { s with heap := PyProof.Rows.sortedAll s.heap its out.toArray } := by
  obtain ⟨ep, he'⟩ := PyProof.Rows.sortedAll_at s.heap its out.toArray
  have hlen : ((bs.mergeSort (W.dataLe false Prod.snd)).map (·.1)).length ≤ sizeLine := by
    rw [List.length_map, (List.mergeSort_perm _ _).length_eq]
    rw [List.length_map] at hz
    exact hz
  exact ⟨.ref _, upd H (s.heap.objs.size + 1) (.lst ((bs.mergeSort (W.dataLe false Prod.snd)).map (·.1))), I.laid (t' := s.toks) (fun _ _ => PyProof.Rows.sortedAll_old) (Nat.le_succ _) ⟨hlen, out, ep, vals_of_each h, he'⟩, rfl, q _ (I.hok.fresh (Nat.le_succ _))⟩
theorem cr_sortDl (hu : X.A.units + 64 < cLine) : CallR X (.builtin "sorted") (rSortDl X.K) := by
  intro pins s σ H vs us Q I r h
  obtain ⟨a, bs, rfl, hs, hd, hal, hk, hdp, q⟩ := h
  obtain ⟨its, rv, hl, hz⟩ := I.list hs
  rw [Vals.ref1 r]
  refine DLS.sorted_data2 (enc := Prod.snd) (R := fun v b => RelV b.1 v) (bs := bs) hl.isList (each_of_vals rv fun _ _ _ r => r) (each_of_vals rv fun b hb v r => Dp.reads I _ _ _ (hd b hb) r) hal hk (by rw [List.length_map] at hz; exact hz) (fun b hb => ?_) fun out ho h => sort_end I hz h q
  have := hdp b hb
  omega
theorem cr_sortDt (hu : X.A.units + 64 < cLine) : CallR X (.builtin "sorted") (rSortDt X.K) := by
  intro pins s σ H vs us Q I r h
  obtain ⟨a, bs, rfl, hs, hd, hal, hk, hdp, q⟩ := h
  obtain ⟨its, rv, hl, hz⟩ := I.tuple hs
  rw [Vals.ref1 r]
  refine DLS.sorted_dataT (enc := Prod.snd) (R := fun v b => RelV b.1 v) (bs := bs) hl (each_of_vals rv fun _ _ _ r => r) (each_of_vals rv fun b hb v r => Dp.reads I _ _ _ (hd b hb) r) hal hk (by rw [List.length_map] at hz; exact hz) (fun b hb => ?_) fun out ho h => sort_end I hz h q
  have := hdp b hb
  omega
end
end L2
namespace DL
open PySem PySem.Spec PyProof.Rows L2
/-- the order of sorted, on data -/
def leD : D → D → Bool := W.dataLe false toPy
structure SortOk (ds : List D) : Prop where
  al : W.AllAlike (ds.map toPy)
  so : DLS.Srt2 (ds.map toPy)
  dp : ∀ d ∈ ds, (toPy d).depth ≤ 20
  cl : ∀ d ∈ ds, PyData.canLay0 (toPy d) = true
section
variable {Z : Cs} {ρ : List En} {ds : List D}
theorem repL_pairs {H : Hp} {A : Addr → Prop} : ∀ {ds : List D} {vs : List V}, RepL Z H A ds vs → ∃ cs : List (V × D), cs.map (·.1) = vs ∧ cs.map (·.2) = ds ∧ ∀ c ∈ cs, Rep Z H A c.2 c.1
  | [], _, h => ⟨[], by rw [repL_nil.mp h]; rfl, rfl, fun _ z => nomatch z⟩
  | d :: ds, _, h => by
    obtain ⟨v, r, rfl, h1, h2⟩ := repL_cons.mp h
    obtain ⟨cs, e1, e2, k⟩ := repL_pairs h2
    refine ⟨(v, d) :: cs, by rw [← e1]; rfl, by rw [← e2]; rfl, fun c hc => ?_⟩
    rcases List.mem_cons.mp hc with rfl | hc
    · exact h1
    · exact k c hc
theorem repL_of_pairs {H : Hp} {A : Addr → Prop} : ∀ {cs : List (V × D)}, (∀ c ∈ cs, Rep Z H A c.2 c.1) → RepL Z H A (cs.map (·.2)) (cs.map (·.1))
  | [], _ => repL_nil.mpr rfl
  | c :: cs, k => repL_cons.mpr ⟨c.1, cs.map (·.1), rfl, k c List.mem_cons_self, repL_of_pairs fun x hx => k x (List.mem_cons_of_mem _ hx)⟩
theorem sort_parts {r : Option Addr} {X : Addr → Prop} {σ : L2.St} {H : Hp} {vs : List V} {Q : List D → Prop} {k : VK} (E : Sv Z r X H σ ρ) (ok : SortOk ds) (h : RepL Z H (Av r X σ ρ) ds vs) (q : Q (ds.mergeSort leD))
    (hk : ∀ p vs ds H', H p = none → Sv Z r (Xp X p) H' σ ρ → Fx r H H' → H' p = some (.lst vs) → RepL Z H' (Av r (Xp X p) σ ρ) ds vs → Q ds → k (.ref p) H') :
    ∃ bs : List (V × PyData), bs.map (·.1) = vs ∧ (∀ b ∈ bs, Dp Z.K H b.1 b.2) ∧ SortD bs H k := by
  obtain ⟨cs, e1, e2, hc⟩ := repL_pairs h
  subst e1 e2
  have e3 : (cs.map fun c => (c.1, toPy c.2)).map (·.2) = (cs.map (·.2)).map toPy := by rw [List.map_map, List.map_map]; rfl
  refine ⟨cs.map fun c => (c.1, toPy c.2), by rw [List.map_map]; rfl, fun b hb => ?_, ?_, ?_, fun b hb => ?_, fun p hp => ?_⟩
  · obtain ⟨c, hc1, rfl⟩ := List.mem_map.mp hb
    exact rep_dp (ok.cl _ (List.mem_map.mpr ⟨c, hc1, rfl⟩)) (hc c hc1)
  · rw [e3]; exact ok.al
  · rw [e3]; exact ok.so
  · obtain ⟨c, hc1, rfl⟩ := List.mem_map.mp hb
    exact ok.dp _ (List.mem_map.mpr ⟨c, hc1, rfl⟩)
  · have s1 : ((cs.map fun c => (c.1, toPy c.2)).mergeSort (W.dataLe false Prod.snd)).map (·.1) = (cs.mergeSort fun a b => leD a.2 b.2).map (·.1) := by
      rw [← List.map_mergeSort (r := fun a b => leD a.2 b.2) (s := W.dataLe false Prod.snd) (f := fun c : V × D => (c.1, toPy c.2)) (l := cs) (fun a _ b _ => rfl), List.map_map]
      rfl
    have s2 : (cs.mergeSort fun a b => leD a.2 b.2).map (·.2) = (cs.map (·.2)).mergeSort leD := List.map_mergeSort fun a _ b _ => rfl
    rw [s1]
    refine hk p _ _ _ hp (E.put hp) (Fx.same (same_upd hp)) upd_same (new_list E hp (repL_of_pairs fun c hc1 => hc c ((List.mergeSort_perm _ _).mem_iff.mp hc1))) ?_
    rw [s2]
    exact q
theorem cl_sortL {Q : List D → Prop} (ok : SortOk ds) (q : Q (ds.mergeSort leD)) : CbL Z ρ (rSortDl Z.K) [.lst ds] Q := fun r X σ H vs E h k hk => by
  obtain ⟨v, rfl, b⟩ := h.one
  obtain ⟨a, ws, rfl, h3, h4⟩ := b.lst E
  obtain ⟨bs, rfl, h5, h6⟩ := sort_parts E ok h4 q hk
  exact ⟨a, bs, rfl, .of h3, h5, h6⟩
theorem cl_sortT {Q : List D → Prop} (ok : SortOk ds) (q : Q (ds.mergeSort leD)) : CbL Z ρ (rSortDt Z.K) [.tup ds] Q := fun r X σ H vs E h k hk => by
  obtain ⟨v, rfl, b⟩ := h.one
  obtain ⟨a, ws, rfl, h3, h4⟩ := b.tup
  obtain ⟨bs, rfl, h5, h6⟩ := sort_parts E ok h4 q hk
  exact ⟨a, bs, rfl, h3.sq, h5, h6⟩
end
end DL
/-! DL4: dicts read, calls by contract, attributes, comprehensions. -/
namespace DL
open PySem PySem.Spec PyProof.Rows L2
section
variable {Z : Cs} {ρ : List En} {Q Q' : D → Prop} {te ta tb tc td ty : TE} {tt tu : TT} {d : D} {ds : List D} {tl : TA}

/-! ### dicts -/
theorem inl_inj {a b : List Int} (h : (a.map Sum.inl : List Key) = b.map Sum.inl) : a = b := by
  have := congrArg (List.map (fun k : Key => match k with | .inl i => i | .inr _ => 0)) h
  simpa [List.map_map, Function.comp_def] using this
theorem valV_keyT (kvs : List (List Int × V)) (ks : List Int) : valV (keyT kvs) (ks.map Sum.inl) = valV kvs ks := by
  unfold keyT
  induction kvs with
  | nil => rfl
  | cons p r ih =>
    rw [List.map_cons]
    by_cases h : p.1 = ks
    · rw [valV_pos (by rw [h]), valV_pos h]
    · rw [valV_neg (fun z => h (inl_inj z)), valV_neg h, ih]
theorem valV_keyK (kvs : List (Int × V)) (k : Int) : valV (keyK kvs) (Sum.inl k) = valV kvs k := by
  unfold keyK
  induction kvs with
  | nil => rfl
  | cons p r ih =>
    rw [List.map_cons]
    by_cases h : p.1 = k
    · rw [valV_pos (by rw [h]), valV_pos h]
    · rw [valV_neg (fun z => h (Sum.inl.inj z)), valV_neg h, ih]
theorem any_keyT (kvs : List (List Int × V)) (ks : List Int) : ((keyT kvs).any fun kv => decide (kv.1 = ks.map Sum.inl)) = kvs.any fun kv => decide (kv.1 = ks) := by
  rw [valV_any, valV_any, valV_keyT]
theorem putK_keyT (kvs : List (List Int × V)) (ks : List Int) (v : V) : putK (keyT kvs) (ks.map Sum.inl) v = keyT (putK kvs ks v) := by
  unfold putK
  rw [any_keyT]
  by_cases h : (kvs.any fun kv => decide (kv.1 = ks)) = true
  · rw [if_pos h, if_pos h]
    unfold keyT
    rw [List.map_map, List.map_map]
    refine List.map_congr_left fun p _ => ?_
    show (if p.1.map Sum.inl = ks.map Sum.inl then (p.1.map Sum.inl, v) else (p.1.map Sum.inl, p.2)) = _
    by_cases e : p.1 = ks
    · rw [if_pos (by rw [e])]
      show _ = ((if p.1 = ks then (p.1, v) else p).1.map Sum.inl, (if p.1 = ks then (p.1, v) else p).2)
      rw [if_pos e]
    · rw [if_neg (fun z => e (inl_inj z))]
      show _ = ((if p.1 = ks then (p.1, v) else p).1.map Sum.inl, (if p.1 = ks then (p.1, v) else p).2)
      rw [if_neg e]
  · rw [if_neg h, if_neg h]
    unfold keyT
    rw [List.map_append]
    rfl
theorem kV_ints (ks : List Int) : (ks.map Sum.inl : List Key).map kV = ks.map V.int := by rw [List.map_map]; rfl
theorem dget_t {r : Option Addr} {X : Addr → Prop} {σ : L2.St} {H : Hp} {v w : V} {ks : List Int} {kvs : List (List Int × V)} (E : Sv Z r X H σ ρ) (hy : Rb Z r X H σ ρ (.tup (ks.map .int)) w) (hx : Rb Z r X H σ ρ (.dt kvs) v) :
    ∃ a, v = .ref a ∧ DGet H a w (valV kvs ks) := by
  obtain ⟨a, rfl, h1⟩ := hx.dt E
  obtain ⟨b, vs, rfl, h2, h3⟩ := hy.tup
  have e := repL_ints.mp h3
  subst e
  refine ⟨a, rfl, ?_⟩
  rw [← valV_keyT]
  refine .t h1 ?_
  rw [kV_ints]
  exact h2
theorem dget_k {r : Option Addr} {X : Addr → Prop} {σ : L2.St} {H : Hp} {v w : V} {k : Int} {kvs : List (Int × V)} (hy : Rb Z r X H σ ρ (.int k) w) (hx : Rb Z r X H σ ρ (.dk kvs) v) :
    ∃ a, v = .ref a ∧ DGet H a w (valV kvs k) := by
  obtain ⟨a, rfl, _, h1⟩ := rep_dk.mp (hx.rep (fun _ z => nomatch z) (fun _ z => nomatch z))
  rw [hy.int]
  refine ⟨a, rfl, ?_⟩
  rw [← valV_keyK]
  exact .k (k := Sum.inl k) h1
theorem we_dinT (h : Wb Z ty ρ fun y => Wb Z td ρ fun x => ∃ ks kvs, y = .tup (ks.map .int) ∧ x = .dt kvs ∧ Q (.bl (valV kvs ks).isSome)) : We Z (tDIn ty td) ρ Q := fun r X σ H E k hk =>
  h r X σ H E _ fun w y H1 E1 f1 b1 h1 => h1 r X σ H1 E1 _ fun v x H2 E2 f2 b2 ⟨ks, kvs, e1, e2, q⟩ => by
    subst e1 e2
    obtain ⟨a, rfl, g⟩ := dget_t E2 (b1.keep f2) b2
    exact ⟨a, _, rfl, g, hk _ _ H2 E2 (f1.trans f2) (rep_bl.mpr rfl) q⟩
theorem we_dniT (h : Wb Z ty ρ fun y => Wb Z td ρ fun x => ∃ ks kvs, y = .tup (ks.map .int) ∧ x = .dt kvs ∧ Q (.bl (!(valV kvs ks).isSome))) : We Z (tDNotIn ty td) ρ Q := fun r X σ H E k hk =>
  h r X σ H E _ fun w y H1 E1 f1 b1 h1 => h1 r X σ H1 E1 _ fun v x H2 E2 f2 b2 ⟨ks, kvs, e1, e2, q⟩ => by
    subst e1 e2
    obtain ⟨a, rfl, g⟩ := dget_t E2 (b1.keep f2) b2
    exact ⟨a, _, rfl, g, hk _ _ H2 E2 (f1.trans f2) (rep_bl.mpr rfl) q⟩
theorem we_dinK (h : Wb Z ty ρ fun y => Wb Z td ρ fun x => ∃ k kvs, y = .int k ∧ x = .dk kvs ∧ Q (.bl (valV kvs k).isSome)) : We Z (tDIn ty td) ρ Q := fun r X σ H E k hk =>
  h r X σ H E _ fun w y H1 E1 f1 b1 h1 => h1 r X σ H1 E1 _ fun v x H2 E2 f2 b2 ⟨ks, kvs, e1, e2, q⟩ => by
    subst e1 e2
    obtain ⟨a, rfl, g⟩ := dget_k (b1.keep f2) b2
    exact ⟨a, _, rfl, g, hk _ _ H2 E2 (f1.trans f2) (rep_bl.mpr rfl) q⟩
theorem we_dniK (h : Wb Z ty ρ fun y => Wb Z td ρ fun x => ∃ k kvs, y = .int k ∧ x = .dk kvs ∧ Q (.bl (!(valV kvs k).isSome))) : We Z (tDNotIn ty td) ρ Q := fun r X σ H E k hk =>
  h r X σ H E _ fun w y H1 E1 f1 b1 h1 => h1 r X σ H1 E1 _ fun v x H2 E2 f2 b2 ⟨ks, kvs, e1, e2, q⟩ => by
    subst e1 e2
    obtain ⟨a, rfl, g⟩ := dget_k (b1.keep f2) b2
    exact ⟨a, _, rfl, g, hk _ _ H2 E2 (f1.trans f2) (rep_bl.mpr rfl) q⟩
theorem we_dgetI (h : Wb Z td ρ fun x => Wb Z ty ρ fun y => ∃ ks kvs i, y = .tup (ks.map .int) ∧ x = .dt kvs ∧ valV kvs ks = some (.int i) ∧ Q (.int i)) : We Z (tDGet td ty) ρ Q := fun r X σ H E k hk =>
  h r X σ H E _ fun v x H1 E1 f1 b1 h1 => h1 r X σ H1 E1 _ fun w y H2 E2 f2 b2 ⟨ks, kvs, i, e1, e2, e3, q⟩ => by
    subst e1 e2
    obtain ⟨a, rfl, g⟩ := dget_t E2 b2 (b1.keep f2)
    rw [e3] at g
    exact ⟨a, _, rfl, g, hk _ _ H2 E2 (f1.trans f2) (rep_int.mpr rfl) q⟩
theorem cd_lenDk {kvs : List (Int × V)} (q : Q (.int kvs.length)) : CbD Z ρ (fun xs H Q => ∃ d, ∃ kvs : List (Key × V), xs = [.ref d] ∧ Rd H d (.dK kvs) ∧ Q (.int kvs.length) H) [.dk kvs] Q := fun r X σ H vs E h k hk => by
  obtain ⟨v, rfl, b⟩ := h.one
  obtain ⟨a, rfl, _, h1⟩ := rep_dk.mp (b.rep (fun _ z => nomatch z) (fun _ z => nomatch z))
  refine ⟨a, keyK kvs, rfl, .inl h1, ?_⟩
  have e : (keyK kvs).length = kvs.length := List.length_map _
  rw [e]
  exact hk _ _ H E Fx.refl (rep_int.mpr rfl) q

/-! ### calls -/
mutual
/-- data without a list or a dict in it -/
def LF : D → Bool
  | .tup ds => LFL ds
  | .lst _ => false
  | .dt _ => false
  | .dk _ => false
  | .clo _ _ _ _ => false
  | _ => true
def LFL : List D → Bool
  | [] => true
  | d :: ds => LF d && LFL ds
end
theorem LFL_all : ∀ {ds : List D}, LFL ds = true ↔ ∀ d ∈ ds, LF d = true
  | [] => by rw [LFL]; exact ⟨fun _ _ h => (nomatch h), fun _ => rfl⟩
  | d :: ds => by
    rw [LFL, Bool.and_eq_true, LFL_all]
    constructor
    · rintro ⟨h1, h2⟩ x hx
      rcases List.mem_cons.mp hx with rfl | hx
      · exact h1
      · exact h2 x hx
    · exact fun h => ⟨h d List.mem_cons_self, fun x hx => h x (List.mem_cons_of_mem _ hx)⟩
theorem LF_tup : LF (.tup ds) = true ↔ ∀ d ∈ ds, LF d = true := by rw [LF, LFL_all]
mutual
theorem Rep.lf {H : Hp} {A A' : Addr → Prop} : ∀ {d : D} {v : V}, LF d = true → Rep Z H A d v → Rep Z H A' d v
  | .non, _, _, h => rep_non.mpr (rep_non.mp h)
  | .bl _, _, _, h => rep_bl.mpr (rep_bl.mp h)
  | .int _, _, _, h => rep_int.mpr (rep_int.mp h)
  | .str _, _, _, h => rep_str.mpr (rep_str.mp h)
  | .tup ds, _, l, h => by
    obtain ⟨a, vs, e, t, q⟩ := rep_tup.mp h
    rw [LF] at l
    exact rep_tup.mpr ⟨a, vs, e, t, RepL.lf l q⟩
  | .lst _, _, l, _ => by rw [LF] at l; cases l
  | .pty _ _, _, _, h => by rw [rep_pty] at h ⊢; exact h
  | .raw _, _, _, h => by rw [rep_raw] at h ⊢; exact h
  | .exn _ _ _ _, _, _, h => by rw [rep_exn] at h ⊢; exact h
  | .clo _ _ _ _, _, l, _ => by rw [LF] at l; cases l
  | .dt _, _, l, _ => by rw [LF] at l; cases l
  | .dk _, _, l, _ => by rw [LF] at l; cases l
theorem RepL.lf {H : Hp} {A A' : Addr → Prop} : ∀ {ds : List D} {vs : List V}, LFL ds = true → RepL Z H A ds vs → RepL Z H A' ds vs
  | [], _, _, h => repL_nil.mpr (repL_nil.mp h)
  | d :: ds, _, l, h => by
    obtain ⟨v, r, e, h1, h2⟩ := repL_cons.mp h
    rw [LFL, Bool.and_eq_true] at l
    exact repL_cons.mpr ⟨v, r, e, Rep.lf l.1 h1, RepL.lf l.2 h2⟩
end
def noA : Addr → Prop := fun _ => False
theorem Rb.rep0 {r : Option Addr} {X : Addr → Prop} {σ : L2.St} {H : Hp} {v : V} (E : Sv Z r X H σ ρ) (h : Rb Z r X H σ ρ d v) : Rep Z H noA d v := by
  have m : Mv H (Av r X σ ρ) H noA := ⟨fun _ _ _ e => ⟨e, fun z => z⟩, fun _ _ _ e => e⟩
  rcases h with h | ⟨i, e, h1, h2, h3⟩
  · exact h.mv m
  · cases e with
    | l es =>
      cases h3
      obtain ⟨a, vs, q1, q2, q3⟩ := E.at_ i _ h1
      rw [h2] at q1
      cases q1
      exact rep_lst.mpr ⟨a, vs, rfl, fun z => z, q2, q3.mv m⟩
    | t kvs =>
      cases h3
      obtain ⟨a, q1, q2⟩ := E.at_ i _ h1
      rw [h2] at q1
      cases q1
      exact rep_dt.mpr ⟨a, rfl, fun z => z, q2⟩
    | un => cases h3
    | v _ => cases h3
    | row => cases h3
theorem RbL.rep0 {r : Option Addr} {X : Addr → Prop} {σ : L2.St} {H : Hp} (E : Sv Z r X H σ ρ) : ∀ {ds : List D} {vs : List V}, RbL Z r X H σ ρ ds vs → RepL Z H noA ds vs
  | _, _, .nil => repL_nil.mpr rfl
  | _, _, .cons h t => repL_cons.mpr ⟨_, _, rfl, h.rep0 E, RbL.rep0 E t⟩
/-- what a def promises: a value | a new list | a new dict, by the data of its arguments -/
def SpV (Z : Cs) (spec : List D → (D → Prop) → Prop) : Sp := fun vs H Q _ => ∃ (A : Addr → Prop) (ds : List D) (Po : D → Prop), RepL Z H A ds vs ∧ (∀ a, A a → ∃ o, H a = some o) ∧ spec ds Po ∧
  ∀ v d H', Same H H' → Rep Z H' A d v → Po d → Q v H'
def SpL (Z : Cs) (spec : List D → (List D → Prop) → Prop) : Sp := fun vs H Q _ => ∃ (A : Addr → Prop) (ds : List D) (Po : List D → Prop), RepL Z H A ds vs ∧ (∀ a, A a → ∃ o, H a = some o) ∧ spec ds Po ∧
  ∀ p ws es H', Same H H' → H p = none → H' p = some (.lst ws) → RepL Z H' (Xp A p) es ws → Po es → Q (.ref p) H'
def SpD (Z : Cs) (spec : List D → (List (List Int × V) → Prop) → Prop) : Sp := fun vs H Q _ => ∃ (A : Addr → Prop) (ds : List D) (Po : List (List Int × V) → Prop), RepL Z H A ds vs ∧ (∀ a, A a → ∃ o, H a = some o) ∧ spec ds Po ∧
  ∀ p kvs H', Same H H' → H p = none → H' p = some (.dT (keyT kvs)) → Po kvs → Q (.ref p) H'
theorem we_call {spec : List D → (D → Prop) → Prop} {E' : XK} (h : Wa Z tl ρ fun ds => spec ds Q) : We Z (tCall (SpV Z spec) [] E' tl) ρ Q := fun r X σ H E k hk => h r X σ H E _ fun vs ds H1 E1 f1 b1 s1 => by
  rw [List.append_nil]
  exact ⟨Av r X σ ρ, ds, Q, b1, fun a z => E1.av_tracked z, s1, fun v d H2 s h2 q => hk v d H2 (E1.same s) (f1.trans (Fx.same s)) h2 q⟩
/-- .. that may be handed what a slot owns: the answer holds no list -/
theorem we_callb {spec : List D → (D → Prop) → Prop} {E' : XK} (h : Wab Z tl ρ fun ds => spec ds fun d => LF d = true ∧ Q d) : We Z (tCall (SpV Z spec) [] E' tl) ρ Q := fun r X σ H E k hk => h r X σ H E _ fun vs ds H1 E1 f1 b1 s1 => by
  rw [List.append_nil]
  exact ⟨noA, ds, _, b1.rep0 E1, fun a z => False.elim z, s1, fun v d H2 s h2 q => hk v d H2 (E1.same s) (f1.trans (Fx.same s)) (h2.lf q.1) q.2⟩
theorem wl_call {spec : List D → (List D → Prop) → Prop} {E' : XK} {Q : List D → Prop} (h : Wa Z tl ρ fun ds => spec ds Q) : Wl Z (tCall (SpL Z spec) [] E' tl) ρ Q := fun r X σ H E k hk => h r X σ H E _ fun vs ds H1 E1 f1 b1 s1 => by
  rw [List.append_nil]
  refine ⟨Av r X σ ρ, ds, Q, b1, fun a z => E1.av_tracked z, s1, fun p ws es H2 s hp h2 h3 q => hk p ws es H2 (f1.new hp) (E1.grow s fun a z => ?_) (f1.trans (Fx.same s)) h2 (h3.mv ⟨fun a o n e => ⟨e, fun z => n ?_⟩, fun _ _ _ e => e⟩) q⟩
  · rcases z with z | z
    · exact .inl z
    · subst z; exact .inr ⟨hp, _, h2⟩
  · rcases z with z | (z | z) | z
    · exact .inl (.inl z)
    · exact .inl (.inr (.inl z))
    · exact .inr z
    · exact .inl (.inr (.inr z))
/-- .. handed what a slot owns: the new list's items hold no list -/
theorem wl_callb {spec : List D → (List D → Prop) → Prop} {E' : XK} {Q : List D → Prop} (h : Wab Z tl ρ fun ds => spec ds fun es => LFL es = true ∧ Q es) : Wl Z (tCall (SpL Z spec) [] E' tl) ρ Q := fun r X σ H E k hk => h r X σ H E _ fun vs ds H1 E1 f1 b1 s1 => by
  rw [List.append_nil]
  refine ⟨noA, ds, _, b1.rep0 E1, fun a z => False.elim z, s1, fun p ws es H2 s hp h2 h3 q => hk p ws es H2 (f1.new hp) (E1.grow s fun a z => ?_) (f1.trans (Fx.same s)) h2 (h3.lf q.1) q.2⟩
  rcases z with z | z
  · exact .inl z
  · subst z; exact .inr ⟨hp, _, h2⟩
theorem wd_call {spec : List D → (List (List Int × V) → Prop) → Prop} {E' : XK} {Q : List (List Int × V) → Prop} (h : Wab Z tl ρ fun ds => spec ds Q) : Wd Z (tCall (SpD Z spec) [] E' tl) ρ Q := fun r X σ H E k hk => h r X σ H E _ fun vs ds H1 E1 f1 b1 s1 => by
  rw [List.append_nil]
  refine ⟨noA, ds, Q, b1.rep0 E1, fun a z => False.elim z, s1, fun p kvs H2 s hp h2 q => hk p kvs H2 (f1.new hp) (E1.grow s fun a z => ?_) (f1.trans (Fx.same s)) h2 q⟩
  rcases z with z | z
  · exact .inl z
  · subst z; exact .inr ⟨hp, _, h2⟩
/-! .. whose first argument is the row -/
structure SameR (a : Addr) (H H' : Hp) : Prop where
  st : ∀ b o, b ≠ a → H b = some o → H' b = some o
def SpRV (Z : Cs) (spec : List D → (D → Prop) → Prop) : Sp := fun vs H Q _ => ∃ (A : Addr → Prop) (a : Addr) (ws : List V) (ds : List D) (Po : D → Prop), vs = .ref a :: ws ∧ ¬ A a ∧ RowOk Z.K H (Xp A a) a ∧ RepL Z H (Xp A a) ds ws ∧ (∀ a, A a → ∃ o, H a = some o) ∧ spec ds Po ∧
  ∀ v d H', SameR a H H' → RowOk Z.K H' (Xp A a) a → Rep Z H' (Xp A a) d v → Po d → Q v H'
def SpRL (Z : Cs) (spec : List D → (List D → Prop) → Prop) : Sp := fun vs H Q _ => ∃ (A : Addr → Prop) (a : Addr) (ws : List V) (ds : List D) (Po : List D → Prop), vs = .ref a :: ws ∧ ¬ A a ∧ RowOk Z.K H (Xp A a) a ∧ RepL Z H (Xp A a) ds ws ∧ (∀ a, A a → ∃ o, H a = some o) ∧ spec ds Po ∧
  ∀ p us es H', SameR a H H' → RowOk Z.K H' (Xp (Xp A a) p) a → H p = none → H' p = some (.lst us) → RepL Z H' (Xp (Xp A a) p) es us → Po es → Q (.ref p) H'
theorem Sv.rowed {r : Option Addr} {X X' : Addr → Prop} {σ : L2.St} {H H' : Hp} {a : Addr} (E : Sv Z r X H σ ρ) (hr : r = some a) (s : SameR a H H') (h : RowOk Z.K H' (Av r X' σ ρ) a) (hx : ∀ b, X' b → X b ∨ (H b = none ∧ ∃ o, H' b = some o)) : Sv Z r X' H' σ ρ ∧ Fx r H H' := by
  obtain ⟨⟨sc, i, mm, g, ns, ha, _⟩, h2, h3⟩ := E.row a hr
  have tp : ∀ b o, immO o = true → H b = some o → H' b = some o := fun b o i e => s.st b o (fun z => by subst z; rw [ha] at e; cases e; cases i) e
  have m : Mv H (Av r X σ ρ) H' (Av r X' σ ρ) := ⟨fun b o n e => ⟨s.st b o (fun z => n (.inr (.inr (by rw [z]; exact hr)))) e, fun z => by
    rcases z with z | z | z
    · exact n (.inl z)
    · rcases hx b z with z | ⟨z, _⟩
      · exact n (.inr (.inl z))
      · rw [e] at z; cases z
    · exact n (.inr (.inr z))⟩, tp⟩
  refine ⟨⟨E.len, fun i e q => (E.at_ i e q).mv m fun k b o z w => s.st b o (fun y => h2 ⟨i, e, q, k, by rw [← y]; exact z⟩) w, E.dis, fun b z => ?_, fun b z => ?_⟩, fun b o e n => s.st b o (fun z => n (by rw [z]; exact hr)) e, fun b o e => ?_, tp⟩
  · rcases hx b z with z | ⟨z, q⟩
    · obtain ⟨⟨o, q1⟩, q2⟩ := E.xin b z
      exact ⟨⟨o, s.st b o (fun y => by subst y; exact h3 z) q1⟩, q2⟩
    · exact ⟨q, fun y => by obtain ⟨o, y⟩ := E.tracked y; rw [z] at y; cases y⟩
  · rw [hr] at z
    cases z
    exact ⟨h, h2, fun z => by rcases hx a z with z | ⟨z, _⟩; exact h3 z; rw [ha] at z; cases z⟩
  · by_cases y : b = a
    · subst y
      obtain ⟨sc, i, mm, g, ns, q, _⟩ := h
      exact ⟨_, q⟩
    · exact ⟨o, s.st b o y e⟩
/-- all that is kept apart but the row -/
def Aw (X : Addr → Prop) (σ : L2.St) (ρ : List En) : Addr → Prop := fun a => Ow σ ρ a ∨ X a
theorem aw_av {X : Addr → Prop} {σ : L2.St} {a b : Addr} : Xp (Aw X σ ρ) a b ↔ Av (some a) X σ ρ b := by
  constructor
  · rintro ((z | z) | z)
    · exact .inl z
    · exact .inr (.inl z)
    · subst z; exact .inr (.inr rfl)
  · rintro (z | z | z)
    · exact .inl (.inl z)
    · exact .inl (.inr z)
    · cases z; exact .inr rfl
theorem rep_iff {H : Hp} {A A' : Addr → Prop} (h : ∀ a, A a ↔ A' a) {d : D} {v : V} (q : Rep Z H A d v) : Rep Z H A' d v := q.mv ⟨fun a _ n e => ⟨e, fun z => n ((h a).mpr z)⟩, fun _ _ _ e => e⟩
theorem repL_iff {H : Hp} {A A' : Addr → Prop} (h : ∀ a, A a ↔ A' a) {ds : List D} {v : List V} (q : RepL Z H A ds v) : RepL Z H A' ds v := q.mv ⟨fun a _ n e => ⟨e, fun z => n ((h a).mpr z)⟩, fun _ _ _ e => e⟩
theorem row_iff {K : PySem.W.Frag} {H : Hp} {A A' : Addr → Prop} {a : Addr} (h : ∀ a, A a ↔ A' a) (q : RowOk K H A a) : RowOk K H A' a := q.mv ⟨fun a _ n e => ⟨e, fun z => n ((h a).mpr z)⟩, fun _ _ _ e => e⟩ fun _ e => e
theorem we_rcall {i : Nat} {spec : List D → (D → Prop) → Prop} {E' : XK} (hr : ρ[i]? = some .row) (h : Wa Z tl ρ fun ds => spec ds Q) : We Z (tCall (SpRV Z spec) [] E' (tCons (tVar i) tl)) ρ Q := fun r X σ H E k hk => by
  obtain ⟨a, e1, e2⟩ := E.at_ i _ hr
  refine ⟨_, e1, h r X σ H E _ fun vs ds H1 E1 f1 b1 s1 => ?_⟩
  show SpRV Z spec ((.ref a :: vs) ++ []) H1 k E'
  rw [List.append_nil]
  obtain ⟨q1, q2, q3⟩ := E1.row a e2
  subst e2
  refine ⟨Aw X σ ρ, a, vs, ds, Q, rfl, fun z => z.elim q2 q3, row_iff (fun _ => aw_av.symm) q1, repL_iff (fun _ => aw_av.symm) b1, fun b z => z.elim (fun z => E1.tracked z) fun z => (E1.xin b z).1, s1, fun v d H2 s h2 h3 q => ?_⟩
  obtain ⟨E2, f2⟩ := E1.rowed (X' := X) rfl s (row_iff (fun _ => aw_av) h2) fun b z => .inl z
  exact hk v d H2 E2 (f1.trans f2) (rep_iff (fun _ => aw_av) h3) q
theorem wl_rcall {i : Nat} {spec : List D → (List D → Prop) → Prop} {E' : XK} {Q : List D → Prop} (hr : ρ[i]? = some .row) (h : Wa Z tl ρ fun ds => spec ds Q) : Wl Z (tCall (SpRL Z spec) [] E' (tCons (tVar i) tl)) ρ Q := fun r X σ H E k hk => by
  obtain ⟨a, e1, e2⟩ := E.at_ i _ hr
  refine ⟨_, e1, h r X σ H E _ fun vs ds H1 E1 f1 b1 s1 => ?_⟩
  show SpRL Z spec ((.ref a :: vs) ++ []) H1 k E'
  rw [List.append_nil]
  obtain ⟨q1, q2, q3⟩ := E1.row a e2
  subst e2
  refine ⟨Aw X σ ρ, a, vs, ds, Q, rfl, fun z => z.elim q2 q3, row_iff (fun _ => aw_av.symm) q1, repL_iff (fun _ => aw_av.symm) b1, fun b z => z.elim (fun z => E1.tracked z) fun z => (E1.xin b z).1, s1, fun p us es H2 s h2 hp h3 h4 q => ?_⟩
  have pa : p ≠ a := fun z => by
    subst z
    obtain ⟨sc, i, mm, g, ns, ha, _⟩ := q1
    rw [hp] at ha; cases ha
  have m : ∀ b, Xp (Xp (Aw X σ ρ) a) p b ↔ Av (some a) (Xp X p) σ ρ b := fun b => by
    constructor
    · rintro (z | z)
      · exact Xp.av (aw_av.mp z)
      · exact .inr (.inl (.inr z))
    · rintro (z | (z | z) | z)
      · exact .inl (.inl (.inl z))
      · exact .inl (.inl (.inr z))
      · exact .inr z
      · cases z; exact .inl (.inr rfl)
  have hx : ∀ b, Xp X p b → X b ∨ (H1 b = none ∧ ∃ o, H2 b = some o) := fun b z => by
    rcases z with z | z
    · exact .inl z
    · subst z; exact .inr ⟨hp, _, h3⟩
  obtain ⟨E2, f2⟩ := E1.rowed (X' := Xp X p) rfl s (row_iff m h2) hx
  exact hk p us es H2 (f1.new hp) E2 (f1.trans f2) h3 (repL_iff m h4) q
end
end DL
/-! DL5: slots stored, instances, comprehensions. -/
namespace DL
open PySem PySem.Spec PyProof.Rows L2
section
variable {Z : Cs} {r : Option Addr} {X X' : Addr → Prop} {H H' H1 H2 H3 : Hp} {σ σ' : L2.St} {ρ ρ' : List En} {d : D} {ds : List D} {v : V} {vs : List V} {a p : Addr} {o : HO} {e : En} {s : Option V}
theorem Mv.trans {A A1 A2 : Addr → Prop} (f : Mv H A H1 A1) (g : Mv H1 A1 H2 A2) : Mv H A H2 A2 :=
  ⟨fun a o n h => g.mv a o (f.mv a o n h).2 (f.mv a o n h).1, fun a o i h => g.tp a o i (f.tp a o i h)⟩
theorem set_get {α : Type} {l : List α} {i j : Nat} {x y : α} (h : (l.set i x)[j]? = some y) : (j = i ∧ y = x) ∨ (j ≠ i ∧ l[j]? = some y) := by
  by_cases e : i = j
  · subst e
    rw [List.getElem?_set] at h
    simp only [if_true] at h
    split at h
    · exact .inl ⟨rfl, (Option.some.inj h).symm⟩
    · cases h
  · rw [List.getElem?_set_ne e] at h
    exact .inr ⟨fun z => e z.symm, h⟩
theorem ow_set_sub {i : Nat} (ho : own e = false) (h : Ow (σ.set i s) (ρ.set i e) a) : Ow σ ρ a := by
  obtain ⟨j, e', h1, h2, h3⟩ := h
  rcases set_get h1 with ⟨_, rfl⟩ | ⟨n, q⟩
  · rw [ho] at h2; cases h2
  · rw [List.getElem?_set_ne (Ne.symm n)] at h3
    exact ⟨j, e', q, h2, h3⟩
theorem ow_set_sup {i : Nat} (ho : ∀ e', ρ[i]? = some e' → own e' = false) (h : Ow σ ρ a) : Ow (σ.set i s) (ρ.set i e) a := by
  obtain ⟨j, e', h1, h2, h3⟩ := h
  have n : i ≠ j := fun z => by subst z; rw [ho e' h1] at h2; cases h2
  exact ⟨j, e', by rw [List.getElem?_set_ne n]; exact h1, h2, by rw [List.getElem?_set_ne n]; exact h3⟩
theorem av_sub {A B : Addr → Prop} (h : ∀ a, A a → B a) : Mv H B H A := ⟨fun _ _ n e => ⟨e, fun z => n (h _ z)⟩, fun _ _ _ e => e⟩
/-- a slot is stored, by a thing that is not owned -/
theorem Sv.set {i : Nat} (E : Sv Z r X H σ ρ) (ho : own e = false) (ok : EnOk Z r H (Av r X σ ρ) e (some s)) : Sv Z r X H (σ.set i s) (ρ.set i e) := by
  have sub : ∀ a, Ow (σ.set i s) (ρ.set i e) a → Ow σ ρ a := fun a => ow_set_sub ho
  have m : Mv H (Av r X σ ρ) H (Av r X (σ.set i s) (ρ.set i e)) := av_sub fun a z => z.elim (fun z => .inl (sub a z)) .inr
  refine ⟨by rw [List.length_set, List.length_set]; exact E.len, fun j e' h => ?_, fun j k e1 e2 a h1 h2 o1 o2 g1 g2 => ?_, fun a z => ⟨(E.xin a z).1, fun y => (E.xin a z).2 (sub a y)⟩, fun a z => ?_⟩
  · by_cases hj : i = j
    · subst hj
      have hi : i < ρ.length := by
        have := (List.getElem?_eq_some_iff.mp h).1
        rwa [List.length_set] at this
      rw [List.getElem?_set_self hi] at h
      cases h
      rw [List.getElem?_set_self (by rw [E.len]; exact hi)]
      exact ok.mv m fun k => by rw [ho] at k; cases k
    · rw [List.getElem?_set_ne hj] at h
      rw [List.getElem?_set_ne hj]
      exact (E.at_ j e' h).mv m fun _ _ _ _ q => q
  · rcases set_get h1 with ⟨_, rfl⟩ | ⟨n1, q1⟩
    · rw [ho] at o1; cases o1
    · rcases set_get h2 with ⟨_, rfl⟩ | ⟨n2, q2⟩
      · rw [ho] at o2; cases o2
      · rw [List.getElem?_set_ne (Ne.symm n1)] at g1
        rw [List.getElem?_set_ne (Ne.symm n2)] at g2
        exact E.dis j k e1 e2 a q1 q2 o1 o2 g1 g2
  · obtain ⟨h1, h2, h3⟩ := E.row a z
    exact ⟨h1.mv m fun _ q => q, fun y => h2 (sub a y), h3⟩
theorem Sv.setv {i : Nat} (E : Sv Z r X H σ ρ) (h : Rep Z H (Av r X σ ρ) d v) : Sv Z r X H (σ.set i (some v)) (ρ.set i (.v d)) := E.set rfl ⟨v, rfl, h⟩
theorem Sv.drop {i : Nat} (E : Sv Z r X H σ ρ) (s : Option V) : Sv Z r X H (σ.set i s) (ρ.set i .un) := E.set (e := .un) rfl trivial
theorem fr_set {i : Nat} (ho : own e = false) : Fr r σ ρ H (σ.set i s) (ρ.set i e) H := ⟨fun _ _ h n _ => ⟨h, fun z => n (ow_set_sub ho z)⟩, fun _ o h => ⟨o, h⟩, fun _ _ _ h => h⟩
/-- forget what is known of a slot -/
theorem set_same {α : Type} : ∀ {l : List α} {i : Nat} {x : α}, l[i]? = some x → l.set i x = l
  | [], _, _, h => by simp at h
  | a :: l, 0, x, h => by cases h; rfl
  | a :: l, i + 1, x, h => by
    show a :: l.set i x = a :: l
    rw [set_same (l := l) (by simpa using h)]
theorem Sv.forget {i : Nat} (E : Sv Z r X H σ ρ) : Sv Z r X H σ (ρ.set i .un) := by
  by_cases h : i < σ.length
  · have q := E.drop (i := i) σ[i]
    rw [set_same (List.getElem?_eq_getElem h)] at q
    exact q
  · rw [List.set_eq_of_length_le (by rw [← E.len]; omega)]
    exact E
/-- a slot is stored, by a new list | dict -/
theorem Sv.take {i : Nat} (E : Sv Z r (Xp X p) H σ ρ) (hX : ¬ X p) (ho : own e = true) (ok : EnOk Z r H (Av r (Xp X p) σ ρ) e (some (some (.ref p)))) : Sv Z r X H (σ.set i (some (.ref p))) (ρ.set i e) := by
  have sub : ∀ a, Ow (σ.set i (some (.ref p))) (ρ.set i e) a → Ow σ ρ a ∨ a = p := fun a z => by
    obtain ⟨j, e', h1, h2, h3⟩ := z
    rcases set_get h1 with ⟨rfl, rfl⟩ | ⟨n, q⟩
    · rcases set_get h3 with ⟨_, y⟩ | ⟨n, _⟩
      · injection y with y
        injection y with y
        exact .inr y
      · exact absurd rfl n
    · rw [List.getElem?_set_ne (Ne.symm n)] at h3
      exact .inl ⟨j, e', q, h2, h3⟩
  have m : Mv H (Av r (Xp X p) σ ρ) H (Av r X (σ.set i (some (.ref p))) (ρ.set i e)) := av_sub fun a z => by
    rcases z with z | z | z
    · rcases sub a z with z | z
      · exact .inl z
      · exact .inr (.inl (.inr z))
    · exact .inr (.inl (.inl z))
    · exact .inr (.inr z)
  have np : ¬ Ow σ ρ p := (E.xin p (.inr rfl)).2
  refine ⟨by rw [List.length_set, List.length_set]; exact E.len, fun j e' h => ?_, fun j k e1 e2 a h1 h2 o1 o2 g1 g2 => ?_, fun a z => ⟨(E.xin a (.inl z)).1, fun y => ?_⟩, fun a z => ?_⟩
  · by_cases hj : i = j
    · subst hj
      have hi : i < ρ.length := by
        have := (List.getElem?_eq_some_iff.mp h).1
        rwa [List.length_set] at this
      rw [List.getElem?_set_self hi] at h
      cases h
      rw [List.getElem?_set_self (by rw [E.len]; exact hi)]
      exact ok.mv m fun _ _ _ _ q => q
    · rw [List.getElem?_set_ne hj] at h
      rw [List.getElem?_set_ne hj]
      exact (E.at_ j e' h).mv m fun _ _ _ _ q => q
  · rcases set_get h1 with ⟨rfl, rfl⟩ | ⟨n1, q1⟩
    · rcases set_get h2 with ⟨rfl, rfl⟩ | ⟨n2, q2⟩
      · rfl
      · rcases set_get g1 with ⟨_, y⟩ | ⟨n, _⟩
        · injection y with y
          injection y with y
          rw [List.getElem?_set_ne (Ne.symm n2)] at g2
          exact absurd ⟨k, e2, q2, o2, by rw [← y]; exact g2⟩ np
        · exact absurd rfl n
    · rcases set_get h2 with ⟨rfl, rfl⟩ | ⟨n2, q2⟩
      · rcases set_get g2 with ⟨_, y⟩ | ⟨n, _⟩
        · injection y with y
          injection y with y
          rw [List.getElem?_set_ne (Ne.symm n1)] at g1
          exact absurd ⟨j, e1, q1, o1, by rw [← y]; exact g1⟩ np
        · exact absurd rfl n
      · rw [List.getElem?_set_ne (Ne.symm n1)] at g1
        rw [List.getElem?_set_ne (Ne.symm n2)] at g2
        exact E.dis j k e1 e2 a q1 q2 o1 o2 g1 g2
  · rcases sub a y with y | y
    · exact (E.xin a (.inl z)).2 y
    · subst y; exact hX z
  · obtain ⟨h1, h2, h3⟩ := E.row a z
    refine ⟨h1.mv m fun _ q => q, fun y => ?_, fun y => h3 (.inl y)⟩
    rcases sub a y with y | y
    · exact h2 y
    · exact h3 (.inr y)
theorem Sv.x_new (E : Sv Z r X H σ ρ) (h : H p = none) : ¬ X p := fun z => by
  obtain ⟨⟨o, q⟩, _⟩ := E.xin p z
  rw [h] at q; cases q
/-- the frame of such a store: from a heap that does not know p -/
theorem fr_take {i : Nat} (f : Fx r H H') (hp : H p = none) : Fr r σ ρ H (σ.set i (some (.ref p))) (ρ.set i e) H' := ⟨fun a o h n k => by
  refine ⟨f.fx a o h k, fun z => ?_⟩
  obtain ⟨j, e', h1, h2, h3⟩ := z
  rcases set_get h1 with ⟨rfl, rfl⟩ | ⟨m, q⟩
  · rcases set_get h3 with ⟨_, y⟩ | ⟨m, _⟩
    · injection y with y
      injection y with y
      subst y
      rw [hp] at h; cases h
    · exact absurd rfl m
  · rw [List.getElem?_set_ne (Ne.symm m)] at h3
    exact n ⟨j, e', q, h2, h3⟩, f.dm, f.tp⟩
/-- what a slot owns changes -/
theorem Sv.mut {i : Nat} {e' : En} (E : Sv Z r X H σ ρ) (h : ρ[i]? = some e) (he : own e = true) (hs : σ[i]? = some (some (.ref a))) (ho : own e' = true) {u : HO} (ha : H a = some u) (hu : immO u = false)
    (ok : EnOk Z r (upd H a o) (Av r X σ ρ) e' (some (some (.ref a)))) : Sv Z r X (upd H a o) σ (ρ.set i e') ∧ Fr r σ ρ H σ (ρ.set i e') (upd H a o) := by
  have oa : Ow σ ρ a := ⟨i, e, h, he, hs⟩
  have hi : i < ρ.length := (List.getElem?_eq_some_iff.mp h).1
  have ow : ∀ b, Ow σ (ρ.set i e') b ↔ Ow σ ρ b := fun b => by
    constructor
    · rintro ⟨j, e1, h1, h2, h3⟩
      rcases set_get h1 with ⟨rfl, rfl⟩ | ⟨n, q⟩
      · exact ⟨j, e, h, he, h3⟩
      · exact ⟨j, e1, q, h2, h3⟩
    · rintro ⟨j, e1, h1, h2, h3⟩
      by_cases n : i = j
      · subst n
        exact ⟨i, e', by rw [List.getElem?_set_self hi], ho, h3⟩
      · exact ⟨j, e1, by rw [List.getElem?_set_ne n]; exact h1, h2, h3⟩
  have avi : ∀ b, Av r X σ (ρ.set i e') b ↔ Av r X σ ρ b := fun b => by unfold Av; rw [ow b]
  have tp : ∀ b w, immO w = true → H b = some w → upd H a o b = some w := fun b w i q => by
    rw [upd_ne (fun z => by subst z; rw [ha] at q; cases q; rw [hu] at i; cases i)]
    exact q
  have m : Mv H (Av r X σ ρ) (upd H a o) (Av r X σ (ρ.set i e')) := ⟨fun b w n q => by
    refine ⟨?_, fun z => n ((avi b).mp z)⟩
    rw [upd_ne (fun z => n (.inl (by rw [z]; exact oa)))]
    exact q, tp⟩
  refine ⟨⟨by rw [List.length_set]; exact E.len, fun j e1 h1 => ?_, fun j k e1 e2 b h1 h2 o1 o2 g1 g2 => ?_, fun b z => ?_, fun b z => ?_⟩, fun b w q n k => ?_, fun b w q => ?_, tp⟩
  · rcases set_get h1 with ⟨rfl, rfl⟩ | ⟨n, q⟩
    · rw [hs]
      exact ok.mv (av_sub fun b z => (avi b).mp z) fun _ _ _ _ q => q
    · refine (E.at_ j e1 q).mv m fun k b w z y => ?_
      rw [upd_ne (fun y => n (E.dis j i e1 e b q h k he z (by rw [y]; exact hs)))]
      exact y
  · have r1 : ∃ e1', ρ[j]? = some e1' ∧ own e1' = true := by
      rcases set_get h1 with ⟨rfl, rfl⟩ | ⟨n, q⟩
      · exact ⟨e, h, he⟩
      · exact ⟨e1, q, o1⟩
    have r2 : ∃ e1', ρ[k]? = some e1' ∧ own e1' = true := by
      rcases set_get h2 with ⟨rfl, rfl⟩ | ⟨n, q⟩
      · exact ⟨e, h, he⟩
      · exact ⟨e2, q, o2⟩
    obtain ⟨x1, y1, z1⟩ := r1
    obtain ⟨x2, y2, z2⟩ := r2
    exact E.dis j k x1 x2 b y1 y2 z1 z2 g1 g2
  · obtain ⟨⟨w, q1⟩, q2⟩ := E.xin b z
    refine ⟨?_, fun y => q2 ((ow b).mp y)⟩
    by_cases y : b = a
    · subst y; exact ⟨o, upd_same⟩
    · exact ⟨w, by rw [upd_ne y]; exact q1⟩
  · obtain ⟨q1, q2, q3⟩ := E.row b z
    refine ⟨q1.mv m fun w y => ?_, fun y => q2 ((ow b).mp y), q3⟩
    rw [upd_ne (fun x => q2 (by rw [x]; exact oa))]
    exact y
  · refine ⟨?_, fun y => n ((ow b).mp y)⟩
    rw [upd_ne (fun z => n (by rw [z]; exact oa))]
    exact q
  · by_cases y : b = a
    · subst y; exact ⟨o, upd_same⟩
    · exact ⟨w, by rw [upd_ne y]; exact q⟩
theorem Sv.fx (E : Sv Z r X H σ ρ) (f : Fx r H H') (hr : ∀ a, r = some a → RowOk Z.K H' (Av r X σ ρ) a) : Sv Z r X H' σ ρ := by
  refine ⟨E.len, fun i e h => (E.at_ i e h).mv f.mv fun k a o z q => f.fx a o q fun y => (E.row a y).2.1 ⟨i, e, h, k, z⟩, E.dis, fun a z => ?_, fun a z => ⟨hr a z, (E.row a z).2⟩⟩
  obtain ⟨⟨o, q1⟩, q2⟩ := E.xin a z
  exact ⟨f.dm a o q1, q2⟩
/-! ### comprehensions -/
def wipeE (ρ : List En) : List Nat → List En
  | [] => ρ
  | v :: vs => (wipeE ρ vs).set v .un
theorem wipeE_get : ∀ {vs : List Nat} {i : Nat} {e : En}, (wipeE ρ vs)[i]? = some e → e = .un ∨ ρ[i]? = some e
  | [], i, e, h => .inr h
  | v :: vs, i, e, h => by
    rcases set_get h with ⟨_, q⟩ | ⟨_, q⟩
    · exact .inl q
    · exact wipeE_get q
def NoOwn (ρ : List En) (vs : List Nat) : Prop := ∀ i ∈ vs, ∀ e, ρ[i]? = some e → own e = false
theorem noOwn_w {vs ws : List Nat} (h : NoOwn ρ vs) : NoOwn (wipeE ρ ws) vs := fun i hi e q => by
  rcases wipeE_get q with q | q
  · subst q; rfl
  · exact h i hi e q
theorem Sv.wipe : ∀ {vs : List Nat}, Sv Z r X H σ ρ → NoOwn ρ vs → Sv Z r X H (wipe σ vs) (wipeE ρ vs) ∧ ∀ a, Ow (L2.wipe σ vs) (wipeE ρ vs) a ↔ Ow σ ρ a
  | [], E, _ => ⟨E, fun _ => Iff.rfl⟩
  | v :: vs, E, h => by
    obtain ⟨E1, q⟩ := Sv.wipe (vs := vs) E fun i hi => h i (List.mem_cons_of_mem _ hi)
    refine ⟨E1.drop none, fun a => ?_⟩
    rw [← q a]
    exact ⟨ow_set_sub rfl, ow_set_sup fun e he => by
      rcases wipeE_get he with he | he
      · subst he; rfl
      · exact h v List.mem_cons_self e he⟩
theorem wipe_again : ∀ {vs : List Nat} {j : Nat} {x : Option V}, j ∈ vs → wipe ((wipe σ vs).set j x) vs = wipe σ vs := by
  have comm : ∀ (vs : List Nat) (τ : L2.St) (j : Nat) (x : Option V), wipe (τ.set j x) vs = if j ∈ vs then wipe τ vs else (wipe τ vs).set j x := by
    intro vs
    induction vs with
    | nil => intro τ j x; simp [L2.wipe]
    | cons v vs ih =>
      intro τ j x
      show (wipe (τ.set j x) vs).set v none = _
      rw [ih]
      by_cases h1 : j ∈ vs
      · rw [if_pos h1, if_pos (List.mem_cons_of_mem _ h1)]
        rfl
      · rw [if_neg h1]
        by_cases h2 : j = v
        · subst h2
          rw [if_pos List.mem_cons_self, List.set_set]
          rfl
        · rw [if_neg (by simp [h1, h2])]
          show _ = ((wipe τ vs).set v none).set j x
          rw [List.set_comm _ _ h2]
  have idem : ∀ (vs : List Nat) (τ : L2.St), wipe (wipe τ vs) vs = wipe τ vs := by
    intro vs
    induction vs with
    | nil => intro τ; rfl
    | cons v vs ih =>
      intro τ
      show (wipe ((wipe τ vs).set v none) vs).set v none = (wipe τ vs).set v none
      rw [comm, ih]
      by_cases h : v ∈ vs
      · rw [if_pos h]
      · rw [if_neg h, List.set_set]
  intro vs j x hj
  rw [comm, if_pos hj, idem]
end
section
variable {Z : Cs} {ρ : List En} {te tl : TE} {tt : TT} {j : Nat} {vs : List Nat} {Q : List D → Prop}
/-- a turn of a comprehension: what is known of the new list behind the items gone through -/
def LcD (Z : Cs) (ρ : List En) (vs : List Nat) (j : Nat) (tt : TT) (te : TE) (ds : List D) (Q : List D → Prop) : Prop :=
  ∃ I : List D → List D → Prop, I [] [] ∧ (∀ pre x post acc, ds = pre ++ x :: post → I pre acc → acc.length ≤ pre.length → Wt Z tt ((wipeE ρ vs).set j (.v x)) fun b => (b = true → We Z te ((wipeE ρ vs).set j (.v x)) fun y => I (pre ++ [x]) (acc ++ [y])) ∧ (b = false → I (pre ++ [x]) acc)) ∧
    ∀ acc, I ds acc → acc.length ≤ ds.length → Q acc
/-- the state of a comprehension between two turns -/
structure LcS (Z : Cs) (r : Option Addr) (X : Addr → Prop) (σ : L2.St) (ρ : List En) (H1 : Hp) (Dl : Addr) (acc : List D) (H' : Hp) : Prop where
  sv : Sv Z r (Xp X Dl) H' σ ρ
  fx : Fx r H1 H'
  mv : Mv H1 (Av r X σ ρ) H' (Av r (Xp X Dl) σ ρ)
  at_ : ∃ ws, H' Dl = some (.lst ws) ∧ RepL Z H' (Av r (Xp X Dl) σ ρ) acc ws
section
variable {r : Option Addr} {X : Addr → Prop} {H H1 H' : Hp} {σ : L2.St} {Dl : Addr} {acc : List D}
theorem LcS.start (E : Sv Z r X H1 σ ρ) (h : H1 Dl = none) : LcS Z r X σ ρ H1 Dl [] (upd H1 Dl (.lst [])) :=
  ⟨E.put h, Fx.same (same_upd h), ⟨fun a o n e => ⟨same_upd h a o e, fun z => by
    rcases z with z | (z | z) | z
    · exact n (.inl z)
    · exact n (.inr (.inl z))
    · subst z; rw [h] at e; cases e
    · exact n (.inr (.inr z))⟩, fun a o _ e => same_upd h a o e⟩, [], upd_same, repL_nil.mpr rfl⟩
theorem LcS.turn {d : D} {x : V} {B : Prop} (S : LcS Z r X σ ρ H1 Dl acc H') (hX : H1 Dl = none) (hv : NoOwn ρ vs) (hj : j ∈ vs) (hz : acc.length < sizeLine) (hx : Rep Z H' (Av r (Xp X Dl) σ ρ) d x) {K : List D → Prop} {k : Hp → Prop}
    (h : Wt Z tt ((wipeE ρ vs).set j (.v d)) fun b => (b = true → We Z te ((wipeE ρ vs).set j (.v d)) fun y => K (acc ++ [y])) ∧ (b = false → K acc))
    (hk : ∀ acc' H'', LcS Z r X σ ρ H1 Dl acc' H'' → K acc' → acc'.length ≤ acc.length + 1 → k H'') :
    wipe ((wipe σ vs).set j (some x)) vs = wipe σ vs ∧ tt ((wipe σ vs).set j (some x)) H' fun b H3 => if b = true then te ((wipe σ vs).set j (some x)) H3 fun y H4 => ∃ acc, H4 Dl = some (.lst acc) ∧ acc.length < sizeLine ∧ k (upd H4 Dl (.lst (acc ++ [y]))) else k H3 := by
  refine ⟨wipe_again hj, ?_⟩
  obtain ⟨E1, ow1⟩ := S.sv.wipe hv
  have av1 : ∀ a, Av r (Xp X Dl) (wipe σ vs) (wipeE ρ vs) a ↔ Av r (Xp X Dl) σ ρ a := fun a => by unfold Av; rw [ow1 a]
  have E2 := E1.setv (i := j) (rep_iff (fun a => (av1 a).symm) hx)
  have ow2 : ∀ a, Ow ((wipe σ vs).set j (some x)) ((wipeE ρ vs).set j (.v d)) a ↔ Ow σ ρ a := fun a => by
    rw [← ow1 a]
    exact ⟨ow_set_sub rfl, ow_set_sup (noOwn_w hv j hj)⟩
  have av2 : ∀ a, Av r (Xp X Dl) ((wipe σ vs).set j (some x)) ((wipeE ρ vs).set j (.v d)) a ↔ Av r (Xp X Dl) σ ρ a := fun a => by unfold Av; rw [ow2 a]
  have rD : r ≠ some Dl := fun z => (S.sv.row Dl z).2.2 (.inr rfl)
  have go : ∀ H3, Sv Z r (Xp X Dl) H3 ((wipe σ vs).set j (some x)) ((wipeE ρ vs).set j (.v d)) → Fx r H' H3 → LcS Z r X σ ρ H1 Dl acc H3 := fun H3 E3 f3 => by
    refine ⟨S.sv.fx f3 fun a z => row_iff av2 (E3.row a z).1, S.fx.trans f3, S.mv.trans f3.mv, ?_⟩
    obtain ⟨ws, q1, q2⟩ := S.at_
    exact ⟨ws, f3.fx Dl _ q1 rD, q2.mv f3.mv⟩
  refine h r (Xp X Dl) _ H' E2 _ fun b H3 E3 f3 q => ?_
  have S3 := go H3 E3 f3
  cases b with
  | false => exact iteF (hk acc H3 S3 (q.2 rfl) (Nat.le_succ _))
  | true =>
    refine iteT (q.1 rfl r (Xp X Dl) _ H3 E3 _ fun y dy H4 E4 f4 hy q4 => ?_)
    have S4 := go H4 E4 (f3.trans f4)
    obtain ⟨ws, q1, q2⟩ := S4.at_
    refine ⟨ws, q1, by rw [q2.length]; exact hz, hk (acc ++ [dy]) _ ⟨S4.sv.turn (.inr rfl) q1 rfl, ⟨fun a o e n => ?_, fun a o e => ?_, fun a o i e => ?_⟩, S4.mv.trans ?_, ws ++ [y], upd_same, ?_⟩ q4 (by rw [List.length_append]; exact Nat.le_refl _)⟩
    · rw [upd_ne (ne_of_none e hX)]; exact S4.fx.fx a o e n
    · rw [upd_ne (ne_of_none e hX)]; exact S4.fx.dm a o e
    · rw [upd_ne (ne_of_none e hX)]; exact S4.fx.tp a o i e
    · exact ⟨fun a o n e => ⟨by rw [upd_ne (fun z => n (by rw [z]; exact .inr (.inl (.inr rfl))))]; exact e, n⟩, fun a o i e => by
        rw [upd_ne (fun z => by subst z; rw [q1] at e; cases e; cases i)]; exact e⟩
    · have m : Mv H4 (Av r (Xp X Dl) σ ρ) (upd H4 Dl (.lst (ws ++ [y]))) (Av r (Xp X Dl) σ ρ) := ⟨fun a o n e => ⟨by rw [upd_ne (fun z => n (by rw [z]; exact .inr (.inl (.inr rfl))))]; exact e, n⟩, fun a o i e => by
        rw [upd_ne (fun z => by subst z; rw [q1] at e; cases e; cases i)]; exact e⟩
      exact (q2.mv m).append (.one ((rep_iff av2 hy).mv m))
theorem LcS.fin (S : LcS Z r X σ ρ H1 Dl acc H') (hX : H1 Dl = none) {k : VK} (hq : Q acc)
    (hk : ∀ p ws ds H', H1 p = none → Sv Z r (Xp X p) H' σ ρ → Fx r H1 H' → H' p = some (.lst ws) → RepL Z H' (Av r (Xp X p) σ ρ) ds ws → Q ds → k (.ref p) H') : k (.ref Dl) H' := by
  obtain ⟨ws, q1, q2⟩ := S.at_
  exact hk Dl ws acc H' hX S.sv S.fx q1 q2 hq
end
theorem take_pre {α : Type} {l : List α} {i : Nat} {x : α} (h : l[i]? = some x) : l = l.take i ++ x :: l.drop (i + 1) ∧ l.take (i + 1) = l.take i ++ [x] := by
  obtain ⟨hi, e⟩ := List.getElem?_eq_some_iff.mp h
  refine ⟨?_, ?_⟩
  · rw [← e, ← List.drop_eq_getElem_cons hi, List.take_append_drop]
  · rw [List.take_add_one, h]; rfl
/-- over a list -/
theorem wl_lcL (hv : NoOwn ρ vs) (hj : j ∈ vs) (h : Wb Z tl ρ fun d => ∃ ds, d = .lst ds ∧ ds.length ≤ sizeLine ∧ LcD Z ρ vs j tt te ds Q) : Wl Z (tLc (iList Z.K tl) (gName j) tt te vs) ρ Q := fun r X σ H E k hk =>
  h r X σ H E _ fun v d H1 E1 f1 b1 ⟨ds, e, hz, I, I0, It, If⟩ => by
    subst e
    obtain ⟨a, ws, rfl, h3, h4⟩ := b1.lst E1
    refine ⟨a, rfl, ⟨ws, .of h3⟩, fun Dl hD => lc_list (K := Z.K) (a := a) (xs := ws) (fun i H' => ∃ acc, LcS Z r X σ ρ H1 Dl acc H' ∧ I (ds.take i) acc ∧ acc.length ≤ i) ⟨[], LcS.start E1 hD, I0, Nat.le_refl _⟩ (fun i H' hi ⟨acc, S, _, _⟩ => .of (S.fx.fx a _ h3 fun z => ?_)) (fun i x H' hi ⟨acc, S, hI, hl⟩ => ?_) fun H' ⟨acc, S, hI, hl⟩ => ?_⟩
    · obtain ⟨⟨sc, i, mm, g, ns, ha, _⟩, q2, q3⟩ := E1.row a z
      rcases b1 with b | ⟨i, e, g1, g2, g3⟩
      · obtain ⟨a', vs', e', n', _⟩ := rep_lst.mp b
        cases e'
        exact n' (.inr (.inr z))
      · refine q2 ⟨i, e, g1, ?_, g2⟩
        cases e with
        | l _ => rfl
        | t _ => rfl
        | un => cases g3
        | v _ => cases g3
        | row => cases g3
    · obtain ⟨d, hd, hr⟩ := h4.get hi
      obtain ⟨p1, p2⟩ := take_pre hd
      have hi2 := (List.getElem?_eq_some_iff.mp hd).1
      refine S.turn (B := True) hD hv hj (by omega) (hr.mv S.mv) (K := fun acc => I (ds.take (i + 1)) acc) ?_ fun acc' H'' S' q l => ⟨acc', S', q, by omega⟩
      rw [p2]
      exact It (ds.take i) d _ acc p1 hI (by rw [List.length_take]; omega)
    · rw [h4.length, List.take_length] at hI
      exact S.fin hD (If acc hI (by rw [← h4.length]; exact hl)) fun p ws ds H' n E2 f2 q1 q2 q => hk p ws ds H' (f1.new n) E2 (f1.trans f2) q1 q2 q
/-- over a tuple -/
theorem wl_lcT (hv : NoOwn ρ vs) (hj : j ∈ vs) (h : Wb Z tl ρ fun d => ∃ ds, d = .tup ds ∧ ds.length ≤ sizeLine ∧ LcD Z ρ vs j tt te ds Q) : Wl Z (tLc (iTup Z.K tl) (gName j) tt te vs) ρ Q := fun r X σ H E k hk =>
  h r X σ H E _ fun v d H1 E1 f1 b1 ⟨ds, e, hz, I, I0, It, If⟩ => by
    subst e
    obtain ⟨a, ws, rfl, h3, h4⟩ := b1.tup
    refine ⟨a, rfl, ⟨ws, h3.sq⟩, fun Dl hD => lc_tup (K := Z.K) (a := a) (xs := ws) (fun i H' => ∃ acc, LcS Z r X σ ρ H1 Dl acc H' ∧ I (ds.take i) acc ∧ acc.length ≤ i) ⟨[], LcS.start E1 hD, I0, Nat.le_refl _⟩ (fun i H' hi ⟨acc, S, _, _⟩ => .of (S.mv.tp a _ rfl h3)) (fun i x H' hi ⟨acc, S, hI, hl⟩ => ?_) fun H' ⟨acc, S, hI, hl⟩ => ?_⟩
    · obtain ⟨d, hd, hr⟩ := h4.get hi
      obtain ⟨p1, p2⟩ := take_pre hd
      have hi2 := (List.getElem?_eq_some_iff.mp hd).1
      refine S.turn (B := True) hD hv hj (by omega) (hr.mv S.mv) (K := fun acc => I (ds.take (i + 1)) acc) ?_ fun acc' H'' S' q l => ⟨acc', S', q, by omega⟩
      rw [p2]
      exact It (ds.take i) d _ acc p1 hI (by rw [List.length_take]; omega)
    · rw [h4.length, List.take_length] at hI
      exact S.fin hD (If acc hI (by rw [← h4.length]; exact hl)) fun p ws ds H' n E2 f2 q1 q2 q => hk p ws ds H' (f1.new n) E2 (f1.trans f2) q1 q2 q
/-- a turn of a comprehension over numbers lo, lo + c, .. -/
def LcR (Z : Cs) (ρ : List En) (vs : List Nat) (j : Nat) (tt : TT) (te : TE) (lo c : Int) (n : Nat) (Q : List D → Prop) : Prop :=
  ∃ I : Nat → List D → Prop, I 0 [] ∧ (∀ i acc, i < n → I i acc → acc.length ≤ i → Wt Z tt ((wipeE ρ vs).set j (.v (.int (lo + (i : Int) * c)))) fun b => (b = true → We Z te ((wipeE ρ vs).set j (.v (.int (lo + (i : Int) * c)))) fun y => I (i + 1) (acc ++ [y])) ∧ (b = false → I (i + 1) acc)) ∧
    ∀ acc, I n acc → acc.length ≤ n → Q acc
theorem lcr_go {r : Option Addr} {X : Addr → Prop} {H1 : Hp} {σ : L2.St} {lo c : Int} {n : Nat} {k : VK} (E1 : Sv Z r X H1 σ ρ) (hv : NoOwn ρ vs) (hj : j ∈ vs) (hz : n ≤ sizeLine) (h : LcR Z ρ vs j tt te lo c n Q)
    (hk : ∀ p ws ds H', H1 p = none → Sv Z r (Xp X p) H' σ ρ → Fx r H1 H' → H' p = some (.lst ws) → RepL Z H' (Av r (Xp X p) σ ρ) ds ws → Q ds → k (.ref p) H') (J : It)
    (hgo : ∀ i H, J.stop i H ↔ n ≤ i) (hgo2 : ∀ i H, J.go i H ↔ i < n) (hy : ∀ i H x H', J.yld i H x H' → H' = H ∧ x = .int (lo + (i : Int) * c)) :
    ∀ Dl, H1 Dl = none → ∃ W : Nat → Nat → Hp → Prop, (∃ m, W 0 m (upd H1 Dl (.lst []))) ∧ ∀ i m H, W i m H → (J.stop i H ∧ k (.ref Dl) H) ∨ (J.go i H ∧ ∃ Nx : Hp → Prop, (∀ H', Nx H' → ∃ m', m' < m ∧ W (i + 1) m' H') ∧ ∀ x H', J.yld i H x H' → gName j x (wipe σ vs) H' fun σ2 H2 => wipe σ2 vs = wipe σ vs ∧ tt σ2 H2 fun b H3 =>
      if b = true then te σ2 H3 fun y H4 => ∃ acc, H4 Dl = some (.lst acc) ∧ acc.length < sizeLine ∧ Nx (upd H4 Dl (.lst (acc ++ [y]))) else Nx H3) := fun Dl hD => by
  obtain ⟨I, I0, It, If⟩ := h
  refine ⟨fun i m H => m = n - i ∧ i ≤ n ∧ ∃ acc, LcS Z r X σ ρ H1 Dl acc H ∧ I i acc ∧ acc.length ≤ i, ⟨n, by simp, Nat.zero_le _, [], LcS.start E1 hD, I0, Nat.le_refl _⟩, ?_⟩
  rintro i m H ⟨rfl, hi, acc, S, hI, hl⟩
  by_cases hlt : i < n
  · refine .inr ⟨(hgo2 i H).mpr hlt, fun H' => i + 1 ≤ n ∧ ∃ acc, LcS Z r X σ ρ H1 Dl acc H' ∧ I (i + 1) acc ∧ acc.length ≤ i + 1, fun H' q => ⟨n - (i + 1), by omega, rfl, q⟩, fun x H' y => ?_⟩
    obtain ⟨e1, e2⟩ := hy i H x H' y
    subst e1 e2
    exact S.turn (B := True) hD hv hj (by omega) (rep_int.mpr rfl) (K := fun acc => I (i + 1) acc) (It i acc hlt hI hl) fun acc' H'' S' q l => ⟨by omega, acc', S', q, by omega⟩
  · have e : i = n := by omega
    subst e
    exact .inl ⟨(hgo i H).mpr (Nat.le_refl _), S.fin hD (If acc hI hl) hk⟩
theorem wl_lcR1 {ta : TA} (hv : NoOwn ρ vs) (hj : j ∈ vs) (h : Wab Z ta ρ fun ds => ∃ n : Int, ds = [.int n] ∧ n ≤ 16777216 ∧ -16777216 ≤ n ∧ LcR Z ρ vs j tt te 0 1 n.toNat Q) : Wl Z (tLc (iRng1 ta) (gName j) tt te vs) ρ Q := fun r X σ H E k hk =>
  h r X σ H E _ fun v d H1 E1 f1 b1 ⟨n, e, hz, hz2, q⟩ => by
    subst e
    obtain ⟨w, rfl, b⟩ := b1.one
    have e := b.int
    subst e
    refine ⟨n, rfl, by omega, by omega, lcr_go E1 hv hj (by rw [sizeLine_eq]; omega) q (fun p ws ds H' m E2 f2 q1 q2 q => hk p ws ds H' (f1.new m) E2 (f1.trans f2) q1 q2 q) _ (fun _ _ => Iff.rfl) (fun _ _ => Iff.rfl) fun i H x H' y => ⟨y.1, ?_⟩⟩
    rw [y.2, Int.mul_one]
theorem wl_lcR2 {ta : TA} (hv : NoOwn ρ vs) (hj : j ∈ vs) (h : Wab Z ta ρ fun ds => ∃ lo n : Int, ds = [.int lo, .int n] ∧ (n ≤ 16777216 ∧ -16777216 ≤ n ∧ lo ≤ 16777216 ∧ 0 ≤ lo) ∧ LcR Z ρ vs j tt te lo 1 (n - lo).toNat Q) : Wl Z (tLc (iRng2 ta) (gName j) tt te vs) ρ Q := fun r X σ H E k hk =>
  h r X σ H E _ fun v d H1 E1 f1 b1 ⟨lo, n, e, hz, q⟩ => by
    subst e
    obtain ⟨w, w2, rfl, b, b2⟩ := b1.two
    have e := b.int
    have e2 := b2.int
    subst e e2
    refine ⟨lo, n, rfl, ⟨by omega, by omega, by omega, by omega⟩, lcr_go E1 hv hj (by rw [sizeLine_eq]; omega) q (fun p ws ds H' m E2 f2 q1 q2 q => hk p ws ds H' (f1.new m) E2 (f1.trans f2) q1 q2 q) _ (fun _ _ => Iff.rfl) (fun _ _ => Iff.rfl) fun i H x H' y => ⟨y.1, ?_⟩⟩
    rw [y.2, Int.mul_one]
theorem RbL.three {r : Option Addr} {X : Addr → Prop} {σ : L2.St} {H : Hp} {vs : List V} {d e f : D} (h : RbL Z r X H σ ρ [d, e, f] vs) : ∃ v w u, vs = [v, w, u] ∧ Rb Z r X H σ ρ d v ∧ Rb Z r X H σ ρ e w ∧ Rb Z r X H σ ρ f u := by
  cases h with
  | cons h t =>
    obtain ⟨w, u, rfl, h2, h3⟩ := RbL.two t
    exact ⟨_, _, _, rfl, h, h2, h3⟩
theorem wl_lcR3 {ta : TA} (hv : NoOwn ρ vs) (hj : j ∈ vs) (h : Wab Z ta ρ fun ds => ∃ (lo n c : Int) (m : Nat), ds = [.int lo, .int n, .int c] ∧ RgC lo n c m ∧ m ≤ sizeLine ∧ LcR Z ρ vs j tt te lo c m Q) : Wl Z (tLc (iRng3 ta) (gName j) tt te vs) ρ Q := fun r X σ H E k hk =>
  h r X σ H E _ fun v d H1 E1 f1 b1 ⟨lo, n, c, m, e, hz, hm, q⟩ => by
    subst e
    obtain ⟨w, w2, w3, rfl, b, b2, b3⟩ := b1.three
    have e := b.int
    have e2 := b2.int
    have e3 := b3.int
    subst e e2 e3
    exact ⟨lo, n, c, m, rfl, hz, lcr_go E1 hv hj hm q (fun p ws ds H' m E2 f2 q1 q2 q => hk p ws ds H' (f1.new m) E2 (f1.trans f2) q1 q2 q) _ (fun _ _ => Iff.rfl) (fun _ _ => Iff.rfl) fun i H x H' y => ⟨y.1, y.2⟩⟩
theorem wt_yes {Q : Bool → Prop} (q : Q true) : Wt Z tYes ρ Q := fun r X σ H E k hk => hk true H E Fx.refl q
/-- each item gives one -/
theorem lcD_map {ds : List D} (f : D → D) (h : ∀ x ∈ ds, ∀ Q' : D → Prop, Q' (f x) → We Z te ((wipeE ρ vs).set j (.v x)) Q') (q : Q (ds.map f)) : LcD Z ρ vs j tYes te ds Q :=
  ⟨fun pre acc => acc = pre.map f, rfl, fun pre x post acc e ha _ => wt_yes ⟨fun _ => h x (by rw [e]; simp) _ (by show acc ++ [f x] = (pre ++ [x]).map f; rw [show acc = pre.map f from ha, List.map_append]; rfl), fun z => nomatch z⟩, fun acc ha _ => by rw [show acc = ds.map f from ha]; exact q⟩
/-- a test, then the item as f tells -/
theorem lcD_fm {ds : List D} (p : D → Bool) (f : D → D) (ht : ∀ x ∈ ds, ∀ Q' : Bool → Prop, Q' (p x) → Wt Z tt ((wipeE ρ vs).set j (.v x)) Q') (h : ∀ x ∈ ds, p x = true → ∀ Q' : D → Prop, Q' (f x) → We Z te ((wipeE ρ vs).set j (.v x)) Q') (q : Q ((ds.filter p).map f)) : LcD Z ρ vs j tt te ds Q :=
  ⟨fun pre acc => acc = (pre.filter p).map f, rfl, fun pre x post acc e ha _ => ht x (by rw [e]; simp) _ ⟨fun hp => h x (by rw [e]; simp) hp _ (by show acc ++ [f x] = ((pre ++ [x]).filter p).map f; rw [show acc = (pre.filter p).map f from ha, List.filter_append, List.filter_cons, if_pos hp, List.map_append]; rfl), fun hp => by show acc = ((pre ++ [x]).filter p).map f; rw [show acc = (pre.filter p).map f from ha, List.filter_append, List.filter_cons, if_neg (by rw [hp]; decide)]; simp⟩, fun acc ha _ => by rw [show acc = (ds.filter p).map f from ha]; exact q⟩
theorem lcR_map {lo c : Int} {n : Nat} (f : Int → D) (h : ∀ i : Nat, i < n → ∀ Q' : D → Prop, Q' (f (lo + (i : Int) * c)) → We Z te ((wipeE ρ vs).set j (.v (.int (lo + (i : Int) * c)))) Q') (q : Q (((List.range n).map fun i : Nat => lo + (i : Int) * c).map f)) : LcR Z ρ vs j tYes te lo c n Q :=
  ⟨fun i acc => acc = ((List.range i).map fun i : Nat => lo + (i : Int) * c).map f, rfl, fun i acc hi ha _ => wt_yes ⟨fun _ => h i hi _ (by show acc ++ [_] = ((List.range (i + 1)).map fun i : Nat => lo + (i : Int) * c).map f; rw [show acc = ((List.range i).map fun i : Nat => lo + (i : Int) * c).map f from ha, List.range_succ, List.map_append, List.map_append]; rfl), fun z => nomatch z⟩, fun acc ha _ => by rw [show acc = ((List.range n).map fun i : Nat => lo + (i : Int) * c).map f from ha]; exact q⟩
theorem lcR_fm {lo c : Int} {n : Nat} (p : Int → Bool) (f : Int → D) (ht : ∀ i : Nat, i < n → ∀ Q' : Bool → Prop, Q' (p (lo + (i : Int) * c)) → Wt Z tt ((wipeE ρ vs).set j (.v (.int (lo + (i : Int) * c)))) Q') (h : ∀ i : Nat, i < n → p (lo + (i : Int) * c) = true → ∀ Q' : D → Prop, Q' (f (lo + (i : Int) * c)) → We Z te ((wipeE ρ vs).set j (.v (.int (lo + (i : Int) * c)))) Q')
    (q : Q ((((List.range n).map fun i : Nat => lo + (i : Int) * c).filter p).map f)) : LcR Z ρ vs j tt te lo c n Q :=
  ⟨fun i acc => acc = (((List.range i).map fun i : Nat => lo + (i : Int) * c).filter p).map f, rfl, fun i acc hi ha _ => ht i hi _ ⟨fun hp => h i hi hp _ (by show acc ++ [_] = (((List.range (i + 1)).map fun i : Nat => lo + (i : Int) * c).filter p).map f; rw [show acc = (((List.range i).map fun i : Nat => lo + (i : Int) * c).filter p).map f from ha, List.range_succ, List.map_append, List.filter_append, List.map_singleton, List.filter_cons, if_pos hp, List.map_append]; rfl), fun hp => by show acc = (((List.range (i + 1)).map fun i : Nat => lo + (i : Int) * c).filter p).map f; rw [show acc = (((List.range i).map fun i : Nat => lo + (i : Int) * c).filter p).map f from ha, List.range_succ, List.map_append, List.filter_append, List.map_singleton, List.filter_cons, if_neg (by rw [hp]; decide)]; simp⟩, fun acc ha _ => by rw [show acc = (((List.range n).map fun i : Nat => lo + (i : Int) * c).filter p).map f from ha]; exact q⟩
end
/-! ### instances -/
section
variable {Z : Cs} {ρ : List En} {Q : D → Prop} {te ta : TE} {tl : TA}
theorem we_fld {f : Str} (hc : Cls Z.K Z.C) (hn : NoAttr Z.K Z.C f) (h : Wb Z ta ρ fun d => ∃ g s v, d = .pty g s ∧ (ptyF g s).lookup f = some (.int v) ∧ Q (.int v)) : We Z (tFld Z.K ta f) ρ Q := fun r X σ H E k hk =>
  h r X σ H E _ fun v d H1 E1 f1 b1 ⟨g, s, u, e, hl, q⟩ => by
    subst e
    obtain ⟨a, dx, rfl, h1⟩ := b1.pty
    exact ⟨a, Z.C, dx, _, _, rfl, h1, hc, hn, hl, hk _ _ H1 E1 f1 (rep_int.mpr rfl) q⟩
theorem we_meth {m : Str} {spec : List D → (D → Prop) → Prop} {E' : XK} (h : Wb Z ta ρ fun d => ∃ g s, d = .pty g s ∧ (ptyF g s).lookup m = none ∧ Wa Z tl ρ fun ds => spec (.pty g s :: ds) Q) : We Z (tMeth Z.C m (SpV Z spec) [] E' ta tl) ρ Q := fun r X σ H E k hk =>
  h r X σ H E _ fun v d H1 E1 f1 b1 ⟨g, s, e, hl, q⟩ => by
    subst e
    obtain ⟨a, dx, rfl, h1⟩ := b1.pty
    refine ⟨a, dx, _, rfl, h1, hl, q r X σ H1 E1 _ fun vs ds H2 E2 f2 b2 s1 => ?_⟩
    rw [List.append_nil]
    exact ⟨Av r X σ ρ, _, Q, repL_cons.mpr ⟨_, _, rfl, rep_pty.mpr ⟨a, dx, rfl, f2.tp a _ rfl h1⟩, b2⟩, fun a z => E2.av_tracked z, s1, fun v d H3 s h2 q => hk v d H3 (E2.same s) ((f1.trans f2).trans (Fx.same s)) h2 q⟩
def goodP (g s : Int) : Prop := 2 ≤ s ∧ s ≤ 8 ∧ 2 ≤ g ∧ g ≤ 64 ∧ g % s = 0
/-- Party.__init__ of a good party -/
def SpI (Z : Cs) : Sp := fun vs H Q _ => ∃ (x dx : Addr) (g s : Int), vs = [.ref x, .int g, .int s] ∧ H x = some (.ins Z.C dx []) ∧ goodP g s ∧ ∀ H', (∀ b o, b ≠ x → H b = some o → H' b = some o) → H' x = some (.ins Z.C dx (ptyF g s)) → Q .non H'
theorem we_make {E' : XK} (h : Wab Z tl ρ fun ds => ∃ g s, ds = [.int g, .int s] ∧ goodP g s ∧ Q (.pty g s)) : We Z (tMake Z.C (SpI Z) [] E' tl) ρ Q := fun r X σ H E k hk =>
  h r X σ H E _ fun vs ds H1 E1 f1 b1 ⟨g, s, e, hg, q⟩ x dx hx hdx hne => by
    subst e
    obtain ⟨w, w2, rfl, b, b2⟩ := b1.two
    have e := b.int
    have e2 := b2.int
    subst e e2
    refine ⟨x, dx, g, s, rfl, upd_same, hg, fun H2 k1 k2 => ⟨rfl, ?_⟩⟩
    have sm : Same H1 H2 := fun b o e => k1 b o (ne_of_none e hx) (by rw [upd_ne (ne_of_none e hx), upd_ne (ne_of_none e hdx)]; exact e)
    exact hk _ _ H2 (E1.same sm) (f1.trans (Fx.same sm)) (rep_pty.mpr ⟨x, dx, rfl, k2⟩) q
end
end DL
/-! DL6: statements, loops, defs. DL1's Ws is replaced by Wc: a returned list is new to the def, or was owned by a slot. -/
namespace DL
open PySem PySem.Spec PyProof.Rows L2
/-- p is new, or a slot owned it ahead of the statement -/
def Nw (r : Option Addr) (H : Hp) (σ : L2.St) (ρ : List En) (p : Addr) : Prop := r ≠ some p ∧ ∀ o, H p = some o → Ow σ ρ p
def Wc (Z : Cs) (ts : TS) (ρ : List En) (P : Po) : Prop := ∀ r X σ H, Sv Z r X H σ ρ → ∀ F : Ends,
  (∀ σ' ρ' H', Sv Z r X H' σ' ρ' → Fr r σ ρ H σ' ρ' H' → P.nx ρ' → F.nx σ' H') →
  (∀ v d H' σ' ρ', Sv Z r X H' σ' ρ' → Fr r σ ρ H σ' ρ' H' → Rep Z H' (Av r X σ' ρ') d v → P.rt d → F.rt v H') →
  (∀ p vs ds H' σ' ρ', Nw r H σ ρ p → Sv Z r (Xp X p) H' σ' ρ' → Fr r σ ρ H σ' ρ' H' → H' p = some (.lst vs) → RepL Z H' (Av r (Xp X p) σ' ρ') ds vs → P.rl ds → F.rt (.ref p) H') →
  (∀ p kvs H' σ' ρ', Nw r H σ ρ p → Sv Z r (Xp X p) H' σ' ρ' → Fr r σ ρ H σ' ρ' H' → H' p = some (.dT (keyT kvs)) → P.rd kvs → F.rt (.ref p) H') → ts F σ H
section
variable {Z : Cs} {r : Option Addr} {X X' : Addr → Prop} {H H' H1 H2 H3 : Hp} {σ σ' σ1 : L2.St} {ρ ρ' ρ1 : List En} {d : D} {ds : List D} {v : V} {vs : List V} {a p : Addr} {o : HO} {e : En}
theorem Nw.back (f : Fr r σ ρ H σ1 ρ1 H1) (h : Nw r H1 σ1 ρ1 p) : Nw r H σ ρ p := ⟨h.1, fun o q => by
  by_cases n : Ow σ ρ p
  · exact n
  · have h1 := f.fr p o q n h.1
    exact absurd (h.2 o h1.1) h1.2⟩
theorem Nw.new (E : Sv Z r X H σ ρ) (h : H p = none) : Nw r H σ ρ p := by
  refine ⟨fun z => ?_, fun o q => ?_⟩
  · obtain ⟨⟨sc, i, m, g, ns, q, _⟩, _⟩ := E.row p z
    rw [h] at q; cases q
  · rw [h] at q; cases q
end
section
variable {Z : Cs} {ρ : List En} {P P' : Po} {te ta tb : TE} {tt : TT} {ts tu : TS} {tl : TA} {d : D} {ds : List D} {i j : Nat}
theorem Wc.run {r : Option Addr} {X : Addr → Prop} {σ σ1 : L2.St} {H H1 : Hp} {ρ1 : List En} {F : Ends} (h : Wc Z ts ρ1 P) (E1 : Sv Z r X H1 σ1 ρ1) (f : Fr r σ ρ H σ1 ρ1 H1)
    (k1 : ∀ σ' ρ' H', Sv Z r X H' σ' ρ' → Fr r σ ρ H σ' ρ' H' → P.nx ρ' → F.nx σ' H')
    (k2 : ∀ v d H' σ' ρ', Sv Z r X H' σ' ρ' → Fr r σ ρ H σ' ρ' H' → Rep Z H' (Av r X σ' ρ') d v → P.rt d → F.rt v H')
    (k3 : ∀ p vs ds H' σ' ρ', Nw r H σ ρ p → Sv Z r (Xp X p) H' σ' ρ' → Fr r σ ρ H σ' ρ' H' → H' p = some (.lst vs) → RepL Z H' (Av r (Xp X p) σ' ρ') ds vs → P.rl ds → F.rt (.ref p) H')
    (k4 : ∀ p kvs H' σ' ρ', Nw r H σ ρ p → Sv Z r (Xp X p) H' σ' ρ' → Fr r σ ρ H σ' ρ' H' → H' p = some (.dT (keyT kvs)) → P.rd kvs → F.rt (.ref p) H') : ts F σ1 H1 :=
  h r X σ1 H1 E1 F (fun σ' ρ' H' E2 f2 q => k1 σ' ρ' H' E2 (f.trans f2) q) (fun v d H' σ' ρ' E2 f2 h2 q => k2 v d H' σ' ρ' E2 (f.trans f2) h2 q)
    (fun p vs ds H' σ' ρ' n E2 f2 h2 h3 q => k3 p vs ds H' σ' ρ' (n.back f) E2 (f.trans f2) h2 h3 q) (fun p kvs H' σ' ρ' n E2 f2 h2 q => k4 p kvs H' σ' ρ' (n.back f) E2 (f.trans f2) h2 q)
theorem Wc.imp (h : Wc Z ts ρ P) (w : ∀ ρ', P.nx ρ' → P'.nx ρ') (w2 : ∀ d, P.rt d → P'.rt d) (w3 : ∀ d, P.rl d → P'.rl d) (w4 : ∀ d, P.rd d → P'.rd d) : Wc Z ts ρ P' := fun r X σ H E F k1 k2 k3 k4 =>
  h r X σ H E F (fun a b c x y z => k1 a b c x y (w _ z)) (fun a b c d e x y z u => k2 a b c d e x y z (w2 _ u)) (fun a b c d e f x y z u m q => k3 a b c d e f x y z u m (w3 _ q)) (fun a b c d e x y z u m => k4 a b c d e x y z u (w4 _ m))
theorem wc_next (q : P.nx ρ) : Wc Z tNext ρ P := fun r X σ H E F k1 _ _ _ => k1 σ ρ H E Fr.refl q
theorem wc_seq (h : Wc Z ts ρ { P with nx := fun ρ' => Wc Z tu ρ' P }) : Wc Z (tSeq ts tu) ρ P := fun r X σ H E F k1 k2 k3 k4 =>
  h r X σ H E { F with nx := tu F } (fun σ' ρ' H' E1 f1 q => q.run E1 f1 k1 k2 k3 k4) k2 k3 k4
theorem wc_if (h : Wt Z tt ρ fun b => (b = true → Wc Z ts ρ P) ∧ (b = false → Wc Z tu ρ P)) : Wc Z (tIfS tt ts tu) ρ P := fun r X σ H E F k1 k2 k3 k4 => h r X σ H E _ fun b H1 E1 f1 q => by
  cases b with
  | true => exact iteT ((q.1 rfl).run E1 f1.fr k1 k2 k3 k4)
  | false => exact iteF ((q.2 rfl).run E1 f1.fr k1 k2 k3 k4)
/-- what is known may be forgotten, a list that is owned may be frozen -/
theorem wc_forget (i : Nat) (h : Wc Z ts (ρ.set i .un) P) : Wc Z ts ρ P := fun r X σ H E F k1 k2 k3 k4 => h.run (E.forget) ⟨fun a o q n _ => ⟨q, fun z => n (by
  obtain ⟨j, e, h1, h2, h3⟩ := z
  rcases set_get h1 with ⟨_, rfl⟩ | ⟨_, q⟩
  · cases h2
  · exact ⟨j, e, q, h2, h3⟩)⟩, fun _ o q => ⟨o, q⟩, fun _ _ _ q => q⟩ k1 k2 k3 k4
theorem Sv.freeze {r : Option Addr} {X : Addr → Prop} {H : Hp} {σ : L2.St} (E : Sv Z r X H σ ρ) (h : ρ[i]? = some (.l ds)) : Sv Z r X H σ (ρ.set i (.v (.lst ds))) := by
  obtain ⟨a, vs, h1, h2, h3⟩ := E.at_ i _ h
  have np : ¬ Ow σ (ρ.set i .un) a := fun z => by
    obtain ⟨j, e, q1, q2, q3⟩ := z
    rcases set_get q1 with ⟨_, rfl⟩ | ⟨n, q⟩
    · cases q2
    · exact n (E.dis j i _ _ a q h q2 rfl q3 h1)
  have E1 := E.forget (i := i)
  have oa : Ow σ ρ a := ⟨i, _, h, rfl, h1⟩
  have av : ¬ Av r X σ (ρ.set i .un) a := fun z => by
    rcases z with z | z | z
    · exact np z
    · exact (E.xin a z).2 oa
    · exact (E.row a z).2.1 oa
  have sub : ∀ b, Av r X σ (ρ.set i .un) b → Av r X σ ρ b := fun b z => by
    rcases z with ⟨j, e, q1, q2, q3⟩ | z
    · rcases set_get q1 with ⟨_, rfl⟩ | ⟨_, q⟩
      · cases q2
      · exact .inl ⟨j, e, q, q2, q3⟩
    · exact .inr z
  have q := E1.set (i := i) (s := some (.ref a)) (e := .v (.lst ds)) rfl ⟨.ref a, rfl, rep_lst.mpr ⟨a, vs, rfl, av, h2, h3.mv (av_sub sub)⟩⟩
  rw [set_same h1, List.set_set] at q
  exact q
theorem Sv.freezet {r : Option Addr} {X : Addr → Prop} {H : Hp} {σ : L2.St} {kvs : List (List Int × V)} (E : Sv Z r X H σ ρ) (h : ρ[i]? = some (.t kvs)) : Sv Z r X H σ (ρ.set i (.v (.dt kvs))) := by
  obtain ⟨a, h1, h2⟩ := E.at_ i _ h
  have np : ¬ Ow σ (ρ.set i .un) a := fun z => by
    obtain ⟨j, e, q1, q2, q3⟩ := z
    rcases set_get q1 with ⟨_, rfl⟩ | ⟨n, q⟩
    · cases q2
    · exact n (E.dis j i _ _ a q h q2 rfl q3 h1)
  have E1 := E.forget (i := i)
  have oa : Ow σ ρ a := ⟨i, _, h, rfl, h1⟩
  have av : ¬ Av r X σ (ρ.set i .un) a := fun z => by
    rcases z with z | z | z
    · exact np z
    · exact (E.xin a z).2 oa
    · exact (E.row a z).2.1 oa
  have q := E1.set (i := i) (s := some (.ref a)) (e := .v (.dt kvs)) rfl ⟨.ref a, rfl, rep_dt.mpr ⟨a, rfl, av, h2⟩⟩
  rw [set_same h1, List.set_set] at q
  exact q
theorem fr_less {r : Option Addr} {H : Hp} {σ : L2.St} {e' : En} (ho : own e' = false) : Fr r σ ρ H σ (ρ.set i e') H := ⟨fun a o q n _ => ⟨q, fun z => n (by
  obtain ⟨j, e, h1, h2, h3⟩ := z
  rcases set_get h1 with ⟨_, rfl⟩ | ⟨_, q⟩
  · rw [ho] at h2; cases h2
  · exact ⟨j, e, q, h2, h3⟩)⟩, fun _ o q => ⟨o, q⟩, fun _ _ _ q => q⟩
theorem wc_freeze (i : Nat) (hi : ρ[i]? = some (.l ds)) (h : Wc Z ts (ρ.set i (.v (.lst ds))) P) : Wc Z ts ρ P := fun r X σ H E F k1 k2 k3 k4 => h.run (E.freeze hi) (fr_less rfl) k1 k2 k3 k4
theorem wc_freezet (i : Nat) {kvs : List (List Int × V)} (hi : ρ[i]? = some (.t kvs)) (h : Wc Z ts (ρ.set i (.v (.dt kvs))) P) : Wc Z ts ρ P := fun r X σ H E F k1 k2 k3 k4 => h.run (E.freezet hi) (fr_less rfl) k1 k2 k3 k4
/-! stores -/
theorem wc_set (h : We Z te ρ fun d => P.nx (ρ.set i (.v d))) : Wc Z (tAsg te (gName i)) ρ P := fun r X σ H E F k1 _ _ _ => h r X σ H E _ fun v d H1 E1 f1 b1 q => k1 _ _ H1 (E1.setv b1) (f1.fr.trans (fr_set rfl)) q
theorem wc_setl (h : Wl Z te ρ fun ds => P.nx (ρ.set i (.l ds))) : Wc Z (tAsg te (gName i)) ρ P := fun r X σ H E F k1 _ _ _ => h r X σ H E _ fun p vs ds H1 n E1 f1 q1 q2 q => k1 _ _ H1 (E1.take (e := .l ds) (E.x_new n) rfl ⟨p, vs, rfl, q1, q2⟩) (fr_take f1 n) q
theorem wc_setd (h : Wd Z te ρ fun kvs => P.nx (ρ.set i (.t kvs))) : Wc Z (tAsg te (gName i)) ρ P := fun r X σ H E F k1 _ _ _ => h r X σ H E _ fun p kvs H1 n E1 f1 q1 q => k1 _ _ H1 (E1.take (e := .t kvs) (E.x_new n) rfl ⟨p, rfl, q1⟩) (fr_take f1 n) q
/-- x = y, y owned: y's list is x's now -/
theorem wc_move (hij : i ≠ j) (hj : ρ[j]? = some (.l ds)) (h : P.nx ((ρ.set j .un).set i (.l ds))) : Wc Z (tAsg (tVar j) (gName i)) ρ P := fun r X σ H E F k1 _ _ _ => by
  obtain ⟨a, vs, h1, h2, h3⟩ := E.at_ j _ hj
  have np : ¬ Ow σ (ρ.set j .un) a := fun z => by
    obtain ⟨l, e, q1, q2, q3⟩ := z
    rcases set_get q1 with ⟨_, rfl⟩ | ⟨n, q⟩
    · cases q2
    · exact n (E.dis l j _ _ a q hj q2 rfl q3 h1)
  have oa : Ow σ ρ a := ⟨j, _, hj, rfl, h1⟩
  have sub : ∀ b, Ow σ (ρ.set j .un) b → Ow σ ρ b := fun b z => by
    obtain ⟨l, e, q1, q2, q3⟩ := z
    rcases set_get q1 with ⟨_, rfl⟩ | ⟨_, q⟩
    · cases q2
    · exact ⟨l, e, q, q2, q3⟩
  have E1 : Sv Z r (Xp X a) H σ (ρ.set j .un) := by
    have E0 := E.forget (i := j)
    refine ⟨E0.len, fun l e q => ?_, E0.dis, fun b z => ?_, fun b z => ?_⟩
    · rcases set_get q with ⟨_, rfl⟩ | ⟨n, q⟩
      · trivial
      · refine (E.at_ l e q).mv (av_sub fun b z => ?_) fun _ _ _ _ q => q
        rcases z with z | (z | z) | z
        · exact .inl (sub b z)
        · exact .inr (.inl z)
        · subst z; exact .inl oa
        · exact .inr (.inr z)
    · rcases z with z | z
      · exact ⟨(E.xin b z).1, fun y => (E.xin b z).2 (sub b y)⟩
      · subst z; exact ⟨⟨_, h2⟩, np⟩
    · obtain ⟨q1, q2, q3⟩ := E.row b z
      refine ⟨q1.mv (av_sub fun c y => ?_) fun _ q => q, fun y => q2 (sub b y), fun y => ?_⟩
      · rcases y with y | (y | y) | y
        · exact .inl (sub c y)
        · exact .inr (.inl y)
        · subst y; exact .inl oa
        · exact .inr (.inr y)
      · rcases y with y | y
        · exact q3 y
        · subst y; exact q2 oa
  have h4 : RepL Z H (Av r (Xp X a) σ (ρ.set j .un)) ds vs := h3.mv (av_sub fun b z => by
    rcases z with z | (z | z) | z
    · exact .inl (sub b z)
    · exact .inr (.inl z)
    · subst z; exact .inl oa
    · exact .inr (.inr z))
  refine ⟨.ref a, h1, k1 _ _ H (E1.take (e := .l ds) (fun z => (E.xin a z).2 oa) rfl ⟨a, vs, rfl, h2, h4⟩) ⟨fun b o q n _ => ⟨q, fun z => n ?_⟩, fun _ o q => ⟨o, q⟩, fun _ _ _ q => q⟩ h⟩
  obtain ⟨l, e, q1, q2, q3⟩ := z
  rcases set_get q1 with ⟨rfl, rfl⟩ | ⟨m, q⟩
  · rcases set_get q3 with ⟨_, y⟩ | ⟨m, _⟩
    · injection y with y
      injection y with y
      subst y
      exact oa
    · exact absurd rfl m
  · rw [List.getElem?_set_ne (Ne.symm m)] at q3
    exact sub b ⟨l, e, q, q2, q3⟩
theorem tyV_l {K : PySem.W.Frag} {H : Hp} {a : Addr} {vs : List V} (h : H a = some (.lst vs)) : tyV K "list" (.ref a) H := .inl ⟨rfl, _, .of h⟩
/-- what a slot owns is changed by a method: m tells the new list -/
theorem mut_go {r : Option Addr} {X : Addr → Prop} {H H1 : Hp} {σ : L2.St} {a : Addr} {ws : List V} {es : List D} {F : Ends} (hi : ρ[i]? = some (.l ds)) (f1 : Fx r H H1) (E1 : Sv Z r X H1 σ ρ) (h1 : σ[i]? = some (some (.ref a)))
    (hw : RepL Z H1 (Av r X σ ρ) es ws) (k1 : ∀ σ' ρ' H', Sv Z r X H' σ' ρ' → Fr r σ ρ H σ' ρ' H' → P.nx ρ' → F.nx σ' H') (q : P.nx (ρ.set i (.l es))) : F.nx σ (upd H1 a (.lst ws)) := by
  obtain ⟨b, vs, h2, h3, h4⟩ := E1.at_ i _ hi
  rw [h1] at h2
  cases h2
  have oa : Ow σ ρ a := ⟨i, _, hi, rfl, h1⟩
  have tp : ∀ b w, immO w = true → H1 b = some w → upd H1 a (.lst ws) b = some w := fun b w i q => by
    rw [upd_ne (fun z => by subst z; rw [h3] at q; cases q; cases i)]
    exact q
  have m : Mv H1 (Av r X σ ρ) (upd H1 a (.lst ws)) (Av r X σ ρ) := ⟨fun b w n q => ⟨by rw [upd_ne (fun z => n (.inl (by rw [z]; exact oa)))]; exact q, n⟩, tp⟩
  obtain ⟨E2, f2⟩ := E1.mut (e' := .l es) (o := .lst ws) hi rfl h1 rfl h3 rfl ⟨a, ws, rfl, upd_same, hw.mv m⟩
  exact k1 _ _ _ E2 (f1.fr.trans f2) q
theorem wc_app (hi : ρ[i]? = some (.l ds)) (h : We Z te ρ fun d => ds.length < sizeLine ∧ P.nx (ρ.set i (.l (ds ++ [d])))) : Wc Z (tDrop (tBM Z.K "list" rAppend (tVar i) (tCons te tNil))) ρ P := fun r X σ H E F k1 _ _ _ => by
  obtain ⟨a, vs, h1, h2, h3⟩ := E.at_ i _ hi
  refine ⟨_, h1, tyV_l h2, h r X σ H E _ fun v d H1 E1 f1 b1 ⟨l, q⟩ => ?_⟩
  obtain ⟨b, ws, g1, g2, g3⟩ := E1.at_ i _ hi
  rw [h1] at g1
  cases g1
  exact ⟨a, ws, v, rfl, rfl, g2, by rw [g3.length]; exact l, mut_go hi f1 E1 h1 (g3.append (.one b1)) k1 q⟩
theorem wc_ext (hi : ρ[i]? = some (.l ds)) (h : Wb Z te ρ fun d => ∃ es, d = .lst es ∧ ds.length + es.length ≤ sizeLine ∧ P.nx (ρ.set i (.l (ds ++ es)))) : Wc Z (tDrop (tBM Z.K "list" rExtend (tVar i) (tCons te tNil))) ρ P := fun r X σ H E F k1 _ _ _ => by
  obtain ⟨a, vs, h1, h2, h3⟩ := E.at_ i _ hi
  refine ⟨_, h1, tyV_l h2, h r X σ H E _ fun v d H1 E1 f1 b1 ⟨es, e, l, q⟩ => ?_⟩
  subst e
  obtain ⟨b, ws, g1, g2, g3⟩ := E1.at_ i _ hi
  rw [h1] at g1
  cases g1
  obtain ⟨b', us, rfl, g4, g5⟩ := b1.lst E1
  exact ⟨a, b', ws, us, rfl, rfl, g2, g4, by rw [g3.length, g5.length]; exact l, mut_go hi f1 E1 h1 (g3.append g5) k1 q⟩
/-- .. a tuple's items -/
theorem wc_clear (hi : ρ[i]? = some (.l ds)) (q : P.nx (ρ.set i (.l []))) : Wc Z (tDrop (tBM0 Z.K "list" rClear (tVar i))) ρ P := fun r X σ H E F k1 _ _ _ => by
  obtain ⟨a, vs, h1, h2, h3⟩ := E.at_ i _ hi
  exact ⟨_, h1, tyV_l h2, a, vs, rfl, rfl, h2, mut_go hi Fx.refl E h1 (repL_nil.mpr rfl) k1 q⟩
theorem wc_rev (hi : ρ[i]? = some (.l ds)) (q : P.nx (ρ.set i (.l ds.reverse))) : Wc Z (tDrop (tBM0 Z.K "list" rReverse (tVar i))) ρ P := fun r X σ H E F k1 _ _ _ => by
  obtain ⟨a, vs, h1, h2, h3⟩ := E.at_ i _ hi
  exact ⟨_, h1, tyV_l h2, a, vs, rfl, rfl, h2, mut_go hi Fx.refl E h1 h3.reverse k1 q⟩
def rInsB : V → List V → Hp → VK → Prop := fun x vs H Q => ∃ (l : Addr) (xs : List V) (i : Int) (y : V), x = .ref l ∧ vs = [.int i, y] ∧ H l = some (.lst xs) ∧ xs.length < sizeLine ∧ 0 ≤ i ∧ i < 2 ^ 63 ∧ Q .non (upd H l (.lst (xs.take i.toNat ++ [y] ++ xs.drop i.toNat)))
theorem wc_ins (hi : ρ[i]? = some (.l ds)) (h : Wb Z ta ρ fun x => We Z te ρ fun d => ∃ n : Int, x = .int n ∧ ds.length < sizeLine ∧ 0 ≤ n ∧ n < 2 ^ 63 ∧ P.nx (ρ.set i (.l (ds.take n.toNat ++ [d] ++ ds.drop n.toNat)))) : Wc Z (tDrop (tBM Z.K "list" rInsB (tVar i) (tCons ta (tCons te tNil)))) ρ P := fun r X σ H E F k1 _ _ _ => by
  obtain ⟨a, vs, h1, h2, h3⟩ := E.at_ i _ hi
  refine ⟨_, h1, tyV_l h2, h r X σ H E _ fun w x H1 E1 f1 b1 g => g r X σ H1 E1 _ fun v d H2 E2 f2 b2 ⟨n, e, l, l1, l2, q⟩ => ?_⟩
  subst e
  obtain ⟨b, ws, g1, g2, g3⟩ := E2.at_ i _ hi
  rw [h1] at g1
  cases g1
  rw [b1.int]
  exact ⟨a, ws, n, v, rfl, rfl, g2, by rw [g3.length]; exact l, l1, l2, mut_go hi (f1.trans f2) E2 h1 (((g3.take _).append (.one b2)).append (g3.drop _)) k1 q⟩
/-- xs[i] = e -/
theorem wc_seti (hi : ρ[i]? = some (.l ds)) (h : We Z te ρ fun d => Wb Z ta ρ fun x => ∃ (n : Int) (m : Nat), x = .int n ∧ ixN ds.length n = some m ∧ P.nx (ρ.set i (.l (ds.set m d)))) : Wc Z (tAsg te (gSub (tVar i) ta rSetL)) ρ P := fun r X σ H E F k1 _ _ _ => by
  refine h r X σ H E _ fun v d H1 E1 f1 b1 g => ?_
  obtain ⟨a, vs, h1, h2, h3⟩ := E1.at_ i _ hi
  refine ⟨_, h1, g r X σ H1 E1 _ fun w x H2 E2 f2 b2 ⟨n, m, e, l, q⟩ => ?_⟩
  subst e
  obtain ⟨b, ws, g1, g2, g3⟩ := E2.at_ i _ hi
  rw [h1] at g1
  cases g1
  exact ⟨a, ws, n, m, rfl, b2.int, g2, by rw [g3.length]; exact l, mut_go hi (f1.trans f2) E2 h1 (g3.set m (b1.mv f2.mv)) k1 q⟩
/-- d[k] = e, the dict owned, its keys tuples of ints -/
theorem wc_dputT {kvs : List (List Int × V)} {ty : TE} (hi : ρ[i]? = some (.t kvs)) (h : Wb Z te ρ fun d => Wb Z ty ρ fun y => ∃ ks u, y = .tup (ks.map .int) ∧ ((∃ b, d = .bl b ∧ u = .bl b) ∨ ∃ n, d = .int n ∧ u = .int n) ∧ kvs.length < sizeLine ∧ P.nx (ρ.set i (.t (putK kvs ks u)))) :
    Wc Z (sDPut (tVar i) ty te) ρ P := fun r X σ H E F k1 _ _ _ => by
  refine h r X σ H E _ fun v d H1 E1 f1 b1 g => ?_
  obtain ⟨a, h1, h2⟩ := E1.at_ i _ hi
  refine ⟨_, h1, g r X σ H1 E1 _ fun w y H2 E2 f2 b2 ⟨ks, u, e, eu, l, q⟩ => ?_⟩
  subst e
  obtain ⟨b, g1, g2⟩ := E2.at_ i _ hi
  rw [h1] at g1
  cases g1
  obtain ⟨c, us, rfl, g3, g4⟩ := b2.tup
  have e := repL_ints.mp g4
  subst e
  have ev : v = u := by
    rcases eu with ⟨n, e1, e2⟩ | ⟨n, e1, e2⟩
    · subst e1 e2; exact b1.bl
    · subst e1 e2; exact b1.int
  subst ev
  refine ⟨a, _, rfl, DPut.t (k := ks.map Sum.inl) g2 (by rw [kV_ints]; exact g3) (by unfold keyT; rw [List.length_map]; exact l), ?_⟩
  rw [putK_keyT]
  obtain ⟨E3, f3⟩ := E2.mut (e' := .t (putK kvs ks v)) (o := .dT (keyT (putK kvs ks v))) hi rfl h1 rfl g2 rfl ⟨a, rfl, upd_same⟩
  exact k1 _ _ _ E3 ((f1.trans f2).fr.trans f3) q
/-- an expression whose value is dropped -/
theorem wc_drop (h : We Z te ρ fun _ => P.nx ρ) : Wc Z (tDrop te) ρ P := fun r X σ H E F k1 _ _ _ => h r X σ H E _ fun v d H1 E1 f1 b1 q => k1 _ _ H1 E1 f1.fr q
/-! return -/
theorem wc_ret (h : We Z te ρ P.rt) : Wc Z (tRet te) ρ P := fun r X σ H E F _ k2 _ _ => h r X σ H E _ fun v d H1 E1 f1 b1 q => k2 v d H1 σ ρ E1 f1.fr b1 q
theorem wc_retl (h : Wl Z te ρ P.rl) : Wc Z (tRet te) ρ P := fun r X σ H E F _ _ k3 _ => h r X σ H E _ fun p vs ds H1 n E1 f1 q1 q2 q => k3 p vs ds H1 σ ρ (.new E n) E1 f1.fr q1 q2 q
theorem wc_retd (h : Wd Z te ρ P.rd) : Wc Z (tRet te) ρ P := fun r X σ H E F _ _ _ k4 => h r X σ H E _ fun p kvs H1 n E1 f1 q1 q => k4 p kvs H1 σ ρ (.new E n) E1 f1.fr q1 q
theorem Sv.apart {r : Option Addr} {X : Addr → Prop} {H : Hp} {σ : L2.St} {a : Addr} {e : En} (E : Sv Z r X H σ ρ) (hj : ρ[j]? = some e) (he : own e = true) (h1 : σ[j]? = some (some (.ref a))) :
    Sv Z r (Xp X a) H σ (ρ.set j .un) ∧ Mv H (Av r X σ ρ) H (Av r (Xp X a) σ (ρ.set j .un)) ∧ Nw r H σ ρ a := by
  have oa : Ow σ ρ a := ⟨j, _, hj, he, h1⟩
  have np : ¬ Ow σ (ρ.set j .un) a := fun z => by
    obtain ⟨l, e, q1, q2, q3⟩ := z
    rcases set_get q1 with ⟨_, rfl⟩ | ⟨n, q⟩
    · cases q2
    · exact n (E.dis l j _ _ a q hj q2 he q3 h1)
  have sub : ∀ b, Ow σ (ρ.set j .un) b → Ow σ ρ b := fun b z => by
    obtain ⟨l, e, q1, q2, q3⟩ := z
    rcases set_get q1 with ⟨_, rfl⟩ | ⟨_, q⟩
    · cases q2
    · exact ⟨l, e, q, q2, q3⟩
  have m : Mv H (Av r X σ ρ) H (Av r (Xp X a) σ (ρ.set j .un)) := av_sub fun b z => by
    rcases z with z | (z | z) | z
    · exact .inl (sub b z)
    · exact .inr (.inl z)
    · subst z; exact .inl oa
    · exact .inr (.inr z)
  have E0 := E.forget (i := j)
  refine ⟨⟨E0.len, fun l e q => ?_, E0.dis, fun b z => ?_, fun b z => ?_⟩, m, fun z => (E.row a z).2.1 oa, fun _ _ => oa⟩
  · rcases set_get q with ⟨_, rfl⟩ | ⟨n, q⟩
    · trivial
    · exact (E.at_ l e q).mv m fun _ _ _ _ q => q
  · rcases z with z | z
    · exact ⟨(E.xin b z).1, fun y => (E.xin b z).2 (sub b y)⟩
    · subst z; exact ⟨E.tracked oa, np⟩
  · obtain ⟨q1, q2, q3⟩ := E.row b z
    refine ⟨q1.mv m fun _ q => q, fun y => q2 (sub b y), fun y => ?_⟩
    rcases y with y | y
    · exact q3 y
    · subst y; exact q2 oa
theorem wc_retv (hi : ρ[i]? = some (.l ds)) (q : P.rl ds) : Wc Z (tRet (tVar i)) ρ P := fun r X σ H E F _ _ k3 _ => by
  obtain ⟨a, vs, h1, h2, h3⟩ := E.at_ i _ hi
  obtain ⟨E1, m, n⟩ := E.apart hi rfl h1
  exact ⟨.ref a, h1, k3 a vs ds H σ _ n E1 (fr_less rfl) h2 (h3.mv m) q⟩
theorem wc_rett {kvs : List (List Int × V)} (hi : ρ[i]? = some (.t kvs)) (q : P.rd kvs) : Wc Z (tRet (tVar i)) ρ P := fun r X σ H E F _ _ _ k4 => by
  obtain ⟨a, h1, h2⟩ := E.at_ i _ hi
  obtain ⟨E1, m, n⟩ := E.apart hi rfl h1
  exact ⟨.ref a, h1, k4 a kvs H σ _ n E1 (fr_less rfl) h2 q⟩
theorem wc_retN (q : P.rt .non) : Wc Z tRetN ρ P := fun r X σ H E F _ k2 _ _ => k2 .non .non H σ ρ E Fr.refl (rep_non.mpr rfl) q
end
end DL
/-! DL7: targets, loops, defs. -/
namespace DL
open PySem PySem.Spec PyProof.Rows L2
section
variable {Z : Cs} {ρ : List En} {P : Po} {te ta tb tl : TE} {tt : TT} {ts tu : TS} {d : D} {ds : List D} {i j : Nat} {g : TG}
/-! targets -/
def Wg (Z : Cs) (g : TG) (d : D) (ρ : List En) (K : List En → Prop) : Prop := ∀ r X σ H v, Sv Z r X H σ ρ → Rep Z H (Av r X σ ρ) d v → ∀ k : L2.St → Hp → Prop,
  (∀ σ' ρ' H', Sv Z r X H' σ' ρ' → Fr r σ ρ H σ' ρ' H' → K ρ' → k σ' H') → g v σ H k
theorem wg_name {K : List En → Prop} (q : K (ρ.set i (.v d))) : Wg Z (gName i) d ρ K := fun r X σ H v E h k hk => hk _ _ H (E.setv h) (fr_set rfl) q
theorem wg_tup2 {K : List En → Prop} {d1 d2 : D} (q : K ((ρ.set i (.v d1)).set j (.v d2))) : Wg Z (gTup Z.K 2 (gCons (gName i) (gCons (gName j) gNil))) (.tup [d1, d2]) ρ K := fun r X σ H v E h k hk => by
  obtain ⟨a, vs, rfl, t, q1⟩ := rep_tup.mp h
  obtain ⟨v1, r1, rfl, h1, q2⟩ := repL_cons.mp q1
  obtain ⟨v2, r2, rfl, h2, q3⟩ := repL_cons.mp q2
  have e := repL_nil.mp q3
  subst e
  have f1 : Fr r σ ρ H (σ.set i (some v1)) (ρ.set i (.v d1)) H := fr_set rfl
  have E1 := E.setv (i := i) h1
  exact ⟨a, [v1, v2], rfl, .of t, rfl, v1, [v2], rfl, v2, [], rfl, rfl, hk _ _ H (E1.setv (i := j) (h2.mv f1.mv)) (f1.trans (fr_set rfl)) q⟩
theorem wg_tup4 {K : List En → Prop} {d1 d2 d3 d4 : D} {k l : Nat} (q : K ((((ρ.set i (.v d1)).set j (.v d2)).set k (.v d3)).set l (.v d4))) : Wg Z (gTup Z.K 4 (gCons (gName i) (gCons (gName j) (gCons (gName k) (gCons (gName l) gNil))))) (.tup [d1, d2, d3, d4]) ρ K := fun r X σ H v E h kk hk => by
  obtain ⟨a, vs, rfl, t, q1⟩ := rep_tup.mp h
  obtain ⟨v1, r1, rfl, h1, q2⟩ := repL_cons.mp q1
  obtain ⟨v2, r2, rfl, h2, q3⟩ := repL_cons.mp q2
  obtain ⟨v3, r3, rfl, h3, q4⟩ := repL_cons.mp q3
  obtain ⟨v4, r4, rfl, h4, q5⟩ := repL_cons.mp q4
  have e := repL_nil.mp q5
  subst e
  have f1 : Fr r σ ρ H (σ.set i (some v1)) (ρ.set i (.v d1)) H := fr_set rfl
  have E1 := E.setv (i := i) h1
  have f2 : Fr r _ _ H ((σ.set i (some v1)).set j (some v2)) ((ρ.set i (.v d1)).set j (.v d2)) H := fr_set rfl
  have E2 := E1.setv (i := j) (h2.mv f1.mv)
  have f3 : Fr r _ _ H (((σ.set i (some v1)).set j (some v2)).set k (some v3)) (((ρ.set i (.v d1)).set j (.v d2)).set k (.v d3)) H := fr_set rfl
  have E3 := E2.setv (i := k) ((h3.mv f1.mv).mv f2.mv)
  exact ⟨a, [v1, v2, v3, v4], rfl, .of t, rfl, v1, _, rfl, v2, _, rfl, v3, _, rfl, v4, _, rfl, rfl, hk _ _ H (E3.setv (i := l) (((h4.mv f1.mv).mv f2.mv).mv f3.mv)) (((f1.trans f2).trans f3).trans (fr_set rfl)) q⟩
theorem wc_asg (h : We Z te ρ fun d => Wg Z g d ρ P.nx) : Wc Z (tAsg te g) ρ P := fun r X σ H E F k1 _ _ _ => h r X σ H E _ fun v d H1 E1 f1 b1 q => q r X σ H1 v E1 b1 _ fun σ' ρ' H' E2 f2 q2 => k1 σ' ρ' H' E2 (f1.fr.trans f2) q2
/-- a, b = x, y -/
theorem wc_par {ta : TA} (h : Wa Z ta ρ fun ds => ∃ d1 d2, ds = [d1, d2] ∧ P.nx ((ρ.set i (.v d1)).set j (.v d2))) : Wc Z (tPar i j ta) ρ P := fun r X σ H E F k1 _ _ _ => h r X σ H E _ fun vs ds H1 E1 f1 b1 ⟨d1, d2, e, q⟩ => by
  subst e
  obtain ⟨v1, r1, rfl, h1, q2⟩ := repL_cons.mp b1
  obtain ⟨v2, r2, rfl, h2, q3⟩ := repL_cons.mp q2
  have e := repL_nil.mp q3
  subst e
  have f2 : Fr r σ ρ H1 (σ.set i (some v1)) (ρ.set i (.v d1)) H1 := fr_set rfl
  have E2 := E1.setv (i := i) h1
  exact ⟨v1, v2, rfl, k1 _ _ H1 (E2.setv (i := j) (h2.mv f2.mv)) ((f1.fr.trans f2).trans (fr_set rfl)) q⟩
/-! loops -/
def ForD (Z : Cs) (ρ : List En) (g : TG) (ts : TS) (ds : List D) (P : Po) : Prop := ∃ I : List D → List En → Prop, I [] ρ ∧ (∀ pre x post ρ', ds = pre ++ x :: post → I pre ρ' → Wg Z g x ρ' fun ρ'' => Wc Z ts ρ'' { P with nx := I (pre ++ [x]) }) ∧ ∀ ρ', I ds ρ' → P.nx ρ'
theorem wc_forL (h : We Z tl ρ fun d => ∃ ds, d = .lst ds ∧ ForD Z ρ g ts ds P) : Wc Z (tFor (iList Z.K tl) g ts) ρ P := fun r X σ H E F k1 k2 k3 k4 => h r X σ H E _ fun v d H1 E1 f1 b1 ⟨ds, e, I, I0, It, If⟩ => by
  subst e
  obtain ⟨a, ws, rfl, n3, h3, h4⟩ := rep_lst.mp b1
  refine ⟨a, rfl, ⟨ws, .of h3⟩, for_list (K := Z.K) (a := a) (xs := ws) (fun i σ' H' => ∃ ρ', Sv Z r X H' σ' ρ' ∧ Fr r σ ρ H1 σ' ρ' H' ∧ I (ds.take i) ρ') ⟨ρ, E1, Fr.refl, I0⟩ (fun i σ' H' hi ⟨ρ', E2, f2, _⟩ => .of (f2.fr a _ h3 (fun z => n3 (.inl z)) fun z => n3 (.inr (.inr z))).1) (fun i x σ' H' hi ⟨ρ', E2, f2, hI⟩ => ?_) fun σ' H' ⟨ρ', E2, f2, hI⟩ => ?_⟩
  · obtain ⟨d, hd, hr⟩ := h4.get hi
    obtain ⟨p1, p2⟩ := take_pre hd
    refine It (ds.take i) d _ ρ' p1 hI r X σ' H' x E2 (hr.mv f2.mv) _ fun σ2 ρ2 H2 E3 f3 hw => ?_
    have f := (f1.fr.trans f2).trans f3
    refine hw r X σ2 H2 E3 _ (fun σ3 ρ3 H3 E4 f4 q => ⟨ρ3, E4, (f2.trans f3).trans f4, ?_⟩) (fun v d H3 σ3 ρ3 E4 f4 b q => k2 v d H3 σ3 ρ3 E4 (f.trans f4) b q) (fun p vs ds H3 σ3 ρ3 n E4 f4 b b2 q => k3 p vs ds H3 σ3 ρ3 (n.back f) E4 (f.trans f4) b b2 q) (fun p kvs H3 σ3 ρ3 n E4 f4 b q => k4 p kvs H3 σ3 ρ3 (n.back f) E4 (f.trans f4) b q)
    rw [p2]
    exact q
  · rw [h4.length, List.take_length] at hI
    exact k1 σ' ρ' H' E2 (f1.fr.trans f2) (If ρ' hI)
theorem wc_forT (h : Wb Z tl ρ fun d => ∃ ds, d = .tup ds ∧ ForD Z ρ g ts ds P) : Wc Z (tFor (iTup Z.K tl) g ts) ρ P := fun r X σ H E F k1 k2 k3 k4 => h r X σ H E _ fun v d H1 E1 f1 b1 ⟨ds, e, I, I0, It, If⟩ => by
  subst e
  obtain ⟨a, ws, rfl, h3, h4⟩ := b1.tup
  refine ⟨a, rfl, ⟨ws, h3.sq⟩, for_tup (K := Z.K) (a := a) (xs := ws) (fun i σ' H' => ∃ ρ', Sv Z r X H' σ' ρ' ∧ Fr r σ ρ H1 σ' ρ' H' ∧ I (ds.take i) ρ') ⟨ρ, E1, Fr.refl, I0⟩ (fun i σ' H' hi ⟨ρ', E2, f2, _⟩ => .of (f2.tp a _ rfl h3)) (fun i x σ' H' hi ⟨ρ', E2, f2, hI⟩ => ?_) fun σ' H' ⟨ρ', E2, f2, hI⟩ => ?_⟩
  · obtain ⟨d, hd, hr⟩ := h4.get hi
    obtain ⟨p1, p2⟩ := take_pre hd
    refine It (ds.take i) d _ ρ' p1 hI r X σ' H' x E2 (hr.mv f2.mv) _ fun σ2 ρ2 H2 E3 f3 hw => ?_
    have f := (f1.fr.trans f2).trans f3
    refine hw r X σ2 H2 E3 _ (fun σ3 ρ3 H3 E4 f4 q => ⟨ρ3, E4, (f2.trans f3).trans f4, ?_⟩) (fun v d H3 σ3 ρ3 E4 f4 b q => k2 v d H3 σ3 ρ3 E4 (f.trans f4) b q) (fun p vs ds H3 σ3 ρ3 n E4 f4 b b2 q => k3 p vs ds H3 σ3 ρ3 (n.back f) E4 (f.trans f4) b b2 q) (fun p kvs H3 σ3 ρ3 n E4 f4 b q => k4 p kvs H3 σ3 ρ3 (n.back f) E4 (f.trans f4) b q)
    rw [p2]
    exact q
  · rw [h4.length, List.take_length] at hI
    exact k1 σ' ρ' H' E2 (f1.fr.trans f2) (If ρ' hI)
/-- over lo, lo + 1, .. (n of them) -/
def ForR (Z : Cs) (ρ : List En) (j : Nat) (ts : TS) (lo : Int) (n : Nat) (P : Po) : Prop := ∃ I : Nat → List En → Prop, I 0 ρ ∧ (∀ i ρ', i < n → I i ρ' → Wc Z ts (ρ'.set j (.v (.int (lo + (i : Int))))) { P with nx := I (i + 1) }) ∧ ∀ ρ', I n ρ' → P.nx ρ'
theorem for_go {r : Option Addr} {X : Addr → Prop} {σ : L2.St} {H H1 : Hp} {F : Ends} {lo : Int} {n : Nat} (E1 : Sv Z r X H1 σ ρ) (f1 : Fx r H H1) (h : ForR Z ρ j ts lo n P)
    (k1 : ∀ σ' ρ' H', Sv Z r X H' σ' ρ' → Fr r σ ρ H σ' ρ' H' → P.nx ρ' → F.nx σ' H')
    (k2 : ∀ v d H' σ' ρ', Sv Z r X H' σ' ρ' → Fr r σ ρ H σ' ρ' H' → Rep Z H' (Av r X σ' ρ') d v → P.rt d → F.rt v H')
    (k3 : ∀ p vs ds H' σ' ρ', Nw r H σ ρ p → Sv Z r (Xp X p) H' σ' ρ' → Fr r σ ρ H σ' ρ' H' → H' p = some (.lst vs) → RepL Z H' (Av r (Xp X p) σ' ρ') ds vs → P.rl ds → F.rt (.ref p) H')
    (k4 : ∀ p kvs H' σ' ρ', Nw r H σ ρ p → Sv Z r (Xp X p) H' σ' ρ' → Fr r σ ρ H σ' ρ' H' → H' p = some (.dT (keyT kvs)) → P.rd kvs → F.rt (.ref p) H') :
    ∃ W : Nat → Nat → L2.St → Hp → Prop, (∃ m, W 0 m σ H1) ∧ ∀ i m σ H, W i m σ H → ((Itr lo n).stop i H ∧ F.nx σ H) ∨ ((Itr lo n).go i H ∧ ∃ N : L2.St → Hp → Prop, (∀ σ' H', N σ' H' → ∃ m', m' < m ∧ W (i + 1) m' σ' H') ∧ ∀ x H', (Itr lo n).yld i H x H' → gName j x σ H' fun σ2 H2 => ts { F with nx := N, ct := N, bk := F.nx } σ2 H2) := by
  obtain ⟨I, I0, It, If⟩ := h
  refine for_range (lo := lo) (n := n) (fun i σ' H' => ∃ ρ', Sv Z r X H' σ' ρ' ∧ Fr r σ ρ H1 σ' ρ' H' ∧ I i ρ') ⟨ρ, E1, Fr.refl, I0⟩ (fun i σ' H' hi ⟨ρ', E2, f2, hI⟩ => ?_) fun σ' H' ⟨ρ', E2, f2, hI⟩ => k1 σ' ρ' H' E2 (f1.fr.trans f2) (If ρ' hI)
  have f3 : Fr r σ' ρ' H' (σ'.set j (some (.int (lo + (i : Int))))) (ρ'.set j (.v (.int (lo + (i : Int))))) H' := fr_set rfl
  have f := (f1.fr.trans f2).trans f3
  exact It i ρ' hi hI r X _ H' (E2.setv (rep_int.mpr rfl)) _ (fun σ3 ρ3 H3 E4 f4 q => ⟨ρ3, E4, (f2.trans f3).trans f4, q⟩) (fun v d H3 σ3 ρ3 E4 f4 b q => k2 v d H3 σ3 ρ3 E4 (f.trans f4) b q) (fun p vs ds H3 σ3 ρ3 n E4 f4 b b2 q => k3 p vs ds H3 σ3 ρ3 (n.back f) E4 (f.trans f4) b b2 q) (fun p kvs H3 σ3 ρ3 n E4 f4 b q => k4 p kvs H3 σ3 ρ3 (n.back f) E4 (f.trans f4) b q)
theorem wc_forR1 {ta : TA} (h : Wab Z ta ρ fun ds => ∃ n : Int, ds = [.int n] ∧ n ≤ 16777216 ∧ -16777216 ≤ n ∧ ForR Z ρ j ts 0 n.toNat P) : Wc Z (tFor (iRng1 ta) (gName j) ts) ρ P := fun r X σ H E F k1 k2 k3 k4 => h r X σ H E _ fun vs ds H1 E1 f1 b1 ⟨n, e, z1, z2, q⟩ => by
  subst e
  obtain ⟨w, rfl, b⟩ := b1.one
  have e := b.int
  subst e
  exact ⟨n, rfl, by omega, by omega, for_go E1 f1 q k1 k2 k3 k4⟩
theorem wc_forR2 {ta : TA} (h : Wab Z ta ρ fun ds => ∃ lo n : Int, ds = [.int lo, .int n] ∧ (n ≤ 16777216 ∧ -16777216 ≤ n ∧ lo ≤ 16777216 ∧ -16777216 ≤ lo) ∧ ForR Z ρ j ts lo (n - lo).toNat P) : Wc Z (tFor (iRng2 ta) (gName j) ts) ρ P := fun r X σ H E F k1 k2 k3 k4 => h r X σ H E _ fun vs ds H1 E1 f1 b1 ⟨lo, n, e, z, q⟩ => by
  subst e
  obtain ⟨w, w2, rfl, b, b2⟩ := b1.two
  have e := b.int
  have e2 := b2.int
  subst e e2
  exact ⟨lo, n, rfl, by omega, for_go E1 f1 q k1 k2 k3 k4⟩
theorem wc_while (I : Nat → List En → Prop) (m0 : Nat) (h0 : I m0 ρ) (h : ∀ m ρ', I m ρ' → Wt Z tt ρ' fun b => (b = true → Wc Z ts ρ' { P with nx := fun ρ'' => ∃ m', m' < m ∧ I m' ρ'' }) ∧ (b = false → P.nx ρ')) : Wc Z (tWhile tt ts) ρ P := fun r X σ H E F k1 k2 k3 k4 => by
  refine ⟨fun m σ' H' => ∃ ρ', Sv Z r X H' σ' ρ' ∧ Fr r σ ρ H σ' ρ' H' ∧ I m ρ', ⟨m0, ρ, E, Fr.refl, h0⟩, fun m σ' H' ⟨ρ', E1, f1, hI⟩ => ?_⟩
  refine h m ρ' hI r X σ' H' E1 _ fun b H2 E2 f2 q => ?_
  cases b with
  | false => exact k1 σ' ρ' H2 E2 (f1.trans f2.fr) (q.2 rfl)
  | true =>
    have f := f1.trans f2.fr
    refine ⟨fun σ3 H3 => ∃ m', m' < m ∧ ∃ ρ3, Sv Z r X H3 σ3 ρ3 ∧ Fr r σ ρ H σ3 ρ3 H3 ∧ I m' ρ3, fun σ3 H3 q => q, q.1 rfl r X σ' H2 E2 _ (fun σ3 ρ3 H3 E4 f4 ⟨m', l, q⟩ => ⟨m', l, ρ3, E4, f.trans f4, q⟩) (fun v d H3 σ3 ρ3 E4 f4 b q => k2 v d H3 σ3 ρ3 E4 (f.trans f4) b q) (fun p vs ds H3 σ3 ρ3 n E4 f4 b b2 q => k3 p vs ds H3 σ3 ρ3 (n.back f) E4 (f.trans f4) b b2 q) (fun p kvs H3 σ3 ρ3 n E4 f4 b q => k4 p kvs H3 σ3 ρ3 (n.back f) E4 (f.trans f4) b q)⟩
/-! defs -/
def startE (N : List Str) (ds : List D) : List En := ds.map .v ++ List.replicate (N.length - ds.length) .un
theorem start_get {N : List Str} {vs : List V} {ds : List D} {H : Hp} {A : Addr → Prop} (h : RepL Z H A ds vs) {i : Nat} {e : En} (q : (startE N ds)[i]? = some e) : e = .un ∨ ∃ d v, e = .v d ∧ (start N vs)[i]? = some (some v) ∧ Rep Z H A d v := by
  unfold startE at q
  unfold L2.start
  by_cases hi : i < ds.length
  · rw [List.getElem?_append_left (by simpa using hi), List.getElem?_map] at q
    obtain ⟨d, hd, rfl⟩ := Option.map_eq_some_iff.mp q
    obtain ⟨v, hv, hr⟩ := h.at hd
    refine .inr ⟨d, v, rfl, ?_, hr⟩
    rw [List.getElem?_append_left (by rw [List.length_map, h.length]; exact hi), List.getElem?_map, hv]
    rfl
  · rw [List.getElem?_append_right (by simpa using hi)] at q
    exact .inl (List.eq_of_mem_replicate (List.mem_of_getElem? q))
theorem start_ow {N : List Str} {vs : List V} {ds : List D} {H : Hp} {A : Addr → Prop} (h : RepL Z H A ds vs) {σ : L2.St} {a : Addr} : ¬ Ow σ (startE N ds) a := fun ⟨i, e, h1, h2, _⟩ => by
  rcases start_get (Z := Z) h h1 with rfl | ⟨d, v, rfl, _⟩ <;> cases h2
theorem sv_start {N : List Str} {vs : List V} {ds : List D} {H : Hp} {A : Addr → Prop} (h : RepL Z H A ds vs) (ha : ∀ a, A a → ∃ o, H a = some o) : Sv Z none A H (start N vs) (startE N ds) := by
  refine ⟨?_, fun i e q => ?_, fun i j e e' a q _ o _ _ _ => ?_, fun a z => ⟨ha a z, start_ow h⟩, fun a z => nomatch z⟩
  · unfold L2.start startE
    simp [h.length]
  · rcases start_get (Z := Z) h q with rfl | ⟨d, v, rfl, q1, q2⟩
    · trivial
    · refine ⟨v, q1, q2.mv (av_sub fun a z => ?_)⟩
      rcases z with z | z | z
      · exact absurd z (start_ow h)
      · exact z
      · cases z
  · rcases start_get (Z := Z) h q with rfl | ⟨d, v, rfl, _⟩ <;> cases o
theorem fr_same {σ σ' : L2.St} {ρ' : List En} {H H' : Hp} (n : ∀ a, ¬ Ow σ ρ a) (f : Fr none σ ρ H σ' ρ' H') : Same H H' := fun a o h => (f.fr a o h (n a) (fun z => nomatch z)).1
theorem run_V {spec : List D → (D → Prop) → Prop} {N : List Str} {vs : List V} {H : Hp} {Q : VK} {E : XK} (h : SpV Z spec vs H Q E)
    (hw : ∀ ds Po, spec ds Po → Wc Z ts (startE N ds) { nx := fun _ => Po .non, rt := Po, rl := fun es => Po (.lst es), rd := fun k => Po (.dt k) }) : ts { nx := fun _ H' => Q .non H', rt := Q } (start N vs) H := by
  obtain ⟨A, ds, Po, h1, h2, h3, k⟩ := h
  have no : ∀ σ a, ¬ Ow σ (startE N ds) a := fun _ _ => start_ow h1
  refine hw ds Po h3 none A _ H (sv_start h1 h2) _ (fun σ' ρ' H' E f q => k .non .non H' (fr_same (no _) f) (rep_non.mpr rfl) q) (fun v d H' σ' ρ' E f b q => k v d H' (fr_same (no _) f) (b.mv (av_sub fun a z => .inr (.inl z))) q)
    (fun p us es H' σ' ρ' n E f b b2 q => k _ _ H' (fr_same (no _) f) (rep_lst.mpr ⟨p, us, rfl, fun z => ?_, b, b2.mv (av_sub fun a z => .inr (.inl (.inl z)))⟩) q) (fun p kvs H' σ' ρ' n E f b q => k _ _ H' (fr_same (no _) f) (rep_dt.mpr ⟨p, rfl, fun z => ?_, b⟩) q)
  · obtain ⟨o, z⟩ := h2 p z
    exact no _ p (n.2 o z)
  · obtain ⟨o, z⟩ := h2 p z
    exact no _ p (n.2 o z)
theorem run_L {spec : List D → (List D → Prop) → Prop} {N : List Str} {vs : List V} {H : Hp} {Q : VK} {E : XK} (h : SpL Z spec vs H Q E)
    (hw : ∀ ds Po, spec ds Po → Wc Z ts (startE N ds) { nx := fun _ => False, rl := Po }) : ts { nx := fun _ H' => Q .non H', rt := Q } (start N vs) H := by
  obtain ⟨A, ds, Po, h1, h2, h3, k⟩ := h
  have no : ∀ σ a, ¬ Ow σ (startE N ds) a := fun _ _ => start_ow h1
  refine hw ds Po h3 none A _ H (sv_start h1 h2) _ (fun σ' ρ' H' E f q => False.elim q) (fun v d H' σ' ρ' E f b q => False.elim q)
    (fun p us es H' σ' ρ' n E f b b2 q => k p us es H' (fr_same (no _) f) ?_ b (b2.mv (av_sub fun a z => .inr (.inl z))) q) (fun p kvs H' σ' ρ' n E f b q => False.elim q)
  cases e : H p with
  | none => rfl
  | some o => exact absurd (n.2 o e) (no _ p)
theorem run_D {spec : List D → (List (List Int × V) → Prop) → Prop} {N : List Str} {vs : List V} {H : Hp} {Q : VK} {E : XK} (h : SpD Z spec vs H Q E)
    (hw : ∀ ds Po, spec ds Po → Wc Z ts (startE N ds) { nx := fun _ => False, rd := Po }) : ts { nx := fun _ H' => Q .non H', rt := Q } (start N vs) H := by
  obtain ⟨A, ds, Po, h1, h2, h3, k⟩ := h
  have no : ∀ σ a, ¬ Ow σ (startE N ds) a := fun _ _ => start_ow h1
  refine hw ds Po h3 none A _ H (sv_start h1 h2) _ (fun σ' ρ' H' E f q => False.elim q) (fun v d H' σ' ρ' E f b q => False.elim q)
    (fun p us es H' σ' ρ' n E f b b2 q => False.elim q) (fun p kvs H' σ' ρ' n E f b q => k p kvs H' (fr_same (no _) f) ?_ b q)
  cases e : H p with
  | none => rfl
  | some o => exact absurd (n.2 o e) (no _ p)
/-! .. with the row -/
def startR (N : List Str) (ds : List D) : List En := .row :: (ds.map .v ++ List.replicate (N.length - (ds.length + 1)) .un)
theorem startR_get {N : List Str} {ws : List V} {ds : List D} {H : Hp} {A : Addr → Prop} {a : Addr} (h : RepL Z H A ds ws) {i : Nat} {e : En} (q : (startR N ds)[i]? = some e) : e = .un ∨ (e = .row ∧ i = 0) ∨ ∃ d v, e = .v d ∧ (start N (.ref a :: ws))[i]? = some (some v) ∧ Rep Z H A d v := by
  cases i with
  | zero => cases q; exact .inr (.inl ⟨rfl, rfl⟩)
  | succ i =>
    have q' : (ds.map En.v ++ List.replicate (N.length - (ds.length + 1)) .un)[i]? = some e := q
    by_cases hi : i < ds.length
    · rw [List.getElem?_append_left (by simpa using hi), List.getElem?_map] at q'
      obtain ⟨d, hd, rfl⟩ := Option.map_eq_some_iff.mp q'
      obtain ⟨v, hv, hr⟩ := h.at hd
      refine .inr (.inr ⟨d, v, rfl, ?_, hr⟩)
      unfold L2.start
      rw [List.map_cons, List.cons_append, List.getElem?_cons_succ, List.getElem?_append_left (by rw [List.length_map, h.length]; exact hi), List.getElem?_map, hv]
      rfl
    · rw [List.getElem?_append_right (by simpa using hi)] at q'
      exact .inl (List.eq_of_mem_replicate (List.mem_of_getElem? q'))
theorem startR_ow {N : List Str} {ws : List V} {ds : List D} {H : Hp} {A : Addr → Prop} (h : RepL Z H A ds ws) {σ : L2.St} {b : Addr} : ¬ Ow σ (startR N ds) b := fun ⟨i, e, h1, h2, _⟩ => by
  rcases startR_get (Z := Z) (a := 0) h h1 with rfl | ⟨rfl, _⟩ | ⟨d, v, rfl, _⟩ <;> cases h2
theorem startR_av {N : List Str} {ws : List V} {ds : List D} {H : Hp} {A : Addr → Prop} {a : Addr} (h : RepL Z H (Xp A a) ds ws) {σ : L2.St} {b : Addr} : Av (some a) A σ (startR N ds) b ↔ Xp A a b := by
  constructor
  · rintro (z | z | z)
    · exact absurd z (startR_ow h)
    · exact .inl z
    · cases z; exact .inr rfl
  · rintro (z | z)
    · exact .inr (.inl z)
    · subst z; exact .inr (.inr rfl)
theorem sv_startR {N : List Str} {ws : List V} {ds : List D} {H : Hp} {A : Addr → Prop} {a : Addr} (na : ¬ A a) (hr : RowOk Z.K H (Xp A a) a) (h : RepL Z H (Xp A a) ds ws) (ha : ∀ a, A a → ∃ o, H a = some o) : Sv Z (some a) A H (start N (.ref a :: ws)) (startR N ds) := by
  refine ⟨?_, fun i e q => ?_, fun i j e e' b q _ o _ _ _ => ?_, fun b z => ⟨ha b z, startR_ow h⟩, fun b z => ?_⟩
  · unfold L2.start startR
    simp [h.length]
  · rcases startR_get (Z := Z) (a := a) h q with rfl | ⟨rfl, rfl⟩ | ⟨d, v, rfl, q1, q2⟩
    · trivial
    · exact ⟨a, rfl, rfl⟩
    · exact ⟨v, q1, rep_iff (fun b => (startR_av h).symm) q2⟩
  · rcases startR_get (Z := Z) (a := a) h q with rfl | ⟨rfl, _⟩ | ⟨d, v, rfl, _⟩ <;> cases o
  · cases z
    exact ⟨row_iff (fun b => (startR_av h).symm) hr, startR_ow h, na⟩
theorem fr_sameR {σ σ' : L2.St} {ρ' : List En} {H H' : Hp} {a : Addr} (n : ∀ a, ¬ Ow σ ρ a) (f : Fr (some a) σ ρ H σ' ρ' H') : SameR a H H' := ⟨fun b o k h => (f.fr b o h (n b) (fun z => k (by injection z with z; exact z.symm))).1⟩
theorem av_back {A : Addr → Prop} {a : Addr} {σ : L2.St} (b : Addr) (z : Xp A a b) : Av (some a) A σ ρ b := by
  rcases z with z | z
  · exact .inr (.inl z)
  · subst z; exact .inr (.inr rfl)
theorem row_less {K : PySem.W.Frag} {H : Hp} {A B : Addr → Prop} {a : Addr} (h : ∀ a, A a → B a) (q : RowOk K H B a) : RowOk K H A a := q.mv (av_sub h) fun _ e => e
theorem run_RV {spec : List D → (D → Prop) → Prop} {N : List Str} {vs : List V} {H : Hp} {Q : VK} {E : XK} (h : SpRV Z spec vs H Q E)
    (hw : ∀ ds Po, spec ds Po → Wc Z ts (startR N ds) { nx := fun _ => Po .non, rt := Po, rl := fun es => Po (.lst es), rd := fun k => Po (.dt k) }) : ts { nx := fun _ H' => Q .non H', rt := Q } (start N vs) H := by
  obtain ⟨A, a, ws, ds, Po, rfl, na, hr, h1, h2, h3, k⟩ := h
  have no : ∀ σ b, ¬ Ow σ (startR N ds) b := fun _ _ => startR_ow h1
  refine hw ds Po h3 (some a) A _ H (sv_startR na hr h1 h2) _ (fun σ' ρ' H' E f q => k .non .non H' (fr_sameR (no _) f) (row_less av_back (E.row a rfl).1) (rep_non.mpr rfl) q) (fun v d H' σ' ρ' E f b q => k v d H' (fr_sameR (no _) f) (row_less av_back (E.row a rfl).1) (b.mv (av_sub av_back)) q)
    (fun p us es H' σ' ρ' n E f b b2 q => k _ _ H' (fr_sameR (no _) f) (row_less (fun b z => Xp.av (av_back b z)) (E.row a rfl).1) (rep_lst.mpr ⟨p, us, rfl, fun z => ?_, b, b2.mv (av_sub fun b z => Xp.av (av_back b z))⟩) q) (fun p kvs H' σ' ρ' n E f b q => k _ _ H' (fr_sameR (no _) f) (row_less (fun b z => Xp.av (av_back b z)) (E.row a rfl).1) (rep_dt.mpr ⟨p, rfl, fun z => ?_, b⟩) q)
  · rcases z with z | z
    · obtain ⟨o, z⟩ := h2 p z
      exact no _ p (n.2 o z)
    · subst z; exact n.1 rfl
  · rcases z with z | z
    · obtain ⟨o, z⟩ := h2 p z
      exact no _ p (n.2 o z)
    · subst z; exact n.1 rfl
theorem run_RL {spec : List D → (List D → Prop) → Prop} {N : List Str} {vs : List V} {H : Hp} {Q : VK} {E : XK} (h : SpRL Z spec vs H Q E)
    (hw : ∀ ds Po, spec ds Po → Wc Z ts (startR N ds) { nx := fun _ => False, rl := Po }) : ts { nx := fun _ H' => Q .non H', rt := Q } (start N vs) H := by
  obtain ⟨A, a, ws, ds, Po, rfl, na, hr, h1, h2, h3, k⟩ := h
  have no : ∀ σ b, ¬ Ow σ (startR N ds) b := fun _ _ => startR_ow h1
  have m : ∀ {p : Addr} {σ : L2.St} {ρ : List En} (b : Addr), Xp (Xp A a) p b → Av (some a) (Xp A p) σ ρ b := fun {p σ ρ} b z => by
    rcases z with z | z
    · exact Xp.av (av_back b z)
    · subst z; exact .inr (.inl (.inr rfl))
  refine hw ds Po h3 (some a) A _ H (sv_startR na hr h1 h2) _ (fun σ' ρ' H' E f q => False.elim q) (fun v d H' σ' ρ' E f b q => False.elim q)
    (fun p us es H' σ' ρ' n E f b b2 q => k p us es H' (fr_sameR (no _) f) (row_less m (E.row a rfl).1) ?_ b (b2.mv (av_sub m)) q) (fun p kvs H' σ' ρ' n E f b q => False.elim q)
  cases e : H p with
  | none => rfl
  | some o => exact absurd (n.2 o e) (no _ p)
/-- the law: its first row makes the row -/
def spLaw (K : PySem.W.Frag) : Sp := fun vs H Q _ => ∃ (a : Addr) (ns : List Int), vs = [.ref a] ∧ SqL K H a (ns.map V.int) ∧ ns.length ≤ 63 ∧ ∀ H', Q (.bl true) H'
def tRow : TS := tAsg (tLst (tCons (tVar 0) (tCons (tC (.int 0)) (tCons (tC (.int 0)) (tCons (tC (.int 0)) tNil))))) (gName 1)
theorem run_law {n : Nat} {N : List Str} {vs : List V} {H : Hp} {Q : VK} {E : XK} (h : spLaw Z.K vs H Q E) (hn : N.length = n + 2)
    (hw : Wc Z ts (.un :: .row :: List.replicate n .un) { nx := fun _ => False, rt := fun d => d = .bl true }) : tSeq tRow ts { nx := fun _ H' => Q .non H', rt := Q } (start N vs) H := by
  obtain ⟨a, ns, rfl, hS, hl, q⟩ := h
  have e : start N [.ref a] = some (.ref a) :: none :: List.replicate n none := by
    unfold L2.start
    rw [hn]
    show some (V.ref a) :: List.replicate (n + 2 - 1) none = _
    rw [show n + 2 - 1 = n + 1 by omega, List.replicate_succ]
  rw [e]
  refine ⟨_, rfl, ?_⟩
  show 4 ≤ sizeLine ∧ _
  refine ⟨by decide, fun p hp => ?_⟩
  have es : (some (V.ref a) :: none :: List.replicate n none : L2.St).set 1 (some (.ref p)) = some (.ref a) :: some (.ref p) :: List.replicate n none := rfl
  show ts _ ((some (V.ref a) :: none :: List.replicate n none : L2.St).set 1 (some (.ref p))) _
  rw [es]
  have nr : ∀ i e, (En.un :: .row :: List.replicate n .un)[i]? = some e → e = .un ∨ (e = .row ∧ i = 1) := fun i e h => by
    match i, h with
    | 0, h => cases h; exact .inl rfl
    | 1, h => cases h; exact .inr ⟨rfl, rfl⟩
    | i + 2, h =>
      have h' : (List.replicate n En.un)[i]? = some e := h
      exact .inl (List.eq_of_mem_replicate (List.mem_of_getElem? h'))
  have no : ∀ (σ : L2.St) b, ¬ Ow σ (En.un :: .row :: List.replicate n .un) b := fun σ b ⟨i, e, h1, h2, _⟩ => by
    rcases nr i e h1 with rfl | ⟨rfl, _⟩ <;> cases h2
  have av : ∀ (σ : L2.St) b, Av (some p) noA σ (En.un :: .row :: List.replicate n .un) b → b = p := fun σ b z => by
    rcases z with z | z | z
    · exact absurd z (no _ b)
    · exact False.elim z
    · cases z; rfl
  have hr : RowOk Z.K (upd H p (.lst [.ref a, .int 0, .int 0, .int 0])) (Av (some p) noA (some (.ref a) :: some (.ref p) :: List.replicate n none) (.un :: .row :: List.replicate n .un)) p := by
    refine ⟨a, 0, 0, 0, ns, upd_same, ?_, hl, by decide, by decide, by decide⟩
    rcases hS with hS | hS
    · have ne : a ≠ p := by
        rcases hS with hS | ⟨o, hS⟩
        · exact ne_of_none hS hp
        · exact ne_of_none hS hp
      refine .inl ⟨fun z => ne (av _ a z), ?_⟩
      rcases hS with hS | ⟨o, hS⟩
      · exact .inl (by rw [upd_ne ne]; exact hS)
      · exact .inr ⟨o, by rw [upd_ne ne]; exact hS⟩
    · exact .inr (.inr hS)
  refine hw (some p) noA _ _ ⟨by simp, fun i e h => ?_, fun i j e e' b h _ o _ _ _ => ?_, fun b z => False.elim z, fun b z => ?_⟩ _ (fun _ _ _ _ _ q => False.elim q) (fun v d H' σ' ρ' E f b k => ?_) (fun _ _ _ _ _ _ _ _ _ _ _ q => False.elim q) (fun _ _ _ _ _ _ _ _ _ q => False.elim q)
  · rcases nr i e h with rfl | ⟨rfl, rfl⟩
    · trivial
    · exact ⟨p, rfl, rfl⟩
  · rcases nr i e h with rfl | ⟨rfl, _⟩ <;> cases o
  · cases z
    exact ⟨hr, no _ p, fun z => z⟩
  · subst k
    rw [rep_bl.mp b]
    exact q H'
end
end DL
/-! DL8: a def of the text and its callees, in short. -/
namespace L2
open PySem PySem.Spec PyProof.Rows
theorem hu65 {A : Around} {k : Nat} (hr : Room k A) : A.units + 65 < cLine := by have := hr.un; omega
theorem ext_tup (l : Addr) (items : Array Value) (n : Nat) (b : Addr) (items2 : Array Value) (hs0 : ¬(!items.isEmpty && Builtin.List.listTooLong (items.size + items2.size)) = true) (hs1 : items.size ≤ sizeLine) (hs2 : items.size + items2.size ≤ sizeLine + 1) :
    Meets (Builtin.«list.extend» ⟨[.ref l, .ref b], []⟩) (fun _ R s => s.heap.get? l = some { cls := .type "list", dict := none, data := .seq items n, slots := #[] } ∧ IsTup s.heap b items2 ∧ R (.ok (.ret Value.none)) { s with heap := s.heap.update l (Obj.mapSeq fun x => x ++ items2), toks := s.toks }) :=
  .of_wp fun prog w A R s h => by
    obtain ⟨hl, hb, h⟩ := h
    obtain ⟨o, ho, hc, m, hd⟩ := hb
    show wpAny _ _ (Builtin.List.listExtendWith (.ref l) (.ref b) .none) _ _ s
    unfold Builtin.List.listExtendWith
    refine wpAny_bind (wpAny_typeOf (T := "tuple") ⟨o, ho, hc⟩ ?_)
    have ht : (Value.type "tuple" == Value.type "tuple") = true := by rfl
    rw [if_pos (by rw [ht]; simp)]
    refine wpAny_bind (listItems_at ho hd ?_)
    refine wpAny_bind (listItems_at hl rfl ?_)
    rw [if_neg hs0]
    refine wpAny_bind (listUpdate_at hl rfl ?_ hs1 (by rw [Array.size_append]; exact hs2))
    exact wpAny_pure ⟨_, rfl, h⟩
def rExtendT : V → List V → Hp → VK → Prop := fun x vs H Q => ∃ l b xs zs, x = .ref l ∧ vs = [.ref b] ∧ H l = some (.lst xs) ∧ H b = some (.tup zs) ∧ xs.length + zs.length ≤ sizeLine ∧ Q .non (upd H l (.lst (xs ++ zs)))
theorem mt_extendT {X : Cx} : MtR X "list.extend" rExtendT := by
  intro pins s σ H x vs v us Q I rx rv h
  obtain ⟨l, b, xs, zs, rfl, rfl, hH, hB, hz, q⟩ := h
  cases rx
  obtain ⟨u, rfl, ru⟩ := rv.one
  cases ru
  obtain ⟨z, its, n, r, hl, e⟩ := I.lstM hH
  obtain ⟨its2, r2, t2, z2⟩ := I.tuple (SqT.of hB)
  have hl2 := r2.length
  have hsz : its.toArray.size + its2.toArray.size ≤ sizeLine := by rw [List.size_toArray, List.size_toArray]; omega
  have hlong : ¬ (!its.toArray.isEmpty && Builtin.List.listTooLong (its.toArray.size + its2.toArray.size)) = true := by
    rw [notLongL hsz, Bool.and_false]
    exact Bool.false_ne_true
  refine call_meets F.slot_list_extend ⟨_, e, rfl⟩ F.entry_list_extend (F.args_list_extend_2 _ _)
    (ext_tup l its.toArray n b its2.toArray hlong (by rw [List.size_toArray]; omega) (by omega)) ⟨e, t2, ?_⟩
  refine ⟨.non, _, I.lset (its' := its ++ its2) hH e (by simp) (r.append r2) ?_, rfl, q⟩
  rw [List.length_append]
  omega
end L2
namespace DL
open PySem PySem.Spec PyProof.Rows L2
theorem wc_extT {Z : Cs} {ρ : List En} {P : Po} {te : TE} {i : Nat} {ds : List D} (hi : ρ[i]? = some (.l ds)) (h : Wb Z te ρ fun d => ∃ es, d = .tup es ∧ ds.length + es.length ≤ sizeLine ∧ P.nx (ρ.set i (.l (ds ++ es)))) : Wc Z (tDrop (tBM Z.K "list" rExtendT (tVar i) (tCons te tNil))) ρ P := fun r X σ H E F k1 _ _ _ => by
  obtain ⟨a, vs, h1, h2, h3⟩ := E.at_ i _ hi
  refine ⟨_, h1, tyV_l h2, h r X σ H E _ fun v d H1 E1 f1 b1 ⟨es, e, l, q⟩ => ?_⟩
  subst e
  obtain ⟨b, ws, g1, g2, g3⟩ := E1.at_ i _ hi
  rw [h1] at g1
  cases g1
  obtain ⟨b', us, rfl, g4, g5⟩ := b1.tup
  exact ⟨a, b', ws, us, rfl, rfl, g2, g4, by rw [g3.length, g5.length]; exact l, mut_go hi f1 E1 h1 (g3.append g5) k1 q⟩
/-- a def of the text: it stands in the module, under its name -/
structure Dfn (K : PySem.W.Frag) (mg : Str → Option Value) (x : Str) (st : Stmt) (ps : List Str) : Prop where
  ex : ∃ f fd, Fun K x x st f fd ∧ mg x = some (.ref f) ∧ Binds K fd ps []
/-- a def that may be called -/
structure Cal (P : Program) (w : World) (K : PySem.W.Frag) (mg : Str → Option Value) (base : Heap) (x : Str) (k : Nat) (ps : List Str) (sp : Sp) : Prop where
  ex : ∃ f fd, FnOk P w K mg base CX0 k f fd ps sp ∧ mg x = some (.ref f) ∧ PySem.W.keepIn K (.ref f) = true ∧ Binds K fd ps []
section
variable {Z : Cs} {vs : List V} {H : Hp} {Q : VK} {E : XK} {n : Nat}
theorem len_V {spec : List D → (D → Prop) → Prop} (h : SpV Z spec vs H Q E) (l : ∀ ds Po, spec ds Po → ds.length = n) : vs.length = n := by
  obtain ⟨A, ds, Po, h1, _, h3, _⟩ := h
  rw [h1.length]
  exact l ds Po h3
theorem len_L {spec : List D → (List D → Prop) → Prop} (h : SpL Z spec vs H Q E) (l : ∀ ds Po, spec ds Po → ds.length = n) : vs.length = n := by
  obtain ⟨A, ds, Po, h1, _, h3, _⟩ := h
  rw [h1.length]
  exact l ds Po h3
theorem len_D {spec : List D → (List (List Int × V) → Prop) → Prop} (h : SpD Z spec vs H Q E) (l : ∀ ds Po, spec ds Po → ds.length = n) : vs.length = n := by
  obtain ⟨A, ds, Po, h1, _, h3, _⟩ := h
  rw [h1.length]
  exact l ds Po h3
theorem len_RV {spec : List D → (D → Prop) → Prop} (h : SpRV Z spec vs H Q E) (l : ∀ ds Po, spec ds Po → ds.length + 1 = n) : vs.length = n := by
  obtain ⟨A, a, ws, ds, Po, rfl, _, _, h1, _, h3, _⟩ := h
  rw [List.length_cons, h1.length]
  exact l ds Po h3
theorem len_RL {spec : List D → (List D → Prop) → Prop} (h : SpRL Z spec vs H Q E) (l : ∀ ds Po, spec ds Po → ds.length + 1 = n) : vs.length = n := by
  obtain ⟨A, a, ws, ds, Po, rfl, _, _, h1, _, h3, _⟩ := h
  rw [List.length_cons, h1.length]
  exact l ds Po h3
end
end DL
/-! DL9: the rules of HandS that read the written part, with that part named (a comprehension's block has no name for it). -/
namespace L2
open PySem PySem.Spec PyProof.Rows
section
variable {X : Cx}
theorem ix_listK (K : PySem.W.Frag) (h : X.K = K := by rfl) : IxR X (rIxL K) := by subst h; exact ix_list
theorem ix_tupK (K : PySem.W.Frag) (h : X.K = K := by rfl) : IxR X (rIxT K) := by subst h; exact ix_tup
theorem ix_seqK (K : PySem.W.Frag) (h : X.K = K := by rfl) : IxR X (rIx K) := by subst h; exact ix_seq
theorem sl_listK (K : PySem.W.Frag) (h : X.K = K := by rfl) : SlR X (rSlL K) := by subst h; exact sl_list
theorem sl_tupK (K : PySem.W.Frag) (h : X.K = K := by rfl) : SlR X (rSlA K) := by subst h; exact sl_tupA
theorem op_eqK (K : PySem.W.Frag) (hu : X.A.units + 64 < cLine) (h : X.K = K := by rfl) : OpR X (compareOp .Eq) (rEqD K) := by subst h; exact op_eqD hu
theorem op_neK (K : PySem.W.Frag) (hu : X.A.units + 64 < cLine) (h : X.K = K := by rfl) : OpR X (compareOp .NotEq) (rNeD K) := by subst h; exact op_neD hu
theorem op_inK (K : PySem.W.Frag) (h : X.K = K := by rfl) : OpR X (compareOp .In) (rIn K false) := by subst h; exact op_in_seq
theorem op_niK (K : PySem.W.Frag) (h : X.K = K := by rfl) : OpR X (compareOp .NotIn) (rIn K true) := by subst h; exact op_notIn_seq
theorem op_inDK (K : PySem.W.Frag) (hu : X.A.units + 65 < cLine) (h : X.K = K := by rfl) : OpR X (compareOp .In) (rInD K) := by subst h; exact op_inD hu
theorem op_niDK (K : PySem.W.Frag) (hu : X.A.units + 65 < cLine) (h : X.K = K := by rfl) : OpR X (compareOp .NotIn) (rNotInD K) := by subst h; exact op_notInD hu
theorem op_catTK (K : PySem.W.Frag) (h : X.K = K := by rfl) : OpR X (binaryOp .Add) (rCatA K) := by subst h; exact op_catA
theorem pi_listK (K : PySem.W.Frag) {tg l : Expr} {tl : TE} (hl : PE X l tl) (h : X.K = K := by rfl) : PI X tg l (iList K tl) := by subst h; exact pi_list hl
theorem pi_tupK (K : PySem.W.Frag) {tg l : Expr} {tl : TE} (hl : PE X l tl) (h : X.K = K := by rfl) : PI X tg l (iTup K tl) := by subst h; exact pi_tup hl
theorem pe_fldK (K : PySem.W.Frag) {e : Expr} {f : Str} {pos : Pos} {ta : TE} (ha : PE X e ta) (hb : attributeBase e f X.env (eval e X.env) = eval e X.env := by rfl) (h : X.K = K := by rfl) : PE X (.Attribute e f pos) (tFld K ta f) := by subst h; exact pe_fld ha hb
theorem cr_lenK (K : PySem.W.Frag) (h : X.K = K := by rfl) : CallR X (.builtin "len") (DL.rLenB K) := by subst h; exact call_len
theorem cr_listK (K : PySem.W.Frag) (h : X.K = K := by rfl) : CallR X (.type "list") (DL.rListB K) := by subst h; exact call_list_of
theorem cr_tupleK (K : PySem.W.Frag) (h : X.K = K := by rfl) : CallR X (.type "tuple") (DL.rTupB K) := by subst h; exact call_tuple_of
theorem cr_intK : CallR X (.type "int") DL.rIntB := call_int1
theorem cr_absK : CallR X (.builtin "abs") DL.rAbsB := call_abs
theorem cr_sumK (K : PySem.W.Frag) (hc : X.calm = true) (h : X.K = K := by rfl) : CallR X (.builtin "sum") (rSum K) := by subst h; exact cr_sum hc
theorem cr_minK (K : PySem.W.Frag) (hc : X.calm = true) (h : X.K = K := by rfl) : CallR X (.builtin "min") (rMin K) := by subst h; exact cr_min hc
theorem cr_maxK (K : PySem.W.Frag) (hc : X.calm = true) (h : X.K = K := by rfl) : CallR X (.builtin "max") (rMax K) := by subst h; exact cr_max hc
theorem cr_sortLK (K : PySem.W.Frag) (hu : X.A.units + 64 < cLine) (h : X.K = K := by rfl) : CallR X (.builtin "sorted") (rSortDl K) := by subst h; exact cr_sortDl hu
theorem cr_sortTK (K : PySem.W.Frag) (hu : X.A.units + 64 < cLine) (h : X.K = K := by rfl) : CallR X (.builtin "sorted") (rSortDt K) := by subst h; exact cr_sortDt hu
theorem mt_indexK (K : PySem.W.Frag) (h : X.K = K := by rfl) : MtR X "list.index" (rIndex K) := by subst h; exact mt_index
theorem mt_indexDK (K : PySem.W.Frag) (hu : X.A.units + 65 < cLine) (h : X.K = K := by rfl) : MtR X "list.index" (rIndexD K) := by subst h; exact mt_indexD hu
theorem pg_tupK (K : PySem.W.Frag) {es : List Expr} {k : Nat} {pos : Pos} {t : TGs} {n : Nat} (hc : X.calm = true) (h : PGs X es t)
    (hn : (assignEach es X.env).length = n := by rfl) (hst : (assignEach es X.env).findIdx? (·.1) = none := by rfl) (hK : X.K = K := by rfl) : PG X (.Tuple es k pos) (gTup K n t) := by subst hK; exact pg_tup hc h hn hst
variable {o e : Expr} {es : List Expr} {to : TE} {t : TA} {name : Str} {apos cpos : Pos} {T id : String} {r : V → List V → Hp → VK → Prop}
theorem pe_bm0K (K : PySem.W.Frag) (pa : PlainAttrs T) (slot : Slot T name id) (hty : typeOf (.builtin id) = pure (.type "method_descriptor")) (hm : MtR X id r) (ho : PE X o to)
    (hbase : attributeBase o name X.env (eval o X.env) = eval o X.env := by rfl) (hline : (apos.endLine == cpos.line) = true := by rfl) (h : X.K = K := by rfl) : PE X (.Call (.Attribute o name apos) [] [] cpos) (tBM0 K T r to) := by
  subst h; exact pe_bm0 pa slot hty hm ho hbase hline
theorem pe_bmK (K : PySem.W.Frag) (pa : PlainAttrs T) (slot : Slot T name id) (hty : typeOf (.builtin id) = pure (.type "method_descriptor")) (hm : MtR X id r) (ho : PE X o to) (ha : PA X (e :: es) t)
    (hbase : attributeBase o name X.env (eval o X.env) = eval o X.env := by rfl)
    (hfew : ((backTo cpos (starEach (e :: es) X.env)).all (fun x => !x.1) && (backToKw cpos (keywordEach [] X.env)).all (fun x => x.1.isSome)
      && decide ((e :: es).length + ([] : List Keyword).length + (if ([] : List Keyword).isEmpty then 0 else 1) < 30)) = true := by rfl)
    (hline : (apos.endLine == cpos.line) = true := by rfl) (hs : starEach (e :: es) X.env = (false, eval e X.env) :: starEach es X.env := by rfl) (hplain : (backTo cpos (starEach es X.env)).any (·.1) = false := by rfl) (h : X.K = K := by rfl) :
    PE X (.Call (.Attribute o name apos) (e :: es) [] cpos) (tBM K T r to t) := by
  subst h; exact pe_bm pa slot hty hm ho ha hbase hfew hline hs hplain
end
end L2
/-! DL10: kinds of data (numbers, texts, tuples, lists of a kind): ==, order, sorted, items. -/
namespace DL
open PySem PySem.Spec PyProof.Rows L2
/-! ### lists by their items -/
def lx {α : Type} [DecidableEq α] (lt : α → α → Bool) : List α → List α → Bool
  | [], [] => false
  | [], _ :: _ => true
  | _ :: _, [] => false
  | x :: xs, y :: ys => if x = y then lx lt xs ys else lt x y
structure Tri {α : Type} (lt : α → α → Bool) : Prop where
  irr : ∀ x, lt x x = false
  tri : ∀ x y, lt x y = false → lt y x = false → x = y
  tr : ∀ x y z, lt x y = true → lt y z = true → lt x z = true
theorem Tri.asy {α : Type} {lt : α → α → Bool} (h : Tri lt) {x y : α} (e : lt x y = true) : lt y x = false := by
  cases q : lt y x with
  | false => rfl
  | true =>
    have := h.tr x y x e q
    rw [h.irr] at this
    cases this
theorem tri_int : Tri (fun a b : Int => decide (a < b)) := ⟨fun x => by simp, fun x y h1 h2 => by simp at h1 h2; omega, fun x y z h1 h2 => by simp at h1 h2 ⊢; omega⟩
theorem tri_lx {α : Type} [DecidableEq α] {lt : α → α → Bool} (h : Tri lt) : Tri (lx lt) := by
  refine ⟨fun x => ?_, fun x => ?_, fun x => ?_⟩
  · induction x with
    | nil => rfl
    | cons a x ih => unfold lx; rw [if_pos rfl]; exact ih
  · induction x with
    | nil => intro y h1 h2; cases y with
      | nil => rfl
      | cons b y => cases h1
    | cons a x ih => intro y h1 h2; cases y with
      | nil => cases h2
      | cons b y =>
        unfold lx at h1 h2
        by_cases e : a = b
        · subst e
          rw [if_pos rfl] at h1 h2
          rw [ih y h1 h2]
        · rw [if_neg e] at h1
          rw [if_neg (Ne.symm e)] at h2
          exact absurd (h.tri a b h1 h2) e
  · induction x with
    | nil => intro y z h1 h2; cases y with
      | nil => cases h1
      | cons b y => cases z with
        | nil => cases h2
        | cons c z => rfl
    | cons a x ih => intro y z h1 h2; cases y with
      | nil => cases h1
      | cons b y => cases z with
        | nil => cases h2
        | cons c z =>
          unfold lx at h1 h2 ⊢
          by_cases e : a = b
          · subst e
            rw [if_pos rfl] at h1
            by_cases e2 : a = c
            · subst e2
              rw [if_pos rfl] at h2 ⊢
              exact ih y z h1 h2
            · rw [if_neg e2] at h2 ⊢
              exact h2
          · rw [if_neg e] at h1
            by_cases e2 : b = c
            · subst e2
              rw [if_neg e]
              exact h1
            · rw [if_neg e2] at h2
              have h3 := h.tr a b c h1 h2
              by_cases e3 : a = c
              · subst e3
                rw [h.irr] at h3; cases h3
              · rw [if_neg e3]; exact h3
/-! ### a kind of data -/
structure Kd {α : Type} [DecidableEq α] (enc : α → D) (n : Nat) : Prop where
  eqv : ∀ x y, PyData.eqv (toPy (enc x)) (toPy (enc y)) = decide (x = y)
  can : ∀ x, PyData.canLay0 (toPy (enc x)) = true
  dep : ∀ x, (toPy (enc x)).depth ≤ n
structure Od {α : Type} (enc : α → D) (lt : α → α → Bool) : Prop where
  al : ∀ x y, W.alike (toPy (enc x)) (toPy (enc y)) = true
  lt_ : ∀ x y, W.dataLt (toPy (enc x)) (toPy (enc y)) = lt x y
section
variable {α : Type} [DecidableEq α] {enc : α → D} {n m : Nat} {lt : α → α → Bool}
theorem Kd.sh (k : Kd enc n) (h : n ≤ 64) (x : α) : SeqAt.shaped (toPy (enc x)) = true := by
  unfold SeqAt.shaped
  rw [k.can x, Bool.true_and, decide_eq_true_eq]
  exact Nat.le_trans (k.dep x) h
theorem Kd.beq (k : Kd enc n) (x y : α) : beqD (enc x) (enc y) = decide (x = y) := k.eqv x y
theorem Kd.mono (k : Kd enc n) (h : n ≤ m) : Kd enc m := ⟨k.eqv, k.can, fun x => Nat.le_trans (k.dep x) h⟩
theorem kd_int : Kd D.int 0 := ⟨fun x y => by
  rw [toPy_int, toPy_int]
  simp only [PyData.eqv]
  exact Bool.beq_eq_decide_eq x y, fun x => by rw [toPy_int]; simp [PyData.canLay0], fun x => by rw [toPy_int]; simp [PyData.depth]⟩
theorem eqvAll_kd (k : Kd enc n) : ∀ xs ys : List α, PyData.eqvAll ((xs.map enc).map toPy) ((ys.map enc).map toPy) = decide (xs = ys)
  | [], [] => by simp [PyData.eqvAll]
  | [], y :: ys => by simp [PyData.eqvAll]
  | x :: xs, [] => by simp [PyData.eqvAll]
  | x :: xs, y :: ys => by
    simp only [List.map_cons, PyData.eqvAll]
    rw [k.eqv, eqvAll_kd k xs ys]
    by_cases h1 : x = y <;> by_cases h2 : xs = ys <;> simp [h1, h2]
theorem canAll_kd (k : Kd enc n) : ∀ xs : List α, PyData.canLayAll0 ((xs.map enc).map toPy) = true
  | [] => by simp [PyData.canLayAll0]
  | x :: xs => by
    simp only [List.map_cons, PyData.canLayAll0]
    rw [k.can, canAll_kd k xs]
    rfl
theorem depAll_kd (k : Kd enc n) : ∀ xs : List α, PyData.depthAll ((xs.map enc).map toPy) ≤ n
  | [] => by simp [PyData.depthAll]
  | x :: xs => by
    simp only [List.map_cons, PyData.depthAll]
    exact Nat.max_le.mpr ⟨k.dep x, depAll_kd k xs⟩
theorem kd_tup (k : Kd enc n) : Kd (fun xs : List α => D.tup (xs.map enc)) (n + 1) := ⟨fun x y => by
  rw [toPy_tup, toPy_tup]
  simp only [PyData.eqv]
  exact eqvAll_kd k x y, fun x => by rw [toPy_tup]; simp only [PyData.canLay0]; exact canAll_kd k x, fun x => by
  rw [toPy_tup]
  simp only [PyData.depth]
  have := depAll_kd k x
  omega⟩
theorem kd_lst (k : Kd enc n) : Kd (fun xs : List α => D.lst (xs.map enc)) (n + 1) := ⟨fun x y => by
  rw [toPy_lst, toPy_lst]
  simp only [PyData.eqv]
  exact eqvAll_kd k x y, fun x => by rw [toPy_lst]; simp only [PyData.canLay0]; exact canAll_kd k x, fun x => by
  rw [toPy_lst]
  simp only [PyData.depth]
  have := depAll_kd k x
  omega⟩
theorem od_int : Od D.int (fun a b => decide (a < b)) := ⟨fun x y => by rw [toPy_int, toPy_int]; simp [W.alike], fun x y => by rw [toPy_int, toPy_int]; exact W.dataLt_int x y⟩
theorem alikeAll_od (o : Od enc lt) : ∀ xs ys : List α, W.alikeAll ((xs.map enc).map toPy) ((ys.map enc).map toPy) = true
  | [], _ => by simp [W.alikeAll]
  | _ :: _, [] => by simp [W.alikeAll]
  | x :: xs, y :: ys => by
    simp only [List.map_cons, W.alikeAll]
    rw [o.al, alikeAll_od o xs ys]
    rfl
theorem rowLt_od (k : Kd enc n) (o : Od enc lt) : ∀ xs ys : List α, W.rowLt ((xs.map enc).map toPy) ((ys.map enc).map toPy) = lx lt xs ys
  | [], [] => lex_irrefl _
  | [], y :: ys => by
    unfold lx W.rowLt
    simp only [List.map_cons, List.map_nil, W.keyToksAll]
    exact (W.lex_atom (p := Sum.inl 0) (q := Sum.inl 1) (by decide) [] _).trans (by decide)
  | x :: xs, [] => by
    unfold lx W.rowLt
    simp only [List.map_cons, List.map_nil, W.keyToksAll]
    exact (W.lex_atom (p := Sum.inl 1) (q := Sum.inl 0) (by decide) _ []).trans (by decide)
  | x :: xs, y :: ys => by
    unfold W.rowLt
    simp only [List.map_cons]
    rw [W.dataLt_cons (o.al x y), k.eqv, o.lt_]
    have ih := rowLt_od k o xs ys
    unfold W.rowLt at ih
    rw [ih]
    by_cases e : x = y
    · subst e
      rw [decide_eq_true rfl, if_pos rfl]
      exact (if_pos rfl).symm
    · rw [decide_eq_false e, if_neg (by decide)]
      exact (if_neg e).symm
theorem od_tup (k : Kd enc n) (o : Od enc lt) : Od (fun xs : List α => D.tup (xs.map enc)) (lx lt) := ⟨fun x y => by
  rw [toPy_tup, toPy_tup]
  simp only [W.alike]
  exact alikeAll_od o x y, fun x y => by rw [toPy_tup, toPy_tup]; exact rowLt_od k o x y⟩
theorem od_lst (k : Kd enc n) (o : Od enc lt) : Od (fun xs : List α => D.lst (xs.map enc)) (lx lt) := ⟨fun x y => by
  rw [toPy_lst, toPy_lst]
  simp only [W.alike]
  exact alikeAll_od o x y, fun x y => by rw [toPy_lst, toPy_lst]; exact rowLt_od k o x y⟩
/-! ### sorted -/
def leO (lt : α → α → Bool) (a b : α) : Bool := !lt b a
theorem leD_od (o : Od enc lt) (x y : α) : leD (enc x) (enc y) = leO lt x y := by
  show (!W.dataLt (toPy (enc y)) (toPy (enc x))) = _
  rw [o.lt_]
  rfl
theorem sort_od (o : Od enc lt) (xs : List α) : (xs.map enc).mergeSort leD = (xs.mergeSort (leO lt)).map enc := (List.map_mergeSort (f := enc) fun a _ b _ => (leD_od o a b).symm).symm
theorem sortOk_int (xs : List Int) : SortOk (xs.map .int) := by
  refine ⟨?_, .inl (.inr ?_), ?_, ?_⟩
  · rw [List.map_map]; exact W.AllAlike.of fun a b => od_int.al a b
  · rw [List.map_map]; intro d hd; obtain ⟨x, _, rfl⟩ := List.mem_map.mp hd
    show toPy (.int x) ≠ _ ∧ _
    rw [toPy_int]
    exact ⟨(fun z => nomatch z), (fun _ z => nomatch z)⟩
  · intro d hd; obtain ⟨x, _, rfl⟩ := List.mem_map.mp hd; exact Nat.le_trans (kd_int.dep x) (by decide)
  · intro d hd; obtain ⟨x, _, rfl⟩ := List.mem_map.mp hd; exact kd_int.can x
/-- tuples, none of them empty -/
theorem sortOk_tup (k : Kd enc n) (o : Od enc lt) (h : n ≤ 19) (xs : List (List α)) (ne : ∀ x ∈ xs, x ≠ []) : SortOk (xs.map fun x => D.tup (x.map enc)) := by
  refine ⟨?_, .inl (.inl ?_), ?_, ?_⟩
  · rw [List.map_map]; exact W.AllAlike.of fun a b => (od_tup k o).al a b
  · rw [List.map_map]; intro d hd; obtain ⟨x, hx, rfl⟩ := List.mem_map.mp hd
    have := ne x hx
    cases x with
    | nil => exact absurd rfl this
    | cons a x => exact ⟨toPy (enc a), (x.map enc).map toPy, by show toPy (.tup _) = _; rw [toPy_tup]; rfl⟩
  · intro d hd; obtain ⟨x, _, rfl⟩ := List.mem_map.mp hd; exact Nat.le_trans ((kd_tup k).dep x) (by omega)
  · intro d hd; obtain ⟨x, _, rfl⟩ := List.mem_map.mp hd; exact (kd_tup k).can x
/-- tuples, empty ones among them -/
theorem sortOk_tup0 (k : Kd enc n) (o : Od enc lt) (h : n ≤ 19) (xs : List (List α)) : SortOk (xs.map fun x => D.tup (x.map enc)) := by
  refine ⟨?_, .inr ?_, ?_, ?_⟩
  · rw [List.map_map]; exact W.AllAlike.of fun a b => (od_tup k o).al a b
  · rw [List.map_map]; intro d hd; obtain ⟨x, hx, rfl⟩ := List.mem_map.mp hd
    exact ⟨(x.map enc).map toPy, by show toPy (.tup _) = _; rw [toPy_tup]⟩
  · intro d hd; obtain ⟨x, _, rfl⟩ := List.mem_map.mp hd; exact Nat.le_trans ((kd_tup k).dep x) (by omega)
  · intro d hd; obtain ⟨x, _, rfl⟩ := List.mem_map.mp hd; exact (kd_tup k).can x
theorem sortOk_lst (k : Kd enc n) (o : Od enc lt) (h : n ≤ 19) (xs : List (List α)) : SortOk (xs.map fun x => D.lst (x.map enc)) := by
  refine ⟨?_, .inl (.inr ?_), ?_, ?_⟩
  · rw [List.map_map]; exact W.AllAlike.of fun a b => (od_lst k o).al a b
  · rw [List.map_map]; intro d hd; obtain ⟨x, hx, rfl⟩ := List.mem_map.mp hd
    show toPy (.lst _) ≠ _ ∧ _
    rw [toPy_lst]
    exact ⟨(fun z => nomatch z), (fun _ z => nomatch z)⟩
  · intro d hd; obtain ⟨x, _, rfl⟩ := List.mem_map.mp hd; exact Nat.le_trans ((kd_lst k).dep x) (by omega)
  · intro d hd; obtain ⟨x, _, rfl⟩ := List.mem_map.mp hd; exact (kd_lst k).can x
theorem leO_trans (t : Tri lt) (a b c : α) (h1 : leO lt a b = true) (h2 : leO lt b c = true) : leO lt a c = true := by
  unfold leO at *
  simp only [Bool.not_eq_true'] at *
  by_cases e : a = b
  · subst e; exact h2
  · by_cases e2 : b = c
    · subst e2; exact h1
    · have x1 : lt a b = true := by
        cases q : lt a b with
        | true => rfl
        | false => exact absurd (t.tri a b q h1) e
      have x2 : lt b c = true := by
        cases q : lt b c with
        | true => rfl
        | false => exact absurd (t.tri b c q h2) e2
      exact t.asy (t.tr a b c x1 x2)
theorem leO_total (t : Tri lt) (a b : α) : (leO lt a b || leO lt b a) = true := by
  unfold leO
  cases q : lt b a with
  | false => rfl
  | true => rw [t.asy q]; rfl
/-- sorted lists -/
def Srt (lt : α → α → Bool) (xs : List α) : Prop := xs.Pairwise fun a b => leO lt a b = true
theorem srt_sort (t : Tri lt) (xs : List α) : Srt lt (xs.mergeSort (leO lt)) := List.pairwise_mergeSort (leO_trans t) (leO_total t) xs
theorem srt_one (t : Tri lt) : ∀ {xs ys : List α}, Srt lt xs → Srt lt ys → xs.Perm ys → xs = ys := by
  intro xs ys h1 h2 p
  exact List.Perm.eq_of_pairwise (le := fun a b => leO lt a b = true) (fun a b _ _ x y => by
    unfold leO at x y
    simp only [Bool.not_eq_true'] at x y
    exact t.tri a b y x) h1 h2 p
theorem sort_self (t : Tri lt) {xs : List α} (h : Srt lt xs) : xs.mergeSort (leO lt) = xs := srt_one t (srt_sort t xs) h (List.mergeSort_perm _ _)
theorem sort_perm (t : Tri lt) {xs ys : List α} (p : xs.Perm ys) : xs.mergeSort (leO lt) = ys.mergeSort (leO lt) :=
  srt_one t (srt_sort t xs) (srt_sort t ys) ((List.mergeSort_perm _ _).trans (p.trans (List.mergeSort_perm _ _).symm))
/-! ### items -/
theorem atI_map {β : Type} {f : β → D} {xs : List β} {i : Int} (h0 : 0 ≤ i) (h1 : i < xs.length) (d : β) : atI (xs.map f) i = some (f (xs.getD i.toNat d)) := by
  obtain ⟨k, rfl⟩ : ∃ k : Nat, i = (k : Int) := ⟨i.toNat, by omega⟩
  have h2 : k < xs.length := by omega
  refine atI_nat ?_
  rw [Int.toNat_natCast, List.getElem?_map, List.getElem?_eq_getElem h2, List.getD, List.getElem?_eq_getElem h2]
  rfl
theorem atI_last' {β : Type} {f : β → D} {xs : List β} (h : xs ≠ []) : atI (xs.map f) (-1) = some (f (xs.getLast h)) := by
  have e : xs.map f = xs.dropLast.map f ++ [f (xs.getLast h)] := by
    rw [← List.map_singleton, ← List.map_append, List.dropLast_concat_getLast]
  rw [e]
  exact atI_last _ _
end
/-! ### the kinds of this program -/
abbrev tI (xs : List Int) : D := .tup (xs.map .int)
abbrev lI (xs : List Int) : D := .lst (xs.map .int)
abbrev tT (t : List (List Int)) : D := .tup (t.map tI)
abbrev lT (p : List (List (List Int))) : D := .lst (p.map tT)
abbrev ltI : Int → Int → Bool := fun a b => decide (a < b)
abbrev ltT : List Int → List Int → Bool := lx ltI
abbrev ltR : List (List Int) → List (List Int) → Bool := lx ltT
theorem kd_tI : Kd tI 1 := kd_tup kd_int
theorem kd_lI : Kd lI 1 := kd_lst kd_int
theorem kd_tT : Kd tT 2 := kd_tup kd_tI
theorem kd_lT : Kd lT 3 := kd_lst kd_tT
theorem od_tI : Od tI ltT := od_tup kd_int od_int
theorem od_lI : Od lI ltT := od_lst kd_int od_int
theorem od_tT : Od tT ltR := od_tup kd_tI od_tI
theorem tri_T : Tri ltT := tri_lx tri_int
theorem tri_R : Tri ltR := tri_lx tri_T
def srtI (xs : List Int) : List Int := xs.mergeSort (leO ltI)
def srtT (xs : List (List Int)) : List (List Int) := xs.mergeSort (leO ltT)
def srtR (xs : List (List (List Int))) : List (List (List Int)) := xs.mergeSort (leO ltR)
abbrev prD (p : Int × Int) : D := tI [p.1, p.2]
def ltP : Int × Int → Int × Int → Bool := fun p q => ltT [p.1, p.2] [q.1, q.2]
theorem prD_mk (a b : Int) : prD (a, b) = .tup [.int a, .int b] := rfl
theorem prD_eq (p : Int × Int) : prD p = tI [p.1, p.2] := rfl
theorem kd_pr : Kd prD 1 := ⟨fun x y => by
  rw [prD_eq, prD_eq, kd_tI.eqv]
  obtain ⟨a, b⟩ := x
  obtain ⟨c, d⟩ := y
  simp, fun x => kd_tI.can _, fun x => kd_tI.dep _⟩
theorem od_pr : Od prD ltP := ⟨fun x y => od_tI.al _ _, fun x y => od_tI.lt_ _ _⟩
theorem tri_P : Tri ltP := ⟨fun x => tri_T.irr _, fun x y h1 h2 => by
  have := tri_T.tri _ _ h1 h2
  obtain ⟨a, b⟩ := x
  obtain ⟨c, d⟩ := y
  simpa using this, fun x y z => tri_T.tr _ _ _⟩
def srtP (xs : List (Int × Int)) : List (Int × Int) := xs.mergeSort (leO ltP)
theorem sortOk_pr (xs : List (Int × Int)) : SortOk (xs.map prD) := by
  have := sortOk_tup kd_int od_int (by decide) (xs.map fun p => [p.1, p.2]) (by intro x hx; obtain ⟨p, _, rfl⟩ := List.mem_map.mp hx; exact fun z => nomatch z)
  rw [List.map_map] at this
  exact this
theorem sortOk_tI (xs : List (List Int)) (ne : ∀ x ∈ xs, x ≠ []) : SortOk (xs.map tI) := sortOk_tup kd_int od_int (by decide) xs ne
theorem sortOk_tT (xs : List (List (List Int))) (ne : ∀ x ∈ xs, x ≠ []) : SortOk (xs.map tT) := sortOk_tup kd_tI od_tI (by decide) xs ne
theorem lf_tI (xs : List Int) : LF (tI xs) = true := LF_tup.mpr fun d hd => by obtain ⟨x, _, rfl⟩ := List.mem_map.mp hd; rfl
theorem lf_tT (xs : List (List Int)) : LF (tT xs) = true := LF_tup.mpr fun d hd => by obtain ⟨x, _, rfl⟩ := List.mem_map.mp hd; exact lf_tI x
theorem lf_pr (p : Int × Int) : LF (prD p) = true := lf_tI [p.1, p.2]
theorem lfl_map {α : Type} {f : α → D} (h : ∀ x, LF (f x) = true) (xs : List α) : LFL (xs.map f) = true := LFL_all.mpr fun d hd => by obtain ⟨x, _, rfl⟩ := List.mem_map.mp hd; exact h x
/-! ### == with data of a kind -/
section
variable {Z : Cs} {ρ : List En} {Q : D → Prop} {α : Type} [DecidableEq α] {enc : α → D} {n : Nat}
theorem od_eqK (k : Kd enc n) (h : n ≤ 64) {x y : α} (q : Q (.bl (decide (x = y)))) : OpD Z ρ (rEqD Z.K) (enc x) (enc y) Q := od_eqD (k.sh h x) (k.sh h y) (by rw [k.beq]; exact q)
theorem od_neK (k : Kd enc n) (h : n ≤ 64) {x y : α} (q : Q (.bl (!decide (x = y)))) : OpD Z ρ (rNeD Z.K) (enc x) (enc y) Q := od_neD (k.sh h x) (k.sh h y) (by rw [k.beq]; exact q)
/-- xs == [] -/
theorem od_eqN (k : Kd enc n) (h : n ≤ 63) {x : List α} (q : Q (.bl x.isEmpty)) : OpD Z ρ (rEqD Z.K) (.lst (x.map enc)) (.lst []) Q :=
  od_eqK (enc := fun xs : List α => D.lst (xs.map enc)) (kd_lst k) (by omega) (x := x) (y := []) (by cases x <;> exact q)
theorem od_neN (k : Kd enc n) (h : n ≤ 63) {x : List α} (q : Q (.bl (!x.isEmpty))) : OpD Z ρ (rNeD Z.K) (.lst (x.map enc)) (.lst []) Q :=
  od_neK (enc := fun xs : List α => D.lst (xs.map enc)) (kd_lst k) (by omega) (x := x) (y := []) (by cases x <;> exact q)
theorem od_eqNt (k : Kd enc n) (h : n ≤ 63) {x : List α} (q : Q (.bl x.isEmpty)) : OpD Z ρ (rEqD Z.K) (.tup (x.map enc)) (.tup []) Q :=
  od_eqK (enc := fun xs : List α => D.tup (xs.map enc)) (kd_tup k) (by omega) (x := x) (y := []) (by cases x <;> exact q)
theorem od_neNt (k : Kd enc n) (h : n ≤ 63) {x : List α} (q : Q (.bl (!x.isEmpty))) : OpD Z ρ (rNeD Z.K) (.tup (x.map enc)) (.tup []) Q :=
  od_neK (enc := fun xs : List α => D.tup (xs.map enc)) (kd_tup k) (by omega) (x := x) (y := []) (by cases x <;> exact q)
theorem cl_sortIl {Q : List D → Prop} {xs : List Int} (q : Q ((srtI xs).map .int)) : CbL Z ρ (rSortDl Z.K) [.lst (xs.map .int)] Q := cl_sortL (sortOk_int xs) (by rw [sort_od od_int]; exact q)
theorem cl_sortIt {Q : List D → Prop} {xs : List Int} (q : Q ((srtI xs).map .int)) : CbL Z ρ (rSortDt Z.K) [.tup (xs.map .int)] Q := cl_sortT (sortOk_int xs) (by rw [sort_od od_int]; exact q)
theorem cl_sortPl {Q : List D → Prop} {xs : List (Int × Int)} (q : Q ((srtP xs).map prD)) : CbL Z ρ (rSortDl Z.K) [.lst (xs.map prD)] Q := cl_sortL (sortOk_pr xs) (by rw [sort_od od_pr]; exact q)
theorem cl_sortTl {Q : List D → Prop} {xs : List (List Int)} (ne : ∀ x ∈ xs, x ≠ []) (q : Q ((srtT xs).map tI)) : CbL Z ρ (rSortDl Z.K) [.lst (xs.map tI)] Q := cl_sortL (sortOk_tI xs ne) (by rw [sort_od od_tI]; exact q)
theorem cl_sortTt {Q : List D → Prop} {xs : List (List Int)} (ne : ∀ x ∈ xs, x ≠ []) (q : Q ((srtT xs).map tI)) : CbL Z ρ (rSortDt Z.K) [.tup (xs.map tI)] Q := cl_sortT (sortOk_tI xs ne) (by rw [sort_od od_tI]; exact q)
/-- rounds, an empty one among them -/
theorem cl_sortR0 {Q : List D → Prop} {xs : List (List (List Int))} (q : Q ((srtR xs).map tT)) : CbL Z ρ (rSortDl Z.K) [.lst (xs.map tT)] Q := cl_sortL (sortOk_tup0 kd_tI od_tI (by decide) xs) (by rw [sort_od od_tT]; exact q)
theorem cl_sortRl {Q : List D → Prop} {xs : List (List (List Int))} (ne : ∀ x ∈ xs, x ≠ []) (q : Q ((srtR xs).map tT)) : CbL Z ρ (rSortDl Z.K) [.lst (xs.map tT)] Q := cl_sortL (sortOk_tT xs ne) (by rw [sort_od od_tT]; exact q)
end
end DL
/-! DL11: loops and comprehensions over data of a kind; slices. -/
namespace DL
open PySem PySem.Spec PyProof.Rows L2
section
variable {Z : Cs} {ρ : List En} {P : Po} {te ta tb tl : TE} {tt : TT} {ts tu : TS} {d : D} {ds : List D} {i j : Nat} {g : TG} {vs : List Nat} {Q : List D → Prop}
variable {α : Type} {enc : α → D}
theorem Sv.wipeE' {r : Option Addr} {X : Addr → Prop} {H : Hp} {σ : L2.St} (E : Sv Z r X H σ ρ) : ∀ vs : List Nat, Sv Z r X H σ (wipeE ρ vs) ∧ Fr r σ ρ H σ (wipeE ρ vs) H
  | [] => ⟨E, Fr.refl⟩
  | v :: vs => by
    have ⟨a, b⟩ := Sv.wipeE' E vs
    exact ⟨a.forget, b.trans (fr_less rfl)⟩
theorem wc_post (vs : List Nat) (h : Wc Z ts ρ { P with nx := fun ρ' => P.nx (wipeE ρ' vs) }) : Wc Z ts ρ P := fun r X σ H E F k1 k2 k3 k4 =>
  h r X σ H E F (fun σ' ρ' H' E1 f q => k1 σ' _ H' (E1.wipeE' vs).1 (f.trans (E1.wipeE' vs).2) q) k2 k3 k4
theorem map_split {xs : List α} {pre post : List D} {y : D} (h : xs.map enc = pre ++ y :: post) : ∃ p x q, xs = p ++ x :: q ∧ pre = p.map enc ∧ y = enc x ∧ post = q.map enc := by
  obtain ⟨p, r, rfl, e1, e2⟩ := List.map_eq_append_iff.mp h
  obtain ⟨x, q, rfl, e3, e4⟩ := List.map_eq_cons_iff.mp e2
  exact ⟨p, x, q, rfl, e1.symm, e3.symm, e4.symm⟩
theorem tk {β : Type} (p : List β) (x : β) (q : List β) : p ++ [x] = (p ++ x :: q).take (p ++ [x]).length := by rw [show p ++ x :: q = (p ++ [x]) ++ q by simp, List.take_left]
theorem forD_inv {xs : List α} (vs : List Nat) (I : List α → List En → Prop) (h0 : I [] ρ) (hs : ∀ pre x post ρ', xs = pre ++ x :: post → I pre ρ' → Wg Z g (enc x) ρ' fun ρ'' => Wc Z ts ρ'' { P with nx := fun ρ3 => I (pre ++ [x]) (wipeE ρ3 vs) })
    (hf : ∀ ρ', I xs ρ' → P.nx ρ') : ForD Z ρ g ts (xs.map enc) P := by
  refine ⟨fun pre ρ' => ∃ p, pre = p.map enc ∧ p.length ≤ xs.length ∧ p = xs.take p.length ∧ I p ρ', ⟨[], rfl, by simp, rfl, h0⟩, fun pre y post ρ' e ⟨p, e1, l, e2, hI⟩ => ?_, fun ρ' ⟨p, e1, l, e2, hI⟩ => ?_⟩
  · obtain ⟨p', x, q, rfl, e3, rfl, e4⟩ := map_split e
    have e5 : p = p' := by
      have l2 : p.length = p'.length := by have := congrArg List.length e1; have := congrArg List.length e3; simp at *; omega
      rw [e2, l2, List.take_left' rfl]
    subst e5
    intro r X σ H v E h k hk
    refine hs p x q ρ' rfl hI r X σ H v E h k fun σ' ρ'' H' E1 f w => hk σ' ρ'' H' E1 f ?_
    refine wc_post vs (w.imp (fun ρ3 z => ⟨p ++ [x], by rw [e3, List.map_append]; rfl, by simp, tk p x q, z⟩) (fun _ z => z) (fun _ z => z) fun _ z => z)
  · have l2 : p.length = xs.length := by have := congrArg List.length e1; simpa using this.symm
    rw [l2, List.take_length] at e2
    subst e2
    exact hf ρ' hI
theorem forD_fn {xs : List α} (vs : List Nat) (R : List α → List En) (h0 : R [] = ρ) (hs : ∀ pre x post, xs = pre ++ x :: post → Wg Z g (enc x) (R pre) fun ρ'' => Wc Z ts ρ'' { P with nx := fun ρ3 => wipeE ρ3 vs = R (pre ++ [x]) })
    (hf : P.nx (R xs)) : ForD Z ρ g ts (xs.map enc) P :=
  forD_inv vs (fun pre ρ' => ρ' = R pre) h0.symm (fun pre x post ρ' e hI => by subst hI; exact hs pre x post e) fun ρ' hI => by subst hI; exact hf
theorem forR_inv {lo : Int} {n : Nat} (vs : List Nat) (I : Nat → List En → Prop) (h0 : I 0 ρ) (hs : ∀ i ρ', i < n → I i ρ' → Wc Z ts (ρ'.set j (.v (.int (lo + (i : Int))))) { P with nx := fun ρ3 => I (i + 1) (wipeE ρ3 vs) })
    (hf : ∀ ρ', I n ρ' → P.nx ρ') : ForR Z ρ j ts lo n P := ⟨I, h0, fun i ρ' hi hI => wc_post vs (hs i ρ' hi hI), hf⟩
theorem forR_fn {lo : Int} {n : Nat} (vs : List Nat) (R : Nat → List En) (h0 : R 0 = ρ) (hs : ∀ i, i < n → Wc Z ts ((R i).set j (.v (.int (lo + (i : Int))))) { P with nx := fun ρ3 => wipeE ρ3 vs = R (i + 1) })
    (hf : P.nx (R n)) : ForR Z ρ j ts lo n P := forR_inv vs (fun i ρ' => ρ' = R i) h0.symm (fun i ρ' hi hI => by subst hI; exact hs i hi) fun ρ' hI => by subst hI; exact hf
/-! comprehensions -/
theorem lcD_e {xs : List α} (p : α → Bool) (f : α → D) (ht : ∀ x ∈ xs, ∀ Q' : Bool → Prop, Q' (p x) → Wt Z tt ((wipeE ρ vs).set j (.v (enc x))) Q') (h : ∀ x ∈ xs, p x = true → ∀ Q' : D → Prop, Q' (f x) → We Z te ((wipeE ρ vs).set j (.v (enc x))) Q') (q : Q ((xs.filter p).map f)) : LcD Z ρ vs j tt te (xs.map enc) Q := by
  refine ⟨fun pre acc => ∃ r, pre = r.map enc ∧ r.length ≤ xs.length ∧ r = xs.take r.length ∧ acc = (r.filter p).map f, ⟨[], rfl, by simp, rfl, rfl⟩, fun pre y post acc e ⟨r, e1, l, e2, ha⟩ _ => ?_, fun acc ⟨r, e1, l, e2, ha⟩ _ => ?_⟩
  · obtain ⟨p', x, qq, rfl, e3, rfl, e4⟩ := map_split e
    have e5 : r = p' := by
      have l2 : r.length = p'.length := by have := congrArg List.length e1; have := congrArg List.length e3; simp at *; omega
      rw [e2, l2, List.take_left' rfl]
    subst e5
    refine ht x (by simp) _ ⟨fun hp => h x (by simp) hp _ ⟨r ++ [x], by rw [e3, List.map_append]; rfl, by simp, tk r x qq, by rw [ha]; simp [hp]⟩, fun hp => ⟨r ++ [x], by rw [e3, List.map_append]; rfl, by simp, tk r x qq, by rw [ha]; simp [hp]⟩⟩
  · have l2 : r.length = xs.length := by have := congrArg List.length e1; simpa using this.symm
    rw [l2, List.take_length] at e2
    subst e2
    rw [ha]
    exact q
theorem lcD_em {xs : List α} (f : α → D) (h : ∀ x ∈ xs, ∀ Q' : D → Prop, Q' (f x) → We Z te ((wipeE ρ vs).set j (.v (enc x))) Q') (q : Q (xs.map f)) : LcD Z ρ vs j tYes te (xs.map enc) Q :=
  lcD_e (fun _ => true) f (fun x _ Q' q => wt_yes q) (fun x hx _ => h x hx) (by rw [List.filter_eq_self.mpr fun _ _ => rfl]; exact q)
theorem lcR_e {lo c : Int} {n : Nat} (p : Nat → Bool) (f : Nat → D) (ht : ∀ i : Nat, i < n → ∀ Q' : Bool → Prop, Q' (p i) → Wt Z tt ((wipeE ρ vs).set j (.v (.int (lo + (i : Int) * c)))) Q') (h : ∀ i : Nat, i < n → p i = true → ∀ Q' : D → Prop, Q' (f i) → We Z te ((wipeE ρ vs).set j (.v (.int (lo + (i : Int) * c)))) Q')
    (q : Q (((List.range n).filter p).map f)) : LcR Z ρ vs j tt te lo c n Q :=
  ⟨fun i acc => acc = ((List.range i).filter p).map f, rfl, fun i acc hi ha _ => ht i hi _ ⟨fun hp => h i hi hp _ (by show acc ++ [_] = _; rw [show acc = _ from ha, List.range_succ, List.filter_append, List.filter_cons, if_pos hp, List.map_append]; rfl), fun hp => by show acc = _; rw [show acc = _ from ha, List.range_succ, List.filter_append, List.filter_cons, if_neg (by rw [hp]; decide), List.map_append]; simp⟩, fun acc ha _ => by rw [show acc = _ from ha]; exact q⟩
theorem lcR_em {lo c : Int} {n : Nat} (f : Nat → D) (h : ∀ i : Nat, i < n → ∀ Q' : D → Prop, Q' (f i) → We Z te ((wipeE ρ vs).set j (.v (.int (lo + (i : Int) * c)))) Q')
    (q : Q ((List.range n).map f)) : LcR Z ρ vs j tYes te lo c n Q :=
  lcR_e (fun _ => true) f (fun x _ Q' q => wt_yes q) (fun x hx _ => h x hx) (by rw [List.filter_eq_self.mpr fun _ _ => rfl]; exact q)
/-! what is left -/
theorem isE_filter {β : Type} (xs : List β) (p : β → Bool) : (xs.filter p).isEmpty = xs.all fun x => !p x := by
  induction xs with
  | nil => rfl
  | cons x xs ih =>
    rw [List.filter_cons, List.all_cons]
    cases p x with
    | true => rfl
    | false => simpa using ih
theorem isE_map {β γ : Type} (xs : List β) (f : β → γ) : (xs.map f).isEmpty = xs.isEmpty := by cases xs <;> rfl
theorem od_eqE {Q : D → Prop} {β : Type} [DecidableEq α] {n : Nat} (k : Kd enc n) (h : n ≤ 63) (f : β → α) {xs : List β} (q : Q (.bl xs.isEmpty)) : OpD Z ρ (rEqD Z.K) (.lst (xs.map fun x => enc (f x))) (.lst []) Q := by
  have e : xs.map (fun x => enc (f x)) = (xs.map f).map enc := by rw [List.map_map]; rfl
  rw [e]
  exact od_eqN k h (by rw [isE_map]; exact q)
theorem od_neE {Q : D → Prop} {β : Type} [DecidableEq α] {n : Nat} (k : Kd enc n) (h : n ≤ 63) (f : β → α) {xs : List β} (q : Q (.bl (!xs.isEmpty))) : OpD Z ρ (rNeD Z.K) (.lst (xs.map fun x => enc (f x))) (.lst []) Q := by
  have e : xs.map (fun x => enc (f x)) = (xs.map f).map enc := by rw [List.map_map]; rfl
  rw [e]
  exact od_neN k h (by rw [isE_map]; exact q)
/-! slices -/
theorem sIx_nn {n d : Nat} {k : Int} (h : 0 ≤ k) : HT.sIx n d (some k) = min k.toNat n := by
  unfold HT.sIx
  simp only
  split <;> omega
theorem cut_from {β : Type} {f : β → D} {xs : List β} {k : Int} (h : 0 ≤ k) : cutD (xs.map f) (some k) none = (xs.drop k.toNat).map f := by
  unfold cutD
  rw [sIx_nn h, List.length_map, ← List.map_drop, ← List.map_take]
  congr 1
  show List.take (HT.sIx xs.length xs.length none - _) _ = _
  rw [show HT.sIx xs.length xs.length none = xs.length from rfl]
  by_cases hk : k.toNat ≤ xs.length
  · rw [Nat.min_eq_left hk, List.take_of_length_le (by rw [List.length_drop]; exact Nat.le_refl _)]
  · rw [Nat.min_eq_right (by omega), List.drop_of_length_le (Nat.le_refl _), List.drop_of_length_le (by omega)]
    simp
theorem cut_upto {β : Type} {f : β → D} {xs : List β} {k : Int} (h : 0 ≤ k) : cutD (xs.map f) none (some k) = (xs.take k.toNat).map f := by
  unfold cutD
  rw [sIx_nn h, List.length_map, show HT.sIx xs.length 0 none = 0 from rfl, List.drop_zero, Nat.sub_zero, ← List.map_take]
  congr 1
  by_cases hk : k.toNat ≤ xs.length
  · rw [Nat.min_eq_left hk]
  · rw [Nat.min_eq_right (by omega), List.take_of_length_le (Nat.le_refl _), List.take_of_length_le (by omega)]
theorem cut_mid {β : Type} {f : β → D} {xs : List β} {k m : Int} (h : 0 ≤ k) (hm : 0 ≤ m) : cutD (xs.map f) (some k) (some m) = ((xs.drop k.toNat).take (m.toNat - k.toNat)).map f := by
  unfold cutD
  rw [sIx_nn h, sIx_nn hm, List.length_map, ← List.map_drop, ← List.map_take]
  congr 1
  by_cases hk : k.toNat ≤ xs.length
  · rw [Nat.min_eq_left hk]
    by_cases hm2 : m.toNat ≤ xs.length
    · rw [Nat.min_eq_left hm2]
    · rw [Nat.min_eq_right (by omega), List.take_of_length_le (by rw [List.length_drop]; exact Nat.le_refl _), List.take_of_length_le (by rw [List.length_drop]; omega)]
  · rw [List.drop_of_length_le (i := min k.toNat xs.length) (by omega), List.drop_of_length_le (i := k.toNat) (by omega)]
    simp
theorem atI_ix {β : Type} {f : β → D} {xs : List β} {k : Nat} (h : k < xs.length) : atI (xs.map f) (k : Int) = some (f xs[k]) := by
  refine atI_nat ?_
  rw [List.getElem?_map, List.getElem?_eq_getElem h]
  rfl
theorem atI_ix' {β : Type} {f : β → D} {xs : List β} {k : Nat} {i : Int} (e : i = (k : Int)) (h : k < xs.length) : atI (xs.map f) i = some (f xs[k]) := by subst e; exact atI_ix h
end
end DL
/-! DL12: the class Party; the built-ins' names. -/
namespace DL
open PySem PySem.Spec PyProof.Rows L2
theorem nt_f : (!false) = true := rfl
theorem or_tt (b : Bool) : (true || b) = true := rfl
theorem or_ft : (false || true) = true := rfl
theorem or_ff : (false || false) = false := rfl
theorem nt_t : (!true) = false := rfl
structure Tx (K : PySem.W.Frag) (mg : Str → Option Value) (C : Addr) : Prop where
  cl : Cls K C
  nm : NoAttr K C "many"
  ns : NoAttr K C "seats"
  mgC : mg "Party" = some (.ref C)
  mS : ∃ u, mg "MOST_SEATS" = some u ∧ RelV (.int 8) u
  mG : ∃ u, mg "MOST_GUESTS" = some u ∧ RelV (.int 64) u
structure Blt (mg : Str → Option Value) : Prop where
  len : mg "len" = none
  range : mg "range" = none
  sorted : mg "sorted" = none
  tuple : mg "tuple" = none
  list : mg "list" = none
  min : mg "min" = none
  max : mg "max" = none
  sum : mg "sum" = none
  abs : mg "abs" = none
  int : mg "int" = none
  isinstance : mg "isinstance" = none
  set : mg "set" = none
  str : mg "str" = none
  bool : mg "bool" = none
structure Mth (P : Program) (w : World) (K : PySem.W.Frag) (mg : Str → Option Value) (base : Heap) (C : Addr) (m : Str) (k : Nat) (ps : List Str) (sp : Sp) : Prop where
  ex : ∃ f fd, Meth K C m f ∧ FnOk P w K mg base CX0 k f fd ps sp ∧ Binds K fd ps []
structure Mak (P : Program) (w : World) (K : PySem.W.Frag) (mg : Str → Option Value) (base : Heap) (C : Addr) (k : Nat) (ps : List Str) (sp : Sp) : Prop where
  ex : ∃ f fd, Mk K C f ∧ FnOk P w K mg base CX0 k f fd ps sp ∧ Binds K fd ps []
section
variable {Z : Cs} {ρ : List En} {Q : D → Prop} {te ta : TE} {mg : Str → Option Value}
theorem pty_many (g s : Int) : (ptyF g s).lookup ("many" : Str) = some (V.int g) := by
  unfold ptyF
  rw [List.lookup_cons_self]
theorem pty_seats (g s : Int) : (ptyF g s).lookup ("seats" : Str) = some (V.int s) := by
  unfold ptyF
  rw [List.lookup_cons, show (("seats" : Str) == "many") = false by decide +kernel]
  simp only
  rw [List.lookup_cons_self]
theorem pty_none (g s : Int) {m : Str} (h1 : (m == "many") = false) (h2 : (m == "seats") = false) : (ptyF g s).lookup m = none := by
  unfold ptyF
  rw [List.lookup_cons, h1]
  simp only
  rw [List.lookup_cons, h2]
  rfl
theorem we_neg (h : Wb Z te ρ fun d => ∃ n : Int, d = .int n ∧ Q (.int (-n))) : We Z (tUn (rU fun i => .int (-i)) te) ρ Q := fun r X σ H E k hk => h r X σ H E _ fun v d H1 E1 f1 b1 ⟨n, e, q⟩ => by
  subst e
  have e := b1.int
  subst e
  exact ⟨n, rfl, hk _ _ H1 E1 f1 (rep_int.mpr rfl) q⟩
theorem wc_retB {P : Po} {b : Bool} (q : P.rt (.bl b)) : Wc Z (tRet (tC (.bl b))) ρ P := wc_ret (we_bl q)
theorem wc_retn {P : Po} (q : P.rt .non) : Wc Z (tRet (tC .non)) ρ P := wc_ret (we_non q)
theorem we_many (T : Tx Z.K mg Z.C) (h : Wb Z ta ρ fun d => ∃ g s, d = .pty g s ∧ Q (.int g)) : We Z (tFld Z.K ta "many") ρ Q := we_fld T.cl T.nm (h.imp fun d ⟨g, s, e, q⟩ => ⟨g, s, g, e, pty_many g s, q⟩)
theorem we_seats (T : Tx Z.K mg Z.C) (h : Wb Z ta ρ fun d => ∃ g s, d = .pty g s ∧ Q (.int s)) : We Z (tFld Z.K ta "seats") ρ Q := we_fld T.cl T.ns (h.imp fun d ⟨g, s, e, q⟩ => ⟨g, s, s, e, pty_seats g s, q⟩)
theorem we_meth0 {m : Str} {spec : List D → (D → Prop) → Prop} {E' : XK} (h1 : (m == "many") = false) (h2 : (m == "seats") = false) (h : Wb Z ta ρ fun d => ∃ g s, d = .pty g s ∧ spec [.pty g s] Q) : We Z (tMeth Z.C m (SpV Z spec) [] E' ta tNil) ρ Q :=
  we_meth (h.imp fun d ⟨g, s, e, q⟩ => ⟨g, s, e, pty_none g s h1 h2, wa_nil q⟩)
abbrev sp_p_tables : List D → (D → Prop) → Prop := fun ds Po => ∃ g s : Int, ds = [.pty g s] ∧ 0 < s ∧ s < 1000000 ∧ Po (.int (g / s))
abbrev sp_p_guests : List D → (D → Prop) → Prop := fun ds Po => ∃ g s : Int, ds = [.pty g s] ∧ Po (.int g)
abbrev sp_p_size : List D → (D → Prop) → Prop := fun ds Po => ∃ g s : Int, ds = [.pty g s] ∧ Po (.int s)
end
end DL
/-! DL13: a.append(b.pop(e)); any data against []. -/
namespace DL
open PySem PySem.Spec PyProof.Rows L2
section
variable {Z : Cs} {ρ : List En} {P : Po} {te : TE} {ds es : List D} {i j : Nat}
theorem wc_appPop (hi : ρ[i]? = some (.l es)) (hj : ρ[j]? = some (.l ds)) (hij : i ≠ j) (h : We Z te ρ fun d => ∃ (k : Nat) (hk : k < ds.length), d = .int (k : Int) ∧ k < 2 ^ 62 ∧ es.length < sizeLine ∧ P.nx ((ρ.set j (.l (ds.eraseIdx k))).set i (.l (es ++ [ds[k]])))) :
    Wc Z (tDrop (tBM Z.K "list" rAppend (tVar i) (tCons (tBM Z.K "list" rPopAt (tVar j) (tCons te tNil)) tNil))) ρ P := fun r X σ H E F k1 _ _ _ => by
  obtain ⟨a, vs, h1, h2, h3⟩ := E.at_ i _ hi
  obtain ⟨c, us, q1, q2, q3⟩ := E.at_ j _ hj
  refine ⟨_, h1, tyV_l h2, _, q1, tyV_l q2, h r X σ H E _ fun v d H1 E1 f1 b1 ⟨k, hk, e, k62, l, q⟩ => ?_⟩
  subst e
  obtain ⟨a', ws, g1, g2, g3⟩ := E1.at_ i _ hi
  rw [h1] at g1
  cases g1
  obtain ⟨c', ys, p1, p2, p3⟩ := E1.at_ j _ hj
  rw [q1] at p1
  cases p1
  obtain ⟨y, hy, hr⟩ := p3.at (List.getElem?_eq_getElem hk)
  obtain ⟨E2, f2⟩ := E1.mut (e' := .l (ds.eraseIdx k)) (o := .lst (ys.eraseIdx k)) hj rfl q1 rfl p2 rfl ⟨c, _, rfl, upd_same, (p3.eraseIdx k).mv (by
    have oa : Ow σ ρ c := ⟨j, _, hj, rfl, q1⟩
    exact ⟨fun b w n q => ⟨by rw [upd_ne (fun z => n (.inl (by rw [z]; exact oa)))]; exact q, n⟩, fun b w i q => by
      rw [upd_ne (fun z => by subst z; rw [p2] at q; cases q; cases i)]
      exact q⟩)⟩
  have ne : a ≠ c := fun z => by
    subst z
    exact hij (E1.dis i j _ _ a hi hj rfl rfl h1 q1)
  have hi2 : (ρ.set j (.l (ds.eraseIdx k)))[i]? = some (.l es) := by rw [List.getElem?_set_ne (Ne.symm hij)]; exact hi
  have sx : seqIndex? (k : Int) ys.length = some k := by
    rw [p3.length]
    unfold seqIndex?
    have e : (if (k : Int) < 0 then (k : Int) + (ds.length : Int) else (k : Int)) = (k : Int) := if_neg (by omega)
    simp only [e]
    rw [if_pos (by simp [hk])]
    rfl
  refine ⟨c, ys, (k : Int), k, y, rfl, by rw [rep_int.mp b1], p2, by omega, by omega, sx, hy, ?_⟩
  obtain ⟨a2, ws2, r1, r2, r3⟩ := E2.at_ i _ hi2
  rw [h1] at r1
  cases r1
  exact ⟨a, ws2, y, rfl, rfl, r2, by rw [r3.length]; exact l, mut_go hi2 Fx.refl E2 h1 (r3.append (.one (hr.mv f2.mv))) (fun σ' ρ' H' E' f q => k1 σ' ρ' H' E' ((f1.fr.trans f2).trans f) q) q⟩
theorem ite_b {b : Bool} {p q : Prop} (h : b = true → p) (h2 : b = false → q) : if b = true then p else q := by
  cases b with
  | true => rw [if_pos rfl]; exact h rfl
  | false => rw [if_neg (by decide)]; exact h2 rfl
theorem perm_erase {α : Type} : ∀ {l : List α} {k : Nat} (h : k < l.length), (l[k] :: l.eraseIdx k).Perm l
  | x :: l, 0, _ => .refl _
  | x :: l, k + 1, h => by
    have hk : k < l.length := by simpa using h
    have ih := perm_erase (l := l) (k := k) hk
    show (l[k] :: x :: l.eraseIdx k).Perm (x :: l)
    exact (List.Perm.swap x l[k] _).trans (ih.cons x)
/-- items that may stay or go -/
theorem lcD_sub {α : Type} {enc : α → D} {tt : TT} {vs : List Nat} {Q : List D → Prop} {xs : List α} (f : α → D) (ht : ∀ x ∈ xs, ∀ Q' : Bool → Prop, Q' true → Q' false → Wt Z tt ((wipeE ρ vs).set j (.v (enc x))) Q') (h : ∀ x ∈ xs, ∀ Q' : D → Prop, Q' (f x) → We Z te ((wipeE ρ vs).set j (.v (enc x))) Q')
    (q : ∀ l : List α, l.Sublist xs → Q (l.map f)) : LcD Z ρ vs j tt te (xs.map enc) Q := by
  refine ⟨fun pre acc => ∃ r l, pre = r.map enc ∧ r.length ≤ xs.length ∧ r = xs.take r.length ∧ acc = l.map f ∧ l.Sublist r, ⟨[], [], rfl, by simp, rfl, rfl, .refl _⟩, fun pre y post acc e ⟨r, l, e1, ll, e2, ha, hl⟩ _ => ?_, fun acc ⟨r, l, e1, ll, e2, ha, hl⟩ _ => ?_⟩
  · obtain ⟨p', x, qq, rfl, e3, rfl, e4⟩ := map_split e
    have e5 : r = p' := by
      have l2 : r.length = p'.length := by have := congrArg List.length e1; have := congrArg List.length e3; simp at *; omega
      rw [e2, l2, List.take_left' rfl]
    subst e5
    refine ht x (by simp) _ ⟨fun _ => h x (by simp) _ ⟨r ++ [x], l ++ [x], by rw [e3, List.map_append]; rfl, by simp, tk r x qq, by rw [ha, List.map_append]; rfl, hl.append (.refl _)⟩, fun z => nomatch z⟩ ⟨(fun z => nomatch z), fun _ => ⟨r ++ [x], l, by rw [e3, List.map_append]; rfl, by simp, tk r x qq, ha, hl.trans (List.sublist_append_left _ _)⟩⟩
  · have l2 : r.length = xs.length := by have := congrArg List.length e1; simpa using this.symm
    rw [l2, List.take_length] at e2
    subst e2
    rw [ha]
    exact q l hl
theorem wc_cut {ts tu : TS} (M : List En → Prop) (h1 : Wc Z ts ρ { P with nx := M }) (h2 : ∀ ρ', M ρ' → Wc Z tu ρ' P) : Wc Z (tSeq ts tu) ρ P := wc_seq (h1.imp h2 (fun _ z => z) (fun _ z => z) fun _ z => z)
theorem perm_of_map {α : Type} {f : α → D} : ∀ {xs : List α} {es : List D}, es.Perm (xs.map f) → ∃ ys : List α, es = ys.map f ∧ ys.Perm xs
  | [], es, h => ⟨[], List.perm_nil.mp h, .refl _⟩
  | x :: xs, es, h => by
    have hm : f x ∈ es := h.mem_iff.mpr (by simp)
    obtain ⟨a, b, rfl⟩ := List.append_of_mem hm
    have h2 : (f x :: (a ++ b)).Perm (f x :: xs.map f) := (List.perm_middle.symm).trans h
    obtain ⟨ys, e, hp⟩ := perm_of_map (List.perm_cons (f x) |>.mp h2)
    obtain ⟨l1, l2, rfl, e1, e2⟩ := List.map_eq_append_iff.mp e.symm
    refine ⟨l1 ++ x :: l2, by rw [List.map_append, List.map_cons, e1, e2], ?_⟩
    exact List.perm_middle.trans (hp.cons x)
/-! any data -/
def Shp (ds : List D) : Prop := ∀ d ∈ ds, PyData.canLay0 (toPy d) = true ∧ (toPy d).depth ≤ 20
theorem Shp.canAll : ∀ {ds : List D}, Shp ds → PyData.canLayAll0 (ds.map toPy) = true
  | [], _ => by simp [PyData.canLayAll0]
  | d :: ds, h => by
    simp only [List.map_cons, PyData.canLayAll0]
    rw [(h d (by simp)).1, Shp.canAll fun x hx => h x (List.mem_cons_of_mem _ hx)]
    rfl
theorem Shp.depAll : ∀ {ds : List D}, Shp ds → PyData.depthAll (ds.map toPy) ≤ 20
  | [], _ => by simp [PyData.depthAll]
  | d :: ds, h => by
    simp only [List.map_cons, PyData.depthAll]
    exact Nat.max_le.mpr ⟨(h d (by simp)).2, Shp.depAll fun x hx => h x (List.mem_cons_of_mem _ hx)⟩
theorem Shp.sh {ds : List D} (h : Shp ds) : SeqAt.shaped (toPy (.lst ds)) = true := by
  rw [toPy_lst]
  unfold SeqAt.shaped
  rw [show PyData.canLay0 (.list (ds.map toPy)) = true by simp only [PyData.canLay0]; exact h.canAll, Bool.true_and, decide_eq_true_eq]
  have := h.depAll
  simp only [PyData.depth]
  omega
theorem beq_nil (ds : List D) : beqD (.lst ds) (.lst []) = ds.isEmpty := by
  unfold beqD
  rw [toPy_lst, toPy_lst]
  simp only [PyData.eqv]
  cases ds <;> simp [PyData.eqvAll]
theorem od_neS0 {Q : D → Prop} (h : Shp ds) (q : Q (.bl (!ds.isEmpty))) : OpD Z ρ (rNeD Z.K) (.lst ds) (.lst []) Q := od_neD h.sh (Shp.sh (ds := []) fun d hd => nomatch hd) (by rw [beq_nil]; exact q)
theorem od_eqS0 {Q : D → Prop} (h : Shp ds) (q : Q (.bl ds.isEmpty)) : OpD Z ρ (rEqD Z.K) (.lst ds) (.lst []) Q := od_eqD h.sh (Shp.sh (ds := []) fun d hd => nomatch hd) (by rw [beq_nil]; exact q)
theorem shp_map {α : Type} [DecidableEq α] {enc : α → D} {n : Nat} (k : Kd enc n) (h : n ≤ 20) (xs : List α) : Shp (xs.map enc) := fun d hd => by
  obtain ⟨x, _, rfl⟩ := List.mem_map.mp hd
  exact ⟨k.can x, Nat.le_trans (k.dep x) h⟩
theorem rgC_pos {c : Int} {q : Nat} (hc : 1 ≤ c) (h1 : c < 1000000) (h2 : c * (q : Int) < 1000000) : RgC 0 (c * (q : Int)) c q := by
  have h0 : 0 ≤ c * (q : Int) := Int.mul_nonneg (by omega) (by omega)
  have e : Builtin.Range.rangeSize 0 (c * (q : Int)) c = (q : Int) := by
    rw [rangeSize_pos hc h0, show c * (q : Int) + c - 1 = (c - 1) + c * (q : Int) by omega, Int.add_mul_ediv_left _ _ (by omega), Int.ediv_eq_zero_of_lt (by omega) (by omega)]
    omega
  refine ⟨by omega, by omega, ?_, e⟩
  have hq : (q : Int) ≤ c * (q : Int) := by
    have := Int.mul_le_mul_of_nonneg_right hc (show (0 : Int) ≤ (q : Int) by omega)
    omega
  unfold Builtin.Range.small
  rw [e]
  simp only [Builtin.Range.rangeFitsLong, Bool.and_eq_true, Bool.or_eq_true, decide_eq_true_eq, beq_iff_eq]
  rw [if_pos (by omega)]
  simp only [Bool.and_eq_true, decide_eq_true_eq]
  omega
end
end DL
/-! DL14: isinstance of data. -/
namespace L2
theorem cr_isiK {X : Cx} (K : PySem.W.Frag) (h : X.K = K := by rfl) : CallR X (.builtin "isinstance") (rIsi K) := by subst h; exact call_isi
theorem cr_isiTK {X : Cx} (K : PySem.W.Frag) (h : X.K = K := by rfl) : CallR X (.builtin "isinstance") (rIsiT K) := by subst h; exact call_isiT
theorem pe_gcD {X : Cx} {x : PySem.Str} {v : V} {pos : PySem.Pos} (hg : Gl X x) (h : ∃ u, X.mg x = some u ∧ RelV v u) (hd : (x == ("__debug__" : PySem.Str)) = false := by decide) : PE X (.Name x pos) (tC v) := by
  obtain ⟨u, e, r⟩ := h
  exact pe_glob hg e r hd
end L2
namespace DL
open PySem PySem.Spec PyProof.Rows L2
def tyD : D → String
  | .non => "NoneType"
  | .bl _ => "bool"
  | .int _ => "int"
  | .str _ => "str"
  | .tup _ => "tuple"
  | .lst _ => "list"
  | _ => ""
section
variable {Z : Cs} {ρ : List En} {te : TE} {Q : D → Prop} {d : D}
theorem Rb.ty {r : Option Addr} {X : Addr → Prop} {H : Hp} {σ : L2.St} {v : V} {t : String} (E : Sv Z r X H σ ρ) (h : Rb Z r X H σ ρ d v) (e : tyD d = t) (ne : t ≠ "") : TyX Z.K H v (.type t) := by
  subst e
  cases d with
  | non => rw [h.non]; exact .base .non
  | bl b => rw [h.bl]; exact .base (.bl b)
  | int b => rw [h.int]; exact .base (.int b)
  | str b => rw [h.str]; exact .base (.str b)
  | tup ds =>
    obtain ⟨a, vs, rfl, h1, _⟩ := h.tup
    exact .base (.tup h1)
  | lst ds =>
    obtain ⟨a, vs, rfl, h1, _⟩ := h.lst E
    exact .base (.lst h1)
  | _ => exact absurd rfl ne
theorem we_isi {T : String} (h : Wb Z te ρ fun d => ∃ t b, tyD d = t ∧ t ≠ "" ∧ kitB t T = some b ∧ Q (.bl b)) : We Z (tCB (rIsi Z.K) (tCons te (tCons (tC (.ty T)) tNil))) ρ Q := fun r X σ H E k hk =>
  h r X σ H E _ fun v d H1 E1 f1 b1 ⟨t, b, e, ne, hb, q⟩ => ⟨v, .ty T, .type t, .type T, b, rfl, .ty T, b1.ty E1 e ne, kit_ty hb, hk _ _ H1 E1 f1 (rep_bl.mpr rfl) q⟩
theorem we_isiT {T U : String} (h : Wb Z te ρ fun d => ∃ t b, tyD d = t ∧ t ≠ "" ∧ (∀ K, PySem.W.kitAny K (.type t) [.type T, .type U] = some b) ∧ Q (.bl b)) :
    We Z (tCB (rIsiT Z.K) (tCons te (tCons (tTup (tCons (tC (.ty T)) (tCons (tC (.ty U)) tNil))) tNil))) ρ Q := fun r X σ H E k hk =>
  h r X σ H E _ fun v d H1 E1 f1 b1 ⟨t, b, e, ne, hb, q⟩ => ⟨(by show 2 ≤ sizeLine; decide), fun p hp => by
    have s : Same H1 (upd H1 p (.tup [.ty T, .ty U])) := same_upd hp
    have E2 := E1.same s
    have b2 := b1.keep (Fx.same (r := r) s)
    exact ⟨v, p, [.ty T, .ty U], .type t, [.type T, .type U], b, rfl, upd_same, .cons (.ty T) (.cons (.ty U) .nil), b2.ty E2 e ne, hb _, hk _ _ _ E2 (f1.trans (Fx.same s)) (rep_bl.mpr rfl) q⟩⟩
theorem kit2 {t T U : String} {a b : Bool} (h1 : kitB t T = some a) (h2 : kitB t U = some b) (K : PySem.W.Frag) : PySem.W.kitAny K (.type t) [.type T, .type U] = some (a || b) := by
  refine kitAny_cons (b := a) (kit_ty h1) (fun e => ?_) (fun e => ?_)
  · subst e
    refine kitAny_cons (b := b) (kit_ty h2) (fun e => ?_) (fun e => ?_)
    · subst e; rfl
    · subst e; rfl
  · subst e; rfl
def okD : D → Bool
  | .pty .. => false
  | .raw _ => false
  | .exn _ _ _ _ => false
  | .clo _ _ _ _ => false
  | .dt _ => false
  | .dk _ => false
  | _ => true
/-- in the context: from here on the calls borrow -/
structure Borrow : Prop where
  on : True
structure OkD (d : D) : Prop where
  h : okD d = true
def isTupD : D → Bool
  | .tup _ => true
  | _ => false
def isLstD : D → Bool
  | .lst _ => true
  | _ => false
def isBlD : D → Bool
  | .bl _ => true
  | _ => false
def isStrD : D → Bool
  | .str _ => true
  | _ => false
def isIntD : D → Bool
  | .int _ => true
  | .bl _ => true
  | _ => false
theorem ok_ne {d : D} (h : OkD d) : tyD d ≠ "" := by
  have := h.h
  cases d <;> first | (simp only [tyD]; decide) | (exfalso; simp [okD] at this)
theorem kit_tup {d : D} (h : OkD d) : kitB (tyD d) "tuple" = some (isTupD d) := by
  have := h.h
  cases d <;> first | (simp only [tyD, isTupD, isLstD, isBlD, isStrD, isIntD]; decide +kernel) | (exfalso; simp [okD] at this)
theorem kit_lst {d : D} (h : OkD d) : kitB (tyD d) "list" = some (isLstD d) := by
  have := h.h
  cases d <;> first | (simp only [tyD, isTupD, isLstD, isBlD, isStrD, isIntD]; decide +kernel) | (exfalso; simp [okD] at this)
theorem kit_bl {d : D} (h : OkD d) : kitB (tyD d) "bool" = some (isBlD d) := by
  have := h.h
  cases d <;> first | (simp only [tyD, isTupD, isLstD, isBlD, isStrD, isIntD]; decide +kernel) | (exfalso; simp [okD] at this)
theorem kit_str {d : D} (h : OkD d) : kitB (tyD d) "str" = some (isStrD d) := by
  have := h.h
  cases d <;> first | (simp only [tyD, isTupD, isLstD, isBlD, isStrD, isIntD]; decide +kernel) | (exfalso; simp [okD] at this)
theorem kit_int {d : D} (h : OkD d) : kitB (tyD d) "int" = some (isIntD d) := by
  have := h.h
  cases d <;> first | (simp only [tyD, isTupD, isLstD, isBlD, isStrD, isIntD]; decide +kernel) | (exfalso; simp [okD] at this)
theorem we_isiTup (h : Wb Z te ρ fun d => OkD d ∧ Q (.bl (isTupD d))) : We Z (tCB (rIsi Z.K) (tCons te (tCons (tC (.ty "tuple")) tNil))) ρ Q := we_isi (h.imp fun d ⟨o, q⟩ => ⟨_, _, rfl, ok_ne o, kit_tup o, q⟩)
theorem we_isiLst (h : Wb Z te ρ fun d => OkD d ∧ Q (.bl (isLstD d))) : We Z (tCB (rIsi Z.K) (tCons te (tCons (tC (.ty "list")) tNil))) ρ Q := we_isi (h.imp fun d ⟨o, q⟩ => ⟨_, _, rfl, ok_ne o, kit_lst o, q⟩)
theorem we_isiBl (h : Wb Z te ρ fun d => OkD d ∧ Q (.bl (isBlD d))) : We Z (tCB (rIsi Z.K) (tCons te (tCons (tC (.ty "bool")) tNil))) ρ Q := we_isi (h.imp fun d ⟨o, q⟩ => ⟨_, _, rfl, ok_ne o, kit_bl o, q⟩)
theorem we_isiStr (h : Wb Z te ρ fun d => OkD d ∧ Q (.bl (isStrD d))) : We Z (tCB (rIsi Z.K) (tCons te (tCons (tC (.ty "str")) tNil))) ρ Q := we_isi (h.imp fun d ⟨o, q⟩ => ⟨_, _, rfl, ok_ne o, kit_str o, q⟩)
theorem we_isiInt (h : Wb Z te ρ fun d => OkD d ∧ Q (.bl (isIntD d))) : We Z (tCB (rIsi Z.K) (tCons te (tCons (tC (.ty "int")) tNil))) ρ Q := we_isi (h.imp fun d ⟨o, q⟩ => ⟨_, _, rfl, ok_ne o, kit_int o, q⟩)
theorem we_isiTL (h : Wb Z te ρ fun d => OkD d ∧ Q (.bl (isTupD d || isLstD d))) : We Z (tCB (rIsiT Z.K) (tCons te (tCons (tTup (tCons (tC (.ty "tuple")) (tCons (tC (.ty "list")) tNil))) tNil))) ρ Q := we_isiT (h.imp fun d ⟨o, q⟩ => ⟨_, _, rfl, ok_ne o, kit2 (kit_tup o) (kit_lst o), q⟩)
/-- plain data, not deeper than n -/
def plN : Nat → D → Prop
  | 0, _ => False
  | n + 1, d => match d with
    | .non => True
    | .bl _ => True
    | .int _ => True
    | .str _ => True
    | .tup ds => ds.length ≤ 16777216 ∧ ∀ x ∈ ds, plN n x
    | .lst ds => ds.length ≤ 16777216 ∧ ∀ x ∈ ds, plN n x
    | _ => False
theorem pl_ints (n : Nat) {xs : List Int} (h : xs.length ≤ 16777216) : plN (n + 2) (tI xs) := ⟨by rw [List.length_map]; exact h, fun x hx => by obtain ⟨y, _, rfl⟩ := List.mem_map.mp hx; trivial⟩
theorem pl_tup {α : Type} {f : α → D} {n : Nat} {xs : List α} (h : xs.length ≤ 16777216) (q : ∀ x ∈ xs, plN n (f x)) : plN (n + 1) (.tup (xs.map f)) := ⟨by rw [List.length_map]; exact h, fun x hx => by obtain ⟨y, hy, rfl⟩ := List.mem_map.mp hx; exact q y hy⟩
theorem pl_lst {α : Type} {f : α → D} {n : Nat} {xs : List α} (h : xs.length ≤ 16777216) (q : ∀ x ∈ xs, plN n (f x)) : plN (n + 1) (.lst (xs.map f)) := ⟨by rw [List.length_map]; exact h, fun x hx => by obtain ⟨y, hy, rfl⟩ := List.mem_map.mp hx; exact q y hy⟩
abbrev sp_al (n : Nat) : List D → (D → Prop) → Prop := fun ds Po => ∃ d, ds = [d, d] ∧ plN n d ∧ Po (.bl true)
end
end DL
/-! DL15: a list of dicts that are filled in place. -/
namespace DL
open PySem PySem.Spec PyProof.Rows L2
structure Met (H0 H : Hp) (L : Addr) (das : List Addr) (kss : List (List (Int × V))) : Prop where
  hl : H L = some (.lst (das.map .ref))
  nl : H0 L = none
  nd : ∀ d ∈ das, H0 d = none
  nL : ∀ d ∈ das, d ≠ L
  dj : das.Nodup
  len : das.length = kss.length
  at_ : ∀ (i : Nat) (a : Addr), das[i]? = some a → ∃ ks, kss[i]? = some ks ∧ H a = some (.dK (keyK ks))
def Xm (A : Addr → Prop) (L : Addr) (das : List Addr) : Addr → Prop := fun a => A a ∨ a = L ∨ a ∈ das
def noO (ρ : List En) : Bool := ρ.all fun e => !own e
theorem noO_ow {ρ : List En} (h : noO ρ = true) {σ : L2.St} {a : Addr} : ¬ Ow σ ρ a := fun ⟨i, e, h1, h2, _⟩ => by
  have := List.all_eq_true.mp h e (List.mem_of_getElem? h1)
  rw [h2] at this
  cases this
/-- all but the list and its dicts stands -/
def Km (L : Addr) (das : List Addr) (H H' : Hp) : Prop := ∀ a o, a ≠ L → a ∉ das → H a = some o → H' a = some o
def Wm (Z : Cs) (H0 : Hp) (A : Addr → Prop) (i : Nat) (L : Addr) (das : List Addr) (ts : TS) (ρ : List En) (kss : List (List (Int × V))) (nx : List En → List (List (Int × V)) → Prop) : Prop :=
  ∀ σ H, Sv Z none (Xm A L das) H σ ρ → noO ρ = true → σ[i]? = some (some (.ref L)) → Met H0 H L das kss → ∀ F : Ends,
    (∀ σ' ρ' H' kss', Sv Z none (Xm A L das) H' σ' ρ' → noO ρ' = true → σ'[i]? = some (some (.ref L)) → Met H0 H' L das kss' → Km L das H H' → nx ρ' kss' → F.nx σ' H') → ts F σ H
section
variable {Z : Cs} {H0 : Hp} {A : Addr → Prop} {i j : Nat} {L : Addr} {das : List Addr} {ts tu : TS} {ρ : List En} {kss : List (List (Int × V))} {nx : List En → List (List (Int × V)) → Prop} {te ta tl : TE} {g : TG}
theorem Km.refl {H : Hp} : Km L das H H := fun _ _ _ _ h => h
theorem Km.trans {H H1 H2 : Hp} (f : Km L das H H1) (g : Km L das H1 H2) : Km L das H H2 := fun a o n1 n2 h => g a o n1 n2 (f a o n1 n2 h)
theorem Fx.km {H H' : Hp} (f : Fx none H H') : Km L das H H' := fun a o _ _ h => f.fx a o h fun z => nomatch z
theorem Met.keep {H H' : Hp} (m : Met H0 H L das kss) (f : ∀ a o, H a = some o → H' a = some o) : Met H0 H' L das kss := ⟨f _ _ m.hl, m.nl, m.nd, m.nL, m.dj, m.len, fun i a h => by
  obtain ⟨ks, h1, h2⟩ := m.at_ i a h
  exact ⟨ks, h1, f _ _ h2⟩⟩
theorem wm_seq (h : Wm Z H0 A i L das ts ρ kss fun ρ' ks => Wm Z H0 A i L das tu ρ' ks nx) : Wm Z H0 A i L das (tSeq ts tu) ρ kss nx := fun σ H E no hi m F k =>
  h σ H E no hi m _ fun σ' ρ' H' ks E' no' hi' m' f q => q σ' H' E' no' hi' m' _ fun σ2 ρ2 H2 ks2 E2 no2 hi2 m2 f2 q2 => k σ2 ρ2 H2 ks2 E2 no2 hi2 m2 (f.trans f2) q2
/-- found[a][b] = True -/
theorem wm_put (h : Wb Z ta ρ fun d => ∃ (n : Nat) (hn : n < kss.length), d = .int (n : Int) ∧ Wb Z te ρ fun y => ∃ k : Int, y = .int k ∧ (kss[n]).length < sizeLine ∧ nx ρ (kss.set n (putK kss[n] k (.bl true)))) :
    Wm Z H0 A i L das (sDPut (tOp (rIxL Z.K) (tVar i) ta) te (tC (.bl true))) ρ kss nx := fun σ H E no hi m F k => by
  refine ⟨_, hi, h none _ σ H E _ fun w d H1 E1 f1 b1 ⟨n, hn, e, g⟩ => ?_⟩
  subst e
  have m1 := m.keep fun a o q => f1.fx a o q fun z => nomatch z
  have hn' : n < das.length := by rw [m1.len]; exact hn
  have ea : atI (das.map V.ref) (n : Int) = some (.ref das[n]) := atI_nat (by rw [List.getElem?_map, List.getElem?_eq_getElem hn']; rfl)
  refine ⟨L, _, _, _, rfl, b1.int, .of m1.hl, ea, g none _ σ H1 E1 _ fun u y H2 E2 f2 b2 ⟨k2, e, l, q⟩ => ?_⟩
  subst e
  have m2 := m1.keep fun a o q => f2.fx a o q fun z => nomatch z
  obtain ⟨ks, h1, h2⟩ := m2.at_ n das[n] (List.getElem?_eq_getElem hn')
  rw [List.getElem?_eq_getElem hn] at h1
  cases h1
  have hd : das[n] ∈ das := List.getElem_mem hn'
  have hX : Xm A L das das[n] := .inr (.inr hd)
  refine ⟨das[n], _, rfl, by rw [b2.int]; exact DPut.k (k := Sum.inl k2) h2 (by unfold keyK; rw [List.length_map]; exact l), ?_⟩
  have E3 := E2.turn (o := .dK (putK (keyK kss[n]) (Sum.inl k2) (.bl true))) hX h2 rfl
  refine k σ ρ _ _ E3 no hi ?_ ((f1.km.trans f2.km).trans fun a o n1 n2 e => by rw [upd_ne (fun z => n2 (by rw [z]; exact hd))]; exact e) q
  refine ⟨by rw [upd_ne (Ne.symm (m2.nL _ hd))]; exact m2.hl, m2.nl, m2.nd, m2.nL, m2.dj, by rw [List.length_set]; exact m2.len, fun i2 a ha => ?_⟩
  by_cases e : i2 = n
  · subst e
    rw [List.getElem?_eq_getElem hn'] at ha
    cases ha
    refine ⟨_, by rw [List.getElem?_set_self hn], ?_⟩
    rw [upd_same]
    have : putK (keyK kss[i2]) (Sum.inl k2) (.bl true) = keyK (putK kss[i2] k2 (.bl true)) := by
      unfold keyK putK
      rw [List.any_map]
      rw [show ((fun kv : Key × V => decide (kv.1 = Sum.inl k2)) ∘ fun p : Int × V => ((Sum.inl p.1 : Key), p.2)) = fun kv => decide (kv.1 = k2) from funext fun p => by simp]
      split
      · rw [List.map_map, List.map_map]
        refine List.map_congr_left fun p _ => ?_
        by_cases z : p.1 = k2
        · simp [z]
        · simp [z]
      · rw [List.map_append]; rfl
    rw [this]
  · obtain ⟨ks, q1, q2⟩ := m2.at_ i2 a ha
    refine ⟨ks, by rw [List.getElem?_set_ne (Ne.symm e)]; exact q1, ?_⟩
    rw [upd_ne (fun z => ?_)]
    · exact q2
    · obtain ⟨hi3, e3⟩ := List.getElem?_eq_some_iff.mp ha
      rw [z] at e3
      have := (List.getElem_inj (h₀ := hi3) (h₁ := hn') m2.dj).mp e3
      exact e this
theorem Met.mv {σ σ' : L2.St} {ρ' : List En} {H H' : Hp} (no : noO ρ = true) (no' : noO ρ' = true) (f : Km L das H H') (hn : ∀ a, a = L ∨ a ∈ das → ∃ o, H a = some o ∧ immO o = false) : Mv H (Av none (Xm A L das) σ ρ) H' (Av none (Xm A L das) σ' ρ') := ⟨fun a o n e => ⟨f a o (fun z => n (.inr (.inl (.inr (.inl z))))) (fun z => n (.inr (.inl (.inr (.inr z))))) e, fun z => by
  rcases z with z | z | z
  · exact noO_ow no' z
  · exact n (.inr (.inl z))
  · cases z⟩, fun a o im e => by
  by_cases z : a = L ∨ a ∈ das
  · obtain ⟨o2, h1, h2⟩ := hn a z
    rw [e] at h1
    cases h1
    rw [im] at h2
    cases h2
  · exact f a o (fun y => z (.inl y)) (fun y => z (.inr y)) e⟩
theorem Met.imm {H : Hp} (m : Met H0 H L das kss) (a : Addr) (z : a = L ∨ a ∈ das) : ∃ o, H a = some o ∧ immO o = false := by
  rcases z with rfl | z
  · exact ⟨_, m.hl, rfl⟩
  · obtain ⟨n, hn, rfl⟩ := List.mem_iff_getElem.mp z
    obtain ⟨ks, _, h⟩ := m.at_ n _ (List.getElem?_eq_getElem hn)
    exact ⟨_, h, rfl⟩
/-- a target that leaves slot i alone -/
def Wgm (Z : Cs) (i : Nat) (g : TG) (d : D) (ρ : List En) (K : List En → Prop) : Prop := ∀ r X σ H v, Sv Z r X H σ ρ → Rep Z H (Av r X σ ρ) d v → ∀ k : L2.St → Hp → Prop,
  (∀ σ' ρ' H', Sv Z r X H' σ' ρ' → Fr r σ ρ H σ' ρ' H' → σ'[i]? = σ[i]? → K ρ' → k σ' H') → g v σ H k
theorem wgm_name {K : List En → Prop} {d : D} (h : j ≠ i) (q : K (ρ.set j (.v d))) : Wgm Z i (gName j) d ρ K := fun r X σ H v E h' k hk => hk _ _ H (E.setv h') (fr_set rfl) (List.getElem?_set_ne h) q
theorem wgm_tup2 {K : List En → Prop} {a b : Nat} {d1 d2 : D} (ha : a ≠ i) (hb : b ≠ i) (q : K ((ρ.set a (.v d1)).set b (.v d2))) : Wgm Z i (gTup Z.K 2 (gCons (gName a) (gCons (gName b) gNil))) (.tup [d1, d2]) ρ K := fun r X σ H v E h k hk => by
  obtain ⟨p, vs, rfl, t, q1⟩ := rep_tup.mp h
  obtain ⟨v1, r1, rfl, h1, q2⟩ := repL_cons.mp q1
  obtain ⟨v2, r2, rfl, h2, q3⟩ := repL_cons.mp q2
  have e := repL_nil.mp q3
  subst e
  have f1 : Fr r σ ρ H (σ.set a (some v1)) (ρ.set a (.v d1)) H := fr_set rfl
  have E1 := E.setv (i := a) h1
  exact ⟨p, [v1, v2], rfl, .of t, rfl, v1, [v2], rfl, v2, [], rfl, rfl, hk _ _ H (E1.setv (i := b) (h2.mv f1.mv)) (f1.trans (fr_set rfl)) (by rw [List.getElem?_set_ne hb, List.getElem?_set_ne ha]) q⟩
/-- for x in a list -/
theorem wm_forL {α : Type} {enc : α → D} (vs : List Nat) (I : List α → List En → List (List (Int × V)) → Prop) (h : We Z tl ρ fun d => ∃ xs : List α, d = .lst (xs.map enc) ∧ I [] ρ kss ∧
      (∀ pre x post ρ' ks, xs = pre ++ x :: post → noO ρ' = true → I pre ρ' ks → Wgm Z i g (enc x) ρ' fun ρ'' => noO ρ'' = true ∧ Wm Z H0 A i L das ts ρ'' ks fun ρ3 ks3 => I (pre ++ [x]) (wipeE ρ3 vs) ks3) ∧
      ∀ ρ' ks, I xs ρ' ks → nx ρ' ks) : Wm Z H0 A i L das (tFor (iList Z.K tl) g ts) ρ kss nx := fun σ H E no hi m F k => by
  refine h none _ σ H E _ fun v d H1 E1 f1 b1 ⟨xs, e, I0, It, If⟩ => ?_
  subst e
  obtain ⟨a, ws, rfl, n3, h3, h4⟩ := rep_lst.mp b1
  have m1 := m.keep fun a o q => f1.fx a o q fun z => nomatch z
  have naL : a ≠ L := fun z => n3 (.inr (.inl (.inr (.inl z))))
  have nad : a ∉ das := fun z => n3 (.inr (.inl (.inr (.inr z))))
  have wno : ∀ (vs : List Nat) (ρ : List En), noO ρ = true → noO (wipeE ρ vs) = true := fun vs ρ h => by
    refine List.all_eq_true.mpr fun e he => ?_
    obtain ⟨n, hn⟩ := List.mem_iff_getElem?.mp he
    rcases wipeE_get hn with rfl | q
    · rfl
    · exact List.all_eq_true.mp h e (List.mem_of_getElem? q)
  refine ⟨a, rfl, ⟨ws, .of h3⟩, for_list (K := Z.K) (a := a) (xs := ws) (fun n σ' H' => ∃ ρ' ks, Sv Z none (Xm A L das) H' σ' ρ' ∧ noO ρ' = true ∧ σ'[i]? = some (some (.ref L)) ∧ Met H0 H' L das ks ∧ Km L das H1 H' ∧ I (xs.take n) ρ' ks)
    ⟨ρ, kss, E1, no, hi, m1, .refl, I0⟩ (fun n σ' H' hn ⟨ρ', ks, E2, no2, hi2, m2, f2, _⟩ => .of (f2 a _ naL nad h3)) (fun n x σ' H' hn ⟨ρ', ks, E2, no2, hi2, m2, f2, hI⟩ => ?_) fun σ' H' ⟨ρ', ks, E2, no2, hi2, m2, f2, hI⟩ => ?_⟩
  · obtain ⟨d, hd, hr⟩ := h4.get hn
    rw [List.getElem?_map] at hd
    obtain ⟨y, hy, rfl⟩ := Option.map_eq_some_iff.mp hd
    obtain ⟨p1, p2⟩ := take_pre hy
    refine It (xs.take n) y _ ρ' ks p1 no2 hI none _ σ' H' x E2 (hr.mv (Met.mv no no2 f2 m1.imm)) _ fun σ2 ρ2 H2 E3 f3 hs ⟨no3, hw⟩ => ?_
    have fk : ∀ a o, H' a = some o → H2 a = some o := fun a o q => (f3.fr a o q (noO_ow no2) (fun z => nomatch z)).1
    refine hw σ2 H2 E3 no3 (hs.trans hi2) (m2.keep fk) _ fun σ3 ρ3 H3 ks3 E4 no4 hi4 m4 f4 q => ?_
    refine ⟨_, ks3, (E4.wipeE' vs).1, wno vs _ no4, hi4, m4, (f2.trans fun a o _ _ q => fk a o q).trans f4, ?_⟩
    rw [p2]
    exact q
  · rw [h4.length, List.length_map, List.take_length] at hI
    exact k σ' ρ' H' ks E2 no2 hi2 m2 (f1.km.trans f2) (If ρ' ks hI)
/-- the def: the list of dicts is made, filled, told -/
theorem run_met {spec : List D → (List D → Prop) → Prop} {N : List Str} {vs : List V} {H : Hp} {Q : VK} {E : XK} {ta : TA} (h : SpL Z spec vs H Q E)
    (hw : ∀ ds Po, spec ds Po → i < (startE N ds).length ∧ j ≠ i ∧ ds.length ≤ i ∧ ds.length ≤ j ∧ Wab Z ta (startE N ds) fun es => ∃ n : Int, es = [.int n] ∧ 0 ≤ n ∧ n ≤ 100000 ∧ ∀ H0 A L das, das.length = n.toNat → Wm Z H0 A i L das ts (startE N ds) (List.replicate n.toNat []) fun ρ' kss => Po (kss.map .dk)) :
    tSeq (tAsg (tLc (iRng1 ta) (gName j) tYes tDNewK [j]) (gName i)) (tSeq ts (tRet (tVar i))) { nx := fun _ H' => Q .non H', rt := Q } (start N vs) H := by
  obtain ⟨A, ds, Po, h1, h2, h3, k⟩ := h
  obtain ⟨hi, hij, hdi, hdj, ha⟩ := hw ds Po h3
  have no : noO (startE N ds) = true := by
    refine List.all_eq_true.mpr fun e he => ?_
    obtain ⟨n, hn⟩ := List.mem_iff_getElem?.mp he
    rcases start_get (Z := Z) h1 hn with rfl | ⟨d, v, rfl, _⟩ <;> rfl
  have E0 := sv_start (N := N) h1 h2
  refine ha none A _ H E0 _ fun ws es H1 E1 f1 b1 ⟨n, e, n0, n1, g⟩ => ?_
  subst e
  obtain ⟨w, rfl, b⟩ := b1.one
  have e := b.int
  subst e
  have sm1 : Same H H1 := fun a o q => f1.fx a o q fun z => nomatch z
  refine ⟨n, rfl, by omega, by omega, fun L hL => lc_range (fun c H' => ∃ das : List Addr, das.length = c ∧ H' L = some (.lst (das.map .ref)) ∧ das.Nodup ∧ (∀ d ∈ das, H1 d = none ∧ d ≠ L ∧ H' d = some (.dK [])) ∧ ∀ a o, H1 a = some o → H' a = some o)
    ⟨[], rfl, upd_same, .nil, (fun d hd => nomatch hd), fun a o q => by rw [upd_ne (ne_of_none q hL)]; exact q⟩ (fun c H' hc ⟨das, dl, q1, q2, q3, q4⟩ => ?_) fun H' ⟨das, dl, q1, q2, q3, q4⟩ => ?_⟩
  · refine ⟨wipe_again (by simp), fun p hp => ⟨_, by rw [upd_ne (ne_of_none q1 hp)]; exact q1, by rw [List.length_map, dl, sizeLine_eq]; omega, das ++ [p], by simp [dl], by rw [upd_same, List.map_append]; rfl, ?_, fun d hd => ?_, fun a o q => ?_⟩⟩
    · rw [List.nodup_append]
      refine ⟨q2, by simp, fun x hx y hy z => ?_⟩
      rw [List.mem_singleton.mp hy] at z
      subst z
      have := (q3 x hx).2.2
      rw [hp] at this
      cases this
    · have hpn : H1 p = none := by
        cases e : H1 p with
        | none => rfl
        | some o => rw [q4 p o e] at hp; cases hp
      have npL : p ≠ L := fun z => by subst z; rw [q1] at hp; cases hp
      rcases List.mem_append.mp hd with hd | hd
      · obtain ⟨z1, z2, z3⟩ := q3 d hd
        refine ⟨z1, z2, ?_⟩
        rw [upd_ne z2, upd_ne (ne_of_none z3 hp)]
        exact z3
      · rw [List.mem_singleton.mp hd]
        refine ⟨hpn, npL, ?_⟩
        rw [upd_ne npL, upd_same]
    · have := q4 a o q
      rw [upd_ne (ne_of_none q hL), upd_ne (ne_of_none this hp)]
      exact this
  · have hst : ((start N vs).set i (some (V.ref L)))[i]? = some (some (.ref L)) := by
      refine List.getElem?_set_self ?_
      rw [E0.len]
      exact hi
    have fresh : ∀ d, d = L ∨ d ∈ das → H1 d = none := fun d hd => by
      rcases hd with rfl | hd
      · exact hL
      · exact (q3 d hd).1
    have E2 : Sv Z none (Xm A L das) H' (start N vs) (startE N ds) := E1.grow q4 fun a z => by
      rcases z with z | rfl | z
      · exact .inl z
      · exact .inr ⟨hL, _, q1⟩
      · exact .inr ⟨(q3 a z).1, _, (q3 a z).2.2⟩
    have un : (startE N ds)[i]? = some .un := by
      unfold startE
      rw [List.getElem?_append_right (by simpa using hdi)]
      refine List.getElem?_replicate_of_lt ?_
      unfold startE at hi
      rw [List.length_append, List.length_map, List.length_replicate] at hi
      rw [List.length_map]
      omega
    have E3 : Sv Z none (Xm A L das) H' ((start N vs).set i (some (V.ref L))) (startE N ds) := by
      have := E2.drop (i := i) (some (V.ref L))
      rw [set_same un] at this
      exact this
    have m : Met H H' L das (List.replicate n.toNat []) := ⟨q1, f1.new hL, fun d hd => f1.new (q3 d hd).1, fun d hd => (q3 d hd).2.1, q2, by rw [dl, List.length_replicate], fun c a hc => ⟨[], by
      refine List.getElem?_replicate_of_lt ?_
      have := (List.getElem?_eq_some_iff.mp hc).1
      omega, (q3 a (List.mem_of_getElem? hc)).2.2⟩⟩
    refine g H A L das dl _ H' E3 no hst m _ fun σ' ρ' H2 kss E4 no4 hi4 m4 f4 q => ?_
    refine ⟨_, hi4, k L (das.map .ref) (kss.map .dk) H2 (fun a o z => ?_) m4.nl m4.hl ?_ q⟩
    · refine f4 a o (fun y => ?_) (fun y => ?_) (q4 a o (sm1 a o z))
      · subst y; rw [m4.nl] at z; cases z
      · rw [m4.nd a y] at z; cases z
    · have key : ∀ (l : List Addr) (ks : List (List (Int × V))), l.length = ks.length → (∀ (c : Nat) (a : Addr), l[c]? = some a → ∃ k, ks[c]? = some k ∧ H2 a = some (.dK (keyK k)) ∧ ¬ Xp A L a) → RepL Z H2 (Xp A L) (ks.map .dk) (l.map .ref) := by
        intro l
        induction l with
        | nil => intro ks e _; cases ks with
          | nil => exact repL_nil.mpr rfl
          | cons _ _ => cases e
        | cons a l ih => intro ks e hh; cases ks with
          | nil => cases e
          | cons k0 ks =>
            obtain ⟨k1, e1, e2, e3⟩ := hh 0 a rfl
            cases e1
            exact repL_cons.mpr ⟨_, _, rfl, rep_dk.mpr ⟨a, rfl, e3, e2⟩, ih ks (by simpa using e) fun c a hc => hh (c + 1) a hc⟩
      refine key das kss m4.len fun c a hc => ?_
      obtain ⟨k1, e1, e2⟩ := m4.at_ c a hc
      refine ⟨k1, e1, e2, fun z => ?_⟩
      have hd := List.mem_of_getElem? hc
      rcases z with z | z
      · obtain ⟨o, z⟩ := h2 a z
        rw [m4.nd a hd] at z
        cases z
      · exact m4.nL a hd z
end
end DL
/-! DL16: comprehensions over an owned dict's keys; the place of a number in a list. -/
namespace DL
open PySem PySem.Spec PyProof.Rows L2
section
variable {Z : Cs} {ρ : List En} {te ta : TE} {tt : TT} {vs : List Nat} {i j : Nat} {Q : List D → Prop} {kvs : List (List Int × V)}
theorem keyT_at {n : Nat} {k : List Key} {v : V} (h : (keyT kvs)[n]? = some (k, v)) : ∃ p, kvs[n]? = some p ∧ k = p.1.map Sum.inl := by
  unfold keyT at h
  rw [List.getElem?_map] at h
  obtain ⟨p, hp, e⟩ := Option.map_eq_some_iff.mp h
  cases e
  exact ⟨p, hp, rfl⟩
theorem wl_lcK (hi : ρ[i]? = some (.t kvs)) (hv : NoOwn (ρ.set i .un) vs) (hj : j ∈ vs) (hz : kvs.length ≤ sizeLine) (h : LcD Z (ρ.set i .un) vs j tt te (kvs.map fun p => .tup (p.1.map .int)) Q) :
    Wl Z (tLockE (tLc (iKeys (tVar i)) (gName j) tt te vs)) ρ Q := fun r X σ H E k hk => by
  obtain ⟨a, h1, h2⟩ := E.at_ i _ hi
  obtain ⟨E1, m1, n1⟩ := E.apart hi rfl h1
  refine ⟨a, _, h2, trivial, fun od => ?_⟩
  have ra : r ≠ some a := n1.1
  have E2 := E1.turn (o := .frz od (.dT (keyT kvs))) (.inr rfl) h2 rfl
  have ha2 : upd H a (.frz od (.dT (keyT kvs))) a = some (.frz od (.dT (keyT kvs))) := upd_same
  generalize hH2 : upd H a (.frz od (.dT (keyT kvs))) = H2 at E2 ha2
  obtain ⟨I, I0, It, If⟩ := h
  refine ⟨_, h1, a, od, rfl, .inr ⟨keyT kvs, ha2, fun Dl hD => ?_⟩⟩
  have el : (keyT kvs).length = kvs.length := by unfold keyT; rw [List.length_map]
  have elm : (kvs.map fun p => D.tup (p.1.map .int)).length = kvs.length := List.length_map _
  refine ⟨fun n m H' => m = kvs.length - n ∧ n ≤ kvs.length ∧ ∃ acc, LcS Z r (Xp X a) σ (ρ.set i .un) H2 Dl acc H' ∧ I ((kvs.map fun p => D.tup (p.1.map .int)).take n) acc ∧ acc.length ≤ n, ⟨kvs.length, by simp, Nat.zero_le _, [], LcS.start E2 hD, I0, Nat.le_refl _⟩, ?_⟩
  rintro n m H' ⟨rfl, hn, acc, S, hI, hl⟩
  have hfa : H' a = some (.frz od (.dT (keyT kvs))) := S.fx.fx a _ ha2 ra
  by_cases hlt : n < kvs.length
  · refine .inr ⟨⟨hfa, by rw [el]; exact hlt⟩, fun H' => n + 1 ≤ kvs.length ∧ ∃ acc, LcS Z r (Xp X a) σ (ρ.set i .un) H2 Dl acc H' ∧ I ((kvs.map fun p => D.tup (p.1.map .int)).take (n + 1)) acc ∧ acc.length ≤ n + 1, fun H' q => ⟨kvs.length - (n + 1), by omega, rfl, q⟩, fun x H'' y => ?_⟩
    obtain ⟨e1, ks, v, p, hk1, rfl, hq⟩ := y
    subst e1
    obtain ⟨kv, hkv, e2⟩ := keyT_at hk1
    subst e2
    have hd : (kvs.map fun p => D.tup (p.1.map .int))[n]? = some (.tup (kv.1.map .int)) := by rw [List.getElem?_map, hkv]; rfl
    obtain ⟨p1, p2⟩ := take_pre hd
    rw [kV_ints] at hq
    refine S.turn (B := True) hD hv hj (by omega) (d := .tup (kv.1.map .int)) (rep_tup.mpr ⟨p, _, rfl, hq, repL_ints.mpr rfl⟩) (K := fun acc => I ((kvs.map fun p => D.tup (p.1.map .int)).take (n + 1)) acc) ?_ fun acc' H'' S' q l => ⟨by omega, acc', S', q, by omega⟩
    rw [p2]
    exact It _ _ _ acc p1 hI (by rw [List.length_take]; omega)
  · have e : n = kvs.length := by omega
    subst e
    rw [← elm, List.take_length] at hI
    refine .inl ⟨⟨hfa, by rw [el]; exact Nat.le_refl _⟩, hfa, ?_⟩
    refine S.fin hD (If acc hI (by rw [elm]; exact hl)) (k := fun v H3 => k v (upd H3 a (.dT (keyT kvs)))) fun p ws ds H3 n3 E3 f3 q1 q2 q => ?_
    have ha3 : H3 a = some (.frz od (.dT (keyT kvs))) := f3.fx a _ ha2 ra
    have npa : p ≠ a := fun z => by subst z; rw [q1] at ha3; cases ha3
    have hna : H p = none := by rw [← hH2, upd_ne npa] at n3; exact n3
    have E4 := E3.turn (p := a) (o := .dT (keyT kvs)) (.inl (.inr rfl)) ha3 rfl
    have E5 : Sv Z r (Xp (Xp X p) a) (upd H3 a (.dT (keyT kvs))) σ (ρ.set i .un) := E4.less fun b z => by
      rcases z with (z | z) | z
      · exact .inl (.inl z)
      · exact .inr z
      · exact .inl (.inr z)
    have nx : ¬ Xp X p a := fun z => by
      rcases z with z | z
      · exact (E.xin a z).2 ⟨i, _, hi, rfl, h1⟩
      · exact npa z.symm
    have E6 := E5.take (i := i) (e := .t kvs) nx rfl ⟨a, rfl, upd_same⟩
    rw [set_same h1, List.set_set, set_same hi] at E6
    have mv3 : Mv H3 (Av r (Xp (Xp X a) p) σ (ρ.set i .un)) (upd H3 a (.dT (keyT kvs))) (Av r (Xp X p) σ ρ) := ⟨fun b o nb e => ⟨by
      rw [upd_ne (fun z => nb (by rw [z]; exact .inr (.inl (.inl (.inr rfl)))))]; exact e, fun z => by
      rcases z with z | (z | z) | z
      · obtain ⟨l, e2, z1, z2, z3⟩ := z
        by_cases hl : l = i
        · subst hl
          rw [h1] at z3
          cases z3
          exact nb (.inr (.inl (.inl (.inr rfl))))
        · exact nb (.inl ⟨l, e2, by rw [List.getElem?_set_ne (Ne.symm hl)]; exact z1, z2, z3⟩)
      · exact nb (.inr (.inl (.inl (.inl z))))
      · exact nb (.inr (.inl (.inr z)))
      · exact nb (.inr (.inr z))⟩, fun b o im e => by
      rw [upd_ne (fun z => by subst z; rw [ha3] at e; cases e; cases im)]; exact e⟩
    have fx : Fx r H (upd H3 a (.dT (keyT kvs))) := ⟨fun b o e nr => ?_, fun b o e => ?_, fun b o im e => ?_⟩
    · exact hk p ws ds _ hna E6 fx (by rw [upd_ne npa]; exact q1) (q2.mv mv3) q
    · by_cases z : b = a
      · subst z
        rw [h2] at e
        cases e
        exact upd_same
      · rw [upd_ne z]
        exact f3.fx b o (by rw [← hH2, upd_ne z]; exact e) nr
    · by_cases z : b = a
      · subst z; exact ⟨_, upd_same⟩
      · rw [upd_ne z]
        exact f3.dm b o (by rw [← hH2, upd_ne z]; exact e)
    · by_cases z : b = a
      · subst z; rw [h2] at e; cases e; cases im
      · rw [upd_ne z]
        exact f3.tp b o im (by rw [← hH2, upd_ne z]; exact e)
/-- the place of a number -/
theorem we_index {Q : D → Prop} (h : Wb Z te ρ fun d => ∃ ns : List Int, d = .lst (ns.map .int) ∧ Wb Z ta ρ fun y => ∃ m : Int, y = .int m ∧ m ∈ ns ∧ Q (.int (ns.idxOf m))) : We Z (tBM Z.K "list" (rIndex Z.K) te (tCons ta tNil)) ρ Q := fun r X σ H E k hk =>
  h r X σ H E _ fun v d H1 E1 f1 b1 ⟨ns, e, g⟩ => by
    subst e
    obtain ⟨a, vs, rfl, h3, h4⟩ := b1.lst E1
    have e := repL_ints.mp h4
    subst e
    refine ⟨tyV_l h3, g r X σ H1 E1 _ fun w y H2 E2 f2 b2 ⟨m, e, hm, q⟩ => ?_⟩
    subst e
    rw [b2.int]
    have b3 := b1.keep f2
    obtain ⟨a', vs, e, h5, h6⟩ := b3.lst E2
    cases e
    have e := repL_ints.mp h6
    subst e
    have hl := List.idxOf_lt_length_iff.mpr hm
    refine ⟨a, _, _, ns.idxOf m, .int m, rfl, rfl, .of h5, rfl, flat_ints ns, ?_, ?_, fun n z hn hz => ?_, hk _ _ H2 E2 (f1.trans f2) (rep_int.mpr rfl) q⟩
    · rw [List.getElem?_map, List.getElem?_eq_getElem hl]
      show some (V.int (ns[ns.idxOf m])) = _
      rw [List.getElem_idxOf hl]
    · simp [eqV]
    · rw [List.getElem?_map] at hz
      obtain ⟨u, hu, rfl⟩ := Option.map_eq_some_iff.mp hz
      obtain ⟨hun, eu⟩ := List.getElem?_eq_some_iff.mp hu
      have : ¬ (u == m) = true := by
        have := List.not_of_lt_findIdx (p := fun x => x == m) (xs := ns) (i := n) hn
        rw [eu] at this
        simpa using this
      simp [eqV]
      simpa using this
end
end DL
/-! DL17: len of a dict; min, index. -/
namespace L2
open PySem PySem.Spec PyProof.Rows
def rLenDk : List V → Hp → VK → Prop := fun xs H Q => ∃ (d : Addr) (kvs : List (Key × V)), xs = [.ref d] ∧ Rd H d (.dK kvs) ∧ Q (.int kvs.length) H
theorem cr_lenDk {X : Cx} : CallR X (.builtin "len") rLenDk := by
  intro pins s σ H xs us Q I r h
  obtain ⟨d, kvs, rfl, e, q⟩ := h
  obtain ⟨u, rfl, rx⟩ := vals1 r
  cases (show u = Value.ref d from rx)
  exact d_len I e fun t s' I' => ⟨.int kvs.length, H, I', ⟨t, rfl⟩, q⟩
end L2
namespace DL
open PySem PySem.Spec PyProof.Rows L2
theorem cd_lenK {Z : Cs} {ρ : List En} {Q : D → Prop} {kvs : List (Int × V)} (q : Q (.int kvs.length)) : CbD Z ρ rLenDk [.dk kvs] Q := cd_lenDk q
end DL
/-! DL18: a new list or None; comprehensions whose target is two names. -/
namespace DL
open PySem PySem.Spec PyProof.Rows L2
/-- a new list, or None -/
def SpO (Z : Cs) (spec : List D → (Option (List D) → Prop) → Prop) : Sp := fun vs H Q _ => ∃ (A : Addr → Prop) (ds : List D) (Po : Option (List D) → Prop), RepL Z H A ds vs ∧ (∀ a, A a → ∃ o, H a = some o) ∧ spec ds Po ∧
  (∀ p ws es H', Same H H' → H p = none → H' p = some (.lst ws) → RepL Z H' (Xp A p) es ws → Po (some es) → Q (.ref p) H') ∧ (∀ H', Same H H' → Po none → Q .non H')
section
variable {Z : Cs} {ρ : List En} {P : Po} {te ta tb tl : TE} {tt : TT} {ts tu : TS} {tg : TA} {d : D} {ds : List D} {i j : Nat} {g : TG}
theorem len_O {vs : List V} {H : Hp} {Q : VK} {E : XK} {n : Nat} {spec : List D → (Option (List D) → Prop) → Prop} (h : SpO Z spec vs H Q E) (l : ∀ ds Po, spec ds Po → ds.length = n) : vs.length = n := by
  obtain ⟨A, ds, Po, h1, _, h3, _⟩ := h
  rw [h1.length, l ds Po h3]
theorem run_O {spec : List D → (Option (List D) → Prop) → Prop} {N : List Str} {vs : List V} {H : Hp} {Q : VK} {E : XK} (h : SpO Z spec vs H Q E)
    (hw : ∀ ds Po, spec ds Po → Wc Z ts (startE N ds) { nx := fun _ => Po none, rt := fun d => d = .non ∧ Po none, rl := fun es => Po (some es) }) : ts { nx := fun _ H' => Q .non H', rt := Q } (start N vs) H := by
  obtain ⟨A, ds, Po, h1, h2, h3, k, k2⟩ := h
  have no : ∀ σ b, ¬ Ow σ (startE N ds) b := fun _ _ => start_ow h1
  have sv := sv_start (N := N) h1 h2
  refine hw ds Po h3 none A _ H sv _ (fun σ' ρ' H' E f q => k2 H' (fr_same (no _) f) q) (fun v d H' σ' ρ' E f b q => ?_)
    (fun p us es H' σ' ρ' n E f b b2 q => k p us es H' (fr_same (no _) f) ?_ b (b2.mv (av_sub fun b z => ?_)) q) (fun p kvs H' σ' ρ' n E f b q => False.elim q)
  · obtain ⟨rfl, q⟩ := q
    rw [rep_non.mp b]
    exact k2 H' (fr_same (no _) f) q
  · cases e : H p with
    | none => rfl
    | some o => exact absurd (n.2 o e) (no _ p)
  · exact .inr (.inl z)
/-- x = f(..), a new list or None -/
theorem wc_setO {spec : List D → (Option (List D) → Prop) → Prop} {E' : XK} (h : Wab Z tg ρ fun ds => spec ds fun o => (o = none ∨ ∃ es, o = some es ∧ LFL es = true) ∧ match o with | none => P.nx (ρ.set i (.v .non)) | some es => P.nx (ρ.set i (.l es))) : Wc Z (tAsg (tCall (SpO Z spec) [] E' tg) (gName i)) ρ P := fun r X σ H E F k1 _ _ _ => h r X σ H E _ fun vs ds H1 E1 f1 b1 s1 => by
  rw [List.append_nil]
  refine ⟨noA, ds, _, b1.rep0 E1, fun a z => False.elim z, s1, fun p ws es H2 s hp h2 h3 q => ?_, fun H2 s q => ?_⟩
  · have f2 := f1.trans (Fx.same s)
    have n := f1.new hp
    have lf : LFL es = true := by
      rcases q.1 with z | ⟨es', z, l⟩
      · cases z
      · cases z; exact l
    refine k1 _ _ H2 (Sv.take (e := .l es) (E1.grow (X' := Xp X p) s fun a z => ?_) (E.x_new n) rfl ⟨p, ws, rfl, h2, h3.lf lf⟩) (fr_take f2 n) q.2
    rcases z with z | z
    · exact .inl z
    · subst z; exact .inr ⟨hp, _, h2⟩
  · exact k1 _ _ H2 ((E1.same s).setv (rep_non.mpr rfl)) ((f1.trans (Fx.same s)).fr.trans (fr_set rfl)) q.2
/-- return f(..), a new list or None -/
theorem wc_retO {spec : List D → (Option (List D) → Prop) → Prop} {E' : XK} (h : Wab Z tg ρ fun ds => spec ds fun o => (o = none ∨ ∃ es, o = some es ∧ LFL es = true) ∧ match o with | none => P.rt .non | some es => P.rl es) : Wc Z (tRet (tCall (SpO Z spec) [] E' tg)) ρ P := fun r X σ H E F _ k2 k3 _ => h r X σ H E _ fun vs ds H1 E1 f1 b1 s1 => by
  rw [List.append_nil]
  refine ⟨noA, ds, _, b1.rep0 E1, fun a z => False.elim z, s1, fun p ws es H2 s hp h2 h3 q => ?_, fun H2 s q => ?_⟩
  · have lf : LFL es = true := by
      rcases q.1 with z | ⟨es', z, l⟩
      · cases z
      · cases z; exact l
    refine k3 p ws es H2 σ ρ (.new E (f1.new hp)) (E1.grow s fun a z => ?_) (f1.trans (Fx.same s)).fr h2 (h3.lf lf) q.2
    rcases z with z | z
    · exact .inl z
    · subst z; exact .inr ⟨hp, _, h2⟩
  · exact k2 _ _ H2 σ ρ (E1.same s) (f1.trans (Fx.same s)).fr (rep_non.mpr rfl) q.2
end
/-! ### a comprehension whose target is two names -/
section
variable {Z : Cs} {ρ : List En} {te tl : TE} {tt : TT} {i j : Nat} {vs : List Nat} {Q : List D → Prop}
theorem wipe_set {σ : L2.St} {vs : List Nat} {j : Nat} {x : Option V} (hj : j ∈ vs) : wipe (σ.set j x) vs = wipe σ vs := by
  have comm : ∀ (vs : List Nat) (τ : L2.St) (j : Nat) (x : Option V), wipe (τ.set j x) vs = if j ∈ vs then wipe τ vs else (wipe τ vs).set j x := by
    intro vs
    induction vs with
    | nil => intro τ j x; simp [L2.wipe]
    | cons v vs ih =>
      intro τ j x
      show (wipe (τ.set j x) vs).set v none = _
      rw [ih]
      by_cases h1 : j ∈ vs
      · rw [if_pos h1, if_pos (List.mem_cons_of_mem _ h1)]
        rfl
      · rw [if_neg h1]
        by_cases h2 : j = v
        · subst h2
          rw [if_pos List.mem_cons_self, List.set_set]
          rfl
        · rw [if_neg (by simp [h1, h2])]
          show _ = ((wipe τ vs).set v none).set j x
          rw [List.set_comm _ _ h2]
  rw [comm, if_pos hj]
theorem wipe_wipe {σ : L2.St} {vs : List Nat} : wipe (wipe σ vs) vs = wipe σ vs := by
  cases vs with
  | nil => rfl
  | cons v vs =>
    have := wipe_again (σ := σ) (vs := v :: vs) (j := v) (x := none) List.mem_cons_self
    rw [wipe_set List.mem_cons_self] at this
    exact this
def LcD2 (Z : Cs) (ρ : List En) (vs : List Nat) (i j : Nat) (tt : TT) (te : TE) (ps : List (D × D)) (Q : List D → Prop) : Prop :=
  ∃ I : List (D × D) → List D → Prop, I [] [] ∧ (∀ pre x post acc, ps = pre ++ x :: post → I pre acc → acc.length ≤ pre.length → Wt Z tt (((wipeE ρ vs).set i (.v x.1)).set j (.v x.2)) fun b => (b = true → We Z te (((wipeE ρ vs).set i (.v x.1)).set j (.v x.2)) fun y => I (pre ++ [x]) (acc ++ [y])) ∧ (b = false → I (pre ++ [x]) acc)) ∧
    ∀ acc, I ps acc → acc.length ≤ ps.length → Q acc
theorem LcS.turn2 {r : Option Addr} {X : Addr → Prop} {H1 H' : Hp} {σ : L2.St} {Dl : Addr} {acc : List D} {d d' : D} {x x' : V} (S : LcS Z r X σ ρ H1 Dl acc H') (hX : H1 Dl = none) (hv : NoOwn ρ vs) (hi : i ∈ vs) (hj : j ∈ vs) (hz : acc.length < sizeLine) (hx : Rep Z H' (Av r (Xp X Dl) σ ρ) d x) (hx' : Rep Z H' (Av r (Xp X Dl) σ ρ) d' x') {K : List D → Prop} {k : Hp → Prop}
    (h : Wt Z tt (((wipeE ρ vs).set i (.v d)).set j (.v d')) fun b => (b = true → We Z te (((wipeE ρ vs).set i (.v d)).set j (.v d')) fun y => K (acc ++ [y])) ∧ (b = false → K acc))
    (hk : ∀ acc' H'', LcS Z r X σ ρ H1 Dl acc' H'' → K acc' → acc'.length ≤ acc.length + 1 → k H'') :
    wipe (((wipe σ vs).set i (some x)).set j (some x')) vs = wipe σ vs ∧ tt (((wipe σ vs).set i (some x)).set j (some x')) H' fun b H3 => if b = true then te (((wipe σ vs).set i (some x)).set j (some x')) H3 fun y H4 => ∃ acc, H4 Dl = some (.lst acc) ∧ acc.length < sizeLine ∧ k (upd H4 Dl (.lst (acc ++ [y]))) else k H3 := by
  refine ⟨by rw [wipe_set hj, wipe_set hi, wipe_wipe], ?_⟩
  obtain ⟨E1, ow1⟩ := S.sv.wipe hv
  have av1 : ∀ a, Av r (Xp X Dl) (wipe σ vs) (wipeE ρ vs) a ↔ Av r (Xp X Dl) σ ρ a := fun a => by unfold Av; rw [ow1 a]
  have E2 := E1.setv (i := i) (rep_iff (fun a => (av1 a).symm) hx)
  have ow2 : ∀ a, Ow ((wipe σ vs).set i (some x)) ((wipeE ρ vs).set i (.v d)) a ↔ Ow σ ρ a := fun a => by
    rw [← ow1 a]
    exact ⟨ow_set_sub rfl, ow_set_sup (noOwn_w hv i hi)⟩
  have av2 : ∀ a, Av r (Xp X Dl) ((wipe σ vs).set i (some x)) ((wipeE ρ vs).set i (.v d)) a ↔ Av r (Xp X Dl) σ ρ a := fun a => by unfold Av; rw [ow2 a]
  have E3 := E2.setv (i := j) (rep_iff (fun a => (av2 a).symm) hx')
  have no2 : ∀ e', ((wipeE ρ vs).set i (.v d))[j]? = some e' → own e' = false := fun e' q => by
    rcases set_get q with ⟨_, q⟩ | ⟨_, q⟩
    · subst q; rfl
    · exact noOwn_w hv j hj e' q
  have ow3 : ∀ a, Ow (((wipe σ vs).set i (some x)).set j (some x')) (((wipeE ρ vs).set i (.v d)).set j (.v d')) a ↔ Ow σ ρ a := fun a => by
    rw [← ow2 a]
    exact ⟨ow_set_sub rfl, ow_set_sup no2⟩
  have av3 : ∀ a, Av r (Xp X Dl) (((wipe σ vs).set i (some x)).set j (some x')) (((wipeE ρ vs).set i (.v d)).set j (.v d')) a ↔ Av r (Xp X Dl) σ ρ a := fun a => by unfold Av; rw [ow3 a]
  have rD : r ≠ some Dl := fun z => (S.sv.row Dl z).2.2 (.inr rfl)
  have go : ∀ H3, Sv Z r (Xp X Dl) H3 (((wipe σ vs).set i (some x)).set j (some x')) (((wipeE ρ vs).set i (.v d)).set j (.v d')) → Fx r H' H3 → LcS Z r X σ ρ H1 Dl acc H3 := fun H3 E3 f3 => by
    refine ⟨S.sv.fx f3 fun a z => row_iff av3 (E3.row a z).1, S.fx.trans f3, S.mv.trans f3.mv, ?_⟩
    obtain ⟨ws, q1, q2⟩ := S.at_
    exact ⟨ws, f3.fx Dl _ q1 rD, q2.mv f3.mv⟩
  refine h r (Xp X Dl) _ H' E3 _ fun b H3 E3 f3 q => ?_
  have S3 := go H3 E3 f3
  cases b with
  | false => exact iteF (hk acc H3 S3 (q.2 rfl) (Nat.le_succ _))
  | true =>
    refine iteT (q.1 rfl r (Xp X Dl) _ H3 E3 _ fun y dy H4 E4 f4 hy q4 => ?_)
    have S4 := go H4 E4 (f3.trans f4)
    obtain ⟨ws, q1, q2⟩ := S4.at_
    refine ⟨ws, q1, by rw [q2.length]; exact hz, hk (acc ++ [dy]) _ ⟨S4.sv.turn (.inr rfl) q1 rfl, ⟨fun a o e n => ?_, fun a o e => ?_, fun a o i e => ?_⟩, S4.mv.trans ?_, ws ++ [y], upd_same, ?_⟩ q4 (by rw [List.length_append]; exact Nat.le_refl _)⟩
    · rw [upd_ne (ne_of_none e hX)]; exact S4.fx.fx a o e n
    · rw [upd_ne (ne_of_none e hX)]; exact S4.fx.dm a o e
    · rw [upd_ne (ne_of_none e hX)]; exact S4.fx.tp a o i e
    · exact ⟨fun a o n e => ⟨by rw [upd_ne (fun z => n (by rw [z]; exact .inr (.inl (.inr rfl))))]; exact e, n⟩, fun a o i e => by
        rw [upd_ne (fun z => by subst z; rw [q1] at e; cases e; cases i)]; exact e⟩
    · have m : Mv H4 (Av r (Xp X Dl) σ ρ) (upd H4 Dl (.lst (ws ++ [y]))) (Av r (Xp X Dl) σ ρ) := ⟨fun a o n e => ⟨by rw [upd_ne (fun z => n (by rw [z]; exact .inr (.inl (.inr rfl))))]; exact e, n⟩, fun a o i e => by
        rw [upd_ne (fun z => by subst z; rw [q1] at e; cases e; cases i)]; exact e⟩
      exact (q2.mv m).append (.one ((rep_iff av3 hy).mv m))
/-- over a list of pairs -/
theorem wl_lcL2 (hv : NoOwn ρ vs) (hi : i ∈ vs) (hj : j ∈ vs) (h : Wb Z tl ρ fun d => ∃ ps : List (D × D), d = .lst (ps.map fun p => .tup [p.1, p.2]) ∧ ps.length ≤ sizeLine ∧ LcD2 Z ρ vs i j tt te ps Q) : Wl Z (tLc (iList Z.K tl) (gTup Z.K 2 (gCons (gName i) (gCons (gName j) gNil))) tt te vs) ρ Q := fun r X σ H E k hk =>
  h r X σ H E _ fun v d H1 E1 f1 b1 ⟨ps, e, hz, I, I0, It, If⟩ => by
    subst e
    obtain ⟨a, ws, rfl, h3, h4⟩ := b1.lst E1
    have hl4 := h4.length
    rw [List.length_map] at hl4
    refine ⟨a, rfl, ⟨ws, .of h3⟩, fun Dl hD => lc_list (K := Z.K) (a := a) (xs := ws) (fun i H' => ∃ acc, LcS Z r X σ ρ H1 Dl acc H' ∧ I (ps.take i) acc ∧ acc.length ≤ i) ⟨[], LcS.start E1 hD, I0, Nat.le_refl _⟩ (fun i H' hi ⟨acc, S, _, _⟩ => .of (S.fx.fx a _ h3 fun z => ?_)) (fun n x H' hn ⟨acc, S, hI, hl⟩ => ?_) fun H' ⟨acc, S, hI, hl⟩ => ?_⟩
    · obtain ⟨⟨sc, i, mm, g, ns, ha, _⟩, q2, q3⟩ := E1.row a z
      rcases b1 with b | ⟨i, e, g1, g2, g3⟩
      · obtain ⟨a', vs', e', n', _⟩ := rep_lst.mp b
        cases e'
        exact n' (.inr (.inr z))
      · refine q2 ⟨i, e, g1, ?_, g2⟩
        cases e with
        | l _ => rfl
        | t _ => rfl
        | un => cases g3
        | v _ => cases g3
        | row => cases g3
    · obtain ⟨d, hd, hr⟩ := h4.get hn
      rw [List.getElem?_map] at hd
      obtain ⟨p, hp, hd⟩ := Option.map_eq_some_iff.mp hd
      subst hd
      obtain ⟨p1, p2⟩ := take_pre hp
      have hi2 := (List.getElem?_eq_some_iff.mp hp).1
      obtain ⟨b, us, rfl, t, q1⟩ := rep_tup.mp (hr.mv S.mv)
      obtain ⟨v1, r1, rfl, h1, q2⟩ := repL_cons.mp q1
      obtain ⟨v2, r2, rfl, h2, q3⟩ := repL_cons.mp q2
      have e := repL_nil.mp q3
      subst e
      refine ⟨b, [v1, v2], rfl, .of t, rfl, v1, [v2], rfl, v2, [], rfl, rfl, ?_⟩
      refine S.turn2 hD hv hi hj (by omega) h1 h2 (K := fun acc => I (ps.take (n + 1)) acc) ?_ fun acc' H'' S' q l => ⟨acc', S', q, by omega⟩
      rw [p2]
      exact It (ps.take n) p _ acc p1 hI (by rw [List.length_take]; omega)
    · rw [hl4, List.take_length] at hI
      exact S.fin hD (If acc hI (by rw [← hl4]; exact hl)) fun p ws ds H' n E2 f2 q1 q2 q => hk p ws ds H' (f1.new n) E2 (f1.trans f2) q1 q2 q
theorem lcD2_map {α : Type} {e1 e2 : α → D} {xs : List α} (f : α → D) (h : ∀ x ∈ xs, ∀ Q' : D → Prop, Q' (f x) → We Z te (((wipeE ρ vs).set i (.v (e1 x))).set j (.v (e2 x))) Q') (q : Q (xs.map f)) : LcD2 Z ρ vs i j tYes te (xs.map fun x => (e1 x, e2 x)) Q := by
  refine ⟨fun pre acc => ∃ ys zs : List α, xs = ys ++ zs ∧ pre = ys.map (fun x => (e1 x, e2 x)) ∧ acc = ys.map f, ⟨[], xs, rfl, rfl, rfl⟩, fun pre x post acc e ⟨ys, zs, e3, e4, e5⟩ _ => ?_, fun acc ⟨ys, zs, e3, e4, e5⟩ _ => ?_⟩
  · subst e3 e4 e5
    rw [List.map_append] at e
    have e := List.append_cancel_left e
    cases zs with
    | nil => cases e
    | cons z zs =>
      rw [List.map_cons] at e
      injection e with e1 e2
      subst e1
      exact wt_yes ⟨fun _ => h z (by simp) _ ⟨ys ++ [z], zs, by simp, by simp, by simp⟩, fun z => nomatch z⟩
  · have hz : zs = [] := by
      have l := congrArg List.length e4
      rw [List.length_map, List.length_map, e3, List.length_append] at l
      exact List.length_eq_zero_iff.mp (by omega)
    subst hz e5
    rw [List.append_nil] at e3
    subst e3
    exact q
end
end DL
/-! DL19: a module's own tuple of numbers; max, min of two; more slot statements. -/
namespace DL
open PySem PySem.Spec PyProof.Rows L2
/-- the module's name x is a tuple of these numbers -/
structure GT (K : PySem.W.Frag) (mg : Str → Option Value) (x : Str) (ns : List Int) : Prop where
  ex : ∃ a : Addr, (∃ u, mg x = some u ∧ RelV (.ref a) u) ∧ SqT K noH a (ns.map V.int)
theorem gt_mk {K : PySem.W.Frag} {mg : Str → Option Value} {x : Str} {ns : List Int} {a : Addr} {od : Option Addr} {n : Nat} {its : Array Value} {sl : Array (Option Value)} (h : mg x = some (.ref a)) (l : K.lookup a = some ⟨.type "tuple", od, .seq its n, sl⟩) (hz : its.size ≤ 1000) (v : Vals (ns.map V.int) its.toList) : GT K mg x ns :=
  ⟨a, ⟨_, h, rfl⟩, .inr ⟨_, its, n, l, rfl, rfl, Nat.le_trans hz (by decide), v⟩⟩
section
variable {Z : Cs} {ρ : List En} {P : Po} {te ta tb : TE} {i : Nat} {d : D} {ds : List D} {Q : D → Prop}
theorem we_inG {neg : Bool} {a : Addr} {xs : List Int} (S : SqT Z.K noH a (xs.map V.int)) (h : Wb Z te ρ fun d => ∃ i : Int, d = .int i ∧ Q (.bl (if neg then !decide (i ∈ xs) else decide (i ∈ xs)))) : We Z (tOp (rIn Z.K neg) te (tC (.ref a))) ρ Q := fun r X σ H E k hk => h r X σ H E _ fun v d H1 E1 f1 b1 ⟨n, e, q⟩ => by
  subst e
  have e1 := b1.int
  subst e1
  have S1 : SqT Z.K H1 a (xs.map V.int) := by
    rcases S with (S | ⟨o, S⟩) | S
    · cases S
    · cases S
    · exact .inr S
  refine ⟨a, _, rfl, .inr S1, rfl, flat_ints xs, hk _ _ H1 E1 f1 (rep_bl.mpr ?_) q⟩
  rw [inV_int]
end
end DL
/-! DL20: defs that raise, try. -/
namespace L2
open PySem PySem.Spec PyProof.Rows
section
variable {X : Cx} {e : Expr} {es : List Expr} {ta : TA} {p1 p2 pos : Pos}
/-- B.__init__(self, ..), B an own class over ValueError without an __init__ -/
theorem pe_veinitC {x : Str} {B : Addr} {pl : Sem Bool} (hg : Gl X x) (hm : X.mg x = some (.ref B)) (r : ClX.CRead X.K B (.type "type")) (vV : PySem.W.findCls X.K (.ref B) (.type "type") "__init__" = some (.val (.builtin "ValueError.__init__"))) (ha : PA X (e :: es) ta)
    (hc : eval (.Call (.Attribute (.Name x p1) "__init__" p2) (e :: es) [] pos) X.env = (do
      let ov ← eval (.Name x p1) X.env
      standAt p2.atName
      let (f, first) ← holding [ov] (getMethod ov "__init__" pl)
      callWith pos f first (backTo pos (starEach (e :: es) X.env)) (backToKw pos (keywordEach [] X.env))) := by rfl)
    (hd : (x == ("__debug__" : Str)) = false := by decide)
    (he : starEach (e :: es) X.env = (false, eval e X.env) :: starEach es X.env := by rfl) (hpl : (backTo pos (starEach es X.env)).any (·.1) = false := by rfl) :
    PE X (.Call (.Attribute (.Name x p1) "__init__" p2) (e :: es) [] pos) (tVeI X.K ta) := by
  refine ⟨fun pins s σ H Q I h => ?_⟩
  refine PySem.W.methodCall_KW (ld_glob I hg hm ?_ hd) hc
  refine PySem.W.method_cls I.kIn r.ga (PySem.W.cls_value I.kIn r.rd vV (by rfl) ?_)
  refine callWith_method1 (thn (ha.run pos pins _ σ H _ (I.tok _) h) fun us s1 ⟨vs, H1, I1, r1, a, C, ws, ev, hl, T, ea, q⟩ => ?_) he hpl
  subst ev
  cases r1 with
  | @cons _ u0 _ ur ra rw' =>
    obtain rfl : u0 = Value.ref a := ra
    have hlen : ur.length ≤ sizeLine := by
      rw [← Paired.length rw', sizeLine_eq]
      omega
    exact oinit_ok T I1 ea hlen fun s' J => ⟨.non, H1, J, rfl, q⟩
end
end L2
namespace DL
open PySem PySem.Spec PyProof.Rows L2
/-- what is raised: an own error without a field | with one number -/
inductive Er where
  | pl (C : Addr)
  | num (C : Addr) (f : Str) (n : Int)
def ErAt (H : Hp) (cls : Value) (d : Option Addr) : Er → Prop
  | .pl C => cls = .ref C ∧ d = none
  | .num C f n => cls = .ref C ∧ ∃ dd, d = some dd ∧ H dd = some (.xd [(f, .int n)])
def ErAt.cls {er : Er} : Value := match er with | .pl C => .ref C | .num C _ _ => .ref C
/-- a def that raises er of such arguments -/
def SpR (Z : Cs) (spec : List D → Er → Prop) (vs : List V) (H : Hp) (E : XK) : Prop := ∃ (A : Addr → Prop) (ds : List D) (er : Er), RepL Z H A ds vs ∧ (∀ a, A a → ∃ o, H a = some o) ∧ spec ds er ∧ ∀ cls d H', Same H H' → ErAt H' cls d er → E cls d H'
/-- .. or answers as sp tells -/
def SpE (Z : Cs) (sp : Sp) (spec : List D → Er → Prop) : Sp := fun vs H Q E => sp vs H Q E ∨ SpR Z spec vs H E
structure CalE (P : Program) (w : World) (K : PySem.W.Frag) (mg : Str → Option Value) (base : Heap) (x : Str) (k : Nat) (ps : List Str) (sp : Sp) : Prop where
  ex : ∃ f fd, FnOk P w K mg base (L2.CX P w) k f fd ps sp ∧ mg x = some (.ref f) ∧ PySem.W.keepIn K (.ref f) = true ∧ Binds K fd ps []
/-- an own error class without a field -/
structure Ep (K : PySem.W.Frag) (mg : Str → Option Value) (x : Str) (C : Addr) : Prop where
  gP : mg x = some (.ref C)
  xP : PySem.W.excIn K C [.type "ValueError", .type "Exception", .type "BaseException", .type "object"] "ValueError.__new__" = true
  kP : PySem.W.keepIn K (.ref C) = true
  bP : PySem.W.subIn K (.ref C) (.type "BaseException") = some true
  tP : PySem.W.typeIn K (.ref C) = some (.type "type")
section
variable {X : Cx} {C : Addr}
def tRz (W : WX) (C : Addr) : TS := fun _ σ H => W (.ref C) none σ H
theorem ps_raiseP {x m : Str} {j : Nat} {p p2 pos pos2 : Pos} {W : WX} (hc : X.calm = true) (tk : Takes X W) (T : Ep X.K X.mg x C) (hg : Gl X x) (hdb : (x == ("__debug__" : Str)) = false := by decide) :
    PS X (.Raise (some (.Call (.Name x p) [.Constant (.str m) j p2] [] pos)) none pos2) (tRz W C) := ps_raise hc tk (pmk_own PySem.F.excBase_ValueError T.xP T.gP T.kP (raises_own T.bP T.tP) hg hdb)
end
section
variable {Z : Cs} {ρ : List En} {P : Po} {te ta tb tl : TE} {tt : TT} {ts tu : TS} {tg : TA} {d : D} {ds : List D} {i j : Nat} {W : WX} {er : Er} {Px : List En → Prop}
/-- te, ts raises er; Px: what is known of the slots then -/
def Wr (Z : Cs) (W : WX) (ts : TS) (ρ : List En) (er : Er) (Px : List En → Prop) : Prop := ∀ r X σ H, Sv Z r X H σ ρ →
  (∀ cls d H' σ' ρ', Sv Z r X H' σ' ρ' → Fr r σ ρ H σ' ρ' H' → ErAt H' cls d er → Px ρ' → W cls d σ' H') → ∀ F : Ends, ts F σ H
def Wre (Z : Cs) (W : WX) (te : TE) (ρ : List En) (er : Er) : Prop := ∀ r X σ H, Sv Z r X H σ ρ →
  (∀ cls d H', Sv Z r X H' σ ρ → Fx r H H' → ErAt H' cls d er → W cls d σ H') → ∀ k : VK, te σ H k
theorem Wr.run {r : Option Addr} {X : Addr → Prop} {σ σ1 : L2.St} {H H1 : Hp} {ρ1 : List En} {F : Ends} (h : Wr Z W ts ρ1 er Px) (E1 : Sv Z r X H1 σ1 ρ1) (f : Fr r σ ρ H σ1 ρ1 H1)
    (kx : ∀ cls d H' σ' ρ', Sv Z r X H' σ' ρ' → Fr r σ ρ H σ' ρ' H' → ErAt H' cls d er → Px ρ' → W cls d σ' H') : ts F σ1 H1 :=
  h r X σ1 H1 E1 (fun cls d H' σ' ρ' E2 f2 e p => kx cls d H' σ' ρ' E2 (f.trans f2) e p) F
theorem wr_seq1 (h : Wr Z W ts ρ er Px) : Wr Z W (tSeq ts tu) ρ er Px := fun r X σ H E kx F => h r X σ H E kx _
theorem wr_seq2 (h : Wc Z ts ρ { nx := fun ρ' => Wr Z W tu ρ' er Px }) : Wr Z W (tSeq ts tu) ρ er Px := fun r X σ H E kx F =>
  h r X σ H E { F with nx := tu F } (fun σ' ρ' H' E1 f1 q => q.run E1 f1 kx) (fun _ _ _ _ _ _ _ _ q => False.elim q) (fun _ _ _ _ _ _ _ _ _ _ _ q => False.elim q) (fun _ _ _ _ _ _ _ _ _ q => False.elim q)
theorem wr_if (h : Wt Z tt ρ fun b => (b = true → Wr Z W ts ρ er Px) ∧ (b = false → Wr Z W tu ρ er Px)) : Wr Z W (tIfS tt ts tu) ρ er Px := fun r X σ H E kx F => h r X σ H E _ fun b H1 E1 f1 q => by
  cases b with
  | true => exact iteT ((q.1 rfl).run E1 f1.fr kx)
  | false => exact iteF ((q.2 rfl).run E1 f1.fr kx)
theorem wr_raise {C : Addr} (q : Px ρ) : Wr Z W (tRz W C) ρ (.pl C) Px := fun r X σ H E kx F => kx _ _ H σ ρ E Fr.refl ⟨rfl, rfl⟩ q
theorem wr_drop (h : Wre Z W te ρ er) (q : Px ρ) : Wr Z W (tDrop te) ρ er Px := fun r X σ H E kx F => h r X σ H E (fun cls d H' E1 f1 e => kx cls d H' σ ρ E1 f1.fr e q) _
theorem wr_ret (h : Wre Z W te ρ er) (q : Px ρ) : Wr Z W (tRet te) ρ er Px := fun r X σ H E kx F => h r X σ H E (fun cls d H' E1 f1 e => kx cls d H' σ ρ E1 f1.fr e q) _
theorem wr_set (h : Wre Z W te ρ er) (q : Px ρ) {g : TG} : Wr Z W (tAsg te g) ρ er Px := fun r X σ H E kx F => h r X σ H E (fun cls d H' E1 f1 e => kx cls d H' σ ρ E1 f1.fr e q) _
/-- a call that raises -/
theorem wre_call {sp : Sp} {spec : List D → Er → Prop} (h : Wab Z tg ρ fun ds => spec ds er) : Wre Z W (tCallS (SpE Z sp spec) (WE W) tg) ρ er := fun r X σ H E kx k => h r X σ H E _ fun vs ds H1 E1 f1 b1 s1 =>
  .inr ⟨noA, ds, er, b1.rep0 E1, fun a z => False.elim z, s1, fun cls d H2 s e => kx cls d H2 (E1.same s) (f1.trans (Fx.same s)) e⟩
/-- for j in range(n): body: the turns ahead of n0 pass, that one raises -/
theorem wr_forR1 {ta : TA} (h : Wab Z ta ρ fun ds => ∃ n : Int, ds = [.int n] ∧ n ≤ 16777216 ∧ -16777216 ≤ n ∧ ∃ (n0 : Nat) (I : Nat → List En → Prop), n0 < n.toNat ∧ I 0 ρ ∧
      (∀ i ρ', i < n0 → I i ρ' → Wc Z ts (ρ'.set j (.v (.int ((i : Int))))) { nx := I (i + 1) }) ∧ ∀ ρ', I n0 ρ' → Wr Z W ts (ρ'.set j (.v (.int (n0 : Int)))) er Px) : Wr Z W (tFor (iRng1 ta) (gName j) ts) ρ er Px := fun r X σ H E kx F => h r X σ H E _ fun vs ds H1 E1 f1 b1 ⟨n, e, z1, z2, n0, I, hn, I0, It, Ix⟩ => by
  subst e
  obtain ⟨w, rfl, b⟩ := b1.one
  have e := b.int
  subst e
  refine ⟨n, rfl, by omega, by omega, fun i m σ' H' => m = n.toNat - i ∧ i ≤ n0 ∧ ∃ ρ', Sv Z r X H' σ' ρ' ∧ Fr r σ ρ H1 σ' ρ' H' ∧ I i ρ', ⟨n.toNat, by simp, Nat.zero_le _, ρ, E1, Fr.refl, I0⟩, ?_⟩
  rintro i m σ' H' ⟨rfl, hi, ρ', E2, f2, hI⟩
  have hlt : i < n.toNat := by omega
  refine .inr ⟨hlt, fun σ3 H3 => i + 1 ≤ n0 ∧ ∃ ρ3, Sv Z r X H3 σ3 ρ3 ∧ Fr r σ ρ H1 σ3 ρ3 H3 ∧ I (i + 1) ρ3, fun σ3 H3 q => ⟨n.toNat - (i + 1), by omega, rfl, q⟩, fun x H3 y => ?_⟩
  obtain ⟨e1, e2⟩ : H3 = H' ∧ x = .int (0 + (i : Int)) := y
  subst e1 e2
  rw [Int.zero_add]
  have f3 : Fr r σ' ρ' H3 (σ'.set j (some (.int (i : Int)))) (ρ'.set j (.v (.int (i : Int)))) H3 := fr_set rfl
  have f := (f1.fr.trans f2).trans f3
  by_cases c : i < n0
  · exact It i ρ' c hI r X _ H3 (E2.setv (rep_int.mpr rfl)) _ (fun σ4 ρ4 H4 E4 f4 q => ⟨by omega, ρ4, E4, (f2.trans f3).trans f4, q⟩) (fun _ _ _ _ _ _ _ _ q => False.elim q) (fun _ _ _ _ _ _ _ _ _ _ _ q => False.elim q) (fun _ _ _ _ _ _ _ _ _ q => False.elim q)
  · have ei : i = n0 := by omega
    subst ei
    exact (Ix ρ' hI).run (E2.setv (rep_int.mpr rfl)) f kx
/-- the def's own end -/
theorem run_R {spec : List D → Er → Prop} {N : List Str} {vs : List V} {H : Hp} {E : XK} (h : SpR Z spec vs H E)
    (hw : ∀ ds er, spec ds er → Wr Z (fun cls d _ H => E cls d H) ts (startE N ds) er fun _ => True) {F : Ends} : ts F (start N vs) H := by
  obtain ⟨A, ds, er, h1, h2, h3, k⟩ := h
  have no : ∀ σ b, ¬ Ow σ (startE N ds) b := fun _ _ => start_ow h1
  exact hw ds er h3 none A _ H (sv_start (N := N) h1 h2) (fun cls d H' σ' ρ' E1 f e _ => k cls d H' (fr_same (no _) f) e) F
theorem len_R {spec : List D → Er → Prop} {vs : List V} {H : Hp} {E : XK} {n : Nat} (h : SpR Z spec vs H E) (l : ∀ ds er, spec ds er → ds.length = n) : vs.length = n := by
  obtain ⟨A, ds, er, h1, _, h3, _⟩ := h
  rw [h1.length, l ds er h3]
/-! a call that may raise, and does not -/
theorem we_callE {spec : List D → (D → Prop) → Prop} {x : List D → Er → Prop} {Q : D → Prop} {E' : L2.St → XK} (h : Wa Z tg ρ fun ds => spec ds Q) : We Z (tCallS (SpE Z (SpV Z spec) x) E' tg) ρ Q := fun r X σ H E k hk => h r X σ H E _ fun vs ds H1 E1 f1 b1 s1 =>
  .inl ⟨Av r X σ ρ, ds, Q, b1, fun a z => E1.av_tracked z, s1, fun v d H2 s h2 q => hk v d H2 (E1.same s) (f1.trans (Fx.same s)) h2 q⟩
theorem we_callbE {spec : List D → (D → Prop) → Prop} {x : List D → Er → Prop} {Q : D → Prop} {E' : L2.St → XK} (h : Wab Z tg ρ fun ds => spec ds fun d => LF d = true ∧ Q d) : We Z (tCallS (SpE Z (SpV Z spec) x) E' tg) ρ Q := fun r X σ H E k hk => h r X σ H E _ fun vs ds H1 E1 f1 b1 s1 =>
  .inl ⟨noA, ds, _, b1.rep0 E1, fun a z => False.elim z, s1, fun v d H2 s h2 q => hk v d H2 (E1.same s) (f1.trans (Fx.same s)) (h2.lf q.1) q.2⟩
theorem wl_callE {spec : List D → (List D → Prop) → Prop} {x : List D → Er → Prop} {Q : List D → Prop} {E' : L2.St → XK} (h : Wa Z tg ρ fun ds => spec ds Q) : Wl Z (tCallS (SpE Z (SpL Z spec) x) E' tg) ρ Q := fun r X σ H E k hk => h r X σ H E _ fun vs ds H1 E1 f1 b1 s1 => by
  refine .inl ⟨Av r X σ ρ, ds, Q, b1, fun a z => E1.av_tracked z, s1, fun p ws es H2 s hp h2 h3 q => hk p ws es H2 (f1.new hp) (E1.grow s fun a z => ?_) (f1.trans (Fx.same s)) h2 (h3.mv ⟨fun a o n e => ⟨e, fun z => n ?_⟩, fun _ _ _ e => e⟩) q⟩
  · rcases z with z | z
    · exact .inl z
    · subst z; exact .inr ⟨hp, _, h2⟩
  · rcases z with z | (z | z) | z
    · exact .inl (.inl z)
    · exact .inl (.inr (.inl z))
    · exact .inr z
    · exact .inl (.inr (.inr z))
theorem wl_callbE {spec : List D → (List D → Prop) → Prop} {x : List D → Er → Prop} {Q : List D → Prop} {E' : L2.St → XK} (h : Wab Z tg ρ fun ds => spec ds fun es => LFL es = true ∧ Q es) : Wl Z (tCallS (SpE Z (SpL Z spec) x) E' tg) ρ Q := fun r X σ H E k hk => h r X σ H E _ fun vs ds H1 E1 f1 b1 s1 => by
  refine .inl ⟨noA, ds, _, b1.rep0 E1, fun a z => False.elim z, s1, fun p ws es H2 s hp h2 h3 q => hk p ws es H2 (f1.new hp) (E1.grow s fun a z => ?_) (f1.trans (Fx.same s)) h2 (h3.lf q.1) q.2⟩
  rcases z with z | z
  · exact .inl z
  · subst z; exact .inr ⟨hp, _, h2⟩
theorem wc_setOE {spec : List D → (Option (List D) → Prop) → Prop} {x : List D → Er → Prop} {E' : L2.St → XK} (h : Wab Z tg ρ fun ds => spec ds fun o => (o = none ∨ ∃ es, o = some es ∧ LFL es = true) ∧ match o with | none => P.nx (ρ.set i (.v .non)) | some es => P.nx (ρ.set i (.l es))) : Wc Z (tAsg (tCallS (SpE Z (SpO Z spec) x) E' tg) (gName i)) ρ P := fun r X σ H E F k1 _ _ _ => h r X σ H E _ fun vs ds H1 E1 f1 b1 s1 => by
  refine .inl ⟨noA, ds, _, b1.rep0 E1, fun a z => False.elim z, s1, fun p ws es H2 s hp h2 h3 q => ?_, fun H2 s q => ?_⟩
  · have f2 := f1.trans (Fx.same s)
    have n := f1.new hp
    have lf : LFL es = true := by
      rcases q.1 with z | ⟨es', z, l⟩
      · cases z
      · cases z; exact l
    refine k1 _ _ H2 (Sv.take (e := .l es) (E1.grow (X' := Xp X p) s fun a z => ?_) (E.x_new n) rfl ⟨p, ws, rfl, h2, h3.lf lf⟩) (fr_take f2 n) q.2
    rcases z with z | z
    · exact .inl z
    · subst z; exact .inr ⟨hp, _, h2⟩
  · exact k1 _ _ H2 ((E1.same s).setv (rep_non.mpr rfl)) ((f1.trans (Fx.same s)).fr.trans (fr_set rfl)) q.2
/-! ### try -/
def tTryO (K : PySem.W.Frag) (c : Value) (ts : Addr → Value → Option Addr → TS) (Wout : WX) (tb : WX → TS) : TS := fun D σ H => tb (wOnly K c ts Wout D) D σ H
def tTryA (K : PySem.W.Frag) (c : Value) (i : Nat) (ts : Addr → Value → Option Addr → TS) (Wout : WX) (tb : WX → TS) : TS := fun D σ H => tb (wAs K c i ts Wout D) D σ H
theorem wc_tryN {K : PySem.W.Frag} {c : Value} {s : Addr → Value → Option Addr → TS} {Wout : WX} {tb : WX → TS} (h : ∀ W, Wc Z (tb W) ρ P) : Wc Z (tTryO K c s Wout tb) ρ P := fun r X σ H E F => h _ r X σ H E F
theorem wc_tryAN {K : PySem.W.Frag} {c : Value} {s : Addr → Value → Option Addr → TS} {Wout : WX} {tb : WX → TS} (h : ∀ W, Wc Z (tb W) ρ P) : Wc Z (tTryA K c i s Wout tb) ρ P := fun r X σ H E F => h _ r X σ H E F
/-- the body raises what the clause names -/
theorem wc_tryR {K : PySem.W.Frag} {c : Value} {s : Addr → Value → Option Addr → TS} {Wout : WX} {tb : WX → TS} {C : Addr} (hx : PySem.W.exmOne K (.ref C) c = some true) (h : ∀ W, Wr Z W (tb W) ρ (.pl C) Px) (hs : ∀ a ρ', Px ρ' → Wc Z (s a (.ref C) none) ρ' P) : Wc Z (tTryO K c s Wout tb) ρ P := fun r X σ H E F k1 k2 k3 k4 => by
  refine h _ r X σ H E (fun cls d H' σ' ρ' E1 f1 e p => ?_) F
  obtain ⟨rfl, rfl⟩ := e
  exact ⟨true, hx, fun _ a _ => (hs a ρ' p).run E1 f1 k1 k2 k3 k4, fun z => nomatch z⟩
theorem wc_tryAR {K : PySem.W.Frag} {c : Value} {s : Addr → Value → Option Addr → TS} {Wout : WX} {tb : WX → TS} {C : Addr} (hx : PySem.W.exmOne K (.ref C) c = some true) (h : ∀ W, Wr Z W (tb W) ρ (.pl C) Px)
    (hs : ∀ a ρ', Px ρ' → Wc Z (s a (.ref C) none) (ρ'.set i (.v (.raw a))) { P with nx := fun ρ3 => P.nx (ρ3.set i .un) }) : Wc Z (tTryA K c i s Wout tb) ρ P := fun r X σ H E F k1 k2 k3 k4 => by
  refine h _ r X σ H E (fun cls d H' σ' ρ' E1 f1 e p => ?_) F
  obtain ⟨rfl, rfl⟩ := e
  refine ⟨true, hx, fun _ a _ => (hs a ρ' p).run (E1.setv (rep_raw.mpr rfl)) (f1.trans (fr_set rfl)) (fun σ3 ρ3 H3 E3 f3 q => k1 _ _ H3 (E3.drop none) (f3.trans (fr_set rfl)) q) k2 k3 k4, fun z => nomatch z⟩
theorem wc_tryAX {K : PySem.W.Frag} {c : Value} {s : Addr → Value → Option Addr → TS} {Wout : WX} {tb : WX → TS} {C : Addr} {f : Str} {n : Int} (hx : PySem.W.exmOne K (.ref C) c = some true) (h : ∀ W, Wr Z W (tb W) ρ (.num C f n) Px)
    (hs : ∀ a dd ρ', Px ρ' → Wc Z (s a (.ref C) (some dd)) (ρ'.set i (.v (.exn a dd f n))) { P with nx := fun ρ3 => P.nx (ρ3.set i .un) }) : Wc Z (tTryA K c i s Wout tb) ρ P := fun r X σ H E F k1 k2 k3 k4 => by
  refine h _ r X σ H E (fun cls d H' σ' ρ' E1 f1 e p => ?_) F
  obtain ⟨rfl, dd, rfl, hd⟩ := e
  refine ⟨true, hx, fun _ a _ => (hs a dd ρ' p).run (E1.setv (rep_exn.mpr ⟨rfl, hd⟩)) (f1.trans (fr_set rfl)) (fun σ3 ρ3 H3 E3 f3 q => k1 _ _ H3 (E3.drop none) (f3.trans (fr_set rfl)) q) k2 k3 k4, fun z => nomatch z⟩
/-- e.f in the suite -/
theorem we_xf {a dd : Addr} {C : Addr} {f : Str} {n : Int} {Q : D → Prop} (h : ρ[i]? = some (.v (.exn a dd f n))) (q : Q (.int n)) : We Z (tXf a (.ref C) (some dd) C f (tVar i)) ρ Q := fun r X σ H E k hk => by
  obtain ⟨v, h1, h2⟩ := E.at_ i _ h
  obtain ⟨rfl, h3⟩ := rep_exn.mp h2
  refine ⟨_, h1, rfl, rfl, dd, _, .int n, rfl, h3, by simp [List.lookup], hk _ _ H E Fx.refl (rep_int.mpr rfl) q⟩
end
section
variable {X : Cx} {x n : Str} {c : Value} {i : Nat} {body suite : List Stmt} {b₀ : Stmt} {np pos pos' : Pos} {tb : WX → TS} {ts : Addr → Value → Option Addr → TS} {Wout : WX}
theorem ps_tryO (K : PySem.W.Frag) (hs : X.stack = X.env :: X.outer) (hf : X.env.frame = some X.env.locals) (hc : Names X x c) (tk : Takes X Wout)
    (hb : ∀ (W : WX) (pn : List (Addr × Obj)) (xe : Value → Shared → Prop), Takes (X.tr pn xe) W → PassesOwn (model X.prog X.w) X.A X.env xe → PSs (X.tr pn xe) body (tb W))
    (hsu : ∀ (a : Addr) (oe : Obj) (cls : Value) (d : Option Addr) (pn : List (Addr × Obj)), Zc cls d oe → (∃ vs, oe.data = .fields vs) → PSs (X.suite a ((a, oe) :: pn)) (b₀ :: suite) (ts a cls d)) (hK : X.K = K := by rfl) :
    PS X (.Try body [.ExceptHandler (some (.Name x np)) none (b₀ :: suite) pos'] [] [] pos) (tTryO K c ts Wout tb) := by subst hK; exact ps_try_only hs hf hc tk hb hsu
theorem ps_tryA (K : PySem.W.Frag) (hs : X.stack = X.env :: X.outer) (hf : X.env.frame = some X.env.locals) (hN : X.N.Nodup) (hi : X.N[i]? = some n) (hln : X.env.kindOf n = some .local) (hc : Names X x c) (tk : Takes X Wout)
    (hb : ∀ (W : WX) (pn : List (Addr × Obj)) (xe : Value → Shared → Prop), Takes (X.tr pn xe) W → PassesOwn (model X.prog X.w) X.A X.env xe → PSs (X.tr pn xe) body (tb W))
    (hsu : ∀ (a : Addr) (oe : Obj) (cls : Value) (d : Option Addr) (pn : List (Addr × Obj)), Zc cls d oe → (∃ vs, oe.data = .fields vs) → PSs (X.suite a ((a, oe) :: pn)) (b₀ :: suite) (ts a cls d)) (hK : X.K = K := by rfl) :
    PS X (.Try body [.ExceptHandler (some (.Name x np)) (some n) (b₀ :: suite) pos'] [] [] pos) (tTryA K c i ts Wout tb) := by subst hK; exact ps_try_as hs hf hN hi hln hc tk hb hsu
end
end DL
/-! DL21: d.update(e) of dicts with pairs as keys; the hashes of pairs of small numbers are all unlike. -/
namespace DL
open PySem PySem.Spec PyProof.Rows L2
/-- the hash of a pair -/
def phN (c : Nat) : Int := reduceHash (Builtin.Tuple.tupleHashOf [((c / 64 : Nat) : Int), ((c % 64 : Nat) : Int)])
/-- all pairs a < b < 64 as 64 a + b, by their hashes, rising -/
def hashL : List Nat := [622, 2042, 434, 1059, 755, 2490, 2745, 1241, 2557, 937, 1192, 2927, 1319, 1574, 591, 378, 1756, 3060, 403, 826, 1081, 1263, 280, 637, 92, 3131, 3386, 1778, 2148, 795, 977, 2281, 236, 1655, 302, 1722, 114, 2104, 484, 739, 2474, 2170, 1121, 921, 1303, 2607, 1436, 628, 440, 3122, 810, 506, 2296, 943, 1325, 317, 2811, 142, 1458, 524,
  1828, 475, 3514, 857, 3326, 657, 1961, 31, 1784, 164, 850, 2154, 546, 1850, 2032, 983, 2287, 2669, 1049, 1661, 53, 120, 133, 490, 186, 872, 1976, 368, 2358, 1005, 2995, 1375, 22, 2861, 204, 1508, 1890, 337, 894, 694, 1331, 2750, 1397, 1197, 1579, 530, 1834, 226, 2216, 596, 2016, 1712, 663, 729, 1086, 170, 1905, 552, 352, 618,
  3391, 2038, 2408, 1055, 59, 1237, 2553, 241, 1570, 574, 1727, 374, 3056, 399, 744, 1126, 2430, 1077, 2867, 1259, 210, 276, 1696, 633, 88, 3127, 3382, 766, 1148, 2938, 1585, 1651, 602, 298, 3071, 1463, 414, 1718, 3453, 784, 2100, 480, 735, 1117, 1966, 2537, 917, 2603, 291, 1432, 624, 1789, 436, 806, 2492, 2292, 939, 2674, 2929, 1321,
  313, 125, 2807, 1758, 138, 1824, 828, 2618, 1265, 3000, 1635, 27, 282, 1447, 94, 3133, 464, 160, 846, 2150, 3836, 979, 2283, 1336, 1657, 49, 1469, 116, 1839, 486, 868, 2172, 1972, 2354, 1305, 1001, 1371, 18, 175, 200, 1504, 508, 890, 2298, 690, 2680, 1327, 2746, 2813, 1193, 144, 1575, 526, 1830, 326, 2212, 659, 1016, 1386, 1082,
  33, 1519, 166, 1901, 548, 348, 3387, 3642, 2034, 985, 1051, 55, 3902, 237, 2227, 874, 1723, 1978, 370, 2360, 740, 1122, 2426, 1377, 2542, 2863, 1255, 206, 1692, 629, 696, 1066, 762, 1199, 2934, 1581, 598, 3067, 410, 1714, 3449, 2096, 1113, 3582, 913, 1907, 287, 620, 1785, 432, 3775, 2410, 802, 2288, 1239, 935, 2670, 68, 309, 121,
  376, 134, 2111, 746, 1128, 928, 2614, 1006, 1261, 2996, 1631, 278, 1443, 635, 90, 447, 3129, 460, 2146, 1150, 950, 1332, 1587, 1653, 1465, 416, 3455, 1835, 482, 2217, 2472, 864, 664, 1968, 919, 2350, 1301, 1791, 171, 2161, 808, 3647, 990, 2294, 686, 2676, 7, 315, 127, 2809, 140, 497, 522, 1826, 879, 1983, 655, 1012, 3002, 1382,
  29, 1515, 162, 1897, 848, 544, 3317, 1952, 344, 3383, 2030, 1338, 1404, 51, 1471, 1841, 233, 2223, 870, 1719, 670, 1974, 366, 3709, 2356, 736, 1373, 2538, 1173, 177, 202, 559, 625, 2045, 692, 2682, 1062, 2748, 1195, 2930, 1577, 528, 594, 381, 3063, 406, 1018, 1084, 1266, 217, 1521, 3256, 1903, 283, 1703, 350, 2085, 3389, 720, 3771,
  2406, 1592, 239, 609, 305, 421, 1725, 117, 2107, 742, 2477, 1124, 2428, 924, 2610, 1561, 1257, 2992, 1627, 1439, 631, 86, 443, 456, 764, 1146, 946, 2936, 1328, 1649, 2814, 1765, 3069, 412, 3451, 1831, 782, 660, 915, 1272, 1642, 289, 101, 1787, 167, 2157, 804, 3643, 986, 2290, 2672, 3, 70, 56, 311, 123, 136, 493, 875, 1130,
  1979, 1312, 2616, 1008, 2998, 1378, 1633, 25, 2798, 1445, 207, 1511, 462, 340, 952, 2687, 1334, 1400, 151, 1467, 3190, 533, 1837, 2219, 866, 2019, 666, 1970, 1023, 2352, 40, 1369, 1526, 173, 198, 555, 2041, 992, 688, 4031, 2678, 1058, 9, 62, 1191, 2926, 881, 377, 2367, 1014, 2737, 1384, 1080, 2870, 1262, 213, 1517, 3252, 1899, 279,
  3319, 1699, 346, 703, 2081, 3385, 716, 1406, 1206, 1588, 235, 2225, 605, 417, 1721, 672, 3711, 2103, 738, 2473, 1120, 2540, 920, 1175, 2606, 561, 627, 2047, 439, 2417, 809, 1064, 760, 1246, 942, 2932, 263, 75, 316, 383, 1761, 3065, 408, 753, 3447, 1135, 831, 911, 2621, 1268, 1638, 285, 97, 2087, 467, 1783, 3773, 2153, 800, 982,
  2286, 1660, 611, 66, 307, 423, 119, 2109, 489, 2479, 871, 1975, 926, 2357, 1308, 2612, 2994, 1629, 1441, 445, 458, 815, 511, 2301, 948, 2683, 1330, 1767, 147, 3186, 529, 1833, 2215, 662, 1019, 36, 103, 1522, 169, 3512, 855, 2159, 551, 3324, 351, 2341, 3645, 2037, 988, 5, 58, 1848, 495, 191, 2230, 877, 677, 1981, 373, 2363,
  1010, 2733, 1380, 1180, 184, 1562, 2866, 209, 1513, 566, 1895, 1695, 342, 699, 3381, 1069, 1402, 1202, 3192, 1584, 535, 231, 2221, 601, 3070, 2021, 413, 1717, 668, 3707, 42, 2536, 916, 1171, 1528, 1910, 557, 357, 727, 2043, 2413, 1060, 1242, 2558, 246, 2928, 71, 312, 379, 1757, 3061, 749, 1131, 2617, 2872, 1264, 215, 3254, 1634, 281,
  397, 1701, 638, 93, 3132, 2083, 463, 718, 953, 1208, 2943, 1590, 1656, 607, 1772, 1468, 419, 789, 2105, 2475, 922, 1279, 1304, 2608, 296, 108, 1437, 441, 2164, 811, 2297, 944, 2679, 10, 265, 1326, 77, 318, 2812, 1763, 143, 525, 1137, 2623, 1015, 1270, 3005, 1640, 32, 1452, 99, 1822, 1518, 469, 851, 2155, 3320, 1955, 347, 959,
  3641, 984, 1341, 1, 1407, 1662, 1844, 491, 2226, 2481, 873, 673, 1977, 3967, 2359, 1310, 1376, 2796, 1176, 180, 2862, 205, 562, 817, 1691, 999, 2303, 695, 2685, 1065, 16, 2751, 1502, 1198, 149, 3188, 531, 331, 888, 2017, 1021, 1391, 1087, 38, 2877, 220, 1524, 1906, 553, 353, 2343, 723, 2039, 3774, 2409, 1056, 60, 1213, 1238, 242,
  2232, 612, 67, 679, 375, 2110, 2365, 745, 2735, 1127, 2431, 2547, 1182, 2613, 1564, 2868, 211, 568, 1630, 1442, 393, 1697, 634, 446, 701, 2424, 1071, 767, 949, 1204, 2939, 270, 1586, 603, 1768, 2023, 415, 3454, 785, 2101, 2471, 918, 1275, 1912, 292, 104, 359, 2094, 1790, 437, 2160, 1111, 2415, 807, 3580, 2293, 1244, 248, 6, 261,
  73, 314, 430, 126, 1759, 751, 2486, 1133, 933, 1315, 2619, 3001, 1636, 1448, 95, 3134, 465, 822, 847, 2151, 3316, 1951, 955, 980, 1337, 1658, 1774, 154, 1470, 1840, 791, 487, 2222, 2277, 669, 1973, 3708, 1306, 110, 1172, 176, 862, 2166, 558, 813, 2044, 995, 2299, 2681, 1061, 12, 1498, 145, 502, 527, 327, 884, 1017, 3007, 1387,
  34, 1454, 2873, 216, 1520, 471, 3255, 1902, 853, 3322, 1702, 653, 1957, 349, 3388, 719, 1343, 1209, 3199, 542, 1846, 238, 2228, 608, 2028, 1724, 675, 1045, 2361, 741, 2731, 2543, 1178, 1535, 182, 2864, 1917, 564, 364, 1693, 697, 2420, 1067, 1200, 253, 2935, 1886, 266, 1582, 333, 599, 1764, 3068, 411, 756, 781, 1393, 2879, 1271, 222,
  3261, 592, 1908, 288, 404, 1708, 100, 355, 2090, 725, 1107, 2411, 3576, 1215, 1240, 1597, 244, 1663, 614, 69, 426, 492, 747, 2482, 1129, 2549, 929, 1311, 2615, 1566, 2997, 1632, 1444, 395, 636, 91, 461, 818, 1073, 1151, 951, 2941, 272, 1333, 84, 3123, 1770, 150, 787, 1144, 1277, 1302, 1647, 294, 1459, 106, 476, 172, 3515, 858,
  2162, 1962, 991, 2295, 2677, 8, 141, 498, 2488, 880, 2366, 1317, 1013, 3003, 1383, 30, 2803, 1450, 2869, 212, 824, 849, 3318, 1698, 1953, 702, 957, 23, 1339, 1205, 156, 3195, 538, 1842, 2224, 2024, 671, 3710, 1041, 45, 2539, 1174, 1531, 178, 1913, 2168, 560, 360, 2046, 997, 693, 2416, 1367, 1063, 14, 1245, 196, 1500, 249, 504,
  262, 2239, 329, 886, 382, 752, 2742, 1389, 2554, 1189, 1571, 2875, 218, 575, 3257, 588, 1904, 3057, 400, 1704, 2086, 3390, 721, 1078, 3772, 2407, 1211, 1236, 1593, 240, 610, 422, 1726, 1047, 2108, 743, 2478, 2545, 925, 1307, 1919, 391, 632, 444, 1118, 2422, 814, 2300, 1251, 255, 2937, 268, 80, 1766, 758, 3452, 783, 1140, 1273, 3263,
  1643, 290, 1455, 1710, 102, 2092, 472, 1788, 3511, 854, 2158, 1109, 3578, 1958, 3644, 987, 1599, 4, 616, 1781, 428, 124, 1847, 798, 494, 3837, 2484, 2284, 1980, 931, 2666, 1313, 2999, 2799, 1446, 2173, 820, 1002, 19, 1335, 3125, 1505, 152, 509, 3191, 534, 1838, 2020, 667, 41, 1461, 1527, 478, 174, 2213, 3517, 1909, 860, 1964, 356,
  2346, 993, 2412, 63, 1496, 1853, 245, 500, 2235, 882, 682, 748, 2738, 1385, 2550, 2805, 1185, 189, 1567, 2871, 214, 571, 3253, 396, 1700, 651, 2082, 717, 1074, 1207, 158, 1893, 3197, 1589, 540, 606, 2026, 418, 1043, 47, 2541, 229, 1533, 1915, 295, 1715, 362, 2097, 732, 1114, 2418, 1247, 251, 2933, 264, 621, 76, 1762, 754, 2744,
  1136, 2556, 2622, 1573, 1269, 3004, 3259, 1639, 590, 286, 3059, 1451, 402, 1706, 98, 2088, 468, 1954, 958, 1340, 1595, 1777, 424, 1843, 794, 2480, 2280, 927, 3966, 1309, 301, 113, 2169, 816, 998, 2302, 1253, 2684, 15, 1435, 82, 3121, 1501, 148, 505, 3187, 2495, 887, 1142, 1324, 1020, 1645, 37, 2810, 1457, 1827, 1523, 474, 3513, 856,
  3325, 656, 1960, 2342, 3646, 989, 163, 545, 1849, 496, 3839, 2231, 878, 678, 1982, 2668, 1048, 2364, 52, 2734, 1381, 2546, 2801, 1181, 132, 185, 1563, 2175, 567, 392, 1004, 700, 1374, 1070, 21, 203, 1507, 1203, 1889, 3193, 536, 336, 893, 2022, 1396, 43, 225, 1529, 3519, 1911, 1711, 358, 2093, 2348, 728, 1110, 2414, 1243, 1855, 247,
  2237, 617, 72, 429, 684, 380, 1054, 750, 2740, 1132, 2552, 1187, 1569, 573, 586, 398, 639, 2084, 2429, 1076, 1258, 954, 275, 1591, 87, 1773, 420, 765, 790, 1147, 2476, 2276, 923, 1650, 297, 109, 2099, 734, 2165, 1116, 812, 2602, 994, 1249, 11, 1431, 623, 78, 319, 435, 1497, 805, 501, 2491, 883, 1138, 938, 1320, 3006, 1641,
  2806, 1453, 1823, 470, 827, 852, 3321, 652, 1956, 1342, 1779, 159, 3198, 2149, 541, 1845, 796, 978, 2282, 674, 1044, 48, 303, 115, 2797, 1177, 485, 181, 867, 2171, 563, 1971, 2353, 1000, 1370, 2686, 17, 199, 1503, 507, 3189, 532, 332, 889, 689, 2018, 1022, 1392, 39, 2878, 1829, 221, 1525, 3260, 2211, 3327, 1707, 658, 354, 2089,
  2344, 724, 1106, 1214, 165, 1900, 1596, 547, 1851, 243, 2233, 613, 2033, 425, 680, 1050, 54, 2736, 3901, 2548, 1183, 187, 1565, 569, 369, 394, 2425, 1072, 1254, 1509, 2940, 1891, 271, 83, 338, 895, 1769, 761, 786, 1143, 1398, 1580, 1276, 227, 1646, 597, 293, 3066, 409, 1713, 105, 3448, 2095, 730, 1112, 3581, 912, 619, 74, 431,
  801, 2487, 1134, 934, 1316, 2620, 308, 1637, 2802, 1449, 466, 823, 1260, 956, 277, 89, 3128, 459, 1775, 155, 3194, 537, 792, 1149, 2278, 1652, 44, 299, 1464, 111, 1530, 481, 863, 2167, 1967, 2349, 2604, 996, 1366, 13, 1433, 1499, 503, 2238, 2493, 328, 885, 685, 940, 2675, 1322, 2741, 1388, 2808, 1188, 139, 521, 2874, 1825, 829,
  587, 3323, 654, 1011, 28, 1514, 1210, 161, 1896, 543, 343, 2229, 2029, 676, 1046, 1403, 50, 2732, 2544, 1179, 232, 183, 1918, 869, 565, 365, 2355, 2421, 1372, 1068, 1250, 201, 254, 1887, 267, 79, 334, 891, 691, 757, 2747, 1139, 1394, 2559, 1194, 1576, 223, 3262, 593, 3062, 405, 1709, 2091, 726, 1083, 1108, 3577, 1598, 549, 615,
  1780, 2035, 427, 797, 1052, 2483, 3903, 930, 304, 371, 2106, 1123, 2427, 819, 2609, 1256, 2991, 1626, 2942, 273, 1438, 630, 85, 442, 3124, 1771, 763, 788, 1145, 945, 1278, 1648, 1460, 107, 3450, 477, 3516, 859, 2163, 3583, 1963, 914, 2345, 1786, 433, 2156, 1852, 803, 499, 2234, 2489, 2289, 681, 936, 2671, 2, 1318, 310, 122, 2804,
  1184, 135, 188, 1821, 570, 825, 1007, 24, 3130, 1510, 157, 1892, 3196, 2147, 539, 339, 2025, 976, 1042, 1399, 1654, 46, 1466, 1836, 228, 1532, 483, 179, 2218, 1914, 865, 665, 1969, 361, 2351, 731, 1368, 197, 554, 250, 330, 2040, 687, 1057, 61, 2743, 1390, 2555, 1190, 1572, 523, 2876, 219, 3258, 589, 3058, 401, 1705, 722, 1079,
  1516, 1212, 3251, 1898, 1594, 345, 3384, 1776, 2031, 793, 1405, 2279, 234, 604, 300, 1720, 112, 367, 2102, 737, 1119, 2423, 2605, 1252, 269, 1434, 626, 81, 438, 759, 2494, 2749, 1141, 941, 1196, 2931, 1323, 1578, 1274, 1644, 595, 1760, 3064, 1456, 407, 3446, 473, 830, 1085, 3579, 1959, 1267, 284, 96, 3135, 1782, 2152, 799, 3838, 2485,
  981, 2285, 932, 2667, 1314, 1659, 306, 118, 2800, 131, 488, 2174, 1125, 821, 2611, 1003, 2993, 1628, 20, 1440, 3126, 1506, 457, 153, 510, 1888, 335, 892, 947, 1329, 1395, 2815, 146, 1462, 1832, 224, 479, 2214, 3518, 861, 661, 1965, 2347, 35, 168, 550, 1854, 2236, 2036, 2291, 683, 2673, 1053, 57, 2739, 2551, 1186, 137, 190, 1568,
  876, 572, 372, 2362, 1009, 1379, 1075, 26, 2865, 208, 1512, 1894, 274, 1694, 341, 698, 2027, 1401, 1201, 1583, 230, 1534, 2220, 600, 1916, 1716, 363, 3706, 2098, 733, 1115, 2419, 2601, 1248, 556, 252]
def upB : List Nat → Bool
  | [] => true
  | [_] => true
  | a :: b :: r => decide (phN a < phN b) && upB (b :: r)
theorem hashL_up : upB hashL = true := by decide +kernel
def maskL (l : List Nat) : Nat := l.foldr (fun c m => (1 <<< c) ||| m) 0
theorem mask_mem : ∀ {l : List Nat} {c : Nat}, (maskL l).testBit c = true → c ∈ l
  | [], c, h => by simp [maskL] at h
  | a :: l, c, h => by
    have h : ((1 <<< a) ||| maskL l).testBit c = true := h
    rw [Nat.testBit_or, Bool.or_eq_true] at h
    rcases h with h | h
    · rw [Nat.one_shiftLeft, Nat.testBit_two_pow] at h
      have e : a = c := by simpa using h
      rw [e]; exact List.mem_cons_self
    · exact List.mem_cons_of_mem _ (mask_mem h)
def fullM : Nat := 28308217353696145249217191649726837303262630506725702224674117562350850637635905208738675597916192897771951770525197526975382009120457810898761982555189647361782832339319437364770591167825175326669982551499014133878255521770454359232187025853010803225380542676433495116298138907273669751206279203747533298972184947075910456721135986260565625467784148750149783013725738549504718954393439996313271588820783997070168716937458394910145919334392857247138782058597402327144548926953780081216518576622317294619238522147607239402577909167525313971359566934371532512202353469474353612796340177561632893691945278767001866035414613285584089614064190463626510171935524835260658539298888282853035039949288654206359767237567541877631850711836594192785575907755240855281396629484890929620055876314253513079111237074406679905782463452955254402073814926367446346609442587037318900166399857440096153685102500742466370268203012513096057456383761657933739814393160202838914231096299966914278814197709430147171756933495013709650658334301204429863221210355882662024399226189560110101927397004812919431370491041641408437752288279356208282760512821430997414668752066002489108400722313124130264447920105092502122125145600214688771726114814
theorem hashL_mask : maskL hashL = fullM := by decide +kernel
theorem full_bits : ∀ c : Fin 4096, c.val / 64 < c.val % 64 → fullM.testBit c.val = true := by decide +kernel
theorem up_pw : ∀ {l : List Nat}, upB l = true → l.Pairwise fun a b => phN a < phN b
  | [], _ => .nil
  | [a], _ => List.pairwise_singleton _ _
  | a :: b :: r, h => by
    rw [upB, Bool.and_eq_true, decide_eq_true_iff] at h
    have ih := up_pw h.2
    refine List.pairwise_cons.mpr ⟨fun x hx => ?_, ih⟩
    rcases List.mem_cons.mp hx with rfl | hx
    · exact h.1
    · exact Int.lt_trans h.1 ((List.pairwise_cons.mp ih).1 x hx)
theorem phN_inj {c d : Nat} (hc : c < 4096) (hd : d < 4096) (c1 : c / 64 < c % 64) (d1 : d / 64 < d % 64) (e : phN c = phN d) : c = d := by
  have mem : ∀ x, x < 4096 → x / 64 < x % 64 → x ∈ hashL := fun x hx h => by
    have := full_bits ⟨x, hx⟩ h
    rw [← hashL_mask] at this
    exact mask_mem this
  have h1 := mem c hc c1
  have h2 := mem d hd d1
  have pw := up_pw hashL_up
  obtain ⟨i, hi, ei⟩ := List.getElem_of_mem h1
  obtain ⟨j, hj, ej⟩ := List.getElem_of_mem h2
  have q := List.pairwise_iff_getElem.mp pw
  rcases Nat.lt_trichotomy i j with z | z | z
  · have := q i j hi hj z
    rw [ei, ej, e] at this
    exact absurd this (Int.lt_irrefl _)
  · subst z
    rw [← ei, ej]
  · have := q j i hj hi z
    rw [ei, ej, e] at this
    exact absurd this (Int.lt_irrefl _)
end DL
/-! DL22: len(set(xs)) of numbers; d.update(e), len(d) of dicts with pairs as keys; the index of a data item. -/
namespace L2
open PySem PySem.Spec PyProof.Rows
def ddup (ns : List Int) : List Int := ns.foldl step_dedup []
theorem first_ddup (ns : List Int) : PyProof.Rows.firstMet (fun i => ns.getD i 0) ns.length = ddup ns := by
  unfold PyProof.Rows.firstMet ddup
  congr 1
  refine List.ext_getElem (by simp) fun i h1 h2 => ?_
  simp [h2]
def tLenSetG (K : PySem.W.Frag) (ta : TE) : TE := fun σ H Q => ta σ H fun x H1 => ∃ (l : Addr) (ns : List Int), x = .ref l ∧ SqL K H1 l (ns.map V.int) ∧ ns.length ≤ 4000 ∧ Q (.int ((ddup ns).length : Nat)) H1
theorem pe_lenSetG (K : PySem.W.Frag) {X : Cx} {a : Expr} {ta : TE} {p p2 q pos : Pos} (hg : Gl X "len") (hm : X.mg "len" = none) (hg2 : Gl X "set") (hm2 : X.mg "set" = none) (ha : PE X a ta) (hc : X.calm = true := by rfl)
    (na : starEach [a] X.env = (false, eval a X.env) :: starEach [] X.env := by rfl) (hK : X.K = K := by rfl) : PE X (.Call (.Name "len" p) [.Call (.Name "set" p2) [a] [] q] [] pos) (tLenSetG K ta) := by
  subst hK
  refine ⟨fun pins s σ H Q I h => ?_⟩
  refine Call_ (ld_blt I hg hm boot_len ?_)
  refine PyProof.Rows.callWith_builtin1 (PyProof.Rows.args_cons ?_ rfl) rfl rfl
  refine Call_ (ld_blt I hg2 hm2 boot_set ?_)
  refine PyProof.Rows.callWith_type1 (PyProof.Rows.args_cons (thn (ha.run pins s σ H _ I h) fun v s1 ⟨x, H1, I1, r1, q1⟩ => PyProof.Rows.args_nil ?_) na) na rfl
  obtain ⟨l, ns, rfl, hq, hl, q1⟩ := q1
  cases r1
  obtain ⟨its, r, pl, hz⟩ := I1.list hq
  have hlen : its.toArray.size = ns.length := by rw [List.size_toArray, ← r.length, List.length_map]
  refine call_set_list (I1.ok.hd hc) pl.isList (by simpa using RZ.intsAre_vals r) (by rw [hlen]; unfold scanBound; omega) fun h' tk hS hk => ?_
  refine PyProof.Rows.args_nil ?_
  rw [hlen, first_ddup] at hS
  obtain ⟨o, es, ep, t, ho, hex, hd, _, _, _, hf, hn⟩ := hS
  have I2 : Inv X pins σ H1 { s1 with heap := h', toks := tk } := I1.kept fun b o e => hk b o (Heap.lt_size e) e
  have hle : (ddup ns).length ≤ ns.length := by rw [← first_ddup]; exact PyProof.Rows.firstMet_length_le _ _
  exact call_len_set ho hex hd hf (by rw [hn] <;> omega) ⟨.int (ddup ns).length, H1, I2.tok _, ⟨_, by rw [hn]⟩, q1⟩
end L2
namespace L2
open PySem PySem.Spec PyProof.Rows
def mergeT (kvs more : List (List Key × V)) : List (List Key × V) := more.foldl (fun acc p => putK acc p.1 p.2) kvs
theorem mergeT_le : ∀ (more kvs : List (List Key × V)), (mergeT kvs more).length ≤ kvs.length + more.length
  | [], kvs => by simp [mergeT]
  | p :: more, kvs => by
    have h1 := mergeT_le more (putK kvs p.1 p.2)
    have h2 := length_putK kvs p.1 p.2
    show (mergeT (putK kvs p.1 p.2) more).length ≤ _
    rw [List.length_cons]
    omega
theorem KT.merge {H : Hp} : ∀ {more : List (List Key × V)} {ys : List (List Key × Addr × Value)} {kvs : List (List Key × V)} {xs : List (List Key × Addr × Value)}, KT H kvs xs → KT H more ys → KT H (mergeT kvs more) (storedAllH xs ys)
  | [], _, _, _, r, .nil => r
  | p :: more, _, kvs, xs, r, @Paired.cons _ _ _ _ q _ ys h t => by
    obtain ⟨h1, h2, h3⟩ := h
    have r' := KT.put r p.1 h2 h3
    rw [h1] at r'
    have := KT.merge r' t
    show KT H (mergeT (putK kvs p.1 p.2) more) _
    rw [h1]
    exact this
theorem KT.keys {H : Hp} : ∀ {more : List (List Key × V)} {ys : List (List Key × Addr × Value)}, KT H more ys → ys.map (·.1) = more.map (·.1)
  | _, _, .nil => rfl
  | _, _, .cons h t => by rw [List.map_cons, List.map_cons, KT.keys t, h.1]
/-- keys that are pairs a < b < 64 -/
def SmK (ks : List Key) : Prop := ∃ a b : Nat, ks = [.inl (a : Int), .inl (b : Int)] ∧ a < b ∧ b < 64
theorem hashInt_small {i : Nat} (h : i < 64) : PySem.hashInt (i : Int) = (i : Int) := by
  have : ∀ j : Fin 64, PySem.hashInt (j.val : Int) = (j.val : Int) := by decide +kernel
  exact this ⟨i, h⟩
theorem smk_hash {P : Program} {w : World} {a b : Nat} (h1 : a < b) (h2 : b < 64) : (tupleKind (mixKind P w)).hash [.inl (a : Int), .inl (b : Int)] = DL.phN (64 * a + b) := by
  show reduceHash (Builtin.Tuple.tupleHashOf [PySem.hashInt (a : Int), PySem.hashInt (b : Int)]) = _
  rw [hashInt_small h2, hashInt_small (by omega)]
  unfold DL.phN
  rw [show (64 * a + b) / 64 = a by omega, show (64 * a + b) % 64 = b by omega]
theorem smk_inj {P : Program} {w : World} {x y : List Key} (hx : SmK x) (hy : SmK y) (e : (tupleKind (mixKind P w)).hash x = (tupleKind (mixKind P w)).hash y) : x = y := by
  obtain ⟨a, b, rfl, h1, h2⟩ := hx
  obtain ⟨c, d, rfl, h3, h4⟩ := hy
  rw [smk_hash h1 h2, smk_hash h3 h4] at e
  have := DL.phN_inj (c := 64 * a + b) (d := 64 * c + d) (by omega) (by omega) (by omega) (by omega) e
  have e1 : a = c := by omega
  have e2 : b = d := by omega
  rw [e1, e2]
def rUpdT : V → List V → Hp → VK → Prop := fun x vs H Q => ∃ (d o : Addr) (kvs more : List (List Key × V)), x = .ref d ∧ vs = [.ref o] ∧ H d = some (.dT kvs) ∧ H o = some (.dT more) ∧ d ≠ o ∧ kvs.length + more.length ≤ sizeLine ∧ (∀ p ∈ more, SmK p.1) ∧ Q .non (upd H d (.dT (mergeT kvs more)))
theorem mt_updT {X : Cx} (hu : X.A.units + 1 < cLine) : MtR X "dict.update" rUpdT := by
  intro pins s σ H x xs v us Q I rx rxs h
  obtain ⟨d, o, kvs, more, rfl, rfl, hd, ho, ne, hz, sm, q⟩ := h
  cases rx
  obtain ⟨u, rfl, ru⟩ := rxs.one
  cases (show u = Value.ref o from ru)
  obtain ⟨z1, hs1, ys, rel1, dd1⟩ := dt_of I.hok hd
  obtain ⟨z2, hs2, zs, rel2, dd2⟩ := dt_of I.hok ho
  have l1 : kvs.length = ys.length := Paired.length rel1
  have l2 : more.length = zs.length := Paired.length rel2
  have hk := rel2.keys
  have hsm : ∀ y ∈ zs, SmK y.1 := fun y hy => by
    have : y.1 ∈ zs.map (·.1) := List.mem_map.mpr ⟨y, hy, rfl⟩
    rw [hk] at this
    obtain ⟨p, hp, e⟩ := List.mem_map.mp this
    rw [← e]
    exact sm p hp
  have nd := dd2.nodup
  have hap : (zs.map fun x => (tupleKind (mixKind X.prog X.w)).hash x.1).Nodup := by
    unfold List.Nodup at nd ⊢
    rw [List.pairwise_map] at nd ⊢
    exact nd.imp_of_mem fun {a b} ha hb n e => n (smk_inj (hsm a ha) (hsm b hb) e)
  have hty : ∀ y ∈ zs, s.TypeIs (.ref y.2.1) "tuple" := fun y hy => by
    obtain ⟨ob, es, ep, h1, h2, h3, h4, h5, h6⟩ := dd2
    obtain ⟨o2, its, n, g1, g2, _⟩ := h5 y hy
    exact ⟨o2, g1, g2⟩
  refine call_update_dictH (tupleKind_room_in1 hu) ne hs2 dd1 dd2 (.inr ⟨hty, hap⟩) (by rw [← l1, ← l2]; exact hz) fun h' dd' _ hs => ?_
  obtain ⟨ob, es, ep, hq, h2, h3, h4, _, h5⟩ := dd'
  have hl := mergeT_le more kvs
  refine ⟨.non, _, d_write (ob := .dT (mergeT kvs more)) I (by rw [hd]; exact True.intro) hs ⟨ob, hq⟩ ⟨by omega, hs1, _, (rel1.merge rel2).keeps fun c ys ec => ?_, ob, es, ep, hq, h2, h3, h4, h5⟩, rfl, q⟩
  rw [upd_ne (ne_of ec hd (fun z => nomatch z))]
  exact ec
end L2
namespace L2
open PySem PySem.Spec PyProof.Rows
/-- y = [.. for x in d]: the dict locked -/
theorem ps_lockA {X : Cx} {st : Stmt} {te : TE} {i : Nat} (h : PS X st (tAsg te (gName i))) : PS X st (tAsg (tLockE te) (gName i)) := ps_lock h
end L2
namespace DL
open PySem PySem.Spec PyProof.Rows L2
def mergeI (kvs more : List (List Int × V)) : List (List Int × V) := more.foldl (fun acc p => putK acc p.1 p.2) kvs
theorem mergeT_keyT : ∀ (more kvs : List (List Int × V)), mergeT (keyT kvs) (keyT more) = keyT (mergeI kvs more)
  | [], kvs => rfl
  | p :: more, kvs => by
    show mergeT (putK (keyT kvs) (p.1.map Sum.inl) p.2) (keyT more) = keyT (mergeI (putK kvs p.1 p.2) more)
    rw [putK_keyT, mergeT_keyT more]
def SmP (ks : List Int) : Prop := ∃ a b : Nat, ks = [(a : Int), (b : Int)] ∧ a < b ∧ b < 64
section
variable {Z : Cs} {ρ : List En} {P : Po} {te ta tb : TE} {i : Nat} {d : D} {ds : List D} {Q : D → Prop}
theorem wc_updT {kvs : List (List Int × V)} (hi : ρ[i]? = some (.t kvs)) (h : Wd Z te ρ fun more => kvs.length + more.length ≤ sizeLine ∧ (∀ p ∈ more, SmP p.1) ∧ P.nx (ρ.set i (.t (mergeI kvs more)))) : Wc Z (tDrop (tBM Z.K "dict" rUpdT (tVar i) (tCons te tNil))) ρ P := fun r X σ H E F k1 _ _ _ => by
  obtain ⟨a, h1, h2⟩ := E.at_ i _ hi
  refine ⟨_, h1, .inr (.inr (.inl ⟨rfl, .inr ⟨_, h2⟩⟩)), h r X σ H E _ fun p more H1 n E1 f1 q1 ⟨l, sm, q⟩ => ?_⟩
  obtain ⟨b, g1, g2⟩ := E1.at_ i _ hi
  rw [h1] at g1
  cases g1
  have ne : a ≠ p := fun z => by
    subst z
    rw [h2] at n
    cases n
  refine ⟨a, p, _, _, rfl, rfl, g2, q1, ne, by unfold keyT; rw [List.length_map, List.length_map]; exact l, fun x hx => ?_, ?_⟩
  · obtain ⟨y, hy, rfl⟩ := List.mem_map.mp hx
    obtain ⟨c, d, e, h3, h4⟩ := sm y hy
    exact ⟨c, d, by simp only; rw [e]; rfl, h3, h4⟩
  · rw [mergeT_keyT]
    obtain ⟨E3, f3⟩ := E1.mut (e' := .t (mergeI kvs more)) (o := .dT (keyT (mergeI kvs more))) hi rfl h1 rfl g2 rfl ⟨a, rfl, upd_same⟩
    exact k1 _ _ _ (E3.less fun _ z => .inl z) (f1.fr.trans f3) q
theorem we_lenset (h : Wb Z te ρ fun d => ∃ ns : List Int, d = .lst (ns.map .int) ∧ ns.length ≤ 4000 ∧ Q (.int ((ddup ns).length : Nat))) : We Z (tLenSetG Z.K te) ρ Q := fun r X σ H E k hk => h r X σ H E _ fun v d H1 E1 f1 b1 ⟨ns, e, l, q⟩ => by
  subst e
  obtain ⟨a, vs, rfl, h3, h4⟩ := b1.lst E1
  have e := repL_ints.mp h4
  subst e
  exact ⟨a, ns, rfl, .of h3, l, hk _ _ H1 E1 f1 (rep_int.mpr rfl) q⟩
theorem cd_lenT2 {kvs : List (List Int × V)} (q : Q (.int kvs.length)) : CbD Z ρ rLenT [.dt kvs] Q := fun r X σ H vs E h k hk => by
  obtain ⟨v, rfl, b⟩ := h.one
  obtain ⟨a, rfl, h1⟩ := b.dt E
  refine ⟨a, keyT kvs, rfl, h1, ?_⟩
  have e : (keyT kvs).length = kvs.length := List.length_map _
  rw [e]
  exact hk _ _ H E Fx.refl (rep_int.mpr rfl) q
/-- xs.index(x), x there -/
theorem we_indexD {α : Type} [DecidableEq α] {enc : α → D} {n : Nat} (kd : Kd enc n) (hn : n ≤ 20) (h : Wb Z te ρ fun d => ∃ xs : List α, d = .lst (xs.map enc) ∧ Wb Z ta ρ fun y => ∃ x : α, y = enc x ∧ x ∈ xs ∧ Q (.int (xs.idxOf x))) : We Z (tBM Z.K "list" (rIndexD Z.K) te (tCons ta tNil)) ρ Q := fun r X σ H E k hk =>
  h r X σ H E _ fun v d H1 E1 f1 b1 ⟨xs, e, h1⟩ => by
    subst e
    obtain ⟨a, vs, rfl, h3, h4⟩ := b1.lst E1
    refine ⟨tyV_l h3, h1 r X σ H1 E1 _ fun w y H2 E2 f2 b2 ⟨x, e, hx, q⟩ => ?_⟩
    subst e
    have shl : SeqAt.shaped (toPy (.lst (xs.map enc))) = true := (kd_lst kd).sh (by omega) xs
    have b1' := (b1.keep f2).dp E2 (canLay_of shl)
    rw [toPy_lst] at b1' shl
    have hi := List.idxOf_lt_length_iff.mpr hx
    refine ⟨a, w, toPy (enc x), _, xs.idxOf x, toPy (enc x), rfl, rfl, b1', b2.dp E2 (kd.can x), shl, kd.sh (by omega) x, ?_, ?_, fun m z' hm hz => ?_, hk _ _ H2 E2 (f1.trans f2) (rep_int.mpr rfl) q⟩
    · rw [List.getElem?_map, List.getElem?_map, List.getElem?_eq_getElem hi, List.getElem_idxOf hi]
      rfl
    · rw [kd.eqv]; simp
    · rw [List.getElem?_map, List.getElem?_map, List.getElem?_eq_getElem (by omega)] at hz
      cases hz
      rw [kd.eqv, decide_eq_false_iff_not]
      intro z
      have := List.not_of_lt_findIdx (p := fun y => y == x) (xs := xs) (show m < List.findIdx (fun y => y == x) xs from hm)
      simp [z] at this
end
end DL
/-! DL23: own errors with a number; isinstance of what is caught. -/
namespace DL
open PySem PySem.Spec PyProof.Rows L2
/-- the __init__ of an own error: its field f holds n -/
def SpXI (C : Addr) (f : Str) : Sp := fun vs H Q _ => ∃ (a : Addr) (n : Int), vs = [.ref a, .int n] ∧ H a = some (exo a C none) ∧ ∀ d, d ≠ a → H d = none → Q .non (upd (upd H d (exd d [(f, .int n)])) a (exo a C (some d)))
structure En1 (P : Program) (w : World) (K : PySem.W.Frag) (mg : Str → Option Value) (base : Heap) (x : Str) (C : Addr) (f : Str) : Prop where
  gP : mg x = some (.ref C)
  ox : OexC K C
  xf : XfC K C
  no : PySem.W.findIn K (.ref C) f = some none
  ini : ∃ fI fdI, PySem.W.findIn K (.ref C) "__init__" = some (some (.ref fI)) ∧ PySem.W.typeIn K (.ref fI) = some (.type "function") ∧ FnOk P w K mg base CX0 1 fI fdI ["self", f] (SpXI C f) ∧ Binds K fdI ["self", f] []
def tRo (W : WX) (C : Addr) (f : Str) (ta : TA) : TS := fun _ σ H => tMkO C (SpXI C f) [] ta σ H fun cls d H' => W cls d σ H'
theorem ps_raiseN {X : Cx} {x f : Str} {C fI : Addr} {fdI : FuncData} {e : Expr} {es : List Expr} {ta : TA} {W : WX} {p pos pos2 : Pos} (hc : X.calm = true) (tk : Takes X W) (T : OexC X.K C) (iC : PySem.W.findIn X.K (.ref C) "__init__" = some (some (.ref fI))) (tI : PySem.W.typeIn X.K (.ref fI) = some (.type "function"))
    (F1 : FnOk X.prog X.w X.K X.mg X.base CX0 1 fI fdI ["self", f] (SpXI C f)) (hb : Binds X.K fdI ["self", f] []) (hr : Room 2 X.A) (hm : X.mg x = some (.ref C)) (hg : Gl X x) (ha : PA X (e :: es) ta)
    (hdb : (x == ("__debug__" : Str)) = false := by decide) (he : starEach (e :: es) X.env = (false, eval e X.env) :: starEach es X.env := by rfl) (hpl : (backTo pos (starEach es X.env)).any (·.1) = false := by rfl) :
    PS X (.Raise (some (.Call (.Name x p) (e :: es) [] pos)) none pos2) (tRo W C f ta) := ps_raise hc tk (pmk_oex T iC tI F1 hr hb .nil pass0 hg hm ha hdb he hpl)
section
variable {Z : Cs} {ρ : List En} {P : Po} {te tb tl : TE} {ta : TA} {i j : Nat} {W : WX} {Px : List En → Prop} {Q : D → Prop}
theorem wr_raiseN {C : Addr} {f : Str} {n : Int} (h : Wab Z ta ρ fun ds => ds = [.int n]) (q : Px ρ) : Wr Z W (tRo W C f ta) ρ (.num C f n) Px := fun r X σ H E kx F => h r X σ H E _ fun vs ds H1 E1 f1 b1 e => by
  subst e
  obtain ⟨v, rfl, b⟩ := b1.one
  have e := b.int
  subst e
  refine ⟨(by decide : 1 ≤ 1000), fun a ha => ⟨a, n, rfl, upd_same, fun d hda hd => ⟨rfl, d, [(f, .int n)], upd_same, ?_, ?_, ?_⟩⟩⟩
  · rw [upd_ne hda, upd_same]
  · rw [upd_ne hda] at hd; exact hd
  · have hd1 : H1 d = none := by rw [upd_ne hda] at hd; exact hd
    have eh : upd (del (upd (upd (upd H1 a (exo a C none)) d (exd d [(f, .int n)])) a (exo a C (some d))) a) d (.xd [(f, .int n)]) = upd H1 d (.xd [(f, .int n)]) := by
      funext b
      by_cases hb : b = d
      · subst hb; rw [upd_same, upd_same]
      · rw [upd_ne hb, upd_ne hb]
        by_cases hb2 : b = a
        · subst hb2; rw [del_same, ha]
        · rw [del_ne hb2, upd_ne hb2, upd_ne hb, upd_ne hb2]
    rw [eh]
    have s := same_upd (o := .xd [(f, .int n)]) hd1
    exact kx _ _ _ σ ρ (E1.same s) (f1.trans (Fx.same s)).fr ⟨rfl, d, rfl, upd_same⟩ q
/-- isinstance(e, c), e what is caught -/
def rIsX (K : PySem.W.Frag) (a : Addr) (cls : Value) (d : Option Addr) : List V → Hp → VK → Prop := fun xs H Q => ∃ (D : Addr) (c : V) (cv : Value) (b : Bool), xs = [.ref a, c] ∧ cls = .ref D ∧ ExcC K D ∧ (d = none ∨ ∃ dd fs, d = some dd ∧ H dd = some (.xd fs)) ∧ (∀ u, RelV c u → u = cv) ∧ PySem.W.kitOne K (.ref D) cv = some b ∧ Q (.bl b) H
theorem call_isX (K : PySem.W.Frag) {X : Cx} {a : Addr} {cls : Value} {d : Option Addr} {oe : Obj} {pn : List (Addr × Obj)} (hz : Zc cls d oe) (hf : ∃ vs, oe.data = .fields vs) (hK : X.K = K := by rfl) : CallR (X.suite a ((a, oe) :: pn)) (.builtin "isinstance") (rIsX K a cls d) := by
  subst hK
  intro pins s σ H xs us Q I r h
  obtain ⟨D, c, cv, b, rfl, rfl, C, hd, hcv, e, q⟩ := h
  cases r with
  | cons rx rr =>
    cases rr with
    | cons rt rr =>
      cases rr
      cases rx
      have ec := hcv _ rt
      subst ec
      obtain ⟨hget, _⟩ := I.pin (a, oe) (List.mem_append.mpr (.inl List.mem_cons_self))
      obtain ⟨vs, hv⟩ := hf
      have J : ∃ od, PySem.W.InstAt s.heap a oe D od := by
        obtain ⟨oc, od, oda, osl⟩ := oe
        obtain ⟨h1, h2⟩ := hz
        dsimp only at h1 h2 hv
        subst h1 h2 hv
        rcases hd with rfl | ⟨dd, fs, rfl, hx⟩
        · exact ⟨none, hget, rfl, rfl, trivial⟩
        · obtain ⟨mA, hns, hr⟩ : ∃ mA, s.heap.Ns1 dd mA ∧ ∀ f, RelO (fs.lookup f) (mA f) := I.hok dd _ hx
          obtain ⟨od, ho, hl⟩ := lookIn_ns hns
          exact ⟨some od, hget, rfl, rfl, ho⟩
      obtain ⟨od, J⟩ := J
      have hcl : (PySem.W.clsIn X.K D).isSome = true := by
        have := C.hd
        unfold PySem.W.hasDictIn at this
        cases e : PySem.W.clsIn X.K D with
        | none => rw [e] at this; cases this
        | some _ => rfl
      exact PySem.W.kia_one (PySem.W.kitx_exc hcl C.hg C.hk C.hs C.ha C.hn C.ht C.hm) I.kIn J e (fun z => nomatch z) fun tk => ⟨.bl b, H, I.kept (t' := tk) fun _ _ z => z, rfl, q⟩
theorem we_isxN {a dd D c : Addr} {f : Str} {n : Int} {b : Bool} (C : ExcC Z.K D) (e : PySem.W.kitOne Z.K (.ref D) (.ref c) = some b) (h : ρ[i]? = some (.v (.exn a dd f n))) (q : Q (.bl b)) :
    We Z (tCB (rIsX Z.K a (.ref D) (some dd)) (tCons (tVar i) (tCons (tC (.ref c)) tNil))) ρ Q := fun r X σ H E k hk => by
  obtain ⟨v, h1, h2⟩ := E.at_ i _ h
  obtain ⟨rfl, h3⟩ := rep_exn.mp h2
  exact ⟨_, h1, D, .ref c, .ref c, b, rfl, rfl, C, .inr ⟨dd, _, rfl, h3⟩, fun u z => z, e, hk _ _ H E Fx.refl (rep_bl.mpr rfl) q⟩
theorem we_isxNt {a dd D : Addr} {T : String} {f : Str} {n : Int} {b : Bool} (C : ExcC Z.K D) (e : PySem.W.kitOne Z.K (.ref D) (.type T) = some b) (h : ρ[i]? = some (.v (.exn a dd f n))) (q : Q (.bl b)) :
    We Z (tCB (rIsX Z.K a (.ref D) (some dd)) (tCons (tVar i) (tCons (tC (.ty T)) tNil))) ρ Q := fun r X σ H E k hk => by
  obtain ⟨v, h1, h2⟩ := E.at_ i _ h
  obtain ⟨rfl, h3⟩ := rep_exn.mp h2
  exact ⟨_, h1, D, .ty T, .type T, b, rfl, rfl, C, .inr ⟨dd, _, rfl, h3⟩, fun u z => z, e, hk _ _ H E Fx.refl (rep_bl.mpr rfl) q⟩
theorem we_isxP {a D c : Addr} {b : Bool} (C : ExcC Z.K D) (e : PySem.W.kitOne Z.K (.ref D) (.ref c) = some b) (h : ρ[i]? = some (.v (.raw a))) (q : Q (.bl b)) :
    We Z (tCB (rIsX Z.K a (.ref D) none) (tCons (tVar i) (tCons (tC (.ref c)) tNil))) ρ Q := fun r X σ H E k hk => by
  obtain ⟨v, h1, h2⟩ := E.at_ i _ h
  obtain rfl := rep_raw.mp h2
  exact ⟨_, h1, D, .ref c, .ref c, b, rfl, rfl, C, .inl rfl, fun u z => z, e, hk _ _ H E Fx.refl (rep_bl.mpr rfl) q⟩
theorem we_isxPt {a D : Addr} {T : String} {b : Bool} (C : ExcC Z.K D) (e : PySem.W.kitOne Z.K (.ref D) (.type T) = some b) (h : ρ[i]? = some (.v (.raw a))) (q : Q (.bl b)) :
    We Z (tCB (rIsX Z.K a (.ref D) none) (tCons (tVar i) (tCons (tC (.ty T)) tNil))) ρ Q := fun r X σ H E k hk => by
  obtain ⟨v, h1, h2⟩ := E.at_ i _ h
  obtain rfl := rep_raw.mp h2
  exact ⟨_, h1, D, .ty T, .type T, b, rfl, rfl, C, .inl rfl, fun u z => z, e, hk _ _ H E Fx.refl (rep_bl.mpr rfl) q⟩
end
end DL
namespace L2
open PySem PySem.Spec PyProof.Rows
/-- xs.count(y) of flat items -/
def rCntV (K : PySem.W.Frag) : V → List V → Hp → VK → Prop := fun x xs H Q => ∃ (a : Addr) (ys : List V) (y : V), x = .ref a ∧ xs = [y] ∧ SqL K H a ys ∧ flatV y = true ∧ ys.all flatV = true ∧ Q (.int (ys.countP fun z => eqV z y : Nat)) H
theorem cntV_eq {y : V} : ∀ {ys : List V} {us : List Value}, Vals ys us → ys.all flatV = true → us.countP (eqU y) = ys.countP fun z => eqV z y
  | _, _, .nil, _ => rfl
  | _, _, .cons r t, h => by
    rw [List.all_cons, Bool.and_eq_true] at h
    rw [List.countP_cons, List.countP_cons, cntV_eq t h.2, eqU_of r h.1]
theorem mt_cntV (K : PySem.W.Frag) {X : Cx} (hK : X.K = K := by rfl) : MtR X "list.count" (rCntV K) := by
  subst hK
  intro pins s σ H x xs v us Q I rx rxs h
  obtain ⟨a, ys, y, rfl, rfl, hs, fy, fys, q⟩ := h
  cases rx
  obtain ⟨u, rfl, ru⟩ := rxs.one
  obtain ⟨its, rv, ⟨⟨cls, dd, data, sl⟩, n, ho, hc, hdn, hd⟩, hlen⟩ := I.list hs
  simp only at hc hd
  subst hc hd
  refine call_meets PySem.F.slot_list_count ⟨_, ho, rfl⟩ PySem.F.entry_list_count (PySem.F.args_list_count_2 _ _)
    (SeqAt.list_countAt a its.toArray n dd sl u (eqU y)) ⟨ho, fun u' hu' => mem_eqAt ru fy rv fys u' (by simpa using hu'), ?_⟩
  have ec : its.toArray.toList.countP (eqU y) = ys.countP fun z => eqV z y := cntV_eq rv fys
  refine ⟨.int (ys.countP fun z => eqV z y : Nat), H, I.tok _, ⟨s.toks, ?_⟩, q⟩
  show Value.int ((its.toArray.toList.countP (eqU y) : Nat) : Int) s.toks = Value.int ((ys.countP fun z => eqV z y : Nat) : Int) s.toks
  rw [ec]
end L2
namespace DL
open PySem PySem.Spec PyProof.Rows L2
section
variable {Z : Cs} {ρ : List En} {te ta : TE} {Q : D → Prop}
theorem eqV_bl (x b : Bool) : eqV (.bl x) (.bl b) = (x == b) := by cases x <;> cases b <;> rfl
theorem we_countB (h : Wb Z te ρ fun d => ∃ bs : List Bool, d = .lst (bs.map .bl) ∧ Wb Z ta ρ fun y => ∃ b : Bool, y = .bl b ∧ Q (.int (bs.count b : Nat))) : We Z (tBM Z.K "list" (rCntV Z.K) te (tCons ta tNil)) ρ Q := fun r X σ H E k hk =>
  h r X σ H E _ fun v d H1 E1 f1 b1 ⟨bs, e, h1⟩ => by
    subst e
    obtain ⟨a, vs, rfl, h3, h4⟩ := b1.lst E1
    have e := repL_bls.mp h4
    subst e
    refine ⟨tyV_l h3, h1 r X σ H1 E1 _ fun w y H2 E2 f2 b2 ⟨b, e, q⟩ => ?_⟩
    subst e
    have ew := b2.bl
    subst ew
    obtain ⟨a', vs', e', h5, h6⟩ := (b1.keep f2).lst E2
    cases e'
    have e := repL_bls.mp h6
    subst e
    refine ⟨a, _, _, rfl, rfl, .of h5, rfl, ?_, hk _ _ H2 E2 (f1.trans f2) (rep_int.mpr ?_) q⟩
    · rw [List.all_map, List.all_eq_true]; intro _ _; rfl
    · rw [List.countP_map]
      congr 2
end
end DL
/-! DL24: pairs of a text and a number. -/
namespace DL
open PySem PySem.Spec PyProof.Rows L2
theorem sh_si {a : PySem.Str} {i : Int} (ha : PyData.strOk a = true) : SeqAt.shaped (toPy (.tup [.str a, .int i])) = true := by
  rw [toPy_tup]
  simp [SeqAt.shaped, toPy_str, toPy_int, PyData.canLay0, PyData.canLayAll0, PyData.depth, PyData.depthAll, ha]
theorem beq_si {a b : PySem.Str} {i j : Int} : beqD (.tup [.str a, .int i]) (.tup [.str b, .int j]) = (decide (a = b) && decide (i = j)) := by
  unfold beqD
  rw [toPy_tup, toPy_tup]
  simp only [List.map_cons, List.map_nil, toPy_str, toPy_int, PyData.eqv, PyData.eqvAll, Bool.and_true]
  rw [Bool.beq_eq_decide_eq, Bool.beq_eq_decide_eq]
section
variable {Z : Cs} {ρ : List En}
theorem od_neSI {a b : PySem.Str} {i j : Int} {Q : D → Prop} (ha : PyData.strOk a = true) (hb : PyData.strOk b = true) (q : Q (.bl (!(decide (a = b) && decide (i = j))))) : OpD Z ρ (rNeD Z.K) (.tup [.str a, .int i]) (.tup [.str b, .int j]) Q := od_neD (sh_si ha) (sh_si hb) (by rw [beq_si]; exact q)
end
end DL
/-! DL25: a def to which the caller gives its last list away: told back is that list, a new one, or None. -/
namespace DL
open PySem PySem.Spec PyProof.Rows L2
def SpM (Z : Cs) (spec : List D → List D → (Option (List D) → Prop) → Prop) : Sp := fun vs H Q _ => ∃ (A : Addr → Prop) (ds es : List D) (us ws : List V) (p : Addr) (Po : Option (List D) → Prop), vs = us ++ [.ref p] ∧ RepL Z H (Xp A p) ds us ∧ H p = some (.lst ws) ∧ RepL Z H (Xp A p) es ws ∧ ¬ A p ∧ (∀ a, A a → ∃ o, H a = some o) ∧ spec ds es Po ∧
  (∀ q ws' es' H', SameR p H H' → (∃ o, H' p = some o) → (q = p ∨ H q = none) → H' q = some (.lst ws') → RepL Z H' (Xp A q) es' ws' → Po (some es') → Q (.ref q) H') ∧ (∀ H', SameR p H H' → (∃ o, H' p = some o) → Po none → Q .non H')
section
variable {Z : Cs} {ρ : List En} {P : Po} {te ta tb tc tl : TE} {ts : TS} {tg : TA} {d d0 d1 d2 : D} {ds es : List D} {i j i0 i1 i2 : Nat}
theorem len_M {vs : List V} {H : Hp} {Q : VK} {E : XK} {n : Nat} {spec : List D → List D → (Option (List D) → Prop) → Prop} (h : SpM Z spec vs H Q E) (l : ∀ ds es Po, spec ds es Po → ds.length + 1 = n) : vs.length = n := by
  obtain ⟨A, ds, es, us, ws, p, Po, rfl, h1, _, _, _, _, h3, _⟩ := h
  rw [List.length_append, h1.length, List.length_singleton, l ds es Po h3]
theorem start_snoc {N : List Str} {us : List V} {v : V} (h : us.length < N.length) : (start N us).set us.length (some v) = start N (us ++ [v]) := by
  unfold L2.start
  have e : N.length - us.length = (N.length - (us ++ [v]).length) + 1 := by rw [List.length_append, List.length_singleton]; omega
  rw [e, List.replicate_succ, List.map_append, List.append_assoc]
  rw [List.set_append_right _ _ (by simp)]
  simp
theorem run_M {spec : List D → List D → (Option (List D) → Prop) → Prop} {N : List Str} {vs : List V} {H : Hp} {Q : VK} {E : XK} (h : SpM Z spec vs H Q E) (hN : vs.length ≤ N.length)
    (hw : ∀ ds es Po, spec ds es Po → Wc Z ts ((startE N ds).set ds.length (.l es)) { nx := fun _ => Po none, rt := fun d => d = .non ∧ Po none, rl := fun es => Po (some es) }) : ts { nx := fun _ H' => Q .non H', rt := Q } (start N vs) H := by
  obtain ⟨A, ds, es, us, ws, p, Po, rfl, h1, hp, h2, nA, hA, h3, k, k2⟩ := h
  have sv0 := sv_start (N := N) h1 (fun a z => by
    rcases z with z | z
    · exact hA a z
    · subst z; exact ⟨_, hp⟩)
  have no0 : ∀ σ b, ¬ Ow σ (startE N ds) b := fun _ _ => start_ow h1
  have av0 : ∀ a, Av none (Xp A p) (start N us) (startE N ds) a ↔ Xp A p a := fun a => by
    constructor
    · rintro (z | z | z)
      · exact absurd z (no0 _ a)
      · exact z
      · cases z
    · exact fun z => .inr (.inl z)
  have sv1 := sv0.take (i := ds.length) (e := .l es) nA rfl ⟨p, ws, rfl, hp, repL_iff (fun a => (av0 a).symm) h2⟩
  have hl : us.length = ds.length := h1.length
  rw [← hl, start_snoc (by rw [List.length_append, List.length_singleton] at hN; omega), hl] at sv1
  have ow1 : ∀ b, Ow (start N (us ++ [.ref p])) ((startE N ds).set ds.length (.l es)) b → b = p := fun b ⟨i, e, q1, q2, q3⟩ => by
    rcases set_get q1 with ⟨rfl, rfl⟩ | ⟨n, q⟩
    · rw [← start_snoc (by rw [List.length_append, List.length_singleton] at hN; omega)] at q3
      rw [← hl] at q3
      rcases set_get q3 with ⟨_, y⟩ | ⟨m, _⟩
      · injection y with y
        injection y with y
      · exact absurd rfl m
    · rcases start_get (Z := Z) h1 q with rfl | ⟨d, v, rfl, _⟩ <;> cases q2
  have sm : ∀ {σ' : L2.St} {ρ' : List En} {H' : Hp}, Fr none (start N (us ++ [.ref p])) ((startE N ds).set ds.length (.l es)) H σ' ρ' H' → SameR p H H' ∧ ∃ o, H' p = some o := fun f => ⟨⟨fun b o n e => (f.fr b o e (fun z => n (ow1 b z)) (fun z => nomatch z)).1⟩, f.dm p _ hp⟩
  refine hw ds es Po h3 none A _ H sv1 _ (fun σ' ρ' H' E f q => k2 H' (sm f).1 (sm f).2 q) (fun v d H' σ' ρ' E f b q => ?_)
    (fun q us' es' H' σ' ρ' n E f b b2 q1 => k q us' es' H' (sm f).1 (sm f).2 ?_ b (b2.mv (av_sub fun b z => ?_)) q1) (fun p kvs H' σ' ρ' n E f b q => False.elim q)
  · obtain ⟨rfl, q⟩ := q
    rw [rep_non.mp b]
    exact k2 H' (sm f).1 (sm f).2 q
  · cases e : H q with
    | none => exact .inr rfl
    | some o => exact .inl (ow1 q (n.2 o e))
  · exact .inr (.inl z)
/-- a slot's list is given away: it is kept apart -/
theorem Sv.give {r : Option Addr} {X : Addr → Prop} {σ : L2.St} {H : Hp} (E : Sv Z r X H σ ρ) (h : ρ[j]? = some (.l es)) : ∃ p ws, σ[j]? = some (some (.ref p)) ∧ H p = some (.lst ws) ∧ RepL Z H (Av r X σ ρ) es ws ∧ Sv Z r (Xp X p) H σ (ρ.set j .un) ∧ Ow σ ρ p ∧ ¬ Av r X σ (ρ.set j .un) p ∧ ∀ a, Av r X σ ρ a ↔ Xp (Av r X σ (ρ.set j .un)) p a := by
  obtain ⟨p, ws, h1, h2, h3⟩ := E.at_ j _ h
  have op : Ow σ ρ p := ⟨j, _, h, rfl, h1⟩
  have np : ¬ Ow σ (ρ.set j .un) p := fun z => by
    obtain ⟨k, e, q1, q2, q3⟩ := z
    rcases set_get q1 with ⟨_, rfl⟩ | ⟨n, q⟩
    · cases q2
    · exact n (E.dis j k _ _ p h q rfl q2 h1 q3).symm
  have sub : ∀ a, Ow σ (ρ.set j .un) a → Ow σ ρ a := fun a z => by
    obtain ⟨k, e, q1, q2, q3⟩ := z
    rcases set_get q1 with ⟨_, rfl⟩ | ⟨n, q⟩
    · cases q2
    · exact ⟨k, e, q, q2, q3⟩
  have owi : ∀ a, Ow σ ρ a ↔ Ow σ (ρ.set j .un) a ∨ a = p := fun a => by
    constructor
    · rintro ⟨k, e, q1, q2, q3⟩
      by_cases n : j = k
      · subst n
        rw [h1] at q3
        injection q3 with q3
        injection q3 with q3
        injection q3 with q3
        exact .inr q3.symm
      · exact .inl ⟨k, e, by rw [List.getElem?_set_ne n]; exact q1, q2, q3⟩
    · rintro (z | z)
      · exact sub a z
      · subst z; exact op
  have npA : ¬ Av r X σ (ρ.set j .un) p := fun z => by
    rcases z with z | z | z
    · exact np z
    · exact (E.xin p z).2 op
    · exact (E.row p z).2.1 op
  have avi : ∀ a, Av r X σ ρ a ↔ Xp (Av r X σ (ρ.set j .un)) p a := fun a => by
    unfold Av Xp
    rw [owi a]
    constructor
    · rintro ((z | z) | z | z)
      · exact .inl (.inl z)
      · exact .inr z
      · exact .inl (.inr (.inl z))
      · exact .inl (.inr (.inr z))
    · rintro ((z | z | z) | z)
      · exact .inl (.inl z)
      · exact .inr (.inl z)
      · exact .inr (.inr z)
      · exact .inl (.inr z)
  have avx : ∀ a, Av r X σ ρ a ↔ Av r (Xp X p) σ (ρ.set j .un) a := fun a => by
    rw [avi a]
    unfold Av Xp
    constructor
    · rintro ((z | z | z) | z)
      · exact .inl z
      · exact .inr (.inl (.inl z))
      · exact .inr (.inr z)
      · exact .inr (.inl (.inr z))
    · rintro (z | (z | z) | z)
      · exact .inl (.inl z)
      · exact .inl (.inr (.inl z))
      · exact .inr z
      · exact .inl (.inr (.inr z))
  have m : Mv H (Av r X σ ρ) H (Av r (Xp X p) σ (ρ.set j .un)) := av_sub fun a z => (avx a).mpr z
  refine ⟨p, ws, h1, h2, h3, ⟨by rw [List.length_set]; exact E.len, fun k e q => ?_, fun a b e e' c q1 q2 o1 o2 g1 g2 => ?_, fun a z => ?_, fun a z => ?_⟩, op, npA, avi⟩
  · rcases set_get q with ⟨_, rfl⟩ | ⟨n, q⟩
    · trivial
    · exact (E.at_ k e q).mv m fun _ _ _ _ q => q
  · rcases set_get q1 with ⟨_, rfl⟩ | ⟨_, q1⟩
    · cases o1
    · rcases set_get q2 with ⟨_, rfl⟩ | ⟨_, q2⟩
      · cases o2
      · exact E.dis a b e e' c q1 q2 o1 o2 g1 g2
  · rcases z with z | z
    · exact ⟨(E.xin a z).1, fun y => (E.xin a z).2 (sub a y)⟩
    · subst z; exact ⟨⟨_, h2⟩, np⟩
  · obtain ⟨q1, q2, q3⟩ := E.row a z
    refine ⟨q1.mv m fun _ q => q, fun y => q2 (sub a y), fun y => ?_⟩
    rcases y with y | y
    · exact q3 y
    · subst y; exact q2 op
/-- what is kept apart changes, and another may be kept apart in its place -/
theorem Sv.swap {r : Option Addr} {X : Addr → Prop} {σ : L2.St} {H H' : Hp} {p q : Addr} {ws : List V} (E : Sv Z r (Xp X p) H σ ρ) (hp : H p = some (.lst ws)) (s : SameR p H H') (hq : q = p ∨ H q = none) (tq : ∃ o, H' p = some o) (t : ∃ o, H' q = some o) : Sv Z r (Xp X q) H' σ ρ := by
  have np : ¬ Ow σ ρ p := (E.xin p (.inr rfl)).2
  have nrp : r ≠ some p := fun z => (E.row p z).2.2 (.inr rfl)
  have nq : ¬ Ow σ ρ q := fun z => by
    rcases hq with e | e
    · exact np (by rw [← e]; exact z)
    · obtain ⟨o, w⟩ := E.tracked z
      rw [e] at w; cases w
  have nrq : r ≠ some q := fun z => by
    rcases hq with e | e
    · exact nrp (by rw [← e]; exact z)
    · obtain ⟨⟨sc, i, m, g, ns, w, _⟩, _⟩ := E.row q z
      rw [e] at w; cases w
  have tp : ∀ a o, immO o = true → H a = some o → H' a = some o := fun a o i e => s.st a o (fun z => by subst z; rw [hp] at e; cases e; cases i) e
  have m : Mv H (Av r (Xp X p) σ ρ) H' (Av r (Xp X q) σ ρ) := ⟨fun a o n e => by
    refine ⟨s.st a o (fun z => n (.inr (.inl (.inr z)))) e, ?_⟩
    rintro (z | (z | z) | z)
    · exact n (.inl z)
    · exact n (.inr (.inl (.inl z)))
    · subst z
      rcases hq with w | w
      · exact n (.inr (.inl (.inr w)))
      · rw [w] at e; cases e
    · exact n (.inr (.inr z)), tp⟩
  refine ⟨E.len, fun i e h => (E.at_ i e h).mv m fun k a o z w => s.st a o (fun y => np ⟨i, e, h, k, by rw [← y]; exact z⟩) w, E.dis, fun a z => ?_, fun a z => ?_⟩
  · rcases z with z | z
    · obtain ⟨⟨o, w⟩, n⟩ := E.xin a (.inl z)
      refine ⟨?_, n⟩
      by_cases y : a = q
      · subst y; exact t
      · by_cases y2 : a = p
        · subst y2
          exact tq
        · exact ⟨o, s.st a o y2 w⟩
    · subst z; exact ⟨t, nq⟩
  · obtain ⟨q1, q2, q3⟩ := E.row a z
    refine ⟨q1.mv m fun o w => s.st a o (fun y => nrp (by rw [← y]; exact z)) w, q2, fun y => ?_⟩
    rcases y with y | y
    · exact q3 (.inl y)
    · subst y; exact nrq z
/-- x = f(a, b, c, l): the slot of l is given away -/
theorem wc_setM {spec : List D → List D → (Option (List D) → Prop) → Prop} {E' : XK} (g0 : ρ[i0]? = some (.v d0)) (g1 : ρ[i1]? = some (.v d1)) (g2 : ρ[i2]? = some (.v d2)) (hj : ρ[j]? = some (.l es))
    (h : spec [d0, d1, d2] es fun o => (o = none ∨ ∃ es, o = some es ∧ LFL es = true) ∧ match o with | none => P.nx ((ρ.set j .un).set i (.v .non)) | some es => P.nx ((ρ.set j .un).set i (.l es))) :
    Wc Z (tAsg (tCall (SpM Z spec) [] E' (tCons (tVar i0) (tCons (tVar i1) (tCons (tVar i2) (tCons (tVar j) tNil))))) (gName i)) ρ P := fun r X σ H E F k1 _ _ _ => by
  obtain ⟨v0, a0, b0⟩ := E.at_ i0 _ g0
  obtain ⟨v1, a1, b1⟩ := E.at_ i1 _ g1
  obtain ⟨v2, a2, b2⟩ := E.at_ i2 _ g2
  obtain ⟨p, ws, e1, e2, e3, E1, op, npA, avi⟩ := E.give hj
  have sub : ∀ a, Ow σ (ρ.set j .un) a → Ow σ ρ a := fun a z => by
    rcases (avi a).mpr (.inl (.inl z)) with z2 | z2 | z2
    · exact z2
    · exact absurd z (E1.xin a (.inl z2)).2
    · exact absurd z (E1.row a z2).2.1
  have frm : ∀ {q : Addr} {H' : Hp} {s : Option V} {e : En}, SameR p H H' → (∃ o, H' p = some o) → (own e = true → s = some (.ref q) ∧ (q = p ∨ H q = none)) → Fr r σ ρ H (σ.set i s) ((ρ.set j .un).set i e) H' := fun {q H' s e} sr tq hs => ⟨fun a o w n k => by
    refine ⟨sr.st a o (fun z => n (by rw [z]; exact op)) w, fun z => ?_⟩
    obtain ⟨y, e', y1, y2, y3⟩ := z
    rcases set_get y1 with ⟨rfl, rfl⟩ | ⟨m, y1⟩
    · obtain ⟨rfl, hq⟩ := hs y2
      rcases set_get y3 with ⟨_, y4⟩ | ⟨m, _⟩
      · injection y4 with y4
        injection y4 with y4
        subst y4
        rcases hq with hq | hq
        · subst hq; exact n op
        · rw [w] at hq; cases hq
      · exact absurd rfl m
    · rw [List.getElem?_set_ne (Ne.symm m)] at y3
      exact n (sub a ⟨y, e', y1, y2, y3⟩), fun a o w => by
    by_cases z : a = p
    · subst z; exact tq
    · exact ⟨o, sr.st a o z w⟩, fun a o i w => sr.st a o (fun z => by subst z; rw [e2] at w; cases w; cases i) w⟩
  refine ⟨v0, a0, v1, a1, v2, a2, .ref p, e1, ?_⟩
  refine ⟨Av r X σ (ρ.set j .un), [d0, d1, d2], es, [v0, v1, v2], ws, p, _, rfl, repL_iff avi (repL_cons.mpr ⟨_, _, rfl, b0, repL_cons.mpr ⟨_, _, rfl, b1, repL_cons.mpr ⟨_, _, rfl, b2, repL_nil.mpr rfl⟩⟩⟩), e2, repL_iff avi e3, npA, fun a z => E.av_tracked ((avi a).mpr (.inl z)), h, fun q ws' es' H' sr tq hq hw hr po => ?_, fun H' sr tq po => ?_⟩
  · have E2 := E1.swap e2 sr hq tq ⟨_, hw⟩
    have lf : LFL es' = true := by
      rcases po.1 with z | ⟨es2, z, l⟩
      · cases z
      · cases z; exact l
    have nX : ¬ X q := fun z => by
      rcases hq with w | w
      · subst w; exact npA (.inr (.inl z))
      · obtain ⟨⟨o, w2⟩, _⟩ := E.xin q z
        rw [w] at w2; cases w2
    exact k1 _ _ H' (E2.take (i := i) (e := .l es') nX rfl ⟨q, ws', rfl, hw, hr.lf lf⟩) (frm sr tq fun _ => ⟨rfl, hq⟩) po.2
  · have E2 := (E1.swap e2 sr (.inl rfl) tq tq).less (X' := X) fun a z => .inl z
    exact k1 _ _ H' (E2.setv (rep_non.mpr rfl)) (frm (q := p) sr tq fun z => nomatch z) po.2
/-- return f(a, b, c, []) -/
theorem wc_retM {spec : List D → List D → (Option (List D) → Prop) → Prop} {E' : XK} (h : We Z ta ρ fun d0 => We Z tb ρ fun d1 => We Z tc ρ fun d2 => spec [d0, d1, d2] [] fun o => (o = none ∨ ∃ es, o = some es ∧ LFL es = true) ∧ match o with | none => P.rt .non | some es => P.rl es) :
    Wc Z (tRet (tCall (SpM Z spec) [] E' (tCons ta (tCons tb (tCons tc (tCons (tLst tNil) tNil)))))) ρ P := fun r X σ H E F _ k2 k3 _ => by
  refine h r X σ H E _ fun v0 d0 H0 E0 f0 b0 h => h r X σ H0 E0 _ fun v1 d1 H1 E1 f1 b1 h => h r X σ H1 E1 _ fun v2 d2 H2 E2 f2 b2 h => ?_
  refine wl_lst (Q := fun ds => ds = []) (wa_nil ⟨Nat.le_of_ble_eq_true rfl, rfl⟩) r X σ H2 E2 _ fun p ws es H3 hp E3 f3 hw hr e => ?_
  subst e
  have fa : Fx r H H3 := f0.trans (f1.trans (f2.trans f3))
  have c0 : Rep Z H2 (Av r X σ ρ) d0 v0 := (b0.mv f1.mv).mv f2.mv
  have c1 : Rep Z H2 (Av r X σ ρ) d1 v1 := b1.mv f2.mv
  have m : Mv H2 (Av r X σ ρ) H3 (Xp (Av r X σ ρ) p) := ⟨fun a o n w => ⟨f3.fx a o w (fun z => n (.inr (.inr z))), fun z => by
    rcases z with z | z
    · exact n z
    · subst z; rw [hp] at w; cases w⟩, f3.tp⟩
  have avx : ∀ a, Av r (Xp X p) σ ρ a → Xp (Av r X σ ρ) p a := fun a z => by
    rcases z with z | (z | z) | z
    · exact .inl (.inl z)
    · exact .inl (.inr (.inl z))
    · exact .inr z
    · exact .inl (.inr (.inr z))
  have npA : ¬ Av r X σ ρ p := fun z => by
    obtain ⟨o, w⟩ := E2.av_tracked z
    rw [hp] at w; cases w
  have pn : H p = none := (f0.trans (f1.trans f2)).new hp
  have fxr : ∀ {H' : Hp}, SameR p H3 H' → Fx r H H' := fun {H'} sr => ⟨fun a o w k => sr.st a o (fun z => by subst z; rw [pn] at w; cases w) (fa.fx a o w k), fun a o w => by
    obtain ⟨o', w'⟩ := fa.dm a o w
    exact ⟨o', sr.st a o' (fun z => by subst z; rw [pn] at w; cases w) w'⟩, fun a o i w => sr.st a o (fun z => by subst z; rw [pn] at w; cases w) (fa.tp a o i w)⟩
  show SpM Z spec ([v0, v1, v2, .ref p] ++ []) H3 F.rt E'
  refine ⟨Av r X σ ρ, [d0, d1, d2], [], [v0, v1, v2], ws, p, _, rfl, repL_cons.mpr ⟨_, _, rfl, c0.mv m, repL_cons.mpr ⟨_, _, rfl, c1.mv m, repL_cons.mpr ⟨_, _, rfl, b2.mv m, repL_nil.mpr rfl⟩⟩⟩, hw, repL_nil.mpr (repL_nil.mp hr), npA, fun a z => by
    obtain ⟨o, w⟩ := E2.av_tracked z
    exact f3.dm a o w, h, fun q ws' es' H' sr tq hq hw' hr' po => ?_, fun H' sr tq po => ?_⟩
  · have E4 := E3.swap hw sr hq tq ⟨_, hw'⟩
    have lf : LFL es' = true := by
      rcases po.1 with z | ⟨es2, z, l⟩
      · cases z
      · cases z; exact l
    have qn : H q = none := by
      rcases hq with z | z
      · subst z; exact pn
      · exact fa.new z
    exact k3 q ws' es' H' σ ρ (.new E qn) E4 (fxr sr).fr hw' (hr'.lf lf) po.2
  · have E4 := (E3.swap hw sr (.inl rfl) tq tq).less (X' := X) fun a z => .inl z
    exact k2 _ _ H' σ ρ E4 (fxr sr).fr (rep_non.mpr rfl) po.2
end
end DL
/-! DL26: sorted() of a dict's keys. -/
namespace L2
open PySem PySem.Spec PyProof.Rows
def rSortDk : List V → Hp → VK → Prop := fun xs H Q => ∃ (a : Addr) (kvs : List (Key × V)) (ks : List Int), xs = [.ref a] ∧ Rd H a (.dK kvs) ∧ kvs.map (·.1) = ks.map Sum.inl ∧ ks.length < 64 ∧
    ∀ (ys : List Int) (p : Addr), ys.Perm ks → ys.Pairwise (· ≤ ·) → H p = none → Q (.ref p) (upd H p (.lst (ys.map V.int)))
theorem cr_sortDk {X : Cx} (hc : X.calm = true) : CallR X (.builtin "sorted") rSortDk := call_sortedDI hc
end L2
namespace DL
open PySem PySem.Spec PyProof.Rows L2
theorem cl_sortDk {Z : Cs} {ρ : List En} {Q : List D → Prop} {kvs : List (Int × V)} (l : kvs.length < 64) (q : Q ((srtI (kvs.map (·.1))).map .int)) : CbL Z ρ rSortDk [.dk kvs] Q := fun r X σ H vs E h k hk => by
  obtain ⟨v, rfl, b⟩ := h.one
  obtain ⟨a, rfl, _, h1⟩ := rep_dk.mp (b.rep (fun _ z => nomatch z) (fun _ z => nomatch z))
  refine ⟨a, keyK kvs, kvs.map (·.1), rfl, .inl h1, by unfold keyK; rw [List.map_map, List.map_map]; rfl, by rw [List.length_map]; exact l, fun ys p hp hs hn => ?_⟩
  have e : ys = srtI (kvs.map (·.1)) := srt_one tri_int (hs.imp fun {x y} z => by unfold leO; simp; omega) (srt_sort tri_int _) (hp.trans (List.mergeSort_perm _ _).symm)
  subst e
  exact hk p _ _ _ hn (E.put hn) (Fx.same (same_upd hn)) upd_same (repL_ints.mpr rfl) q
end DL
/-! DL27: lists that are changed where they lie within told data: kept apart, by address, with what is in them. -/
namespace DL
open PySem PySem.Spec PyProof.Rows L2
abbrev Kl := List (Addr × List D)
def XL (X : Addr → Prop) (Ls : Kl) : Addr → Prop := fun a => X a ∨ ∃ x ∈ Ls, x.1 = a
structure KL (Z : Cs) (X : Addr → Prop) (H : Hp) (Ls : Kl) : Prop where
  at_ : ∀ x ∈ Ls, ∃ ws, H x.1 = some (.lst ws) ∧ RepL Z H noA x.2 ws
  lf : ∀ x ∈ Ls, LFL x.2 = true
  nx : ∀ x ∈ Ls, ¬ X x.1
structure FrL (r : Option Addr) (Ls : Kl) (σ : L2.St) (ρ : List En) (H : Hp) (σ' : L2.St) (ρ' : List En) (H' : Hp) (Ls' : Kl) : Prop where
  fr : ∀ a o, H a = some o → (∀ x ∈ Ls, x.1 ≠ a) → ¬ Ow σ ρ a → r ≠ some a → H' a = some o ∧ ¬ Ow σ' ρ' a
  dm : ∀ a o, H a = some o → ∃ o', H' a = some o'
  tp : ∀ a o, immO o = true → H a = some o → H' a = some o
  nw : ∀ x ∈ Ls', (∃ y ∈ Ls, y.1 = x.1) ∨ H x.1 = none
def Wk (Z : Cs) (ts : TS) (ρ : List En) (Ls : Kl) (P : List En → Kl → Prop) (rt : D → Prop) : Prop := ∀ r X σ H, Sv Z r (XL X Ls) H σ ρ → KL Z X H Ls → ∀ F : Ends,
  (∀ σ' ρ' H' Ls', Sv Z r (XL X Ls') H' σ' ρ' → KL Z X H' Ls' → FrL r Ls σ ρ H σ' ρ' H' Ls' → P ρ' Ls' → F.nx σ' H') →
  (∀ v d H' σ' ρ' Ls', Sv Z r (XL X Ls') H' σ' ρ' → KL Z X H' Ls' → FrL r Ls σ ρ H σ' ρ' H' Ls' → Rep Z H' (Av r (XL X Ls') σ' ρ') d v → rt d → F.rt v H') → ts F σ H
section
variable {Z : Cs} {r : Option Addr} {X : Addr → Prop} {H H' H1 H2 : Hp} {σ σ' σ1 σ2 : L2.St} {ρ ρ' ρ1 ρ2 : List En} {Ls Ls' Ls1 Ls2 : Kl} {P P' : List En → Kl → Prop} {rt : D → Prop} {ts tu : TS} {tt : TT} {te ta : TE} {i j : Nat} {d : D} {ds : List D}
theorem FrL.refl : FrL r Ls σ ρ H σ ρ H Ls := ⟨fun _ _ h _ n _ => ⟨h, n⟩, fun _ o h => ⟨o, h⟩, fun _ _ _ h => h, fun x hx => .inl ⟨x, hx, rfl⟩⟩
theorem FrL.trans (f : FrL r Ls σ ρ H σ1 ρ1 H1 Ls1) (g : FrL r Ls1 σ1 ρ1 H1 σ2 ρ2 H2 Ls2) : FrL r Ls σ ρ H σ2 ρ2 H2 Ls2 := by
  refine ⟨fun a o h n1 n2 n3 => ?_, fun a o h => let ⟨_, q⟩ := f.dm a o h; g.dm a _ q, fun a o i h => g.tp a o i (f.tp a o i h), fun x hx => ?_⟩
  · obtain ⟨h1, h2⟩ := f.fr a o h n1 n2 n3
    refine g.fr a o h1 (fun x hx e => ?_) h2 n3
    rcases f.nw x hx with ⟨y, hy, e2⟩ | e2
    · exact n1 y hy (e2.trans e)
    · rw [e, h] at e2; cases e2
  · rcases g.nw x hx with ⟨y, hy, e⟩ | e
    · rw [← e]; exact f.nw y hy
    · refine .inr ?_
      cases e2 : H x.1 with
      | none => rfl
      | some o =>
        obtain ⟨o', q⟩ := f.dm _ o e2
        rw [e] at q; cases q
theorem Fr.frl (f : Fr r σ ρ H σ' ρ' H') : FrL r Ls σ ρ H σ' ρ' H' Ls := ⟨fun a o h _ n k => f.fr a o h n k, f.dm, f.tp, fun x hx => .inl ⟨x, hx, rfl⟩⟩
theorem RepL.tp {A A' : Addr → Prop} {vs : List V} (l : LFL ds = true) (t : ∀ a o, immO o = true → H a = some o → H' a = some o) (h : RepL Z H A ds vs) : RepL Z H' A' ds vs :=
  RepL.lf (A := fun _ => True) l (RepL.mv (A := fun _ => True) ⟨fun _ _ n _ => absurd trivial n, t⟩ (RepL.lf l h))
theorem KL.fr (k : KL Z X H Ls) (E : Sv Z r (XL X Ls) H σ ρ) (f : Fr r σ ρ H σ' ρ' H') : KL Z X H' Ls := ⟨fun x hx => by
  obtain ⟨ws, h1, h2⟩ := k.at_ x hx
  have xx : XL X Ls x.1 := .inr ⟨x, hx, rfl⟩
  exact ⟨ws, (f.fr _ _ h1 (E.xin _ xx).2 (fun z => (E.row _ z).2.2 xx)).1, h2.tp (k.lf x hx) f.tp⟩, k.lf, k.nx⟩
theorem KL.fx (k : KL Z X H Ls) (E : Sv Z r (XL X Ls) H σ ρ) (f : Fx r H H') : KL Z X H' Ls := k.fr E (f.fr (σ := σ) (ρ := ρ))
theorem wk_wc (h : Wc Z ts ρ { nx := fun ρ' => P ρ' Ls, rt := rt }) : Wk Z ts ρ Ls P rt := fun r X σ H E k F k1 k2 => h r _ σ H E F
  (fun σ' ρ' H' E' f q => k1 σ' ρ' H' Ls E' (k.fr E f) f.frl q) (fun v d H' σ' ρ' E' f b q => k2 v d H' σ' ρ' Ls E' (k.fr E f) f.frl b q) (fun _ _ _ _ _ _ _ _ _ _ _ q => False.elim q) (fun _ _ _ _ _ _ _ _ _ q => False.elim q)
theorem wk_seq (h : Wk Z ts ρ Ls (fun ρ' Ls' => Wk Z tu ρ' Ls' P rt) rt) : Wk Z (tSeq ts tu) ρ Ls P rt := fun r X σ H E k F k1 k2 =>
  h r X σ H E k { F with nx := tu F } (fun σ' ρ' H' Ls' E1 k' f1 q => q r X σ' H' E1 k' F (fun σ2 ρ2 H2 Ls2 E2 kk f2 q2 => k1 σ2 ρ2 H2 Ls2 E2 kk (f1.trans f2) q2) (fun v d H2 σ2 ρ2 Ls2 E2 kk f2 b q2 => k2 v d H2 σ2 ρ2 Ls2 E2 kk (f1.trans f2) b q2)) k2
theorem wk_next (q : P ρ Ls) : Wk Z tNext ρ Ls P rt := fun r X σ H E k F k1 _ => k1 σ ρ H Ls E k FrL.refl q
theorem Wk.imp (h : Wk Z ts ρ Ls P rt) (w : ∀ ρ' Ls', P ρ' Ls' → P' ρ' Ls') : Wk Z ts ρ Ls P' rt := fun r X σ H E k F k1 k2 => h r X σ H E k F (fun σ' ρ' H' Ls' a b c q => k1 σ' ρ' H' Ls' a b c (w _ _ q)) k2
theorem wk_cut (M : List En → Kl → Prop) (h : Wk Z ts ρ Ls M rt) (h2 : ∀ ρ' Ls', M ρ' Ls' → Wk Z tu ρ' Ls' P rt) : Wk Z (tSeq ts tu) ρ Ls P rt := wk_seq (h.imp h2)
theorem wk_if (h : Wt Z tt ρ fun b => (b = true → Wk Z ts ρ Ls P rt) ∧ (b = false → Wk Z tu ρ Ls P rt)) : Wk Z (tIfS tt ts tu) ρ Ls P rt := fun r X σ H E k F k1 k2 => h r _ σ H E _ fun b H1 E1 f1 q => by
  have g : ∀ {σ' : L2.St} {ρ' : List En} {H' : Hp} {Ls' : Kl}, FrL r Ls σ ρ H1 σ' ρ' H' Ls' → FrL r Ls σ ρ H σ' ρ' H' Ls' := fun f => (f1.fr.frl).trans f
  cases b with
  | true => exact iteT (q.1 rfl r X σ H1 E1 (k.fx E f1) F (fun σ2 ρ2 H2 Ls2 E2 kk f2 q2 => k1 σ2 ρ2 H2 Ls2 E2 kk (g f2) q2) (fun v d H2 σ2 ρ2 Ls2 E2 kk f2 b q2 => k2 v d H2 σ2 ρ2 Ls2 E2 kk (g f2) b q2))
  | false => exact iteF (q.2 rfl r X σ H1 E1 (k.fx E f1) F (fun σ2 ρ2 H2 Ls2 E2 kk f2 q2 => k1 σ2 ρ2 H2 Ls2 E2 kk (g f2) q2) (fun v d H2 σ2 ρ2 Ls2 E2 kk f2 b q2 => k2 v d H2 σ2 ρ2 Ls2 E2 kk (g f2) b q2))
/-- a block in which lists are kept; behind it they are given free -/
theorem wc_wk {Pc : Po} (h : Wk Z ts ρ [] (fun ρ' _ => Pc.nx ρ') Pc.rt) : Wc Z ts ρ Pc := fun r X σ H E F k1 k2 _ _ => by
  have fr : ∀ {σ' : L2.St} {ρ' : List En} {H' : Hp} {Ls' : Kl}, FrL r [] σ ρ H σ' ρ' H' Ls' → Fr r σ ρ H σ' ρ' H' := fun f => ⟨fun a o h n k => f.fr a o h (fun x hx => nomatch hx) n k, f.dm, f.tp⟩
  refine h r X σ H (E.less fun a z => ?_) ⟨(fun x hx => nomatch hx), (fun x hx => nomatch hx), (fun x hx => nomatch hx)⟩ F (fun σ' ρ' H' Ls' E' _ f q => k1 σ' ρ' H' (E'.less fun a z => .inl z) (fr f) q) (fun v d H' σ' ρ' Ls' E' _ f b q => k2 v d H' σ' ρ' (E'.less fun a z => .inl z) (fr f) (b.mv (av_sub fun a z => ?_)) q)
  · rcases z with z | ⟨x, hx, _⟩
    · exact z
    · nomatch hx
  · rcases z with z | z | z
    · exact .inl z
    · exact .inr (.inl (.inl z))
    · exact .inr (.inr z)
/-- what was kept is changed -/
def updL (p : Addr) (g : List D → List D) (Ls : Kl) : Kl := Ls.map fun x => if x.1 = p then (x.1, g x.2) else x
theorem updL_fst {p : Addr} {g : List D → List D} {x : Addr × List D} (h : x ∈ updL p g Ls) : ∃ y ∈ Ls, y.1 = x.1 := by
  obtain ⟨y, hy, rfl⟩ := List.mem_map.mp h
  refine ⟨y, hy, ?_⟩
  by_cases c : y.1 = p
  · rw [if_pos c]
  · rw [if_neg c]
theorem updL_xl {p : Addr} {g : List D → List D} : XL X (updL p g Ls) = XL X Ls := by
  funext a
  refine propext ⟨fun z => ?_, fun z => ?_⟩
  · rcases z with z | ⟨x, hx, e⟩
    · exact .inl z
    · obtain ⟨y, hy, e2⟩ := updL_fst hx
      exact .inr ⟨y, hy, e2.trans e⟩
  · rcases z with z | ⟨x, hx, e⟩
    · exact .inl z
    · refine .inr ⟨_, List.mem_map.mpr ⟨x, hx, rfl⟩, ?_⟩
      by_cases c : x.1 = p
      · rw [if_pos c]; exact e
      · rw [if_neg c]; exact e
theorem KL.turn {p : Addr} {ws ws' : List V} {g : List D → List D} (k : KL Z X H Ls) (hp : H p = some (.lst ws)) (hg : ∀ ds, RepL Z H noA ds ws → LFL ds = true → RepL Z H noA (g ds) ws' ∧ LFL (g ds) = true) : KL Z X (upd H p (.lst ws')) (updL p g Ls) := by
  have tp : ∀ b w, immO w = true → H b = some w → upd H p (.lst ws') b = some w := fun b w i q => by
    rw [upd_ne (fun z => by subst z; rw [hp] at q; cases q; cases i)]
    exact q
  have mv : ∀ {ds : List D} {us : List V}, LFL ds = true → RepL Z H noA ds us → RepL Z (upd H p (.lst ws')) noA ds us := fun l h => h.tp l tp
  refine ⟨fun x hx => ?_, fun x hx => ?_, fun x hx => ?_⟩
  · obtain ⟨y, hy, rfl⟩ := List.mem_map.mp hx
    obtain ⟨us, h1, h2⟩ := k.at_ y hy
    by_cases c : y.1 = p
    · rw [if_pos c]
      rw [c, hp] at h1
      cases h1
      obtain ⟨q1, q2⟩ := hg _ h2 (k.lf y hy)
      exact ⟨ws', by show upd H p _ y.1 = _; rw [c]; exact upd_same, mv q2 q1⟩
    · rw [if_neg c]
      exact ⟨us, by rw [upd_ne c]; exact h1, mv (k.lf y hy) h2⟩
  · obtain ⟨y, hy, rfl⟩ := List.mem_map.mp hx
    by_cases c : y.1 = p
    · rw [if_pos c]
      obtain ⟨us, h1, h2⟩ := k.at_ y hy
      rw [c, hp] at h1
      cases h1
      exact (hg _ h2 (k.lf y hy)).2
    · rw [if_neg c]; exact k.lf y hy
  · obtain ⟨y, hy, e⟩ := updL_fst hx
    rw [← e]; exact k.nx y hy
/-- the step of a change: the list at p becomes ws' -/
theorem wk_turn {p : Addr} {es : List D} {ws ws' : List V} {g : List D → List D} {F : Ends} (hm : (p, es) ∈ Ls) (f1 : Fx r H H1) (E1 : Sv Z r (XL X Ls) H1 σ ρ) (k : KL Z X H1 Ls) (hp : H1 p = some (.lst ws)) (hg : ∀ ds, RepL Z H1 noA ds ws → LFL ds = true → RepL Z H1 noA (g ds) ws' ∧ LFL (g ds) = true)
    (k1 : ∀ σ' ρ' H' Ls', Sv Z r (XL X Ls') H' σ' ρ' → KL Z X H' Ls' → FrL r Ls σ ρ H σ' ρ' H' Ls' → P ρ' Ls' → F.nx σ' H') (q : P ρ (updL p g Ls)) : F.nx σ (upd H1 p (.lst ws')) := by
  have xp : XL X Ls p := .inr ⟨_, hm, rfl⟩
  refine k1 σ ρ _ (updL p g Ls) ?_ (k.turn hp hg) (f1.fr.frl.trans ⟨fun a o h n1 n2 n3 => ⟨by rw [upd_ne (fun z => n1 _ hm z.symm)]; exact h, n2⟩, fun a o h => ?_, fun a o i h => ?_, fun x hx => .inl (updL_fst hx)⟩) q
  · rw [updL_xl]
    exact E1.turn xp hp rfl
  · by_cases z : a = p
    · subst z; exact ⟨_, upd_same⟩
    · exact ⟨o, by rw [upd_ne z]; exact h⟩
  · rw [upd_ne (fun z => by subst z; rw [hp] at h; cases h; cases i)]
    exact h
theorem wk_app (h : We Z te ρ fun x => ∃ p es, x = .raw p ∧ (p, es) ∈ Ls ∧ We Z ta ρ fun d => LF d = true ∧ es.length < sizeLine ∧ P ρ (updL p (fun es => es ++ [d]) Ls)) : Wk Z (tDrop (tBM Z.K "list" rAppend te (tCons ta tNil))) ρ Ls P rt := fun r X σ H E k F k1 _ => by
  refine h r _ σ H E _ fun v x H1 E1 f1 b1 ⟨p, es, e, hm, g⟩ => ?_
  subst e
  rw [rep_raw.mp b1]
  have kk := k.fx E f1
  obtain ⟨ws0, h0, _⟩ := kk.at_ _ hm
  refine ⟨tyV_l h0, g r _ σ H1 E1 _ fun v d H2 E2 f2 b2 ⟨l, hl, q⟩ => ?_⟩
  have k2 := kk.fx E1 f2
  obtain ⟨ws, h1, h2⟩ := k2.at_ _ hm
  refine ⟨p, ws, v, rfl, rfl, h1, by rw [h2.length]; exact hl, wk_turn (g := fun es => es ++ [d]) hm (f1.trans f2) E2 k2 h1 (fun ds hd ld => ⟨hd.append (.one (b2.lf l)), ?_⟩) k1 q⟩
  rw [LFL_all] at ld ⊢
  intro x hx
  rcases List.mem_append.mp hx with hx | hx
  · exact ld x hx
  · rw [List.mem_singleton.mp hx]; exact l
theorem wk_rev (h : We Z te ρ fun x => ∃ p es, x = .raw p ∧ (p, es) ∈ Ls ∧ P ρ (updL p List.reverse Ls)) : Wk Z (tDrop (tBM0 Z.K "list" rReverse te)) ρ Ls P rt := fun r X σ H E k F k1 _ => by
  refine h r _ σ H E _ fun v x H1 E1 f1 b1 ⟨p, es, e, hm, q⟩ => ?_
  subst e
  rw [rep_raw.mp b1]
  have kk := k.fx E f1
  obtain ⟨ws, h1, h2⟩ := kk.at_ _ hm
  refine ⟨tyV_l h1, p, ws, rfl, rfl, h1, wk_turn (g := List.reverse) hm f1 E1 kk h1 (fun ds hd ld => ⟨hd.reverse, ?_⟩) k1 q⟩
  rw [LFL_all] at ld ⊢
  exact fun x hx => ld x (List.mem_reverse.mp hx)
/-! ### a def whose answer is new throughout -/
/-- nothing in the answer that can be changed was there ahead of the call -/
def SpF (Z : Cs) (spec : List D → (D → Prop) → Prop) : Sp := fun vs H Q _ => ∃ (ds : List D) (Po : D → Prop), RepL Z H noA ds vs ∧ spec ds Po ∧
  ∀ v d H', Same H H' → Rep Z H' (fun a => ∃ o, H a = some o) d v → Po d → Q v H'
theorem len_F {vs : List V} {H : Hp} {Q : VK} {E : XK} {n : Nat} {spec : List D → (D → Prop) → Prop} (h : SpF Z spec vs H Q E) (l : ∀ ds Po, spec ds Po → ds.length = n) : vs.length = n := by
  obtain ⟨ds, Po, h1, h3, _⟩ := h
  rw [h1.length, l ds Po h3]
theorem we_callF {tl : TA} {Q : D → Prop} {spec : List D → (D → Prop) → Prop} {E' : XK} (h : Wab Z tl ρ fun ds => spec ds Q) : We Z (tCall (SpF Z spec) [] E' tl) ρ Q := fun r X σ H E k hk => h r X σ H E _ fun vs ds H1 E1 f1 b1 s1 => by
  rw [List.append_nil]
  exact ⟨ds, Q, b1.rep0 E1, s1, fun v d H2 s h2 q => hk v d H2 (E1.same s) (f1.trans (Fx.same s)) (h2.mv (av_sub fun a z => E1.av_tracked z)) q⟩
/-- all but the last statement, then a call of another def that is handed a new list -/
theorem run_F {tl : TE} {spec spec2 : List D → (D → Prop) → Prop} {N : List Str} {vs : List V} {Q : VK} {E E' : XK} (h : SpF Z spec vs H Q E)
    (hw : ∀ ds Po, spec ds Po → Wc Z ts (startE N ds) { nx := fun ρ' => We Z te ρ' fun d1 => LF d1 = true ∧ Wl Z tl ρ' fun es => LFL es = true ∧ spec2 [d1, .lst es] Po }) : tSeq ts (tRet (tCall (SpV Z spec2) [] E' (tCons te (tCons tl tNil)))) { nx := fun _ H' => Q .non H', rt := Q } (start N vs) H := by
  obtain ⟨ds, Po, h1, h3, k⟩ := h
  have no : ∀ σ a, ¬ Ow σ (startE N ds) a := fun _ _ => start_ow h1
  refine hw ds Po h3 none noA _ H (sv_start h1 fun a z => False.elim z) _ (fun σ' ρ' H' E f q => ?_) (fun _ _ _ _ _ _ _ _ q => False.elim q) (fun _ _ _ _ _ _ _ _ _ _ _ q => False.elim q) (fun _ _ _ _ _ _ _ _ _ q => False.elim q)
  have s1 := fr_same (no _) f
  refine q none noA σ' H' E _ fun v d H1 E1 f1 b1 ⟨l1, q⟩ => q none noA σ' H1 E1 _ fun p us es H2 n E2 f2 hp b2 ⟨l2, q⟩ => ?_
  have sf : ∀ {A B : Hp}, Fx none A B → Same A B := fun f a o e => f.fx a o e fun z => nomatch z
  have s2 : Same H H2 := fun a o e => sf f2 a o (sf f1 a o (s1 a o e))
  have np : ¬ ∃ o, H p = some o := fun ⟨o, e⟩ => by
    have := sf f1 p o (s1 p o e)
    rw [n] at this; cases this
  show SpV Z spec2 ([v, .ref p] ++ []) H2 Q E'
  refine ⟨fun a => ∃ o, H a = some o, [d, .lst es], Po, ?_, fun a ⟨o, e⟩ => ⟨o, s2 a o e⟩, q, fun v d H3 s h q => k v d H3 (fun a o e => s a o (s2 a o e)) h q⟩
  refine repL_cons.mpr ⟨_, _, rfl, Rep.lf l1 (b1.mv (Fx.mv (X := noA) (σ := σ') (ρ := ρ') f2)), repL_cons.mpr ⟨_, _, rfl, rep_lst.mpr ⟨p, us, rfl, np, hp, b2.lf l2⟩, repL_nil.mpr rfl⟩⟩
/-- told data: its lists are kept from here on -/
def Cut (Z : Cs) (A : Addr → Prop) (H : Hp) (v : V) (Ls : Kl) (d : D) : Prop := Rep Z H noA d v ∧ LF d = true ∧ ∀ x ∈ Ls, ¬ A x.1 ∧ (∃ ws, H x.1 = some (.lst ws) ∧ RepL Z H noA x.2 ws) ∧ LFL x.2 = true
theorem wk_set_go {F : Ends} {A : Addr → Prop} {v : V} {Ls0 : Kl} (hA : ∀ a o, H a = some o → A a) (c : Cut Z A H2 v Ls0 d) (E1 : Sv Z r (XL X Ls) H1 σ ρ) (kk : KL Z X H1 Ls) (f1 : Fx r H H1) (s : Same H1 H2) (hX : ∀ a, X a → ∃ o, H a = some o)
    (hA1 : ∀ a o, H1 a = some o → A a)
    (k1 : ∀ σ' ρ' H' Ls', Sv Z r (XL X Ls') H' σ' ρ' → KL Z X H' Ls' → FrL r Ls σ ρ H σ' ρ' H' Ls' → P ρ' Ls' → F.nx σ' H') (q : P (ρ.set i (.v d)) (Ls ++ Ls0)) : F.nx (σ.set i (some v)) H2 := by
  obtain ⟨b, l, cc⟩ := c
  have nw : ∀ x ∈ Ls0, H1 x.1 = none := fun x hx => by
    cases e : H1 x.1 with
    | none => rfl
    | some o => exact absurd (hA1 _ o e) (cc x hx).1
  have E2 : Sv Z r (XL X (Ls ++ Ls0)) H2 σ ρ := E1.grow s fun a z => by
    rcases z with z | ⟨x, hx, e⟩
    · exact .inl (.inl z)
    · rcases List.mem_append.mp hx with hx | hx
      · exact .inl (.inr ⟨x, hx, e⟩)
      · subst e
        obtain ⟨ws, h1, _⟩ := (cc x hx).2.1
        exact .inr ⟨nw x hx, _, h1⟩
  refine k1 _ _ H2 (Ls ++ Ls0) (E2.setv (b.lf l)) ⟨fun x hx => ?_, fun x hx => ?_, fun x hx z => ?_⟩ ?_ q
  · rcases List.mem_append.mp hx with hx | hx
    · obtain ⟨ws, h1, h2⟩ := kk.at_ x hx
      exact ⟨ws, s _ _ h1, h2.tp (kk.lf x hx) fun a o _ e => s a o e⟩
    · exact (cc x hx).2.1
  · rcases List.mem_append.mp hx with hx | hx
    · exact kk.lf x hx
    · exact (cc x hx).2.2
  · rcases List.mem_append.mp hx with hx | hx
    · exact kk.nx x hx z
    · obtain ⟨o, e⟩ := hX _ z
      exact (cc x hx).1 (hA _ o e)
  · have f2 : Fr r σ ρ H (σ.set i (some v)) (ρ.set i (.v d)) H2 := (f1.trans (Fx.same s)).fr.trans (fr_set rfl)
    refine ⟨fun a o h _ n k => f2.fr a o h n k, f2.dm, f2.tp, fun x hx => ?_⟩
    rcases List.mem_append.mp hx with hx | hx
    · exact .inl ⟨x, hx, rfl⟩
    · exact .inr (f1.new (nw x hx))
theorem wk_setF {tl : TA} {spec : List D → (D → Prop) → Prop} {E' : XK} (h : Wab Z tl ρ fun ds => spec ds fun d' => ∀ A H v, Rep Z H A d' v → ∃ Ls0 d, Cut Z A H v Ls0 d ∧ P (ρ.set i (.v d)) (Ls ++ Ls0)) : Wk Z (tAsg (tCall (SpF Z spec) [] E' tl) (gName i)) ρ Ls P rt := fun r X σ H E k F k1 _ => h r _ σ H E _ fun vs ds H1 E1 f1 b1 s1 => by
  rw [List.append_nil]
  refine ⟨ds, _, b1.rep0 E1, s1, fun v d' H2 s h2 q => ?_⟩
  obtain ⟨Ls0, d, c, q⟩ := q _ _ _ h2
  exact wk_set_go (A := fun a => ∃ o, H1 a = some o) (fun a o e => f1.dm a o e) c E1 (k.fx E f1) f1 s (fun a z => (E.xin a (.inl z)).1) (fun a o e => ⟨o, e⟩) k1 q
/-- a def without lists in what it is handed -/
theorem wk_setV {tl : TA} {spec : List D → (D → Prop) → Prop} {E' : XK} (h : Wa Z tl ρ fun ds => LFL ds = true ∧ spec ds fun d' => ∀ A H v, Rep Z H A d' v → ∃ Ls0 d, Cut Z A H v Ls0 d ∧ P (ρ.set i (.v d)) (Ls ++ Ls0)) : Wk Z (tAsg (tCall (SpV Z spec) [] E' tl) (gName i)) ρ Ls P rt := fun r X σ H E k F k1 _ => h r _ σ H E _ fun vs ds H1 E1 f1 b1 ⟨l, s1⟩ => by
  rw [List.append_nil]
  refine ⟨fun a => ∃ o, H1 a = some o, ds, _, b1.lf l, fun a z => z, s1, fun v d' H2 s h2 q => ?_⟩
  obtain ⟨Ls0, d, c, q⟩ := q _ _ _ h2
  exact wk_set_go (A := fun a => ∃ o, H1 a = some o) (fun a o e => f1.dm a o e) c E1 (k.fx E f1) f1 s (fun a z => (E.xin a (.inl z)).1) (fun a o e => ⟨o, e⟩) k1 q
/-! ### told data read whole -/
/-- the lists that are kept are put back into the data -/
inductive Fl (Ls : Kl) : D → D → Prop
  | raw {p : Addr} {es : List D} (h : (p, es) ∈ Ls) : Fl Ls (.raw p) (.lst es)
  | same (d : D) : Fl Ls d d
  | two {a b a' b' : D} (h : Fl Ls a a') (h2 : Fl Ls b b') : Fl Ls (.tup [a, b]) (.tup [a', b'])
  | four {a b c e a' b' c' e' : D} (h : Fl Ls a a') (h2 : Fl Ls b b') (h3 : Fl Ls c c') (h4 : Fl Ls e e') : Fl Ls (.tup [a, b, c, e]) (.tup [a', b', c', e'])
theorem Fl.rep {A : Addr → Prop} (hA : ∀ x ∈ Ls, ¬ A x.1) (k : KL Z X H Ls) : ∀ {d d' : D}, Fl Ls d d' → LF d = true → ∀ {v : V}, Rep Z H noA d v → Rep Z H A d' v
  | _, _, .raw h, _, v, b => by
    obtain ⟨ws, h1, h2⟩ := k.at_ _ h
    exact rep_lst.mpr ⟨_, ws, rep_raw.mp b, hA _ h, h1, h2.lf (k.lf _ h)⟩
  | _, _, .same d, l, v, b => b.lf l
  | _, _, .two ha hb, l, v, b => by
    rw [LF_tup] at l
    obtain ⟨a, vs, e, t, q⟩ := rep_tup.mp b
    obtain ⟨v1, r1, rfl, q1, q⟩ := repL_cons.mp q
    obtain ⟨v2, r2, rfl, q2, q⟩ := repL_cons.mp q
    exact rep_tup.mpr ⟨a, _, e, t, repL_cons.mpr ⟨_, _, rfl, ha.rep hA k (l _ (by simp)) q1, repL_cons.mpr ⟨_, _, rfl, hb.rep hA k (l _ (by simp)) q2, repL_nil.mpr (repL_nil.mp q)⟩⟩⟩
  | _, _, .four ha hb hc he, l, v, b => by
    rw [LF_tup] at l
    obtain ⟨a, vs, e, t, q⟩ := rep_tup.mp b
    obtain ⟨v1, r1, rfl, q1, q⟩ := repL_cons.mp q
    obtain ⟨v2, r2, rfl, q2, q⟩ := repL_cons.mp q
    obtain ⟨v3, r3, rfl, q3, q⟩ := repL_cons.mp q
    obtain ⟨v4, r4, rfl, q4, q⟩ := repL_cons.mp q
    exact rep_tup.mpr ⟨a, _, e, t, repL_cons.mpr ⟨_, _, rfl, ha.rep hA k (l _ (by simp)) q1, repL_cons.mpr ⟨_, _, rfl, hb.rep hA k (l _ (by simp)) q2, repL_cons.mpr ⟨_, _, rfl, hc.rep hA k (l _ (by simp)) q3, repL_cons.mpr ⟨_, _, rfl, he.rep hA k (l _ (by simp)) q4, repL_nil.mpr (repL_nil.mp q)⟩⟩⟩⟩⟩
def noRow (ρ : List En) : List En := ρ.map fun e => match e with | .row => .un | e => e
theorem Sv.noRow (E : Sv Z r X H σ ρ) : Sv Z none X H σ (noRow ρ) := by
  have ow : ∀ a, Ow σ (DL.noRow ρ) a ↔ Ow σ ρ a := fun a => by
    constructor
    · rintro ⟨k, e, h1, h2, h3⟩
      unfold DL.noRow at h1
      rw [List.getElem?_map] at h1
      obtain ⟨e0, h4, rfl⟩ := Option.map_eq_some_iff.mp h1
      refine ⟨k, e0, h4, ?_, h3⟩
      cases e0 <;> first | exact h2 | cases h2
    · rintro ⟨k, e, h1, h2, h3⟩
      refine ⟨k, e, ?_, h2, h3⟩
      unfold DL.noRow
      rw [List.getElem?_map, h1]
      cases e <;> first | rfl | cases h2
  have av : ∀ a, Av none X σ (DL.noRow ρ) a → Av r X σ ρ a := fun a z => by
    rcases z with z | z | z
    · exact .inl ((ow a).mp z)
    · exact .inr (.inl z)
    · cases z
  have m : Mv H (Av r X σ ρ) H (Av none X σ (DL.noRow ρ)) := av_sub av
  refine ⟨by unfold DL.noRow; rw [List.length_map]; exact E.len, fun k e h => ?_, fun a b e e' c h1 h2 o1 o2 q1 q2 => ?_, fun a z => ⟨(E.xin a z).1, fun y => (E.xin a z).2 ((ow a).mp y)⟩, fun a z => nomatch z⟩
  · unfold DL.noRow at h
    rw [List.getElem?_map] at h
    obtain ⟨e0, h4, rfl⟩ := Option.map_eq_some_iff.mp h
    have q := E.at_ k e0 h4
    cases e0 with
    | row => trivial
    | un => trivial
    | v d => exact EnOk.mv (e := .v d) m (fun z => nomatch z) q
    | l ds => exact EnOk.mv (e := .l ds) m (fun _ _ _ _ h => h) q
    | t kv => exact EnOk.mv (e := .t kv) m (fun _ _ _ _ h => h) q
  · have back : ∀ (k : Nat) (e : En), (DL.noRow ρ)[k]? = some e → own e = true → ρ[k]? = some e := fun k e h o => by
      unfold DL.noRow at h
      rw [List.getElem?_map] at h
      obtain ⟨e0, h4, rfl⟩ := Option.map_eq_some_iff.mp h
      cases e0 <;> first | exact h4 | cases o
    exact E.dis a b e e' c (back a e h1 o1) (back b e' h2 o2) o1 o2 q1 q2
/-- a test that reads told data whole; it tells False -/
theorem wk_ifv {d' : D} (hi : ρ[i]? = some (.v d)) (l : LF d = true) (fl : Fl Ls d d') (h : Wt Z tt ((noRow ρ).set i (.v d')) fun b => b = false) (q : P ρ Ls) : Wk Z (tIfS tt ts tNext) ρ Ls P rt := fun r X σ H E k F k1 _ => by
  have E1 : Sv Z none X H σ (noRow ρ) := (E.noRow).less fun a z => .inl z
  obtain ⟨v, e1, e2⟩ := E.at_ i _ hi
  have hn : ∀ x ∈ Ls, ¬ Av none X σ (noRow ρ) x.1 := fun x hx z => by
    have xx : XL X Ls x.1 := .inr ⟨x, hx, rfl⟩
    rcases z with z | z | z
    · exact ((E.noRow).xin _ xx).2 z
    · exact k.nx x hx z
    · cases z
  have E2 := E1.setv (i := i) (fl.rep hn k l (e2.lf l))
  rw [show σ.set i (some v) = σ from by
    obtain ⟨hl, e3⟩ := List.getElem?_eq_some_iff.mp e1
    rw [← e3]
    exact List.set_getElem_self hl] at E2
  refine h none X σ H E2 _ fun b H1 E3 f1 q1 => ?_
  subst q1
  have s : Same H H1 := fun a o e => f1.fx a o e fun z => nomatch z
  exact iteF (k1 σ ρ H1 Ls (E.same s) (k.fx E (Fx.same s)) (Fx.same s).fr.frl q)
end
end DL
/-! DL28: len of a dict with tuples for keys. -/
namespace DL
open PySem PySem.Spec PyProof.Rows L2
theorem cd_lenTd {Z : Cs} {ρ : List En} {Q : D → Prop} {kvs : List (List Int × V)} (q : Q (.int kvs.length)) : CbD Z ρ rLenT [.dt kvs] Q := fun r X σ H vs E h k hk => by
  obtain ⟨v, rfl, b⟩ := h.one
  obtain ⟨a, rfl, h1⟩ := b.dt E
  refine ⟨a, keyT kvs, rfl, h1, ?_⟩
  have e : (keyT kvs).length = kvs.length := List.length_map _
  rw [e]
  exact hk _ _ H E Fx.refl (rep_int.mpr rfl) q
/-! ### told pairs cut -/
section
variable {Z : Cs} {H : Hp} {A : Addr → Prop} {v : V} {ds es : List D} {e : D} {s : Str}
theorem cut_two (l1 : LFL ds = true) (l2 : LF e = true) (h : Rep Z H A (.tup [.lst ds, e]) v) : ∃ p, Cut Z A H v [(p, ds)] (.tup [.raw p, e]) := by
  obtain ⟨a, vs, q, t, q1⟩ := rep_tup.mp h
  obtain ⟨v1, r1, rfl, h1, q2⟩ := repL_cons.mp q1
  obtain ⟨v2, r2, rfl, h2, q3⟩ := repL_cons.mp q2
  obtain rfl := repL_nil.mp q3
  obtain ⟨p, ws, rfl, np, hp, hw⟩ := rep_lst.mp h1
  refine ⟨p, rep_tup.mpr ⟨a, _, q, t, repL_cons.mpr ⟨_, _, rfl, rep_raw.mpr rfl, repL_cons.mpr ⟨_, _, rfl, h2.lf l2, repL_nil.mpr rfl⟩⟩⟩, ?_, fun x hx => ?_⟩
  · rw [LF_tup]
    intro d hd
    rcases List.mem_cons.mp hd with rfl | hd
    · rfl
    · rw [List.mem_singleton.mp hd]; exact l2
  · rw [List.mem_singleton.mp hx]
    exact ⟨np, ⟨ws, hp, hw.lf l1⟩, l1⟩
theorem cut_two2 (l1 : LFL ds = true) (l2 : LFL es = true) (h : Rep Z H A (.tup [.lst ds, .tup [.str s, .lst es]]) v) : ∃ p q, Cut Z A H v [(p, ds), (q, es)] (.tup [.raw p, .tup [.str s, .raw q]]) := by
  obtain ⟨a, vs, q, t, q1⟩ := rep_tup.mp h
  obtain ⟨v1, r1, rfl, h1, q2⟩ := repL_cons.mp q1
  obtain ⟨v2, r2, rfl, h2, q3⟩ := repL_cons.mp q2
  obtain rfl := repL_nil.mp q3
  obtain ⟨p, ws, rfl, np, hp, hw⟩ := rep_lst.mp h1
  obtain ⟨b, us, rfl, t2, g1⟩ := rep_tup.mp h2
  obtain ⟨v3, r3, rfl, h3, g2⟩ := repL_cons.mp g1
  obtain ⟨v4, r4, rfl, h4, g3⟩ := repL_cons.mp g2
  obtain rfl := repL_nil.mp g3
  obtain ⟨c, us, rfl, nc, hc, hu⟩ := rep_lst.mp h4
  refine ⟨p, c, rep_tup.mpr ⟨a, _, q, t, repL_cons.mpr ⟨_, _, rfl, rep_raw.mpr rfl, repL_cons.mpr ⟨_, _, rfl, rep_tup.mpr ⟨b, _, rfl, t2, repL_cons.mpr ⟨_, _, rfl, rep_str.mpr (rep_str.mp h3), repL_cons.mpr ⟨_, _, rfl, rep_raw.mpr rfl, repL_nil.mpr rfl⟩⟩⟩, repL_nil.mpr rfl⟩⟩⟩, rfl, fun x hx => ?_⟩
  rcases List.mem_cons.mp hx with rfl | hx
  · exact ⟨np, ⟨ws, hp, hw.lf l1⟩, l1⟩
  · rw [List.mem_singleton.mp hx]
    exact ⟨nc, ⟨us, hc, hu.lf l2⟩, l2⟩
end
end DL
/-! DL29: lists of lists, the inner ones changed in place. -/
namespace DL
open PySem PySem.Spec PyProof.Rows L2
section
variable {Z : Cs} {r : Option Addr} {X X' : Addr → Prop} {H H' H1 H2 : Hp} {σ σ' σ1 σ2 : L2.St} {ρ ρ' ρ1 ρ2 : List En} {Ls Ls' Ls1 Ls2 : Kl} {P P' : List En → Kl → Prop} {rt : D → Prop} {ts tu : TS} {tt : TT} {te ta tb tl ti : TE} {i j : Nat} {d : D} {ds : List D} {vs : List Nat}
/-- the heap goes on, what is new may be kept apart -/
theorem Sv.fxg (E : Sv Z r X H σ ρ) (f : Fx r H H') (hr : ∀ a, r = some a → RowOk Z.K H' (Av r X' σ ρ) a) (hx : ∀ b, X' b → X b ∨ (H b = none ∧ ∃ o, H' b = some o)) : Sv Z r X' H' σ ρ := by
  cases r with
  | none => exact E.grow (fun a o e => f.fx a o e fun z => nomatch z) hx
  | some a => exact (E.rowed rfl ⟨fun b o n e => f.fx b o e fun z => n (by injection z with z; exact z.symm)⟩ (hr a rfl) hx).1
/-- one list more is kept -/
theorem xl_snoc {q : Addr} {es : List D} {a : Addr} : XL X (Ls ++ [(q, es)]) a ↔ XL X Ls a ∨ a = q := by
  constructor
  · rintro (z | ⟨x, hx, e⟩)
    · exact .inl (.inl z)
    · rcases List.mem_append.mp hx with hx | hx
      · exact .inl (.inr ⟨x, hx, e⟩)
      · rw [List.mem_singleton.mp hx] at e; exact .inr e.symm
  · rintro ((z | ⟨x, hx, e⟩) | z)
    · exact .inl z
    · exact .inr ⟨x, List.mem_append_left _ hx, e⟩
    · exact .inr ⟨(q, es), by simp, z.symm⟩
theorem KL.snoc {q : Addr} {es : List D} {ws : List V} (k : KL Z X H Ls) (hq : H q = some (.lst ws)) (hw : RepL Z H noA es ws) (l : LFL es = true) (nx : ¬ X q) : KL Z X H (Ls ++ [(q, es)]) := ⟨fun x hx => by
  rcases List.mem_append.mp hx with hx | hx
  · exact k.at_ x hx
  · rw [List.mem_singleton.mp hx]; exact ⟨ws, hq, hw⟩, fun x hx => by
  rcases List.mem_append.mp hx with hx | hx
  · exact k.lf x hx
  · rw [List.mem_singleton.mp hx]; exact l, fun x hx => by
  rcases List.mem_append.mp hx with hx | hx
  · exact k.nx x hx
  · rw [List.mem_singleton.mp hx]; exact nx⟩
theorem KL.same (k : KL Z X H Ls) (s : ∀ x ∈ Ls, ∀ o, H x.1 = some o → H' x.1 = some o) (tp : ∀ a o, immO o = true → H a = some o → H' a = some o) : KL Z X H' Ls := ⟨fun x hx => by
  obtain ⟨ws, h1, h2⟩ := k.at_ x hx
  exact ⟨ws, s x hx _ h1, h2.tp (k.lf x hx) tp⟩, k.lf, k.nx⟩
/-! ### reading -/
def WeK (Z : Cs) (te : TE) (ρ : List En) (Ls : Kl) (Q : D → Prop) : Prop := ∀ r X σ H, Sv Z r (XL X Ls) H σ ρ → KL Z X H Ls → ∀ k : VK,
  (∀ v d H', Sv Z r (XL X Ls) H' σ ρ → Fx r H H' → Rep Z H' (Av r (XL X Ls) σ ρ) d v → Q d → k v H') → te σ H k
theorem wek_we {Q : D → Prop} (h : We Z te ρ Q) : WeK Z te ρ Ls Q := fun r X σ H E _ k hk => h r _ σ H E k hk
theorem wek_len {Q : D → Prop} (h : We Z te ρ fun x => ∃ p es, x = .raw p ∧ (p, es) ∈ Ls ∧ Q (.int (es.length : Nat))) : WeK Z (tCB (rLenB Z.K) (tCons te tNil)) ρ Ls Q := fun r X σ H E kk k hk => h r _ σ H E _ fun v x H1 E1 f1 b1 ⟨p, es, e, hm, q⟩ => by
  subst e
  rw [rep_raw.mp b1]
  obtain ⟨ws, h1, h2⟩ := (kk.fx E f1).at_ _ hm
  refine ⟨.ref p, ws.length, rfl, ?_, ?_⟩
  · exact .inl ⟨ws, .of h1, rfl⟩
  · rw [h2.length]
    exact hk _ _ H1 E1 f1 (rep_int.mpr rfl) q
theorem wek_ix {Q : D → Prop} (h : We Z te ρ fun x => ∃ p es, x = .raw p ∧ (p, es) ∈ Ls ∧ We Z ti ρ fun y => ∃ (n : Int) (d : D), y = .int n ∧ atI es n = some d ∧ Q d) : WeK Z (tOp (rIxL Z.K) te ti) ρ Ls Q := fun r X σ H E kk k hk => h r _ σ H E _ fun v x H1 E1 f1 b1 ⟨p, es, e, hm, g⟩ => g r _ σ H1 E1 _ fun w y H2 E2 f2 b2 ⟨n, d, e2, ea, q⟩ => by
  subst e e2
  rw [rep_raw.mp b1, rep_int.mp b2]
  have k2 := (kk.fx E f1).fx E1 f2
  obtain ⟨ws, h1, h2⟩ := k2.at_ _ hm
  obtain ⟨u, hu, hr⟩ := h2.atI ea
  have ld : LF d = true := by
    have := k2.lf _ hm
    rw [LFL_all] at this
    obtain ⟨jj, _, hj, _⟩ := atI_get ea
    exact this d (List.mem_of_getElem? hj)
  exact ⟨p, ws, n, u, rfl, rfl, .of h1, hu, hk _ _ H2 E2 (f1.trans f2) (hr.lf ld) q⟩
theorem wek_rcall {i : Nat} {spec : List D → (D → Prop) → Prop} {E' : XK} {Q : D → Prop} (hr : ρ[i]? = some .row) (h : WeK Z te ρ Ls fun d => spec [d] Q) : WeK Z (tCall (SpRV Z spec) [] E' (tCons (tVar i) (tCons te tNil))) ρ Ls Q := fun r X σ H E kk k hk => by
  obtain ⟨a, e1, e2⟩ := E.at_ i _ hr
  refine ⟨_, e1, h r X σ H E kk _ fun v d H1 E1 f1 b1 s1 => ?_⟩
  show SpRV Z spec ((.ref a :: [v]) ++ []) H1 k E'
  rw [List.append_nil]
  obtain ⟨q1, q2, q3⟩ := E1.row a e2
  subst e2
  refine ⟨Aw (XL X Ls) σ ρ, a, [v], [d], Q, rfl, fun z => z.elim q2 q3, row_iff (fun _ => aw_av.symm) q1, repL_cons.mpr ⟨_, _, rfl, rep_iff (fun _ => aw_av.symm) b1, repL_nil.mpr rfl⟩, fun b z => z.elim (fun z => E1.tracked z) fun z => (E1.xin b z).1, s1, fun v d H2 s h2 h3 q => ?_⟩
  obtain ⟨E2, f2⟩ := E1.rowed (X' := XL X Ls) rfl s (row_iff (fun _ => aw_av) h2) fun b z => .inl z
  exact hk v d H2 E2 (f1.trans f2) (rep_iff (fun _ => aw_av) h3) q
theorem wk_setK (h : WeK Z te ρ Ls fun d => P (ρ.set i (.v d)) Ls) : Wk Z (tAsg te (gName i)) ρ Ls P rt := fun r X σ H E k F k1 _ => h r X σ H E k _ fun v d H1 E1 f1 b1 q =>
  k1 _ _ H1 Ls (E1.setv b1) (k.fx E f1) (f1.fr.trans (fr_set rfl)).frl q
/-! ### changing -/
theorem wk_appK (h : We Z te ρ fun x => ∃ p es, x = .raw p ∧ (p, es) ∈ Ls ∧ WeK Z ta ρ Ls fun d => LF d = true ∧ es.length < sizeLine ∧ P ρ (updL p (fun es => es ++ [d]) Ls)) : Wk Z (tDrop (tBM Z.K "list" rAppend te (tCons ta tNil))) ρ Ls P rt := fun r X σ H E k F k1 _ => by
  refine h r _ σ H E _ fun v x H1 E1 f1 b1 ⟨p, es, e, hm, g⟩ => ?_
  subst e
  rw [rep_raw.mp b1]
  have kk := k.fx E f1
  obtain ⟨ws0, h0, _⟩ := kk.at_ _ hm
  refine ⟨tyV_l h0, g r X σ H1 E1 kk _ fun v d H2 E2 f2 b2 ⟨l, hl, q⟩ => ?_⟩
  have k2 := kk.fx E1 f2
  obtain ⟨ws, h1, h2⟩ := k2.at_ _ hm
  refine ⟨p, ws, v, rfl, rfl, h1, by rw [h2.length]; exact hl, wk_turn (g := fun es => es ++ [d]) hm (f1.trans f2) E2 k2 h1 (fun ds hd ld => ⟨hd.append (.one (b2.lf l)), ?_⟩) k1 q⟩
  rw [LFL_all] at ld ⊢
  intro x hx
  rcases List.mem_append.mp hx with hx | hx
  · exact ld x hx
  · rw [List.mem_singleton.mp hx]; exact l
theorem wk_seti (h : We Z ta ρ fun d => LF d = true ∧ We Z te ρ fun x => ∃ p es, x = .raw p ∧ (p, es) ∈ Ls ∧ We Z ti ρ fun y => ∃ (n : Int) (m : Nat), y = .int n ∧ ixN es.length n = some m ∧ P ρ (updL p (fun es => es.set m d) Ls)) : Wk Z (tAsg ta (gSub te ti rSetL)) ρ Ls P rt := fun r X σ H E k F k1 _ => by
  refine h r _ σ H E _ fun u d H0 E0 f0 b0 ⟨l, g⟩ => g r _ σ H0 E0 _ fun v x H1 E1 f1 b1 ⟨p, es, e, hm, g⟩ => g r _ σ H1 E1 _ fun w y H2 E2 f2 b2 ⟨n, m, e2, hl, q⟩ => ?_
  subst e e2
  rw [rep_raw.mp b1, rep_int.mp b2]
  have k2 := ((k.fx E f0).fx E0 f1).fx E1 f2
  obtain ⟨ws, h1, h2⟩ := k2.at_ _ hm
  have b3 : Rep Z H2 noA d u := Rep.lf l ((b0.mv f1.mv).mv f2.mv)
  refine ⟨p, ws, n, m, rfl, rfl, h1, by rw [h2.length]; exact hl, wk_turn (g := fun es => es.set m d) hm ((f0.trans f1).trans f2) E2 k2 h1 (fun ds hd ld => ⟨hd.set m b3, ?_⟩) k1 q⟩
  rw [LFL_all] at ld ⊢
  intro x hx
  rcases List.mem_or_eq_of_mem_set hx with hx | rfl
  · exact ld x hx
  · exact l
theorem wk_pop (h : We Z te ρ fun x => ∃ p es, x = .raw p ∧ (p, es) ∈ Ls ∧ We Z ta ρ fun y => ∃ (m : Nat), y = .int (m : Int) ∧ m < es.length ∧ m < 2 ^ 62 ∧ P ρ (updL p (fun es => es.eraseIdx m) Ls)) : Wk Z (tDrop (tBM Z.K "list" rPopAt te (tCons ta tNil))) ρ Ls P rt := fun r X σ H E k F k1 _ => by
  refine h r _ σ H E _ fun v x H1 E1 f1 b1 ⟨p, es, e, hm, g⟩ => ?_
  subst e
  rw [rep_raw.mp b1]
  have kk := k.fx E f1
  obtain ⟨ws0, h0, _⟩ := kk.at_ _ hm
  refine ⟨tyV_l h0, g r _ σ H1 E1 _ fun w y H2 E2 f2 b2 ⟨m, e2, hl, h62, q⟩ => ?_⟩
  subst e2
  rw [rep_int.mp b2]
  have k2 := kk.fx E1 f2
  obtain ⟨ws, h1, h2⟩ := k2.at_ _ hm
  have hl' : m < ws.length := by rw [h2.length]; exact hl
  refine ⟨p, ws, (m : Int), m, ws[m], rfl, rfl, h1, by omega, by omega, ?_, List.getElem?_eq_getElem hl', wk_turn (g := fun es => es.eraseIdx m) hm (f1.trans f2) E2 k2 h1 (fun ds hd ld => ⟨hd.eraseIdx m, ?_⟩) k1 q⟩
  · unfold seqIndex?
    have e : (if (m : Int) < 0 then (m : Int) + (ws.length : Int) else (m : Int)) = (m : Int) := if_neg (by omega)
    simp only [e]
    rw [if_pos (by simp [hl'])]
    rfl
  · rw [LFL_all] at ld ⊢
    exact fun x hx => ld x (List.mem_of_mem_eraseIdx hx)
/-- the step: a slot's list of lists takes in one more, or one in another's place -/
theorem wk_new_go {F : Ends} {g : D → List D} {gv : V → List V} {es : List D} {ws : List V} {a q : Addr} (hi : ρ[i]? = some (.l ds)) (k : KL Z X H Ls) (E : Sv Z r (XL X Ls) H σ ρ) (hX : ∀ a, X a → ∃ o, H a = some o) (hq : H q = none) (hw : RepL Z H noA es ws) (l : LFL es = true)
    (ha : σ[i]? = some (some (.ref a))) (hv : ∀ us, H a = some (.lst us) → RepL Z H noA ds us → RepL Z H noA (g (.raw q)) (gv (.ref q)) ∧ LFL (g (.raw q)) = true) (hl : LFL ds = true)
    (k1 : ∀ σ' ρ' H' Ls', Sv Z r (XL X Ls') H' σ' ρ' → KL Z X H' Ls' → FrL r Ls σ ρ H σ' ρ' H' Ls' → P ρ' Ls' → F.nx σ' H') (p : P (ρ.set i (.l (g (.raw q)))) (Ls ++ [(q, es)])) : F.nx σ (upd (upd H q (.lst ws)) a (.lst (gv (.ref q)))) := by
  obtain ⟨a', us, e1, h1, h2⟩ := E.at_ i _ hi
  rw [ha] at e1
  cases e1
  have nXq : ¬ X q := fun z => by obtain ⟨o, e⟩ := hX q z; rw [hq] at e; cases e
  have sm := same_upd (o := .lst ws) hq
  have E1 : Sv Z r (XL X (Ls ++ [(q, es)])) (upd H q (.lst ws)) σ ρ := E.grow sm fun b z => by
    rcases xl_snoc.mp z with z | z
    · exact .inl z
    · subst z; exact .inr ⟨hq, _, upd_same⟩
  have tp1 : ∀ b o, immO o = true → H b = some o → upd H q (.lst ws) b = some o := fun b o _ e => sm b o e
  have kk : KL Z X (upd H q (.lst ws)) (Ls ++ [(q, es)]) := (k.same (fun x hx o e => sm _ o e) tp1).snoc upd_same (hw.tp l tp1) l nXq
  obtain ⟨g1, g2⟩ := hv us h1 (h2.lf hl)
  have oa : Ow σ ρ a := ⟨i, _, hi, rfl, ha⟩
  have naq : a ≠ q := fun z => by rw [z, hq] at h1; cases h1
  obtain ⟨E2, f2⟩ := E1.mut (e' := .l (g (.raw q))) (o := .lst (gv (.ref q))) hi rfl ha rfl (show upd H q (.lst ws) a = some (.lst us) by rw [upd_ne naq]; exact h1) rfl ⟨a, gv (.ref q), rfl, upd_same, by
    refine (g1.tp (A' := noA) g2 tp1).tp g2 fun b o im e => ?_
    rw [upd_ne (fun z => by subst z; rw [upd_ne naq, h1] at e; cases e; cases im)]
    exact e⟩
  refine k1 _ _ _ (Ls ++ [(q, es)]) E2 (kk.fr E1 f2) ⟨fun b o e n1 n2 n3 => ?_, fun b o e => ?_, fun b o im e => f2.tp b o im (tp1 b o im e), fun x hx => ?_⟩ p
  · exact f2.fr b o (sm b o e) n2 n3
  · exact f2.dm b o (sm b o e)
  · rcases List.mem_append.mp hx with hx | hx
    · exact .inl ⟨x, hx, rfl⟩
    · rw [List.mem_singleton.mp hx]; exact .inr hq
/-- found.append(list(found[k])) -/
theorem wk_appNew (hi : ρ[i]? = some (.l ds)) (hl : LFL ds = true) (hz : ds.length < sizeLine) (h : We Z te ρ fun x => ∃ p es, x = .raw p ∧ (p, es) ∈ Ls ∧ ∀ q, P (ρ.set i (.l (ds ++ [.raw q]))) (Ls ++ [(q, es)])) : Wk Z (tDrop (tBM Z.K "list" rAppend (tVar i) (tCons (tCB (rListB Z.K) (tCons te tNil)) tNil))) ρ Ls P rt := fun r X σ H E k F k1 _ => by
  obtain ⟨a, us, e1, e2, e3⟩ := E.at_ i _ hi
  refine ⟨_, e1, tyV_l e2, h r _ σ H E _ fun v x H1 E1 f1 b1 ⟨p, es, e, hm, q⟩ => ?_⟩
  subst e
  rw [rep_raw.mp b1]
  have kk := k.fx E f1
  obtain ⟨ws, h1, h2⟩ := kk.at_ _ hm
  refine ⟨p, ws, rfl, .inl (.of h1), fun l hn => ?_⟩
  obtain ⟨a', us, g1, g2, g3⟩ := E1.at_ i _ hi
  rw [e1] at g1
  cases g1
  have nal : a ≠ l := fun z => by rw [z, hn] at g2; cases g2
  refine ⟨a, us, .ref l, rfl, rfl, by rw [upd_ne nal]; exact g2, by rw [g3.length]; exact hz, ?_⟩
  exact wk_new_go (g := fun x => ds ++ [x]) (gv := fun v => us ++ [v]) hi kk E1 (fun a z => (E1.xin a (.inl z)).1) hn h2 (kk.lf _ hm) e1 (fun us' hu hr => by
    rw [g2] at hu
    cases hu
    refine ⟨hr.append (.one (rep_raw.mpr rfl)), ?_⟩
    rw [LFL_all] at hl ⊢
    intro x hx
    rcases List.mem_append.mp hx with hx | hx
    · exact hl x hx
    · rw [List.mem_singleton.mp hx]; rfl) hl (fun σ' ρ' H' Ls' a b c q => k1 σ' ρ' H' Ls' a b (f1.fr.frl.trans c) q) (q l)
/-- found[k] = found[k] + found[j] -/
theorem wk_setNew {jj m : Nat} {n : Int} (hi : ρ[i]? = some (.l ds)) (hl : LFL ds = true) (hj : ρ[jj]? = some (.v (.int n))) (hx : ixN ds.length n = some m) (h : We Z ta ρ fun x => ∃ p es, x = .raw p ∧ (p, es) ∈ Ls ∧ WeK Z tb ρ Ls fun y => ∃ p2 es2, y = .raw p2 ∧ (p2, es2) ∈ Ls ∧ es.length + es2.length ≤ sizeLine ∧ ∀ q, P (ρ.set i (.l (ds.set m (.raw q)))) (Ls ++ [(q, es ++ es2)])) : Wk Z (tAsg (tOp rCat ta tb) (gSub (tVar i) (tVar jj) rSetL)) ρ Ls P rt := fun r X σ H E k F k1 _ => by
  refine h r _ σ H E _ fun v x H1 E1 f1 b1 ⟨p, es, e, hm, g⟩ => g r X σ H1 E1 (k.fx E f1) _ fun w y H2 E2 f2 b2 ⟨p2, es2, e2, hm2, hz, q⟩ => ?_
  subst e e2
  rw [rep_raw.mp b1, rep_raw.mp b2]
  have k2 := (k.fx E f1).fx E1 f2
  obtain ⟨ws, h1, h2⟩ := k2.at_ _ hm
  obtain ⟨ws2, h3, h4⟩ := k2.at_ _ hm2
  obtain ⟨a, us, g1, g2, g3⟩ := E2.at_ i _ hi
  obtain ⟨vn, q1, q2⟩ := E2.at_ jj _ hj
  rw [rep_int.mp q2] at q1
  refine ⟨p, p2, ws, ws2, rfl, rfl, h1, h3, by rw [h2.length, h4.length]; exact hz, fun l hn => ⟨_, g1, _, q1, ?_⟩⟩
  have nal : a ≠ l := fun z => by rw [z, hn] at g2; cases g2
  refine ⟨a, us, n, m, rfl, rfl, by rw [upd_ne nal]; exact g2, by rw [g3.length]; exact hx, ?_⟩
  have le : LFL (es ++ es2) = true := by
    have l1 := k2.lf _ hm
    have l2 := k2.lf _ hm2
    rw [LFL_all] at l1 l2 ⊢
    intro x hx
    rcases List.mem_append.mp hx with hx | hx
    · exact l1 x hx
    · exact l2 x hx
  exact wk_new_go (g := fun x => ds.set m x) (gv := fun v => us.set m v) hi k2 E2 (fun a z => (E2.xin a (.inl z)).1) hn (h2.append h4) le g1 (fun us' hu hr => by
    rw [g2] at hu
    cases hu
    refine ⟨hr.set m (rep_raw.mpr rfl), ?_⟩
    rw [LFL_all] at hl ⊢
    intro x hx
    rcases List.mem_or_eq_of_mem_set hx with hx | rfl
    · exact hl x hx
    · rfl) hl (fun σ' ρ' H' Ls' a b c q => k1 σ' ρ' H' Ls' a b ((f1.trans f2).fr.frl.trans c) q) (q l)
/-! ### the list of lists read whole -/
def FlA (Ls : Kl) (ds ds' : List D) : Prop := ds.length = ds'.length ∧ ∀ (m : Nat) (d d' : D), ds[m]? = some d → ds'[m]? = some d' → Fl Ls d d'
theorem FlA.rep {A : Addr → Prop} (hA : ∀ x ∈ Ls, ¬ A x.1) (k : KL Z X H Ls) : ∀ {ds ds' : List D}, FlA Ls ds ds' → LFL ds = true → ∀ {vs : List V}, RepL Z H noA ds vs → RepL Z H A ds' vs
  | [], [], _, _, vs, b => repL_nil.mpr (repL_nil.mp b)
  | [], d' :: ds', h, _, vs, b => by have := h.1; simp at this
  | d :: ds, [], h, _, vs, b => by have := h.1; simp at this
  | d :: ds, d' :: ds', h, l, vs, b => by
    obtain ⟨v, w, e, b1, b2⟩ := repL_cons.mp b
    rw [LFL_all] at l
    refine repL_cons.mpr ⟨v, w, e, (h.2 0 d d' rfl rfl).rep hA k (l d (by simp)) b1, FlA.rep hA k ⟨by have := h.1; simpa using this, fun m a a' q q' => h.2 (m + 1) a a' (by simpa using q) (by simpa using q')⟩ (by rw [LFL_all]; exact fun x hx => l x (List.mem_cons_of_mem _ hx)) b2⟩
theorem view_l {ds' : List D} (hi : ρ[i]? = some (.l ds)) (l : LFL ds = true) (fl : FlA Ls ds ds') (E : Sv Z r (XL X Ls) H σ ρ) (k : KL Z X H Ls) : Sv Z r X H σ (ρ.set i (.v (.lst ds'))) := by
  have E1 := (E.freeze hi).less (X' := X) fun a z => .inl z
  have gi : (ρ.set i (.v (.lst ds)))[i]? = some (.v (.lst ds)) := List.getElem?_set_self (List.getElem?_eq_some_iff.mp hi).1
  obtain ⟨v, e1, e2⟩ := E1.at_ i _ gi
  obtain ⟨a, ws, rfl, na, ha, hw⟩ := rep_lst.mp e2
  have EE := E.freeze hi
  have hn : ∀ x ∈ Ls, ¬ Av r X σ (ρ.set i (.v (.lst ds))) x.1 := fun x hx z => by
    have xx : XL X Ls x.1 := .inr ⟨x, hx, rfl⟩
    rcases z with z | z | z
    · exact (EE.xin _ xx).2 z
    · exact k.nx x hx z
    · exact (EE.row _ z).2.2 xx
  have b : Rep Z H (Av r X σ (ρ.set i (.v (.lst ds)))) (.lst ds') (.ref a) := rep_lst.mpr ⟨a, ws, rfl, na, ha, fl.rep hn k l (hw.lf l)⟩
  have E2 := E1.setv (i := i) b
  rw [List.set_set, show σ.set i (some (V.ref a)) = σ from by
    obtain ⟨hl, e3⟩ := List.getElem?_eq_some_iff.mp e1
    rw [← e3]
    exact List.set_getElem_self hl] at E2
  exact E2
/-- a test that reads the list of lists whole -/
theorem wk_ifl {ds' : List D} (hi : ρ[i]? = some (.l ds)) (l : LFL ds = true) (fl : FlA Ls ds ds') (h : Wt Z tt (noRow (ρ.set i (.v (.lst ds')))) fun b => (b = true → Wk Z ts ρ Ls P rt) ∧ (b = false → Wk Z tu ρ Ls P rt)) : Wk Z (tIfS tt ts tu) ρ Ls P rt := fun r X σ H E k F k1 k2 => by
  refine h none X σ H (view_l hi l fl E k).noRow _ fun b H1 E3 f1 q1 => ?_
  have s : Same H H1 := fun a o e => f1.fx a o e fun z => nomatch z
  have E1 := E.same s
  have kk := k.fx E (Fx.same s)
  have g : ∀ {σ' : L2.St} {ρ' : List En} {H' : Hp} {Ls' : Kl}, FrL r Ls σ ρ H1 σ' ρ' H' Ls' → FrL r Ls σ ρ H σ' ρ' H' Ls' := fun f => ((Fx.same s).fr.frl).trans f
  cases b with
  | true => exact iteT (q1.1 rfl r X σ H1 E1 kk F (fun σ2 ρ2 H2 Ls2 E2 kk f2 q2 => k1 σ2 ρ2 H2 Ls2 E2 kk (g f2) q2) (fun v d H2 σ2 ρ2 Ls2 E2 kk f2 b q2 => k2 v d H2 σ2 ρ2 Ls2 E2 kk (g f2) b q2))
  | false => exact iteF (q1.2 rfl r X σ H1 E1 kk F (fun σ2 ρ2 H2 Ls2 E2 kk f2 q2 => k1 σ2 ρ2 H2 Ls2 E2 kk (g f2) q2) (fun v d H2 σ2 ρ2 Ls2 E2 kk f2 b q2 => k2 v d H2 σ2 ρ2 Ls2 E2 kk (g f2) b q2))
/-- all is given free: what follows is a return -/
theorem wk_rel {ds' : List D} (hi : ρ[i]? = some (.l ds)) (l : LFL ds = true) (fl : FlA Ls ds ds') (h : Wc Z ts (ρ.set i (.v (.lst ds'))) { nx := fun _ => False, rt := rt }) : Wk Z ts ρ Ls P rt := fun r X σ H E k F k1 k2 => by
  have ow : ∀ a, Ow σ (ρ.set i (.v (.lst ds'))) a → Ow σ ρ a := fun a z => by
    obtain ⟨j, e, h1, h2, h3⟩ := z
    rcases set_get h1 with ⟨_, rfl⟩ | ⟨_, q⟩
    · cases h2
    · exact ⟨j, e, q, h2, h3⟩
  refine h r X σ H (view_l hi l fl E k) F (fun _ _ _ _ _ q => False.elim q) (fun v d H' σ' ρ' E' f b q => k2 v d H' σ' ρ' [] (E'.less fun a z => ?_) ⟨(fun x hx => nomatch hx), (fun x hx => nomatch hx), (fun x hx => nomatch hx)⟩ ⟨fun a o e n1 n2 n3 => f.fr a o e (fun z => n2 (ow a z)) n3, f.dm, f.tp, (fun x hx => nomatch hx)⟩ (b.mv (av_sub fun a z => ?_)) q) (fun _ _ _ _ _ _ _ _ _ _ _ q => False.elim q) (fun _ _ _ _ _ _ _ _ _ q => False.elim q)
  · rcases z with z | ⟨x, hx, _⟩
    · exact z
    · nomatch hx
  · rcases z with z | z | z
    · exact .inl z
    · rcases z with z | ⟨x, hx, _⟩
      · exact .inr (.inl z)
      · nomatch hx
    · exact .inr (.inr z)
/-! ### a comprehension that makes new lists -/
structure LcN (Z : Cs) (r : Option Addr) (X : Addr → Prop) (Ls : Kl) (σ : L2.St) (ρ : List En) (H1 : Hp) (Dl : Addr) (das : List Addr) (ess : List (List D)) (H' : Hp) : Prop where
  sv : Sv Z r (Xp (XL X (Ls ++ das.zip ess)) Dl) H' σ ρ
  kl : KL Z X H' (Ls ++ das.zip ess)
  at_ : H' Dl = some (.lst (das.map .ref))
  fx : Fx r H1 H'
  nw : ∀ a ∈ das, H1 a = none ∧ a ≠ Dl
  ln : das.length = ess.length
  ol : ∀ x ∈ Ls, ∃ o, H1 x.1 = some o
theorem LcN.mv {Dl : Addr} {das : List Addr} {ess : List (List D)} (S : LcN Z r X Ls σ ρ H1 Dl das ess H') (hD : H1 Dl = none) : Mv H1 (Av r (XL X Ls) σ ρ) H' (Av r (Xp (XL X (Ls ++ das.zip ess)) Dl) σ ρ) := ⟨fun a o n e => ⟨S.fx.fx a o e fun z => n (.inr (.inr z)), fun z => by
  rcases z with z | (z | z) | z
  · exact n (.inl z)
  · rcases z with z | ⟨x, hx, e2⟩
    · exact n (.inr (.inl (.inl z)))
    · rcases List.mem_append.mp hx with hx | hx
      · exact n (.inr (.inl (.inr ⟨x, hx, e2⟩)))
      · have := (S.nw x.1 (List.of_mem_zip (show (x.1, x.2) ∈ das.zip ess from hx)).1).1
        rw [e2, e] at this
        cases this
  · rw [z, hD] at e; cases e
  · exact n (.inr (.inr z))⟩, S.fx.tp⟩
theorem LcN.turn {Dl : Addr} {das : List Addr} {ess : List (List D)} {d : D} {x : V} {R : List D → Prop} {k : Hp → Prop} (S : LcN Z r X Ls σ ρ H1 Dl das ess H') (hD : H1 Dl = none) (hv : NoOwn ρ vs) (hj : j ∈ vs) (hz : das.length < sizeLine) (hx : Rep Z H' (Av r (Xp (XL X (Ls ++ das.zip ess)) Dl) σ ρ) d x)
    (h : Wl Z te ((wipeE ρ vs).set j (.v d)) fun es => LFL es = true ∧ R es) (hk : ∀ q es H'', R es → LcN Z r X Ls σ ρ H1 Dl (das ++ [q]) (ess ++ [es]) H'' → k H'') :
    wipe ((wipe σ vs).set j (some x)) vs = wipe σ vs ∧ tYes ((wipe σ vs).set j (some x)) H' fun b H3 => if b = true then te ((wipe σ vs).set j (some x)) H3 fun y H4 => ∃ acc, H4 Dl = some (.lst acc) ∧ acc.length < sizeLine ∧ k (upd H4 Dl (.lst (acc ++ [y]))) else k H3 := by
  refine ⟨wipe_again hj, ?_⟩
  obtain ⟨E1, ow1⟩ := S.sv.wipe hv
  obtain ⟨Y, hY⟩ : ∃ Y, Y = XL X (Ls ++ das.zip ess) := ⟨_, rfl⟩
  have SV := S.sv
  rw [← hY] at SV E1 hx
  have av1 : ∀ a, Av r (Xp Y Dl) (wipe σ vs) (wipeE ρ vs) a ↔ Av r (Xp Y Dl) σ ρ a := fun a => by unfold Av; rw [ow1 a]
  have E2 := E1.setv (i := j) (rep_iff (fun a => (av1 a).symm) hx)
  have ow2 : ∀ a, Ow ((wipe σ vs).set j (some x)) ((wipeE ρ vs).set j (.v d)) a ↔ Ow σ ρ a := fun a => by
    rw [← ow1 a]
    exact ⟨ow_set_sub rfl, ow_set_sup (noOwn_w hv j hj)⟩
  have rD : r ≠ some Dl := fun z => (SV.row Dl z).2.2 (.inr rfl)
  refine iteT (B := k H') (h r (Xp Y Dl) _ H' E2 (fun y H4 => ∃ acc, H4 Dl = some (.lst acc) ∧ acc.length < sizeLine ∧ k (upd H4 Dl (.lst (acc ++ [y])))) fun p us es H4 hp E4 f4 h1 h2 ⟨l, q⟩ => ?_)
  have hD4 : H4 Dl = some (.lst (das.map .ref)) := f4.fx _ _ S.at_ rD
  have pD : p ≠ Dl := fun z => by rw [z, S.at_] at hp; cases hp
  have hp1 : H1 p = none := S.fx.new hp
  have ln1 : (das ++ [p]).zip (ess ++ [es]) = das.zip ess ++ [(p, es)] := by
    rw [List.zip_append S.ln]; rfl
  refine ⟨_, hD4, by rw [List.length_map]; exact hz, hk p es _ q ?_⟩
  have nXp : ¬ X p := fun z => by
    obtain ⟨o, e⟩ := (S.sv.xin p (.inl (.inl z))).1
    rw [hp] at e; cases e
  have tpD : ∀ a o, immO o = true → H4 a = some o → upd H4 Dl (.lst (das.map .ref ++ [V.ref p])) a = some o := fun a o i e => by
    rw [upd_ne (fun z => by subst z; rw [hD4] at e; cases e; cases i)]
    exact e
  refine ⟨?_, ?_, ?_, ⟨fun a o e n => ?_, fun a o e => ?_, fun a o i e => ?_⟩, fun a ha => ?_, by rw [List.length_append, List.length_append, S.ln]; rfl, S.ol⟩
  · rw [ln1, ← List.append_assoc]
    have E5 : Sv Z r (Xp (XL X ((Ls ++ das.zip ess) ++ [(p, es)])) Dl) H4 σ ρ := by
      refine SV.fxg f4 (fun a z => ?_) fun b z => ?_
      · refine row_iff (fun b => ?_) (E4.row a z).1
        unfold Av
        rw [ow2 b]
        constructor
        · rintro (y | ((y | y) | y) | y)
          · exact .inl y
          · exact .inr (.inl (.inl (xl_snoc.mpr (.inl (by rw [← hY]; exact y)))))
          · exact .inr (.inl (.inr y))
          · exact .inr (.inl (.inl (xl_snoc.mpr (.inr y))))
          · exact .inr (.inr y)
        · rintro (y | (y | y) | y)
          · exact .inl y
          · rcases xl_snoc.mp y with y | y
            · exact .inr (.inl (.inl (.inl (by rw [hY]; exact y))))
            · exact .inr (.inl (.inr y))
          · exact .inr (.inl (.inl (.inr y)))
          · exact .inr (.inr y)
      · rcases z with z | z
        · rcases xl_snoc.mp z with z | z
          · exact .inl (.inl (by rw [hY]; exact z))
          · subst z; exact .inr ⟨hp, _, h1⟩
        · exact .inl (.inr z)
    exact E5.turn (.inr rfl) hD4 rfl
  · rw [ln1, ← List.append_assoc]
    have k4 := S.kl.same (H' := H4) (fun x hx o e => f4.fx _ o e fun z => (S.sv.row _ z).2.2 (.inl (.inr ⟨x, hx, rfl⟩))) f4.tp
    have k5 := k4.same (H' := upd H4 Dl (.lst (das.map .ref ++ [V.ref p]))) (fun x hx o e => by
      rw [upd_ne (fun z => ?_)]
      · exact e
      · rcases List.mem_append.mp hx with hx | hx
        · obtain ⟨o, w⟩ := S.ol x hx
          rw [z, hD] at w; cases w
        · exact (S.nw x.1 (List.of_mem_zip (show (x.1, x.2) ∈ das.zip ess from hx)).1).2 z) tpD
    exact k5.snoc (by rw [upd_ne pD]; exact h1) (RepL.tp (A := Av r (Xp (Xp Y Dl) p) ((wipe σ vs).set j (some x)) ((wipeE ρ vs).set j (.v d))) l tpD h2) l nXp
  · rw [upd_same, List.map_append]; rfl
  · rw [upd_ne (ne_of_none e hD)]; exact f4.fx a o (S.fx.fx a o e n) n
  · obtain ⟨o', e'⟩ := S.fx.dm a o e
    rw [upd_ne (ne_of_none e hD)]; exact f4.dm a o' e'
  · rw [upd_ne (ne_of_none e hD)]; exact f4.tp a o i (S.fx.tp a o i e)
  · rcases List.mem_append.mp ha with ha | ha
    · exact S.nw a ha
    · rw [List.mem_singleton.mp ha]; exact ⟨hp1, pD⟩
theorem LcN.start {Dl : Addr} (E : Sv Z r (XL X Ls) H1 σ ρ) (k : KL Z X H1 Ls) (hD : H1 Dl = none) : LcN Z r X Ls σ ρ H1 Dl [] [] (upd H1 Dl (.lst [])) := by
  have e : Ls ++ ([] : List Addr).zip ([] : List (List D)) = Ls := List.append_nil _
  refine ⟨by rw [e]; exact E.put hD, by rw [e]; exact k.same (fun x hx o h => same_upd hD _ o h) fun a o _ h => same_upd hD a o h, upd_same, Fx.same (same_upd hD), (fun a ha => nomatch ha), rfl, fun x hx => ?_⟩
  obtain ⟨ws, h, _⟩ := k.at_ x hx
  exact ⟨_, h⟩
theorem LcN.fin {Dl : Addr} {das : List Addr} {ess : List (List D)} {F : Ends} (S : LcN Z r X Ls σ ρ H1 Dl das ess H') (hD : H1 Dl = none) (f1 : Fx r H H1) (hX : ∀ a, X a → ∃ o, H1 a = some o)
    (k1 : ∀ σ' ρ' H' Ls', Sv Z r (XL X Ls') H' σ' ρ' → KL Z X H' Ls' → FrL r Ls σ ρ H σ' ρ' H' Ls' → P ρ' Ls' → F.nx σ' H') (q : P (ρ.set i (.l (das.map .raw))) (Ls ++ das.zip ess)) : F.nx (σ.set i (some (.ref Dl))) H' := by
  have nX : ¬ XL X (Ls ++ das.zip ess) Dl := fun z => by
    rcases z with z | ⟨x, hx, e⟩
    · obtain ⟨o, e⟩ := hX _ z
      rw [hD] at e; cases e
    · rcases List.mem_append.mp hx with hx | hx
      · obtain ⟨o, w⟩ := S.ol x hx
        rw [e, hD] at w; cases w
      · exact (S.nw x.1 (List.of_mem_zip (show (x.1, x.2) ∈ das.zip ess from hx)).1).2 e
  have rr : ∀ {A : Addr → Prop} (l : List Addr), RepL Z H' A (l.map .raw) (l.map .ref) := fun {A} l => by
    induction l with
    | nil => exact repL_nil.mpr rfl
    | cons a l ih => exact repL_cons.mpr ⟨_, _, rfl, rep_raw.mpr rfl, ih⟩
  have f2 := fr_take (σ := σ) (ρ := ρ) (i := i) (e := .l (das.map .raw)) (f1.trans S.fx) (f1.new hD)
  refine k1 _ _ H' (Ls ++ das.zip ess) (S.sv.take (e := .l (das.map .raw)) nX rfl ⟨Dl, _, rfl, S.at_, rr das⟩) S.kl ⟨fun a o h _ n k => f2.fr a o h n k, f2.dm, f2.tp, fun x hx => ?_⟩ q
  rcases List.mem_append.mp hx with hx | hx
  · exact .inl ⟨x, hx, rfl⟩
  · exact .inr (f1.new (S.nw x.1 (List.of_mem_zip (show (x.1, x.2) ∈ das.zip ess from hx)).1).1)
theorem wk_lcT (R : Nat → List D → Prop) (hv : NoOwn ρ vs) (hj : j ∈ vs) (h : Wb Z tl ρ fun d => ∃ ds, d = .tup ds ∧ ds.length ≤ sizeLine ∧ (∀ m d, ds[m]? = some d → Wl Z te ((wipeE ρ vs).set j (.v d)) fun es => LFL es = true ∧ R m es) ∧ ∀ (das : List Addr) (ess : List (List D)), das.length = ds.length → ess.length = ds.length → (∀ m es, ess[m]? = some es → R m es) → P (ρ.set i (.l (das.map .raw))) (Ls ++ das.zip ess)) : Wk Z (tAsg (tLc (iTup Z.K tl) (gName j) tYes te vs) (gName i)) ρ Ls P rt := fun r X σ H E k F k1 _ =>
  h r _ σ H E _ fun v d H1 E1 f1 b1 ⟨ds, e, hz, hs, hP⟩ => by
    subst e
    obtain ⟨a, ws, rfl, h3, h4⟩ := b1.tup
    refine ⟨a, rfl, ⟨ws, h3.sq⟩, fun Dl hD => lc_tup (K := Z.K) (a := a) (xs := ws) (fun m H' => ∃ das ess, LcN Z r X Ls σ ρ H1 Dl das ess H' ∧ das.length = m ∧ ∀ m' es, ess[m']? = some es → R m' es) ⟨[], [], LcN.start E1 (k.fx E f1) hD, rfl, fun m es h => by simp at h⟩ (fun m H' hm ⟨das, ess, S, _, _⟩ => .of (S.fx.tp a _ rfl h3)) (fun m x H' hm ⟨das, ess, S, hl, hR⟩ => ?_) fun H' ⟨das, ess, S, hl, hR⟩ => ?_⟩
    · obtain ⟨d, hd, hr⟩ := h4.get hm
      have hi2 := (List.getElem?_eq_some_iff.mp hd).1
      refine S.turn (R := R m) hD hv hj (by omega) (hr.mv (S.mv hD)) (hs m d hd) fun q es H'' hq S' => ⟨_, _, S', by rw [List.length_append, hl]; rfl, fun m' es' h' => ?_⟩
      by_cases c : m' < ess.length
      · rw [List.getElem?_append_left c] at h'
        exact hR m' es' h'
      · rw [List.getElem?_append_right (by omega)] at h'
        have : m' - ess.length = 0 := by
          by_cases z : m' - ess.length = 0
          · exact z
          · rw [List.getElem?_eq_none (by simp; omega)] at h'; cases h'
        rw [this] at h'
        cases h'
        rw [show m' = m by have := S.ln; omega]
        exact hq
    · exact S.fin hD f1 (fun a z => (E1.xin a (.inl z)).1) k1 (hP das ess (by rw [hl, h4.length]) (by rw [← S.ln, hl, h4.length]) hR)
theorem wk_lcL (R : Nat → List D → Prop) (hv : NoOwn ρ vs) (hj : j ∈ vs) (h : We Z tl ρ fun d => ∃ ds, d = .lst ds ∧ ds.length ≤ sizeLine ∧ (∀ m d, ds[m]? = some d → Wl Z te ((wipeE ρ vs).set j (.v d)) fun es => LFL es = true ∧ R m es) ∧ ∀ (das : List Addr) (ess : List (List D)), das.length = ds.length → ess.length = ds.length → (∀ m es, ess[m]? = some es → R m es) → P (ρ.set i (.l (das.map .raw))) (Ls ++ das.zip ess)) : Wk Z (tAsg (tLc (iList Z.K tl) (gName j) tYes te vs) (gName i)) ρ Ls P rt := fun r X σ H E k F k1 _ =>
  h r _ σ H E _ fun v d H1 E1 f1 b1 ⟨ds, e, hz, hs, hP⟩ => by
    subst e
    obtain ⟨a, ws, rfl, n3, h3, h4⟩ := rep_lst.mp b1
    refine ⟨a, rfl, ⟨ws, .of h3⟩, fun Dl hD => lc_list (K := Z.K) (a := a) (xs := ws) (fun m H' => ∃ das ess, LcN Z r X Ls σ ρ H1 Dl das ess H' ∧ das.length = m ∧ ∀ m' es, ess[m']? = some es → R m' es) ⟨[], [], LcN.start E1 (k.fx E f1) hD, rfl, fun m es h => by simp at h⟩ (fun m H' hm ⟨das, ess, S, _, _⟩ => .of ((S.mv hD).mv a _ n3 h3).1) (fun m x H' hm ⟨das, ess, S, hl, hR⟩ => ?_) fun H' ⟨das, ess, S, hl, hR⟩ => ?_⟩
    · obtain ⟨d, hd, hr⟩ := h4.get hm
      have hi2 := (List.getElem?_eq_some_iff.mp hd).1
      refine S.turn (R := R m) hD hv hj (by omega) (hr.mv (S.mv hD)) (hs m d hd) fun q es H'' hq S' => ⟨_, _, S', by rw [List.length_append, hl]; rfl, fun m' es' h' => ?_⟩
      by_cases c : m' < ess.length
      · rw [List.getElem?_append_left c] at h'
        exact hR m' es' h'
      · rw [List.getElem?_append_right (by omega)] at h'
        have : m' - ess.length = 0 := by
          by_cases z : m' - ess.length = 0
          · exact z
          · rw [List.getElem?_eq_none (by simp; omega)] at h'; cases h'
        rw [this] at h'
        cases h'
        rw [show m' = m by have := S.ln; omega]
        exact hq
    · exact S.fin hD f1 (fun a z => (E1.xin a (.inl z)).1) k1 (hP das ess (by rw [hl, h4.length]) (by rw [← S.ln, hl, h4.length]) hR)
end
end DL
/-! DL30: defs that tell a new list of new lists. -/
namespace L2
open PySem PySem.Spec PyProof.Rows
def rMin2D : List V → Hp → VK → Prop := fun xs H Q => ∃ i j, xs = [.int i, .int j] ∧ Q (.int (if j < i then j else i)) H
def rMax2D : List V → Hp → VK → Prop := fun xs H Q => ∃ i j, xs = [.int i, .int j] ∧ Q (.int (if j > i then j else i)) H
theorem cr_min2D {X : Cx} (hc : X.calm = true) : CallR X (.builtin "min") rMin2D := call_min2 hc
theorem cr_max2D {X : Cx} (hc : X.calm = true) : CallR X (.builtin "max") rMax2D := call_max2 hc
end L2
namespace DL
open PySem PySem.Spec PyProof.Rows L2
theorem cd_min2 {Z : Cs} {ρ : List En} {Q : D → Prop} {i j : Int} (q : Q (.int (if j < i then j else i))) : CbD Z ρ rMin2D [.int i, .int j] Q := fun r X σ H vs E h k hk => by
  obtain ⟨v, w, rfl, b1, b2⟩ := h.two
  exact ⟨i, j, by rw [b1.int, b2.int], hk _ _ H E Fx.refl (rep_int.mpr rfl) q⟩
theorem cd_max2 {Z : Cs} {ρ : List En} {Q : D → Prop} {i j : Int} (q : Q (.int (if j > i then j else i))) : CbD Z ρ rMax2D [.int i, .int j] Q := fun r X σ H vs E h k hk => by
  obtain ⟨v, w, rfl, b1, b2⟩ := h.two
  exact ⟨i, j, by rw [b1.int, b2.int], hk _ _ H E Fx.refl (rep_int.mpr rfl) q⟩
def NstL (das : List Addr) (kss : List (List D)) (Ls : Kl) : Prop := das.length = kss.length ∧ ∀ (m : Nat) (a : Addr) (es : List D), das[m]? = some a → kss[m]? = some es → (a, es) ∈ Ls
def SpN (Z : Cs) (spec : List D → (List (List D) → Prop) → Prop) : Sp := fun vs H Q _ => ∃ (ds : List D) (Po : List (List D) → Prop), RepL Z H noA ds vs ∧ spec ds Po ∧
  ∀ (p : Addr) (das : List Addr) (kss : List (List D)) (H' : Hp), Same H H' → H p = none → (∀ a ∈ das, H a = none ∧ a ≠ p) → H' p = some (.lst (das.map .ref)) → das.length = kss.length → (∀ (m : Nat) (a : Addr) (es : List D), das[m]? = some a → kss[m]? = some es → LFL es = true ∧ ∃ ws, H' a = some (.lst ws) ∧ RepL Z H' noA es ws) → Po kss → Q (.ref p) H'
def WkN (Z : Cs) (ts : TS) (ρ : List En) (Ls : Kl) (Po : List (List D) → Prop) : Prop := ∀ r X σ H, Sv Z r (XL X Ls) H σ ρ → KL Z X H Ls → ∀ F : Ends,
  (∀ (σ' : L2.St) (ρ' : List En) (H' : Hp) (Ls' : Kl) (i : Nat) (das : List Addr) (kss : List (List D)), Sv Z r (XL X Ls') H' σ' ρ' → KL Z X H' Ls' → FrL r Ls σ ρ H σ' ρ' H' Ls' → ρ'[i]? = some (.l (das.map .raw)) → NstL das kss Ls' → Po kss → ∀ p, σ'[i]? = some (some (.ref p)) → F.rt (.ref p) H') → ts F σ H
section
variable {Z : Cs} {r : Option Addr} {X X' : Addr → Prop} {H H' H1 H2 : Hp} {σ σ' σ1 σ2 : L2.St} {ρ ρ' ρ1 ρ2 : List En} {Ls Ls' Ls1 Ls2 : Kl} {P P' : List En → Kl → Prop} {rt : D → Prop} {ts tu : TS} {tt : TT} {te ta tb tl ti : TE} {i j : Nat} {d : D} {ds : List D} {vs : List Nat} {tg : TA} {Po : List (List D) → Prop}
theorem len_N {vs : List V} {H : Hp} {Q : VK} {E : XK} {n : Nat} {spec : List D → (List (List D) → Prop) → Prop} (h : SpN Z spec vs H Q E) (l : ∀ ds Po, spec ds Po → ds.length = n) : vs.length = n := by
  obtain ⟨ds, Po, h1, h3, _⟩ := h
  rw [h1.length, l ds Po h3]
theorem wkn_seq (h : Wk Z ts ρ Ls (fun ρ' Ls' => WkN Z tu ρ' Ls' Po) (fun _ => False)) : WkN Z (tSeq ts tu) ρ Ls Po := fun r X σ H E k F k1 =>
  h r X σ H E k { F with nx := tu F } (fun σ' ρ' H' Ls' E1 k' f1 q => q r X σ' H' E1 k' F fun σ2 ρ2 H2 Ls2 i das kss E2 kk f2 g1 g2 g3 p g4 => k1 σ2 ρ2 H2 Ls2 i das kss E2 kk (f1.trans f2) g1 g2 g3 p g4) fun _ _ _ _ _ _ _ _ _ _ q => False.elim q
theorem wkn_retv {das : List Addr} {kss : List (List D)} (hi : ρ[i]? = some (.l (das.map .raw))) (hn : NstL das kss Ls) (po : Po kss) : WkN Z (tRet (tVar i)) ρ Ls Po := fun r X σ H E k F k1 => by
  obtain ⟨a, us, e1, e2, e3⟩ := E.at_ i _ hi
  exact ⟨_, e1, k1 σ ρ H Ls i das kss E k FrL.refl hi hn po a e1⟩
theorem wkn_ret (i : Nat) (hi : i < ρ.length) (h : Wk Z (tAsg te (gName i)) ρ Ls (fun ρ' Ls' => ∃ (das : List Addr) (kss : List (List D)), ρ'[i]? = some (.l (das.map .raw)) ∧ NstL das kss Ls' ∧ Po kss) (fun _ => False)) : WkN Z (tRet te) ρ Ls Po := fun r X σ H E k F k1 => by
  have hl : i < σ.length := by rw [E.len]; exact hi
  have go := h r X σ H E k { F with nx := fun σ' H' => F.rt ((σ'.getD i none).getD .non) H' } (fun σ' ρ' H' Ls' E1 k' f1 ⟨das, kss, g1, g2, g3⟩ => by
    obtain ⟨a, us, e1, e2, e3⟩ := E1.at_ i _ g1
    show F.rt ((σ'.getD i none).getD .non) H'
    rw [List.getD, e1]
    exact k1 σ' ρ' H' Ls' i das kss E1 k' f1 g1 g2 g3 a e1) fun _ _ _ _ _ _ _ _ _ _ q => False.elim q
  have e : (fun (x : V) (H1 : Hp) => gName i x σ H1 fun σ' H' => F.rt ((σ'.getD i none).getD .non) H') = F.rt := by
    funext x H1
    show F.rt (((σ.set i (some x)).getD i none).getD .non) H1 = F.rt x H1
    rw [List.getD, List.getElem?_set_self hl]
    rfl
  have go2 : te σ H (fun (x : V) (H1 : Hp) => gName i x σ H1 fun σ' H' => F.rt ((σ'.getD i none).getD .non) H') := go
  rw [e] at go2
  exact go2
theorem raws_eq {A : Addr → Prop} : ∀ {das : List Addr} {us : List V}, RepL Z H A (das.map .raw) us → us = das.map .ref
  | [], us, h => repL_nil.mp h
  | a :: das, us, h => by
    obtain ⟨v, w, rfl, h1, h2⟩ := repL_cons.mp h
    rw [rep_raw.mp h1, raws_eq h2]
    rfl
theorem run_N {spec : List D → (List (List D) → Prop) → Prop} {N : List Str} {vs : List V} {Q : VK} {E : XK} (h : SpN Z spec vs H Q E) (hw : ∀ ds Po, spec ds Po → WkN Z ts (startE N ds) [] Po) : ts { nx := fun _ H' => Q .non H', rt := Q } (start N vs) H := by
  obtain ⟨ds, Po, h1, h3, k⟩ := h
  have no : ∀ σ a, ¬ Ow σ (startE N ds) a := fun _ _ => start_ow h1
  refine hw ds Po h3 none noA _ H ((sv_start h1 fun a z => False.elim z).less fun a z => ?_) ⟨(fun x hx => nomatch hx), (fun x hx => nomatch hx), (fun x hx => nomatch hx)⟩ _ fun σ' ρ' H' Ls' i das kss E' kk f g1 g2 po p g4 => ?_
  · rcases z with z | ⟨x, hx, _⟩
    · exact z
    · nomatch hx
  have sm : Same H H' := fun a o e => (f.fr a o e (fun x hx => nomatch hx) (no _ a) fun z => nomatch z).1
  obtain ⟨p', us, e1, e2, e3⟩ := E'.at_ i _ g1
  rw [g4] at e1
  cases e1
  have ow : Ow σ' ρ' p := ⟨i, _, g1, rfl, g4⟩
  have us_eq := raws_eq e3
  subst us_eq
  refine k p das kss H' sm ?_ (fun a ha => ?_) e2 g2.1 (fun m a es h1 h2 => ?_) po
  · cases e : H p with
    | none => rfl
    | some o => exact absurd ow (f.fr p o e (fun x hx => nomatch hx) (no _ p) fun z => nomatch z).2
  · obtain ⟨m, hm, rfl⟩ := List.mem_iff_getElem.mp ha
    have hm2 : m < kss.length := by rw [← g2.1]; exact hm
    have mem := g2.2 m das[m] kss[m] (List.getElem?_eq_getElem hm) (List.getElem?_eq_getElem hm2)
    refine ⟨?_, fun z => ?_⟩
    · rcases f.nw _ mem with ⟨y, hy, _⟩ | e
      · nomatch hy
      · exact e
    · exact (E'.xin das[m] (.inr ⟨_, mem, rfl⟩)).2 (by rw [z]; exact ow)
  · have mem := g2.2 m a es h1 h2
    exact ⟨kk.lf _ mem, kk.at_ _ mem⟩
/-- found.append(a new list) -/
theorem wk_appWl (hi : ρ[i]? = some (.l ds)) (hl : LFL ds = true) (hz : ds.length < sizeLine) (h : Wl Z tl ρ fun es => LFL es = true ∧ ∀ q, P (ρ.set i (.l (ds ++ [.raw q]))) (Ls ++ [(q, es)])) : Wk Z (tDrop (tBM Z.K "list" rAppend (tVar i) (tCons tl tNil))) ρ Ls P rt := fun r X σ H E k F k1 _ => by
  obtain ⟨a, us, e1, e2, e3⟩ := E.at_ i _ hi
  refine ⟨_, e1, tyV_l e2, h r _ σ H E _ fun q ws es H1 hq E1 f1 h1 h2 ⟨l, g⟩ => ?_⟩
  have nXq : ¬ X q := fun z => by obtain ⟨o, e⟩ := (E.xin q (.inl z)).1; rw [hq] at e; cases e
  have E2 : Sv Z r (XL X (Ls ++ [(q, es)])) H1 σ ρ := E1.less fun b z => by
    rcases xl_snoc.mp z with z | z
    · exact .inl z
    · exact .inr z
  have kk := (k.same (fun x hx o e => f1.fx _ o e fun z => (E.row _ z).2.2 (.inr ⟨x, hx, rfl⟩)) f1.tp).snoc h1 (h2.lf l) l nXq
  obtain ⟨a', us, g1, g2, g3⟩ := E2.at_ i _ hi
  rw [e1] at g1
  cases g1
  have ld : LFL (ds ++ [D.raw q]) = true := by
    rw [LFL_all] at hl ⊢
    intro x hx
    rcases List.mem_append.mp hx with hx | hx
    · exact hl x hx
    · rw [List.mem_singleton.mp hx]; rfl
  refine ⟨a, us, .ref q, rfl, rfl, g2, by rw [g3.length]; exact hz, ?_⟩
  obtain ⟨E3, f3⟩ := E2.mut (e' := .l (ds ++ [.raw q])) (o := .lst (us ++ [.ref q])) hi rfl e1 rfl g2 rfl ⟨a, _, rfl, upd_same, RepL.tp (A := noA) ld (fun b o im e => by
    rw [upd_ne (fun z => by subst z; rw [g2] at e; cases e; cases im)]
    exact e) ((g3.lf hl).append (.one (rep_raw.mpr rfl)))⟩
  refine k1 _ _ _ (Ls ++ [(q, es)]) E3 (kk.fr E2 f3) ⟨fun b o e n1 n2 n3 => ?_, fun b o e => ?_, fun b o im e => f3.tp b o im (f1.tp b o im e), fun x hx => ?_⟩ (g q)
  · exact f3.fr b o (f1.fx b o e n3) n2 n3
  · obtain ⟨o', e'⟩ := f1.dm b o e
    exact f3.dm b o' e'
  · rcases List.mem_append.mp hx with hx | hx
    · exact .inl ⟨x, hx, rfl⟩
    · rw [List.mem_singleton.mp hx]; exact .inr hq
/-! ### walks -/
theorem wk_forR1 {ta : TA} (h : Wab Z ta ρ fun ds => ∃ n : Int, ds = [.int n] ∧ n ≤ 16777216 ∧ -16777216 ≤ n ∧ ∃ I : Nat → List En → Kl → Prop, I 0 ρ Ls ∧ (∀ m ρ' Ls', m < n.toNat → I m ρ' Ls' → Wk Z ts (ρ'.set j (.v (.int (0 + (m : Int))))) Ls' (I (m + 1)) rt) ∧ ∀ ρ' Ls', I n.toNat ρ' Ls' → P ρ' Ls') : Wk Z (tFor (iRng1 ta) (gName j) ts) ρ Ls P rt := fun r X σ H E k F k1 k2 => h r _ σ H E _ fun vs ds H1 E1 f1 b1 ⟨n, e, z1, z2, I, I0, It, If⟩ => by
  subst e
  obtain ⟨w, rfl, b⟩ := b1.one
  have e := b.int
  subst e
  refine ⟨n, rfl, by omega, by omega, for_range (lo := 0) (n := n.toNat) (fun m σ' H' => ∃ ρ' Ls', Sv Z r (XL X Ls') H' σ' ρ' ∧ KL Z X H' Ls' ∧ FrL r Ls σ ρ H σ' ρ' H' Ls' ∧ I m ρ' Ls') ⟨ρ, Ls, E1, k.fx E f1, f1.fr.frl, I0⟩ (fun m σ' H' hm ⟨ρ', Ls', E2, kk, f2, hI⟩ => ?_) fun σ' H' ⟨ρ', Ls', E2, kk, f2, hI⟩ => k1 σ' ρ' H' Ls' E2 kk f2 (If ρ' Ls' hI)⟩
  have f3 : Fr r σ' ρ' H' (σ'.set j (some (.int (0 + (m : Int))))) (ρ'.set j (.v (.int (0 + (m : Int))))) H' := fr_set rfl
  exact It m ρ' Ls' hm hI r X _ H' (E2.setv (rep_int.mpr rfl)) kk _ (fun σ3 ρ3 H3 Ls3 E4 k4 f4 q => ⟨ρ3, Ls3, E4, k4, (f2.trans f3.frl).trans f4, q⟩) (fun v d H3 σ3 ρ3 Ls3 E4 k4 f4 b q => k2 v d H3 σ3 ρ3 Ls3 E4 k4 ((f2.trans f3.frl).trans f4) b q)
theorem wk_forT (h : We Z tl ρ fun d => ∃ ds, d = .tup ds ∧ LFL ds = true ∧ ∃ I : Nat → List En → Kl → Prop, I 0 ρ Ls ∧ (∀ m d ρ' Ls', ds[m]? = some d → I m ρ' Ls' → Wk Z ts (ρ'.set j (.v d)) Ls' (I (m + 1)) rt) ∧ ∀ ρ' Ls', I ds.length ρ' Ls' → P ρ' Ls') : Wk Z (tFor (iTup Z.K tl) (gName j) ts) ρ Ls P rt := fun r X σ H E k F k1 k2 => h r _ σ H E _ fun v d H1 E1 f1 b1 ⟨ds, e, l, I, I0, It, If⟩ => by
  subst e
  obtain ⟨a, ws, rfl, h3, h4⟩ := rep_tup.mp b1
  refine ⟨a, rfl, ⟨ws, h3.sq⟩, for_tup (K := Z.K) (a := a) (xs := ws) (fun m σ' H' => ∃ ρ' Ls', Sv Z r (XL X Ls') H' σ' ρ' ∧ KL Z X H' Ls' ∧ FrL r Ls σ ρ H1 σ' ρ' H' Ls' ∧ I m ρ' Ls') ⟨ρ, Ls, E1, k.fx E f1, FrL.refl, I0⟩ (fun m σ' H' hm ⟨ρ', Ls', E2, kk, f2, hI⟩ => .of (f2.tp a _ rfl h3)) (fun m x σ' H' hm ⟨ρ', Ls', E2, kk, f2, hI⟩ => ?_) fun σ' H' ⟨ρ', Ls', E2, kk, f2, hI⟩ => ?_⟩
  · obtain ⟨d, hd, hr⟩ := h4.get hm
    have ld : LF d = true := by
      rw [LFL_all] at l
      exact l d (List.mem_of_getElem? hd)
    have hr2 : Rep Z H' (Av r (XL X Ls') σ' ρ') d x := Rep.lf (A := fun _ => True) ld (Rep.mv (A := fun _ => True) ⟨fun _ _ n _ => absurd trivial n, f2.tp⟩ (hr.lf ld))
    have f3 : Fr r σ' ρ' H' (σ'.set j (some x)) (ρ'.set j (.v d)) H' := fr_set rfl
    exact It m d ρ' Ls' hd hI r X _ H' (E2.setv hr2) kk _ (fun σ3 ρ3 H3 Ls3 E4 k4 f4 q => ⟨ρ3, Ls3, E4, k4, (f2.trans f3.frl).trans f4, q⟩) (fun v d H3 σ3 ρ3 Ls3 E4 k4 f4 b q => k2 v d H3 σ3 ρ3 Ls3 E4 k4 ((f1.fr.frl.trans (f2.trans f3.frl)).trans f4) b q)
  · rw [h4.length] at hI
    exact k1 σ' ρ' H' Ls' E2 kk (f1.fr.frl.trans f2) (If ρ' Ls' hI)
theorem wk_forRaw (h : We Z tl ρ fun d => ∃ (p : Addr) (das : List Addr), d = .raw p ∧ ∃ I : Nat → List En → Kl → Prop, I 0 ρ Ls ∧ (∀ m ρ' Ls', I m ρ' Ls' → (p, das.map .raw) ∈ Ls') ∧ (∀ m a ρ' Ls', das[m]? = some a → I m ρ' Ls' → Wk Z ts (ρ'.set j (.v (.raw a))) Ls' (I (m + 1)) rt) ∧ ∀ ρ' Ls', I das.length ρ' Ls' → P ρ' Ls') : Wk Z (tFor (iList Z.K tl) (gName j) ts) ρ Ls P rt := fun r X σ H E k F k1 k2 => h r _ σ H E _ fun v d H1 E1 f1 b1 ⟨p, das, e, I, I0, Im, It, If⟩ => by
  subst e
  rw [rep_raw.mp b1]
  have kk0 := k.fx E f1
  have at0 : ∀ {H : Hp} {Ls : Kl}, KL Z X H Ls → (p, das.map D.raw) ∈ Ls → H p = some (.lst (das.map .ref)) := fun kk hm => by
    obtain ⟨ws, h3, h4⟩ := kk.at_ _ hm
    rw [raws_eq h4] at h3
    exact h3
  have h3 := at0 kk0 (Im 0 ρ Ls I0)
  refine ⟨p, rfl, ⟨_, .of h3⟩, for_list (K := Z.K) (a := p) (xs := das.map .ref) (fun m σ' H' => ∃ ρ' Ls', Sv Z r (XL X Ls') H' σ' ρ' ∧ KL Z X H' Ls' ∧ FrL r Ls σ ρ H1 σ' ρ' H' Ls' ∧ I m ρ' Ls') ⟨ρ, Ls, E1, kk0, FrL.refl, I0⟩ (fun m σ' H' hm ⟨ρ', Ls', E2, kk, f2, hI⟩ => .of (at0 kk (Im m ρ' Ls' hI))) (fun m x σ' H' hm ⟨ρ', Ls', E2, kk, f2, hI⟩ => ?_) fun σ' H' ⟨ρ', Ls', E2, kk, f2, hI⟩ => ?_⟩
  · rw [List.getElem?_map] at hm
    obtain ⟨a, ha, rfl⟩ := Option.map_eq_some_iff.mp hm
    have f3 : Fr r σ' ρ' H' (σ'.set j (some (.ref a))) (ρ'.set j (.v (.raw a))) H' := fr_set rfl
    exact It m a ρ' Ls' ha hI r X _ H' (E2.setv (rep_raw.mpr rfl)) kk _ (fun σ3 ρ3 H3 Ls3 E4 k4 f4 q => ⟨ρ3, Ls3, E4, k4, (f2.trans f3.frl).trans f4, q⟩) (fun v d H3 σ3 ρ3 Ls3 E4 k4 f4 b q => k2 v d H3 σ3 ρ3 Ls3 E4 k4 ((f1.fr.frl.trans (f2.trans f3.frl)).trans f4) b q)
  · rw [List.length_map] at hI
    exact k1 σ' ρ' H' Ls' E2 kk (f1.fr.frl.trans f2) (If ρ' Ls' hI)
/-- .. told data read whole, by what is known of it -/
theorem wk_ifr {d' : D} (hi : ρ[i]? = some (.v d)) (l : LF d = true) (fl : ∀ (X : Addr → Prop) (H : Hp) (A : Addr → Prop) (v : V), (∀ x ∈ Ls, ¬ A x.1) → KL Z X H Ls → Rep Z H noA d v → Rep Z H A d' v) (h : Wt Z tt ((noRow ρ).set i (.v d')) fun b => b = false) (q : P ρ Ls) : Wk Z (tIfS tt ts tNext) ρ Ls P rt := fun r X σ H E k F k1 _ => by
  have E1 : Sv Z none X H σ (noRow ρ) := (E.noRow).less fun a z => .inl z
  obtain ⟨v, e1, e2⟩ := E.at_ i _ hi
  have hn : ∀ x ∈ Ls, ¬ Av none X σ (noRow ρ) x.1 := fun x hx z => by
    have xx : XL X Ls x.1 := .inr ⟨x, hx, rfl⟩
    rcases z with z | z | z
    · exact ((E.noRow).xin _ xx).2 z
    · exact k.nx x hx z
    · cases z
  have E2 := E1.setv (i := i) (fl X H _ v hn k (e2.lf l))
  rw [show σ.set i (some v) = σ from by
    obtain ⟨hl, e3⟩ := List.getElem?_eq_some_iff.mp e1
    rw [← e3]
    exact List.set_getElem_self hl] at E2
  refine h none X σ H E2 _ fun b H1 E3 f1 q1 => ?_
  subst q1
  have s : Same H H1 := fun a o e => f1.fx a o e fun z => nomatch z
  exact iteF (k1 σ ρ H1 Ls (E.same s) (k.fx E (Fx.same s)) (Fx.same s).fr.frl q)
/-- what such a def tells, as data -/
theorem we_callNE {spec : List D → (List (List D) → Prop) → Prop} {x : List D → Er → Prop} {Q : D → Prop} {E' : L2.St → XK} (h : Wab Z tg ρ fun ds => spec ds fun kss => Q (.lst (kss.map .lst))) : We Z (tCallS (SpE Z (SpN Z spec) x) E' tg) ρ Q := fun r X σ H E k hk => h r X σ H E _ fun vs ds H1 E1 f1 b1 s1 => by
  refine .inl ⟨ds, _, b1.rep0 E1, s1, fun p das kss H2 s hp hd h2 hl hc q => ?_⟩
  have na : ∀ {a : Addr}, H1 a = none → ¬ Av r X σ ρ a := fun e z => by obtain ⟨o, w⟩ := E1.av_tracked z; rw [e] at w; cases w
  refine hk _ _ H2 (E1.same s) (f1.trans (Fx.same s)) (rep_lst.mpr ⟨p, _, rfl, na hp, h2, ?_⟩) q
  have : ∀ (das : List Addr) (kss : List (List D)), das.length = kss.length → (∀ a ∈ das, H1 a = none) → (∀ (m : Nat) (a : Addr) (es : List D), das[m]? = some a → kss[m]? = some es → LFL es = true ∧ ∃ ws, H2 a = some (.lst ws) ∧ RepL Z H2 noA es ws) → RepL Z H2 (Av r X σ ρ) (kss.map .lst) (das.map .ref) := by
    intro das
    induction das with
    | nil => intro kss e _ _; cases kss with
      | nil => exact repL_nil.mpr rfl
      | cons _ _ => cases e
    | cons a das ih => intro kss e hn hh; cases kss with
      | nil => cases e
      | cons es kss =>
        obtain ⟨l, ws, g1, g2⟩ := hh 0 a es rfl rfl
        exact repL_cons.mpr ⟨_, _, rfl, rep_lst.mpr ⟨a, ws, rfl, na (hn a (by simp)), g1, g2.lf l⟩, ih kss (by simpa using e) (fun b hb => hn b (by simp [hb])) fun m b ks q1 q2 => hh (m + 1) b ks (by simpa using q1) (by simpa using q2)⟩
  exact this das kss hl (fun a ha => (hd a ha).1) hc
/-- what is known of told lists of lists -/
structure TwoL (p : Addr) (das : List Addr) (kss : List (List D)) (Ls : Kl) : Prop where
  out : (p, das.map .raw) ∈ Ls
  inn : NstL das kss Ls
  ne : p ∉ das
theorem raws_rep {A : Addr → Prop} : ∀ {das : List Addr}, RepL Z H A (das.map .raw) (das.map .ref)
  | [] => repL_nil.mpr rfl
  | _ :: _ => repL_cons.mpr ⟨_, _, rfl, rep_raw.mpr rfl, raws_rep⟩
/-- the lists of one that is told -/
def oneL (p : Addr) (das : List Addr) (kss : List (List D)) : Kl := (p, das.map .raw) :: das.zip kss
theorem oneL_fst {p : Addr} {das : List Addr} {kss : List (List D)} {x : Addr × List D} (h : x ∈ oneL p das kss) : x.1 = p ∨ x.1 ∈ das := by
  rcases List.mem_cons.mp h with rfl | h
  · exact .inl rfl
  · exact .inr (List.of_mem_zip (show (x.1, x.2) ∈ das.zip kss from h)).1
theorem oneL_new {p : Addr} {das : List Addr} {kss : List (List D)} (s : Same H1 H2) (hp : H1 p = none) (hd : ∀ a ∈ das, H1 a = none ∧ a ≠ p) (h2 : H2 p = some (.lst (das.map .ref))) (hc : ∀ (m : Nat) (a : Addr) (es : List D), das[m]? = some a → kss[m]? = some es → LFL es = true ∧ ∃ ws, H2 a = some (.lst ws) ∧ RepL Z H2 noA es ws) :
    ∀ x ∈ oneL p das kss, H1 x.1 = none ∧ LFL x.2 = true ∧ ∃ ws, H2 x.1 = some (.lst ws) ∧ RepL Z H2 noA x.2 ws := fun x hx => by
  rcases List.mem_cons.mp hx with rfl | hx
  · exact ⟨hp, lfl_map (fun _ => rfl) das, _, h2, raws_rep⟩
  · obtain ⟨m, hm⟩ := List.mem_iff_getElem?.mp hx
    rw [List.getElem?_zip_eq_some] at hm
    exact ⟨(hd x.1 (List.mem_of_getElem? hm.1)).1, hc m x.1 x.2 hm.1 hm.2⟩
theorem oneL_two {p : Addr} {das : List Addr} {kss : List (List D)} (hl : das.length = kss.length) (np : p ∉ das) (h : ∀ x ∈ oneL p das kss, x ∈ Ls) : TwoL p das kss Ls := ⟨h _ (by simp [oneL]), ⟨hl, fun m a es h1 h2 => h _ (List.mem_cons_of_mem _ (List.mem_iff_getElem?.mpr ⟨m, by rw [List.getElem?_zip_eq_some]; exact ⟨h1, h2⟩⟩))⟩, np⟩
/-- x = (f(..), g(..)) -/
theorem wk_two {spec spec2 : List D → (List (List D) → Prop) → Prop} {x x2 : List D → Er → Prop} {E' E2' : L2.St → XK} {tg2 : TA} (h : Wab Z tg ρ fun ds => spec ds fun kss => Wab Z tg2 ρ fun ds2 => spec2 ds2 fun kss2 => ∀ (p p2 : Addr) (das das2 : List Addr) (Ls' : Kl), TwoL p das kss Ls' → TwoL p2 das2 kss2 Ls' → p ∉ das2 → p2 ∉ das → p ≠ p2 → (∀ y ∈ Ls', y.1 = p ∨ y.1 = p2 ∨ y.1 ∈ das ∨ y.1 ∈ das2) → P (ρ.set i (.v (.tup [.raw p, .raw p2]))) Ls') : Wk Z (tAsg (tTup (tCons (tCallS (SpE Z (SpN Z spec) x) E' tg) (tCons (tCallS (SpE Z (SpN Z spec2) x2) E2' tg2) tNil))) (gName i)) ρ [] P rt := fun r X σ H E k F k1 _ => by
  have E0 : Sv Z r X H σ ρ := E.less fun a z => .inl z
  refine h r X σ H E0 _ fun vs ds H1 E1 f1 b1 s1 => ?_
  refine .inl ⟨ds, _, b1.rep0 E1, s1, fun p das kss H2 s hp hd h2 hl hc g => ?_⟩
  have n1 := oneL_new s hp hd h2 hc
  have E2 : Sv Z r (XL X (oneL p das kss)) H2 σ ρ := E1.grow s fun a z => by
    rcases z with z | ⟨x, hx, e⟩
    · exact .inl z
    · subst e
      obtain ⟨q1, _, ws, q2, _⟩ := n1 x hx
      exact .inr ⟨q1, _, q2⟩
  refine g r _ σ H2 E2 _ fun vs2 ds2 H3 E3 f3 b3 s3 => ?_
  refine .inl ⟨ds2, _, b3.rep0 E3, s3, fun p2 das2 kss2 H4 s4 hp2 hd2 h42 hl2 hc2 g => ?_⟩
  have n2 := oneL_new s4 hp2 hd2 h42 hc2
  have al : ∀ x ∈ oneL p das kss, ∃ o, H3 x.1 = some o := fun x hx => by
    obtain ⟨_, _, ws, q2, _⟩ := n1 x hx
    exact f3.dm _ _ q2
  have alp : ∃ o, H3 p = some o := al (p, das.map .raw) (by simp [oneL])
  have ald : ∀ a ∈ das, ∃ o, H3 a = some o := fun a ha => by
    obtain ⟨m, hm, rfl⟩ := List.mem_iff_getElem.mp ha
    exact al (das[m], kss[m]'(by omega)) (List.mem_cons_of_mem _ (List.mem_iff_getElem?.mpr ⟨m, by rw [List.getElem?_zip_eq_some]; exact ⟨List.getElem?_eq_getElem hm, List.getElem?_eq_getElem (by omega)⟩⟩))
  refine ⟨Nat.le_of_ble_eq_true rfl, fun q hq => ?_⟩
  have E4 : Sv Z r (XL X (oneL p das kss ++ oneL p2 das2 kss2)) H4 σ ρ := E3.grow s4 fun a z => by
    rcases z with z | ⟨x, hx, e⟩
    · exact .inl (.inl z)
    · rcases List.mem_append.mp hx with hx | hx
      · exact .inl (.inr ⟨x, hx, e⟩)
      · subst e
        obtain ⟨q1, _, ws, q2, _⟩ := n2 x hx
        exact .inr ⟨q1, _, q2⟩
  have sq := same_upd (o := .tup [V.ref p, V.ref p2]) hq
  have E5 := E4.same sq
  have bt : Rep Z (upd H4 q (.tup [V.ref p, V.ref p2])) (Av r (XL X (oneL p das kss ++ oneL p2 das2 kss2)) σ ρ) (.tup [.raw p, .raw p2]) (.ref q) := rep_tup.mpr ⟨q, _, rfl, upd_same, repL_cons.mpr ⟨_, _, rfl, rep_raw.mpr rfl, repL_cons.mpr ⟨_, _, rfl, rep_raw.mpr rfl, repL_nil.mpr rfl⟩⟩⟩
  have fa : Fx r H (upd H4 q (.tup [V.ref p, V.ref p2])) := f1.trans ((Fx.same s).trans (f3.trans ((Fx.same s4).trans (Fx.same sq))))
  have f13 : Fx r H H3 := f1.trans ((Fx.same s).trans f3)
  have f2 : Fr r σ ρ H (σ.set i (some (.ref q))) (ρ.set i (.v (.tup [.raw p, .raw p2]))) (upd H4 q (.tup [V.ref p, V.ref p2])) := fa.fr.trans (fr_set rfl)
  have nX : ∀ {a : Addr}, H a = none → ¬ X a := fun e z => by
    obtain ⟨o, w⟩ := (E0.xin _ z).1
    rw [e] at w; cases w
  have inL : ∀ x, x ∈ oneL p das kss ++ oneL p2 das2 kss2 → H x.1 = none ∧ LFL x.2 = true ∧ ∃ ws, H4 x.1 = some (.lst ws) ∧ RepL Z H4 noA x.2 ws := fun x hx => by
    rcases List.mem_append.mp hx with hx | hx
    · obtain ⟨q1, q2, ws, q3, q4⟩ := n1 x hx
      have xr : r ≠ some x.1 := fun z => (E2.row _ z).2.2 (.inr ⟨x, hx, rfl⟩)
      exact ⟨f1.new q1, q2, ws, s4 _ _ (f3.fx _ _ q3 xr), (q4.tp (A' := noA) q2 f3.tp).tp q2 fun a o _ e => s4 a o e⟩
    · obtain ⟨q1, q2, ws, q3, q4⟩ := n2 x hx
      exact ⟨f13.new q1, q2, ws, q3, q4⟩
  have nd : p ∉ das := fun z => (hd p z).2 rfl
  have nd2 : p2 ∉ das2 := fun z => (hd2 p2 z).2 rfl
  have clash : ∀ {a : Addr}, H3 a = none → (∃ o, H3 a = some o) → False := fun e ⟨o, w⟩ => by rw [e] at w; cases w
  refine k1 _ _ _ (oneL p das kss ++ oneL p2 das2 kss2) (E5.setv bt) ⟨fun x hx => ?_, fun x hx => (inL x hx).2.1, fun x hx => nX (inL x hx).1⟩ ⟨fun a o h _ n k => f2.fr a o h n k, f2.dm, f2.tp, fun x hx => .inr (inL x hx).1⟩ (g p p2 das das2 _ (oneL_two hl nd fun x hx => List.mem_append_left _ hx) (oneL_two hl2 nd2 fun x hx => List.mem_append_right _ hx) (fun z => clash (hd2 p z).1 alp) (fun z => clash hp2 (ald p2 z)) (fun z => clash hp2 (z ▸ alp)) fun y hy => ?_)
  · obtain ⟨q1, q2, ws, q3, q4⟩ := inL x hx
    exact ⟨ws, sq _ _ q3, q4.tp q2 fun a o _ e => sq a o e⟩
  · rcases List.mem_append.mp hy with hy | hy
    · rcases oneL_fst hy with e | e
      · exact .inl e
      · exact .inr (.inr (.inl e))
    · rcases oneL_fst hy with e | e
      · exact .inr (.inl e)
      · exact .inr (.inr (.inr e))
/-- for one in some: one.append(7); some.reverse() -/
theorem wk_spoil {q : Addr} {das : List Addr} {B : Nat} {e0 : En} {c : Int} (hij : i ≠ j) (hi : ρ[i]? = some (.v (.raw q))) (hj : ρ[j]? = some e0) (hq : (q, das.map .raw) ∈ Ls) (nq : q ∉ das) (hB : ∀ a ∈ das, ∃ es, (a, es) ∈ Ls ∧ es.length ≤ B) (hz : B + das.length < sizeLine)
    (h : ∀ (Ls' : Kl) (e : En), (∀ x ∈ Ls, x.1 ≠ q → ∃ x' ∈ Ls', x'.1 = x.1 ∧ x'.2.length ≤ x.2.length + das.length ∧ (x.1 ∉ das → x' = x)) → P (ρ.set j e) Ls') :
    Wk Z (tSeq (tFor (iList Z.K (tVar i)) (gName j) (tDrop (tBM Z.K "list" rAppend (tVar j) (tCons (tC (.int c)) tNil)))) (tDrop (tBM0 Z.K "list" rReverse (tVar i)))) ρ Ls P rt := by
  have jl : j < ρ.length := (List.getElem?_eq_some_iff.mp hj).1
  refine wk_seq (wk_forRaw (we_var hi ⟨q, das, rfl, fun k ρ' Ls' => ∃ e, ρ' = ρ.set j e ∧ ∀ x ∈ Ls, ∃ x' ∈ Ls', x'.1 = x.1 ∧ x'.2.length ≤ x.2.length + k ∧ (x.1 ∉ das → x' = x), ⟨e0, (set_same hj).symm, fun x hx => ⟨x, hx, rfl, Nat.le_refl _, fun _ => rfl⟩⟩, fun k ρ' Ls' ⟨e, _, hr⟩ => ?_, fun k a ρ' Ls' ha ⟨e, er, hr⟩ => ?_, fun ρ' Ls' ⟨e, er, hr⟩ => ?_⟩))
  · obtain ⟨x', h1, h2, h3, h4⟩ := hr _ hq
    rw [h4 nq] at h1
    exact h1
  · subst er
    obtain ⟨hk, rfl⟩ := List.getElem?_eq_some_iff.mp ha
    have ham : das[k] ∈ das := List.getElem_mem hk
    obtain ⟨es, hm, hl⟩ := hB _ ham
    obtain ⟨x', h1, h2, h3, _⟩ := hr _ hm
    rw [List.set_set]
    refine wk_app (we_var (List.getElem?_set_self jl) ⟨das[k], x'.2, rfl, by rw [← show x'.1 = das[k] from h2]; exact h1, we_int ⟨rfl, by simp only at h3; omega, _, rfl, fun x hx => ?_⟩⟩)
    obtain ⟨y, q1, q2, q3, q4⟩ := hr x hx
    refine ⟨_, List.mem_map.mpr ⟨y, q1, rfl⟩, ?_⟩
    by_cases z : y.1 = das[k]
    · rw [if_pos z]
      refine ⟨q2, by rw [List.length_append]; simp only [List.length_cons, List.length_nil]; omega, fun n => ?_⟩
      exact absurd (by rw [← q2, z]; exact ham) n
    · rw [if_neg z]
      exact ⟨q2, by omega, q4⟩
  · subst er
    have gi : (ρ.set j e)[i]? = some (.v (.raw q)) := by rw [List.getElem?_set_ne (Ne.symm hij)]; exact hi
    obtain ⟨x', h1, h2, h3, h4⟩ := hr _ hq
    rw [h4 nq] at h1
    refine wk_rev (we_var gi ⟨q, _, rfl, h1, h _ e fun x hx ne => ?_⟩)
    obtain ⟨y, q1, q2, q3, q4⟩ := hr x hx
    refine ⟨_, List.mem_map.mpr ⟨y, q1, rfl⟩, ?_⟩
    rw [if_neg (by rw [q2]; exact ne)]
    exact ⟨q2, q3, q4⟩
end
end DL
/-! DL31: a list got from told data that is read whole; four told parts cut; min of data. -/
namespace DL
open PySem PySem.Spec PyProof.Rows L2
section
variable {Z : Cs} {r : Option Addr} {X : Addr → Prop} {H : Hp} {ρ : List En} {Ls : Kl} {P : List En → Kl → Prop} {rt : D → Prop} {te : TE} {i j : Nat} {d : D}
/-- x = a new list, got by what reads told data whole -/
theorem wk_setlR {d' : D} (hi : ρ[i]? = some (.v d)) (l : LF d = true) (fl : Fl Ls d d') (h : Wl Z te ((noRow ρ).set i (.v d')) fun es => LFL es = true ∧ P (ρ.set j (.l es)) Ls) : Wk Z (tAsg te (gName j)) ρ Ls P rt := fun r X σ H E k F k1 _ => by
  have E1 : Sv Z none X H σ (noRow ρ) := (E.noRow).less fun a z => .inl z
  obtain ⟨v, e1, e2⟩ := E.at_ i _ hi
  have hn : ∀ x ∈ Ls, ¬ Av none X σ (noRow ρ) x.1 := fun x hx z => by
    have xx : XL X Ls x.1 := .inr ⟨x, hx, rfl⟩
    rcases z with z | z | z
    · exact ((E.noRow).xin _ xx).2 z
    · exact k.nx x hx z
    · cases z
  have E2 := E1.setv (i := i) (fl.rep hn k l (e2.lf l))
  rw [show σ.set i (some v) = σ from by
    obtain ⟨hl, e3⟩ := List.getElem?_eq_some_iff.mp e1
    rw [← e3]
    exact List.set_getElem_self hl] at E2
  refine h none X σ H E2 _ fun p vs es H1 n E3 f1 q1 q2 q => ?_
  obtain ⟨lf, q⟩ := q
  have s : Same H H1 := fun a o e => f1.fx a o e fun z => nomatch z
  have E4 : Sv Z r (Xp (XL X Ls) p) H1 σ ρ := (E.grow s fun a z => by
    rcases z with z | z
    · exact .inl z
    · exact .inr ⟨by rw [z]; exact n, _, by rw [z]; exact q1⟩)
  exact k1 _ _ H1 Ls (E4.take (e := .l es) (E.x_new n) rfl ⟨p, vs, rfl, q1, q2.lf lf⟩) (k.fx E (Fx.same s)) (fr_take (Fx.same s) n).frl q
end
section
variable {Z : Cs} {H : Hp} {A : Addr → Prop} {v : V} {ds es : List D} {a c : D}
theorem cut_four (la : LF a = true) (l1 : LFL ds = true) (lc : LF c = true) (l2 : LFL es = true) (h : Rep Z H A (.tup [a, .lst ds, c, .lst es]) v) : ∃ p q, Cut Z A H v [(p, ds), (q, es)] (.tup [a, .raw p, c, .raw q]) := by
  obtain ⟨b, vs, e, t, q1⟩ := rep_tup.mp h
  obtain ⟨v1, r1, rfl, h1, q2⟩ := repL_cons.mp q1
  obtain ⟨v2, r2, rfl, h2, q3⟩ := repL_cons.mp q2
  obtain ⟨v3, r3, rfl, h3, q4⟩ := repL_cons.mp q3
  obtain ⟨v4, r4, rfl, h4, q5⟩ := repL_cons.mp q4
  obtain rfl := repL_nil.mp q5
  obtain ⟨p, ws, rfl, np, hp, hw⟩ := rep_lst.mp h2
  obtain ⟨q, us, rfl, nq, hq, hu⟩ := rep_lst.mp h4
  refine ⟨p, q, rep_tup.mpr ⟨b, _, e, t, repL_cons.mpr ⟨_, _, rfl, h1.lf la, repL_cons.mpr ⟨_, _, rfl, rep_raw.mpr rfl, repL_cons.mpr ⟨_, _, rfl, h3.lf lc, repL_cons.mpr ⟨_, _, rfl, rep_raw.mpr rfl, repL_nil.mpr rfl⟩⟩⟩⟩⟩, ?_, fun x hx => ?_⟩
  · rw [LF_tup]
    intro d hd
    simp only [List.mem_cons, List.not_mem_nil, or_false] at hd
    rcases hd with rfl | rfl | rfl | rfl
    · exact la
    · rfl
    · exact lc
    · rfl
  · rcases List.mem_cons.mp hx with rfl | hx
    · exact ⟨np, ⟨ws, hp, hw.lf l1⟩, l1⟩
    · rw [List.mem_singleton.mp hx]
      exact ⟨nq, ⟨us, hq, hu.lf l2⟩, l2⟩
end
end DL
/-! DL32: min of a list of data. -/
namespace L2
open PySem PySem.Spec PyProof.Rows
def rMinDl (K : PySem.W.Frag) : List V → Hp → VK → Prop := fun vs H Q => ∃ (a : Addr) (b0 : V × PyData) (bs : List (V × PyData)), vs = [V.ref a] ∧ SqL K H a ((b0 :: bs).map (·.1)) ∧ (∀ b ∈ b0 :: bs, Dp K H b.1 b.2) ∧ W.AlikeAll ((b0 :: bs).map (·.2)) ∧ (PyData.depthAll ((b0 :: bs).map (·.2)) ≤ 20) ∧
  ∀ b ∈ b0 :: bs, b.2 = W.minD b0.2 (bs.map (·.2)) → Q b.1 H
theorem vals_at : ∀ {vs : List V} {its : List Value}, Vals vs its → ∀ (i : Nat) (v : Value), its[i]? = some v → ∃ x, vs[i]? = some x ∧ RelV x v
  | _, _, h, i, v, hv => by
    cases h with
    | nil => simp at hv
    | cons r t =>
      cases i with
      | zero => exact ⟨_, rfl, by cases hv; exact r⟩
      | succ i => exact vals_at t i v hv
section
variable {X : Cx}
theorem cr_minDl (hu : X.A.units + 64 < cLine) (hc : X.calm = true) : CallR X (.builtin "min") (rMinDl X.K) := by
  intro pins s σ H vs us Q I r h
  obtain ⟨a, b0, bs, rfl, hs, hd, hal, hdp, q⟩ := h
  obtain ⟨its, rv, hl, hz⟩ := I.list hs
  rw [Vals.ref1 r]
  obtain ⟨as, hr⟩ := W.each_readsAll (enc := Prod.snd) (each_of_vals rv fun b hb v r => Dp.reads I _ _ _ (hd b hb) r)
  have hh := I.ok.hd hc
  have hdp : PyData.depthAll ((b0 :: bs).map Prod.snd) ≤ 20 := hdp
  have hn : its.toArray.size = bs.length + 1 := by
    have := rv.length
    rw [List.length_map, List.length_cons] at this
    simp only [List.size_toArray]
    exact this.symm
  refine PySem.call_min_walkH (W.iter_listW (A := X.A.in1) hh hl.isList fun s₂ e WW st hfp hw hk => ?_)
  refine ⟨_, _, _, _, _, _, _, s.heap, _, rfl, WW, st, hfp, by omega, hw, hk, W.cmpIn_lt (A := X.A.in1) hr hal (by show X.A.units + 1 + _ < _; omega), fun v s' hP m => ?_⟩
  obtain ⟨h', tk, rfl, hk'⟩ := W.moved_old e rfl m
  simp only [List.getElem?_toArray] at hP
  obtain ⟨x, hx, rx⟩ := vals_at rv _ v hP
  rw [List.getElem?_map] at hx
  obtain ⟨b, hb, rfl⟩ := Option.map_eq_some_iff.mp hx
  have e1 : its.toArray.size - 1 = (bs.map (·.2)).length := by rw [List.length_map]; omega
  have e2 := (W.argBest_fold W.dataLt PyData.none b0.2 (bs.map (·.2)) (bs.map (·.2)).length (Nat.le_refl _)).2
  rw [List.take_length] at e2
  refine ⟨b.1, H, I.kept hk', rx, q b (List.mem_of_getElem? hb) ?_⟩
  unfold W.minD
  rw [← e2, ← e1]
  have e3 : ((b0 :: bs).map (·.2))[argBest (fun i j => W.dataLt (((b0 :: bs).map (·.2)).getD i PyData.none) (((b0 :: bs).map (·.2)).getD j PyData.none)) (its.toArray.size - 1)]? = some b.2 := by rw [List.getElem?_map, hb]; rfl
  rw [List.map_cons] at e3
  rw [List.getD, e3]
  rfl
end
end L2
namespace DL
open PySem PySem.Spec PyProof.Rows L2
theorem fold_least {α : Type} {lt : α → α → Bool} (t : Tri lt) : ∀ (xs : List α) (x : α), (xs.foldl (fun a y => if lt y a then y else a) x ∈ x :: xs) ∧ ∀ y ∈ x :: xs, lt y (xs.foldl (fun a y => if lt y a then y else a) x) = false
  | [], x => ⟨by simp, fun y hy => by rw [List.mem_singleton.mp hy]; exact t.irr x⟩
  | z :: xs, x => by
    rw [List.foldl_cons]
    obtain ⟨h1, h2⟩ := fold_least t xs (if lt z x then z else x)
    generalize hm : xs.foldl (fun a y => if lt y a then y else a) (if lt z x then z else x) = m at h1 h2
    by_cases c : lt z x = true
    · rw [if_pos c] at h1 h2
      refine ⟨by rcases List.mem_cons.mp h1 with e | h1; exact (by rw [e]; simp); simp [h1], fun y hy => ?_⟩
      rcases List.mem_cons.mp hy with rfl | hy
      · cases e : lt y m with
        | false => rfl
        | true => rw [← h2 z (by simp)]; exact (t.tr z y m c e).symm
      · exact h2 y hy
    · rw [if_neg c] at h1 h2
      have c : lt z x = false := by simpa using c
      refine ⟨by rcases List.mem_cons.mp h1 with e | h1; exact (by rw [e]; simp); simp [h1], fun y hy => ?_⟩
      rcases List.mem_cons.mp hy with rfl | hy
      · exact h2 y (by simp)
      · rcases List.mem_cons.mp hy with rfl | hy
        · cases e : lt y m with
          | false => rfl
          | true =>
            cases e2 : lt x y with
            | false =>
              have := t.tri x y e2 c
              rw [← this, h2 x (by simp)] at e
              exact e.symm
            | true => rw [← h2 x (by simp)]; exact (t.tr x y m e2 e).symm
        · exact h2 y (by simp [hy])
theorem depthAll_le {n : Nat} : ∀ {ds : List PyData}, (∀ d ∈ ds, d.depth ≤ n) → PyData.depthAll ds ≤ n
  | [], _ => Nat.zero_le _
  | d :: ds, h => Nat.max_le.mpr ⟨h d (by simp), depthAll_le fun x hx => h x (List.mem_cons_of_mem _ hx)⟩
section
variable {Z : Cs} {ρ : List En} {Q : D → Prop} {α : Type} [DecidableEq α] {enc : α → D} {n : Nat} {lt : α → α → Bool}
theorem minD_enc (o : Od enc lt) : ∀ (xs : List α) (x : α), W.minD (toPy (enc x)) ((xs.map enc).map toPy) = toPy (enc (xs.foldl (fun a y => if lt y a then y else a) x))
  | [], x => rfl
  | z :: xs, x => by
    rw [List.map_cons, List.map_cons, List.foldl_cons, ← minD_enc o xs]
    unfold W.minD
    rw [List.foldl_cons, o.lt_]
    cases lt z x <;> rfl
/-- min of a list of data of a kind -/
theorem cd_minK (k : Kd enc n) (hn : n ≤ 20) (o : Od enc lt) (t : Tri lt) (nn : ∀ x, toPy (enc x) ≠ .none) (cl : ∀ x, PyData.canLay0 (toPy (enc x)) = true) {x0 : α} {xs : List α} (q : ∀ m, m ∈ x0 :: xs → (∀ y ∈ x0 :: xs, lt y m = false) → Q (enc m)) : CbD Z ρ (rMinDl Z.K) [.lst ((x0 :: xs).map enc)] Q := fun r X σ H vs E h k' hk => by
  obtain ⟨v, rfl, b⟩ := h.one
  obtain ⟨a, ws, rfl, h3, h4⟩ := b.lst E
  obtain ⟨cs, e1, e2, hc⟩ := repL_pairs h4
  subst e1
  cases cs with
  | nil => simp at e2
  | cons c0 cs =>
    rw [List.map_cons, List.map_cons] at e2
    obtain ⟨e3, e4⟩ := List.cons.inj e2
    have cm : ∀ c ∈ c0 :: cs, ∃ x ∈ x0 :: xs, c.2 = enc x := fun c hc => by
      have : c.2 ∈ (x0 :: xs).map enc := by
        rw [List.map_cons, ← e3, ← e4, ← List.map_cons (f := fun c : V × D => c.2)]
        exact List.mem_map.mpr ⟨c, hc, rfl⟩
      obtain ⟨x, hx, e⟩ := List.mem_map.mp this
      exact ⟨x, hx, e.symm⟩
    have e5 : (cs.map fun c => (c.1, toPy c.2)).map (·.2) = (xs.map enc).map toPy := by rw [← e4, List.map_map, List.map_map]; rfl
    refine ⟨a, (c0.1, toPy c0.2), cs.map fun c => (c.1, toPy c.2), rfl, ?_, fun b hb => ?_, ⟨fun x hx y hy => ?_, fun x hx => ?_⟩, depthAll_le fun x hx => ?_, fun b hb e => ?_⟩
    · rw [List.map_cons, List.map_map]
      exact .of h3
    · rw [← List.map_cons (f := fun c : V × D => (c.1, toPy c.2))] at hb
      obtain ⟨c, hc1, rfl⟩ := List.mem_map.mp hb
      obtain ⟨x, hx, e⟩ := cm c hc1
      exact rep_dp (by rw [e]; exact cl x) (hc c hc1)
    · rw [← List.map_cons (f := fun c : V × D => (c.1, toPy c.2)), List.map_map] at hx hy
      obtain ⟨c, hc1, rfl⟩ := List.mem_map.mp hx
      obtain ⟨c', hc2, rfl⟩ := List.mem_map.mp hy
      obtain ⟨x, _, e⟩ := cm c hc1
      obtain ⟨x', _, e'⟩ := cm c' hc2
      show W.alike (toPy c.2) (toPy c'.2) = true
      rw [e, e']
      exact o.al _ _
    · rw [← List.map_cons (f := fun c : V × D => (c.1, toPy c.2)), List.map_map] at hx
      obtain ⟨c, hc1, rfl⟩ := List.mem_map.mp hx
      obtain ⟨x, _, e⟩ := cm c hc1
      show toPy c.2 ≠ .none
      rw [e]
      exact nn x
    · rw [← List.map_cons (f := fun c : V × D => (c.1, toPy c.2)), List.map_map] at hx
      obtain ⟨c, hc1, rfl⟩ := List.mem_map.mp hx
      obtain ⟨x, _, e⟩ := cm c hc1
      show (toPy c.2).depth ≤ 20
      rw [e]
      exact Nat.le_trans (k.dep x) hn
    · rw [← List.map_cons (f := fun c : V × D => (c.1, toPy c.2))] at hb
      obtain ⟨c, hc1, rfl⟩ := List.mem_map.mp hb
      obtain ⟨x, hx, ex⟩ := cm c hc1
      rw [e5, e3] at e
      have e : toPy c.2 = W.minD (toPy (enc x0)) ((xs.map enc).map toPy) := e
      rw [minD_enc o, ex] at e
      obtain ⟨f1, f2⟩ := fold_least t xs x0
      have em : x = xs.foldl (fun a y => if lt y a then y else a) x0 := by
        cases e6 : lt x (xs.foldl (fun a y => if lt y a then y else a) x0) with
        | true => rw [f2 x hx] at e6; cases e6
        | false =>
          refine t.tri _ _ e6 ?_
          rw [← o.lt_, e, o.lt_]
          exact t.irr _
      have hq := q x hx (fun y hy => by rw [em]; exact f2 y hy)
      rw [← ex] at hq
      exact hk _ _ H E Fx.refl (hc c hc1) hq
end
theorem cd_minP {Z : Cs} {ρ : List En} {Q : D → Prop} {ps : List (Int × Int)} (l : 0 < ps.length) (q : ∀ m, m ∈ ps → (∀ y ∈ ps, ltP y m = false) → Q (prD m)) : CbD Z ρ (rMinDl Z.K) [.lst (ps.map prD)] Q := by
  cases ps with
  | nil => simp at l
  | cons p ps => exact cd_minK kd_pr (by decide) od_pr tri_P (fun x z => nomatch z) (fun x => (sortOk_pr [x]).cl _ (by simp)) q
end DL
namespace L2
open PySem PySem.Spec PyProof.Rows
theorem cr_minDK {X : Cx} (K : PySem.W.Frag) (hu : X.A.units + 64 < cLine) (hc : X.calm = true) (h : X.K = K := by rfl) : CallR X (.builtin "min") (rMinDl K) := by subst h; exact cr_minDl hu hc
end L2
/-! DL33: texts joined and split. -/
namespace L2
open PySem PySem.Spec PyProof.Rows
def rJoin (K : PySem.W.Frag) : V → List V → Hp → VK → Prop := fun x xs H Q => ∃ a p, ∃ ys : List Str, x = .str a ∧ xs = [.ref p] ∧ (SqL K H p (ys.map V.str) ∨ SqT K H p (ys.map V.str)) ∧ (ys.map (·.length)).sum + ys.length * a.length ≤ 16777216 ∧ Q (.str (Txt.join a ys)) H
def rSplit : V → List V → Hp → VK → Prop := fun x xs H Q => ∃ a b, x = .str a ∧ xs = [.str b] ∧ (b.length == 0) = false ∧ a.length + 2 ≤ sizeLine ∧ rNewStrs (Txt.split a b) H Q
section
variable {X : Cx} {o e : Expr} {to te : TE} {apos pos : Pos}
theorem pe_joinK (K : PySem.W.Frag) (ho : PE X o to) (he : PE X e te) (hs : starEach [e] X.env = [(false, eval e X.env)] := by rfl) (hbase : attributeBase o "join" X.env (eval o X.env) = eval o X.env := by rfl) (hline : (apos.endLine == pos.line) = true := by rfl) (h : X.K = K := by rfl) :
    PE X (.Call (.Attribute o "join" apos) [e] [] pos) (tM1 (rJoin K) to te) := by
  subst h; exact pe_join ho he hs hbase hline
theorem pe_splitK (ho : PE X o to) (he : PE X e te) (hs : starEach [e] X.env = [(false, eval e X.env)] := by rfl) (hbase : attributeBase o "split" X.env (eval o X.env) = eval o X.env := by rfl) (hline : (apos.endLine == pos.line) = true := by rfl) :
    PE X (.Call (.Attribute o "split" apos) [e] [] pos) (tM1 rSplit to te) := pe_split ho he hs hbase hline
end
end L2
namespace DL
open PySem PySem.Spec PyProof.Rows L2
section
variable {Z : Cs} {ρ : List En} {to te : TE}
theorem we_join {Q : D → Prop} (h : We Z to ρ fun x => ∃ a, x = .str a ∧ Wb Z te ρ fun y => ∃ ys : List Str, y = .lst (ys.map .str) ∧ (ys.map (·.length)).sum + ys.length * a.length ≤ 16777216 ∧ Q (.str (Txt.join a ys))) : We Z (tM1 (rJoin Z.K) to te) ρ Q := fun r X σ H E k hk => h r X σ H E _ fun v d H1 E1 f1 b1 ⟨a, e, q⟩ => by
  subst e
  have ev := rep_str.mp b1
  subst ev
  refine ⟨⟨a, rfl⟩, q r X σ H1 E1 _ fun w y H2 E2 f2 b2 ⟨ys, e, hz, q⟩ => ?_⟩
  subst e
  obtain ⟨p, ws, rfl, h3, h4⟩ := b2.lst E2
  have e := repL_strs.mp h4
  subst e
  exact ⟨a, p, ys, rfl, rfl, .inl (.of h3), hz, hk _ _ H2 E2 (f1.trans f2) (rep_str.mpr rfl) q⟩
theorem wl_split {Q : List D → Prop} (h : We Z to ρ fun x => ∃ a, x = .str a ∧ We Z te ρ fun y => ∃ b, y = .str b ∧ (b.length == 0) = false ∧ a.length + 2 ≤ sizeLine ∧ Q ((Txt.split a b).map .str)) : Wl Z (tM1 rSplit to te) ρ Q := fun r X σ H E k hk => h r X σ H E _ fun v d H1 E1 f1 b1 ⟨a, e, q⟩ => by
  subst e
  have ev := rep_str.mp b1
  subst ev
  refine ⟨⟨a, rfl⟩, q r X σ H1 E1 _ fun w y H2 E2 f2 b2 ⟨b, e, hb, hz, q⟩ => ?_⟩
  subst e
  have ew := rep_str.mp b2
  subst ew
  refine ⟨a, b, rfl, rfl, hb, hz, fun p hp => ?_⟩
  exact hk p _ _ _ ((f1.trans f2).new hp) (E2.put hp) ((f1.trans f2).trans (Fx.same (same_upd hp))) upd_same (repL_strs.mpr rfl) q
theorem we_indexS {ta : TE} {Q : D → Prop} (h : Wb Z te ρ fun d => ∃ ns : List Str, d = .lst (ns.map .str) ∧ Wb Z ta ρ fun y => ∃ m : Str, y = .str m ∧ m ∈ ns ∧ Q (.int (ns.idxOf m))) : We Z (tBM Z.K "list" (rIndex Z.K) te (tCons ta tNil)) ρ Q := fun r X σ H E k hk =>
  h r X σ H E _ fun v d H1 E1 f1 b1 ⟨ns, e, g⟩ => by
    subst e
    obtain ⟨a, vs, rfl, h3, h4⟩ := b1.lst E1
    have e := repL_strs.mp h4
    subst e
    refine ⟨tyV_l h3, g r X σ H1 E1 _ fun w y H2 E2 f2 b2 ⟨m, e, hm, q⟩ => ?_⟩
    subst e
    rw [b2.str]
    have b3 := b1.keep f2
    obtain ⟨a', vs, e, h5, h6⟩ := b3.lst E2
    cases e
    have e := repL_strs.mp h6
    subst e
    have hl := List.idxOf_lt_length_iff.mpr hm
    refine ⟨a, _, _, ns.idxOf m, .str m, rfl, rfl, .of h5, rfl, flat_strs ns, ?_, ?_, fun n z hn hz => ?_, hk _ _ H2 E2 (f1.trans f2) (rep_int.mpr rfl) q⟩
    · rw [List.getElem?_map, List.getElem?_eq_getElem hl]
      show some (V.str (ns[ns.idxOf m])) = _
      rw [List.getElem_idxOf hl]
    · simp [eqV]
    · rw [List.getElem?_map] at hz
      obtain ⟨u, hu, rfl⟩ := Option.map_eq_some_iff.mp hz
      obtain ⟨hun, eu⟩ := List.getElem?_eq_some_iff.mp hu
      have : ¬ (u == m) = true := by
        have := List.not_of_lt_findIdx (p := fun x => x == m) (xs := ns) (i := n) hn
        rw [eu] at this
        simpa using this
      simp [eqV]
      simpa using this
abbrev rAddS : R2 := fun x y H Q => ∃ i j, x = .str i ∧ y = .str j ∧ i.length + j.length ≤ sizeLine ∧ Q (.str (i ++ j)) H
theorem od_adds {x y : Str} {Q : D → Prop} (l : x.length + y.length ≤ sizeLine) (q : Q (.str (x ++ y))) : OpD Z ρ rAddS (.str x) (.str y) Q := fun r X σ H v w E h1 h2 k hk =>
  ⟨x, y, h1.str, h2.str, l, hk _ _ H E Fx.refl (rep_str.mpr rfl) q⟩
end
end DL
/-! DL34: a walk over a list or a tuple. -/
namespace L2
open PySem PySem.Spec PyProof.Rows
def iSeq (K : PySem.W.Frag) (tl : TE) : TI := fun σ H R => tl σ H fun x H1 => ∃ a, x = .ref a ∧ ((∃ xs, SqL K H1 a xs) ∧ R (Itl K a) H1 ∨ (∃ xs, SqT K H1 a xs) ∧ R (Itt K a) H1)
section
variable {X : Cx} {tg : Expr}
theorem pi_seq {l : Expr} {tl : TE} (hl : PE X l tl) : PI X tg l (iSeq X.K tl) := by
  refine ⟨fun pins s σ H R I h => ?_⟩
  refine thn (hl.run pins s σ H _ I h) fun v s1 ⟨x, H1, I1, r1, q1⟩ => ?_
  obtain ⟨a, e, q⟩ := q1
  subst e
  cases r1
  rcases q with ⟨⟨xs, hq⟩, q⟩ | ⟨⟨xs, hq⟩, q⟩
  · obtain ⟨its, rv, p, hz⟩ := I1.list hq
    refine wpAny_pyIter_list p.isList ?_
    refine ⟨s1.heap.objs.size, [s1.heap.objs.size], _, _, H1, rfl, I1.kept (t' := s1.toks) fun b o e => Heap.get?_push_of_some _ e, turn_list a _, ⟨_, Heap.get?_push_size _ rfl, rfl, rfl⟩, fun b hb => ?_, q⟩
    have e : b = s1.heap.objs.size := by simpa using hb
    subst e
    exact I1.fpOk (Nat.le_refl _) (I1.hok.fresh (Nat.le_refl _))
  · obtain ⟨its, rv, p, hz⟩ := I1.tuple hq
    refine wpAny_pyIter_tuple (show s1.heap.IsTuple a its.toArray from p) ?_
    refine ⟨s1.heap.objs.size, [s1.heap.objs.size], _, _, H1, rfl, I1.kept (t' := s1.toks) fun b o e => Heap.get?_push_of_some _ e, turn_tuple a _, ⟨_, Heap.get?_push_size _ rfl, rfl, rfl⟩, fun b hb => ?_, q⟩
    have e : b = s1.heap.objs.size := by simpa using hb
    subst e
    exact I1.fpOk (Nat.le_refl _) (I1.hok.fresh (Nat.le_refl _))
theorem pi_seqK (K : PySem.W.Frag) {l : Expr} {tl : TE} (hl : PE X l tl) (h : X.K = K := by rfl) : PI X tg l (iSeq K tl) := by subst h; exact pi_seq hl
end
end L2
namespace DL
open PySem PySem.Spec PyProof.Rows L2
section
variable {Z : Cs} {ρ : List En} {tl te : TE} {tt : TT} {vs : List Nat} {j : Nat} {Q : List D → Prop}
theorem wl_lcS (hv : NoOwn ρ vs) (hj : j ∈ vs) (h : Wb Z tl ρ fun d => ∃ ds, (d = .lst ds ∨ d = .tup ds) ∧ ds.length ≤ sizeLine ∧ LcD Z ρ vs j tt te ds Q) : Wl Z (tLc (iSeq Z.K tl) (gName j) tt te vs) ρ Q := fun r X σ H E k hk =>
  h r X σ H E _ fun v d H1 E1 f1 b1 ⟨ds, e, hz, I, I0, It, If⟩ => by
    rcases e with e | e
    · subst e
      obtain ⟨a, ws, rfl, h3, h4⟩ := b1.lst E1
      refine ⟨a, rfl, .inl ⟨⟨ws, .of h3⟩, fun Dl hD => lc_list (K := Z.K) (a := a) (xs := ws) (fun i H' => ∃ acc, LcS Z r X σ ρ H1 Dl acc H' ∧ I (ds.take i) acc ∧ acc.length ≤ i) ⟨[], LcS.start E1 hD, I0, Nat.le_refl _⟩ (fun i H' hi ⟨acc, S, _, _⟩ => .of (S.fx.fx a _ h3 fun z => ?_)) (fun i x H' hi ⟨acc, S, hI, hl⟩ => ?_) fun H' ⟨acc, S, hI, hl⟩ => ?_⟩⟩
      · obtain ⟨⟨sc, i, mm, g, ns, ha, _⟩, q2, q3⟩ := E1.row a z
        rcases b1 with b | ⟨i, e, g1, g2, g3⟩
        · obtain ⟨a', vs', e', n', _⟩ := rep_lst.mp b
          cases e'
          exact n' (.inr (.inr z))
        · refine q2 ⟨i, e, g1, ?_, g2⟩
          cases e with
          | l _ => rfl
          | t _ => rfl
          | un => cases g3
          | v _ => cases g3
          | row => cases g3
      · obtain ⟨d, hd, hr⟩ := h4.get hi
        obtain ⟨p1, p2⟩ := take_pre hd
        have hi2 := (List.getElem?_eq_some_iff.mp hd).1
        refine S.turn (B := True) hD hv hj (by omega) (hr.mv S.mv) (K := fun acc => I (ds.take (i + 1)) acc) ?_ fun acc' H'' S' q l => ⟨acc', S', q, by omega⟩
        rw [p2]
        exact It (ds.take i) d _ acc p1 hI (by rw [List.length_take]; omega)
      · rw [h4.length, List.take_length] at hI
        exact S.fin hD (If acc hI (by rw [← h4.length]; exact hl)) fun p ws ds H' n E2 f2 q1 q2 q => hk p ws ds H' (f1.new n) E2 (f1.trans f2) q1 q2 q
    · subst e
      obtain ⟨a, ws, rfl, h3, h4⟩ := b1.tup
      refine ⟨a, rfl, .inr ⟨⟨ws, h3.sq⟩, fun Dl hD => lc_tup (K := Z.K) (a := a) (xs := ws) (fun i H' => ∃ acc, LcS Z r X σ ρ H1 Dl acc H' ∧ I (ds.take i) acc ∧ acc.length ≤ i) ⟨[], LcS.start E1 hD, I0, Nat.le_refl _⟩ (fun i H' hi ⟨acc, S, _, _⟩ => .of (S.mv.tp a _ rfl h3)) (fun i x H' hi ⟨acc, S, hI, hl⟩ => ?_) fun H' ⟨acc, S, hI, hl⟩ => ?_⟩⟩
      · obtain ⟨d, hd, hr⟩ := h4.get hi
        obtain ⟨p1, p2⟩ := take_pre hd
        have hi2 := (List.getElem?_eq_some_iff.mp hd).1
        refine S.turn (B := True) hD hv hj (by omega) (hr.mv S.mv) (K := fun acc => I (ds.take (i + 1)) acc) ?_ fun acc' H'' S' q l => ⟨acc', S', q, by omega⟩
        rw [p2]
        exact It (ds.take i) d _ acc p1 hI (by rw [List.length_take]; omega)
      · rw [h4.length, List.take_length] at hI
        exact S.fin hD (If acc hI (by rw [← h4.length]; exact hl)) fun p ws ds H' n E2 f2 q1 q2 q => hk p ws ds H' (f1.new n) E2 (f1.trans f2) q1 q2 q
end
end DL
/-! DL35: how many unlike texts a list holds. -/
namespace DS
open PySem PyProof.Rows
/-- what n unlike ones tell of a list -/
abbrev Unl (xs : List Str) (n : Nat) : Prop := n ≤ xs.length ∧ (n = xs.length → xs.Nodup)
section
variable {p : Program} {v : World} {A : Around} {R : Result → Shared → Prop} {it : Addr} {fp wr : List Addr} {G : Array GenState → Array GenState → Prop} {n : Nat} {P : Nat → Value → Prop} {St : Nat → Shared → Prop}
abbrev Have (p : Program) (v : World) (h : Heap) (a : Addr) (xs : List Str) : Prop := ∃ m, Unl xs m ∧ h.SetOf (PySem.strKind p v) a (fun z => decide (z ∈ xs)) m
theorem have_keep {h h' : Heap} {a : Addr} {xs : List Str} (q : Have p v h a xs) (k : ∀ o, h.get? a = some o → h'.get? a = some o) : Have p v h' a xs := by
  obtain ⟨m, u, o, es, ep, tb, ho, r⟩ := q
  exact ⟨m, u, o, es, ep, tb, k o ho, r⟩
theorem have_step {h : Heap} {a : Addr} {xs : List Str} {y : Str} {m : Nat} (u : Unl xs m) (q : h.SetOf (PySem.strKind p v) a (fun z => decide (z ∈ xs) || decide (z = y)) (if decide (y ∈ xs) = true then m else m + 1)) : Have p v h a (xs ++ [y]) := by
  refine ⟨_, ?_, SetOf_congr q (fun z => ?_) rfl⟩
  · by_cases c : y ∈ xs
    · rw [if_pos (decide_eq_true c)]
      refine ⟨by have := u.1; simp; omega, fun e => ?_⟩
      have := u.1
      simp at e
      omega
    · rw [if_neg (by rw [decide_eq_true_eq]; exact c)]
      refine ⟨by have := u.1; simp; omega, fun e => ?_⟩
      simp at e
      rw [List.nodup_append]
      exact ⟨u.2 e, by simp, fun a ha b hb e => c (by rw [List.mem_singleton.mp hb] at e; exact e ▸ ha)⟩
  · simp
theorem turns (W : WalksS p v A.in1 it fp wr G n P St) (a : Addr) (af : a ∉ fp) (xs : List Str) (hx : xs.length = n) (hb : n + 1 < scanBound) (val : ∀ i u, P i u → ∃ t, u = .str (xs.getD i Str.empty) t) :
    ∀ (d i : Nat) (s : Shared), i + d = n → St i s → Have p v s.heap a (xs.take i) →
      (∀ s', Moved (a :: wr) G s s' → Have p v s'.heap a xs → R (.ok (.ret .none)) s') → codeAny (model p v) A (.builtin "set.update.loop" ⟨[.ref a, .ref it], []⟩) R s := by
  have aw : a ∉ wr := fun z => af (W.sub _ z)
  have sub : ∀ b ∈ wr, b ∈ a :: wr := fun b z => .tail _ z
  intro d
  induction d with
  | zero =>
    intro i s e st hv k
    have e : i = n := e
    subst e
    refine codeAny_builtin PyProof.Rows.F.entry_set_update_loop ?_
    rw [Around.under_plainId PyProof.Rows.F.plain_set_update_loop]
    refine (wpAny_bind (m := pyNext (.ref it)) (W.done s _ _ st fun s1 m1 => ?_) :)
    refine (wpAny_pure ?_ :)
    refine k s1 (m1.mono sub) ?_
    rw [← hx, List.take_length] at hv
    exact have_keep hv fun o ho => m1.heap a _ aw ho
  | succ d ih =>
    intro i s e st hv k
    have lt : i < n := by omega
    have lx : i < xs.length := by omega
    refine codeAny_builtin PyProof.Rows.F.entry_set_update_loop ?_
    rw [Around.under_plainId PyProof.Rows.F.plain_set_update_loop]
    refine (wpAny_bind (m := pyNext (.ref it)) (W.item i s _ _ lt st fun u s1 hP st1 m1 => ?_) :)
    obtain ⟨t, rfl⟩ := val i u hP
    have hv := have_keep hv fun o ho => m1.heap a _ aw ho
    obtain ⟨m, un, hS⟩ := hv
    have lm : m ≤ i := by have := un.1; rw [List.length_take] at this; omega
    generalize ey : xs.getD i Str.empty = y
    have ey' : xs[i] = y := by rw [← ey, List.getD, List.getElem?_eq_getElem lx]; rfl
    refine (wpAny_bind (m := holding [Value.str y t] (setAdd a (.str y t))) (wpAny_holding ?_) :)
    unfold setAdd
    refine wpAny_holding (wpAny_bind ((PySem.strKind p v).pyHash (k := y) (strKind_is _ _ _ _) ?_))
    refine wpAny_setAddHashed_of (knd := PySem.strKind p v) (s := { s1 with toks := s1.toks + 1 }) (strKind_is _ _ _ _) rfl hS (Nat.lt_of_le_of_lt (by omega) hb) fun h2 sb hS2 => ?_
    have hv2 := have_step un hS2
    rw [← ey', List.take_append_getElem lx] at hv2
    refine wpAny_pure ⟨plainId_quiet PyProof.Rows.F.plain_set_update_loop _, ih (i + 1) _ (by omega) (W.frame _ s1 _ _ st1 (Nat.le_succ _) fun b z o q => ?_) hv2 fun s2 m2 g => ?_⟩
    · rw [sb.2 b fun w : b = a => af (w ▸ z)]
      exact q
    · refine k s2 (Moved.trans W.gtrans ((m1.mono sub).then_heap (Nat.le_succ _) fun b o z q => ?_) m2) g
      rw [sb.2 b fun w : b = a => z (by rw [w]; exact .head _)]
      exact q
end
section
variable {p : Program} {v : World} {A : Around} {E : Value → Shared → Prop} {s : Shared}
abbrev sNew (led : Bool) : Obj := { cls := .type "set", dict := none, data := .set #[] 0 (.fresh 0 0 led) }
theorem call_texts {l : Addr} {its : Array Value} {xs : List Str} {Q : Value → Shared → Prop} (hh : A.handled = none) (hl : s.heap.IsList l its) (hi : StrsAre its.toList xs) (hb : its.size + 1 < scanBound)
    (k : ∀ (h : Heap) (tk : Nat), Have p v h s.heap.objs.size xs → (∀ b o, b < s.heap.objs.size → s.heap.get? b = some o → h.get? b = some o) → Q (.ref s.heap.objs.size) { s with heap := h, toks := tk }) : wpAny (model p v) A (call (.type "set") [.ref l]) Q E s := by
  obtain ⟨c, tl, mro⟩ := F.called_set.mro
  have z1 := F.called_set.made
  have z2 := F.called_set.sub
  refine wpAny_call (codeAny_of_tree (show wpAny (model p v) _ (callAny (.type "set") _) _ _ s from ?_))
  refine @wpAny_pure _ _ _ _ _ _ _ ⟨Code.quiet_builtin _ (by decide +kernel), codeAny_builtin F.entry_type_call ?_⟩
  rw [Around.under_plain (weight_type_call_type "set" [.ref l] []) rfl]
  have z3 := F.called_set.notType
  have z4 := F.called_set.canCreate
  have z5 := F.typeCall_set_1 (.ref l)
  repeat (any_goals (first | assumption | wp_step))
  refine codeAny_mono (code_set_new_1 (.ref l) (E := E) (Q₁ := fun o t => ∃ led : Bool, o = .ref s.heap.objs.size ∧ t = { s with heap := s.heap.push (sNew led) }) fun led => ⟨led, rfl, rfl⟩) fun r t ht => ?_
  rcases r with e | fl
  · exact ht
  cases fl
  case ret o =>
    obtain ⟨led, rfl, rfl⟩ := ht
    have gS : (s.heap.push (sNew led)).get? s.heap.objs.size = some (sNew led) := Heap.get?_push_size _ rfl
    have tS : Shared.TypeIs { s with heap := s.heap.push (sNew led) } (.ref s.heap.objs.size) "set" := ⟨_, gS, rfl⟩
    have z6 := F.called_set.init.lookup
    have z7 := F.called_set.init.bind (.ref s.heap.objs.size)
    repeat (any_goals (first | assumption | wp_step))
    refine codeAny_mono (codeAny_call_builtin (R := wants (fun r t => r = .none ∧ ∃ h tk, t = { s with heap := h, toks := tk } ∧ Have p v h s.heap.objs.size xs ∧ (∀ b o, b < s.heap.objs.size → s.heap.get? b = some o → h.get? b = some o)) E) F.called_set.init.plain F.entry_set_init (check_set_init_1 tS ?_)) fun r t ht => ?_
    · obtain ⟨⟨lc, ld, lx, ls⟩, q1, q2, nl, q3⟩ := hl
      simp only at q2 q3
      subst q2; subst q3
      have gl : (s.heap.push (sNew led)).get? l = some { cls := .type "list", dict := ld, data := .seq its nl, slots := ls } := Heap.get?_push_of_some _ q1
      have z8 := F.sub_list_set
      have z9 := F.sub_list_frozenset
      have z10 : (Value.type "list" == Value.type "dict") = false := by decide
      have il : (s.heap.push (sNew led)).IsList l its := ⟨_, gl, rfl, nl, rfl⟩
      unfold Builtin.«set.__init__» noKeywords Builtin.Frozenset.updateFrom
      generalize eI : pyIter = IT
      wp_walk
      subst eI
      refine wpAny_pyIter_list il (wpAny_bind (wpAny_runValue ?_))
      have ll : l < s.heap.objs.size := Heap.lt_size q1
      have h3 : A.in1.in1.in1.handled = none := by simp [hh]
      have ni : l ≠ (s.heap.push (sNew led)).objs.size := by rw [Heap.size_push]; exact Nat.ne_of_lt (Nat.lt_succ_of_lt ll)
      have nf : s.heap.objs.size ∉ [(s.heap.push (sNew led)).objs.size, l] := by
        rw [Heap.size_push]
        simp only [List.mem_cons, List.not_mem_nil, or_false, not_or]
        exact ⟨Nat.ne_of_lt (Nat.lt_succ_self _), fun z => Nat.ne_of_lt ll z.symm⟩
      have sz : xs.length = its.size := by rw [← StrsAre.len_eq hi, Array.length_toList]
      have val : ∀ (i : Nat) (u : Value), its[i]? = some u → ∃ t, u = .str (xs.getD i Str.empty) t := fun i u q => SS.strs_at hi i u (by rw [Array.getElem?_toList]; exact q)
      refine turns ((Walks.list h3 _ l ni its).toS) s.heap.objs.size nf xs sz hb val its.size 0 _ (by omega) ⟨⟨_, Heap.get?_push_size _ rfl, rfl, rfl⟩, il.push _⟩ ?st ?fin
      case st =>
        have g2 : ((s.heap.push (sNew led)).push { cls := .type "list_iterator", data := .fields #[.ref l, .int 0 0] }).get? s.heap.objs.size = some (sNew led) := Heap.get?_push_of_some _ gS
        exact ⟨0, ⟨Nat.zero_le _, fun _ => by simp⟩, SetOf_congr ((setObjOf_fresh (knd := PySem.strKind p v) led).setOf g2 (by unfold scanBound; omega)) (fun _ => by simp) rfl⟩
      case fin =>
        intro t m hv
        obtain ⟨h', g', d', tk', os'⟩ := t
        cases (show g' = s.gens from m.gens)
        cases (show d' = s.drawn from m.drawn)
        cases (show os' = s.os from m.os)
        refine @wpAny_pure _ _ _ _ _ _ _ (@wpAny_pure _ _ _ _ _ _ _ ⟨rfl, h', tk', rfl, hv, fun b o lb q => ?_⟩)
        refine m.heap b o ?_ (Heap.get?_push_of_some _ (Heap.get?_push_of_some _ q))
        rw [Heap.size_push]
        simp only [List.mem_cons, List.not_mem_nil, or_false, not_or]
        exact ⟨Nat.ne_of_lt lb, Nat.ne_of_lt (Nat.lt_succ_of_lt lb)⟩
    · rcases r with e | fl
      · exact ht
      cases fl
      case ret o =>
        obtain ⟨rfl, h', tk, rfl, hv, kk⟩ := ht
        repeat (any_goals (first | assumption | wp_step))
        exact k _ _ hv kk
      all_goals exact ht.elim
  all_goals exact ht.elim
end
end DS
namespace L2
open PySem PySem.Spec PyProof.Rows
/-- len(set(texts)) -/
def tLenSetS (K : PySem.W.Frag) (ta : TE) : TE := fun σ H Q => ta σ H fun x H1 => ∃ (l : Addr) (xs : List Str), x = .ref l ∧ SqL K H1 l (xs.map V.str) ∧ xs.length ≤ 4000 ∧ ∀ n : Nat, DS.Unl xs n → Q (.int n) H1
theorem pe_lenSetS (K : PySem.W.Frag) {X : Cx} {a : Expr} {ta : TE} {p p2 q pos : Pos} (hg : Gl X "len") (hm : X.mg "len" = none) (hg2 : Gl X "set") (hm2 : X.mg "set" = none) (ha : PE X a ta) (hc : X.calm = true := by rfl)
    (na : starEach [a] X.env = (false, eval a X.env) :: starEach [] X.env := by rfl) (hK : X.K = K := by rfl) : PE X (.Call (.Name "len" p) [.Call (.Name "set" p2) [a] [] q] [] pos) (tLenSetS K ta) := by
  subst hK
  refine ⟨fun pins s σ H Q I h => ?_⟩
  refine Call_ (ld_blt I hg hm boot_len ?_)
  refine PyProof.Rows.callWith_builtin1 (PyProof.Rows.args_cons ?_ rfl) rfl rfl
  refine Call_ (ld_blt I hg2 hm2 boot_set ?_)
  refine PyProof.Rows.callWith_type1 (PyProof.Rows.args_cons (thn (ha.run pins s σ H _ I h) fun v s1 ⟨x, H1, I1, r1, q1⟩ => PyProof.Rows.args_nil ?_) na) na rfl
  obtain ⟨l, xs, rfl, hq, hl, q1⟩ := q1
  cases r1
  obtain ⟨its, r, pl, hz⟩ := I1.list hq
  have hlen : its.toArray.size = xs.length := by rw [List.size_toArray, ← r.length, List.length_map]
  refine DS.call_texts (I1.ok.hd hc) pl.isList (by simpa using strsAre_of r) (by rw [hlen]; unfold scanBound; omega) fun h' tk hv hk => ?_
  refine PyProof.Rows.args_nil ?_
  obtain ⟨m, un, o, es, ep, t, ho, hex, hd, _, _, _, hf, hn⟩ := hv
  have I2 : Inv X pins σ H1 { s1 with heap := h', toks := tk } := I1.kept fun b o e => hk b o (Heap.lt_size e) e
  have := un.1
  exact call_len_set ho hex hd hf (by rw [hn] <;> omega) ⟨.int m, H1, I2.tok _, ⟨_, by rw [hn]⟩, q1 m un⟩
end L2
namespace DL
open PySem PySem.Spec PyProof.Rows L2
theorem we_lensetS {Z : Cs} {ρ : List En} {te : TE} {Q : D → Prop} (h : Wb Z te ρ fun d => ∃ xs : List Str, d = .lst (xs.map .str) ∧ xs.length ≤ 4000 ∧ ∀ n : Nat, DS.Unl xs n → Q (.int n)) : We Z (tLenSetS Z.K te) ρ Q := fun r X σ H E k hk => h r X σ H E _ fun v d H1 E1 f1 b1 ⟨xs, e, l, q⟩ => by
  subst e
  obtain ⟨a, vs, rfl, h3, h4⟩ := b1.lst E1
  have e := repL_strs.mp h4
  subst e
  exact ⟨a, xs, rfl, .of h3, l, fun n un => hk _ _ H1 E1 f1 (rep_int.mpr rfl) (q n un)⟩
end DL
namespace L2
open PySem PySem.Spec PyProof.Rows
def rIndexS (K : PySem.W.Frag) : V → List V → Hp → VK → Prop := rIndex K
theorem mt_indexSK {X : Cx} (K : PySem.W.Frag) (h : X.K = K := by rfl) : MtR X "list.index" (rIndexS K) := by subst h; exact mt_index
def rCatS : V → V → Hp → VK → Prop := fun x y H Q => ∃ i j, x = .str i ∧ y = .str j ∧ i.length + j.length ≤ sizeLine ∧ Q (.str (i ++ j)) H
theorem op_catS {X : Cx} : OpR X (binaryOp .Add) rCatS := op_add_str
end L2
namespace DL
open PySem PySem.Spec PyProof.Rows L2
section
variable {Z : Cs} {ρ : List En} {te ta : TE}
theorem we_ixOfS {Q : D → Prop} (h : Wb Z te ρ fun d => ∃ ns : List Str, d = .lst (ns.map .str) ∧ Wb Z ta ρ fun y => ∃ m : Str, y = .str m ∧ m ∈ ns ∧ Q (.int (ns.idxOf m))) : We Z (tBM Z.K "list" (rIndexS Z.K) te (tCons ta tNil)) ρ Q := we_indexS h
theorem od_catS {x y : Str} {Q : D → Prop} (l : x.length + y.length ≤ sizeLine) (q : Q (.str (x ++ y))) : OpD Z ρ rCatS (.str x) (.str y) Q := od_adds l q
end
end DL
namespace DL
open PySem PySem.Spec PyProof.Rows L2
/-- return a if c else b, told apart -/
theorem wc_retIf {Z : Cs} {ρ : List En} {P : Po} {tt : TT} {ta tb : TE} (h : Wt Z tt ρ fun b => (b = true → Wc Z (tRet ta) ρ P) ∧ (b = false → Wc Z (tRet tb) ρ P)) : Wc Z (tRet (tIf tt ta tb)) ρ P := fun r X σ H E F k1 k2 k3 k4 => h r X σ H E _ fun b H1 E1 f1 q => by
  cases b with
  | true => exact iteT ((q.1 rfl).run E1 f1.fr k1 k2 k3 k4)
  | false => exact iteF ((q.2 rfl).run E1 f1.fr k1 k2 k3 k4)
end DL
namespace DL
open PySem PySem.Spec PyProof.Rows L2
def Two {α β : Type} (R : α → β → Prop) : List α → List β → Prop
  | [], [] => True
  | x :: xs, y :: ys => R x y ∧ Two R xs ys
  | _, _ => False
theorem Two.snoc {α β : Type} {R : α → β → Prop} : ∀ {xs : List α} {ys : List β} {x : α} {y : β}, Two R xs ys → R x y → Two R (xs ++ [x]) (ys ++ [y])
  | [], [], _, _, _, h => ⟨h, trivial⟩
  | _ :: _, _ :: _, _, _, h, q => ⟨h.1, Two.snoc h.2 q⟩
  | [], _ :: _, _, _, h, _ => False.elim h
  | _ :: _, [], _, _, h, _ => False.elim h
theorem Two.len {α β : Type} {R : α → β → Prop} : ∀ {xs : List α} {ys : List β}, Two R xs ys → ys.length = xs.length
  | [], [], _ => rfl
  | _ :: _, _ :: _, h => by rw [List.length_cons, List.length_cons, Two.len h.2]
  | [], _ :: _, h => False.elim h
  | _ :: _, [], h => False.elim h
theorem Two.mem {α β : Type} {R : α → β → Prop} : ∀ {xs : List α} {ys : List β}, Two R xs ys → ∀ y ∈ ys, ∃ x ∈ xs, R x y
  | [], [], _, _, h => nomatch h
  | x :: xs, y :: ys, h, z, hz => by
    rcases List.mem_cons.mp hz with rfl | hz
    · exact ⟨x, by simp, h.1⟩
    · obtain ⟨w, hw, q⟩ := Two.mem h.2 z hz
      exact ⟨w, List.mem_cons_of_mem _ hw, q⟩
  | [], _ :: _, h, _, _ => False.elim h
  | _ :: _, [], h, _, _ => False.elim h
/-- a comprehension whose items are not told exactly -/
theorem lcD_rel {Z : Cs} {ρ : List En} {te : TE} {j : Nat} {α β : Type} {enc : α → D} {enc' : β → D} {R : α → β → Prop} {vs : List Nat} {Q : List D → Prop} {xs : List α}
    (h : ∀ x ∈ xs, ∀ Q' : D → Prop, (∀ y, R x y → Q' (enc' y)) → We Z te ((wipeE ρ vs).set j (.v (enc x))) Q') (q : ∀ ys : List β, Two R xs ys → Q (ys.map enc')) : LcD Z ρ vs j tYes te (xs.map enc) Q := by
  refine ⟨fun pre acc => ∃ (r : List α) (ys : List β), pre = r.map enc ∧ r.length ≤ xs.length ∧ r = xs.take r.length ∧ acc = ys.map enc' ∧ Two R r ys, ⟨[], [], rfl, by simp, rfl, rfl, trivial⟩, fun pre y post acc e ⟨r, l, e1, ll, e2, ha, hl⟩ _ => ?_, fun acc ⟨r, l, e1, ll, e2, ha, hl⟩ _ => ?_⟩
  · obtain ⟨p', x, qq, rfl, e3, rfl, e4⟩ := map_split e
    have e5 : r = p' := by
      have l2 : r.length = p'.length := by have := congrArg List.length e1; have := congrArg List.length e3; simp at *; omega
      rw [e2, l2, List.take_left' rfl]
    subst e5
    exact wt_yes ⟨fun _ => h x (by simp) _ fun y hy => ⟨r ++ [x], l ++ [y], by rw [e3, List.map_append]; rfl, by simp, tk r x qq, by rw [ha, List.map_append]; rfl, hl.snoc hy⟩, fun z => nomatch z⟩
  · have l2 : r.length = xs.length := by have := congrArg List.length e1; simpa using this.symm
    rw [l2, List.take_length] at e2
    subst e2
    rw [ha]
    exact q l hl
end DL
/-! DL36: a walk over a list, one turn of which raises. -/
namespace DL
open PySem PySem.Spec PyProof.Rows L2
section
variable {Z : Cs} {ρ : List En} {tl : TE} {ts : TS} {j : Nat} {W : WX} {er : Er} {Px : List En → Prop}
def ForX (Z : Cs) (ρ : List En) (j : Nat) (ts : TS) (ds : List D) (W : WX) (er : Er) (Px : List En → Prop) : Prop := ∃ (n0 : Nat) (I : List D → List En → Prop), n0 < ds.length ∧ I [] ρ ∧
      (∀ pre x post ρ', ds = pre ++ x :: post → pre.length < n0 → I pre ρ' → Wc Z ts (ρ'.set j (.v x)) { nx := I (pre ++ [x]) }) ∧ ∀ pre x post ρ', ds = pre ++ x :: post → pre.length = n0 → I pre ρ' → Wr Z W ts (ρ'.set j (.v x)) er Px
theorem wr_forL1 (h : We Z tl ρ fun d => ∃ ds, d = .lst ds ∧ ForX Z ρ j ts ds W er Px) :
    Wr Z W (tFor (iList Z.K tl) (gName j) ts) ρ er Px := fun r X σ H E kx F => h r X σ H E _ fun v d H1 E1 f1 b1 ⟨ds, e, n0, I, hn, I0, It, Ix⟩ => by
  subst e
  obtain ⟨a, ws, rfl, n3, h3, h4⟩ := rep_lst.mp b1
  have hl := h4.length
  refine ⟨a, rfl, ⟨ws, .of h3⟩, for_list (K := Z.K) (a := a) (xs := ws) (fun i σ' H' => i ≤ n0 ∧ ∃ ρ', Sv Z r X H' σ' ρ' ∧ Fr r σ ρ H1 σ' ρ' H' ∧ I (ds.take i) ρ') ⟨Nat.zero_le _, ρ, E1, Fr.refl, I0⟩ (fun i σ' H' hi ⟨_, ρ', E2, f2, _⟩ => .of (f2.fr a _ h3 (fun z => n3 (.inl z)) fun z => n3 (.inr (.inr z))).1) (fun i x σ' H' hi ⟨hz, ρ', E2, f2, hI⟩ => ?_) fun σ' H' ⟨hz, _⟩ => absurd hz (by omega)⟩
  obtain ⟨d, hd, hr⟩ := h4.get hi
  obtain ⟨p1, p2⟩ := take_pre hd
  have hi2 := (List.getElem?_eq_some_iff.mp hd).1
  have l1 : (ds.take i).length = i := by rw [List.length_take]; omega
  have f3 : Fr r σ' ρ' H' (σ'.set j (some x)) (ρ'.set j (.v d)) H' := fr_set rfl
  have f := (f1.fr.trans f2).trans f3
  have E3 := E2.setv (i := j) (hr.mv f2.mv)
  by_cases c : i < n0
  · refine It (ds.take i) d _ ρ' p1 (by omega) hI r X _ H' E3 _ (fun σ4 ρ4 H4 E4 f4 q => ⟨by omega, ρ4, E4, (f2.trans f3).trans f4, ?_⟩) (fun _ _ _ _ _ _ _ _ q => False.elim q) (fun _ _ _ _ _ _ _ _ _ _ _ q => False.elim q) (fun _ _ _ _ _ _ _ _ _ q => False.elim q)
    rw [p2]
    exact q
  · exact (Ix (ds.take i) d _ ρ' p1 (by omega) hI).run E3 f kx
theorem forX_fn {α : Type} {enc : α → D} {xs : List α} (vs : List Nat) (R : List α → List En) (n0 : Nat) (hn : n0 < xs.length) (h0 : R [] = ρ) (hs : ∀ pre x post, xs = pre ++ x :: post → pre.length < n0 → Wc Z ts ((R pre).set j (.v (enc x))) { nx := fun ρ3 => wipeE ρ3 vs = R (pre ++ [x]) })
    (hx : ∀ pre x post, xs = pre ++ x :: post → pre.length = n0 → Wr Z W ts ((R pre).set j (.v (enc x))) er Px) : ForX Z ρ j ts (xs.map enc) W er Px := by
  refine ⟨n0, fun pre ρ' => ∃ p, pre = p.map enc ∧ p.length ≤ xs.length ∧ p = xs.take p.length ∧ ρ' = R p, by rw [List.length_map]; exact hn, ⟨[], rfl, by simp, rfl, h0.symm⟩, fun pre y post ρ' e l ⟨p, e1, l1, e2, hI⟩ => ?_, fun pre y post ρ' e l ⟨p, e1, l1, e2, hI⟩ => ?_⟩
  · obtain ⟨p', x, q, rfl, e3, rfl, e4⟩ := map_split e
    have e5 : p = p' := by
      have l2 : p.length = p'.length := by have := congrArg List.length e1; have := congrArg List.length e3; simp at *; omega
      rw [e2, l2, List.take_left' rfl]
    subst e5
    subst hI
    rw [e1, List.length_map] at l
    refine wc_post vs ((hs p x q rfl l).imp (fun ρ3 z => ⟨p ++ [x], by rw [e3, List.map_append]; rfl, by simp, tk p x q, z⟩) (fun _ z => z) (fun _ z => z) fun _ z => z)
  · obtain ⟨p', x, q, rfl, e3, rfl, e4⟩ := map_split e
    have e5 : p = p' := by
      have l2 : p.length = p'.length := by have := congrArg List.length e1; have := congrArg List.length e3; simp at *; omega
      rw [e2, l2, List.take_left' rfl]
    subst e5
    subst hI
    rw [e1, List.length_map] at l
    exact hx p x q rfl l
theorem wr_forRf {ta : TA} (h : Wab Z ta ρ fun ds => ∃ n : Int, ds = [.int n] ∧ n ≤ 16777216 ∧ -16777216 ≤ n ∧ ∃ (n0 : Nat) (vs : List Nat) (R : Nat → List En), n0 < n.toNat ∧ R 0 = ρ ∧
      (∀ i, i < n0 → Wc Z ts ((R i).set j (.v (.int (i : Int)))) { nx := fun ρ3 => wipeE ρ3 vs = R (i + 1) }) ∧ Wr Z W ts ((R n0).set j (.v (.int (n0 : Int)))) er Px) : Wr Z W (tFor (iRng1 ta) (gName j) ts) ρ er Px := by
  refine wr_forR1 fun r X σ H E k hk => h r X σ H E k fun vs ds H' E' f b ⟨n, e, z1, z2, n0, ws, R, hn, h0, hs, hx⟩ => hk vs ds H' E' f b ⟨n, e, z1, z2, n0, fun i ρ' => ρ' = R i, hn, h0.symm, fun i ρ' hi hI => ?_, fun ρ' hI => ?_⟩
  · subst hI
    exact wc_post ws (hs i hi)
  · subst hI
    exact hx
theorem wr_cut {tu : TS} (M : List En → Prop) (h1 : Wc Z ts ρ { nx := M }) (h2 : ∀ ρ', M ρ' → Wr Z W tu ρ' er Px) : Wr Z W (tSeq ts tu) ρ er Px := wr_seq2 (h1.imp h2 (fun _ z => z) (fun _ z => z) fun _ z => z)
theorem wr_freeze {ds : List D} (i : Nat) (h : ρ[i]? = some (.l ds)) (q : Wr Z W ts (ρ.set i (.v (.lst ds))) er Px) : Wr Z W ts ρ er Px := fun r X σ H E kx F => q.run (E.freeze h) (fr_less rfl) kx
end
end DL
namespace L2
open PySem PySem.Spec PyProof.Rows
/-- the signs of a text, a list -/
def sgnsV (z : Str) : List V := z.cps.toList.map fun c => V.str ⟨#[c]⟩
def rListS : List V → Hp → VK → Prop := fun xs H Q => ∃ z : Str, xs = [.str z] ∧ z.length ≤ sizeLine ∧ ∀ l, H l = none → Q (.ref l) (upd H l (.lst (sgnsV z)))
theorem cr_listS {X : Cx} (hc : X.calm = true) : CallR X (.type "list") rListS := by
  intro pins s σ H xs us Q I r h
  obtain ⟨z, rfl, hz, q⟩ := h
  obtain ⟨u, rfl, t, rfl⟩ := vals1 r
  refine call_list_str (I.ok.hd hc) z t (fun h' tk acc c' kp e it => ?_) hz
  have hl : (sgnsV z).length = z.cps.size := by unfold sgnsV; simp
  have rv : Vals (sgnsV z) acc.toList := vals_of_idx _ _ (by rw [hl, Array.length_toList]; exact it.1) fun j u hu => by
    obtain ⟨c, k, hc, rfl⟩ := it.2 j u (by rw [← Array.getElem?_toList]; exact hu)
    refine ⟨.str ⟨#[c]⟩, ?_, k, rfl⟩
    unfold sgnsV
    rw [List.getElem?_map, Array.getElem?_toList, hc]
    rfl
  exact ⟨.ref s.heap.objs.size, _, I.laid (t' := tk) kp (Nat.le_refl _) (show ObjOk X.prog X.w _ h' _ (.lst (sgnsV z)) from ⟨by rw [hl]; exact hz, acc.toList, c', rv, e⟩), rfl, q _ (I.hok.fresh (Nat.le_refl _))⟩
end L2
namespace DL
open PySem PySem.Spec PyProof.Rows L2
theorem cl_listS {Z : Cs} {ρ : List En} {Q : List D → Prop} {z : Str} (l : z.length ≤ sizeLine) (q : Q ((z.cps.toList.map fun c => (⟨#[c]⟩ : Str)).map .str)) : CbL Z ρ rListS [.str z] Q := fun r X σ H vs E h k hk => by
  obtain ⟨v, rfl, b⟩ := h.one
  have e := b.str
  subst e
  refine ⟨z, rfl, l, fun p hp => hk p _ _ _ hp (E.put hp) (Fx.same (same_upd hp)) upd_same ?_ q⟩
  have e : sgnsV z = (z.cps.toList.map fun c => (⟨#[c]⟩ : Str)).map V.str := by unfold sgnsV; rw [List.map_map]; rfl
  rw [e]
  exact repL_strs.mpr rfl
end DL
/-! DL37: lambdas that are kept: made, tracked, called with cells whose maker is gone. -/
namespace LamY
open PySem PySem.Spec PyProof.Rows L2 LamX NdefX
/-- a lambda's words, the cells that it captured, its code object -/
structure LmW where
  qual : Str
  params : Arguments
  body : Expr
  scope : Scope
  cl : List (Str × Addr)
  c : Addr
abbrev LmW.nf (F : LmW) : NF := ⟨"<lambda>", F.qual, F.params, [], F.scope, F.cl, F.c⟩
abbrev LmW.ob (F : LmW) (pm ctv : Value) : Obj := PySem.W.kla_obj "<lambda>" F.qual F.params F.body F.scope F.cl pm F.c ctv
/-- the object at f is the lambda F -/
def LamO (f : Addr) (F : LmW) : HO := .ext fun h => ∃ pm ctv : Value, h.get? f = some (F.ob pm ctv)
/-- the cell at c holds v -/
def CellO (c : Addr) (v : V) : HO := .ext fun h => ∃ u : Value, L2.RelV v u ∧ h.IsCell c (some u)
section
variable {P : Program} {w : World} {H : Hp} {h : Heap} {f c : Addr} {F : LmW} {v : V}
theorem lamO_at (hok : HOk P w H h) (e : H f = some (LamO f F)) : ∃ pm ctv : Value, h.get? f = some (F.ob pm ctv) := by
  obtain ⟨z, _, _⟩ := hok f _ e
  exact z
theorem cellO_at (hok : HOk P w H h) (e : H c = some (CellO c v)) : ∃ u : Value, L2.RelV v u ∧ h.IsCell c (some u) := by
  obtain ⟨z, _, _⟩ := hok c _ e
  exact z
theorem cellO_new (z : ∃ u : Value, L2.RelV v u ∧ h.IsCell c (some u)) : ObjOk P w H h c (CellO c v) := by
  have z' := z
  obtain ⟨u, r, o, e, d⟩ := z
  exact ⟨z', ⟨o, e⟩, fun h1 h2 ⟨u, r, o, e, d⟩ k => ⟨u, r, o, k _ e, d⟩⟩
end
section
variable {X : Cx} {pins : List (Addr × Obj)} {σ : L2.St} {H : Hp} {s : Shared}
theorem inv_lam {F : LmW} {t' : Nat} {pm ctv : Value} (I : Inv X pins σ H s) : Inv X pins σ (upd H s.heap.objs.size (LamO s.heap.objs.size F)) { s with heap := s.heap.push (F.ob pm ctv), toks := t' } := by
  refine I.laid (a := s.heap.objs.size) (fun b u e => Heap.get?_push_of_some _ e) (Nat.le_refl _) ?_
  have e : (s.heap.push (F.ob pm ctv)).get? s.heap.objs.size = some (F.ob pm ctv) := Heap.get?_push_size _ rfl
  exact ⟨⟨pm, ctv, e⟩, ⟨_, e⟩, fun h1 h2 ⟨p, t, z⟩ st => ⟨p, t, st _ z⟩⟩
/-- the lambda is made, and known from now on -/
theorem lam_keep {T : List (Addr × Str)} {c P : Addr} {params : Arguments} {body : Expr} {scope : Scope} {pos : Pos} {E : Value → Shared → Prop} {Q : Value → Shared → Prop} (I : Inv X pins σ H s) (TB : TabB X.base X.mg c P) (hcode : X.env.code = .ref c)
    (hm : (P, X.env.qual ++ "<lambda>") ∈ T) (hu : ∀ p ∈ T, p.1 = P → p.2 = X.env.qual ++ "<lambda>") (hT : Tabs T H) (hdef : defaultsOf params X.env = ([], [])) (hfree : ∀ y ∈ scope.names, y.2 = .free → ∃ c, X.env.cells.lookup y.1 = some c)
    (k : ∀ (f c' : Addr) (H1 : Hp) (s' : Shared), Inv X pins σ H1 s' → ExtN H H1 → (∀ b, H1 b = Option.none → H b = Option.none) → Tabs T H1 → H f = none →
      H1 f = some (LamO f ⟨X.env.qual ++ "<lambda>", params, body, scope, cloFrom X.env.cells scope.names [], c'⟩) → H1 c' = some (CodeO c' (X.env.qual ++ "<lambda>")) → Q (.ref f) s') :
    wpAny (model X.prog X.w) X.A (eval (.Lambda params body scope pos) X.env) Q E s := by
  obtain ⟨ps, hP, ht, ha⟩ := hT _ hm
  refine PySem.W.kla_eval hdef ?_
  have bP : s.heap.BuiltinsAt X.mg P := TB.bm.keeps I.bk
  have oP : s.heap.get? P = some { cls := .none, data := .fields ps } := I.hok P _ hP
  cases hc : codeAmong pos ps.toList with
  | none =>
    refine PySem.W.kla_makeFunction (mg := X.mg) (c := c) (P := P) (ps := ps) (closure_ok hfree) I.ok.glob (I.mod.glob.keeps I.bk) hcode (TB.code.keeps I.bk) oP ht hc TB.gP bP fun c' ctv h' tk hx hge hlt hrec htb => ?_
    obtain ⟨c2, oc, vs, t, e2, hoc, hd, hv⟩ := hrec
    cases e2
    have nC : H c' = none := I.hok.fresh hge
    have I1 := inv_table (t' := tk) (more := #[rawInt pos.line, rawInt pos.col, .ref c']) (h' := h') I hP (fun b o hb e => hx b o hb e) htb hge ⟨oc, vs, t, hoc, hd, hv⟩
    have hE : ExtN H (upd (upd H P (.tbl (ps ++ #[rawInt pos.line, rawInt pos.col, .ref c']))) c' (CodeO c' (X.env.qual ++ "<lambda>"))) := fun b o e n => by
      rw [upd_ne (ne_of_none e nC), upd_ne (fun z => n ps (Option.some.inj (e.symm.trans (by rw [z]; exact hP))))]
      exact e
    have eL : (ps ++ #[rawInt pos.line, rawInt pos.col, .ref c']).toList = ps.toList ++ [rawInt pos.line, rawInt pos.col, .ref c'] := by simp
    have T1 : Tabs T (upd (upd H P (.tbl (ps ++ #[rawInt pos.line, rawInt pos.col, .ref c']))) c' (CodeO c' (X.env.qual ++ "<lambda>"))) := fun p hp => by
      by_cases hb : p.1 = P
      · rw [hu p hp hb, hb]
        refine ⟨_, by rw [upd_ne (ne_of_none hP nC), upd_same], by rw [eL]; exact PySem.TriplesOk_snoc _ _ _ _ ht, fun p' cv hcv => ?_⟩
        rw [eL] at hcv
        rcases among_app _ ht hcv with z | z
        · obtain ⟨c0, e1, e2⟩ := ha p' cv z
          exact ⟨c0, e1, hE _ _ e2 codeO_ne⟩
        · exact ⟨c', z, upd_same⟩
      · obtain ⟨ps', a1, a2, a3⟩ := hT p hp
        refine ⟨ps', by rw [upd_ne (ne_of_none a1 nC), upd_ne hb]; exact a1, a2, fun p' cv hcv => ?_⟩
        obtain ⟨c0, e1, e2⟩ := a3 p' cv hcv
        exact ⟨c0, e1, hE _ _ e2 codeO_ne⟩
    have nF := I1.hok.fresh (Nat.le_refl _)
    have I2 := inv_lam (F := ⟨X.env.qual ++ "<lambda>", params, body, scope, cloFrom X.env.cells scope.names [], c'⟩) (t' := tk) (pm := (X.mg "__name__").getD .none) (ctv := ctv) I1
    refine k h'.objs.size c' _ _ I2 (fun b o e n => ?_) (fun b e => upd_none (upd_none (upd_none e))) (T1.ext fun b o e => ?_) (I.hok.fresh (Nat.le_trans hge (Nat.le_of_lt hlt))) upd_same ?_
    · exact (upd_ne (ne_of_none (hE b o e n) nF)).trans (hE b o e n)
    · exact (upd_ne (ne_of_none e nF)).trans e
    · exact (upd_ne (Nat.ne_of_lt hlt)).trans upd_same
  | some cv =>
    obtain ⟨c', e, hco⟩ := ha pos cv hc
    subst e
    refine PySem.W.kla_makeFunctionHit (mg := X.mg) (c := c) (P := P) (ps := ps) (closure_ok hfree) I.ok.glob (I.mod.glob.keeps I.bk) hcode (TB.code.keeps I.bk) oP ht hc bP fun ctv h' tk hx hsz => ?_
    have I1 : Inv X pins σ H { s with heap := h', toks := tk } := I.kept hx
    have nF : H h'.objs.size = none := I1.hok.fresh (Nat.le_refl _)
    have I2 := inv_lam (F := ⟨X.env.qual ++ "<lambda>", params, body, scope, cloFrom X.env.cells scope.names [], c'⟩) (t' := tk) (pm := (X.mg "__name__").getD .none) (ctv := ctv) I1
    refine k h'.objs.size c' _ _ I2 (fun b o e n => ?_) (fun b e => upd_none e) (hT.ext fun b o e => ?_) nF upd_same ?_
    · exact (upd_ne (ne_of_none e nF)).trans e
    · exact (upd_ne (ne_of_none e nF)).trans e
    · exact (upd_ne (ne_of_none hco nF)).trans hco
/-- lambda: body, as a value -/
def tLamV (T : List (Addr × Str)) (mk : Addr → LmW) : TE := fun σ H Q => Tabs T H ∧ ∀ (f c' : Addr) (H1 : Hp), ExtN H H1 → (∀ b, H1 b = Option.none → H b = Option.none) → Tabs T H1 → H f = none → H1 f = some (LamO f (mk c')) → H1 c' = some (CodeO c' (mk c').qual) → Q (.ref f) H1
theorem pe_lamV {T : List (Addr × Str)} {c P : Addr} {params : Arguments} {body : Expr} {scope : Scope} {pos : Pos} (TB : TabB X.base X.mg c P) (hcode : X.env.code = .ref c)
    (hm : (P, X.env.qual ++ "<lambda>") ∈ T) (hu : ∀ p ∈ T, p.1 = P → p.2 = X.env.qual ++ "<lambda>") (hdef : defaultsOf params X.env = ([], [])) (L : LamS X.env.scope scope) :
    PE X (.Lambda params body scope pos) (tLamV T fun c' => ⟨X.env.qual ++ "<lambda>", params, body, scope, cloFrom X.env.cells scope.names [], c'⟩) := by
  refine ⟨fun pins s σ H Q I ⟨hT, h⟩ => ?_⟩
  exact lam_keep I TB hcode hm hu hT hdef (L.has I.ok) fun f c' H1 s' I1 e1 e2 T1 nf hf hc => ⟨.ref f, H1, I1, rfl, h f c' H1 e1 e2 T1 nf hf hc⟩
end
/-! ### the lambda called -/
section
variable {P : Program} {w : World} {K : PySem.W.Frag} {mg : Str → Option Value} {base : Heap} {N fr : List Str} {F : LmW} {f : Addr} {k : Nat} {tb : XK → TE}
theorem lam_run (S : NScope N [] fr F.scope) (hbind : ∀ (q : Str) (cl : List (Str × Addr)) (pm cv ctv : Value), bindArgs (PySem.W.kla_fn "<lambda>" q F.params F.body F.scope cl pm cv ctv) ⟨[], []⟩ = pure [])
    (hbody : ∀ (A : Around) (outer : List Env) (s : Shared) (H : Hp) (E : XK), Room k (A.deeper (envF F.nf f s.heap.objs.size)) → PE (ncx (L2.CX P w) P w K mg base N F.nf f A outer s H E) F.body (tb E))
    {A : Around} {outer : List Env} {s : Shared} {H : Hp} {ws : List (Option V)} {Q : VK} {E : XK} (hr : Room (k + 1) A) (e0 : Env0 P w K mg base A outer s H) (hf : ∃ pm ctv : Value, s.heap.get? f = some (F.ob pm ctv)) (hc : s.heap.CodeRec (.ref F.c) F.qual)
    (C : CellsAt F.cl fr ws s.heap H) (h : tb E (startF N [] ws) H Q) : codeAny (model P w) A (.call (.ref f) ⟨[], []⟩) (CR (L2.CX P w) outer P w H s Q E) s := by
  obtain ⟨pm, ctv, ho⟩ := hf
  have lim : s.heap.NoLimit := e0.mod.nolimit.keeps fun b o e => (e0.bs b o e).1
  refine PySem.W.kla_callFunE hr.depth ho rfl S.co S.gen rfl hc ?_
  rw [show bindArgs (PySem.W.kla_fn "<lambda>" F.qual F.params F.body F.scope F.cl pm (.ref F.c) ctv) ⟨[], []⟩ = pure [] from hbind _ _ _ _ _]
  refine wpAny_pure (wpAny_newFunctionEnv S.nocell (fun y hy => absurd hy (by simp)) (fun h₁ hns hsb => ⟨lim.fresh _ hsb, ?_⟩) S.kind)
  show codeAny _ _ (.expr F.body (envF F.nf f s.heap.objs.size)) _ _
  have kp : ∀ b o, s.heap.get? b = some o → h₁.get? b = some o := fun b o e => hsb.extBut b o (Nat.ne_of_lt (Heap.lt_size e)) (Heap.get?_push_of_some _ e)
  have I : Inv (ncx (L2.CX P w) P w K mg base N F.nf f A outer s H E) [] (startF N [] ws) H { s with heap := h₁, toks := s.toks + ([] : List (Str × Value)).length } := inv_startN (ps := []) (us := []) (vs := []) S hr.hd e0 rfl .nil C hns kp
  refine PySem.W.kla_codeExpr (wpAny_mono ((hbody A outer s H E (hr.deeper _)).run [] _ (startF N [] ws) H Q I h) (fun v s' hq => ?_) fun e s' hq => hq)
  obtain ⟨w', H', J, rv, q⟩ := hq
  exact ⟨w', H', J.os, J.bare, J.base, J.hok, rv, q⟩
end
/-! ### cells: tracked outside, not within -/
/-- H without two cells; with them -/
def offC (H : Hp) (c1 c2 : Addr) : Hp := fun b => if b = c1 ∨ b = c2 then none else H b
def onC (H : Hp) (c1 c2 : Addr) (v1 v2 : V) : Hp := fun b => if b = c1 then some (CellO c1 v1) else if b = c2 then some (CellO c2 v2) else H b
section
variable {P : Program} {w : World} {K : PySem.W.Frag} {mg : Str → Option Value} {base : Heap} {H H' : Hp} {c1 c2 b : Addr} {v1 v2 : V} {A : Around} {outer : List Env} {s s' : Shared} {h : Heap} {o : HO}
theorem offC_1 : offC H c1 c2 c1 = none := by unfold offC; rw [if_pos (.inl rfl)]
theorem offC_2 : offC H c1 c2 c2 = none := by unfold offC; rw [if_pos (.inr rfl)]
theorem offC_ne (n1 : b ≠ c1) (n2 : b ≠ c2) : offC H c1 c2 b = H b := by unfold offC; rw [if_neg (fun z => z.elim n1 n2)]
theorem offC_some (e : offC H c1 c2 b = some o) : b ≠ c1 ∧ b ≠ c2 ∧ H b = some o := by
  unfold offC at e
  split at e
  · cases e
  · rename_i n
    exact ⟨fun z => n (.inl z), fun z => n (.inr z), e⟩
theorem offC_none (e : H b = none) : offC H c1 c2 b = none := by
  unfold offC
  split
  · rfl
  · exact e
theorem onC_1 : onC H c1 c2 v1 v2 c1 = some (CellO c1 v1) := by unfold onC; rw [if_pos rfl]
theorem onC_2 (n : c1 ≠ c2) : onC H c1 c2 v1 v2 c2 = some (CellO c2 v2) := by unfold onC; rw [if_neg (Ne.symm n), if_pos rfl]
theorem onC_ne (n1 : b ≠ c1) (n2 : b ≠ c2) : onC H c1 c2 v1 v2 b = H b := by unfold onC; rw [if_neg n1, if_neg n2]
structure Two (H : Hp) (c1 c2 : Addr) (v1 v2 : V) : Prop where
  ne : c1 ≠ c2
  h1 : H c1 = some (CellO c1 v1)
  h2 : H c2 = some (CellO c2 v2)
theorem Two.not (t : Two H c1 c2 v1 v2) (e : H b = some o) (n : ∀ φ, o ≠ .ext φ) : b ≠ c1 ∧ b ≠ c2 := by
  refine ⟨fun z => ?_, fun z => ?_⟩
  · rw [z, t.h1] at e
    exact n _ (Option.some.inj e).symm
  · rw [z, t.h2] at e
    exact n _ (Option.some.inj e).symm
theorem Two.off (t : Two H c1 c2 v1 v2) (e : H b = some o) (n : ∀ φ, o ≠ .ext φ) : offC H c1 c2 b = some o := by
  obtain ⟨n1, n2⟩ := t.not e n
  rw [offC_ne n1 n2]
  exact e
theorem Two.no (t : Two H c1 c2 v1 v2) (e : H b = none) : b ≠ c1 ∧ b ≠ c2 := ⟨fun z => (by rw [z, t.h1] at e; cases e), fun z => (by rw [z, t.h2] at e; cases e)⟩
theorem hok_off (t : Two H c1 c2 v1 v2) (k : HOk P w H h) : HOk P w (offC H c1 c2) h := fun b u e => by
  obtain ⟨n1, n2, e'⟩ := offC_some e
  exact (k b u e').stay (fun _ _ _ q => q) (fun d q => t.off q fun φ z => nomatch z) fun d xs q => t.off q fun φ z => nomatch z
theorem hok_on (k : HOk P w H' h) (n1 : H' c1 = none) (n2 : H' c2 = none) (i1 : ∃ u : Value, L2.RelV v1 u ∧ h.IsCell c1 (some u)) (i2 : ∃ u : Value, L2.RelV v2 u ∧ h.IsCell c2 (some u)) : HOk P w (onC H' c1 c2 v1 v2) h := fun b u e => by
  by_cases e1 : b = c1
  · subst e1
    rw [onC_1] at e
    cases e
    exact cellO_new i1
  · by_cases e2 : b = c2
    · subst e2
      rw [onC_2 (Ne.symm e1)] at e
      cases e
      exact cellO_new i2
    · rw [onC_ne e1 e2] at e
      have ne : ∀ {d : Addr} {o : HO}, H' d = some o → onC H' c1 c2 v1 v2 d = some o := fun {d o} q => by
        rw [onC_ne (fun z => by rw [z, n1] at q; cases q) (fun z => by rw [z, n2] at q; cases q)]
        exact q
      exact (k b u e).stay (fun _ _ _ q => q) (fun d q => ne q) fun d xs q => ne q
theorem env0_off (t : Two H c1 c2 v1 v2) (e : Env0 P w K mg base A outer s H) : Env0 P w K mg base A outer s (offC H c1 c2) :=
  ⟨e.frames, e.mod, fun b o q => ⟨(e.bs b o q).1, offC_none (e.bs b o q).2⟩, e.bsz, e.funs, fun b q => offC_none (e.frf b q), hok_off t e.hok, e.bare⟩
theorem cell_any {fs : List Addr} {c : Addr} {v : V} (un : Un fs [] (offC H c1 c2) H' s.heap s'.heap) (n : offC H c1 c2 c = none) (i : ∃ u : Value, L2.RelV v u ∧ s.heap.IsCell c (some u)) : H' c = none ∧ ∃ u : Value, L2.RelV v u ∧ s'.heap.IsCell c (some u) := by
  obtain ⟨u, r, o, e, d⟩ := i
  obtain ⟨sl, q⟩ := un.any e n (by simp)
  exact ⟨un.free c o e n (by simp), u, r, _, q, d⟩
/-- what comes back, told with the cells -/
theorem ce_on {Q Q' : VK} {u : Value} (t : Two H c1 c2 v1 v2) (e0 : Env0 P w K mg base A outer s H) (hQ : ∀ v H', H' c1 = none → H' c2 = none → Q' v H' → Q v (onC H' c1 c2 v1 v2)) (x : CE outer P w (offC H c1 c2) s Q' u s') : CE outer P w H s Q u s' := by
  obtain ⟨v, H', os, ba, un, hok, rv, q⟩ := x
  obtain ⟨n1, i1⟩ := cell_any un offC_1 (cellO_at e0.hok t.h1)
  obtain ⟨n2, i2⟩ := cell_any un offC_2 (cellO_at e0.hok t.h2)
  have ne : ∀ {d : Addr} {o : HO}, H' d = some o → onC H' c1 c2 v1 v2 d = some o := fun {d o} q => by
    rw [onC_ne (fun z => by rw [z, n1] at q; cases q) (fun z => by rw [z, n2] at q; cases q)]
    exact q
  refine ⟨v, _, os, ba, ⟨fun b o e n hb hx => un.keep b o e (offC_none n) hb hx, fun b o e n hb hx => un.slot b o e (offC_none n) hb hx, fun b o e n hx => ?_, un.there, fun b xs e => ne (un.tups b xs (t.off e fun φ z => nomatch z)), fun b o u e => ne (un.frzs b o u (t.off e fun φ z => nomatch z)), fun b ps e => ?_⟩, hok_on hok n1 n2 i1 i2, rv, hQ v H' n1 n2 q⟩
  · obtain ⟨m1, m2⟩ := t.no n
    rw [onC_ne m1 m2]
    exact un.free b o e (offC_none n) hx
  · obtain ⟨more, q⟩ := un.tbls b ps (t.off e fun φ z => nomatch z)
    exact ⟨more, ne q⟩
theorem cx_on {E E' : XK} {u : Value} (t : Two H c1 c2 v1 v2) (e0 : Env0 P w K mg base A outer s H) (hE : ∀ cls d H', H' c1 = none → H' c2 = none → E' cls d H' → E cls d (onC H' c1 c2 v1 v2)) (x : L2.CX P w outer (offC H c1 c2) s E' u s') : L2.CX P w outer H s E u s' := by
  obtain ⟨a, B, H', cls, d, rfl, fl, hok, ub, na, os, ba, q⟩ := x
  have cellB : ∀ {c : Addr} {v : V}, H c = some (CellO c v) → offC H c1 c2 c = none → H' c = none ∧ ∃ u : Value, L2.RelV v u ∧ B.IsCell c (some u) := fun {c v} e n => by
    obtain ⟨u, r, o, eo, d⟩ := cellO_at e0.hok e
    have nf : c ∉ frs outer := fun z => by
      rw [e0.frf c z] at e
      cases e
    exact ⟨ub.free c o eo n, u, r, o, ub.keep c o eo n nf, d⟩
  obtain ⟨n1, i1⟩ := cellB t.h1 offC_1
  obtain ⟨n2, i2⟩ := cellB t.h2 offC_2
  have ne : ∀ {d : Addr} {o : HO}, H' d = some o → onC H' c1 c2 v1 v2 d = some o := fun {d o} q => by
    rw [onC_ne (fun z => by rw [z, n1] at q; cases q) (fun z => by rw [z, n2] at q; cases q)]
    exact q
  have aB : ∀ {c : Addr} {v : V}, (∃ u : Value, L2.RelV v u ∧ B.IsCell c (some u)) → a ≠ c := fun {c v} ⟨_, _, o, e, _⟩ z => by
    have := fl.2.1
    rw [z, e] at this
    cases this
  refine ⟨a, B, _, cls, d, rfl, fl, hok_on hok n1 n2 i1 i2, ⟨fun b o e n hb => ub.keep b o e (offC_none n) hb, ub.slot, fun b o e n => ?_, ub.there, fun b xs e => ne (ub.tups b xs (t.off e fun φ z => nomatch z)), fun b o u e => ne (ub.frzs b o u (t.off e fun φ z => nomatch z)), fun b ps e => ?_⟩, ?_, os, ba, hE _ _ _ n1 n2 q⟩
  · obtain ⟨m1, m2⟩ := t.no n
    rw [onC_ne m1 m2]
    exact ub.free b o e (offC_none n)
  · obtain ⟨more, q⟩ := ub.tbls b ps (t.off e fun φ z => nomatch z)
    exact ⟨more, ne q⟩
  · rw [onC_ne (aB i1) (aB i2)]
    exact na
end
end LamY
/-! DL38: a def that tells a list of lambdas; a lambda that is kept, called. -/
namespace LamY
open PySem PySem.Spec PyProof.Rows L2 LamX NdefX
section
variable {X : Cx} {st : Stmt} {rest : List Stmt} {t1 : TS} {t2 t : (Addr → L2.St → Hp → Prop) → L2.St → Hp → Prop}
/-- a block that ends by telling the list that a name holds; what the slots hold then is known -/
structure PSsR (X : Cx) (ss : List Stmt) (t : (Addr → L2.St → Hp → Prop) → L2.St → Hp → Prop) : Prop where
  run : ∀ (pins : List (Addr × Obj)) (s : Shared) (σ : L2.St) (H : Hp) (Fin : Addr → L2.St → Hp → Prop), Inv X pins σ H s → t Fin σ H →
    wpAny (model X.prog X.w) X.A (execs ss X.env) (fun fl s' => ∃ (l : Addr) (σ' : L2.St) (H' : Hp), fl = .ret (.ref l) ∧ Inv X pins σ' H' s' ∧ Fin l σ' H') X.xe s
theorem pssr_cons (h1 : PS X st t1) (h2 : PSsR X rest t2) : PSsR X (st :: rest) fun Fin σ H => t1 { nx := t2 Fin, rt := fun _ _ => False } σ H := by
  refine ⟨fun pins s σ H Fin I h => wpAny_execs_cons (thn (h1.run pins s σ H { nx := t2 Fin, rt := fun _ _ => False } I h) fun fl s1 q => ?_)⟩
  cases fl with
  | next =>
    obtain ⟨σ', H', I', q⟩ := q
    exact h2.run pins s1 σ' H' Fin I' q
  | ret v => obtain ⟨_, _, _, _, _, z⟩ := q; exact z.elim
  | brk => obtain ⟨_, _, _, z⟩ := q; exact z.elim
  | cont => obtain ⟨_, _, _, z⟩ := q; exact z.elim
theorem pssr_ret {x : Str} {i : Nat} {p p2 : Pos} (h : PE X (.Name x p) (tVar i)) : PSsR X [.Return (some (.Name x p)) p2] fun Fin σ H => ∃ l : Addr, σ[i]? = some (some (.ref l)) ∧ Fin l σ H := by
  refine ⟨fun pins s σ H Fin I ⟨l, e, f⟩ => wpAny_execs_cons (wpAny_Return_some (thn (h.run pins s σ H (fun v H1 => v = .ref l ∧ H1 = H) I ⟨.ref l, e, rfl, rfl⟩) fun v s1 ⟨x, H1, I1, r1, q1, q2⟩ => ?_))⟩
  subst q1
  subst q2
  cases r1
  exact ⟨l, σ, H1, rfl, I1, f⟩
theorem PSsR.nox {ss : List Stmt} (h : PSsR X.nox ss t) : PSsR X ss t := ⟨fun pins s σ H Fin I hw =>
  wpAny_mono (h.run pins s σ H Fin (I.wish _) hw) (fun fl s' ⟨l, σ', H', e, J, q⟩ => ⟨l, σ', H', e, J.unwish, q⟩) fun _ _ z => False.elim z⟩
end
/-- a def that tells lambdas which keep its first two names' cells: these are tracked behind it -/
theorem fn_ofC {P : Program} {w : World} {K : PySem.W.Frag} {mg : Str → Option Value} {base : Heap} {k : Nat} {f : Addr} {name qual : Str} {params : Arguments} {body : List Stmt} {scope : Scope} {dV kV doc pm cdv ct oc : Value} {an od : Option Addr}
    {osl : Array (Option Value)} {N ps : List Str} {sp : Sp} (lk : K.lookup f = some ⟨oc, od, .func (PySem.W.fnOf name qual params body scope dV kV doc pm an cdv ct), osl⟩) (hcd : PySem.W.codeIn K cdv qual = true) (S : FnScope N ps scope)
    (len : ∀ vs H Q E, sp vs H Q E → vs.length = ps.length) {y1 y2 : Str} (m1 : N[0]? = some y1) (m2 : N[1]? = some y2) (k1 : scope.names.lookup y1 = some .cell) (k2 : scope.names.lookup y2 = some .cell) (ne : y1 ≠ y2)
    (hbody : ∀ (A : Around) (outer : List Env) (s : Shared) (H : Hp) (vs : List V) (Q : VK) (E : XK), Room k (A.deeper (envOfC qual scope s.heap.objs.size f cdv)) → sp vs H Q E →
      ∃ t Fin, PSsR (cxOf CX0 P w K mg base N qual scope f cdv A outer s H E).nox body t ∧ t Fin (L2.start N vs) H ∧ ∀ (l : Addr) (σ' : L2.St) (H' : Hp) (c1 c2 : Addr), Fin l σ' H' → (cellsFrom (s.heap.objs.size + 1) scope.names []).lookup y1 = some c1 → (cellsFrom (s.heap.objs.size + 1) scope.names []).lookup y2 = some c2 →
        c1 ≠ c2 → H' c1 = none → H' c2 = none → ∃ v1 v2 : V, σ'[0]? = some (some v1) ∧ σ'[1]? = some (some v2) ∧ Q (.ref l) (onC H' c1 c2 v1 v2)) :
    FnOk P w K mg base CX0 (k + 1) f (PySem.W.fnOf name qual params body scope dV kV doc pm an cdv ct) ps sp := by
  refine ⟨len, fun A outer s H args us vs Q E hr e0 hb r hsp => ?_⟩
  have hl := len _ _ _ _ hsp
  have KX : K.In s.heap := e0.mod.kin.keeps fun b o e => (e0.bs b o e).1
  have lim : s.heap.NoLimit := e0.mod.nolimit.keeps fun b o e => (e0.bs b o e).1
  have hkind : ∀ y ∈ ps.zip us, scope.names.lookup y.1 = some .local ∨ (scope.names.lookup y.1 = some .cell ∧ ((cellsFrom (s.heap.objs.size + 1) scope.names []).lookup y.1).isSome = true) := fun ⟨n, v⟩ hy => by
    rcases S.par n (List.of_mem_zip hy).1 with q | q
    · exact .inl q
    · exact .inr ⟨q, PySem.W.cellsFrom_some _ _ _ (.inl q)⟩
  refine codeAny_call_function hr.depth (KX _ _ lk) rfl S.co S.gen rfl (PySem.W.codeRec_of KX hcd) (hb _ _ _ _ ?_)
  refine wpAny_newFunctionEnv_cells S.kind hkind fun env he s1 x => ?_
  subst he
  refine ⟨lim.keeps x.toInCall.keep, codeAny_func ?_⟩
  obtain ⟨t, Fin, ht, hq, hF⟩ := hbody A outer s H vs Q E (hr.deeper _) hsp
  have I : Inv (cxOf CX0 P w K mg base N qual scope f cdv A outer s H E) [] (L2.start N vs) H s1 := inv_start S hr.hd e0 hl r x
  refine wpAny_mono (ht.nox.run [] s1 (L2.start N vs) H Fin I hq) (fun fl s' ⟨l, σ', H', e, J, q⟩ => ?_) fun e s' hs => hs
  subst e
  have kc : ∀ {y : Str}, scope.names.lookup y = some .cell → ∃ c, (cellsFrom (s.heap.objs.size + 1) scope.names []).lookup y = some c := fun {y} hy => Option.isSome_iff_exists.mp (PySem.W.cellsFrom_some _ _ _ (.inl hy))
  obtain ⟨c1, l1⟩ := kc k1
  obtain ⟨c2, l2⟩ := kc k2
  have nc : c1 ≠ c2 := fun z => ne (J.ok.inj y1 y2 c1 l1 (z ▸ l2))
  have n1 : H' c1 = none := J.freeC y1 c1 l1
  have n2 : H' c2 = none := J.freeC y2 c2 l2
  obtain ⟨v1, v2, s1', s2', q⟩ := hF l σ' H' c1 c2 q l1 l2 nc n1 n2
  obtain ⟨m, hm, look⟩ := J.loc
  have cell : ∀ {i : Nat} {y : Str} {c : Addr} {v : V}, N[i]? = some y → σ'[i]? = some (some v) → scope.names.lookup y = some .cell → (cellsFrom (s.heap.objs.size + 1) scope.names []).lookup y = some c → ∃ u : Value, L2.RelV v u ∧ s'.heap.IsCell c (some u) := fun {i y c v} e1 e2 e3 e4 => by
    obtain ⟨u, ru, z⟩ := look i y v e1 e2 (.inr (.inl e3))
    rcases z with ⟨z, _⟩ | ⟨_, c3, z1, z2⟩
    · have z : scope.names.lookup y = some .local := z
      rw [e3] at z
      cases z
    · have z1 : (cellsFrom (s.heap.objs.size + 1) scope.names []).lookup y = some c3 := z1
      rw [e4] at z1
      cases z1
      exact ⟨u, ru, z2⟩
  have i1 := cell m1 s1' k1 l1
  have i2 := cell m2 s2' k2 l2
  have up : ∀ {c : Addr} {y : Str}, (cellsFrom (s.heap.objs.size + 1) scope.names []).lookup y = some c → s.heap.objs.size ≤ c := fun {c y} e => J.ok.cab y c rfl e
  have nn : ∀ {d : Addr} {o : HO}, H' d = some o → onC H' c1 c2 v1 v2 d = some o := fun {d o} q => by
    rw [onC_ne (fun z => by rw [z, n1] at q; cases q) (fun z => by rw [z, n2] at q; cases q)]
    exact q
  have un := J.base
  refine ⟨.ref l, _, J.os, J.bare, ⟨un.keep, un.slot, fun b o e n hx => ?_, un.there, fun b xs e => nn (un.tups b xs e), fun b o u e => nn (un.frzs b o u e), fun b ps e => ?_⟩, hok_on J.hok n1 n2 i1 i2, rfl, q⟩
  · have lt := Heap.lt_size e
    have b1 : b ≠ c1 := fun z => Nat.lt_irrefl b (Nat.lt_of_lt_of_le lt (by rw [z]; exact up l1))
    have b2 : b ≠ c2 := fun z => Nat.lt_irrefl b (Nat.lt_of_lt_of_le lt (by rw [z]; exact up l2))
    rw [onC_ne b1 b2]
    exact un.free b o e n hx
  · obtain ⟨more, q⟩ := un.tbls b ps e
    exact ⟨more, nn q⟩
/-! ### a kept lambda called -/
/-- the lambda at f, of the words Λ: its code is known, its two cells are tracked -/
structure CloB (q : Str) (Λ : Arguments × Expr × Scope) (y1 y2 : Str) (H : Hp) (f : Addr) (cl : List (Str × Addr)) (c' c1 c2 : Addr) (v1 v2 : V) : Prop where
  hf : H f = some (LamO f ⟨q, Λ.1, Λ.2.1, Λ.2.2, cl, c'⟩)
  hc : H c' = some (CodeO c' q)
  two : Two H c1 c2 v1 v2
  l1 : cl.lookup y1 = some c1
  l2 : cl.lookup y2 = some c2
  only : ∀ y c, cl.lookup y = some c → y = y1 ∨ y = y2
structure CloOk (P : Program) (w : World) (K : PySem.W.Frag) (mg : Str → Option Value) (base : Heap) (k : Nat) (R : Addr → Hp → VK → XK → Prop) : Prop where
  fn : ∀ (f : Addr) (H : Hp) (Q : VK) (E : XK) (h : Heap), HOk P w H h → R f H Q E → PySem.W.FnAt f h
  run : ∀ (A : Around) (outer : List Env) (s : Shared) (f : Addr) (H : Hp) (Q : VK) (E : XK), Room k A → Env0 P w K mg base A outer s H → R f H Q E → codeAny (model P w) A (.call (.ref f) ⟨[], []⟩) (CR (L2.CX P w) outer P w H s Q E) s
section
variable {P : Program} {w : World} {K : PySem.W.Frag} {mg : Str → Option Value} {base : Heap} {k : Nat} {R R' : Addr → Hp → VK → XK → Prop}
theorem CloOk.or (a : CloOk P w K mg base k R) (b : CloOk P w K mg base k R') : CloOk P w K mg base k fun f H Q E => R f H Q E ∨ R' f H Q E :=
  ⟨fun f H Q E h hok r => r.elim (a.fn f H Q E h hok) (b.fn f H Q E h hok), fun A outer s f H Q E hr e0 r => r.elim (a.run A outer s f H Q E hr e0) (b.run A outer s f H Q E hr e0)⟩
/-- what a lambda of these words does -/
def CloR (q : Str) (Λ : Arguments × Expr × Scope) (y1 y2 : Str) (tb : XK → TE) : Addr → Hp → VK → XK → Prop := fun f H Q E => ∃ cl c' c1 c2 v1 v2, CloB q Λ y1 y2 H f cl c' c1 c2 v1 v2 ∧
  tb (fun cls d H' => H' c1 = none → H' c2 = none → E cls d (onC H' c1 c2 v1 v2)) [some v1, some v2] (offC H c1 c2) (fun v H' => H' c1 = none → H' c2 = none → Q v (onC H' c1 c2 v1 v2))
theorem clo_ok {q : Str} {Λ : Arguments × Expr × Scope} {y1 y2 : Str} {tb : XK → TE} (ne : y1 ≠ y2) (S : NScope [y1, y2] [] [y1, y2] Λ.2.2) (hbind : ∀ (q : Str) (cl : List (Str × Addr)) (pm cv ctv : Value), bindArgs (PySem.W.kla_fn "<lambda>" q Λ.1 Λ.2.1 Λ.2.2 cl pm cv ctv) ⟨[], []⟩ = pure [])
    (hbody : ∀ (cl : List (Str × Addr)) (c' f : Addr) (A : Around) (outer : List Env) (s : Shared) (H : Hp) (E : XK), Room k (A.deeper (envF (⟨q, Λ.1, Λ.2.1, Λ.2.2, cl, c'⟩ : LmW).nf f s.heap.objs.size)) → PE (ncx (L2.CX P w) P w K mg base [y1, y2] (⟨q, Λ.1, Λ.2.1, Λ.2.2, cl, c'⟩ : LmW).nf f A outer s H E) Λ.2.1 (tb E)) :
    CloOk P w K mg base (k + 1) (CloR q Λ y1 y2 tb) := by
  refine ⟨fun f H Q E h hok ⟨cl, c', c1, c2, v1, v2, B, _⟩ => ?_, fun A outer s f H Q E hr e0 ⟨cl, c', c1, c2, v1, v2, B, ht⟩ => ?_⟩
  · obtain ⟨pm, ctv, e⟩ := lamO_at hok B.hf
    exact ⟨_, _, _, _, e⟩
  · have t := B.two
    have C : CellsAt cl [y1, y2] [some v1, some v2] s.heap (offC H c1 c2) := by
      have i1 := cellO_at e0.hok t.h1
      have i2 := cellO_at e0.hok t.h2
      have of : ∀ {y : Str} {c : Addr}, cl.lookup y = some c → (y = y1 ∧ c = c1) ∨ (y = y2 ∧ c = c2) := fun {y c} e => by
        rcases B.only y c e with z | z
        · rw [z, B.l1] at e
          cases e
          exact .inl ⟨z, rfl⟩
        · rw [z, B.l2] at e
          cases e
          exact .inr ⟨z, rfl⟩
      refine ⟨rfl, fun y c e => ?_, fun x y c e1 e2 => ?_, fun i y e => ?_⟩
      · rcases of e with ⟨_, z⟩ | ⟨_, z⟩
        · subst z
          obtain ⟨u, _, z⟩ := i1
          exact ⟨offC_1, _, z⟩
        · subst z
          obtain ⟨u, _, z⟩ := i2
          exact ⟨offC_2, _, z⟩
      · rcases of e1 with ⟨a, a'⟩ | ⟨a, a'⟩ <;> rcases of e2 with ⟨b, b'⟩ | ⟨b, b'⟩
        · rw [a, b]
        · exact absurd (a'.symm.trans b') t.ne
        · exact absurd (b'.symm.trans a') t.ne
        · rw [a, b]
      · match i, e with
        | 0, e =>
          cases e
          exact ⟨c1, B.l1, fun v z => by cases z; exact i1⟩
        | 1, e =>
          cases e
          exact ⟨c2, B.l2, fun v z => by cases z; exact i2⟩
    have hc : s.heap.CodeRec (.ref c') q := codeO_at e0.hok B.hc
    have z := lam_run (F := ⟨q, Λ.1, Λ.2.1, Λ.2.2, cl, c'⟩) (f := f) (N := [y1, y2]) S hbind (fun A outer s H E hr => hbody cl c' f A outer s H E hr) hr (env0_off t e0) (lamO_at e0.hok B.hf) hc C ht
    refine codeAny_mono z fun r s' x => ?_
    cases r with
    | error e => exact cx_on t e0 (fun cls d H' n1 n2 q => q n1 n2) x
    | ok fl =>
      cases fl with
      | ret u => exact ce_on t e0 (fun v H' n1 n2 q => q n1 n2) x
      | next => exact False.elim x
      | brk => exact False.elim x
      | cont => exact False.elim x
end
/-- f(), f a name that holds such a lambda -/
def tClo (i : Nat) (R : Addr → Hp → VK → XK → Prop) (W : WX) : TE := fun σ H Q => ∃ f : Addr, σ[i]? = some (some (.ref f)) ∧ R f H Q (WE W σ)
theorem pe_clo {X : Cx} {W : WX} {k i : Nat} {a : Str} {R : Addr → Hp → VK → XK → Prop} {p1 p2 : Pos} (tk : Takes X W) (CO : CloOk X.prog X.w X.K X.mg X.base k R) (hr : Room k X.A) (hN : X.N[i]? = some a) (hv : Vis X.env.scope a) (hd : (a == ("__debug__" : Str)) = false := by decide) (hcd : (a == ("__classdict__" : Str)) = false := by decide) :
    PE X (.Call (.Name a p1) [] [] p2) (tClo i R W) := by
  refine ⟨fun pins s σ H Q I ⟨f, hs, hR⟩ => ?_⟩
  refine wpAny_Call_Name_kw (thn ((pe_var (pos := p1) (i := i) hN hv hd hcd).run pins s σ H (fun v H1 => v = .ref f ∧ H1 = H) I ⟨.ref f, hs, rfl, rfl⟩) fun u s1 ⟨v, H1, I1, r1, q1, q2⟩ => ?_)
  subst q1
  subst q2
  obtain rfl : u = Value.ref f := r1
  refine PySem.W.callWith_F0 (CO.fn f H1 Q _ s1.heap I1.hok hR) ?_
  refine wpAny_call (codeAny_mono (CO.run X.A X.stack s1 f H1 Q (WE W σ) hr I1.env0 hR) fun r s' hq => ?_)
  cases r with
  | error e => exact passAt tk σ pins H1 s1 e s' I1 hq
  | ok fl =>
    cases fl with
    | ret u => exact I1.after hq
    | next => exact False.elim hq
    | brk => exact False.elim hq
    | cont => exact False.elim hq
end LamY
/-! DL39: the list of lambdas told, step by step; kept lambdas as data. -/
namespace LamY
open PySem PySem.Spec PyProof.Rows L2 LamX NdefX
abbrev Lm3 : Type := Arguments × Expr × Scope
abbrev mkL (q : Str) (Λ : Nat → Lm3) (cells : List (Str × Addr)) (i : Nat) (c' : Addr) : LmW := ⟨q, (Λ i).1, (Λ i).2.1, (Λ i).2.2, cloFrom cells (Λ i).2.2.names [], c'⟩
section
variable {T : List (Addr × Str)} {q : Str} {Λ : Nat → Lm3} {cells : List (Str × Addr)} {H0 H : Hp} {v1 v2 : V} {j : Nat} {l : Addr} {K : PySem.W.Frag}
theorem tabs_upd {H : Hp} {l : Addr} {xs ys : List V} (t : Tabs T H) (e : H l = some (.lst xs)) : Tabs T (upd H l (.lst ys)) := fun p hp => by
  obtain ⟨ps, h1, h2, h3⟩ := t p hp
  have st : ∀ {b : Addr} {o : HO}, H b = some o → (∀ zs, o ≠ .lst zs) → upd H l (.lst ys) b = some o := fun {b o} q n => by
    rw [upd_ne (fun z => by rw [z, e] at q; exact n xs (Option.some.inj q).symm)]
    exact q
  refine ⟨ps, st h1 (fun zs z => nomatch z), h2, fun pos cv hc => ?_⟩
  obtain ⟨c, e1, e2⟩ := h3 pos cv hc
  exact ⟨c, e1, st e2 fun zs z => by unfold CodeO at z; cases z⟩
theorem tabs_new {H : Hp} {l : Addr} {o : HO} (t : Tabs T H) (e : H l = none) : Tabs T (upd H l o) := t.ext fun b u q => by
  rw [upd_ne (fun z => by rw [z, e] at q; cases q)]
  exact q
/-- behind j lambdas -/
structure WkS (T : List (Addr × Str)) (q : Str) (Λ : Nat → Lm3) (cells : List (Str × Addr)) (H0 : Hp) (j : Nat) (l : Addr) (H : Hp) : Prop where
  ext : ExtN H0 H
  tabs : Tabs T H
  nl : H0 l = none
  fs : ∃ fs : List Addr, H l = some (.lst (fs.map V.ref)) ∧ fs.length = j ∧ ∀ i f, fs[i]? = some f → ∃ c', H f = some (LamO f (mkL q Λ cells i c')) ∧ H c' = some (CodeO c' q)
theorem cellO_nt {c : Addr} {v : V} (ps : Array Value) : CellO c v ≠ .tbl ps := fun z => by unfold CellO at z; cases z
theorem lamO_nt {f : Addr} {F : LmW} (ps : Array Value) : LamO f F ≠ .tbl ps := fun z => by unfold LamO at z; cases z
theorem wks_first {nx : L2.St → Hp → Prop} {rt : VK} (hT : Tabs T H0) (k : ∀ l H, WkS T q Λ cells H0 1 l H → nx [some v1, some v2, some (.ref l)] H) : tAsg (tLst (tCons (tLamV T (mkL q Λ cells 0)) tNil)) (gName 2) { nx := nx, rt := rt } [some v1, some v2, none] H0 := by
  refine ⟨hT, fun f c' H1 e1 e2 T1 nf hf hc => ⟨Nat.le_of_ble_eq_true rfl, fun p hp => ?_⟩⟩
  refine k p _ ⟨fun b o e n => ?_, tabs_new T1 hp, e2 p hp, [f], upd_same, rfl, fun i g hg => ?_⟩
  · have e' := e1 b o e n
    rw [upd_ne (fun z => by rw [z, hp] at e'; cases e')]
    exact e'
  · match i, hg with
    | 0, hg =>
      cases hg
      refine ⟨c', ?_, ?_⟩
      · rw [upd_ne (fun z => by rw [z, hp] at hf; cases hf)]
        exact hf
      · rw [upd_ne (fun z => by rw [z, hp] at hc; cases hc)]
        exact hc
theorem wks_next {nx : L2.St → Hp → Prop} {rt : VK} (S : WkS T q Λ cells H0 j l H) (jl : j ≤ 100) (k : ∀ H, WkS T q Λ cells H0 (j + 1) l H → nx [some v1, some v2, some (.ref l)] H) :
    tDrop (tBM K "list" rAppend (tVar 2) (tCons (tLamV T (mkL q Λ cells j)) tNil)) { nx := nx, rt := rt } [some v1, some v2, some (.ref l)] H := by
  obtain ⟨fs, hl, hn, hfs⟩ := S.fs
  refine ⟨.ref l, rfl, .inl ⟨rfl, _, .inl (.inl hl)⟩, S.tabs, fun f c' H1 e1 e2 T1 nf hf hc => ?_⟩
  have hl1 : H1 l = some (.lst (fs.map V.ref)) := e1 l _ hl fun ps z => nomatch z
  refine ⟨l, fs.map V.ref, .ref f, rfl, rfl, hl1, by rw [List.length_map, hn]; exact Nat.lt_of_le_of_lt jl (by decide), ?_⟩
  have st : ∀ {b : Addr} {o : HO}, H1 b = some o → (∀ zs, o ≠ .lst zs) → upd H1 l (.lst (fs.map V.ref ++ [.ref f])) b = some o := fun {b o} q n => by
    rw [upd_ne (fun z => by rw [z, hl1] at q; exact n _ (Option.some.inj q).symm)]
    exact q
  have nL : ∀ {g : Addr} {F : LmW} (zs : List V), LamO g F ≠ .lst zs := fun {g F} zs z => by unfold LamO at z; cases z
  have nC : ∀ {g : Addr} {s : Str} (zs : List V), CodeO g s ≠ .lst zs := fun {g s} zs z => by unfold CodeO at z; cases z
  refine k _ ⟨fun b o e n => ?_, tabs_upd T1 hl1, S.nl, fs ++ [f], by rw [upd_same, List.map_append]; rfl, by rw [List.length_append, hn]; rfl, fun i g hg => ?_⟩
  · have e' := e1 b o (S.ext b o e n) n
    rw [upd_ne (fun z => by rw [z, S.nl] at e; cases e)]
    exact e'
  · by_cases c : i < fs.length
    · rw [List.getElem?_append_left c] at hg
      obtain ⟨c2, h1, h2⟩ := hfs i g hg
      exact ⟨c2, st (e1 _ _ h1 lamO_nt) nL, st (e1 _ _ h2 codeO_ne) nC⟩
    · have hi : i = fs.length := by
        have := (List.getElem?_eq_some_iff.mp hg).1
        rw [List.length_append] at this
        simp at this
        omega
      subst hi
      rw [List.getElem?_append_right (Nat.le_refl _), Nat.sub_self] at hg
      cases hg
      rw [hn]
      exact ⟨c', st hf nL, st hc nC⟩
/-- all lambdas, their cells tracked -/
theorem wks_end {y1 y2 : Str} {c1 c2 : Addr} (S : WkS T q Λ cells H0 j l H) (l1 : cells.lookup y1 = some c1) (l2 : cells.lookup y2 = some c2) (ne : c1 ≠ c2) (n1 : H c1 = none) (n2 : H c2 = none) (hΛ : ∀ i, i < j → NScope [y1, y2] [] [y1, y2] (Λ i).2.2) :
    ExtN H0 (onC H c1 c2 v1 v2) ∧ Tabs T (onC H c1 c2 v1 v2) ∧ ∃ fs : List Addr, onC H c1 c2 v1 v2 l = some (.lst (fs.map V.ref)) ∧ fs.length = j ∧ ∀ i f, fs[i]? = some f → ∃ cl c' d1 d2, CloB q (Λ i) y1 y2 (onC H c1 c2 v1 v2) f cl c' d1 d2 v1 v2 := by
  have nn : ∀ {d : Addr} {o : HO}, H d = some o → onC H c1 c2 v1 v2 d = some o := fun {d o} q => by
    rw [onC_ne (fun z => by rw [z, n1] at q; cases q) (fun z => by rw [z, n2] at q; cases q)]
    exact q
  obtain ⟨fs, hl, hn, hfs⟩ := S.fs
  refine ⟨fun b o e n => nn (S.ext b o e n), S.tabs.ext fun b o e => nn e, fs, nn hl, hn, fun i f hf => ?_⟩
  obtain ⟨c', h1, h2⟩ := hfs i f hf
  have N := hΛ i (by have := (List.getElem?_eq_some_iff.mp hf).1; omega)
  have free : ∀ y ∈ (Λ i).2.2.names, y.2 = .free → ∃ c, cells.lookup y.1 = some c := fun y hy e => by
    rcases List.mem_cons.mp (N.free y hy e) with z | z
    · rw [z]; exact ⟨_, l1⟩
    · rw [List.mem_singleton.mp z]; exact ⟨_, l2⟩
  refine ⟨_, c', c1, c2, nn h1, nn h2, ⟨ne, onC_1, onC_2 ne⟩, clo_has free (PySem.mem_of_lookup (N.frk y1 (by simp))) l1, clo_has free (PySem.mem_of_lookup (N.frk y2 (by simp))) l2, fun y c e => ?_⟩
  rcases cloFrom_mem (PySem.mem_of_lookup e) with hm | ⟨hm, _⟩
  · cases hm
  · simpa using N.free (y, .free) hm rfl
end
end LamY
namespace DL
open PySem PySem.Spec PyProof.Rows L2 LamX LamY
/-! ### kept lambdas as data -/
mutual
def nc : D → Bool
  | .tup ds => ncL ds
  | .lst ds => ncL ds
  | .clo _ _ _ _ => false
  | _ => true
def ncL : List D → Bool
  | [] => true
  | d :: ds => nc d && ncL ds
end
section
variable {Z : Cs} {H : Hp} {A : Addr → Prop} {c1 c2 : Addr} {v1 v2 : V}
mutual
theorem Rep.off (t : LamY.Two H c1 c2 v1 v2) : ∀ {d : D} {v : V}, nc d = true → Rep Z H A d v → Rep Z (offC H c1 c2) A d v
  | .non, _, _, h => rep_non.mpr (rep_non.mp h)
  | .bl _, _, _, h => rep_bl.mpr (rep_bl.mp h)
  | .int _, _, _, h => rep_int.mpr (rep_int.mp h)
  | .str _, _, _, h => rep_str.mpr (rep_str.mp h)
  | .tup ds, _, l, h => by
    obtain ⟨a, vs, e, k, q⟩ := rep_tup.mp h
    rw [nc] at l
    exact rep_tup.mpr ⟨a, vs, e, t.off k (fun _ z => nomatch z), RepL.off t l q⟩
  | .lst ds, _, l, h => by
    obtain ⟨a, vs, e, n, k, q⟩ := rep_lst.mp h
    rw [nc] at l
    exact rep_lst.mpr ⟨a, vs, e, n, t.off k (fun _ z => nomatch z), RepL.off t l q⟩
  | .pty _ _, _, _, h => by
    obtain ⟨a, dx, e, k⟩ := rep_pty.mp h
    exact rep_pty.mpr ⟨a, dx, e, t.off k (fun _ z => nomatch z)⟩
  | .raw _, _, _, h => rep_raw.mpr (rep_raw.mp h)
  | .exn _ _ _ _, _, _, h => rep_exn.mpr ⟨(rep_exn.mp h).1, t.off (rep_exn.mp h).2 (fun _ z => nomatch z)⟩
  | .clo _ _ _ _, _, l, _ => by rw [nc] at l; cases l
  | .dt _, _, _, h => by
    obtain ⟨a, e, n, k⟩ := rep_dt.mp h
    exact rep_dt.mpr ⟨a, e, n, t.off k (fun _ z => nomatch z)⟩
  | .dk _, _, _, h => by
    obtain ⟨a, e, n, k⟩ := rep_dk.mp h
    exact rep_dk.mpr ⟨a, e, n, t.off k (fun _ z => nomatch z)⟩
theorem RepL.off (t : LamY.Two H c1 c2 v1 v2) : ∀ {ds : List D} {vs : List V}, ncL ds = true → RepL Z H A ds vs → RepL Z (offC H c1 c2) A ds vs
  | [], _, _, h => repL_nil.mpr (repL_nil.mp h)
  | d :: ds, _, l, h => by
    obtain ⟨v, r, e, h1, h2⟩ := repL_cons.mp h
    rw [ncL, Bool.and_eq_true] at l
    exact repL_cons.mpr ⟨v, r, e, Rep.off t l.1 h1, RepL.off t l.2 h2⟩
end
end
/-- d is a kept lambda of the words Λ, its cells hold d1 and d2 -/
def IsClo (q : Str) (Λ : Lm3) (y1 y2 : Str) (d d1 d2 : D) : Prop := ∃ (f : Addr) (cl : List (Str × Addr)) (c' c1 c2 : Addr) (v1 v2 : V), d = .clo f [(f, LamO f ⟨q, Λ.1, Λ.2.1, Λ.2.2, cl, c'⟩), (c', CodeO c' q), (c1, CellO c1 v1), (c2, CellO c2 v2)] [v1, v2] [d1, d2] ∧
  c1 ≠ c2 ∧ cl.lookup y1 = some c1 ∧ cl.lookup y2 = some c2 ∧ ∀ y c, cl.lookup y = some c → y = y1 ∨ y = y2
theorem clo_rep {Z : Cs} {q : Str} {Λ : Lm3} {y1 y2 : Str} {d1 d2 : D} {H : Hp} {A : Addr → Prop} {f c' c1 c2 : Addr} {cl : List (Str × Addr)} {v1 v2 : V} (B : CloB q Λ y1 y2 H f cl c' c1 c2 v1 v2) (hA : ∀ b φ, H b = some (.ext φ) → ¬ A b) (h : RepL Z H A [d1, d2] [v1, v2]) : ∃ d, IsClo q Λ y1 y2 d d1 d2 ∧ Rep Z H A d (.ref f) := by
  refine ⟨_, ⟨f, cl, c', c1, c2, v1, v2, rfl, B.two.ne, B.l1, B.l2, B.only⟩, rep_clo.mpr ⟨rfl, fun p hp => ?_, h⟩⟩
  simp only [List.mem_cons, List.not_mem_nil, or_false] at hp
  rcases hp with rfl | rfl | rfl | rfl
  · exact ⟨lamO_nt, hA _ _ B.hf, B.hf⟩
  · exact ⟨codeO_ne, hA _ _ B.hc, B.hc⟩
  · exact ⟨cellO_nt, hA _ _ B.two.h1, B.two.h1⟩
  · exact ⟨cellO_nt, hA _ _ B.two.h2, B.two.h2⟩
section
variable {Z : Cs} {ρ : List En} {i : Nat} {W : WX} {er : Er}
/-- a kept lambda that raises -/
theorem wre_clo {q : Str} {Λ : Lm3} {y1 y2 : Str} {tb : XK → TE} {d d1 d2 : D} {R : Addr → Hp → VK → XK → Prop} (hs : ρ[i]? = some (.v d)) (hd : IsClo q Λ y1 y2 d d1 d2) (n1 : nc d1 = true) (n2 : nc d2 = true) (hR : ∀ f H Q E, CloR q Λ y1 y2 tb f H Q E → R f H Q E)
    (hB : ∀ E : XK, Wre Z (fun cls d _ H => E cls d H) (tb E) [.v d1, .v d2] er) : Wre Z W (tClo i R W) ρ er := fun r X σ H E kx k => by
  obtain ⟨f, cl, c', c1, c2, v1, v2, rfl, ne, l1, l2, only⟩ := hd
  obtain ⟨v, e1, e2⟩ := E.at_ i _ hs
  obtain ⟨rfl, ob, rp⟩ := rep_clo.mp e2
  have ob := fun p hp => (ob p hp).2
  have o1 := ob _ (.head _)
  have o2 := ob _ (.tail _ (.head _))
  have o3 := ob _ (.tail _ (.tail _ (.head _)))
  have o4 := ob _ (.tail _ (.tail _ (.tail _ (.head _))))
  have t : LamY.Two H c1 c2 v1 v2 := ⟨ne, o3.2, o4.2⟩
  refine ⟨f, e1, hR f H k _ ⟨cl, c', c1, c2, v1, v2, ⟨o1.2, o2.2, t, l1, l2, only⟩, ?_⟩⟩
  have rp' := RepL.off t (by rw [ncL, ncL, ncL, n1, n2]; rfl) rp
  have S := sv_start (N := [y1, y2]) rp' fun a za => by
    obtain ⟨o, e⟩ := E.av_tracked za
    have m1 : a ≠ c1 := fun z => o3.1 (by rw [z] at za; exact za)
    have m2 : a ≠ c2 := fun z => o4.1 (by rw [z] at za; exact za)
    exact ⟨o, (offC_ne m1 m2).trans e⟩
  refine hB _ none _ _ _ S (fun cls dd H' E1 f1 er1 m1 m2 => ?_) _
  have sm : Same H (onC H' c1 c2 v1 v2) := fun a o e => by
    by_cases z1 : a = c1
    · subst z1
      rw [o3.2] at e
      cases e
      exact onC_1
    · by_cases z2 : a = c2
      · subst z2
        rw [o4.2] at e
        cases e
        exact onC_2 ne
      · rw [onC_ne z1 z2]
        exact f1.fx a o (by rw [offC_ne z1 z2]; exact e) fun z => nomatch z
  refine kx cls dd _ (E.same sm) (Fx.same sm) ?_
  cases er with
  | pl C => exact er1
  | num C x n =>
    obtain ⟨rfl, d', rfl, q⟩ := er1
    refine ⟨rfl, d', rfl, ?_⟩
    rw [onC_ne (fun z => by rw [z, m1] at q; cases q) (fun z => by rw [z, m2] at q; cases q)]
    exact q
end
end DL
/-! DL40: statements behind which tables of code objects have grown. -/
namespace DL
open PySem PySem.Spec PyProof.Rows L2 LamX LamY
section
variable {Z : Cs} {H H' : Hp} {A : Addr → Prop}
mutual
theorem Rep.extN (t : ExtN H H') : ∀ {d : D} {v : V}, Rep Z H A d v → Rep Z H' A d v
  | .non, _, h => rep_non.mpr (rep_non.mp h)
  | .bl _, _, h => rep_bl.mpr (rep_bl.mp h)
  | .int _, _, h => rep_int.mpr (rep_int.mp h)
  | .str _, _, h => rep_str.mpr (rep_str.mp h)
  | .tup ds, _, h => by
    obtain ⟨a, vs, e, k, q⟩ := rep_tup.mp h
    exact rep_tup.mpr ⟨a, vs, e, t _ _ k (fun _ z => nomatch z), RepL.extN t q⟩
  | .lst ds, _, h => by
    obtain ⟨a, vs, e, n, k, q⟩ := rep_lst.mp h
    exact rep_lst.mpr ⟨a, vs, e, n, t _ _ k (fun _ z => nomatch z), RepL.extN t q⟩
  | .pty _ _, _, h => by
    obtain ⟨a, dx, e, k⟩ := rep_pty.mp h
    exact rep_pty.mpr ⟨a, dx, e, t _ _ k (fun _ z => nomatch z)⟩
  | .raw _, _, h => rep_raw.mpr (rep_raw.mp h)
  | .exn _ _ _ _, _, h => rep_exn.mpr ⟨(rep_exn.mp h).1, t _ _ (rep_exn.mp h).2 (fun _ z => nomatch z)⟩
  | .clo _ _ _ _, _, h => by
    obtain ⟨e, o, r⟩ := rep_clo.mp h
    exact rep_clo.mpr ⟨e, fun p hp => ⟨(o p hp).1, (o p hp).2.1, t _ _ (o p hp).2.2 (o p hp).1⟩, RepL.extN t r⟩
  | .dt _, _, h => by
    obtain ⟨a, e, n, k⟩ := rep_dt.mp h
    exact rep_dt.mpr ⟨a, e, n, t _ _ k (fun _ z => nomatch z)⟩
  | .dk _, _, h => by
    obtain ⟨a, e, n, k⟩ := rep_dk.mp h
    exact rep_dk.mpr ⟨a, e, n, t _ _ k (fun _ z => nomatch z)⟩
theorem RepL.extN (t : ExtN H H') : ∀ {ds : List D} {vs : List V}, RepL Z H A ds vs → RepL Z H' A ds vs
  | [], _, h => repL_nil.mpr (repL_nil.mp h)
  | d :: ds, _, h => by
    obtain ⟨v, r, e, h1, h2⟩ := repL_cons.mp h
    exact repL_cons.mpr ⟨v, r, e, Rep.extN t h1, RepL.extN t h2⟩
end
end
section
variable {Z : Cs} {r : Option Addr} {X : Addr → Prop} {H H' : Hp} {σ σ' : L2.St} {ρ ρ' : List En} {b : Addr} {o : HO} {T : List (Addr × Str)}
theorem rd_ext {K : PySem.W.Frag} {A : Addr → Prop} {a : Addr} {xs : List V} (t : ExtN H H') (h : LstAt K H A a xs) : LstAt K H' A a xs := by
  rcases h with ⟨n, h⟩ | h
  · refine .inl ⟨n, ?_⟩
    rcases h with h | ⟨o, h⟩
    · exact .inl (t _ _ h fun _ z => nomatch z)
    · exact .inr ⟨o, t _ _ h fun _ z => nomatch z⟩
  · exact .inr h
theorem Sv.extN (E : Sv Z r X H σ ρ) (t : ExtN H H') (dm : ∀ a o, H a = some o → ∃ o', H' a = some o') : Sv Z r X H' σ ρ := by
  refine ⟨E.len, fun i e q => ?_, E.dis, fun a z => ⟨?_, (E.xin a z).2⟩, fun a z => ?_⟩
  · have k := E.at_ i e q
    cases e with
    | un => trivial
    | v d => obtain ⟨v, e1, e2⟩ := k; exact ⟨v, e1, e2.extN t⟩
    | l ds => obtain ⟨a, vs, e1, e2, e3⟩ := k; exact ⟨a, vs, e1, t _ _ e2 (fun _ z => nomatch z), e3.extN t⟩
    | t kvs => obtain ⟨a, e1, e2⟩ := k; exact ⟨a, e1, t _ _ e2 (fun _ z => nomatch z)⟩
    | row => exact k
  · obtain ⟨⟨o, e⟩, _⟩ := E.xin a z
    exact dm a o e
  · obtain ⟨⟨sc, i, m, g, ns, ha, hs, l1, l2, l3, l4⟩, q2, q3⟩ := E.row a z
    exact ⟨⟨sc, i, m, g, ns, t _ _ ha (fun _ z => nomatch z), rd_ext t hs, l1, l2, l3, l4⟩, q2, q3⟩
/-- what is neither a list nor a dict is nobody's own -/
theorem av_not (E : Sv Z r X H σ ρ) (hX : ∀ a, ¬ X a) (e : H b = some o) (n1 : ∀ xs, o ≠ .lst xs) (n2 : ∀ k, o ≠ .dT k) : ¬ Ow σ ρ b ∧ r ≠ some b ∧ ¬ Av r X σ ρ b := by
  have h1 : ¬ Ow σ ρ b := fun ⟨i, x, q1, q2, q3⟩ => by
    have k := E.at_ i x q1
    cases x with
    | un => cases q2
    | v d => cases q2
    | l ds => obtain ⟨a, vs, e1, e2, _⟩ := k; rw [q3] at e1; cases e1; rw [e] at e2; exact n1 _ (Option.some.inj e2)
    | t kvs => obtain ⟨a, e1, e2⟩ := k; rw [q3] at e1; cases e1; rw [e] at e2; exact n2 _ (Option.some.inj e2)
    | row => cases q2
  have h2 : r ≠ some b := fun z => by
    obtain ⟨⟨sc, i, m, g, ns, ha, _⟩, _⟩ := E.row b z
    rw [e] at ha
    exact n1 _ (Option.some.inj ha)
  exact ⟨h1, h2, fun z => by
    rcases z with z | z | z
    · exact h1 z
    · exact hX b z
    · exact h2 z⟩
theorem tabs_keep (hX : ∀ a, ¬ X a) (E : Sv Z r X H σ ρ) (k : ∀ b o, H b = some o → ¬ Ow σ ρ b → r ≠ some b → H' b = some o) (t : Tabs T H) : Tabs T H' := fun p hp => by
  obtain ⟨ps, h1, h2, h3⟩ := t p hp
  obtain ⟨a1, a2, _⟩ := av_not E hX h1 (fun _ z => nomatch z) fun _ z => nomatch z
  refine ⟨ps, k _ _ h1 a1 a2, h2, fun pos cv hc => ?_⟩
  obtain ⟨c, e1, e2⟩ := h3 pos cv hc
  obtain ⟨b1, b2, _⟩ := av_not E hX e2 (fun _ z => by unfold CodeO at z; cases z) fun _ z => by unfold CodeO at z; cases z
  exact ⟨c, e1, k _ _ e2 b1 b2⟩
theorem tabs_fr (E : Sv Z r noA H σ ρ) (f : Fr r σ ρ H σ' ρ' H') (t : Tabs T H) : Tabs T H' := tabs_keep (fun _ z => z) E (fun b o e n m => (f.fr b o e n m).1) t
theorem tabs_fx (E : Sv Z r noA H σ ρ) (f : Fx r H H') (t : Tabs T H) : Tabs T H' := tabs_keep (fun _ z => z) E (fun b o e _ m => f.fx b o e m) t
end
def WcT (Z : Cs) (T : List (Addr × Str)) (ts : TS) (ρ : List En) (P : Po) : Prop := ∀ (r : Option Addr) (σ : L2.St) (H : Hp), Sv Z r noA H σ ρ → Tabs T H → ∀ F : Ends,
  (∀ σ' ρ' H', Sv Z r noA H' σ' ρ' → Tabs T H' → P.nx ρ' → F.nx σ' H') → (∀ v d H' σ' ρ', Sv Z r noA H' σ' ρ' → Rep Z H' (Av r noA σ' ρ') d v → P.rt d → F.rt v H') → ts F σ H
def WeT (Z : Cs) (T : List (Addr × Str)) (te : TE) (ρ : List En) (Q : D → Prop) : Prop := ∀ (r : Option Addr) (σ : L2.St) (H : Hp), Sv Z r noA H σ ρ → Tabs T H → ∀ k : VK,
  (∀ v d H', Sv Z r noA H' σ ρ → Tabs T H' → Rep Z H' (Av r noA σ ρ) d v → Q d → k v H') → te σ H k
section
variable {Z : Cs} {T : List (Addr × Str)} {ts tu : TS} {tt : TT} {te tb tl : TE} {ρ : List En} {N : List En → Prop} {R : D → Prop} {j : Nat}
theorem wct_wc (h : Wc Z ts ρ { nx := N, rt := R }) : WcT Z T ts ρ { nx := N, rt := R } := fun r σ H E t F k1 k2 =>
  h r noA σ H E F (fun σ' ρ' H' E' f q => k1 σ' ρ' H' E' (tabs_fr E f t) q) (fun v d H' σ' ρ' E' _ b q => k2 v d H' σ' ρ' E' b q) (fun _ _ _ _ _ _ _ _ _ _ _ q => False.elim q) (fun _ _ _ _ _ _ _ _ _ q => False.elim q)
theorem wct_seq (h : WcT Z T ts ρ { nx := fun ρ' => WcT Z T tu ρ' { nx := N, rt := R }, rt := R }) : WcT Z T (tSeq ts tu) ρ { nx := N, rt := R } := fun r σ H E t F k1 k2 =>
  h r σ H E t { F with nx := tu F } (fun σ' ρ' H' E' t' q => q r σ' H' E' t' F k1 k2) k2
theorem wct_cut (M : List En → Prop) (h1 : WcT Z T ts ρ { nx := M, rt := R }) (h2 : ∀ ρ', M ρ' → WcT Z T tu ρ' { nx := N, rt := R }) : WcT Z T (tSeq ts tu) ρ { nx := N, rt := R } :=
  wct_seq fun r σ H E t F k1 k2 => h1 r σ H E t F (fun σ' ρ' H' E' t' q => k1 σ' ρ' H' E' t' (h2 ρ' q)) k2
theorem wct_seqc (h : Wc Z ts ρ { nx := fun ρ' => WcT Z T tu ρ' { nx := N, rt := R }, rt := R }) : WcT Z T (tSeq ts tu) ρ { nx := N, rt := R } := wct_seq (wct_wc h)
theorem wct_freeze {ds : List D} (i : Nat) {P : Po} (h : ρ[i]? = some (.l ds)) (q : WcT Z T ts (ρ.set i (.v (.lst ds))) P) : WcT Z T ts ρ P := fun r σ H E t F k1 k2 => q r σ H (E.freeze h) t F k1 k2
theorem wct_if {P : Po} (h : Wt Z tt ρ fun b => (b = true → WcT Z T ts ρ P) ∧ (b = false → WcT Z T tu ρ P)) : WcT Z T (tIfS tt ts tu) ρ P := fun r σ H E t F k1 k2 => h r noA σ H E _ fun b H1 E1 f1 q => by
  cases b with
  | true => exact iteT (q.1 rfl r σ H1 E1 (tabs_fx E f1 t) F k1 k2)
  | false => exact iteF (q.2 rfl r σ H1 E1 (tabs_fx E f1 t) F k1 k2)
/-- if a op b, a with tables -/
theorem wct_ifcmp {r2 : R2} {P : Po} (h : WeT Z T te ρ fun x => Wb Z tb ρ fun y => OpD Z ρ r2 x y fun d => ∃ b, d = .bl b ∧ (b = true → WcT Z T ts ρ P) ∧ (b = false → WcT Z T tu ρ P)) : WcT Z T (tIfS (tTest (tOp r2 te tb)) ts tu) ρ P := fun r σ H E t F k1 k2 =>
  h r σ H E t _ fun v x H1 E1 t1 b1 h1 => h1 r noA σ H1 E1 _ fun w y H2 E2 f2 b2 h2 => h2 r noA σ H2 v w E2 (Rb.keep f2 (.inl b1)) b2 _ fun u d H3 E3 f3 q3 ⟨b, e, q⟩ => by
    subst e
    have t3 := tabs_fx E2 f3 (tabs_fx E1 f2 t1)
    refine ⟨b, rep_bl.mp q3, ?_⟩
    cases b with
    | true => exact iteT (q.1 rfl r σ H3 E3 t3 F k1 k2)
    | false => exact iteF (q.2 rfl r σ H3 E3 t3 F k1 k2)
theorem wct_forR1 {ta : TA} {P : Po} (h : Wab Z ta ρ fun ds => ∃ n : Int, ds = [.int n] ∧ n ≤ 16777216 ∧ -16777216 ≤ n ∧ ∃ (vs : List Nat) (I : Nat → List En → Prop), I 0 ρ ∧ (∀ i ρ', i < n.toNat → I i ρ' → WcT Z T ts (ρ'.set j (.v (.int (0 + (i : Int))))) { P with nx := fun ρ3 => I (i + 1) (wipeE ρ3 vs) }) ∧ ∀ ρ', I n.toNat ρ' → P.nx ρ') :
    WcT Z T (tFor (iRng1 ta) (gName j) ts) ρ P := fun r σ H E t F k1 k2 => h r noA σ H E _ fun vs ds H1 E1 f1 b1 ⟨n, e, z1, z2, wv, I, I0, It, If⟩ => by
  subst e
  obtain ⟨w, rfl, b⟩ := b1.one
  have e := b.int
  subst e
  refine ⟨n, rfl, by omega, by omega, for_range (lo := 0) (n := n.toNat) (fun i σ' H' => ∃ ρ', Sv Z r noA H' σ' ρ' ∧ Tabs T H' ∧ I i ρ') ⟨ρ, E1, tabs_fx E f1 t, I0⟩ (fun i σ' H' hi ⟨ρ', E2, t2, hI⟩ => ?_) fun σ' H' ⟨ρ', E2, t2, hI⟩ => k1 σ' ρ' H' E2 t2 (If ρ' hI)⟩
  exact It i ρ' hi hI r _ H' (E2.setv (rep_int.mpr rfl)) t2 _ (fun σ3 ρ3 H3 E4 t4 q => ⟨_, (E4.wipeE' wv).1, t4, q⟩) k2
/-- a walk over a told list; the walk itself leaves the tables as they are -/
theorem wct_forL (h : WeT Z T tl ρ fun d => ∃ ds, d = .lst ds ∧ ForD Z ρ (gName j) ts ds { nx := N, rt := R }) : WcT Z T (tFor (iList Z.K tl) (gName j) ts) ρ { nx := N, rt := R } := fun r σ H E t F k1 k2 => h r σ H E t _ fun v d H1 E1 t1 b1 ⟨ds, e, I, I0, It, If⟩ => by
  subst e
  obtain ⟨a, ws, rfl, n3, h3, h4⟩ := rep_lst.mp b1
  refine ⟨a, rfl, ⟨ws, .of h3⟩, for_list (K := Z.K) (a := a) (xs := ws) (fun i σ' H' => ∃ ρ', Sv Z r noA H' σ' ρ' ∧ Fr r σ ρ H1 σ' ρ' H' ∧ I (ds.take i) ρ') ⟨ρ, E1, Fr.refl, I0⟩ (fun i σ' H' hi ⟨ρ', E2, f2, _⟩ => .of (f2.fr a _ h3 (fun z => n3 (.inl z)) fun z => n3 (.inr (.inr z))).1) (fun i x σ' H' hi ⟨ρ', E2, f2, hI⟩ => ?_) fun σ' H' ⟨ρ', E2, f2, hI⟩ => ?_⟩
  · obtain ⟨d, hd, hr⟩ := h4.get hi
    obtain ⟨p1, p2⟩ := take_pre hd
    refine It (ds.take i) d _ ρ' p1 hI r noA σ' H' x E2 (hr.mv f2.mv) _ fun σ2 ρ2 H2 E3 f3 hw => ?_
    refine hw r noA σ2 H2 E3 _ (fun σ3 ρ3 H3 E4 f4 q => ⟨ρ3, E4, (f2.trans f3).trans f4, ?_⟩) (fun v d H3 σ3 ρ3 E4 f4 b q => k2 v d H3 σ3 ρ3 E4 b q) (fun _ _ _ _ _ _ _ _ _ _ _ q => False.elim q) (fun _ _ _ _ _ _ _ _ _ q => False.elim q)
    rw [p2]
    exact q
  · rw [h4.length, List.take_length] at hI
    exact k1 σ' ρ' H' E2 (tabs_fr E1 f2 t1) (If ρ' hI)
end
end DL
/-! DL41: a lambda handed to a def at once, the def's promise told of the very state. -/
namespace LamY
open PySem PySem.Spec PyProof.Rows L2 LamX NdefX
section
variable {X : Cx} {pins : List (Addr × Obj)} {σ : L2.St} {H : Hp} {s : Shared}
theorem cells_later {cl : List (Str × Addr)} {fr : List Str} {ws : List (Option V)} (C : CellsAt cl fr ws X.s_0.heap X.H_0) (hx : X.ex = []) (I : Inv X pins σ H s) : CellsAt cl fr ws s.heap H := by
  have cell : ∀ {c : Addr} {v : Option Value}, X.H_0 c = none → X.s_0.heap.IsCell c v → H c = none ∧ s.heap.IsCell c v := fun {c v} n ⟨o, e, d⟩ => by
    have ne : c ∉ X.ex := by rw [hx]; simp
    obtain ⟨sl, q⟩ := I.base.any e n ne
    exact ⟨I.base.free c o e n ne, _, q, d⟩
  refine ⟨C.len, fun y c e => ?_, C.inj, fun i y e => ?_⟩
  · obtain ⟨n, v, z⟩ := C.all y c e
    obtain ⟨a, b⟩ := cell n z
    exact ⟨a, v, b⟩
  · obtain ⟨c, e1, k⟩ := C.has i y e
    exact ⟨c, e1, fun v z => by
      obtain ⟨u, r, q⟩ := k v z
      exact ⟨u, r, (cell (C.all y c e1).1 q).2⟩⟩
/-- what the call of the lambda f asks, in the def that got it -/
def tAct (f : Addr) (F : LmW) (tb : XK → TE) (N : List Str) (ws : List (Option V)) (W : WX) : TE := fun σZ HZ Q => σZ[0]? = some (some (.ref f)) ∧ HZ f = some (LamO f F) ∧ HZ F.c = some (CodeO F.c F.qual) ∧ tb (WE W σZ) (startF N [] ws) HZ Q
theorem pe_act2 {Ng N fr : List Str} {x a : Str} {sg : Scope} {g f : Addr} {cdg : Value} {pn : List (Addr × Obj)} {xe : Value → Shared → Prop} {W : WX} {k : Nat} {F : LmW} {tb : XK → TE} {ws : List (Option V)} {p1 p2 : Pos}
    (S : NScope N [] fr F.scope) (hbind : ∀ (q : Str) (cl : List (Str × Addr)) (pm cv ctv : Value), bindArgs (PySem.W.kla_fn "<lambda>" q F.params F.body F.scope cl pm cv ctv) ⟨[], []⟩ = pure []) (C : CellsAt F.cl fr ws s.heap H)
    (hbody : ∀ (A : Around) (outer : List Env) (s : Shared) (H : Hp) (E : XK), Room k (A.deeper (envF F.nf f s.heap.objs.size)) → PE (ncx (L2.CX X.prog X.w) X.prog X.w X.K X.mg X.base N F.nf f A outer s H E) F.body (tb E))
    (tk : Takes ((cxOf C8.CX0 X.prog X.w X.K X.mg X.base Ng x sg g cdg X.A X.stack s H C8.E0).tr pn xe) W) (hr : Room (k + 1) (X.A.deeper (envOfC x sg s.heap.objs.size g cdg)))
    (hN : Ng[0]? = some a) (hv : Vis sg a) (hd : (a == ("__debug__" : Str)) = false := by decide) (hcd : (a == ("__classdict__" : Str)) = false := by decide) :
    PE ((cxOf C8.CX0 X.prog X.w X.K X.mg X.base Ng x sg g cdg X.A X.stack s H C8.E0).tr pn xe) (.Call (.Name a p1) [] [] p2) (tAct f F tb N ws W) := by
  refine ⟨fun pinsZ sZ σZ HZ Q IZ ⟨hs, hf, hc, ht⟩ => ?_⟩
  refine wpAny_Call_Name_kw (thn ((pe_var (pos := p1) (i := 0) hN hv hd hcd).run pinsZ sZ σZ HZ (fun v H1 => v = .ref f ∧ H1 = HZ) IZ ⟨.ref f, hs, rfl, rfl⟩) fun u s1 ⟨v, H1, I1, r1, q1, q2⟩ => ?_)
  subst q1
  subst q2
  obtain rfl : u = Value.ref f := r1
  obtain ⟨pm, ctv, hob⟩ := lamO_at I1.hok hf
  refine PySem.W.callWith_F0 ⟨_, _, _, _, hob⟩ ?_
  refine wpAny_call (codeAny_mono (lam_run (N := N) (fr := fr) (F := F) (f := f) S hbind hbody hr I1.env0 ⟨pm, ctv, hob⟩ (codeO_at I1.hok hc) (cells_later C rfl I1) ht) fun r s' hq => ?_)
  cases r with
  | error e => exact passAt tk σZ pinsZ H1 s1 e s' I1 hq
  | ok fl =>
    cases fl with
    | ret u => exact I1.after hq
    | next => exact False.elim hq
    | brk => exact False.elim hq
    | cont => exact False.elim hq
/-- x(lambda: body): x's body reads BODY of the call -/
def tLam2 (T : List (Addr × Str)) (mk : Addr → LmW) (tb : XK → TE) (N : List Str) (js : List Nat) (Ng : List Str) (BODY : (WX → TE) → TS) : TE := fun σ H Q => Tabs T H ∧ ∀ (f c' : Addr) (H1 : Hp), ExtN H H1 → (∀ b, H1 b = Option.none → H b = Option.none) → Tabs T H1 → H f = none → H1 f = some (LamO f (mk c')) → H1 c' = some (CodeO c' (mk c').qual) →
  BODY (tAct f (mk c') tb N (js.map (slotAt σ))) { nx := fun _ H' => Q .non H', rt := Q } (L2.start Ng [.ref f]) H1
theorem pe_lamcall2 {T : List (Addr × Str)} {x a : Str} {g c P : Addr} {k : Nat} {pg : Arguments} {bg : List Stmt} {sg : Scope} {dV kV doc pm cdv ct oc : Value} {an od : Option Addr} {osl : Array (Option Value)} {Ng N fr : List Str} {js : List Nat} {BODY : (WX → TE) → TS}
    {params : Arguments} {body : Expr} {scope : Scope} {tb : XK → TE} {p lpos pos : Pos} (hg : Gl X x) (hm : X.mg x = some (.ref g)) (hk : PySem.W.keepIn X.K (.ref g) = true)
    (lk : X.K.lookup g = some ⟨oc, od, .func (PySem.W.fnOf x x pg bg sg dV kV doc pm an cdv ct), osl⟩) (hcg : PySem.W.codeIn X.K cdv x = true) (hb : L2.Binds X.K (PySem.W.fnOf x x pg bg sg dV kV doc pm an cdv ct) [a] []) (Sg : FnScope Ng [a] sg) (hNg : Ng[0]? = some a) (hva : Vis sg a)
    (TB : TabB X.base X.mg c P) (hcode : X.env.code = .ref c) (hmT : (P, X.env.qual ++ "<lambda>") ∈ T) (hu : ∀ p ∈ T, p.1 = P → p.2 = X.env.qual ++ "<lambda>") (hr : Room (k + 2) X.A) (L : LamS X.env.scope scope) (hdef : defaultsOf params X.env = ([], []))
    (S : NScope N [] fr scope) (hfr : ∀ y ∈ fr, (y, NameKind.free) ∈ scope.names) (hjs : js.map (fun j => X.N[j]?) = fr.map some)
    (hbind : ∀ (q : Str) (cl : List (Str × Addr)) (pm cv ctv : Value), bindArgs (PySem.W.kla_fn "<lambda>" q params body scope cl pm cv ctv) ⟨[], []⟩ = pure [])
    (hbody : ∀ (cl : List (Str × Addr)) (c' f : Addr) (A : Around) (outer : List Env) (s : Shared) (H : Hp) (E : XK), Room k (A.deeper (envF (⟨X.env.qual ++ "<lambda>", params, body, scope, cl, c'⟩ : LmW).nf f s.heap.objs.size)) →
      PE (ncx (L2.CX X.prog X.w) X.prog X.w X.K X.mg X.base N (⟨X.env.qual ++ "<lambda>", params, body, scope, cl, c'⟩ : LmW).nf f A outer s H E) body (tb E))
    (hG : ∀ (s : Shared) (H : Hp) (tc : WX → TE), (∀ (W : WX) (pn : List (Addr × Obj)) (xe : Value → Shared → Prop) (p1 p2 : Pos), Takes ((cxOf C8.CX0 X.prog X.w X.K X.mg X.base Ng x sg g cdv X.A X.stack s H C8.E0).nox.tr pn xe) W → PE ((cxOf C8.CX0 X.prog X.w X.K X.mg X.base Ng x sg g cdv X.A X.stack s H C8.E0).nox.tr pn xe) (.Call (.Name a p1) [] [] p2) (tc W)) →
      Room (k + 1) (X.A.deeper (envOfC x sg s.heap.objs.size g cdv)) → PSs (cxOf C8.CX0 X.prog X.w X.K X.mg X.base Ng x sg g cdv X.A X.stack s H C8.E0).nox bg (BODY tc))
    (hdb : (x == ("__debug__" : Str)) = false := by decide) (hd : (a == ("__debug__" : Str)) = false := by decide) (hcd : (a == ("__classdict__" : Str)) = false := by decide) :
    PE X (.Call (.Name x p) [.Lambda params body scope lpos] [] pos) (tLam2 T (fun c' => ⟨X.env.qual ++ "<lambda>", params, body, scope, cloFrom X.env.cells scope.names [], c'⟩) tb N js Ng BODY) := by
  refine ⟨fun pins s σ H Q I h => ?_⟩
  obtain ⟨hT, h⟩ := h
  refine wpAny_Call_Name_kw (ld_glob I hg hm ?_ hdb)
  refine PySem.W.callWith_K (h₀ := X.base) I.ok.mod.kin hk ?_ (by rfl) (by rfl)
  show wpAny _ _ (spliced ((false, eval (.Lambda params body scope lpos) X.env) :: backTo pos (starEach [] X.env))) _ _ s
  refine Calls.spliced_cons (lam_keep I TB hcode hmT hu hT hdef (L.has I.ok) fun f c' H1 s' I1 eN dm T1 nf hf hco => ?_)
  refine Calls.spliced_nil ⟨I1.kIn, ?_⟩
  have C : CellsAt (cloFrom X.env.cells scope.names []) fr (js.map (slotAt σ)) s'.heap H1 := cells_of I1 (Caps.made I1.ok L.free hfr hjs)
  have rc : codeAny (model X.prog X.w) X.A (.call (.ref g) ⟨[.ref f], []⟩) (CR C8.CX0 X.stack X.prog X.w H1 s' Q C8.E0) s' := by
    refine run_ofS (N := Ng) (ps := [a]) (us := [.ref f]) (vs := [.ref f]) lk hcg Sg hr I1.env0 (hb s' [.ref f] I1.kIn rfl) (.cons rfl .nil) rfl fun hr' => ?_
    refine ⟨_, (hG s' H1 _ (fun W pn xe p1 p2 tk => pe_act2 (X := X) (k := k) (F := ⟨X.env.qual ++ "<lambda>", params, body, scope, cloFrom X.env.cells scope.names [], c'⟩) (f := f) S hbind C (fun A outer s H E hr2 => hbody _ c' f A outer s H E hr2) tk hr' hNg hva hd hcd) hr').nox, h f c' H1 eN dm T1 nf hf hco⟩
  refine wpAny_call (codeAny_mono rc fun r s2 hq => ?_)
  cases r with
  | error e => exact (show False from hq).elim
  | ok fl =>
    cases fl with
    | ret u => exact I1.after hq
    | next => exact False.elim hq
    | brk => exact False.elim hq
    | cont => exact False.elim hq
end
end LamY
/-! DL42: a lambda handed at once, as data. -/
namespace DL
open PySem PySem.Spec PyProof.Rows L2 LamX LamY
section
variable {Z : Cs} {ρ : List En} {W : WX} {er : Er}
/-- the lambda that was handed, as data -/
abbrev cloA (f : Addr) (F : LmW) : D := .clo f [(f, LamO f F), (F.c, CodeO F.c F.qual)] [] []
theorem wre_act {f : Addr} {F : LmW} {tb : XK → TE} {N : List Str} {ds : List D} {vs : List V} (hN : N.length = ds.length) (hr : ∀ H, RepL Z H noA ds vs) (hs : ρ[0]? = some (.v (cloA f F)))
    (hB : ∀ E : XK, Wre Z (fun cls d _ H => E cls d H) (tb E) (ds.map .v) er) : Wre Z W (tAct f F tb N (vs.map some) W) ρ er := fun r X σ H E kx k => by
  obtain ⟨v, e1, e2⟩ := E.at_ 0 _ hs
  obtain ⟨rfl, ob, _⟩ := rep_clo.mp e2
  have o1 := (ob _ (.head _)).2.2
  have o2 := (ob _ (.tail _ (.head _))).2.2
  have lv := (hr H).length
  refine ⟨e1, o1, o2, ?_⟩
  have S := sv_start (N := N) (hr H) fun a z => False.elim z
  have es : startE N ds = ds.map .v := by unfold startE; rw [hN, Nat.sub_self]; simp
  have ef : L2.start N vs = NdefX.startF N [] (vs.map some) := by
    unfold L2.start NdefX.startF
    rw [hN, lv, List.length_map, lv, List.length_nil, Nat.sub_zero, Nat.sub_self]
    simp
  rw [es, ef] at S
  exact hB _ none _ _ _ S (fun cls dd H' E1 f1 er1 => by
    have sm : Same H H' := fun a o e => f1.fx a o e fun z => nomatch z
    exact kx cls dd _ (E.same sm) (Fx.same sm) er1) _
theorem we_act {f : Addr} {F : LmW} {tb : XK → TE} {N : List Str} {ds : List D} {vs : List V} {Q : D → Prop} (hN : N.length = ds.length) (hr : ∀ H, RepL Z H noA ds vs) (hs : ρ[0]? = some (.v (cloA f F)))
    (hB : ∀ E : XK, We Z (tb E) (ds.map .v) fun d => LF d = true ∧ Q d) : We Z (tAct f F tb N (vs.map some) W) ρ Q := fun r X σ H E k hk => by
  obtain ⟨v, e1, e2⟩ := E.at_ 0 _ hs
  obtain ⟨rfl, ob, _⟩ := rep_clo.mp e2
  have o1 := (ob _ (.head _)).2.2
  have o2 := (ob _ (.tail _ (.head _))).2.2
  have lv := (hr H).length
  refine ⟨e1, o1, o2, ?_⟩
  have S := sv_start (N := N) (hr H) fun a z => False.elim z
  have es : startE N ds = ds.map .v := by unfold startE; rw [hN, Nat.sub_self]; simp
  have ef : L2.start N vs = NdefX.startF N [] (vs.map some) := by
    unfold L2.start NdefX.startF
    rw [hN, lv, List.length_map, lv, List.length_nil, Nat.sub_zero, Nat.sub_self]
    simp
  rw [es, ef] at S
  exact hB _ none _ _ _ S _ fun u d H' E1 f1 b1 ⟨l, q⟩ => by
    have sm : Same H H' := fun a o e => f1.fx a o e fun z => nomatch z
    exact hk u d H' (E.same sm) (Fx.same sm) (Rep.lf l b1) q
end
/-- x(lambda: body), which tells a text -/
theorem we_lam2 {Z : Cs} {ρ : List En} {T : List (Addr × Str)} {mk : Addr → LmW} {tb : XK → TE} {N : List Str} {js : List Nat} {Ng : List Str} {BODY : (WX → TE) → TS} {vs : List V} {w : Str} {Q : D → Prop} (hmk : ∀ c', (mk c').c = c')
    (hNg : Ng.length = 3) (hj : ∀ r H σ, Sv Z r noA H σ ρ → js.map (NdefX.slotAt σ) = vs.map some)
    (hW : ∀ f c', Wc Z (BODY (tAct f (mk c') tb N (vs.map some))) [.v (cloA f (mk c')), .un, .un] { nx := fun _ => D.non = .str w, rt := fun d => d = .str w, rl := fun es => D.lst es = .str w, rd := fun k => D.dt k = .str w }) (hq : Q (.str w)) : WeT Z T (tLam2 T mk tb N js Ng BODY) ρ Q := fun r σ H E t k hk => by
  refine ⟨t, fun f c' H1 eN dm T1 nf hf hc => ?_⟩
  rw [hj r H σ E]
  have hE1 : Sv Z r noA H1 σ ρ := E.extN eN fun a o e => by
    cases z : H1 a with
    | none => rw [dm a z] at e; cases e
    | some o' => exact ⟨o', rfl⟩
  have rp : RepL Z H1 noA [cloA f (mk c')] [.ref f] := repL_cons.mpr ⟨_, _, rfl, rep_clo.mpr ⟨rfl, fun p hp => by
    simp only [List.mem_cons, List.not_mem_nil, or_false] at hp
    rcases hp with rfl | rfl
    · exact ⟨lamO_nt, fun z => z, hf⟩
    · exact ⟨codeO_ne, fun z => z, by rw [hmk]; exact hc⟩, repL_nil.mpr rfl⟩, repL_nil.mpr rfl⟩
  have S := sv_start (N := Ng) rp fun a z => False.elim z
  have es : startE Ng [cloA f (mk c')] = [.v (cloA f (mk c')), .un, .un] := by unfold startE; rw [hNg]; rfl
  have no : ∀ (σ : L2.St) a, ¬ Ow σ (startE Ng [cloA f (mk c')]) a := fun _ _ => start_ow rp
  rw [es] at S no
  refine hW f c' none noA _ _ S _ (fun σ' ρ' H' _ _ q => nomatch q) (fun v d H' σ' ρ' E' f' b q => ?_) (fun _ _ _ _ _ _ _ _ _ _ _ q => nomatch q) (fun _ _ _ _ _ _ _ _ _ q => nomatch q)
  subst q
  have sm : Same H1 H' := fr_same (no _) f'
  exact hk v _ H' (hE1.same sm) (T1.ext fun b o e => sm b o e) (rep_str.mpr (rep_str.mp b)) hq
end DL
/-! DL43: a class made, with its refusal; a def that tells kept lambdas, called; insert; a law with tables. -/
namespace DL
open PySem PySem.Spec PyProof.Rows L2 LamX LamY
structure MakX (P : Program) (w : World) (K : PySem.W.Frag) (mg : Str → Option Value) (base : Heap) (C : Addr) (k : Nat) (ps : List Str) (sp : Sp) : Prop where
  ex : ∃ f fd, Mk K C f ∧ FnOk P w K mg base (L2.CX P w) k f fd ps sp ∧ Binds K fd ps []
section
variable {Z : Cs} {ρ : List En} {Q : D → Prop} {te ti : TE} {tl ta : TA} {P : Po} {i : Nat} {ds : List D} {er : Er} {spec : List D → Er → Prop}
/-- C(g, s), refused -/
theorem wre_make {g s : Int} {E' : XK} (h : Wab Z tl ρ fun ds => ds = [.int g, .int s]) (q : ∀ x, spec [.raw x, .int g, .int s] er) : Wre Z (fun cls d _ H => E' cls d H) (tMake Z.C (SpE Z (SpI Z) spec) [] E' tl) ρ er := fun r X σ H E kx k =>
  h r X σ H E _ fun vs ds H1 E1 f1 b1 e x dx hx hdx hne => by
    subst e
    obtain ⟨w, w2, rfl, b, b2⟩ := b1.two
    have e := b.int
    have e2 := b2.int
    subst e e2
    refine .inr ⟨noA, [.raw x, .int g, .int s], er, repL_cons.mpr ⟨_, _, rfl, rep_raw.mpr rfl, repL_cons.mpr ⟨_, _, rfl, rep_int.mpr rfl, repL_cons.mpr ⟨_, _, rfl, rep_int.mpr rfl, repL_nil.mpr rfl⟩⟩⟩, fun a z => False.elim z, q x, fun cls d H2 sm0 e => ?_⟩
    have sm : Same H1 H2 := fun b o e => sm0 b o (by rw [upd_ne (ne_of_none e hx), upd_ne (ne_of_none e hdx)]; exact e)
    exact kx cls d H2 (E1.same sm) (f1.trans (Fx.same sm)) e
/-- .. made -/
theorem we_makeE {E' : XK} (h : Wab Z tl ρ fun ds => ∃ g s, ds = [.int g, .int s] ∧ goodP g s ∧ Q (.pty g s)) : We Z (tMake Z.C (SpE Z (SpI Z) spec) [] E' tl) ρ Q := fun r X σ H E k hk =>
  h r X σ H E _ fun vs ds H1 E1 f1 b1 ⟨g, s, e, hg, q⟩ x dx hx hdx hne => by
    subst e
    obtain ⟨w, w2, rfl, b, b2⟩ := b1.two
    have e := b.int
    have e2 := b2.int
    subst e e2
    refine .inl ⟨x, dx, g, s, rfl, upd_same, hg, fun H2 k1 k2 => ⟨rfl, ?_⟩⟩
    have sm : Same H1 H2 := fun b o e => k1 b o (ne_of_none e hx) (by rw [upd_ne (ne_of_none e hx), upd_ne (ne_of_none e hdx)]; exact e)
    exact hk _ _ H2 (E1.same sm) (f1.trans (Fx.same sm)) (rep_pty.mpr ⟨x, dx, rfl, k2⟩) q
end
/-! ### a def that tells kept lambdas -/
theorem Sv.extN0 {Z : Cs} {r : Option Addr} {H H' : Hp} {σ : L2.St} {ρ : List En} (E : Sv Z r noA H σ ρ) (t : ExtN H H') : Sv Z r noA H' σ ρ := by
  refine ⟨E.len, fun i e q => ?_, E.dis, fun a z => False.elim z, fun a z => ?_⟩
  · have k := E.at_ i e q
    cases e with
    | un => trivial
    | v d => obtain ⟨v, e1, e2⟩ := k; exact ⟨v, e1, e2.extN t⟩
    | l ds => obtain ⟨a, vs, e1, e2, e3⟩ := k; exact ⟨a, vs, e1, t _ _ e2 (fun _ z => nomatch z), e3.extN t⟩
    | t kvs => obtain ⟨a, e1, e2⟩ := k; exact ⟨a, e1, t _ _ e2 (fun _ z => nomatch z)⟩
    | row => exact k
  · obtain ⟨⟨sc, i, m, g, ns, ha, hs, l1, l2, l3, l4⟩, q2, q3⟩ := E.row a z
    exact ⟨⟨sc, i, m, g, ns, t _ _ ha (fun _ z => nomatch z), rd_ext t hs, l1, l2, l3, l4⟩, q2, q3⟩
def SpClos (TL : List (Addr × Str)) (q : Str) (Λ : Nat → Lm3) (y1 y2 : Str) (n : Nat) : Sp := fun vs H Q _ => ∃ v1 v2 : V, vs = [v1, v2] ∧ LamX.Tabs TL H ∧ ∀ (l : Addr) (H2 : Hp), LamX.ExtN H H2 → LamX.Tabs TL H2 → H l = none →
  (∃ fs : List Addr, H2 l = some (.lst (fs.map V.ref)) ∧ fs.length = n ∧ ∀ i f, fs[i]? = some f → ∃ cl c' c1 c2, LamY.CloB q (Λ i) y1 y2 H2 f cl c' c1 c2 v1 v2) → Q (.ref l) H2
theorem clos_told {Z : Cs} {A : Addr → Prop} {H : Hp} : ∀ (fs : List Addr) {R : Nat → D → Prop}, (∀ i f, fs[i]? = some f → ∃ d, R i d ∧ Rep Z H A d (.ref f)) → ∃ ds : List D, ds.length = fs.length ∧ RepL Z H A ds (fs.map V.ref) ∧ ∀ i d, ds[i]? = some d → R i d
  | [], R, h => ⟨[], rfl, repL_nil.mpr rfl, fun i d e => by simp at e⟩
  | f :: fs, R, h => by
    obtain ⟨d, r, b⟩ := h 0 f rfl
    obtain ⟨ds, l, q, k⟩ := clos_told fs (R := fun i => R (i + 1)) fun i g e => h (i + 1) g (by simpa using e)
    refine ⟨d :: ds, by simp [l], repL_cons.mpr ⟨_, _, rfl, b, q⟩, fun i d' e => ?_⟩
    cases i with
    | zero => cases e; exact r
    | succ i => exact k i d' (by simpa using e)
theorem we_clos {Z : Cs} {ρ : List En} {Q : D → Prop} {ta : TA} {TL : List (Addr × Str)} {q : Str} {Λ : Nat → Lm3} {y1 y2 : Str} {n : Nat} {E' : XK} {d1 d2 : D} (h : Wa Z ta ρ fun ds => ds = [d1, d2])
    (hQ : ∀ ds : List D, ds.length = n → (∀ i d, ds[i]? = some d → IsClo q (Λ i) y1 y2 d d1 d2) → Q (.lst ds)) : WeT Z TL (tCall (SpClos TL q Λ y1 y2 n) [] E' ta) ρ Q := fun r σ H E t k hk => h r noA σ H E _ fun vs ds H1 E1 f1 b1 e => by
  subst e
  rw [List.append_nil]
  obtain ⟨v1, r1, rfl, c1, c2⟩ := repL_cons.mp b1
  obtain ⟨v2, r2, rfl, c3, c4⟩ := repL_cons.mp c2
  obtain rfl := repL_nil.mp c4
  refine ⟨v1, v2, rfl, tabs_fx E f1 t, fun l H2 eN t2 nl ⟨fs, hl, hn, hfs⟩ => ?_⟩
  have E2 : Sv Z r noA H2 σ ρ := E1.extN0 eN
  have b2 := b1.extN eN
  obtain ⟨ds, k1, k2, k3⟩ := clos_told (Z := Z) (A := Av r noA σ ρ) (H := H2) fs (R := fun i d => IsClo q (Λ i) y1 y2 d d1 d2) fun i f e => by
    obtain ⟨cl, c', x1, x2, B⟩ := hfs i f e
    exact clo_rep B (fun b φ e => (av_not E2 (fun _ z => z) e (fun _ z => nomatch z) fun _ z => nomatch z).2.2) b2
  refine hk (.ref l) (.lst ds) H2 E2 t2 (rep_lst.mpr ⟨l, _, rfl, fun z => ?_, hl, k2⟩) (hQ ds (k1.trans hn) k3)
  obtain ⟨o, e⟩ := E1.av_tracked z
  rw [nl] at e
  cases e
/-! ### a law with tables -/
def spLawT (K : PySem.W.Frag) (TL : List (Addr × Str)) : Sp := fun vs H Q _ => ∃ (a : Addr) (ns : List Int), vs = [.ref a] ∧ SqL K H a (ns.map V.int) ∧ ns.length ≤ 63 ∧ Tabs TL H ∧ ∀ H', Q (.bl true) H'
theorem run_lawT {Z : Cs} {TL : List (Addr × Str)} {ts : TS} {n : Nat} {N : List Str} {vs : List V} {H : Hp} {Q : VK} {E : XK} (h : spLawT Z.K TL vs H Q E) (hn : N.length = n + 2)
    (hw : WcT Z TL ts (.un :: .row :: List.replicate n .un) { nx := fun _ => False, rt := fun d => d = .bl true }) : tSeq tRow ts { nx := fun _ H' => Q .non H', rt := Q } (start N vs) H := by
  obtain ⟨a, ns, rfl, hS, hl, tb, q⟩ := h
  have e : start N [.ref a] = some (.ref a) :: none :: List.replicate n none := by
    unfold L2.start
    rw [hn]
    show some (V.ref a) :: List.replicate (n + 2 - 1) none = _
    rw [show n + 2 - 1 = n + 1 by omega, List.replicate_succ]
  rw [e]
  refine ⟨_, rfl, ?_⟩
  show 4 ≤ sizeLine ∧ _
  refine ⟨by decide, fun p hp => ?_⟩
  have es : (some (V.ref a) :: none :: List.replicate n none : L2.St).set 1 (some (.ref p)) = some (.ref a) :: some (.ref p) :: List.replicate n none := rfl
  show ts _ ((some (V.ref a) :: none :: List.replicate n none : L2.St).set 1 (some (.ref p))) _
  rw [es]
  have nr : ∀ i e, (En.un :: .row :: List.replicate n .un)[i]? = some e → e = .un ∨ (e = .row ∧ i = 1) := fun i e h => by
    match i, h with
    | 0, h => cases h; exact .inl rfl
    | 1, h => cases h; exact .inr ⟨rfl, rfl⟩
    | i + 2, h =>
      have h' : (List.replicate n En.un)[i]? = some e := h
      exact .inl (List.eq_of_mem_replicate (List.mem_of_getElem? h'))
  have no : ∀ (σ : L2.St) b, ¬ Ow σ (En.un :: .row :: List.replicate n .un) b := fun σ b ⟨i, e, h1, h2, _⟩ => by
    rcases nr i e h1 with rfl | ⟨rfl, _⟩ <;> cases h2
  have av : ∀ (σ : L2.St) b, Av (some p) noA σ (En.un :: .row :: List.replicate n .un) b → b = p := fun σ b z => by
    rcases z with z | z | z
    · exact absurd z (no _ b)
    · exact False.elim z
    · cases z; rfl
  have hr : RowOk Z.K (upd H p (.lst [.ref a, .int 0, .int 0, .int 0])) (Av (some p) noA (some (.ref a) :: some (.ref p) :: List.replicate n none) (.un :: .row :: List.replicate n .un)) p := by
    refine ⟨a, 0, 0, 0, ns, upd_same, ?_, hl, by decide, by decide, by decide⟩
    rcases hS with hS | hS
    · have ne : a ≠ p := by
        rcases hS with hS | ⟨o, hS⟩
        · exact ne_of_none hS hp
        · exact ne_of_none hS hp
      refine .inl ⟨fun z => ne (av _ a z), ?_⟩
      rcases hS with hS | ⟨o, hS⟩
      · exact .inl (by rw [upd_ne ne]; exact hS)
      · exact .inr ⟨o, by rw [upd_ne ne]; exact hS⟩
    · exact .inr (.inr hS)
  refine hw (some p) _ _ ⟨by simp, fun i e h => ?_, fun i j e e' b h _ o _ _ _ => ?_, fun b z => False.elim z, fun b z => ?_⟩ (tabs_new tb hp) _ (fun _ _ _ _ _ q => False.elim q) (fun v d H' σ' ρ' E b k => ?_)
  · rcases nr i e h with rfl | ⟨rfl, rfl⟩
    · trivial
    · exact ⟨p, rfl, rfl⟩
  · rcases nr i e h with rfl | ⟨rfl, _⟩ <;> cases o
  · cases z
    exact ⟨hr, no _ p, fun z => z⟩
  · subst k
    rw [rep_bl.mp b]
    exact q H'
end DL
/-! N1: the plain facts of newfaces: tables, rounds, pairs. -/
namespace NF
open PySem PySem.Spec PyProof.Rows L2 DL
abbrev sqD (b : Bool) (ns : List Int) : D := if b then .lst (ns.map .int) else .tup (ns.map .int)
theorem getD_at {α : Type} {l : List α} {i : Nat} (d : α) (h : i < l.length) : l.getD i d = l[i] := by rw [List.getD, List.getElem?_eq_getElem h]; rfl
def isInc (ns : List Int) : Bool := decide (ns.Pairwise (· < ·))
theorem inc_iff : ∀ ns : List Int, ns.Pairwise (· < ·) ↔ ∀ i : Nat, ∀ h : i + 1 < ns.length, ns[i] < ns[i + 1]
  | [] => by simp
  | [a] => by simp
  | a :: b :: r => by
    rw [List.pairwise_cons, inc_iff (b :: r)]
    constructor
    · rintro ⟨h1, h2⟩ i hi
      cases i with
      | zero => exact h1 b (by simp)
      | succ i => exact h2 i (by simpa using hi)
    · intro h
      have h2 : ∀ i : Nat, ∀ hh : i + 1 < (b :: r).length, (b :: r)[i] < (b :: r)[i + 1] := fun i hi => h (i + 1) (by simpa using hi)
      refine ⟨fun x hx => ?_, h2⟩
      have hab : a < b := h 0 (by simp)
      have p := (inc_iff (b :: r)).mpr h2
      rcases List.mem_cons.mp hx with rfl | hx
      · exact hab
      · exact Int.lt_trans hab ((List.pairwise_cons.mp p).1 x hx)
/-- the places at which it does not rise -/
theorem rises_all (ns : List Int) : (((List.range (ns.length - 1)).filter fun i => decide (ns.getD i 0 ≥ ns.getD (i + 1) 0)).isEmpty) = isInc ns := by
  rw [isE_filter]
  unfold isInc
  rw [Bool.eq_iff_iff, List.all_eq_true, decide_eq_true_eq, inc_iff]
  constructor
  · intro h i hi
    have := h i (List.mem_range.mpr (by omega))
    rw [getD_at 0 (by omega), getD_at 0 hi] at this
    simpa using this
  · intro h i hi
    have hi := List.mem_range.mp hi
    have := h i (by omega)
    rw [getD_at 0 (by omega), getD_at 0 (by omega)]
    simpa using this
def isTab (g s : Int) (t : List Int) : Bool := decide (1 ≤ t.length ∧ (t.length : Int) ≤ s) && isInc t && t.all fun x => decide (0 ≤ x ∧ x < g)
theorem inc_all {g : Int} {t : List Int} (h : isInc t = true) (ne : t ≠ []) : (t.all fun x => decide (0 ≤ x ∧ x < g)) = (decide (0 ≤ t.head ne) && decide (t.getLast ne < g)) := by
  have p : t.Pairwise (· < ·) := by simpa [isInc] using h
  rw [Bool.eq_iff_iff, List.all_eq_true]
  simp only [Bool.and_eq_true, decide_eq_true_eq]
  constructor
  · exact fun q => ⟨(q _ (List.head_mem ne)).1, (q _ (List.getLast_mem ne)).2⟩
  · rintro ⟨q1, q2⟩ x hx
    have h1 : t.head ne ≤ x := by
      cases t with
      | nil => cases hx
      | cons a t =>
        rcases List.mem_cons.mp hx with rfl | hx
        · exact Int.le_refl _
        · exact Int.le_of_lt ((List.pairwise_cons.mp p).1 x hx)
    have h2 : x ≤ t.getLast ne := by
      have e := List.dropLast_concat_getLast ne
      rw [← e] at hx p
      rcases List.mem_append.mp hx with hx | hx
      · exact Int.le_of_lt ((List.pairwise_append.mp p).2.2 x hx _ (by simp))
      · simp at hx; subst hx; exact Int.le_refl _
    omega
def isRnd (g s : Int) (r : List (List Int)) : Bool := decide ((r.length : Int) ≤ g / s) && (r.all (isTab g s) && (isInc (r.map fun t => t.headD 0) && isInc (srtI r.flatten)))
def Sml (r : List (List Int)) : Prop := r.length ≤ 70 ∧ ∀ t ∈ r, t.length ≤ 70
theorem Sml.flat {r : List (List Int)} (h : Sml r) : r.flatten.length ≤ 70 * r.length := by
  have : ∀ r : List (List Int), (∀ t ∈ r, t.length ≤ 70) → r.flatten.length ≤ 70 * r.length := by
    intro r
    induction r with
    | nil => simp
    | cons a r ih =>
      intro q
      rw [List.flatten_cons, List.length_append, List.length_cons]
      have := ih fun t ht => q t (List.mem_cons_of_mem _ ht)
      have := q a (by simp)
      omega
  exact this r h.2
/-! pairs -/
def prsT : List Int → List (Int × Int)
  | [] => []
  | x :: xs => xs.map (fun y => (x, y)) ++ prsT xs
def prsR (r : List (List Int)) : List (Int × Int) := r.flatMap prsT
theorem prsT_len : ∀ t : List Int, 2 * (prsT t).length + t.length = t.length * t.length
  | [] => rfl
  | x :: xs => by
    have ih := prsT_len xs
    show 2 * (xs.map (fun y => (x, y)) ++ prsT xs).length + (xs.length + 1) = (xs.length + 1) * (xs.length + 1)
    rw [List.length_append, List.length_map, Nat.add_mul, Nat.mul_add xs.length]
    omega
theorem prsT_le {t : List Int} (h : t.length ≤ 70) : (prsT t).length ≤ 2415 := by
  have e := prsT_len t
  by_cases h0 : t.length = 0
  · rw [h0] at e; omega
  · have h1 : t.length * t.length ≤ t.length * 70 := Nat.mul_le_mul_left _ h
    have h2 : t.length * t.length = t.length * (t.length - 1) + t.length := by
      rw [← Nat.mul_succ]; congr 1; omega
    have h3 : t.length * (t.length - 1) ≤ 70 * 69 := Nat.mul_le_mul h (by omega)
    omega
theorem prsR_cons (t : List Int) (r : List (List Int)) : prsR (t :: r) = prsT t ++ prsR r := List.flatMap_cons
theorem prsR_app (r q : List (List Int)) : prsR (r ++ q) = prsR r ++ prsR q := List.flatMap_append
theorem prsR_one (t : List Int) : prsR [t] = prsT t := by rw [prsR_cons]; simp [prsR]
theorem Sml.prs {r : List (List Int)} (h : Sml r) : (prsR r).length ≤ 169050 := by
  have : ∀ r : List (List Int), (∀ t ∈ r, t.length ≤ 70) → (prsR r).length ≤ 2415 * r.length := by
    intro r
    induction r with
    | nil => simp [prsR]
    | cons a r ih =>
      intro q
      rw [prsR_cons, List.length_append, List.length_cons]
      have := ih fun t ht => q t (List.mem_cons_of_mem _ ht)
      have := prsT_le (q a (by simp))
      omega
  have := this r h.2
  have := h.1
  omega
theorem Sml.part {a b : List (List Int)} (h : Sml (a ++ b)) : Sml a := ⟨by have := h.1; rw [List.length_append] at this; omega, fun t ht => h.2 t (List.mem_append_left _ ht)⟩
/-- the pairs of the first k -/
def prsK (t : List Int) (k : Nat) : List (Int × Int) := (List.range k).flatMap fun i => (t.drop (i + 1)).map fun y => (t.getD i 0, y)
theorem prsK_succ (t : List Int) (k : Nat) : prsK t (k + 1) = prsK t k ++ (t.drop (k + 1)).map fun y => (t.getD k 0, y) := by
  unfold prsK
  rw [List.range_succ, List.flatMap_append]
  simp
theorem prsK_cons (x : Int) (xs : List Int) : ∀ k : Nat, prsK (x :: xs) (k + 1) = xs.map (fun y => (x, y)) ++ prsK xs k
  | 0 => by
    rw [prsK_succ]
    simp [prsK]
  | k + 1 => by
    rw [prsK_succ, prsK_cons x xs k, prsK_succ, List.append_assoc]
    rfl
theorem prsK_all : ∀ t : List Int, prsK t t.length = prsT t
  | [] => rfl
  | x :: xs => by
    rw [List.length_cons, prsK_cons, prsK_all xs]
    rfl
theorem prsK_le (t : List Int) (k : Nat) (h : k ≤ t.length) : (prsK t k).length ≤ (prsT t).length := by
  rw [← prsK_all]
  have : ∀ a b : Nat, (prsK t a).length ≤ (prsK t (a + b)).length := by
    intro a b
    induction b with
    | zero => exact Nat.le_refl _
    | succ b ih => rw [← Nat.add_assoc, prsK_succ, List.length_append]; omega
  have := this k (t.length - k)
  rwa [show k + (t.length - k) = t.length by omega] at this
/-! dicts by pairs -/
structure KeyOf (kvs : List (List Int × V)) (S : List (Int × Int)) : Prop where
  nd : (kvs.map (·.1)).Nodup
  mem : ∀ k, k ∈ kvs.map (·.1) ↔ ∃ x ∈ S, k = [x.1, x.2]
  len : kvs.length ≤ S.length
theorem KeyOf.nil : KeyOf [] [] := ⟨by simp, fun k => by simp, Nat.le_refl _⟩
theorem valV_mem {κ : Type} [DecidableEq κ] (kvs : List (κ × V)) (k : κ) : (valV kvs k).isSome = true ↔ k ∈ kvs.map (·.1) := by
  constructor
  · intro h
    obtain ⟨v, hv⟩ := Option.isSome_iff_exists.mp h
    exact valV_in hv
  · intro h
    cases e : valV kvs k with
    | some v => rfl
    | none => exact absurd h (valV_not e)
theorem putK_keys {κ : Type} [DecidableEq κ] (kvs : List (κ × V)) (k : κ) (v : V) : (putK kvs k v).map (·.1) = if k ∈ kvs.map (·.1) then kvs.map (·.1) else kvs.map (·.1) ++ [k] := by
  unfold putK
  rw [valV_any]
  by_cases h : k ∈ kvs.map (·.1)
  · rw [if_pos ((valV_mem kvs k).mpr h), if_pos h, List.map_map]
    apply List.map_congr_left
    intro x _
    show (if x.1 = k then (x.1, v) else x).1 = x.1
    split <;> rfl
  · rw [if_neg (fun z => h ((valV_mem kvs k).mp z)), if_neg h, List.map_append]
    rfl
theorem putK_nd {κ : Type} [DecidableEq κ] {kvs : List (κ × V)} (h : (kvs.map (·.1)).Nodup) (k : κ) (v : V) : ((putK kvs k v).map (·.1)).Nodup := by
  rw [putK_keys]
  split
  · exact h
  · rename_i z
    rw [List.nodup_append]
    refine ⟨h, by simp, fun a ha b hb e => ?_⟩
    rw [List.mem_singleton.mp hb] at e
    subst e
    exact z ha
theorem putK_mem {κ : Type} [DecidableEq κ] (kvs : List (κ × V)) (k j : κ) (v : V) : j ∈ (putK kvs k v).map (·.1) ↔ j ∈ kvs.map (·.1) ∨ j = k := by
  rw [putK_keys]
  split
  · rename_i z
    exact ⟨.inl, fun q => q.elim id fun e => e ▸ z⟩
  · rw [List.mem_append, List.mem_singleton]
theorem KeyOf.put {kvs : List (List Int × V)} {S : List (Int × Int)} (h : KeyOf kvs S) (x : Int × Int) (v : V) : KeyOf (putK kvs [x.1, x.2] v) (S ++ [x]) := ⟨putK_nd h.nd _ _, fun k => by
  rw [putK_mem, h.mem]
  constructor
  · rintro (⟨y, hy, e⟩ | e)
    · exact ⟨y, List.mem_append_left _ hy, e⟩
    · exact ⟨x, by simp, e⟩
  · rintro ⟨y, hy, e⟩
    rcases List.mem_append.mp hy with hy | hy
    · exact .inl ⟨y, hy, e⟩
    · rw [List.mem_singleton.mp hy] at e
      exact .inr e, by
  have := length_putK kvs [x.1, x.2] v
  have := h.len
  rw [List.length_append]
  simp
  omega⟩
theorem KeyOf.has {kvs : List (List Int × V)} {S : List (Int × Int)} (h : KeyOf kvs S) (x : Int × Int) : (valV kvs [x.1, x.2]).isSome = decide (x ∈ S) := by
  rw [Bool.eq_iff_iff, valV_mem, h.mem, decide_eq_true_eq]
  constructor
  · rintro ⟨y, hy, e⟩
    obtain ⟨a, b⟩ := x
    obtain ⟨c, d⟩ := y
    simp at e
    obtain ⟨rfl, rfl⟩ := e
    exact hy
  · exact fun q => ⟨x, q, rfl⟩
theorem KeyOf.perm {kvs : List (List Int × V)} {S S' : List (Int × Int)} (h : KeyOf kvs S) (p : S.Perm S') : KeyOf kvs S' := ⟨h.nd, fun k => by
  rw [h.mem]
  exact ⟨fun ⟨x, hx, e⟩ => ⟨x, p.mem_iff.mp hx, e⟩, fun ⟨x, hx, e⟩ => ⟨x, p.mem_iff.mpr hx, e⟩⟩, by rw [← p.length_eq]; exact h.len⟩
def prsP (p : List (List (List Int))) : List (Int × Int) := p.flatMap prsR
theorem prsP_app (r q : List (List (List Int))) : prsP (r ++ q) = prsP r ++ prsP q := List.flatMap_append
theorem prsP_one (r : List (List Int)) : prsP [r] = prsR r := by simp [prsP]
theorem prsP_take {p : List (List (List Int))} {i : Nat} (h : i < p.length) : prsP (p.take (i + 1)) = prsP (p.take i) ++ prsR p[i] := by
  rw [← List.take_append_getElem h, prsP_app, prsP_one]
theorem prsP_le {p : List (List (List Int))} (h : ∀ r ∈ p, Sml r) : (prsP p).length ≤ 169050 * p.length := by
  induction p with
  | nil => simp [prsP]
  | cons a p ih =>
    show ((a :: p).flatMap prsR).length ≤ _
    rw [List.flatMap_cons, List.length_append, List.length_cons]
    have := ih fun r hr => h r (List.mem_cons_of_mem _ hr)
    have := (h a (by simp)).prs
    show (prsR a).length + (prsP p).length ≤ _
    omega
/-- a good plan -/
structure Good (g s : Int) (p : List (List (List Int))) : Prop where
  rnd : ∀ r ∈ p, isRnd g s r = true
  new : p.Pairwise fun a b => ∀ x ∈ prsR a, x ∉ prsR b
theorem Good.fresh {g s : Int} {p : List (List (List Int))} (h : Good g s p) {i : Nat} (hi : i < p.length) {x : Int × Int} (hx : x ∈ prsR p[i]) : x ∉ prsP (p.take i) := by
  intro z
  obtain ⟨r, hr, hz⟩ := List.mem_flatMap.mp z
  have e : p = p.take i ++ p.drop i := (List.take_append_drop i p).symm
  have hn := h.new
  rw [e] at hn
  have hd : p[i] ∈ p.drop i := List.mem_drop_iff_getElem.mpr ⟨0, by simpa using hi, by simp⟩
  exact (List.pairwise_append.mp hn).2.2 r hr _ hd x hz hx
def SmlP (p : List (List (List Int))) : Prop := p.length ≤ 99 ∧ ∀ r ∈ p, Sml r
end NF
/-! N2: rounds, sorted and thinned; plans. -/
namespace NF
open PySem PySem.Spec PyProof.Rows L2 DL
theorem mem_prsT {a b : Int} : ∀ {t : List Int}, (a, b) ∈ prsT t ↔ [a, b].Sublist t
  | [] => by simp [prsT]
  | x :: xs => by
    show (a, b) ∈ xs.map (fun y => (x, y)) ++ prsT xs ↔ _
    rw [List.mem_append, List.mem_map, mem_prsT]
    constructor
    · rintro (⟨y, hy, e⟩ | h)
      · cases e
        exact (List.singleton_sublist.mpr hy).cons_cons _
      · exact h.cons _
    · intro h
      cases h with
      | cons _ h => exact .inr h
      | cons_cons _ h => exact .inl ⟨b, List.singleton_sublist.mp h, rfl⟩
theorem mem_prsR {x : Int × Int} {r : List (List Int)} : x ∈ prsR r ↔ ∃ t ∈ r, [x.1, x.2].Sublist t := by
  unfold prsR
  rw [List.mem_flatMap]
  obtain ⟨a, b⟩ := x
  constructor
  · rintro ⟨t, ht, h⟩; exact ⟨t, ht, mem_prsT.mp h⟩
  · rintro ⟨t, ht, h⟩; exact ⟨t, ht, mem_prsT.mpr h⟩
theorem tab_iff {g s : Int} {t : List Int} : isTab g s t = true ↔ 1 ≤ t.length ∧ (t.length : Int) ≤ s ∧ t.Pairwise (· < ·) ∧ ∀ x ∈ t, 0 ≤ x ∧ x < g := by
  unfold isTab isInc
  simp only [Bool.and_eq_true, decide_eq_true_eq, List.all_eq_true]
  exact ⟨fun ⟨⟨⟨a, b⟩, c⟩, d⟩ => ⟨a, b, c, d⟩, fun ⟨a, b, c, d⟩ => ⟨⟨⟨a, b⟩, c⟩, d⟩⟩
theorem tab_sub {g s : Int} {t t' : List Int} (h : isTab g s t = true) (p : t'.Sublist t) (ne : t' ≠ []) : isTab g s t' = true := by
  rw [tab_iff] at *
  refine ⟨?_, ?_, h.2.2.1.sublist p, fun x hx => h.2.2.2 x (p.subset hx)⟩
  · cases t' with
    | nil => exact absurd rfl ne
    | cons a t => simp
  · have := p.length_le
    omega
theorem srtI_inc (xs : List Int) : isInc (srtI xs) = decide xs.Nodup := by
  unfold isInc
  have hs : Srt ltI (srtI xs) := srt_sort tri_int xs
  have hp : (srtI xs).Perm xs := List.mergeSort_perm _ _
  congr 1
  rw [eq_iff_iff]
  constructor
  · intro h
    exact hp.nodup_iff.mp (h.imp fun z => Int.ne_of_lt z)
  · intro h
    have h2 : (srtI xs).Nodup := hp.nodup_iff.mpr h
    exact (hs.and h2).imp fun {a b} z => by
      obtain ⟨z1, z2⟩ := z
      unfold leO ltI at z1
      simp at z1
      omega
theorem rnd_iff {g s : Int} {r : List (List Int)} : isRnd g s r = true ↔ (r.length : Int) ≤ g / s ∧ (∀ t ∈ r, isTab g s t = true) ∧ (r.map fun t => t.headD 0).Pairwise (· < ·) ∧ r.flatten.Nodup := by
  unfold isRnd
  rw [srtI_inc]
  simp only [Bool.and_eq_true, decide_eq_true_eq, List.all_eq_true, isInc]
theorem lt_of_head {a b : List Int} (ha : a ≠ []) (hb : b ≠ []) (h : a.headD 0 < b.headD 0) : ltT a b = true := by
  cases a with
  | nil => exact absurd rfl ha
  | cons x a => cases b with
    | nil => exact absurd rfl hb
    | cons y b =>
      have h : x < y := h
      show lx ltI (x :: a) (y :: b) = true
      unfold lx
      rw [if_neg (by omega)]
      simpa [ltI] using h
/-- tables that stand apart, sorted, make a round -/
theorem rnd_of {g s : Int} {ts : List (List Int)} (h1 : ∀ t ∈ ts, isTab g s t = true) (h2 : ts.flatten.Nodup) (h3 : (ts.length : Int) ≤ g / s) : isRnd g s (srtT ts) = true := by
  have hp : (srtT ts).Perm ts := List.mergeSort_perm _ _
  have hs : Srt ltT (srtT ts) := srt_sort tri_T ts
  have hn : (srtT ts).flatten.Nodup := hp.flatten.nodup_iff.mpr h2
  have ht : ∀ t ∈ srtT ts, isTab g s t = true := fun t ht => h1 t (hp.mem_iff.mp ht)
  rw [rnd_iff]
  refine ⟨by rw [hp.length_eq]; exact h3, ht, ?_, hn⟩
  rw [List.pairwise_map]
  have hd := (List.pairwise_flatten.mp hn).2
  refine (hs.and hd).imp_of_mem fun {a b} ha hb z => ?_
  obtain ⟨z1, z2⟩ := z
  have na : a ≠ [] := by intro e; subst e; have := tab_iff.mp (ht _ ha); simp at this
  have nb : b ≠ [] := by intro e; subst e; have := tab_iff.mp (ht _ hb); simp at this
  have ma : a.headD 0 ∈ a := by cases a with | nil => exact absurd rfl na | cons x a => simp
  have mb : b.headD 0 ∈ b := by cases b with | nil => exact absurd rfl nb | cons x a => simp
  have ne := z2 _ ma _ mb
  unfold leO at z1
  by_cases l : b.headD 0 < a.headD 0
  · rw [lt_of_head nb na l] at z1
    cases z1
  · omega
/-- tables thinned -/
def Subs : List (List Int) → List (List Int) → Prop
  | [], [] => True
  | a :: as, b :: bs => a.Sublist b ∧ Subs as bs
  | _, _ => False
theorem Subs.snoc : ∀ {as bs : List (List Int)} {a b : List Int}, Subs as bs → a.Sublist b → Subs (as ++ [a]) (bs ++ [b])
  | [], [], a, b, _, h => ⟨h, trivial⟩
  | x :: as, y :: bs, a, b, h, q => ⟨h.1, Subs.snoc h.2 q⟩
  | [], _ :: _, _, _, h, _ => False.elim h
  | _ :: _, [], _, _, h, _ => False.elim h
theorem Subs.mem : ∀ {as bs : List (List Int)}, Subs as bs → ∀ a ∈ as, ∃ b ∈ bs, a.Sublist b
  | [], [], _, a, ha => nomatch ha
  | x :: as, y :: bs, h, a, ha => by
    rcases List.mem_cons.mp ha with rfl | ha
    · exact ⟨y, by simp, h.1⟩
    · obtain ⟨b, hb, q⟩ := Subs.mem h.2 a ha
      exact ⟨b, List.mem_cons_of_mem _ hb, q⟩
  | [], _ :: _, h, _, _ => False.elim h
  | _ :: _, [], h, _, _ => False.elim h
theorem Subs.flat : ∀ {as bs : List (List Int)}, Subs as bs → as.flatten.Sublist bs.flatten
  | [], [], _ => .refl _
  | x :: as, y :: bs, h => by
    rw [List.flatten_cons, List.flatten_cons]
    exact List.Sublist.append h.1 (Subs.flat h.2)
  | [], _ :: _, h => False.elim h
  | _ :: _, [], h => False.elim h
theorem Subs.len : ∀ {as bs : List (List Int)}, Subs as bs → as.length = bs.length
  | [], [], _ => rfl
  | x :: as, y :: bs, h => by rw [List.length_cons, List.length_cons, Subs.len h.2]
  | [], _ :: _, h => False.elim h
  | _ :: _, [], h => False.elim h
def neB (t : List Int) : Bool := !t.isEmpty
theorem flat_ne (ts : List (List Int)) : (ts.filter neB).flatten = ts.flatten := by
  induction ts with
  | nil => rfl
  | cons t ts ih =>
    cases t with
    | nil => rw [List.filter_cons_of_neg (by simp [neB]), ih]; rfl
    | cons x t => rw [List.filter_cons_of_pos (by simp [neB]), List.flatten_cons, List.flatten_cons, ih]
theorem thin_rnd {g s : Int} {r ts : List (List Int)} (h : isRnd g s r = true) (q : Subs ts r) : isRnd g s (srtT (ts.filter neB)) = true := by
  obtain ⟨h1, h2, h3, h4⟩ := rnd_iff.mp h
  refine rnd_of (fun t ht => ?_) ?_ ?_
  · obtain ⟨ht, hn⟩ := List.mem_filter.mp ht
    obtain ⟨b, hb, e⟩ := q.mem t ht
    exact tab_sub (h2 b hb) e (by intro z; subst z; simp [neB] at hn)
  · rw [flat_ne]
    exact h4.sublist q.flat
  · have := List.length_filter_le neB ts
    have := q.len
    omega
theorem thin_prs {r ts : List (List Int)} (q : Subs ts r) {x : Int × Int} (h : x ∈ prsR (srtT (ts.filter neB))) : x ∈ prsR r := by
  obtain ⟨t, ht, e⟩ := mem_prsR.mp h
  have ht := (List.mergeSort_perm _ _).mem_iff.mp ht
  obtain ⟨b, hb, e2⟩ := q.mem t (List.mem_filter.mp ht).1
  exact mem_prsR.mpr ⟨b, hb, e.trans e2⟩
/-! sizes of what is a round -/
theorem rnd_sml {g s : Int} (hg : goodP g s) {r : List (List Int)} (h : isRnd g s r = true) : Sml r := by
  obtain ⟨h1, h2, _, _⟩ := rnd_iff.mp h
  obtain ⟨a, b, c, d, e⟩ := hg
  refine ⟨?_, fun t ht => ?_⟩
  · have q0 : 0 ≤ g / s := Int.ediv_nonneg (by omega) (by omega)
    have q1 : g / s * s ≤ g := Int.ediv_mul_le g (by omega)
    have q2 : g / s * 2 ≤ g / s * s := Int.mul_le_mul_of_nonneg_left a q0
    omega
  · have := (tab_iff.mp (h2 t ht)).2.1
    omega
theorem Good.sml {g s : Int} (hg : goodP g s) {p : List (List (List Int))} (h : Good g s p) (l : p.length ≤ 99) : SmlP p := ⟨l, fun r hr => rnd_sml hg (h.rnd r hr)⟩
theorem Good.nil (g s : Int) : Good g s [] := ⟨(by simp), (by simp)⟩
theorem Good.snoc {g s : Int} {p : List (List (List Int))} (h : Good g s p) {r : List (List Int)} (h1 : isRnd g s r = true) (h2 : ∀ x ∈ prsR r, x ∉ prsP p) : Good g s (p ++ [r]) := ⟨fun a ha => by
  rcases List.mem_append.mp ha with ha | ha
  · exact h.rnd a ha
  · rw [List.mem_singleton.mp ha]; exact h1, by
  rw [List.pairwise_append]
  refine ⟨h.new, by simp, fun a ha b hb x hx hy => ?_⟩
  rw [List.mem_singleton.mp hb] at hy
  exact h2 x hy (List.mem_flatMap.mpr ⟨a, ha, hx⟩)⟩
/-- rounds each with less in them -/
theorem Good.less {g s : Int} {p : List (List (List Int))} (h : Good g s p) (f : Nat → List (List Int)) (h1 : ∀ i (hi : i < p.length), isRnd g s (f i) = true) (h2 : ∀ i (hi : i < p.length), ∀ x ∈ prsR (f i), x ∈ prsR p[i]) : Good g s ((List.range p.length).map f) := ⟨fun r hr => by
  obtain ⟨i, hi, rfl⟩ := List.mem_map.mp hr
  exact h1 i (List.mem_range.mp hi), by
  rw [List.pairwise_iff_getElem]
  intro i j hi hj hij x hx hy
  simp only [List.getElem_map, List.getElem_range, List.length_map, List.length_range] at *
  have hi' : i < p.length := by simpa using hi
  have hj' : j < p.length := by simpa using hj
  exact List.pairwise_iff_getElem.mp h.new i j hi' hj' hij x (h2 i hi' x hx) (h2 j hj' x hy)⟩
/-- one who is away -/
def outR (x : Int) (r : List (List Int)) : List (List Int) := srtT ((r.map fun t => t.filter fun y => !decide (y = x)).filter neB)
theorem subs_map (f : List Int → List Int) (h : ∀ t, (f t).Sublist t) : ∀ r : List (List Int), Subs (r.map f) r
  | [] => trivial
  | t :: r => ⟨h t, subs_map f h r⟩
theorem out_subs (x : Int) (r : List (List Int)) : Subs (r.map fun t => t.filter fun y => !decide (y = x)) r := subs_map _ (fun t => List.filter_sublist) r
def outP (x last : Int) (p : List (List (List Int))) : List (List (List Int)) := (List.range p.length).map fun i : Nat => if (i : Int) > last then outR x (p.getD i []) else p.getD i []
theorem out_good {g s : Int} {p : List (List (List Int))} (h : Good g s p) (x last : Int) : Good g s (outP x last p) := by
  refine h.less _ (fun i hi => ?_) (fun i hi y hy => ?_)
  · rw [getD_at [] hi]
    split
    · exact thin_rnd (h.rnd _ (List.getElem_mem hi)) (out_subs x _)
    · exact h.rnd _ (List.getElem_mem hi)
  · rw [getD_at [] hi] at hy
    split at hy
    · exact thin_prs (out_subs x _) hy
    · exact hy
/-! rounds that are drawn -/
def chunk (n : Nat) (xs : List Int) (i : Nat) : List Int := (xs.drop (i * n)).take n
def seatR (n q : Nat) (xs : List Int) : List (List Int) := srtT ((List.range q).map fun i => srtI (chunk n xs i))
theorem chunk_flat (n : Nat) (xs : List Int) : ∀ q : Nat, ((List.range q).map (chunk n xs)).flatten = xs.take (q * n)
  | 0 => by simp
  | q + 1 => by
    rw [List.range_succ, List.map_append, List.flatten_append, chunk_flat n xs q]
    simp only [List.map_cons, List.map_nil, List.flatten_cons, List.flatten_nil, List.append_nil]
    unfold chunk
    rw [Nat.succ_mul, List.take_add]
theorem chunk_len {n : Nat} {xs : List Int} {q i : Nat} (hx : xs.length = n * q) (hi : i < q) : (chunk n xs i).length = n := by
  unfold chunk
  rw [List.length_take, List.length_drop, hx]
  have : (i + 1) * n ≤ q * n := Nat.mul_le_mul_right n hi
  rw [Nat.succ_mul] at this
  rw [Nat.mul_comm n q]
  omega
theorem chunk_sub (n : Nat) (xs : List Int) (i : Nat) : (chunk n xs i).Sublist xs := (List.take_sublist _ _).trans (List.drop_sublist _ _)
theorem flat_srt : ∀ ts : List (List Int), (ts.map srtI).flatten.Perm ts.flatten
  | [] => .refl _
  | t :: ts => by
    rw [List.map_cons, List.flatten_cons, List.flatten_cons]
    exact (List.mergeSort_perm _ _).append (flat_srt ts)
theorem mem_rg {g x : Int} : x ∈ rgD 0 g ↔ 0 ≤ x ∧ x < g := by
  unfold rgD
  rw [List.mem_map]
  constructor
  · rintro ⟨i, hi, rfl⟩
    have := List.mem_range.mp hi
    omega
  · rintro ⟨h1, h2⟩
    exact ⟨x.toNat, List.mem_range.mpr (by omega), by omega⟩
theorem len_rg (g : Int) : (rgD 0 g).length = g.toNat := by unfold rgD; rw [List.length_map, List.length_range]; congr 1; omega
theorem nd_rg (g : Int) : (rgD 0 g).Nodup := by
  unfold rgD
  unfold List.Nodup
  rw [List.pairwise_map]
  exact List.nodup_range.imp fun h => by omega
theorem goodP_mul {g s : Int} (hg : goodP g s) : g.toNat = s.toNat * (g / s).toNat := by
  obtain ⟨a, b, c, d, e⟩ := hg
  have h : g = s * (g / s) := by
    have := Int.mul_ediv_add_emod g s
    omega
  have q0 : 0 ≤ g / s := Int.ediv_nonneg (by omega) (by omega)
  obtain ⟨q, hq⟩ : ∃ q : Nat, g / s = (q : Int) := ⟨(g / s).toNat, by omega⟩
  obtain ⟨n, hn⟩ : ∃ n : Nat, s = (n : Int) := ⟨s.toNat, by omega⟩
  rw [hq] at h ⊢
  rw [hn] at h ⊢
  rw [Int.toNat_natCast, Int.toNat_natCast]
  rw [h]
  rw [← Int.natCast_mul, Int.toNat_natCast]
theorem seat_ts {g s : Int} (hg : goodP g s) {xs : List Int} (hx : xs.Perm (rgD 0 g)) : (∀ t ∈ (List.range (g / s).toNat).map fun i => srtI (chunk s.toNat xs i), t.length = s.toNat ∧ isTab g s t = true) ∧ ((List.range (g / s).toNat).map fun i => srtI (chunk s.toNat xs i)).flatten.Perm (rgD 0 g) := by
  have hl : xs.length = s.toNat * (g / s).toNat := by rw [hx.length_eq, len_rg, goodP_mul hg]
  obtain ⟨a, b, c, d, e⟩ := hg
  have nd : xs.Nodup := hx.nodup_iff.mpr (nd_rg g)
  refine ⟨fun t ht => ?_, ?_⟩
  · obtain ⟨i, hi, rfl⟩ := List.mem_map.mp ht
    have hi := List.mem_range.mp hi
    have cl := chunk_len hl hi
    have hp : (srtI (chunk s.toNat xs i)).Perm (chunk s.toNat xs i) := List.mergeSort_perm _ _
    refine ⟨by rw [hp.length_eq, cl], tab_iff.mpr ⟨by rw [hp.length_eq, cl]; omega, by rw [hp.length_eq, cl]; omega, ?_, fun x hx' => ?_⟩⟩
    · have := srtI_inc (chunk s.toNat xs i)
      rw [decide_eq_true (nd.sublist (chunk_sub _ _ _))] at this
      simpa [isInc] using this
    · exact mem_rg.mp (hx.mem_iff.mp ((chunk_sub _ _ _).subset (hp.mem_iff.mp hx')))
  · rw [show ((List.range (g / s).toNat).map fun i => srtI (chunk s.toNat xs i)) = ((List.range (g / s).toNat).map (chunk s.toNat xs)).map srtI by rw [List.map_map]; rfl]
    refine (flat_srt _).trans ?_
    rw [chunk_flat, List.take_of_length_le (by rw [hl, Nat.mul_comm]; exact Nat.le_refl _)]
    exact hx
theorem seat_rnd {g s : Int} (hg : goodP g s) {xs : List Int} (hx : xs.Perm (rgD 0 g)) : isRnd g s (seatR s.toNat (g / s).toNat xs) = true := by
  obtain ⟨h1, h2⟩ := seat_ts hg hx
  refine rnd_of (fun t ht => (h1 t ht).2) (h2.nodup_iff.mpr (nd_rg g)) ?_
  rw [List.length_map, List.length_range]
  have := hg.1
  have := hg.2.2.1
  have q0 : 0 ≤ g / s := Int.ediv_nonneg (by omega) (by omega)
  omega
/-! what the laws ask of data -/
theorem pl_tT (n : Nat) {r : List (List Int)} (h : Sml r) : plN (n + 3) (tT r) := pl_tup (Nat.le_trans h.1 (by decide)) fun t ht => pl_ints n (Nat.le_trans (h.2 t ht) (by decide))
theorem pl_lT (n : Nat) {p : List (List (List Int))} (h : SmlP p) : plN (n + 4) (lT p) := pl_lst (Nat.le_trans h.1 (by decide)) fun r hr => pl_tT n (h.2 r hr)
/-- a round is sorted -/
theorem rnd_srt {g s : Int} {r : List (List Int)} (h : isRnd g s r = true) : srtT r = r := by
  obtain ⟨_, h2, h3, _⟩ := rnd_iff.mp h
  refine sort_self tri_T ?_
  rw [List.pairwise_map] at h3
  refine h3.imp_of_mem fun {a b} ha hb z => ?_
  have na : a ≠ [] := by intro e; subst e; have := tab_iff.mp (h2 _ ha); simp at this
  have nb : b ≠ [] := by intro e; subst e; have := tab_iff.mp (h2 _ hb); simp at this
  unfold leO
  rw [tri_T.asy (lt_of_head na nb z)]
  rfl
theorem rnd_ne {g s : Int} {r : List (List Int)} (h : isRnd g s r = true) : r.filter neB = r := by
  obtain ⟨_, h2, _, _⟩ := rnd_iff.mp h
  refine List.filter_eq_self.mpr fun t ht => ?_
  have := (tab_iff.mp (h2 t ht)).1
  cases t with
  | nil => simp at this
  | cons a t => rfl
theorem out_len (x last : Int) (p : List (List (List Int))) : (outP x last p).length = p.length := by unfold outP; rw [List.length_map, List.length_range]
/-- k11: what is due -/
def dueR (x : Int) (b : Bool) (r : List (List Int)) : List (List Int) := srtT ((r.map fun t => t.filter fun y => !decide (y = x) || b).filter neB)
theorem due_out {g s : Int} {p : List (List (List Int))} (h : Good g s p) (x last : Int) : ((List.range p.length).map fun i : Nat => dueR x (decide ((i : Int) ≤ last)) (p.getD i [])) = outP x last p := by
  unfold outP
  refine List.map_congr_left fun i hi => ?_
  have hi := List.mem_range.mp hi
  have hr := h.rnd _ (List.getElem_mem hi)
  rw [getD_at [] hi]
  unfold dueR
  by_cases c : (i : Int) ≤ last
  · rw [decide_eq_true c, if_neg (by omega)]
    have e : (p[i].map fun t => t.filter fun y => !decide (y = x) || true) = p[i] := by
      rw [show (fun t : List Int => t.filter fun y => !decide (y = x) || true) = id from funext fun t => List.filter_eq_self.mpr fun y _ => by simp]
      simp
    rw [e, rnd_ne hr, rnd_srt hr]
  · rw [decide_eq_false c, if_pos (by omega)]
    unfold outR
    simp only [Bool.or_false]
end NF
/-! N3: whom each guest has met. -/
namespace NF
open PySem PySem.Spec PyProof.Rows L2 DL
structure MetS (n : Nat) (S : List (Int × Int)) (kss : List (List (Int × V))) : Prop where
  len : kss.length = n
  nd : ∀ (i : Nat) (h : i < kss.length), ((kss[i]).map (·.1)).Nodup
  mem : ∀ (i : Nat) (h : i < kss.length) (k : Int), k ∈ (kss[i]).map (·.1) ↔ ((i : Int), k) ∈ S ∨ (k, (i : Int)) ∈ S
  le : ∀ (i : Nat) (h : i < kss.length), (kss[i]).length ≤ 2 * S.length
theorem MetS.nil (n : Nat) : MetS n [] (List.replicate n []) := ⟨List.length_replicate, fun i h => by simp, fun i h k => by simp, fun i h => by simp⟩
theorem MetS.perm {n : Nat} {S S' : List (Int × Int)} {kss : List (List (Int × V))} (h : MetS n S kss) (p : S.Perm S') : MetS n S' kss := ⟨h.len, h.nd, fun i hi k => by rw [h.mem i hi k, p.mem_iff, p.mem_iff], fun i hi => by rw [← p.length_eq]; exact h.le i hi⟩
/-- one pair more -/
theorem MetS.put {n : Nat} {S : List (Int × Int)} {kss : List (List (Int × V))} (h : MetS n S kss) {a b : Nat} (ha : a < kss.length) (hb : b < (kss.set a (putK kss[a] (b : Int) (.bl true))).length) (u : V) (eu : u = .bl true) :
    MetS n (S ++ [((a : Int), (b : Int))]) ((kss.set a (putK kss[a] (b : Int) (.bl true))).set b (putK (kss.set a (putK kss[a] (b : Int) (.bl true)))[b] (a : Int) u)) := by
  have hb' : b < kss.length := by simpa using hb
  have key : ∀ (i : Nat) (hi : i < ((kss.set a (putK kss[a] (b : Int) (.bl true))).set b (putK (kss.set a (putK kss[a] (b : Int) (.bl true)))[b] (a : Int) u)).length), ∃ (hi' : i < kss.length), ((((kss.set a (putK kss[a] (b : Int) (.bl true))).set b (putK (kss.set a (putK kss[a] (b : Int) (.bl true)))[b] (a : Int) u))[i]).map (·.1)).Nodup ∧
      (∀ k : Int, k ∈ (((kss.set a (putK kss[a] (b : Int) (.bl true))).set b (putK (kss.set a (putK kss[a] (b : Int) (.bl true)))[b] (a : Int) u))[i]).map (·.1) ↔ k ∈ (kss[i]).map (·.1) ∨ (i = a ∧ k = (b : Int)) ∨ (i = b ∧ k = (a : Int))) ∧
      (((kss.set a (putK kss[a] (b : Int) (.bl true))).set b (putK (kss.set a (putK kss[a] (b : Int) (.bl true)))[b] (a : Int) u))[i]).length ≤ (kss[i]).length + 2 := by
    intro i hi
    have hi' : i < kss.length := by simpa using hi
    refine ⟨hi', ?_⟩
    have l1 := fun (l : List (Int × V)) (k : Int) (v : V) => length_putK l k v
    by_cases e1 : i = b
    · subst e1
      rw [List.getElem_set_self]
      by_cases e2 : i = a
      · subst e2
        rw [List.getElem_set_self]
        refine ⟨putK_nd (putK_nd (h.nd i ha) _ _) _ _, fun k => ?_, ?_⟩
        · rw [putK_mem, putK_mem]
          simp
        · have := l1 kss[i] (i : Int) (.bl true)
          have := l1 (putK kss[i] (i : Int) (.bl true)) (i : Int) u
          omega
      · rw [List.getElem_set_ne (Ne.symm e2)]
        refine ⟨putK_nd (h.nd i hi') _ _, fun k => ?_, ?_⟩
        · rw [putK_mem]
          constructor
          · rintro (z | z)
            · exact .inl z
            · exact .inr (.inr ⟨rfl, z⟩)
          · rintro (z | ⟨z, _⟩ | ⟨_, z⟩)
            · exact .inl z
            · exact absurd z e2
            · exact .inr z
        · have := l1 kss[i] (a : Int) u
          omega
    · rw [List.getElem_set_ne (Ne.symm e1)]
      by_cases e2 : i = a
      · subst e2
        rw [List.getElem_set_self]
        refine ⟨putK_nd (h.nd i ha) _ _, fun k => ?_, ?_⟩
        · rw [putK_mem]
          constructor
          · rintro (z | z)
            · exact .inl z
            · exact .inr (.inl ⟨rfl, z⟩)
          · rintro (z | ⟨_, z⟩ | ⟨z, _⟩)
            · exact .inl z
            · exact .inr z
            · exact absurd z e1
        · have := l1 kss[i] (b : Int) (.bl true)
          omega
      · rw [List.getElem_set_ne (Ne.symm e2)]
        refine ⟨h.nd i hi', fun k => ⟨.inl, fun z => ?_⟩, by omega⟩
        rcases z with z | ⟨z, _⟩ | ⟨z, _⟩
        · exact z
        · exact absurd z e2
        · exact absurd z e1
  refine ⟨by rw [List.length_set, List.length_set]; exact h.len, fun i hi => (key i hi).2.1, fun i hi k => ?_, fun i hi => ?_⟩
  · obtain ⟨hi', _, q, _⟩ := key i hi
    rw [q, h.mem i hi']
    simp only [List.mem_append, List.mem_singleton, Prod.mk.injEq]
    constructor
    · rintro ((z | z) | ⟨z1, z2⟩ | ⟨z1, z2⟩)
      · exact .inl (.inl z)
      · exact .inr (.inl z)
      · exact .inl (.inr ⟨by omega, z2⟩)
      · exact .inr (.inr ⟨z2, by omega⟩)
    · rintro ((z | ⟨z1, z2⟩) | (z | ⟨z1, z2⟩))
      · exact .inl (.inl z)
      · exact .inr (.inl ⟨by omega, z2⟩)
      · exact .inl (.inr z)
      · exact .inr (.inr ⟨by omega, z1⟩)
  · obtain ⟨hi', _, _, q⟩ := key i hi
    have := h.le i hi'
    rw [List.length_append]
    simp only [List.length_singleton]
    omega
/-- the pairs of rounds -/
theorem prs_range {g s : Int} {r : List (List Int)} (h : isRnd g s r = true) {x : Int × Int} (hx : x ∈ prsR r) : 0 ≤ x.1 ∧ x.1 < x.2 ∧ x.2 < g := by
  obtain ⟨t, ht, e⟩ := mem_prsR.mp hx
  obtain ⟨_, _, hp, hr⟩ := tab_iff.mp ((rnd_iff.mp h).2.1 t ht)
  have h1 := hr x.1 (e.subset (by simp))
  have h2 := hr x.2 (e.subset (by simp))
  have h3 := hp.sublist e
  rw [List.pairwise_cons] at h3
  have := h3.1 x.2 (by simp)
  omega
theorem prsR_le {m : Nat} : ∀ {r : List (List Int)}, (∀ t ∈ r, (prsT t).length ≤ m) → (prsR r).length ≤ m * r.length
  | [], _ => by simp [prsR]
  | t :: r, h => by
    rw [prsR_cons, List.length_append, List.length_cons, Nat.mul_succ]
    have := prsR_le (r := r) fun x hx => h x (List.mem_cons_of_mem _ hx)
    have := h t (by simp)
    omega
theorem rnd_prs {g s : Int} (hg : goodP g s) {r : List (List Int)} (h : isRnd g s r = true) : (prsR r).length ≤ 896 := by
  obtain ⟨h1, h2, _, _⟩ := rnd_iff.mp h
  obtain ⟨a, b, c, d, e⟩ := hg
  have q0 : 0 ≤ g / s := Int.ediv_nonneg (by omega) (by omega)
  have q1 : g / s * s ≤ g := Int.ediv_mul_le g (by omega)
  have q2 : g / s * 2 ≤ g / s * s := Int.mul_le_mul_of_nonneg_left a q0
  have l : (prsR r).length ≤ 28 * r.length := prsR_le fun t ht => by
    have hl : t.length ≤ 8 := by have := (tab_iff.mp (h2 t ht)).2.1; omega
    have e := prsT_len t
    by_cases h0 : t.length = 0
    · rw [h0] at e; omega
    · have h1 : t.length * t.length = t.length * (t.length - 1) + t.length := by
        rw [← Nat.mul_succ]; congr 1; omega
      have h3 : t.length * (t.length - 1) ≤ 8 * 7 := Nat.mul_le_mul hl (by omega)
      omega
  omega
theorem prsP_good {g s : Int} (hg : goodP g s) : ∀ {p : List (List (List Int))}, (∀ r ∈ p, isRnd g s r = true) → (prsP p).length ≤ 896 * p.length
  | [], _ => by simp [prsP]
  | r :: p, h => by
    have := prsP_good hg (p := p) fun x hx => h x (List.mem_cons_of_mem _ hx)
    have := rnd_prs hg (h r (by simp))
    show (prsR r ++ prsP p).length ≤ _
    rw [List.length_append, List.length_cons]
    omega
/-! how many each has met -/
def partB (S : List (Int × Int)) (i k : Int) : Bool := decide ((i, k) ∈ S) || decide ((k, i) ∈ S)
def metN (S : List (Int × Int)) (g i : Int) : Nat := ((rgD 0 g).filter (partB S i)).length
theorem met_len {n : Nat} {S : List (Int × Int)} {kss : List (List (Int × V))} {g : Int} (hS : ∀ x ∈ S, 0 ≤ x.1 ∧ x.1 < x.2 ∧ x.2 < g) (h : MetS n S kss) (i : Nat) (hi : i < kss.length) : (kss[i]).length = metN S g i := by
  unfold metN
  rw [← List.length_map (f := fun p : Int × V => p.1)]
  refine List.Perm.length_eq ((List.perm_ext_iff_of_nodup (h.nd i hi) ((nd_rg g).filter _)).mpr fun k => ?_)
  rw [h.mem i hi, List.mem_filter, mem_rg]
  unfold partB
  simp only [Bool.or_eq_true, decide_eq_true_eq]
  constructor
  · rintro (z | z)
    · exact ⟨by have := hS _ z; simp only at this; omega, .inl z⟩
    · exact ⟨by have := hS _ z; simp only at this; omega, .inr z⟩
  · exact fun z => z.2
theorem key_len {kvs : List (List Int × V)} {S : List (Int × Int)} {g : Int} (hS : ∀ x ∈ S, 0 ≤ x.1 ∧ x.1 < x.2 ∧ x.2 < g) (h : KeyOf kvs S) (i : Int) : ((kvs.map (·.1)).filter fun ks => decide (i ∈ ks)).length = metN S g i := by
  unfold metN
  have inv : ∀ ks ∈ (kvs.map (·.1)).filter fun ks => decide (i ∈ ks), ∃ a b, ks = [a, b] ∧ (a, b) ∈ S ∧ a < b ∧ (i = a ∨ i = b) := fun ks hk => by
    obtain ⟨h1, h2⟩ := List.mem_filter.mp hk
    obtain ⟨x, hx, e⟩ := (h.mem ks).mp h1
    subst e
    have := hS x hx
    exact ⟨x.1, x.2, rfl, hx, this.2.1, by simpa using h2⟩
  rw [← List.length_map (f := fun ks : List Int => if ks.headD 0 = i then ks.getD 1 0 else ks.headD 0)]
  refine List.Perm.length_eq ((List.perm_ext_iff_of_nodup ?_ ((nd_rg g).filter _)).mpr fun k => ?_)
  · unfold List.Nodup
    rw [List.pairwise_map]
    refine (h.nd.filter _).imp_of_mem fun {x y} hx hy ne e => ?_
    obtain ⟨a, b, rfl, _, l1, o1⟩ := inv x hx
    obtain ⟨c, d, rfl, _, l2, o2⟩ := inv y hy
    simp only [List.headD_cons, List.getD_cons_succ, List.getD_cons_zero] at e
    apply ne
    have : a = c ∧ b = d := by
      split at e <;> split at e <;> omega
    rw [this.1, this.2]
  · rw [List.mem_map, List.mem_filter, mem_rg]
    unfold partB
    simp only [Bool.or_eq_true, decide_eq_true_eq]
    constructor
    · rintro ⟨ks, hk, e⟩
      obtain ⟨a, b, rfl, hm, l1, o1⟩ := inv ks hk
      have r := hS _ hm
      simp only [List.headD_cons, List.getD_cons_succ, List.getD_cons_zero] at e r
      split at e
      · rename_i z
        subst z e
        exact ⟨by omega, .inl hm⟩
      · rename_i z
        have : i = b := by omega
        subst e this
        exact ⟨by omega, .inr hm⟩
    · rintro ⟨hr, z | z⟩
      · have r := hS _ z
        simp only at r
        refine ⟨[i, k], List.mem_filter.mpr ⟨(h.mem _).mpr ⟨(i, k), z, rfl⟩, by simp⟩, by simp⟩
      · have r := hS _ z
        simp only at r
        refine ⟨[k, i], List.mem_filter.mpr ⟨(h.mem _).mpr ⟨(k, i), z, rfl⟩, by simp⟩, ?_⟩
        simp only [List.headD_cons, List.getD_cons_succ, List.getD_cons_zero]
        rw [if_neg (by omega)]
theorem prsP_range {g s : Int} {p : List (List (List Int))} (h : ∀ r ∈ p, isRnd g s r = true) : ∀ x ∈ prsP p, 0 ≤ x.1 ∧ x.1 < x.2 ∧ x.2 < g := fun x hx => by
  obtain ⟨r, hr, hx⟩ := List.mem_flatMap.mp hx
  exact prs_range (h r hr) hx
/-- the numbers among which the least is looked for -/
def unmN (g : Int) (p : List (List (List Int))) : List Int := (rgD 0 g).map fun i => g - 1 - (metN (prsP p) g i : Int)
def bndN (g s : Int) (p : List (List (List Int))) : List Int := (unmN g p).map (· / (s - 1))
def Lst (m : Int) (ns : List Int) : Prop := m ∈ ns ∧ ∀ y ∈ ns, m ≤ y
theorem Lst.one {m m' : Int} {ns : List Int} (h : Lst m ns) (h' : Lst m' ns) : m = m' := Int.le_antisymm (h.2 _ h'.1) (h'.2 _ h.1)
def bndD (g s m : Int) (ns : List Int) : D := if g / s < s ∧ m > 1 then .tup [.int 1, .tup [.str "tables", .int (g / s)]] else .tup [.int m, .tup [.str "guest", .int (ns.idxOf m)]]
theorem pl_two {n : Nat} {a b : D} (h1 : plN n a) (h2 : plN n b) : plN (n + 1) (.tup [a, b]) := ⟨(show 2 ≤ 16777216 by decide), fun x hx => by
  rcases List.mem_cons.mp hx with e | hx
  · rw [e]; exact h1
  · rw [List.mem_singleton.mp hx]; exact h2⟩
theorem pl_bnd (g s m : Int) (ns : List Int) : plN 8 (bndD g s m ns) := by
  unfold bndD
  split
  · exact pl_two trivial (pl_two trivial trivial)
  · exact pl_two trivial (pl_two trivial trivial)
end NF
/-! N4: choices, all full rounds, in order. -/
namespace NF
open PySem PySem.Spec PyProof.Rows L2 DL
theorem fm_congr {α β : Type} {f g : α → List β} : ∀ {l : List α}, (∀ x ∈ l, f x = g x) → l.flatMap f = l.flatMap g
  | [], _ => rfl
  | x :: l, h => by
    rw [List.flatMap_cons, List.flatMap_cons, h x (by simp), fm_congr fun y hy => h y (List.mem_cons_of_mem _ hy)]
/-- n of xs, rising by place -/
def ch : List Int → Nat → List (List Int)
  | _, 0 => [[]]
  | [], _ + 1 => []
  | x :: xs, n + 1 => (ch xs n).map (x :: ·) ++ ch xs (n + 1)
theorem ch_zero (xs : List Int) : ch xs 0 = [[]] := by cases xs <;> rfl
theorem ch_len : ∀ {xs : List Int} {n : Nat} {t : List Int}, t ∈ ch xs n → t.length = n
  | xs, 0, t, h => by rw [ch_zero] at h; rw [List.mem_singleton.mp h]; rfl
  | [], n + 1, t, h => nomatch h
  | x :: xs, n + 1, t, h => by
    rcases List.mem_append.mp h with h | h
    · obtain ⟨u, hu, rfl⟩ := List.mem_map.mp h
      rw [List.length_cons, ch_len hu]
    · exact ch_len h
theorem ch_sub : ∀ {xs : List Int} {n : Nat} {t : List Int}, t ∈ ch xs n → t.Sublist xs
  | xs, 0, t, h => by rw [ch_zero] at h; rw [List.mem_singleton.mp h]; exact List.nil_sublist _
  | [], n + 1, t, h => nomatch h
  | x :: xs, n + 1, t, h => by
    rcases List.mem_append.mp h with h | h
    · obtain ⟨u, hu, rfl⟩ := List.mem_map.mp h
      exact (ch_sub hu).cons_cons x
    · exact (ch_sub h).cons x
/-- as the law reckons them: by the place of the first -/
def chK (xs : List Int) (n k : Nat) : List (List Int) := (List.range k).flatMap fun i => (ch (xs.drop (i + 1)) n).map (xs.getD i 0 :: ·)
theorem chK_succ (xs : List Int) (n k : Nat) : chK xs n (k + 1) = chK xs n k ++ (ch (xs.drop (k + 1)) n).map (xs.getD k 0 :: ·) := by
  unfold chK
  rw [List.range_succ, List.flatMap_append]
  simp
theorem chK_cons (x : Int) (xs : List Int) (n : Nat) : ∀ k : Nat, chK (x :: xs) n (k + 1) = (ch xs n).map (x :: ·) ++ chK xs n k
  | 0 => by rw [chK_succ]; simp [chK]
  | k + 1 => by
    rw [chK_succ, chK_cons x xs n k, chK_succ, List.append_assoc]
    rfl
theorem chK_all : ∀ (xs : List Int) (n : Nat), chK xs n xs.length = ch xs (n + 1)
  | [], n => rfl
  | x :: xs, n => by
    rw [List.length_cons, chK_cons, chK_all xs n]
    rfl
/-- the program's way: longer by one that is behind the last -/
def gtL (t : List Int) (o : Int) : Bool := decide (o > t.getLastD 0)
theorem grow_one {a : Int} : ∀ {n : Nat} {xs : List Int}, (a :: xs).Pairwise (· < ·) → (ch xs (n + 1)).map (a :: ·) = ((ch xs n).map (a :: ·)).flatMap fun t => (xs.filter (gtL t)).map fun o => t ++ [o]
  | n, [], _ => by cases n <;> rfl
  | 0, x :: xs, h => by
    have h2 := List.pairwise_cons.mp h
    have e : (x :: xs).filter (gtL [a]) = x :: xs := List.filter_eq_self.mpr fun o ho => decide_eq_true (h2.1 o ho)
    rw [ch_zero]
    simp only [List.map_cons, List.map_nil, List.flatMap_cons, List.flatMap_nil, List.append_nil]
    rw [e]
    have one : ∀ ys : List Int, ch ys 1 = ys.map fun y => [y] := by
      intro ys
      induction ys with
      | nil => rfl
      | cons y ys ih =>
        show (ch ys 0).map (y :: ·) ++ ch ys 1 = _
        rw [ch_zero, ih]
        rfl
    rw [one, List.map_map]
    rfl
  | n + 1, x :: xs, h => by
    have h2 := List.pairwise_cons.mp h
    have hx : (x :: xs).Pairwise (· < ·) := h2.2
    have h3 := List.pairwise_cons.mp hx
    have ha : (a :: xs).Pairwise (· < ·) := h.sublist ((List.sublist_cons_self x xs).cons_cons a)
    show ((ch xs (n + 1)).map (x :: ·) ++ ch xs (n + 2)).map (a :: ·) = (((ch xs n).map (x :: ·) ++ ch xs (n + 1)).map (a :: ·)).flatMap _
    rw [List.map_append, List.map_append, List.flatMap_append, grow_one (n := n) hx, grow_one (n := n + 1) ha]
    have cut : ∀ t : List Int, x ≤ t.getLastD 0 → (x :: xs).filter (gtL t) = xs.filter (gtL t) := fun t ht => by
      rw [List.filter_cons_of_neg]
      unfold gtL
      rw [decide_eq_true_eq]
      omega
    congr 1
    · rw [List.map_flatMap, List.flatMap_map, List.flatMap_map, List.flatMap_map]
      refine fm_congr fun t ht => ?_
      have hl : x ≤ (x :: t).getLastD 0 := by
        cases t with
        | nil => exact Int.le_refl x
        | cons y t =>
          have hm : (x :: y :: t).getLastD 0 ∈ y :: t := by
            show (y :: t).getLast _ ∈ _
            exact List.getLast_mem _
          have := h3.1 _ ((ch_sub ht).subset hm)
          omega
      have e2 : gtL (a :: x :: t) = gtL (x :: t) := rfl
      rw [e2, cut _ hl, List.map_map]
      rfl
    · rw [List.flatMap_map, List.flatMap_map]
      refine fm_congr fun t ht => ?_
      rw [cut]
      cases t with
      | nil => have := ch_len ht; simp at this
      | cons y t =>
        have hm : (a :: y :: t).getLastD 0 ∈ y :: t := by
          show (y :: t).getLast _ ∈ _
          exact List.getLast_mem _
        have := h3.1 _ ((ch_sub ht).subset hm)
        omega
/-! nobody of a table has met another -/
def okT (S : List (Int × Int)) (t : List Int) : Bool := (prsT t).all fun x => !partB S x.1 x.2
theorem prsT_snoc (o : Int) : ∀ t : List Int, (prsT (t ++ [o])).Perm (prsT t ++ t.map fun y => (y, o))
  | [] => .refl _
  | x :: t => by
    show ((t ++ [o]).map (fun y => (x, y)) ++ prsT (t ++ [o])).Perm ((t.map (fun y => (x, y)) ++ prsT t) ++ ((x, o) :: t.map fun y => (y, o)))
    rw [List.map_append, List.append_assoc, List.append_assoc]
    refine List.Perm.append_left _ ?_
    refine ((prsT_snoc o t).cons (x, o)).trans ?_
    exact (List.perm_middle).symm
theorem okT_snoc (S : List (Int × Int)) (t : List Int) (o : Int) : okT S (t ++ [o]) = (okT S t && t.all fun y => !partB S y o) := by
  unfold okT
  rw [(prsT_snoc o t).all_eq, List.all_append, List.all_map]
  rfl
def lvP (S : List (Int × Int)) (a : Int) (xs : List Int) (k : Nat) : List (List Int) := ((ch xs k).map (a :: ·)).filter (okT S)
theorem filter_flatMap' {α β : Type} (p : β → Bool) (f : α → List β) : ∀ l : List α, (l.flatMap f).filter p = l.flatMap fun x => (f x).filter p
  | [] => rfl
  | x :: l => by rw [List.flatMap_cons, List.filter_append, filter_flatMap' p f l, List.flatMap_cons]
theorem flatMap_filter' {α β : Type} (p : α → Bool) (f : α → List β) : ∀ l : List α, (l.filter p).flatMap f = l.flatMap fun x => if p x = true then f x else []
  | [] => rfl
  | x :: l => by
    rw [List.flatMap_cons, ← flatMap_filter' p f l]
    by_cases h : p x = true
    · rw [List.filter_cons_of_pos h, List.flatMap_cons, if_pos h]
    · rw [List.filter_cons_of_neg h, if_neg h, List.nil_append]
theorem lvP_succ (S : List (Int × Int)) {a : Int} {xs : List Int} (h : (a :: xs).Pairwise (· < ·)) (k : Nat) :
    lvP S a xs (k + 1) = (lvP S a xs k).flatMap fun t => ((a :: xs).filter fun o => gtL t o && t.all fun y => !partB S y o).map fun o => t ++ [o] := by
  unfold lvP
  rw [grow_one h, filter_flatMap', flatMap_filter']
  refine fm_congr fun t ht => ?_
  obtain ⟨u, hu, rfl⟩ := List.mem_map.mp ht
  have ha : a ≤ (a :: u).getLastD 0 := by
    cases u with
    | nil => exact Int.le_refl a
    | cons y u =>
      have hm : (a :: y :: u).getLastD 0 ∈ y :: u := by
        show (y :: u).getLast _ ∈ _
        exact List.getLast_mem _
      have := (List.pairwise_cons.mp h).1 _ ((ch_sub hu).subset hm)
      omega
  rw [List.filter_map]
  have e : (okT S ∘ fun o => a :: u ++ [o]) = fun o => okT S (a :: u) && (a :: u).all fun y => !partB S y o := funext fun o => okT_snoc S (a :: u) o
  rw [e]
  have e3 : gtL (a :: u) a = false := by unfold gtL; exact decide_eq_false (by omega)
  by_cases c : okT S (a :: u) = true
  · rw [if_pos c]
    rw [List.filter_cons_of_neg (by rw [e3]; simp), List.filter_filter]
    congr 1
    refine List.filter_congr fun o _ => ?_
    rw [c, Bool.true_and, Bool.and_comm]
  · rw [if_neg c]
    have c' : okT S (a :: u) = false := by simpa using c
    simp only [c', Bool.false_and]
    simp
/-! all full rounds -/
def allR (n : Nat) : Nat → List Int → List (List (List Int))
  | 0, _ => [[]]
  | _ + 1, [] => []
  | q + 1, a :: xs => ((ch xs n).map (a :: ·)).flatMap fun t => (allR n q (xs.filter fun x => !decide (x ∈ t))).map (t :: ·)
def seatP (S : List (Int × Int)) (n : Nat) : Nat → List Int → List (List (List Int))
  | 0, _ => [[]]
  | _ + 1, [] => []
  | q + 1, a :: xs => (lvP S a xs n).flatMap fun t => (seatP S n q (xs.filter fun x => !decide (x ∈ t))).map (t :: ·)
theorem seatP_eq (S : List (Int × Int)) (n : Nat) : ∀ (q : Nat) (xs : List Int), seatP S n q xs = (allR n q xs).filter fun r => r.all (okT S)
  | 0, _ => rfl
  | q + 1, [] => rfl
  | q + 1, a :: xs => by
    show (lvP S a xs n).flatMap _ = List.filter _ (List.flatMap _ _)
    unfold lvP
    rw [filter_flatMap', flatMap_filter']
    refine fm_congr fun t _ => ?_
    rw [seatP_eq S n q, List.filter_map]
    by_cases c : okT S t = true
    · rw [if_pos c]
      congr 1
      refine List.filter_congr fun r _ => ?_
      simp [c]
    · rw [if_neg c]
      have c' : okT S t = false := by simpa using c
      rw [List.filter_eq_nil_iff.mpr fun r _ => by simp [c']]
      rfl
def PwT (l : List (List Int)) : Prop := l.Pairwise fun a b => ltT a b = true
theorem lx_same {α : Type} [DecidableEq α] (lt : α → α → Bool) (x : α) (a b : List α) : lx lt (x :: a) (x :: b) = lx lt a b := by
  show (if x = x then _ else _) = _
  rw [if_pos rfl]
theorem lx_diff {α : Type} [DecidableEq α] {lt : α → α → Bool} (t : Tri lt) {x y : α} (h : lt x y = true) (a b : List α) : lx lt (x :: a) (y :: b) = true := by
  show (if x = y then _ else _) = _
  rw [if_neg fun z => by subst z; rw [t.irr] at h; cases h]
  exact h
theorem ch_pw : ∀ {xs : List Int}, xs.Pairwise (· < ·) → ∀ n : Nat, PwT (ch xs n)
  | xs, _, 0 => by rw [ch_zero]; exact List.pairwise_singleton _ _
  | [], _, n + 1 => .nil
  | x :: xs, h, n + 1 => by
    have h2 := List.pairwise_cons.mp h
    refine List.pairwise_append.mpr ⟨?_, ch_pw h2.2 (n + 1), fun u hu v hv => ?_⟩
    · rw [List.pairwise_map]
      exact (ch_pw h2.2 n).imp fun {a b} z => (lx_same _ _ a b).trans z
    · obtain ⟨w, _, rfl⟩ := List.mem_map.mp hu
      cases v with
      | nil => have := ch_len hv; simp at this
      | cons y v =>
        have hy : x < y := h2.1 y ((ch_sub hv).subset (by simp))
        exact lx_diff tri_int (decide_eq_true hy) _ _
theorem allR_pw (n : Nat) : ∀ (q : Nat) {xs : List Int}, xs.Pairwise (· < ·) → (allR n q xs).Pairwise fun a b => ltR a b = true
  | 0, _, _ => List.pairwise_singleton _ _
  | q + 1, [], _ => .nil
  | q + 1, a :: xs, h => by
    have h2 := List.pairwise_cons.mp h
    show List.Pairwise _ (List.flatMap _ _)
    rw [List.pairwise_flatMap]
    refine ⟨fun t _ => ?_, ?_⟩
    · rw [List.pairwise_map]
      exact (allR_pw n q (h2.2.filter _)).imp fun {a b} z => (lx_same _ _ a b).trans z
    · rw [List.pairwise_map]
      refine (ch_pw h2.2 n).imp fun {u v} z r1 hr1 r2 hr2 => ?_
      obtain ⟨w1, _, rfl⟩ := List.mem_map.mp hr1
      obtain ⟨w2, _, rfl⟩ := List.mem_map.mp hr2
      exact lx_diff tri_T ((lx_same _ _ u v).trans z) _ _
theorem allR_srt (n q : Nat) {xs : List Int} (h : xs.Pairwise (· < ·)) (p : List (List Int) → Bool) : srtR ((allR n q xs).filter p) = (allR n q xs).filter p := by
  refine sort_self tri_R (((allR_pw n q h).filter p).imp fun {a b} z => ?_)
  unfold leO
  rw [tri_R.asy z]
  rfl
theorem ch_le : ∀ (xs : List Int) (n : Nat), (ch xs n).length ≤ 2 ^ xs.length
  | xs, 0 => by rw [ch_zero]; exact Nat.one_le_two_pow
  | [], n + 1 => Nat.zero_le _
  | x :: xs, n + 1 => by
    show ((ch xs n).map (x :: ·) ++ ch xs (n + 1)).length ≤ _
    rw [List.length_append, List.length_map, List.length_cons, Nat.pow_succ]
    have := ch_le xs n
    have := ch_le xs (n + 1)
    omega
theorem chK_le (xs : List Int) (n k : Nat) (h : k ≤ xs.length) : (chK xs n k).length ≤ (ch xs (n + 1)).length := by
  rw [← chK_all]
  have : ∀ a b : Nat, (chK xs n a).length ≤ (chK xs n (a + b)).length := by
    intro a b
    induction b with
    | zero => exact Nat.le_refl _
    | succ b ih => rw [← Nat.add_assoc, chK_succ, List.length_append]; omega
  have := this k (xs.length - k)
  rwa [show k + (xs.length - k) = xs.length by omega] at this
abbrev sp_ch (n : Nat) : List D → (List D → Prop) → Prop := fun ds Po => ∃ (xs : List Int) (m : Nat), ds = [.lst (xs.map .int), .int (m : Int)] ∧ m < n ∧ xs.length ≤ 9 ∧ Po ((ch xs m).map tI)
end NF
/-! N5: how many rounds there are. -/
namespace NF
open PySem PySem.Spec PyProof.Rows L2 DL
def chC : Nat → Nat → Nat
  | _, 0 => 1
  | 0, _ + 1 => 0
  | m + 1, n + 1 => chC m n + chC m (n + 1)
theorem chC_zero (m : Nat) : chC m 0 = 1 := by cases m <;> rfl
theorem ch_card : ∀ (xs : List Int) (n : Nat), (ch xs n).length = chC xs.length n
  | xs, 0 => by rw [ch_zero, chC_zero]; rfl
  | [], n + 1 => rfl
  | x :: xs, n + 1 => by
    show ((ch xs n).map (x :: ·) ++ ch xs (n + 1)).length = chC xs.length n + chC xs.length (n + 1)
    rw [List.length_append, List.length_map, ch_card xs n, ch_card xs (n + 1)]
def cntA (n : Nat) : Nat → Nat
  | 0 => 1
  | q + 1 => chC ((n + 1) * q + n) n * cntA n q
/-- those not at the table: so many less -/
theorem rest_len : ∀ {xs t : List Int}, xs.Nodup → t.Sublist xs → (xs.filter fun x => !decide (x ∈ t)).length + t.length = xs.length
  | [], t, _, h => by rw [List.sublist_nil.mp h]; rfl
  | x :: xs, t, nd, h => by
    have nd2 := List.nodup_cons.mp nd
    cases h with
    | cons _ h =>
      have hx : x ∉ t := fun z => nd2.1 (h.subset z)
      rw [List.filter_cons_of_pos (by simp [hx]), List.length_cons, List.length_cons]
      have := rest_len nd2.2 h
      omega
    | @cons_cons t' _ _ h =>
      rw [List.filter_cons_of_neg (by simp), List.length_cons, List.length_cons]
      have e : (xs.filter fun y => !decide (y ∈ x :: t')) = xs.filter fun y => !decide (y ∈ t') := List.filter_congr fun y hy => by
        have : y ≠ x := fun z => nd2.1 (z ▸ hy)
        simp [this]
      rw [e]
      have := rest_len nd2.2 h
      omega
theorem flatMap_len {α β : Type} {f : α → List β} {m : Nat} : ∀ {l : List α}, (∀ x ∈ l, (f x).length = m) → (l.flatMap f).length = l.length * m
  | [], _ => by simp
  | x :: l, h => by
    rw [List.flatMap_cons, List.length_append, List.length_cons, h x (by simp), flatMap_len fun y hy => h y (List.mem_cons_of_mem _ hy), Nat.succ_mul]
    omega
theorem tab_rest {a : Int} {xs t : List Int} (h : (a :: xs).Pairwise (· < ·)) {n : Nat} (ht : t ∈ (ch xs n).map (a :: ·)) : (xs.filter fun x => !decide (x ∈ t)).length + n = xs.length ∧ (xs.filter fun x => !decide (x ∈ t)).Pairwise (· < ·) ∧ (a :: xs).filter (fun x => !decide (x ∈ t)) = xs.filter fun x => !decide (x ∈ t) := by
  obtain ⟨u, hu, rfl⟩ := List.mem_map.mp ht
  have h2 := List.pairwise_cons.mp h
  have nd : xs.Nodup := h2.2.imp fun z => Int.ne_of_lt z
  have e : (xs.filter fun y => !decide (y ∈ a :: u)) = xs.filter fun y => !decide (y ∈ u) := List.filter_congr fun y hy => by
    have : y ≠ a := Int.ne_of_gt (h2.1 y hy)
    simp [this]
  refine ⟨?_, h2.2.filter _, ?_⟩
  · rw [e]
    have := rest_len nd (ch_sub hu)
    rw [ch_len hu] at this
    exact this
  · rw [List.filter_cons_of_neg (by simp)]
theorem allR_card (n : Nat) : ∀ (q : Nat) {xs : List Int}, xs.Pairwise (· < ·) → xs.length = (n + 1) * q → (allR n q xs).length = cntA n q
  | 0, _, _, _ => rfl
  | q + 1, [], _, h => by simp at h
  | q + 1, a :: xs, hp, h => by
    show (List.flatMap _ _).length = _
    have hl : xs.length = (n + 1) * q + n := by
      rw [List.length_cons, Nat.mul_succ] at h
      omega
    rw [flatMap_len (m := cntA n q) fun t ht => ?_]
    · rw [List.length_map, ch_card, hl]
      rfl
    · obtain ⟨r1, r2, _⟩ := tab_rest hp ht
      rw [List.length_map]
      exact allR_card n q r2 (by omega)
theorem cnt_few : ∀ n : Fin 8, ∀ q : Fin 10, (n.val + 1) * q.val ≤ 9 → 1 ≤ n.val → cntA n.val q.val ≤ 280 := by decide +kernel
theorem cnt_le {n q : Nat} (h : (n + 1) * q ≤ 9) (h1 : 1 ≤ n) (h2 : n < 8) : cntA n q ≤ 280 := by
  have hq : q < 10 := by
    have : 1 * q ≤ (n + 1) * q := Nat.mul_le_mul_right q (by omega)
    omega
  exact cnt_few ⟨n, h2⟩ ⟨q, hq⟩ h h1
abbrev sp_all (n : Nat) : List D → (List D → Prop) → Prop := fun ds Po => ∃ (xs : List Int) (k q : Nat), ds = [.lst (xs.map .int), .int ((k : Int) + 1)] ∧ 1 ≤ k ∧ k < 8 ∧ q < n ∧ xs.length = (k + 1) * q ∧ xs.length ≤ 9 ∧ xs.Pairwise (· < ·) ∧ Po ((allR k q xs).map tT)
theorem od_catI {Z : Cs} {ρ : List En} {Q : D → Prop} {a : Int} {u : List Int} (l : u.length ≤ 1000) (q : Q (tI (a :: u))) : OpD Z ρ (rCatA Z.K) (.tup [.int a]) (tI u) Q :=
  od_catA (by rw [List.length_map]; exact Nat.le_trans (m := 1001) (by simp only [List.length_cons, List.length_nil]; omega) (by decide)) q
theorem od_catR {Z : Cs} {ρ : List En} {Q : D → Prop} {t : List Int} {r : List (List Int)} (l : r.length ≤ 1000) (q : Q (tT (t :: r))) : OpD Z ρ (rCatA Z.K) (.tup [tI t]) (tT r) Q :=
  od_catA (by rw [List.length_map]; exact Nat.le_trans (m := 1001) (by simp only [List.length_cons, List.length_nil]; omega) (by decide)) q
theorem allR_len (n : Nat) : ∀ (q : Nat) {xs : List Int} {r : List (List Int)}, r ∈ allR n q xs → r.length = q
  | 0, _, r, h => by rw [List.mem_singleton.mp h]; rfl
  | q + 1, [], r, h => nomatch h
  | q + 1, a :: xs, r, h => by
    obtain ⟨t, _, h⟩ := List.mem_flatMap.mp h
    obtain ⟨r', hr', rfl⟩ := List.mem_map.mp h
    rw [List.length_cons, allR_len n q hr']
end NF
/-! N6: rounds that may come next: the program's and the law's. -/
namespace NF
open PySem PySem.Spec PyProof.Rows L2 DL
abbrev sp_seat (n : Nat) : List D → (List D → Prop) → Prop := fun ds Po => ∃ (xs : List Int) (kss : List (List (Int × V))) (k q : Nat), ds = [.lst (xs.map .int), .lst (kss.map .dk), .int ((k : Int) + 1)] ∧ 1 ≤ k ∧ k < 8 ∧ q < n ∧ xs.length = (k + 1) * q ∧ xs.length ≤ 9 ∧ xs.Pairwise (· < ·) ∧ (∀ x ∈ xs, 0 ≤ x ∧ x < kss.length) ∧ ∃ S : List (Int × Int), (∀ (i : Nat) (h : i < kss.length) (y : Int), y ∈ (kss[i]).map (·.1) ↔ partB S (i : Int) y = true) ∧ Po ((seatP S k q xs).map tT)
theorem pw_rg (g : Int) : (rgD 0 g).Pairwise (· < ·) := by
  unfold rgD
  rw [List.pairwise_map]
  exact List.pairwise_lt_range.imp fun h => by omega
theorem goodP_q {g s : Int} (hg : goodP g s) : 1 ≤ (g / s).toNat := by
  have hm := goodP_mul hg
  obtain ⟨h1, h2, h3, h4, h5⟩ := hg
  cases e : (g / s).toNat with
  | zero => rw [e] at hm; omega
  | succ n => omega
theorem allR_sub (n : Nat) : ∀ (q : Nat) {xs : List Int}, xs.Pairwise (· < ·) → ∀ {r : List (List Int)}, r ∈ allR n q xs → ∀ t ∈ r, t.Sublist xs ∧ t.length = n + 1
  | 0, _, _, r, h, t, ht => by rw [List.mem_singleton.mp h] at ht; nomatch ht
  | q + 1, [], _, r, h, t, ht => nomatch h
  | q + 1, a :: xs, hp, r, h, t, ht => by
    obtain ⟨u, hu, h⟩ := List.mem_flatMap.mp h
    obtain ⟨r', hr', rfl⟩ := List.mem_map.mp h
    obtain ⟨v, hv, rfl⟩ := List.mem_map.mp hu
    rcases List.mem_cons.mp ht with rfl | ht
    · exact ⟨(ch_sub hv).cons_cons a, by rw [List.length_cons, ch_len hv]⟩
    · obtain ⟨_, r2, _⟩ := tab_rest hp hu
      obtain ⟨q1, q2⟩ := allR_sub n q r2 hr' t ht
      exact ⟨(q1.trans List.filter_sublist).cons a, q2⟩
theorem allR_pwt {n q : Nat} {xs : List Int} (hp : xs.Pairwise (· < ·)) {r : List (List Int)} (h : r ∈ allR n q xs) : ∀ t ∈ r, t.Pairwise (· < ·) := fun t ht => hp.sublist (allR_sub n q hp h t ht).1
theorem allR_sml {n : Nat} {g : Int} {r : List (List Int)} {q : Nat} (hg : n ≤ 9 ∧ q ≤ 60) (h : r ∈ allR n q (rgD 0 g)) : Sml r := ⟨by rw [allR_len n q h]; omega, fun t ht => by rw [(allR_sub n q (pw_rg g) h t ht).2]; omega⟩
theorem okT_new {S : List (Int × Int)} (hS : ∀ x ∈ S, x.1 < x.2) {t : List Int} (ht : t.Pairwise (· < ·)) : okT S t = decide (∀ x ∈ prsT t, x ∉ S) := by
  unfold okT
  rw [Bool.eq_iff_iff, List.all_eq_true, decide_eq_true_iff]
  refine forall_congr' fun x => forall_congr' fun hx => ?_
  have hlt : x.1 < x.2 := by
    have := List.Pairwise.sublist (mem_prsT.mp (show (x.1, x.2) ∈ prsT t from hx)) ht
    simpa using this
  unfold partB
  have h2 : (x.2, x.1) ∉ S := fun z => by have := hS _ z; simp at this; omega
  simp [h2]
theorem allR_new {g : Int} {p : List (List (List Int))} {n q : Nat} {xs : List Int} (hp : xs.Pairwise (· < ·)) (hS : ∀ x ∈ prsP p, 0 ≤ x.1 ∧ x.1 < x.2 ∧ x.2 < g) :
    ((allR n q xs).filter fun r => decide (∀ x ∈ prsR r, x ∉ prsP p)) = (allR n q xs).filter fun r => r.all (okT (prsP p)) := by
  refine List.filter_congr fun r hr => ?_
  have hpw := allR_pwt hp hr
  rw [Bool.eq_iff_iff, List.all_eq_true, decide_eq_true_iff]
  constructor
  · intro h t ht
    rw [okT_new (fun x hx => (hS x hx).2.1) (hpw t ht), decide_eq_true_iff]
    exact fun x hx => h x (List.mem_flatMap.mpr ⟨t, ht, hx⟩)
  · intro h x hx
    obtain ⟨t, ht, hx⟩ := List.mem_flatMap.mp hx
    have := h t ht
    rw [okT_new (fun x hx => (hS x hx).2.1) (hpw t ht), decide_eq_true_iff] at this
    exact this x hx
theorem cl_sortRl {Z : Cs} {ρ : List En} {xs : List (List (List Int))} {Q : List D → Prop} (ne : ∀ x ∈ xs, x ≠ []) (q : Q ((srtR xs).map tT)) : CbL Z ρ (rSortDl Z.K) [.lst (xs.map tT)] Q := cl_sortL (sortOk_tT xs ne) (by rw [sort_od od_tT]; exact q)
theorem few_nine : ∀ p ∈ ([(6, 2), (8, 2), (9, 3), (4, 2), (6, 3), (8, 4), (8, 2), (9, 3), (2, 2), (3, 3), (4, 4), (7, 7)] : List (Int × Int)), p.1 ≤ 9 := by decide
theorem nx_le {g s : Int} (hg : goodP g s) (g9 : g ≤ 9) (S : List (Int × Int)) : (seatP S (s - 1).toNat (g / s).toNat (rgD 0 g)).length ≤ 280 := by
  have hm := goodP_mul hg
  obtain ⟨h1, h2, h3, h4, h5⟩ := hg
  have hlen : (rgD 0 g).length = ((s - 1).toNat + 1) * (g / s).toNat := by rw [len_rg, show (s - 1).toNat + 1 = s.toNat by omega]; exact hm
  rw [seatP_eq]
  refine Nat.le_trans (List.length_filter_le _ _) ?_
  rw [allR_card _ _ (pw_rg g) hlen]
  exact cnt_le (by rw [← hlen, len_rg]; omega) (by omega) (by omega)
theorem nx_sml {g s : Int} (hg : goodP g s) {S : List (Int × Int)} {r : List (List Int)} (h : r ∈ seatP S (s - 1).toNat (g / s).toNat (rgD 0 g)) : Sml r := by
  have hm := goodP_mul hg
  obtain ⟨h1, h2, h3, h4, h5⟩ := hg
  rw [seatP_eq] at h
  refine allR_sml ⟨by omega, ?_⟩ (List.mem_filter.mp h).1
  have : 2 * (g / s).toNat ≤ s.toNat * (g / s).toNat := Nat.mul_le_mul_right _ (by omega)
  omega
theorem pl_nx {g s : Int} (hg : goodP g s) (g9 : g ≤ 9) (S : List (Int × Int)) : plN 8 (.lst ((seatP S (s - 1).toNat (g / s).toNat (rgD 0 g)).map tT)) :=
  pl_lst (Nat.le_trans (nx_le hg g9 S) (by decide)) fun r hr => pl_tT 4 (nx_sml hg hr)
end NF
/-! N7: one who comes late: table by table, and all ways at once. -/
namespace NF
open PySem PySem.Spec PyProof.Rows L2 DL
theorem fs_range {β : Type} {f : Nat → Option β} {v : β} : ∀ {n i : Nat}, i < n → (∀ k, k < i → f k = none) → f i = some v → (List.range n).findSome? f = some v
  | 0, i, h, _, _ => absurd h (Nat.not_lt_zero i)
  | n + 1, i, h, h0, h1 => by
    rw [List.range_succ, List.findSome?_append]
    by_cases c : i < n
    · rw [fs_range c h0 h1]; rfl
    · have e : i = n := by omega
      subst e
      rw [List.findSome?_eq_none_iff.mpr fun k hk => h0 k (List.mem_range.mp hk)]
      simp [h1]
theorem fs_none {β : Type} {f : Nat → Option β} {n : Nat} (h : ∀ k, k < n → f k = none) : (List.range n).findSome? f = none :=
  List.findSome?_eq_none_iff.mpr fun k hk => h k (List.mem_range.mp hk)
def freeB (kn t : List Int) : Bool := t.all fun x => !decide (x ∈ kn)
def stF : List (List (List Int)) → List Int → Option (List Int)
  | [], _ => some []
  | r :: rs, kn => (List.range r.length).findSome? fun k => if freeB kn (r.getD k []) = true then (stF rs (kn ++ r.getD k [])).map ((k : Int) :: ·) else none
theorem stF_nil (kn : List Int) : stF [] kn = some [] := rfl
theorem stF_cons (r : List (List Int)) (rs : List (List (List Int))) (kn : List Int) : stF (r :: rs) kn = (List.range r.length).findSome? fun k => if freeB kn (r.getD k []) = true then (stF rs (kn ++ r.getD k [])).map ((k : Int) :: ·) else none := rfl
theorem stF_len : ∀ {rs : List (List (List Int))} {kn ns : List Int}, stF rs kn = some ns → ns.length = rs.length
  | [], _, ns, h => by cases h; rfl
  | r :: rs, kn, ns, h => by
    rw [stF_cons] at h
    obtain ⟨k, _, h⟩ := List.exists_of_findSome?_eq_some h
    split at h
    · obtain ⟨ms, e, rfl⟩ := Option.map_eq_some_iff.mp h
      rw [List.length_cons, List.length_cons, stF_len e]
    · cases h
/-- one level of all ways -/
abbrev Way : Type := List Int × List Int
def wyK (r : List (List Int)) (w : Way) (k : Nat) : List Way := ((List.range k).filter fun i => freeB w.2 (r.getD i [])).map fun i : Nat => (w.1 ++ [(i : Int)], w.2 ++ r.getD i [])
def wyS (ws : List Way) (r : List (List Int)) : List Way := ws.flatMap fun w => wyK r w r.length
def wyAll (rs : List (List (List Int))) : List Way := rs.foldl wyS [([], [])]
def allW : List (List (List Int)) → List Int → List Way
  | [], kn => [([], kn)]
  | r :: rs, kn => ((List.range r.length).filter fun i => freeB kn (r.getD i [])).flatMap fun i : Nat => (allW rs (kn ++ r.getD i [])).map fun w => ((i : Int) :: w.1, w.2)
theorem wy_fold : ∀ (rs : List (List (List Int))) (ws : List Way), rs.foldl wyS ws = ws.flatMap fun w => (allW rs w.2).map fun u => (w.1 ++ u.1, u.2)
  | [], ws => by
    show ws = _
    have : (fun w : Way => (allW [] w.2).map fun u => (w.1 ++ u.1, u.2)) = fun w => [w] := by
      funext w
      show [(w.1 ++ [], w.2)] = [w]
      rw [List.append_nil]
    rw [this]
    simp
  | r :: rs, ws => by
    rw [List.foldl_cons, wy_fold rs, wyS, List.flatMap_assoc]
    refine fm_congr fun w _ => ?_
    show (wyK r w r.length).flatMap _ = List.map _ (List.flatMap _ _)
    unfold wyK
    rw [List.flatMap_map, List.map_flatMap]
    refine fm_congr fun i _ => ?_
    rw [List.map_map]
    refine List.map_congr_left fun u _ => ?_
    simp
theorem wyAll_eq (rs : List (List (List Int))) : wyAll rs = allW rs [] := by
  unfold wyAll
  rw [wy_fold]
  simp
theorem fs_filter {α β : Type} (p : α → Bool) (f : α → Option β) : ∀ l : List α, (l.filter p).findSome? f = l.findSome? fun x => if p x = true then f x else none
  | [] => rfl
  | x :: l => by
    by_cases c : p x = true
    · rw [List.filter_cons_of_pos c, List.findSome?_cons, List.findSome?_cons, if_pos c, fs_filter p f l]
    · rw [List.filter_cons_of_neg c, List.findSome?_cons, if_neg c, fs_filter p f l]
theorem allW_head : ∀ (rs : List (List (List Int))) (kn : List Int), ((allW rs kn).map (·.1)).head? = stF rs kn
  | [], _ => rfl
  | r :: rs, kn => by
    show (List.map _ (List.flatMap _ _)).head? = _
    rw [List.map_flatMap, List.head?_flatMap, stF_cons, fs_filter]
    congr 1
    funext i
    by_cases c : freeB kn (r.getD i []) = true
    · rw [if_pos c, if_pos c, ← allW_head rs, List.map_map]
      cases (allW rs (kn ++ r.getD i [])) <;> rfl
    · rw [if_neg c, if_neg c]
theorem allW_pw : ∀ (rs : List (List (List Int))) (kn : List Int), ((allW rs kn).map (·.1)).Pairwise fun a b => ltT a b = true
  | [], _ => List.pairwise_singleton _ _
  | r :: rs, kn => by
    show (List.map _ (List.flatMap _ _)).Pairwise _
    rw [List.map_flatMap, List.pairwise_flatMap]
    refine ⟨fun i _ => ?_, ?_⟩
    · have ih := allW_pw rs (kn ++ r.getD i [])
      rw [List.pairwise_map] at ih ⊢
      rw [List.pairwise_map]
      refine ih.imp fun h => ?_
      show ltT _ _ = true
      unfold ltT
      rw [lx_same]
      exact h
    · refine (List.pairwise_lt_range.filter _).imp fun {i j} hij x hx y hy => ?_
      obtain ⟨u, hu, rfl⟩ := List.mem_map.mp hx
      obtain ⟨u', _, rfl⟩ := List.mem_map.mp hu
      obtain ⟨v, hv, rfl⟩ := List.mem_map.mp hy
      obtain ⟨v', _, rfl⟩ := List.mem_map.mp hv
      exact lx_diff tri_int (by simp; omega) _ _
theorem srt_pw {xs : List (List Int)} (h : xs.Pairwise fun a b => ltT a b = true) : srtT xs = xs :=
  sort_self tri_T (h.imp fun {a b} h => by
    unfold leO
    rw [tri_T.asy h]
    rfl)
theorem wyK_le (r : List (List Int)) (w : Way) (k : Nat) : (wyK r w k).length ≤ k := by
  unfold wyK
  rw [List.length_map]
  refine Nat.le_trans (List.length_filter_le _ _) ?_
  rw [List.length_range]
  exact Nat.le_refl _
theorem wyK_succ (r : List (List Int)) (w : Way) (k : Nat) : wyK r w (k + 1) = wyK r w k ++ if freeB w.2 (r.getD k []) = true then [(w.1 ++ [(k : Int)], w.2 ++ r.getD k [])] else [] := by
  unfold wyK
  rw [List.range_succ, List.filter_append, List.map_append]
  congr 1
  by_cases c : freeB w.2 (r.getD k []) = true
  · rw [if_pos c]
    simp only [List.filter_cons, List.filter_nil]
    rw [if_pos c]
    rfl
  · rw [if_neg c]
    simp only [List.filter_cons, List.filter_nil]
    rw [if_neg c]
    rfl
theorem fm_le {α β : Type} {f : α → List β} {m : Nat} : ∀ {l : List α}, (∀ x ∈ l, (f x).length ≤ m) → (l.flatMap f).length ≤ l.length * m
  | [], _ => by simp
  | x :: l, h => by
    have h1 := h x (by simp)
    have h2 := fm_le (f := f) (l := l) fun y hy => h y (List.mem_cons_of_mem _ hy)
    rw [List.flatMap_cons, List.length_append, List.length_cons, Nat.succ_mul]
    omega
theorem wyS_le {ws : List Way} {r : List (List Int)} (h : r.length ≤ 4) : (wyS ws r).length ≤ ws.length * 4 := fm_le fun w _ => Nat.le_trans (wyK_le r w _) h
theorem fold_le : ∀ {rs : List (List (List Int))} {ws : List Way}, (∀ r ∈ rs, r.length ≤ 4) → (rs.foldl wyS ws).length ≤ ws.length * 4 ^ rs.length
  | [], ws, _ => by simp
  | r :: rs, ws, h => by
    rw [List.foldl_cons, List.length_cons, Nat.pow_succ]
    have h1 := fold_le (rs := rs) (ws := wyS ws r) fun x hx => h x (List.mem_cons_of_mem _ hx)
    have h2 := wyS_le (ws := ws) (h r (by simp))
    have h3 := Nat.mul_le_mul_right (4 ^ rs.length) h2
    rw [Nat.mul_comm (4 ^ rs.length) 4, ← Nat.mul_assoc]
    omega
/-- how long the lists of a way are -/
def WayOk (n m : Nat) (w : Way) : Prop := w.1.length ≤ n ∧ w.2.length ≤ m
theorem wyS_ok {ws : List Way} {r : List (List Int)} {n m : Nat} (hr : ∀ t ∈ r, t.length ≤ 70) (h : ∀ w ∈ ws, WayOk n m w) : ∀ w ∈ wyS ws r, WayOk (n + 1) (m + 70) w := fun w hw => by
  obtain ⟨u, hu, hw⟩ := List.mem_flatMap.mp hw
  obtain ⟨i, hi, rfl⟩ := List.mem_map.mp hw
  obtain ⟨q1, q2⟩ := h u hu
  have hi := List.mem_range.mp (List.mem_filter.mp hi).1
  have := hr r[i] (List.getElem_mem hi)
  refine ⟨by rw [List.length_append, List.length_cons, List.length_nil]; omega, ?_⟩
  rw [List.length_append, getD_at _ hi]
  omega
theorem wyAll_snoc (rs : List (List (List Int))) (r : List (List Int)) : wyAll (rs ++ [r]) = wyS (wyAll rs) r := by
  unfold wyAll
  rw [List.foldl_append]
  rfl
abbrev wyD (w : Way) : D := .tup [lI w.1, lI w.2]
theorem shp_way (ws : List Way) : Shp (ws.map wyD) := fun d hd => by
  obtain ⟨w, _, rfl⟩ := List.mem_map.mp hd
  have d1 := kd_lI.dep w.1
  have d2 := kd_lI.dep w.2
  rw [toPy_tup]
  simp only [List.map_cons, List.map_nil, PyData.canLay0, PyData.canLayAll0, PyData.depth, PyData.depthAll]
  rw [kd_lI.can, kd_lI.can]
  exact ⟨rfl, by omega⟩
abbrev dueD (o : Option (List Int)) : D := match o with | none => .non | some ns => lI ns
theorem pl_due (o : Option (List Int)) (h : ∀ ns, o = some ns → ns.length ≤ 100) : plN 8 (dueD o) := by
  cases o with
  | none => trivial
  | some ns => exact ⟨by rw [List.length_map]; have := h ns rfl; omega, fun x hx => by obtain ⟨y, _, rfl⟩ := List.mem_map.mp hx; trivial⟩
abbrev sp_st (n : Nat) : List D → (Option (List D) → Prop) → Prop := fun ds Po => ∃ (rs : List (List (List Int))) (kn : List Int), ds = [lT rs, lI kn] ∧ rs.length < n ∧ (∀ r ∈ rs, Sml r) ∧ kn.length + 70 * rs.length ≤ 10000 ∧ Po ((stF rs kn).map (·.map .int))
theorem rnd_four {g s : Int} (hg : goodP g s) (g9 : g ≤ 9) {r : List (List Int)} (h : isRnd g s r = true) : r.length ≤ 4 := by
  have h1 := (rnd_iff.mp h).1
  obtain ⟨a, b, c, d, e⟩ := hg
  have : g / s ≤ 4 := by
    have := Int.ediv_le_ediv (a := g) (b := 9) (c := s) (by omega) g9
    have h2 : (9 : Int) / s ≤ 9 / 2 := by
      rcases (show s = 2 ∨ s = 3 ∨ s = 4 ∨ s = 5 ∨ s = 6 ∨ s = 7 ∨ s = 8 by omega) with rfl | rfl | rfl | rfl | rfl | rfl | rfl <;> decide
    omega
  omega
end NF
/-! N8: choices level by level, hosts, rounds moved. -/
namespace NF
open PySem PySem.Spec PyProof.Rows L2 DL
def gtE (t : List Int) (o : Int) : Bool := t.isEmpty || decide (o > t.getLastD 0)
theorem ch_grow {xs : List Int} (hp : xs.Pairwise (· < ·)) (n : Nat) : ch xs (n + 1) = (ch xs n).flatMap fun t => (xs.filter (gtE t)).map fun o => t ++ [o] := by
  obtain ⟨a, ha⟩ : ∃ a, (a :: xs).Pairwise (· < ·) := by
    refine ⟨xs.headD 0 - 1, ?_⟩
    refine List.pairwise_cons.mpr ⟨fun x hx => ?_, hp⟩
    cases xs with
    | nil => nomatch hx
    | cons y ys =>
      rcases List.mem_cons.mp hx with rfl | hx
      · simp; omega
      · have := (List.pairwise_cons.mp hp).1 x hx
        simp; omega
  have h := grow_one (n := n) ha
  rw [List.flatMap_map] at h
  have h2 : (ch xs (n + 1)).map (a :: ·) = ((ch xs n).flatMap fun t => (xs.filter (gtE t)).map fun o => t ++ [o]).map (a :: ·) := by
    rw [h, List.map_flatMap]
    refine fm_congr fun t _ => ?_
    rw [List.map_map]
    have e : xs.filter (gtL (a :: t)) = xs.filter (gtE t) := by
      refine List.filter_congr fun o ho => ?_
      unfold gtL gtE
      cases t with
      | nil =>
        have := (List.pairwise_cons.mp ha).1 o ho
        simp
        omega
      | cons b t => simp [List.getLastD]
    rw [e]
    rfl
  exact (List.map_inj_right fun x y e => by injection e).mp h2
def hostOk (p : List (List (List Int))) (some : List Int) : Bool := p.all fun r => r.all fun t => decide ((t.filter fun x => decide (x ∈ some)).length = 1)
def hostsF (g : Int) (n : Nat) (p : List (List (List Int))) : Option (List Int) := (ch (rgD 0 g) n).find? (hostOk p)
theorem hostsF_len {g : Int} {n : Nat} {p : List (List (List Int))} {t : List Int} (h : hostsF g n p = some t) : t.length = n := ch_len (List.mem_of_find?_eq_some h)
/-- a round moved -/
def atT (t : List Int) (x : Int) : Int := t.getD x.toNat 0
def mvR (t : List Int) (r : List (List Int)) : List (List Int) := srtT (r.map fun tb => srtI (tb.map (atT t)))
def fullB (g s : Int) (r : List (List Int)) : Bool := decide ((r.length : Int) ≤ g / s) && (r.all fun t => decide (1 ≤ t.length) && decide ((t.length : Int) ≤ s) && t.all fun x => decide (0 ≤ x) && decide (x < g)) && decide r.flatten.Nodup
theorem full_of_rnd {g s : Int} {r : List (List Int)} (h : isRnd g s r = true) : fullB g s r = true := by
  obtain ⟨h1, h2, h3, h4⟩ := rnd_iff.mp h
  unfold fullB
  simp only [Bool.and_eq_true, decide_eq_true_iff, List.all_eq_true]
  refine ⟨⟨h1, fun t ht => ?_⟩, h4⟩
  obtain ⟨q1, q2, q3, q4⟩ := tab_iff.mp (h2 t ht)
  exact ⟨⟨q1, q2⟩, q4⟩
theorem full_iff {g s : Int} {r : List (List Int)} : fullB g s r = true ↔ (r.length : Int) ≤ g / s ∧ (∀ t ∈ r, 1 ≤ t.length ∧ (t.length : Int) ≤ s ∧ ∀ x ∈ t, 0 ≤ x ∧ x < g) ∧ r.flatten.Nodup := by
  unfold fullB
  simp only [Bool.and_eq_true, decide_eq_true_iff, List.all_eq_true]
  constructor
  · rintro ⟨⟨h1, h2⟩, h3⟩
    exact ⟨h1, fun t ht => ⟨(h2 t ht).1.1, (h2 t ht).1.2, (h2 t ht).2⟩, h3⟩
  · rintro ⟨h1, h2, h3⟩
    exact ⟨⟨h1, fun t ht => ⟨⟨(h2 t ht).1, (h2 t ht).2.1⟩, (h2 t ht).2.2⟩⟩, h3⟩
theorem nd_get {l : List Int} (h : l.Nodup) {i j : Nat} (hi : i < l.length) (hj : j < l.length) (e : l[i] = l[j]) : i = j := by
  have q := List.pairwise_iff_getElem.mp h
  rcases Nat.lt_trichotomy i j with c | c | c
  · exact absurd e (q i j hi hj c)
  · exact c
  · exact absurd e.symm (q j i hj hi c)
theorem atT_inj {g : Int} {t : List Int} (ht : t.Perm (rgD 0 g)) {x y : Int} (hx : 0 ≤ x ∧ x < g) (hy : 0 ≤ y ∧ y < g) (e : atT t x = atT t y) : x = y := by
  have nd : t.Nodup := ht.nodup_iff.mpr (nd_rg g)
  have hl := ht.length_eq
  rw [len_rg] at hl
  have h1 : x.toNat < t.length := by omega
  have h2 : y.toNat < t.length := by omega
  unfold atT at e
  rw [getD_at _ h1, getD_at _ h2] at e
  have := nd_get nd h1 h2 e
  omega
theorem atT_mem {g : Int} {t : List Int} (ht : t.Perm (rgD 0 g)) {x : Int} (hx : 0 ≤ x ∧ x < g) : 0 ≤ atT t x ∧ atT t x < g := by
  have hl := ht.length_eq
  rw [len_rg] at hl
  have h1 : x.toNat < t.length := by omega
  unfold atT
  rw [getD_at _ h1]
  exact mem_rg.mp (ht.mem_iff.mp (List.getElem_mem h1))
theorem srtI_perm (xs : List Int) : (srtI xs).Perm xs := List.mergeSort_perm _ _
theorem flat_perm {f : List Int → List Int} (hf : ∀ t, (f t).Perm t) : ∀ r : List (List Int), (r.map f).flatten.Perm r.flatten
  | [] => .refl _
  | t :: r => by
    rw [List.map_cons, List.flatten_cons, List.flatten_cons]
    exact (hf t).append (flat_perm hf r)
theorem mv_rnd {g s : Int} {t : List Int} (ht : t.Perm (rgD 0 g)) {r : List (List Int)} (h : fullB g s r = true) : isRnd g s (mvR t r) = true := by
  obtain ⟨h1, h2, h3⟩ := full_iff.mp h
  have hnd : ((r.map fun tb => tb.map (atT t)).flatten).Nodup := by
    rw [← List.map_flatten]
    unfold List.Nodup
    rw [List.pairwise_map]
    refine h3.imp_of_mem fun {a b} ha hb ne e => ne ?_
    obtain ⟨ta, ha1, ha2⟩ := List.mem_flatten.mp ha
    obtain ⟨tb, hb1, hb2⟩ := List.mem_flatten.mp hb
    exact atT_inj ht ((h2 ta ha1).2.2 a ha2) ((h2 tb hb1).2.2 b hb2) e
  have hpm : (r.map fun tb => srtI (tb.map (atT t))).flatten.Perm (r.map fun tb => tb.map (atT t)).flatten := by
    have := flat_perm srtI_perm (r.map fun tb => tb.map (atT t))
    rw [List.map_map] at this
    exact this
  refine rnd_of (fun u hu => ?_) (hpm.nodup_iff.mpr hnd) (by rw [List.length_map]; exact h1)
  obtain ⟨tb, htb, rfl⟩ := List.mem_map.mp hu
  have hp := srtI_perm (tb.map (atT t))
  have ndt : (tb.map (atT t)).Nodup := (List.pairwise_flatten.mp hnd).1 _ (List.mem_map.mpr ⟨tb, htb, rfl⟩)
  refine tab_iff.mpr ⟨?_, ?_, ?_, fun x hx => ?_⟩
  · rw [hp.length_eq, List.length_map]; exact (h2 tb htb).1
  · rw [hp.length_eq, List.length_map]; exact (h2 tb htb).2.1
  · have := srtI_inc (tb.map (atT t))
    rw [decide_eq_true ndt] at this
    exact of_decide_eq_true this
  · obtain ⟨y, hy, rfl⟩ := List.mem_map.mp (hp.mem_iff.mp hx)
    exact atT_mem ht ((h2 tb htb).2.2 y hy)
/-- rounds with hosts -/
def hostT (n : Int) (s : Nat) (turn host : Nat) : List Int := (host : Int) :: (List.range (s - 1)).map fun k : Nat => n * (1 + (k : Int) * 1) + ((host : Int) + (1 + (k : Int) * 1) * (turn : Int)) % n
def hostR (n : Int) (s : Nat) (turn : Nat) : List (List Int) := (List.range n.toNat).map (hostT n s turn)
def hostP (n : Int) (s : Nat) : List (List (List Int)) := (List.range n.toNat).map (hostR n s)
theorem host_three : ∀ x ∈ ([(9, 3), (6, 2), (4, 2)] : List (Int × Int)), goodP x.1 x.2 ∧ x.1 ≤ 9 ∧ (x.1 / x.2 ∈ ([2, 3, 5, 7] : List Int)) ∧ x.2 ≤ x.1 / x.2 ∧ ((hostP (x.1 / x.2) x.2.toNat).all fun r => fullB x.1 x.2 r) = true := by unfold goodP; decide +kernel
end NF
/-! N9: the law's is_round is the program's; keys of dicts put together; plans with hosts. -/
namespace NF
open PySem PySem.Spec PyProof.Rows L2 DL
theorem dedup_le : ∀ (ns acc : List Int), (ns.foldl step_dedup acc).length ≤ acc.length + ns.length
  | [], acc => by simp
  | x :: ns, acc => by
    have h := dedup_le ns (step_dedup acc x)
    rw [List.foldl_cons, List.length_cons]
    have : (step_dedup acc x).length ≤ acc.length + 1 := by
      unfold step_dedup
      split <;> simp
    omega
theorem dedup_eq : ∀ (ns acc : List Int), (ns.foldl step_dedup acc).length = acc.length + ns.length ↔ ns.Nodup ∧ ∀ x ∈ ns, x ∉ acc
  | [], acc => by simp
  | x :: ns, acc => by
    rw [List.foldl_cons, List.length_cons, List.nodup_cons]
    by_cases c : x ∈ acc
    · have e : step_dedup acc x = acc := by
        unfold step_dedup
        rw [if_pos (by simpa using c)]
      rw [e]
      have := dedup_le ns acc
      constructor
      · intro z; omega
      · rintro ⟨_, z⟩
        exact absurd c (z x (by simp))
    · have e : step_dedup acc x = acc ++ [x] := by
        unfold step_dedup
        rw [if_neg (by simpa using c)]
      rw [e]
      have ih := dedup_eq ns (acc ++ [x])
      rw [List.length_append, List.length_singleton] at ih
      rw [show acc.length + (ns.length + 1) = acc.length + 1 + ns.length by omega, ih]
      constructor
      · rintro ⟨h1, h2⟩
        refine ⟨⟨fun z => h2 x z (by simp), h1⟩, fun y hy => ?_⟩
        rcases List.mem_cons.mp hy with rfl | hy
        · exact c
        · exact fun z => h2 y hy (List.mem_append_left _ z)
      · rintro ⟨⟨h1, h2⟩, h3⟩
        refine ⟨h2, fun y hy z => ?_⟩
        rcases List.mem_append.mp z with z | z
        · exact h3 y (List.mem_cons_of_mem _ hy) z
        · rw [List.mem_singleton.mp z] at hy
          exact h1 hy
theorem ddup_nodup (ns : List Int) : decide (((ddup ns).length : Int) = (ns.length : Int)) = decide ns.Nodup := by
  have := dedup_eq ns []
  simp at this
  unfold ddup
  rw [decide_eq_decide]
  constructor
  · intro z; exact this.mp (by omega)
  · intro z; have := this.mpr z; omega
/-- the law's round -/
def lawR (g s : Int) (r : List (List Int)) : Bool := r.all (fun t => decide (1 ≤ t.length) && decide ((t.length : Int) ≤ s) && decide (t = srtI t)) && (r.flatten.all fun x => decide (0 ≤ x) && decide (x < g)) && decide r.flatten.Nodup && decide ((r.length : Int) ≤ g / s) && decide (r = srtT r)
theorem srtI_srt (xs : List Int) : (srtI xs).Pairwise (· ≤ ·) := by
  have h := srt_sort tri_int xs
  refine List.Pairwise.imp (fun {a b} h => ?_) h
  unfold leO at h
  simp at h
  exact h
theorem lawR_eq (g s : Int) (r : List (List Int)) : lawR g s r = isRnd g s r := by
  rw [Bool.eq_iff_iff, rnd_iff]
  unfold lawR
  simp only [Bool.and_eq_true, decide_eq_true_iff, List.all_eq_true]
  constructor
  · rintro ⟨⟨⟨⟨h1, h2⟩, h3⟩, h4⟩, h5⟩
    have hnd := List.pairwise_flatten.mp h3
    have tp : ∀ t ∈ r, t.Pairwise (· < ·) := fun t ht => by
      have a := srtI_srt t
      rw [← (h1 t ht).2] at a
      have b := hnd.1 t ht
      exact (a.and b).imp fun h => by omega
    refine ⟨h4, fun t ht => tab_iff.mpr ⟨(h1 t ht).1.1, (h1 t ht).1.2, tp t ht, fun x hx => h2 x (List.mem_flatten.mpr ⟨t, ht, hx⟩)⟩, ?_, h3⟩
    have a : Srt ltT (srtT r) := srt_sort tri_T r
    rw [← h5] at a
    rw [List.pairwise_map]
    refine (List.Pairwise.and a hnd.2).imp_of_mem fun {x y} hx hy h => ?_
    obtain ⟨h6, h7⟩ := h
    have nx := (h1 x hx).1.1
    have ny := (h1 y hy).1.1
    cases x with
    | nil => simp at nx
    | cons c x =>
      cases y with
      | nil => simp at ny
      | cons d y =>
        have ne := h7 c (by simp) d (by simp)
        simp only [List.headD_cons]
        unfold leO at h6
        simp only [Bool.not_eq_true'] at h6
        by_cases z : d < c
        · have h8 : ltT (d :: y) (c :: x) = true := lx_diff tri_int (x := d) (y := c) (by simpa using z) y x
          rw [h8] at h6
          cases h6
        · omega
  · rintro ⟨h1, h2, h3, h4⟩
    have hr : isRnd g s r = true := rnd_iff.mpr ⟨h1, h2, h3, h4⟩
    refine ⟨⟨⟨⟨fun t ht => ?_, fun x hx => ?_⟩, h4⟩, h1⟩, (rnd_srt hr).symm⟩
    · obtain ⟨q1, q2, q3, q4⟩ := tab_iff.mp (h2 t ht)
      refine ⟨⟨q1, q2⟩, ?_⟩
      have : srtI t = t := sort_self tri_int (q3.imp fun {a b} h => by unfold leO; simp; omega)
      exact this.symm
    · obtain ⟨t, ht, hx⟩ := List.mem_flatten.mp hx
      exact (tab_iff.mp (h2 t ht)).2.2.2 x hx
theorem mergeI_keys : ∀ (more kvs : List (List Int × V)), (kvs.map (·.1)).Nodup → ((mergeI kvs more).map (·.1)).Nodup ∧ (∀ k, k ∈ (mergeI kvs more).map (·.1) ↔ k ∈ kvs.map (·.1) ∨ k ∈ more.map (·.1)) ∧ (mergeI kvs more).length ≤ kvs.length + more.length
  | [], kvs, h => ⟨h, fun k => by simp [mergeI], by simp [mergeI]⟩
  | p :: more, kvs, h => by
    obtain ⟨h1, h2, h3⟩ := mergeI_keys more (putK kvs p.1 p.2) (putK_nd h _ _)
    have l := length_putK kvs p.1 p.2
    refine ⟨h1, fun k => (h2 k).trans ?_, Nat.le_trans h3 (by rw [List.length_cons]; omega)⟩
    rw [putK_mem, List.map_cons, List.mem_cons]
    constructor
    · rintro ((z | z) | z)
      · exact .inl z
      · exact .inr (.inl z)
      · exact .inr (.inr z)
    · rintro (z | z | z)
      · exact .inl (.inl z)
      · exact .inl (.inr z)
      · exact .inr z
theorem KeyOf.merge {kvs more : List (List Int × V)} {S T : List (Int × Int)} (h : KeyOf kvs S) (q : KeyOf more T) : KeyOf (mergeI kvs more) (S ++ T) := by
  obtain ⟨h1, h2, h3⟩ := mergeI_keys more kvs h.nd
  refine ⟨h1, fun k => ?_, ?_⟩
  · rw [h2, h.mem, q.mem]
    constructor
    · rintro (⟨x, hx, e⟩ | ⟨x, hx, e⟩)
      · exact ⟨x, List.mem_append_left _ hx, e⟩
      · exact ⟨x, List.mem_append_right _ hx, e⟩
    · rintro ⟨x, hx, e⟩
      rcases List.mem_append.mp hx with hx | hx
      · exact .inl ⟨x, hx, e⟩
      · exact .inr ⟨x, hx, e⟩
  · rw [List.length_append]
    have := h.len
    have := q.len
    omega
/-- the keys, where no pair stands twice -/
theorem KeyOf.list {kvs : List (List Int × V)} {S : List (Int × Int)} (h : KeyOf kvs S) (nd : S.Nodup) : (kvs.map (·.1)).Perm (S.map fun x => [x.1, x.2]) := by
  refine (List.perm_ext_iff_of_nodup h.nd ?_).mpr fun k => ?_
  · unfold List.Nodup at nd ⊢
    rw [List.pairwise_map]
    exact nd.imp fun {a b} ne e => ne (by
      obtain ⟨a1, a2⟩ := a
      obtain ⟨b1, b2⟩ := b
      simp at e
      rw [e.1, e.2])
  · rw [h.mem, List.mem_map]
    constructor
    · rintro ⟨x, hx, e⟩; exact ⟨x, hx, e.symm⟩
    · rintro ⟨x, hx, e⟩; exact ⟨x, hx, e.symm⟩
def nodupM : List Nat → Nat → Bool
  | [], _ => true
  | c :: l, m => !m.testBit c && nodupM l (m ||| (1 <<< c))
theorem nodupM_ok : ∀ {l : List Nat} {m : Nat}, nodupM l m = true → l.Nodup ∧ ∀ c ∈ l, m.testBit c = false
  | [], m, _ => ⟨.nil, fun c hc => nomatch hc⟩
  | c :: l, m, h => by
    rw [nodupM, Bool.and_eq_true] at h
    obtain ⟨h1, h2⟩ := nodupM_ok h.2
    have bit : ∀ d, (m ||| (1 <<< c)).testBit d = (m.testBit d || decide (c = d)) := fun d => by
      rw [Nat.testBit_or, Nat.one_shiftLeft, Nat.testBit_two_pow]
    refine ⟨List.nodup_cons.mpr ⟨fun z => ?_, h1⟩, fun d hd => ?_⟩
    · have := h2 c z
      rw [bit, decide_eq_true rfl, Bool.or_true] at this
      cases this
    · rcases List.mem_cons.mp hd with rfl | hd
      · simpa using h.1
      · have := h2 d hd
        rw [bit, Bool.or_eq_false_iff] at this
        exact this.1
def encP (x : Int × Int) : Nat := (64 * x.1 + x.2).toNat
theorem nodup_encP {l : List (Int × Int)} (h : nodupM (l.map encP) 0 = true) : l.Nodup := by
  have := (nodupM_ok h).1
  unfold List.Nodup at this ⊢
  rw [List.pairwise_map] at this
  exact this.imp fun h e => h (by rw [e])
def incB : List Int → Bool
  | [] => true
  | [_] => true
  | a :: b :: r => decide (a < b) && incB (b :: r)
theorem incB_pw : ∀ {l : List Int}, incB l = true → l.Pairwise (· < ·)
  | [], _ => .nil
  | [a], _ => List.pairwise_singleton _ _
  | a :: b :: r, h => by
    rw [incB, Bool.and_eq_true, decide_eq_true_iff] at h
    have ih := incB_pw h.2
    refine List.pairwise_cons.mpr ⟨fun x hx => ?_, ih⟩
    rcases List.mem_cons.mp hx with rfl | hx
    · exact h.1
    · exact Int.lt_trans h.1 ((List.pairwise_cons.mp ih).1 x hx)
/-- a round, without sorting -/
def rndB (g s : Int) (r : List (List Int)) : Bool := fullB g s r && (r.all incB && incB (r.map fun t => t.headD 0))
theorem rndB_ok {g s : Int} {r : List (List Int)} (h : rndB g s r = true) : isRnd g s r = true := by
  unfold rndB at h
  simp only [Bool.and_eq_true, List.all_eq_true] at h
  obtain ⟨h1, h2, h3⟩ := h
  obtain ⟨q1, q2, q3⟩ := full_iff.mp h1
  exact rnd_iff.mpr ⟨q1, fun t ht => tab_iff.mpr ⟨(q2 t ht).1, (q2 t ht).2.1, incB_pw (h2 t ht), (q2 t ht).2.2⟩, incB_pw h3, q3⟩
theorem idxOf_nd {α : Type} [DecidableEq α] {l : List α} (h : l.Nodup) {i : Nat} (hi : i < l.length) : l.idxOf l[i] = i := by
  have h1 := List.idxOf_lt_length_iff.mpr (List.getElem_mem hi)
  have h2 := List.getElem_idxOf h1
  have q := List.pairwise_iff_getElem.mp h
  rcases Nat.lt_trichotomy (l.idxOf l[i]) i with z | z | z
  · exact absurd h2 (q _ _ h1 hi z)
  · exact z
  · exact absurd h2.symm (q _ _ hi h1 z)
/-- what is to be shown of a plan with hosts -/
def hostedB (n : Int) (s : Nat) : Bool :=
  let p := hostP n s
  decide ((p.length : Int) = n) && ((p.all fun r => rndB (n * s) s r && decide ((r.length : Int) = n) && (List.range n.toNat).all fun k => decide ((r.getD k []).length = s) && decide ((r.getD k []).getD 0 0 = (k : Int))) && (nodupM ((prsP p).map encP) 0 &&
  (decide (((prsP p).length : Int) = n * n * s * (s - 1) / 2) && (decide ((((prsP p).filter fun x => decide (x.1 < n)).length : Int) = n * n * (s - 1)) && (prsP p).all fun x => decide (0 ≤ x.1) && (decide (x.1 < x.2) && decide (x.2 < 64))))))
def hostPrs : List (Int × Nat) := [(2, 2), (3, 2), (3, 3), (5, 2), (5, 3), (5, 4), (5, 5), (7, 2), (7, 3), (7, 4), (7, 5), (7, 6), (7, 7)]
theorem host_prs {n s : Int} (hn : n ∈ ([2, 3, 5, 7] : List Int)) (h1 : 2 ≤ s) (h2 : s ≤ n) : (n, s.toNat) ∈ hostPrs := by
  simp at hn
  unfold hostPrs
  rcases hn with rfl | rfl | rfl | rfl
  · obtain rfl : s = 2 := by omega
    decide
  · rcases (show s = 2 ∨ s = 3 by omega) with rfl | rfl <;> decide
  · rcases (show s = 2 ∨ s = 3 ∨ s = 4 ∨ s = 5 by omega) with rfl | rfl | rfl | rfl <;> decide
  · rcases (show s = 2 ∨ s = 3 ∨ s = 4 ∨ s = 5 ∨ s = 6 ∨ s = 7 by omega) with rfl | rfl | rfl | rfl | rfl | rfl <;> decide
theorem host_all : ∀ x ∈ hostPrs, hostedB x.1 x.2 = true := by decide +kernel
structure Hosted (n : Int) (s : Nat) : Prop where
  len : ((hostP n s).length : Int) = n
  rnd : ∀ r ∈ hostP n s, isRnd (n * s) s r = true ∧ (r.length : Int) = n ∧ ∀ k, k < n.toNat → (r.getD k []).length = s ∧ (r.getD k []).getD 0 0 = (k : Int)
  nd : (prsP (hostP n s)).Nodup
  cnt : ((prsP (hostP n s)).length : Int) = n * n * s * (s - 1) / 2
  seen : (((prsP (hostP n s)).filter fun x => decide (x.1 < n)).length : Int) = n * n * (s - 1)
  sm : ∀ x ∈ prsP (hostP n s), 0 ≤ x.1 ∧ x.1 < x.2 ∧ x.2 < 64
theorem hosted {n s : Int} (hn : n ∈ ([2, 3, 5, 7] : List Int)) (h1 : 2 ≤ s) (h2 : s ≤ n) : Hosted n s.toNat := by
  have h := host_all _ (host_prs hn h1 h2)
  unfold hostedB at h
  simp only [Bool.and_eq_true, List.all_eq_true, decide_eq_true_iff] at h
  obtain ⟨a, b, c, d, e, f⟩ := h
  exact ⟨a, fun r hr => ⟨rndB_ok (b r hr).1.1, (b r hr).1.2, fun k hk => (b r hr).2 k (List.mem_range.mpr hk)⟩, nodup_encP c, d, e, fun x hx => ⟨(f x hx).1, (f x hx).2.1, (f x hx).2.2⟩⟩
end NF
/-! N28: a plan with what is no round at a place (k16). -/
namespace NF
open PySem PySem.Spec PyProof.Rows L2 DL
structure BadAt (g s : Int) (p : List (List (List Int))) (n : Nat) : Prop where
  len : p.length ≤ 100
  lt : n < p.length
  sml : ∀ i (h : i < p.length), i ≤ n → Sml p[i]
  ok : ∀ i (h : i < p.length), i < n → isRnd g s p[i] = true
  no : ∀ h : n < p.length, isRnd g s p[n] = false
/-- what is no round -/
def oddR (g : Int) : List (List (List Int)) := [[[g]], [[-1, 0]], [[]], [[0], [0]], [[1], [0]], [[1, 0]], [[0, 0]]]
theorem odd_no {g s : Int} (hg : goodP g s) : ∀ r ∈ oddR g, isRnd g s r = false ∧ Sml r := fun r hr => by
  unfold oddR at hr
  simp only [List.mem_cons, List.not_mem_nil, or_false] at hr
  have F : ∀ r : List (List Int), ¬ (isRnd g s r = true) → isRnd g s r = false := fun r h => by simpa using h
  have T : ∀ {r : List (List Int)}, isRnd g s r = true → (∀ t ∈ r, t.Pairwise (· < ·) ∧ 1 ≤ t.length ∧ ∀ x ∈ t, 0 ≤ x ∧ x < g) ∧ (r.map fun t => t.headD 0).Pairwise (· < ·) ∧ r.flatten.Nodup := fun {r} h => by
    obtain ⟨_, a, b, c⟩ := rnd_iff.mp h
    exact ⟨fun t ht => by
      have := tab_iff.mp (a t ht)
      exact ⟨this.2.2.1, this.1, this.2.2.2⟩, b, c⟩
  rcases hr with rfl | rfl | rfl | rfl | rfl | rfl | rfl
  · refine ⟨F _ fun h => ?_, Nat.le_of_ble_eq_true rfl, by simp⟩
    have := ((T h).1 [g] (by simp)).2.2 g (by simp)
    omega
  · refine ⟨F _ fun h => ?_, Nat.le_of_ble_eq_true rfl, by simp⟩
    have := ((T h).1 [-1, 0] (by simp)).2.2 (-1) (by simp)
    omega
  · refine ⟨F _ fun h => ?_, Nat.le_of_ble_eq_true rfl, by simp⟩
    have := ((T h).1 [] (by simp)).2.1
    simp at this
  · refine ⟨F _ fun h => ?_, Nat.le_of_ble_eq_true rfl, by simp⟩
    have := (T h).2.2
    simp at this
  · refine ⟨F _ fun h => ?_, Nat.le_of_ble_eq_true rfl, by simp⟩
    have := (T h).2.1
    simp at this
  · refine ⟨F _ fun h => ?_, Nat.le_of_ble_eq_true rfl, by simp⟩
    have := ((T h).1 [1, 0] (by simp)).1
    simp at this
  · refine ⟨F _ fun h => ?_, Nat.le_of_ble_eq_true rfl, by simp⟩
    have := ((T h).1 [0, 0] (by simp)).1
    simp at this
end NF
namespace NF
open PySem PySem.Spec PyProof.Rows L2 DL
local macro_rules | `(tactic| walk_at "dn") => `(tactic| (try dsimp only [List.set_cons_succ, List.set_cons_zero, List.map_cons, List.map_nil, nt_t, nt_f, prD_mk, isTupD, isLstD, isBlD, isStrD, isIntD, or_tt, or_ft, or_ff]))
local macro_rules | `(tactic| walk_at "dl") => `(tactic| first
  | with_reducible refine wl_lst ?_
  | with_reducible refine wl_op (r2 := rCat) ?_
  | with_reducible refine wl_sl ?_
  | with_reducible refine wl_cb (r1 := rListB _) ?_
  | with_reducible refine wl_cb (r1 := rListS) ?_
  | with_reducible refine wl_cb (r1 := rSortDl _) ?_
  | with_reducible refine wl_cb (r1 := rSortDt _) ?_
  | with_reducible refine wl_cb (r1 := rSortDk) ?_
  | (have := (‹Borrow› : Borrow); with_reducible refine wl_callb ?_)
  | with_reducible refine wl_call ?_
  | (have := (‹Borrow› : Borrow); with_reducible refine wl_callbE ?_)
  | with_reducible refine wl_callE ?_
  | ((with_reducible refine' wl_rcall ?hr ?_); (case hr => exact rfl))
  | ((with_reducible refine' wl_lcT ?hv ?hj ?_); (case hv => walk_at "dv"); (case hj => simp))
  | ((with_reducible refine' wl_lcL ?hv ?hj ?_); (case hv => walk_at "dv"); (case hj => simp))
  | ((with_reducible refine' wl_lcR1 ?hv ?hj ?_); (case hv => walk_at "dv"); (case hj => simp))
  | ((with_reducible refine' wl_lcR2 ?hv ?hj ?_); (case hv => walk_at "dv"); (case hj => simp))
  | ((with_reducible refine' wl_lcR3 ?hv ?hj ?_); (case hv => walk_at "dv"); (case hj => simp))
  | ((with_reducible refine' wl_lcS ?hv ?hj ?_); (case hv => walk_at "dv"); (case hj => simp))
  | with_reducible refine wl_split ?_
  | with_reducible refine wl_listRg1 ?_
  | with_reducible refine wl_if ?_)
local macro_rules | `(tactic| walk_at "de") => `(tactic| first
  | ((with_reducible refine' we_var ?h ?_); (case h => exact rfl))
  | with_reducible refine we_int ?_
  | with_reducible refine we_bl ?_
  | with_reducible refine we_str ?_
  | with_reducible refine we_non ?_
  | with_reducible refine we_wl (wl_lst ?_)
  | with_reducible refine we_wl (wl_op (r2 := rCat) ?_)
  | with_reducible refine we_wl (wl_sl ?_)
  | ((with_reducible refine' we_inG ?S ?_); (case S => assumption))
  | with_reducible refine we_op ?_
  | with_reducible refine we_slT ?_
  | with_reducible refine we_slS ?_
  | with_reducible refine we_wl (wl_cb (r1 := rListB _) ?_)
  | with_reducible refine we_wl (wl_cb (r1 := rListS) ?_)
  | with_reducible refine we_wl (wl_cb (r1 := rSortDl _) ?_)
  | with_reducible refine we_wl (wl_cb (r1 := rSortDt _) ?_)
  | with_reducible refine we_wl (wl_cb (r1 := rSortDk) ?_)
  | with_reducible refine we_wl (wl_listRg1 ?_)
  | (have := (‹Borrow› : Borrow); with_reducible refine we_wl (wl_callb ?_))
  | with_reducible refine we_wl (wl_call ?_)
  | (have := (‹Borrow› : Borrow); with_reducible refine we_wl (wl_callbE ?_))
  | with_reducible refine we_wl (wl_callE ?_)
  | ((with_reducible refine' we_wl (wl_rcall ?hr ?_)); (case hr => exact rfl))
  | with_reducible refine we_isiTup ?_
  | with_reducible refine we_isiLst ?_
  | with_reducible refine we_isiBl ?_
  | with_reducible refine we_isiStr ?_
  | with_reducible refine we_isiInt ?_
  | with_reducible refine we_isiTL ?_
  | ((with_reducible refine' we_isxN ?C ?e ?h ?_); (case C => assumption); (case e => assumption); (case h => exact rfl))
  | ((with_reducible refine' we_isxNt ?C ?e ?h ?_); (case C => assumption); (case e => assumption); (case h => exact rfl))
  | ((with_reducible refine' we_isxP ?C ?e ?h ?_); (case C => assumption); (case e => assumption); (case h => exact rfl))
  | ((with_reducible refine' we_isxPt ?C ?e ?h ?_); (case C => assumption); (case e => assumption); (case h => exact rfl))
  | with_reducible refine we_countB ?_
  | with_reducible refine we_cb ?_
  | (have := (‹Borrow› : Borrow); with_reducible refine we_callb ?_)
  | with_reducible refine we_call ?_
  | (have := (‹Borrow› : Borrow); with_reducible refine we_callbE ?_)
  | with_reducible refine we_callE ?_
  | with_reducible refine we_callF ?_
  | with_reducible refine we_callNE ?_
  | with_reducible refine we_wd (wd_call ?_)
  | with_reducible refine we_lenset ?_
  | ((with_reducible refine' we_xf ?h ?_); (case h => exact rfl))
  | ((with_reducible refine' we_rcall ?hr ?_); (case hr => exact rfl))
  | with_reducible refine we_andV ?_
  | with_reducible refine we_orV ?_
  | with_reducible refine we_notV ?_
  | with_reducible refine we_chain ?_
  | with_reducible refine we_tup ?_
  | with_reducible refine we_if ?_
  | with_reducible refine we_make ?_
  | ((with_reducible refine' we_wl (wl_lcT ?hv ?hj ?_)); (case hv => walk_at "dv"); (case hj => simp))
  | ((with_reducible refine' we_wl (wl_lcL ?hv ?hj ?_)); (case hv => walk_at "dv"); (case hj => simp))
  | ((with_reducible refine' we_wl (wl_lcR1 ?hv ?hj ?_)); (case hv => walk_at "dv"); (case hj => simp))
  | ((with_reducible refine' we_wl (wl_lcR2 ?hv ?hj ?_)); (case hv => walk_at "dv"); (case hj => simp))
  | ((with_reducible refine' we_wl (wl_lcR3 ?hv ?hj ?_)); (case hv => walk_at "dv"); (case hj => simp))
  | ((with_reducible refine' we_wl (wl_lcS ?hv ?hj ?_)); (case hv => walk_at "dv"); (case hj => simp))
  | with_reducible refine we_wl (wl_split ?_)
  | with_reducible refine we_join ?_
  | with_reducible refine we_lensetS ?_
  | with_reducible refine we_ixOfS ?_
  | with_reducible refine we_index ?_
  | with_reducible refine we_neg ?_
  | ((with_reducible refine' we_meth0 ?h1 ?h2 ?_); (case h1 => decide +kernel); (case h2 => decide +kernel))
  | ((with_reducible refine' we_many ?T ?_); (case T => assumption))
  | ((with_reducible refine' we_seats ?T ?_); (case T => assumption)))
local macro_rules | `(tactic| walk_at "dw") => `(tactic| first
  | ((with_reducible refine' wb_var ?h ?_); (case h => exact rfl))
  | ((with_reducible refine' wb_varl ?h ?_); (case h => exact rfl))
  | ((with_reducible refine' wb_vart ?h ?_); (case h => exact rfl))
  | ((with_reducible refine wb_we ?_); walk_at "de"))
local macro_rules | `(tactic| walk_at "dx") => `(tactic| first
  | with_reducible refine wa_nil ?_
  | with_reducible refine wa_cons ?_
  | with_reducible refine wab_nil ?_
  | with_reducible refine wab_cons ?_
  | with_reducible refine wo_none ?_
  | with_reducible refine wo_some ?_
  | with_reducible refine wt_cmp ?_
  | with_reducible refine wt_val ?_
  | with_reducible refine wt_not ?_
  | with_reducible refine wt_and ?_
  | with_reducible refine wt_or ?_
  | with_reducible refine wt_yes ?_)
local macro_rules | `(tactic| walk_at "do") => `(tactic| first
  | with_reducible refine od_I0i ?_
  | with_reducible refine od_I0b ?_
  | with_reducible refine od_I ?_ ?_
  | with_reducible refine od_isN ?_
  | with_reducible refine od_catS ?_ ?_
  | with_reducible refine od_notN ?_
  | with_reducible refine od_eqI ?_
  | with_reducible refine od_neI ?_
  | with_reducible refine od_eqS ?_
  | with_reducible refine od_neS ?_
  | with_reducible refine cd_lenL ?_
  | with_reducible refine cd_lenT ?_
  | with_reducible refine cd_lenTd ?_
  | with_reducible refine cd_min2 ?_
  | with_reducible refine cd_max2 ?_
  | with_reducible refine cl_listL ?_
  | with_reducible refine cl_listT ?_
  | with_reducible refine cd_tupL ?_
  | with_reducible refine cd_tupT ?_
  | with_reducible refine od_inI ?_
  | with_reducible refine od_inIt ?_
  | with_reducible refine od_inS ?_
  | refine ⟨⟨rfl⟩, ?_⟩
  | refine ⟨(rfl : LF _ = true), ?_⟩
  | with_reducible refine ⟨_, rfl, ?_⟩
  | with_reducible refine ⟨_, _, rfl, ?_⟩
  | with_reducible refine ⟨_, _, _, rfl, ?_⟩
  | with_reducible refine ⟨_, _, _, _, rfl, ?_⟩
  | with_reducible refine ⟨_, _, _, _, _, rfl, ?_⟩
  | refine ⟨Nat.le_of_ble_eq_true rfl, ?_⟩
  | with_reducible refine ⟨fun _ => ?_, (fun z : true = false => Bool.noConfusion z)⟩
  | with_reducible refine ⟨(fun z : false = true => Bool.noConfusion z), fun _ => ?_⟩)
local macro_rules | `(tactic| walk_at "ds") => `(tactic| first
  | with_reducible refine wc_seq ?_
  | with_reducible refine wc_next ?_
  | with_reducible refine wc_if ?_
  | ((with_reducible refine' wc_retv ?h ?_); (case h => exact rfl))
  | ((with_reducible refine' wc_rett ?h ?_); (case h => exact rfl))
  | with_reducible refine wc_retN ?_
  | with_reducible refine wc_retB ?_
  | with_reducible refine wc_retn ?_
  | with_reducible refine wc_setO ?_
  | with_reducible refine wc_setOE ?_
  | ((with_reducible refine wc_setl ?_); walk_at "dl")
  | with_reducible refine wc_setd (wd_new ?_)
  | with_reducible refine wc_setd (wd_call ?_)
  | with_reducible refine wc_set ?_
  | ((with_reducible refine' wc_app ?h ?_); (case h => exact rfl))
  | ((with_reducible refine' wc_ext ?h ?_); (case h => exact rfl))
  | ((with_reducible refine' wc_extT ?h ?_); (case h => exact rfl))
  | ((with_reducible refine' wc_clear ?h ?_); (case h => exact rfl))
  | ((with_reducible refine' wc_rev ?h ?_); (case h => exact rfl))
  | ((with_reducible refine' wc_dputT ?h ?_); (case h => exact rfl))
  | ((with_reducible refine' wc_updT ?h (wd_call ?_)); (case h => exact rfl))
  | with_reducible refine wg_name ?_
  | with_reducible refine wg_tup2 ?_
  | ((with_reducible refine' wc_seti ?h ?_); (case h => exact rfl))
  | with_reducible refine wc_asg ?_
  | with_reducible refine wc_forT ?_
  | with_reducible refine wc_forL ?_
  | with_reducible refine wc_forR1 ?_
  | with_reducible refine wc_forR2 ?_
  | with_reducible refine wc_drop ?_)
local macro_rules | `(tactic| walk_at "d1") => `(tactic| first
  | walk_at "dx"
  | walk_at "dw"
  | walk_at "de"
  | walk_at "do"
  | walk_at "ds")
local macro_rules | `(tactic| walk_at "d") => `(tactic| (walk_at "dn"; repeat (walk_at "d1"; walk_at "dn")))
local macro_rules | `(tactic| walk_at "d0") => `(tactic| simp only [startE, startR, List.map_cons, List.map_nil, List.length_cons, List.length_nil, Nat.reduceAdd, Nat.reduceSub, List.replicate_succ, List.replicate_zero, List.cons_append, List.nil_append])
local macro_rules | `(tactic| walk_at "dv") => `(tactic| (intro i hi e he; simp at hi; subst hi; cases he; rfl))
def topS (i : Nat) : Stmt := PySem.Challenge.pw_newfaces_k16_refusals_stand_apart.main.body.getD i (.Pass ⟨0, 0, 0, 0⟩)
section
variable {P : Program} {w : World} {K : PySem.W.Frag} {mg : Str → Option Value} {base : Heap} {C : Addr} {cBadParty cBadRound cBadTurning cBadText cPartyError : Addr}
abbrev s_iniBadRound : Stmt := inClass (topS 3) 0
theorem sc_iniBadRound : FnScope ["self", "number"] ["self", "number"] (defScope s_iniBadRound) := ⟨rfl, rfl, rfl, by decide +kernel, rfl, by decide +kernel, by decide +kernel⟩
theorem okE_BadRound {f : Addr} {fd : FuncData} (F : Fun K "__init__" "BadRound.__init__" s_iniBadRound f fd) (GN_PartyError : mg "PartyError" = some (.ref cPartyError)) (PE_rd : ClX.CRead K cPartyError (.type "type")) (PE_in : PySem.W.findCls K (.ref cPartyError) (.type "type") "__init__" = some (.val (.builtin "ValueError.__init__"))) (ox : OexC K cBadRound) (no : PySem.W.findIn K (.ref cBadRound) "number" = some none) : FnOk P w K mg base CX0 1 f fd ["self", "number"] (SpXI cBadRound "number") := by
  refine F.ok sc_iniBadRound (fun vs H Q E h => by obtain ⟨a, n, rfl, _⟩ := h; rfl) (fun cdv A outer s H vs Q E hr h => ?_)
  obtain ⟨a, n, rfl, ha, q⟩ := h
  refine ⟨_, (pss_cons (ps_expr (pe_veinitC rfl GN_PartyError PE_rd PE_in (pa_cons (pv 0) (pa_cons (pv 1) pa_nil))))
      (pss_one (ps_ost (pv 0) (pv 1)))), ?_⟩
  refine ⟨_, rfl, _, rfl, a, cBadRound, [.int n], rfl, (by decide : 1 ≤ 1000), ox, ha, ?_⟩
  exact ⟨_, rfl, _, rfl, a, cBadRound, rfl, ox, no, .inl ⟨ha, fun dx hdx ne => q dx ne hdx⟩⟩
abbrev s_tables : Stmt := inClass (topS 9) 3
theorem sc_tables : FnScope ["self"] ["self"] (defScope s_tables) := ⟨rfl, rfl, rfl, by decide +kernel, rfl, by decide +kernel, by decide +kernel⟩
theorem okM_tables {f : Addr} {fd : FuncData} (F : Fun K "tables" "Party.tables" s_tables f fd) (T : Tx K mg C) (hm : Meth K C "tables" f) (b : Binds K fd ["self"] []) : Mth P w K mg base C "tables" 1 ["self"] (SpV ⟨K, C⟩ sp_p_tables) := by
  refine ⟨f, fd, hm, F.ok sc_tables (fun vs H Q E h => len_V h fun ds Po hs => ?_) (fun cdv A outer s H vs Q E hr h => ?_), b⟩
  · iterate 2 (obtain ⟨_, hs⟩ := hs)
    rw [hs.1]; rfl
  refine ⟨_, (pss_one (ps_ret (pe_op op_fdiv (pe_fldK K (pv 0) rfl) (pe_fldK K (pv 0) rfl)))), run_V (Z := ⟨K, C⟩) h fun ds Po hs => ?_⟩
  obtain ⟨g, s', rfl, s0, s1, q⟩ := hs
  walk_at "d0"
  refine wc_ret ?_
  walk_at "d"
  · exact ⟨s0, by omega⟩
  exact q
abbrev s_guests : Stmt := inClass (topS 9) 1
theorem sc_guests : FnScope ["self"] ["self"] (defScope s_guests) := ⟨rfl, rfl, rfl, by decide +kernel, rfl, by decide +kernel, by decide +kernel⟩
theorem okM_guests {f : Addr} {fd : FuncData} (F : Fun K "guests" "Party.guests" s_guests f fd) (T : Tx K mg C) (hm : Meth K C "guests" f) (b : Binds K fd ["self"] []) : Mth P w K mg base C "guests" 1 ["self"] (SpV ⟨K, C⟩ sp_p_guests) := by
  refine ⟨f, fd, hm, F.ok sc_guests (fun vs H Q E h => len_V h fun ds Po hs => ?_) (fun cdv A outer s H vs Q E hr h => ?_), b⟩
  · iterate 2 (obtain ⟨_, hs⟩ := hs)
    rw [hs.1]; rfl
  refine ⟨_, (pss_one (ps_ret (pe_fldK K (pv 0) rfl))), run_V (Z := ⟨K, C⟩) h fun ds Po hs => ?_⟩
  obtain ⟨g, s', rfl, q⟩ := hs
  walk_at "d0"
  refine wc_ret ?_
  walk_at "d"
  exact q
abbrev s_size : Stmt := inClass (topS 9) 2
theorem sc_size : FnScope ["self"] ["self"] (defScope s_size) := ⟨rfl, rfl, rfl, by decide +kernel, rfl, by decide +kernel, by decide +kernel⟩
theorem okM_size {f : Addr} {fd : FuncData} (F : Fun K "size" "Party.size" s_size f fd) (T : Tx K mg C) (hm : Meth K C "size" f) (b : Binds K fd ["self"] []) : Mth P w K mg base C "size" 1 ["self"] (SpV ⟨K, C⟩ sp_p_size) := by
  refine ⟨f, fd, hm, F.ok sc_size (fun vs H Q E h => len_V h fun ds Po hs => ?_) (fun cdv A outer s H vs Q E hr h => ?_), b⟩
  · iterate 2 (obtain ⟨_, hs⟩ := hs)
    rw [hs.1]; rfl
  refine ⟨_, (pss_one (ps_ret (pe_fldK K (pv 0) rfl))), run_V (Z := ⟨K, C⟩) h fun ds Po hs => ?_⟩
  obtain ⟨g, s', rfl, q⟩ := hs
  walk_at "d0"
  refine wc_ret ?_
  walk_at "d"
  exact q
abbrev s___init__ : Stmt := inClass (topS 9) 0
theorem sc___init__ : FnScope ["self", "guests", "size"] ["self", "guests", "size"] (defScope s___init__) := ⟨rfl, rfl, rfl, by decide +kernel, rfl, by decide +kernel, by decide +kernel⟩
theorem okI_Party {f : Addr} {fd : FuncData} (F : Fun K "__init__" "Party.__init__" s___init__ f fd) (T : Tx K mg C) (hm : Mk K C f) (b : Binds K fd ["self", "guests", "size"] []) : Mak P w K mg base C 1 ["self", "guests", "size"] (SpI ⟨K, C⟩) := by
  refine ⟨f, fd, hm, F.ok sc___init__ (fun vs H Q E h => ?_) (fun cdv A outer s H vs Q E hr h => ?_), b⟩
  · obtain ⟨x, dx, g, s', rfl, _⟩ := h; rfl
  obtain ⟨x, dx, g, s', rfl, hx, ⟨h1, h2, h3, h4, h5⟩, q⟩ := h
  refine ⟨_, (pss_cons (ps_if (PW.pt (pw_or (pt_not (pt_chain op_le op_le pe_int (pv 2) (pe_gcD rfl T.mS))) (pw_or (pt_not (pt_chain op_le op_le pe_int (pv 1) (pe_gcD rfl T.mG))) (pw_or1 (pt_cmpR op_ne (pe_op op_mod (pv 1) (pv 2)) pe_int (nomark _)))))) (pss_one ps_never) pss_nil)
      (pss_cons (ps_fld (pv 0) (pv 1) rfl)
      (pss_one (ps_fld (pv 0) (pv 2) rfl)))), ?_⟩
  have e1 : (decide ((2 : Int) ≤ s')) = true := decide_eq_true h1
  have e2 : (decide (s' ≤ (8 : Int))) = true := decide_eq_true h2
  have e3 : (decide ((2 : Int) ≤ g)) = true := decide_eq_true h3
  have e4 : (decide (g ≤ (64 : Int))) = true := decide_eq_true h4
  have fin : tSeq (sFld K (tVar 0) (tVar 1) "many") (sFld K (tVar 0) (tVar 2) "seats") { nx := fun _ H' => Q .non H', rt := Q } (start ["self", "guests", "size"] [.ref x, .int g, .int s']) H := by
    refine ⟨_, rfl, _, rfl, x, C, dx, [], rfl, hx, T.cl, T.nm, (by show 0 < 1000; decide), _, rfl, _, rfl, x, C, dx, _, rfl, upd_same, T.cl, T.ns, (by show 1 < 1000; decide), ?_⟩
    refine q _ (fun b o ne e => by rw [upd_ne ne, upd_ne ne]; exact e) ?_
    rw [upd_same]
    have pf : putF "seats" (.int s') (putF "many" (.int g) []) = ptyF g s' := by
      show (if ("many" : Str) = "seats" then [(("many" : Str), V.int s')] else (("many" : Str), V.int g) :: putF "seats" (V.int s') []) = _
      rw [if_neg (by decide +kernel)]
      rfl
    rw [pf]
  refine ⟨_, rfl, 2, s', rfl, rfl, _, rfl, ite_b (fun _ => ?_) (fun z => by rw [e1] at z; cases z)⟩
  refine ⟨s', 8, rfl, rfl, _, rfl, ite_b (fun z => by rw [e2] at z; cases z) (fun _ => ?_)⟩
  refine ⟨_, rfl, 2, g, rfl, rfl, _, rfl, ite_b (fun _ => ?_) (fun z => by rw [e3] at z; cases z)⟩
  refine ⟨g, 64, rfl, rfl, _, rfl, ite_b (fun z => by rw [e4] at z; cases z) (fun _ => ?_)⟩
  refine ⟨_, rfl, _, rfl, g, s', rfl, rfl, (show (0 : Int) < s' by omega), ?_⟩
  refine ⟨rfl, _, rfl, ite_b (fun z => ?_) (fun _ => fin)⟩
  have e5 : V.int (g % s') = V.int 0 := by rw [h5]
  rw [decide_eq_true e5] at z
  cases z

abbrev spx_pinit (c : Addr) : List D → Er → Prop := fun ds er => ∃ (x : Addr) (g s : Int), ds = [.raw x, .int g, .int s] ∧ er = .pl c ∧ ¬ goodP g s
theorem okIx_Party {f : Addr} {fd : FuncData} (F : Fun K "__init__" "Party.__init__" s___init__ f fd) (T : Tx K mg C) (hm : Mk K C f) (b : Binds K fd ["self", "guests", "size"] []) (EP_BadParty : Ep K mg "BadParty" cBadParty) : MakX P w K mg base C 2 ["self", "guests", "size"] (SpE ⟨K, C⟩ (SpI ⟨K, C⟩) (spx_pinit cBadParty)) := by
  refine ⟨f, fd, hm, F.okX sc___init__ (fun vs H Q E h => h.elim (fun h => ?_) fun h => len_R h fun ds er hs => ?_) (fun cdv A outer s H vs Q E hr h => ?_), b⟩
  · obtain ⟨x, dx, g, s', rfl, _⟩ := h; rfl
  · obtain ⟨x, g, s', rfl, _⟩ := hs; rfl
  refine ⟨_, (pss_cons (ps_if (PW.pt (pw_or (pt_not (pt_chain op_le op_le pe_int (pv 2) (pe_gcD rfl T.mS))) (pw_or (pt_not (pt_chain op_le op_le pe_int (pv 1) (pe_gcD rfl T.mG))) (pw_or1 (pt_cmpR op_ne (pe_op op_mod (pv 1) (pv 2)) pe_int (nomark _)))))) (pss_one (ps_raiseP rfl (takes_of rfl rfl rfl rfl) EP_BadParty rfl)) pss_nil)
      (PSs.nox (pss_cons (ps_fld (pv 0) (pv 1) rfl)
      (pss_one (ps_fld (pv 0) (pv 2) rfl))))), h.elim (fun h => ?_) fun h => run_R (Z := ⟨K, C⟩) h fun ds er hs => ?_⟩
  · obtain ⟨x, dx, g, s', rfl, hx, ⟨h1, h2, h3, h4, h5⟩, q⟩ := h
    have e1 : (decide ((2 : Int) ≤ s')) = true := decide_eq_true h1
    have e2 : (decide (s' ≤ (8 : Int))) = true := decide_eq_true h2
    have e3 : (decide ((2 : Int) ≤ g)) = true := decide_eq_true h3
    have e4 : (decide (g ≤ (64 : Int))) = true := decide_eq_true h4
    have fin : tSeq (sFld K (tVar 0) (tVar 1) "many") (sFld K (tVar 0) (tVar 2) "seats") { nx := fun _ H' => Q .non H', rt := Q } (start ["self", "guests", "size"] [.ref x, .int g, .int s']) H := by
      refine ⟨_, rfl, _, rfl, x, C, dx, [], rfl, hx, T.cl, T.nm, (by show 0 < 1000; decide), _, rfl, _, rfl, x, C, dx, _, rfl, upd_same, T.cl, T.ns, (by show 1 < 1000; decide), ?_⟩
      refine q _ (fun b o ne e => by rw [upd_ne ne, upd_ne ne]; exact e) ?_
      rw [upd_same]
      have pf : putF "seats" (.int s') (putF "many" (.int g) []) = ptyF g s' := by
        show (if ("many" : Str) = "seats" then [(("many" : Str), V.int s')] else (("many" : Str), V.int g) :: putF "seats" (V.int s') []) = _
        rw [if_neg (by decide +kernel)]
        rfl
      rw [pf]
    refine ⟨_, rfl, 2, s', rfl, rfl, _, rfl, ite_b (fun _ => ?_) (fun z => by rw [e1] at z; cases z)⟩
    refine ⟨s', 8, rfl, rfl, _, rfl, ite_b (fun z => by rw [e2] at z; cases z) (fun _ => ?_)⟩
    refine ⟨_, rfl, 2, g, rfl, rfl, _, rfl, ite_b (fun _ => ?_) (fun z => by rw [e3] at z; cases z)⟩
    refine ⟨g, 64, rfl, rfl, _, rfl, ite_b (fun z => by rw [e4] at z; cases z) (fun _ => ?_)⟩
    refine ⟨_, rfl, _, rfl, g, s', rfl, rfl, (show (0 : Int) < s' by omega), ?_⟩
    refine ⟨rfl, _, rfl, ite_b (fun z => ?_) (fun _ => fin)⟩
    have e5 : V.int (g % s') = V.int 0 := by rw [h5]
    rw [decide_eq_true e5] at z
    cases z
  · obtain ⟨x, g, s', rfl, rfl, hx⟩ := hs
    walk_at "d0"
    refine wr_seq1 (wr_if ?_)
    walk_at "d"
    by_cases h1 : 2 ≤ s'
    · rw [decide_eq_true h1]
      walk_at "d"
      by_cases h2 : s' ≤ 8
      · rw [decide_eq_true h2]
        walk_at "d"
        by_cases h3 : 2 ≤ g
        · rw [decide_eq_true h3]
          walk_at "d"
          by_cases h4 : g ≤ 64
          · rw [decide_eq_true h4]
            walk_at "d"
            · omega
            have h5 : g % s' ≠ 0 := fun z => hx ⟨h1, h2, h3, h4, z⟩
            walk_at "d"
            rw [decide_eq_false h5]
            walk_at "d"
            exact wr_raise trivial
          · rw [decide_eq_false h4]
            walk_at "d"
            exact wr_raise trivial
        · rw [decide_eq_false h3]
          walk_at "d"
          exact wr_raise trivial
      · rw [decide_eq_false h2]
        walk_at "d"
        exact wr_raise trivial
    · rw [decide_eq_false h1]
      walk_at "d"
      exact wr_raise trivial
abbrev s_rises : Stmt := topS 11
theorem sc_rises : FnScope ["numbers", "k"] ["numbers"] (defScope s_rises) := ⟨rfl, rfl, rfl, by decide +kernel, rfl, by decide +kernel, by decide +kernel⟩
abbrev sp_rises : List D → (D → Prop) → Prop := fun ds Po => ∃ (q : Bool) (ns : List Int), ds = [sqD q ns] ∧ ns.length ≤ 10000 ∧ Po (.bl (isInc ns))
theorem ok_rises (Df : Dfn K mg "rises" s_rises ["numbers"]) (B : Blt mg) (T : Tx K mg C) : Cal P w K mg base "rises" 1 ["numbers"] (SpV ⟨K, C⟩ sp_rises) := by
  obtain ⟨f, fd, F, m, b⟩ := Df
  refine ⟨f, fd, F.ok sc_rises (fun vs H Q E h => len_V h fun ds Po hs => ?_) (fun cdv A outer s H vs Q E hr h => ?_), m, F.kp, b⟩
  · iterate 2 (obtain ⟨_, hs⟩ := hs)
    rw [hs.1]; rfl
  refine ⟨_, (pss_one (ps_ret (pe_cmpR (op_eqK K hr.units) (pe_lc (own := [("k", 1)]) (g := gName 1) rfl sc_rises.nd (pi_range2 rfl B.range (pa_cons pe_int (pa_cons (pe_callB (cr_lenK K) (by rfl) B.len PySem.boot_len (pa_cons (pv 0) pa_nil)) pa_nil))) (blkOk_by (own := [("k", 1)]) (N := ["numbers", "k"]) (sc := defScope s_rises) (by decide +kernel)) (fun _ _ _ _ _ => pg_name (i := 1) sc_rises.nd rfl (by first | exact Or.inl rfl | exact Or.inr rfl)) (fun _ _ _ _ _ => (pts_one (pt_cmpR op_ge (pe_ix (ix_seqK K) (pv 0) (pe_op op_sub (pv 1) pe_int) (fun _ _ => rfl)) (pe_ix (ix_seqK K) (pv 0) (pv 1) (fun _ _ => rfl)) (nomark _)))) (fun _ _ _ _ _ => (pv 1))) (pe_lst pa_nil) (nomark _)))), run_V (Z := ⟨K, C⟩) h fun ds Po hs => ?_⟩
  obtain ⟨q, ns, rfl, hl, h⟩ := hs
  have ix : ∀ (i : Nat) (k : Int) (ρ : List En) (Q' : D → Prop) (hi : i < ns.length), k = (i : Int) → Q' (.int ns[i]) → OpD ⟨K, C⟩ ρ (rIx K) (sqD q ns) (.int k) Q' := by
    cases q
    · exact fun i k ρ Q' hi e q' => od_ixXt (atI_ix' e hi) q'
    · exact fun i k ρ Q' hi e q' => od_ixXl (atI_ix' e hi) q'
  walk_at "d0"
  refine wc_ret ?_
  refine we_op ?_
  walk_at "d"
  have hlen : ∀ {ρ : List En} {Q' : D → Prop}, Q' (.int ns.length) → CbD ⟨K, C⟩ ρ (rLenB K) [sqD q ns] Q' := fun {ρ Q'} q' => by
    cases q
    · exact cd_lenT (by rw [List.length_map]; exact q')
    · exact cd_lenL (by rw [List.length_map]; exact q')
  refine hlen ?_
  walk_at "d"
  refine ⟨⟨by omega, by omega, by omega, by omega⟩, ?_⟩
  refine lcR_e (fun i => decide (ns.getD i 0 ≥ ns.getD (i + 1) 0)) (fun i => .int (1 + (i : Int) * 1)) (fun i hi Q' q' => ?_) (fun i hi _ Q' q' => ?_) ?_
  · simp only [wipeE]
    walk_at "d"
    refine ix i _ _ _ (by omega) (by omega) ?_
    walk_at "d"
    refine ix (i + 1) _ _ _ (by omega) (by omega) ?_
    walk_at "d"
    rw [getD_at 0 (by omega), getD_at 0 (by omega)] at q'
    exact q'
  · simp only [wipeE]
    walk_at "d"
    exact q'
  · walk_at "d"
    have e : ((List.range ((ns.length : Int) - 1).toNat).filter fun i => decide (ns.getD i 0 ≥ ns.getD (i + 1) 0)).map (fun i : Nat => D.int (1 + (i : Int) * 1)) = (((List.range ((ns.length : Int) - 1).toNat).filter fun i => decide (ns.getD i 0 ≥ ns.getD (i + 1) 0)).map fun i : Nat => (1 + (i : Int) * 1)).map D.int := by rw [List.map_map]; rfl
    rw [e]
    refine od_eqN kd_int (by decide) ?_
    rw [isE_map, show ((ns.length : Int) - 1).toNat = ns.length - 1 by omega, rises_all]
    exact h
abbrev s_is_table : Stmt := topS 12
theorem sc_is_table : FnScope ["party", "table"] ["party", "table"] (defScope s_is_table) := ⟨rfl, rfl, rfl, by decide +kernel, rfl, by decide +kernel, by decide +kernel⟩
abbrev sp_is_table : List D → (D → Prop) → Prop := fun ds Po => ∃ (g s : Int) (t : List Int), ds = [.pty g s, tI t] ∧ t.length ≤ 70 ∧ Po (.bl (isTab g s t))
theorem ok_is_table (Df : Dfn K mg "is_table" s_is_table ["party", "table"]) (B : Blt mg) (T : Tx K mg C) (Crises : Cal P w K mg base "rises" 1 ["numbers"] (SpV ⟨K, C⟩ sp_rises)) : Cal P w K mg base "is_table" 2 ["party", "table"] (SpV ⟨K, C⟩ sp_is_table) := by
  obtain ⟨f, fd, F, m, b⟩ := Df
  obtain ⟨frises, drises, Grises, mrises, krises, brises⟩ := Crises
  refine ⟨f, fd, F.ok sc_is_table (fun vs H Q E h => len_V h fun ds Po hs => ?_) (fun cdv A outer s H vs Q E hr h => ?_), m, F.kp, b⟩
  · iterate 3 (obtain ⟨_, hs⟩ := hs)
    rw [hs.1]; rfl
  refine ⟨_, (pss_cons (ps_if (PW.pt (pw_or (pt_not (pt_chain op_le op_le pe_int (pe_callB (cr_lenK K) (by rfl) B.len PySem.boot_len (pa_cons (pv 1) pa_nil)) (pe_fldK K (pv 0) rfl))) (pw_or1 (pt_not (pt_val (pe_call Grises (hr.mono (by decide)) rfl mrises krises brises .nil pass0 (pa_cons (pv 1) pa_nil))))))) (pss_one (ps_ret pe_bl)) pss_nil)
      (pss_one (ps_ret (pe_and (pe_cmpR op_le pe_int (pe_ix (ix_tupK K) (pv 1) pe_int (fun _ _ => rfl)) (nomark _)) (pe_one (pe_cmpR op_lt (pe_ix (ix_tupK K) (pv 1) (pe_un un_neg pe_int) (fun _ _ => rfl)) (pe_fldK K (pv 0) rfl) (nomark _))))))), run_V (Z := ⟨K, C⟩) h fun ds Po hs => ?_⟩
  obtain ⟨g, s', t, rfl, hl, h⟩ := hs
  walk_at "d0"
  walk_at "d"
  have F1 : isTab g s' t = false → Po (.bl false) := fun e => by rw [e] at h; exact h
  refine ⟨fun c1 => ?_, fun c1 => ?_⟩
  · walk_at "d"
    refine ⟨fun c2 => ?_, fun c2 => ?_⟩
    · walk_at "d"
      refine F1 ?_
      simp at c1 c2
      simp [isTab]
      intro _ z; omega
    · walk_at "d"
      refine ⟨false, t, rfl, by omega, ?_⟩
      walk_at "d"
      refine ⟨fun c3 => ?_, fun c3 => ?_⟩
      · walk_at "d"
        refine F1 ?_
        simp at c3
        simp [isTab, c3]
      · walk_at "d"
        simp at c1 c2 c3
        have ne : t ≠ [] := by intro z; subst z; simp at c1
        have h2 : isTab g s' t = (decide (0 ≤ t.head ne) && decide (t.getLast ne < g)) := by
          unfold isTab
          rw [inc_all c3 ne, c3, decide_eq_true ⟨by omega, c2⟩]
          rfl
        rw [h2] at h
        have hp : 0 < t.length := by omega
        refine wc_ret ?_
        walk_at "d"
        refine od_ixT (atI_ix' (f := D.int) (xs := t) (k := 0) rfl hp) ?_
        walk_at "d"
        rw [show t[0] = t.head ne by rw [List.head_eq_getElem]]
        refine ⟨fun c4 => ?_, fun c4 => ?_⟩
        · walk_at "d"
          refine od_ixT (atI_last' ne) ?_
          walk_at "d"
          rw [c4] at h
          exact h
        · rw [c4] at h
          exact h
  · walk_at "d"
    refine F1 ?_
    simp at c1
    simp [isTab]
    intro z; omega
abbrev s_is_round : Stmt := topS 13
theorem sc_is_round : FnScope ["party", "tables", "table", "everyone"] ["party", "tables"] (defScope s_is_round) := ⟨rfl, rfl, rfl, by decide +kernel, rfl, by decide +kernel, by decide +kernel⟩
abbrev sp_is_round : List D → (D → Prop) → Prop := fun ds Po => ∃ (g s : Int) (r : List (List Int)), ds = [.pty g s, tT r] ∧ (0 < s ∧ s < 1000) ∧ Sml r ∧ Po (.bl (isRnd g s r))
theorem ok_is_round (Df : Dfn K mg "is_round" s_is_round ["party", "tables"]) (B : Blt mg) (T : Tx K mg C) (Cis_table : Cal P w K mg base "is_table" 2 ["party", "table"] (SpV ⟨K, C⟩ sp_is_table)) (Crises : Cal P w K mg base "rises" 1 ["numbers"] (SpV ⟨K, C⟩ sp_rises)) (M_tables : Mth P w K mg base C "tables" 1 ["self"] (SpV ⟨K, C⟩ sp_p_tables)) : Cal P w K mg base "is_round" 3 ["party", "tables"] (SpV ⟨K, C⟩ sp_is_round) := by
  obtain ⟨f, fd, F, m, b⟩ := Df
  obtain ⟨fis_table, dis_table, Gis_table, mis_table, kis_table, bis_table⟩ := Cis_table
  obtain ⟨frises, drises, Grises, mrises, krises, brises⟩ := Crises
  obtain ⟨f_tables, d_tables, mm_tables, gg_tables, bb_tables⟩ := M_tables
  refine ⟨f, fd, F.ok sc_is_round (fun vs H Q E h => len_V h fun ds Po hs => ?_) (fun cdv A outer s H vs Q E hr h => ?_), m, F.kp, b⟩
  · iterate 3 (obtain ⟨_, hs⟩ := hs)
    rw [hs.1]; rfl
  refine ⟨_, (pss_cons (ps_if (PW.pt (pw_or (pt_cmpR op_gt (pe_callB (cr_lenK K) (by rfl) B.len PySem.boot_len (pa_cons (pv 1) pa_nil)) (pe_meth0 (pv 0) T.cl mm_tables gg_tables (hr.mono (by decide)) bb_tables .nil pass0) (nomark _)) (pw_or1 (pt_cmpR (op_neK K hr.units) (pe_lc (own := [("table", 2)]) (g := gName 2) rfl sc_is_round.nd (pi_tupK K (pv 1)) (blkOk_by (own := [("table", 2)]) (N := ["party", "tables", "table", "everyone"]) (sc := defScope s_is_round) (by decide +kernel)) (fun _ _ _ _ _ => pg_name (i := 2) sc_is_round.nd rfl (by first | exact Or.inl rfl | exact Or.inr rfl)) (fun _ _ _ _ _ => (pts_one (pt_not (pt_val (pe_call Gis_table (hr.mono (by decide)) rfl mis_table kis_table bis_table .nil pass0 (pa_cons (pv 0) (pa_cons (pv 2) pa_nil))))))) (fun _ _ _ _ _ => (pv 2))) (pe_lst pa_nil) (nomark _))))) (pss_one (ps_ret pe_bl)) pss_nil)
      (pss_cons (ps_if (pt_not (pt_val (pe_call Grises (hr.mono (by decide)) rfl mrises krises brises .nil pass0 (pa_cons (pe_lc (own := [("table", 2)]) (g := gName 2) rfl sc_is_round.nd (pi_tupK K (pv 1)) (blkOk_by (own := [("table", 2)]) (N := ["party", "tables", "table", "everyone"]) (sc := defScope s_is_round) (by decide +kernel)) (fun _ _ _ _ _ => pg_name (i := 2) sc_is_round.nd rfl (by first | exact Or.inl rfl | exact Or.inr rfl)) (fun _ _ _ _ _ => pts_nil) (fun _ _ _ _ _ => (pe_ix (ix_tupK K) (pv 2) pe_int (fun _ _ => rfl)))) pa_nil)))) (pss_one (ps_ret pe_bl)) pss_nil)
      (pss_cons (ps_set (i := 3) sc_is_round.nd rfl (by first | exact Or.inl rfl | exact Or.inr rfl) (pe_lst pa_nil))
      (pss_cons (ps_for PassesOwn.never rfl (pi_tupK K (pv 1)) (pg_name (i := 2) sc_is_round.nd rfl (by first | exact Or.inl rfl | exact Or.inr rfl))
        (pss_one (ps_expr (pe_bmK K PySem.F.plainAttrs_list PySem.F.slot_list_extend PySem.F.type_list_extend mt_extendT (pv 3) (pa_cons (pv 2) pa_nil)))))
      (pss_one (ps_ret (pe_call Grises (hr.mono (by decide)) rfl mrises krises brises .nil pass0 (pa_cons (pe_callB (cr_sortLK K hr.units) (by rfl) B.sorted (by decide +kernel) (pa_cons (pv 3) pa_nil)) pa_nil)))))))), run_V (Z := ⟨K, C⟩) h fun ds Po hs => ?_⟩
  obtain ⟨g, s', r, rfl, hp, sm, h⟩ := hs
  have F1 : isRnd g s' r = false → Po (.bl false) := fun e => by rw [e] at h; exact h
  walk_at "d0"
  walk_at "d"
  refine ⟨hp.1, by omega, ?_⟩
  walk_at "d"
  refine ⟨fun c1 => ?_, fun c1 => ?_⟩
  · walk_at "d"
    refine F1 ?_
    simp at c1
    simp [isRnd]
    intro z; omega
  walk_at "d"
  simp at c1
  have hs1 : r.length ≤ sizeLine := Nat.le_trans sm.1 (by decide)
  refine ⟨by rw [List.length_map]; exact hs1, lcD_e (fun t => !isTab g s' t) (fun t => tI t) (fun t ht Q' q' => ?_) (fun t ht _ Q' q' => ?_) ?_⟩
  · simp only [wipeE]
    walk_at "d"
    refine ⟨sm.2 t ht, ?_⟩
    walk_at "d"
    exact q'
  · simp only [wipeE]
    walk_at "d"
    exact q'
  walk_at "d"
  refine od_neE kd_tI (by decide) (fun t => t) ?_
  walk_at "d"
  rw [isE_filter]
  refine ⟨fun c2 => ?_, fun c2 => ?_⟩
  · walk_at "d"
    refine F1 ?_
    simp at c2
    obtain ⟨t, ht, c2⟩ := c2
    unfold isRnd
    rw [show r.all (isTab g s') = false by rw [List.all_eq_false]; exact ⟨t, ht, by simp [c2]⟩]
    simp
  walk_at "d"
  simp at c2
  refine ⟨by rw [List.length_map]; exact hs1, lcD_em (fun t => .int (t.headD 0)) (fun t ht Q' q' => ?_) ?_⟩
  · simp only [wipeE]
    walk_at "d"
    have hp0 : 0 < t.length := by have := c2 t ht; simp [isTab] at this; omega
    refine od_ixT (atI_ix' (f := D.int) (xs := t) (k := 0) rfl hp0) ?_
    rw [show t[0] = t.headD 0 by cases t with | nil => simp at hp0 | cons a t => rfl]
    exact q'
  walk_at "d"
  have sm1 := sm.1
  refine ⟨true, r.map (fun t => t.headD 0), by rw [sqD, if_pos rfl, List.map_map]; rfl, by rw [List.length_map]; omega, ?_⟩
  walk_at "d"
  refine ⟨fun c3 => ?_, fun c3 => ?_⟩
  · walk_at "d"
    refine F1 ?_
    simp only [Bool.not_eq_true'] at c3
    unfold isRnd
    rw [c3]
    simp
  simp only [Bool.not_eq_false'] at c3
  have hfin : isRnd g s' r = isInc (srtI r.flatten) := by
    unfold isRnd
    rw [c3, decide_eq_true c1, List.all_eq_true.mpr c2]
    rfl
  have fl := sm.flat
  walk_at "d"
  refine forD_fn [2] (fun pre => [.v (.pty g s'), .v (tT r), .un, .l (pre.flatten.map .int)]) rfl (fun pre t post e => ?_) ?_
  · walk_at "d"
    refine ⟨?_, ?_⟩
    · have e1 : r.flatten.length = pre.flatten.length + (t.length + post.flatten.length) := by rw [e]; simp
      rw [List.length_map, List.length_map]
      exact Nat.le_trans (m := 10000) (by omega) (by decide)
    · simp [wipeE]
  · walk_at "d"
    refine wc_ret ?_
    walk_at "d"
    refine cl_sortIl ?_
    refine wa_nil ?_
    refine ⟨true, srtI r.flatten, rfl, by unfold srtI; rw [List.length_mergeSort]; omega, ?_⟩
    rw [hfin] at h
    exact h
abbrev s_need_plan : Stmt := topS 14
theorem sc_need_plan : FnScope ["party", "plan", "number"] ["party", "plan"] (defScope s_need_plan) := ⟨rfl, rfl, rfl, by decide +kernel, rfl, by decide +kernel, by decide +kernel⟩
abbrev sp_need_plan : List D → (D → Prop) → Prop := fun ds Po => ∃ (g s : Int) (p : List (List (List Int))), ds = [.pty g s, lT p] ∧ (0 < s ∧ s < 1000) ∧ p.length ≤ 100 ∧ (∀ r ∈ p, Sml r ∧ isRnd g s r = true) ∧ Po .non
abbrev spx_need_plan (c : Addr) : List D → Er → Prop := fun ds er => ∃ (g s : Int) (p : List (List (List Int))) (n0 : Nat), ds = [.pty g s, lT p] ∧ er = .num c "number" (n0 : Int) ∧ (0 < s ∧ s < 1000) ∧ p.length ≤ 100 ∧ n0 < p.length ∧ (∀ i (h : i < p.length), i ≤ n0 → Sml p[i]) ∧ (∀ i (h : i < p.length), i < n0 → isRnd g s p[i] = true) ∧ ∀ h : n0 < p.length, isRnd g s p[n0] = false
theorem ok_need_plan (Df : Dfn K mg "need_plan" s_need_plan ["party", "plan"]) (B : Blt mg) (T : Tx K mg C) (Cis_round : Cal P w K mg base "is_round" 3 ["party", "tables"] (SpV ⟨K, C⟩ sp_is_round)) (EN_BadRound : En1 P w K mg base "BadRound" cBadRound "number") : CalE P w K mg base "need_plan" 4 ["party", "plan"] (SpE ⟨K, C⟩ (SpV ⟨K, C⟩ sp_need_plan) (spx_need_plan cBadRound)) := by
  obtain ⟨f, fd, F, m, b⟩ := Df
  obtain ⟨fis_round, dis_round, Gis_round, mis_round, kis_round, bis_round⟩ := Cis_round
  obtain ⟨fI_BadRound, dI_BadRound, iC_BadRound, tI_BadRound, GI_BadRound, bI_BadRound⟩ := EN_BadRound.ini
  refine ⟨f, fd, F.okX sc_need_plan (fun vs H Q E h => h.elim (fun h => len_V h fun ds Po hs => ?_) fun h => len_R h fun ds er hs => ?_) (fun cdv A outer s H vs Q E hr h => ?_), m, F.kp, b⟩
  · iterate 3 (obtain ⟨_, hs⟩ := hs)
    rw [hs.1]; rfl
  · iterate 4 (obtain ⟨_, hs⟩ := hs)
    rw [hs.1]; rfl
  refine ⟨_, (pss_one (ps_for (passes_of rfl) rfl (pi_range1 rfl B.range (pa_cons (pe_callB (cr_lenK K) (by rfl) B.len PySem.boot_len (pa_cons (pv 1) pa_nil)) pa_nil)) (pg_name (i := 2) sc_need_plan.nd rfl (by first | exact Or.inl rfl | exact Or.inr rfl))
        (pss_one (ps_if (pt_not (pt_val (pe_call Gis_round (hr.mono (by decide)) rfl mis_round kis_round bis_round .nil pass0 (pa_cons (pv 0) (pa_cons (pe_ix (ix_listK K) (pv 1) (pv 2) (fun _ _ => rfl)) pa_nil))))) (pss_one (ps_raiseN rfl (takes_of rfl rfl rfl rfl) EN_BadRound.ox iC_BadRound tI_BadRound GI_BadRound bI_BadRound (hr.mono (by decide)) EN_BadRound.gP rfl (pa_cons (pv 2) pa_nil))) pss_nil)))), h.elim (fun h => run_V (Z := ⟨K, C⟩) h fun ds Po hs => ?_) fun h => run_R (Z := ⟨K, C⟩) h fun ds er hs => ?_⟩
  · obtain ⟨g, s', p, rfl, hp, pl, hr', h⟩ := hs
    walk_at "d0"
    walk_at "d"
    refine ⟨by rw [List.length_map]; omega, by omega, ?_⟩
    refine forR_fn [2] (fun _ => [.v (.pty g s'), .v (lT p), .un]) rfl (fun i hi => ?_) h
    have hi' : i < p.length := by simpa using hi
    walk_at "d"
    refine od_ixL (atI_ix' (f := tT) (xs := p) (k := i) (by omega) hi') ?_
    have hm := hr' p[i] (List.getElem_mem hi')
    walk_at "d"
    refine ⟨hp, hm.1, ?_⟩
    rw [hm.2]
    walk_at "d"
    rfl
  · obtain ⟨g, s', p, n0, rfl, rfl, hp, pl, hn, sm, hr1, hr2⟩ := hs
    walk_at "d0"
    refine wr_forR1 ?_
    walk_at "d"
    refine ⟨by rw [List.length_map]; omega, by omega, n0, fun i ρ' => ∃ e, ρ' = [.v (.pty g s'), .v (lT p), e], by rw [List.length_map]; omega, ⟨_, rfl⟩, fun i ρ' hi ⟨e, he⟩ => ?_, fun ρ' ⟨e, he⟩ => ?_⟩
    · subst he
      have hi' : i < p.length := by omega
      walk_at "d"
      refine od_ixL (atI_ix' (f := tT) (xs := p) (k := i) rfl hi') ?_
      walk_at "d"
      refine ⟨hp, sm i hi' (by omega), ?_⟩
      rw [hr1 i hi' hi]
      walk_at "d"
      exact ⟨_, rfl⟩
    · subst he
      walk_at "dn"
      refine wr_if ?_
      walk_at "d"
      refine od_ixL (atI_ix' (f := tT) (xs := p) (k := n0) rfl hn) ?_
      walk_at "d"
      refine ⟨hp, sm n0 hn (Nat.le_refl _), ?_⟩
      rw [hr2 hn]
      walk_at "d"
      refine wr_raiseN ?_ trivial
      walk_at "d"

abbrev s_met : Stmt := topS 18
theorem sc_met : FnScope ["party", "plan", "some"] ["party", "plan"] (defScope s_met) := ⟨rfl, rfl, rfl, by decide +kernel, rfl, by decide +kernel, by decide +kernel⟩
abbrev sp_met : List D → (D → Prop) → Prop := fun ds _ => ∃ d0 d1 : D, ds = [d0, d1] ∧ False
abbrev spx_met (c : Addr) : List D → Er → Prop := fun ds er => ∃ (g s : Int) (p : List (List (List Int))) (n0 : Nat), ds = [.pty g s, lT p] ∧ er = .num c "number" (n0 : Int) ∧ (0 < s ∧ s < 1000) ∧ BadAt g s p n0
theorem ok_met (Df : Dfn K mg "met" s_met ["party", "plan"]) (B : Blt mg) (T : Tx K mg C) (Cneed_plan : CalE P w K mg base "need_plan" 4 ["party", "plan"] (SpE ⟨K, C⟩ (SpV ⟨K, C⟩ sp_need_plan) (spx_need_plan cBadRound))) : CalE P w K mg base "met" 5 ["party", "plan"] (SpE ⟨K, C⟩ (SpV ⟨K, C⟩ sp_met) (spx_met cBadRound)) := by
  obtain ⟨f, fd, F, m, b⟩ := Df
  obtain ⟨fneed_plan, dneed_plan, Gneed_plan, mneed_plan, kneed_plan, bneed_plan⟩ := Cneed_plan
  refine ⟨f, fd, F.okX sc_met (fun vs H Q E h => h.elim (fun h => len_V h fun ds Po hs => ?_) fun h => len_R h fun ds er hs => ?_) (fun cdv A outer s H vs Q E hr h => ?_), m, F.kp, b⟩
  · iterate 2 (obtain ⟨_, hs⟩ := hs)
    rw [hs.1]; rfl
  · iterate 4 (obtain ⟨_, hs⟩ := hs)
    rw [hs.1]; rfl
  refine ⟨_, (pss_cons (ps_expr (pe_callS Gneed_plan (hr.mono (by decide)) rfl mneed_plan kneed_plan bneed_plan (fun σ => passAt (takes_of rfl rfl rfl rfl) σ) (pa_cons (pv 0) (pa_cons (pv 1) pa_nil))))
      pss_never), h.elim (fun h => run_V (Z := ⟨K, C⟩) h fun ds Po hs => ?_) fun h => run_R (Z := ⟨K, C⟩) h fun ds er hs => ?_⟩
  · exact absurd hs fun ⟨_, _, _, z⟩ => z
  · obtain ⟨g, s', p, n0, rfl, rfl, hp, hb⟩ := hs
    walk_at "d0"
    refine wr_seq1 (wr_drop (wre_call ?_) trivial)
    walk_at "d"
    exact ⟨g, s', p, n0, rfl, rfl, hp, hb.len, hb.lt, hb.sml, hb.ok, hb.no⟩

abbrev s_unmet : Stmt := topS 19
theorem sc_unmet : FnScope ["party", "plan", "some", "found", "guest", "other"] ["party", "plan"] (defScope s_unmet) := ⟨rfl, rfl, rfl, by decide +kernel, rfl, by decide +kernel, by decide +kernel⟩
abbrev sp_unmet : List D → (D → Prop) → Prop := fun ds _ => ∃ d0 d1 : D, ds = [d0, d1] ∧ False
abbrev spx_unmet (c : Addr) : List D → Er → Prop := fun ds er => ∃ (g s : Int) (p : List (List (List Int))) (n0 : Nat), ds = [.pty g s, lT p] ∧ er = .num c "number" (n0 : Int) ∧ (0 < s ∧ s < 1000) ∧ BadAt g s p n0
theorem ok_unmet (Df : Dfn K mg "unmet" s_unmet ["party", "plan"]) (B : Blt mg) (T : Tx K mg C) (Cneed_plan : CalE P w K mg base "need_plan" 4 ["party", "plan"] (SpE ⟨K, C⟩ (SpV ⟨K, C⟩ sp_need_plan) (spx_need_plan cBadRound))) : CalE P w K mg base "unmet" 5 ["party", "plan"] (SpE ⟨K, C⟩ (SpV ⟨K, C⟩ sp_unmet) (spx_unmet cBadRound)) := by
  obtain ⟨f, fd, F, m, b⟩ := Df
  obtain ⟨fneed_plan, dneed_plan, Gneed_plan, mneed_plan, kneed_plan, bneed_plan⟩ := Cneed_plan
  refine ⟨f, fd, F.okX sc_unmet (fun vs H Q E h => h.elim (fun h => len_V h fun ds Po hs => ?_) fun h => len_R h fun ds er hs => ?_) (fun cdv A outer s H vs Q E hr h => ?_), m, F.kp, b⟩
  · iterate 2 (obtain ⟨_, hs⟩ := hs)
    rw [hs.1]; rfl
  · iterate 4 (obtain ⟨_, hs⟩ := hs)
    rw [hs.1]; rfl
  refine ⟨_, (pss_cons (ps_expr (pe_callS Gneed_plan (hr.mono (by decide)) rfl mneed_plan kneed_plan bneed_plan (fun σ => passAt (takes_of rfl rfl rfl rfl) σ) (pa_cons (pv 0) (pa_cons (pv 1) pa_nil))))
      pss_never), h.elim (fun h => run_V (Z := ⟨K, C⟩) h fun ds Po hs => ?_) fun h => run_R (Z := ⟨K, C⟩) h fun ds er hs => ?_⟩
  · exact absurd hs fun ⟨_, _, _, z⟩ => z
  · obtain ⟨g, s', p, n0, rfl, rfl, hp, hb⟩ := hs
    walk_at "d0"
    refine wr_seq1 (wr_drop (wre_call ?_) trivial)
    walk_at "d"
    exact ⟨g, s', p, n0, rfl, rfl, hp, hb.len, hb.lt, hb.sml, hb.ok, hb.no⟩

abbrev s_next_rounds : Stmt := topS 37
theorem sc_next_rounds : FnScope ["party", "plan"] ["party", "plan"] (defScope s_next_rounds) := ⟨rfl, rfl, rfl, by decide +kernel, rfl, by decide +kernel, by decide +kernel⟩
abbrev sp_next_rounds : List D → (D → Prop) → Prop := fun ds _ => ∃ d0 d1 : D, ds = [d0, d1] ∧ False
abbrev spx_next_rounds (c : Addr) : List D → Er → Prop := fun ds er => ∃ (g s : Int) (p : List (List (List Int))) (n0 : Nat), ds = [.pty g s, lT p] ∧ er = .num c "number" (n0 : Int) ∧ (0 < s ∧ s < 1000) ∧ BadAt g s p n0
theorem ok_next_rounds (Df : Dfn K mg "next_rounds" s_next_rounds ["party", "plan"]) (B : Blt mg) (T : Tx K mg C) (Cneed_plan : CalE P w K mg base "need_plan" 4 ["party", "plan"] (SpE ⟨K, C⟩ (SpV ⟨K, C⟩ sp_need_plan) (spx_need_plan cBadRound))) : CalE P w K mg base "next_rounds" 5 ["party", "plan"] (SpE ⟨K, C⟩ (SpV ⟨K, C⟩ sp_next_rounds) (spx_next_rounds cBadRound)) := by
  obtain ⟨f, fd, F, m, b⟩ := Df
  obtain ⟨fneed_plan, dneed_plan, Gneed_plan, mneed_plan, kneed_plan, bneed_plan⟩ := Cneed_plan
  refine ⟨f, fd, F.okX sc_next_rounds (fun vs H Q E h => h.elim (fun h => len_V h fun ds Po hs => ?_) fun h => len_R h fun ds er hs => ?_) (fun cdv A outer s H vs Q E hr h => ?_), m, F.kp, b⟩
  · iterate 2 (obtain ⟨_, hs⟩ := hs)
    rw [hs.1]; rfl
  · iterate 4 (obtain ⟨_, hs⟩ := hs)
    rw [hs.1]; rfl
  refine ⟨_, (pss_cons (ps_expr (pe_callS Gneed_plan (hr.mono (by decide)) rfl mneed_plan kneed_plan bneed_plan (fun σ => passAt (takes_of rfl rfl rfl rfl) σ) (pa_cons (pv 0) (pa_cons (pv 1) pa_nil))))
      pss_never), h.elim (fun h => run_V (Z := ⟨K, C⟩) h fun ds Po hs => ?_) fun h => run_R (Z := ⟨K, C⟩) h fun ds er hs => ?_⟩
  · exact absurd hs fun ⟨_, _, _, z⟩ => z
  · obtain ⟨g, s', p, n0, rfl, rfl, hp, hb⟩ := hs
    walk_at "d0"
    refine wr_seq1 (wr_drop (wre_call ?_) trivial)
    walk_at "d"
    exact ⟨g, s', p, n0, rfl, rfl, hp, hb.len, hb.lt, hb.sml, hb.ok, hb.no⟩

abbrev s_bound : Stmt := topS 40
theorem sc_bound : FnScope ["party", "plan"] ["party", "plan"] (defScope s_bound) := ⟨rfl, rfl, rfl, by decide +kernel, rfl, by decide +kernel, by decide +kernel⟩
abbrev sp_bound : List D → (D → Prop) → Prop := fun ds _ => ∃ d0 d1 : D, ds = [d0, d1] ∧ False
abbrev spx_bound (c : Addr) : List D → Er → Prop := fun ds er => ∃ (g s : Int) (p : List (List (List Int))) (n0 : Nat), ds = [.pty g s, lT p] ∧ er = .num c "number" (n0 : Int) ∧ (0 < s ∧ s < 1000) ∧ BadAt g s p n0
theorem ok_bound (Df : Dfn K mg "bound" s_bound ["party", "plan"]) (B : Blt mg) (T : Tx K mg C) (Cneed_plan : CalE P w K mg base "need_plan" 4 ["party", "plan"] (SpE ⟨K, C⟩ (SpV ⟨K, C⟩ sp_need_plan) (spx_need_plan cBadRound))) : CalE P w K mg base "bound" 5 ["party", "plan"] (SpE ⟨K, C⟩ (SpV ⟨K, C⟩ sp_bound) (spx_bound cBadRound)) := by
  obtain ⟨f, fd, F, m, b⟩ := Df
  obtain ⟨fneed_plan, dneed_plan, Gneed_plan, mneed_plan, kneed_plan, bneed_plan⟩ := Cneed_plan
  refine ⟨f, fd, F.okX sc_bound (fun vs H Q E h => h.elim (fun h => len_V h fun ds Po hs => ?_) fun h => len_R h fun ds er hs => ?_) (fun cdv A outer s H vs Q E hr h => ?_), m, F.kp, b⟩
  · iterate 2 (obtain ⟨_, hs⟩ := hs)
    rw [hs.1]; rfl
  · iterate 4 (obtain ⟨_, hs⟩ := hs)
    rw [hs.1]; rfl
  refine ⟨_, (pss_cons (ps_expr (pe_callS Gneed_plan (hr.mono (by decide)) rfl mneed_plan kneed_plan bneed_plan (fun σ => passAt (takes_of rfl rfl rfl rfl) σ) (pa_cons (pv 0) (pa_cons (pv 1) pa_nil))))
      pss_never), h.elim (fun h => run_V (Z := ⟨K, C⟩) h fun ds Po hs => ?_) fun h => run_R (Z := ⟨K, C⟩) h fun ds er hs => ?_⟩
  · exact absurd hs fun ⟨_, _, _, z⟩ => z
  · obtain ⟨g, s', p, n0, rfl, rfl, hp, hb⟩ := hs
    walk_at "d0"
    refine wr_seq1 (wr_drop (wre_call ?_) trivial)
    walk_at "d"
    exact ⟨g, s', p, n0, rfl, rfl, hp, hb.len, hb.lt, hb.sml, hb.ok, hb.no⟩

abbrev s_longest : Stmt := topS 42
theorem sc_longest : FnScope ["party", "plan"] ["party", "plan"] (defScope s_longest) := ⟨rfl, rfl, rfl, by decide +kernel, rfl, by decide +kernel, by decide +kernel⟩
abbrev sp_longest : List D → (D → Prop) → Prop := fun ds _ => ∃ d0 d1 : D, ds = [d0, d1] ∧ False
abbrev spx_longest (c : Addr) : List D → Er → Prop := fun ds er => ∃ (g s : Int) (p : List (List (List Int))) (n0 : Nat), ds = [.pty g s, lT p] ∧ er = .num c "number" (n0 : Int) ∧ (0 < s ∧ s < 1000) ∧ BadAt g s p n0
theorem ok_longest (Df : Dfn K mg "longest" s_longest ["party", "plan"]) (B : Blt mg) (T : Tx K mg C) (Cneed_plan : CalE P w K mg base "need_plan" 4 ["party", "plan"] (SpE ⟨K, C⟩ (SpV ⟨K, C⟩ sp_need_plan) (spx_need_plan cBadRound))) : CalE P w K mg base "longest" 5 ["party", "plan"] (SpE ⟨K, C⟩ (SpV ⟨K, C⟩ sp_longest) (spx_longest cBadRound)) := by
  obtain ⟨f, fd, F, m, b⟩ := Df
  obtain ⟨fneed_plan, dneed_plan, Gneed_plan, mneed_plan, kneed_plan, bneed_plan⟩ := Cneed_plan
  refine ⟨f, fd, F.okX sc_longest (fun vs H Q E h => h.elim (fun h => len_V h fun ds Po hs => ?_) fun h => len_R h fun ds er hs => ?_) (fun cdv A outer s H vs Q E hr h => ?_), m, F.kp, b⟩
  · iterate 2 (obtain ⟨_, hs⟩ := hs)
    rw [hs.1]; rfl
  · iterate 4 (obtain ⟨_, hs⟩ := hs)
    rw [hs.1]; rfl
  refine ⟨_, (pss_cons (ps_expr (pe_callS Gneed_plan (hr.mono (by decide)) rfl mneed_plan kneed_plan bneed_plan (fun σ => passAt (takes_of rfl rfl rfl rfl) σ) (pa_cons (pv 0) (pa_cons (pv 1) pa_nil))))
      pss_never), h.elim (fun h => run_V (Z := ⟨K, C⟩) h fun ds Po hs => ?_) fun h => run_R (Z := ⟨K, C⟩) h fun ds er hs => ?_⟩
  · exact absurd hs fun ⟨_, _, _, z⟩ => z
  · obtain ⟨g, s', p, n0, rfl, rfl, hp, hb⟩ := hs
    walk_at "d0"
    refine wr_seq1 (wr_drop (wre_call ?_) trivial)
    walk_at "d"
    exact ⟨g, s', p, n0, rfl, rfl, hp, hb.len, hb.lt, hb.sml, hb.ok, hb.no⟩

abbrev s_hosts : Stmt := topS 32
theorem sc_hosts : FnScope ["party", "plan", "some", "wrong", "tables", "table", "guest"] ["party", "plan"] (defScope s_hosts) := ⟨rfl, rfl, rfl, by decide +kernel, rfl, by decide +kernel, by decide +kernel⟩
abbrev sp_hosts : List D → (D → Prop) → Prop := fun ds _ => ∃ d0 d1 : D, ds = [d0, d1] ∧ False
abbrev spx_hosts (c : Addr) : List D → Er → Prop := fun ds er => ∃ (g s : Int) (p : List (List (List Int))) (n0 : Nat), ds = [.pty g s, lT p] ∧ er = .num c "number" (n0 : Int) ∧ (0 < s ∧ s < 1000) ∧ BadAt g s p n0
theorem ok_hosts (Df : Dfn K mg "hosts" s_hosts ["party", "plan"]) (B : Blt mg) (T : Tx K mg C) (Cneed_plan : CalE P w K mg base "need_plan" 4 ["party", "plan"] (SpE ⟨K, C⟩ (SpV ⟨K, C⟩ sp_need_plan) (spx_need_plan cBadRound))) : CalE P w K mg base "hosts" 5 ["party", "plan"] (SpE ⟨K, C⟩ (SpV ⟨K, C⟩ sp_hosts) (spx_hosts cBadRound)) := by
  obtain ⟨f, fd, F, m, b⟩ := Df
  obtain ⟨fneed_plan, dneed_plan, Gneed_plan, mneed_plan, kneed_plan, bneed_plan⟩ := Cneed_plan
  refine ⟨f, fd, F.okX sc_hosts (fun vs H Q E h => h.elim (fun h => len_V h fun ds Po hs => ?_) fun h => len_R h fun ds er hs => ?_) (fun cdv A outer s H vs Q E hr h => ?_), m, F.kp, b⟩
  · iterate 2 (obtain ⟨_, hs⟩ := hs)
    rw [hs.1]; rfl
  · iterate 4 (obtain ⟨_, hs⟩ := hs)
    rw [hs.1]; rfl
  refine ⟨_, (pss_cons (ps_expr (pe_callS Gneed_plan (hr.mono (by decide)) rfl mneed_plan kneed_plan bneed_plan (fun σ => passAt (takes_of rfl rfl rfl rfl) σ) (pa_cons (pv 0) (pa_cons (pv 1) pa_nil))))
      pss_never), h.elim (fun h => run_V (Z := ⟨K, C⟩) h fun ds Po hs => ?_) fun h => run_R (Z := ⟨K, C⟩) h fun ds er hs => ?_⟩
  · exact absurd hs fun ⟨_, _, _, z⟩ => z
  · obtain ⟨g, s', p, n0, rfl, rfl, hp, hb⟩ := hs
    walk_at "d0"
    refine wr_seq1 (wr_drop (wre_call ?_) trivial)
    walk_at "d"
    exact ⟨g, s', p, n0, rfl, rfl, hp, hb.len, hb.lt, hb.sml, hb.ok, hb.no⟩

abbrev s_comes : Stmt := topS 28
theorem sc_comes : FnScope ["party", "plan", "first"] ["party", "plan", "first"] (defScope s_comes) := ⟨rfl, rfl, rfl, by decide +kernel, rfl, by decide +kernel, by decide +kernel⟩
abbrev sp_comes : List D → (D → Prop) → Prop := fun ds _ => ∃ d0 d1 d2 : D, ds = [d0, d1, d2] ∧ False
abbrev spx_comes (c : Addr) : List D → Er → Prop := fun ds er => ∃ (g s : Int) (p : List (List (List Int))) (n0 : Nat) (y : Int), ds = [.pty g s, lT p, .int y] ∧ er = .num c "number" (n0 : Int) ∧ (0 < s ∧ s < 1000) ∧ BadAt g s p n0
theorem ok_comes (Df : Dfn K mg "comes" s_comes ["party", "plan", "first"]) (B : Blt mg) (T : Tx K mg C) (Cneed_plan : CalE P w K mg base "need_plan" 4 ["party", "plan"] (SpE ⟨K, C⟩ (SpV ⟨K, C⟩ sp_need_plan) (spx_need_plan cBadRound))) : CalE P w K mg base "comes" 5 ["party", "plan", "first"] (SpE ⟨K, C⟩ (SpV ⟨K, C⟩ sp_comes) (spx_comes cBadRound)) := by
  obtain ⟨f, fd, F, m, b⟩ := Df
  obtain ⟨fneed_plan, dneed_plan, Gneed_plan, mneed_plan, kneed_plan, bneed_plan⟩ := Cneed_plan
  refine ⟨f, fd, F.okX sc_comes (fun vs H Q E h => h.elim (fun h => len_V h fun ds Po hs => ?_) fun h => len_R h fun ds er hs => ?_) (fun cdv A outer s H vs Q E hr h => ?_), m, F.kp, b⟩
  · iterate 3 (obtain ⟨_, hs⟩ := hs)
    rw [hs.1]; rfl
  · iterate 5 (obtain ⟨_, hs⟩ := hs)
    rw [hs.1]; rfl
  refine ⟨_, (pss_cons (ps_expr (pe_callS Gneed_plan (hr.mono (by decide)) rfl mneed_plan kneed_plan bneed_plan (fun σ => passAt (takes_of rfl rfl rfl rfl) σ) (pa_cons (pv 0) (pa_cons (pv 1) pa_nil))))
      pss_never), h.elim (fun h => run_V (Z := ⟨K, C⟩) h fun ds Po hs => ?_) fun h => run_R (Z := ⟨K, C⟩) h fun ds er hs => ?_⟩
  · exact absurd hs fun ⟨_, _, _, _, z⟩ => z
  · obtain ⟨g, s', p, n0, y, rfl, rfl, hp, hb⟩ := hs
    walk_at "d0"
    refine wr_seq1 (wr_drop (wre_call ?_) trivial)
    walk_at "d"
    exact ⟨g, s', p, n0, rfl, rfl, hp, hb.len, hb.lt, hb.sml, hb.ok, hb.no⟩

abbrev s_leaves : Stmt := topS 29
theorem sc_leaves : FnScope ["party", "plan", "guest", "last", "found", "number", "tables", "table", "one"] ["party", "plan", "guest", "last"] (defScope s_leaves) := ⟨rfl, rfl, rfl, by decide +kernel, rfl, by decide +kernel, by decide +kernel⟩
abbrev sp_leaves : List D → (D → Prop) → Prop := fun ds _ => ∃ d0 d1 d2 d3 : D, ds = [d0, d1, d2, d3] ∧ False
abbrev spx_leaves (c : Addr) : List D → Er → Prop := fun ds er => ∃ (g s : Int) (p : List (List (List Int))) (n0 : Nat) (y : Int) (z : Int), ds = [.pty g s, lT p, .int y, .int z] ∧ er = .num c "number" (n0 : Int) ∧ (0 < s ∧ s < 1000) ∧ BadAt g s p n0
theorem ok_leaves (Df : Dfn K mg "leaves" s_leaves ["party", "plan", "guest", "last"]) (B : Blt mg) (T : Tx K mg C) (Cneed_plan : CalE P w K mg base "need_plan" 4 ["party", "plan"] (SpE ⟨K, C⟩ (SpV ⟨K, C⟩ sp_need_plan) (spx_need_plan cBadRound))) : CalE P w K mg base "leaves" 5 ["party", "plan", "guest", "last"] (SpE ⟨K, C⟩ (SpV ⟨K, C⟩ sp_leaves) (spx_leaves cBadRound)) := by
  obtain ⟨f, fd, F, m, b⟩ := Df
  obtain ⟨fneed_plan, dneed_plan, Gneed_plan, mneed_plan, kneed_plan, bneed_plan⟩ := Cneed_plan
  refine ⟨f, fd, F.okX sc_leaves (fun vs H Q E h => h.elim (fun h => len_V h fun ds Po hs => ?_) fun h => len_R h fun ds er hs => ?_) (fun cdv A outer s H vs Q E hr h => ?_), m, F.kp, b⟩
  · iterate 4 (obtain ⟨_, hs⟩ := hs)
    rw [hs.1]; rfl
  · iterate 6 (obtain ⟨_, hs⟩ := hs)
    rw [hs.1]; rfl
  refine ⟨_, (pss_cons (ps_expr (pe_callS Gneed_plan (hr.mono (by decide)) rfl mneed_plan kneed_plan bneed_plan (fun σ => passAt (takes_of rfl rfl rfl rfl) σ) (pa_cons (pv 0) (pa_cons (pv 1) pa_nil))))
      pss_never), h.elim (fun h => run_V (Z := ⟨K, C⟩) h fun ds Po hs => ?_) fun h => run_R (Z := ⟨K, C⟩) h fun ds er hs => ?_⟩
  · exact absurd hs fun ⟨_, _, _, _, _, z⟩ => z
  · obtain ⟨g, s', p, n0, y, z, rfl, rfl, hp, hb⟩ := hs
    walk_at "d0"
    refine wr_seq1 (wr_drop (wre_call ?_) trivial)
    walk_at "d"
    exact ⟨g, s', p, n0, rfl, rfl, hp, hb.len, hb.lt, hb.sml, hb.ok, hb.no⟩

abbrev s_alike : Stmt := topS 25
theorem sc_alike : FnScope ["party", "one", "other"] ["party", "one", "other"] (defScope s_alike) := ⟨rfl, rfl, rfl, by decide +kernel, rfl, by decide +kernel, by decide +kernel⟩
abbrev sp_alike : List D → (D → Prop) → Prop := fun ds _ => ∃ d0 d1 d2 : D, ds = [d0, d1, d2] ∧ False
abbrev spx_alike (c : Addr) : List D → Er → Prop := fun ds er => ∃ (g s : Int) (one other : List (List (List Int))) (n0 : Nat), ds = [.pty g s, lT one, lT other] ∧ er = .num c "number" (n0 : Int) ∧ (0 < s ∧ s < 1000) ∧ (BadAt g s one n0 ∨ (one = [] ∧ BadAt g s other n0))
theorem ok_alike (Df : Dfn K mg "alike" s_alike ["party", "one", "other"]) (B : Blt mg) (T : Tx K mg C) (Cneed_plan : CalE P w K mg base "need_plan" 4 ["party", "plan"] (SpE ⟨K, C⟩ (SpV ⟨K, C⟩ sp_need_plan) (spx_need_plan cBadRound))) : CalE P w K mg base "alike" 5 ["party", "one", "other"] (SpE ⟨K, C⟩ (SpV ⟨K, C⟩ sp_alike) (spx_alike cBadRound)) := by
  obtain ⟨f, fd, F, m, b⟩ := Df
  obtain ⟨fneed_plan, dneed_plan, Gneed_plan, mneed_plan, kneed_plan, bneed_plan⟩ := Cneed_plan
  refine ⟨f, fd, F.okX sc_alike (fun vs H Q E h => h.elim (fun h => len_V h fun ds Po hs => ?_) fun h => len_R h fun ds er hs => ?_) (fun cdv A outer s H vs Q E hr h => ?_), m, F.kp, b⟩
  · iterate 3 (obtain ⟨_, hs⟩ := hs)
    rw [hs.1]; rfl
  · iterate 5 (obtain ⟨_, hs⟩ := hs)
    rw [hs.1]; rfl
  refine ⟨_, (pss_cons (ps_expr (pe_callS Gneed_plan (hr.mono (by decide)) rfl mneed_plan kneed_plan bneed_plan (fun σ => passAt (takes_of rfl rfl rfl rfl) σ) (pa_cons (pv 0) (pa_cons (pv 1) pa_nil))))
      (pss_cons (ps_expr (pe_callS Gneed_plan (hr.mono (by decide)) rfl mneed_plan kneed_plan bneed_plan (fun σ => passAt (takes_of rfl rfl rfl rfl) σ) (pa_cons (pv 0) (pa_cons (pv 2) pa_nil))))
      pss_never)), h.elim (fun h => run_V (Z := ⟨K, C⟩) h fun ds Po hs => ?_) fun h => run_R (Z := ⟨K, C⟩) h fun ds er hs => ?_⟩
  · exact absurd hs fun ⟨_, _, _, _, z⟩ => z
  · obtain ⟨g, s', one, other, n0, rfl, rfl, hp, hb⟩ := hs
    walk_at "d0"
    rcases hb with hb | ⟨rfl, hb⟩
    · refine wr_seq1 (wr_drop (wre_call ?_) trivial)
      walk_at "d"
      exact ⟨g, s', one, n0, rfl, rfl, hp, hb.len, hb.lt, hb.sml, hb.ok, hb.no⟩
    · refine wr_seq2 ?_
      walk_at "d"
      refine ⟨hp, by decide, fun r hr => (nomatch hr), ?_⟩
      refine wr_seq1 (wr_drop (wre_call ?_) trivial)
      walk_at "d"
      exact ⟨g, s', other, n0, rfl, rfl, hp, hb.len, hb.lt, hb.sml, hb.ok, hb.no⟩

abbrev s__law_taken : Stmt := topS 44
theorem sc__law_taken : FnScope ["_law_row", "_law_many", "_law_found", "_law_cell"] ["_law_row", "_law_many"] (defScope s__law_taken) := ⟨rfl, rfl, rfl, by decide +kernel, rfl, by decide +kernel, by decide +kernel⟩
abbrev sp__law_taken : List D → (D → Prop) → Prop := fun ds Po => ∃ (n : Int), ds = [.int n] ∧ 0 < n ∧ n < 1000000 ∧ ∀ v : Int, 0 ≤ v → v < n → Po (.int v)
theorem ok__law_taken (Df : Dfn K mg "_law_taken" s__law_taken ["_law_row", "_law_many"]) (B : Blt mg) (T : Tx K mg C) : Cal P w K mg base "_law_taken" 1 ["_law_row", "_law_many"] (SpRV ⟨K, C⟩ sp__law_taken) := by
  obtain ⟨f, fd, F, m, b⟩ := Df
  refine ⟨f, fd, F.ok sc__law_taken (fun vs H Q E h => len_RV h fun ds Po hs => ?_) (fun cdv A outer s H vs Q E hr h => ?_), m, F.kp, b⟩
  · iterate 1 (obtain ⟨_, hs⟩ := hs)
    rw [hs.1]; rfl
  obtain ⟨A', a, ws, ds, Po, rfl, na, ⟨sc, i, mm, g, ns, hH, hS, h63, i0, m0, m1⟩, hws, hA, ⟨n, rfl, n0, n1, q⟩, k⟩ := h
  obtain ⟨v1, r1, rfl, e1, e2⟩ := repL_cons.mp hws
  obtain rfl := repL_nil.mp e2
  obtain rfl := rep_int.mp e1
  have mv : ∀ (H' : Hp) (u : List V), (∀ b, b ≠ a → H' b = H b) → H' a = some (.lst u) → Mv H (Xp A' a) H' (Xp A' a) := fun H' u h1 h2 => ⟨fun b o nb e => ⟨by rw [h1 b fun z => nb (.inr z)]; exact e, nb⟩, fun b o im e => by
    by_cases z : b = a
    · subst z; rw [hH] at e; cases e; cases im
    · rw [h1 b z]; exact e⟩
  have fin : ∀ (H' : Hp) (i' m' g' v : Int), (∀ b, b ≠ a → H' b = H b) → H' a = some (.lst [.ref sc, .int i', .int m', .int g']) → 0 ≤ i' → 0 ≤ m' → m' < 2147483647 → 0 ≤ v → v < n → Q (.int v) H' := fun H' i' m' g' v h1 h2 j1 j2 j3 j4 j5 =>
    k (.int v) (.int v) H' ⟨fun b o ne e => by rw [h1 b ne]; exact e⟩ ⟨sc, i', m', g', ns, h2, hS.mv (mv H' _ h1 h2), h63, j1, j2, j3⟩ (rep_int.mpr rfl) (q v j4 j5)
  have hup : ∀ u b, b ≠ a → upd H a u b = H b := fun u b z => upd_ne z
  have hup2 : ∀ u u2 b, b ≠ a → upd (upd H a u) a u2 b = H b := fun u u2 b z => by rw [upd_ne z, upd_ne z]
  have hup3 : ∀ u u2 u3 b, b ≠ a → upd (upd (upd H a u) a u2) a u3 b = H b := fun u u2 u3 b z => by rw [upd_ne z, upd_ne z, upd_ne z]
  have sq : ∀ (H' : Hp) (u : List V), (∀ b, b ≠ a → H' b = H b) → H' a = some (.lst u) → SqL K H' sc (ns.map .int) := fun H' u h1 h2 => (hS.mv (mv H' u h1 h2)).sq
  have md : ∀ x : Int, 0 ≤ x % n ∧ x % n < n := fun x => ⟨Int.emod_nonneg x (by omega), Int.emod_lt_of_pos x n0⟩
  have mb : ∀ x : Int, 0 ≤ x % 2147483647 ∧ x % 2147483647 < 2147483647 := fun x => ⟨Int.emod_nonneg x (by decide), Int.emod_lt_of_pos x (by decide)⟩
  refine ⟨_, (pss_cons (ps_if (pt_cmpR op_gt (pe_ix (ix_listK K) (pv 0) pe_int (fun _ _ => rfl)) pe_int (nomark _)) (pss_cons (ps_set (i := 2) sc__law_taken.nd rfl (by first | exact Or.inl rfl | exact Or.inr rfl) (pe_op op_mod (pe_ix (ix_listK K) (pv 0) pe_int (fun _ _ => rfl)) (pv 1)))
      (pss_cons (ps_asg (pe_op op_fdiv (pe_ix (ix_listK K) (pv 0) pe_int (fun _ _ => rfl)) (pv 1)) (pg_sub (pv 0) pe_int set_list))
      (pss_one (ps_ret (pv 2))))) pss_nil)
      (pss_cons (ps_asg (pe_op op_add (pe_ix (ix_listK K) (pv 0) pe_int (fun _ _ => rfl)) pe_int) (pg_sub (pv 0) pe_int set_list))
      (pss_cons (ps_if (pt_cmpR op_gt (pe_ix (ix_listK K) (pv 0) pe_int (fun _ _ => rfl)) (pe_callB (cr_lenK K) (by rfl) B.len PySem.boot_len (pa_cons (pe_ix (ix_listK K) (pv 0) pe_int (fun _ _ => rfl)) pa_nil)) (nomark _)) (pss_cons (ps_asg (pe_op op_mod (pe_op op_add (pe_op op_mul (pe_ix (ix_listK K) (pv 0) pe_int (fun _ _ => rfl)) pe_int) pe_int) pe_int) (pg_sub (pv 0) pe_int set_list))
      (pss_one (ps_ret (pe_op op_mod (pe_op op_fdiv (pe_ix (ix_listK K) (pv 0) pe_int (fun _ _ => rfl)) pe_int) (pv 1))))) pss_nil)
      (pss_cons (ps_set (i := 3) sc__law_taken.nd rfl (by first | exact Or.inl rfl | exact Or.inr rfl) (pe_ix (ix_listK K) (pe_ix (ix_listK K) (pv 0) pe_int (fun _ _ => rfl)) (pe_op op_sub (pe_ix (ix_listK K) (pv 0) pe_int (fun _ _ => rfl)) pe_int) (fun _ _ => rfl)))
      (pss_cons (ps_asg (pe_op op_mod (pe_op op_add (pe_op op_add (pe_op op_mul (pe_ix (ix_listK K) (pv 0) pe_int (fun _ _ => rfl)) pe_int) (pv 3)) pe_int) pe_int) (pg_sub (pv 0) pe_int set_list))
      (pss_cons (ps_asg (pe_ifExp (pt_cmpR op_ge (pv 3) (pe_op op_pow pe_int pe_int) (nomark _)) (pe_op op_fdiv (pv 3) (pv 1)) pe_int) (pg_sub (pv 0) pe_int set_list))
      (pss_one (ps_ret (pe_op op_mod (pv 3) (pv 1)))))))))), ?_⟩
  refine ⟨_, rfl, a, _, 3, _, rfl, rfl, .of hH, rfl, _, _, rfl, rfl, _, rfl, ?_⟩
  refine ite_b (fun c1 => ?_) fun c1 => ?_
  · refine ⟨_, rfl, a, _, 3, _, rfl, rfl, .of hH, rfl, _, rfl, _, _, rfl, rfl, n0, ?_⟩
    refine ⟨_, rfl, a, _, 3, _, rfl, rfl, .of hH, rfl, _, rfl, _, _, rfl, rfl, ⟨n0, by omega⟩, ?_⟩
    refine ⟨_, rfl, a, _, 3, 3, rfl, rfl, hH, rfl, ?_⟩
    exact ⟨_, rfl, fin _ i mm _ _ (hup _) upd_same i0 m0 m1 (md g).1 (md g).2⟩
  · refine ⟨_, rfl, a, _, 1, _, rfl, rfl, .of hH, rfl, _, _, rfl, rfl, ?_⟩
    refine ⟨_, rfl, a, _, 1, 1, rfl, rfl, hH, rfl, ?_⟩
    have h2 : upd H a (.lst ([V.ref sc, V.int i, V.int mm, V.int g].set 1 (.int (i + 1)))) a = some (.lst [.ref sc, .int (i + 1), .int mm, .int g]) := upd_same
    refine ⟨_, rfl, a, _, 1, _, rfl, rfl, .of h2, rfl, _, rfl, a, _, 0, _, rfl, rfl, .of h2, rfl, _, _, rfl, .inl ⟨_, sq _ _ (hup _) h2, rfl⟩, _, _, rfl, rfl, _, rfl, ?_⟩
    refine ite_b (fun c2 => ?_) fun c2 => ?_
    · refine ⟨_, rfl, a, _, 2, _, rfl, rfl, .of h2, rfl, _, _, rfl, rfl, .inr ⟨by decide, by decide⟩, _, _, rfl, rfl, _, _, rfl, rfl, (show (0 : Int) < 2147483647 by decide), ?_⟩
      refine ⟨_, rfl, a, _, 2, 2, rfl, rfl, h2, rfl, ?_⟩
      have h3 : ∀ x : Int, upd (upd H a (.lst ([V.ref sc, V.int i, V.int mm, V.int g].set 1 (.int (i + 1))))) a (.lst ([V.ref sc, .int (i + 1), .int mm, .int g].set 2 (.int x))) a = some (.lst [.ref sc, .int (i + 1), .int x, .int g]) := fun x => upd_same
      refine ⟨_, rfl, a, _, 2, _, rfl, rfl, .of (h3 _), rfl, _, _, rfl, rfl, ⟨by decide, by decide⟩, _, rfl, _, _, rfl, rfl, n0, ?_⟩
      exact fin _ _ _ _ _ (hup2 _ _) (h3 _) (by omega) (mb _).1 (mb _).2 (md _).1 (md _).2
    · simp only [decide_eq_false_iff_not] at c2
      have el : (ns.map V.int).length = ns.length := List.length_map _
      have hi : i.toNat < ns.length := by omega
      have hat : atI (ns.map V.int) (i + 1 - 1) = some (.int ns[i.toNat]) := by
        rw [show i + 1 - 1 = (i.toNat : Int) by omega]
        refine atI_nat ?_
        rw [List.getElem?_map, List.getElem?_eq_getElem hi]
        rfl
      refine ⟨_, rfl, a, _, 0, _, rfl, rfl, .of h2, rfl, _, rfl, a, _, 1, _, rfl, rfl, .of h2, rfl, _, _, rfl, rfl, sc, _, _, _, rfl, rfl, sq _ _ (hup _) h2, hat, ?_⟩
      refine ⟨_, rfl, a, _, 2, _, rfl, rfl, .of h2, rfl, _, _, rfl, rfl, .inr ⟨by decide, by decide⟩, _, rfl, _, _, rfl, rfl, _, _, rfl, rfl, _, _, rfl, rfl, (show (0 : Int) < 2147483647 by decide), ?_⟩
      refine ⟨_, rfl, a, _, 2, 2, rfl, rfl, h2, rfl, ?_⟩
      have h3 : ∀ x : Int, upd (upd H a (.lst ([V.ref sc, V.int i, V.int mm, V.int g].set 1 (.int (i + 1))))) a (.lst ([V.ref sc, .int (i + 1), .int mm, .int g].set 2 (.int x))) a = some (.lst [.ref sc, .int (i + 1), .int x, .int g]) := fun x => upd_same
      refine ⟨_, rfl, _, _, rfl, rfl, ⟨by decide, by decide, by decide⟩, _, _, rfl, rfl, _, rfl, ?_⟩
      refine ite_b (fun c3 => ?_) fun c3 => ?_
      · refine ⟨_, rfl, _, rfl, _, _, rfl, rfl, ⟨n0, by omega⟩, ?_⟩
        refine ⟨_, rfl, a, _, 3, 3, rfl, rfl, h3 _, rfl, ?_⟩
        refine ⟨_, rfl, _, rfl, _, _, rfl, rfl, n0, ?_⟩
        exact fin _ _ _ _ _ (hup3 _ _ _) upd_same (by omega) (mb _).1 (mb _).2 (md _).1 (md _).2
      · refine ⟨_, rfl, a, _, 3, 3, rfl, rfl, h3 _, rfl, ?_⟩
        refine ⟨_, rfl, _, rfl, _, _, rfl, rfl, n0, ?_⟩
        exact fin _ _ _ _ _ (hup3 _ _ _) upd_same (by omega) (mb _).1 (mb _).2 (md _).1 (md _).2
abbrev s__law_few : Stmt := topS 46
theorem sc__law_few : FnScope ["_law_row", "_law_some"] ["_law_row"] (defScope s__law_few) := ⟨rfl, rfl, rfl, by decide +kernel, rfl, by decide +kernel, by decide +kernel⟩
def fewL : List (Int × Int) := [(6, 2), (8, 2), (9, 3), (4, 2), (6, 3), (8, 4), (8, 2), (9, 3), (2, 2), (3, 3), (4, 4), (7, 7)]
theorem few_good : ∀ p ∈ fewL, goodP p.1 p.2 := by unfold goodP; decide
abbrev sp__law_few : List D → (D → Prop) → Prop := fun ds Po => ds = [] ∧ ∀ p ∈ fewL, Po (prD p)
theorem ok__law_few (Df : Dfn K mg "_law_few" s__law_few ["_law_row"]) (B : Blt mg) (T : Tx K mg C) (C_law_taken : Cal P w K mg base "_law_taken" 1 ["_law_row", "_law_many"] (SpRV ⟨K, C⟩ sp__law_taken)) : Cal P w K mg base "_law_few" 2 ["_law_row"] (SpRV ⟨K, C⟩ sp__law_few) := by
  obtain ⟨f, fd, F, m, b⟩ := Df
  obtain ⟨f_law_taken, d_law_taken, G_law_taken, m_law_taken, k_law_taken, b_law_taken⟩ := C_law_taken
  refine ⟨f, fd, F.ok sc__law_few (fun vs H Q E h => len_RV h fun ds Po hs => ?_) (fun cdv A outer s H vs Q E hr h => ?_), m, F.kp, b⟩
  · iterate 0 (obtain ⟨_, hs⟩ := hs)
    rw [hs.1]; rfl
  refine ⟨_, (pss_cons (ps_set (i := 1) sc__law_few.nd rfl (by first | exact Or.inl rfl | exact Or.inr rfl) (pe_lst (pa_cons (pe_tup (pa_cons pe_int (pa_cons pe_int pa_nil))) (pa_cons (pe_tup (pa_cons pe_int (pa_cons pe_int pa_nil))) (pa_cons (pe_tup (pa_cons pe_int (pa_cons pe_int pa_nil))) (pa_cons (pe_tup (pa_cons pe_int (pa_cons pe_int pa_nil))) (pa_cons (pe_tup (pa_cons pe_int (pa_cons pe_int pa_nil))) (pa_cons (pe_tup (pa_cons pe_int (pa_cons pe_int pa_nil))) (pa_cons (pe_tup (pa_cons pe_int (pa_cons pe_int pa_nil))) (pa_cons (pe_tup (pa_cons pe_int (pa_cons pe_int pa_nil))) (pa_cons (pe_tup (pa_cons pe_int (pa_cons pe_int pa_nil))) (pa_cons (pe_tup (pa_cons pe_int (pa_cons pe_int pa_nil))) (pa_cons (pe_tup (pa_cons pe_int (pa_cons pe_int pa_nil))) (pa_cons (pe_tup (pa_cons pe_int (pa_cons pe_int pa_nil))) pa_nil))))))))))))))
      (pss_one (ps_ret (pe_ix (ix_listK K) (pv 1) (pe_call G_law_taken (hr.mono (by decide)) rfl m_law_taken k_law_taken b_law_taken .nil pass0 (pa_cons (pv 0) (pa_cons pe_int pa_nil))) (fun _ _ => rfl))))), run_RV (Z := ⟨K, C⟩) h fun ds Po hs => ?_⟩
  obtain ⟨rfl, h⟩ := hs
  walk_at "d0"
  walk_at "d"
  refine wc_ret ?_
  walk_at "d"
  refine ⟨by decide, by decide, fun v v0 v1 => ?_⟩
  have hv : v.toNat < fewL.length := by show v.toNat < 12; omega
  refine od_ixL (atI_ix' (f := prD) (xs := fewL) (k := v.toNat) (by omega) hv) ?_
  exact h _ (List.getElem_mem hv)
abbrev s__law_mixed : Stmt := topS 47
theorem sc__law_mixed : FnScope ["_law_row", "_law_some", "_law_left", "_law_found"] ["_law_row", "_law_some"] (defScope s__law_mixed) := ⟨rfl, rfl, rfl, by decide +kernel, rfl, by decide +kernel, by decide +kernel⟩
abbrev sp__law_mixed : List D → (List D → Prop) → Prop := fun ds Po => ∃ xs : List D, ds = [.lst xs] ∧ Shp xs ∧ xs.length ≤ 10000 ∧ ∀ es, es.Perm xs → Po es
theorem ok__law_mixed (Df : Dfn K mg "_law_mixed" s__law_mixed ["_law_row", "_law_some"]) (B : Blt mg) (T : Tx K mg C) (C_law_taken : Cal P w K mg base "_law_taken" 1 ["_law_row", "_law_many"] (SpRV ⟨K, C⟩ sp__law_taken)) : Cal P w K mg base "_law_mixed" 2 ["_law_row", "_law_some"] (SpRL ⟨K, C⟩ sp__law_mixed) := by
  obtain ⟨f, fd, F, m, b⟩ := Df
  obtain ⟨f_law_taken, d_law_taken, G_law_taken, m_law_taken, k_law_taken, b_law_taken⟩ := C_law_taken
  refine ⟨f, fd, F.ok sc__law_mixed (fun vs H Q E h => len_RL h fun ds Po hs => ?_) (fun cdv A outer s H vs Q E hr h => ?_), m, F.kp, b⟩
  · iterate 1 (obtain ⟨_, hs⟩ := hs)
    rw [hs.1]; rfl
  refine ⟨_, (pss_cons (ps_set (i := 2) sc__law_mixed.nd rfl (by first | exact Or.inl rfl | exact Or.inr rfl) (pe_callTy (cr_listK K) (by rfl) B.list (by decide +kernel) (pa_cons (pv 1) pa_nil)))
      (pss_cons (ps_set (i := 3) sc__law_mixed.nd rfl (by first | exact Or.inl rfl | exact Or.inr rfl) (pe_lst pa_nil))
      (pss_cons (ps_while PassesOwn.never (pt_cmpR (op_neK K hr.units) (pv 2) (pe_lst pa_nil) (nomark _)) (pss_one (ps_expr (pe_bmK K PySem.F.plainAttrs_list PySem.F.slot_list_append PySem.F.type_list_append mt_append (pv 3) (pa_cons (pe_bmK K PySem.F.plainAttrs_list PySem.F.slot_list_pop PySem.F.type_list_pop mt_popAt (pv 2) (pa_cons (pe_call G_law_taken (hr.mono (by decide)) rfl m_law_taken k_law_taken b_law_taken .nil pass0 (pa_cons (pv 0) (pa_cons (pe_callB (cr_lenK K) (by rfl) B.len PySem.boot_len (pa_cons (pv 2) pa_nil)) pa_nil))) pa_nil)) pa_nil)))))
      (pss_one (ps_ret (pv 3)))))), run_RL (Z := ⟨K, C⟩) h fun ds Po hs => ?_⟩
  obtain ⟨xs, rfl, sh, xl, h⟩ := hs
  walk_at "d0"
  walk_at "d"
  refine wc_while (fun m ρ' => ∃ ls fs : List D, ρ' = [.row, .v (.lst xs), .l ls, .l fs] ∧ ls.length = m ∧ (fs ++ ls).Perm xs) xs.length ⟨xs, [], rfl, rfl, .refl _⟩ (fun m ρ' hI => ?_)
  obtain ⟨ls, fs, rfl, hm, hp⟩ := hI
  have shl : Shp ls := fun d hd => sh d (hp.mem_iff.mp (List.mem_append_right _ hd))
  have lp := hp.length_eq
  rw [List.length_append] at lp
  walk_at "d"
  refine od_neS0 shl ?_
  walk_at "d"
  refine ⟨fun c => ?_, fun c => ?_⟩
  · have c2 : ls ≠ [] := by intro z; subst z; simp at c
    have c3 : 0 < ls.length := List.length_pos_iff.mpr c2
    refine wc_appPop rfl rfl (by decide) ?_
    walk_at "d"
    refine ⟨by omega, by omega, fun v v0 v1 => ?_⟩
    have hv : v.toNat < ls.length := by omega
    refine ⟨v.toNat, hv, by rw [Int.toNat_of_nonneg v0], Nat.lt_trans hv (by omega), Nat.lt_of_le_of_lt (m := 10000) (by omega) (by decide), m - 1, by omega, ls.eraseIdx v.toNat, fs ++ [ls[v.toNat]], rfl, ?_, ?_⟩
    · rw [List.length_eraseIdx_of_lt hv]; omega
    · rw [List.append_assoc]
      exact (List.Perm.append_left fs (perm_erase hv)).trans hp
  · have c2 : ls = [] := by simpa using c
    subst c2
    walk_at "d"
    rw [List.append_nil] at hp
    exact h fs hp
abbrev s__law_seated : Stmt := topS 48
theorem sc__law_seated : FnScope ["_law_guests", "_law_size", "_law_k", "_law_some"] ["_law_guests", "_law_size"] (defScope s__law_seated) := ⟨rfl, rfl, rfl, by decide +kernel, rfl, by decide +kernel, by decide +kernel⟩
abbrev sp__law_seated : List D → (D → Prop) → Prop := fun ds Po => ∃ (xs : List Int) (s : Int) (q : Nat), ds = [.lst (xs.map .int), .int s] ∧ 1 ≤ s ∧ s ≤ 1000 ∧ xs.length = s.toNat * q ∧ xs.length ≤ 1000 ∧ Po (tT (seatR s.toNat q xs))
theorem ok__law_seated (Df : Dfn K mg "_law_seated" s__law_seated ["_law_guests", "_law_size"]) (B : Blt mg) (T : Tx K mg C) : Cal P w K mg base "_law_seated" 1 ["_law_guests", "_law_size"] (SpV ⟨K, C⟩ sp__law_seated) := by
  obtain ⟨f, fd, F, m, b⟩ := Df
  refine ⟨f, fd, F.ok sc__law_seated (fun vs H Q E h => len_V h fun ds Po hs => ?_) (fun cdv A outer s H vs Q E hr h => ?_), m, F.kp, b⟩
  · iterate 3 (obtain ⟨_, hs⟩ := hs)
    rw [hs.1]; rfl
  refine ⟨_, (pss_cons (ps_setLc (i := 3) (own := [("_law_k", 2)]) rfl sc__law_seated.nd rfl rfl (sw_true rfl rfl rfl (by decide +kernel)) (pi_range3 rfl B.range (pa_cons pe_int (pa_cons (pe_callB (cr_lenK K) (by rfl) B.len PySem.boot_len (pa_cons (pv 0) pa_nil)) (pa_cons (pv 1) pa_nil)))) (blkOk_by (own := [("_law_k", 2)]) (N := ["_law_guests", "_law_size", "_law_k", "_law_some"]) (sc := defScope s__law_seated) (by decide +kernel)) (fun _ _ _ _ _ => pg_name (i := 2) sc__law_seated.nd rfl (by first | exact Or.inl rfl | exact Or.inr rfl)) (fun _ _ _ _ _ => pts_nil) (fun _ _ _ _ _ => (pe_callTy (cr_tupleK K) (by rfl) B.tuple (by decide +kernel) (pa_cons (pe_callB (cr_sortLK K hr.units) (by rfl) B.sorted (by decide +kernel) (pa_cons (pe_slice (sl_listK K) (pv 0) (po_some (pv 2)) (po_some (pe_op op_add (pv 2) (pv 1)))) pa_nil)) pa_nil))))
      (pss_one (ps_ret (pe_callTy (cr_tupleK K) (by rfl) B.tuple (by decide +kernel) (pa_cons (pe_callB (cr_sortLK K hr.units) (by rfl) B.sorted (by decide +kernel) (pa_cons (pv 3) pa_nil)) pa_nil))))), run_V (Z := ⟨K, C⟩) h fun ds Po hs => ?_⟩
  obtain ⟨xs, s', q, rfl, s1, s2, hx, xl, h⟩ := hs
  have e1 : (((xs.map D.int).length : Nat) : Int) = s' * (q : Int) := by
    rw [List.length_map, hx, Int.natCast_mul, Int.toNat_of_nonneg (by omega)]
  have hq : q ≤ 1000 := by
    have : 1 * q ≤ s'.toNat * q := Nat.mul_le_mul_right q (by omega)
    omega
  walk_at "d0"
  walk_at "d"
  rw [e1]
  refine ⟨_, _, _, q, rfl, rgC_pos s1 (by omega) (by rw [← e1, List.length_map]; omega), Nat.le_trans hq (by decide), lcR_em (fun i => tI (srtI (chunk s'.toNat xs i))) (fun i hi Q' q' => ?_) ?_⟩
  · simp only [wipeE]
    walk_at "d"
    have e2 : (i : Int) * s' = ((i * s'.toNat : Nat) : Int) := by rw [Int.natCast_mul, Int.toNat_of_nonneg (by omega)]
    rw [e2, cut_mid (by omega) (by omega), show (0 + ((i * s'.toNat : Nat) : Int)).toNat = i * s'.toNat by omega, show (0 + ((i * s'.toNat : Nat) : Int) + s').toNat - i * s'.toNat = s'.toNat by omega]
    refine cl_sortIl ?_
    walk_at "d"
    exact q'
  · walk_at "d"
    refine wc_ret ?_
    walk_at "d"
    have e3 : (List.range q).map (fun i => tI (srtI (chunk s'.toNat xs i))) = ((List.range q).map fun i => srtI (chunk s'.toNat xs i)).map tI := by rw [List.map_map]; rfl
    rw [e3]
    refine cl_sortTl (fun t ht z => ?_) ?_
    · obtain ⟨i, hi, e⟩ := List.mem_map.mp ht
      subst z
      have l1 := chunk_len hx (List.mem_range.mp hi)
      have l2 := (List.mergeSort_perm (chunk s'.toNat xs i) (leO ltI)).length_eq
      have l3 := congrArg List.length e
      unfold srtI at l3
      rw [l2, l1] at l3
      simp at l3
      omega
    walk_at "d"
    exact h
abbrev s__law_pairs : Stmt := topS 49
theorem sc__law_pairs : FnScope ["_law_tables", "_law_found", "_law_table", "_law_k", "_law_other"] ["_law_tables"] (defScope s__law_pairs) := ⟨rfl, rfl, rfl, by decide +kernel, rfl, by decide +kernel, by decide +kernel⟩
abbrev sp__law_pairs : List D → (List D → Prop) → Prop := fun ds Po => ∃ (r : List (List Int)), ds = [tT r] ∧ Sml r ∧ Po ((prsR r).map prD)
theorem ok__law_pairs (Df : Dfn K mg "_law_pairs" s__law_pairs ["_law_tables"]) (B : Blt mg) (T : Tx K mg C) : Cal P w K mg base "_law_pairs" 1 ["_law_tables"] (SpL ⟨K, C⟩ sp__law_pairs) := by
  obtain ⟨f, fd, F, m, b⟩ := Df
  refine ⟨f, fd, F.ok sc__law_pairs (fun vs H Q E h => len_L h fun ds Po hs => ?_) (fun cdv A outer s H vs Q E hr h => ?_), m, F.kp, b⟩
  · iterate 1 (obtain ⟨_, hs⟩ := hs)
    rw [hs.1]; rfl
  refine ⟨_, (pss_cons (ps_set (i := 1) sc__law_pairs.nd rfl (by first | exact Or.inl rfl | exact Or.inr rfl) (pe_lst pa_nil))
      (pss_cons (ps_for PassesOwn.never rfl (pi_tupK K (pv 0)) (pg_name (i := 2) sc__law_pairs.nd rfl (by first | exact Or.inl rfl | exact Or.inr rfl))
        (pss_one (ps_for PassesOwn.never rfl (pi_range1 rfl B.range (pa_cons (pe_callB (cr_lenK K) (by rfl) B.len PySem.boot_len (pa_cons (pv 2) pa_nil)) pa_nil)) (pg_name (i := 3) sc__law_pairs.nd rfl (by first | exact Or.inl rfl | exact Or.inr rfl))
        (pss_one (ps_for PassesOwn.never rfl (pi_tupK K (pe_slice (sl_tupK K) (pv 2) (po_some (pe_op op_add (pv 3) pe_int)) po_none)) (pg_name (i := 4) sc__law_pairs.nd rfl (by first | exact Or.inl rfl | exact Or.inr rfl))
        (pss_one (ps_expr (pe_bmK K PySem.F.plainAttrs_list PySem.F.slot_list_append PySem.F.type_list_append mt_append (pv 1) (pa_cons (pe_tup (pa_cons (pe_ix (ix_tupK K) (pv 2) (pv 3) (fun _ _ => rfl)) (pa_cons (pv 4) pa_nil))) pa_nil)))))))))
      (pss_one (ps_ret (pv 1))))), run_L (Z := ⟨K, C⟩) h fun ds Po hs => ?_⟩
  obtain ⟨r, rfl, sm, h⟩ := hs
  walk_at "d0"
  walk_at "d"
  refine forD_fn [2, 3, 4] (fun pre => [.v (tT r), .l ((prsR pre).map prD), .un, .un, .un]) rfl (fun pre t post e => ?_) ?_
  · walk_at "d"
    have smt : t.length ≤ 70 := sm.2 t (by rw [e]; simp)
    have smp : (prsR pre).length ≤ 169050 := Sml.prs (r := pre) (by rw [e] at sm; exact sm.part)
    refine ⟨by rw [List.length_map]; omega, by omega, ?_⟩
    refine forR_fn [3, 4] (fun k => [.v (tT r), .l ((prsR pre ++ prsK t k).map prD), .v (tI t), .un, .un]) (by simp [prsK]) (fun i hi => ?_) ?_
    · have hi' : i < t.length := by simpa using hi
      walk_at "d"
      rw [cut_from (by omega), show (0 + (i : Int) + 1).toNat = i + 1 by omega]
      have l1 := prsK_le t i (by omega)
      have l2 := prsT_le smt
      refine forD_fn [4] (fun q => [.v (tT r), .l ((prsR pre ++ prsK t i ++ q.map fun y => (t.getD i 0, y)).map prD), .v (tI t), .v (.int (0 + (i : Int))), .un]) (by simp) (fun q y qq e => ?_) ?_
      · walk_at "d"
        refine od_ixT (atI_ix' (f := D.int) (xs := t) (k := i) (by omega) hi') ?_
        walk_at "d"
        have l3 : (t.drop (i + 1)).length ≤ 70 := by rw [List.length_drop]; omega
        rw [e] at l3
        rw [List.length_append, List.length_cons] at l3
        refine ⟨?_, ?_⟩
        · rw [List.length_map, List.length_append, List.length_append, List.length_map]
          exact Nat.lt_of_le_of_lt (m := 1000000) (by omega) (by decide)
        · simp only [wipeE]
          walk_at "dn"
          rw [getD_at 0 hi', List.map_append (l₁ := q), List.map_append (l₁ := prsR pre ++ prsK t i), List.map_append (l₁ := prsR pre ++ prsK t i), List.map_append (l₁ := q.map _), ← List.append_assoc]
          rfl
      · simp only [wipeE]
        walk_at "dn"
        rw [prsK_succ, ← List.append_assoc]
    · simp only [wipeE]
      walk_at "dn"
      rw [List.length_map, Int.toNat_natCast, prsK_all, prsR_app, prsR_one]
  · walk_at "d"
    exact h
abbrev s__law_known : Stmt := topS 50
theorem sc__law_known : FnScope ["_law_plan_here", "_law_found", "_law_tables", "_law_pair"] ["_law_plan_here"] (defScope s__law_known) := ⟨rfl, rfl, rfl, by decide +kernel, rfl, by decide +kernel, by decide +kernel⟩
abbrev sp__law_known : List D → (List (List Int × V) → Prop) → Prop := fun ds Po => ∃ (p : List (List (List Int))), ds = [lT p] ∧ SmlP p ∧ ∀ kvs, KeyOf kvs (prsP p) → Po kvs
theorem ok__law_known (Df : Dfn K mg "_law_known" s__law_known ["_law_plan_here"]) (B : Blt mg) (T : Tx K mg C) (C_law_pairs : Cal P w K mg base "_law_pairs" 1 ["_law_tables"] (SpL ⟨K, C⟩ sp__law_pairs)) : Cal P w K mg base "_law_known" 2 ["_law_plan_here"] (SpD ⟨K, C⟩ sp__law_known) := by
  obtain ⟨f, fd, F, m, b⟩ := Df
  obtain ⟨f_law_pairs, d_law_pairs, G_law_pairs, m_law_pairs, k_law_pairs, b_law_pairs⟩ := C_law_pairs
  refine ⟨f, fd, F.ok sc__law_known (fun vs H Q E h => len_D h fun ds Po hs => ?_) (fun cdv A outer s H vs Q E hr h => ?_), m, F.kp, b⟩
  · iterate 1 (obtain ⟨_, hs⟩ := hs)
    rw [hs.1]; rfl
  refine ⟨_, (pss_cons (ps_set (i := 1) sc__law_known.nd rfl (by first | exact Or.inl rfl | exact Or.inr rfl) pe_dnewT)
      (pss_cons (ps_for PassesOwn.never rfl (pi_listK K (pv 0)) (pg_name (i := 2) sc__law_known.nd rfl (by first | exact Or.inl rfl | exact Or.inr rfl))
        (pss_one (ps_for PassesOwn.never rfl (pi_listK K (pe_call G_law_pairs (hr.mono (by decide)) rfl m_law_pairs k_law_pairs b_law_pairs .nil pass0 (pa_cons (pv 2) pa_nil))) (pg_name (i := 3) sc__law_known.nd rfl (by first | exact Or.inl rfl | exact Or.inr rfl))
        (pss_one (ps_dput (hu_of hr) (pv 1) (pv 3) pe_bl rfl)))))
      (pss_one (ps_ret (pv 1))))), run_D (Z := ⟨K, C⟩) h fun ds Po hs => ?_⟩
  obtain ⟨p, rfl, sp, h⟩ := hs
  have l2 := prsP_le sp.2
  have pl := sp.1
  walk_at "d0"
  walk_at "d"
  refine forD_inv [2, 3] (fun pre ρ' => ∃ kvs : List (List Int × V), ρ' = [.v (lT p), .t kvs, .un, .un] ∧ KeyOf kvs (prsP pre)) ⟨[], rfl, .nil⟩ (fun pre r post ρ' e hI => ?_) (fun ρ' hI => ?_)
  · obtain ⟨kvs, rfl, hk⟩ := hI
    walk_at "d"
    refine ⟨sp.2 r (by rw [e]; simp), ?_⟩
    have e2 : (prsP p).length = (prsP pre).length + ((prsR r).length + (prsP post).length) := by rw [e]; simp [prsP]
    walk_at "d"
    refine forD_inv [3] (fun q ρ' => ∃ kvs : List (List Int × V), ρ' = [.v (lT p), .t kvs, .v (tT r), .un] ∧ KeyOf kvs (prsP pre ++ q)) ⟨kvs, rfl, by rw [List.append_nil]; exact hk⟩ (fun q x qq ρ' e hI => ?_) (fun ρ' hI => ?_)
    · obtain ⟨kv, rfl, hk2⟩ := hI
      have l4 := hk2.len
      have l5 := congrArg List.length e
      rw [List.length_append] at l4
      simp only [List.length_append, List.length_cons] at l5
      walk_at "d"
      refine ⟨[x.1, x.2], .bl true, rfl, .inl ⟨_, rfl, rfl⟩, Nat.lt_of_le_of_lt (m := 16735950) (by omega) (by decide), putK kv [x.1, x.2] (.bl true), rfl, ?_⟩
      rw [← List.append_assoc]
      exact hk2.put x _
    · obtain ⟨kv, rfl, hk2⟩ := hI
      exact ⟨kv, rfl, by rw [prsP_app, prsP_one]; exact hk2⟩
  · obtain ⟨kvs, rfl, hk⟩ := hI
    walk_at "d"
    exact h kvs hk
abbrev s__law_new : Stmt := topS 51
theorem sc__law_new : FnScope ["_law_tables", "_law_plan_here", "_law_known_here", "_law_pair"] ["_law_tables", "_law_plan_here"] (defScope s__law_new) := ⟨rfl, rfl, rfl, by decide +kernel, rfl, by decide +kernel, by decide +kernel⟩
abbrev sp__law_new : List D → (D → Prop) → Prop := fun ds Po => ∃ (r : List (List Int)) (p : List (List (List Int))), ds = [tT r, lT p] ∧ Sml r ∧ SmlP p ∧ Po (.bl (decide (∀ x ∈ prsR r, x ∉ prsP p)))
theorem ok__law_new (Df : Dfn K mg "_law_new" s__law_new ["_law_tables", "_law_plan_here"]) (B : Blt mg) (T : Tx K mg C) (C_law_known : Cal P w K mg base "_law_known" 2 ["_law_plan_here"] (SpD ⟨K, C⟩ sp__law_known)) (C_law_pairs : Cal P w K mg base "_law_pairs" 1 ["_law_tables"] (SpL ⟨K, C⟩ sp__law_pairs)) : Cal P w K mg base "_law_new" 3 ["_law_tables", "_law_plan_here"] (SpV ⟨K, C⟩ sp__law_new) := by
  obtain ⟨f, fd, F, m, b⟩ := Df
  obtain ⟨f_law_known, d_law_known, G_law_known, m_law_known, k_law_known, b_law_known⟩ := C_law_known
  obtain ⟨f_law_pairs, d_law_pairs, G_law_pairs, m_law_pairs, k_law_pairs, b_law_pairs⟩ := C_law_pairs
  refine ⟨f, fd, F.ok sc__law_new (fun vs H Q E h => len_V h fun ds Po hs => ?_) (fun cdv A outer s H vs Q E hr h => ?_), m, F.kp, b⟩
  · iterate 2 (obtain ⟨_, hs⟩ := hs)
    rw [hs.1]; rfl
  refine ⟨_, (pss_cons (ps_set (i := 2) sc__law_new.nd rfl (by first | exact Or.inl rfl | exact Or.inr rfl) (pe_call G_law_known (hr.mono (by decide)) rfl m_law_known k_law_known b_law_known .nil pass0 (pa_cons (pv 1) pa_nil)))
      (pss_one (ps_ret (pe_cmpR (op_eqK K hr.units) (pe_lc (own := [("_law_pair", 3)]) (g := gName 3) rfl sc__law_new.nd (pi_listK K (pe_call G_law_pairs (hr.mono (by decide)) rfl m_law_pairs k_law_pairs b_law_pairs .nil pass0 (pa_cons (pv 0) pa_nil))) (blkOk_by (own := [("_law_pair", 3)]) (N := ["_law_tables", "_law_plan_here", "_law_known_here", "_law_pair"]) (sc := defScope s__law_new) (by decide +kernel)) (fun _ _ _ _ _ => pg_name (i := 3) sc__law_new.nd rfl (by first | exact Or.inl rfl | exact Or.inr rfl)) (fun _ _ _ _ _ => (pts_one (pt_cmp (pc_din (hu_of hr) (pv 3) (pv 2))))) (fun _ _ _ _ _ => (pv 3))) (pe_lst pa_nil) (nomark _))))), run_V (Z := ⟨K, C⟩) h fun ds Po hs => ?_⟩
  obtain ⟨r, p, rfl, sm, sp, h⟩ := hs
  have l1 := sm.prs
  walk_at "d0"
  walk_at "d"
  refine ⟨sp, fun kvs hk => ?_⟩
  refine wc_ret ?_
  walk_at "d"
  refine ⟨sm, ?_⟩
  walk_at "d"
  refine ⟨by rw [List.length_map]; exact Nat.le_trans l1 (by decide), lcD_e (fun x => decide (x ∈ prsP p)) (fun x => prD x) (fun x hx Q' q' => ?_) (fun x hx _ Q' q' => ?_) ?_⟩
  · simp only [wipeE]
    walk_at "d"
    refine wb_we (we_dinT ?_)
    walk_at "d"
    refine ⟨[x.1, x.2], kvs, rfl, rfl, ?_⟩
    rw [hk.has]
    walk_at "d"
    exact q'
  · simp only [wipeE]
    walk_at "d"
    exact q'
  walk_at "d"
  refine od_eqE kd_pr (by decide) (fun x => x) ?_
  rw [isE_filter]
  rw [show (prsR r).all (fun x => !decide (x ∈ prsP p)) = decide (∀ x ∈ prsR r, x ∉ prsP p) by rw [Bool.eq_iff_iff]; simp]
  exact h
abbrev s__law_thin : Stmt := topS 52
theorem sc__law_thin : FnScope ["_law_row", "_law_tables", "_law_found", "_law_table", "_law_guest", "_law_rest"] ["_law_row", "_law_tables"] (defScope s__law_thin) := ⟨rfl, rfl, rfl, by decide +kernel, rfl, by decide +kernel, by decide +kernel⟩
abbrev sp__law_thin : List D → (D → Prop) → Prop := fun ds Po => ∃ (r : List (List Int)), ds = [tT r] ∧ Sml r ∧ ∀ ts, Subs ts r → Po (tT (srtT (ts.filter neB)))
theorem ok__law_thin (Df : Dfn K mg "_law_thin" s__law_thin ["_law_row", "_law_tables"]) (B : Blt mg) (T : Tx K mg C) (C_law_taken : Cal P w K mg base "_law_taken" 1 ["_law_row", "_law_many"] (SpRV ⟨K, C⟩ sp__law_taken)) : Cal P w K mg base "_law_thin" 2 ["_law_row", "_law_tables"] (SpRV ⟨K, C⟩ sp__law_thin) := by
  obtain ⟨f, fd, F, m, b⟩ := Df
  obtain ⟨f_law_taken, d_law_taken, G_law_taken, m_law_taken, k_law_taken, b_law_taken⟩ := C_law_taken
  refine ⟨f, fd, F.ok sc__law_thin (fun vs H Q E h => len_RV h fun ds Po hs => ?_) (fun cdv A outer s H vs Q E hr h => ?_), m, F.kp, b⟩
  · iterate 1 (obtain ⟨_, hs⟩ := hs)
    rw [hs.1]; rfl
  refine ⟨_, (pss_cons (ps_set (i := 2) sc__law_thin.nd rfl (by first | exact Or.inl rfl | exact Or.inr rfl) (pe_lst pa_nil))
      (pss_cons (ps_for PassesOwn.never rfl (pi_tupK K (pv 1)) (pg_name (i := 3) sc__law_thin.nd rfl (by first | exact Or.inl rfl | exact Or.inr rfl))
        (pss_cons (ps_set (i := 5) sc__law_thin.nd rfl (by first | exact Or.inl rfl | exact Or.inr rfl) (pe_callTy (cr_tupleK K) (by rfl) B.tuple (by decide +kernel) (pa_cons (pe_lc (own := [("_law_guest", 4)]) (g := gName 4) rfl sc__law_thin.nd (pi_tupK K (pv 3)) (blkOk_by (own := [("_law_guest", 4)]) (N := ["_law_row", "_law_tables", "_law_found", "_law_table", "_law_guest", "_law_rest"]) (sc := defScope s__law_thin) (by decide +kernel)) (fun _ _ _ _ _ => pg_name (i := 4) sc__law_thin.nd rfl (by first | exact Or.inl rfl | exact Or.inr rfl)) (fun _ _ _ _ _ => (pts_one (pt_cmpR op_gt (pe_call G_law_taken (hr.mono (by decide)) rfl m_law_taken k_law_taken b_law_taken .nil pass0 (pa_cons (pv 0) (pa_cons pe_int pa_nil))) pe_int (nomark _)))) (fun _ _ _ _ _ => (pv 4))) pa_nil)))
      (pss_one (ps_if (pt_cmpR (op_neK K hr.units) (pv 5) (pe_tup pa_nil) (nomark _)) (pss_one (ps_expr (pe_bmK K PySem.F.plainAttrs_list PySem.F.slot_list_append PySem.F.type_list_append mt_append (pv 2) (pa_cons (pv 5) pa_nil)))) pss_nil))))
      (pss_one (ps_ret (pe_callTy (cr_tupleK K) (by rfl) B.tuple (by decide +kernel) (pa_cons (pe_callB (cr_sortLK K hr.units) (by rfl) B.sorted (by decide +kernel) (pa_cons (pv 2) pa_nil)) pa_nil)))))), run_RV (Z := ⟨K, C⟩) h fun ds Po hs => ?_⟩
  obtain ⟨r, rfl, sm, h⟩ := hs
  walk_at "d0"
  walk_at "d"
  refine forD_inv [3, 4, 5] (fun pre ρ' => ∃ ts, ρ' = [.row, .v (tT r), .l ((ts.filter neB).map tI), .un, .un, .un] ∧ Subs ts pre) ⟨[], rfl, trivial⟩ (fun pre t post ρ' e hI => ?_) (fun ρ' hI => ?_)
  · obtain ⟨ts, rfl, hts⟩ := hI
    have smt : t.length ≤ 70 := sm.2 t (by rw [e]; simp)
    have l1 := hts.len
    have l2 := congrArg List.length e
    have l3 := sm.1
    have l4 := List.length_filter_le neB ts
    rw [List.length_append] at l2
    walk_at "d"
    refine ⟨by rw [List.length_map]; exact Nat.le_trans smt (by decide), lcD_sub (fun y => .int y) (fun y hy Q' qt qf => ?_) (fun y hy Q' q' => ?_) (fun l hl => ?_)⟩
    · simp only [wipeE]
      walk_at "d"
      refine ⟨by decide, by decide, fun v v0 v1 => ?_⟩
      walk_at "d"
      by_cases c : v > 0
      · rw [decide_eq_true c]; exact qt
      · rw [decide_eq_false c]; exact qf
    · simp only [wipeE]
      walk_at "d"
      exact q'
    · walk_at "d"
      refine od_neNt kd_int (by decide) ?_
      walk_at "d"
      refine ⟨fun c => ?_, fun c => ?_⟩
      · walk_at "d"
        refine ⟨?_, ts ++ [l], ?_, hts.snoc hl⟩
        · rw [List.length_map]; exact Nat.lt_of_le_of_lt (m := 70) (by omega) (by decide)
        · simp only [wipeE]
          walk_at "dn"
          rw [List.filter_append, List.filter_cons_of_pos (show neB l = true from c), List.map_append]
          rfl
      · refine wc_next ?_
        refine ⟨ts ++ [l], ?_, hts.snoc hl⟩
        simp only [wipeE]
        walk_at "dn"
        rw [List.filter_append, List.filter_cons_of_neg (show ¬ neB l = true by rw [show neB l = _ from c]; decide)]
        simp
  · obtain ⟨ts, rfl, hts⟩ := hI
    refine wc_ret ?_
    walk_at "d"
    refine cl_sortTl (fun t ht => ?_) ?_
    · intro z
      subst z
      have := (List.mem_filter.mp ht).2
      simp [neB] at this
    walk_at "d"
    exact h ts hts
abbrev s__law_plan : Stmt := topS 53
theorem sc__law_plan : FnScope ["_law_row", "_law_guests", "_law_size", "_law_most", "_law_found", "_law_k", "_law_turn", "_law_tables"] ["_law_row", "_law_guests", "_law_size", "_law_most"] (defScope s__law_plan) := ⟨rfl, rfl, rfl, by decide +kernel, rfl, by decide +kernel, by decide +kernel⟩
abbrev sp__law_plan : List D → (List D → Prop) → Prop := fun ds Po => ∃ g s mo : Int, ds = [.int g, .int s, .int mo] ∧ goodP g s ∧ 0 ≤ mo ∧ mo ≤ 20 ∧ ∀ p, Good g s p → (p.length : Int) ≤ mo → Po (p.map tT)
theorem ok__law_plan (Df : Dfn K mg "_law_plan" s__law_plan ["_law_row", "_law_guests", "_law_size", "_law_most"]) (B : Blt mg) (T : Tx K mg C) (C_law_taken : Cal P w K mg base "_law_taken" 1 ["_law_row", "_law_many"] (SpRV ⟨K, C⟩ sp__law_taken)) (C_law_seated : Cal P w K mg base "_law_seated" 1 ["_law_guests", "_law_size"] (SpV ⟨K, C⟩ sp__law_seated)) (C_law_mixed : Cal P w K mg base "_law_mixed" 2 ["_law_row", "_law_some"] (SpRL ⟨K, C⟩ sp__law_mixed)) (C_law_thin : Cal P w K mg base "_law_thin" 2 ["_law_row", "_law_tables"] (SpRV ⟨K, C⟩ sp__law_thin)) (C_law_new : Cal P w K mg base "_law_new" 3 ["_law_tables", "_law_plan_here"] (SpV ⟨K, C⟩ sp__law_new)) : Cal P w K mg base "_law_plan" 4 ["_law_row", "_law_guests", "_law_size", "_law_most"] (SpRL ⟨K, C⟩ sp__law_plan) := by
  obtain ⟨f, fd, F, m, b⟩ := Df
  obtain ⟨f_law_taken, d_law_taken, G_law_taken, m_law_taken, k_law_taken, b_law_taken⟩ := C_law_taken
  obtain ⟨f_law_seated, d_law_seated, G_law_seated, m_law_seated, k_law_seated, b_law_seated⟩ := C_law_seated
  obtain ⟨f_law_mixed, d_law_mixed, G_law_mixed, m_law_mixed, k_law_mixed, b_law_mixed⟩ := C_law_mixed
  obtain ⟨f_law_thin, d_law_thin, G_law_thin, m_law_thin, k_law_thin, b_law_thin⟩ := C_law_thin
  obtain ⟨f_law_new, d_law_new, G_law_new, m_law_new, k_law_new, b_law_new⟩ := C_law_new
  refine ⟨f, fd, F.ok sc__law_plan (fun vs H Q E h => len_RL h fun ds Po hs => ?_) (fun cdv A outer s H vs Q E hr h => ?_), m, F.kp, b⟩
  · iterate 3 (obtain ⟨_, hs⟩ := hs)
    rw [hs.1]; rfl
  refine ⟨_, (pss_cons (ps_set (i := 4) sc__law_plan.nd rfl (by first | exact Or.inl rfl | exact Or.inr rfl) (pe_lst pa_nil))
      (pss_cons (ps_for PassesOwn.never rfl (pi_range1 rfl B.range (pa_cons (pe_call G_law_taken (hr.mono (by decide)) rfl m_law_taken k_law_taken b_law_taken .nil pass0 (pa_cons (pv 0) (pa_cons (pe_op op_add (pv 3) pe_int) pa_nil))) pa_nil)) (pg_name (i := 5) sc__law_plan.nd rfl (by first | exact Or.inl rfl | exact Or.inr rfl))
        (pss_cons (ps_for PassesOwn.never rfl (pi_range1 rfl B.range (pa_cons pe_int pa_nil)) (pg_name (i := 6) sc__law_plan.nd rfl (by first | exact Or.inl rfl | exact Or.inr rfl))
        (pss_cons (ps_set (i := 7) sc__law_plan.nd rfl (by first | exact Or.inl rfl | exact Or.inr rfl) (pe_call G_law_seated (hr.mono (by decide)) rfl m_law_seated k_law_seated b_law_seated .nil pass0 (pa_cons (pe_call G_law_mixed (hr.mono (by decide)) rfl m_law_mixed k_law_mixed b_law_mixed .nil pass0 (pa_cons (pv 0) (pa_cons (pe_listRg rfl (by rfl) B.list (prg_1 (by rfl) B.range (pv 1))) pa_nil))) (pa_cons (pv 2) pa_nil))))
      (pss_cons (ps_if (pt_cmpR op_eq (pe_call G_law_taken (hr.mono (by decide)) rfl m_law_taken k_law_taken b_law_taken .nil pass0 (pa_cons (pv 0) (pa_cons pe_int pa_nil))) pe_int (nomark _)) (pss_one (ps_set (i := 7) sc__law_plan.nd rfl (by first | exact Or.inl rfl | exact Or.inr rfl) (pe_call G_law_thin (hr.mono (by decide)) rfl m_law_thin k_law_thin b_law_thin .nil pass0 (pa_cons (pv 0) (pa_cons (pv 7) pa_nil))))) pss_nil)
      (pss_one (ps_if (PW.pt (pw_and (pt_cmpR op_eq (pe_callB (cr_lenK K) (by rfl) B.len PySem.boot_len (pa_cons (pv 4) pa_nil)) (pv 5) (nomark _)) (pw_and1 (pt_val (pe_call G_law_new (hr.mono (by decide)) rfl m_law_new k_law_new b_law_new .nil pass0 (pa_cons (pv 7) (pa_cons (pv 4) pa_nil))))))) (pss_one (ps_expr (pe_bmK K PySem.F.plainAttrs_list PySem.F.slot_list_append PySem.F.type_list_append mt_append (pv 4) (pa_cons (pv 7) pa_nil)))) pss_nil)))))
      (pss_one (ps_if (pt_cmpR op_eq (pe_callB (cr_lenK K) (by rfl) B.len PySem.boot_len (pa_cons (pv 4) pa_nil)) (pv 5) (nomark _)) (pss_one (ps_ret (pv 4))) pss_nil))))
      (pss_one (ps_ret (pv 4))))), run_RL (Z := ⟨K, C⟩) h fun ds Po hs => ?_⟩
  obtain ⟨g, s', mo, rfl, hg, m0, m1, h⟩ := hs
  have hg' := hg
  obtain ⟨hs2, hs8, hg2, hg64, _⟩ := hg'
  walk_at "d0"
  walk_at "d"
  refine ⟨by omega, by omega, fun n n0 n1 => ?_⟩
  walk_at "d"
  refine ⟨by omega, by omega, ?_⟩
  refine forR_inv [5, 6, 7] (fun i ρ' => ∃ p : List (List (List Int)), ρ' = [.row, .v (.int g), .v (.int s'), .v (.int mo), .l (p.map tT), .un, .un, .un] ∧ p.length = i ∧ Good g s' p) ⟨[], rfl, rfl, .nil _ _⟩ (fun i ρ' hi hI => ?_) (fun ρ' hI => ?_)
  · obtain ⟨p, rfl, pl, gp⟩ := hI
    walk_at "d"
    refine ⟨by decide, by decide, ?_⟩
    refine forR_inv [6, 7] (fun j ρ' => ∃ p : List (List (List Int)), ρ' = [.row, .v (.int g), .v (.int s'), .v (.int mo), .l (p.map tT), .v (.int (0 + (i : Int))), .un, .un] ∧ (p.length = i ∨ p.length = i + 1) ∧ Good g s' p) ⟨p, rfl, .inl pl, gp⟩ (fun j ρ' hj hJ => ?_) (fun ρ' hJ => ?_)
    · obtain ⟨p, rfl, pl, gp⟩ := hJ
      walk_at "d"
      refine ⟨by omega, by omega, ?_⟩
      walk_at "d"
      refine ⟨shp_map kd_int (by decide) _, by rw [List.length_map, len_rg]; omega, fun es hes => ?_⟩
      obtain ⟨ys, rfl, hys⟩ := perm_of_map hes
      have hyl := hys.length_eq
      rw [len_rg] at hyl
      walk_at "d"
      refine ⟨ys, s', (g / s').toNat, rfl, by omega, by omega, by rw [hyl, goodP_mul hg], by omega, ?_⟩
      have r0 := seat_rnd hg hys
      refine wc_cut (fun ρ' => ∃ r, isRnd g s' r = true ∧ ρ' = [.row, .v (.int g), .v (.int s'), .v (.int mo), .l (p.map tT), .v (.int (0 + (i : Int))), .v (.int (0 + (j : Int))), .v (tT r)]) ?_ fun ρ' hM => ?_
      · walk_at "d"
        refine ⟨by decide, by decide, fun v v0 v1 => ?_⟩
        walk_at "d"
        refine ⟨fun c => ?_, fun c => ?_⟩
        · walk_at "d"
          refine ⟨rnd_sml hg r0, fun ts hts => ⟨_, thin_rnd r0 hts, rfl⟩⟩
        · exact wc_next ⟨_, r0, rfl⟩
      · obtain ⟨r, hr, rfl⟩ := hM
        walk_at "d"
        refine ⟨fun c => ?_, fun c => ?_⟩
        · simp only [decide_eq_true_eq, List.length_map] at c
          refine wt_val (wb_we (we_callb ?_))
          walk_at "d"
          refine ⟨rnd_sml hg hr, gp.sml hg (by omega), rfl, _, rfl, ?_⟩
          refine ⟨fun c2 => ?_, fun c2 => ?_⟩
          · walk_at "d"
            simp only [decide_eq_true_eq] at c2
            refine ⟨by rw [List.length_map]; exact Nat.lt_of_le_of_lt (m := 99) (by omega) (by decide), p ++ [r], ?_, by rw [List.length_append]; simp; omega, gp.snoc hr c2⟩
            simp only [wipeE]
            walk_at "dn"
            rw [List.map_append]
            rfl
          · exact wc_next ⟨p, rfl, pl, gp⟩
        · walk_at "d"
          exact ⟨pl, gp⟩
    · obtain ⟨p, rfl, pl, gp⟩ := hJ
      walk_at "d"
      refine ⟨fun c => ?_, fun c => ?_⟩
      · simp only [decide_eq_true_eq, List.length_map] at c
        walk_at "d"
        exact h p gp (by omega)
      · simp only [decide_eq_false_iff_not, List.length_map] at c
        refine wc_next ⟨p, rfl, by omega, gp⟩
  · obtain ⟨p, rfl, pl, gp⟩ := hI
    walk_at "d"
    exact h p gp (by omega)
abbrev s__law_alike : Stmt := topS 45
theorem sc__law_alike : FnScope ["_law_found", "_law_due", "_law_k"] ["_law_found", "_law_due"] (defScope s__law_alike) := ⟨rfl, rfl, rfl, by decide +kernel, rfl, by decide +kernel, by decide +kernel⟩
theorem al_none {f : Addr} {fd : FuncData} : FnOk P w K mg base CX0 0 f fd ["_law_found", "_law_due"] (SpV ⟨K, C⟩ (sp_al 0)) := by
  have no : ∀ vs H Q E, ¬ SpV ⟨K, C⟩ (sp_al 0) vs H Q E := fun vs H Q E h => by
    obtain ⟨_, _, _, _, _, ⟨d, _, h, _⟩, _⟩ := h
    exact h
  exact ⟨fun vs H Q E h => absurd h (no vs H Q E), fun A outer s H args us vs Q E _ _ _ _ h => absurd h (no vs H Q E)⟩
theorem al_step {f_law_alike : Addr} {d_law_alike : FuncData} {n : Nat} (F : Fun K "_law_alike" "_law_alike" s__law_alike f_law_alike d_law_alike) (m_law_alike : mg "_law_alike" = some (.ref f_law_alike)) (b_law_alike : Binds K d_law_alike ["_law_found", "_law_due"] []) (B : Blt mg)
    (G_law_alike : FnOk P w K mg base CX0 n f_law_alike d_law_alike ["_law_found", "_law_due"] (SpV ⟨K, C⟩ (sp_al n))) : FnOk P w K mg base CX0 (n + 1) f_law_alike d_law_alike ["_law_found", "_law_due"] (SpV ⟨K, C⟩ (sp_al (n + 1))) := by
  have k_law_alike := F.kp
  have hn : n ≤ n := Nat.le_refl n
  refine F.ok sc__law_alike (fun vs H Q E h => len_V h fun ds Po hs => ?_) (fun cdv A outer s H vs Q E hr h => ?_)
  · have k_law_alike := F.kp
    iterate 1 (obtain ⟨_, hs⟩ := hs)
    rw [hs.1]; rfl
  refine ⟨_, (pss_cons (ps_if (PW.pt (pw_or (pt_val (pe_callB (cr_isiK K) (by rfl) B.isinstance (by decide +kernel) (pa_cons (pv 1) (pa_cons (pe_bltn rfl B.tuple (by decide +kernel) (v := .ty "tuple") (u := .type "tuple") rfl) pa_nil)))) (pw_or1 (pt_val (pe_callB (cr_isiK K) (by rfl) B.isinstance (by decide +kernel) (pa_cons (pv 1) (pa_cons (pe_bltn rfl B.list (by decide +kernel) (v := .ty "list") (u := .type "list") rfl) pa_nil))))))) (pss_cons (ps_if (PW.pt (pw_or (pt_cmpR op_ne (pe_callB (cr_isiK K) (by rfl) B.isinstance (by decide +kernel) (pa_cons (pv 0) (pa_cons (pe_bltn rfl B.tuple (by decide +kernel) (v := .ty "tuple") (u := .type "tuple") rfl) pa_nil))) (pe_callB (cr_isiK K) (by rfl) B.isinstance (by decide +kernel) (pa_cons (pv 1) (pa_cons (pe_bltn rfl B.tuple (by decide +kernel) (v := .ty "tuple") (u := .type "tuple") rfl) pa_nil))) (nomark _)) (pw_or1 (pt_not (pt_val (pe_callB (cr_isiTK K) (by rfl) B.isinstance (by decide +kernel) (pa_cons (pv 0) (pa_cons (pe_tup (pa_cons (pe_bltn rfl B.tuple (by decide +kernel) (v := .ty "tuple") (u := .type "tuple") rfl) (pa_cons (pe_bltn rfl B.list (by decide +kernel) (v := .ty "list") (u := .type "list") rfl) pa_nil))) pa_nil)))))))) (pss_one (ps_ret pe_bl)) pss_nil)
      (pss_cons (ps_if (pt_cmpR op_ne (pe_callB (cr_lenK K) (by rfl) B.len PySem.boot_len (pa_cons (pv 0) pa_nil)) (pe_callB (cr_lenK K) (by rfl) B.len PySem.boot_len (pa_cons (pv 1) pa_nil)) (nomark _)) (pss_one (ps_ret pe_bl)) pss_nil)
      (pss_one (ps_ret (pe_cmpR (op_eqK K hr.units) (pe_lc (own := [("_law_k", 2)]) (g := gName 2) rfl sc__law_alike.nd (pi_range1 rfl B.range (pa_cons (pe_callB (cr_lenK K) (by rfl) B.len PySem.boot_len (pa_cons (pv 1) pa_nil)) pa_nil)) (blkOk_by (own := [("_law_k", 2)]) (N := ["_law_found", "_law_due", "_law_k"]) (sc := defScope s__law_alike) (by decide +kernel)) (fun _ _ _ _ _ => pg_name (i := 2) sc__law_alike.nd rfl (by first | exact Or.inl rfl | exact Or.inr rfl)) (fun _ _ _ _ _ => (pts_one (pt_not (pt_val (pe_call G_law_alike (hr.mono (by omega)) rfl m_law_alike k_law_alike b_law_alike .nil pass0 (pa_cons (pe_ix (ix_seqK K) (pv 0) (pv 2) (fun _ _ => rfl)) (pa_cons (pe_ix (ix_seqK K) (pv 1) (pv 2) (fun _ _ => rfl)) pa_nil))))))) (fun _ _ _ _ _ => (pv 2))) (pe_lst pa_nil) (nomark _)))))) pss_nil)
      (pss_cons (ps_if (PW.pt (pw_or (pt_cmpR op_isN (pv 1) pe_non (nomark _)) (pw_or1 (pt_cmpR op_isN (pv 0) pe_non (nomark _))))) (pss_one (ps_ret (pe_and (pe_cmpR op_isN (pv 1) pe_non (nomark _)) (pe_one (pe_cmpR op_isN (pv 0) pe_non (nomark _)))))) pss_nil)
      (pss_cons (ps_if (PW.pt (pw_or (pt_val (pe_callB (cr_isiK K) (by rfl) B.isinstance (by decide +kernel) (pa_cons (pv 1) (pa_cons (pe_bltn rfl B.bool (by decide +kernel) (v := .ty "bool") (u := .type "bool") rfl) pa_nil)))) (pw_or1 (pt_val (pe_callB (cr_isiK K) (by rfl) B.isinstance (by decide +kernel) (pa_cons (pv 0) (pa_cons (pe_bltn rfl B.bool (by decide +kernel) (v := .ty "bool") (u := .type "bool") rfl) pa_nil))))))) (pss_one (ps_ret (pe_and (pe_callB (cr_isiK K) (by rfl) B.isinstance (by decide +kernel) (pa_cons (pv 1) (pa_cons (pe_bltn rfl B.bool (by decide +kernel) (v := .ty "bool") (u := .type "bool") rfl) pa_nil))) (pe_and (pe_callB (cr_isiK K) (by rfl) B.isinstance (by decide +kernel) (pa_cons (pv 0) (pa_cons (pe_bltn rfl B.bool (by decide +kernel) (v := .ty "bool") (u := .type "bool") rfl) pa_nil))) (pe_one (pe_cmpR op_eq (pv 0) (pv 1) (nomark _))))))) pss_nil)
      (pss_cons (ps_if (pt_val (pe_callB (cr_isiK K) (by rfl) B.isinstance (by decide +kernel) (pa_cons (pv 1) (pa_cons (pe_bltn rfl B.str (by decide +kernel) (v := .ty "str") (u := .type "str") rfl) pa_nil)))) (pss_one (ps_ret (pe_and (pe_callB (cr_isiK K) (by rfl) B.isinstance (by decide +kernel) (pa_cons (pv 0) (pa_cons (pe_bltn rfl B.str (by decide +kernel) (v := .ty "str") (u := .type "str") rfl) pa_nil))) (pe_one (pe_cmpR op_eq (pv 0) (pv 1) (nomark _)))))) pss_nil)
      (pss_one (ps_ret (pe_and (pe_callB (cr_isiK K) (by rfl) B.isinstance (by decide +kernel) (pa_cons (pv 0) (pa_cons (pe_bltn rfl B.int (by decide +kernel) (v := .ty "int") (u := .type "int") rfl) pa_nil))) (pe_one (pe_cmpR op_eq (pv 0) (pv 1) (nomark _)))))))))), run_V (Z := ⟨K, C⟩) h fun ds Po hs => ?_⟩
  obtain ⟨d, rfl, hd, q⟩ := hs
  walk_at "d0"
  have seq : ∀ (t : Bool) (ds : List D), ds.length ≤ 16777216 → (∀ x ∈ ds, plN n x) → True := fun _ _ _ _ => trivial
  cases d with
  | non =>
    walk_at "d"
    refine wc_ret ?_
    walk_at "d"
    exact q
  | bl b =>
    walk_at "d"
    refine wc_ret ?_
    walk_at "d"
    refine od_eqB ?_
    rw [decide_eq_true rfl]
    exact q
  | int b =>
    walk_at "d"
    refine wc_ret ?_
    walk_at "d"
    rw [decide_eq_true rfl]
    exact q
  | str b =>
    walk_at "d"
    refine wc_ret ?_
    walk_at "d"
    rw [decide_eq_true rfl]
    exact q
  | tup ds =>
    obtain ⟨dl, dn⟩ := hd
    walk_at "d"
    refine od_neB ?_
    rw [decide_eq_true rfl]
    walk_at "d"
    rw [decide_eq_true rfl]
    walk_at "d"
    refine wc_ret ?_
    walk_at "d"
    refine ⟨by omega, by omega, ?_⟩
    refine lcR_e (fun _ => false) (fun i => .int (i : Int)) (fun i hi Q' q' => ?_) (fun i hi z => nomatch z) ?_
    · simp only [wipeE]
      have hi' : i < ds.length := by simpa using hi
      have ea : atI ds (0 + (i : Int) * 1) = some ds[i] := by
        rw [show 0 + (i : Int) * 1 = (i : Int) by omega]
        exact atI_nat (List.getElem?_eq_getElem hi')
      walk_at "d"
      refine od_ixXt ea ?_
      walk_at "d"
      refine od_ixXt ea ?_
      walk_at "d"
      refine ⟨dn _ (List.getElem_mem hi'), ?_⟩
      walk_at "d"
      exact q'
    · walk_at "d"
      refine od_eqE kd_int (by decide) (fun i : Nat => (i : Int)) ?_
      rw [List.filter_eq_nil_iff.mpr fun _ _ => by decide]
      exact q
  | lst ds =>
    obtain ⟨dl, dn⟩ := hd
    walk_at "d"
    refine od_neB ?_
    rw [decide_eq_true rfl]
    walk_at "d"
    rw [decide_eq_true rfl]
    walk_at "d"
    refine wc_ret ?_
    walk_at "d"
    refine ⟨by omega, by omega, ?_⟩
    refine lcR_e (fun _ => false) (fun i => .int (i : Int)) (fun i hi Q' q' => ?_) (fun i hi z => nomatch z) ?_
    · simp only [wipeE]
      have hi' : i < ds.length := by simpa using hi
      have ea : atI ds (0 + (i : Int) * 1) = some ds[i] := by
        rw [show 0 + (i : Int) * 1 = (i : Int) by omega]
        exact atI_nat (List.getElem?_eq_getElem hi')
      walk_at "d"
      refine od_ixXl ea ?_
      walk_at "d"
      refine od_ixXl ea ?_
      walk_at "d"
      refine ⟨dn _ (List.getElem_mem hi'), ?_⟩
      walk_at "d"
      exact q'
    · walk_at "d"
      refine od_eqE kd_int (by decide) (fun i : Nat => (i : Int)) ?_
      rw [List.filter_eq_nil_iff.mpr fun _ _ => by decide]
      exact q
  | _ => exact False.elim hd
theorem al_all {f : Addr} {fd : FuncData} (F : Fun K "_law_alike" "_law_alike" s__law_alike f fd) (m : mg "_law_alike" = some (.ref f)) (b : Binds K fd ["_law_found", "_law_due"] []) (B : Blt mg) : ∀ n : Nat, FnOk P w K mg base CX0 n f fd ["_law_found", "_law_due"] (SpV ⟨K, C⟩ (sp_al n))
  | 0 => al_none
  | n + 1 => al_step F m b B (al_all F m b B n)
theorem ok__law_alike (Df : Dfn K mg "_law_alike" s__law_alike ["_law_found", "_law_due"]) (B : Blt mg) (T : Tx K mg C) : Cal P w K mg base "_law_alike" 8 ["_law_found", "_law_due"] (SpV ⟨K, C⟩ (sp_al 8)) := by
  obtain ⟨f, fd, F, m, b⟩ := Df
  exact ⟨f, fd, al_all F m b B 8, m, F.kp, b⟩
abbrev s__law_works : Stmt := topS 55
theorem sc__law_works : FnScope ["_law_party", "_law_plan_here", "_law_found"] ["_law_party", "_law_plan_here"] (defScope s__law_works) := ⟨rfl, rfl, rfl, by decide +kernel, rfl, by decide +kernel, by decide +kernel⟩
def lam0 : LamY.Lm3 := (⟨[], [], none, [], [], none, []⟩, .Name "" ⟨0, 0, 0, 0⟩, { kind := .function, names := [], isGenerator := false, isCoroutine := false })
def lamOfE : Expr → LamY.Lm3
  | .Lambda p b s _ => (p, b, s)
  | _ => lam0
def lamOfS : Stmt → LamY.Lm3
  | .Assign _ (.List (e :: _) _) _ => lamOfE e
  | .Expr (.Call _ (e :: _) _ _) _ => lamOfE e
  | _ => lam0
def wkLam (i : Nat) : LamY.Lm3 := lamOfS ((defBody s__law_works).getD i (.Pass ⟨0, 0, 0, 0⟩))
abbrev qW : Str := (envOfC "_law_works" (defScope s__law_works) 0 0 .none).qual ++ "<lambda>"
abbrev y1W : Str := "_law_party"
abbrev y2W : Str := "_law_plan_here"
theorem wk_scope : ∀ i, i < 10 → NdefX.NScope [y1W, y2W] [] [y1W, y2W] (wkLam i).2.2 := fun i hi => NdefX.nscope_by (by
  have : ∀ i : Fin 10, NdefX.nscB [y1W, y2W] [] [y1W, y2W] (wkLam i.val).2.2 = true := by decide +kernel
  exact this ⟨i, hi⟩)
def SpWorks (TL : List (Addr × Str)) : Sp := fun vs H Q _ => ∃ v1 v2 : V, vs = [v1, v2] ∧ LamX.Tabs TL H ∧ ∀ (l : Addr) (H2 : Hp), LamX.ExtN H H2 → LamX.Tabs TL H2 → H l = none →
  (∃ fs : List Addr, H2 l = some (.lst (fs.map V.ref)) ∧ fs.length = 10 ∧ ∀ i f, fs[i]? = some f → ∃ cl c' c1 c2, LamY.CloB qW (wkLam i) y1W y2W H2 f cl c' c1 c2 v1 v2) → Q (.ref l) H2
theorem ok_works {f cW PW : Addr} {oc : Value} {od an : Option Addr} {sl : Array (Option Value)} {kV dc pm ct : Value} {TL : List (Addr × Str)} (lk : K.lookup f = some ⟨oc, od, .func (PySem.W.fnOf "_law_works" "_law_works" (defArgs s__law_works) (defBody s__law_works) (defScope s__law_works) .none kV dc pm an (.ref cW) ct), sl⟩) (hcd : PySem.W.codeIn K (.ref cW) "_law_works" = true)
    (TB : LamX.TabB base mg cW PW) (hm : (PW, qW) ∈ TL) (hu : ∀ p ∈ TL, p.1 = PW → p.2 = qW) : FnOk P w K mg base CX0 1 f (PySem.W.fnOf "_law_works" "_law_works" (defArgs s__law_works) (defBody s__law_works) (defScope s__law_works) .none kV dc pm an (.ref cW) ct) ["_law_party", "_law_plan_here"] (SpWorks TL) := by
  refine LamY.fn_ofC lk hcd sc__law_works (fun vs H Q E h => by obtain ⟨v1, v2, rfl, _⟩ := h; rfl) (y1 := y1W) (y2 := y2W) rfl rfl (by rfl) (by rfl) (by decide) (fun A outer s H vs Q E hr h => ?_)
  obtain ⟨v1, v2, rfl, hT, q⟩ := h
  refine ⟨_, fun l σ H' => σ = [some v1, some v2, some (.ref l)] ∧ LamY.WkS TL qW wkLam (cellsFrom (s.heap.objs.size + 1) (defScope s__law_works).names []) H 10 l H', by
    open LamY in exact (pssr_cons (ps_set (i := 2) sc__law_works.nd rfl (by first | exact Or.inl rfl | exact Or.inr rfl) (pe_lst (pa_cons (pe_lamV (T := TL) TB rfl hm hu rfl (LamX.lamS_by (sc := defScope s__law_works) (by decide +kernel))) pa_nil)))
    (pssr_cons (ps_expr (pe_bmK K PySem.F.plainAttrs_list PySem.F.slot_list_append PySem.F.type_list_append mt_append (pv 2) (pa_cons (pe_lamV (T := TL) TB rfl hm hu rfl (LamX.lamS_by (sc := defScope s__law_works) (by decide +kernel))) pa_nil)))
    (pssr_cons (ps_expr (pe_bmK K PySem.F.plainAttrs_list PySem.F.slot_list_append PySem.F.type_list_append mt_append (pv 2) (pa_cons (pe_lamV (T := TL) TB rfl hm hu rfl (LamX.lamS_by (sc := defScope s__law_works) (by decide +kernel))) pa_nil)))
    (pssr_cons (ps_expr (pe_bmK K PySem.F.plainAttrs_list PySem.F.slot_list_append PySem.F.type_list_append mt_append (pv 2) (pa_cons (pe_lamV (T := TL) TB rfl hm hu rfl (LamX.lamS_by (sc := defScope s__law_works) (by decide +kernel))) pa_nil)))
    (pssr_cons (ps_expr (pe_bmK K PySem.F.plainAttrs_list PySem.F.slot_list_append PySem.F.type_list_append mt_append (pv 2) (pa_cons (pe_lamV (T := TL) TB rfl hm hu rfl (LamX.lamS_by (sc := defScope s__law_works) (by decide +kernel))) pa_nil)))
    (pssr_cons (ps_expr (pe_bmK K PySem.F.plainAttrs_list PySem.F.slot_list_append PySem.F.type_list_append mt_append (pv 2) (pa_cons (pe_lamV (T := TL) TB rfl hm hu rfl (LamX.lamS_by (sc := defScope s__law_works) (by decide +kernel))) pa_nil)))
    (pssr_cons (ps_expr (pe_bmK K PySem.F.plainAttrs_list PySem.F.slot_list_append PySem.F.type_list_append mt_append (pv 2) (pa_cons (pe_lamV (T := TL) TB rfl hm hu rfl (LamX.lamS_by (sc := defScope s__law_works) (by decide +kernel))) pa_nil)))
    (pssr_cons (ps_expr (pe_bmK K PySem.F.plainAttrs_list PySem.F.slot_list_append PySem.F.type_list_append mt_append (pv 2) (pa_cons (pe_lamV (T := TL) TB rfl hm hu rfl (LamX.lamS_by (sc := defScope s__law_works) (by decide +kernel))) pa_nil)))
    (pssr_cons (ps_expr (pe_bmK K PySem.F.plainAttrs_list PySem.F.slot_list_append PySem.F.type_list_append mt_append (pv 2) (pa_cons (pe_lamV (T := TL) TB rfl hm hu rfl (LamX.lamS_by (sc := defScope s__law_works) (by decide +kernel))) pa_nil)))
    (pssr_cons (ps_expr (pe_bmK K PySem.F.plainAttrs_list PySem.F.slot_list_append PySem.F.type_list_append mt_append (pv 2) (pa_cons (pe_lamV (T := TL) TB rfl hm hu rfl (LamX.lamS_by (sc := defScope s__law_works) (by decide +kernel))) pa_nil)))
    (pssr_ret (pv 2)))))))))))), ?_, ?_⟩
  · refine LamY.wks_first (q := qW) (Λ := wkLam) (cells := cellsFrom (s.heap.objs.size + 1) (defScope s__law_works).names []) hT fun l H1 S1 => ?_
    refine LamY.wks_next S1 (by decide) fun H2 S2 => ?_
    refine LamY.wks_next S2 (by decide) fun H3 S3 => ?_
    refine LamY.wks_next S3 (by decide) fun H4 S4 => ?_
    refine LamY.wks_next S4 (by decide) fun H5 S5 => ?_
    refine LamY.wks_next S5 (by decide) fun H6 S6 => ?_
    refine LamY.wks_next S6 (by decide) fun H7 S7 => ?_
    refine LamY.wks_next S7 (by decide) fun H8 S8 => ?_
    refine LamY.wks_next S8 (by decide) fun H9 S9 => ?_
    refine LamY.wks_next S9 (by decide) fun H10 S10 => ?_
    exact ⟨l, rfl, rfl, S10⟩
  · rintro l σ' H' c1 c2 ⟨rfl, S⟩ l1 l2 ne n1 n2
    obtain ⟨e, t, fs⟩ := LamY.wks_end (v1 := v1) (v2 := v2) S l1 l2 ne n1 n2 wk_scope
    exact ⟨v1, v2, rfl, rfl, q l _ e t S.nl fs⟩
abbrev s__law_word : Stmt := topS 54
theorem sc__law_word : FnScope ["_law_work", "e", "_law_kinds"] ["_law_work"] (defScope s__law_word) := ⟨rfl, rfl, rfl, by decide +kernel, rfl, by decide +kernel, by decide +kernel⟩
def bodyW (K : PySem.W.Frag) (cPartyError cBadParty cBadRound cBadText cBadTurning : Addr) (tc : WX → TE) : TS :=
    (tSeq
      (tTryA K (Value.ref cPartyError) 1
        (fun a cls d =>
          tSeq
            (tAsg
              (tLst
                (tCons (tCB (rIsX K a cls d) (tCons (tVar 1) (tCons (tC (V.ref cBadParty)) tNil)))
                  (tCons (tCB (rIsX K a cls d) (tCons (tVar 1) (tCons (tC (V.ref cBadRound)) tNil)))
                    (tCons (tCB (rIsX K a cls d) (tCons (tVar 1) (tCons (tC (V.ref cBadText)) tNil)))
                      (tCons (tCB (rIsX K a cls d) (tCons (tVar 1) (tCons (tC (V.ref cBadTurning)) tNil))) tNil)))))
              (gName 2))
            (tSeq
              (tIfS
                (tOr (tNot (tB (tCB (rIsX K a cls d) (tCons (tVar 1) (tCons (tC (V.ty "ValueError")) tNil)))))
                  (tTest (tOp rNe (tBM K "list" (rCntV K) (tVar 2) (tCons (tC (V.bl true)) tNil)) (tC (V.int 1)))))
                (tRet (tC V.non)) tNext)
              (tRet
                (tIf (tB (tOp (rIxL K) (tVar 2) (tC (V.int 0)))) (tC (V.str (Str.ofString "party")))
                  (tXf a cls d cBadRound (Str.ofString "number") (tVar 1))))))
        (fun x x_1 x_2 x_3 => False) fun W => tDrop (tc W))
      (tRet (tC (V.str (Str.ofString "")))))
theorem word_pss {f : Addr} {cdv : Value} {A : Around} {outer : List Env} {s : Shared} {H : Hp} {E : XK} {tc : WX → TE} (B : Blt mg) (GN_PartyError : mg "PartyError" = some (.ref cPartyError)) (GN_BadParty : mg "BadParty" = some (.ref cBadParty)) (GN_BadRound : mg "BadRound" = some (.ref cBadRound)) (GN_BadText : mg "BadText" = some (.ref cBadText)) (GN_BadTurning : mg "BadTurning" = some (.ref cBadTurning)) (BN_ValueError : mg "ValueError" = none) (EN_BadRound : En1 P w K mg base "BadRound" cBadRound "number")
    (hcall : ∀ (W : WX) (pn : List (Addr × Obj)) (xe : Value → Shared → Prop) (p1 p2 : Pos), Takes ((cxOf CX0 P w K mg base ["_law_work", "e", "_law_kinds"] "_law_word" (defScope s__law_word) f cdv A outer s H E).nox.tr pn xe) W → PE ((cxOf CX0 P w K mg base ["_law_work", "e", "_law_kinds"] "_law_word" (defScope s__law_word) f cdv A outer s H E).nox.tr pn xe) (.Call (.Name "_law_work" p1) [] [] p2) (tc W)) :
    PSs (cxOf CX0 P w K mg base ["_law_work", "e", "_law_kinds"] "_law_word" (defScope s__law_word) f cdv A outer s H E).nox (defBody s__law_word) (bodyW K cPartyError cBadParty cBadRound cBadText cBadTurning tc) := (pss_cons (ps_tryA K (i := 1) rfl rfl sc__law_word.nd rfl rfl ⟨rfl, by decide, .inl GN_PartyError⟩ takes0 (fun W pn xe tk _ => (pss_one (ps_expr (hcall W pn xe _ _ tk)))) (fun a oe cls d pn hz hf => (pss_cons (ps_set (i := 2) sc__law_word.nd rfl (by first | exact Or.inl rfl | exact Or.inr rfl) (pe_lst (pa_cons (pe_callB (call_isX K hz hf) (by rfl) B.isinstance (by decide +kernel) (pa_cons (pv 1) (pa_cons (pe_gcD (v := .ref cBadParty) rfl ⟨_, GN_BadParty, rfl⟩) pa_nil))) (pa_cons (pe_callB (call_isX K hz hf) (by rfl) B.isinstance (by decide +kernel) (pa_cons (pv 1) (pa_cons (pe_gcD (v := .ref cBadRound) rfl ⟨_, GN_BadRound, rfl⟩) pa_nil))) (pa_cons (pe_callB (call_isX K hz hf) (by rfl) B.isinstance (by decide +kernel) (pa_cons (pv 1) (pa_cons (pe_gcD (v := .ref cBadText) rfl ⟨_, GN_BadText, rfl⟩) pa_nil))) (pa_cons (pe_callB (call_isX K hz hf) (by rfl) B.isinstance (by decide +kernel) (pa_cons (pv 1) (pa_cons (pe_gcD (v := .ref cBadTurning) rfl ⟨_, GN_BadTurning, rfl⟩) pa_nil))) pa_nil))))))
      (pss_cons (ps_if (PW.pt (pw_or (pt_not (pt_val (pe_callB (call_isX K hz hf) (by rfl) B.isinstance (by decide +kernel) (pa_cons (pv 1) (pa_cons (pe_bltn rfl BN_ValueError (by decide +kernel) (v := .ty "ValueError") (u := .type "ValueError") rfl) pa_nil))))) (pw_or1 (pt_cmpR op_ne (pe_bmK K PySem.F.plainAttrs_list PySem.F.slot_list_count PySem.F.type_list_count (mt_cntV K) (pv 2) (pa_cons pe_bl pa_nil)) pe_int (nomark _))))) (pss_one (ps_ret pe_non)) pss_nil)
      (pss_one (ps_ret (pe_ifExp (pt_val (pe_ix (ix_listK K) (pv 2) pe_int (fun _ _ => rfl))) pe_str (pe_xf EN_BadRound.xf EN_BadRound.no hz hf (pv 1)))))))))
      (pss_one (ps_ret pe_str)))
abbrev poW (Po : D → Prop) : DL.Po := { nx := fun _ => Po .non, rt := Po, rl := fun es => Po (.lst es), rd := fun k => Po (.dt k) }
theorem word_num (XM_BadRound_PartyError : PySem.W.exmOne K (.ref cBadRound) (.ref cPartyError) = some true) (XM_BadParty_PartyError : PySem.W.exmOne K (.ref cBadParty) (.ref cPartyError) = some true) (XC_BadRound : ExcC K cBadRound) (XC_BadParty : ExcC K cBadParty) (KT_BadRound_BadParty : PySem.W.kitOne K (.ref cBadRound) (.ref cBadParty) = some false) (KT_BadRound_BadRound : PySem.W.kitOne K (.ref cBadRound) (.ref cBadRound) = some true) (KT_BadRound_BadText : PySem.W.kitOne K (.ref cBadRound) (.ref cBadText) = some false) (KT_BadRound_BadTurning : PySem.W.kitOne K (.ref cBadRound) (.ref cBadTurning) = some false) (KT_BadParty_BadParty : PySem.W.kitOne K (.ref cBadParty) (.ref cBadParty) = some true) (KT_BadParty_BadRound : PySem.W.kitOne K (.ref cBadParty) (.ref cBadRound) = some false) (KT_BadParty_BadText : PySem.W.kitOne K (.ref cBadParty) (.ref cBadText) = some false) (KT_BadParty_BadTurning : PySem.W.kitOne K (.ref cBadParty) (.ref cBadTurning) = some false) (KV_BadRound : PySem.W.kitOne K (.ref cBadRound) (.type "ValueError") = some true) (KV_BadParty : PySem.W.kitOne K (.ref cBadParty) (.type "ValueError") = some true) {d : D} {n : Int} {Po : D → Prop} {tc : WX → TE} (hx : ∀ W, Wre ⟨K, C⟩ W (tc W) [.v d, .un, .un] (.num cBadRound "number" n)) (h : Po (.int n)) : Wc ⟨K, C⟩ (bodyW K cPartyError cBadParty cBadRound cBadText cBadTurning tc) [.v d, .un, .un] (poW Po) := by
  unfold bodyW
  refine wc_seq (wc_tryAX (Px := fun ρ' => ρ' = [.v d, .un, .un]) XM_BadRound_PartyError (f := "number") (n := n) (fun W => ?_) fun a dd ρ' e => ?_)
  · exact wr_drop (hx W) rfl
  · subst e
    walk_at "d"
    refine ⟨[false, true, false, false], rfl, ?_⟩
    walk_at "d"
    rw [show ((([false, true, false, false] : List Bool).count true : Nat) : Int) = 1 from rfl, decide_eq_true rfl]
    walk_at "d"
    refine wc_ret ?_
    walk_at "d"
    refine od_ixL (d := .bl false) rfl ?_
    walk_at "d"
    exact h
theorem word_pl (XM_BadRound_PartyError : PySem.W.exmOne K (.ref cBadRound) (.ref cPartyError) = some true) (XM_BadParty_PartyError : PySem.W.exmOne K (.ref cBadParty) (.ref cPartyError) = some true) (XC_BadRound : ExcC K cBadRound) (XC_BadParty : ExcC K cBadParty) (KT_BadRound_BadParty : PySem.W.kitOne K (.ref cBadRound) (.ref cBadParty) = some false) (KT_BadRound_BadRound : PySem.W.kitOne K (.ref cBadRound) (.ref cBadRound) = some true) (KT_BadRound_BadText : PySem.W.kitOne K (.ref cBadRound) (.ref cBadText) = some false) (KT_BadRound_BadTurning : PySem.W.kitOne K (.ref cBadRound) (.ref cBadTurning) = some false) (KT_BadParty_BadParty : PySem.W.kitOne K (.ref cBadParty) (.ref cBadParty) = some true) (KT_BadParty_BadRound : PySem.W.kitOne K (.ref cBadParty) (.ref cBadRound) = some false) (KT_BadParty_BadText : PySem.W.kitOne K (.ref cBadParty) (.ref cBadText) = some false) (KT_BadParty_BadTurning : PySem.W.kitOne K (.ref cBadParty) (.ref cBadTurning) = some false) (KV_BadRound : PySem.W.kitOne K (.ref cBadRound) (.type "ValueError") = some true) (KV_BadParty : PySem.W.kitOne K (.ref cBadParty) (.type "ValueError") = some true) {d : D} {Po : D → Prop} {tc : WX → TE} (hx : ∀ W, Wre ⟨K, C⟩ W (tc W) [.v d, .un, .un] (.pl cBadParty)) (h : Po (.str (Str.ofString "party"))) : Wc ⟨K, C⟩ (bodyW K cPartyError cBadParty cBadRound cBadText cBadTurning tc) [.v d, .un, .un] (poW Po) := by
  unfold bodyW
  refine wc_seq (wc_tryAR (Px := fun ρ' => ρ' = [.v d, .un, .un]) XM_BadParty_PartyError (fun W => ?_) fun a ρ' e => ?_)
  · exact wr_drop (hx W) rfl
  · subst e
    walk_at "d"
    refine ⟨[true, false, false, false], rfl, ?_⟩
    walk_at "d"
    rw [show ((([true, false, false, false] : List Bool).count true : Nat) : Int) = 1 from rfl, decide_eq_true rfl]
    walk_at "d"
    refine wc_ret ?_
    walk_at "d"
    refine od_ixL (d := .bl true) rfl ?_
    walk_at "d"
    exact h
theorem word_ok {d : D} {Po : D → Prop} {tc : WX → TE} (hx : ∀ W (Q : D → Prop), (∀ d', Q d') → We ⟨K, C⟩ (tc W) [.v d, .un, .un] Q) (h : Po (.str (Str.ofString ""))) : Wc ⟨K, C⟩ (bodyW K cPartyError cBadParty cBadRound cBadText cBadTurning tc) [.v d, .un, .un] (poW Po) := by
  unfold bodyW
  refine wc_seq (wc_tryAN fun W => wc_drop (hx W _ fun d' => ?_))
  refine wc_ret ?_
  walk_at "d"
  exact h
def tbJ (K : PySem.W.Frag) (C cBadRound : Addr) (j : Nat) (E : XK) : TE := match j with
  | 0 => tCallS (SpE ⟨K, C⟩ (SpV ⟨K, C⟩ sp_met) (spx_met cBadRound)) (WE fun cls d _ H => E cls d H) (tCons (tVar 0) (tCons (tVar 1) tNil))
  | 1 => tCallS (SpE ⟨K, C⟩ (SpV ⟨K, C⟩ sp_unmet) (spx_unmet cBadRound)) (WE fun cls d _ H => E cls d H) (tCons (tVar 0) (tCons (tVar 1) tNil))
  | 2 => tCallS (SpE ⟨K, C⟩ (SpV ⟨K, C⟩ sp_next_rounds) (spx_next_rounds cBadRound)) (WE fun cls d _ H => E cls d H) (tCons (tVar 0) (tCons (tVar 1) tNil))
  | 3 => tCallS (SpE ⟨K, C⟩ (SpV ⟨K, C⟩ sp_bound) (spx_bound cBadRound)) (WE fun cls d _ H => E cls d H) (tCons (tVar 0) (tCons (tVar 1) tNil))
  | 4 => tCallS (SpE ⟨K, C⟩ (SpV ⟨K, C⟩ sp_longest) (spx_longest cBadRound)) (WE fun cls d _ H => E cls d H) (tCons (tVar 0) (tCons (tVar 1) tNil))
  | 5 => tCallS (SpE ⟨K, C⟩ (SpV ⟨K, C⟩ sp_hosts) (spx_hosts cBadRound)) (WE fun cls d _ H => E cls d H) (tCons (tVar 0) (tCons (tVar 1) tNil))
  | 6 => tCallS (SpE ⟨K, C⟩ (SpV ⟨K, C⟩ sp_comes) (spx_comes cBadRound)) (WE fun cls d _ H => E cls d H) (tCons (tVar 0) (tCons (tVar 1) (tCons (tC (.int 0)) tNil)))
  | 7 => tCallS (SpE ⟨K, C⟩ (SpV ⟨K, C⟩ sp_leaves) (spx_leaves cBadRound)) (WE fun cls d _ H => E cls d H) (tCons (tVar 0) (tCons (tVar 1) (tCons (tC (.int 0)) (tCons (tC (.int 0)) tNil))))
  | 8 => tCallS (SpE ⟨K, C⟩ (SpV ⟨K, C⟩ sp_alike) (spx_alike cBadRound)) (WE fun cls d _ H => E cls d H) (tCons (tVar 0) (tCons (tVar 1) (tCons (tLst tNil) tNil)))
  | _ => tCallS (SpE ⟨K, C⟩ (SpV ⟨K, C⟩ sp_alike) (spx_alike cBadRound)) (WE fun cls d _ H => E cls d H) (tCons (tVar 0) (tCons (tLst tNil) (tCons (tVar 1) tNil)))
theorem clo_j0 (Cmet : CalE P w K mg base "met" 5 ["party", "plan"] (SpE ⟨K, C⟩ (SpV ⟨K, C⟩ sp_met) (spx_met cBadRound))) : LamY.CloOk P w K mg base 13 (LamY.CloR qW (wkLam 0) y1W y2W (tbJ K C cBadRound 0)) := by
  obtain ⟨fmet, dmet, Gmet, mmet, kmet, bmet⟩ := Cmet
  exact LamY.clo_ok (k := 12) (by decide) (wk_scope 0 (by decide)) (fun _ _ _ _ _ => rfl) fun cl c' f A outer s H E hr => (pe_callS Gmet (hr.mono (by decide)) rfl mmet kmet bmet (fun σ => passAt (takes_of rfl rfl rfl rfl) σ) (pa_cons (pv 0) (pa_cons (pv 1) pa_nil)))
theorem clo_j1 (Cunmet : CalE P w K mg base "unmet" 5 ["party", "plan"] (SpE ⟨K, C⟩ (SpV ⟨K, C⟩ sp_unmet) (spx_unmet cBadRound))) : LamY.CloOk P w K mg base 13 (LamY.CloR qW (wkLam 1) y1W y2W (tbJ K C cBadRound 1)) := by
  obtain ⟨funmet, dunmet, Gunmet, munmet, kunmet, bunmet⟩ := Cunmet
  exact LamY.clo_ok (k := 12) (by decide) (wk_scope 1 (by decide)) (fun _ _ _ _ _ => rfl) fun cl c' f A outer s H E hr => (pe_callS Gunmet (hr.mono (by decide)) rfl munmet kunmet bunmet (fun σ => passAt (takes_of rfl rfl rfl rfl) σ) (pa_cons (pv 0) (pa_cons (pv 1) pa_nil)))
theorem clo_j2 (Cnext_rounds : CalE P w K mg base "next_rounds" 5 ["party", "plan"] (SpE ⟨K, C⟩ (SpV ⟨K, C⟩ sp_next_rounds) (spx_next_rounds cBadRound))) : LamY.CloOk P w K mg base 13 (LamY.CloR qW (wkLam 2) y1W y2W (tbJ K C cBadRound 2)) := by
  obtain ⟨fnext_rounds, dnext_rounds, Gnext_rounds, mnext_rounds, knext_rounds, bnext_rounds⟩ := Cnext_rounds
  exact LamY.clo_ok (k := 12) (by decide) (wk_scope 2 (by decide)) (fun _ _ _ _ _ => rfl) fun cl c' f A outer s H E hr => (pe_callS Gnext_rounds (hr.mono (by decide)) rfl mnext_rounds knext_rounds bnext_rounds (fun σ => passAt (takes_of rfl rfl rfl rfl) σ) (pa_cons (pv 0) (pa_cons (pv 1) pa_nil)))
theorem clo_j3 (Cbound : CalE P w K mg base "bound" 5 ["party", "plan"] (SpE ⟨K, C⟩ (SpV ⟨K, C⟩ sp_bound) (spx_bound cBadRound))) : LamY.CloOk P w K mg base 13 (LamY.CloR qW (wkLam 3) y1W y2W (tbJ K C cBadRound 3)) := by
  obtain ⟨fbound, dbound, Gbound, mbound, kbound, bbound⟩ := Cbound
  exact LamY.clo_ok (k := 12) (by decide) (wk_scope 3 (by decide)) (fun _ _ _ _ _ => rfl) fun cl c' f A outer s H E hr => (pe_callS Gbound (hr.mono (by decide)) rfl mbound kbound bbound (fun σ => passAt (takes_of rfl rfl rfl rfl) σ) (pa_cons (pv 0) (pa_cons (pv 1) pa_nil)))
theorem clo_j4 (Clongest : CalE P w K mg base "longest" 5 ["party", "plan"] (SpE ⟨K, C⟩ (SpV ⟨K, C⟩ sp_longest) (spx_longest cBadRound))) : LamY.CloOk P w K mg base 13 (LamY.CloR qW (wkLam 4) y1W y2W (tbJ K C cBadRound 4)) := by
  obtain ⟨flongest, dlongest, Glongest, mlongest, klongest, blongest⟩ := Clongest
  exact LamY.clo_ok (k := 12) (by decide) (wk_scope 4 (by decide)) (fun _ _ _ _ _ => rfl) fun cl c' f A outer s H E hr => (pe_callS Glongest (hr.mono (by decide)) rfl mlongest klongest blongest (fun σ => passAt (takes_of rfl rfl rfl rfl) σ) (pa_cons (pv 0) (pa_cons (pv 1) pa_nil)))
theorem clo_j5 (Chosts : CalE P w K mg base "hosts" 5 ["party", "plan"] (SpE ⟨K, C⟩ (SpV ⟨K, C⟩ sp_hosts) (spx_hosts cBadRound))) : LamY.CloOk P w K mg base 13 (LamY.CloR qW (wkLam 5) y1W y2W (tbJ K C cBadRound 5)) := by
  obtain ⟨fhosts, dhosts, Ghosts, mhosts, khosts, bhosts⟩ := Chosts
  exact LamY.clo_ok (k := 12) (by decide) (wk_scope 5 (by decide)) (fun _ _ _ _ _ => rfl) fun cl c' f A outer s H E hr => (pe_callS Ghosts (hr.mono (by decide)) rfl mhosts khosts bhosts (fun σ => passAt (takes_of rfl rfl rfl rfl) σ) (pa_cons (pv 0) (pa_cons (pv 1) pa_nil)))
theorem clo_j6 (Ccomes : CalE P w K mg base "comes" 5 ["party", "plan", "first"] (SpE ⟨K, C⟩ (SpV ⟨K, C⟩ sp_comes) (spx_comes cBadRound))) : LamY.CloOk P w K mg base 13 (LamY.CloR qW (wkLam 6) y1W y2W (tbJ K C cBadRound 6)) := by
  obtain ⟨fcomes, dcomes, Gcomes, mcomes, kcomes, bcomes⟩ := Ccomes
  exact LamY.clo_ok (k := 12) (by decide) (wk_scope 6 (by decide)) (fun _ _ _ _ _ => rfl) fun cl c' f A outer s H E hr => (pe_callS Gcomes (hr.mono (by decide)) rfl mcomes kcomes bcomes (fun σ => passAt (takes_of rfl rfl rfl rfl) σ) (pa_cons (pv 0) (pa_cons (pv 1) (pa_cons pe_int pa_nil))))
theorem clo_j7 (Cleaves : CalE P w K mg base "leaves" 5 ["party", "plan", "guest", "last"] (SpE ⟨K, C⟩ (SpV ⟨K, C⟩ sp_leaves) (spx_leaves cBadRound))) : LamY.CloOk P w K mg base 13 (LamY.CloR qW (wkLam 7) y1W y2W (tbJ K C cBadRound 7)) := by
  obtain ⟨fleaves, dleaves, Gleaves, mleaves, kleaves, bleaves⟩ := Cleaves
  exact LamY.clo_ok (k := 12) (by decide) (wk_scope 7 (by decide)) (fun _ _ _ _ _ => rfl) fun cl c' f A outer s H E hr => (pe_callS Gleaves (hr.mono (by decide)) rfl mleaves kleaves bleaves (fun σ => passAt (takes_of rfl rfl rfl rfl) σ) (pa_cons (pv 0) (pa_cons (pv 1) (pa_cons pe_int (pa_cons pe_int pa_nil)))))
theorem clo_j8 (Calike : CalE P w K mg base "alike" 5 ["party", "one", "other"] (SpE ⟨K, C⟩ (SpV ⟨K, C⟩ sp_alike) (spx_alike cBadRound))) : LamY.CloOk P w K mg base 13 (LamY.CloR qW (wkLam 8) y1W y2W (tbJ K C cBadRound 8)) := by
  obtain ⟨falike, dalike, Galike, malike, kalike, balike⟩ := Calike
  exact LamY.clo_ok (k := 12) (by decide) (wk_scope 8 (by decide)) (fun _ _ _ _ _ => rfl) fun cl c' f A outer s H E hr => (pe_callS Galike (hr.mono (by decide)) rfl malike kalike balike (fun σ => passAt (takes_of rfl rfl rfl rfl) σ) (pa_cons (pv 0) (pa_cons (pv 1) (pa_cons (pe_lst pa_nil) pa_nil))))
theorem clo_j9 (Calike : CalE P w K mg base "alike" 5 ["party", "one", "other"] (SpE ⟨K, C⟩ (SpV ⟨K, C⟩ sp_alike) (spx_alike cBadRound))) : LamY.CloOk P w K mg base 13 (LamY.CloR qW (wkLam 9) y1W y2W (tbJ K C cBadRound 9)) := by
  obtain ⟨falike, dalike, Galike, malike, kalike, balike⟩ := Calike
  exact LamY.clo_ok (k := 12) (by decide) (wk_scope 9 (by decide)) (fun _ _ _ _ _ => rfl) fun cl c' f A outer s H E hr => (pe_callS Galike (hr.mono (by decide)) rfl malike kalike balike (fun σ => passAt (takes_of rfl rfl rfl rfl) σ) (pa_cons (pv 0) (pa_cons (pe_lst pa_nil) (pa_cons (pv 1) pa_nil))))
def RW (K : PySem.W.Frag) (C cBadRound : Addr) : Addr → Hp → VK → XK → Prop := fun f H Q E => ∃ j, j < 10 ∧ LamY.CloR qW (wkLam j) y1W y2W (tbJ K C cBadRound j) f H Q E
theorem clo_all (Cmet : CalE P w K mg base "met" 5 ["party", "plan"] (SpE ⟨K, C⟩ (SpV ⟨K, C⟩ sp_met) (spx_met cBadRound))) (Cunmet : CalE P w K mg base "unmet" 5 ["party", "plan"] (SpE ⟨K, C⟩ (SpV ⟨K, C⟩ sp_unmet) (spx_unmet cBadRound))) (Cnext_rounds : CalE P w K mg base "next_rounds" 5 ["party", "plan"] (SpE ⟨K, C⟩ (SpV ⟨K, C⟩ sp_next_rounds) (spx_next_rounds cBadRound))) (Cbound : CalE P w K mg base "bound" 5 ["party", "plan"] (SpE ⟨K, C⟩ (SpV ⟨K, C⟩ sp_bound) (spx_bound cBadRound))) (Clongest : CalE P w K mg base "longest" 5 ["party", "plan"] (SpE ⟨K, C⟩ (SpV ⟨K, C⟩ sp_longest) (spx_longest cBadRound))) (Chosts : CalE P w K mg base "hosts" 5 ["party", "plan"] (SpE ⟨K, C⟩ (SpV ⟨K, C⟩ sp_hosts) (spx_hosts cBadRound))) (Ccomes : CalE P w K mg base "comes" 5 ["party", "plan", "first"] (SpE ⟨K, C⟩ (SpV ⟨K, C⟩ sp_comes) (spx_comes cBadRound))) (Cleaves : CalE P w K mg base "leaves" 5 ["party", "plan", "guest", "last"] (SpE ⟨K, C⟩ (SpV ⟨K, C⟩ sp_leaves) (spx_leaves cBadRound))) (Calike : CalE P w K mg base "alike" 5 ["party", "one", "other"] (SpE ⟨K, C⟩ (SpV ⟨K, C⟩ sp_alike) (spx_alike cBadRound))) : LamY.CloOk P w K mg base 13 (RW K C cBadRound) := by
  have all : ∀ j, j < 10 → LamY.CloOk P w K mg base 13 (LamY.CloR qW (wkLam j) y1W y2W (tbJ K C cBadRound j)) := fun j hj => match j, hj with
    | 0, _ => clo_j0 Cmet
    | 1, _ => clo_j1 Cunmet
    | 2, _ => clo_j2 Cnext_rounds
    | 3, _ => clo_j3 Cbound
    | 4, _ => clo_j4 Clongest
    | 5, _ => clo_j5 Chosts
    | 6, _ => clo_j6 Ccomes
    | 7, _ => clo_j7 Cleaves
    | 8, _ => clo_j8 Calike
    | 9, _ => clo_j9 Calike
    | j + 10, hj => absurd hj (by omega)
  exact ⟨fun f H Q E h hok ⟨j, hj, r⟩ => (all j hj).fn f H Q E h hok r, fun A outer s f H Q E hr e0 ⟨j, hj, r⟩ => (all j hj).run A outer s f H Q E hr e0 r⟩
theorem raise_j {g s : Int} {p : List (List (List Int))} {n0 : Nat} (hp : 0 < s ∧ s < 1000) (hb : BadAt g s p n0) : ∀ j, j < 10 → ∀ E : XK, Wre ⟨K, C⟩ (fun cls d _ H => E cls d H) (tbJ K C cBadRound j E) [.v (.pty g s), .v (lT p)] (.num cBadRound "number" (n0 : Int)) := fun j hj E => by
  match j, hj with
  | 0, _ =>
    refine wre_call ?_
    walk_at "d"
    exact ⟨g, s, p, n0, rfl, rfl, hp, hb⟩
  | 1, _ =>
    refine wre_call ?_
    walk_at "d"
    exact ⟨g, s, p, n0, rfl, rfl, hp, hb⟩
  | 2, _ =>
    refine wre_call ?_
    walk_at "d"
    exact ⟨g, s, p, n0, rfl, rfl, hp, hb⟩
  | 3, _ =>
    refine wre_call ?_
    walk_at "d"
    exact ⟨g, s, p, n0, rfl, rfl, hp, hb⟩
  | 4, _ =>
    refine wre_call ?_
    walk_at "d"
    exact ⟨g, s, p, n0, rfl, rfl, hp, hb⟩
  | 5, _ =>
    refine wre_call ?_
    walk_at "d"
    exact ⟨g, s, p, n0, rfl, rfl, hp, hb⟩
  | 6, _ =>
    refine wre_call ?_
    walk_at "d"
    exact ⟨g, s, p, n0, 0, rfl, rfl, hp, hb⟩
  | 7, _ =>
    refine wre_call ?_
    walk_at "d"
    exact ⟨g, s, p, n0, 0, 0, rfl, rfl, hp, hb⟩
  | 8, _ =>
    refine wre_call ?_
    walk_at "d"
    exact ⟨g, s, p, [], n0, rfl, rfl, hp, .inl hb⟩
  | 9, _ =>
    refine wre_call ?_
    walk_at "d"
    exact ⟨g, s, [], p, n0, rfl, rfl, hp, .inr ⟨rfl, hb⟩⟩
  | j + 10, hj => exact absurd hj (by omega)
theorem nc_ints (t : List Int) : ncL (t.map D.int) = true := by
  induction t with
  | nil => rfl
  | cons x t ih => rw [List.map_cons, ncL, ih]; simp [nc]
theorem nc_tabs (r : List (List Int)) : ncL (r.map tI) = true := by
  induction r with
  | nil => rfl
  | cons x t ih => rw [List.map_cons, ncL, ih, show nc (tI x) = ncL (x.map D.int) by unfold tI; rw [nc], nc_ints]; rfl
theorem nc_lT (p : List (List (List Int))) : nc (lT p) = true := by
  have : ∀ p : List (List (List Int)), ncL (p.map tT) = true := fun p => by
    induction p with
    | nil => rfl
    | cons x t ih => rw [List.map_cons, ncL, ih, show nc (tT x) = ncL (x.map tI) by unfold tT; rw [nc], nc_tabs]; rfl
  unfold lT
  rw [nc]
  exact this p
abbrev sp__law_word : List D → (D → Prop) → Prop := fun ds Po => ∃ (d : D) (g s : Int) (p : List (List (List Int))) (n0 : Nat), ds = [d] ∧ (∃ j, j < 10 ∧ IsClo qW (wkLam j) y1W y2W d (.pty g s) (lT p)) ∧ (0 < s ∧ s < 1000) ∧ BadAt g s p n0 ∧ Po (.int (n0 : Int))
theorem ok__law_word (Df : Dfn K mg "_law_word" s__law_word ["_law_work"]) (B : Blt mg) (Cmet : CalE P w K mg base "met" 5 ["party", "plan"] (SpE ⟨K, C⟩ (SpV ⟨K, C⟩ sp_met) (spx_met cBadRound))) (Cunmet : CalE P w K mg base "unmet" 5 ["party", "plan"] (SpE ⟨K, C⟩ (SpV ⟨K, C⟩ sp_unmet) (spx_unmet cBadRound))) (Cnext_rounds : CalE P w K mg base "next_rounds" 5 ["party", "plan"] (SpE ⟨K, C⟩ (SpV ⟨K, C⟩ sp_next_rounds) (spx_next_rounds cBadRound))) (Cbound : CalE P w K mg base "bound" 5 ["party", "plan"] (SpE ⟨K, C⟩ (SpV ⟨K, C⟩ sp_bound) (spx_bound cBadRound))) (Clongest : CalE P w K mg base "longest" 5 ["party", "plan"] (SpE ⟨K, C⟩ (SpV ⟨K, C⟩ sp_longest) (spx_longest cBadRound))) (Chosts : CalE P w K mg base "hosts" 5 ["party", "plan"] (SpE ⟨K, C⟩ (SpV ⟨K, C⟩ sp_hosts) (spx_hosts cBadRound))) (Ccomes : CalE P w K mg base "comes" 5 ["party", "plan", "first"] (SpE ⟨K, C⟩ (SpV ⟨K, C⟩ sp_comes) (spx_comes cBadRound))) (Cleaves : CalE P w K mg base "leaves" 5 ["party", "plan", "guest", "last"] (SpE ⟨K, C⟩ (SpV ⟨K, C⟩ sp_leaves) (spx_leaves cBadRound))) (Calike : CalE P w K mg base "alike" 5 ["party", "one", "other"] (SpE ⟨K, C⟩ (SpV ⟨K, C⟩ sp_alike) (spx_alike cBadRound))) (GN_PartyError : mg "PartyError" = some (.ref cPartyError)) (GN_BadParty : mg "BadParty" = some (.ref cBadParty)) (GN_BadRound : mg "BadRound" = some (.ref cBadRound)) (GN_BadText : mg "BadText" = some (.ref cBadText)) (GN_BadTurning : mg "BadTurning" = some (.ref cBadTurning)) (BN_ValueError : mg "ValueError" = none) (EN_BadRound : En1 P w K mg base "BadRound" cBadRound "number") (XM_BadRound_PartyError : PySem.W.exmOne K (.ref cBadRound) (.ref cPartyError) = some true) (XM_BadParty_PartyError : PySem.W.exmOne K (.ref cBadParty) (.ref cPartyError) = some true) (XC_BadRound : ExcC K cBadRound) (XC_BadParty : ExcC K cBadParty) (KT_BadRound_BadParty : PySem.W.kitOne K (.ref cBadRound) (.ref cBadParty) = some false) (KT_BadRound_BadRound : PySem.W.kitOne K (.ref cBadRound) (.ref cBadRound) = some true) (KT_BadRound_BadText : PySem.W.kitOne K (.ref cBadRound) (.ref cBadText) = some false) (KT_BadRound_BadTurning : PySem.W.kitOne K (.ref cBadRound) (.ref cBadTurning) = some false) (KT_BadParty_BadParty : PySem.W.kitOne K (.ref cBadParty) (.ref cBadParty) = some true) (KT_BadParty_BadRound : PySem.W.kitOne K (.ref cBadParty) (.ref cBadRound) = some false) (KT_BadParty_BadText : PySem.W.kitOne K (.ref cBadParty) (.ref cBadText) = some false) (KT_BadParty_BadTurning : PySem.W.kitOne K (.ref cBadParty) (.ref cBadTurning) = some false) (KV_BadRound : PySem.W.kitOne K (.ref cBadRound) (.type "ValueError") = some true) (KV_BadParty : PySem.W.kitOne K (.ref cBadParty) (.type "ValueError") = some true) : Cal P w K mg base "_law_word" 20 ["_law_work"] (SpV ⟨K, C⟩ sp__law_word) := by
  obtain ⟨f, fd, F, m, b⟩ := Df
  have CO := clo_all (C := C) Cmet Cunmet Cnext_rounds Cbound Clongest Chosts Ccomes Cleaves Calike
  refine ⟨f, fd, F.ok sc__law_word (fun vs H Q E h => len_V h fun ds Po hs => ?_) (fun cdv A outer s H vs Q E hr h => ?_), m, F.kp, b⟩
  · obtain ⟨d, _, _, _, _, hs, _⟩ := hs
    rw [hs]; rfl
  refine ⟨_, word_pss (tc := LamY.tClo 0 (RW K C cBadRound)) B GN_PartyError GN_BadParty GN_BadRound GN_BadText GN_BadTurning BN_ValueError EN_BadRound (fun W pn xe p1 p2 tk => LamY.pe_clo tk CO (hr.mono (by decide)) rfl (Or.inl rfl)), run_V (Z := ⟨K, C⟩) h fun ds Po hs => ?_⟩
  obtain ⟨d, g, s', p, n0, rfl, ⟨j, hj, hd⟩, hp, hb, h⟩ := hs
  walk_at "d0"
  exact word_num XM_BadRound_PartyError XM_BadParty_PartyError XC_BadRound XC_BadParty KT_BadRound_BadParty KT_BadRound_BadRound KT_BadRound_BadText KT_BadRound_BadTurning KT_BadParty_BadParty KT_BadParty_BadRound KT_BadParty_BadText KT_BadParty_BadTurning KV_BadRound KV_BadParty (fun W => wre_clo rfl hd rfl (nc_lT p) (fun f H Q E r => ⟨j, hj, r⟩) (raise_j hp hb j hj)) h
abbrev s_law : Stmt := topS 56
theorem sc_law : FnScope ["_law_script", "_law_row", "_law_turn", "_law_size", "_law_guests", "_law_good", "_law_party", "_law_plan_here", "_law_k", "_law_odd", "_law_handed", "_law_work"] ["_law_script"] (defScope s_law) := ⟨rfl, rfl, rfl, by decide +kernel, rfl, by decide +kernel, by decide +kernel⟩
abbrev qL : Str := (envOfC "law" (defScope s_law) 0 0 .none).qual ++ "<lambda>"
abbrev TLs (PL PQ : Addr) : List (Addr × Str) := [(PL, qL), (PQ, qW)]
theorem bad_at {g s : Int} {p q : List (List (List Int))} {r : List (List Int)} {m : Nat} (hg : goodP g s) (hp : ∀ r ∈ p, isRnd g s r = true) (pl : p.length ≤ 3) (ql : q.length ≤ 1) (hm : m ≤ p.length) (hno : isRnd g s r = false) (hs : Sml r) : BadAt g s (p.take m ++ [r] ++ p.drop m ++ q) m := by
  have tl : (p.take m).length = m := by rw [List.length_take]; omega
  have dl : (p.drop m).length = p.length - m := List.length_drop ..
  have ll : (p.take m ++ [r] ++ p.drop m ++ q).length = p.length + 1 + q.length := by simp only [List.length_append, tl, dl, List.length_singleton]; omega
  have eA : ∀ i (h : i < (p.take m ++ [r] ++ p.drop m ++ q).length), i < m → ∃ h' : i < p.length, (p.take m ++ [r] ++ p.drop m ++ q)[i] = p[i] := fun i h l => by
    have h' : i < p.length := by omega
    have e2 : (p.take m ++ [r] ++ p.drop m ++ q)[i]? = some p[i] := by
      rw [List.append_assoc, List.append_assoc, List.getElem?_append_left (by omega), List.getElem?_take_of_lt l, List.getElem?_eq_getElem h']
    rw [List.getElem?_eq_getElem h] at e2
    exact ⟨h', Option.some.inj e2⟩
  have eB : ∀ h : m < (p.take m ++ [r] ++ p.drop m ++ q).length, (p.take m ++ [r] ++ p.drop m ++ q)[m] = r := fun h => by
    have e2 : (p.take m ++ [r] ++ p.drop m ++ q)[m]? = some r := by
      rw [List.append_assoc, List.append_assoc, List.getElem?_append_right (by omega), tl, Nat.sub_self]
      rfl
    rw [List.getElem?_eq_getElem h] at e2
    exact Option.some.inj e2
  refine ⟨by omega, by omega, fun i h l => ?_, fun i h l => ?_, fun h => ?_⟩
  · rcases Nat.lt_or_eq_of_le l with l | rfl
    · obtain ⟨h', e⟩ := eA i h l
      rw [e]
      exact rnd_sml hg (hp _ (List.getElem_mem _))
    · rw [eB h]; exact hs
  · obtain ⟨h', e⟩ := eA i h l
    rw [e]
    exact hp _ (List.getElem_mem _)
  · rw [eB h]; exact hno
instance decGood (g s : Int) : Decidable (goodP g s) := by unfold goodP; infer_instance
def tbP (K : PySem.W.Frag) (C cBadParty : Addr) (E : XK) : TE := tMake C (SpE ⟨K, C⟩ (SpI ⟨K, C⟩) (spx_pinit cBadParty)) [] E (tCons (tVar 0) (tCons (tVar 1) tNil))
theorem rep_two (gg ss : Int) : ∀ H, RepL ⟨K, C⟩ H noA [.int gg, .int ss] [.int gg, .int ss] := fun H => repL_cons.mpr ⟨_, _, rfl, rep_int.mpr rfl, repL_cons.mpr ⟨_, _, rfl, rep_int.mpr rfl, repL_nil.mpr rfl⟩⟩
theorem lam_ok {f : Addr} {F : LamY.LmW} {gg ss : Int} {Po : D → Prop} (hg : goodP gg ss) (h : Po (.str (Str.ofString ""))) : Wc ⟨K, C⟩ (bodyW K cPartyError cBadParty cBadRound cBadText cBadTurning (LamY.tAct f F (tbP K C cBadParty) ["_law_guests", "_law_size"] ([V.int gg, V.int ss].map some))) [.v (cloA f F), .un, .un] (poW Po) := by
  refine word_ok (fun W Q hQ => we_act (tb := tbP K C cBadParty) (N := ["_law_guests", "_law_size"]) (ds := [.int gg, .int ss]) rfl (rep_two gg ss) rfl fun E => we_makeE (Z := ⟨K, C⟩) (spec := spx_pinit cBadParty) ?_) h
  walk_at "d"
  exact ⟨hg, rfl, hQ _⟩
theorem lam_pl (XM_BadRound_PartyError : PySem.W.exmOne K (.ref cBadRound) (.ref cPartyError) = some true) (XM_BadParty_PartyError : PySem.W.exmOne K (.ref cBadParty) (.ref cPartyError) = some true) (XC_BadRound : ExcC K cBadRound) (XC_BadParty : ExcC K cBadParty) (KT_BadRound_BadParty : PySem.W.kitOne K (.ref cBadRound) (.ref cBadParty) = some false) (KT_BadRound_BadRound : PySem.W.kitOne K (.ref cBadRound) (.ref cBadRound) = some true) (KT_BadRound_BadText : PySem.W.kitOne K (.ref cBadRound) (.ref cBadText) = some false) (KT_BadRound_BadTurning : PySem.W.kitOne K (.ref cBadRound) (.ref cBadTurning) = some false) (KT_BadParty_BadParty : PySem.W.kitOne K (.ref cBadParty) (.ref cBadParty) = some true) (KT_BadParty_BadRound : PySem.W.kitOne K (.ref cBadParty) (.ref cBadRound) = some false) (KT_BadParty_BadText : PySem.W.kitOne K (.ref cBadParty) (.ref cBadText) = some false) (KT_BadParty_BadTurning : PySem.W.kitOne K (.ref cBadParty) (.ref cBadTurning) = some false) (KV_BadRound : PySem.W.kitOne K (.ref cBadRound) (.type "ValueError") = some true) (KV_BadParty : PySem.W.kitOne K (.ref cBadParty) (.type "ValueError") = some true)
    {f : Addr} {F : LamY.LmW} {gg ss : Int} {Po : D → Prop} (hg : ¬ goodP gg ss) (h : Po (.str (Str.ofString "party"))) : Wc ⟨K, C⟩ (bodyW K cPartyError cBadParty cBadRound cBadText cBadTurning (LamY.tAct f F (tbP K C cBadParty) ["_law_guests", "_law_size"] ([V.int gg, V.int ss].map some))) [.v (cloA f F), .un, .un] (poW Po) := by
  refine word_pl XM_BadRound_PartyError XM_BadParty_PartyError XC_BadRound XC_BadParty KT_BadRound_BadParty KT_BadRound_BadRound KT_BadRound_BadText KT_BadRound_BadTurning KT_BadParty_BadParty KT_BadParty_BadRound KT_BadParty_BadText KT_BadParty_BadTurning KV_BadRound KV_BadParty (fun W => wre_act (tb := tbP K C cBadParty) (N := ["_law_guests", "_law_size"]) (ds := [.int gg, .int ss]) rfl (rep_two gg ss) rfl fun E => wre_make (Z := ⟨K, C⟩) (spec := spx_pinit cBadParty) (g := gg) (s := ss) ?_ fun x => ⟨x, gg, ss, rfl, rfl, hg⟩) h
  walk_at "d"
theorem ok_law {f cL PL PQ : Addr} {oc : Value} {od an : Option Addr} {sl : Array (Option Value)} {kV dc pm ct : Value} (lk : K.lookup f = some ⟨oc, od, .func (PySem.W.fnOf "law" "law" (defArgs s_law) (defBody s_law) (defScope s_law) .none kV dc pm an (.ref cL) ct), sl⟩) (hcd : PySem.W.codeIn K (.ref cL) "law" = true)
    (B : Blt mg) (T : Tx K mg C) (TBL : LamX.TabB base mg cL PL) (ne : PL ≠ PQ) (C_law_taken : Cal P w K mg base "_law_taken" 1 ["_law_row", "_law_many"] (SpRV ⟨K, C⟩ sp__law_taken)) (Df_word : Dfn K mg "_law_word" s__law_word ["_law_work"]) (C_law_word : Cal P w K mg base "_law_word" 20 ["_law_work"] (SpV ⟨K, C⟩ sp__law_word)) (C_law_alike : Cal P w K mg base "_law_alike" 8 ["_law_found", "_law_due"] ((SpV ⟨K,C⟩ (sp_al 8)))) (C_law_few : Cal P w K mg base "_law_few" 2 ["_law_row"] (SpRV ⟨K, C⟩ sp__law_few)) (C_law_plan : Cal P w K mg base "_law_plan" 4 ["_law_row", "_law_guests", "_law_size", "_law_most"] (SpRL ⟨K, C⟩ sp__law_plan)) (C_law_works : Cal P w K mg base "_law_works" 1 ["_law_party", "_law_plan_here"] (SpWorks (TLs PL PQ)))
    (M_guests : Mth P w K mg base C "guests" 1 ["self"] (SpV ⟨K, C⟩ sp_p_guests)) (M_size : Mth P w K mg base C "size" 1 ["self"] (SpV ⟨K, C⟩ sp_p_size)) (M_tables : Mth P w K mg base C "tables" 1 ["self"] (SpV ⟨K, C⟩ sp_p_tables)) (MK : Mak P w K mg base C 1 ["self", "guests", "size"] (SpI ⟨K, C⟩)) (MKX : MakX P w K mg base C 2 ["self", "guests", "size"] (SpE ⟨K, C⟩ (SpI ⟨K, C⟩) (spx_pinit cBadParty)))
    (GN_BadParty : mg "BadParty" = some (.ref cBadParty)) (GN_BadTurning : mg "BadTurning" = some (.ref cBadTurning)) (GN_PartyError : mg "PartyError" = some (.ref cPartyError)) (EN_BadRound : En1 P w K mg base "BadRound" cBadRound "number") (GN_BadRound : mg "BadRound" = some (.ref cBadRound)) (GN_BadText : mg "BadText" = some (.ref cBadText)) (BN_ValueError : mg "ValueError" = none) (XM_BadRound_PartyError : PySem.W.exmOne K (.ref cBadRound) (.ref cPartyError) = some true) (XM_BadParty_PartyError : PySem.W.exmOne K (.ref cBadParty) (.ref cPartyError) = some true) (XC_BadRound : ExcC K cBadRound) (XC_BadParty : ExcC K cBadParty) (KT_BadRound_BadParty : PySem.W.kitOne K (.ref cBadRound) (.ref cBadParty) = some false) (KT_BadRound_BadRound : PySem.W.kitOne K (.ref cBadRound) (.ref cBadRound) = some true) (KT_BadRound_BadText : PySem.W.kitOne K (.ref cBadRound) (.ref cBadText) = some false) (KT_BadRound_BadTurning : PySem.W.kitOne K (.ref cBadRound) (.ref cBadTurning) = some false) (KT_BadParty_BadParty : PySem.W.kitOne K (.ref cBadParty) (.ref cBadParty) = some true) (KT_BadParty_BadRound : PySem.W.kitOne K (.ref cBadParty) (.ref cBadRound) = some false) (KT_BadParty_BadText : PySem.W.kitOne K (.ref cBadParty) (.ref cBadText) = some false) (KT_BadParty_BadTurning : PySem.W.kitOne K (.ref cBadParty) (.ref cBadTurning) = some false) (KV_BadRound : PySem.W.kitOne K (.ref cBadRound) (.type "ValueError") = some true) (KV_BadParty : PySem.W.kitOne K (.ref cBadParty) (.type "ValueError") = some true) : FnOk P w K mg base CX0 21 f (PySem.W.fnOf "law" "law" (defArgs s_law) (defBody s_law) (defScope s_law) .none kV dc pm an (.ref cL) ct) ["_law_script"] (spLawT K (TLs PL PQ)) := by
  obtain ⟨f_law_taken, d_law_taken, G_law_taken, m_law_taken, k_law_taken, b_law_taken⟩ := C_law_taken
  obtain ⟨f_law_word, d_law_word, G_law_word, m_law_word, k_law_word, b_law_word⟩ := C_law_word
  obtain ⟨f_law_alike, d_law_alike, G_law_alike, m_law_alike, k_law_alike, b_law_alike⟩ := C_law_alike
  obtain ⟨f_law_few, d_law_few, G_law_few, m_law_few, k_law_few, b_law_few⟩ := C_law_few
  obtain ⟨f_law_plan, d_law_plan, G_law_plan, m_law_plan, k_law_plan, b_law_plan⟩ := C_law_plan
  obtain ⟨f_law_works, d_law_works, G_law_works, m_law_works, k_law_works, b_law_works⟩ := C_law_works
  obtain ⟨f_guests, d_guests, mm_guests, gg_guests, bb_guests⟩ := M_guests
  obtain ⟨f_size, d_size, mm_size, gg_size, bb_size⟩ := M_size
  obtain ⟨f_tables, d_tables, mm_tables, gg_tables, bb_tables⟩ := M_tables
  obtain ⟨fInit, dInit, MkP, gInit, bInit⟩ := MK
  obtain ⟨fX, dX, mkX, gX, bX⟩ := MKX
  obtain ⟨fW, fdW, FW, mW, bW⟩ := Df_word
  have kpW := FW.kp
  obtain ⟨ocW, odW, kVW, docW, pmW, anW, cdW, ctW, oslW, rfl, lkW, hcW⟩ := FW.ex
  have hmL : (PL, qL) ∈ TLs PL PQ := .head _
  have huL : ∀ p ∈ TLs PL PQ, p.1 = PL → p.2 = qL := fun p hp e => by
    rcases List.mem_cons.mp hp with rfl | hp
    · rfl
    · rw [List.mem_singleton.mp hp] at e
      exact absurd e.symm ne
  refine fn_of lk hcd sc_law (fun vs H Q E h => by obtain ⟨a, ns, rfl, _⟩ := h; rfl) fun A outer s H vs Q E hr h => ?_
  refine ⟨_, (show PSs (cxOf CX0 P w K mg base ["_law_script", "_law_row", "_law_turn", "_law_size", "_law_guests", "_law_good", "_law_party", "_law_plan_here", "_law_k", "_law_odd", "_law_handed", "_law_work"] "law" (defScope s_law) f (.ref cL) A outer s H E).nox (defBody s_law) _ from (pss_cons (ps_set (i := 1) sc_law.nd rfl (by first | exact Or.inl rfl | exact Or.inr rfl) (pe_lst (pa_cons (pv 0) (pa_cons pe_int (pa_cons pe_int (pa_cons pe_int pa_nil))))))
      (pss_cons (ps_for PassesOwn.never rfl (pi_range1 rfl B.range (pa_cons pe_int pa_nil)) (pg_name (i := 2) sc_law.nd rfl (by first | exact Or.inl rfl | exact Or.inr rfl))
        (pss_cons (ps_set (i := 3) sc_law.nd rfl (by first | exact Or.inl rfl | exact Or.inr rfl) (pe_op op_add pe_int (pe_call G_law_taken (hr.mono (by decide)) rfl m_law_taken k_law_taken b_law_taken .nil pass0 (pa_cons (pv 1) (pa_cons pe_int pa_nil)))))
      (pss_cons (ps_set (i := 4) sc_law.nd rfl (by first | exact Or.inl rfl | exact Or.inr rfl) (pe_ix (ix_listK K) (pe_lst (pa_cons (pe_call G_law_taken (hr.mono (by decide)) rfl m_law_taken k_law_taken b_law_taken .nil pass0 (pa_cons (pv 1) (pa_cons pe_int pa_nil))) (pa_cons (pe_op op_mul (pv 3) (pe_call G_law_taken (hr.mono (by decide)) rfl m_law_taken k_law_taken b_law_taken .nil pass0 (pa_cons (pv 1) (pa_cons pe_int pa_nil)))) (pa_cons (pe_op op_sub pe_int (pe_call G_law_taken (hr.mono (by decide)) rfl m_law_taken k_law_taken b_law_taken .nil pass0 (pa_cons (pv 1) (pa_cons pe_int pa_nil)))) pa_nil)))) (pe_call G_law_taken (hr.mono (by decide)) rfl m_law_taken k_law_taken b_law_taken .nil pass0 (pa_cons (pv 1) (pa_cons pe_int pa_nil))) (fun _ _ => rfl)))
      (pss_cons (ps_set (i := 5) sc_law.nd rfl (by first | exact Or.inl rfl | exact Or.inr rfl) (pe_and (pe_chain op_le op_le pe_int (pv 3) pe_int) (pe_and (pe_chain op_le op_le pe_int (pv 4) pe_int) (pe_one (pe_cmpR op_eq (pe_op op_mod (pv 4) (pv 3)) pe_int (nomark _))))))
      (pss_cons (ps_if (pt_cmpR (op_neK K hr.units) (LamY.pe_lamcall2 (T := TLs PL PQ) (k := 10) (N := ["_law_guests", "_law_size"]) (fr := ["_law_guests", "_law_size"]) (js := [4, 3]) (Ng := ["_law_work", "e", "_law_kinds"]) (BODY := bodyW K cPartyError cBadParty cBadRound cBadText cBadTurning) (tb := tbP K C cBadParty) rfl mW kpW lkW hcW bW sc__law_word rfl (Or.inl rfl) TBL rfl hmL huL (hr.mono (by decide)) (LamX.lamS_by (sc := defScope s_law) (by decide +kernel)) rfl (NdefX.nscope_by (by decide +kernel)) (by decide +kernel) rfl (fun _ _ _ _ _ => rfl) (fun cl c' f A outer s H E hr => pe_make mkX gX (hr.mono (by decide)) rfl T.mgC bX .nil (passes_call (takes_of rfl rfl rfl rfl) (fun _ _ _ _ h => h)) (pa_cons (pv 0) (pa_cons (pv 1) pa_nil))) (fun s H tc hc hr => word_pss B GN_PartyError GN_BadParty GN_BadRound GN_BadText GN_BadTurning BN_ValueError EN_BadRound hc)) (pe_ix (ix_listK K) (pe_lst (pa_cons pe_str (pa_cons pe_str pa_nil))) (pe_callTy cr_intK (by rfl) B.int (by decide +kernel) (pa_cons (pv 5) pa_nil)) (fun _ _ => rfl)) (nomark _)) (pss_one (ps_ret pe_bl)) pss_nil)
      (pss_cons (ps_if (pt_val (pv 5)) (pss_cons (ps_set (i := 6) sc_law.nd rfl (by first | exact Or.inl rfl | exact Or.inr rfl) (pe_make MkP gInit (hr.mono (by decide)) rfl T.mgC bInit .nil pass0 (pa_cons (pv 4) (pa_cons (pv 3) pa_nil))))
      (pss_one (ps_if (pt_not (pt_val (pe_call G_law_alike (hr.mono (by decide)) rfl m_law_alike k_law_alike b_law_alike .nil pass0 (pa_cons (pe_tup (pa_cons (pe_meth0 (pv 6) T.cl mm_guests gg_guests (hr.mono (by decide)) bb_guests .nil pass0) (pa_cons (pe_meth0 (pv 6) T.cl mm_size gg_size (hr.mono (by decide)) bb_size .nil pass0) (pa_cons (pe_meth0 (pv 6) T.cl mm_tables gg_tables (hr.mono (by decide)) bb_tables .nil pass0) pa_nil)))) (pa_cons (pe_tup (pa_cons (pv 4) (pa_cons (pv 3) (pa_cons (pe_op op_fdiv (pv 4) (pv 3)) pa_nil)))) pa_nil))))) (pss_one (ps_ret pe_bl)) pss_nil))) pss_nil)
      (pss_cons (ps_asg (pe_call G_law_few (hr.mono (by decide)) rfl m_law_few k_law_few b_law_few .nil pass0 (pa_cons (pv 1) pa_nil)) (pg_tupK K (n := 2) rfl (pgs_cons (pg_name (i := 4) sc_law.nd rfl (by first | exact Or.inl rfl | exact Or.inr rfl)) (pgs_cons (pg_name (i := 3) sc_law.nd rfl (by first | exact Or.inl rfl | exact Or.inr rfl)) pgs_nil))))
      (pss_cons (ps_set (i := 6) sc_law.nd rfl (by first | exact Or.inl rfl | exact Or.inr rfl) (pe_make MkP gInit (hr.mono (by decide)) rfl T.mgC bInit .nil pass0 (pa_cons (pv 4) (pa_cons (pv 3) pa_nil))))
      (pss_cons (ps_set (i := 7) sc_law.nd rfl (by first | exact Or.inl rfl | exact Or.inr rfl) (pe_call G_law_plan (hr.mono (by decide)) rfl m_law_plan k_law_plan b_law_plan .nil pass0 (pa_cons (pv 1) (pa_cons (pv 4) (pa_cons (pv 3) (pa_cons pe_int pa_nil))))))
      (pss_cons (ps_set (i := 8) sc_law.nd rfl (by first | exact Or.inl rfl | exact Or.inr rfl) (pe_call G_law_taken (hr.mono (by decide)) rfl m_law_taken k_law_taken b_law_taken .nil pass0 (pa_cons (pv 1) (pa_cons (pe_op op_add (pe_callB (cr_lenK K) (by rfl) B.len PySem.boot_len (pa_cons (pv 7) pa_nil)) pe_int) pa_nil))))
      (pss_cons (ps_set (i := 9) sc_law.nd rfl (by first | exact Or.inl rfl | exact Or.inr rfl) (pe_lst (pa_cons (pe_tup (pa_cons (pe_tup (pa_cons (pv 4) pa_nil)) pa_nil)) (pa_cons (pe_tup (pa_cons (pe_tup (pa_cons (pe_op op_sub pe_int pe_int) (pa_cons pe_int pa_nil))) pa_nil)) (pa_cons (pe_tup (pa_cons (pe_tup pa_nil) pa_nil)) (pa_cons (pe_tup (pa_cons (pe_tup (pa_cons pe_int pa_nil)) (pa_cons (pe_tup (pa_cons pe_int pa_nil)) pa_nil))) (pa_cons (pe_tup (pa_cons (pe_tup (pa_cons pe_int pa_nil)) (pa_cons (pe_tup (pa_cons pe_int pa_nil)) pa_nil))) (pa_cons (pe_tup (pa_cons (pe_tup (pa_cons pe_int (pa_cons pe_int pa_nil))) pa_nil)) (pa_cons (pe_tup (pa_cons (pe_tup (pa_cons pe_int (pa_cons pe_int pa_nil))) pa_nil)) pa_nil)))))))))
      (pss_cons (ps_expr (pe_bmK K PySem.F.plainAttrs_list PySem.F.slot_list_insert PySem.F.type_list_insert mt_insert (pv 7) (pa_cons (pv 8) (pa_cons (pe_ix (ix_listK K) (pv 9) (pe_call G_law_taken (hr.mono (by decide)) rfl m_law_taken k_law_taken b_law_taken .nil pass0 (pa_cons (pv 1) (pa_cons pe_int pa_nil))) (fun _ _ => rfl)) pa_nil))))
      (pss_cons (ps_set (i := 7) sc_law.nd rfl (by first | exact Or.inl rfl | exact Or.inr rfl) (pe_op op_cat (pv 7) (pe_slice (sl_listK K) (pe_lst (pa_cons (pe_tup (pa_cons (pe_tup (pa_cons (pv 4) pa_nil)) pa_nil)) pa_nil)) po_none (po_some (pe_call G_law_taken (hr.mono (by decide)) rfl m_law_taken k_law_taken b_law_taken .nil pass0 (pa_cons (pv 1) (pa_cons pe_int pa_nil)))))))
      (pss_cons (ps_set (i := 10) sc_law.nd rfl (by first | exact Or.inl rfl | exact Or.inr rfl) (pe_callTy (cr_listK K) (by rfl) B.list (by decide +kernel) (pa_cons (pv 7) pa_nil)))
      (pss_one (ps_for PassesOwn.never rfl (pi_listK K (pe_call G_law_works (hr.mono (by decide)) rfl m_law_works k_law_works b_law_works .nil pass0 (pa_cons (pv 6) (pa_cons (pv 10) pa_nil)))) (pg_name (i := 11) sc_law.nd rfl (by first | exact Or.inl rfl | exact Or.inr rfl))
        (pss_one (ps_if (PW.pt (pw_or (pt_not (pt_val (pe_call G_law_alike (hr.mono (by decide)) rfl m_law_alike k_law_alike b_law_alike .nil pass0 (pa_cons (pe_call G_law_word (hr.mono (by decide)) rfl m_law_word k_law_word b_law_word .nil pass0 (pa_cons (pv 11) pa_nil)) (pa_cons (pv 8) pa_nil))))) (pw_or1 (pt_cmpR (op_neK K hr.units) (pv 10) (pv 7) (nomark _))))) (pss_one (ps_ret pe_bl)) pss_nil))))))))))))))))))
      (pss_one (ps_ret pe_bl))))).nox, run_lawT (Z := ⟨K, C⟩) (TL := TLs PL PQ) (n := 10) h rfl ?_⟩
  show WcT _ _ _ [.un, .row, .un, .un, .un, .un, .un, .un, .un, .un, .un, .un] _
  refine wct_seq (wct_forR1 ?_)
  walk_at "d"
  refine ⟨by decide, by decide, [2, 3, 4, 5, 6, 7, 8, 9, 10, 11], fun _ ρ' => ρ' = [.un, .row, .un, .un, .un, .un, .un, .un, .un, .un, .un, .un], rfl, fun i ρ' hi e => ?_, fun ρ' e => ?_⟩
  · subst e
    show WcT _ _ _ [.un, .row, .v (.int (0 + (i : Int))), .un, .un, .un, .un, .un, .un, .un, .un, .un] _
    refine wct_seqc ?_
    walk_at "d"
    refine ⟨by decide, by decide, fun a a0 a1 => ?_⟩
    walk_at "d"
    obtain ⟨ss, hss⟩ : ∃ ss : Int, ss = 1 + a := ⟨_, rfl⟩
    rw [← hss]
    have s0 : 0 < ss := by omega
    have s1 : ss ≤ 9 := by omega
    clear hss
    refine wct_seqc ?_
    walk_at "d"
    refine ⟨by decide, by decide, fun b b0 b1 => ?_⟩
    walk_at "d"
    refine ⟨by decide, by decide, fun c c0 c1 => ?_⟩
    walk_at "d"
    · exact .inl ⟨by omega, by omega⟩
    walk_at "d"
    refine ⟨by decide, by decide, fun x x0 x1 => ?_⟩
    walk_at "d"
    refine ⟨by decide, by decide, fun y y0 y1 => ?_⟩
    walk_at "d"
    obtain ⟨gg, hgg⟩ : ∃ gg : Int, atI [D.int b, D.int (ss * c), D.int (0 - x)] y = some (.int gg) := by
      rcases (show y = 0 ∨ y = 1 ∨ y = 2 by omega) with rfl | rfl | rfl <;> exact ⟨_, rfl⟩
    refine od_ixL hgg ?_
    clear hgg
    refine wct_cut (fun ρ' => ρ' = [.un, .row, .v (.int (0 + (i : Int))), .v (.int ss), .v (.int gg), .v (.bl (decide (goodP gg ss))), .un, .un, .un, .un, .un, .un]) (wct_wc ?_) fun ρ' e => ?_
    · walk_at "d"
      by_cases h1 : 2 ≤ ss
      · rw [decide_eq_true h1]
        walk_at "d"
        by_cases h2 : ss ≤ 8
        · rw [decide_eq_true h2]
          walk_at "d"
          by_cases h3 : 2 ≤ gg
          · rw [decide_eq_true h3]
            walk_at "d"
            by_cases h4 : gg ≤ 64
            · rw [decide_eq_true h4]
              walk_at "d"
              · exact s0
              walk_at "d"
              rw [show decide (goodP gg ss) = decide (gg % ss = 0) from decide_eq_decide.mpr ⟨fun z => z.2.2.2.2, fun z => ⟨h1, h2, h3, h4, z⟩⟩]
            · rw [decide_eq_false h4]
              walk_at "d"
              rw [decide_eq_false (fun z : goodP gg ss => h4 z.2.2.2.1)]
          · rw [decide_eq_false h3]
            walk_at "d"
            rw [decide_eq_false (fun z : goodP gg ss => h3 z.2.2.1)]
        · rw [decide_eq_false h2]
          walk_at "d"
          rw [decide_eq_false (fun z : goodP gg ss => h2 z.2.1)]
      · rw [decide_eq_false h1]
        walk_at "d"
        rw [decide_eq_false (fun z : goodP gg ss => h1 z.1)]
    subst e
    refine wct_cut (fun ρ' => ρ' = [.un, .row, .v (.int (0 + (i : Int))), .v (.int ss), .v (.int gg), .v (.bl (decide (goodP gg ss))), .un, .un, .un, .un, .un, .un]) ?_ fun ρ' e => ?_
    · by_cases hg : goodP gg ss
      · rw [decide_eq_true hg]
        refine wct_ifcmp (we_lam2 (vs := [.int gg, .int ss]) (w := Str.ofString "") (fun _ => rfl) rfl (fun r H σ E => ?_) (fun f c' => ?_) ?_)
        · obtain ⟨v4, e4, r4⟩ := E.at_ 4 _ rfl
          obtain ⟨v3, e3, r3⟩ := E.at_ 3 _ rfl
          obtain rfl := rep_int.mp r4
          obtain rfl := rep_int.mp r3
          show [NdefX.slotAt σ 4, NdefX.slotAt σ 3] = _
          unfold NdefX.slotAt
          simp [e4, e3]
        · exact lam_ok (Po := fun d => d = D.str (Str.ofString "")) hg rfl
        · walk_at "d"
          refine cd_intB ?_
          refine od_ixL (d := .str (Str.ofString "")) rfl ?_
          refine od_neD (by decide +kernel) (by decide +kernel) ?_
          rw [show beqD (.str (Str.ofString "")) (.str (Str.ofString "")) = true by decide +kernel]
          exact ⟨_, rfl, (fun z => nomatch z), fun _ => wct_wc (wc_next rfl)⟩
      · rw [decide_eq_false hg]
        refine wct_ifcmp (we_lam2 (vs := [.int gg, .int ss]) (w := Str.ofString "party") (fun _ => rfl) rfl (fun r H σ E => ?_) (fun f c' => ?_) ?_)
        · obtain ⟨v4, e4, r4⟩ := E.at_ 4 _ rfl
          obtain ⟨v3, e3, r3⟩ := E.at_ 3 _ rfl
          obtain rfl := rep_int.mp r4
          obtain rfl := rep_int.mp r3
          show [NdefX.slotAt σ 4, NdefX.slotAt σ 3] = _
          unfold NdefX.slotAt
          simp [e4, e3]
        · exact lam_pl XM_BadRound_PartyError XM_BadParty_PartyError XC_BadRound XC_BadParty KT_BadRound_BadParty KT_BadRound_BadRound KT_BadRound_BadText KT_BadRound_BadTurning KT_BadParty_BadParty KT_BadParty_BadRound KT_BadParty_BadText KT_BadParty_BadTurning KV_BadRound KV_BadParty (Po := fun d => d = D.str (Str.ofString "party")) hg rfl
        · walk_at "d"
          refine cd_intB ?_
          refine od_ixL (d := .str (Str.ofString "party")) rfl ?_
          refine od_neD (by decide +kernel) (by decide +kernel) ?_
          rw [show beqD (.str (Str.ofString "party")) (.str (Str.ofString "party")) = true by decide +kernel]
          exact ⟨_, rfl, (fun z => nomatch z), fun _ => wct_wc (wc_next rfl)⟩
    subst e
    refine wct_cut (fun ρ' => ∃ e6, ρ' = [.un, .row, .v (.int (0 + (i : Int))), .v (.int ss), .v (.int gg), .v (.bl (decide (goodP gg ss))), e6, .un, .un, .un, .un, .un]) (wct_wc ?_) fun ρ' e => ?_
    · by_cases hg : goodP gg ss
      · rw [decide_eq_true hg]
        walk_at "d"
        refine ⟨hg, ?_⟩
        walk_at "d"
        refine ⟨by omega, by omega, ?_⟩
        walk_at "d"
        · exact ⟨s0, by omega⟩
        walk_at "d"
        refine ⟨⟨Nat.le_of_ble_eq_true rfl, fun x hx => ?_⟩, ?_⟩
        · simp only [List.mem_cons, List.not_mem_nil, or_false] at hx
          rcases hx with rfl | rfl | rfl <;> trivial
        refine ⟨_, rfl, (fun z => nomatch z), fun _ => wc_next ⟨_, rfl⟩⟩
      · rw [decide_eq_false hg]
        walk_at "d"
        exact ⟨_, rfl⟩
    obtain ⟨e6, rfl⟩ := e
    refine wct_seqc ?_
    walk_at "d"
    refine ⟨rfl, fun gs hgs => ?_⟩
    obtain ⟨g, s'⟩ := gs
    have hg := few_good _ hgs
    obtain ⟨h1, h2, h3, h4, h5⟩ := id hg
    walk_at "d"
    refine wct_seqc ?_
    walk_at "d"
    refine ⟨hg, ?_⟩
    walk_at "d"
    refine wct_seqc ?_
    walk_at "d"
    refine ⟨hg, by decide, by decide, fun p gp pl => ?_⟩
    refine wct_seqc ?_
    walk_at "d"
    have lp : ((p.map tT).length : Int) = p.length := by rw [List.length_map]
    refine ⟨by omega, by omega, fun k k0 k1 => ?_⟩
    rw [lp] at k1
    refine wct_seqc ?_
    walk_at "d"
    refine wct_freeze 9 rfl ?_
    show WcT _ _ _ [.un, .row, .v (.int (0 + (i : Int))), .v (.int s'), .v (.int g), .v (.bl (decide (goodP gg ss))), .v (.pty g s'), .l (p.map tT), .v (.int k), .v (.lst ((oddR g).map tT)), .un, .un] _
    refine wct_seqc (wc_ins (i := 7) (ds := p.map tT) rfl ?_)
    walk_at "d"
    refine ⟨by decide, by decide, fun o o0 o1 => ?_⟩
    walk_at "d"
    have ov : o.toNat < (oddR g).length := by show o.toNat < 7; omega
    refine od_ixL (atI_ix' (f := tT) (xs := oddR g) (k := o.toNat) (by omega) ov) ?_
    obtain ⟨r, hr⟩ : ∃ r, r = (oddR g)[o.toNat] := ⟨_, rfl⟩
    rw [← hr]
    obtain ⟨hno, hsm⟩ := odd_no hg r (by rw [hr]; exact List.getElem_mem _)
    clear hr
    refine ⟨k, rfl, by rw [List.length_map]; exact Nat.lt_of_lt_of_le (m := 1000) (by omega) (by decide), k0, by omega, ?_⟩
    obtain ⟨m, rfl⟩ : ∃ m : Nat, k = (m : Int) := ⟨k.toNat, by omega⟩
    rw [Int.toNat_natCast, show (p.map tT).take m ++ [tT r] ++ (p.map tT).drop m = (p.take m ++ [r] ++ p.drop m).map tT by simp [List.map_take, List.map_drop]]
    obtain ⟨p1, hp1⟩ : ∃ p1, p1 = p.take m ++ [r] ++ p.drop m := ⟨_, rfl⟩
    rw [← hp1]
    refine wct_seqc ?_
    walk_at "d"
    refine ⟨by decide, by decide, fun t t0 t1 => ?_⟩
    walk_at "d"
    obtain ⟨q, hq, ql⟩ : ∃ q : List (List (List Int)), DL.cutD [D.tup [D.tup [D.int g]]] none (some t) = q.map tT ∧ q.length ≤ 1 := by
      rcases (show t = 0 ∨ t = 1 by omega) with rfl | rfl
      · exact ⟨[], rfl, by decide⟩
      · exact ⟨[[[g]]], rfl, Nat.le_refl 1⟩
    rw [hq]
    have hb : BadAt g s' (p1 ++ q) m := by rw [hp1]; exact bad_at hg gp.rnd (by omega) ql (by omega) hno hsm
    have l2 := hb.len
    rw [List.length_append] at l2
    refine ol_cat (by rw [List.length_map, List.length_map]; exact Nat.le_of_lt (Nat.lt_of_le_of_lt l2 (by decide))) ?_
    rw [← List.map_append]
    obtain ⟨p2, hp2⟩ : ∃ p2, p2 = p1 ++ q := ⟨_, rfl⟩
    rw [← hp2] at hb ⊢
    refine wct_freeze 7 rfl ?_
    refine wct_seqc (wc_setl (wl_cb (r1 := rListB _) (wab_cons (wb_var rfl (wab_nil (cl_listL ?_))))))
    refine wct_freeze 10 rfl ?_
    show WcT _ _ _ [.un, .row, .v (.int (0 + (i : Int))), .v (.int s'), .v (.int g), .v (.bl (decide (goodP gg ss))), .v (.pty g s'), .v (lT p2), .v (.int m), .v (.lst ((oddR g).map tT)), .v (lT p2), .un] _
    refine wct_forL (we_clos (q := qW) (Λ := wkLam) (y1 := y1W) (y2 := y2W) (n := 10) (d1 := .pty g s') (d2 := lT p2) ?_ fun ds dl hd => ?_)
    · walk_at "d"
    · refine ⟨ds, rfl, fun _ ρ' => ∃ e11, ρ' = [.un, .row, .v (.int (0 + (i : Int))), .v (.int s'), .v (.int g), .v (.bl (decide (goodP gg ss))), .v (.pty g s'), .v (lT p2), .v (.int m), .v (.lst ((oddR g).map tT)), .v (lT p2), e11], ⟨_, rfl⟩, fun pre x post ρ' e hI => ?_, fun ρ' hI => ?_⟩
      · obtain ⟨e11, rfl⟩ := hI
        subst e
        have hx := hd pre.length x (by simp)
        have hj : pre.length < 10 := by simp at dl; omega
        refine wg_name ?_
        show Wc _ _ [.un, .row, .v (.int (0 + (i : Int))), .v (.int s'), .v (.int g), .v (.bl (decide (goodP gg ss))), .v (.pty g s'), .v (lT p2), .v (.int m), .v (.lst ((oddR g).map tT)), .v (lT p2), .v x] _
        walk_at "d"
        refine ⟨x, g, s', p2, m, rfl, ⟨pre.length, hj, hx⟩, ⟨by omega, by omega⟩, hb, ?_⟩
        walk_at "d"
        refine ⟨trivial, ?_⟩
        walk_at "d"
        refine od_neK kd_lT (by decide) ?_
        rw [decide_eq_true rfl]
        exact ⟨_, rfl, (fun z => nomatch z), fun _ => wc_next ⟨_, rfl⟩⟩
      · obtain ⟨e11, rfl⟩ := hI
        rfl
  · subst e
    exact wct_wc (wc_retB rfl)
end
end NF
namespace NF
open PySem PySem.Spec PyProof.Rows L2 DL
theorem all_mk {l : PySem.W.OpenLaw} {w : World} {K : PySem.W.Frag} {h : Heap} {mg : Str → Option Value} {fa : Addr} (X : K.In h) (G : h.Ns mainGlobals mg) (hfa : mg "law" = some (.ref fa))
    {C : Addr} {tS tG : Tok}
    {cBadRound : Addr}
    {cBadParty : Addr}
    {cBadTurning : Addr}
    {cPartyError : Addr}
    {cBadText : Addr}
    {f1 : Addr} {od1 an1 : Option Addr} {sl1 : Array (Option Value)} {oc1 kV1 dc1 pm1 cd1 ct1 : Value}
    {f2 : Addr} {od2 an2 : Option Addr} {sl2 : Array (Option Value)} {oc2 kV2 dc2 pm2 cd2 ct2 : Value}
    {f3 : Addr} {od3 an3 : Option Addr} {sl3 : Array (Option Value)} {oc3 kV3 dc3 pm3 cd3 ct3 : Value}
    {f4 : Addr} {od4 an4 : Option Addr} {sl4 : Array (Option Value)} {oc4 kV4 dc4 pm4 cd4 ct4 : Value}
    {f5 : Addr} {od5 an5 : Option Addr} {sl5 : Array (Option Value)} {oc5 kV5 dc5 pm5 cd5 ct5 : Value}
    {f6 : Addr} {od6 an6 : Option Addr} {sl6 : Array (Option Value)} {oc6 kV6 dc6 pm6 cd6 ct6 : Value}
    {f7 : Addr} {od7 an7 : Option Addr} {sl7 : Array (Option Value)} {oc7 kV7 dc7 pm7 cd7 ct7 : Value}
    {f8 : Addr} {od8 an8 : Option Addr} {sl8 : Array (Option Value)} {oc8 kV8 dc8 pm8 cd8 ct8 : Value}
    {f9 : Addr} {od9 an9 : Option Addr} {sl9 : Array (Option Value)} {oc9 kV9 dc9 pm9 cd9 ct9 : Value}
    {f10 : Addr} {od10 an10 : Option Addr} {sl10 : Array (Option Value)} {oc10 kV10 dc10 pm10 cd10 ct10 : Value}
    {f11 : Addr} {od11 an11 : Option Addr} {sl11 : Array (Option Value)} {oc11 kV11 dc11 pm11 cd11 ct11 : Value}
    {f12 : Addr} {od12 an12 : Option Addr} {sl12 : Array (Option Value)} {oc12 kV12 dc12 pm12 cd12 ct12 : Value}
    {f13 : Addr} {od13 an13 : Option Addr} {sl13 : Array (Option Value)} {oc13 kV13 dc13 pm13 cd13 ct13 : Value}
    {f14 : Addr} {od14 an14 : Option Addr} {sl14 : Array (Option Value)} {oc14 kV14 dc14 pm14 cd14 ct14 : Value}
    {f15 : Addr} {od15 an15 : Option Addr} {sl15 : Array (Option Value)} {oc15 kV15 dc15 pm15 cd15 ct15 : Value}
    {f16 : Addr} {od16 an16 : Option Addr} {sl16 : Array (Option Value)} {oc16 kV16 dc16 pm16 cd16 ct16 : Value}
    {f17 : Addr} {od17 an17 : Option Addr} {sl17 : Array (Option Value)} {oc17 kV17 dc17 pm17 cd17 ct17 : Value}
    {f18 : Addr} {od18 an18 : Option Addr} {sl18 : Array (Option Value)} {oc18 kV18 dc18 pm18 cd18 ct18 : Value}
    {f19 : Addr} {od19 an19 : Option Addr} {sl19 : Array (Option Value)} {oc19 kV19 dc19 pm19 cd19 ct19 : Value}
    {f20 : Addr} {od20 an20 : Option Addr} {sl20 : Array (Option Value)} {oc20 kV20 dc20 pm20 cd20 ct20 : Value}
    {f21 : Addr} {od21 an21 : Option Addr} {sl21 : Array (Option Value)} {oc21 kV21 dc21 pm21 cd21 ct21 : Value}
    {f22 : Addr} {od22 an22 : Option Addr} {sl22 : Array (Option Value)} {oc22 kV22 dc22 pm22 cd22 ct22 : Value}
    {f23 : Addr} {od23 an23 : Option Addr} {sl23 : Array (Option Value)} {oc23 kV23 dc23 pm23 cd23 ct23 : Value}
    {f24 : Addr} {od24 an24 : Option Addr} {sl24 : Array (Option Value)} {oc24 kV24 dc24 pm24 cd24 ct24 : Value}
    {f25 : Addr} {od25 an25 : Option Addr} {sl25 : Array (Option Value)} {oc25 kV25 dc25 pm25 cd25 ct25 : Value}
    {f26 : Addr} {od26 an26 : Option Addr} {sl26 : Array (Option Value)} {oc26 kV26 dc26 pm26 cd26 ct26 : Value}
    {f27 : Addr} {od27 an27 : Option Addr} {sl27 : Array (Option Value)} {oc27 kV27 dc27 pm27 cd27 ct27 : Value}
    {f28 : Addr} {od28 an28 : Option Addr} {sl28 : Array (Option Value)} {oc28 kV28 dc28 pm28 cd28 ct28 : Value}
    {f29 : Addr} {od29 an29 : Option Addr} {sl29 : Array (Option Value)} {oc29 kV29 dc29 pm29 ct29 : Value}
    {cT1 PT1 : Addr} {ocT1 : Value} {odT1 : Option Addr} {vT1 : Array Value} {slT1 : Array (Option Value)}
    {f30 : Addr} {od30 an30 : Option Addr} {sl30 : Array (Option Value)} {oc30 kV30 dc30 pm30 cd30 ct30 : Value}
    {f31 : Addr} {od31 an31 : Option Addr} {sl31 : Array (Option Value)} {oc31 kV31 dc31 pm31 ct31 : Value}
    {cT0 PT0 : Addr} {ocT0 : Value} {odT0 : Option Addr} {vT0 : Array Value} {slT0 : Array (Option Value)}
    {nmXBadRound qXBadRound : Str} {NXBadRound : Addr} {bsXBadRound bmXBadRound subXBadRound : List Value} {snXBadRound : List Str} {abXBadRound : Bool} {colXBadRound : Option Bool} {ddXBadRound : Option Addr} {k0XBadRound k1XBadRound k2XBadRound k3XBadRound k5XBadRound : Option Value}
    (aC : PySem.W.nsIn K mainGlobals "Party" = some (some (.ref C)))
    (enBadRound : PySem.W.nsIn K mainGlobals "BadRound" = some (some (.ref cBadRound)))
    (enBadParty : PySem.W.nsIn K mainGlobals "BadParty" = some (some (.ref cBadParty)))
    (enBadTurning : PySem.W.nsIn K mainGlobals "BadTurning" = some (some (.ref cBadTurning)))
    (enPartyError : PySem.W.nsIn K mainGlobals "PartyError" = some (some (.ref cPartyError)))
    (enBadText : PySem.W.nsIn K mainGlobals "BadText" = some (some (.ref cBadText)))
    (a1 : PySem.W.findIn K (.ref cBadRound) "__init__" = some (some (.ref f1)))
    (i1 : PySem.W.typeIn K (.ref f1) = some (.type "function"))
    (l1 : K.lookup f1 = some ⟨oc1, od1, .func (PySem.W.fnOf "__init__" "BadRound.__init__" (defArgs s_iniBadRound) (defBody s_iniBadRound) (defScope s_iniBadRound) .none kV1 dc1 pm1 an1 cd1 ct1), sl1⟩)
    (c1 : PySem.W.codeIn K cd1 "BadRound.__init__" = true)
    (k1 : PySem.W.keepIn K (.ref f1) = true)
    (a2 : PySem.W.findIn K (.ref C) "tables" = some (some (.ref f2)))
    (i2 : PySem.W.isFn K (.ref f2) = true)
    (l2 : K.lookup f2 = some ⟨oc2, od2, .func (PySem.W.fnOf "tables" "Party.tables" (defArgs s_tables) (defBody s_tables) (defScope s_tables) .none kV2 dc2 pm2 an2 cd2 ct2), sl2⟩)
    (c2 : PySem.W.codeIn K cd2 "Party.tables" = true)
    (k2 : PySem.W.keepIn K (.ref f2) = true)
    (a3 : PySem.W.findIn K (.ref C) "guests" = some (some (.ref f3)))
    (i3 : PySem.W.isFn K (.ref f3) = true)
    (l3 : K.lookup f3 = some ⟨oc3, od3, .func (PySem.W.fnOf "guests" "Party.guests" (defArgs s_guests) (defBody s_guests) (defScope s_guests) .none kV3 dc3 pm3 an3 cd3 ct3), sl3⟩)
    (c3 : PySem.W.codeIn K cd3 "Party.guests" = true)
    (k3 : PySem.W.keepIn K (.ref f3) = true)
    (a4 : PySem.W.findIn K (.ref C) "size" = some (some (.ref f4)))
    (i4 : PySem.W.isFn K (.ref f4) = true)
    (l4 : K.lookup f4 = some ⟨oc4, od4, .func (PySem.W.fnOf "size" "Party.size" (defArgs s_size) (defBody s_size) (defScope s_size) .none kV4 dc4 pm4 an4 cd4 ct4), sl4⟩)
    (c4 : PySem.W.codeIn K cd4 "Party.size" = true)
    (k4 : PySem.W.keepIn K (.ref f4) = true)
    (a5 : PySem.W.findIn K (.ref C) "__init__" = some (some (.ref f5)))
    (i5 : PySem.W.isFn K (.ref f5) = true)
    (l5 : K.lookup f5 = some ⟨oc5, od5, .func (PySem.W.fnOf "__init__" "Party.__init__" (defArgs s___init__) (defBody s___init__) (defScope s___init__) .none kV5 dc5 pm5 an5 cd5 ct5), sl5⟩)
    (c5 : PySem.W.codeIn K cd5 "Party.__init__" = true)
    (k5 : PySem.W.keepIn K (.ref f5) = true)
    (a6 : PySem.W.nsIn K mainGlobals "rises" = some (some (.ref f6)))
    (l6 : K.lookup f6 = some ⟨oc6, od6, .func (PySem.W.fnOf "rises" "rises" (defArgs s_rises) (defBody s_rises) (defScope s_rises) .none kV6 dc6 pm6 an6 cd6 ct6), sl6⟩)
    (c6 : PySem.W.codeIn K cd6 "rises" = true)
    (k6 : PySem.W.keepIn K (.ref f6) = true)
    (a7 : PySem.W.nsIn K mainGlobals "is_table" = some (some (.ref f7)))
    (l7 : K.lookup f7 = some ⟨oc7, od7, .func (PySem.W.fnOf "is_table" "is_table" (defArgs s_is_table) (defBody s_is_table) (defScope s_is_table) .none kV7 dc7 pm7 an7 cd7 ct7), sl7⟩)
    (c7 : PySem.W.codeIn K cd7 "is_table" = true)
    (k7 : PySem.W.keepIn K (.ref f7) = true)
    (a8 : PySem.W.nsIn K mainGlobals "is_round" = some (some (.ref f8)))
    (l8 : K.lookup f8 = some ⟨oc8, od8, .func (PySem.W.fnOf "is_round" "is_round" (defArgs s_is_round) (defBody s_is_round) (defScope s_is_round) .none kV8 dc8 pm8 an8 cd8 ct8), sl8⟩)
    (c8 : PySem.W.codeIn K cd8 "is_round" = true)
    (k8 : PySem.W.keepIn K (.ref f8) = true)
    (a9 : PySem.W.nsIn K mainGlobals "need_plan" = some (some (.ref f9)))
    (l9 : K.lookup f9 = some ⟨oc9, od9, .func (PySem.W.fnOf "need_plan" "need_plan" (defArgs s_need_plan) (defBody s_need_plan) (defScope s_need_plan) .none kV9 dc9 pm9 an9 cd9 ct9), sl9⟩)
    (c9 : PySem.W.codeIn K cd9 "need_plan" = true)
    (k9 : PySem.W.keepIn K (.ref f9) = true)
    (a10 : PySem.W.nsIn K mainGlobals "met" = some (some (.ref f10)))
    (l10 : K.lookup f10 = some ⟨oc10, od10, .func (PySem.W.fnOf "met" "met" (defArgs s_met) (defBody s_met) (defScope s_met) .none kV10 dc10 pm10 an10 cd10 ct10), sl10⟩)
    (c10 : PySem.W.codeIn K cd10 "met" = true)
    (k10 : PySem.W.keepIn K (.ref f10) = true)
    (a11 : PySem.W.nsIn K mainGlobals "unmet" = some (some (.ref f11)))
    (l11 : K.lookup f11 = some ⟨oc11, od11, .func (PySem.W.fnOf "unmet" "unmet" (defArgs s_unmet) (defBody s_unmet) (defScope s_unmet) .none kV11 dc11 pm11 an11 cd11 ct11), sl11⟩)
    (c11 : PySem.W.codeIn K cd11 "unmet" = true)
    (k11 : PySem.W.keepIn K (.ref f11) = true)
    (a12 : PySem.W.nsIn K mainGlobals "next_rounds" = some (some (.ref f12)))
    (l12 : K.lookup f12 = some ⟨oc12, od12, .func (PySem.W.fnOf "next_rounds" "next_rounds" (defArgs s_next_rounds) (defBody s_next_rounds) (defScope s_next_rounds) .none kV12 dc12 pm12 an12 cd12 ct12), sl12⟩)
    (c12 : PySem.W.codeIn K cd12 "next_rounds" = true)
    (k12 : PySem.W.keepIn K (.ref f12) = true)
    (a13 : PySem.W.nsIn K mainGlobals "bound" = some (some (.ref f13)))
    (l13 : K.lookup f13 = some ⟨oc13, od13, .func (PySem.W.fnOf "bound" "bound" (defArgs s_bound) (defBody s_bound) (defScope s_bound) .none kV13 dc13 pm13 an13 cd13 ct13), sl13⟩)
    (c13 : PySem.W.codeIn K cd13 "bound" = true)
    (k13 : PySem.W.keepIn K (.ref f13) = true)
    (a14 : PySem.W.nsIn K mainGlobals "longest" = some (some (.ref f14)))
    (l14 : K.lookup f14 = some ⟨oc14, od14, .func (PySem.W.fnOf "longest" "longest" (defArgs s_longest) (defBody s_longest) (defScope s_longest) .none kV14 dc14 pm14 an14 cd14 ct14), sl14⟩)
    (c14 : PySem.W.codeIn K cd14 "longest" = true)
    (k14 : PySem.W.keepIn K (.ref f14) = true)
    (a15 : PySem.W.nsIn K mainGlobals "hosts" = some (some (.ref f15)))
    (l15 : K.lookup f15 = some ⟨oc15, od15, .func (PySem.W.fnOf "hosts" "hosts" (defArgs s_hosts) (defBody s_hosts) (defScope s_hosts) .none kV15 dc15 pm15 an15 cd15 ct15), sl15⟩)
    (c15 : PySem.W.codeIn K cd15 "hosts" = true)
    (k15 : PySem.W.keepIn K (.ref f15) = true)
    (a16 : PySem.W.nsIn K mainGlobals "comes" = some (some (.ref f16)))
    (l16 : K.lookup f16 = some ⟨oc16, od16, .func (PySem.W.fnOf "comes" "comes" (defArgs s_comes) (defBody s_comes) (defScope s_comes) .none kV16 dc16 pm16 an16 cd16 ct16), sl16⟩)
    (c16 : PySem.W.codeIn K cd16 "comes" = true)
    (k16 : PySem.W.keepIn K (.ref f16) = true)
    (a17 : PySem.W.nsIn K mainGlobals "leaves" = some (some (.ref f17)))
    (l17 : K.lookup f17 = some ⟨oc17, od17, .func (PySem.W.fnOf "leaves" "leaves" (defArgs s_leaves) (defBody s_leaves) (defScope s_leaves) .none kV17 dc17 pm17 an17 cd17 ct17), sl17⟩)
    (c17 : PySem.W.codeIn K cd17 "leaves" = true)
    (k17 : PySem.W.keepIn K (.ref f17) = true)
    (a18 : PySem.W.nsIn K mainGlobals "alike" = some (some (.ref f18)))
    (l18 : K.lookup f18 = some ⟨oc18, od18, .func (PySem.W.fnOf "alike" "alike" (defArgs s_alike) (defBody s_alike) (defScope s_alike) .none kV18 dc18 pm18 an18 cd18 ct18), sl18⟩)
    (c18 : PySem.W.codeIn K cd18 "alike" = true)
    (k18 : PySem.W.keepIn K (.ref f18) = true)
    (a19 : PySem.W.nsIn K mainGlobals "_law_taken" = some (some (.ref f19)))
    (l19 : K.lookup f19 = some ⟨oc19, od19, .func (PySem.W.fnOf "_law_taken" "_law_taken" (defArgs s__law_taken) (defBody s__law_taken) (defScope s__law_taken) .none kV19 dc19 pm19 an19 cd19 ct19), sl19⟩)
    (c19 : PySem.W.codeIn K cd19 "_law_taken" = true)
    (k19 : PySem.W.keepIn K (.ref f19) = true)
    (a20 : PySem.W.nsIn K mainGlobals "_law_few" = some (some (.ref f20)))
    (l20 : K.lookup f20 = some ⟨oc20, od20, .func (PySem.W.fnOf "_law_few" "_law_few" (defArgs s__law_few) (defBody s__law_few) (defScope s__law_few) .none kV20 dc20 pm20 an20 cd20 ct20), sl20⟩)
    (c20 : PySem.W.codeIn K cd20 "_law_few" = true)
    (k20 : PySem.W.keepIn K (.ref f20) = true)
    (a21 : PySem.W.nsIn K mainGlobals "_law_mixed" = some (some (.ref f21)))
    (l21 : K.lookup f21 = some ⟨oc21, od21, .func (PySem.W.fnOf "_law_mixed" "_law_mixed" (defArgs s__law_mixed) (defBody s__law_mixed) (defScope s__law_mixed) .none kV21 dc21 pm21 an21 cd21 ct21), sl21⟩)
    (c21 : PySem.W.codeIn K cd21 "_law_mixed" = true)
    (k21 : PySem.W.keepIn K (.ref f21) = true)
    (a22 : PySem.W.nsIn K mainGlobals "_law_seated" = some (some (.ref f22)))
    (l22 : K.lookup f22 = some ⟨oc22, od22, .func (PySem.W.fnOf "_law_seated" "_law_seated" (defArgs s__law_seated) (defBody s__law_seated) (defScope s__law_seated) .none kV22 dc22 pm22 an22 cd22 ct22), sl22⟩)
    (c22 : PySem.W.codeIn K cd22 "_law_seated" = true)
    (k22 : PySem.W.keepIn K (.ref f22) = true)
    (a23 : PySem.W.nsIn K mainGlobals "_law_pairs" = some (some (.ref f23)))
    (l23 : K.lookup f23 = some ⟨oc23, od23, .func (PySem.W.fnOf "_law_pairs" "_law_pairs" (defArgs s__law_pairs) (defBody s__law_pairs) (defScope s__law_pairs) .none kV23 dc23 pm23 an23 cd23 ct23), sl23⟩)
    (c23 : PySem.W.codeIn K cd23 "_law_pairs" = true)
    (k23 : PySem.W.keepIn K (.ref f23) = true)
    (a24 : PySem.W.nsIn K mainGlobals "_law_known" = some (some (.ref f24)))
    (l24 : K.lookup f24 = some ⟨oc24, od24, .func (PySem.W.fnOf "_law_known" "_law_known" (defArgs s__law_known) (defBody s__law_known) (defScope s__law_known) .none kV24 dc24 pm24 an24 cd24 ct24), sl24⟩)
    (c24 : PySem.W.codeIn K cd24 "_law_known" = true)
    (k24 : PySem.W.keepIn K (.ref f24) = true)
    (a25 : PySem.W.nsIn K mainGlobals "_law_new" = some (some (.ref f25)))
    (l25 : K.lookup f25 = some ⟨oc25, od25, .func (PySem.W.fnOf "_law_new" "_law_new" (defArgs s__law_new) (defBody s__law_new) (defScope s__law_new) .none kV25 dc25 pm25 an25 cd25 ct25), sl25⟩)
    (c25 : PySem.W.codeIn K cd25 "_law_new" = true)
    (k25 : PySem.W.keepIn K (.ref f25) = true)
    (a26 : PySem.W.nsIn K mainGlobals "_law_thin" = some (some (.ref f26)))
    (l26 : K.lookup f26 = some ⟨oc26, od26, .func (PySem.W.fnOf "_law_thin" "_law_thin" (defArgs s__law_thin) (defBody s__law_thin) (defScope s__law_thin) .none kV26 dc26 pm26 an26 cd26 ct26), sl26⟩)
    (c26 : PySem.W.codeIn K cd26 "_law_thin" = true)
    (k26 : PySem.W.keepIn K (.ref f26) = true)
    (a27 : PySem.W.nsIn K mainGlobals "_law_plan" = some (some (.ref f27)))
    (l27 : K.lookup f27 = some ⟨oc27, od27, .func (PySem.W.fnOf "_law_plan" "_law_plan" (defArgs s__law_plan) (defBody s__law_plan) (defScope s__law_plan) .none kV27 dc27 pm27 an27 cd27 ct27), sl27⟩)
    (c27 : PySem.W.codeIn K cd27 "_law_plan" = true)
    (k27 : PySem.W.keepIn K (.ref f27) = true)
    (a28 : PySem.W.nsIn K mainGlobals "_law_alike" = some (some (.ref f28)))
    (l28 : K.lookup f28 = some ⟨oc28, od28, .func (PySem.W.fnOf "_law_alike" "_law_alike" (defArgs s__law_alike) (defBody s__law_alike) (defScope s__law_alike) .none kV28 dc28 pm28 an28 cd28 ct28), sl28⟩)
    (c28 : PySem.W.codeIn K cd28 "_law_alike" = true)
    (k28 : PySem.W.keepIn K (.ref f28) = true)
    (a29 : PySem.W.nsIn K mainGlobals "_law_works" = some (some (.ref f29)))
    (l29 : K.lookup f29 = some ⟨oc29, od29, .func (PySem.W.fnOf "_law_works" "_law_works" (defArgs s__law_works) (defBody s__law_works) (defScope s__law_works) .none kV29 dc29 pm29 an29 (.ref cT1) ct29), sl29⟩)
    (c29 : PySem.W.codeIn K (.ref cT1) "_law_works" = true)
    (lkT1 : K.lookup cT1 = some ⟨ocT1, odT1, .fields vT1, slT1⟩)
    (vvT1 : vT1[11]? = some (.ref PT1))
    (hdT1 : PySem.W.codeHdIn K cT1 PT1 = true)
    (ntT1 : K.lookup PT1 = none)
    (tbT1 : h.get? PT1 = some (PySem.W.tabObj #[]))
    (k29 : PySem.W.keepIn K (.ref f29) = true)
    (a30 : PySem.W.nsIn K mainGlobals "_law_word" = some (some (.ref f30)))
    (l30 : K.lookup f30 = some ⟨oc30, od30, .func (PySem.W.fnOf "_law_word" "_law_word" (defArgs s__law_word) (defBody s__law_word) (defScope s__law_word) .none kV30 dc30 pm30 an30 cd30 ct30), sl30⟩)
    (c30 : PySem.W.codeIn K cd30 "_law_word" = true)
    (k30 : PySem.W.keepIn K (.ref f30) = true)
    (a31 : PySem.W.nsIn K mainGlobals "law" = some (some (.ref f31)))
    (l31 : K.lookup f31 = some ⟨oc31, od31, .func (PySem.W.fnOf "law" "law" (defArgs s_law) (defBody s_law) (defScope s_law) .none kV31 dc31 pm31 an31 (.ref cT0) ct31), sl31⟩)
    (c31 : PySem.W.codeIn K (.ref cT0) "law" = true)
    (lkT0 : K.lookup cT0 = some ⟨ocT0, odT0, .fields vT0, slT0⟩)
    (vvT0 : vT0[11]? = some (.ref PT0))
    (hdT0 : PySem.W.codeHdIn K cT0 PT0 = true)
    (ntT0 : K.lookup PT0 = none)
    (tbT0 : h.get? PT0 = some (PySem.W.tabObj #[]))
    (k31 : PySem.W.keepIn K (.ref f31) = true)
    (pg : PySem.W.plainGet K C Str.empty = true)
    (hd : PySem.W.hasDictIn K C = true)
    (po : PySem.W.plainOver K C = true)
    (sa : PySem.W.findIn K (.ref C) "__setattr__" = some (some (.builtin "object.__setattr__")))
    (mk : PySem.W.makesIn K C = true)
    (kc : PySem.W.keepIn K (.ref C) = true)
    (nM : PySem.W.findIn K (.ref C) "many" = some none)
    (nS : PySem.W.findIn K (.ref C) "seats" = some none)
    (cS : PySem.W.nsIn K mainGlobals "MOST_SEATS" = some (some (.int 8 tS)))
    (cG : PySem.W.nsIn K mainGlobals "MOST_GUESTS" = some (some (.int 64 tG)))
    (bnValueError : PySem.W.nsIn K mainGlobals "ValueError" = some none)
    (ebPartyError : PySem.W.subIn K (.ref cPartyError) (.type "BaseException") = some true)
    (etPartyError : PySem.W.typeIn K (.ref cPartyError) = some (.type "type"))
    (eiPartyError : PySem.W.hasDictIn K cPartyError = true)
    (esXM_BadRound_PartyError : PySem.W.subIn K (.ref cBadRound) (.ref cPartyError) = some true)
    (esXM_BadParty_PartyError : PySem.W.subIn K (.ref cBadParty) (.ref cPartyError) = some true)
    (ebBadRound : PySem.W.subIn K (.ref cBadRound) (.type "BaseException") = some true)
    (etBadRound : PySem.W.typeIn K (.ref cBadRound) = some (.type "type"))
    (eiBadRound : PySem.W.hasDictIn K cBadRound = true)
    (gaBadRound : PySem.W.findIn K (.ref cBadRound) "__getattribute__" = some (some (.builtin "BaseException.__getattribute__")))
    (ggBadRound : PySem.W.findIn K (.ref cBadRound) "__getattr__" = some none)
    (caBadRound : PySem.W.findIn K (.ref cBadRound) "__class__" = some (some (.builtin "object.__class__")))
    (moBadRound : PySem.W.mroIn K cBadRound (.type "object") = some true)
    (oc_n : PySem.W.specialIn K (.builtin "object.__class__") "__get__" = some (some (.builtin "getset_descriptor.__get__")))
    (oc_t : PySem.W.takesIn K (.builtin "object.__class__") = some true)
    (ebBadParty : PySem.W.subIn K (.ref cBadParty) (.type "BaseException") = some true)
    (etBadParty : PySem.W.typeIn K (.ref cBadParty) = some (.type "type"))
    (eiBadParty : PySem.W.hasDictIn K cBadParty = true)
    (gaBadParty : PySem.W.findIn K (.ref cBadParty) "__getattribute__" = some (some (.builtin "BaseException.__getattribute__")))
    (ggBadParty : PySem.W.findIn K (.ref cBadParty) "__getattr__" = some none)
    (caBadParty : PySem.W.findIn K (.ref cBadParty) "__class__" = some (some (.builtin "object.__class__")))
    (moBadParty : PySem.W.mroIn K cBadParty (.type "object") = some true)
    (ktKT_BadRound_BadParty : PySem.W.kitOne K (.ref cBadRound) (.ref cBadParty) = some false)
    (ktKT_BadRound_BadRound : PySem.W.kitOne K (.ref cBadRound) (.ref cBadRound) = some true)
    (ktKT_BadRound_BadText : PySem.W.kitOne K (.ref cBadRound) (.ref cBadText) = some false)
    (ktKT_BadRound_BadTurning : PySem.W.kitOne K (.ref cBadRound) (.ref cBadTurning) = some false)
    (ktKT_BadParty_BadParty : PySem.W.kitOne K (.ref cBadParty) (.ref cBadParty) = some true)
    (ktKT_BadParty_BadRound : PySem.W.kitOne K (.ref cBadParty) (.ref cBadRound) = some false)
    (ktKT_BadParty_BadText : PySem.W.kitOne K (.ref cBadParty) (.ref cBadText) = some false)
    (ktKT_BadParty_BadTurning : PySem.W.kitOne K (.ref cBadParty) (.ref cBadTurning) = some false)
    (ktKV_BadRound : PySem.W.kitOne K (.ref cBadRound) (.type "ValueError") = some true)
    (ktKV_BadParty : PySem.W.kitOne K (.ref cBadParty) (.type "ValueError") = some true)
    (ekBadParty : PySem.W.keepIn K (.ref cBadParty) = true)
    (exBadParty : PySem.W.excIn K cBadParty [.type "ValueError", .type "Exception", .type "BaseException", .type "object"] "ValueError.__new__" = true)
    (pe_rd : PySem.W.readsIn K cPartyError (.type "type") = true)
    (pe_ga : PySem.W.specialIn K (.ref cPartyError) "__getattribute__" = some (some (.builtin "type.__getattribute__")))
    (pe_in : PySem.W.findCls K (.ref cPartyError) (.type "type") "__init__" = some (.val (.builtin "ValueError.__init__")))
    (ekBadRound : PySem.W.keepIn K (.ref cBadRound) = true)
    (lkBadRound : K.lookup cBadRound = some (excClassObj nmXBadRound qXBadRound cBadRound NXBadRound bsXBadRound bmXBadRound true snXBadRound subXBadRound abXBadRound colXBadRound ddXBadRound k0XBadRound k1XBadRound k2XBadRound k3XBadRound k5XBadRound "ValueError.__new__"))
    (rfBadRound : PySem.HandSPX.refsVE bmXBadRound = true)
    (saBadRound : PySem.W.findIn K (.ref cBadRound) "__setattr__" = some (some (.builtin "object.__setattr__")))
    (nfBadRound : PySem.W.findIn K (.ref cBadRound) "number" = some none)
    (z_len : PySem.W.nsIn K mainGlobals "len" = some none)
    (z_range : PySem.W.nsIn K mainGlobals "range" = some none)
    (z_sorted : PySem.W.nsIn K mainGlobals "sorted" = some none)
    (z_tuple : PySem.W.nsIn K mainGlobals "tuple" = some none)
    (z_list : PySem.W.nsIn K mainGlobals "list" = some none)
    (z_min : PySem.W.nsIn K mainGlobals "min" = some none)
    (z_max : PySem.W.nsIn K mainGlobals "max" = some none)
    (z_sum : PySem.W.nsIn K mainGlobals "sum" = some none)
    (z_abs : PySem.W.nsIn K mainGlobals "abs" = some none)
    (z_int : PySem.W.nsIn K mainGlobals "int" = some none)
    (z_isinstance : PySem.W.nsIn K mainGlobals "isinstance" = some none)
    (z_set : PySem.W.nsIn K mainGlobals "set" = some none)
    (z_str : PySem.W.nsIn K mainGlobals "str" = some none)
    (z_bool : PySem.W.nsIn K mainGlobals "bool" = some none)
    (neT : PT0 ≠ PT1) :
    LamX.LawAtS l w K CX0 21 63 "_law_script" mg fa h := by
  have e := hfa.symm.trans (PySem.W.mg_of X G a31)
  cases e
  have T : Tx K mg C := ⟨⟨pg, hd, po, sa⟩, nM, nS, PySem.W.mg_of X G aC, ⟨_, PySem.W.mg_of X G cS, ⟨_, rfl⟩⟩, ⟨_, PySem.W.mg_of X G cG, ⟨_, rfl⟩⟩⟩
  have B : Blt mg := ⟨PySem.W.mg_none_of X G z_len, PySem.W.mg_none_of X G z_range, PySem.W.mg_none_of X G z_sorted, PySem.W.mg_none_of X G z_tuple, PySem.W.mg_none_of X G z_list, PySem.W.mg_none_of X G z_min, PySem.W.mg_none_of X G z_max, PySem.W.mg_none_of X G z_sum, PySem.W.mg_none_of X G z_abs, PySem.W.mg_none_of X G z_int, PySem.W.mg_none_of X G z_isinstance, PySem.W.mg_none_of X G z_set, PySem.W.mg_none_of X G z_str, PySem.W.mg_none_of X G z_bool⟩
  have GN_BadParty : mg "BadParty" = some (.ref cBadParty) := PySem.W.mg_of X G enBadParty
  have GN_BadTurning : mg "BadTurning" = some (.ref cBadTurning) := PySem.W.mg_of X G enBadTurning
  have GN_PartyError : mg "PartyError" = some (.ref cPartyError) := PySem.W.mg_of X G enPartyError
  have GN_BadRound : mg "BadRound" = some (.ref cBadRound) := PySem.W.mg_of X G enBadRound
  have GN_BadText : mg "BadText" = some (.ref cBadText) := PySem.W.mg_of X G enBadText
  have BN_ValueError := PySem.W.mg_none_of X G bnValueError
  have XM_BadRound_PartyError := PySem.W.exm_ref ebPartyError eiPartyError etPartyError esXM_BadRound_PartyError
  have XM_BadParty_PartyError := PySem.W.exm_ref ebPartyError eiPartyError etPartyError esXM_BadParty_PartyError
  have XC_BadRound : ExcC K cBadRound := ⟨gaBadRound, ggBadRound, ebBadRound, eiBadRound, caBadRound, oc_n, oc_t, moBadRound⟩
  have XC_BadParty : ExcC K cBadParty := ⟨gaBadParty, ggBadParty, ebBadParty, eiBadParty, caBadParty, oc_n, oc_t, moBadParty⟩
  have KT_BadRound_BadParty := ktKT_BadRound_BadParty
  have KT_BadRound_BadRound := ktKT_BadRound_BadRound
  have KT_BadRound_BadText := ktKT_BadRound_BadText
  have KT_BadRound_BadTurning := ktKT_BadRound_BadTurning
  have KT_BadParty_BadParty := ktKT_BadParty_BadParty
  have KT_BadParty_BadRound := ktKT_BadParty_BadRound
  have KT_BadParty_BadText := ktKT_BadParty_BadText
  have KT_BadParty_BadTurning := ktKT_BadParty_BadTurning
  have KV_BadRound := ktKV_BadRound
  have KV_BadParty := ktKV_BadParty
  have EP_BadParty : Ep K mg "BadParty" cBadParty := ⟨PySem.W.mg_of X G enBadParty, exBadParty, ekBadParty, ebBadParty, etBadParty⟩
  have OX_BadRound : OexC K cBadRound := ⟨⟨_, _, _, _, _, _, _, _, _, _, _, _, _, _, _, lkBadRound, rfBadRound⟩, saBadRound, ebBadRound, etBadRound, ekBadRound⟩
  have F1 := fun_mk (st := s_iniBadRound) l1 c1 k1
  have b1 := F1.binds (ps := ["self", "number"]) fun _ _ _ _ _ _ us hl => match us, hl with | [_, _], _ => rfl
  have F2 := fun_mk (st := s_tables) l2 c2 k2
  have b2 := F2.binds (ps := ["self"]) fun _ _ _ _ _ _ us hl => match us, hl with | [_], _ => rfl
  have F3 := fun_mk (st := s_guests) l3 c3 k3
  have b3 := F3.binds (ps := ["self"]) fun _ _ _ _ _ _ us hl => match us, hl with | [_], _ => rfl
  have F4 := fun_mk (st := s_size) l4 c4 k4
  have b4 := F4.binds (ps := ["self"]) fun _ _ _ _ _ _ us hl => match us, hl with | [_], _ => rfl
  have F5 := fun_mk (st := s___init__) l5 c5 k5
  have b5 := F5.binds (ps := ["self", "guests", "size"]) fun _ _ _ _ _ _ us hl => match us, hl with | [_, _, _], _ => rfl
  have F6 := fun_mk (st := s_rises) l6 c6 k6
  have b6 := F6.binds (ps := ["numbers"]) fun _ _ _ _ _ _ us hl => match us, hl with | [_], _ => rfl
  have F7 := fun_mk (st := s_is_table) l7 c7 k7
  have b7 := F7.binds (ps := ["party", "table"]) fun _ _ _ _ _ _ us hl => match us, hl with | [_, _], _ => rfl
  have F8 := fun_mk (st := s_is_round) l8 c8 k8
  have b8 := F8.binds (ps := ["party", "tables"]) fun _ _ _ _ _ _ us hl => match us, hl with | [_, _], _ => rfl
  have F9 := fun_mk (st := s_need_plan) l9 c9 k9
  have b9 := F9.binds (ps := ["party", "plan"]) fun _ _ _ _ _ _ us hl => match us, hl with | [_, _], _ => rfl
  have F10 := fun_mk (st := s_met) l10 c10 k10
  have b10 := F10.binds (ps := ["party", "plan"]) fun _ _ _ _ _ _ us hl => match us, hl with | [_, _], _ => rfl
  have F11 := fun_mk (st := s_unmet) l11 c11 k11
  have b11 := F11.binds (ps := ["party", "plan"]) fun _ _ _ _ _ _ us hl => match us, hl with | [_, _], _ => rfl
  have F12 := fun_mk (st := s_next_rounds) l12 c12 k12
  have b12 := F12.binds (ps := ["party", "plan"]) fun _ _ _ _ _ _ us hl => match us, hl with | [_, _], _ => rfl
  have F13 := fun_mk (st := s_bound) l13 c13 k13
  have b13 := F13.binds (ps := ["party", "plan"]) fun _ _ _ _ _ _ us hl => match us, hl with | [_, _], _ => rfl
  have F14 := fun_mk (st := s_longest) l14 c14 k14
  have b14 := F14.binds (ps := ["party", "plan"]) fun _ _ _ _ _ _ us hl => match us, hl with | [_, _], _ => rfl
  have F15 := fun_mk (st := s_hosts) l15 c15 k15
  have b15 := F15.binds (ps := ["party", "plan"]) fun _ _ _ _ _ _ us hl => match us, hl with | [_, _], _ => rfl
  have F16 := fun_mk (st := s_comes) l16 c16 k16
  have b16 := F16.binds (ps := ["party", "plan", "first"]) fun _ _ _ _ _ _ us hl => match us, hl with | [_, _, _], _ => rfl
  have F17 := fun_mk (st := s_leaves) l17 c17 k17
  have b17 := F17.binds (ps := ["party", "plan", "guest", "last"]) fun _ _ _ _ _ _ us hl => match us, hl with | [_, _, _, _], _ => rfl
  have F18 := fun_mk (st := s_alike) l18 c18 k18
  have b18 := F18.binds (ps := ["party", "one", "other"]) fun _ _ _ _ _ _ us hl => match us, hl with | [_, _, _], _ => rfl
  have F19 := fun_mk (st := s__law_taken) l19 c19 k19
  have b19 := F19.binds (ps := ["_law_row", "_law_many"]) fun _ _ _ _ _ _ us hl => match us, hl with | [_, _], _ => rfl
  have F20 := fun_mk (st := s__law_few) l20 c20 k20
  have b20 := F20.binds (ps := ["_law_row"]) fun _ _ _ _ _ _ us hl => match us, hl with | [_], _ => rfl
  have F21 := fun_mk (st := s__law_mixed) l21 c21 k21
  have b21 := F21.binds (ps := ["_law_row", "_law_some"]) fun _ _ _ _ _ _ us hl => match us, hl with | [_, _], _ => rfl
  have F22 := fun_mk (st := s__law_seated) l22 c22 k22
  have b22 := F22.binds (ps := ["_law_guests", "_law_size"]) fun _ _ _ _ _ _ us hl => match us, hl with | [_, _], _ => rfl
  have F23 := fun_mk (st := s__law_pairs) l23 c23 k23
  have b23 := F23.binds (ps := ["_law_tables"]) fun _ _ _ _ _ _ us hl => match us, hl with | [_], _ => rfl
  have F24 := fun_mk (st := s__law_known) l24 c24 k24
  have b24 := F24.binds (ps := ["_law_plan_here"]) fun _ _ _ _ _ _ us hl => match us, hl with | [_], _ => rfl
  have F25 := fun_mk (st := s__law_new) l25 c25 k25
  have b25 := F25.binds (ps := ["_law_tables", "_law_plan_here"]) fun _ _ _ _ _ _ us hl => match us, hl with | [_, _], _ => rfl
  have F26 := fun_mk (st := s__law_thin) l26 c26 k26
  have b26 := F26.binds (ps := ["_law_row", "_law_tables"]) fun _ _ _ _ _ _ us hl => match us, hl with | [_, _], _ => rfl
  have F27 := fun_mk (st := s__law_plan) l27 c27 k27
  have b27 := F27.binds (ps := ["_law_row", "_law_guests", "_law_size", "_law_most"]) fun _ _ _ _ _ _ us hl => match us, hl with | [_, _, _, _], _ => rfl
  have F28 := fun_mk (st := s__law_alike) l28 c28 k28
  have b28 := F28.binds (ps := ["_law_found", "_law_due"]) fun _ _ _ _ _ _ us hl => match us, hl with | [_, _], _ => rfl
  have F29 := fun_mk (st := s__law_works) l29 c29 k29
  have b29 := F29.binds (ps := ["_law_party", "_law_plan_here"]) fun _ _ _ _ _ _ us hl => match us, hl with | [_, _], _ => rfl
  have F30 := fun_mk (st := s__law_word) l30 c30 k30
  have b30 := F30.binds (ps := ["_law_work"]) fun _ _ _ _ _ _ us hl => match us, hl with | [_], _ => rfl
  refine ⟨PySem.W.fnOf "law" "law" (defArgs s_law) (defBody s_law) (defScope s_law) .none kV31 dc31 pm31 an31 (.ref cT0) ct31, [(cT0, PT0), (cT1, PT1)], spLawT K (TLs PT0 PT1), ?_, ?_, ?_, fun s v => .of_eq rfl, fun H x ns hl _ hH hS => ⟨x, ns, rfl, hS, hl, ?_, fun _ => rfl⟩, fun base _ _ hTB => ?_⟩
  · intro p hp
    rcases List.mem_cons.mp hp with rfl | hp
    · exact tbT0
    · rw [List.mem_singleton.mp hp]; exact tbT1
  · intro p hp
    rcases List.mem_cons.mp hp with rfl | hp
    · exact ntT0
    · rw [List.mem_singleton.mp hp]; exact ntT1
  · intro p hp
    rcases List.mem_cons.mp hp with rfl | hp
    · exact PySem.W.codeHd_of_K X hdT0
    · rw [List.mem_singleton.mp hp]; exact PySem.W.codeHd_of_K X hdT1
  · intro p hp
    have tb : ∀ P q, H P = some (.tbl #[]) → LamX.TabS H P q := fun P q e => ⟨#[], e, trivial, fun pos cv z => nomatch z⟩
    rcases List.mem_cons.mp hp with rfl | hp
    · exact tb _ _ (hH (cT0, PT0) (.head _))
    · rw [List.mem_singleton.mp hp]; exact tb _ _ (hH (cT1, PT1) (.tail _ (.head _)))
  have TBL := hTB (cT0, PT0) (.head _)
  have TBW := hTB (cT1, PT1) (.tail _ (.head _))
  have huW : ∀ p ∈ TLs PT0 PT1, p.1 = PT1 → p.2 = qW := fun p hp e => by
    rcases List.mem_cons.mp hp with rfl | hp
    · exact absurd e neT
    · rw [List.mem_singleton.mp hp]
  have EN_BadRound : En1 l.prog w K mg base "BadRound" cBadRound "number" := ⟨PySem.W.mg_of X G enBadRound, OX_BadRound, ⟨gaBadRound, ggBadRound, ebBadRound, eiBadRound⟩, nfBadRound, _, _, a1, i1, okE_BadRound F1 (PySem.W.mg_of X G enPartyError) ⟨pe_rd, pe_ga⟩ pe_in OX_BadRound nfBadRound, b1⟩
  have M_tables := okM_tables (P := l.prog) (w := w) (base := base) F2 T ⟨a2, i2, k2⟩ b2
  have M_guests := okM_guests (P := l.prog) (w := w) (base := base) F3 T ⟨a3, i3, k3⟩ b3
  have M_size := okM_size (P := l.prog) (w := w) (base := base) F4 T ⟨a4, i4, k4⟩ b4
  have MK := okI_Party (P := l.prog) (w := w) (base := base) F5 T ⟨mk, a5, i5, kc⟩ b5
  have MKX := okIx_Party (P := l.prog) (w := w) (base := base) F5 T ⟨mk, a5, i5, kc⟩ b5 EP_BadParty
  have Drises : Dfn K mg "rises" s_rises ["numbers"] := ⟨_, _, F6, PySem.W.mg_of X G a6, b6⟩
  have Crises := ok_rises (P := l.prog) (w := w) (base := base) (C := C) Drises B T
  have Dis_table : Dfn K mg "is_table" s_is_table ["party", "table"] := ⟨_, _, F7, PySem.W.mg_of X G a7, b7⟩
  have Cis_table := ok_is_table (P := l.prog) (w := w) (base := base) (C := C) Dis_table B T Crises
  have Dis_round : Dfn K mg "is_round" s_is_round ["party", "tables"] := ⟨_, _, F8, PySem.W.mg_of X G a8, b8⟩
  have Cis_round := ok_is_round (P := l.prog) (w := w) (base := base) (C := C) Dis_round B T Cis_table Crises M_tables
  have Dneed_plan : Dfn K mg "need_plan" s_need_plan ["party", "plan"] := ⟨_, _, F9, PySem.W.mg_of X G a9, b9⟩
  have Cneed_plan := ok_need_plan (P := l.prog) (w := w) (base := base) (C := C) Dneed_plan B T Cis_round EN_BadRound
  have Dmet : Dfn K mg "met" s_met ["party", "plan"] := ⟨_, _, F10, PySem.W.mg_of X G a10, b10⟩
  have Cmet := ok_met (P := l.prog) (w := w) (base := base) (C := C) Dmet B T Cneed_plan
  have Dunmet : Dfn K mg "unmet" s_unmet ["party", "plan"] := ⟨_, _, F11, PySem.W.mg_of X G a11, b11⟩
  have Cunmet := ok_unmet (P := l.prog) (w := w) (base := base) (C := C) Dunmet B T Cneed_plan
  have Dnext_rounds : Dfn K mg "next_rounds" s_next_rounds ["party", "plan"] := ⟨_, _, F12, PySem.W.mg_of X G a12, b12⟩
  have Cnext_rounds := ok_next_rounds (P := l.prog) (w := w) (base := base) (C := C) Dnext_rounds B T Cneed_plan
  have Dbound : Dfn K mg "bound" s_bound ["party", "plan"] := ⟨_, _, F13, PySem.W.mg_of X G a13, b13⟩
  have Cbound := ok_bound (P := l.prog) (w := w) (base := base) (C := C) Dbound B T Cneed_plan
  have Dlongest : Dfn K mg "longest" s_longest ["party", "plan"] := ⟨_, _, F14, PySem.W.mg_of X G a14, b14⟩
  have Clongest := ok_longest (P := l.prog) (w := w) (base := base) (C := C) Dlongest B T Cneed_plan
  have Dhosts : Dfn K mg "hosts" s_hosts ["party", "plan"] := ⟨_, _, F15, PySem.W.mg_of X G a15, b15⟩
  have Chosts := ok_hosts (P := l.prog) (w := w) (base := base) (C := C) Dhosts B T Cneed_plan
  have Dcomes : Dfn K mg "comes" s_comes ["party", "plan", "first"] := ⟨_, _, F16, PySem.W.mg_of X G a16, b16⟩
  have Ccomes := ok_comes (P := l.prog) (w := w) (base := base) (C := C) Dcomes B T Cneed_plan
  have Dleaves : Dfn K mg "leaves" s_leaves ["party", "plan", "guest", "last"] := ⟨_, _, F17, PySem.W.mg_of X G a17, b17⟩
  have Cleaves := ok_leaves (P := l.prog) (w := w) (base := base) (C := C) Dleaves B T Cneed_plan
  have Dalike : Dfn K mg "alike" s_alike ["party", "one", "other"] := ⟨_, _, F18, PySem.W.mg_of X G a18, b18⟩
  have Calike := ok_alike (P := l.prog) (w := w) (base := base) (C := C) Dalike B T Cneed_plan
  have D_law_taken : Dfn K mg "_law_taken" s__law_taken ["_law_row", "_law_many"] := ⟨_, _, F19, PySem.W.mg_of X G a19, b19⟩
  have C_law_taken := ok__law_taken (P := l.prog) (w := w) (base := base) (C := C) D_law_taken B T
  have D_law_few : Dfn K mg "_law_few" s__law_few ["_law_row"] := ⟨_, _, F20, PySem.W.mg_of X G a20, b20⟩
  have C_law_few := ok__law_few (P := l.prog) (w := w) (base := base) (C := C) D_law_few B T C_law_taken
  have D_law_mixed : Dfn K mg "_law_mixed" s__law_mixed ["_law_row", "_law_some"] := ⟨_, _, F21, PySem.W.mg_of X G a21, b21⟩
  have C_law_mixed := ok__law_mixed (P := l.prog) (w := w) (base := base) (C := C) D_law_mixed B T C_law_taken
  have D_law_seated : Dfn K mg "_law_seated" s__law_seated ["_law_guests", "_law_size"] := ⟨_, _, F22, PySem.W.mg_of X G a22, b22⟩
  have C_law_seated := ok__law_seated (P := l.prog) (w := w) (base := base) (C := C) D_law_seated B T
  have D_law_pairs : Dfn K mg "_law_pairs" s__law_pairs ["_law_tables"] := ⟨_, _, F23, PySem.W.mg_of X G a23, b23⟩
  have C_law_pairs := ok__law_pairs (P := l.prog) (w := w) (base := base) (C := C) D_law_pairs B T
  have D_law_known : Dfn K mg "_law_known" s__law_known ["_law_plan_here"] := ⟨_, _, F24, PySem.W.mg_of X G a24, b24⟩
  have C_law_known := ok__law_known (P := l.prog) (w := w) (base := base) (C := C) D_law_known B T C_law_pairs
  have D_law_new : Dfn K mg "_law_new" s__law_new ["_law_tables", "_law_plan_here"] := ⟨_, _, F25, PySem.W.mg_of X G a25, b25⟩
  have C_law_new := ok__law_new (P := l.prog) (w := w) (base := base) (C := C) D_law_new B T C_law_known C_law_pairs
  have D_law_thin : Dfn K mg "_law_thin" s__law_thin ["_law_row", "_law_tables"] := ⟨_, _, F26, PySem.W.mg_of X G a26, b26⟩
  have C_law_thin := ok__law_thin (P := l.prog) (w := w) (base := base) (C := C) D_law_thin B T C_law_taken
  have D_law_plan : Dfn K mg "_law_plan" s__law_plan ["_law_row", "_law_guests", "_law_size", "_law_most"] := ⟨_, _, F27, PySem.W.mg_of X G a27, b27⟩
  have C_law_plan := ok__law_plan (P := l.prog) (w := w) (base := base) (C := C) D_law_plan B T C_law_taken C_law_seated C_law_mixed C_law_thin C_law_new
  have D_law_alike : Dfn K mg "_law_alike" s__law_alike ["_law_found", "_law_due"] := ⟨_, _, F28, PySem.W.mg_of X G a28, b28⟩
  have C_law_alike := ok__law_alike (P := l.prog) (w := w) (base := base) (C := C) D_law_alike B T
  have D_law_works : Dfn K mg "_law_works" s__law_works ["_law_party", "_law_plan_here"] := ⟨_, _, F29, PySem.W.mg_of X G a29, b29⟩
  have C_law_works : Cal l.prog w K mg base "_law_works" 1 ["_law_party", "_law_plan_here"] (SpWorks (TLs PT0 PT1)) := ⟨_, _, ok_works (P := l.prog) (w := w) (base := base) (TL := TLs PT0 PT1) l29 c29 TBW (.tail _ (.head _)) huW, PySem.W.mg_of X G a29, k29, b29⟩
  have D_law_word : Dfn K mg "_law_word" s__law_word ["_law_work"] := ⟨_, _, F30, PySem.W.mg_of X G a30, b30⟩
  have C_law_word := ok__law_word (P := l.prog) (w := w) (base := base) (C := C) D_law_word B Cmet Cunmet Cnext_rounds Cbound Clongest Chosts Ccomes Cleaves Calike GN_PartyError GN_BadParty GN_BadRound GN_BadText GN_BadTurning BN_ValueError EN_BadRound XM_BadRound_PartyError XM_BadParty_PartyError XC_BadRound XC_BadParty KT_BadRound_BadParty KT_BadRound_BadRound KT_BadRound_BadText KT_BadRound_BadTurning KT_BadParty_BadParty KT_BadParty_BadRound KT_BadParty_BadText KT_BadParty_BadTurning KV_BadRound KV_BadParty
  exact ok_law (P := l.prog) (w := w) (base := base) l31 c31 B T TBL neT C_law_taken D_law_word C_law_word C_law_alike C_law_few C_law_plan C_law_works M_guests M_size M_tables MK MKX GN_BadParty GN_BadTurning GN_PartyError EN_BadRound GN_BadRound GN_BadText BN_ValueError XM_BadRound_PartyError XM_BadParty_PartyError XC_BadRound XC_BadParty KT_BadRound_BadParty KT_BadRound_BadRound KT_BadRound_BadText KT_BadRound_BadTurning KT_BadParty_BadParty KT_BadParty_BadRound KT_BadParty_BadText KT_BadParty_BadTurning KV_BadRound KV_BadParty
theorem walk {l : PySem.W.OpenLaw} {q : Program} {loose : List Str} {XP : (Str → Option Value) → Heap → Prop} {YP : World → Heap → Prop} {d : DefRec} {K : Params → PySem.W.Frag} (hn : l.most = some 63) (hdf : d.params.defaults = [])
    (hY : ∀ (w : World) (h : Heap), YP w h → (K w.params).In h)
    (F : ∀ (w : World) (mg : Str → Option Value) (fa : Addr) (h : Heap), YP w h → (K w.params).In h → h.Ns mainGlobals mg → mg d.name = some (.ref fa) → LamX.LawAtS l w (K w.params) CX0 21 63 "_law_script" mg fa h) :
    PySem.W.WalkO q loose XP YP l.row.toRowW d [] (fun f vs => PySem.call f vs) :=
  LamX.walk_ofTs (n := 63) (k := 21) (x := "_law_script") (CX := fun _ => CX0) hn (by decide) hdf ⟨rfl, by decide, by decide⟩ hY F fun _ _ _ _ _ z => z
end NF
open PySem PySem.W PyProof.Rows
set_option maxRecDepth 100000 in
set_option maxHeartbeats 0 in
theorem PySem.Challenge.cw_newfaces_k16_refusals_stand_apart_holds : PySem.Challenge.rw_newfaces_k16_refusals_stand_apart.Holds := by
  w_on; o_law; k_head; (case hw => w_witness2)
  k_fill
  refine NF.walk (l := PySem.Challenge.rw_newfaces_k16_refusals_stand_apart) rfl rfl (fun w h Y => PySem.W.km_in_of Y) ?F
  case F =>
    intro w mg fa h Y KX G hmg
    refine' NF.all_mk KX G hmg ?aC ?enBadRound ?enBadParty ?enBadTurning ?enPartyError ?enBadText ?a1 ?i1 ?l1 ?c1 ?k1 ?a2 ?i2 ?l2 ?c2 ?k2 ?a3 ?i3 ?l3 ?c3 ?k3 ?a4 ?i4 ?l4 ?c4 ?k4 ?a5 ?i5 ?l5 ?c5 ?k5 ?a6 ?l6 ?c6 ?k6 ?a7 ?l7 ?c7 ?k7 ?a8 ?l8 ?c8 ?k8 ?a9 ?l9 ?c9 ?k9 ?a10 ?l10 ?c10 ?k10 ?a11 ?l11 ?c11 ?k11 ?a12 ?l12 ?c12 ?k12 ?a13 ?l13 ?c13 ?k13 ?a14 ?l14 ?c14 ?k14 ?a15 ?l15 ?c15 ?k15 ?a16 ?l16 ?c16 ?k16 ?a17 ?l17 ?c17 ?k17 ?a18 ?l18 ?c18 ?k18 ?a19 ?l19 ?c19 ?k19 ?a20 ?l20 ?c20 ?k20 ?a21 ?l21 ?c21 ?k21 ?a22 ?l22 ?c22 ?k22 ?a23 ?l23 ?c23 ?k23 ?a24 ?l24 ?c24 ?k24 ?a25 ?l25 ?c25 ?k25 ?a26 ?l26 ?c26 ?k26 ?a27 ?l27 ?c27 ?k27 ?a28 ?l28 ?c28 ?k28 ?a29 ?l29 ?c29 ?lkT1 ?vvT1 ?hdT1 ?ntT1 ?tbT1 ?k29 ?a30 ?l30 ?c30 ?k30 ?a31 ?l31 ?c31 ?lkT0 ?vvT0 ?hdT0 ?ntT0 ?tbT0 ?k31 ?pg ?hd ?po ?sa ?mk ?kc ?nM ?nS ?cS ?cG ?bnValueError ?ebPartyError ?etPartyError ?eiPartyError ?esXM_BadRound_PartyError ?esXM_BadParty_PartyError ?ebBadRound ?etBadRound ?eiBadRound ?gaBadRound ?ggBadRound ?caBadRound ?moBadRound ?oc_n ?oc_t ?ebBadParty ?etBadParty ?eiBadParty ?gaBadParty ?ggBadParty ?caBadParty ?moBadParty ?ktKT_BadRound_BadParty ?ktKT_BadRound_BadRound ?ktKT_BadRound_BadText ?ktKT_BadRound_BadTurning ?ktKT_BadParty_BadParty ?ktKT_BadParty_BadRound ?ktKT_BadParty_BadText ?ktKT_BadParty_BadTurning ?ktKV_BadRound ?ktKV_BadParty ?ekBadParty ?exBadParty ?pe_rd ?pe_ga ?pe_in ?ekBadRound ?lkBadRound ?rfBadRound ?saBadRound ?nfBadRound ?z_len ?z_range ?z_sorted ?z_tuple ?z_list ?z_min ?z_max ?z_sum ?z_abs ?z_int ?z_isinstance ?z_set ?z_str ?z_bool ?neT
    (case aC => k_is)
    (case enBadRound => k_is)
    (case enBadParty => k_is)
    (case enBadTurning => k_is)
    (case enPartyError => k_is)
    (case enBadText => k_is)
    (case a1 => k_is)
    (case i1 => k_is)
    (case l1 => k_is)
    (case c1 => k_is)
    (case k1 => k_is)
    (case a2 => k_is)
    (case i2 => k_is)
    (case l2 => k_is)
    (case c2 => k_is)
    (case k2 => k_is)
    (case a3 => k_is)
    (case i3 => k_is)
    (case l3 => k_is)
    (case c3 => k_is)
    (case k3 => k_is)
    (case a4 => k_is)
    (case i4 => k_is)
    (case l4 => k_is)
    (case c4 => k_is)
    (case k4 => k_is)
    (case a5 => k_is)
    (case i5 => k_is)
    (case l5 => k_is)
    (case c5 => k_is)
    (case k5 => k_is)
    (case a6 => k_is)
    (case l6 => k_is)
    (case c6 => k_is)
    (case k6 => k_is)
    (case a7 => k_is)
    (case l7 => k_is)
    (case c7 => k_is)
    (case k7 => k_is)
    (case a8 => k_is)
    (case l8 => k_is)
    (case c8 => k_is)
    (case k8 => k_is)
    (case a9 => k_is)
    (case l9 => k_is)
    (case c9 => k_is)
    (case k9 => k_is)
    (case a10 => k_is)
    (case l10 => k_is)
    (case c10 => k_is)
    (case k10 => k_is)
    (case a11 => k_is)
    (case l11 => k_is)
    (case c11 => k_is)
    (case k11 => k_is)
    (case a12 => k_is)
    (case l12 => k_is)
    (case c12 => k_is)
    (case k12 => k_is)
    (case a13 => k_is)
    (case l13 => k_is)
    (case c13 => k_is)
    (case k13 => k_is)
    (case a14 => k_is)
    (case l14 => k_is)
    (case c14 => k_is)
    (case k14 => k_is)
    (case a15 => k_is)
    (case l15 => k_is)
    (case c15 => k_is)
    (case k15 => k_is)
    (case a16 => k_is)
    (case l16 => k_is)
    (case c16 => k_is)
    (case k16 => k_is)
    (case a17 => k_is)
    (case l17 => k_is)
    (case c17 => k_is)
    (case k17 => k_is)
    (case a18 => k_is)
    (case l18 => k_is)
    (case c18 => k_is)
    (case k18 => k_is)
    (case a19 => k_is)
    (case l19 => k_is)
    (case c19 => k_is)
    (case k19 => k_is)
    (case a20 => k_is)
    (case l20 => k_is)
    (case c20 => k_is)
    (case k20 => k_is)
    (case a21 => k_is)
    (case l21 => k_is)
    (case c21 => k_is)
    (case k21 => k_is)
    (case a22 => k_is)
    (case l22 => k_is)
    (case c22 => k_is)
    (case k22 => k_is)
    (case a23 => k_is)
    (case l23 => k_is)
    (case c23 => k_is)
    (case k23 => k_is)
    (case a24 => k_is)
    (case l24 => k_is)
    (case c24 => k_is)
    (case k24 => k_is)
    (case a25 => k_is)
    (case l25 => k_is)
    (case c25 => k_is)
    (case k25 => k_is)
    (case a26 => k_is)
    (case l26 => k_is)
    (case c26 => k_is)
    (case k26 => k_is)
    (case a27 => k_is)
    (case l27 => k_is)
    (case c27 => k_is)
    (case k27 => k_is)
    (case a28 => k_is)
    (case l28 => k_is)
    (case c28 => k_is)
    (case k28 => k_is)
    (case a29 => k_is)
    (case l29 => k_is)
    (case c29 => k_is)
    (case lkT1 => k_is)
    (case vvT1 => exact rfl)
    (case hdT1 => kernel_rfl)
    (case ntT1 => kernel_rfl)
    (case tbT1 => exact PySem.W.km_tabs_of Y _ (by k_mem))
    (case k29 => k_is)
    (case a30 => k_is)
    (case l30 => k_is)
    (case c30 => k_is)
    (case k30 => k_is)
    (case a31 => k_is)
    (case l31 => k_is)
    (case c31 => k_is)
    (case lkT0 => k_is)
    (case vvT0 => exact rfl)
    (case hdT0 => kernel_rfl)
    (case ntT0 => kernel_rfl)
    (case tbT0 => exact PySem.W.km_tabs_of Y _ (by k_mem))
    (case k31 => k_is)
    (case pg => k_is)
    (case hd => k_is)
    (case po => k_is)
    (case sa => k_is)
    (case mk => k_is)
    (case kc => k_is)
    (case nM => k_is)
    (case nS => k_is)
    (case cS => k_is)
    (case cG => k_is)
    (case bnValueError => k_is)
    (case ebPartyError => k_is)
    (case etPartyError => k_is)
    (case eiPartyError => k_is)
    (case esXM_BadRound_PartyError => k_is)
    (case esXM_BadParty_PartyError => k_is)
    (case ebBadRound => k_is)
    (case etBadRound => k_is)
    (case eiBadRound => k_is)
    (case gaBadRound => k_is)
    (case ggBadRound => k_is)
    (case caBadRound => k_is)
    (case moBadRound => k_is)
    (case oc_n => k_is)
    (case oc_t => k_is)
    (case ebBadParty => k_is)
    (case etBadParty => k_is)
    (case eiBadParty => k_is)
    (case gaBadParty => k_is)
    (case ggBadParty => k_is)
    (case caBadParty => k_is)
    (case moBadParty => k_is)
    (case ktKT_BadRound_BadParty => kit_is)
    (case ktKT_BadRound_BadRound => kit_is)
    (case ktKT_BadRound_BadText => kit_is)
    (case ktKT_BadRound_BadTurning => kit_is)
    (case ktKT_BadParty_BadParty => kit_is)
    (case ktKT_BadParty_BadRound => kit_is)
    (case ktKT_BadParty_BadText => kit_is)
    (case ktKT_BadParty_BadTurning => kit_is)
    (case ktKV_BadRound => kit_is)
    (case ktKV_BadParty => kit_is)
    (case ekBadParty => k_is)
    (case exBadParty => k_exc)
    (case pe_rd => k_is)
    (case pe_ga => k_is)
    (case pe_in => k_is)
    (case ekBadRound => k_is)
    (case lkBadRound => k_is)
    (case rfBadRound => decide +kernel)
    (case saBadRound => k_is)
    (case nfBadRound => k_is)
    (case z_len => k_is)
    (case z_range => k_is)
    (case z_sorted => k_is)
    (case z_tuple => k_is)
    (case z_list => k_is)
    (case z_min => k_is)
    (case z_max => k_is)
    (case z_sum => k_is)
    (case z_abs => k_is)
    (case z_int => k_is)
    (case z_isinstance => k_is)
    (case z_set => k_is)
    (case z_str => k_is)
    (case z_bool => k_is)
    (case neT => decide)
