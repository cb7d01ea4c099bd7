import PyProof.Rows.All
import Wide.All
import OpenK.AllK
import Wide.FinOn
import HandS.ForMost
import HandS.ForExc
import HandS.ExcField
import HandS.Style
import HandS.CallSlots
import HandS.Defaults
import HandS.Zip0
import PyProof.EnumMake
import PyProof.NeKinds
import HandS.Wide
import HandS.WideBits
import HandS.IsInst
import KE.KExcIs
import KE.SortData
import KE.DataMinMax
import HandS.Small
import HandS.Exc
import HandS.ExcInit
import HandS.ExcValue
import HandS.TryMany
import HandS.Text
import KE.KExcStr
import PyProof.ExcRepr
import PyProof.ReprNest
import PyProof.StrReplace2
import PyProof.ReprReads
import PyProof.FString2
import PyProof.StrHeap
import HandS.Ends
import HandS.EndBits
import HandS.ExcIs
import HandS.OwnEq
import PyProof.InstEq
import PyProof.FactsAll.dict
import HandS.More
import HandS.FStr
import KE.KCallOwn
import PyProof.P3Eq
import PyProof.StrLawsRepr
import PyProof.Rows.RegStrFacts
import PyProof.Rows.StrSigns2
import PySem.Challenge.RW_hailwords_k17_rounds_judged
set_option Elab.async false
set_option linter.all false
set_option maxRecDepth 100000
set_option maxHeartbeats 2000000
/-! PMCore: plain data for the values of a run, and how they lie in the abstract heap. -/
namespace PM
open PySem L2 PyProof.Rows

/-- a class: a built-in one; an own one of plain objects, of exceptions -/
inductive BT where
  | non | bool | int | str | lst | tup | dct | val
deriving DecidableEq
def BT.nm : BT → String
  | .non => "NoneType"
  | .bool => "bool"
  | .int => "int"
  | .str => "str"
  | .lst => "list"
  | .tup => "tuple"
  | .dct => "dict"
  | .val => "ValueError"
/-- other built-in exceptions -/
def bxN : Nat → String
  | 0 => "LookupError"
  | _ => "KeyError"
inductive Ty where
  | bi (s : BT) | own (c : Nat) | exc (c : Nat) | bx (k : Nat)
deriving DecidableEq
inductive D where
  | non | bl (b : Bool) | int (i : Int) | str (s : Str) | lst (xs : List D) | tup (xs : List D) | loc (n : Nat) | fz (xs : List D)
  | ob (c : Nat) (xs : List D) | exc (c : Nat) (d : D) | cau (c : Nat) (d : D) | fn (k : Nat) | bex (c : Nat) (s : Str) | cls (t : Ty)
inductive Cell where
  | lst (xs : List D) | dct (kvs : List (Key × D)) | ins (c : Nat) (fs : List (Str × D)) | dead
abbrev Sto := List Cell
inductive Res where
  | ok (d : D) (m : Sto) | exn (c : Nat) (d : D) (m : Sto)
abbrev Nv := List (Option D)
abbrev FE := Nv → Sto → Option Res
def bnd (r : Option Res) (k : D → Sto → Option Res) : Option Res :=
  match r with
  | some (.ok d m) => k d m
  | some (.exn c d m) => some (.exn c d m)
  | none => none
@[simp] theorem bnd_ok (d : D) (m : Sto) (k : D → Sto → Option Res) : bnd (some (.ok d m)) k = k d m := rfl
@[simp] theorem bnd_exn (c : Nat) (d : D) (m : Sto) (k : D → Sto → Option Res) : bnd (some (.exn c d m)) k = some (.exn c d m) := rfl
@[simp] theorem bnd_none (k : D → Sto → Option Res) : bnd none k = none := rfl

/-- what is fixed through a law's whole run -/
structure Wk where
  P : Program
  w : World
  K : PySem.W.Frag
  mg : Str → Option Value
  C : Nat → Addr
  nm : Nat → List Str
  msg : Nat → Str
/-- .. with the ground, and the exception that is handled, with its dict -/
structure Wd extends Wk where
  base : Heap
  ca : Option (Addr × Addr)
  gs : List Code
/-- the rest of a context -/
structure Rst where
  A : Around
  s_0 : Shared
  H_0 : Hp
  env : PySem.Env
  outer : List PySem.Env
  stack : List PySem.Env
  ex : List Addr
  fn : Str → Bool
  calm : Bool
  pn : List (Addr × Obj)
  xe : Value → Shared → Prop
abbrev mkX (W : Wd) (N : List Str) (R : Rst) : Cx where
  prog := W.P
  w := W.w
  K := W.K
  mg := W.mg
  base := W.base
  A := R.A
  N := N
  s_0 := R.s_0
  H_0 := R.H_0
  env := R.env
  outer := R.outer
  stack := R.stack
  ex := R.ex
  fn := R.fn
  calm := R.calm
  pn := R.pn
  xe := R.xe

/-- the addresses of the places of the store; addresses that no value leads to -/
structure Plc where
  pl : List Addr
  pv : List Addr
def Plc.ok (p : Plc) (a : Addr) : Prop := ¬ a ∈ p.pl ∧ ¬ a ∈ p.pv
/-! ### how plain data lies in the heap -/
def LstAt (ph : Plc) (H : Hp) (a : Addr) (vs : List V) : Prop := H a = some (.lst vs) ∧ ph.ok a
def TupAt (ph : Plc) (H : Hp) (a : Addr) (vs : List V) : Prop := H a = some (.tup vs) ∧ ph.ok a
def FrzAt (W : Wd) (ph : Plc) (H : Hp) (a : Addr) (vs : List V) : Prop := ((∃ o, H a = some (.frz o (.lst vs))) ∧ ph.ok a) ∨ ∀ H', SqL W.K H' a vs
/-- an exception object, its words and its dict -/
def excv (a C dx t1 : Addr) : HO := .ext fun h => h.get? a = some ({ cls := .ref C, dict := some dx, data := .fields #[.ref t1, .none, .none, .none, .bool false, .none] } : Obj)
/-- an exception object without a dict, its words at t1 -/
def exoT (a C t1 : Addr) : HO := .ext fun h => h.get? a = some ({ cls := .ref C, dict := none, data := .fields #[.ref t1, .none, .none, .none, .bool false, .none] } : Obj)
def fdict (v : V) : HO := .xd [("found", v)]
def clsV (W : Wk) : Ty → V
  | .bi s => .ty s.nm
  | .own c => .ref (W.C c)
  | .exc c => .ref (W.C c)
  | .bx k => .ty (bxN k)
def Ty.val (W : Wk) : Ty → Value
  | .bi s => .type s.nm
  | .own c => .ref (W.C c)
  | .exc c => .ref (W.C c)
  | .bx k => .type (bxN k)
mutual
def Rep (W : Wd) (ph : Plc) (H : Hp) : D → V → Prop
  | .non, v => v = .non
  | .bl b, v => v = .bl b
  | .int i, v => v = .int i
  | .str s, v => v = .str s
  | .lst xs, v => ∃ a vs, v = .ref a ∧ LstAt ph H a vs ∧ RepL W ph H xs vs
  | .tup xs, v => ∃ a vs, v = .ref a ∧ TupAt ph H a vs ∧ RepL W ph H xs vs
  | .loc n, v => ∃ a, v = .ref a ∧ ph.pl[n]? = some a
  | .fz xs, v => ∃ a vs, v = .ref a ∧ FrzAt W ph H a vs ∧ RepL W ph H xs vs
  | .ob c xs, v => ∃ a dx vs, v = .ref a ∧ H a = some (.ins (W.C c) dx ((W.nm c).zip vs)) ∧ ph.ok a ∧ (W.nm c).length = vs.length ∧ RepL W ph H xs vs
  | .exc c d, v => ∃ a dx x t1, v = .ref a ∧ H a = some (excv a (W.C c) dx t1) ∧ ph.ok a ∧ H dx = some (fdict x) ∧ ph.ok dx ∧ TupAt ph H t1 [.str (W.msg c)] ∧ Rep W ph H d x
  | .cau c d, v => ∃ a dx x, v = .ref a ∧ W.ca = some (a, dx) ∧ H dx = some (fdict x) ∧ ph.ok dx ∧ Rep W ph H d x
  | .fn k, v => ∃ a, v = .ref a
  | .bex c s, v => ∃ a t1, v = .ref a ∧ H a = some (exoT a (W.C c) t1) ∧ ph.ok a ∧ TupAt ph H t1 [.str s]
  | .cls k, v => v = clsV W.toWk k
def RepL (W : Wd) (ph : Plc) (H : Hp) : List D → List V → Prop
  | [], vs => vs = []
  | d :: ds, vs => ∃ v r, vs = v :: r ∧ Rep W ph H d v ∧ RepL W ph H ds r
end
def RepKV (W : Wd) (ph : Plc) (H : Hp) (kds : List (Key × D)) (kvs : List (Key × V)) : Prop :=
  kds.map (·.1) = kvs.map (·.1) ∧ RepL W ph H (kds.map (·.2)) (kvs.map (·.2))
def CellAt (W : Wd) (ph : Plc) (H : Hp) (a : Addr) : Cell → Prop
  | .lst xs => ∃ vs, H a = some (.lst vs) ∧ RepL W ph H xs vs
  | .dct kds => ∃ kvs, H a = some (.dK kvs) ∧ RepKV W ph H kds kvs
  | .ins c fs => ∃ dx fv, H a = some (.ins (W.C c) dx fv) ∧ fs.map (·.1) = fv.map (·.1) ∧ RepL W ph H (fs.map (·.2)) (fv.map (·.2))
  | .dead => True
structure RelSto (W : Wd) (ph : Plc) (H : Hp) (m : Sto) : Prop where
  len : ph.pl.length = m.length
  nd : ph.pl.Nodup
  dj : ∀ a, a ∈ ph.pl → ¬ a ∈ ph.pv
  pvs : ∀ a, a ∈ ph.pv → (H a).isSome = true
  cell : ∀ (n : Nat) (c : Cell), m[n]? = some c → ∃ a, ph.pl[n]? = some a ∧ (H a).isSome = true ∧ CellAt W ph H a c
structure Ste (W : Wd) (ph : Plc) (H : Hp) (ph' : Plc) (H' : Hp) (m' : Sto) : Prop where
  pre : ∃ ex, ph'.pl = ph.pl ++ ex
  prv : ph'.pv = ph.pv
  keep : ∀ a o, H a = some o → ¬ a ∈ ph.pl → H' a = some o
  new : ∀ a, a ∈ ph'.pl → a ∈ ph.pl ∨ H a = none
  fre : ∀ a, (H a).isSome = true → (H' a).isSome = true
  sto : RelSto W ph' H' m'
structure RelEnv (W : Wd) (ph : Plc) (H : Hp) (env : Nv) (σ : L2.St) : Prop where
  len : env.length = σ.length
  val : ∀ (i : Nat) (d : D), env[i]? = some (some d) → ∃ v, σ[i]? = some (some v) ∧ Rep W ph H d v
section
variable {W : Wd} {ph ph' ph1 ph2 : Plc} {H H' H1 H2 : Hp} {m m' m1 m2 : Sto}
theorem Ste.stays {a : Addr} {o : HO} (s : Ste W ph H ph' H' m') (h : H a = some o) (n : ph.ok a) : H' a = some o ∧ ph'.ok a :=
  ⟨s.keep a o h n.1, fun hm => (s.new a hm).elim n.1 fun z => (by rw [z] at h; cases h), by rw [s.prv]; exact n.2⟩
theorem Ste.stays1 {a : Addr} {o : HO} (s : Ste W ph H ph' H' m') (h : H a = some o) (n : ¬ a ∈ ph.pl) : H' a = some o ∧ ¬ a ∈ ph'.pl :=
  ⟨s.keep a o h n, fun hm => (s.new a hm).elim n fun z => by rw [z] at h; cases h⟩
theorem LstAt.mono {a : Addr} {vs : List V} (s : Ste W ph H ph' H' m') (h : LstAt ph H a vs) : LstAt ph' H' a vs := s.stays h.1 h.2
theorem TupAt.mono {a : Addr} {vs : List V} (s : Ste W ph H ph' H' m') (h : TupAt ph H a vs) : TupAt ph' H' a vs := s.stays h.1 h.2
theorem FrzAt.mono {a : Addr} {vs : List V} (s : Ste W ph H ph' H' m') (h : FrzAt W ph H a vs) : FrzAt W ph' H' a vs := h.imp (fun ⟨⟨o, h⟩, n⟩ => ⟨⟨o, (s.stays h n).1⟩, (s.stays h n).2⟩) id
mutual
theorem Rep.mono (s : Ste W ph H ph' H' m') : ∀ (d : D) (v : V), Rep W ph H d v → Rep W ph' H' d v
  | .non, _, h => h
  | .bl _, _, h => h
  | .int _, _, h => h
  | .str _, _, h => h
  | .lst xs, _, ⟨a, vs, e, l, r⟩ => ⟨a, vs, e, l.mono s, RepL.mono s xs vs r⟩
  | .tup xs, _, ⟨a, vs, e, l, r⟩ => ⟨a, vs, e, l.mono s, RepL.mono s xs vs r⟩
  | .fz xs, _, ⟨a, vs, e, l, r⟩ => ⟨a, vs, e, l.mono s, RepL.mono s xs vs r⟩
  | .loc n, _, ⟨a, e, h⟩ => ⟨a, e, by
      obtain ⟨ex, q⟩ := s.pre
      rw [q, List.getElem?_append_left (List.getElem?_eq_some_iff.mp h).1]; exact h⟩
  | .ob c xs, _, ⟨a, dx, vs, e, h, n, l, r⟩ => ⟨a, dx, vs, e, (s.stays h n).1, (s.stays h n).2, l, RepL.mono s xs vs r⟩
  | .exc c d, _, ⟨a, dx, x, t1, e, h, n, h2, n2, t, r⟩ => ⟨a, dx, x, t1, e, (s.stays h n).1, (s.stays h n).2, (s.stays h2 n2).1, (s.stays h2 n2).2, t.mono s, Rep.mono s d x r⟩
  | .cau c d, _, ⟨a, dx, x, e, hc, h2, n2, r⟩ => ⟨a, dx, x, e, hc, (s.stays h2 n2).1, (s.stays h2 n2).2, Rep.mono s d x r⟩
  | .fn k, _, h => h
  | .bex c x, _, ⟨a, t1, e, h, n, t⟩ => ⟨a, t1, e, (s.stays h n).1, (s.stays h n).2, t.mono s⟩
  | .cls k, _, h => h
theorem RepL.mono (s : Ste W ph H ph' H' m') : ∀ (ds : List D) (vs : List V), RepL W ph H ds vs → RepL W ph' H' ds vs
  | [], _, h => h
  | d :: ds, _, ⟨v, r, e, h, t⟩ => ⟨v, r, e, Rep.mono s d v h, RepL.mono s ds r t⟩
end
theorem Ste.refl (h : RelSto W ph H m) : Ste W ph H ph H m := ⟨⟨[], by simp⟩, rfl, fun _ _ e _ => e, fun _ h => .inl h, fun _ h => h, h⟩
theorem Ste.trans (s : Ste W ph H ph1 H1 m1) (t : Ste W ph1 H1 ph2 H2 m2) : Ste W ph H ph2 H2 m2 where
  pre := by
    obtain ⟨e1, q1⟩ := s.pre
    obtain ⟨e2, q2⟩ := t.pre
    exact ⟨e1 ++ e2, by rw [q2, q1, List.append_assoc]⟩
  prv := t.prv.trans s.prv
  keep := fun a o h n => t.keep a o (s.stays1 h n).1 (s.stays1 h n).2
  new := fun a h => by
    rcases t.new a h with h | h
    · exact s.new a h
    · cases q : H a with
      | none => exact .inr rfl
      | some o =>
        have := s.fre a (by rw [q]; rfl)
        rw [h] at this; cases this
  fre := fun a h => t.fre a (s.fre a h)
  sto := t.sto
theorem RelEnv.mono {env : Nv} {σ : L2.St} (s : Ste W ph H ph' H' m') (h : RelEnv W ph H env σ) : RelEnv W ph' H' env σ :=
  ⟨h.len, fun i d e => let ⟨v, e1, r⟩ := h.val i d e; ⟨v, e1, Rep.mono s d v r⟩⟩
theorem RepL.length : ∀ {ds : List D} {vs : List V}, RepL W ph H ds vs → ds.length = vs.length
  | [], _, h => by
    have h : _ = [] := h
    rw [h]; rfl
  | d :: ds, _, ⟨v, r, e, _, t⟩ => by rw [e, List.length_cons, List.length_cons, RepL.length t]
theorem RepL.nil : RepL W ph H [] [] := rfl
theorem RepL.cons {d : D} {ds : List D} {v : V} {vs : List V} (h : Rep W ph H d v) (t : RepL W ph H ds vs) : RepL W ph H (d :: ds) (v :: vs) := ⟨v, vs, rfl, h, t⟩
theorem RepL.get : ∀ {ds : List D} {vs : List V} {i : Nat} {d : D}, RepL W ph H ds vs → ds[i]? = some d → ∃ v, vs[i]? = some v ∧ Rep W ph H d v
  | d :: ds, _, 0, _, ⟨v, r, e, h, t⟩, q => by
    simp at q; subst q
    exact ⟨v, by rw [e]; rfl, h⟩
  | d :: ds, _, i + 1, _, ⟨v, r, e, h, t⟩, q => by
    obtain ⟨v', h1, h2⟩ := RepL.get (i := i) t (by simpa using q)
    exact ⟨v', by rw [e]; simpa using h1, h2⟩
  | [], _, _, _, _, q => by simp at q
theorem RepL.append : ∀ {ds es : List D} {vs us : List V}, RepL W ph H ds vs → RepL W ph H es us → RepL W ph H (ds ++ es) (vs ++ us)
  | [], _, _, _, h, h' => by
    have h : _ = [] := h
    rw [h]; exact h'
  | d :: ds, _, _, _, ⟨v, r, e, h, t⟩, h' => by
    rw [e]
    exact .cons h (RepL.append t h')
theorem RepL.take : ∀ {ds : List D} {vs : List V} (n : Nat), RepL W ph H ds vs → RepL W ph H (ds.take n) (vs.take n)
  | _, _, 0, _ => by simp [RepL]
  | [], _, n + 1, h => by
    have h : _ = [] := h
    rw [h]; simp [RepL]
  | d :: ds, _, n + 1, ⟨v, r, e, h, t⟩ => by rw [e]; exact .cons h (RepL.take n t)
theorem RepL.drop : ∀ {ds : List D} {vs : List V} (n : Nat), RepL W ph H ds vs → RepL W ph H (ds.drop n) (vs.drop n)
  | _, _, 0, h => by simpa using h
  | [], _, n + 1, h => by
    have h : _ = [] := h
    rw [h]; simp [RepL]
  | d :: ds, _, n + 1, ⟨v, r, e, h, t⟩ => by rw [e]; simpa using RepL.drop n t
/-- a new object of the heap, no place of the store -/
theorem CellAt.put {a b : Addr} {o : HO} {c : Cell} (hn : H b = none) (hs : RelSto W ph H m) (st : ∀ d v, Rep W ph H d v → Rep W ph (upd H b o) d v) (stL : ∀ ds vs, RepL W ph H ds vs → RepL W ph (upd H b o) ds vs) (h : CellAt W ph H a c) (ha : (H a).isSome = true) : CellAt W ph (upd H b o) a c := by
  have ne : a ≠ b := fun z => by rw [z, hn] at ha; cases ha
  cases c with
  | lst xs => obtain ⟨vs, h, r⟩ := h; exact ⟨vs, by rw [upd_ne ne]; exact h, stL _ _ r⟩
  | dct kds => obtain ⟨kvs, h, e, r⟩ := h; exact ⟨kvs, by rw [upd_ne ne]; exact h, e, stL _ _ r⟩
  | ins c fs => obtain ⟨dx, fv, h, e, r⟩ := h; exact ⟨dx, fv, by rw [upd_ne ne]; exact h, e, stL _ _ r⟩
  | dead => trivial
mutual
theorem Rep.put {b : Addr} {o : HO} (hn : H b = none) : ∀ (d : D) (v : V), Rep W ph H d v → Rep W ph (upd H b o) d v
  | .non, _, h => h
  | .bl _, _, h => h
  | .int _, _, h => h
  | .str _, _, h => h
  | .lst xs, _, ⟨a, vs, e, l, r⟩ => ⟨a, vs, e, ⟨by rw [upd_ne (ne_of_none l.1 hn)]; exact l.1, l.2⟩, RepL.put hn xs vs r⟩
  | .tup xs, _, ⟨a, vs, e, l, r⟩ => ⟨a, vs, e, ⟨by rw [upd_ne (ne_of_none l.1 hn)]; exact l.1, l.2⟩, RepL.put hn xs vs r⟩
  | .fz xs, _, ⟨a, vs, e, l, r⟩ => ⟨a, vs, e, l.imp (fun ⟨⟨o, l⟩, n⟩ => ⟨⟨o, by rw [upd_ne (ne_of_none l hn)]; exact l⟩, n⟩) id, RepL.put hn xs vs r⟩
  | .loc n, _, h => h
  | .ob c xs, _, ⟨a, dx, vs, e, h, n, l, r⟩ => ⟨a, dx, vs, e, by rw [upd_ne (ne_of_none h hn)]; exact h, n, l, RepL.put hn xs vs r⟩
  | .exc c d, _, ⟨a, dx, x, t1, e, h, n, h2, n2, t, r⟩ => ⟨a, dx, x, t1, e, by rw [upd_ne (ne_of_none h hn)]; exact h, n, by rw [upd_ne (ne_of_none h2 hn)]; exact h2, n2, ⟨by rw [upd_ne (ne_of_none t.1 hn)]; exact t.1, t.2⟩, Rep.put hn d x r⟩
  | .cau c d, _, ⟨a, dx, x, e, hc, h2, n2, r⟩ => ⟨a, dx, x, e, hc, by rw [upd_ne (ne_of_none h2 hn)]; exact h2, n2, Rep.put hn d x r⟩
  | .fn k, _, h => h
  | .bex c x, _, ⟨a, t1, e, h, n, t⟩ => ⟨a, t1, e, by rw [upd_ne (ne_of_none h hn)]; exact h, n, ⟨by rw [upd_ne (ne_of_none t.1 hn)]; exact t.1, t.2⟩⟩
  | .cls k, _, h => h
theorem RepL.put {b : Addr} {o : HO} (hn : H b = none) : ∀ (ds : List D) (vs : List V), RepL W ph H ds vs → RepL W ph (upd H b o) ds vs
  | [], _, h => h
  | d :: ds, _, ⟨v, r, e, h, t⟩ => ⟨v, r, e, Rep.put hn d v h, RepL.put hn ds r t⟩
end
theorem RelSto.notin {b : Addr} (h : RelSto W ph H m) (hn : H b = none) : ¬ b ∈ ph.pl := fun hm => by
  obtain ⟨n, hn', e⟩ := List.mem_iff_getElem.mp hm
  have hl : n < m.length := by rw [← h.len]; exact hn'
  obtain ⟨a, e1, e2, _⟩ := h.cell n m[n] (by simp [hl])
  have : a = b := by rw [List.getElem?_eq_getElem hn', e] at e1; exact (Option.some.inj e1).symm
  subst this
  rw [hn] at e2; cases e2
theorem RelSto.nopv {b : Addr} (h : RelSto W ph H m) (hn : H b = none) : ¬ b ∈ ph.pv := fun z => by
  have := h.pvs b z
  rw [hn] at this; cases this
theorem RelSto.put {b : Addr} {o : HO} (hn : H b = none) (h : RelSto W ph H m) : RelSto W ph (upd H b o) m :=
  ⟨h.len, h.nd, h.dj, fun a z => by
    unfold upd; split
    · rfl
    · exact h.pvs a z, fun n c e => by
    obtain ⟨a, e1, e2, e3⟩ := h.cell n c e
    have ne : a ≠ b := fun z => by rw [z, hn] at e2; cases e2
    exact ⟨a, e1, by rw [upd_ne ne]; exact e2, e3.put hn h (Rep.put hn) (RepL.put hn) e2⟩⟩
theorem Ste.put {b : Addr} {o : HO} (hn : H b = none) (h : RelSto W ph H m) : Ste W ph H ph (upd H b o) m :=
  ⟨⟨[], by simp⟩, rfl, fun a u e _ => by rw [upd_ne (ne_of_none e hn)]; exact e, fun _ h => .inl h, fun a e => by
    unfold upd; split
    · rfl
    · exact e, h.put hn⟩
theorem Rep.newL {b : Addr} {ds : List D} {vs : List V} (hn : H b = none) (h : RelSto W ph H m) (r : RepL W ph H ds vs) : Rep W ph (upd H b (.lst vs)) (.lst ds) (.ref b) :=
  ⟨b, vs, rfl, ⟨upd_same, h.notin hn, h.nopv hn⟩, RepL.put hn ds vs r⟩
theorem Rep.newT {b : Addr} {ds : List D} {vs : List V} (hn : H b = none) (h : RelSto W ph H m) (r : RepL W ph H ds vs) : Rep W ph (upd H b (.tup vs)) (.tup ds) (.ref b) :=
  ⟨b, vs, rfl, ⟨upd_same, h.notin hn, h.nopv hn⟩, RepL.put hn ds vs r⟩
theorem LstAt.sq {K : PySem.W.Frag} {a : Addr} {vs : List V} (h : LstAt ph H a vs) : SqL K H a vs := .inl (.inl h.1)
theorem TupAt.sq {K : PySem.W.Frag} {a : Addr} {vs : List V} (h : TupAt ph H a vs) : SqT K H a vs := .inl (.inl h.1)
theorem FrzAt.sq {a : Addr} {vs : List V} (h : FrzAt W ph H a vs) : SqL W.K H a vs := h.elim (fun ⟨⟨o, h⟩, _⟩ => .inl (.inr ⟨o, h⟩)) fun h => h H
end
end PM

/-! PMJ: judgements: a piece of syntax runs as a plain function says. -/
namespace PM
open PySem PySem.Spec L2 PyProof.Rows

/-- what is wanted behind an expression, by its plain outcome -/
def Post (W : Wd) (Wx : WX) (ph : Plc) (H : Hp) (σ : L2.St) (Q : VK) : Res → Prop
  | .ok d m' => ∀ v H' ph', Ste W ph H ph' H' m' → Rep W ph' H' d v → Q v H'
  | .exn c d m' => ∀ dx x H' ph', Ste W ph H ph' H' m' → H' dx = some (fdict x) → ph'.ok dx → Rep W ph' H' d x → Wx (.ref (W.C c)) (some dx) σ H'
def tX (W : Wd) (Wx : WX) (r : Option Res) (ph : Plc) (σ : L2.St) (H : Hp) (Q : VK) : Prop := ∃ o, r = some o ∧ Post W Wx ph H σ Q o
def tE (W : Wd) (Wx : WX) (f : FE) : TE := fun σ H Q => ∃ ph env m, RelEnv W ph H env σ ∧ RelSto W ph H m ∧ tX W Wx (f env m) ph σ H Q
structure Lv where
  N : List Str
  sc : Scope
  k : Nat
  calm : Bool
  top : Bool
def visB (sc : Scope) (x : Str) : Bool := match sc.names.lookup x with
  | some .local => true
  | some .cell => true
  | some .free => true
  | _ => false
def locB (sc : Scope) (x : Str) : Bool := match sc.names.lookup x with
  | some .local => true
  | some .cell => true
  | _ => false
structure Fits (W : Wd) (L : Lv) (R : Rst) : Prop where
  room : L.calm = true → Room L.k R.A
  un : R.A.units + 64 < cLine
  grd : R.A.guards = some W.gs
  calm : L.calm = true → R.calm = true
  vis : ∀ x, visB L.sc x = true → Vis R.env.scope x
  gl : ∀ x, L.sc.names.lookup x = some .globalImplicit → R.env.kindOf x = some .globalImplicit
  loc : ∀ x, locB L.sc x = true → Loc R.env.scope x ∧ (R.fn x = true ∨ R.env.scope.names.lookup x = some .local)
  lcl : L.top = true → ∀ x, L.sc.names.lookup x = some .local → R.env.scope.names.lookup x = some .local
  scp : L.top = true → R.env.scope = L.sc
  nd : L.N.Nodup
  pass : L.top = true → PassesOwn (model W.P W.w) R.A R.env R.xe
  cau : L.top = true → ∀ a dx, W.ca = some (a, dx) → ∃ (R0 : Rst) (oe : Obj) (pn : List (Addr × Obj)) (c : Nat), R = { R0 with A := R0.A.mark (some (.ref a)), calm := false, pn := (a, oe) :: pn, xe := fun _ _ => False } ∧ Zc (.ref (W.C c)) (some dx) oe ∧ (∃ vs, oe.data = .fields vs) ∧ XfC W.K (W.C c) ∧ PySem.W.findIn W.K (.ref (W.C c)) "found" = some none
  stk : L.top = true → R.stack = R.env :: R.outer ∧ R.env.frame = some R.env.locals
  dp : L.top = true → R.A.depth + 3 * L.k + 5 < recursionLimit ∧ R.A.units + 16 * L.k + 200 < cLine
def DE (W : Wd) (L : Lv) (e : Expr) (f : FE) : Prop := ∀ R, Fits W L R → ∀ Wx : WX, Takes (mkX W L.N R) Wx → PE (mkX W L.N R) e (tE W Wx f)
section
variable {W : Wd} {Wx : WX} {ph ph' ph1 : Plc} {H H' H1 : Hp} {m m' m1 : Sto} {σ : L2.St} {env : Nv} {Q Q' : VK} {L : Lv} {R : Rst} {X : Cx} {e : Expr}
theorem PE.imp {t t' : TE} (h : PE X e t) (hi : ∀ σ H Q, t' σ H Q → t σ H Q) : PE X e t' := ⟨fun pins s σ H Q I q => h.run pins s σ H Q I (hi σ H Q q)⟩
theorem PT.imp {t t' : TT} (h : PT X e t) (hi : ∀ σ H Q, t' σ H Q → t σ H Q) : PT X e t' := ⟨fun pins s σ H Q I q => h.run pins s σ H Q I (hi σ H Q q)⟩
theorem PA.imp {es : List Expr} {t t' : TA} (h : PA X es t) (hi : ∀ σ H Q, t' σ H Q → t σ H Q) : PA X es t' := ⟨fun pos pins s σ H Q I q => h.run pos pins s σ H Q I (hi σ H Q q)⟩
theorem PSs.imp {sts : List Stmt} {t t' : TS} (h : PSs X sts t) (hi : ∀ D σ H, t' D σ H → t D σ H) : PSs X sts t' := ⟨fun pins s σ H D I q => h.run pins s σ H D I (hi D σ H q)⟩
theorem PS.imp {st : Stmt} {t t' : TS} (h : PS X st t) (hi : ∀ D σ H, t' D σ H → t D σ H) : PS X st t' := ⟨fun pins s σ H D I q => h.run pins s σ H D I (hi D σ H q)⟩
theorem Post.later {o : Res} (s : Ste W ph H ph1 H1 m1) (h : Post W Wx ph H σ Q o) : Post W Wx ph1 H1 σ Q o := by
  cases o with
  | ok d m' => exact fun v H' ph' t r => h v H' ph' (s.trans t) r
  | exn c d m' => exact fun dx x H' ph' t a b r => h dx x H' ph' (s.trans t) a b r
theorem Post.imp {o : Res} (hi : ∀ v H, Q v H → Q' v H) (h : Post W Wx ph H σ Q o) : Post W Wx ph H σ Q' o := by
  cases o with
  | ok d m' => exact fun v H' ph' t r => hi _ _ (h v H' ph' t r)
  | exn c d m' => exact h
theorem tX.later {r : Option Res} (s : Ste W ph H ph1 H1 m1) (h : tX W Wx r ph σ H Q) : tX W Wx r ph1 σ H1 Q := let ⟨o, e, p⟩ := h; ⟨o, e, p.later s⟩
/-- one after the other -/
theorem tX.bnd {r : Option Res} {k : D → Sto → Option Res} (hs : RelSto W ph H m) (h : tX W Wx (bnd r k) ph σ H Q) :
    tX W Wx r ph σ H fun v H1 => ∃ ph1 m1 d, Ste W ph H ph1 H1 m1 ∧ Rep W ph1 H1 d v ∧ tX W Wx (k d m1) ph1 σ H1 Q := by
  obtain ⟨o, e, p⟩ := h
  match r, e with
  | some (.ok d m1), e => exact ⟨_, rfl, fun v H' ph' s r => ⟨ph', m1, d, s, r, o, e, p.later s⟩⟩
  | some (.exn c d m1), e =>
    have e : some (Res.exn c d m1) = some o := e
    cases e
    exact ⟨_, rfl, p⟩
  | none, e => cases e
theorem tE.mk {f : FE} (a : RelEnv W ph H env σ) (b : RelSto W ph H m) (c : tX W Wx (f env m) ph σ H Q) : tE W Wx f σ H Q := ⟨ph, env, m, a, b, c⟩
theorem tE.imp {f : FE} (hi : ∀ v H, Q v H → Q' v H) (h : tE W Wx f σ H Q) : tE W Wx f σ H Q' := let ⟨ph, env, m, a, b, o, e, p⟩ := h; ⟨ph, env, m, a, b, o, e, p.imp hi⟩
theorem tX.imp {r : Option Res} (hi : ∀ v H, Q v H → Q' v H) (h : tX W Wx r ph σ H Q) : tX W Wx r ph σ H Q' := let ⟨o, e, p⟩ := h; ⟨o, e, p.imp hi⟩
end

/-! ### names, constants, operators by values -/
def eVar (i : Nat) : FE := fun env m => match env[i]? with
  | some (some d) => some (.ok d m)
  | _ => none
def eC (d : D) : FE := fun _ m => some (.ok d m)
def out (m : Sto) : Option D → Option Res
  | some d => some (.ok d m)
  | none => none
@[simp] theorem out_some (m : Sto) (d : D) : out m (some d) = some (.ok d m) := rfl
@[simp] theorem out_none (m : Sto) : out m none = none := rfl
def e1 (op : D → Sto → Option D) (a : FE) : FE := fun env m => bnd (a env m) fun x m1 => out m1 (op x m1)
def e2 (op : D → D → Sto → Option D) (a b : FE) : FE := fun env m => bnd (a env m) fun x m1 => bnd (b env m1) fun y m2 => out m2 (op x y m2)
/-- behind a value that is read or made: no place of the store is changed -/
def PostD (W : Wd) (ph : Plc) (H : Hp) (m : Sto) (Q : VK) (d : D) : Prop := ∀ v H' ph', Ste W ph H ph' H' m → Rep W ph' H' d v → Q v H'
def rD1 (W : Wd) (op : D → Sto → Option D) : V → Hp → VK → Prop := fun x H Q => ∃ ph m dx d, RelSto W ph H m ∧ Rep W ph H dx x ∧ op dx m = some d ∧ PostD W ph H m Q d
def rD2 (W : Wd) (op : D → D → Sto → Option D) : R2 := fun x y H Q => ∃ ph m dx dy d, RelSto W ph H m ∧ Rep W ph H dx x ∧ Rep W ph H dy y ∧ op dx dy m = some d ∧ PostD W ph H m Q d
def rDN (W : Wd) (op : List D → Sto → Option D) : List V → Hp → VK → Prop := fun xs H Q => ∃ ph m ds d, RelSto W ph H m ∧ RepL W ph H ds xs ∧ op ds m = some d ∧ PostD W ph H m Q d
section
variable {W : Wd} {Wx : WX} {ph ph' ph1 : Plc} {H H' H1 : Hp} {m m' m1 : Sto} {σ : L2.St} {env : Nv} {Q Q' : VK} {L : Lv} {R : Rst} {X : Cx} {e a b c : Expr} {fa fb fc : FE} {pos : Pos}
theorem PostD.here {d : D} {v : V} (hs : RelSto W ph H m) (r : Rep W ph H d v) (h : PostD W ph H m Q d) : Q v H := h v H ph (.refl hs) r
theorem tX.outD {o : Option D} (h : tX W Wx (out m o) ph σ H Q) : ∃ d, o = some d ∧ PostD W ph H m Q d := by
  obtain ⟨r, e, p⟩ := h
  cases o with
  | none => cases e
  | some d => cases e; exact ⟨d, rfl, p⟩
theorem de_var {i : Nat} {x : Str} (hN : L.N[i]? = some x := by rfl) (hv : visB L.sc x = true := by rfl) (hd : (x == ("__debug__" : Str)) = false := by decide) (hcd : (x == ("__classdict__" : Str)) = false := by decide) : DE W L (.Name x pos) (eVar i) := by
  intro R F Wx tk
  refine PE.imp (pe_var (X := mkX W L.N R) hN (F.vis x hv) hd hcd) fun σ H Q h => ?_
  obtain ⟨ph, env, m, he, hs, o, e, p⟩ := h
  unfold eVar at e
  split at e
  · rename_i d hd
    cases e
    obtain ⟨v, e1, r⟩ := he.val i d hd
    exact ⟨v, e1, p v H ph (.refl hs) r⟩
  · cases e
theorem de_c {d : D} {v : V} (h : ∀ R, PE (mkX W L.N R) e (tC v)) (hr : ∀ ph H, Rep W ph H d v) : DE W L e (eC d) := by
  intro R F Wx tk
  refine PE.imp (h R) fun σ H Q h => ?_
  obtain ⟨ph, env, m, he, hs, o, e, p⟩ := h
  cases e
  exact p v H ph (.refl hs) (hr ph H)
theorem de_int {i : Int} {j : Nat} : DE W L (.Constant (.int i) j pos) (eC (.int i)) := de_c (v := .int i) (fun _ => pe_int) fun _ _ => rfl
theorem de_bl {b : Bool} {j : Nat} : DE W L (.Constant (.bool b) j pos) (eC (.bl b)) := de_c (v := .bl b) (fun _ => pe_bl) fun _ _ => rfl
theorem de_non {j : Nat} : DE W L (.Constant .none j pos) (eC .non) := de_c (v := .non) (fun _ => pe_non) fun _ _ => rfl
theorem de_str {x : Str} {j : Nat} : DE W L (.Constant (.str x) j pos) (eC (.str x)) := de_c (v := .str x) (fun _ => pe_str) fun _ _ => rfl
/-- a module's constant that is no object -/
theorem de_glob {x : Str} {d : D} {v : V} {u : Value} (hm : W.mg x = some u) (r : RelV v u) (hr : ∀ ph H, Rep W ph H d v) (hg : L.sc.names.lookup x = some .globalImplicit := by rfl) (hd : (x == ("__debug__" : Str)) = false := by decide) : DE W L (.Name x pos) (eC d) := by
  intro R F Wx tk
  refine PE.imp (pe_glob (X := mkX W L.N R) (F.gl x hg) hm r hd) fun σ H Q h => ?_
  obtain ⟨ph, env, m, he, hs, o, e, p⟩ := h
  cases e
  exact p v H ph (.refl hs) (hr ph H)
def Op2 (W : Wd) (L : Lv) (f : Value → Value → Sem Value) (op : D → D → Sto → Option D) : Prop := ∀ R, Fits W L R → OpR (mkX W L.N R) f (rD2 W op)
def Op1 (W : Wd) (L : Lv) (f : Value → Sem Value) (op : D → Sto → Option D) : Prop := ∀ R, Fits W L R → UnR (mkX W L.N R) f (rD1 W op)
def OpN (W : Wd) (L : Lv) (f : Value) (op : List D → Sto → Option D) : Prop := ∀ R, Fits W L R → CallR (mkX W L.N R) f (rDN W op)
theorem t_op2 {op : D → D → Sto → Option D} (h : tE W Wx (e2 op fa fb) σ H Q) : tOp (rD2 W op) (tE W Wx fa) (tE W Wx fb) σ H Q := by
  obtain ⟨ph, env, m, he, hs, h⟩ := h
  refine tE.mk he hs ((tX.bnd hs h).imp fun v1 H1 q => ?_)
  obtain ⟨ph1, m1, d1, s1, r1, h1⟩ := q
  refine tE.mk (he.mono s1) s1.sto ((tX.bnd s1.sto h1).imp fun v2 H2 q => ?_)
  obtain ⟨ph2, m2, d2, s2, r2, h2⟩ := q
  obtain ⟨d, e, p⟩ := tX.outD h2
  exact ⟨ph2, m2, d1, d2, d, s2.sto, Rep.mono s2 d1 v1 r1, r2, e, p⟩
theorem t_op1 {op : D → Sto → Option D} (h : tE W Wx (e1 op fa) σ H Q) : tUn (rD1 W op) (tE W Wx fa) σ H Q := by
  obtain ⟨ph, env, m, he, hs, h⟩ := h
  refine tE.mk he hs ((tX.bnd hs h).imp fun v1 H1 q => ?_)
  obtain ⟨ph1, m1, d1, s1, r1, h1⟩ := q
  obtain ⟨d, e, p⟩ := tX.outD h1
  exact ⟨ph1, m1, d1, d, s1.sto, r1, e, p⟩
theorem de_bin {o : Operator} {op : D → D → Sto → Option D} (ho : Op2 W L (binaryOp o) op) (ha : DE W L a fa) (hb : DE W L b fb) : DE W L (.BinOp a o b pos) (e2 op fa fb) :=
  fun R F Wx tk => PE.imp (pe_op (ho R F) (ha R F Wx tk) (hb R F Wx tk)) fun _ _ _ h => t_op2 h
theorem de_un {o : UnaryOp} {op : D → Sto → Option D} (ho : Op1 W L (unaryOp o) op) (ha : DE W L a fa) : DE W L (.UnaryOp o a pos) (e1 op fa) :=
  fun R F Wx tk => PE.imp (pe_un (ho R F) (ha R F Wx tk)) fun _ _ _ h => t_op1 h
theorem de_cmp {o : CmpOp} {op : D → D → Sto → Option D} (ho : Op2 W L (compareOp o) op) (ha : DE W L a fa) (hb : DE W L b fb) (hm : behindInMarks o b = false) : DE W L (.Compare a [o] [b] pos) (e2 op fa fb) :=
  fun R F Wx tk => PE.imp (pe_cmpR (ho R F) (ha R F Wx tk) (hb R F Wx tk) hm) fun _ _ _ h => t_op2 h
end
end PM

/-! PMA: argument lists, displays, tests, chains. -/
namespace PM
open PySem PySem.Spec L2 PyProof.Rows

inductive ResL where
  | ok (ds : List D) (m : Sto) | exn (c : Nat) (d : D) (m : Sto)
def bndl (r : Option ResL) (k : List D → Sto → Option Res) : Option Res :=
  match r with
  | some (.ok ds m) => k ds m
  | some (.exn c d m) => some (.exn c d m)
  | none => none
@[simp] theorem bndl_ok (ds : List D) (m : Sto) (k : List D → Sto → Option Res) : bndl (some (.ok ds m)) k = k ds m := rfl
@[simp] theorem bndl_none (k : List D → Sto → Option Res) : bndl none k = none := rfl
def consR (d : D) : Option ResL → Option ResL
  | some (.ok ds m) => some (.ok (d :: ds) m)
  | o => o
@[simp] theorem consR_ok (d : D) (ds : List D) (m : Sto) : consR d (some (.ok ds m)) = some (.ok (d :: ds) m) := rfl
def bndc (r : Option Res) (k : D → Sto → Option ResL) : Option ResL :=
  match r with
  | some (.ok d m) => k d m
  | some (.exn c d m) => some (.exn c d m)
  | none => none
@[simp] theorem bndc_ok (d : D) (m : Sto) (k : D → Sto → Option ResL) : bndc (some (.ok d m)) k = k d m := rfl
def evL : List FE → Nv → Sto → Option ResL
  | [], _, m => some (.ok [] m)
  | f :: fs, env, m => bndc (f env m) fun d m1 => consR d (evL fs env m1)
@[simp] theorem evL_nil (env : Nv) (m : Sto) : evL [] env m = some (.ok [] m) := rfl
theorem evL_cons (f : FE) (fs : List FE) (env : Nv) (m : Sto) : evL (f :: fs) env m = bndc (f env m) fun d m1 => consR d (evL fs env m1) := rfl
def PostL (W : Wd) (Wx : WX) (ph : Plc) (H : Hp) (σ : L2.St) (Q : List V → Hp → Prop) : ResL → Prop
  | .ok ds m' => ∀ vs H' ph', Ste W ph H ph' H' m' → RepL W ph' H' ds vs → Q vs H'
  | .exn c d m' => ∀ dx x H' ph', Ste W ph H ph' H' m' → H' dx = some (fdict x) → ph'.ok dx → Rep W ph' H' d x → Wx (.ref (W.C c)) (some dx) σ H'
def tXL (W : Wd) (Wx : WX) (r : Option ResL) (ph : Plc) (σ : L2.St) (H : Hp) (Q : List V → Hp → Prop) : Prop := ∃ o, r = some o ∧ PostL W Wx ph H σ Q o
def tL (W : Wd) (Wx : WX) (fs : List FE) : TA := fun σ H Q => ∃ ph env m, RelEnv W ph H env σ ∧ RelSto W ph H m ∧ tXL W Wx (evL fs env m) ph σ H Q
def DA (W : Wd) (L : Lv) (es : List Expr) (fs : List FE) : Prop := ∀ R, Fits W L R → ∀ Wx : WX, Takes (mkX W L.N R) Wx → PA (mkX W L.N R) es (tL W Wx fs)
def eN (op : List D → Sto → Option D) (fs : List FE) : FE := fun env m => bndl (evL fs env m) fun ds m1 => out m1 (op ds m1)
section
variable {W : Wd} {Wx : WX} {ph ph' ph1 : Plc} {H H' H1 : Hp} {m m' m1 : Sto} {σ : L2.St} {env : Nv} {Q Q' : VK} {L : Lv} {R : Rst} {X : Cx} {e a b c : Expr} {es : List Expr} {f fa fb fc : FE} {fs : List FE} {pos : Pos}
theorem PostL.later {Q : List V → Hp → Prop} {o : ResL} (s : Ste W ph H ph1 H1 m1) (h : PostL W Wx ph H σ Q o) : PostL W Wx ph1 H1 σ Q o := by
  cases o with
  | ok d m' => exact fun v H' ph' t r => h v H' ph' (s.trans t) r
  | exn c d m' => exact fun dx x H' ph' t a b r => h dx x H' ph' (s.trans t) a b r
/-- an argument list, then what is done with it -/
theorem tX.bndl {r : Option ResL} {k : List D → Sto → Option Res} (hs : RelSto W ph H m) (h : tX W Wx (PM.bndl r k) ph σ H Q) :
    tXL W Wx r ph σ H fun vs H1 => ∃ ph1 m1 ds, Ste W ph H ph1 H1 m1 ∧ RepL W ph1 H1 ds vs ∧ tX W Wx (k ds m1) ph1 σ H1 Q := by
  obtain ⟨o, e, p⟩ := h
  match r, e with
  | some (.ok ds m1), e => exact ⟨_, rfl, fun v H' ph' s r => ⟨ph', m1, ds, s, r, o, e, p.later s⟩⟩
  | some (.exn c d m1), e =>
    have e : some (Res.exn c d m1) = some o := e
    cases e
    exact ⟨_, rfl, p⟩
  | none, e => cases e
theorem da_nil : DA W L [] [] := by
  intro R F Wx tk
  refine PA.imp pa_nil fun σ H Q h => ?_
  obtain ⟨ph, env, m, he, hs, o, e, p⟩ := h
  cases e
  exact p [] H ph (.refl hs) rfl
theorem da_cons (ha : DE W L e f) (hr : DA W L es fs) (hs : ∀ env, starEach (e :: es) env = (false, eval e env) :: starEach es env := by intro _; rfl) : DA W L (e :: es) (f :: fs) := by
  intro R F Wx tk
  refine PA.imp (pa_cons (ha R F Wx tk) (hr R F Wx tk) (hs _)) fun σ H Q h => ?_
  obtain ⟨ph, env, m, he, hs, o, e, p⟩ := h
  show tE W Wx f σ H fun x H1 => tL W Wx fs σ H1 fun xs H2 => Q (x :: xs) H2
  rw [evL_cons] at e
  refine tE.mk he hs ?_
  cases hf : f env m with
  | none => rw [hf] at e; cases e
  | some r =>
    rw [hf] at e
    cases r with
    | exn c d m1 =>
      have e : some (ResL.exn c d m1) = some o := e
      cases e
      exact ⟨_, rfl, p⟩
    | ok d m1 =>
      rw [bndc_ok] at e
      refine ⟨_, rfl, fun v H1 ph1 s1 r1 => ⟨ph1, env, m1, he.mono s1, s1.sto, ?_⟩⟩
      cases hf2 : evL fs env m1 with
      | none => rw [hf2] at e; cases e
      | some r =>
        rw [hf2] at e
        refine ⟨r, rfl, ?_⟩
        cases r with
        | exn c d m2 =>
          have e : some (ResL.exn c d m2) = some o := e
          cases e
          exact p.later s1
        | ok ds m2 =>
          cases e
          exact fun vs H2 ph2 s2 r2 => p _ H2 ph2 (s1.trans s2) (.cons (Rep.mono s2 d v r1) r2)
/-! ### displays -/
def opLst (ds : List D) (_ : Sto) : Option D := if ds.length ≤ 100000 then some (.lst ds) else none
def opTup (ds : List D) (_ : Sto) : Option D := if ds.length ≤ 100000 then some (.tup ds) else none
theorem t_opN {op : List D → Sto → Option D} (h : tE W Wx (eN op fs) σ H Q) : tL W Wx fs σ H fun vs H1 => rDN W op vs H1 Q := by
  obtain ⟨ph, env, m, he, hs, h⟩ := h
  obtain ⟨r, e, p⟩ := tX.bndl hs h
  refine ⟨ph, env, m, he, hs, r, e, ?_⟩
  cases r with
  | exn c d m1 => exact p
  | ok ds m1 =>
    intro vs H1 ph1 s1 r1
    obtain ⟨ph2, m2, ds2, s2, r2, h2⟩ := p vs H1 ph1 s1 r1
    obtain ⟨d, e2, p2⟩ := tX.outD h2
    exact ⟨ph2, m2, ds2, d, s2.sto, r2, e2, p2⟩
theorem line5 : (100000 : Nat) ≤ sizeLine := by rw [sizeLine_eq]; decide
theorem de_lst (h : DA W L es fs) : DE W L (.List es pos) (eN opLst fs) := by
  intro R F Wx tk
  refine PE.imp (pe_lst (h R F Wx tk)) fun σ H Q h => ?_
  have h' := t_opN h
  obtain ⟨ph, env, m, he, hs, o, e, p⟩ := h'
  refine ⟨ph, env, m, he, hs, o, e, ?_⟩
  cases o with
  | exn c d m1 => exact p
  | ok ds m1 =>
    intro vs H1 ph1 s1 r1
    obtain ⟨ph2, m2, ds2, d, s2, r2, e2, p2⟩ := p vs H1 ph1 s1 r1
    unfold opLst at e2
    split at e2
    · rename_i hl
      cases e2
      refine ⟨by rw [← r2.length]; exact Nat.le_trans hl line5, fun a ha => ?_⟩
      exact p2 _ _ ph2 (.put ha s2) (.newL ha s2 r2)
    · cases e2
theorem de_tup {x1 : Nat} (h : DA W L es fs) : DE W L (.Tuple es x1 pos) (eN opTup fs) := by
  intro R F Wx tk
  refine PE.imp (pe_tup (h R F Wx tk)) fun σ H Q h => ?_
  have h' := t_opN h
  obtain ⟨ph, env, m, he, hs, o, e, p⟩ := h'
  refine ⟨ph, env, m, he, hs, o, e, ?_⟩
  cases o with
  | exn c d m1 => exact p
  | ok ds m1 =>
    intro vs H1 ph1 s1 r1
    obtain ⟨ph2, m2, ds2, d, s2, r2, e2, p2⟩ := p vs H1 ph1 s1 r1
    unfold opTup at e2
    split at e2
    · rename_i hl
      cases e2
      refine ⟨by rw [← r2.length]; exact Nat.le_trans hl line5, fun a ha => ?_⟩
      exact p2 _ _ ph2 (.put ha s2) (.newT ha s2 r2)
    · cases e2
/-! ### built-in functions and types, called -/
theorem de_callB {x : Str} {id : String} {p : Pos} {op : List D → Sto → Option D} (ho : OpN W L (.builtin id) op) (hm : W.mg x = none) (hv : bootBuiltins x = some (.builtin id)) (ha : DA W L (e :: es) fs) (hg : L.sc.names.lookup x = some .globalImplicit := by rfl)
    (hn : x ≠ "__name__" := by decide) (hdb : (x == ("__debug__" : Str)) = false := by decide) (he : ∀ env, starEach (e :: es) env = (false, eval e env) :: starEach es env := by intro _; rfl) (hpl : ∀ env, (backTo pos (starEach es env)).any (·.1) = false := by intro _; rfl) :
    DE W L (.Call (.Name x p) (e :: es) [] pos) (eN op fs) :=
  fun R F Wx tk => PE.imp (pe_callB (ho R F) (F.gl x hg) hm hv (ha R F Wx tk) hn hdb (he _) (hpl _)) fun _ _ _ h => t_opN h
theorem de_callTy {x : Str} {T : String} {p : Pos} {op : List D → Sto → Option D} (ho : OpN W L (.type T) op) (hm : W.mg x = none) (hv : bootBuiltins x = some (.type T)) (ha : DA W L (e :: es) fs) (hg : L.sc.names.lookup x = some .globalImplicit := by rfl)
    (hn : x ≠ "__name__" := by decide) (hdb : (x == ("__debug__" : Str)) = false := by decide) (he : ∀ env, starEach (e :: es) env = (false, eval e env) :: starEach es env := by intro _; rfl) (hpl : ∀ env, (backTo pos (starEach es env)).any (·.1) = false := by intro _; rfl) :
    DE W L (.Call (.Name x p) (e :: es) [] pos) (eN op fs) :=
  fun R F Wx tk => PE.imp (pe_callTy (ho R F) (F.gl x hg) hm hv (ha R F Wx tk) hn hdb (he _) (hpl _)) fun _ _ _ h => t_opN h
end
/-! ### tests -/
def truth : D → Sto → Option Bool
  | .non, _ => some false
  | .bl b, _ => some b
  | .int i, _ => some (i != 0)
  | .str s, _ => if s.length ≤ 1000000 then some (s.length != 0) else none
  | .lst xs, _ => some (!xs.isEmpty)
  | .tup xs, _ => some (!xs.isEmpty)
  | _, _ => none
@[simp] theorem truth_bl (b : Bool) (m : Sto) : truth (.bl b) m = some b := rfl
def PostT (W : Wd) (Wx : WX) (ph : Plc) (H : Hp) (σ : L2.St) (Q : Bool → Hp → Prop) : Res → Prop
  | .ok d m' => ∃ b, truth d m' = some b ∧ ∀ H' ph', Ste W ph H ph' H' m' → Q b H'
  | .exn c d m' => ∀ dx x H' ph', Ste W ph H ph' H' m' → H' dx = some (fdict x) → ph'.ok dx → Rep W ph' H' d x → Wx (.ref (W.C c)) (some dx) σ H'
def tXT (W : Wd) (Wx : WX) (r : Option Res) (ph : Plc) (σ : L2.St) (H : Hp) (Q : Bool → Hp → Prop) : Prop := ∃ o, r = some o ∧ PostT W Wx ph H σ Q o
def tT (W : Wd) (Wx : WX) (f : FE) : TT := fun σ H Q => ∃ ph env m, RelEnv W ph H env σ ∧ RelSto W ph H m ∧ tXT W Wx (f env m) ph σ H Q
def DT (W : Wd) (L : Lv) (e : Expr) (f : FE) : Prop := ∀ R, Fits W L R → ∀ Wx : WX, Takes (mkX W L.N R) Wx → PT (mkX W L.N R) e (tT W Wx f)
def DW (W : Wd) (L : Lv) (e : Expr) (f : FE) : Prop := ∀ R, Fits W L R → ∀ Wx : WX, Takes (mkX W L.N R) Wx → PW (mkX W L.N R) e (tT W Wx f)
def eAnd (a b : FE) : FE := fun env m => bnd (a env m) fun x m1 => match x with
  | .bl true => b env m1
  | .bl false => some (.ok (.bl false) m1)
  | _ => none
def eOr (a b : FE) : FE := fun env m => bnd (a env m) fun x m1 => match x with
  | .bl true => some (.ok (.bl true) m1)
  | .bl false => b env m1
  | _ => none
def eNot (a : FE) : FE := fun env m => bnd (a env m) fun x m1 => match truth x m1 with
  | some b => some (.ok (.bl (!b)) m1)
  | none => none
def eIf (t a b : FE) : FE := fun env m => bnd (t env m) fun x m1 => match truth x m1 with
  | some true => a env m1
  | some false => b env m1
  | none => none
/-- a o1 b o2 c -/
def eChain (o1 o2 : D → D → Sto → Option D) (a b c : FE) : FE := fun env m => bnd (a env m) fun x m1 => bnd (b env m1) fun y m2 => match o1 x y m2 with
  | some (.bl true) => bnd (c env m2) fun z m3 => out m3 (o2 y z m3)
  | some (.bl false) => some (.ok (.bl false) m2)
  | _ => none
section
variable {W : Wd} {Wx : WX} {ph ph' ph1 : Plc} {H H' H1 : Hp} {m m' m1 : Sto} {σ : L2.St} {env : Nv} {Q Q' : VK} {L : Lv} {R : Rst} {X : Cx} {e a b c : Expr} {es : List Expr} {f fa fb fc : FE} {fs : List FE} {pos : Pos}
theorem PostT.later {Q : Bool → Hp → Prop} {o : Res} (s : Ste W ph H ph1 H1 m1) (h : PostT W Wx ph H σ Q o) : PostT W Wx ph1 H1 σ Q o := by
  cases o with
  | ok d m' =>
    obtain ⟨b, e, h⟩ := h
    exact ⟨b, e, fun H' ph' t => h H' ph' (s.trans t)⟩
  | exn c d m' => exact fun dx x H' ph' t a b r => h dx x H' ph' (s.trans t) a b r
theorem tXT.later {Q : Bool → Hp → Prop} {r : Option Res} (s : Ste W ph H ph1 H1 m1) (h : tXT W Wx r ph σ H Q) : tXT W Wx r ph1 σ H1 Q := let ⟨o, e, p⟩ := h; ⟨o, e, p.later s⟩
theorem tXT.bnd {Q : Bool → Hp → Prop} {r : Option Res} {k : D → Sto → Option Res} (hs : RelSto W ph H m) (h : tXT W Wx (PM.bnd r k) ph σ H Q) :
    tX W Wx r ph σ H fun v H1 => ∃ ph1 m1 d, Ste W ph H ph1 H1 m1 ∧ Rep W ph1 H1 d v ∧ tXT W Wx (k d m1) ph1 σ H1 Q := by
  obtain ⟨o, e, p⟩ := h
  match r, e with
  | some (.ok d m1), e => exact ⟨_, rfl, fun v H' ph' s r => ⟨ph', m1, d, s, r, o, e, p.later s⟩⟩
  | some (.exn c d m1), e =>
    have e : some (Res.exn c d m1) = some o := e
    cases e
    exact ⟨_, rfl, p⟩
  | none, e => cases e
/-- a test, then what is done by its outcome -/
theorem tXT.of_bnd {r : Option Res} {k : D → Sto → Option Res} {Q2 : VK} (h : tX W Wx (PM.bnd r k) ph σ H Q2) (hk : ∀ d m1 o, k d m1 = some o → ∃ b, truth d m1 = some b) :
    tXT W Wx r ph σ H fun b H1 => ∃ ph1 m1 d, Ste W ph H ph1 H1 m1 ∧ truth d m1 = some b ∧ tX W Wx (k d m1) ph1 σ H1 Q2 := by
  obtain ⟨o, e, p⟩ := h
  match r, e with
  | some (.ok d m1), e =>
    obtain ⟨b, hb⟩ := hk d m1 o e
    exact ⟨_, rfl, b, hb, fun H' ph' s => ⟨ph', m1, d, s, hb, o, e, p.later s⟩⟩
  | some (.exn c d m1), e =>
    have e : some (Res.exn c d m1) = some o := e
    cases e
    exact ⟨_, rfl, p⟩
  | none, e => cases e
theorem tXT.of_bndT {r : Option Res} {k : D → Sto → Option Res} {Q2 : Bool → Hp → Prop} (h : tXT W Wx (PM.bnd r k) ph σ H Q2) (hk : ∀ d m1 o, k d m1 = some o → ∃ b, truth d m1 = some b) :
    tXT W Wx r ph σ H fun b H1 => ∃ ph1 m1 d, Ste W ph H ph1 H1 m1 ∧ truth d m1 = some b ∧ tXT W Wx (k d m1) ph1 σ H1 Q2 := by
  obtain ⟨o, e, p⟩ := h
  match r, e with
  | some (.ok d m1), e =>
    obtain ⟨b, hb⟩ := hk d m1 o e
    exact ⟨_, rfl, b, hb, fun H' ph' s => ⟨ph', m1, d, s, hb, o, e, p.later s⟩⟩
  | some (.exn c d m1), e =>
    have e : some (Res.exn c d m1) = some o := e
    cases e
    exact ⟨_, rfl, p⟩
  | none, e => cases e
theorem truth_rep {K : PySem.W.Frag} {d : D} {v : V} {b : Bool} (hK : W.K = K) (e : truth d m = some b) (r : Rep W ph H d v) : TruV K v H b := by
  subst hK
  have l1 : (1000000 : Nat) ≤ sizeLine := by rw [sizeLine_eq]; decide
  unfold truth at e
  split at e
  · cases e; cases r; rfl
  · cases e; cases r; rfl
  · cases e; cases r; rfl
  · rename_i s
    split at e
    · rename_i hl
      cases e
      have r : v = .str s := r
      subst r
      refine ⟨Nat.le_trans hl l1, ?_⟩
      cases h0 : s.length with
      | zero => rfl
      | succ n => rfl
    · cases e
  · rename_i xs
    cases e
    obtain ⟨a, vs, rfl, l, r⟩ := r
    refine .inl ⟨vs, l.sq, ?_⟩
    have := r.length
    cases xs <;> cases vs <;> first | rfl | cases this
  · rename_i xs
    cases e
    obtain ⟨a, vs, rfl, l, r⟩ := r
    refine .inr (.inl ⟨vs, l.sq, ?_⟩)
    have := r.length
    cases xs <;> cases vs <;> first | rfl | cases this
  · cases e
theorem dt_val (ha : DE W L a fa) (he : ∀ env whole, isTrue a env whole = (do let v ← whole; standAt a.pos; holding [v] (truthy v)) := by intro _ _; rfl) : DT W L a fa := by
  intro R F Wx tk
  refine PT.imp (pt_truth (X := mkX W L.N R) (ha R F Wx tk) (he _)) fun σ H Q h => ?_
  obtain ⟨ph, env, m, hv, hs, o, e, p⟩ := h
  show tE W Wx fa σ H _
  refine tE.mk hv hs ⟨o, e, ?_⟩
  cases o with
  | exn c d m1 => exact p
  | ok d m1 =>
    obtain ⟨b, hb, p⟩ := p
    exact fun v H' ph' s r => ⟨b, truth_rep rfl hb r, p H' ph' s⟩
theorem bool_op2 {op : D → D → Sto → Option D} (hop : ∀ x y m d, op x y m = some d → ∃ b, d = .bl b) {Q : Bool → Hp → Prop} (h : tT W Wx (e2 op fa fb) σ H Q) : tTest (tOp (rD2 W op) (tE W Wx fa) (tE W Wx fb)) σ H Q := by
  obtain ⟨ph, env, m, he, hs, h⟩ := h
  refine tE.mk he hs ((tXT.bnd hs h).imp fun v1 H1 q => ?_)
  obtain ⟨ph1, m1, d1, s1, r1, h1⟩ := q
  refine tE.mk (he.mono s1) s1.sto ((tXT.bnd s1.sto h1).imp fun v2 H2 q => ?_)
  obtain ⟨ph2, m2, d2, s2, r2, o, e, p⟩ := q
  cases q : op d1 d2 m2 with
  | none => rw [q] at e; cases e
  | some d =>
    rw [q] at e
    cases e
    obtain ⟨b, rfl⟩ := hop _ _ _ _ q
    obtain ⟨b', hb, p⟩ := p
    cases hb
    refine ⟨ph2, m2, d1, d2, .bl b, s2.sto, Rep.mono s2 d1 v1 r1, r2, q, fun v H' ph' s r => ⟨b, r, p H' ph' s⟩⟩
theorem dt_cmp {o : CmpOp} {op : D → D → Sto → Option D} (ho : Op2 W L (compareOp o) op) (hop : ∀ x y m d, op x y m = some d → ∃ b, d = .bl b) (ha : DE W L a fa) (hb : DE W L b fb) (hm : behindInMarks o b = false) : DT W L (.Compare a [o] [b] pos) (e2 op fa fb) :=
  fun R F Wx tk => PT.imp (pt_cmpR (ho R F) (ha R F Wx tk) (hb R F Wx tk) hm) fun _ _ _ h => bool_op2 hop h
theorem dt_not (ha : DT W L a fa) : DT W L (.UnaryOp .Not a pos) (eNot fa) := by
  intro R F Wx tk
  refine PT.imp (pt_not (ha R F Wx tk)) fun σ H Q h => ?_
  obtain ⟨ph, env, m, he, hs, h⟩ := h
  refine ⟨ph, env, m, he, hs, ?_⟩
  obtain ⟨o, e, p⟩ := tXT.of_bndT h fun d m1 o e => by
    cases q : truth d m1 with
    | none => rw [q] at e; cases e
    | some b => exact ⟨b, rfl⟩
  refine ⟨o, e, ?_⟩
  cases o with
  | exn c d m1 => exact p
  | ok d m1 =>
    obtain ⟨b, hb, p⟩ := p
    refine ⟨b, hb, fun H' ph' s => ?_⟩
    obtain ⟨ph1, m2, d2, s2, hb2, o2, e2, p2⟩ := p H' ph' s
    rw [hb2] at e2
    cases e2
    obtain ⟨b', hb', p2⟩ := p2
    cases hb'
    exact p2 _ _ (.refl s2.sto)
theorem bl_of_and {k : FE} {env : Nv} {d : D} {m1 : Sto} {o : Res} (e : (match d with | .bl true => k env m1 | .bl false => some (.ok (.bl false) m1) | _ => none) = some o) : ∃ b, d = .bl b := by
  cases d <;> first | exact ⟨_, rfl⟩ | cases e
theorem bl_of_or {k : FE} {env : Nv} {d : D} {m1 : Sto} {o : Res} (e : (match d with | .bl true => some (.ok (.bl true) m1) | .bl false => k env m1 | _ => none) = some o) : ∃ b, d = .bl b := by
  cases d <;> first | exact ⟨_, rfl⟩ | cases e
theorem dw_and1 (ha : DT W L a fa) : DW W L (.BoolOp .And [a] pos) fa := fun R F Wx tk => pw_and1 (ha R F Wx tk)
theorem dw_or1 (ha : DT W L a fa) : DW W L (.BoolOp .Or [a] pos) fa := fun R F Wx tk => pw_or1 (ha R F Wx tk)
theorem PW.imp {t t' : TT} (h : PW X e t) (hi : ∀ σ H Q, t' σ H Q → t σ H Q) : PW X e t' := ⟨fun wh pins s σ H Q I q => h.run wh pins s σ H Q I (hi σ H Q q)⟩
theorem dw_and {rest : List Expr} (ha : DT W L a fa) (hb : DW W L (.BoolOp .And (b :: rest) pos) fb) : DW W L (.BoolOp .And (a :: b :: rest) pos) (eAnd fa fb) := by
  intro R F Wx tk
  refine PW.imp (pw_and (ha R F Wx tk) (hb R F Wx tk)) fun σ H Q h => ?_
  obtain ⟨ph, env, m, he, hs, h⟩ := h
  refine ⟨ph, env, m, he, hs, ?_⟩
  obtain ⟨o, e, p⟩ := tXT.of_bndT h fun d m1 o e => by
    obtain ⟨b, rfl⟩ := bl_of_and e
    exact ⟨b, rfl⟩
  refine ⟨o, e, ?_⟩
  cases o with
  | exn c d m1 => exact p
  | ok d m1 =>
    obtain ⟨b, hb, p⟩ := p
    refine ⟨b, hb, fun H' ph' s => ?_⟩
    obtain ⟨ph1, m2, d2, s2, hb2, h2⟩ := p H' ph' s
    have h2' := h2
    obtain ⟨o2, e2, p2⟩ := h2
    obtain ⟨b2, rfl⟩ := bl_of_and e2
    cases hb2
    cases b with
    | true => exact ⟨ph1, env, m2, he.mono s2, s2.sto, h2'⟩
    | false =>
      cases e2
      obtain ⟨b', hb', p2⟩ := p2
      cases hb'
      exact p2 _ _ (.refl s2.sto)
theorem dw_or {rest : List Expr} (ha : DT W L a fa) (hb : DW W L (.BoolOp .Or (b :: rest) pos) fb) : DW W L (.BoolOp .Or (a :: b :: rest) pos) (eOr fa fb) := by
  intro R F Wx tk
  refine PW.imp (pw_or (ha R F Wx tk) (hb R F Wx tk)) fun σ H Q h => ?_
  obtain ⟨ph, env, m, he, hs, h⟩ := h
  refine ⟨ph, env, m, he, hs, ?_⟩
  obtain ⟨o, e, p⟩ := tXT.of_bndT h fun d m1 o e => by
    obtain ⟨b, rfl⟩ := bl_of_or e
    exact ⟨b, rfl⟩
  refine ⟨o, e, ?_⟩
  cases o with
  | exn c d m1 => exact p
  | ok d m1 =>
    obtain ⟨b, hb, p⟩ := p
    refine ⟨b, hb, fun H' ph' s => ?_⟩
    obtain ⟨ph1, m2, d2, s2, hb2, h2⟩ := p H' ph' s
    have h2' := h2
    obtain ⟨o2, e2, p2⟩ := h2
    obtain ⟨b2, rfl⟩ := bl_of_or e2
    cases hb2
    cases b with
    | false => exact ⟨ph1, env, m2, he.mono s2, s2.sto, h2'⟩
    | true =>
      cases e2
      obtain ⟨b', hb', p2⟩ := p2
      cases hb'
      exact p2 _ _ (.refl s2.sto)
theorem dt_w (h : DW W L e f) : DT W L e f := fun R F Wx tk => (h R F Wx tk).pt
/-! .. as values -/
theorem de_one {o : BoolOp} (ha : DE W L a fa) : DE W L (.BoolOp o [a] pos) fa := fun R F Wx tk => pe_one (ha R F Wx tk)
theorem de_and {rest : List Expr} (ha : DE W L a fa) (hb : DE W L (.BoolOp .And (b :: rest) pos) fb) : DE W L (.BoolOp .And (a :: b :: rest) pos) (eAnd fa fb) := by
  intro R F Wx tk
  refine PE.imp (pe_and (ha R F Wx tk) (hb R F Wx tk)) fun σ H Q h => ?_
  obtain ⟨ph, env, m, he, hs, h⟩ := h
  refine tE.mk he hs ((tX.bnd hs h).imp fun v H1 q => ?_)
  obtain ⟨ph1, m1, d1, s1, r1, h1⟩ := q
  have h1' := h1
  obtain ⟨o, e, p⟩ := h1
  obtain ⟨b, rfl⟩ := bl_of_and e
  refine ⟨b, r1, ?_⟩
  cases b with
  | true => exact ⟨ph1, env, m1, he.mono s1, s1.sto, h1'⟩
  | false =>
    cases e
    exact p _ _ _ (.refl s1.sto) rfl
theorem de_or {rest : List Expr} (ha : DE W L a fa) (hb : DE W L (.BoolOp .Or (b :: rest) pos) fb) : DE W L (.BoolOp .Or (a :: b :: rest) pos) (eOr fa fb) := by
  intro R F Wx tk
  refine PE.imp (pe_or (ha R F Wx tk) (hb R F Wx tk)) fun σ H Q h => ?_
  obtain ⟨ph, env, m, he, hs, h⟩ := h
  refine tE.mk he hs ((tX.bnd hs h).imp fun v H1 q => ?_)
  obtain ⟨ph1, m1, d1, s1, r1, h1⟩ := q
  have h1' := h1
  obtain ⟨o, e, p⟩ := h1
  obtain ⟨b, rfl⟩ := bl_of_or e
  refine ⟨b, r1, ?_⟩
  cases b with
  | false => exact ⟨ph1, env, m1, he.mono s1, s1.sto, h1'⟩
  | true =>
    cases e
    exact p _ _ _ (.refl s1.sto) rfl
/-- not a, a True or False -/
def eNotV (a : FE) : FE := fun env m => bnd (a env m) fun x m1 => match x with
  | .bl b => some (.ok (.bl (!b)) m1)
  | _ => none
theorem de_not (ha : DE W L a fa) : DE W L (.UnaryOp .Not a pos) (eNotV fa) := by
  intro R F Wx tk
  refine PE.imp (pe_not (ha R F Wx tk)) fun σ H Q h => ?_
  obtain ⟨ph, env, m, he, hs, h⟩ := h
  refine tE.mk he hs ((tX.bnd hs h).imp fun v H1 q => ?_)
  obtain ⟨ph1, m1, d1, s1, r1, o, e, p⟩ := q
  cases d1 <;> first | cases e | skip
  exact ⟨_, r1, p _ _ _ (.refl s1.sto) rfl⟩
theorem de_if (hc : DT W L c fc) (ha : DE W L a fa) (hb : DE W L b fb) : DE W L (.IfExp c a b pos) (eIf fc fa fb) := by
  intro R F Wx tk
  refine PE.imp (pe_ifExp (hc R F Wx tk) (ha R F Wx tk) (hb R F Wx tk)) fun σ H Q h => ?_
  obtain ⟨ph, env, m, he, hs, h⟩ := h
  refine ⟨ph, env, m, he, hs, ?_⟩
  obtain ⟨o, e, p⟩ := tXT.of_bnd (k := fun x m1 => match truth x m1 with | some true => fa env m1 | some false => fb env m1 | none => none) h fun d m1 o e => by
    cases q : truth d m1 with
    | none => simp only [q] at e; cases e
    | some b => exact ⟨b, rfl⟩
  refine ⟨o, e, ?_⟩
  cases o with
  | exn c d m1 => exact p
  | ok d m1 =>
    obtain ⟨b, hb, p⟩ := p
    refine ⟨b, hb, fun H' ph' s => ?_⟩
    obtain ⟨ph1, m2, d2, s2, hb2, h2⟩ := p H' ph' s
    simp only [hb2] at h2
    cases b with
    | true => exact ⟨ph1, env, m2, he.mono s2, s2.sto, h2⟩
    | false => exact ⟨ph1, env, m2, he.mono s2, s2.sto, h2⟩
theorem bl_of_chain {x : Option D} {k : Option Res} {m1 : Sto} {o : Res} (e : (match x with | some (.bl true) => k | some (.bl false) => some (.ok (.bl false) m1) | _ => none) = some o) : ∃ b, x = some (.bl b) := by
  cases x with
  | none => cases e
  | some d => cases d <;> first | exact ⟨_, rfl⟩ | cases e
theorem t_chain {o1 o2 : D → D → Sto → Option D} (h : tE W Wx (eChain o1 o2 fa fb fc) σ H Q) : tChain (rD2 W o1) (rD2 W o2) (tE W Wx fa) (tE W Wx fb) (tE W Wx fc) σ H Q := by
  obtain ⟨ph, env, m, he, hs, h⟩ := h
  refine tE.mk he hs ((tX.bnd hs h).imp fun v1 H1 q => ?_)
  obtain ⟨ph1, m1, d1, s1, r1, h1⟩ := q
  refine tE.mk (he.mono s1) s1.sto ((tX.bnd s1.sto h1).imp fun v2 H2 q => ?_)
  obtain ⟨ph2, m2, d2, s2, r2, h2⟩ := q
  have h2' := h2
  obtain ⟨o, e, p⟩ := h2
  obtain ⟨b, hb⟩ := bl_of_chain e
  refine ⟨ph2, m2, d1, d2, .bl b, s2.sto, Rep.mono s2 d1 v1 r1, r2, hb, fun v H' ph' s r => ⟨b, r, ?_⟩⟩
  rw [hb] at h2' e
  cases b with
  | false =>
    cases e
    exact p _ _ _ s rfl
  | true =>
    have r2' := Rep.mono s d2 v2 r2
    refine tE.mk ((he.mono s1).mono (s2.trans s)) s.sto ((tX.bnd s.sto (h2'.later s)).imp fun v3 H3 q => ?_)
    obtain ⟨ph3, m3, d3, s3, r3, h3⟩ := q
    obtain ⟨d, e3, p3⟩ := tX.outD h3
    exact ⟨ph3, m3, d2, d3, d, s3.sto, Rep.mono s3 d2 v2 r2', r3, e3, p3⟩
theorem de_chain {p q : CmpOp} {o1 o2 : D → D → Sto → Option D} (h1 : Op2 W L (compareOp p) o1) (h2 : Op2 W L (compareOp q) o2) (ha : DE W L a fa) (hb : DE W L b fb) (hc : DE W L c fc) (hm : lastMarks [p, q] [b, c] = false := by with_unfolding_all rfl) :
    DE W L (.Compare a [p, q] [b, c] pos) (eChain o1 o2 fa fb fc) :=
  fun R F Wx tk => PE.imp (pe_chain (h1 R F) (h2 R F) (ha R F Wx tk) (hb R F Wx tk) (hc R F Wx tk) hm) fun _ _ _ h => t_chain h
theorem tt_chain {o1 o2 : D → D → Sto → Option D} (hop : ∀ x y m d, o2 x y m = some d → ∃ b, d = .bl b) {Q : Bool → Hp → Prop} (h : tT W Wx (eChain o1 o2 fa fb fc) σ H Q) : tTest (tChain (rD2 W o1) (rD2 W o2) (tE W Wx fa) (tE W Wx fb) (tE W Wx fc)) σ H Q := by
  obtain ⟨ph, env, m, he, hs, h⟩ := h
  refine tE.mk he hs ((tXT.bnd hs h).imp fun v1 H1 q => ?_)
  obtain ⟨ph1, m1, d1, s1, r1, h1⟩ := q
  refine tE.mk (he.mono s1) s1.sto ((tXT.bnd s1.sto h1).imp fun v2 H2 q => ?_)
  obtain ⟨ph2, m2, d2, s2, r2, h2⟩ := q
  have h2' := h2
  obtain ⟨o, e, p⟩ := h2
  obtain ⟨b, hb⟩ := bl_of_chain e
  refine ⟨ph2, m2, d1, d2, .bl b, s2.sto, Rep.mono s2 d1 v1 r1, r2, hb, fun v H' ph' s r => ⟨b, r, ?_⟩⟩
  rw [hb] at h2' e
  cases b with
  | false =>
    cases e
    obtain ⟨b', hb', p⟩ := p
    cases hb'
    exact ⟨false, rfl, p _ _ s⟩
  | true =>
    have r2' := Rep.mono s d2 v2 r2
    refine tE.mk ((he.mono s1).mono (s2.trans s)) s.sto ((tXT.bnd s.sto (h2'.later s)).imp fun v3 H3 q => ?_)
    obtain ⟨ph3, m3, d3, s3, r3, o3, e3, p3⟩ := q
    cases q3 : o2 d2 d3 m3 with
    | none => rw [q3] at e3; cases e3
    | some d =>
      rw [q3] at e3
      cases e3
      obtain ⟨b3, rfl⟩ := hop _ _ _ _ q3
      obtain ⟨b', hb', p3⟩ := p3
      cases hb'
      exact ⟨ph3, m3, d2, d3, .bl b3, s3.sto, Rep.mono s3 d2 v2 r2', r3, q3, fun v' H4 ph4 s4 r4 => ⟨b3, r4, p3 _ _ s4⟩⟩
theorem dt_chain {p q : CmpOp} {o1 o2 : D → D → Sto → Option D} (h1 : Op2 W L (compareOp p) o1) (h2 : Op2 W L (compareOp q) o2) (hop : ∀ x y m d, o2 x y m = some d → ∃ b, d = .bl b) (ha : DE W L a fa) (hb : DE W L b fb) (hc : DE W L c fc)
    (hm : lastMarks [p, q] [b, c] = false := by with_unfolding_all rfl) : DT W L (.Compare a [p, q] [b, c] pos) (eChain o1 o2 fa fb fc) :=
  fun R F Wx tk => PT.imp (pt_chain (h1 R F) (h2 R F) (ha R F Wx tk) (hb R F Wx tk) (hc R F Wx tk) hm) fun _ _ _ h => tt_chain hop h
end
end PM

/-! PMF: statements, defs, calls. -/
namespace PM
open PySem PySem.Spec L2 PyProof.Rows

inductive Out where
  | nx (env : Nv) (m : Sto) | rt (d : D) (m : Sto) | bk (env : Nv) (m : Sto) | ct (env : Nv) (m : Sto) | exn (env : Nv) (c : Nat) (d : D) (m : Sto)
abbrev FS := Nv → Sto → Option Out
def bnds (r : Option Res) (env : Nv) (k : D → Sto → Option Out) : Option Out :=
  match r with
  | some (.ok d m) => k d m
  | some (.exn c d m) => some (.exn env c d m)
  | none => none
@[simp] theorem bnds_ok (d : D) (m : Sto) (env : Nv) (k : D → Sto → Option Out) : bnds (some (.ok d m)) env k = k d m := rfl
@[simp] theorem bnds_exn (c : Nat) (d : D) (m : Sto) (env : Nv) (k : D → Sto → Option Out) : bnds (some (.exn c d m)) env k = some (.exn env c d m) := rfl
@[simp] theorem bnds_none (env : Nv) (k : D → Sto → Option Out) : bnds none env k = none := rfl
def seqO (o : Option Out) (g : FS) : Option Out :=
  match o with
  | some (.nx env m) => g env m
  | o => o
@[simp] theorem seqO_nx (env : Nv) (m : Sto) (g : FS) : seqO (some (.nx env m)) g = g env m := rfl
@[simp] theorem seqO_rt (d : D) (m : Sto) (g : FS) : seqO (some (.rt d m)) g = some (.rt d m) := rfl
@[simp] theorem seqO_exn (env : Nv) (c : Nat) (d : D) (m : Sto) (g : FS) : seqO (some (.exn env c d m)) g = some (.exn env c d m) := rfl
@[simp] theorem seqO_none (g : FS) : seqO none g = none := rfl
def PostS (W : Wd) (Wx : WX) (ph : Plc) (H : Hp) (Dn : Ends) : Out → Prop
  | .nx env' m' => ∀ σ' H' ph', Ste W ph H ph' H' m' → RelEnv W ph' H' env' σ' → Dn.nx σ' H'
  | .rt d m' => ∀ v H' ph', Ste W ph H ph' H' m' → Rep W ph' H' d v → Dn.rt v H'
  | .bk env' m' => ∀ σ' H' ph', Ste W ph H ph' H' m' → RelEnv W ph' H' env' σ' → Dn.bk σ' H'
  | .ct env' m' => ∀ σ' H' ph', Ste W ph H ph' H' m' → RelEnv W ph' H' env' σ' → Dn.ct σ' H'
  | .exn env' c d m' => ∀ σ' dx x H' ph', Ste W ph H ph' H' m' → RelEnv W ph' H' env' σ' → H' dx = some (fdict x) → ph'.ok dx → Rep W ph' H' d x → Wx (.ref (W.C c)) (some dx) σ' H'
def tXS (W : Wd) (Wx : WX) (r : Option Out) (ph : Plc) (H : Hp) (Dn : Ends) : Prop := ∃ o, r = some o ∧ PostS W Wx ph H Dn o
def tS (W : Wd) (Wx : WX) (g : FS) : TS := fun Dn σ H => ∃ ph env m, RelEnv W ph H env σ ∧ RelSto W ph H m ∧ tXS W Wx (g env m) ph H Dn
def DS (W : Wd) (L : Lv) (st : Stmt) (g : FS) : Prop := ∀ R, Fits W L R → ∀ Wx : WX, Takes (mkX W L.N R) Wx → PS (mkX W L.N R) st (tS W Wx g)
def DSs (W : Wd) (L : Lv) (sts : List Stmt) (g : FS) : Prop := ∀ R, Fits W L R → ∀ Wx : WX, Takes (mkX W L.N R) Wx → PSs (mkX W L.N R) sts (tS W Wx g)
def sNext : FS := fun env m => some (.nx env m)
def sSeq (g1 g2 : FS) : FS := fun env m => seqO (g1 env m) g2
def sSet (i : Nat) (f : FE) : FS := fun env m => bnds (f env m) env fun d m1 => some (.nx (env.set i (some d)) m1)
def sRet (f : FE) : FS := fun env m => bnds (f env m) env fun d m1 => some (.rt d m1)
def sRetN : FS := fun _ m => some (.rt .non m)
def sExp (f : FE) : FS := fun env m => bnds (f env m) env fun _ m1 => some (.nx env m1)
def sIf (t : FE) (a b : FS) : FS := fun env m => bnds (t env m) env fun d m1 => match truth d m1 with
  | some true => a env m1
  | some false => b env m1
  | none => none
section
variable {W : Wd} {Wx : WX} {ph ph' ph1 : Plc} {H H' H1 : Hp} {m m' m1 : Sto} {σ σ' : L2.St} {env env' : Nv} {Q Q' : VK} {Dn Dn' : Ends} {L : Lv} {R : Rst} {X : Cx} {e a b c : Expr} {es : List Expr} {f fa fb fc : FE} {fs : List FE} {g g1 g2 : FS} {st : Stmt} {sts sa sb : List Stmt} {pos : Pos}
theorem RelEnv.set {i : Nat} {d : D} {v : V} (h : RelEnv W ph H env σ) (r : Rep W ph H d v) : RelEnv W ph H (env.set i (some d)) (σ.set i (some v)) := by
  refine ⟨by simpa using h.len, fun j d' e => ?_⟩
  by_cases hj : i = j
  · subst hj
    have hi : i < env.length := by
      have := (List.getElem?_eq_some_iff.mp e).1
      simpa using this
    rw [List.getElem?_set_self hi] at e
    cases e
    exact ⟨v, List.getElem?_set_self (by rw [← h.len]; exact hi), r⟩
  · rw [List.getElem?_set_ne hj] at e ⊢
    exact h.val j d' e
theorem PostS.later {o : Out} (s : Ste W ph H ph1 H1 m1) (h : PostS W Wx ph H Dn o) : PostS W Wx ph1 H1 Dn o := by
  cases o with
  | nx env m' => exact fun v H' ph' t r => h v H' ph' (s.trans t) r
  | rt d m' => exact fun v H' ph' t r => h v H' ph' (s.trans t) r
  | bk env m' => exact fun v H' ph' t r => h v H' ph' (s.trans t) r
  | ct env m' => exact fun v H' ph' t r => h v H' ph' (s.trans t) r
  | exn env c d m' => exact fun v dx x H' ph' t r a b r2 => h v dx x H' ph' (s.trans t) r a b r2
theorem tXS.later {r : Option Out} (s : Ste W ph H ph1 H1 m1) (h : tXS W Wx r ph H Dn) : tXS W Wx r ph1 H1 Dn := let ⟨o, e, p⟩ := h; ⟨o, e, p.later s⟩
theorem tXS.bnds {r : Option Res} {k : D → Sto → Option Out} (hs : RelSto W ph H m) (he : RelEnv W ph H env σ) (h : tXS W Wx (PM.bnds r env k) ph H Dn) :
    tX W Wx r ph σ H fun v H1 => ∃ ph1 m1 d, Ste W ph H ph1 H1 m1 ∧ Rep W ph1 H1 d v ∧ tXS W Wx (k d m1) ph1 H1 Dn := by
  obtain ⟨o, e, p⟩ := h
  match r, e with
  | some (.ok d m1), e => exact ⟨_, rfl, fun v H' ph' s r => ⟨ph', m1, d, s, r, o, e, p.later s⟩⟩
  | some (.exn c d m1), e =>
    have e : some (Out.exn env c d m1) = some o := e
    cases e
    exact ⟨_, rfl, fun dx x H' ph' s a b r => p σ dx x H' ph' s (he.mono s) a b r⟩
  | none, e => cases e
theorem tXS.bndt {r : Option Res} {k : D → Sto → Option Out} (he : RelEnv W ph H env σ) (h : tXS W Wx (PM.bnds r env k) ph H Dn) (hk : ∀ d m1 o, k d m1 = some o → ∃ b, truth d m1 = some b) :
    tXT W Wx r ph σ H fun b H1 => ∃ ph1 m1 d, Ste W ph H ph1 H1 m1 ∧ truth d m1 = some b ∧ tXS W Wx (k d m1) ph1 H1 Dn := by
  obtain ⟨o, e, p⟩ := h
  match r, e with
  | some (.ok d m1), e =>
    obtain ⟨b, hb⟩ := hk d m1 o e
    exact ⟨_, rfl, b, hb, fun H' ph' s => ⟨ph', m1, d, s, hb, o, e, p.later s⟩⟩
  | some (.exn c d m1), e =>
    have e : some (Out.exn env c d m1) = some o := e
    cases e
    exact ⟨_, rfl, fun dx x H' ph' s a b r => p σ dx x H' ph' s (he.mono s) a b r⟩
  | none, e => cases e
theorem dss_nil : DSs W L [] sNext := by
  intro R F Wx tk
  refine PSs.imp pss_nil fun Dn σ H h => ?_
  obtain ⟨ph, env, m, he, hs, o, e, p⟩ := h
  cases e
  exact p σ H ph (.refl hs) he
theorem dss_cons (h1 : DS W L st g1) (h2 : DSs W L sts g2) : DSs W L (st :: sts) (sSeq g1 g2) := by
  intro R F Wx tk
  refine PSs.imp (pss_cons (h1 R F Wx tk) (h2 R F Wx tk)) fun Dn σ H h => ?_
  obtain ⟨ph, env, m, he, hs, o, e, p⟩ := h
  refine ⟨ph, env, m, he, hs, ?_⟩
  unfold sSeq at e
  cases q : g1 env m with
  | none => rw [q] at e; cases e
  | some r =>
    rw [q] at e
    refine ⟨r, rfl, ?_⟩
    cases r with
    | nx env1 m1 => exact fun σ1 H1 ph1 s1 r1 => ⟨ph1, env1, m1, r1, s1.sto, o, e, p.later s1⟩
    | rt d m1 => cases e; exact p
    | bk env1 m1 => cases e; exact p
    | ct env1 m1 => cases e; exact p
    | exn env1 c d m1 => cases e; exact p
theorem dss_one (h1 : DS W L st g1) : DSs W L [st] g1 := fun R F Wx tk => pss_one (h1 R F Wx tk)
theorem ds_set {i : Nat} {x : Str} {pos' : Pos} (he : DE W L e f) (hi : L.N[i]? = some x := by rfl) (hx : locB L.sc x = true := by rfl) (hs : ∀ env : PySem.Env, swapsWith e (some (.Name x pos')) pos.line env = pure false := by intro _; rfl) : DS W L (.Assign [.Name x pos'] e pos) (sSet i f) := by
  intro R F Wx tk
  refine PS.imp (ps_set (X := mkX W L.N R) F.nd hi (F.loc x hx).1 (he R F Wx tk) (hs _) (F.loc x hx).2) fun Dn σ H h => ?_
  obtain ⟨ph, env, m, hv, hs, h⟩ := h
  refine tE.mk hv hs ((tXS.bnds hs hv h).imp fun v1 H1 q => ?_)
  obtain ⟨ph1, m1, d1, s1, r1, o, e, p⟩ := q
  cases e
  exact p _ _ _ (.refl s1.sto) ((hv.mono s1).set r1)
theorem ds_ret (he : DE W L e f) : DS W L (.Return (some e) pos) (sRet f) := by
  intro R F Wx tk
  refine PS.imp (ps_ret (he R F Wx tk)) fun Dn σ H h => ?_
  obtain ⟨ph, env, m, hv, hs, h⟩ := h
  refine tE.mk hv hs ((tXS.bnds hs hv h).imp fun v1 H1 q => ?_)
  obtain ⟨ph1, m1, d1, s1, r1, o, e, p⟩ := q
  cases e
  exact p _ _ _ (.refl s1.sto) r1
theorem ds_retN : DS W L (.Return none pos) sRetN := by
  intro R F Wx tk
  refine PS.imp ps_retN fun Dn σ H h => ?_
  obtain ⟨ph, env, m, hv, hs, o, e, p⟩ := h
  cases e
  exact p _ _ _ (.refl hs) rfl
theorem ds_pass : DS W L (.Pass pos) sNext := by
  intro R F Wx tk
  refine PS.imp ps_pass fun Dn σ H h => ?_
  obtain ⟨ph, env, m, hv, hs, o, e, p⟩ := h
  cases e
  exact p _ _ _ (.refl hs) hv
theorem ds_exp (he : DE W L e f) (hs : ∀ env : PySem.Env, swapsWith e none pos.line env = pure false := by intro _; rfl) : DS W L (.Expr e pos) (sExp f) := by
  intro R F Wx tk
  refine PS.imp (ps_expr (he R F Wx tk) (hs _)) fun Dn σ H h => ?_
  obtain ⟨ph, env, m, hv, hs, h⟩ := h
  refine tE.mk hv hs ((tXS.bnds hs hv h).imp fun v1 H1 q => ?_)
  obtain ⟨ph1, m1, d1, s1, r1, o, e, p⟩ := q
  cases e
  exact p _ _ _ (.refl s1.sto) (hv.mono s1)
theorem ds_if (hc : DT W L c fc) (ha : DSs W L sa g1) (hb : DSs W L sb g2) : DS W L (.If c sa sb pos) (sIf fc g1 g2) := by
  intro R F Wx tk
  refine PS.imp (ps_if (hc R F Wx tk) (ha R F Wx tk) (hb R F Wx tk)) fun Dn σ H h => ?_
  obtain ⟨ph, env, m, he, hs, h⟩ := h
  refine ⟨ph, env, m, he, hs, ?_⟩
  obtain ⟨o, e, p⟩ := tXS.bndt (k := fun d m1 => match truth d m1 with | some true => g1 env m1 | some false => g2 env m1 | none => none) he h fun d m1 o e => by
    cases q : truth d m1 with
    | none => simp only [q] at e; cases e
    | some b => exact ⟨b, rfl⟩
  refine ⟨o, e, ?_⟩
  cases o with
  | exn c d m1 => exact p
  | ok d m1 =>
    obtain ⟨b, hb, p⟩ := p
    refine ⟨b, hb, fun H' ph' s => ?_⟩
    obtain ⟨ph1, m2, d2, s2, hb2, h2⟩ := p H' ph' s
    simp only [hb2] at h2
    cases b with
    | true => exact ⟨ph1, env, m2, he.mono s2, s2.sto, h2⟩
    | false => exact ⟨ph1, env, m2, he.mono s2, s2.sto, h2⟩
end

/-! ### what a def makes of its arguments -/
mutual
def D.lt (n : Nat) : D → Bool
  | .lst xs => ltL n xs
  | .tup xs => ltL n xs
  | .fz xs => ltL n xs
  | .loc k => k < n
  | .ob _ xs => ltL n xs
  | .exc _ d => D.lt n d
  | .cau _ d => D.lt n d
  | _ => true
def ltL (n : Nat) : List D → Bool
  | [] => true
  | d :: ds => D.lt n d && ltL n ds
end
def Cell.lt (n : Nat) : Cell → Bool
  | .lst xs => ltL n xs
  | .dct kvs => ltL n (kvs.map (·.2))
  | .ins _ fs => ltL n (fs.map (·.2))
  | .dead => true
/-- the places ahead hold nothing of the places behind -/
def Sim (m m' : Sto) : Prop := ∀ (i : Nat) (c : Cell), i < m.length → m'[i]? = some c → m[i]? = some c ∨ c.lt m.length = true
open Classical in
noncomputable def fin (m : Sto) (d : D) (m' : Sto) : Res := if d.lt m.length = true ∧ Sim m m' then .ok d (m'.take m.length) else .ok d m'
noncomputable def finO (m : Sto) : Option Out → Option Res
  | some (.nx _ m') => some (fin m .non m')
  | some (.rt d m') => some (fin m d m')
  | some (.exn _ c d m') => some (.exn c d m')
  | _ => none
abbrev FD := List D → Sto → Option Res
noncomputable def mkFn (np nN : Nat) (g : FS) : FD := fun ds m => if ds.length = np then finO m (g (ds.map some ++ List.replicate (nN - np) none) m) else none
section
variable {W : Wd} {ph ph' : Plc} {H H' : Hp} {m m' : Sto}
/-- the later places begin with the earlier ones -/
structure Pre (ph ph' : Plc) : Prop where
  pl : ∃ ex, ph'.pl = ph.pl ++ ex
  pv : ph'.pv = ph.pv
theorem Pre.ok {a : Addr} (hp : Pre ph ph') (h : ph'.ok a) : ph.ok a := by
  obtain ⟨ex, e⟩ := hp.pl
  exact ⟨fun z => h.1 (by rw [e]; exact List.mem_append_left _ z), by rw [← hp.pv]; exact h.2⟩
mutual
theorem Rep.lt : ∀ {d : D} {v : V}, Rep W ph H d v → d.lt ph.pl.length = true
  | .non, _, _ => rfl
  | .bl _, _, _ => rfl
  | .int _, _, _ => rfl
  | .str _, _, _ => rfl
  | .lst _, _, ⟨_, _, _, _, r⟩ => RepL.lt r
  | .tup _, _, ⟨_, _, _, _, r⟩ => RepL.lt r
  | .fz _, _, ⟨_, _, _, _, r⟩ => RepL.lt r
  | .loc n, _, ⟨_, _, h⟩ => by
    have := (List.getElem?_eq_some_iff.mp h).1
    unfold D.lt
    simpa using this
  | .ob _ _, _, ⟨_, _, _, _, _, _, _, r⟩ => RepL.lt r
  | .exc _ d, _, ⟨_, _, _, _, _, _, _, _, _, _, r⟩ => by
    have := Rep.lt (d := d) r
    exact this
  | .cau _ d, _, ⟨_, _, _, _, _, _, _, r⟩ => by
    have := Rep.lt (d := d) r
    exact this
  | .fn _, _, _ => rfl
  | .bex _ _, _, _ => rfl
  | .cls _, _, _ => rfl
theorem RepL.lt : ∀ {ds : List D} {vs : List V}, RepL W ph H ds vs → ltL ph.pl.length ds = true
  | [], _, _ => rfl
  | d :: ds, _, ⟨_, _, _, h, t⟩ => by
    unfold ltL
    rw [Rep.lt h, RepL.lt t]
    rfl
end
theorem LstAt.less {a : Addr} {vs : List V} (hp : Pre ph ph') (h : LstAt ph' H a vs) : LstAt ph H a vs := ⟨h.1, hp.ok h.2⟩
theorem TupAt.less {a : Addr} {vs : List V} (hp : Pre ph ph') (h : TupAt ph' H a vs) : TupAt ph H a vs := ⟨h.1, hp.ok h.2⟩
theorem FrzAt.less {a : Addr} {vs : List V} (hp : Pre ph ph') (h : FrzAt W ph' H a vs) : FrzAt W ph H a vs := h.imp (fun h => ⟨h.1, hp.ok h.2⟩) id
mutual
theorem Rep.less (hp : Pre ph ph') : ∀ {d : D} {v : V}, d.lt ph.pl.length = true → Rep W ph' H d v → Rep W ph H d v
  | .non, _, _, h => h
  | .bl _, _, _, h => h
  | .int _, _, _, h => h
  | .str _, _, _, h => h
  | .lst xs, _, l, ⟨a, vs, e, h, r⟩ => ⟨a, vs, e, h.less hp, RepL.less hp l r⟩
  | .tup xs, _, l, ⟨a, vs, e, h, r⟩ => ⟨a, vs, e, h.less hp, RepL.less hp l r⟩
  | .fz xs, _, l, ⟨a, vs, e, h, r⟩ => ⟨a, vs, e, h.less hp, RepL.less hp l r⟩
  | .loc n, _, l, ⟨a, e, h⟩ => ⟨a, e, by
      obtain ⟨ex, q⟩ := hp.pl
      rw [q] at h
      have l : n < ph.pl.length := by unfold D.lt at l; simpa using l
      rw [List.getElem?_append_left l] at h
      exact h⟩
  | .ob c xs, _, l, ⟨a, dx, vs, e, h, n, l2, r⟩ => ⟨a, dx, vs, e, h, hp.ok n, l2, RepL.less hp l r⟩
  | .exc c d, _, l, ⟨a, dx, x, t1, e, h, n, h2, n2, t, r⟩ => ⟨a, dx, x, t1, e, h, hp.ok n, h2, hp.ok n2, t.less hp, Rep.less hp (show d.lt _ = true from l) r⟩
  | .cau c d, _, l, ⟨a, dx, x, e, hc, h2, n2, r⟩ => ⟨a, dx, x, e, hc, h2, hp.ok n2, Rep.less hp (show d.lt _ = true from l) r⟩
  | .fn k, _, _, h => h
  | .bex c x, _, l, ⟨a, t1, e, h, n, t⟩ => ⟨a, t1, e, h, hp.ok n, t.less hp⟩
  | .cls k, _, _, h => h
theorem RepL.less (hp : Pre ph ph') : ∀ {ds : List D} {vs : List V}, ltL ph.pl.length ds = true → RepL W ph' H ds vs → RepL W ph H ds vs
  | [], _, _, h => h
  | d :: ds, _, l, ⟨v, r, e, h, t⟩ => by
    unfold ltL at l
    rw [Bool.and_eq_true] at l
    exact ⟨v, r, e, Rep.less hp l.1 h, RepL.less hp l.2 t⟩
end
theorem CellAt.lt {a : Addr} {c : Cell} (h : CellAt W ph H a c) : c.lt ph.pl.length = true := by
  cases c with
  | lst xs => obtain ⟨vs, h, r⟩ := h; exact r.lt
  | dct kds => obtain ⟨kvs, h, e, r⟩ := h; exact r.lt
  | ins c fs => obtain ⟨dx, fv, h, e, r⟩ := h; exact r.lt
  | dead => rfl
theorem CellAt.less {a : Addr} {c : Cell} (hp : Pre ph ph') (l : c.lt ph.pl.length = true) (h : CellAt W ph' H a c) : CellAt W ph H a c := by
  cases c with
  | lst xs => obtain ⟨vs, h, r⟩ := h; exact ⟨vs, h, r.less hp l⟩
  | dct kds => obtain ⟨kvs, h, e, r⟩ := h; exact ⟨kvs, h, e, r.less hp l⟩
  | ins c fs => obtain ⟨dx, fv, h, e, r⟩ := h; exact ⟨dx, fv, h, e, r.less hp l⟩
  | dead => trivial
/-- the places behind are let go -/
theorem Ste.cut (hs : RelSto W ph H m) (s : Ste W ph H ph' H' m') (hm : Sim m m') : Ste W ph H ph H' (m'.take m.length) where
  pre := ⟨[], by simp⟩
  prv := rfl
  keep := s.keep
  new := fun _ h => .inl h
  fre := s.fre
  sto := by
    have hl : ph'.pl.length = m'.length := s.sto.len
    obtain ⟨ex, q⟩ := s.pre
    have hle : m.length ≤ m'.length := by rw [← hl, ← hs.len, q, List.length_append]; omega
    refine ⟨by rw [List.length_take, hs.len]; omega, hs.nd, hs.dj, fun a z => s.sto.pvs a (by rw [s.prv]; exact z), fun n c e => ?_⟩
    have hn : n < m.length := by
      have := (List.getElem?_eq_some_iff.mp e).1
      rw [List.length_take] at this; omega
    rw [List.getElem?_take_of_lt hn] at e
    obtain ⟨a, e1, e2, e3⟩ := s.sto.cell n c e
    rw [q, List.getElem?_append_left (by rw [hs.len]; exact hn)] at e1
    refine ⟨a, e1, e2, e3.less ⟨⟨ex, q⟩, s.prv⟩ ?_⟩
    rcases hm n c hn e with q | q
    · obtain ⟨_, _, _, e3'⟩ := hs.cell n c q
      exact e3'.lt
    · rw [hs.len]; exact q
end
@[simp] theorem fin_len {m m' : Sto} {d : D} (h : m'.length = m.length) : fin m d m' = .ok d m' := by
  unfold fin
  split
  · rw [List.take_of_length_le (by omega)]
  · rfl
theorem fin_cut {m m' : Sto} {d : D} (h1 : d.lt m.length = true) (h2 : Sim m m') : fin m d m' = .ok d (m'.take m.length) := by
  unfold fin
  rw [if_pos ⟨h1, h2⟩]
theorem Sim.app (m ex : Sto) : Sim m (m ++ ex) := fun i c h e => by
  rw [List.getElem?_append_left h] at e
  exact .inl e
@[simp] theorem fin_app {m ex : Sto} {d : D} (h1 : d.lt m.length = true) : fin m d (m ++ ex) = .ok d m := by
  rw [fin_cut h1 (Sim.app m ex), List.take_left']
  rfl

/-- what a caller wants of a def's plain outcome -/
def PostF (W : Wd) (ph : Plc) (H : Hp) (Q : VK) (E : XK) : Res → Prop
  | .ok d m' => ∀ v H' ph', Ste W ph H ph' H' m' → Rep W ph' H' d v → Q v H'
  | .exn c d m' => ∀ dx x H' ph', Ste W ph H ph' H' m' → H' dx = some (fdict x) → ph'.ok dx → Rep W ph' H' d x → E (.ref (W.C c)) (some dx) H'
def spF (W : Wd) (F : FD) : Sp := fun vs H Q E => ∃ ph m ds r, RelSto W ph H m ∧ RepL W ph H ds vs ∧ F ds m = some r ∧ PostF W ph H Q E r
/-- the def at f does as F says -/
structure FnG (W : Wd) (k : Nat) (f : Addr) (fd : FuncData) (ps : List Str) (F : FD) : Prop where
  len : ∀ ds m r, F ds m = some r → ds.length = ps.length
  run : ∀ (A : Around) (outer : List PySem.Env) (s : Shared) (H : Hp) (args : Args) (us : List Value) (vs : List V) (Q : VK) (E : XK), Room k A → A.guards = some W.gs → Env0 W.P W.w W.K W.mg W.base A outer s H → BindsTo s fd args (ps.zip us) → Vals vs us → spF W F vs H Q E →
    codeAny (model W.P W.w) A (.call (.ref f) args) (CR (L2.CX W.P W.w) outer W.P W.w H s Q E) s
theorem FnG.mono {W : Wd} {j k : Nat} {f : Addr} {fd : FuncData} {ps : List Str} {F : FD} (G : FnG W j f fd ps F) (h : j ≤ k) : FnG W k f fd ps F :=
  ⟨G.len, fun A outer s H args us vs Q E hr => G.run A outer s H args us vs Q E (hr.mono h)⟩
section
variable {W : Wd} {x qual : Str} {st : Stmt} {f : Addr} {fd : FuncData} {N ps : List Str} {k : Nat} {g : FS}
theorem RelEnv.start {ph : Plc} {H : Hp} {ds : List D} {vs : List V} (r : RepL W ph H ds vs) (n : Nat) : RelEnv W ph H (ds.map some ++ List.replicate n none) (vs.map some ++ List.replicate n none) := by
  have hl := r.length
  refine ⟨by simp [hl], fun i d e => ?_⟩
  by_cases hi : i < ds.length
  · rw [List.getElem?_append_left (by simpa using hi), List.getElem?_map] at e
    cases q : ds[i]? with
    | none => rw [q] at e; cases e
    | some d' =>
      rw [q] at e
      cases e
      obtain ⟨v, e1, r1⟩ := r.get q
      refine ⟨v, ?_, r1⟩
      rw [List.getElem?_append_left (by simpa [← hl] using hi), List.getElem?_map, e1]
      rfl
  · rw [List.getElem?_append_right (by simpa using hi), List.getElem?_replicate] at e
    split at e <;> cases e
theorem fin_post {ph : Plc} {H : Hp} {m m' : Sto} {d : D} {Q : VK} {E : XK} (hs : RelSto W ph H m) (p : PostF W ph H Q E (fin m d m')) : ∀ v H' ph', Ste W ph H ph' H' m' → Rep W ph' H' d v → Q v H' := by
  intro v H' ph' s r
  unfold fin at p
  split at p
  · rename_i h
    exact p v H' ph (s.cut hs h.2) (Rep.less ⟨s.pre, s.prv⟩ (by rw [hs.len]; exact h.1) r)
  · exact p v H' ph' s r
/-- THE RULE for a def -/
theorem fnG_lk {oc : Value} {od : Option Addr} {dV kV doc pm : Value} {an : Option Addr} {cdv ct : Value} {osl : Array (Option Value)} (lk : W.K.lookup f = some ⟨oc, od, .func (PySem.W.fnOf x qual (defArgs st) (defBody st) (defScope st) dV kV doc pm an cdv ct), osl⟩) (hcd : PySem.W.codeIn W.K cdv qual = true)
    (S : FnScope N ps (defScope st)) (hb : DSs W ⟨N, defScope st, k, true, true⟩ (defBody st) g) (hca : W.ca = none) : FnG W (k + 1) f (PySem.W.fnOf x qual (defArgs st) (defBody st) (defScope st) dV kV doc pm an cdv ct) ps (mkFn ps.length N.length g) := by
  have hlen : ∀ ds m r, mkFn ps.length N.length g ds m = some r → ds.length = ps.length := fun ds m r e => by
    unfold mkFn at e
    split at e
    · assumption
    · cases e
  refine ⟨hlen, fun A outer s H args us vs Q E hr hgd e0 hbd rv hsp => ?_⟩
  obtain ⟨ph, m, ds, r, hs, rep, eF, hp⟩ := hsp
  have hl : vs.length = ps.length := by rw [← rep.length]; exact hlen _ _ _ eF
  have KX : W.K.In s.heap := e0.mod.kin.keeps fun b o e => (e0.bs b o e).1
  have lim : s.heap.NoLimit := e0.mod.nolimit.keeps fun b o e => (e0.bs b o e).1
  have hkind : ∀ y ∈ ps.zip us, (defScope st).names.lookup y.1 = some .local ∨ ((defScope st).names.lookup y.1 = some .cell ∧ ((cellsFrom (s.heap.objs.size + 1) (defScope st).names []).lookup y.1).isSome = true) := by
    rintro ⟨n, v⟩ hy
    exact (S.par n (List.of_mem_zip hy).1).imp id fun q => ⟨q, PySem.W.cellsFrom_some _ _ _ (.inl q)⟩
  refine codeAny_call_function hr.depth (KX _ _ lk) rfl S.co S.gen rfl (PySem.W.codeRec_of KX hcd) (hbd _ _ _ _ ?_)
  refine wpAny_newFunctionEnv_cells S.kind hkind fun env' he s1 xx => ?_
  subst he
  refine ⟨lim.keeps xx.toInCall.keep, codeAny_func ?_⟩
  have I0 := inv_start (CX := L2.CX W.P W.w) (E := E) S hr.hd e0 hl rv xx
  let Rr : Rst := ⟨A.deeper (envOfC qual (defScope st) s.heap.objs.size f cdv), s, H, envOfC qual (defScope st) s.heap.objs.size f cdv, outer, envOfC qual (defScope st) s.heap.objs.size f cdv :: outer, [], fun _ => true, true, [],
    (cxOf (L2.CX W.P W.w) W.P W.w W.K W.mg W.base N qual (defScope st) f cdv A outer s H E).xe⟩
  have I : Inv (mkX W N Rr) [] (L2.start N vs) H s1 := I0
  have FT : Fits W ⟨N, defScope st, k, true, true⟩ Rr := by
    refine ⟨fun _ => hr.deeper _, (hr.deeper _).units, ?_, fun _ => rfl, fun y hy => ?_, fun y hy => hy, fun y hy => ?_, fun _ y hy => hy, fun _ => rfl, S.nd, fun _ => PassesOwn.leaving, fun _ a dx z => (by rw [hca] at z; cases z), fun _ => ⟨rfl, rfl⟩, fun _ => ⟨(hr.deeper _).dp, (hr.deeper _).un⟩⟩
    · show (A.deeper _).guards = some W.gs
      exact hgd
    · unfold visB at hy
      split at hy
      · exact .inl (by assumption)
      · exact .inr (.inl (by assumption))
      · exact .inr (.inr (by assumption))
      · cases hy
    · refine ⟨?_, .inl rfl⟩
      unfold locB at hy
      split at hy
      · exact .inl (by assumption)
      · exact .inr (by assumption)
      · cases hy
  have tk : Takes (mkX W N Rr) (fun cls d _ H => E cls d H) := takes_of rfl rfl rfl rfl
  have body := hb Rr FT (fun cls d _ H => E cls d H) tk
  unfold mkFn at eF
  rw [if_pos (by rw [rep.length]; exact hl)] at eF
  have he0 : RelEnv W ph H (ds.map some ++ List.replicate (N.length - ps.length) none) (L2.start N vs) := by
    unfold L2.start
    rw [hl]
    exact .start rep _
  let Dn : Ends := { nx := fun _ H' => Q .non H', rt := Q }
  have goal : tS W (fun cls d _ H => E cls d H) g Dn (L2.start N vs) H := by
    refine ⟨ph, _, m, he0, hs, ?_⟩
    cases q : g (ds.map some ++ List.replicate (N.length - ps.length) none) m with
    | none => rw [q] at eF; cases eF
    | some o =>
      rw [q] at eF
      refine ⟨o, rfl, ?_⟩
      cases o with
      | nx env1 m1 =>
        cases eF
        exact fun σ' H' ph' s' r' => fin_post hs hp .non H' ph' s' rfl
      | rt d m1 =>
        cases eF
        exact fin_post hs hp
      | bk env1 m1 => cases eF
      | ct env1 m1 => cases eF
      | exn env1 c d m1 =>
        cases eF
        exact fun σ' dx x H' ph' s' _ a b r' => hp dx x H' ph' s' a b r'
  refine wpAny_mono (body.run [] s1 (L2.start N vs) H Dn I goal) (fun fl s' hs => ?_) fun e s' hs => hs
  have done : ∀ {σ' : L2.St} {H' : Hp} {v : V} {u : Value}, Inv (mkX W N Rr) [] σ' H' s' → RelV v u → Q v H' → CE outer W.P W.w H s Q u s' := fun {σ' H' v u} J r q => ⟨v, H', J.os, J.bare, J.base, J.hok, r, q⟩
  match fl, hs with
  | .ret u, ⟨v, σ', H', J, r, q⟩ => exact done J r q
  | .next, ⟨σ', H', J, q⟩ => exact done (v := V.non) (u := Value.none) J rfl q
  | .brk, ⟨_, _, _, q⟩ => exact q.elim
  | .cont, ⟨_, _, _, q⟩ => exact q.elim
end
end PM

/-! PML: targets, loops, comprehensions, while. -/
namespace PM
open PySem PySem.Spec L2 PyProof.Rows
section
variable {W : Wd} {ph ph' : Plc} {H H' : Hp} {m m' : Sto}
/-- what a value leads to is kept -/
structure Mov (ph : Plc) (H : Hp) (ph' : Plc) (H' : Hp) : Prop where
  kp : ∀ a o, H a = some o → ph.ok a → H' a = some o ∧ ph'.ok a
  pl : ∀ (n : Nat) (a : Addr), ph.pl[n]? = some a → ph'.pl[n]? = some a
theorem LstAt.move {a : Addr} {vs : List V} (s : Mov ph H ph' H') (h : LstAt ph H a vs) : LstAt ph' H' a vs := s.kp a _ h.1 h.2
theorem TupAt.move {a : Addr} {vs : List V} (s : Mov ph H ph' H') (h : TupAt ph H a vs) : TupAt ph' H' a vs := s.kp a _ h.1 h.2
theorem FrzAt.move {a : Addr} {vs : List V} (s : Mov ph H ph' H') (h : FrzAt W ph H a vs) : FrzAt W ph' H' a vs := h.imp (fun ⟨⟨o, h⟩, n⟩ => ⟨⟨o, (s.kp a _ h n).1⟩, (s.kp a _ h n).2⟩) id
mutual
theorem Rep.move (s : Mov ph H ph' H') : ∀ (d : D) (v : V), Rep W ph H d v → Rep W ph' H' d v
  | .non, _, h => h
  | .bl _, _, h => h
  | .int _, _, h => h
  | .str _, _, h => h
  | .lst xs, _, ⟨a, vs, e, l, r⟩ => ⟨a, vs, e, l.move s, RepL.move s xs vs r⟩
  | .tup xs, _, ⟨a, vs, e, l, r⟩ => ⟨a, vs, e, l.move s, RepL.move s xs vs r⟩
  | .fz xs, _, ⟨a, vs, e, l, r⟩ => ⟨a, vs, e, l.move s, RepL.move s xs vs r⟩
  | .loc n, _, ⟨a, e, h⟩ => ⟨a, e, s.pl n a h⟩
  | .ob c xs, _, ⟨a, dx, vs, e, h, n, l, r⟩ => ⟨a, dx, vs, e, (s.kp a _ h n).1, (s.kp a _ h n).2, l, RepL.move s xs vs r⟩
  | .exc c d, _, ⟨a, dx, x, t1, e, h, n, h2, n2, t, r⟩ => ⟨a, dx, x, t1, e, (s.kp a _ h n).1, (s.kp a _ h n).2, (s.kp dx _ h2 n2).1, (s.kp dx _ h2 n2).2, t.move s, Rep.move s d x r⟩
  | .cau c d, _, ⟨a, dx, x, e, hc, h2, n2, r⟩ => ⟨a, dx, x, e, hc, (s.kp dx _ h2 n2).1, (s.kp dx _ h2 n2).2, Rep.move s d x r⟩
  | .fn k, _, h => h
  | .bex c x, _, ⟨a, t1, e, h, n, t⟩ => ⟨a, t1, e, (s.kp a _ h n).1, (s.kp a _ h n).2, t.move s⟩
  | .cls k, _, h => h
theorem RepL.move (s : Mov ph H ph' H') : ∀ (ds : List D) (vs : List V), RepL W ph H ds vs → RepL W ph' H' ds vs
  | [], _, h => h
  | d :: ds, _, ⟨v, r, e, h, t⟩ => ⟨v, r, e, Rep.move s d v h, RepL.move s ds r t⟩
end
theorem CellAt.move {a : Addr} {c : Cell} (s : Mov ph H ph' H') (ha : ∀ o, H a = some o → H' a = some o) (h : CellAt W ph H a c) : CellAt W ph' H' a c := by
  cases c with
  | lst xs => obtain ⟨vs, h, r⟩ := h; exact ⟨vs, ha _ h, RepL.move s _ _ r⟩
  | dct kds => obtain ⟨kvs, h, e, r⟩ := h; exact ⟨kvs, ha _ h, e, RepL.move s _ _ r⟩
  | ins c fs => obtain ⟨dx, fv, h, e, r⟩ := h; exact ⟨dx, fv, ha _ h, e, RepL.move s _ _ r⟩
  | dead => trivial
theorem RelEnv.move {env : Nv} {σ : L2.St} (s : Mov ph H ph' H') (h : RelEnv W ph H env σ) : RelEnv W ph' H' env σ :=
  ⟨h.len, fun i d e => let ⟨v, e1, r⟩ := h.val i d e; ⟨v, e1, Rep.move s d v r⟩⟩
theorem Ste.mov (s : Ste W ph H ph' H' m') : Mov ph H ph' H' := ⟨fun a o e k => s.stays e k, fun n a h => by
  obtain ⟨ex, q⟩ := s.pre
  rw [q, List.getElem?_append_left (List.getElem?_eq_some_iff.mp h).1]; exact h⟩
theorem Mov.trans {ph2 : Plc} {H2 : Hp} (a : Mov ph H ph' H') (b : Mov ph' H' ph2 H2) : Mov ph H ph2 H2 :=
  ⟨fun x o e k => b.kp x o (a.kp x o e k).1 (a.kp x o e k).2, fun n x h => b.pl n x (a.pl n x h)⟩
theorem Mov.refl : Mov ph H ph H := ⟨fun _ _ e k => ⟨e, k⟩, fun _ _ h => h⟩
def Plc.hide (p : Plc) (b : Addr) : Plc := ⟨p.pl, b :: p.pv⟩
theorem Mov.hide {b : Addr} {o : HO} (hn : H b = none) : Mov ph H (ph.hide b) (upd H b o) :=
  ⟨fun a u e k => ⟨by rw [upd_ne (ne_of_none e hn)]; exact e, k.1, fun z => by
    rcases List.mem_cons.mp z with z | z
    · exact ne_of_none e hn z
    · exact k.2 z⟩, fun n a h => h⟩
theorem Mov.priv {b : Addr} {o : HO} (hb : b ∈ ph.pv) : Mov ph H ph (upd H b o) :=
  ⟨fun a u e k => ⟨by rw [upd_ne (fun z => k.2 (by rw [z]; exact hb))]; exact e, k⟩, fun n a h => h⟩
theorem Mov.unhide {b : Addr} : Mov (ph.hide b) H ph H := ⟨fun a u e k => ⟨e, k.1, fun z => k.2 (List.mem_cons_of_mem _ z)⟩, fun n a h => h⟩
theorem RelSto.hide {b : Addr} {o : HO} (hn : H b = none) (h : RelSto W ph H m) : RelSto W (ph.hide b) (upd H b o) m :=
  ⟨h.len, h.nd, fun a ha z => (List.mem_cons.mp z).elim (fun q => h.notin hn (q ▸ ha)) (h.dj a ha), fun a z => by
    rcases List.mem_cons.mp z with z | z
    · rw [z, upd_same]; rfl
    · unfold upd; split
      · rfl
      · exact h.pvs a z, fun n c e => by
    obtain ⟨a, e1, e2, e3⟩ := h.cell n c e
    have ne : a ≠ b := fun z => by rw [z, hn] at e2; cases e2
    exact ⟨a, e1, by rw [upd_ne ne]; exact e2, e3.move (.hide hn) fun u q => by rw [upd_ne ne]; exact q⟩⟩
theorem RelSto.priv {b : Addr} {o : HO} (hb : b ∈ ph.pv) (hl : ¬ b ∈ ph.pl) (h : RelSto W ph H m) : RelSto W ph (upd H b o) m :=
  ⟨h.len, h.nd, h.dj, fun a z => by
    unfold upd; split
    · rfl
    · exact h.pvs a z, fun n c e => by
    obtain ⟨a, e1, e2, e3⟩ := h.cell n c e
    have ne : a ≠ b := fun z => hl (by rw [← z]; exact List.mem_of_getElem? e1)
    exact ⟨a, e1, by rw [upd_ne ne]; exact e2, e3.move (.priv hb) fun u q => by rw [upd_ne ne]; exact q⟩⟩
theorem RelSto.unhide {b : Addr} (h : RelSto W (ph.hide b) H m) : RelSto W ph H m :=
  ⟨h.len, h.nd, fun a ha z => h.dj a ha (List.mem_cons_of_mem _ z), fun a z => h.pvs a (List.mem_cons_of_mem _ z), fun n c e => by
    obtain ⟨a, e1, e2, e3⟩ := h.cell n c e
    exact ⟨a, e1, e2, e3.move .unhide fun u q => q⟩⟩
end

/-! ### targets -/
abbrev FT := D → Nv → Sto → Option Nv
def gN (i : Nat) : FT := fun d env _ => some (env.set i (some d))
def gTs : List FT → List D → Nv → Sto → Option Nv
  | [], [], env, _ => some env
  | g :: gs, d :: ds, env, m => match g d env m with
    | some env' => gTs gs ds env' m
    | none => none
  | _, _, _, _ => none
def gT (gs : List FT) : FT := fun d env m => match d with
  | .tup ds => gTs gs ds env m
  | _ => none
/-- but for the slots at is -/
def But (is : List Nat) (σ σ' : L2.St) : Prop := σ'.length = σ.length ∧ ∀ i : Nat, ¬ i ∈ is → σ'[i]? = σ[i]?
def DG (W : Wd) (L : Lv) (tg : Expr) (is : List Nat) (g : FT) : Prop := ∀ R, Fits W L R → PG (mkX W L.N R) tg (fun v σ H Q => ∃ ph env m d env', RelEnv W ph H env σ ∧ RelSto W ph H m ∧ Rep W ph H d v ∧ g d env m = some env' ∧ ∀ σ', RelEnv W ph H env' σ' → But is σ σ' → Q σ' H)
def DGs (W : Wd) (L : Lv) (tgs : List Expr) (is : List Nat) (gs : List FT) : Prop := ∀ R, Fits W L R → PGs (mkX W L.N R) tgs (fun vs σ H Q => ∃ ph env m ds env', RelEnv W ph H env σ ∧ RelSto W ph H m ∧ RepL W ph H ds vs ∧ gTs gs ds env m = some env' ∧ ∀ σ', RelEnv W ph H env' σ' → But is σ σ' → Q σ' H)
section
variable {W : Wd} {Wx : WX} {ph ph' ph1 : Plc} {H H' H1 : Hp} {m m' m1 : Sto} {σ σ' : L2.St} {env env' : Nv} {Q Q' : VK} {Dn Dn' : Ends} {L : Lv} {R : Rst} {X : Cx} {e tg : Expr} {es tgs : List Expr} {f : FE} {g : FT} {gs : List FT} {pos : Pos}
theorem PG.imp {t t' : TG} (h : PG X e t) (hi : ∀ v σ H Q, t' v σ H Q → t v σ H Q) : PG X e t' := ⟨fun pins s σ H v u Q I r q => h.run pins s σ H v u Q I r (hi v σ H Q q)⟩
theorem PGs.imp {t t' : TGs} (h : PGs X es t) (hi : ∀ v σ H Q, t' v σ H Q → t v σ H Q) : PGs X es t' := ⟨fun pins s σ H v u Q I r q => h.run pins s σ H v u Q I r (hi v σ H Q q)⟩
theorem dg_n {i : Nat} {x : Str} (hi : L.N[i]? = some x := by rfl) (hx : locB L.sc x = true := by rfl) : DG W L (.Name x pos) [i] (gN i) := by
  intro R F
  refine PG.imp (pg_name (X := mkX W L.N R) F.nd hi (F.loc x hx).1 (F.loc x hx).2) fun v σ H Q h => ?_
  obtain ⟨ph, env, m, d, env', he, hs, r, e, q⟩ := h
  cases e
  exact q _ (he.set r) ⟨by simp, fun j hj => by rw [List.getElem?_set_ne (fun z => hj (by simp [z]))]⟩
theorem dgs_nil : DGs W L [] [] [] := by
  intro R F
  refine PGs.imp pgs_nil fun vs σ H Q h => ?_
  obtain ⟨ph, env, m, ds, env', he, hs, r, e, q⟩ := h
  cases ds with
  | nil => cases e; exact ⟨r, q _ he ⟨rfl, fun _ _ => rfl⟩⟩
  | cons d ds => cases e
theorem dgs_cons {is js : List Nat} (h1 : DG W L tg is g) (h2 : DGs W L tgs js gs) (hs : ∀ env, (assignEach (tg :: tgs) env).map (·.2) = assign tg env :: (assignEach tgs env).map (·.2) := by intro _; rfl) : DGs W L (tg :: tgs) (is ++ js) (g :: gs) := by
  intro R F
  refine PGs.imp (pgs_cons (h1 R F) (h2 R F) (hs _)) fun vs σ H Q h => ?_
  obtain ⟨ph, env, m, ds, env', he, hs, r, e, q⟩ := h
  cases ds with
  | nil => cases e
  | cons d ds =>
    obtain ⟨v, vr, ev, r1, r2⟩ := r
    unfold gTs at e
    cases eg : g d env m with
    | none => rw [eg] at e; cases e
    | some env1 =>
      rw [eg] at e
      exact ⟨v, vr, ev, ph, env, m, d, env1, he, hs, r1, eg, fun σ1 he1 b1 => ⟨ph, env1, m, ds, env', he1, hs, r2, e, fun σ2 he2 b2 => q σ2 he2 ⟨b2.1.trans b1.1, fun i hi => (b2.2 i fun z => hi (List.mem_append_right _ z)).trans (b1.2 i fun z => hi (List.mem_append_left _ z))⟩⟩⟩
theorem gTs_len : ∀ {gs : List FT} {ds : List D} {env env' : Nv} {m : Sto}, gTs gs ds env m = some env' → ds.length = gs.length
  | [], [], _, _, _, _ => rfl
  | [], _ :: _, _, _, _, e => by cases e
  | _ :: _, [], _, _, _, e => by cases e
  | g :: gs, d :: ds, env, env', m, e => by
    unfold gTs at e
    split at e
    · rw [List.length_cons, List.length_cons, gTs_len e]
    · cases e
theorem dg_t {k : Nat} {is : List Nat} (hc : L.calm = true) (h : DGs W L tgs is gs) (hn : ∀ env, (assignEach tgs env).length = gs.length := by intro _; rfl) (hst : ∀ env, (assignEach tgs env).findIdx? (·.1) = none := by intro _; rfl) : DG W L (.Tuple tgs k pos) is (gT gs) := by
  intro R F
  refine PG.imp (pg_tup (X := mkX W L.N R) (F.calm hc) (h R F) (hn _) (hst _)) fun v σ H Q h => ?_
  obtain ⟨ph, env, m, d, env', he, hs, r, e, q⟩ := h
  cases d <;> first | cases e | skip
  rename_i ds
  obtain ⟨a, vs, rfl, l, r⟩ := r
  exact ⟨a, vs, rfl, l.sq, by rw [← r.length]; exact gTs_len e, ph, env, m, ds, env', he, hs, r, e, q⟩
/-- target = value -/
def sAsg (g : FT) (f : FE) : FS := fun env m => bnds (f env m) env fun d m1 => (g d env m1).map fun env' => Out.nx env' m1
theorem t_asg {is : List Nat} {tg : TG} (hg : tg = fun v σ H Q => ∃ ph env m d env', RelEnv W ph H env σ ∧ RelSto W ph H m ∧ Rep W ph H d v ∧ g d env m = some env' ∧ ∀ σ', RelEnv W ph H env' σ' → But is σ σ' → Q σ' H) (h : tS W Wx (sAsg g f) Dn σ H) : tAsg (tE W Wx f) tg Dn σ H := by
  subst hg
  obtain ⟨ph, env, m, hv, hs, h⟩ := h
  refine tE.mk hv hs ((tXS.bnds hs hv h).imp fun v1 H1 q => ?_)
  obtain ⟨ph1, m1, d1, s1, r1, o, e, p⟩ := q
  cases eg : g d1 env m1 with
  | none => rw [eg] at e; cases e
  | some env1 =>
    rw [eg] at e
    cases e
    exact ⟨ph1, env, m1, d1, env1, hv.mono s1, s1.sto, r1, eg, fun σ' he' _ => p σ' H1 ph1 (.refl s1.sto) he'⟩
theorem ds_asg {is : List Nat} (he : DE W L e f) (hg : DG W L tg is g) (hs : ∀ env : PySem.Env, swapsWithSole [tg] e pos.line env = pure false := by intro _; rfl) (hw : ∀ R, Fits W L R → swappedStores [tg] e R.env = pure none := by intro _ _; rfl)
    (h1 : ∀ env, (assignEach [tg] env).map (·.2) = [assign tg env] := by intro _; rfl) : DS W L (.Assign [tg] e pos) (sAsg g f) :=
  fun R F Wx tk => PS.imp (ps_asg (he R F Wx tk) (hg R F) (hs _) (hw R F) (h1 _)) fun _ _ _ h => t_asg rfl h
/-- a, b = x, y -/
def sPar (is : List Nat) (fs : List FE) : FS := fun env m => match evL fs env m with
  | some (.ok ds m1) => if ds.length = is.length then some (.nx ((is.zip ds).foldl (fun e p => e.set p.1 (some p.2)) env) m1) else none
  | some (.exn c d m1) => some (.exn env c d m1)
  | none => none
theorem ds_par {i j : Nat} {x y : Str} {a b : Expr} {fs : List FE} {px py pt : Pos} {kt k2 pt2} (hc : L.calm = true) (ha : DA W L [a, b] fs) (hi : L.N[i]? = some x := by rfl) (hj : L.N[j]? = some y := by rfl) (hij : i ≠ j := by decide)
    (hx : L.sc.names.lookup x = some .local := by rfl) (hy : L.sc.names.lookup y = some .local := by rfl) (ht : L.top = true := by rfl)
    (hw : ∀ env : PySem.Env, env.scope = L.sc → swappedStores [.Tuple [.Name x px, .Name y py] kt pt] (.Tuple [a, b] k2 pt2) env = pure (some [x, y]) := by intro env h; unfold swappedStores Env.kindOf Env.blockKind; simp only [h]; rfl)
    (hs : ∀ env : PySem.Env, swapsWithSole [.Tuple [.Name x px, .Name y py] kt pt] (.Tuple [a, b] k2 pt2) pos.line env = pure false := by intro _; rfl) :
    DS W L (.Assign [.Tuple [.Name x px, .Name y py] kt pt] (.Tuple [a, b] k2 pt2) pos) (sPar [i, j] fs) := by
  intro R F Wx tk
  refine PS.imp (ps_par (X := mkX W L.N R) (F.calm hc) F.nd hi hj hij (F.lcl ht x hx) (F.lcl ht y hy) (ha R F Wx tk) (hw _ (F.scp ht)) (hs _)) fun Dn σ H h => ?_
  obtain ⟨ph, env, m, hv, hs, o, e, p⟩ := h
  unfold sPar at e
  refine ⟨ph, env, m, hv, hs, ?_⟩
  cases q : evL fs env m with
  | none => rw [q] at e; cases e
  | some r =>
    rw [q] at e
    refine ⟨r, rfl, ?_⟩
    cases r with
    | exn c d m1 =>
      cases e
      exact fun dx x H' ph' s a b r => p σ dx x H' ph' s (hv.mono s) a b r
    | ok ds m1 =>
      intro vs H1 ph1 s1 r1
      simp only at e
      split at e
      · rename_i hl
        cases e
        match ds, hl, r1, p with
        | [d1, d2], _, ⟨v1, _, e1, q1, v2, _, e2, q2, e3⟩, p =>
          subst e3 e2 e1
          exact ⟨v1, v2, rfl, p _ H1 ph1 s1 (((hv.mono s1).set q1).set q2)⟩
      · cases e
end

/-! ### what is walked -/
inductive ResI where
  | ok (ds : List D) (w : Option (Nat × List D)) (m : Sto) | exn (c : Nat) (d : D) (m : Sto)
abbrev FI := Nv → Sto → Option ResI
def wOk (w : Option (Nat × List D)) (m : Sto) : Prop := match w with
  | none => True
  | some (n, ds) => m[n]? = some (.lst ds)
/-- the iterator gives these items, whatever is added to the heap -/
def ItOk (W : Wd) (J : It) (ph : Plc) (H : Hp) (ds : List D) (w : Option (Nat × List D)) : Prop := ∀ ph1 H1 m1, Mov ph H ph1 H1 → RelSto W ph1 H1 m1 → wOk w m1 → ∀ i : Nat,
  (∀ d, ds[i]? = some d → J.go i H1 ∧ ∀ x H2, J.yld i H1 x H2 → Ste W ph1 H1 ph1 H2 m1 ∧ Rep W ph1 H2 d x) ∧ (ds.length ≤ i → J.stop i H1)
def PostI (W : Wd) (Wx : WX) (ph : Plc) (H : Hp) (σ : L2.St) (K : It → Hp → Prop) : ResI → Prop
  | .ok ds w m' => ∀ J H' ph', Ste W ph H ph' H' m' → wOk w m' → ItOk W J ph' H' ds w → K J H'
  | .exn c d m' => ∀ dx x H' ph', Ste W ph H ph' H' m' → H' dx = some (fdict x) → ph'.ok dx → Rep W ph' H' d x → Wx (.ref (W.C c)) (some dx) σ H'
def tI (W : Wd) (Wx : WX) (f : FI) : TI := fun σ H K => ∃ ph env m o, RelEnv W ph H env σ ∧ RelSto W ph H m ∧ f env m = some o ∧ PostI W Wx ph H σ K o
def DI (W : Wd) (L : Lv) (tg e : Expr) (f : FI) : Prop := ∀ R, Fits W L R → ∀ Wx : WX, Takes (mkX W L.N R) Wx → PI (mkX W L.N R) tg e (tI W Wx f)
def bndi (r : Option Res) (k : D → Sto → Option ResI) : Option ResI :=
  match r with
  | some (.ok d m) => k d m
  | some (.exn c d m) => some (.exn c d m)
  | none => none
@[simp] theorem bndi_ok (d : D) (m : Sto) (k : D → Sto → Option ResI) : bndi (some (.ok d m)) k = k d m := rfl
def iLst (f : FE) : FI := fun env m => bndi (f env m) fun d m1 => match d with
  | .lst ds => some (.ok ds none m1)
  | .loc n => match m1[n]? with
    | some (.lst ds) => some (.ok ds (some (n, ds)) m1)
    | _ => none
  | _ => none
def iTupD (f : FE) : FI := fun env m => bndi (f env m) fun d m1 => match d with
  | .tup ds => some (.ok ds none m1)
  | _ => none
def iStrD (f : FE) : FI := fun env m => bndi (f env m) fun d m1 => match d with
  | .str s => some (.ok (s.cps.toList.map fun c => .str ⟨#[c]⟩) none m1)
  | _ => none
/-- lo, lo + 1, .. -/
def rngD (lo : Int) (n : Nat) : List D := (List.range n).map fun i => .int (lo + (i : Nat))
def small62 (i : Int) : Bool := decide (-(2 ^ 62) ≤ i) && decide (i < 2 ^ 62)
def bndil (r : Option ResL) (k : List D → Sto → Option ResI) : Option ResI :=
  match r with
  | some (.ok ds m) => k ds m
  | some (.exn c d m) => some (.exn c d m)
  | none => none
@[simp] theorem bndil_ok (ds : List D) (m : Sto) (k : List D → Sto → Option ResI) : bndil (some (.ok ds m)) k = k ds m := rfl
def iRange1 (fs : List FE) : FI := fun env m => bndil (evL fs env m) fun ds m1 => match ds with
  | [.int j] => if small62 j = true then some (.ok (rngD 0 j.toNat) none m1) else none
  | _ => none
def iRange2 (fs : List FE) : FI := fun env m => bndil (evL fs env m) fun ds m1 => match ds with
  | [.int i, .int j] => if small62 i = true ∧ small62 j = true then some (.ok (rngD i (j - i).toNat) none m1) else none
  | _ => none
def prsD : Nat → List D → List D
  | _, [] => []
  | i, d :: ds => .tup [.int i, d] :: prsD (i + 1) ds
def iEnu (fs : List FE) : FI := fun env m => bndil (evL fs env m) fun ds m1 => match ds with
  | [.lst xs] => some (.ok (prsD 0 xs) none m1)
  | [.loc n] => match m1[n]? with
    | some (.lst xs) => some (.ok (prsD 0 xs) (some (n, xs)) m1)
    | _ => none
  | _ => none
def iZipD (fs : List FE) : FI := fun env m => bndil (evL fs env m) fun ds m1 => match ds with
  | [.lst xs, .lst ys] => some (.ok ((xs.zip ys).map fun p => .tup [p.1, p.2]) none m1)
  | _ => none
section
variable {W : Wd} {Wx : WX} {ph ph' ph1 : Plc} {H H' H1 : Hp} {m m' m1 : Sto} {σ σ' : L2.St} {env env' : Nv} {Q Q' : VK} {Dn Dn' : Ends} {L : Lv} {R : Rst} {X : Cx} {e tg : Expr} {es tgs : List Expr} {f : FE} {fs : List FE} {g : FT} {gs : List FT} {pos : Pos}
theorem PI.imp {t t' : TI} (h : PI X tg e t) (hi : ∀ σ H K, t' σ H K → t σ H K) : PI X tg e t' := ⟨fun pins s σ H K I q => h.run pins s σ H K I (hi σ H K q)⟩
theorem tI.bnd {k : D → Sto → Option ResI} {K : It → Hp → Prop} (h : tI W Wx (fun env m => bndi (f env m) k) σ H K) :
    tE W Wx f σ H fun v H1 => ∃ ph1 m1 d o, RelSto W ph1 H1 m1 ∧ Rep W ph1 H1 d v ∧ k d m1 = some o ∧ PostI W Wx ph1 H1 σ K o := by
  obtain ⟨ph, env, m, o, he, hs, e, p⟩ := h
  refine ⟨ph, env, m, he, hs, ?_⟩
  have later : ∀ {ph1 H1 m1} {o : ResI}, Ste W ph H ph1 H1 m1 → PostI W Wx ph H σ K o → PostI W Wx ph1 H1 σ K o := by
    intro ph1 H1 m1 o s p
    cases o with
    | ok ds w m' => exact fun J H' ph' t => p J H' ph' (s.trans t)
    | exn c d m' => exact fun dx x H' ph' t => p dx x H' ph' (s.trans t)
  have e : bndi (f env m) k = some o := e
  match q : f env m, e with
  | some (.ok d m1), e =>
    exact ⟨_, rfl, fun v H' ph' s r => ⟨ph', m1, d, o, s.sto, r, e, later s p⟩⟩
  | some (.exn c d m1), e =>
    have e : some (ResI.exn c d m1) = some o := e
    cases e
    exact ⟨_, rfl, p⟩
  | none, e => cases e
theorem tI.bndl {k : List D → Sto → Option ResI} {K : It → Hp → Prop} (h : tI W Wx (fun env m => bndil (evL fs env m) k) σ H K) :
    tL W Wx fs σ H fun vs H1 => ∃ ph1 m1 ds o, RelSto W ph1 H1 m1 ∧ RepL W ph1 H1 ds vs ∧ k ds m1 = some o ∧ PostI W Wx ph1 H1 σ K o := by
  obtain ⟨ph, env, m, o, he, hs, e, p⟩ := h
  refine ⟨ph, env, m, he, hs, ?_⟩
  have later : ∀ {ph1 H1 m1} {o : ResI}, Ste W ph H ph1 H1 m1 → PostI W Wx ph H σ K o → PostI W Wx ph1 H1 σ K o := by
    intro ph1 H1 m1 o s p
    cases o with
    | ok ds w m' => exact fun J H' ph' t => p J H' ph' (s.trans t)
    | exn c d m' => exact fun dx x H' ph' t => p dx x H' ph' (s.trans t)
  have e : bndil (evL fs env m) k = some o := e
  match q : evL fs env m, e with
  | some (.ok d m1), e =>
    exact ⟨_, rfl, fun v H' ph' s r => ⟨ph', m1, d, o, s.sto, r, e, later s p⟩⟩
  | some (.exn c d m1), e =>
    have e : some (ResI.exn c d m1) = some o := e
    cases e
    exact ⟨_, rfl, p⟩
  | none, e => cases e
theorem itl_ok {a : Addr} {vs : List V} {ds : List D} (l : LstAt ph H a vs) (r : RepL W ph H ds vs) : ItOk W (Itl W.K a) ph H ds none := by
  intro ph1 H1 m1 s hs _ i
  have l1 := (l.move s).sq (K := W.K)
  refine ⟨fun d hd => ?_, fun hi => ⟨vs, l1, by rw [← r.length]; exact hi⟩⟩
  obtain ⟨v, hv, rv⟩ := r.get hd
  refine ⟨⟨vs, v, l1, hv⟩, fun x H2 hy => ?_⟩
  obtain ⟨rfl, hy⟩ := hy
  have := hy vs l1
  rw [hv] at this
  cases this
  exact ⟨.refl hs, Rep.move s d v rv⟩
theorem itl_loc {a : Addr} {n : Nat} {ds : List D} (ha : ph.pl[n]? = some a) : ItOk W (Itl W.K a) ph H ds (some (n, ds)) := by
  intro ph1 H1 m1 s hs hw i
  have hw : m1[n]? = some (.lst ds) := hw
  obtain ⟨a', e1, _, vs, e3, r⟩ := hs.cell n _ hw
  have : a' = a := by
    rw [s.pl n a ha] at e1
    exact (Option.some.inj e1).symm
  subst this
  refine ⟨fun d hd => ?_, fun hi => ⟨vs, .of e3, by rw [← r.length]; exact hi⟩⟩
  obtain ⟨v, hv, rv⟩ := r.get hd
  refine ⟨⟨vs, v, .of e3, hv⟩, fun x H2 hy => ?_⟩
  obtain ⟨rfl, hy⟩ := hy
  have := hy vs (.of e3)
  rw [hv] at this
  cases this
  exact ⟨.refl hs, rv⟩
theorem di_lst (he : DE W L e f) : DI W L tg e (iLst f) := by
  intro R F Wx tk
  refine PI.imp (pi_list (he R F Wx tk)) fun σ H K h => ?_
  refine tE.imp (fun v H1 q => ?_) (tI.bnd h)
  obtain ⟨ph1, m1, d, o, hs, r, e, p⟩ := q
  cases d <;> simp only at e <;> first | cases e; done | skip
  · obtain ⟨a, vs, rfl, l, r⟩ := r
    cases e
    exact ⟨a, rfl, ⟨vs, l.sq⟩, p _ _ _ (.refl hs) trivial (itl_ok l r)⟩
  · rename_i n
    obtain ⟨a, rfl, ha⟩ := r
    cases q : m1[n]? with
    | none => rw [q] at e; cases e
    | some c =>
      rw [q] at e
      cases c <;> simp only at e <;> first | cases e; done | skip
      rename_i ds
      cases e
      obtain ⟨a', e1, _, vs, e3, r⟩ := hs.cell n _ q
      rw [ha] at e1
      cases e1
      exact ⟨a, rfl, ⟨vs, .of e3⟩, p _ _ _ (.refl hs) q (itl_loc ha)⟩
theorem di_tup (he : DE W L e f) : DI W L tg e (iTupD f) := by
  intro R F Wx tk
  refine PI.imp (pi_tup (he R F Wx tk)) fun σ H K h => ?_
  refine tE.imp (fun v H1 q => ?_) (tI.bnd h)
  obtain ⟨ph1, m1, d, o, hs, r, e, p⟩ := q
  cases d <;> simp only at e <;> first | cases e; done | skip
  obtain ⟨a, vs, rfl, l, r⟩ := r
  cases e
  refine ⟨a, rfl, ⟨vs, l.sq⟩, p _ _ _ (.refl hs) trivial fun ph2 H2 m2 s hs _ i => ?_⟩
  have l1 := (l.move s).sq (K := W.K)
  refine ⟨fun d hd => ?_, fun hi => ⟨vs, l1, by rw [← r.length]; exact hi⟩⟩
  obtain ⟨v, hv, rv⟩ := r.get hd
  refine ⟨⟨vs, v, l1, hv⟩, fun x H2 hy => ?_⟩
  obtain ⟨rfl, hy⟩ := hy
  have := hy vs l1
  rw [hv] at this
  cases this
  exact ⟨.refl hs, Rep.move s d v rv⟩
theorem di_str (he : DE W L e f) : DI W L tg e (iStrD f) := by
  intro R F Wx tk
  refine PI.imp (pi_str (he R F Wx tk)) fun σ H K h => ?_
  refine tE.imp (fun v H1 q => ?_) (tI.bnd h)
  obtain ⟨ph1, m1, d, o, hs, r, e, p⟩ := q
  cases d <;> simp only at e <;> first | cases e; done | skip
  rename_i x
  cases e
  refine ⟨x, r, p _ _ _ (.refl hs) trivial fun ph2 H2 m2 s hs _ i => ⟨fun d hd => ?_, fun hi => ?_⟩⟩
  · rw [List.getElem?_map] at hd
    cases q : x.cps.toList[i]? with
    | none => rw [q] at hd; cases hd
    | some c =>
      rw [q] at hd
      cases hd
      have hi := (List.getElem?_eq_some_iff.mp q).1
      rw [Array.getElem?_toList] at q
      refine ⟨by show i < x.cps.size; simpa using hi, fun y H3 hy => ?_⟩
      obtain ⟨rfl, c', h1, rfl⟩ := hy
      rw [q] at h1
      cases h1
      exact ⟨.refl hs, rfl⟩
  · rw [List.length_map, Array.length_toList] at hi
    exact hi
theorem itr_ok {lo : Int} {n : Nat} : ItOk W (Itr lo n) ph H (rngD lo n) none := by
  intro ph1 H1 m1 s hs _ i
  unfold rngD
  refine ⟨fun d hd => ?_, fun hi => by show n ≤ i; simpa using hi⟩
  rw [List.getElem?_map] at hd
  cases q : (List.range n)[i]? with
  | none => rw [q] at hd; cases hd
  | some k =>
    rw [q] at hd
    cases hd
    have hi := (List.getElem?_eq_some_iff.mp q).1
    rw [List.length_range] at hi
    have : k = i := by
      rw [List.getElem?_range hi] at q
      exact (Option.some.inj q).symm
    subst this
    refine ⟨hi, fun y H3 hy => ?_⟩
    obtain ⟨rfl, rfl⟩ := hy
    exact ⟨.refl hs, rfl⟩
theorem small62_iff {i : Int} (h : small62 i = true) : -(2 ^ 62) ≤ i ∧ i < 2 ^ 62 := by
  unfold small62 at h
  rw [Bool.and_eq_true, decide_eq_true_eq, decide_eq_true_eq] at h
  exact h
theorem di_rng1 {a : Expr} {p : Pos} (ha : DA W L [a] fs) (hm : W.mg "range" = none) (hg : L.sc.names.lookup ("range" : Str) = some .globalImplicit := by rfl) (hs : ∀ env, starEach [a] env = [(false, eval a env)] := by intro _; rfl) : DI W L tg (.Call (.Name "range" p) [a] [] pos) (iRange1 fs) := by
  intro R F Wx tk
  refine PI.imp (pi_range1 (X := mkX W L.N R) (F.gl "range" hg) hm (ha R F Wx tk) (hs _)) fun σ H K h => ?_
  have h' := tI.bndl h
  obtain ⟨ph, env, m, he, hs, r, e, p⟩ := h'
  refine ⟨ph, env, m, he, hs, r, e, ?_⟩
  cases r with
  | exn c d m1 => exact p
  | ok ds m1 =>
    intro vs H1 ph1 s1 r1
    obtain ⟨ph2, m2, ds2, o2, hs2, r2, e2, p2⟩ := p vs H1 ph1 s1 r1
    split at e2
    · split at e2
      · rename_i hj
        cases e2
        obtain ⟨v, _, rfl, rv, rfl⟩ := r2
        obtain ⟨h1, h2⟩ := small62_iff hj
        cases rv
        exact ⟨_, rfl, h1, h2, p2 _ _ _ (.refl hs2) trivial itr_ok⟩
      · cases e2
    · cases e2
theorem di_rng2 {a b : Expr} {p : Pos} (ha : DA W L [a, b] fs) (hm : W.mg "range" = none) (hg : L.sc.names.lookup ("range" : Str) = some .globalImplicit := by rfl) (hs : ∀ env, starEach [a, b] env = [(false, eval a env), (false, eval b env)] := by intro _; rfl) (hs2 : ∀ env, starEach [b] env = [(false, eval b env)] := by intro _; rfl) : DI W L tg (.Call (.Name "range" p) [a, b] [] pos) (iRange2 fs) := by
  intro R F Wx tk
  refine PI.imp (pi_range2 (X := mkX W L.N R) (F.gl "range" hg) hm (ha R F Wx tk) (hs _) (hs2 _)) fun σ H K h => ?_
  have h' := tI.bndl h
  obtain ⟨ph, env, m, he, hs, r, e, p⟩ := h'
  refine ⟨ph, env, m, he, hs, r, e, ?_⟩
  cases r with
  | exn c d m1 => exact p
  | ok ds m1 =>
    intro vs H1 ph1 s1 r1
    obtain ⟨ph2, m2, ds2, o2, hs2, r2, e2, p2⟩ := p vs H1 ph1 s1 r1
    split at e2
    · split at e2
      · rename_i hj
        cases e2
        obtain ⟨v, _, rfl, rv, v2, _, rfl, rv2, rfl⟩ := r2
        obtain ⟨h1, h2⟩ := small62_iff hj.1
        obtain ⟨h3, h4⟩ := small62_iff hj.2
        cases rv
        cases rv2
        exact ⟨_, _, rfl, ⟨h1, h2, h3, h4⟩, p2 _ _ _ (.refl hs2) trivial itr_ok⟩
      · cases e2
    · cases e2
theorem prsD_get : ∀ (ds : List D) (k i : Nat), (prsD k ds)[i]? = (ds[i]?).map fun d => D.tup [.int ((k + i : Nat) : Int), d]
  | [], k, i => by simp [prsD]
  | d :: ds, k, 0 => by simp [prsD]
  | d :: ds, k, i + 1 => by
    have := prsD_get ds (k + 1) i
    simp only [prsD, List.getElem?_cons_succ]
    rw [this]
    have e : k + 1 + i = k + (i + 1) := by omega
    rw [e]
theorem prsD_len : ∀ (ds : List D) (k : Nat), (prsD k ds).length = ds.length
  | [], k => rfl
  | d :: ds, k => by simp [prsD, prsD_len ds (k + 1)]
theorem di_enu {a : Expr} {p tpos : Pos} {elts : List Expr} {kk : Nat} (ha : DA W L [a] fs) (hm : W.mg "enumerate" = none) (hg : L.sc.names.lookup ("enumerate" : Str) = some .globalImplicit := by rfl) (hs : ∀ env, starEach [a] env = [(false, eval a env)] := by intro _; rfl) : DI W L (.Tuple elts kk tpos) (.Call (.Name "enumerate" p) [a] [] pos) (iEnu fs) := by
  intro R F Wx tk
  refine PI.imp (pi_enum (X := mkX W L.N R) (F.gl "enumerate" hg) hm (ha R F Wx tk) (hs _)) fun σ H K h => ?_
  have h' := tI.bndl h
  obtain ⟨ph, env, m, he, hs, r, e, p⟩ := h'
  refine ⟨ph, env, m, he, hs, r, e, ?_⟩
  cases r with
  | exn c d m1 => exact p
  | ok ds m1 =>
    intro vs H1 ph1 s1 r1
    obtain ⟨ph2, m2, ds2, o2, hs2, r2, e2, p2⟩ := p vs H1 ph1 s1 r1
    split at e2
    · rename_i xs
      cases e2
      obtain ⟨v, _, rfl, ⟨a, us, rfl, l, rr⟩, rfl⟩ := r2
      refine ⟨a, us, rfl, l.sq, p2 _ _ _ (.refl hs2) trivial fun ph3 H3 m3 s hs _ i => ?_⟩
      have l1 := (l.move s).sq (K := W.K)
      refine ⟨fun d hd => ?_, fun hi => ⟨us, l1, by rw [← rr.length, ← prsD_len xs 0]; exact hi⟩⟩
      rw [prsD_get] at hd
      cases q : xs[i]? with
      | none => rw [q] at hd; cases hd
      | some d0 =>
        rw [q] at hd
        cases hd
        obtain ⟨u, hu, ru⟩ := rr.get q
        refine ⟨⟨us, u, l1, hu⟩, fun x H4 hy => ?_⟩
        obtain ⟨T, x', rfl, hT, rfl, hx⟩ := hy
        have := hx us l1
        rw [hu] at this
        cases this
        refine ⟨.put hT hs, .newT hT hs (.cons ?_ (.cons (Rep.move s _ _ ru) .nil))⟩
        show V.int _ = V.int _
        rw [Nat.zero_add]
    · rename_i n
      split at e2
      · rename_i xs q0
        cases e2
        obtain ⟨v, _, rfl, ⟨a, rfl, ha⟩, rfl⟩ := r2
        obtain ⟨a', e1, _, us, e3, rr⟩ := hs2.cell n _ q0
        rw [ha] at e1
        cases e1
        refine ⟨a, us, rfl, .of e3, p2 _ _ _ (.refl hs2) q0 fun ph3 H3 m3 s hs hw i => ?_⟩
        have hw : m3[n]? = some (.lst xs) := hw
        obtain ⟨a', e1, _, us2, e4, rr2⟩ := hs.cell n _ hw
        have : a' = a := by
          rw [s.pl n a ha] at e1
          exact (Option.some.inj e1).symm
        subst this
        refine ⟨fun d hd => ?_, fun hi => ⟨us2, .of e4, by rw [← rr2.length, ← prsD_len xs 0]; exact hi⟩⟩
        rw [prsD_get] at hd
        cases q : xs[i]? with
        | none => rw [q] at hd; cases hd
        | some d0 =>
          rw [q] at hd
          cases hd
          obtain ⟨u, hu, ru⟩ := rr2.get q
          refine ⟨⟨us2, u, .of e4, hu⟩, fun x H4 hy => ?_⟩
          obtain ⟨T, x', rfl, hT, rfl, hx⟩ := hy
          have := hx us2 (.of e4)
          rw [hu] at this
          cases this
          refine ⟨.put hT hs, .newT hT hs (.cons ?_ (.cons ru .nil))⟩
          show V.int _ = V.int _
          rw [Nat.zero_add]
      · cases e2
    · cases e2
theorem di_zip {a b : Expr} {p tpos : Pos} {elts : List Expr} {kk : Nat} (ha : DA W L [a, b] fs) (hm : W.mg "zip" = none) (hg : L.sc.names.lookup ("zip" : Str) = some .globalImplicit := by rfl) (hs : ∀ env, starEach [a, b] env = (false, eval a env) :: starEach [b] env := by intro _; rfl) (hs2 : ∀ env, (backTo pos (starEach [b] env)).any (·.1) = false := by intro _; rfl) : DI W L (.Tuple elts kk tpos) (.Call (.Name "zip" p) [a, b] [] pos) (iZipD fs) := by
  intro R F Wx tk
  refine PI.imp (pi_zip (X := mkX W L.N R) (F.gl "zip" hg) hm (ha R F Wx tk) (hs _) (hs2 _)) fun σ H K h => ?_
  have h' := tI.bndl h
  obtain ⟨ph, env, m, he, hs, r, e, p⟩ := h'
  refine ⟨ph, env, m, he, hs, r, e, ?_⟩
  cases r with
  | exn c d m1 => exact p
  | ok ds m1 =>
    intro vs H1 ph1 s1 r1
    obtain ⟨ph2, m2, ds2, o2, hs2, r2, e2, p2⟩ := p vs H1 ph1 s1 r1
    split at e2
    · rename_i xs ys
      cases e2
      obtain ⟨v, _, rfl, ⟨a, us, rfl, l, rr⟩, v2, _, rfl, ⟨b, zs, rfl, l2, rr2⟩, rfl⟩ := r2
      refine ⟨a, b, us, zs, rfl, l.sq, l2.sq, p2 _ _ _ (.refl hs2) trivial fun ph3 H3 m3 s hs _ i => ?_⟩
      have q1 := (l.move s).sq (K := W.K)
      have q2 := (l2.move s).sq (K := W.K)
      refine ⟨fun d hd => ?_, fun hi => ⟨us, zs, q1, q2, ?_⟩⟩
      · rw [List.getElem?_map] at hd
        cases q : (xs.zip ys)[i]? with
        | none => rw [q] at hd; cases hd
        | some d0 =>
          rw [q] at hd
          cases hd
          obtain ⟨h1, h2⟩ := List.getElem?_zip_eq_some.mp q
          obtain ⟨u, hu, ru⟩ := rr.get h1
          obtain ⟨z, hz, rz⟩ := rr2.get h2
          refine ⟨⟨us, zs, u, z, q1, q2, hu, hz⟩, fun x H4 hy => ?_⟩
          obtain ⟨T, x', y', rfl, hT, rfl, hx, hy⟩ := hy
          have := hx us q1
          rw [hu] at this
          cases this
          have := hy zs q2
          rw [hz] at this
          cases this
          exact ⟨.put hT hs, .newT hT hs (.cons (Rep.move s _ _ ru) (.cons (Rep.move s _ _ rz) .nil))⟩
      · rw [List.length_map, List.length_zip] at hi
        have h1 := rr.length
        have h2 := rr2.length
        omega
    · cases e2
end

/-- a list, a tuple or a text, as it comes -/
def itemsD : D → Sto → Option ResI
  | .lst ds, m1 => some (.ok ds none m1)
  | .loc n, m1 => match m1[n]? with
    | some (.lst ds) => some (.ok ds (some (n, ds)) m1)
    | _ => none
  | .tup ds, m1 => some (.ok ds none m1)
  | .str s, m1 => some (.ok (s.cps.toList.map fun c => .str ⟨#[c]⟩) none m1)
  | _, _ => none
def iAny (f : FE) : FI := fun env m => bndi (f env m) itemsD
section
variable {W : Wd} {Wx : WX} {σ : L2.St} {H : Hp} {L : Lv} {R : Rst} {X : Cx} {e tg : Expr} {f : FE}
theorem PI.or {t t' : TI} (h : PI X tg e t) (h' : PI X tg e t') : PI X tg e (fun σ H K => t σ H K ∨ t' σ H K) := ⟨fun pins s σ H K I q => q.elim (h.run pins s σ H K I) (h'.run pins s σ H K I)⟩
theorem di_any (he : DE W L e f) : DI W L tg e (iAny f) := by
  intro R F Wx tk
  refine PI.imp (PI.or (di_lst (tg := tg) he R F Wx tk) (PI.or (di_tup (tg := tg) he R F Wx tk) (di_str (tg := tg) he R F Wx tk))) fun σ H K h => ?_
  obtain ⟨ph, env, m, o, hv, hs, e, p⟩ := h
  unfold iAny at e
  cases q : f env m with
  | none => rw [q] at e; cases e
  | some r =>
    rw [q] at e
    cases r with
    | exn c d m1 => exact .inl ⟨ph, env, m, o, hv, hs, by unfold iLst; rw [q]; exact e, p⟩
    | ok d m1 =>
      rw [bndi_ok] at e
      unfold itemsD at e
      cases d <;> first | cases e; done | skip
      · exact .inr (.inr ⟨ph, env, m, o, hv, hs, by unfold iStrD; rw [q]; exact e, p⟩)
      · exact .inl ⟨ph, env, m, o, hv, hs, by unfold iLst; rw [q]; exact e, p⟩
      · exact .inr (.inl ⟨ph, env, m, o, hv, hs, by unfold iTupD; rw [q]; exact e, p⟩)
      · exact .inl ⟨ph, env, m, o, hv, hs, by unfold iLst; rw [q]; exact e, p⟩
end
/-! ### for -/
def contO (o : Option Out) (k : FS) : Option Out :=
  match o with
  | some (.nx env m) => k env m
  | some (.ct env m) => k env m
  | some (.bk env m) => some (.nx env m)
  | o => o
@[simp] theorem contO_nx (env : Nv) (m : Sto) (k : FS) : contO (some (.nx env m)) k = k env m := rfl
@[simp] theorem contO_rt (d : D) (m : Sto) (k : FS) : contO (some (.rt d m)) k = some (.rt d m) := rfl
open Classical in
noncomputable def forD (g : FT) (b : FS) (w : Option (Nat × List D)) : List D → FS
  | [] => fun env m => if wOk w m then some (.nx env m) else none
  | d :: ds => fun env m => if wOk w m then (match g d env m with
    | some env' => contO (b env' m) (forD g b w ds)
    | none => none) else none
@[simp] theorem forD_nil (g : FT) (b : FS) (env : Nv) (m : Sto) : forD g b none [] env m = some (.nx env m) := by simp [forD, wOk]
theorem forD_cons (g : FT) (b : FS) (d : D) (ds : List D) (env env' : Nv) (m : Sto) (h : g d env m = some env') : forD g b none (d :: ds) env m = contO (b env' m) (forD g b none ds) := by
  simp [forD, wOk, h]
noncomputable def sFor (it : FI) (g : FT) (b : FS) : FS := fun env m => match it env m with
  | some (.ok ds w m1) => forD g b w ds env m1
  | some (.exn c d m1) => some (.exn env c d m1)
  | none => none
section
variable {W : Wd} {Wx : WX} {ph ph' ph1 : Plc} {H H' H1 : Hp} {m m' m1 : Sto} {σ σ' : L2.St} {env env' : Nv} {Q Q' : VK} {Dn Dn' : Ends} {L : Lv} {R : Rst} {X : Cx} {e tg : Expr} {es tgs : List Expr} {f : FE} {fs : List FE} {g : FT} {gs : List FT} {pos : Pos} {it : FI} {body : List Stmt} {b : FS}
theorem ds_for {is : List Nat} (hi : DI W L tg e it) (hg : DG W L tg is g) (hb : DSs W L body b) (hc : L.calm = true := by rfl) (ht : L.top = true := by rfl) (hs : ∀ env x, foldedSetIterable e env x = pure x := by intro _ _; rfl) : DS W L (.For tg e body [] pos) (sFor it g b) := by
  intro R F Wx tk
  refine PS.imp (ps_for (X := mkX W L.N R) (F.pass ht) (F.calm hc) (hi R F Wx tk) (hg R F) (hb R F Wx tk) (hs _)) fun Dn σ H h => ?_
  obtain ⟨ph, env, m, he, hs, o, e, p⟩ := h
  unfold sFor at e
  cases q : it env m with
  | none => rw [q] at e; cases e
  | some r =>
    rw [q] at e
    refine ⟨ph, env, m, r, he, hs, q, ?_⟩
    cases r with
    | exn c d m1 =>
      have e : some (Out.exn env c d m1) = some o := e
      cases e
      exact fun dx x H' ph' s a b r => p σ dx x H' ph' s (he.mono s) a b r
    | ok ds w m1 =>
      have e : forD g b w ds env m1 = some o := e
      intro J H1 ph1 s1 hw1 hJ
      refine ⟨fun i n σ2 H2 => n = ds.length - i ∧ i ≤ ds.length ∧ ∃ ph2 env2 m2, Ste W ph1 H1 ph2 H2 m2 ∧ RelEnv W ph2 H2 env2 σ2 ∧ forD g b w (ds.drop i) env2 m2 = some o, ⟨ds.length, by simp, Nat.zero_le _, ph1, env, m1, .refl s1.sto, he.mono s1, by simpa using e⟩, ?_⟩
      rintro i n σ2 H2 ⟨rfl, hi, ph2, env2, m2, s2, he2, e2⟩
      by_cases hlt : i < ds.length
      · rw [List.drop_eq_getElem_cons hlt] at e2
        unfold forD at e2
        split at e2
        · rename_i hw
          obtain ⟨hgo, hy⟩ := (hJ ph2 H2 m2 s2.mov s2.sto hw i).1 ds[i] (by simp [hlt])
          cases eg : g ds[i] env2 m2 with
          | none => rw [eg] at e2; cases e2
          | some env3 =>
            rw [eg] at e2
            have e2 : contO (b env3 m2) (forD g b w (ds.drop (i + 1))) = some o := e2
            refine .inr ⟨hgo, fun σ4 H4 => ∃ ph4 env4 m4, Ste W ph1 H1 ph4 H4 m4 ∧ RelEnv W ph4 H4 env4 σ4 ∧ forD g b w (ds.drop (i + 1)) env4 m4 = some o, fun σ4 H4 h4 => ⟨ds.length - (i + 1), by omega, rfl, by omega, h4⟩, fun x H3 hyl => ?_⟩
            obtain ⟨s3, rx⟩ := hy x H3 hyl
            refine ⟨ph2, env2, m2, ds[i], env3, he2.mono s3, s3.sto, rx, eg, fun σ3 he3 _ => ⟨ph2, env3, m2, he3, s3.sto, ?_⟩⟩
            have s13 := s2.trans s3
            cases eb : b env3 m2 with
            | none => rw [eb] at e2; cases e2
            | some ob =>
              rw [eb] at e2
              refine ⟨ob, rfl, ?_⟩
              cases ob with
              | nx env4 m4 => exact fun σ4 H4 ph4 s4 he4 => ⟨ph4, env4, m4, s13.trans s4, he4, e2⟩
              | ct env4 m4 => exact fun σ4 H4 ph4 s4 he4 => ⟨ph4, env4, m4, s13.trans s4, he4, e2⟩
              | bk env4 m4 =>
                cases e2
                exact fun σ4 H4 ph4 s4 he4 => p σ4 H4 ph4 ((s1.trans s13).trans s4) he4
              | rt d m4 =>
                cases e2
                exact fun v H4 ph4 s4 r4 => p v H4 ph4 ((s1.trans s13).trans s4) r4
              | exn env4 c d m4 =>
                cases e2
                exact fun σ4 dx x H4 ph4 s4 he4 a b r => p σ4 dx x H4 ph4 ((s1.trans s13).trans s4) he4 a b r
        · cases e2
      · have : i = ds.length := by omega
        subst this
        rw [List.drop_length] at e2
        unfold forD at e2
        split at e2
        · rename_i hw
          cases e2
          exact .inl ⟨(hJ ph2 H2 m2 s2.mov s2.sto hw ds.length).2 (Nat.le_refl _), p σ2 H2 ph2 (s1.trans s2) he2⟩
        · cases e2

/-! ### while -/
def whileD (t : FE) (b : FS) : Nat → FS
  | 0 => fun _ _ => none
  | n + 1 => fun env m => bnds (t env m) env fun d m1 => match truth d m1 with
    | some true => contO (b env m1) (whileD t b n)
    | some false => some (.nx env m1)
    | none => none
def fuel : Nat := 2 ^ 60
def sWhile (t : FE) (b : FS) : FS := whileD t b fuel
theorem ds_while {c : Expr} {fc : FE} (hc : DT W L c fc) (hb : DSs W L body b) (ht : L.top = true := by rfl) : DS W L (.While c body [] pos) (sWhile fc b) := by
  intro R F Wx tk
  refine PS.imp (ps_while (X := mkX W L.N R) (F.pass ht) (hc R F Wx tk) (hb R F Wx tk)) fun Dn σ H h => ?_
  obtain ⟨ph, env, m, he, hs, h⟩ := h
  refine ⟨fun n σ2 H2 => ∃ ph2 env2 m2, RelEnv W ph2 H2 env2 σ2 ∧ RelSto W ph2 H2 m2 ∧ tXS W Wx (whileD fc b n env2 m2) ph2 H2 Dn, ⟨fuel, ph, env, m, he, hs, h⟩, ?_⟩
  rintro n σ2 H2 ⟨ph2, env2, m2, he2, hs2, h2⟩
  cases n with
  | zero =>
    obtain ⟨o, e, _⟩ := h2
    cases e
  | succ n =>
    have h2 : tXS W Wx (bnds (fc env2 m2) env2 fun d m1 => match truth d m1 with | some true => contO (b env2 m1) (whileD fc b n) | some false => some (.nx env2 m1) | none => none) ph2 H2 Dn := h2
    refine ⟨ph2, env2, m2, he2, hs2, ?_⟩
    obtain ⟨o2, e3, p3⟩ := tXS.bndt he2 h2 fun d m1 o e => by
      cases q : truth d m1 with
      | none => simp only [q] at e; cases e
      | some b => exact ⟨b, rfl⟩
    refine ⟨o2, e3, ?_⟩
    cases o2 with
    | exn c d m3 => exact p3
    | ok d m3 =>
      obtain ⟨bb, hb3, p3⟩ := p3
      refine ⟨bb, hb3, fun H4 ph4 s4 => ?_⟩
      obtain ⟨ph5, m5, d5, s5, hb5, h5⟩ := p3 H4 ph4 s4
      simp only [hb5] at h5
      cases bb with
      | false =>
        obtain ⟨o, e, p⟩ := h5
        cases e
        exact p σ2 H4 ph5 (.refl s5.sto) (he2.mono s5)
      | true =>
        have h5 : tXS W Wx (contO (b env2 m5) (whileD fc b n)) ph5 H4 Dn := h5
        obtain ⟨o, e, p⟩ := h5
        refine ⟨fun σ6 H6 => ∃ ph6 env6 m6, RelEnv W ph6 H6 env6 σ6 ∧ RelSto W ph6 H6 m6 ∧ tXS W Wx (whileD fc b n env6 m6) ph6 H6 Dn, fun σ6 H6 h6 => ⟨n, Nat.lt_succ_self n, h6⟩, ph5, env2, m5, he2.mono s5, s5.sto, ?_⟩
        cases eb : b env2 m5 with
        | none => rw [eb] at e; cases e
        | some ob =>
          rw [eb] at e
          refine ⟨ob, rfl, ?_⟩
          cases ob with
          | nx env4 m4 => exact fun σ4 H4 ph4 s4 he4 => ⟨ph4, env4, m4, he4, s4.sto, o, e, p.later s4⟩
          | ct env4 m4 => exact fun σ4 H4 ph4 s4 he4 => ⟨ph4, env4, m4, he4, s4.sto, o, e, p.later s4⟩
          | bk env4 m4 =>
            cases e
            exact p
          | rt d m4 =>
            cases e
            exact p
          | exn env4 c d m4 =>
            cases e
            exact p
end

/-! ### list comprehensions -/
def wipeN (env : Nv) : List Nat → Nv
  | [] => env
  | v :: vs => (wipeN env vs).set v none
def bndb (r : Option Res) (k : D → Sto → Option ResL) : Option ResL :=
  match r with
  | some (.ok d m) => k d m
  | _ => none
@[simp] theorem bndb_ok (d : D) (m : Sto) (k : D → Sto → Option ResL) : bndb (some (.ok d m)) k = k d m := rfl
def lcD (g : FT) (t f : FE) (env : Nv) : List D → Sto → List D → Option ResL
  | [], m, acc => some (.ok acc m)
  | d :: ds, m, acc => match g d env m with
    | some env' => bndb (t env' m) fun c m1 => match truth c m1 with
      | some true => bndb (f env' m1) fun x m2 => lcD g t f env ds m2 (acc ++ [x])
      | some false => lcD g t f env ds m1 acc
      | none => none
    | none => none
def bndir (r : Option ResI) (k : List D → Sto → Option ResL) : Option Res :=
  match r with
  | some (.ok ds none m) => bndl (k ds m) fun acc m1 => if acc.length ≤ 100000 then some (.ok (.lst acc) m1) else none
  | some (.exn c d m) => some (.exn c d m)
  | _ => none
/-- [f for g in it if t], the names at vs its own -/
def eLc (vs : List Nat) (it : FI) (g : FT) (t f : FE) : FE := fun env m => bndir (it env m) fun ds m1 => lcD g t f (wipeN env vs) ds m1 []
def tTrue : FE := eC (.bl true)
section
variable {W : Wd} {Wx : WX} {ph ph' ph1 : Plc} {H H' H1 : Hp} {m m' m1 : Sto} {σ σ' : L2.St} {env env' : Nv} {Q Q' : VK} {L : Lv} {R : Rst} {X : Cx} {e tg elt : Expr} {ifs : List Expr} {f t : FE} {g : FT} {pos : Pos} {it : FI}
theorem RelEnv.wipe {vs : List Nat} (h : RelEnv W ph H env σ) : RelEnv W ph H (wipeN env vs) (wipe σ vs) := by
  induction vs with
  | nil => exact h
  | cons v vs ih =>
    refine ⟨by unfold wipeN L2.wipe; simpa using ih.len, fun i d e => ?_⟩
    unfold wipeN at e
    unfold L2.wipe
    by_cases hi : v = i
    · subst hi
      by_cases hl : v < (wipeN env vs).length
      · rw [List.getElem?_set_self hl] at e; cases e
      · rw [List.getElem?_eq_none (by simpa using hl)] at e; cases e
    · rw [List.getElem?_set_ne hi] at e ⊢
      exact ih.val i d e
/-- the static place within a comprehension -/
def Lv.blk (L : Lv) (scope : Scope) : Lv := ⟨L.N, scope, L.k, L.calm, false⟩
theorem look_free {sc : Scope} : ∀ {names : List (Str × NameKind)} {x : Str}, names.lookup x = some .free →
    (names.map fun (n, k) => if (k == NameKind.free && sc.kind == .function && sc.names.lookup n == some .cell) then (n, NameKind.cell) else (n, k)).lookup x = some .free ∨
    (names.map fun (n, k) => if (k == NameKind.free && sc.kind == .function && sc.names.lookup n == some .cell) then (n, NameKind.cell) else (n, k)).lookup x = some .cell
  | [], _, h => by cases h
  | (n, k0) :: r, x, h => by
    rw [List.map_cons]
    rw [List.lookup_cons] at h
    dsimp only
    cases hx : x == n with
    | true =>
      rw [hx] at h
      cases h
      by_cases hc : (NameKind.free == NameKind.free && sc.kind == .function && sc.names.lookup n == some .cell) = true
      · rw [if_pos hc, List.lookup_cons, hx]; exact .inr rfl
      · rw [if_neg hc, List.lookup_cons, hx]; exact .inl rfl
    | false =>
      rw [hx] at h
      by_cases hc : (k0 == NameKind.free && sc.kind == .function && sc.names.lookup n == some .cell) = true
      · rw [if_pos hc, List.lookup_cons, hx]; exact look_free h
      · rw [if_neg hc, List.lookup_cons, hx]; exact look_free h
theorem Fits.blk {scope : Scope} (F : Fits W L R) (s : Shared) (H : Hp) (C : Addr) (cl : List (Str × Addr)) (fp : List Addr) (xe : Value → Shared → Prop) :
    Fits W (L.blk scope) { R with s_0 := s, H_0 := H, env := compEnvC scope cl C R.env, outer := R.stack, ex := fp, fn := fun x => scope.names.lookup x == some .cell, pn := [], xe := xe } := by
  have hsc : (compEnvC scope cl C R.env).scope = relS scope R.env.scope := rfl
  refine ⟨F.room, F.un, F.grd, F.calm, fun x hx => ?_, fun x hx => ?_, fun x hx => ?_, fun z => absurd (show false = true from z) Bool.false_ne_true, fun z => absurd (show false = true from z) Bool.false_ne_true, F.nd, fun z => absurd (show false = true from z) Bool.false_ne_true, fun z => absurd (show false = true from z) Bool.false_ne_true, fun z => absurd (show false = true from z) Bool.false_ne_true, fun z => absurd (show false = true from z) Bool.false_ne_true⟩
  · unfold visB at hx
    show Vis (relS scope R.env.scope) x
    split at hx
    · exact .inl (lookup_relS_keep (by decide) (by assumption))
    · exact .inr (.inl (lookup_relS_keep (by decide) (by assumption)))
    · rename_i h
      rcases look_free (sc := R.env.scope) h with q | q
      · exact .inr (.inr q)
      · exact .inr (.inl q)
    · cases hx
  · show (relS scope R.env.scope).names.lookup x = _
    exact lookup_relS_keep (by decide) hx
  · unfold locB at hx
    show Loc (relS scope R.env.scope) x ∧ _
    split at hx
    · exact ⟨.inl (lookup_relS_keep (by decide) (by assumption)), .inr (lookup_relS_keep (by decide) (by assumption))⟩
    · rename_i h
      refine ⟨.inr (lookup_relS_keep (by decide) h), .inl ?_⟩
      show (scope.names.lookup x == some .cell) = true
      have h : scope.names.lookup x = some .cell := h
      rw [h]; rfl
    · cases hx
def ifsT : List Expr → Prop
  | [] => True
  | _ => False
/-- the tests of a comprehension: none or one -/
inductive DIf (W : Wd) (L : Lv) : List Expr → FE → Prop
  | none : DIf W L [] tTrue
  | one {c : Expr} {t : FE} : DT W L c t → DIf W L [c] t
theorem DIf.pts (h : DIf W L ifs t) (F : Fits W L R) (hx : Takes (mkX W L.N R) (fun _ _ _ _ => False)) : PTs (mkX W L.N R) ifs (tT W (fun _ _ _ _ => False) t) := by
  cases h with
  | none =>
    refine ⟨fun pins s σ H Q I q => ?_⟩
    obtain ⟨ph, env, m, he, hs, o, e, p⟩ := q
    cases e
    obtain ⟨b, hb, p⟩ := p
    cases hb
    exact (pts_nil (X := mkX W L.N R)).run pins s σ H Q I (p H ph (.refl hs))
  | one h => exact pts_one (h R F _ hx)
theorem takes_no {X : Cx} : Takes X (fun _ _ _ _ => False) := fun u s' ⟨_, _, _, _, _, _, _, _, _, _, _, _, _, _, _, _, w⟩ => w.elim
theorem wipe_get (σ : L2.St) : ∀ (vs : List Nat) (i : Nat), (wipe σ vs)[i]? = if i ∈ vs then (σ[i]?).map fun _ => none else σ[i]?
  | [], i => by simp [L2.wipe]
  | v :: vs, i => by
    unfold L2.wipe
    have ih := wipe_get σ vs i
    by_cases hi : v = i
    · subst hi
      rw [if_pos (by simp)]
      by_cases hl : v < σ.length
      · rw [List.getElem?_set_self (by rw [wipe_length]; exact hl), List.getElem?_eq_getElem hl]; rfl
      · rw [List.getElem?_eq_none (by rw [List.length_set, wipe_length]; omega), List.getElem?_eq_none (show σ.length ≤ v by omega)]; rfl
    · rw [List.getElem?_set_ne hi, ih]
      by_cases hm : i ∈ vs
      · rw [if_pos hm, if_pos (List.mem_cons_of_mem _ hm)]
      · rw [if_neg hm, if_neg (fun z => (List.mem_cons.mp z).elim (fun q => hi q.symm) hm)]
theorem wipe_but {σ σ2 : L2.St} {vs : List Nat} (h : But vs (wipe σ vs) σ2) : wipe σ2 vs = wipe σ vs := by
  refine List.ext_getElem? fun i => ?_
  rw [wipe_get, wipe_get]
  have hl : σ2.length = σ.length := by rw [h.1, wipe_length]
  by_cases hm : i ∈ vs
  · rw [if_pos hm, if_pos hm]
    by_cases hi : i < σ.length
    · rw [List.getElem?_eq_getElem hi, List.getElem?_eq_getElem (by omega)]; rfl
    · rw [List.getElem?_eq_none (by omega), List.getElem?_eq_none (by omega)]
  · rw [if_neg hm, if_neg hm, h.2 i hm, wipe_get, if_neg hm]
theorem lcD_noexn : ∀ {ds : List D} {env : Nv} {m m' : Sto} {acc : List D} {c : Nat} {d : D}, lcD g t f env ds m acc = some (.exn c d m') → False
  | [], _, _, _, _, _, _, e => by cases e
  | d0 :: ds, env, m, m', acc, c, d, e => by
    unfold lcD at e
    split at e
    · rename_i env' _
      cases q : t env' m with
      | none => rw [q] at e; cases e
      | some r =>
        rw [q] at e
        cases r with
        | exn => cases e
        | ok c1 m1 =>
          rw [bndb_ok] at e
          split at e
          · cases q2 : f env' m1 with
            | none => rw [q2] at e; cases e
            | some r =>
              rw [q2] at e
              cases r with
              | exn => cases e
              | ok c2 m2 => exact lcD_noexn e
          · exact lcD_noexn e
          · cases e
    · cases e
theorem lcD_len : ∀ {ds : List D} {env : Nv} {m m' : Sto} {acc res : List D}, lcD g t f env ds m acc = some (.ok res m') → acc.length ≤ res.length
  | [], _, _, _, _, _, e => by
    unfold lcD at e
    cases e
    exact Nat.le_refl _
  | d0 :: ds, env, m, m', acc, res, e => by
    unfold lcD at e
    split at e
    · rename_i env' _
      cases q : t env' m with
      | none => rw [q] at e; cases e
      | some r =>
        rw [q] at e
        cases r with
        | exn => cases e
        | ok c1 m1 =>
          rw [bndb_ok] at e
          split at e
          · cases q2 : f env' m1 with
            | none => rw [q2] at e; cases e
            | some r =>
              rw [q2] at e
              cases r with
              | exn => cases e
              | ok c2 m2 =>
                have := lcD_len e
                rw [List.length_append] at this
                omega
          · exact lcD_len e
          · cases e
    · cases e
/-- between two turns of a comprehension: its list at D is no value's -/
structure LcInv (W : Wd) (ph1 : Plc) (H1 : Hp) (D : Addr) (ph2 : Plc) (H2 : Hp) (m2 : Sto) (acc : List PM.D) (vs : List V) : Prop where
  pre : ∃ ex, ph2.pl = ph1.pl ++ ex
  prv : ph2.pv = D :: ph1.pv
  keep : ∀ a o, H1 a = some o → ¬ a ∈ ph1.pl → H2 a = some o ∧ ¬ a ∈ ph2.pl
  new : ∀ a, a ∈ ph2.pl → a ∈ ph1.pl ∨ H1 a = none
  fre : ∀ a, (H1 a).isSome = true → (H2 a).isSome = true
  «at» : H2 D = some (.lst vs)
  nin : ¬ D ∈ ph2.pl
  sto : RelSto W ph2 H2 m2
  rep : RepL W ph2 H2 acc vs
  mov : Mov ph1 H1 ph2 H2
theorem LcInv.mem {D : Addr} {ph2 : Plc} {H2 : Hp} {m2 : Sto} {acc : List PM.D} {vs : List V} (K : LcInv W ph1 H1 D ph2 H2 m2 acc vs) : D ∈ ph2.pv := by rw [K.prv]; exact List.mem_cons_self
theorem LcInv.step {D : Addr} {ph2 ph3 : Plc} {H2 H3 : Hp} {m2 m3 : Sto} {acc : List PM.D} {vs : List V} (K : LcInv W ph1 H1 D ph2 H2 m2 acc vs) (s : Ste W ph2 H2 ph3 H3 m3) : LcInv W ph1 H1 D ph3 H3 m3 acc vs where
  pre := by
    obtain ⟨e1, q1⟩ := K.pre
    obtain ⟨e2, q2⟩ := s.pre
    exact ⟨e1 ++ e2, by rw [q2, q1, List.append_assoc]⟩
  prv := s.prv.trans K.prv
  keep := fun a o h n => s.stays1 (K.keep a o h n).1 (K.keep a o h n).2
  new := fun a h => by
    rcases s.new a h with h | h
    · exact K.new a h
    · cases q : H1 a with
      | none => exact .inr rfl
      | some o =>
        have := K.fre a (by rw [q]; rfl)
        rw [h] at this; cases this
  fre := fun a h => s.fre a (K.fre a h)
  «at» := (s.stays1 K.at K.nin).1
  nin := (s.stays1 K.at K.nin).2
  sto := s.sto
  rep := RepL.mono s _ _ K.rep
  mov := K.mov.trans s.mov
theorem LcInv.grow {D : Addr} {ph2 : Plc} {H2 : Hp} {m2 : Sto} {acc : List PM.D} {vs : List V} {y : PM.D} {v : V} (K : LcInv W ph1 H1 D ph2 H2 m2 acc vs) (r : Rep W ph2 H2 y v) (hD : H1 D = none := by assumption) : LcInv W ph1 H1 D ph2 (upd H2 D (.lst (vs ++ [v]))) m2 (acc ++ [y]) (vs ++ [v]) where
  pre := K.pre
  prv := K.prv
  keep := fun a o h n => ⟨by rw [upd_ne (ne_of_none h hD)]; exact (K.keep a o h n).1, (K.keep a o h n).2⟩
  new := K.new
  fre := fun a h => by
    unfold upd; split
    · rfl
    · exact K.fre a h
  «at» := upd_same
  nin := K.nin
  sto := K.sto.priv K.mem K.nin
  rep := RepL.move (.priv K.mem) _ _ (K.rep.append (.cons r .nil))
  mov := K.mov.trans (.priv K.mem)
theorem LcInv.hid {D : Addr} {ph2 : Plc} {H2 : Hp} {m2 : Sto} {acc : List PM.D} {vs : List V} (K : LcInv W ph1 H1 D ph2 H2 m2 acc vs) : ph2 = Plc.hide ⟨ph2.pl, ph1.pv⟩ D := by
  obtain ⟨a, b⟩ := ph2
  have := K.prv
  dsimp only at this
  rw [this]; rfl
theorem LcInv.ste {D : Addr} {ph2 : Plc} {H2 : Hp} {m2 : Sto} {acc : List PM.D} {vs : List V} (K : LcInv W ph1 H1 D ph2 H2 m2 acc vs) : Ste W ph1 H1 ⟨ph2.pl, ph1.pv⟩ H2 m2 where
  pre := K.pre
  prv := rfl
  keep := fun a o h n => (K.keep a o h n).1
  new := K.new
  fre := K.fre
  sto := by
    have := K.sto
    rw [K.hid] at this
    exact this.unhide
theorem LcInv.res {D : Addr} {ph2 : Plc} {H2 : Hp} {m2 : Sto} {acc : List PM.D} {vs : List V} (K : LcInv W ph1 H1 D ph2 H2 m2 acc vs) (hp : ¬ D ∈ ph1.pv := by assumption) : Rep W ⟨ph2.pl, ph1.pv⟩ H2 (.lst acc) (.ref D) := by
  refine ⟨D, vs, rfl, ⟨K.at, K.nin, hp⟩, ?_⟩
  have := K.rep
  rw [K.hid] at this
  exact RepL.move .unhide _ _ this
abbrev tgD (W : Wd) (is : List Nat) (g : FT) : TG := fun v σ H Q => ∃ ph env m d env', RelEnv W ph H env σ ∧ RelSto W ph H m ∧ Rep W ph H d v ∧ g d env m = some env' ∧ ∀ σ', RelEnv W ph H env' σ' → But is σ σ' → Q σ' H
theorem t_lc {own : List (Str × Nat)} {is : List Nat} (hv : ∀ i, i ∈ is → i ∈ own.map (·.2)) (h : tE W Wx (eLc (own.map (·.2)) it g t f) σ H Q) : tLc (tI W Wx it) (tgD W is g) (tT W (fun _ _ _ _ => False) t) (tE W (fun _ _ _ _ => False) f) (own.map (·.2)) σ H Q := by
  obtain ⟨ph, env, m, he, hs, h⟩ := h
  obtain ⟨o, e, p⟩ := h
  unfold eLc at e
  cases q : it env m with
  | none => rw [q] at e; cases e
  | some r =>
    rw [q] at e
    refine ⟨ph, env, m, r, he, hs, q, ?_⟩
    cases r with
    | exn c d m1 =>
      have e : some (Res.exn c d m1) = some o := e
      cases e
      exact p
    | ok ds w m1 =>
      cases w with
      | some w => cases e
      | none =>
      have e : bndl (lcD g t f (wipeN env (own.map (·.2))) ds m1 []) (fun acc m1 => if acc.length ≤ 100000 then some (.ok (.lst acc) m1) else none) = some o := e
      intro J H1 ph1 s1 hw1 hJ D hD
      have hDl : ¬ D ∈ ph1.pl := s1.sto.notin hD
      have hDp : ¬ D ∈ ph1.pv := s1.sto.nopv hD
      have he1 : RelEnv W (ph1.hide D) (upd H1 D (.lst [])) (wipeN env (own.map (·.2))) (wipe σ (own.map (·.2))) := ((he.mono s1).wipe).move (.hide hD)
      have hs1 : RelSto W (ph1.hide D) (upd H1 D (.lst [])) m1 := s1.sto.hide hD
      obtain ⟨res, mf, hL, hr⟩ : ∃ res mf, lcD g t f (wipeN env (own.map (·.2))) ds m1 [] = some (.ok res mf) ∧ res.length ≤ 100000 := by
        cases qL : lcD g t f (wipeN env (own.map (·.2))) ds m1 [] with
        | none => rw [qL] at e; cases e
        | some ol =>
          rw [qL] at e
          cases ol with
          | exn c d m2 => exact (lcD_noexn qL).elim
          | ok acc m2 =>
            refine ⟨acc, m2, rfl, ?_⟩
            rw [bndl_ok] at e
            split at e
            · assumption
            · cases e
      rw [hL, bndl_ok, if_pos hr] at e
      cases e
      refine ⟨fun i n H2 => n = ds.length - i ∧ i ≤ ds.length ∧ ∃ ph2 m2 acc vs, LcInv W ph1 H1 D ph2 H2 m2 acc vs ∧ RelEnv W ph2 H2 (wipeN env (own.map (·.2))) (wipe σ (own.map (·.2))) ∧
        lcD g t f (wipeN env (own.map (·.2))) (ds.drop i) m2 acc = some (.ok res mf), ⟨ds.length, by simp, Nat.zero_le _, ph1.hide D, m1, [], [], ?_, he1, by simpa using hL⟩, ?_⟩
      · exact ⟨⟨[], by simp [Plc.hide]⟩, rfl, fun a o e n => ⟨by rw [upd_ne (ne_of_none e hD)]; exact e, n⟩, fun a h => .inl h, fun a h => by
          unfold upd; split
          · rfl
          · exact h, upd_same, hDl, hs1, rfl, .hide hD⟩
      · rintro i n H2 ⟨rfl, hi, ph2, m2, acc, vs, K, he2, e2⟩
        by_cases hlt : i < ds.length
        · rw [List.drop_eq_getElem_cons hlt] at e2
          unfold lcD at e2
          obtain ⟨hgo, hy⟩ := (hJ ph2 H2 m2 K.mov K.sto trivial i).1 ds[i] (by simp [hlt])
          cases eg : g ds[i] (wipeN env (own.map (·.2))) m2 with
          | none => rw [eg] at e2; cases e2
          | some env3 =>
            rw [eg] at e2
            have e2 : bndb (t env3 m2) (fun c m1 => match truth c m1 with | some true => bndb (f env3 m1) fun x m2 => lcD g t f (wipeN env (own.map (·.2))) (ds.drop (i + 1)) m2 (acc ++ [x]) | some false => lcD g t f (wipeN env (own.map (·.2))) (ds.drop (i + 1)) m1 acc | none => none) = some (.ok res mf) := e2
            refine .inr ⟨hgo, fun H6 => ∃ ph6 m6 acc6 vs6, LcInv W ph1 H1 D ph6 H6 m6 acc6 vs6 ∧ RelEnv W ph6 H6 (wipeN env (own.map (·.2))) (wipe σ (own.map (·.2))) ∧ lcD g t f (wipeN env (own.map (·.2))) (ds.drop (i + 1)) m6 acc6 = some (.ok res mf),
              fun H6 h6 => ⟨ds.length - (i + 1), by omega, rfl, by omega, h6⟩, fun x H3 hyl => ?_⟩
            obtain ⟨s3, rx⟩ := hy x H3 hyl
            refine ⟨ph2, _, m2, ds[i], env3, he2.mono s3, s3.sto, rx, eg, fun σ3 he3 hb3 => ⟨wipe_but ⟨hb3.1, fun j hj => hb3.2 j fun z => hj (hv j z)⟩, ph2, env3, m2, he3, s3.sto, ?_⟩⟩
            cases et : t env3 m2 with
            | none => rw [et] at e2; cases e2
            | some rt =>
              rw [et] at e2
              cases rt with
              | exn c d m3 => cases e2
              | ok c m3 =>
                rw [bndb_ok] at e2
                refine ⟨_, rfl, ?_⟩
                cases ht : truth c m3 with
                | none => rw [ht] at e2; cases e2
                | some b =>
                  rw [ht] at e2
                  refine ⟨b, ht, fun H4 ph4 s4 => ?_⟩
                  have s34 := s3.trans s4
                  cases b with
                  | false =>
                    have e2 : lcD g t f (wipeN env (own.map (·.2))) (ds.drop (i + 1)) m3 acc = some (.ok res mf) := e2
                    exact ⟨ph4, m3, acc, vs, K.step s34, he2.mono s34, e2⟩
                  | true =>
                    have e2 : bndb (f env3 m3) (fun x m2 => lcD g t f (wipeN env (own.map (·.2))) (ds.drop (i + 1)) m2 (acc ++ [x])) = some (.ok res mf) := e2
                    cases ef : f env3 m3 with
                    | none => rw [ef] at e2; cases e2
                    | some rf =>
                      rw [ef] at e2
                      cases rf with
                      | exn c d m3 => cases e2
                      | ok y m5 =>
                        rw [bndb_ok] at e2
                        refine ⟨ph4, env3, m3, he3.mono s4, s4.sto, _, ef, fun v H5 ph5 s5 rv => ?_⟩
                        have s35 := s34.trans s5
                        have K5 := K.step s35
                        refine ⟨vs, K5.at, ?_, ph5, m5, acc ++ [y], vs ++ [v], K5.grow rv, (he2.mono s35).move (.priv K5.mem), e2⟩
                        have h1 := lcD_len e2
                        rw [List.length_append] at h1
                        have h2 := K5.rep.length
                        have h3 := line5
                        simp at h1
                        omega
        · have : i = ds.length := by omega
          subst this
          rw [List.drop_length] at e2
          have e2 : some (ResL.ok acc m2) = some (.ok res mf) := e2
          cases e2
          refine .inl ⟨(hJ ph2 H2 _ K.mov K.sto trivial ds.length).2 (Nat.le_refl _), ?_⟩
          exact p _ _ _ (s1.trans K.ste) K.res
theorem de_lc {scope : Scope} {own : List (Str × Nat)} {is : List Nat} (hi : DI W L tg e it) (hg : DG W (L.blk scope) tg is g) (ht : DIf W (L.blk scope) ifs t) (hf : DE W (L.blk scope) elt f) (ok : L.top = true → BlkOk L.N L.sc scope own) (hv : ∀ i, i ∈ is → i ∈ own.map (·.2) := by decide) (hc : L.calm = true := by rfl) (hp : L.top = true := by rfl)
    (hs : ∀ env x, foldedSetIterable e env x = pure x := by intro _ _; rfl) : DE W L (.ListComp elt [⟨tg, e, ifs, 0⟩] scope pos) (eLc (own.map (·.2)) it g t f) := by
  intro R F Wx tk
  have okB : BlkOk L.N R.env.scope scope own := by rw [F.scp hp]; exact ok hp
  exact PE.imp (pe_lc (X := mkX W L.N R) (F.calm hc) F.nd (hi R F Wx tk) okB (fun s H C cl fp => hg _ (F.blk s H C cl fp fun _ _ => False)) (fun s H C cl fp => ht.pts (F.blk s H C cl fp fun _ _ => False) takes_no) (fun s H C cl fp => hf _ (F.blk s H C cl fp fun _ _ => False) _ takes_no) (hs _)) fun σ H Q h => t_lc hv h
/-- x = [f for g in it if t] on one line -/
theorem ds_setLc {scope : Scope} {own : List (Str × Nat)} {is : List Nat} {i : Nat} {x : Str} {px spos : Pos} (hi : DI W L tg e it) (hg : DG W (L.blk scope) tg is g) (ht : DIf W (L.blk scope) ifs t) (hf : DE W (L.blk scope) elt f) (ok : L.top = true → BlkOk L.N L.sc scope own) (hx : L.N[i]? = some x := by rfl) (hl : L.sc.names.lookup x = some .local := by rfl)
    (hk : L.sc.kind = .function := by rfl) (hln : (px.line == pos.line) = true := by rfl) (hna : (scope.names.any fun (n, k) => n == x && (k == .local || k == .cell)) = false := by decide +kernel) (hv : ∀ i, i ∈ is → i ∈ own.map (·.2) := by decide) (hc : L.calm = true := by rfl) (hp : L.top = true := by rfl)
    (hs : ∀ env x, foldedSetIterable e env x = pure x := by intro _ _; rfl) : DS W L (.Assign [.Name x px] (.ListComp elt [⟨tg, e, ifs, 0⟩] scope pos) spos) (sSet i (eLc (own.map (·.2)) it g t f)) := by
  intro R F Wx tk
  have okB : BlkOk L.N R.env.scope scope own := by rw [F.scp hp]; exact ok hp
  refine PS.imp (ps_setLc (X := mkX W L.N R) (i := i) (F.calm hc) F.nd hx (F.lcl hp x hl) (sw_true (by rw [F.scp hp]; exact hk) (F.lcl hp x hl) hln hna) (hi R F Wx tk) okB (fun s H C cl fp => hg _ (F.blk s H C cl fp fun _ _ => False)) (fun s H C cl fp => ht.pts (F.blk s H C cl fp fun _ _ => False) takes_no) (fun s H C cl fp => hf _ (F.blk s H C cl fp fun _ _ => False) _ takes_no) (hs _)) fun Dn σ H h => ?_
  obtain ⟨ph, env, m, hv2, hs2, h⟩ := h
  refine t_lc hv (tE.mk hv2 hs2 ((tXS.bnds hs2 hv2 h).imp fun v1 H1 q => ?_))
  obtain ⟨ph1, m1, d1, s1, r1, o, e, p⟩ := q
  cases e
  exact p _ _ _ (.refl s1.sto) ((hv2.mono s1).set r1)
/-- a, b, c = x, y, z -/
theorem ds_par3 {i j l : Nat} {x y z : Str} {a b c : Expr} {fs : List FE} {px py pz pt spos : Pos} {kt k2 pt2} (hc : L.calm = true) (ha : DA W L [a, b, c] fs) (hi : L.N[i]? = some x := by rfl) (hj : L.N[j]? = some y := by rfl) (hl : L.N[l]? = some z := by rfl) (hij : i ≠ j := by decide) (hil : i ≠ l := by decide) (hjl : j ≠ l := by decide)
    (hx : L.sc.names.lookup x = some .local := by rfl) (hy : L.sc.names.lookup y = some .local := by rfl) (hz : L.sc.names.lookup z = some .local := by rfl) (ht : L.top = true := by rfl)
    (hw : ∀ env : PySem.Env, env.scope = L.sc → swappedStores [.Tuple [.Name x px, .Name y py, .Name z pz] kt pt] (.Tuple [a, b, c] k2 pt2) env = pure (some [x, y, z]) := by intro env h; unfold swappedStores Env.kindOf Env.blockKind; simp only [h]; rfl)
    (hs : ∀ env : PySem.Env, swapsWithSole [.Tuple [.Name x px, .Name y py, .Name z pz] kt pt] (.Tuple [a, b, c] k2 pt2) spos.line env = pure false := by intro _; rfl) :
    DS W L (.Assign [.Tuple [.Name x px, .Name y py, .Name z pz] kt pt] (.Tuple [a, b, c] k2 pt2) spos) (sPar [i, j, l] fs) := by
  intro R F Wx tk
  refine PS.imp (ps_par3 (X := mkX W L.N R) (F.calm hc) F.nd hi hj hl hij hil hjl (F.lcl ht x hx) (F.lcl ht y hy) (F.lcl ht z hz) (ha R F Wx tk) (hw _ (F.scp ht)) (hs _)) fun Dn σ H h => ?_
  obtain ⟨ph, env, m, hv, hs, o, e, p⟩ := h
  unfold sPar at e
  refine ⟨ph, env, m, hv, hs, ?_⟩
  cases q : evL fs env m with
  | none => rw [q] at e; cases e
  | some r =>
    rw [q] at e
    refine ⟨r, rfl, ?_⟩
    cases r with
    | exn c d m1 =>
      cases e
      exact fun dx x H' ph' s a b r => p σ dx x H' ph' s (hv.mono s) a b r
    | ok ds m1 =>
      intro vs H1 ph1 s1 r1
      simp only at e
      split at e
      · rename_i hl
        cases e
        match ds, hl, r1, p with
        | [d1, d2, d3], _, ⟨v1, _, e1, q1, v2, _, e2, q2, v3, _, e3, q3, e4⟩, p =>
          subst e4 e3 e2 e1
          exact ⟨v1, v2, v3, rfl, p _ H1 ph1 s1 ((((hv.mono s1).set q1).set q2).set q3)⟩
      · cases e
end
end PM

/-! PMC: calls of the text's own defs. -/
namespace PM
open PySem PySem.Spec L2 PyProof.Rows

/-- where a parameter's value comes from: a place, a keyword, its default -/
inductive Sel where
  | p (i : Nat) | k (j : Nat) | c (d : D) (v : V) (u : Value)
def selD (ds es : List D) : Sel → D
  | .p i => ds.getD i .non
  | .k j => es.getD j .non
  | .c d _ _ => d
def selV (ds es : List V) : Sel → V
  | .p i => ds.getD i .non
  | .k j => es.getD j .non
  | .c _ v _ => v
def selU (ds es : List Value) : Sel → Value
  | .p i => ds.getD i .none
  | .k j => es.getD j .none
  | .c _ _ u => u
/-- a default is the same in all three -/
def SelOk (W : Wd) (as : List Sel) : Prop := ∀ d v u, Sel.c d v u ∈ as → RelV v u ∧ ∀ ph H, Rep W ph H d v
structure CallB (W : Wd) (fd : FuncData) (ps : List Str) (np : Nat) (ks : List Str) (as : List Sel) : Prop where
  len : as.length = ps.length
  ok : SelOk W as
  to : ∀ (s : Shared) (us ws : List Value), W.K.In s.heap → us.length = np → ws.length = ks.length → BindsTo s fd ⟨us, ks.zip ws⟩ (ps.zip (as.map (selU us ws)))
structure Kn (W : Wd) (x : Str) (k : Nat) (f : Addr) (fd : FuncData) (ps : List Str) (F : FD) : Prop where
  at_ : W.mg x = some (.ref f)
  kp : PySem.W.keepIn W.K (.ref f) = true
  G : FnG W k f fd ps F
def eCall (F : FD) (fs : List FE) : FE := fun env m => bndl (evL fs env m) F
def eCallK (F : FD) (as : List Sel) (fs gs : List FE) : FE := fun env m => bndl (evL fs env m) fun ds m1 => bndl (evL gs env m1) fun es m2 => F (as.map (selD ds es)) m2
section
variable {W : Wd} {Wx : WX} {ph ph' ph1 : Plc} {H H' H1 : Hp} {m m' m1 : Sto} {σ σ' : L2.St} {env env' : Nv} {Q Q' : VK} {L : Lv} {R : Rst} {X : Cx} {e : Expr} {es : List Expr} {f : FE} {fs gs : List FE} {pos p : Pos} {x : Str} {k : Nat} {fa : Addr} {fd : FuncData} {ps ks : List Str} {F : FD} {as : List Sel} {kws : List Keyword}
theorem selVU {vs zs : List V} {us ws : List Value} (r : Vals vs us) (rz : Vals zs ws) : ∀ {as : List Sel}, (∀ d v u, Sel.c d v u ∈ as → RelV v u) → Vals (as.map (selV vs zs)) (as.map (selU us ws))
  | [], _ => .nil
  | a :: as, h => by
    refine .cons ?_ (selVU r rz fun d v u hm => h d v u (List.mem_cons_of_mem _ hm))
    have get : ∀ {vs : List V} {us : List Value} (i : Nat), Vals vs us → RelV (vs.getD i .non) (us.getD i .none) := fun {vs us} i r => by
      rw [List.getD_eq_getElem?_getD, List.getD_eq_getElem?_getD]
      cases q : vs[i]? with
      | none => rw [r.none_of q]; rfl
      | some v =>
        obtain ⟨u, hu, ru⟩ := r.get q
        rw [hu]; exact ru
    cases a with
    | p i => exact get i r
    | k j => exact get j rz
    | c d v u => exact h d v u List.mem_cons_self
theorem selDV {ds es : List D} {vs zs : List V} (r : RepL W ph H ds vs) (rz : RepL W ph H es zs) : ∀ {as : List Sel}, (∀ d v u, Sel.c d v u ∈ as → ∀ ph H, Rep W ph H d v) → RepL W ph H (as.map (selD ds es)) (as.map (selV vs zs))
  | [], _ => rfl
  | a :: as, h => by
    refine .cons ?_ (selDV r rz fun d v u hm => h d v u (List.mem_cons_of_mem _ hm))
    have get : ∀ {ds : List D} {vs : List V} (i : Nat), RepL W ph H ds vs → Rep W ph H (ds.getD i .non) (vs.getD i .non) := fun {ds vs} i r => by
      rw [List.getD_eq_getElem?_getD, List.getD_eq_getElem?_getD]
      cases q : ds[i]? with
      | none =>
        have hl := r.length
        rw [List.getElem?_eq_none (l := vs) (by have := List.getElem?_eq_none_iff.mp q; omega)]; rfl
      | some d =>
        obtain ⟨v, hv, rv⟩ := r.get q
        rw [hv]; exact rv
    cases a with
    | p i => exact get i r
    | k j => exact get j rz
    | c d v u => exact h d v u List.mem_cons_self ph H
/-- the callee runs -/
theorem run_G {pins : List (Addr × Obj)} {s : Shared} {us ws bs : List Value} {vs : List V} (G : FnG W k fa fd ps F) (hr : Room k R.A) (hg : R.A.guards = some W.gs) (tk : Takes (mkX W L.N R) Wx) (I : Inv (mkX W L.N R) pins σ H s)
    (hb : BindsTo s fd ⟨us, ks.zip ws⟩ (ps.zip bs)) (r : Vals vs bs) (h : spF W F vs H Q (WE Wx σ)) : wpAny (model W.P W.w) R.A (call (.ref fa) us (ks.zip ws)) (EP (mkX W L.N R) pins σ Q) R.xe s := by
  refine wpAny_call (codeAny_mono (G.run R.A R.stack s H ⟨us, ks.zip ws⟩ bs vs Q (WE Wx σ) hr hg I.env0 hb r h) fun r s' hq => ?_)
  match r, hq with
  | .error e, hq => exact passAt tk σ pins H s e s' I hq
  | .ok (.ret u), hq => exact I.after hq
  | .ok .next, hq => exact hq.elim
  | .ok .brk, hq => exact hq.elim
  | .ok .cont, hq => exact hq.elim
theorem RelV.len_vals {vs : List V} {us : List Value} (r : Vals vs us) : us.length = vs.length := (Paired.length r).symm
theorem spF_of {ds : List D} {vs : List V} (hs : RelSto W ph H m) (r : RepL W ph H ds vs) (h : tX W Wx (F ds m) ph σ H Q) : spF W F vs H Q (WE Wx σ) := by
  obtain ⟨o, e, p⟩ := h
  refine ⟨ph, m, ds, o, hs, r, e, ?_⟩
  cases o with
  | ok d m1 => exact p
  | exn c d m1 => exact p
/-- f(e, ..), every parameter by its place -/
theorem de_call (Kf : Kn W x k fa fd ps F) (hb : ∀ (s : Shared) (us : List Value), W.K.In s.heap → us.length = ps.length → BindsTo s fd ⟨us, []⟩ (ps.zip us)) (ha : DA W L (e :: es) fs) (hk : k ≤ L.k := by decide) (hcl : L.calm = true := by rfl) (hg : L.sc.names.lookup x = some .globalImplicit := by rfl)
    (hdb : (x == ("__debug__" : Str)) = false := by decide) (he : ∀ env, starEach (e :: es) env = (false, eval e env) :: starEach es env := by intro _; rfl) (hpl : ∀ env, (backTo pos (starEach es env)).any (·.1) = false := by intro _; rfl) :
    DE W L (.Call (.Name x p) (e :: es) [] pos) (eCall F fs) := by
  intro R Ft Wx tk
  refine ⟨fun pins s σ H Q I h => ?_⟩
  obtain ⟨ph, env, m, hv, hs, h⟩ := h
  have hA : tL W Wx fs σ H fun vs H1 => spF W F vs H1 Q (WE Wx σ) := by
    obtain ⟨r, e, p⟩ := tX.bndl hs h
    refine ⟨ph, env, m, hv, hs, r, e, ?_⟩
    cases r with
    | exn c d m1 => exact p
    | ok ds m1 =>
      intro vs H1 ph1 s1 r1
      obtain ⟨ph2, m2, ds2, s2, r2, h2⟩ := p vs H1 ph1 s1 r1
      exact spF_of s2.sto r2 h2
  refine wpAny_Call_Name_kw (ld_glob (X := mkX W L.N R) I (Ft.gl x hg) Kf.at_ ?_ hdb)
  refine PySem.W.callWith_K (h₀ := W.base) I.ok.mod.kin Kf.kp (thn ((ha R Ft Wx tk).run pos pins s σ H _ I hA) fun us s1 ⟨vs, H1, I1, r, q⟩ => ⟨I1.kIn, ?_⟩) (he _) (hpl _)
  obtain ⟨ph1, m1, ds, o, hs1, rep, eF, _⟩ := id q
  exact run_G (ks := []) (ws := []) (bs := us) Kf.G ((Ft.room hcl).mono hk) Ft.grd tk I1 (hb s1 us I1.kIn (by rw [RelV.len_vals r, ← rep.length]; exact Kf.G.len _ _ _ eF)) r q
/-- f() -/
theorem de_call0 (Kf : Kn W x k fa fd [] F) (hb : ∀ (s : Shared), W.K.In s.heap → BindsTo s fd ⟨[], []⟩ []) (hk : k ≤ L.k := by decide) (hcl : L.calm = true := by rfl) (hg : L.sc.names.lookup x = some .globalImplicit := by rfl)
    (hdb : (x == ("__debug__" : Str)) = false := by decide) : DE W L (.Call (.Name x p) [] [] pos) (eCall F []) := by
  intro R Ft Wx tk
  refine ⟨fun pins s σ H Q I h => ?_⟩
  obtain ⟨ph, env, m, hv, hs, h⟩ := h
  refine wpAny_Call_Name_kw (ld_glob (X := mkX W L.N R) I (Ft.gl x hg) Kf.at_ ?_ hdb)
  refine PySem.W.callWith_K0 I.kIn Kf.kp ?_
  exact run_G (us := []) (ks := []) (ws := []) (bs := []) (vs := []) Kf.G ((Ft.room hcl).mono hk) Ft.grd tk I (hb s I.kIn) .nil (spF_of (ds := []) hs rfl h)
/-! ### keywords -/
def DK (W : Wd) (L : Lv) (kws : List Keyword) (fs : List FE) : Prop := ∀ R, Fits W L R → ∀ Wx : WX, Takes (mkX W L.N R) Wx → PK (mkX W L.N R) kws (tL W Wx fs)
theorem PK.imp {t t' : TA} (h : PK X kws t) (hi : ∀ σ H Q, t' σ H Q → t σ H Q) : PK X kws t' := ⟨fun pos pins s σ H Q I q => h.run pos pins s σ H Q I (hi σ H Q q)⟩
theorem dk_nil : DK W L [] [] := by
  intro R Ft Wx tk
  refine PK.imp pk_nil fun σ H Q h => ?_
  obtain ⟨ph, env, m, he, hs, o, e, p⟩ := h
  cases e
  exact p [] H ph (.refl hs) rfl
theorem dk_cons {nm : Option Str} {kpos : Pos} (ha : DE W L e f) (hr : DK W L kws fs) : DK W L (⟨nm, e, kpos⟩ :: kws) (f :: fs) := by
  intro R Ft Wx tk
  refine PK.imp (pk_cons (ha R Ft Wx tk) (hr R Ft Wx tk)) fun σ H Q h => ?_
  obtain ⟨ph, env, m, he, hs, o, e, p⟩ := h
  show tE W Wx f σ H fun x H1 => tL W Wx fs σ H1 fun xs H2 => Q (x :: xs) H2
  rw [evL_cons] at e
  refine tE.mk he hs ?_
  cases hf : f env m with
  | none => rw [hf] at e; cases e
  | some r =>
    rw [hf] at e
    cases r with
    | exn c d m1 =>
      have e : some (ResL.exn c d m1) = some o := e
      cases e
      exact ⟨_, rfl, p⟩
    | ok d m1 =>
      rw [bndc_ok] at e
      refine ⟨_, rfl, fun v H1 ph1 s1 r1 => ⟨ph1, env, m1, he.mono s1, s1.sto, ?_⟩⟩
      cases hf2 : evL fs env m1 with
      | none => rw [hf2] at e; cases e
      | some r =>
        rw [hf2] at e
        refine ⟨r, rfl, ?_⟩
        cases r with
        | exn c d m2 =>
          have e : some (ResL.exn c d m2) = some o := e
          cases e
          exact p.later s1
        | ok ds m2 =>
          cases e
          exact fun vs H2 ph2 s2 r2 => p _ H2 ph2 (s1.trans s2) (.cons (Rep.mono s2 d v r1) r2)
theorem evL_len : ∀ {fs : List FE} {env : Nv} {m m' : Sto} {ds : List D}, evL fs env m = some (.ok ds m') → ds.length = fs.length
  | [], _, _, _, _, e => by cases e; rfl
  | f :: fs, env, m, m', ds, e => by
    rw [evL_cons] at e
    cases q : f env m with
    | none => rw [q] at e; cases e
    | some r =>
      rw [q] at e
      cases r with
      | exn => cases e
      | ok d m1 =>
        rw [bndc_ok] at e
        cases q2 : evL fs env m1 with
        | none => rw [q2] at e; cases e
        | some r2 =>
          rw [q2] at e
          cases r2 with
          | exn => cases e
          | ok es m2 =>
            cases e
            rw [List.length_cons, List.length_cons, evL_len q2]
/-- positional ones, then keywords, then the call -/
theorem t_callK (h : tE W Wx (eCallK F as fs gs) σ H Q) : tL W Wx fs σ H fun vs H1 => tL W Wx gs σ H1 fun zs H2 => ∃ ph2 m2 ds es, ds.length = fs.length ∧ es.length = gs.length ∧ RelSto W ph2 H2 m2 ∧ RepL W ph2 H2 ds vs ∧ RepL W ph2 H2 es zs ∧ tX W Wx (F (as.map (selD ds es)) m2) ph2 σ H2 Q := by
  obtain ⟨ph, env, m, hv, hs, h⟩ := h
  obtain ⟨r, e, p⟩ := tX.bndl hs h
  refine ⟨ph, env, m, hv, hs, r, e, ?_⟩
  cases r with
  | exn c d m1 => exact p
  | ok ds m1 =>
    intro vs H1 ph1 s1 r1
    have hl := evL_len e
    obtain ⟨o, eo, po⟩ := h
    unfold eCallK at eo
    rw [e, bndl_ok] at eo
    have h2 : tX W Wx (bndl (evL gs env m1) fun es m2 => F (as.map (selD ds es)) m2) ph1 σ H1 Q := ⟨o, eo, po.later s1⟩
    obtain ⟨r2, e2, p2⟩ := tX.bndl s1.sto h2
    refine ⟨ph1, env, m1, hv.mono s1, s1.sto, r2, e2, ?_⟩
    cases r2 with
    | exn c d m2 => exact p2
    | ok es m2 =>
      intro zs H2 ph2 s2 r2
      have hl2 := evL_len e2
      rw [e2, bndl_ok] at eo
      exact ⟨ph2, m2, ds, es, hl, hl2, s2.sto, RepL.mono s2 _ _ r1, r2, o, eo, po.later (s1.trans s2)⟩
theorem de_callK (Kf : Kn W x k fa fd ps F) (hb : CallB W fd ps fs.length ks as) (ha : DA W L (e :: es) fs) (hkw : DK W L kws gs) (hkl : ks.length = gs.length := by rfl) (hk : k ≤ L.k := by decide) (hcl : L.calm = true := by rfl) (hg : L.sc.names.lookup x = some .globalImplicit := by rfl)
    (hall : ∀ env, (backToKw pos (keywordEach kws env)).all (·.1.isSome) = true := by intro _; rfl) (hks : ∀ env, (backToKw pos (keywordEach kws env)).filterMap (·.1) = ks := by intro _; rfl)
    (hdb : (x == ("__debug__" : Str)) = false := by decide) (he : ∀ env, starEach (e :: es) env = (false, eval e env) :: starEach es env := by intro _; rfl)
    (hpl : ∀ env, ((backTo pos (starEach (e :: es) env)).any (·.1) || (backToKw pos (keywordEach kws env)).any (·.1.isNone)) = false := by intro _; rfl) :
    DE W L (.Call (.Name x p) (e :: es) kws pos) (eCallK F as fs gs) := by
  intro R Ft Wx tk
  refine ⟨fun pins s σ H Q I h => ?_⟩
  refine wpAny_Call_Name_kw (ld_glob (X := mkX W L.N R) I (Ft.gl x hg) Kf.at_ ?_ hdb)
  refine PySem.W.callWith_KW (h₀ := W.base) I.ok.mod.kin Kf.kp (hall _) (thn ((ha R Ft Wx tk).run pos pins s σ H _ I (t_callK h)) fun us s1 ⟨vs, H1, I1, r, q⟩ => ?_) (hpl _) (he _)
  refine thn ((hkw R Ft Wx tk).run pos pins s1 σ H1 _ I1 q) fun ws s2 ⟨zs, H2, I2, rz, q2⟩ => ⟨I2.kIn, ?_⟩
  rw [hks]
  obtain ⟨ph2, m2, ds, es', l1, l2, hs2, r1, r2, h2⟩ := q2
  exact run_G (bs := as.map (selU us ws)) (vs := as.map (selV vs zs)) Kf.G ((Ft.room hcl).mono hk) Ft.grd tk I2 (hb.to s2 us ws I2.kIn (by rw [RelV.len_vals r, ← r1.length, l1]) (by rw [RelV.len_vals rz, ← r2.length, l2, hkl]))
    (selVU r rz fun d v u hm => (hb.ok d v u hm).1) (spF_of hs2 (selDV r1 r2 fun d v u hm => (hb.ok d v u hm).2) h2)
/-- keywords alone -/
theorem de_callK0 (Kf : Kn W x k fa fd ps F) (hb : CallB W fd ps 0 ks as) (hkw : DK W L kws gs) (hkl : ks.length = gs.length := by rfl) (hk : k ≤ L.k := by decide) (hcl : L.calm = true := by rfl) (hg : L.sc.names.lookup x = some .globalImplicit := by rfl)
    (hall : ∀ env, (backToKw pos (keywordEach kws env)).all (·.1.isSome) = true := by intro _; rfl) (hks : ∀ env, (backToKw pos (keywordEach kws env)).filterMap (·.1) = ks := by intro _; rfl)
    (hdb : (x == ("__debug__" : Str)) = false := by decide) (hpl : ∀ env, ((backTo pos (starEach [] env)).any (·.1) || (backToKw pos (keywordEach kws env)).any (·.1.isNone)) = false := by intro _; rfl) :
    DE W L (.Call (.Name x p) [] kws pos) (eCallK F as [] gs) := by
  intro R Ft Wx tk
  refine ⟨fun pins s σ H Q I h => ?_⟩
  refine wpAny_Call_Name_kw (ld_glob (X := mkX W L.N R) I (Ft.gl x hg) Kf.at_ ?_ hdb)
  have hA := (da_nil (W := W) (L := L) R Ft Wx tk).run pos pins s σ H _ I (t_callK h)
  refine PySem.W.callWith_KW0 (h₀ := W.base) I.ok.mod.kin Kf.kp (hall _) ?_ (hpl _)
  obtain ⟨ph, env, m, hv, hs, o, e, pp⟩ := t_callK h
  cases e
  have q := pp [] H ph (.refl hs) rfl
  refine thn ((hkw R Ft Wx tk).run pos pins s σ H _ I q) fun ws s2 ⟨zs, H2, I2, rz, q2⟩ => ⟨I2.kIn, ?_⟩
  rw [hks]
  obtain ⟨ph2, m2, ds, es', l1, l2, hs2, r1, r2, h2⟩ := q2
  exact run_G (us := []) (bs := as.map (selU [] ws)) (vs := as.map (selV [] zs)) Kf.G ((Ft.room hcl).mono hk) Ft.grd tk I2 (hb.to s2 [] ws I2.kIn rfl (by rw [RelV.len_vals rz, ← r2.length, l2, hkl]))
    (selVU .nil rz fun d v u hm => (hb.ok d v u hm).1) (spF_of hs2 (selDV r1 r2 fun d v u hm => (hb.ok d v u hm).2) h2)
end
end PM

/-! PMQ7: enumerate over a tuple (the kit has it over lists and texts). Printed by turning the kit's list lemmas to tuples. -/
namespace PySem
open Sem (wp)
open AutoSeq1 (wpAny_loadPart')

theorem tq_meets (l : Addr) (items : Array Value) (n : Nat) (dct : Option Addr) (sl : Array (Option Value)) :
    Meets (Builtin.«enumerate.__new__» ⟨[.type "enumerate", .ref l], []⟩) (fun _ R s => s.heap.get? l = some { cls := .type "tuple", dict := dct, data := .seq items n, slots := sl } ∧
      R (.ok (.ret (.ref (s.heap.push { cls := .type "tuple_iterator", data := .fields #[.ref l, .int 0 0] }).objs.size)))
        { s with heap := (s.heap.push { cls := .type "tuple_iterator", data := .fields #[.ref l, .int 0 0] }).push { cls := .type "enumerate", data := .fields #[.none, .bool false, .ref s.heap.objs.size, rawInt 0, .none, .none] } }) :=
  .of_wp fun prog w A R s h => by
    obtain ⟨hp, g, d, tk, os⟩ := s; obtain ⟨hl, h⟩ := h
    have hsub := sub_enumerate
    have hL : Heap.IsTuple (Shared.heap ⟨hp, g, d, tk, os⟩) l items := ⟨_, hl, rfl, n, rfl⟩
    wp_walk using wpAny_loadPart' hl
    refine wpAny_stack_any fun st => wpAny_pure ?_
    split
    · rename_i c _ _ _ _ _
      cases (c == Value.type "enumerate")
      · wp_walk using wpAny_loadPart' hl, wpAny_pyIter_tuple hL
        exact ⟨_, rfl, h⟩
      · wp_walk using wpAny_loadPart' hl, wpAny_pyIter_tuple hL
        exact ⟨_, rfl, h⟩
    · wp_walk using wpAny_loadPart' hl, wpAny_pyIter_tuple hL
      exact ⟨_, rfl, h⟩


section
variable {prog : Program} {w : World} {A : Around} {E : Value → Shared → Prop} {s : Shared}

theorem tq_call {l : Addr} {items : Array Value} {Q : Value → Shared → Prop} (hL : s.heap.IsTuple l items)
    (h : ∀ h', IsEnum h' (s.heap.objs.size + 1) s.heap.objs.size 0 .none → h'.IsTupleIter s.heap.objs.size l 0 → h'.objs.size = s.heap.objs.size + 2 →
      (∀ b o, s.heap.get? b = some o → h'.get? b = some o) → Q (.ref (s.heap.objs.size + 1)) { s with heap := h' }) :
    wpAny (model prog w) A (call (.type "enumerate") [.ref l]) Q E s := by
  obtain ⟨⟨c, dct, dt, sl⟩, hl, hc, n, hd⟩ := hL
  replace hc : c = .type "tuple" := hc
  replace hd : dt = .seq items n := hd
  subst hc hd
  refine callType_new F.called_enumerate (by decide) (F.typeCall_enumerate_1 _) (F.newCall_enumerate_1 _) (fun obj => F.args_object_init_2 obj _) F.entry_enumerate_new
    (tq_meets l items n dct sl) ⟨hl, ?_⟩
  have hz : (s.heap.push { cls := .type "tuple_iterator", data := .fields #[.ref l, .int 0 0] }).objs.size = s.heap.objs.size + 1 := Heap.size_push ..
  show _ ∧ _
  rw [hz]
  have he : IsEnum ((s.heap.push { cls := .type "tuple_iterator", data := .fields #[.ref l, .int 0 0] }).push
      { cls := .type "enumerate", data := .fields #[.none, .bool false, .ref s.heap.objs.size, rawInt 0, .none, .none] }) (s.heap.objs.size + 1) s.heap.objs.size 0 .none := by
    have := Heap.get?_push_size (s.heap.push { cls := .type "tuple_iterator", data := .fields #[.ref l, .int 0 0] })
      (o := { cls := .type "enumerate", data := .fields #[.none, .bool false, .ref s.heap.objs.size, rawInt 0, .none, .none] }) rfl
    rw [hz] at this; exact this
  refine ⟨⟨_, he, rfl⟩, h _ he ⟨_, Heap.get?_push_of_some _ (Heap.get?_push_size _ rfl), rfl, rfl⟩ (by rw [Heap.size_push, hz]) fun b o x => Heap.get?_push_of_some _ (Heap.get?_push_of_some _ x)⟩


theorem tq_next_item {e it l : Addr} {i : Nat} {items : Array Value} {x old : Value} {Q : Value → Shared → Prop}
    (he : IsEnum s.heap e it i old) (hit : s.heap.IsTupleIter it l i) (hl : s.heap.IsTuple l items) (hx : items[i]? = some x) (hne : e ≠ it)
    (hQ : ∀ h', IsEnumOut h' e it ((i : Int) + 1) x s.heap.objs.size → h'.IsTupleIter it l (i + 1) →
      h'.get? s.heap.objs.size = some { cls := .type "tuple", data := .seq #[.int i s.toks, x] } → h'.objs.size = s.heap.objs.size + 1 →
      (∀ b o, b ≠ e → b ≠ it → s.heap.get? b = some o → h'.get? b = some o) → Q (.ref s.heap.objs.size) { s with heap := h', toks := s.toks + 1 }) :
    wpAny (model prog w) A (Builtin.«enumerate.__next__» ⟨[.ref e], []⟩) (fun fin s' => ∃ v, fin = .done (.ret v) ∧ Q v s') E s := by
  obtain ⟨hp, g, d, tk, os⟩ := s
  show wpAny _ _ (field (.ref e) 2 >>= _) _ _ _
  refine wpAny_bind (wpAny_field he rfl (x := .ref it) rfl ?_)
  refine wpAny_bind (RZ.nextOf_tuple_item hit hl hx fun h₁ hit₁ hs₁ => ?_)
  replace hs₁ : Heap.SameBut it hp h₁ := hs₁
  have he₁ : IsEnum h₁ e it i old := (hs₁.2 e hne).trans he
  show wpAny _ _ (field (.ref e) 3 >>= _) _ _ ⟨h₁, g, d, tk, os⟩
  refine wpAny_bind (wpAny_field he₁ rfl (x := rawInt i) rfl ?_)
  show wpAny _ _ (field (.ref e) 4 >>= _) _ _ ⟨h₁, g, d, tk, os⟩
  refine wpAny_bind (wpAny_field he₁ rfl (x := .none) rfl ?_)
  show wpAny _ _ (mkInt i >>= _) _ _ ⟨h₁, g, d, tk, os⟩
  refine wpAny_bind (wpAny_mkInt ?_)
  show wpAny _ _ (setField (.ref e) 3 (rawInt ((i : Int) + 1)) >>= _) _ _ ⟨h₁, g, d, tk + 1, os⟩
  refine wpAny_bind (wpAny_setField_rec he₁ (by simp) fun h₂ he₂ hs₂ => ?_)
  replace hs₂ : Heap.SameBut e h₁ h₂ := hs₂
  replace he₂ : IsEnum h₂ e it ((i : Int) + 1) old := he₂
  show wpAny _ _ (setField (.ref e) 4 .none >>= _) _ _ ⟨h₂, g, d, tk + 1, os⟩
  refine wpAny_bind (wpAny_setField_rec he₂ (by simp) fun h₃ he₃ hs₃ => ?_)
  replace hs₃ : Heap.SameBut e h₂ h₃ := hs₃
  replace he₃ : IsEnum h₃ e it ((i : Int) + 1) old := he₃
  show wpAny _ _ (newTuple [.int i tk, x] >>= _) _ _ ⟨h₃, g, d, tk + 1, os⟩
  refine wpAny_bind (wpAny_newTuple ?_)
  have he₄ : IsEnum (h₃.push { cls := .type "tuple", data := .seq #[.int i tk, x] }) e it ((i : Int) + 1) old := Heap.get?_push_of_some _ he₃
  generalize hh₄ : h₃.push { cls := .type "tuple", data := .seq #[.int i tk, x] } = h₄ at he₄
  have hsz : h₃.objs.size = hp.objs.size := by rw [hs₃.1, hs₂.1, hs₁.1]
  have hel : e < hp.objs.size := Heap.lt_size he
  have ht₄ : h₄.get? hp.objs.size = some { cls := .type "tuple", data := .seq #[.int i tk, x] } := by rw [← hh₄, ← hsz]; exact Heap.get?_push_size _ rfl
  have hz₄ : h₄.objs.size = hp.objs.size + 1 := by rw [← hh₄, Heap.size_push, hsz]
  have hk₄ : ∀ b o, b ≠ e → b ≠ it → hp.get? b = some o → h₄.get? b = some o := fun b o hbe hbi hb => by
    rw [← hh₄]; exact Heap.get?_push_of_some _ (hs₃.extBut b o hbe (hs₂.extBut b o hbe (hs₁.extBut b o hbi hb)))
  have hit₄ : h₄.IsTupleIter it l (i + 1) := by
    rw [← hh₄]; obtain ⟨o, ho, r⟩ := (hit₁.extBut hs₂.extBut (Ne.symm hne)).extBut hs₃.extBut (Ne.symm hne); exact ⟨o, Heap.get?_push_of_some _ ho, r⟩
  show wpAny _ _ (Builtin.SmallTypes.ownedTupleIsFree (.ref e) >>= _) _ _ ⟨h₄, g, d, tk + 1, os⟩
  rw [hsz]
  clear hh₄ he₃ hs₃ he₂ hs₂ he₁ hs₁ hit₁ hsz h₃ h₂ h₁
  refine wpAny_bind ?_
  · unfold Builtin.SmallTypes.ownedTupleIsFree
    refine wpAny_bind (wpAny_field he₄ rfl (x := .none) rfl (wpAny_pure ?_))
    simp only [if_true]
    refine wpAny_bind (wpAny_rule ?_)
    refine wpAny_bind (wpAny_field he₄ rfl (x := old) rfl ?_)
    refine wpAny_bind (wpAny_setField_rec he₄ (by simp) fun h₅ he₅ hs₅ => ?_)
    replace hs₅ : Heap.SameBut e h₄ h₅ := hs₅
    replace he₅ : IsEnum h₅ e it ((i : Int) + 1) x := he₅
    show wpAny _ _ (Builtin.SmallTypes.ownedTupleHandOut (.ref e) (.ref hp.objs.size) >>= _) _ _ ⟨h₅, g, d, tk + 1, os⟩
    refine wpAny_bind ?_
    · unfold Builtin.SmallTypes.ownedTupleHandOut
      refine wpAny_bind (wpAny_setField_rec he₅ (by simp) fun h₆ he₆ hs₆ => ?_)
      replace hs₆ : Heap.SameBut e h₅ h₆ := hs₆
      replace he₆ : IsEnumOut h₆ e it ((i : Int) + 1) x hp.objs.size := he₆
      refine wpAny_setField_rec he₆ (by simp) fun h₇ he₇ hs₇ => ?_
      replace hs₇ : Heap.SameBut e h₆ h₇ := hs₇
      replace he₇ : IsEnumOut h₇ e it ((i : Int) + 1) x hp.objs.size := he₇
      refine wpAny_bind (wpAny_letGo (wpAny_pure ⟨_, rfl, hQ h₇ he₇ ?_ ?_ ?_ ?_⟩))
      · exact ((hit₄.extBut hs₅.extBut (Ne.symm hne)).extBut hs₆.extBut (Ne.symm hne)).extBut hs₇.extBut (Ne.symm hne)
      · exact hs₇.extBut _ _ (Nat.ne_of_gt hel) (hs₆.extBut _ _ (Nat.ne_of_gt hel) (hs₅.extBut _ _ (Nat.ne_of_gt hel) ht₄))
      · rw [hs₇.1, hs₆.1, hs₅.1, hz₄]
      · exact fun b o hbe hbi hb => hs₇.extBut b o hbe (hs₆.extBut b o hbe (hs₅.extBut b o hbe (hk₄ b o hbe hbi hb)))

theorem tq_pyNext_item {e it l : Addr} {i : Nat} {items : Array Value} {x old : Value} {Q : Option Value → Shared → Prop}
    (he : IsEnum s.heap e it i old) (hit : s.heap.IsTupleIter it l i) (hl : s.heap.IsTuple l items) (hx : items[i]? = some x) (hne : e ≠ it)
    (hQ : ∀ h', IsEnumOut h' e it ((i : Int) + 1) x s.heap.objs.size → h'.IsTupleIter it l (i + 1) →
      h'.get? s.heap.objs.size = some { cls := .type "tuple", data := .seq #[.int i s.toks, x] } → h'.objs.size = s.heap.objs.size + 1 →
      (∀ b o, b ≠ e → b ≠ it → s.heap.get? b = some o → h'.get? b = some o) → Q (some (.ref s.heap.objs.size)) { s with heap := h', toks := s.toks + 1 }) :
    wpAny (model prog w) A (pyNext (.ref e)) Q E s := by
  have hT : s.TypeIs (.ref e) "enumerate" := ⟨_, he, rfl⟩
  unfold pyNext
  exact wpAny_bind (wpAny_attempt (wpAny_callSpecial?_slot (name := Str.ofString "__next__") hT F.slot_enumerate_next
    (wpAny_call_entry F.slot_enumerate_next hT F.entry_enumerate_next
      (tq_next_item he hit hl hx hne fun h' a b c d k => wpAny_pure (hQ h' a b c d k)) (F.args_enumerate_next_1 _))))

theorem tq_pyNext_end {e it l : Addr} {i : Nat} {items : Array Value} {old : Value} {Q : Option Value → Shared → Prop} (hh : A.handled = none)
    (he : IsEnum s.heap e it i old) (hit : s.heap.IsTupleIter it l i) (hl : s.heap.IsTuple l items) (hx : items[i]? = none)
    (hQ : ∀ h', Heap.ExtBut it s.heap h' → Q none { s with heap := h' }) : wpAny (model prog w) A (pyNext (.ref e)) Q E s := by
  have hT : s.TypeIs (.ref e) "enumerate" := ⟨_, he, rfl⟩
  unfold pyNext
  refine wpAny_bind (wpAny_attempt (wpAny_callSpecial?_slot (name := Str.ofString "__next__") hT F.slot_enumerate_next
    (wpAny_call_entry F.slot_enumerate_next hT F.entry_enumerate_next ?_ (F.args_enumerate_next_1 _))))
  show wpAny _ _ (field (.ref e) 2 >>= _) _ _ _
  refine wpAny_bind (wpAny_field he rfl (x := .ref it) rfl ?_)
  refine wpAny_bind (RZ.nextOf_tuple_end hh hit hl hx fun h' x he' hx' => ?_)
  obtain ⟨o, ho, hc⟩ := hx'
  refine wpAny_bind (wpAny_isInstance (T := "StopIteration") (b := true) ⟨o, ho, hc⟩ isSubtype_stop ?_)
  exact wpAny_pure (hQ _ he')

end
end PySem

namespace L2
open PySem PySem.Spec PyProof.Rows
section

def ItQ (K : PySem.W.Frag) (a : Addr) : It :=
  ⟨fun i H => ∃ (xs : List V) (x : V), SqT K H a xs ∧ xs[i]? = some x, fun i H v H' => ∃ T x, v = .ref T ∧ H T = none ∧ H' = upd H T (.tup [.int (i : Nat), x]) ∧ ∀ xs, SqT K H a xs → xs[i]? = some x, fun i H => ∃ xs : List V, SqT K H a xs ∧ xs.length ≤ i⟩
theorem tq_turn {P : Program} {w : World} {K : PySem.W.Frag} {elts : List Expr} {kk : Nat} {tpos : Pos} (a e it : Addr) :
    Turn P w K (.Tuple elts kk tpos) (ItQ K a) [e, it] e (fun i h => (∃ old, IsEnum h e it ((i : Nat) : Int) old) ∧ h.IsTupleIter it a i ∧ e ≠ it) where
  mem := by simp
  obj := fun i h st b hb => by
    obtain ⟨⟨old, he⟩, ⟨o, ho, hc, hd⟩, _⟩ := st
    have e' : b = e ∨ b = it := by simpa using hb
    rcases e' with z | z
    · rw [z]; exact ⟨_, he, fun v q => nomatch q⟩
    · rw [z]; exact ⟨o, ho, fun v q => by rw [hd] at q; cases q⟩
  keep := fun i h h' st k => let ⟨⟨old, he⟩, hi, hne⟩ := st; ⟨⟨old, k e (by simp) _ he⟩, hi.at fun o q => k it (by simp) o q, hne⟩
  item := by
    intro X hP hw hK hc i pins s σ H E I hf st hg
    subst hP hw hK
    obtain ⟨⟨old, he⟩, hit, hne⟩ := st
    obtain ⟨xs, x, hq, hx⟩ := hg
    obtain ⟨its, rv, p, hz⟩ := I.tuple hq
    obtain ⟨u, hu, ru⟩ := rv.get hx
    have hel : e < s.heap.objs.size := Heap.lt_size he
    have hil : it < s.heap.objs.size := by obtain ⟨_, q, _⟩ := hit; exact Heap.lt_size q
    refine tq_pyNext_item he hit p (x := u) (by simpa using hu) hne fun h' ho hit' hT hsz hk => ?_
    refine ⟨_, rfl, wpAny_letOwnedTupleGo_enum (s := { s with heap := h', toks := s.toks + 1 }) ho fun h'' he' sb => ?_⟩
    have hT2 : h''.get? s.heap.objs.size = some { cls := .type "tuple", data := .seq #[.int i s.toks, u] } := (sb.2 _ (Nat.ne_of_gt hel)).trans hT
    have new : ObjOk X.prog X.w (upd H s.heap.objs.size (.tup [.int (i : Nat), x])) h'' s.heap.objs.size (.tup [.int (i : Nat), x]) :=
      ⟨by show 2 ≤ sizeLine; decide, [.int i s.toks, u], .cons ⟨_, rfl⟩ (.cons ru .nil), ⟨_, hT2, rfl, _, rfl⟩⟩
    have I1 : Inv X pins σ (upd H s.heap.objs.size (.tup [.int (i : Nat), x])) { s with heap := h'', toks := s.toks + 1 } :=
      I.turnedNew (ch := [e, it]) (fun b ob hb q => (sb.2 b (fun z => hb (by simp [z]))).trans (hk b ob (fun z => hb (by simp [z])) (fun z => hb (by simp [z])) q)) hf (Nat.le_refl _) new
    refine ⟨.ref s.heap.objs.size, _, I1, rfl, ⟨_, x, rfl, I.hok.fresh (Nat.le_refl _), rfl, fun ys hy => by rw [I.tuple_inj hy hq]; exact hx⟩, ⟨⟨u, ?_⟩, hit'.at fun o q => (sb.2 it (Ne.symm hne)).trans q, hne⟩, fun b hb => ?_⟩
    · have e1 : ((i + 1 : Nat) : Int) = (i : Int) + 1 := by omega
      rw [e1]; exact he'
    · have hb' : b < s.heap.objs.size := by
        have e' : b = e ∨ b = it := by simpa using hb
        rcases e' with z | z
        · rw [z]; exact hel
        · rw [z]; exact hil
      rw [upd_ne (Nat.ne_of_lt hb')]
      exact (hf b hb).1
  done := by
    intro X hP hw hK hc i pins s σ H E I hf st hg
    subst hP hw hK
    obtain ⟨⟨old, he⟩, hit, hne⟩ := st
    obtain ⟨xs, hq, hx⟩ := hg
    obtain ⟨its, rv, p, hz⟩ := I.tuple hq
    obtain ⟨f0, f1, f2, f3, f4, f5⟩ := hf it (by simp)
    have hl := rv.length
    exact tq_pyNext_end (I.ok.hd hc) he hit p (by simp; omega) fun h' eb => ⟨rfl, I.turned (t' := s.toks) (fun b o hb q => eb b o hb q) f0 f1 f3 f4 f5⟩
  self := fun A i s Q E st h => let ⟨⟨_, he⟩, _⟩ := st; wpAny_pyIter_enum he h

end
end L2

namespace L2
open PySem PySem.Spec PyProof.Rows
def iEnumQ (K : PySem.W.Frag) (ta : TA) : TI := fun σ H R => ta σ H fun vs H1 => ∃ a xs, vs = [.ref a] ∧ ((SqL K H1 a xs ∧ R (Ite K a) H1) ∨ (SqT K H1 a xs ∧ R (ItQ K a) H1))
theorem pi_enumQ {X : Cx} {e : Expr} {ta : TA} {p pos tpos : Pos} {elts : List Expr} {kk : Nat} (hg : Gl X "enumerate") (hm : X.mg "enumerate" = none) (ha : PA X [e] ta) (hs : starEach [e] X.env = [(false, eval e X.env)] := by rfl) :
    PI X (.Tuple elts kk tpos) (.Call (.Name "enumerate" p) [e] [] pos) (iEnumQ X.K ta) := by
  refine ⟨fun pins s σ H R I h => ?_⟩
  refine Call_ (ld_blt I hg hm boot_enumerate (PyProof.Rows.callWith_type1 (thn (ha.run pos pins s σ H _ I h) fun us s1 ⟨vs, H1, I1, r1, q1⟩ => ?_) hs rfl))
  obtain ⟨a, xs, ex, q1⟩ := q1
  subst ex
  cases r1 with
  | cons r rr =>
    cases rr
    cases r
    rcases q1 with ⟨hq, q⟩ | ⟨hq, q⟩
    · obtain ⟨its, rv, p', hz⟩ := I1.list hq
      refine call_enumerate_list p'.isList fun h' he hit hsz hk => wpAny_pyIter_enum he ?_
      have I2 : Inv X pins σ H1 { s1 with heap := h' } := I1.kept (t' := s1.toks) hk
      refine ⟨s1.heap.objs.size + 1, [s1.heap.objs.size + 1, s1.heap.objs.size], _, _, H1, rfl, I2, turn_enum a (s1.heap.objs.size + 1) s1.heap.objs.size, ⟨⟨.none, he⟩, hit, Nat.succ_ne_self _⟩, fun b hb => ?_, q⟩
      have e' : b = s1.heap.objs.size + 1 ∨ b = s1.heap.objs.size := by simpa using hb
      have hle : s1.heap.objs.size ≤ b := by
        rcases e' with z | z
        · rw [z]; exact Nat.le_add_right _ _
        · rw [z]; exact Nat.le_refl _
      exact I1.fpOk hle (I1.hok.fresh hle)
    · obtain ⟨its, rv, p', hz⟩ := I1.tuple hq
      refine tq_call p' fun h' he hit hsz hk => wpAny_pyIter_enum he ?_
      have I2 : Inv X pins σ H1 { s1 with heap := h' } := I1.kept (t' := s1.toks) hk
      refine ⟨s1.heap.objs.size + 1, [s1.heap.objs.size + 1, s1.heap.objs.size], _, _, H1, rfl, I2, tq_turn a (s1.heap.objs.size + 1) s1.heap.objs.size, ⟨⟨.none, he⟩, hit, Nat.succ_ne_self _⟩, fun b hb => ?_, q⟩
      have e' : b = s1.heap.objs.size + 1 ∨ b = s1.heap.objs.size := by simpa using hb
      have hle : s1.heap.objs.size ≤ b := by
        rcases e' with z | z
        · rw [z]; exact Nat.le_add_right _ _
        · rw [z]; exact Nat.le_refl _
      exact I1.fpOk hle (I1.hok.fresh hle)
end L2

namespace PM
open PySem PySem.Spec L2 PyProof.Rows
/-- enumerate(list) or enumerate(tuple) -/
def iEnuQ (fs : List FE) : FI := fun env m => bndil (evL fs env m) fun ds m1 => match ds with
  | [.lst xs] => some (.ok (prsD 0 xs) none m1)
  | [.tup xs] => some (.ok (prsD 0 xs) none m1)
  | [.loc n] => match m1[n]? with
    | some (.lst xs) => some (.ok (prsD 0 xs) (some (n, xs)) m1)
    | _ => none
  | _ => none
section
variable {W : Wd} {L : Lv} {R : Rst} {pos : Pos} {fs : List FE}
theorem di_enuQ {a : Expr} {p tpos : Pos} {elts : List Expr} {kk : Nat} (ha : DA W L [a] fs) (hm : W.mg "enumerate" = none) (hg : L.sc.names.lookup ("enumerate" : Str) = some .globalImplicit := by rfl) (hs : ∀ env, starEach [a] env = [(false, eval a env)] := by intro _; rfl) : DI W L (.Tuple elts kk tpos) (.Call (.Name "enumerate" p) [a] [] pos) (iEnuQ fs) := by
  intro R F Wx tk
  refine PI.imp (pi_enumQ (X := mkX W L.N R) (F.gl "enumerate" hg) hm (ha R F Wx tk) (hs _)) fun σ H K h => ?_
  have h' := tI.bndl h
  obtain ⟨ph, env, m, he, hs, r, e, p⟩ := h'
  refine ⟨ph, env, m, he, hs, r, e, ?_⟩
  cases r with
  | exn c d m1 => exact p
  | ok ds m1 =>
    intro vs H1 ph1 s1 r1
    obtain ⟨ph2, m2, ds2, o2, hs2, r2, e2, p2⟩ := p vs H1 ph1 s1 r1
    split at e2
    · rename_i xs
      cases e2
      obtain ⟨v, _, rfl, ⟨a, us, rfl, l, rr⟩, rfl⟩ := r2
      refine ⟨a, us, rfl, .inl ⟨l.sq, p2 _ _ _ (.refl hs2) trivial fun ph3 H3 m3 s hs _ i => ?_⟩⟩
      have l1 := (l.move s).sq (K := W.K)
      refine ⟨fun d hd => ?_, fun hi => ⟨us, l1, by rw [← rr.length, ← prsD_len xs 0]; exact hi⟩⟩
      rw [prsD_get] at hd
      cases q : xs[i]? with
      | none => rw [q] at hd; cases hd
      | some d0 =>
        rw [q] at hd
        cases hd
        obtain ⟨u, hu, ru⟩ := rr.get q
        refine ⟨⟨us, u, l1, hu⟩, fun x H4 hy => ?_⟩
        obtain ⟨T, x', rfl, hT, rfl, hx⟩ := hy
        have := hx us l1
        rw [hu] at this
        cases this
        refine ⟨.put hT hs, .newT hT hs (.cons ?_ (.cons (Rep.move s _ _ ru) .nil))⟩
        show V.int _ = V.int _
        rw [Nat.zero_add]
    · rename_i xs
      cases e2
      obtain ⟨v, _, rfl, ⟨a, us, rfl, l, rr⟩, rfl⟩ := r2
      refine ⟨a, us, rfl, .inr ⟨l.sq, p2 _ _ _ (.refl hs2) trivial fun ph3 H3 m3 s hs _ i => ?_⟩⟩
      have l1 := (l.move s).sq (K := W.K)
      refine ⟨fun d hd => ?_, fun hi => ⟨us, l1, by rw [← rr.length, ← prsD_len xs 0]; exact hi⟩⟩
      rw [prsD_get] at hd
      cases q : xs[i]? with
      | none => rw [q] at hd; cases hd
      | some d0 =>
        rw [q] at hd
        cases hd
        obtain ⟨u, hu, ru⟩ := rr.get q
        refine ⟨⟨us, u, l1, hu⟩, fun x H4 hy => ?_⟩
        obtain ⟨T, x', rfl, hT, rfl, hx⟩ := hy
        have := hx us l1
        rw [hu] at this
        cases this
        refine ⟨.put hT hs, .newT hT hs (.cons ?_ (.cons (Rep.move s _ _ ru) .nil))⟩
        show V.int _ = V.int _
        rw [Nat.zero_add]
    · rename_i n
      split at e2
      · rename_i xs q0
        cases e2
        obtain ⟨v, _, rfl, ⟨a, rfl, ha⟩, rfl⟩ := r2
        obtain ⟨a', e1, _, us, e3, rr⟩ := hs2.cell n _ q0
        rw [ha] at e1
        cases e1
        refine ⟨a, us, rfl, .inl ⟨.of e3, p2 _ _ _ (.refl hs2) q0 fun ph3 H3 m3 s hs hw i => ?_⟩⟩
        have hw : m3[n]? = some (.lst xs) := hw
        obtain ⟨a', e1, _, us2, e4, rr2⟩ := hs.cell n _ hw
        have : a' = a := by
          rw [s.pl n a ha] at e1
          exact (Option.some.inj e1).symm
        subst this
        refine ⟨fun d hd => ?_, fun hi => ⟨us2, .of e4, by rw [← rr2.length, ← prsD_len xs 0]; exact hi⟩⟩
        rw [prsD_get] at hd
        cases q : xs[i]? with
        | none => rw [q] at hd; cases hd
        | some d0 =>
          rw [q] at hd
          cases hd
          obtain ⟨u, hu, ru⟩ := rr2.get q
          refine ⟨⟨us2, u, .of e4, hu⟩, fun x H4 hy => ?_⟩
          obtain ⟨T, x', rfl, hT, rfl, hx⟩ := hy
          have := hx us2 (.of e4)
          rw [hu] at this
          cases this
          refine ⟨.put hT hs, .newT hT hs (.cons ?_ (.cons ru .nil))⟩
          show V.int _ = V.int _
          rw [Nat.zero_add]
      · cases e2
    · cases e2

end
end PM

/-! PMO: operators and built-ins by values. -/
namespace PM
open PySem PySem.Spec L2 PyProof.Rows
section
variable {W : Wd} {ph : Plc} {H : Hp} {m : Sto} {L : Lv} {f : Value → Value → Sem Value} {Q : VK}
theorem Op2.of {rd : Rst → R2} {op : D → D → Sto → Option D} (h : ∀ R, Fits W L R → OpR (mkX W L.N R) f (rd R))
    (hi : ∀ R (ph : Plc) (H : Hp) (m : Sto) (dx dy d : D) (x y : V) (Q : VK), Fits W L R → RelSto W ph H m → Rep W ph H dx x → Rep W ph H dy y → op dx dy m = some d → PostD W ph H m Q d → rd R x y H Q) : Op2 W L f op := by
  intro R F pins s σ H x y v u Q I rx ry q
  obtain ⟨ph, m, dx, dy, d, hs, r1, r2, e, p⟩ := q
  exact h R F pins s σ H x y v u Q I rx ry (hi R ph H m dx dy d x y Q F hs r1 r2 e p)
theorem OpN.of {fv : Value} {rd : Rst → List V → Hp → VK → Prop} {op : List D → Sto → Option D} (h : ∀ R, Fits W L R → CallR (mkX W L.N R) fv (rd R))
    (hi : ∀ R (ph : Plc) (H : Hp) (m : Sto) (ds : List D) (d : D) (vs : List V) (Q : VK), Fits W L R → RelSto W ph H m → RepL W ph H ds vs → op ds m = some d → PostD W ph H m Q d → rd R vs H Q) : OpN W L fv op := by
  intro R F pins s σ H xs us Q I r q
  obtain ⟨ph, m, ds, d, hs, r1, e, p⟩ := q
  exact h R F pins s σ H xs us Q I r (hi R ph H m ds d xs Q F hs r1 e p)
theorem RepL.two {a b : D} {vs : List V} (h : RepL W ph H [a, b] vs) : ∃ v u, vs = [v, u] ∧ Rep W ph H a v ∧ Rep W ph H b u := by
  obtain ⟨v, _, rfl, h1, u, _, rfl, h2, rfl⟩ := h
  exact ⟨v, u, rfl, h1, h2⟩
theorem RepL.one {a : D} {vs : List V} (h : RepL W ph H [a] vs) : ∃ v, vs = [v] ∧ Rep W ph H a v := by
  obtain ⟨v, _, rfl, h1, rfl⟩ := h
  exact ⟨v, rfl, h1⟩

theorem PostD.i {i : Int} (p : PostD W ph H m Q (.int i)) (hs : RelSto W ph H m) : Q (.int i) H := p _ _ ph (.refl hs) rfl
theorem PostD.b {b : Bool} (p : PostD W ph H m Q (.bl b)) (hs : RelSto W ph H m) : Q (.bl b) H := p _ _ ph (.refl hs) rfl
theorem PostD.s {z : Str} (p : PostD W ph H m Q (.str z)) (hs : RelSto W ph H m) : Q (.str z) H := p _ _ ph (.refl hs) rfl
/-! ### numbers -/
/-- of at most this many bits -/
def BITS : Nat := 400000
def big (i : Int) : Prop := i.natAbs.log2 < BITS
instance (i : Int) : Decidable (big i) := inferInstanceAs (Decidable (_ < _))
def lstOf : D → Sto → Option (List D)
  | .lst xs, _ => some xs
  | .loc n, m => match m[n]? with
    | some (.lst xs) => some xs
    | _ => none
  | _, _ => none
theorem lstOf_rep {d : D} {v : V} {xs : List D} (hs : RelSto W ph H m) (r : Rep W ph H d v) (e : lstOf d m = some xs) : ∃ a vs, v = .ref a ∧ H a = some (.lst vs) ∧ RepL W ph H xs vs := by
  unfold lstOf at e
  split at e
  · cases e
    obtain ⟨a, vs, rfl, l, r⟩ := r
    exact ⟨a, vs, rfl, l.1, r⟩
  · rename_i n
    split at e
    · rename_i q
      cases e
      obtain ⟨a, rfl, ha⟩ := r
      obtain ⟨a', e1, _, vs, e3, r⟩ := hs.cell n _ q
      rw [ha] at e1
      cases e1
      exact ⟨a, vs, rfl, e3, r⟩
    · cases e
  · cases e
def addD : D → D → Sto → Option D
  | .int i, .int j, _ => some (.int (i + j))
  | .str a, .str b, _ => if a.length + b.length ≤ 1000000 then some (.str (a ++ b)) else none
  | x, y, m => match lstOf x m, lstOf y m with
    | some xs, some ys => if xs.length + ys.length ≤ 100000 then some (.lst (xs ++ ys)) else none
    | _, _ => none
theorem line6 : (1000000 : Nat) ≤ sizeLine := by rw [sizeLine_eq]; decide
theorem op2_add : Op2 W L (binaryOp .Add) addD := by
  refine Op2.of (rd := fun _ x y H Q => _) (fun R _ => OpR.or op_add (OpR.or op_add_str op_cat)) fun R ph H m dx dy d x y Q F hs r1 r2 e p => ?_
  unfold addD at e
  split at e
  · cases e; cases r1; cases r2
    exact .inl ⟨_, _, rfl, rfl, p.i hs⟩
  · split at e
    · rename_i hl
      cases e; cases r1; cases r2
      exact .inr (.inl ⟨_, _, rfl, rfl, Nat.le_trans hl line6, p.s hs⟩)
    · cases e
  · split at e
    · rename_i h1 h2
      split at e
      · rename_i hl
        cases e
        obtain ⟨a, vs, rfl, ha, ra⟩ := lstOf_rep hs r1 h1
        obtain ⟨b, us, rfl, hb, rb⟩ := lstOf_rep hs r2 h2
        refine .inr (.inr ⟨a, b, vs, us, rfl, rfl, ha, hb, ?_, fun q hq => ?_⟩)
        · rw [← ra.length, ← rb.length]; exact Nat.le_trans hl line5
        · exact p _ _ ph (.put hq hs) (.newL hq hs (ra.append rb))
      · cases e
    · cases e
def subD : D → D → Sto → Option D
  | .int i, .int j, _ => some (.int (i - j))
  | _, _, _ => none
theorem op2_sub : Op2 W L (binaryOp .Sub) subD := by
  refine Op2.of (rd := fun _ x y H Q => _) (fun R _ => op_sub) fun R ph H m dx dy d x y Q F hs r1 r2 e p => ?_
  unfold subD at e
  split at e
  · cases e; cases r1; cases r2
    exact ⟨_, _, rfl, rfl, p.i hs⟩
  · cases e
/-- [..] * n, '..' * n besides -/
def repS (a : Str) (n : Nat) : Str := ⟨(List.replicate n a.cps.toList).flatten.toArray⟩
def mulD : D → D → Sto → Option D
  | .int i, .int j, _ => if (i.natAbs < 2 ^ 64 ∨ j.natAbs < 2 ^ 64) ∨ (big i ∧ big j) then some (.int (i * j)) else none
  | .str a, .int k, _ => if a.length * k.toNat ≤ 1000000 ∧ k.natAbs < 2 ^ 60 then some (.str (repS a k.toNat)) else none
  | x, .int k, m => match lstOf x m with
    | some xs => if xs.length * k.toNat ≤ 100000 ∧ k.natAbs < 2 ^ 60 then some (.lst (List.replicate k.toNat xs).flatten) else none
    | none => none
  | _, _, _ => none
theorem RepL.rep {ds : List D} {vs : List V} (h : RepL W ph H ds vs) : ∀ n, RepL W ph H (List.replicate n ds).flatten (List.replicate n vs).flatten
  | 0 => rfl
  | n + 1 => by
    rw [List.replicate_succ, List.replicate_succ, List.flatten_cons, List.flatten_cons]
    exact h.append (RepL.rep h n)
theorem bits_big {i : Int} (h : big i) : Builtin.Int.intBits i ≤ BITS := by
  unfold big at h
  unfold Builtin.Int.intBits
  split <;> omega
theorem op_mulA {X : Cx} : OpR X (binaryOp .Mult) (rI (fun i j => (i.natAbs < 2 ^ 64 ∨ j.natAbs < 2 ^ 64) ∨ (big i ∧ big j)) fun i j => .int (i * j)) := opI fun i j _ _ _ _ _ hc q => by
  rcases hc with (h | h) | ⟨h1, h2⟩
  · exact mul_int q (.of_left (intBits_le_64 (by omega) (by omega)))
  · exact mul_int q (.of_right (intBits_le_64 (by omega) (by omega)))
  · refine mul_int q (CMulW.ok ?_)
    unfold big at h1 h2
    unfold CMulW BITS at *
    omega
theorem foldl_reps (c : Array Nat) : ∀ (k : Nat) (acc : Array Nat), (List.replicate k c).foldl (· ++ ·) acc = acc ++ (List.replicate k c.toList).flatten.toArray
  | 0, acc => by simp
  | k + 1, acc => by
    rw [List.replicate_succ, List.foldl_cons, foldl_reps c k, List.replicate_succ, List.flatten_cons]
    rw [Array.append_assoc]
    congr 1
    apply Array.ext'
    simp
theorem mul_repS (a : Str) (k : Int) : Txt.mul a k = repS a k.toNat := by
  unfold Txt.mul repS
  split
  · rename_i h
    have : k.toNat = 0 := by omega
    rw [this]; rfl
  · rename_i h
    split
    · rename_i h2
      rw [Bool.or_eq_true] at h2
      rcases h2 with h2 | h2
      · have : k = 1 := by simpa using h2
        subst this
        cases a; simp
      · have : a.cps.size = 0 := by
          have : a.length = 0 := by simpa using h2
          exact this
        have e : a.cps = #[] := Array.eq_empty_of_size_eq_zero this
        cases a
        simp only at e
        subst e
        simp
    · rw [foldl_reps]; simp
def rRepS : R2 := fun x y H Q => ∃ (a : Str) (k : Int), x = .str a ∧ y = .int k ∧ a.length * k.toNat ≤ 1000000 ∧ k.natAbs < 2 ^ 60 ∧ Q (.str (repS a k.toNat)) H
theorem op_repS {X : Cx} : OpR X (binaryOp .Mult) rRepS := by
  intro pins s σ H x y v u Q I rx ry q
  obtain ⟨a, k, rfl, rfl, h1, h2, q⟩ := q
  obtain ⟨t, rfl⟩ := rx
  obtain ⟨t', rfl⟩ := ry
  refine PySem.SB.mul ⟨?_, fun h3 h4 => ?_, fun h3 h4 => ?_⟩ fun z n => ⟨.str _, H, I.tok n, ⟨z, rfl⟩, by rw [mul_repS]; exact q⟩
  · rw [Bool.or_eq_false_iff]
    exact ⟨decide_eq_false (by omega), decide_eq_false (by omega)⟩
  · have hk : 0 < k := by omega
    have : (a.length : Int) * k ≤ 2 ^ 63 - 1 := by
      have e : ((k.toNat : Nat) : Int) = k := Int.toNat_of_nonneg (by omega)
      have : ((a.length * k.toNat : Nat) : Int) ≤ ((1000000 : Nat) : Int) := Int.ofNat_le.mpr h1
      rw [Int.natCast_mul, e] at this
      omega
    have := Int.le_ediv_of_mul_le hk this
    omega
  · exact decide_eq_false (by have := Nat.le_trans h1 line6; omega)
theorem op2_mul : Op2 W L (binaryOp .Mult) mulD := by
  refine Op2.of (rd := fun _ x y H Q => _) (fun R _ => OpR.or op_mulA (OpR.or op_repS op_rep)) fun R ph H m dx dy d x y Q F hs r1 r2 e p => ?_
  unfold mulD at e
  split at e
  · split at e
    · rename_i hc
      cases e; cases r1; cases r2
      exact .inl ⟨_, _, rfl, rfl, hc, p.i hs⟩
    · cases e
  · split at e
    · rename_i hl
      cases e; cases r1; cases r2
      exact .inr (.inl ⟨_, _, rfl, rfl, hl.1, hl.2, p.s hs⟩)
    · cases e
  · split at e
    · rename_i xs h1
      split at e
      · rename_i hl
        cases e
        obtain ⟨a, vs, rfl, ha, ra⟩ := lstOf_rep hs r1 h1
        cases r2
        refine .inr (.inr ⟨a, _, vs, rfl, rfl, ha, by omega, by omega, ?_, ?_⟩)
        · rw [← ra.length]; exact Nat.le_trans hl.1 line5
        · exact fun q hq => p _ _ ph (.put hq hs) (.newL hq hs (ra.rep _))
      · cases e
    · cases e
  · cases e
def divD : D → D → Sto → Option D
  | .int i, .int j, _ => if j ≠ 0 ∧ j.natAbs.log2 < 9000 then some (.int (i.fdiv j)) else none
  | _, _, _ => none
theorem op_divA {X : Cx} : OpR X (binaryOp .FloorDiv) (rI (fun _ j => j ≠ 0 ∧ j.natAbs.log2 < 9000) fun i j => .int (i.fdiv j)) := opI fun _ _ _ _ _ _ _ hc q => floordiv_int hc.1 q (.inl (PyProof.noPylong_of_log2 hc.2))
theorem op2_div : Op2 W L (binaryOp .FloorDiv) divD := by
  refine Op2.of (rd := fun _ x y H Q => _) (fun R _ => op_divA) fun R ph H m dx dy d x y Q F hs r1 r2 e p => ?_
  unfold divD at e
  split at e
  · split at e
    · rename_i hc
      cases e; cases r1; cases r2
      exact ⟨_, _, rfl, rfl, hc, p.i hs⟩
    · cases e
  · cases e
def modD : D → D → Sto → Option D
  | .int i, .int j, _ => if j ≠ 0 then some (.int (i.fmod j)) else none
  | _, _, _ => none
theorem op2_mod : Op2 W L (binaryOp .Mod) modD := by
  refine Op2.of (rd := fun _ x y H Q => _) (fun R _ => op_modN) fun R ph H m dx dy d x y Q F hs r1 r2 e p => ?_
  unfold modD at e
  split at e
  · split at e
    · rename_i hc
      cases e; cases r1; cases r2
      exact ⟨_, _, rfl, rfl, hc, p.i hs⟩
    · cases e
  · cases e
def powD : D → D → Sto → Option D
  | .int i, .int j, _ => if 0 ≤ j ∧ j ≤ 1000000 ∧ i.natAbs < 2 ^ 64 then some (.int (i ^ j.toNat)) else none
  | _, _, _ => none
theorem op2_pow : Op2 W L (binaryOp .Pow) powD := by
  refine Op2.of (rd := fun _ x y H Q => _) (fun R _ => op_pow) fun R ph H m dx dy d x y Q F hs r1 r2 e p => ?_
  unfold powD at e
  split at e
  · split at e
    · rename_i hc
      cases e; cases r1; cases r2
      exact ⟨_, _, rfl, rfl, hc, p.i hs⟩
    · cases e
  · cases e
def shlD : D → D → Sto → Option D
  | .int i, .int j, _ => if 0 ≤ j ∧ j ≤ 100000 ∧ big i then some (.int (i * 2 ^ j.toNat)) else none
  | _, _, _ => none
theorem op2_shl : Op2 W L (binaryOp .LShift) shlD := by
  refine Op2.of (rd := fun _ x y H Q => _) (fun R _ => op_shlW) fun R ph H m dx dy d x y Q F hs r1 r2 e p => ?_
  unfold shlD at e
  split at e
  · split at e
    · rename_i hc
      cases e; cases r1; cases r2
      refine ⟨_, _, rfl, rfl, ⟨hc.1, ?_⟩, p.i hs⟩
      have := bits_big hc.2.2
      unfold BITS at this
      have h2 := hc.2.1
      omega
    · cases e
  · cases e
/-! ### comparisons -/
def cmpI (p : Int → Int → Bool) : D → D → Sto → Option D
  | .int i, .int j, _ => some (.bl (p i j))
  | _, _, _ => none
abbrev ltD := cmpI fun i j => decide (i < j)
abbrev leD := cmpI fun i j => decide (i ≤ j)
abbrev gtD := cmpI fun i j => decide (j < i)
abbrev geD := cmpI fun i j => decide (j ≤ i)
theorem cmpI_bl {p : Int → Int → Bool} (x y : D) (m : Sto) (d : D) (h : cmpI p x y m = some d) : ∃ b, d = .bl b := by
  unfold cmpI at h
  split at h
  · cases h; exact ⟨_, rfl⟩
  · cases h
theorem op2_cmp {o : CmpOp} {p : Int → Int → Bool} (h : ∀ X : Cx, OpR X (compareOp o) (rI0 fun i j => .bl (p i j))) : Op2 W L (compareOp o) (cmpI p) := by
  refine Op2.of (rd := fun _ x y H Q => _) (fun R _ => h _) fun R ph H m dx dy d x y Q F hs r1 r2 e pp => ?_
  unfold cmpI at e
  split at e
  · cases e; cases r1; cases r2
    exact ⟨_, _, rfl, rfl, pp.b hs⟩
  · cases e
theorem op2_lt : Op2 W L (compareOp .Lt) ltD := op2_cmp fun _ => op_lt
theorem op2_le : Op2 W L (compareOp .LtE) leD := op2_cmp fun _ => op_le
theorem op2_gt : Op2 W L (compareOp .Gt) gtD := op2_cmp fun _ => op_gt
theorem op2_ge : Op2 W L (compareOp .GtE) geD := op2_cmp fun _ => op_ge
/-! plain data as the library has it -/
def mapO {α β : Type} (f : α → Option β) : List α → Option (List β)
  | [] => some []
  | x :: xs => match f x, mapO f xs with
    | some a, some b => some (a :: b)
    | _, _ => none
def dataF (m : Sto) : Nat → D → Option PyData
  | 0, _ => none
  | f + 1, d => match d with
    | .non => some .none
    | .bl b => some (.bool b)
    | .int i => some (.int i)
    | .str s => some (.str s)
    | .lst xs => (mapO (dataF m f) xs).map .list
    | .fz xs => (mapO (dataF m f) xs).map .list
    | .tup xs => (mapO (dataF m f) xs).map .tuple
    | .loc n => match m[n]? with
      | some (.lst xs) => (mapO (dataF m f) xs).map .list
      | _ => none
    | _ => none
def DpOk (W : Wd) (ph : Plc) (H : Hp) (K : PySem.W.Frag) (f : D → Option PyData) : Prop := ∀ (d : D) (v : V) (p : PyData), f d = some p → Rep W ph H d v → Dp K H v p
theorem mapO_dp {K : PySem.W.Frag} {f : D → Option PyData} (hf : DpOk W ph H K f) : ∀ {ds : List D} {vs : List V} {ps : List PyData}, mapO f ds = some ps → RepL W ph H ds vs → DpAll K H vs ps
  | [], _, _, e, r => by
    cases e
    have r : _ = [] := r
    rw [r]; exact .nil
  | d :: ds, _, _, e, ⟨v, us, ev, r1, r2⟩ => by
    unfold mapO at e
    cases q : f d with
    | none => rw [q] at e; cases e
    | some a =>
      cases q2 : mapO f ds with
      | none => rw [q, q2] at e; cases e
      | some b =>
        rw [q, q2] at e
        cases e
        rw [ev]
        exact .cons (hf _ _ _ q r1) (mapO_dp hf q2 r2)
theorem dataF_dp {K : PySem.W.Frag} (hK : W.K = K) (hs : RelSto W ph H m) : ∀ f : Nat, DpOk W ph H K (dataF m f)
  | 0 => fun d v p e r => by cases e
  | f + 1 => fun d v p e r => by
    have ih := dataF_dp hK hs f
    cases d with
    | non => cases e; cases r; exact .non
    | bl b => cases e; cases r; exact .bl _
    | int i => cases e; cases r; exact .int _
    | str s => cases e; cases r; exact .str _
    | lst xs =>
      obtain ⟨a, vs, rfl, l, r⟩ := r
      have e : (mapO (dataF m f) xs).map .list = some p := e
      cases q : mapO (dataF m f) xs with
      | none => rw [q] at e; cases e
      | some ps =>
        rw [q] at e
        cases e
        exact .lst l.sq (mapO_dp ih q r)
    | fz xs =>
      obtain ⟨a, vs, rfl, l, r⟩ := r
      have e : (mapO (dataF m f) xs).map .list = some p := e
      cases q : mapO (dataF m f) xs with
      | none => rw [q] at e; cases e
      | some ps =>
        rw [q] at e
        cases e
        exact .lst (by rw [← hK]; exact l.sq) (mapO_dp ih q r)
    | tup xs =>
      obtain ⟨a, vs, rfl, l, r⟩ := r
      have e : (mapO (dataF m f) xs).map .tuple = some p := e
      cases q : mapO (dataF m f) xs with
      | none => rw [q] at e; cases e
      | some ps =>
        rw [q] at e
        cases e
        exact .tup l.sq (mapO_dp ih q r)
    | loc n =>
      obtain ⟨a, rfl, ha⟩ := r
      have e : (match m[n]? with | some (.lst xs) => (mapO (dataF m f) xs).map .list | _ => none) = some p := e
      split at e
      · rename_i xs q
        obtain ⟨a', e1, _, vs, e3, r⟩ := hs.cell n _ q
        rw [ha] at e1
        cases e1
        cases q2 : mapO (dataF m f) xs with
        | none => rw [q2] at e; cases e
        | some ps =>
          rw [q2] at e
          cases e
          exact .lst (.of e3) (mapO_dp ih q2 r)
      · cases e
    | ob _ _ => cases e
    | exc _ _ => cases e
    | cau _ _ => cases e
    | fn _ => cases e
    | bex _ _ => cases e
    | cls _ => cases e
/-- two lists that have not as many items -/
def lenNe (x y : D) (m : Sto) : Bool := match lstOf x m, lstOf y m with
  | some a, some b => a.length != b.length
  | _, _ => false
def eqB : D → D → Sto → Option Bool
  | .int i, .int j, _ => some (decide (i = j))
  | .str a, .str b, _ => some (decide (a = b))
  | .bl a, .bl b, _ => some (decide (a = b))
  | .non, .non, _ => some true
  | x, y, m => if lenNe x y m = true then some false else match dataF m 70 x, dataF m 70 y with
    | some a, some b => if SeqAt.shaped a = true ∧ SeqAt.shaped b = true then some (PyData.eqv a b) else none
    | _, _ => none
def eqD (x y : D) (m : Sto) : Option D := (eqB x y m).map .bl
def neD (x y : D) (m : Sto) : Option D := (eqB x y m).map fun b => .bl (!b)
theorem eqB_rep {K : PySem.W.Frag} {x y : D} {v u : V} {b : Bool} (hK : W.K = K) (hs : RelSto W ph H m) (r1 : Rep W ph H x v) (r2 : Rep W ph H y u) (e : eqB x y m = some b) :
    (scal v u = true ∧ b = decide (v = u)) ∨ (∃ d e, Dp K H v d ∧ Dp K H u e ∧ SeqAt.shaped d = true ∧ SeqAt.shaped e = true ∧ b = PyData.eqv d e) ∨ ∃ a a' xs ys, v = .ref a ∧ u = .ref a' ∧ SqL K H a xs ∧ SqL K H a' ys ∧ xs.length ≠ ys.length ∧ b = false := by
  unfold eqB at e
  split at e
  · cases e; cases r1; cases r2
    exact .inl ⟨rfl, by simp⟩
  · cases e; cases r1; cases r2
    exact .inl ⟨rfl, by simp⟩
  · cases e; cases r1; cases r2
    exact .inl ⟨rfl, by simp⟩
  · cases e; cases r1; cases r2
    refine .inr (.inl ⟨.none, .none, .non, .non, by decide, by decide, rfl⟩)
  · split at e
    · rename_i hc
      cases e
      unfold lenNe at hc
      split at hc
      · rename_i xs ys q1 q2
        obtain ⟨a, vs, rfl, h1, p1⟩ := lstOf_rep hs r1 q1
        obtain ⟨a', us, rfl, h2, p2⟩ := lstOf_rep hs r2 q2
        refine .inr (.inr ⟨a, a', vs, us, rfl, rfl, .of h1, .of h2, ?_, rfl⟩)
        rw [← p1.length, ← p2.length]
        simpa using hc
      · cases hc
    · split at e
      · rename_i a b h1 h2
        split at e
        · rename_i hc
          cases e
          exact .inr (.inl ⟨a, b, dataF_dp hK hs _ _ _ _ h1 r1, dataF_dp hK hs _ _ _ _ h2 r2, hc.1, hc.2, rfl⟩)
        · cases e
      · cases e
/-- lists of other lengths -/
def rLen (K : PySem.W.Frag) (k : Bool) : R2 := fun x y H Q => ∃ a a' xs ys, x = V.ref a ∧ y = V.ref a' ∧ SqL K H a xs ∧ SqL K H a' ys ∧ xs.length ≠ ys.length ∧ Q (.bl k) H
theorem op_eqLen {X : Cx} (hu : X.A.units + 64 < cLine) : OpR X (compareOp .Eq) (rLen X.K false) := by
  intro pins s σ H x y v u Q I rx ry h
  obtain ⟨a, a', xs, ys, rfl, rfl, h1, h2, hne, q⟩ := h
  obtain ⟨its, rv, hl, _⟩ := I.list h1
  obtain ⟨its2, rv2, hl2, _⟩ := I.list h2
  cases rx
  cases ry
  refine PySem.SeqAt.eq_list_lengthsAt hl.isList hl2.isList ?_ (by omega) ⟨.bl false, H, I, rfl, q⟩
  have e1 := rv.length
  have e2 := rv2.length
  simp only [bne_iff_ne, ne_eq, List.size_toArray]
  omega
theorem op_neLen {X : Cx} (hu : X.A.units + 64 < cLine) : OpR X (compareOp .NotEq) (rLen X.K true) := by
  intro pins s σ H x y v u Q I rx ry h
  obtain ⟨a, a', xs, ys, rfl, rfl, h1, h2, hne, q⟩ := h
  obtain ⟨its, rv, hl, _⟩ := I.list h1
  obtain ⟨its2, rv2, hl2, _⟩ := I.list h2
  cases rx
  cases ry
  refine PySem.SeqAt.RcNeAt.lists_lengths hl.isList hl2.isList ?_ (by omega) _ _ _ _ ⟨.bl true, H, I, rfl, q⟩
  have e1 := rv.length
  have e2 := rv2.length
  simp only [bne_iff_ne, ne_eq, List.size_toArray]
  omega
theorem op2_eq : Op2 W L (compareOp .Eq) eqD := by
  refine Op2.of (rd := fun _ x y H Q => _) (fun R F => OpR.or op_eq (OpR.or (op_eqD (X := mkX W L.N R) F.un) (op_eqLen (X := mkX W L.N R) F.un))) fun R ph H m dx dy d x y Q F hs r1 r2 e p => ?_
  unfold eqD at e
  cases q : eqB dx dy m with
  | none => rw [q] at e; cases e
  | some b =>
    rw [q] at e
    cases e
    rcases eqB_rep (K := W.K) rfl hs r1 r2 q with ⟨h1, rfl⟩ | ⟨d, e, h1, h2, h3, h4, rfl⟩ | ⟨a, a', xs, ys, h1, h2, h3, h4, h5, rfl⟩
    · exact .inl ⟨h1, p.b hs⟩
    · exact .inr (.inl ⟨d, e, h1, h2, h3, h4, p.b hs⟩)
    · exact .inr (.inr ⟨a, a', xs, ys, h1, h2, h3, h4, h5, p.b hs⟩)
theorem op2_ne : Op2 W L (compareOp .NotEq) neD := by
  refine Op2.of (rd := fun _ x y H Q => _) (fun R F => OpR.or op_ne (OpR.or (op_neD (X := mkX W L.N R) F.un) (op_neLen (X := mkX W L.N R) F.un))) fun R ph H m dx dy d x y Q F hs r1 r2 e p => ?_
  unfold neD at e
  cases q : eqB dx dy m with
  | none => rw [q] at e; cases e
  | some b =>
    rw [q] at e
    cases e
    rcases eqB_rep (K := W.K) rfl hs r1 r2 q with ⟨h1, rfl⟩ | ⟨d, e, h1, h2, h3, h4, rfl⟩ | ⟨a, a', xs, ys, h1, h2, h3, h4, h5, rfl⟩
    · exact .inl ⟨h1, p.b hs⟩
    · exact .inr (.inl ⟨d, e, h1, h2, h3, h4, p.b hs⟩)
    · exact .inr (.inr ⟨a, a', xs, ys, h1, h2, h3, h4, h5, p.b hs⟩)
theorem eqD_bl (x y : D) (m : Sto) (d : D) (h : eqD x y m = some d) : ∃ b, d = .bl b := by
  unfold eqD at h
  cases q : eqB x y m with
  | none => rw [q] at h; cases h
  | some b => rw [q] at h; cases h; exact ⟨_, rfl⟩
theorem neD_bl (x y : D) (m : Sto) (d : D) (h : neD x y m = some d) : ∃ b, d = .bl b := by
  unfold neD at h
  cases q : eqB x y m with
  | none => rw [q] at h; cases h
  | some b => rw [q] at h; cases h; exact ⟨_, rfl⟩
end
end PM

/-! PMO2: in, is, len, subscripts, slices, built-in functions. -/
namespace PM
open PySem PySem.Spec L2 PyProof.Rows
section
variable {W : Wd} {Wx : WX} {ph : Plc} {H H1 : Hp} {m : Sto} {L : Lv} {R : Rst} {Q : VK} {e a b : Expr} {fa fb f : FE} {pos : Pos} {σ : L2.St}
/-! ### the items of a sequence -/
def seqOf : D → Sto → Option (List D)
  | .lst xs, _ => some xs
  | .tup xs, _ => some xs
  | .fz xs, _ => some xs
  | .loc n, m => match m[n]? with
    | some (.lst xs) => some xs
    | _ => none
  | _, _ => none
theorem seqOf_rep {d : D} {v : V} {xs : List D} (hs : RelSto W ph H m) (r : Rep W ph H d v) (e : seqOf d m = some xs) : ∃ a vs, v = .ref a ∧ (SqL W.K H a vs ∨ SqT W.K H a vs) ∧ RepL W ph H xs vs := by
  unfold seqOf at e
  split at e
  · cases e
    obtain ⟨a, vs, rfl, l, r⟩ := r
    exact ⟨a, vs, rfl, .inl l.sq, r⟩
  · cases e
    obtain ⟨a, vs, rfl, l, r⟩ := r
    exact ⟨a, vs, rfl, .inr l.sq, r⟩
  · cases e
    obtain ⟨a, vs, rfl, l, r⟩ := r
    exact ⟨a, vs, rfl, .inl l.sq, r⟩
  · rename_i n
    split at e
    · rename_i q
      cases e
      obtain ⟨a, rfl, ha⟩ := r
      obtain ⟨a', e1, _, vs, e3, r⟩ := hs.cell n _ q
      rw [ha] at e1
      cases e1
      exact ⟨a, vs, rfl, .inl (.of e3), r⟩
    · cases e
  · cases e
def flatD : D → Bool
  | .non => true
  | .bl _ => true
  | .int _ => true
  | .str _ => true
  | _ => false
def eqF : D → D → Bool
  | .non, .non => true
  | .bl a, .bl b => a == b
  | .bl a, .int b => (if a then 1 else 0) == b
  | .int a, .bl b => a == (if b then 1 else 0)
  | .int a, .int b => a == b
  | .str a, .str b => a == b
  | _, _ => false
theorem flatD_rep {d : D} {v : V} (h : flatD d = true) (r : Rep W ph H d v) : flatV v = true := by
  cases d <;> first | (cases r; rfl) | cases h
theorem eqF_rep {d e : D} {v u : V} (h : flatD d = true) (h' : flatD e = true) (r : Rep W ph H d v) (r' : Rep W ph H e u) : eqV v u = eqF d e := by
  cases d <;> first | cases h; done | skip
  all_goals (cases e <;> first | cases h'; done | skip)
  all_goals (cases r; cases r'; rfl)
theorem flatL_rep : ∀ {ds : List D} {vs : List V}, ds.all flatD = true → RepL W ph H ds vs → vs.all flatV = true
  | [], _, _, r => by
    have r : _ = [] := r
    rw [r]; rfl
  | d :: ds, _, h, ⟨v, us, e, r1, r2⟩ => by
    rw [List.all_cons, Bool.and_eq_true] at h
    rw [e, List.all_cons, flatD_rep h.1 r1, flatL_rep h.2 r2]; rfl
theorem inV_rep {x : D} {u : V} (hx : flatD x = true) (rx : Rep W ph H x u) : ∀ {ds : List D} {vs : List V}, ds.all flatD = true → RepL W ph H ds vs → inV u vs = ds.any fun y => eqF y x
  | [], _, _, r => by
    have r : _ = [] := r
    rw [r]; rfl
  | d :: ds, _, h, ⟨v, us, e, r1, r2⟩ => by
    rw [List.all_cons, Bool.and_eq_true] at h
    rw [e]
    show (eqV v u || inV u us) = _
    rw [List.any_cons, eqF_rep h.1 hx r1 rx, inV_rep hx rx h.2 r2]
def inB (x y : D) (m : Sto) : Option Bool :=
  match x, y with
  | .str a, .str z => match a.cps.toList with
    | [c] => some (decide (c ∈ z.cps.toList))
    | _ => none
  | x, y => match seqOf y m with
    | some xs => if flatD x = true ∧ xs.all flatD = true then some (xs.any fun y => eqF y x) else none
    | none => none
def inD (x y : D) (m : Sto) : Option D := (inB x y m).map .bl
def ninD (x y : D) (m : Sto) : Option D := (inB x y m).map fun b => .bl (!b)
theorem inD_bl (x y : D) (m : Sto) (d : D) (h : inD x y m = some d) : ∃ b, d = .bl b := by
  unfold inD at h
  cases q : inB x y m with
  | none => rw [q] at h; cases h
  | some b => rw [q] at h; cases h; exact ⟨_, rfl⟩
theorem ninD_bl (x y : D) (m : Sto) (d : D) (h : ninD x y m = some d) : ∃ b, d = .bl b := by
  unfold ninD at h
  cases q : inB x y m with
  | none => rw [q] at h; cases h
  | some b => rw [q] at h; cases h; exact ⟨_, rfl⟩
theorem sign_of {a : Str} {c : Nat} (h : a.cps.toList = [c]) : a = ⟨#[c]⟩ := by
  obtain ⟨cps⟩ := a
  have : cps = #[c] := by
    apply Array.ext'
    exact h
  rw [this]
theorem inB_rep {x y : D} {v u : V} {k : Bool} (hs : RelSto W ph H m) (r1 : Rep W ph H x v) (r2 : Rep W ph H y u) (e : inB x y m = some k) :
    (∃ (c : Nat) (z : Str), v = .str ⟨#[c]⟩ ∧ u = .str z ∧ k = decide (c ∈ z.cps.toList)) ∨ ∃ p xs, u = .ref p ∧ (SqL W.K H p xs ∨ SqT W.K H p xs) ∧ flatV v = true ∧ xs.all flatV = true ∧ k = inV v xs := by
  unfold inB at e
  split at e
  · split at e
    · rename_i c q
      cases e; cases r1; cases r2
      exact .inl ⟨c, _, by rw [sign_of q], rfl, rfl⟩
    · cases e
  · split at e
    · rename_i xs q
      split at e
      · rename_i hc
        cases e
        obtain ⟨p, vs, rfl, l, r⟩ := seqOf_rep hs r2 q
        exact .inr ⟨p, vs, rfl, l, flatD_rep hc.1 r1, flatL_rep hc.2 r, (inV_rep hc.1 r1 hc.2 r).symm⟩
      · cases e
    · cases e
theorem op2_in : Op2 W L (compareOp .In) inD := by
  refine Op2.of (rd := fun _ x y H Q => _) (fun R F => OpR.or op_in_sign (op_in_seq (X := mkX W L.N R))) fun R ph H m dx dy d x y Q F hs r1 r2 e p => ?_
  unfold inD at e
  cases q : inB dx dy m with
  | none => rw [q] at e; cases e
  | some k =>
    rw [q] at e
    cases e
    rcases inB_rep hs r1 r2 q with ⟨c, z, rfl, rfl, rfl⟩ | ⟨a, xs, rfl, l, h1, h2, rfl⟩
    · exact .inl ⟨c, z, rfl, rfl, p.b hs⟩
    · exact .inr ⟨a, xs, rfl, l, h1, h2, p.b hs⟩
theorem op2_nin : Op2 W L (compareOp .NotIn) ninD := by
  refine Op2.of (rd := fun _ x y H Q => _) (fun R F => OpR.or op_notIn_sign (op_notIn_seq (X := mkX W L.N R))) fun R ph H m dx dy d x y Q F hs r1 r2 e p => ?_
  unfold ninD at e
  cases q : inB dx dy m with
  | none => rw [q] at e; cases e
  | some k =>
    rw [q] at e
    cases e
    rcases inB_rep hs r1 r2 q with ⟨c, z, rfl, rfl, rfl⟩ | ⟨a, xs, rfl, l, h1, h2, rfl⟩
    · exact .inl ⟨c, z, rfl, rfl, p.b hs⟩
    · exact .inr ⟨a, xs, rfl, l, h1, h2, p.b hs⟩
/-! ### is -/
/-- x is None, True, False -/
def isB : D → D → Option Bool
  | .non, .non => some true
  | .bl a, .bl b => some (a == b)
  | x, .non => match x with
    | .fn _ => none
    | .cau _ _ => none
    | .cls _ => none
    | _ => some false
  | x, .bl _ => match x with
    | .fn _ => none
    | .cau _ _ => none
    | .cls _ => none
    | _ => some false
  | _, _ => none
def isD (x y : D) (_ : Sto) : Option D := (isB x y).map .bl
def isnD (x y : D) (_ : Sto) : Option D := (isB x y).map fun b => .bl (!b)
theorem isD_bl (x y : D) (m : Sto) (d : D) (h : isD x y m = some d) : ∃ b, d = .bl b := by
  unfold isD at h
  cases q : isB x y with
  | none => rw [q] at h; cases h
  | some b => rw [q] at h; cases h; exact ⟨_, rfl⟩
theorem isnD_bl (x y : D) (m : Sto) (d : D) (h : isnD x y m = some d) : ∃ b, d = .bl b := by
  unfold isnD at h
  cases q : isB x y with
  | none => rw [q] at h; cases h
  | some b => rw [q] at h; cases h; exact ⟨_, rfl⟩
/-- the data that are objects -/
def refD : D → Bool
  | .non => false
  | .bl _ => false
  | .int _ => false
  | .str _ => false
  | .cls _ => false
  | _ => true
theorem rep_ref {d : D} {v : V} (h : refD d = true) (r : Rep W ph H d v) : ∃ a, v = .ref a := by
  cases d with
  | non => cases h
  | bl b => cases h
  | int i => cases h
  | str s => cases h
  | lst xs => obtain ⟨a, _, h, _⟩ := r; exact ⟨a, h⟩
  | tup xs => obtain ⟨a, _, h, _⟩ := r; exact ⟨a, h⟩
  | fz xs => obtain ⟨a, _, h, _⟩ := r; exact ⟨a, h⟩
  | loc n => obtain ⟨a, h, _⟩ := r; exact ⟨a, h⟩
  | ob c xs => obtain ⟨a, _, _, h, _⟩ := r; exact ⟨a, h⟩
  | exc c d => obtain ⟨a, _, _, _, h, _⟩ := r; exact ⟨a, h⟩
  | cau c d => obtain ⟨a, _, _, h, _⟩ := r; exact ⟨a, h⟩
  | fn k => obtain ⟨a, h⟩ := r; exact ⟨a, h⟩
  | bex c x => obtain ⟨a, _, h, _⟩ := r; exact ⟨a, h⟩
  | cls t => cases h
theorem isB_rep {x y : D} {v u : V} {k : Bool} {vv uu : Value} (r1 : Rep W ph H x v) (r2 : Rep W ph H y u) (e : isB x y = some k) (q1 : RelV v vv) (q2 : RelV u uu) : isSame vv uu = pure k ∧ (uu = .none ∨ ∃ b, uu = .bool b) := by
  have hy : (y = .non ∧ u = .non) ∨ ∃ b, y = .bl b ∧ u = .bl b := by
    cases y with
    | non => exact .inl ⟨rfl, r2⟩
    | bl b => exact .inr ⟨b, rfl, r2⟩
    | _ => cases x <;> cases e
  rcases hy with ⟨rfl, rfl⟩ | ⟨b, rfl, rfl⟩
  · cases q2
    refine ⟨?_, .inl rfl⟩
    by_cases hf : flatD x = true
    · cases x <;> first | cases hf; done | skip
      · cases r1; cases q1; cases e; rfl
      · cases r1; cases q1; cases e; rfl
      · cases r1; obtain ⟨t, rfl⟩ := q1; cases e; rfl
      · cases r1; obtain ⟨t, rfl⟩ := q1; cases e; rfl
    · have hk : refD x = true ∧ k = false := by cases x <;> first | (exact absurd rfl hf; done) | (cases e; exact ⟨rfl, rfl⟩) | cases e
      obtain ⟨a, rfl⟩ := rep_ref hk.1 r1
      cases q1
      rw [hk.2]; rfl
  · cases q2
    refine ⟨?_, .inr ⟨b, rfl⟩⟩
    by_cases hf : flatD x = true
    · cases x <;> first | cases hf; done | skip
      · cases r1; cases q1; cases e; rfl
      · cases r1; cases q1; cases e
        rename_i b'
        show (pure (Value.bool b' == Value.bool b) : Sem Bool) = _
        cases b' <;> cases b <;> rfl
      · cases r1; obtain ⟨t, rfl⟩ := q1; cases e; rfl
      · cases r1; obtain ⟨t, rfl⟩ := q1; cases e; rfl
    · have hk : refD x = true ∧ k = false := by cases x <;> first | (exact absurd rfl hf; done) | (cases e; exact ⟨rfl, rfl⟩) | cases e
      obtain ⟨a, rfl⟩ := rep_ref hk.1 r1
      cases q1
      rw [hk.2]; rfl
theorem op2_is : Op2 W L (compareOp .Is) isD := by
  intro R F pins s σ H x y v u Q I rx ry q
  obtain ⟨ph, m, dx, dy, d, hs, r1, r2, e, p⟩ := q
  unfold isD at e
  cases q : isB dx dy with
  | none => rw [q] at e; cases e
  | some k =>
    rw [q] at e
    cases e
    have h := (isB_rep r1 r2 q rx ry).1
    show wpAny _ _ ((isSame v u) >>= fun z => pure (Value.bool z)) _ _ s
    rw [h]
    exact wpAny_bind (wpAny_pure (wpAny_pure ⟨.bl k, H, I, rfl, p.b hs⟩))
theorem op2_isn : Op2 W L (compareOp .IsNot) isnD := by
  intro R F pins s σ H x y v u Q I rx ry q
  obtain ⟨ph, m, dx, dy, d, hs, r1, r2, e, p⟩ := q
  unfold isnD at e
  cases q : isB dx dy with
  | none => rw [q] at e; cases e
  | some k =>
    rw [q] at e
    cases e
    have h := (isB_rep r1 r2 q rx ry).1
    show wpAny _ _ ((isSame v u) >>= fun z => pure (Value.bool (!z))) _ _ s
    rw [h]
    exact wpAny_bind (wpAny_pure (wpAny_pure ⟨.bl (!k), H, I, rfl, p.b hs⟩))
end
end PM

/-! PMO3: built-in functions, isinstance, subscripts, slices. -/
namespace PM
open PySem PySem.Spec L2 PyProof.Rows
section
variable {W : Wd} {Wx : WX} {ph : Plc} {H H1 : Hp} {m : Sto} {L : Lv} {R : Rst} {Q : VK} {e a b : Expr} {fa fb f : FE} {pos : Pos} {σ : L2.St}
/-! ### len, abs, max, min, str, int -/
def lenD : List D → Sto → Option D
  | [.str s], _ => if s.length ≤ 1000000 then some (.int s.length) else none
  | [x], m => match seqOf x m with
    | some xs => some (.int xs.length)
    | none => none
  | _, _ => none
theorem opn_len : OpN W L (.builtin "len") lenD := by
  refine OpN.of (rd := fun _ xs H Q => _) (fun R F => call_len) fun R ph H m ds d vs Q F hs r e p => ?_
  unfold lenD at e
  split at e
  · split at e
    · rename_i hl
      cases e
      obtain ⟨v, rfl, rv⟩ := r.one
      cases rv
      exact ⟨_, _, rfl, ⟨Nat.le_trans hl line6, rfl⟩, p.i hs⟩
    · cases e
  · split at e
    · rename_i q
      cases e
      obtain ⟨v, rfl, rv⟩ := r.one
      obtain ⟨a, vs, rfl, l, r⟩ := seqOf_rep hs rv q
      rw [r.length] at p
      refine ⟨_, _, rfl, ?_, p.i hs⟩
      rcases l with l | l
      · exact .inl ⟨vs, l, rfl⟩
      · exact .inr ⟨vs, l, rfl⟩
    · cases e
  · cases e
def absD : List D → Sto → Option D
  | [.int i], _ => some (.int (if i < 0 then -i else i))
  | _, _ => none
theorem opn_abs : OpN W L (.builtin "abs") absD := by
  refine OpN.of (rd := fun _ xs H Q => _) (fun R F => call_abs) fun R ph H m ds d vs Q F hs r e p => ?_
  unfold absD at e
  split at e
  · cases e
    obtain ⟨v, rfl, rv⟩ := r.one
    cases rv
    exact ⟨_, rfl, p.i hs⟩
  · cases e
def maxD : List D → Sto → Option D
  | [.int i, .int j], _ => some (.int (if j > i then j else i))
  | _, _ => none
def minD : List D → Sto → Option D
  | [.int i, .int j], _ => some (.int (if j < i then j else i))
  | _, _ => none
theorem opn_max (hc : L.calm = true) : OpN W L (.builtin "max") maxD := by
  refine OpN.of (rd := fun _ xs H Q => _) (fun R F => call_max2 (F.calm hc)) fun R ph H m ds d vs Q F hs r e p => ?_
  unfold maxD at e
  split at e
  · cases e
    obtain ⟨v, u, rfl, rv, ru⟩ := r.two
    cases rv; cases ru
    exact ⟨_, _, rfl, p.i hs⟩
  · cases e
theorem opn_min (hc : L.calm = true) : OpN W L (.builtin "min") minD := by
  refine OpN.of (rd := fun _ xs H Q => _) (fun R F => call_min2 (F.calm hc)) fun R ph H m ds d vs Q F hs r e p => ?_
  unfold minD at e
  split at e
  · cases e
    obtain ⟨v, u, rfl, rv, ru⟩ := r.two
    cases rv; cases ru
    exact ⟨_, _, rfl, p.i hs⟩
  · cases e
def strD : List D → Sto → Option D
  | [.int i], _ => if i.natAbs.log2 < 1920 then some (.str (toString i)) else none
  | _, _ => none
theorem opn_str : OpN W L (.type "str") strD := by
  refine OpN.of (rd := fun _ xs H Q => _) (fun R F => call_str_int) fun R ph H m ds d vs Q F hs r e p => ?_
  unfold strD at e
  split at e
  · split at e
    · rename_i hc
      cases e
      obtain ⟨v, rfl, rv⟩ := r.one
      cases rv
      exact ⟨_, rfl, hc, p.s hs⟩
    · cases e
  · cases e
/-! ### sum, all, any of value lists -/
def intsOf : List D → Option (List Int)
  | [] => some []
  | .int i :: ds => (intsOf ds).map (i :: ·)
  | _ => none
def blsOf : List D → Option (List Bool)
  | [] => some []
  | .bl b :: ds => (blsOf ds).map (b :: ·)
  | _ => none
def strsOf : List D → Option (List Str)
  | [] => some []
  | .str s :: ds => (strsOf ds).map (s :: ·)
  | _ => none
theorem intsOf_rep : ∀ {ds : List D} {vs : List V} {ns : List Int}, intsOf ds = some ns → RepL W ph H ds vs → vs = ns.map V.int
  | [], _, _, e, r => by cases e; exact r
  | d :: ds, _, ns, e, ⟨v, us, ev, r1, r2⟩ => by
    unfold intsOf at e
    split at e
    · rename_i h; cases h
    · rename_i i _ h
      cases h
      cases q : intsOf ds with
      | none => rw [q] at e; cases e
      | some ms =>
        rw [q] at e
        cases e
        cases r1
        rw [ev, intsOf_rep q r2]; rfl
    · cases e
theorem blsOf_rep : ∀ {ds : List D} {vs : List V} {ns : List Bool}, blsOf ds = some ns → RepL W ph H ds vs → vs = ns.map V.bl
  | [], _, _, e, r => by cases e; exact r
  | d :: ds, _, ns, e, ⟨v, us, ev, r1, r2⟩ => by
    unfold blsOf at e
    split at e
    · rename_i h; cases h
    · rename_i i _ h
      cases h
      cases q : blsOf ds with
      | none => rw [q] at e; cases e
      | some ms =>
        rw [q] at e
        cases e
        cases r1
        rw [ev, blsOf_rep q r2]; rfl
    · cases e
theorem strsOf_rep : ∀ {ds : List D} {vs : List V} {ns : List Str}, strsOf ds = some ns → RepL W ph H ds vs → vs = ns.map V.str
  | [], _, _, e, r => by cases e; exact r
  | d :: ds, _, ns, e, ⟨v, us, ev, r1, r2⟩ => by
    unfold strsOf at e
    split at e
    · rename_i h; cases h
    · rename_i i _ h
      cases h
      cases q : strsOf ds with
      | none => rw [q] at e; cases e
      | some ms =>
        rw [q] at e
        cases e
        cases r1
        rw [ev, strsOf_rep q r2]; rfl
    · cases e
@[simp] theorem intsOf_map (ns : List Int) : intsOf (ns.map D.int) = some ns := by
  induction ns with
  | nil => rfl
  | cons n ns ih => simp [intsOf, ih]
@[simp] theorem blsOf_map (ns : List Bool) : blsOf (ns.map D.bl) = some ns := by
  induction ns with
  | nil => rfl
  | cons n ns ih => simp [blsOf, ih]
@[simp] theorem strsOf_map (ns : List Str) : strsOf (ns.map D.str) = some ns := by
  induction ns with
  | nil => rfl
  | cons n ns ih => simp [strsOf, ih]
theorem lstOf_sq {d : D} {v : V} {xs : List D} (hs : RelSto W ph H m) (r : Rep W ph H d v) (e : lstOf d m = some xs) : ∃ a vs, v = .ref a ∧ SqL W.K H a vs ∧ RepL W ph H xs vs :=
  let ⟨a, vs, h1, h2, h3⟩ := lstOf_rep hs r e
  ⟨a, vs, h1, .of h2, h3⟩
def aggD {α : Type} (of : List D → Option (List α)) (g : List α → D) : List D → Sto → Option D
  | [x], m => match lstOf x m with
    | some xs => (of xs).map g
    | none => none
  | _, _ => none
theorem agg_rep {α : Type} {of : List D → Option (List α)} {g : List α → D} {h : α → V} {ds : List D} {d : D} {vs : List V} (hof : ∀ {ds : List D} {vs : List V} {ns : List α}, of ds = some ns → RepL W ph H ds vs → vs = ns.map h) (hs : RelSto W ph H m) (r : RepL W ph H ds vs) (e : aggD of g ds m = some d) :
    ∃ (a : Addr) (ns : List α), vs = [.ref a] ∧ SqL W.K H a (ns.map h) ∧ d = g ns := by
  unfold aggD at e
  split at e
  · split at e
    · rename_i xs q
      obtain ⟨v, rfl, rv⟩ := r.one
      obtain ⟨a, us, rfl, l, r⟩ := lstOf_sq hs rv q
      cases q2 : of xs with
      | none => rw [q2] at e; cases e
      | some ns =>
        rw [q2] at e
        cases e
        have := hof q2 r
        subst this
        exact ⟨a, ns, rfl, l, rfl⟩
    · cases e
  · cases e
def sumD := aggD intsOf fun ns => .int ns.sum
def allD := aggD blsOf fun bs => .bl (bs.all id)
def anyD := aggD blsOf fun bs => .bl (bs.any id)
theorem opn_sum (hc : L.calm = true) : OpN W L (.builtin "sum") sumD := by
  refine OpN.of (rd := fun _ xs H Q => _) (fun R F => cr_sum (F.calm hc)) fun R ph H m ds d vs Q F hs r e p => ?_
  obtain ⟨a, ns, rfl, l, rfl⟩ := agg_rep intsOf_rep hs r e
  exact ⟨a, ns, rfl, l, p.i hs⟩
theorem opn_all (hc : L.calm = true) : OpN W L (.builtin "all") allD := by
  refine OpN.of (rd := fun _ xs H Q => _) (fun R F => cr_all (F.calm hc)) fun R ph H m ds d vs Q F hs r e p => ?_
  obtain ⟨a, ns, rfl, l, rfl⟩ := agg_rep blsOf_rep hs r e
  exact ⟨a, ns, rfl, l, p.b hs⟩
theorem opn_any (hc : L.calm = true) : OpN W L (.builtin "any") anyD := by
  refine OpN.of (rd := fun _ xs H Q => _) (fun R F => cr_any (F.calm hc)) fun R ph H m ds d vs Q F hs r e p => ?_
  obtain ⟨a, ns, rfl, l, rfl⟩ := agg_rep blsOf_rep hs r e
  exact ⟨a, ns, rfl, l, p.b hs⟩
/-! ### isinstance -/
def tyD : D → Sto → Option Ty
  | .non, _ => some (.bi .non)
  | .bl _, _ => some (.bi .bool)
  | .int _, _ => some (.bi .int)
  | .str _, _ => some (.bi .str)
  | .lst _, _ => some (.bi .lst)
  | .tup _, _ => some (.bi .tup)
  | .ob c _, _ => some (.own c)
  | .exc c _, _ => some (.exc c)
  | .bex c _, _ => some (.exc c)
  | .loc n, m => match m[n]? with
    | some (.lst _) => some (.bi .lst)
    | some (.dct _) => some (.bi .dct)
    | some (.ins c _) => some (.own c)
    | _ => none
  | _, _ => none
def isiBi (a b : BT) : Bool := decide (a = b) || (decide (a = .bool) && decide (b = .int))
theorem isiBi_kit {K : PySem.W.Frag} {a b : BT} (ha : a ≠ .val) (hb : b ≠ .val) : PySem.W.kitOne K (.type a.nm) (.type b.nm) = some (isiBi a b) := by
  refine kit_ty ?_
  cases a <;> first | exact absurd rfl ha | skip
  all_goals (cases b <;> first | exact absurd rfl hb | decide +kernel)
structure TyOwn (W : Wk) (c : Nat) : Prop where
  cl : Cls W.K (W.C c)
  ha : PySem.W.findIn W.K (.ref (W.C c)) "__class__" = some (some (.builtin "object.__class__"))
  hn : PySem.W.specialIn W.K (.builtin "object.__class__") "__get__" = some (some (.builtin "getset_descriptor.__get__"))
  htk : PySem.W.takesIn W.K (.builtin "object.__class__") = some true
  hm : PySem.W.mroIn W.K (W.C c) (.type "object") = some true
structure TyExc (W : Wk) (c : Nat) : Prop where
  cl : (PySem.W.clsIn W.K (W.C c)).isSome = true
  ga : PySem.W.findIn W.K (.ref (W.C c)) "__getattribute__" = some (some (.builtin "BaseException.__getattribute__"))
  gt : ∃ gt, PySem.W.findIn W.K (.ref (W.C c)) "__getattr__" = some gt
  sub : PySem.W.subIn W.K (.ref (W.C c)) (.type "BaseException") = some true
  ha : PySem.W.findIn W.K (.ref (W.C c)) "__class__" = some (some (.builtin "object.__class__"))
  hn : PySem.W.specialIn W.K (.builtin "object.__class__") "__get__" = some (some (.builtin "getset_descriptor.__get__"))
  htk : PySem.W.takesIn W.K (.builtin "object.__class__") = some true
  hm : PySem.W.mroIn W.K (W.C c) (.type "object") = some true
/-- what isinstance says, by kinds -/
structure IsiTab (W : Wk) (tab : Ty → Ty → Option Bool) : Prop where
  kit : ∀ t u b, tab t u = some b → PySem.W.kitOne W.K (t.val W) (u.val W) = some b
  own : ∀ c u b, tab (.own c) u = some b → TyOwn W c
  exc : ∀ c u b, tab (.exc c) u = some b → TyExc W c
/-- kinds of built-in values by the table of the model, all others as listed -/
def tabOf (l : List ((Ty × Ty) × Bool)) : Ty → Ty → Option Bool
  | .bi a, .bi b => if a = .val ∨ b = .val then none else some (isiBi a b)
  | t, u => l.lookup (t, u)
def tyFact (W : Wk) : Ty → Prop
  | .own c => TyOwn W c
  | .exc c => TyExc W c
  | .bi _ => True
  | .bx _ => True
def TabF (W : Wk) : List ((Ty × Ty) × Bool) → Prop
  | [] => True
  | p :: r => (PySem.W.kitOne W.K (p.1.1.val W) (p.1.2.val W) = some p.2 ∧ tyFact W p.1.1) ∧ TabF W r
theorem TabF.at {W : Wk} : ∀ {l : List ((Ty × Ty) × Bool)} {t u : Ty} {b : Bool}, TabF W l → l.lookup (t, u) = some b → PySem.W.kitOne W.K (t.val W) (u.val W) = some b ∧ tyFact W t
  | [], _, _, _, _, e => by cases e
  | p :: r, t, u, b, h, e => by
    rw [List.lookup_cons] at e
    split at e
    · rename_i q
      cases e
      have q := eq_of_beq q
      obtain ⟨⟨t', u'⟩, b'⟩ := p
      cases q
      exact h.1
    · exact TabF.at h.2 e
theorem isiTab_of {W : Wk} {l : List ((Ty × Ty) × Bool)} (h : TabF W l) : IsiTab W (tabOf l) := by
  refine ⟨fun t u r e => ?_, fun c u r e => ?_, fun c u r e => ?_⟩
  · cases t with
    | bi a =>
      cases u with
      | bi b =>
        have e : (if a = .val ∨ b = .val then none else some (isiBi a b)) = some r := e
        split at e
        · cases e
        · rename_i hv
          cases e
          exact isiBi_kit (fun z => hv (.inl z)) (fun z => hv (.inr z))
      | own c => exact (h.at e).1
      | exc c => exact (h.at e).1
      | bx c => exact (h.at e).1
    | own c => exact (h.at e).1
    | exc c => exact (h.at e).1
    | bx c => exact (h.at e).1
  · exact (h.at e).2
  · exact (h.at e).2
def anyT (tab : Ty → Ty → Option Bool) (t : Ty) : List D → Option Bool
  | [] => some false
  | .cls u :: us => match tab t u with
    | some true => some true
    | some false => anyT tab t us
    | none => none
  | _ => none
def isiD (tab : Ty → Ty → Option Bool) : List D → Sto → Option D
  | [x, .cls u], m => match tyD x m with
    | some t => (tab t u).map .bl
    | none => none
  | [x, .tup (u :: us)], m => match tyD x m with
    | some t => (anyT tab t (u :: us)).map .bl
    | none => none
  | _, _ => none
theorem kitX_rep {X : Cx} {pins : List (Addr × Obj)} {s : Shared} {tab : Ty → Ty → Option Bool} (hX : X.K = W.K) (hT : IsiTab W.toWk tab) (I : Inv X pins σ H s) {x : D} {v : V} {u : Value} {t : Ty} (hs : RelSto W ph H m) (r : Rep W ph H x v) (rv : RelV v u) (e : tyD x m = some t)
    (ho : ∀ c, t = .own c → TyOwn W.toWk c) (hx : ∀ c, t = .exc c → TyExc W.toWk c) : ∃ P : Heap → Prop, PySem.W.KitX W.K u (t.val W.toWk) P ∧ P s.heap ∧ u ≠ .builtin "__main__.__loader__#opaque" := by
  have base : ∀ t', TyX W.K H v t' → t' = t.val W.toWk → ∃ P : Heap → Prop, PySem.W.KitX W.K u (t.val W.toWk) P ∧ P s.heap ∧ u ≠ .builtin "__main__.__loader__#opaque" := fun t' h et => by
    rw [← et, ← hX]
    rw [← hX] at h
    exact kit_of I rv h
  unfold tyD at e
  split at e
  · cases e; cases r; exact base _ (.base .non) rfl
  · cases e; cases r; exact base _ (.base (.bl _)) rfl
  · cases e; cases r; exact base _ (.base (.int _)) rfl
  · cases e; cases r; exact base _ (.base (.str _)) rfl
  · cases e; obtain ⟨a, vs, rfl, l, r⟩ := r; exact base _ (.base (.lst l.1)) rfl
  · cases e; obtain ⟨a, vs, rfl, l, r⟩ := r; exact base _ (.base (.tup l.1)) rfl
  · cases e
    obtain ⟨a, dx, vs, rfl, h, _⟩ := r
    have k := ho _ rfl
    exact base _ (.base (.ins h k.cl k.ha k.hn k.htk k.hm)) rfl
  · cases e
    obtain ⟨a, dx, y, t1, rfl, h, _, h2, _⟩ := r
    have k := hx _ rfl
    obtain ⟨gt, hgt⟩ := k.gt
    cases (show u = Value.ref a from rv)
    obtain ⟨h1, _⟩ := I.hok a _ h
    obtain ⟨od, hod⟩ := objOk_get (I.hok dx _ h2)
    exact ⟨_, PySem.W.kitx_exc k.cl k.ga hgt k.sub k.ha k.hn k.htk k.hm, (⟨h1, rfl, rfl, hod⟩ : PySem.W.InstAt s.heap a _ (W.C _) (some od)), fun z => nomatch z⟩
  · cases e
    obtain ⟨a, t1, rfl, h, _⟩ := r
    have k := hx _ rfl
    obtain ⟨gt, hgt⟩ := k.gt
    cases (show u = Value.ref a from rv)
    obtain ⟨h1, _⟩ := I.hok a _ h
    exact ⟨_, PySem.W.kitx_exc k.cl k.ga hgt k.sub k.ha k.hn k.htk k.hm, (⟨h1, rfl, rfl, trivial⟩ : PySem.W.InstAt s.heap a _ (W.C _) none), fun z => nomatch z⟩
  · rename_i n
    obtain ⟨a, rfl, ha⟩ := r
    cases q : m[n]? with
    | none => rw [q] at e; cases e
    | some c0 =>
      rw [q] at e
      obtain ⟨a', e1, _, e3⟩ := hs.cell n _ q
      rw [ha] at e1; cases e1
      cases c0 with
      | lst xs =>
        cases e
        obtain ⟨vs, e3, _⟩ := e3
        exact base _ (.base (.lst e3)) rfl
      | dct xs =>
        cases e
        obtain ⟨vs, e3, _⟩ := e3
        exact base _ (.base (.dK e3)) rfl
      | ins c fs =>
        cases e
        obtain ⟨dx, fv, e3, _⟩ := e3
        have k := ho _ rfl
        exact base _ (.base (.ins e3 k.cl k.ha k.hn k.htk k.hm)) rfl
      | dead => cases e
  · cases e
theorem clsV_val {T : Ty} {v : V} {u : Value} (r : Rep W ph H (.cls T) v) (rv : RelV v u) : u = T.val W.toWk := by
  have r : v = clsV W.toWk T := r
  subst r
  cases T <;> exact rv
theorem anyT_rep {tab : Ty → Ty → Option Bool} (hT : IsiTab W.toWk tab) {t : Ty} : ∀ {us : List D} {vs : List V} {ws : List Value} {k : Bool}, RepL W ph H us vs → Vals vs ws → anyT tab t us = some k → PySem.W.kitAny W.K (t.val W.toWk) ws = some k
  | [], _, _, k, r, rv, e => by
    have r : _ = [] := r
    subst r
    cases rv
    exact e
  | d :: us, _, _, k, ⟨v, vs, ev, r1, r2⟩, rv, e => by
    subst ev
    cases rv with
    | cons rv1 rv2 =>
      unfold anyT at e
      split at e
      · rename_i h; cases h
      · rename_i u _ h
        cases h
        rw [clsV_val r1 rv1]
        unfold PySem.W.kitAny
        split at e
        · rename_i q; rw [hT.kit _ _ _ q]; exact e
        · rename_i q; rw [hT.kit _ _ _ q]; exact anyT_rep hT r2 rv2 e
        · cases e
      · cases e
theorem anyT_some {tab : Ty → Ty → Option Bool} {t : Ty} {us : List D} {k : Bool} (e : anyT tab t us = some k) : us = [] ∨ ∃ u b, tab t u = some b := by
  cases us with
  | nil => exact .inl rfl
  | cons d us =>
    right
    unfold anyT at e
    split at e
    · rename_i h; cases h
    · rename_i u _ h
      cases h
      split at e
      · rename_i q; exact ⟨u, _, q⟩
      · rename_i q; exact ⟨u, _, q⟩
      · cases e
    · cases e
theorem opn_isi {tab : Ty → Ty → Option Bool} (hT : IsiTab W.toWk tab) : OpN W L (.builtin "isinstance") (isiD tab) := by
  intro R F pins s σ H xs us Q I r q
  obtain ⟨ph, m, ds, d, hs, r1, e, p⟩ := q
  unfold isiD at e
  split at e
  · rename_i x0 u
    split at e
    · rename_i t q
      cases q2 : tab t u with
      | none => rw [q2] at e; cases e
      | some k =>
        rw [q2] at e
        cases e
        obtain ⟨v, w, rfl, rx, rc⟩ := r1.two
        obtain ⟨u1, u2, rfl, rv1, rv2⟩ := vals2 r
        obtain ⟨P, Z, pp, hx⟩ := kitX_rep (X := mkX W L.N R) rfl hT I hs rx rv1 q (fun c h => by subst h; exact hT.own _ _ _ q2) (fun c h => by subst h; exact hT.exc _ _ _ q2)
        have hc := clsV_val rc rv2
        subst hc
        exact PySem.W.kia_one Z I.kIn pp (hT.kit _ _ _ q2) hx fun tk => ⟨.bl k, H, I.tok tk, rfl, p.b hs⟩
    · cases e
  · rename_i x0 u0 us'
    split at e
    · rename_i t q
      cases q2 : anyT tab t (u0 :: us') with
      | none => rw [q2] at e; cases e
      | some k =>
        rw [q2] at e
        cases e
        obtain ⟨v, w, rfl, rx, rc⟩ := r1.two
        obtain ⟨u1, u2, rfl, rv1, rv2⟩ := vals2 r
        obtain ⟨tp, cs, rfl, l, rcs⟩ := rc
        cases (show u2 = Value.ref tp from rv2)
        obtain ⟨_, its, rv, o, h1, h2, n, h3⟩ := (show ObjOk W.P W.w H s.heap tp (.tup cs) from I.hok tp _ l.1)
        obtain ⟨oc, od, dt, sl⟩ := o
        simp only at h2 h3
        subst h2 h3
        have hk := anyT_rep hT rcs rv q2
        have hne : ∃ u b, tab t u = some b := by
          rcases anyT_some q2 with h | h
          · cases h
          · exact h
        obtain ⟨u, b, hu⟩ := hne
        obtain ⟨P, Z, pp, hx⟩ := kitX_rep (X := mkX W L.N R) rfl hT I hs rx rv1 q (fun c h => by subst h; exact hT.own _ _ _ hu) (fun c h => by subst h; exact hT.exc _ _ _ hu)
        exact PySem.W.kia_tup Z I.kIn pp h1 hk hx fun tk => ⟨.bl k, H, I.tok tk, rfl, p.b hs⟩
    · cases e
  · cases e
/-- a built-in type's name; an own class's -/
theorem de_ty {x : Str} {T : BT} (hm : W.mg x = none) (hv : bootBuiltins x = some (.type T.nm)) (hg : L.sc.names.lookup x = some .globalImplicit := by rfl) (hn : x ≠ "__name__" := by decide) (hd : (x == ("__debug__" : Str)) = false := by decide) : DE W L (.Name x pos) (eC (.cls (.bi T))) := by
  intro R F Wx tk
  refine PE.imp (pe_bltn (X := mkX W L.N R) (v := .ty T.nm) (F.gl x hg) hm hv rfl hn hd) fun σ H Q h => ?_
  obtain ⟨ph, env, m, he, hs, o, e, p⟩ := h
  cases e
  exact p _ H ph (.refl hs) rfl
theorem de_own {x : Str} {T : Ty} {C : Addr} (hm : W.mg x = some (.ref C)) (hT : clsV W.toWk T = .ref C) (hg : L.sc.names.lookup x = some .globalImplicit := by rfl) (hd : (x == ("__debug__" : Str)) = false := by decide) : DE W L (.Name x pos) (eC (.cls T)) :=
  de_glob (v := .ref C) hm rfl (fun _ _ => hT.symm) hg hd
end
end PM

/-! PMO4: sorted, min of a list. -/
namespace PM
open PySem PySem.Spec L2 PyProof.Rows
def leS (a b : Str) : Bool := decide (a.cps.toList ≤ b.cps.toList)
def leI (a b : Int) : Bool := decide (a ≤ b)
section
variable {X : Cx} {pins : List (Addr × Obj)} {σ : L2.St} {H : Hp} {s : Shared}
theorem each_ints : ∀ {ns : List Int} {its : List Value}, Vals (ns.map V.int) its → PySem.W.EachIs (fun v n => RelV (V.int n) v) its ns
  | [], _, .nil => .nil
  | n :: ns, _, .cons r t => .cons r (each_ints t)
theorem each_ints' : ∀ {ns : List Int} {its : List Value}, PySem.W.EachIs (fun v n => RelV (V.int n) v) its ns → Vals (ns.map V.int) its
  | _, _, .nil => .nil
  | _, _, .cons r t => .cons r (each_ints' t)
theorem each_strs : ∀ {ns : List Str} {its : List Value}, Vals (ns.map V.str) its → PySem.W.EachIs (fun v n => RelV (V.str n) v) its ns
  | [], _, .nil => .nil
  | n :: ns, _, .cons r t => .cons r (each_strs t)
theorem each_strs' : ∀ {ns : List Str} {its : List Value}, PySem.W.EachIs (fun v n => RelV (V.str n) v) its ns → Vals (ns.map V.str) its
  | _, _, .nil => .nil
  | _, _, .cons r t => .cons r (each_strs' t)
def rSrt {α : Type} (K : PySem.W.Frag) (en : α → V) (le : α → α → Bool) : List V → Hp → VK → Prop := fun vs H Q => ∃ (a : Addr) (ns : List α), vs = [V.ref a] ∧ SqL K H a (ns.map en) ∧ ns.length ≤ 100000 ∧ ∀ p, H p = none → Q (.ref p) (upd H p (.lst ((ns.mergeSort le).map en)))
theorem cr_srtI (hu : X.A.units + 64 < cLine) : CallR X (.builtin "sorted") (rSrt X.K V.int leI) := by
  intro pins s σ H vs us Q I r h
  obtain ⟨a, ns, rfl, hs, hl, q⟩ := h
  obtain ⟨its, rv, hi, _⟩ := I.list hs
  rw [Vals.ref1 r]
  have hlen := rv.length
  rw [List.length_map] at hlen
  have e := each_ints rv
  refine PySem.W.sorted_data (enc := fun n => PyData.int n) (R := fun v n => RelV (V.int n) v) hi.isList e (e.mono fun v n hv => ?_) (PySem.W.AllAlike.of fun _ _ => by simp [PySem.W.alike]) (PySem.W.Sortable.others fun _ => ⟨(by intro z; cases z), (by intro _ z; cases z)⟩) (Nat.le_trans hl line5) (fun b _ => ?_) fun out _ eo => ?_
  · obtain ⟨t, rfl⟩ := hv
    exact ⟨[], .int _ _⟩
  · show X.A.units + 2 + 0 < cLine
    omega
  · rw [PySem.W.dataLe_int (fun n : Int => n)] at eo
    obtain ⟨ep, he'⟩ := PyProof.Rows.sortedAll_at s.heap its out.toArray
    have hz : ((ns.mergeSort leI).map V.int).length ≤ sizeLine := by rw [List.length_map, List.length_mergeSort]; exact Nat.le_trans hl line5
    exact ⟨.ref _, upd H (s.heap.objs.size + 1) (.lst ((ns.mergeSort leI).map V.int)), I.laid (t' := s.toks) (fun _ _ => PyProof.Rows.sortedAll_old) (Nat.le_succ _) ⟨hz, out.toArray.toList, ep, by rw [List.toList_toArray]; exact each_ints' eo, he'⟩, rfl, q _ (I.hok.fresh (Nat.le_succ _))⟩
theorem cr_srtS (hu : X.A.units + 64 < cLine) : CallR X (.builtin "sorted") (rSrt X.K V.str leS) := by
  intro pins s σ H vs us Q I r h
  obtain ⟨a, ns, rfl, hs, hl, q⟩ := h
  obtain ⟨its, rv, hi, _⟩ := I.list hs
  rw [Vals.ref1 r]
  have e := each_strs rv
  refine PySem.W.sorted_data (enc := fun n => PyData.str n) (R := fun v n => RelV (V.str n) v) hi.isList e (e.mono fun v n hv => ?_) (PySem.W.AllAlike.of fun _ _ => by simp [PySem.W.alike]) (PySem.W.Sortable.others fun _ => ⟨(by intro z; cases z), (by intro _ z; cases z)⟩) (Nat.le_trans hl line5) (fun b _ => ?_) fun out _ eo => ?_
  · obtain ⟨t, rfl⟩ := hv
    exact ⟨[], .str _ _⟩
  · show X.A.units + 2 + 0 < cLine
    omega
  · rw [PySem.W.dataLe_str (fun n : Str => n)] at eo
    obtain ⟨ep, he'⟩ := PyProof.Rows.sortedAll_at s.heap its out.toArray
    have hz : ((ns.mergeSort leS).map V.str).length ≤ sizeLine := by rw [List.length_map, List.length_mergeSort]; exact Nat.le_trans hl line5
    exact ⟨.ref _, upd H (s.heap.objs.size + 1) (.lst ((ns.mergeSort leS).map V.str)), I.laid (t' := s.toks) (fun _ _ => PyProof.Rows.sortedAll_old) (Nat.le_succ _) ⟨hz, out.toArray.toList, ep, by rw [List.toList_toArray]; exact each_strs' eo, he'⟩, rfl, q _ (I.hok.fresh (Nat.le_succ _))⟩
end
def sortedD : List D → Sto → Option D
  | [x], m => match lstOf x m with
    | some xs => if xs.length ≤ 100000 then match intsOf xs with
      | some ns => some (.lst ((ns.mergeSort leI).map .int))
      | none => match strsOf xs with
        | some ss => some (.lst ((ss.mergeSort leS).map .str))
        | none => none
      else none
    | none => none
  | _, _ => none
theorem intsOf_len : ∀ {xs : List D} {ns : List Int}, intsOf xs = some ns → xs = ns.map .int
  | [], ns, e => by unfold intsOf at e; cases e; rfl
  | x :: xs, ns, e => by
    cases x <;> first | (unfold intsOf at e; cases e; done) | skip
    rename_i i
    unfold intsOf at e
    cases q : intsOf xs with
    | none => rw [q] at e; cases e
    | some ms => rw [q] at e; cases e; rw [intsOf_len q]; rfl
theorem strsOf_len : ∀ {xs : List D} {ns : List Str}, strsOf xs = some ns → xs = ns.map .str
  | [], ns, e => by unfold strsOf at e; cases e; rfl
  | x :: xs, ns, e => by
    cases x <;> first | (unfold strsOf at e; cases e; done) | skip
    rename_i i
    unfold strsOf at e
    cases q : strsOf xs with
    | none => rw [q] at e; cases e
    | some ms => rw [q] at e; cases e; rw [strsOf_len q]; rfl
section
variable {W : Wd} {L : Lv} {ph : Plc} {H : Hp}
theorem ints_rep : ∀ ns : List Int, RepL W ph H (ns.map .int) (ns.map V.int)
  | [] => rfl
  | n :: ns => .cons rfl (ints_rep ns)
theorem strs_rep' : ∀ ns : List Str, RepL W ph H (ns.map .str) (ns.map V.str)
  | [] => rfl
  | n :: ns => .cons rfl (strs_rep' ns)
theorem opn_sorted : OpN W L (.builtin "sorted") sortedD := by
  refine OpN.of (rd := fun R xs H Q => rSrt W.K V.int leI xs H Q ∨ rSrt W.K V.str leS xs H Q) (fun R F => ?_) fun R ph H m ds d vs Q F hs r e p => ?_
  · intro pins s σ H xs us Q I r h
    rcases h with h | h
    · exact cr_srtI (X := mkX W L.N R) F.un pins s σ H xs us Q I r h
    · exact cr_srtS (X := mkX W L.N R) F.un pins s σ H xs us Q I r h
  · unfold sortedD at e
    split at e
    · rename_i x
      obtain ⟨v, rfl, rv⟩ := r.one
      cases q : lstOf x m with
      | none => rw [q] at e; cases e
      | some xs =>
        simp only [q] at e
        obtain ⟨a, us, rfl, l, r⟩ := lstOf_sq hs rv q
        split at e
        · rename_i hl
          cases q2 : intsOf xs with
          | some ns =>
            simp only [q2] at e
            cases e
            have := intsOf_rep q2 r
            subst this
            have hx := intsOf_len q2
            refine .inl ⟨a, ns, rfl, l, by rw [hx, List.length_map] at hl; exact hl, fun b hb => ?_⟩
            exact p _ _ ph (.put hb hs) (Rep.newL hb hs (ints_rep _))
          | none =>
            simp only [q2] at e
            cases q3 : strsOf xs with
            | some ns =>
              simp only [q3] at e
              cases e
              have := strsOf_rep q3 r
              subst this
              have hx := strsOf_len q3
              refine .inr ⟨a, ns, rfl, l, by rw [hx, List.length_map] at hl; exact hl, fun b hb => ?_⟩
              exact p _ _ ph (.put hb hs) (Rep.newL hb hs (strs_rep' _))
            | none => simp only [q3] at e; cases e
        · cases e
    · cases e
end
/-! ### min of a list of texts -/
def minS (x : Str) (xs : List Str) : Str := xs.foldl (fun a y => if decide (y.cps.toList < a.cps.toList) = true then y else a) x
theorem minD_strs : ∀ (xs : List Str) (x : Str), PySem.W.minD (.str x) (xs.map .str) = .str (minS x xs)
  | [], _ => rfl
  | y :: ys, x => by
    show PySem.W.minD (if PySem.W.dataLt (.str y) (.str x) = true then .str y else .str x) (ys.map .str) = .str (minS (if decide (y.cps.toList < x.cps.toList) = true then y else x) ys)
    rw [PySem.W.dataLt_str]
    cases decide (y.cps.toList < x.cps.toList) with
    | true => exact minD_strs ys y
    | false => exact minD_strs ys x
theorem reads_strs {h : Heap} : ∀ {ss : List Str} {its : List Value}, Vals (ss.map V.str) its → ReadsAll h its (ss.map .str) []
  | [], _, .nil => .nil
  | s :: ss, _, .cons r t => by
    obtain ⟨tk, rfl⟩ := r
    exact .cons (as := []) (bs := []) (.str _ _) (reads_strs t)
theorem alike_strsAll : ∀ ss : List Str, PySem.W.AlikeAll (ss.map .str) := fun ss => by
  constructor
  · intro d hd d' hd'
    obtain ⟨b, _, rfl⟩ := List.mem_map.mp hd
    obtain ⟨b', _, rfl⟩ := List.mem_map.mp hd'
    simp [PySem.W.alike]
  · intro d hd
    obtain ⟨b, _, rfl⟩ := List.mem_map.mp hd
    first | rfl | simp [PySem.W.alike] | decide
def minXD : List D → Sto → Option D
  | [x], m => match lstOf x m with
    | some xs => if xs.length ≤ 100000 then match strsOf xs with
      | some (s :: ss) => some (.str (minS s ss))
      | _ => none
      else none
    | none => none
  | ds, m => minD ds m
theorem minXD_two {x y : D} {m : Sto} : minXD [x, y] m = minD [x, y] m := rfl
section
variable {W : Wd} {L : Lv}
def rMinS (K : PySem.W.Frag) : List V → Hp → VK → Prop := fun vs H Q => ∃ (a : Addr) (s : Str) (ss : List Str), vs = [V.ref a] ∧ SqL K H a ((s :: ss).map V.str) ∧ Q (.str (minS s ss)) H
theorem dep_strsS : ∀ ss : List Str, PyData.depthAll (ss.map .str) = 0
  | [] => rfl
  | s :: ss => by simp only [List.map_cons, PyData.depthAll, PyData.depth, dep_strsS ss]; rfl
theorem cr_minS {X : Cx} (hc : X.calm = true) (hu : X.A.units + 64 < cLine) : CallR X (.builtin "min") (rMinS X.K) := by
  intro pins s σ H vs us Q I r h
  obtain ⟨a, z, zs, rfl, hs, q⟩ := h
  obtain ⟨its, rv, hl, _⟩ := I.list hs
  rw [Vals.ref1 r]
  refine PySem.W.min_list_data (x := .str z) (xs := zs.map .str) (as := []) (I.ok.hd hc) hl.isList (by rw [List.toList_toArray]; exact reads_strs (ss := z :: zs) rv) (alike_strsAll (z :: zs)) ?_ fun i v h' tk bs hv hr hk => ?_
  · have : PyData.depthAll (.str z :: zs.map .str) = 0 := dep_strsS (z :: zs)
    rw [this]; omega
  · rw [minD_strs] at hr
    cases hr
    exact ⟨.str _, H, I.kept hk, ⟨_, rfl⟩, q⟩
theorem opn_minX (hc : L.calm = true) : OpN W L (.builtin "min") minXD := by
  refine OpN.of (rd := fun R xs H Q => rDN W minD xs H Q ∨ rMinS W.K xs H Q) (fun R F => ?_) fun R ph H m ds d vs Q F hs r e p => ?_
  · intro pins s σ H xs us Q I r h
    rcases h with h | h
    · exact opn_min hc R F pins s σ H xs us Q I r h
    · exact cr_minS (X := mkX W L.N R) (F.calm hc) F.un pins s σ H xs us Q I r h
  · unfold minXD at e
    split at e
    · rename_i x
      obtain ⟨v, rfl, rv⟩ := r.one
      cases q : lstOf x m with
      | none => rw [q] at e; cases e
      | some xs =>
        simp only [q] at e
        obtain ⟨a, us, rfl, l, r⟩ := lstOf_sq hs rv q
        split at e
        · split at e
          · rename_i z zs q2
            cases e
            have := strsOf_rep q2 r
            subst this
            exact .inr ⟨a, z, zs, rfl, l, p.s hs⟩
          · cases e
        · cases e
    · exact .inl ⟨ph, m, ds, d, hs, r, e, p⟩
end
end PM

/-! PMS: subscripts, slices; places of the store: made, written, frozen. -/
namespace PM
open PySem PySem.Spec L2 PyProof.Rows
section
variable {W : Wd} {Wx : WX} {ph ph' : Plc} {H H' H1 : Hp} {m m' : Sto} {L : Lv} {R : Rst} {X : Cx} {Q : VK} {Dn : Ends} {e a b o i v : Expr} {fa fb f fo fi fv : FE} {pos : Pos} {σ : L2.St} {env : Nv}
/-! ### subscripts -/
def ixD (x y : D) (m : Sto) : Option D :=
  match x, y with
  | .str s, .int i => if s.length ≤ 1000000 then (atI s.cps.toList i).map fun c => .str ⟨#[c]⟩ else none
  | x, .int i => (seqOf x m).bind fun xs => atI xs i
  | _, _ => none
theorem RepL.atI {ds : List D} {vs : List V} {i : Int} {d : D} (r : RepL W ph H ds vs) (e : L2.atI ds i = some d) : ∃ v, L2.atI vs i = some v ∧ Rep W ph H d v := by
  unfold L2.atI at e ⊢
  rw [← r.length]
  cases q : ixN ds.length i with
  | none => rw [q] at e; cases e
  | some j =>
    rw [q] at e
    exact r.get e
theorem de_ix (ha : DE W L a fa) (hb : DE W L b fb) (hs : PlainIx b := by intro _ _; rfl) : DE W L (.Subscript a b pos) (e2 ixD fa fb) := by
  intro R F Wx tk
  refine PE.imp (pe_ix (X := mkX W L.N R) (IxR.or ix_str (IxR.or ix_list ix_tup)) (ha R F Wx tk) (hb R F Wx tk) hs) fun σ H Q h => ?_
  have hq : ∀ x y H, rD2 W ixD x y H Q → (rIxS x y H Q ∨ (rIxL W.K x y H Q ∨ rIxT W.K x y H Q)) := by
    intro x y H q
    obtain ⟨ph, m, dx, dy, d, hs, r1, r2, e, p⟩ := q
    unfold ixD at e
    split at e
    · rename_i s i
      split at e
      · rename_i hl
        cases q : L2.atI s.cps.toList i with
        | none => rw [q] at e; cases e
        | some c =>
          rw [q] at e
          cases e; cases r1; cases r2
          exact .inl ⟨s, i, c, rfl, rfl, Nat.le_trans hl line6, q, p.s hs⟩
      · cases e
    · rename_i i _
      cases q : seqOf dx m with
      | none => rw [q] at e; cases e
      | some xs =>
        rw [q] at e
        have e : L2.atI xs i = some d := e
        obtain ⟨a, vs, rfl, l, r⟩ := seqOf_rep hs r1 q
        obtain ⟨v, e1, rv⟩ := r.atI e
        cases r2
        rcases l with l | l
        · exact .inr (.inl ⟨a, vs, i, v, rfl, rfl, l, e1, p.here hs rv⟩)
        · exact .inr (.inr ⟨a, vs, i, v, rfl, rfl, l, e1, p.here hs rv⟩)
    · cases e
  exact tE.imp (fun v1 H1 q => tE.imp (fun v2 H2 q => hq _ _ _ q) q) (t_op2 h)
/-! ### slices -/
def cutL {α : Type} (xs : List α) (lo hi : Option Int) : List α := (xs.drop (HT.sIx xs.length 0 lo)).take (HT.sIx xs.length xs.length hi - HT.sIx xs.length 0 lo)
theorem RepL.cut {ds : List D} {vs : List V} {lo hi : Option Int} (r : RepL W ph H ds vs) : RepL W ph H (cutL ds lo hi) (cutV vs lo hi) := by
  unfold cutL
  have : cutV vs lo hi = (vs.drop (HT.sIx vs.length 0 lo)).take (HT.sIx vs.length vs.length hi - HT.sIx vs.length 0 lo) := rfl
  rw [this, ← r.length]
  exact (r.drop _).take _
def slD (x : D) (lo hi : Option Int) (m : Sto) : Option D :=
  match x with
  | .str s => if s.length ≤ 1000000 then some (.str (cutS s lo hi)) else none
  | x => (lstOf x m).map fun xs => .lst (cutL xs lo hi)
def bndp (p : Option FE) (env : Nv) (m : Sto) (k : Option Int → Sto → Option Res) : Option Res :=
  match p with
  | none => k none m
  | some f => bnd (f env m) fun d m1 => match d with
    | .int i => k (some i) m1
    | _ => none
@[simp] theorem bndp_none (env : Nv) (m : Sto) (k : Option Int → Sto → Option Res) : bndp none env m k = k none m := rfl
def eSl (f : FE) (lo hi : Option FE) : FE := fun env m => bnd (f env m) fun x m1 => bndp lo env m1 fun l m2 => bndp hi env m2 fun h m3 => out m3 (slD x l h m3)
def tP (W : Wd) (Wx : WX) (p : Option FE) : TO := fun σ H Q => ∃ ph env m, RelEnv W ph H env σ ∧ RelSto W ph H m ∧ ∃ r, (match p with | none => some (Res.ok .non m) | some f => f env m) = some r ∧ match r with
  | .ok d m' => ∀ H' ph', Ste W ph H ph' H' m' → ∃ l, (match p with | none => l = none | some _ => ∃ i, d = .int i ∧ l = some i) ∧ Q l H'
  | .exn c d m' => ∀ dx x H' ph', Ste W ph H ph' H' m' → H' dx = some (fdict x) → ph'.ok dx → Rep W ph' H' d x → Wx (.ref (W.C c)) (some dx) σ H'
def DPt (W : Wd) (L : Lv) (p : Option Expr) (q : Option FE) : Prop := ∀ R, Fits W L R → ∀ Wx : WX, Takes (mkX W L.N R) Wx → PO (mkX W L.N R) p (tP W Wx q)
theorem PO.imp {p : Option Expr} {t t' : TO} (h : PO X p t) (hi : ∀ σ H Q, t' σ H Q → t σ H Q) : PO X p t' := ⟨fun pins s σ H Q I q => h.run pins s σ H Q I (hi σ H Q q)⟩
theorem dp_none : DPt W L none none := by
  intro R F Wx tk
  refine PO.imp po_none fun σ H Q h => ?_
  obtain ⟨ph, env, m, he, hs, r, e, p⟩ := h
  cases e
  obtain ⟨l, rfl, q⟩ := p H ph (.refl hs)
  exact q
theorem dp_some (h : DE W L e f) : DPt W L (some e) (some f) := by
  intro R F Wx tk
  refine PO.imp (po_some (h R F Wx tk)) fun σ H Q h => ?_
  obtain ⟨ph, env, m, he, hs, r, e, p⟩ := h
  refine tE.mk he hs ⟨r, e, ?_⟩
  cases r with
  | exn c d m' => exact p
  | ok d m' =>
    intro v H' ph' s rv
    obtain ⟨l, ⟨i, rfl, rfl⟩, q⟩ := p H' ph' s
    exact ⟨i, rv, q⟩
theorem tX.bndp {p : Option FE} {k : Option Int → Sto → Option Res} (he : RelEnv W ph H env σ) (hs : RelSto W ph H m) (h : tX W Wx (PM.bndp p env m k) ph σ H Q) :
    tP W Wx p σ H fun l H1 => ∃ ph1 m1, Ste W ph H ph1 H1 m1 ∧ tX W Wx (k l m1) ph1 σ H1 Q := by
  refine ⟨ph, env, m, he, hs, ?_⟩
  obtain ⟨o, e, pp⟩ := h
  cases p with
  | none => exact ⟨_, rfl, fun H' ph' s => ⟨none, rfl, ph', m, s, o, e, pp.later s⟩⟩
  | some f =>
    unfold PM.bndp at e
    cases q : f env m with
    | none => simp only [q] at e; cases e
    | some r =>
      simp only [q] at e
      refine ⟨r, q, ?_⟩
      cases r with
      | exn c d m' =>
        cases e
        exact pp
      | ok d m' =>
        intro H' ph' s
        rw [bnd_ok] at e
        cases d <;> first | cases e; done | skip
        exact ⟨some _, ⟨_, rfl, rfl⟩, ph', m', s, o, e, pp.later s⟩
theorem de_sl {lo hi : Option Expr} {p q : Option FE} {p2 : Pos} (h : DE W L e f) (hl : DPt W L lo p) (hu : DPt W L hi q) : DE W L (.Subscript e (.Slice lo hi none p2) pos) (eSl f p q) := by
  intro R F Wx tk
  refine PE.imp (pe_slice (X := mkX W L.N R) (SlR.or sl_str sl_list) (h R F Wx tk) (hl R F Wx tk) (hu R F Wx tk)) fun σ H Q h => ?_
  obtain ⟨ph, env, m, he, hs, h⟩ := h
  refine tE.mk he hs ((tX.bnd hs h).imp fun v1 H1 q => ?_)
  obtain ⟨ph1, m1, d1, s1, r1, h1⟩ := q
  have h2 := tX.bndp (he.mono s1) s1.sto h1
  have tPi : ∀ {p : Option FE} {σ H} {Q Q' : Option Int → Hp → Prop}, (∀ l H, Q l H → Q' l H) → tP W Wx p σ H Q → tP W Wx p σ H Q' := by
    intro p σ H Q Q' hi h
    obtain ⟨ph, env, m, he, hs, r, e, p⟩ := h
    refine ⟨ph, env, m, he, hs, r, e, ?_⟩
    cases r with
    | exn c d m' => exact p
    | ok d m' => exact fun H' ph' s => let ⟨l, a, b⟩ := p H' ph' s; ⟨l, a, hi _ _ b⟩
  refine tPi (fun l H2 q => ?_) h2
  obtain ⟨ph2, m2, s2, h2⟩ := q
  have h3 := tX.bndp ((he.mono s1).mono s2) s2.sto h2
  refine tPi (fun u H3 q => ?_) h3
  obtain ⟨ph3, m3, s3, h3⟩ := q
  obtain ⟨d, e, p⟩ := tX.outD h3
  have r3 := Rep.mono s3 _ _ (Rep.mono s2 _ _ r1)
  unfold slD at e
  split at e
  · split at e
    · rename_i hl
      cases e; cases r3
      exact .inl ⟨_, rfl, Nat.le_trans hl line6, p.s s3.sto⟩
    · cases e
  · cases q : lstOf d1 m3 with
    | none => rw [q] at e; cases e
    | some xs =>
      rw [q] at e
      cases e
      obtain ⟨a, vs, rfl, l, r⟩ := lstOf_sq s3.sto r3 q
      exact .inr ⟨a, vs, rfl, l, fun b hb => p _ _ ph3 (.put hb s3.sto) (.newL hb s3.sto r.cut)⟩
/-! ### a place is written -/
theorem Mov.place {b : Addr} {o : HO} (hb : b ∈ ph.pl) : Mov ph H ph (upd H b o) :=
  ⟨fun a u e k => ⟨by rw [upd_ne (fun z => k.1 (by rw [z]; exact hb))]; exact e, k⟩, fun n a h => h⟩
theorem nodup_at {l : List Addr} (h : l.Nodup) {i j : Nat} {a : Addr} (hi : l[i]? = some a) (hj : l[j]? = some a) : i = j := by
  obtain ⟨h1, e1⟩ := List.getElem?_eq_some_iff.mp hi
  obtain ⟨h2, e2⟩ := List.getElem?_eq_some_iff.mp hj
  have hp := List.pairwise_iff_getElem.mp h
  rcases Nat.lt_trichotomy i j with q | q | q
  · exact absurd (e1.trans e2.symm) (hp i j h1 h2 q)
  · exact q
  · exact absurd (e2.trans e1.symm) (hp j i h2 h1 q)
theorem Ste.write {n : Nat} {b : Addr} {o : HO} {c : Cell} (hs : RelSto W ph H m) (hb : ph.pl[n]? = some b) (hc : CellAt W ph (upd H b o) b c) : Ste W ph H ph (upd H b o) (m.set n c) where
  pre := ⟨[], by simp⟩
  prv := rfl
  keep := fun a u e k => by rw [upd_ne (fun z => k (by rw [z]; exact List.mem_of_getElem? hb))]; exact e
  new := fun _ h => .inl h
  fre := fun a e => by
    unfold upd; split
    · rfl
    · exact e
  sto := by
    refine ⟨by rw [hs.len, List.length_set], hs.nd, hs.dj, fun a z => ?_, fun k c' e => ?_⟩
    · unfold upd; split
      · rfl
      · exact hs.pvs a z
    · by_cases hk : n = k
      · subst hk
        have hn : n < m.length := by rw [← hs.len]; exact (List.getElem?_eq_some_iff.mp hb).1
        rw [List.getElem?_set_self hn] at e
        cases e
        exact ⟨b, hb, by rw [upd_same]; rfl, hc⟩
      · rw [List.getElem?_set_ne hk] at e
        obtain ⟨a, e1, e2, e3⟩ := hs.cell k c' e
        have ne : a ≠ b := fun z => by
          subst z
          exact hk (nodup_at hs.nd hb e1)
        exact ⟨a, e1, by rw [upd_ne ne]; exact e2, e3.move (.place (List.mem_of_getElem? hb)) fun u q => by rw [upd_ne ne]; exact q⟩
theorem RepL.set {d : D} {v : V} : ∀ {ds : List D} {vs : List V} (j : Nat), RepL W ph H ds vs → Rep W ph H d v → RepL W ph H (ds.set j d) (vs.set j v)
  | [], _, _, r, _ => by
    have r : _ = [] := r
    rw [r]; rfl
  | x :: ds, _, 0, ⟨u, r, e, h, t⟩, rv => by rw [e]; exact .cons rv t
  | x :: ds, _, j + 1, ⟨u, r, e, h, t⟩, rv => by rw [e]; exact .cons h (RepL.set j t rv)
/-- a value as a dict's key -/
def keyD : D → Option Key
  | .int i => some (.inl i)
  | .str s => some (.inr s)
  | _ => none
def putD (kvs : List (Key × D)) (k : Key) (d : D) : List (Key × D) :=
  if (kvs.any fun kv => decide (kv.1 = k)) = true then kvs.map (fun kv => if kv.1 = k then (kv.1, d) else kv) else kvs ++ [(k, d)]
theorem any_keys {α β : Type} (k : Key) {kds : List (Key × α)} {kvs : List (Key × β)} (h : kds.map (·.1) = kvs.map (·.1)) : (kds.any fun kv => decide (kv.1 = k)) = kvs.any fun kv => decide (kv.1 = k) := by
  have e : ∀ {γ : Type} (l : List (Key × γ)), (l.any fun kv => decide (kv.1 = k)) = (l.map (·.1)).any fun z => decide (z = k) := fun l => by rw [List.any_map]; rfl
  rw [e, e, h]
theorem repl_rep {k : Key} {d : D} {v : V} (r : Rep W ph H d v) : ∀ {kds : List (Key × D)} {kvs : List (Key × V)}, RepKV W ph H kds kvs → RepKV W ph H (kds.map fun kv => if kv.1 = k then (kv.1, d) else kv) (kvs.map fun kv => if kv.1 = k then (kv.1, v) else kv)
  | [], [], _ => ⟨rfl, rfl⟩
  | [], _ :: _, ⟨h, _⟩ => by cases h
  | _ :: _, [], ⟨h, _⟩ => by cases h
  | (a, x) :: kds, (b, y) :: kvs, ⟨h, u, us, e, h1, h2⟩ => by
    rw [List.map_cons, List.map_cons] at h
    injection h with hg hr
    have hg : a = b := hg
    subst hg
    rw [List.map_cons] at e
    injection e with e1 e2
    subst e1 e2
    obtain ⟨k1, k2⟩ := repl_rep r (kds := kds) (kvs := kvs) ⟨hr, h2⟩
    rw [List.map_cons, List.map_cons]
    by_cases hk : a = k
    · rw [if_pos hk, if_pos hk]
      exact ⟨by rw [List.map_cons, List.map_cons, k1], .cons r k2⟩
    · rw [if_neg hk, if_neg hk]
      exact ⟨by rw [List.map_cons, List.map_cons, k1], .cons h1 k2⟩
theorem putD_rep {k : Key} {d : D} {v : V} {kds : List (Key × D)} {kvs : List (Key × V)} (r : Rep W ph H d v) (h : RepKV W ph H kds kvs) : RepKV W ph H (putD kds k d) (putK kvs k v) := by
  unfold putD putK
  rw [any_keys k h.1]
  split
  · exact repl_rep r h
  · exact ⟨by rw [List.map_append, List.map_append, h.1]; rfl, by rw [List.map_append, List.map_append]; exact h.2.append (.cons r .nil)⟩
theorem RepKV.len {kds : List (Key × D)} {kvs : List (Key × V)} (h : RepKV W ph H kds kvs) : kds.length = kvs.length := by
  have := congrArg List.length h.1
  simpa using this
theorem keyD_rep {d : D} {v : V} {k : Key} (e : keyD d = some k) (r : Rep W ph H d v) : v = kV k := by
  unfold keyD at e
  split at e <;> first | (cases e; exact r) | cases e
def stoL (n : Nat) (xs : List D) (y z : D) (m : Sto) : Option Sto := match y with
  | .int k => (ixN xs.length k).map fun j => m.set n (.lst (xs.set j z))
  | _ => none
def stoK (n : Nat) (kvs : List (Key × D)) (y z : D) (m : Sto) : Option Sto := match keyD y with
  | some k => if kvs.length < 100000 then some (m.set n (.dct (putD kvs k z))) else none
  | none => none
def stoD (x y z : D) (m : Sto) : Option Sto :=
  match x with
  | .loc n => match m[n]? with
    | some (.lst xs) => stoL n xs y z m
    | some (.dct kvs) => stoK n kvs y z m
    | _ => none
  | _ => none
theorem set_ld (hu : X.A.units + 1 < cLine) : PSet X (fun o i v H Q => rSetL o i v H Q ∨ rSetD o i v H Q) := by
  intro pins s σ H o i v ov iv u Q I ro ri rv h
  rcases h with h | h
  · exact set_list pins s σ H o i v ov iv u Q I ro ri rv h
  · exact set_dict hu pins s σ H o i v ov iv u Q I ro ri rv h
def sStore (fo fi fv : FE) : FS := fun env m => bnds (fv env m) env fun z m1 => bnds (fo env m1) env fun x m2 => bnds (fi env m2) env fun y m3 => (stoD x y z m3).map fun m4 => Out.nx env m4
theorem ds_store {p : Pos} (ho : DE W L o fo) (hi : DE W L i fi) (hv : DE W L v fv)
    (hp : ∀ (env : PySem.Env) v, assign (.Subscript o i p) env v = (do
      let ov ← holding [v] (eval o env)
      let iv ← holding [v, ov] (eval i env)
      standAt p
      holding [v, ov, iv] (setItem ov iv v)
      release [v, ov, iv] []) := by intro _ _; rfl)
    (hs : ∀ env : PySem.Env, swapsWithSole [.Subscript o i p] v pos.line env = pure false := by intro _; rfl) (hw : ∀ R, Fits W L R → swappedStores [.Subscript o i p] v R.env = pure none := by intro _ _; rfl)
    (h1 : ∀ env, (assignEach [.Subscript o i p] env).map (·.2) = [assign (.Subscript o i p) env] := by intro _; rfl) : DS W L (.Assign [.Subscript o i p] v pos) (sStore fo fi fv) := by
  intro R F Wx tk
  refine PS.imp (ps_asg (X := mkX W L.N R) (hv R F Wx tk) (pg_sub (ho R F Wx tk) (hi R F Wx tk) (set_ld (by have := F.un; show R.A.units + 1 < cLine; omega)) (hp R.env)) (hs _) (hw R F) (h1 _)) fun Dn σ H h => ?_
  obtain ⟨ph, env, m, he, hs, h⟩ := h
  refine tE.mk he hs ((tXS.bnds hs he h).imp fun v1 H1 q => ?_)
  obtain ⟨ph1, m1, d1, s1, r1, h1⟩ := q
  refine tE.mk (he.mono s1) s1.sto ((tXS.bnds s1.sto (he.mono s1) h1).imp fun v2 H2 q => ?_)
  obtain ⟨ph2, m2, d2, s2, r2, h2⟩ := q
  refine tE.mk ((he.mono s1).mono s2) s2.sto ((tXS.bnds s2.sto ((he.mono s1).mono s2) h2).imp fun v3 H3 q => ?_)
  obtain ⟨ph3, m3, d3, s3, r3, r, e, p⟩ := q
  have he3 := ((he.mono s1).mono s2).mono s3
  have r2' := Rep.mono s3 _ _ r2
  have r1' := Rep.mono s3 _ _ (Rep.mono s2 _ _ r1)
  cases q : stoD d2 d3 d1 m3 with
  | none => rw [q] at e; cases e
  | some m4 =>
    rw [q] at e
    cases e
    unfold stoD at q
    split at q
    · rename_i n
      cases q2 : m3[n]? with
      | none => rw [q2] at q; cases q
      | some c =>
        rw [q2] at q
        cases c with
        | ins _ _ => cases q
        | dead => cases q
        | lst xs =>
          replace q : stoL n xs d3 d1 m3 = some m4 := q
          unfold stoL at q
          split at q
          · rename_i k
            cases q3 : ixN xs.length k with
            | none => rw [q3] at q; cases q
            | some j =>
              rw [q3] at q
              cases q
              obtain ⟨b, rfl, hb⟩ := r2'
              obtain ⟨b', e1, _, vs, e3, rr⟩ := s3.sto.cell n _ q2
              rw [hb] at e1
              cases e1
              cases r3
              have mv : Mov ph3 H3 ph3 (upd H3 b (.lst (vs.set j v1))) := .place (List.mem_of_getElem? hb)
              exact .inl ⟨b, vs, k, j, rfl, rfl, e3, by rw [← rr.length]; exact q3, p _ _ ph3 (.write s3.sto hb ⟨_, upd_same, RepL.move mv _ _ (rr.set j r1')⟩) (he3.move mv)⟩
          · cases q
        | dct kds =>
          replace q : stoK n kds d3 d1 m3 = some m4 := q
          unfold stoK at q
          split at q
          · rename_i k hk
            split at q
            · rename_i hl
              cases q
              obtain ⟨b, rfl, hb⟩ := r2'
              obtain ⟨b', e1, _, kvs, e3, rr⟩ := s3.sto.cell n _ q2
              rw [hb] at e1
              cases e1
              obtain rfl := keyD_rep hk r3
              have mv : Mov ph3 H3 ph3 (upd H3 b (.dK (putK kvs k v1))) := .place (List.mem_of_getElem? hb)
              have rp := putD_rep (k := k) r1' rr
              exact .inr ⟨b, _, rfl, .k e3 (by rw [← RepKV.len rr]; exact Nat.lt_of_lt_of_le hl line5), p _ _ ph3 (.write s3.sto hb ⟨_, upd_same, rp.1, RepL.move mv _ _ rp.2⟩) (he3.move mv)⟩
            · cases q
          · cases q
    · cases q
/-! ### a new place -/
def Plc.add (p : Plc) (b : Addr) : Plc := ⟨p.pl ++ [b], p.pv⟩
theorem Mov.add {b : Addr} {o : HO} (hn : H b = none) : Mov ph H (ph.add b) (upd H b o) :=
  ⟨fun a u e k => ⟨by rw [upd_ne (ne_of_none e hn)]; exact e, fun z => by
    rcases List.mem_append.mp z with z | z
    · exact k.1 z
    · exact ne_of_none e hn (by simpa using z), k.2⟩, fun n a h => by
    show (ph.pl ++ [b])[n]? = some a
    rw [List.getElem?_append_left (List.getElem?_eq_some_iff.mp h).1]; exact h⟩
theorem Ste.add {b : Addr} {o : HO} {c : Cell} (hs : RelSto W ph H m) (hn : H b = none) (hc : CellAt W (ph.add b) (upd H b o) b c) : Ste W ph H (ph.add b) (upd H b o) (m ++ [c]) where
  pre := ⟨[b], rfl⟩
  prv := rfl
  keep := fun a u e k => by rw [upd_ne (ne_of_none e hn)]; exact e
  new := fun a h => by
    rcases List.mem_append.mp h with h | h
    · exact .inl h
    · have : a = b := by simpa using h
      rw [this]; exact .inr hn
  fre := fun a e => by
    unfold upd; split
    · rfl
    · exact e
  sto := by
    have hb : ¬ b ∈ ph.pl := hs.notin hn
    refine ⟨by show (ph.pl ++ [b]).length = _; simp [hs.len], ?_, fun a ha z => ?_, fun a z => ?_, fun k c' e => ?_⟩
    · refine List.nodup_append.mpr ⟨hs.nd, by simp, fun x hx y hy => ?_⟩
      have : y = b := by simpa using hy
      rw [this]
      exact fun z => hb (z ▸ hx)
    · rcases List.mem_append.mp ha with ha | ha
      · exact hs.dj a ha z
      · have : a = b := by simpa using ha
        rw [this] at z
        exact hs.nopv hn z
    · unfold upd; split
      · rfl
      · exact hs.pvs a z
    · by_cases hk : k < m.length
      · rw [List.getElem?_append_left hk] at e
        obtain ⟨a, e1, e2, e3⟩ := hs.cell k c' e
        have ne : a ≠ b := fun z => by rw [z, hn] at e2; cases e2
        exact ⟨a, (Mov.add (o := o) hn).pl k a e1, by rw [upd_ne ne]; exact e2, e3.move (.add hn) fun u q => by rw [upd_ne ne]; exact q⟩
      · have hk2 : k = m.length := by
          have := (List.getElem?_eq_some_iff.mp e).1
          rw [List.length_append, List.length_singleton] at this
          omega
        subst hk2
        rw [List.getElem?_append_right (Nat.le_refl _), Nat.sub_self] at e
        cases e
        refine ⟨b, ?_, by rw [upd_same]; rfl, hc⟩
        show (ph.pl ++ [b])[m.length]? = some b
        rw [← hs.len]; simp
theorem Rep.add {b : Addr} {o : HO} (hs : RelSto W ph H m) : Rep W (ph.add b) (upd H b o) (.loc m.length) (.ref b) := ⟨b, rfl, by
  show (ph.pl ++ [b])[m.length]? = some b
  rw [← hs.len]; simp⟩
/-- [..], kept as a place -/
def eNewL (fs : List FE) : FE := fun env m => bndl (evL fs env m) fun ds m1 => if ds.length ≤ 100000 then some (.ok (.loc m1.length) (m1 ++ [.lst ds])) else none
theorem de_newL {es : List Expr} {fs : List FE} (h : DA W L es fs) : DE W L (.List es pos) (eNewL fs) := by
  intro R F Wx tk
  refine PE.imp (pe_lst (h R F Wx tk)) fun σ H Q h => ?_
  obtain ⟨ph, env, m, he, hs, h⟩ := h
  obtain ⟨r, e, p⟩ := tX.bndl hs h
  refine ⟨ph, env, m, he, hs, r, e, ?_⟩
  cases r with
  | exn c d m1 => exact p
  | ok ds m1 =>
    intro vs H1 ph1 s1 r1
    obtain ⟨ph2, m2, ds2, s2, r2, o, e2, p2⟩ := p vs H1 ph1 s1 r1
    split at e2
    · rename_i hl
      cases e2
      refine ⟨by rw [← r2.length]; exact Nat.le_trans hl line5, fun b hb => ?_⟩
      exact p2 _ _ (ph2.add b) (.add s2.sto hb ⟨_, upd_same, RepL.move (.add hb) _ _ r2⟩) (.add s2.sto)
    · cases e2
/-- {} -/
def eNewD : FE := fun _ m => some (.ok (.loc m.length) (m ++ [.dct []]))
theorem de_newD : DE W L (.Dict [] [] pos) eNewD := by
  intro R F Wx tk
  refine PE.imp pe_dnewK fun σ H Q h => ?_
  obtain ⟨ph, env, m, he, hs, o, e, p⟩ := h
  cases e
  exact fun b hb => p _ _ (ph.add b) (.add hs hb ⟨[], upd_same, rfl, rfl⟩) (.add hs)
/-- {k: v} of constants -/
def eNewD1 (k : Key) (d : D) : FE := fun _ m => some (.ok (.loc m.length) (m ++ [.dct [(k, d)]]))
theorem de_newD1 {ke ve : Expr} {k : Key} {d : D} {u : V} (hk : ∀ R : Rst, PE (mkX W L.N R) ke (tC (kV k))) (hv : ∀ R : Rst, PE (mkX W L.N R) ve (tC u)) (hr : ∀ ph H, Rep W ph H d u) : DE W L (.Dict [some ke] [ve] pos) (eNewD1 k d) := by
  intro R F Wx tk
  refine PE.imp (pe_disp (X := mkX W L.N R) (pps_cons (hk R) (hv R) pps_nil) rfl rfl (by simp) (by simp)) fun σ H Q h => ?_
  obtain ⟨ph, env, m, he, hs, o, e, p⟩ := h
  cases e
  intro b hb
  refine ⟨upd_same, [(k, u)], rfl, by simp, ?_⟩
  have : upd (upd H b (.dK [])) b (.dK (mergeK [] [(k, u)])) = upd H b (.dK [(k, u)]) := by
    funext x
    unfold upd
    split <;> rfl
  rw [this]
  exact p _ _ (ph.add b) (.add hs hb ⟨_, upd_same, rfl, RepL.cons (hr _ _) .nil⟩) (.add hs)
end
end PM

/-! PMO5: sorted, its list kept as a place. -/
namespace PM
open PySem PySem.Spec L2 PyProof.Rows
def eSrtL (fs : List FE) : FE := fun env m => bndl (evL fs env m) fun ds m1 => match sortedD ds m1 with
  | some (.lst xs) => some (.ok (.loc m1.length) (m1 ++ [.lst xs]))
  | _ => none
section
variable {W : Wd} {L : Lv} {e : Expr} {es : List Expr} {fs : List FE} {pos : Pos}
def rSP (W : Wd) : List V → Hp → VK → Prop := fun vs H Q => ∃ ph m ds xs, RelSto W ph H m ∧ RepL W ph H ds vs ∧ sortedD ds m = some (.lst xs) ∧ ∀ v H' ph', Ste W ph H ph' H' (m ++ [.lst xs]) → Rep W ph' H' (.loc m.length) v → Q v H'
theorem cr_srtP {R : Rst} (F : Fits W L R) : CallR (mkX W L.N R) (.builtin "sorted") (rSP W) := by
  intro pins s σ H vs us Q I rv h
  obtain ⟨ph, m, ds, xs, hs, r, e, p⟩ := h
  have fin : ∀ vs' : List V, RepL W ph H xs vs' → ∀ b, H b = none → Q (.ref b) (upd H b (.lst vs')) := fun vs' r' b hb =>
    p _ _ (ph.add b) (.add hs hb ⟨_, upd_same, RepL.move (.add hb) _ _ r'⟩) (.add hs)
  unfold sortedD at e
  split at e
  · rename_i x
    obtain ⟨v, rfl, rv1⟩ := r.one
    cases q : lstOf x m with
    | none => rw [q] at e; cases e
    | some zs =>
      simp only [q] at e
      obtain ⟨a, us2, rfl, l, r2⟩ := lstOf_sq hs rv1 q
      split at e
      · rename_i hl
        cases q2 : intsOf zs with
        | some ns =>
          simp only [q2] at e
          cases e
          have := intsOf_rep q2 r2
          subst this
          have hx := intsOf_len q2
          exact cr_srtI (X := mkX W L.N R) F.un pins s σ H _ us Q I rv ⟨a, ns, rfl, l, by rw [hx, List.length_map] at hl; exact hl, fun b hb => fin _ (ints_rep _) b hb⟩
        | none =>
          simp only [q2] at e
          cases q3 : strsOf zs with
          | some ns =>
            simp only [q3] at e
            cases e
            have := strsOf_rep q3 r2
            subst this
            have hx := strsOf_len q3
            exact cr_srtS (X := mkX W L.N R) F.un pins s σ H _ us Q I rv ⟨a, ns, rfl, l, by rw [hx, List.length_map] at hl; exact hl, fun b hb => fin _ (strs_rep' _) b hb⟩
          | none => simp only [q3] at e; cases e
      · cases e
  · cases e
theorem de_srtL {p : Pos} (hm : W.mg "sorted" = none) (hv : bootBuiltins "sorted" = some (.builtin "sorted")) (ha : DA W L (e :: es) fs) (hg : L.sc.names.lookup ("sorted" : Str) = some .globalImplicit := by rfl)
    (he : ∀ env, starEach (e :: es) env = (false, eval e env) :: starEach es env := by intro _; rfl) (hpl : ∀ env, (backTo pos (starEach es env)).any (·.1) = false := by intro _; rfl) :
    DE W L (.Call (.Name "sorted" p) (e :: es) [] pos) (eSrtL fs) :=
  fun R F Wx tk => PE.imp (pe_callB (cr_srtP F) (F.gl "sorted" hg) hm hv (ha R F Wx tk) (by decide) (by decide) (he _) (hpl _)) fun σ H Q h => by
    obtain ⟨ph, env, m, he, hs, h⟩ := h
    obtain ⟨r, e, p⟩ := tX.bndl hs h
    refine ⟨ph, env, m, he, hs, r, e, ?_⟩
    cases r with
    | exn c d m1 => exact p
    | ok ds m1 =>
      intro vs H1 ph1 s1 r1
      obtain ⟨ph2, m2, ds2, s2, r2, o, e2, p2⟩ := p vs H1 ph1 s1 r1
      split at e2
      · rename_i xs q
        cases e2
        exact ⟨ph2, m2, ds2, xs, s2.sto, r2, q, p2⟩
      · cases e2
end
end PM

/-! PMO6: comprehensions over a list that is a place. -/
namespace PM
open PySem PySem.Spec L2 PyProof.Rows
open Classical in
noncomputable def lcW (g : FT) (t f : FE) (w : Option (Nat × List D)) (env : Nv) : List D → Sto → List D → Option ResL
  | [], m, acc => if wOk w m then some (.ok acc m) else none
  | d :: ds, m, acc => if wOk w m then (match g d env m with
    | some env' => bndb (t env' m) fun c m1 => match truth c m1 with
      | some true => bndb (f env' m1) fun x m2 => lcW g t f w env ds m2 (acc ++ [x])
      | some false => lcW g t f w env ds m1 acc
      | none => none
    | none => none) else none
def bndirW (r : Option ResI) (k : Option (Nat × List D) → List D → Sto → Option ResL) : Option Res :=
  match r with
  | some (.ok ds w m) => bndl (k w ds m) fun acc m1 => if acc.length ≤ 100000 then some (.ok (.lst acc) m1) else none
  | some (.exn c d m) => some (.exn c d m)
  | none => none
noncomputable def eLcW (vs : List Nat) (it : FI) (g : FT) (t f : FE) : FE := fun env m => bndirW (it env m) fun w ds m1 => lcW g t f w (wipeN env vs) ds m1 []
section
variable {W : Wd} {Wx : WX} {ph ph' ph1 : Plc} {H H' H1 : Hp} {m m' m1 : Sto} {σ σ' : L2.St} {env env' : Nv} {Q Q' : VK} {L : Lv} {R : Rst} {X : Cx} {e tg elt : Expr} {ifs : List Expr} {f t : FE} {g : FT} {pos : Pos} {it : FI} {w : Option (Nat × List D)}
theorem lcW_lcD : ∀ {ds : List D} {m : Sto} {acc : List D} {r : ResL}, lcW g t f w env ds m acc = some r → lcD g t f env ds m acc = some r
  | [], m, acc, r, e => by
    unfold lcW at e
    split at e
    · exact e
    · cases e
  | d :: ds, m, acc, r, e => by
    unfold lcW at e
    unfold lcD
    split at e
    · cases eg : g d env m with
      | none => simp only [eg] at e; cases e
      | some env' =>
        simp only [eg] at e ⊢
        cases et : t env' m with
        | none => rw [et] at e; cases e
        | some rt =>
          rw [et] at e
          cases rt with
          | exn c d m3 => cases e
          | ok c m3 =>
            rw [bndb_ok] at e ⊢
            cases ht : truth c m3 with
            | none => simp only [ht] at e; cases e
            | some b =>
              simp only [ht] at e ⊢
              cases b with
              | false => exact lcW_lcD e
              | true =>
                simp only at e ⊢
                cases ef : f env' m3 with
                | none => rw [ef] at e; cases e
                | some rf =>
                  rw [ef] at e
                  cases rf with
                  | exn c d m4 => cases e
                  | ok x m4 =>
                    rw [bndb_ok] at e ⊢
                    exact lcW_lcD e
    · cases e
theorem t_lcW {own : List (Str × Nat)} {is : List Nat} (hv : ∀ i, i ∈ is → i ∈ own.map (·.2)) (h : tE W Wx (eLcW (own.map (·.2)) it g t f) σ H Q) : tLc (tI W Wx it) (tgD W is g) (tT W (fun _ _ _ _ => False) t) (tE W (fun _ _ _ _ => False) f) (own.map (·.2)) σ H Q := by
  obtain ⟨ph, env, m, he, hs, h⟩ := h
  obtain ⟨o, e, p⟩ := h
  unfold eLcW at e
  cases q : it env m with
  | none => rw [q] at e; cases e
  | some r =>
    rw [q] at e
    refine ⟨ph, env, m, r, he, hs, q, ?_⟩
    cases r with
    | exn c d m1 =>
      have e : some (Res.exn c d m1) = some o := e
      cases e
      exact p
    | ok ds w m1 =>
      have e : bndl (lcW g t f w (wipeN env (own.map (·.2))) ds m1 []) (fun acc m1 => if acc.length ≤ 100000 then some (.ok (.lst acc) m1) else none) = some o := e
      intro J H1 ph1 s1 hw1 hJ D hD
      have hDl : ¬ D ∈ ph1.pl := s1.sto.notin hD
      have hDp : ¬ D ∈ ph1.pv := s1.sto.nopv hD
      have he1 : RelEnv W (ph1.hide D) (upd H1 D (.lst [])) (wipeN env (own.map (·.2))) (wipe σ (own.map (·.2))) := ((he.mono s1).wipe).move (.hide hD)
      have hs1 : RelSto W (ph1.hide D) (upd H1 D (.lst [])) m1 := s1.sto.hide hD
      obtain ⟨res, mf, hL, hr⟩ : ∃ res mf, lcW g t f w (wipeN env (own.map (·.2))) ds m1 [] = some (.ok res mf) ∧ res.length ≤ 100000 := by
        cases qL : lcW g t f w (wipeN env (own.map (·.2))) ds m1 [] with
        | none => rw [qL] at e; cases e
        | some ol =>
          rw [qL] at e
          cases ol with
          | exn c d m2 => exact (lcD_noexn (lcW_lcD qL)).elim
          | ok acc m2 =>
            refine ⟨acc, m2, rfl, ?_⟩
            rw [bndl_ok] at e
            split at e
            · assumption
            · cases e
      rw [hL, bndl_ok, if_pos hr] at e
      cases e
      refine ⟨fun i n H2 => n = ds.length - i ∧ i ≤ ds.length ∧ ∃ ph2 m2 acc vs, LcInv W ph1 H1 D ph2 H2 m2 acc vs ∧ RelEnv W ph2 H2 (wipeN env (own.map (·.2))) (wipe σ (own.map (·.2))) ∧
        lcW g t f w (wipeN env (own.map (·.2))) (ds.drop i) m2 acc = some (.ok res mf), ⟨ds.length, by simp, Nat.zero_le _, ph1.hide D, m1, [], [], ?_, he1, by simpa using hL⟩, ?_⟩
      · exact ⟨⟨[], by simp [Plc.hide]⟩, rfl, fun a o e n => ⟨by rw [upd_ne (ne_of_none e hD)]; exact e, n⟩, fun a h => .inl h, fun a h => by
          unfold upd; split
          · rfl
          · exact h, upd_same, hDl, hs1, rfl, .hide hD⟩
      · rintro i n H2 ⟨rfl, hi, ph2, m2, acc, vs, K, he2, e2⟩
        by_cases hlt : i < ds.length
        · rw [List.drop_eq_getElem_cons hlt] at e2
          unfold lcW at e2
          split at e2
          case isFalse => cases e2
          case isTrue hwk =>
          obtain ⟨hgo, hy⟩ := (hJ ph2 H2 m2 K.mov K.sto hwk i).1 ds[i] (by simp [hlt])
          cases eg : g ds[i] (wipeN env (own.map (·.2))) m2 with
          | none => rw [eg] at e2; cases e2
          | some env3 =>
            rw [eg] at e2
            have e2 : bndb (t env3 m2) (fun c m1 => match truth c m1 with | some true => bndb (f env3 m1) fun x m2 => lcW g t f w (wipeN env (own.map (·.2))) (ds.drop (i + 1)) m2 (acc ++ [x]) | some false => lcW g t f w (wipeN env (own.map (·.2))) (ds.drop (i + 1)) m1 acc | none => none) = some (.ok res mf) := e2
            refine .inr ⟨hgo, fun H6 => ∃ ph6 m6 acc6 vs6, LcInv W ph1 H1 D ph6 H6 m6 acc6 vs6 ∧ RelEnv W ph6 H6 (wipeN env (own.map (·.2))) (wipe σ (own.map (·.2))) ∧ lcW g t f w (wipeN env (own.map (·.2))) (ds.drop (i + 1)) m6 acc6 = some (.ok res mf),
              fun H6 h6 => ⟨ds.length - (i + 1), by omega, rfl, by omega, h6⟩, fun x H3 hyl => ?_⟩
            obtain ⟨s3, rx⟩ := hy x H3 hyl
            refine ⟨ph2, _, m2, ds[i], env3, he2.mono s3, s3.sto, rx, eg, fun σ3 he3 hb3 => ⟨wipe_but ⟨hb3.1, fun j hj => hb3.2 j fun z => hj (hv j z)⟩, ph2, env3, m2, he3, s3.sto, ?_⟩⟩
            cases et : t env3 m2 with
            | none => rw [et] at e2; cases e2
            | some rt =>
              rw [et] at e2
              cases rt with
              | exn c d m3 => cases e2
              | ok c m3 =>
                rw [bndb_ok] at e2
                refine ⟨_, rfl, ?_⟩
                cases ht : truth c m3 with
                | none => rw [ht] at e2; cases e2
                | some b =>
                  rw [ht] at e2
                  refine ⟨b, ht, fun H4 ph4 s4 => ?_⟩
                  have s34 := s3.trans s4
                  cases b with
                  | false =>
                    have e2 : lcW g t f w (wipeN env (own.map (·.2))) (ds.drop (i + 1)) m3 acc = some (.ok res mf) := e2
                    exact ⟨ph4, m3, acc, vs, K.step s34, he2.mono s34, e2⟩
                  | true =>
                    have e2 : bndb (f env3 m3) (fun x m2 => lcW g t f w (wipeN env (own.map (·.2))) (ds.drop (i + 1)) m2 (acc ++ [x])) = some (.ok res mf) := e2
                    cases ef : f env3 m3 with
                    | none => rw [ef] at e2; cases e2
                    | some rf =>
                      rw [ef] at e2
                      cases rf with
                      | exn c d m3 => cases e2
                      | ok y m5 =>
                        rw [bndb_ok] at e2
                        refine ⟨ph4, env3, m3, he3.mono s4, s4.sto, _, ef, fun v H5 ph5 s5 rv => ?_⟩
                        have s35 := s34.trans s5
                        have K5 := K.step s35
                        refine ⟨vs, K5.at, ?_, ph5, m5, acc ++ [y], vs ++ [v], K5.grow rv, (he2.mono s35).move (.priv K5.mem), e2⟩
                        have h1 := lcD_len (lcW_lcD e2)
                        rw [List.length_append] at h1
                        have h2 := K5.rep.length
                        have h3 := line5
                        simp at h1
                        omega
        · have : i = ds.length := by omega
          subst this
          rw [List.drop_length] at e2
          unfold lcW at e2
          split at e2
          case isFalse => cases e2
          case isTrue hwk =>
          cases e2
          refine .inl ⟨(hJ ph2 H2 _ K.mov K.sto hwk ds.length).2 (Nat.le_refl _), ?_⟩
          exact p _ _ _ (s1.trans K.ste) K.res
theorem de_lcW {scope : Scope} {own : List (Str × Nat)} {is : List Nat} (hi : DI W L tg e it) (hg : DG W (L.blk scope) tg is g) (ht : DIf W (L.blk scope) ifs t) (hf : DE W (L.blk scope) elt f) (ok : L.top = true → BlkOk L.N L.sc scope own) (hv : ∀ i, i ∈ is → i ∈ own.map (·.2) := by decide) (hc : L.calm = true := by rfl) (hp : L.top = true := by rfl)
    (hs : ∀ env x, foldedSetIterable e env x = pure x := by intro _ _; rfl) : DE W L (.ListComp elt [⟨tg, e, ifs, 0⟩] scope pos) (eLcW (own.map (·.2)) it g t f) := by
  intro R F Wx tk
  have okB : BlkOk L.N R.env.scope scope own := by rw [F.scp hp]; exact ok hp
  exact PE.imp (pe_lc (X := mkX W L.N R) (F.calm hc) F.nd (hi R F Wx tk) okB (fun s H C cl fp => hg _ (F.blk s H C cl fp fun _ _ => False)) (fun s H C cl fp => ht.pts (F.blk s H C cl fp fun _ _ => False) takes_no) (fun s H C cl fp => hf _ (F.blk s H C cl fp fun _ _ => False) _ takes_no) (hs _)) fun σ H Q h => t_lcW hv h
/-- x = [f for g in it if t] on one line, where it may be a place -/
theorem ds_setLcW {scope : Scope} {own : List (Str × Nat)} {is : List Nat} {i : Nat} {x : Str} {px spos : Pos} (hi : DI W L tg e it) (hg : DG W (L.blk scope) tg is g) (ht : DIf W (L.blk scope) ifs t) (hf : DE W (L.blk scope) elt f) (ok : L.top = true → BlkOk L.N L.sc scope own) (hx : L.N[i]? = some x := by rfl) (hl : L.sc.names.lookup x = some .local := by rfl)
    (hk : L.sc.kind = .function := by rfl) (hln : (px.line == pos.line) = true := by rfl) (hna : (scope.names.any fun (n, k) => n == x && (k == .local || k == .cell)) = false := by decide +kernel) (hv : ∀ i, i ∈ is → i ∈ own.map (·.2) := by decide) (hc : L.calm = true := by rfl) (hp : L.top = true := by rfl)
    (hs : ∀ env x, foldedSetIterable e env x = pure x := by intro _ _; rfl) : DS W L (.Assign [.Name x px] (.ListComp elt [⟨tg, e, ifs, 0⟩] scope pos) spos) (sSet i (eLcW (own.map (·.2)) it g t f)) := by
  intro R F Wx tk
  have okB : BlkOk L.N R.env.scope scope own := by rw [F.scp hp]; exact ok hp
  refine PS.imp (ps_setLc (X := mkX W L.N R) (i := i) (F.calm hc) F.nd hx (F.lcl hp x hl) (sw_true (by rw [F.scp hp]; exact hk) (F.lcl hp x hl) hln hna) (hi R F Wx tk) okB (fun s H C cl fp => hg _ (F.blk s H C cl fp fun _ _ => False)) (fun s H C cl fp => ht.pts (F.blk s H C cl fp fun _ _ => False) takes_no) (fun s H C cl fp => hf _ (F.blk s H C cl fp fun _ _ => False) _ takes_no) (hs _)) fun Dn σ H h => ?_
  obtain ⟨ph, env, m, hv2, hs2, h⟩ := h
  refine t_lcW hv (tE.mk hv2 hs2 ((tXS.bnds hs2 hv2 h).imp fun v1 H1 q => ?_))
  obtain ⟨ph1, m1, d1, s1, r1, o, e, p⟩ := q
  cases e
  exact p _ _ _ (.refl s1.sto) ((hv2.mono s1).set r1)
end
end PM

/-! PMO7: comprehensions with two generators. -/
namespace PM
open PySem PySem.Spec L2 PyProof.Rows
def lc2D (g : FT) (t : FE) (it1 : FI) (vs1 : List Nat) (g1 : FT) (t1 f : FE) (env : Nv) : List D → Sto → List D → Option ResL
  | [], m, acc => some (.ok acc m)
  | d :: ds, m, acc => match g d env m with
    | some env' => bndb (t env' m) fun c m1 => match truth c m1 with
      | some true => match it1 env' m1 with
        | some (.ok ds1 none m2) => match lcD g1 t1 f (wipeN env' vs1) ds1 m2 acc with
          | some (.ok acc' m3) => lc2D g t it1 vs1 g1 t1 f env ds m3 acc'
          | _ => none
        | _ => none
      | some false => lc2D g t it1 vs1 g1 t1 f env ds m1 acc
      | none => none
    | none => none
/-- [f for g in it if t for g1 in it1 if t1] -/
def eLc2 (vs vs1 : List Nat) (it : FI) (g : FT) (t : FE) (it1 : FI) (g1 : FT) (t1 f : FE) : FE := fun env m => bndir (it env m) fun ds m1 => lc2D g t it1 vs1 g1 t1 f (wipeN env vs) ds m1 []
section
variable {W : Wd} {Wx : WX} {ph ph' ph1 : Plc} {H H' H1 : Hp} {m m' m1 : Sto} {σ σ' : L2.St} {env env' : Nv} {Q Q' : VK} {L : Lv} {R : Rst} {X : Cx} {e tg elt tg1 e1 : Expr} {ifs ifs1 : List Expr} {f t t1 : FE} {g g1 : FT} {pos : Pos} {it it1 : FI} {vs1 : List Nat}
theorem lc2D_noexn : ∀ {ds : List D} {env : Nv} {m m' : Sto} {acc : List D} {c : Nat} {d : D}, lc2D g t it1 vs1 g1 t1 f env ds m acc = some (.exn c d m') → False
  | [], _, _, _, _, _, _, e => by cases e
  | d0 :: ds, env, m, m', acc, c, d, e => by
    unfold lc2D at e
    split at e
    · rename_i env' _
      cases q : t env' m with
      | none => rw [q] at e; cases e
      | some r =>
        rw [q] at e
        cases r with
        | exn => cases e
        | ok c1 m1 =>
          rw [bndb_ok] at e
          split at e
          · split at e
            · split at e
              · exact lc2D_noexn e
              · cases e
            · cases e
          · exact lc2D_noexn e
          · cases e
    · cases e
theorem lc2D_len : ∀ {ds : List D} {env : Nv} {m m' : Sto} {acc res : List D}, lc2D g t it1 vs1 g1 t1 f env ds m acc = some (.ok res m') → acc.length ≤ res.length
  | [], _, _, _, _, _, e => by
    unfold lc2D at e
    cases e
    exact Nat.le_refl _
  | d0 :: ds, env, m, m', acc, res, e => by
    unfold lc2D at e
    split at e
    · rename_i env' _
      cases q : t env' m with
      | none => rw [q] at e; cases e
      | some r =>
        rw [q] at e
        cases r with
        | exn => cases e
        | ok c1 m1 =>
          rw [bndb_ok] at e
          split at e
          · split at e
            · split at e
              · rename_i q2
                exact Nat.le_trans (lcD_len q2) (lc2D_len e)
              · cases e
            · cases e
          · exact lc2D_len e
          · cases e
    · cases e
theorem t_lc2 {own : List (Str × Nat)} {is is1 : List Nat} (hv : ∀ i, i ∈ is → i ∈ own.map (·.2)) (hv1 : ∀ i, i ∈ is1 → i ∈ vs1) (hv2 : ∀ i, i ∈ vs1 → i ∈ own.map (·.2)) (h : tE W Wx (eLc2 (own.map (·.2)) vs1 it g t it1 g1 t1 f) σ H Q) :
    tLc2 (tI W Wx it) (tgD W is g) (tT W (fun _ _ _ _ => False) t) (tI W (fun _ _ _ _ => False) it1) (tgD W is1 g1) (tT W (fun _ _ _ _ => False) t1) (tE W (fun _ _ _ _ => False) f) (own.map (·.2)) vs1 σ H Q := by
  obtain ⟨ph, env, m, he, hs, h⟩ := h
  obtain ⟨o, e, p⟩ := h
  unfold eLc2 at e
  cases q : it env m with
  | none => rw [q] at e; cases e
  | some r =>
    rw [q] at e
    refine ⟨ph, env, m, r, he, hs, q, ?_⟩
    cases r with
    | exn c d m1 =>
      have e : some (Res.exn c d m1) = some o := e
      cases e
      exact p
    | ok ds w m1 =>
      cases w with
      | some w => cases e
      | none =>
      have e : bndl (lc2D g t it1 vs1 g1 t1 f (wipeN env (own.map (·.2))) ds m1 []) (fun acc m1 => if acc.length ≤ 100000 then some (.ok (.lst acc) m1) else none) = some o := e
      intro J H1 ph1 s1 hw1 hJ D hD
      have hDl : ¬ D ∈ ph1.pl := s1.sto.notin hD
      have hDp : ¬ D ∈ ph1.pv := s1.sto.nopv hD
      have he1 : RelEnv W (ph1.hide D) (upd H1 D (.lst [])) (wipeN env (own.map (·.2))) (wipe σ (own.map (·.2))) := ((he.mono s1).wipe).move (.hide hD)
      have hs1 : RelSto W (ph1.hide D) (upd H1 D (.lst [])) m1 := s1.sto.hide hD
      obtain ⟨res, mf, hL, hr⟩ : ∃ res mf, lc2D g t it1 vs1 g1 t1 f (wipeN env (own.map (·.2))) ds m1 [] = some (.ok res mf) ∧ res.length ≤ 100000 := by
        cases qL : lc2D g t it1 vs1 g1 t1 f (wipeN env (own.map (·.2))) ds m1 [] with
        | none => rw [qL] at e; cases e
        | some ol =>
          rw [qL] at e
          cases ol with
          | exn c d m2 => exact (lc2D_noexn qL).elim
          | ok acc m2 =>
            refine ⟨acc, m2, rfl, ?_⟩
            rw [bndl_ok] at e
            split at e
            · assumption
            · cases e
      rw [hL, bndl_ok, if_pos hr] at e
      cases e
      refine ⟨fun i n H2 => n = ds.length - i ∧ i ≤ ds.length ∧ ∃ ph2 m2 acc vs, LcInv W ph1 H1 D ph2 H2 m2 acc vs ∧ RelEnv W ph2 H2 (wipeN env (own.map (·.2))) (wipe σ (own.map (·.2))) ∧
        lc2D g t it1 vs1 g1 t1 f (wipeN env (own.map (·.2))) (ds.drop i) m2 acc = some (.ok res mf), ⟨ds.length, by simp, Nat.zero_le _, ph1.hide D, m1, [], [], ?_, he1, by simpa using hL⟩, ?_⟩
      · exact ⟨⟨[], by simp [Plc.hide]⟩, rfl, fun a o e n => ⟨by rw [upd_ne (ne_of_none e hD)]; exact e, n⟩, fun a h => .inl h, fun a h => by
          unfold upd; split
          · rfl
          · exact h, upd_same, hDl, hs1, rfl, .hide hD⟩
      · rintro i n H2 ⟨rfl, hi, ph2, m2, acc, vs, K, he2, e2⟩
        by_cases hlt : i < ds.length
        · rw [List.drop_eq_getElem_cons hlt] at e2
          unfold lc2D at e2
          obtain ⟨hgo, hy⟩ := (hJ ph2 H2 m2 K.mov K.sto trivial i).1 ds[i] (by simp [hlt])
          cases eg : g ds[i] (wipeN env (own.map (·.2))) m2 with
          | none => rw [eg] at e2; cases e2
          | some env3 =>
            simp only [eg] at e2
            refine .inr ⟨hgo, fun H6 => ∃ ph6 m6 acc6 vs6, LcInv W ph1 H1 D ph6 H6 m6 acc6 vs6 ∧ RelEnv W ph6 H6 (wipeN env (own.map (·.2))) (wipe σ (own.map (·.2))) ∧ lc2D g t it1 vs1 g1 t1 f (wipeN env (own.map (·.2))) (ds.drop (i + 1)) m6 acc6 = some (.ok res mf),
              fun H6 h6 => ⟨ds.length - (i + 1), by omega, rfl, by omega, h6⟩, fun x H3 hyl => ?_⟩
            obtain ⟨s3, rx⟩ := hy x H3 hyl
            refine ⟨ph2, _, m2, ds[i], env3, he2.mono s3, s3.sto, rx, eg, fun σ3 he3 hb3 => ⟨wipe_but ⟨hb3.1, fun j hj => hb3.2 j fun z => hj (hv j z)⟩, ph2, env3, m2, he3, s3.sto, ?_⟩⟩
            cases et : t env3 m2 with
            | none => rw [et] at e2; cases e2
            | some rt =>
              rw [et] at e2
              cases rt with
              | exn c d m3 => cases e2
              | ok c m3 =>
                rw [bndb_ok] at e2
                refine ⟨_, rfl, ?_⟩
                cases ht : truth c m3 with
                | none => simp only [ht] at e2; cases e2
                | some b =>
                  simp only [ht] at e2
                  refine ⟨b, ht, fun H4 ph4 s4 => ?_⟩
                  have s34 := s3.trans s4
                  cases b with
                  | false => exact ⟨ph4, m3, acc, vs, K.step s34, he2.mono s34, e2⟩
                  | true =>
                    simp only at e2
                    cases ei : it1 env3 m3 with
                    | none => simp only [ei] at e2; cases e2
                    | some ri =>
                      rw [ei] at e2
                      cases ri with
                      | exn c d m4 => cases e2
                      | ok ds1 w1 m4 =>
                        cases w1 with
                        | some w1 => cases e2
                        | none =>
                          simp only at e2
                          cases el : lcD g1 t1 f (wipeN env3 vs1) ds1 m4 acc with
                          | none => simp only [el] at e2; cases e2
                          | some rl =>
                            simp only [el] at e2
                            cases rl with
                            | exn c d m5 => cases e2
                            | ok acc' m5 =>
                              simp only at e2
                              have hlen := lc2D_len e2
                              refine ⟨ph4, env3, m3, .ok ds1 none m4, he3.mono s4, s4.sto, ei, fun J1 H5 ph5 s5 hw5 hJ1 => ?_⟩
                              have s35 := s34.trans s5
                              refine ⟨fun j n H2 => n = ds1.length - j ∧ j ≤ ds1.length ∧ ∃ ph6 m6 acc6 vs6, LcInv W ph1 H1 D ph6 H2 m6 acc6 vs6 ∧ Mov ph5 H5 ph6 H2 ∧ RelEnv W ph6 H2 (wipeN env (own.map (·.2))) (wipe σ (own.map (·.2))) ∧ RelEnv W ph6 H2 (wipeN env3 vs1) (wipe σ3 vs1) ∧
                                lcD g1 t1 f (wipeN env3 vs1) (ds1.drop j) m6 acc6 = some (.ok acc' m5), ⟨ds1.length, by simp, Nat.zero_le _, ph5, m4, acc, vs, K.step s35, .refl, he2.mono s35, ((he3.mono s4).mono s5).wipe, by simpa using el⟩, ?_⟩
                              rintro j n H6 ⟨rfl, hj, ph6, m6, acc6, vs6, K6, M6, he6, he6', e6⟩
                              by_cases hjt : j < ds1.length
                              · rw [List.drop_eq_getElem_cons hjt] at e6
                                unfold lcD at e6
                                obtain ⟨hgo1, hy1⟩ := (hJ1 ph6 H6 m6 M6 K6.sto trivial j).1 ds1[j] (by simp [hjt])
                                cases eg1 : g1 ds1[j] (wipeN env3 vs1) m6 with
                                | none => rw [eg1] at e6; cases e6
                                | some env7 =>
                                  simp only [eg1] at e6
                                  refine .inr ⟨hgo1, fun H2 => ∃ ph6 m6 acc6 vs6, LcInv W ph1 H1 D ph6 H2 m6 acc6 vs6 ∧ Mov ph5 H5 ph6 H2 ∧ RelEnv W ph6 H2 (wipeN env (own.map (·.2))) (wipe σ (own.map (·.2))) ∧ RelEnv W ph6 H2 (wipeN env3 vs1) (wipe σ3 vs1) ∧ lcD g1 t1 f (wipeN env3 vs1) (ds1.drop (j + 1)) m6 acc6 = some (.ok acc' m5),
                                    fun H2 h6 => ⟨ds1.length - (j + 1), by omega, rfl, by omega, h6⟩, fun x1 H7 hyl1 => ?_⟩
                                  obtain ⟨s7, rx1⟩ := hy1 x1 H7 hyl1
                                  refine ⟨ph6, _, m6, ds1[j], env7, he6'.mono s7, s7.sto, rx1, eg1, fun σ4 he7 hb4 => ⟨wipe_but ⟨hb4.1, fun j hj => hb4.2 j fun z => hj (hv1 j z)⟩, ph6, env7, m6, he7, s7.sto, ?_⟩⟩
                                  cases et1 : t1 env7 m6 with
                                  | none => rw [et1] at e6; cases e6
                                  | some rt1 =>
                                    rw [et1] at e6
                                    cases rt1 with
                                    | exn c d m8 => cases e6
                                    | ok c m8 =>
                                      rw [bndb_ok] at e6
                                      refine ⟨_, rfl, ?_⟩
                                      cases ht1 : truth c m8 with
                                      | none => simp only [ht1] at e6; cases e6
                                      | some b1 =>
                                        simp only [ht1] at e6
                                        refine ⟨b1, ht1, fun H8 ph8 s8 => ?_⟩
                                        have s78 := s7.trans s8
                                        cases b1 with
                                        | false => exact ⟨ph8, m8, acc6, vs6, K6.step s78, M6.trans s78.mov, he6.mono s78, he6'.mono s78, e6⟩
                                        | true =>
                                          simp only at e6
                                          cases ef : f env7 m8 with
                                          | none => rw [ef] at e6; cases e6
                                          | some rf =>
                                            rw [ef] at e6
                                            cases rf with
                                            | exn c d m9 => cases e6
                                            | ok y m9 =>
                                              rw [bndb_ok] at e6
                                              refine ⟨ph8, env7, m8, he7.mono s8, s8.sto, _, ef, fun v H9 ph9 s9 rv => ?_⟩
                                              have s79 := s78.trans s9
                                              have K9 := K6.step s79
                                              refine ⟨vs6, K9.at, ?_, ph9, m9, acc6 ++ [y], vs6 ++ [v], K9.grow rv, (M6.trans s79.mov).trans (.priv K9.mem), (he6.mono s79).move (.priv K9.mem), (he6'.mono s79).move (.priv K9.mem), e6⟩
                                              have h1 := lcD_len e6
                                              rw [List.length_append] at h1
                                              have h2 := K9.rep.length
                                              have h3 := line5
                                              simp at h1
                                              omega
                              · have : j = ds1.length := by omega
                                subst this
                                rw [List.drop_length] at e6
                                have e6 : some (ResL.ok acc6 m6) = some (.ok acc' m5) := e6
                                cases e6
                                exact .inl ⟨(hJ1 ph6 H6 _ M6 K6.sto trivial ds1.length).2 (Nat.le_refl _), ph6, _, _, vs6, K6, he6, e2⟩
        · have : i = ds.length := by omega
          subst this
          rw [List.drop_length] at e2
          have e2 : some (ResL.ok acc m2) = some (.ok res mf) := e2
          cases e2
          refine .inl ⟨(hJ ph2 H2 _ K.mov K.sto trivial ds.length).2 (Nat.le_refl _), ?_⟩
          exact p _ _ _ (s1.trans K.ste) K.res
/-- x = [f for g in it if t for g1 in it1 if t1] on one line -/
theorem ds_setLc2 {scope : Scope} {own : List (Str × Nat)} {is is1 : List Nat} {i : Nat} {x : Str} {px spos : Pos} (hi : DI W L tg e it) (hg : DG W (L.blk scope) tg is g) (ht : DIf W (L.blk scope) ifs t) (hi1 : DI W (L.blk scope) tg1 e1 it1) (hg1 : DG W (L.blk scope) tg1 is1 g1) (ht1 : DIf W (L.blk scope) ifs1 t1) (hf : DE W (L.blk scope) elt f) (ok : L.top = true → BlkOk L.N L.sc scope own) (hx : L.N[i]? = some x := by rfl) (hl : L.sc.names.lookup x = some .local := by rfl)
    (hk : L.sc.kind = .function := by rfl) (hln : (px.line == pos.line) = true := by rfl) (hna : (scope.names.any fun (n, k) => n == x && (k == .local || k == .cell)) = false := by decide +kernel) (hv : ∀ i, i ∈ is → i ∈ own.map (·.2) := by decide) (hv1 : ∀ i, i ∈ is1 → i ∈ vs1 := by decide) (hv2 : ∀ i, i ∈ vs1 → i ∈ own.map (·.2) := by decide) (hc : L.calm = true := by rfl) (hp : L.top = true := by rfl)
    (hs : ∀ env x, foldedSetIterable e env x = pure x := by intro _ _; rfl) (hs1 : ∀ env x, foldedSetIterable e1 env x = pure x := by intro _ _; rfl) : DS W L (.Assign [.Name x px] (.ListComp elt [⟨tg, e, ifs, 0⟩, ⟨tg1, e1, ifs1, 0⟩] scope pos) spos) (sSet i (eLc2 (own.map (·.2)) vs1 it g t it1 g1 t1 f)) := by
  intro R F Wx tk
  have okB : BlkOk L.N R.env.scope scope own := by rw [F.scp hp]; exact ok hp
  refine PS.imp (ps_setLc2 (X := mkX W L.N R) (i := i) (vs1 := vs1) (F.calm hc) F.nd hx (F.lcl hp x hl) (sw_true (by rw [F.scp hp]; exact hk) (F.lcl hp x hl) hln hna) (hi R F Wx tk) okB hv2 (fun s H C cl fp => hg _ (F.blk s H C cl fp fun _ _ => False)) (fun s H C cl fp => ht.pts (F.blk s H C cl fp fun _ _ => False) takes_no)
    (fun s H C cl fp => hi1 _ (F.blk s H C cl fp fun _ _ => False) _ takes_no) (fun s H C cl fp => hg1 _ (F.blk s H C cl fp fun _ _ => False)) (fun s H C cl fp => ht1.pts (F.blk s H C cl fp fun _ _ => False) takes_no) (fun s H C cl fp => hf _ (F.blk s H C cl fp fun _ _ => False) _ takes_no) (hs _) hs1) fun Dn σ H h => ?_
  obtain ⟨ph, env, m, hv3, hs2, h⟩ := h
  refine t_lc2 hv hv1 hv2 (tE.mk hv3 hs2 ((tXS.bnds hs2 hv3 h).imp fun v1 H1 q => ?_))
  obtain ⟨ph1, m1, d1, s1, r1, o, e, p⟩ := q
  cases e
  exact p _ _ _ (.refl s1.sto) ((hv3.mono s1).set r1)
end
end PM

/-! PMO8: xs[::-1], list(..), tuple(..) of a list or a tuple. -/
namespace PM
open PySem PySem.Spec L2 PyProof.Rows
section
variable {W : Wd} {Wx : WX} {ph : Plc} {H : Hp} {m : Sto} {L : Lv} {R : Rst} {e : Expr} {f : FE} {pos : Pos}
theorem RepL.reverse : ∀ {ds : List D} {vs : List V}, RepL W ph H ds vs → RepL W ph H ds.reverse vs.reverse
  | [], _, h => by
    have h : _ = [] := h
    rw [h]; exact .nil
  | d :: ds, _, ⟨v, r, e, h, t⟩ => by
    rw [e, List.reverse_cons, List.reverse_cons]
    exact (RepL.reverse t).append (.cons h .nil)
def rvD (x : D) (m : Sto) : Option D := match lstOf x m with
  | some xs => some (.lst xs.reverse)
  | none => none
theorem de_rev {k : Nat} {p1 p2 p3 : Pos} (he : DE W L e f) : DE W L (.Subscript e (.Slice none none (some (.UnaryOp .USub (.Constant (.int 1) k p1) p2)) p3) pos) (e1 rvD f) := by
  intro R F Wx tk
  refine PE.imp (pe_revL (X := mkX W L.N R) (he R F Wx tk)) fun σ H Q h => ?_
  refine tE.imp (fun v H1 q => ?_) (t_op1 h)
  obtain ⟨ph, m, x, d, hs, r, e, p⟩ := q
  unfold rvD at e
  split at e
  · rename_i xs q
    cases e
    obtain ⟨a, vs, rfl, h1, h2⟩ := lstOf_sq hs r q
    exact ⟨a, vs, rfl, h1, fun q hq => p _ _ ph (.put hq hs) (.newL hq hs h2.reverse)⟩
  · cases e
def listD : List D → Sto → Option D
  | [x], m => match seqOf x m with
    | some xs => some (.lst xs)
    | none => none
  | _, _ => none
theorem opn_list : OpN W L (.type "list") listD := by
  refine OpN.of (rd := fun _ xs H Q => _) (fun R F => call_list_of) fun R ph H m ds d vs Q F hs r e p => ?_
  unfold listD at e
  split at e
  · split at e
    · rename_i q
      cases e
      obtain ⟨v, rfl, rv⟩ := r.one
      obtain ⟨a, vs, rfl, l, r⟩ := seqOf_rep hs rv q
      exact ⟨a, vs, rfl, l, fun q hq => p _ _ ph (.put hq hs) (.newL hq hs r)⟩
    · cases e
  · cases e
def tupleD : List D → Sto → Option D
  | [x], m => match lstOf x m with
    | some xs => some (.tup xs)
    | none => none
  | _, _ => none
theorem opn_tuple : OpN W L (.type "tuple") tupleD := by
  refine OpN.of (rd := fun _ xs H Q => _) (fun R F => call_tuple_of) fun R ph H m ds d vs Q F hs r e p => ?_
  unfold tupleD at e
  split at e
  · split at e
    · rename_i q
      cases e
      obtain ⟨v, rfl, rv⟩ := r.one
      obtain ⟨a, vs, rfl, l, r⟩ := lstOf_sq hs rv q
      exact ⟨a, vs, rfl, .inl ⟨l, fun q hq => p _ _ ph (.put hq hs) (.newT hq hs r)⟩⟩
    · cases e
  · cases e
@[simp] theorem rvD_lst {xs : List D} : rvD (.lst xs) m = some (.lst xs.reverse) := rfl
theorem rvD_at {n : Nat} {xs : List D} (h : m[n]? = some (.lst xs)) : rvD (.loc n) m = some (.lst xs.reverse) := by
  simp only [rvD, lstOf, h]
@[simp] theorem listD_lst {xs : List D} : listD [.lst xs] m = some (.lst xs) := rfl
@[simp] theorem listD_tup {xs : List D} : listD [.tup xs] m = some (.lst xs) := rfl
@[simp] theorem tupleD_lst {xs : List D} : tupleD [.lst xs] m = some (.tup xs) := rfl
end
end PM

/-! PMX: own exceptions whose __init__ says Base.__init__(self, text) and keeps what was found. -/
namespace PM
open PySem PySem.Spec L2 PyProof.Rows
/-- what the written part says of the base class B -/
structure BaseF (W : Wk) (B : Addr) : Prop where
  sg : PySem.W.specialIn W.K (.ref B) "__getattribute__" = some (some (.builtin "type.__getattribute__"))
  rd : PySem.W.readsIn W.K B (.type "type") = true
  fc : PySem.W.findCls W.K (.ref B) (.type "type") "__init__" = some (.val (.builtin "ValueError.__init__"))
section
variable {P0 : Program} {w0 : World} {A0 : Around} {R0 : Result → Shared → Prop} {hp : Heap} {gs : Array GenState} {dr : Drawn} {tk : Nat} {os0 : OsState}
variable {nm q : Str} {C N : Addr} {bs bm bmB : List Value} {hdct : Bool} {sn : List Str} {sub : List Value} {ab : Bool} {col : Option Bool} {dd : Option Addr} {k0 k1 k2 k3 k5 : Option Value} {B newId initId : String}
open PySem.HandSPX in
theorem init_words (F : ExcBaseFacts B newId initId bmB) (hT : ∀ Y : String, bm.contains (.type Y) = bmB.contains (.type Y)) {e t0 : Addr} {us : List Value}
    (hC : hp.get? C = some (excClassObj nm q C N bs bm hdct sn sub ab col dd k0 k1 k2 k3 k5 newId)) (he : hp.get? e = some (excO C t0)) (hl : us.length ≤ sizeLine)
    (hq : ∀ h2, (∀ b o, b ≠ e → (hp.push (PySem.W.kdv_tup us)).get? b = some o → h2.get? b = some o) → h2.get? e = some (excO C hp.objs.size) → R0 (.ok (.ret .none)) ⟨h2, gs, dr, tk, os0⟩) :
    codeAny (model P0 w0) A0 (.call (.builtin initId) ⟨.ref e :: us, []⟩) R0 ⟨hp, gs, dr, tk, os0⟩ := by
  refine codeAny_call_builtin F.init.plain F.initEntry (check_init_own F hT hC he rfl ?_)
  wp_walk
  have he1 := Heap.get?_push_of_some (PySem.W.kdv_tup us) he
  refine hq _ (fun b o hb ho => ?_) ?_
  · rw [Heap.get?_update_other _ _ (Ne.symm hb)]; exact ho
  · rw [Heap.get?_update_self _ he1 rfl]; rfl
end
section
variable {X : Cx} {pins : List (Addr × Obj)} {σ : L2.St} {H : Hp} {s : Shared} {a C dx t1 : Addr} {f : Str} {y : V} {u : Value} {E : Value → Shared → Prop} {A : Around}
theorem cls_of (T : OexC X.K C) : ∃ cd : ClassData, PySem.W.clsIn X.K C = some cd ∧ PySem.HandSPX.refsVE cd.mro = true ∧ cd.hasDict = true := by
  obtain ⟨nm, q, N, bs, bm, sn, sub, ab, col, dd, k0, k1, k2, k3, k5, hC, hbm⟩ := T.cls
  refine ⟨{ name := nm, bases := bs, mro := .ref C :: bm, ns := N, qualname := q, hasDict := true, slotNames := sn, subclasses := sub, abstract := ab, collection := col, hasDel := false }, ?_, hbm, rfl⟩
  unfold PySem.W.clsIn; rw [hC] <;> rfl
theorem init_laid {us : List Value} {vs : List V} {Q : Value → Shared → Prop} (T : OexC X.K C) (I : Inv X pins σ H s) (e : H a = some (exo a C none)) (hl : us.length ≤ sizeLine) (rv : Vals vs us)
    (h : ∀ t1 s2, H t1 = none → Inv X pins σ (upd (upd H t1 (.tup vs)) a (exoT a C t1)) s2 → Q .none s2) :
    wpAny (model X.prog X.w) A (call (.builtin "ValueError.__init__") (.ref a :: us)) Q E s := by
  obtain ⟨nm, q, N, bs, bm, sn, sub, ab, col, dd, k0, k1, k2, k3, k5, hC, hbm⟩ := T.cls
  obtain ⟨t0, ho⟩ := exo_at I.hok e
  obtain ⟨hp, gs, dr, tk, os0⟩ := s
  refine wpAny_call (init_words F.excBase_ValueError (fun Y => PySem.HandSPX.refsVE_contains Y bm hbm) (I.kIn _ _ hC) ho hl fun h2 k hx => ?_)
  have hf : H hp.objs.size = none := I.hok.fresh (Nat.le_refl _)
  have hne : hp.objs.size ≠ a := fun z => by rw [z, e] at hf; cases hf
  have hlv : vs.length ≤ sizeLine := by rw [Paired.length rv]; exact hl
  have I1 := I.laid (t' := tk) (a := hp.objs.size) (o := .tup vs) (h' := hp.push (PySem.W.kdv_tup us)) (fun _ _ q => Heap.get?_push_of_some _ q) (Nat.le_refl _) ⟨hlv, us, rv, _, Heap.get?_push_size _ rfl, rfl, _, rfl⟩
  have ea : upd H hp.objs.size (.tup vs) a = some (exo a C none) := by rw [upd_ne hne.symm]; exact e
  have J := I1.write (t' := tk) (x := a) (e := a) (o := exoT a C hp.objs.size) (by rw [ea]; exact True.intro) (.inl rfl) k ⟨_, hx⟩ ⟨hx, ⟨_, hx⟩, fun h1 h2 z k => k _ z⟩
  exact h hp.objs.size _ hf J
theorem init_kept {us : List Value} {vs : List V} {Q : Value → Shared → Prop} (T : OexC X.K C) (I : Inv X pins σ H s) (e : H a = some (exo a C none)) (hl : us.length ≤ sizeLine)
    (h : ∀ s2, Inv X pins σ H s2 → Q .none s2) :
    wpAny (model X.prog X.w) A (call (.builtin "ValueError.__init__") (.ref a :: us)) Q E s := oinit_ok T I e hl h
/-- self.f = y -/
theorem kept_new {Q : Unit → Shared → Prop} (T : OexC X.K C) (I : Inv X pins σ H s) (e : H a = some (exoT a C t1)) (hno : PySem.W.findIn X.K (.ref C) f = some none) (ry : RelV y u)
    (h : ∀ dx s2, H dx = none → dx ≠ a → Inv X pins σ (upd (upd H dx (.xd [(f, y)])) a (excv a C dx t1)) s2 → Q () s2) : wpAny (model X.prog X.w) A (setAttr (.ref a) f u) Q E s := by
  obtain ⟨cd, hcl, hbm, hd⟩ := cls_of T
  have ho : s.heap.get? a = some ({ cls := .ref C, dict := none, data := .fields #[.ref t1, .none, .none, .none, .bool false, .none] } : Obj) := (I.hok a _ e).1
  obtain ⟨hp, gs, dr, tk, os0⟩ := s
  refine PySem.W.set_plain I.kIn (ox := { cls := .ref C, dict := none, data := .fields #[.ref t1, .none, .none, .none, .bool false, .none] }) (od := none) ⟨ho, rfl, rfl, trivial⟩ T.sa ?_
  refine PySem.HandSPX.exc_osa I.kIn ho hcl hbm hd hno fun h2 tk2 dx k dn dne hx hn => ?_
  have hnd : H dx = none := I.hok.fresh dn
  have old : ∀ {b : Addr} {o : Obj}, hp.get? b = some o → b ≠ dx := fun q => Nat.ne_of_lt (Nat.lt_of_lt_of_le (Heap.lt_size q) dn)
  have offa : ∀ {b : Addr}, H b = none → b ≠ a := fun n z => by rw [z, e] at n; cases n
  have offo : ∀ {b : Addr} {u : HO}, H b = some u → (∀ φ, u ≠ .ext φ) → b ≠ a := fun q n z => by
    rw [z, e] at q
    exact n _ (Option.some.inj q).symm
  have U : Un X.fs [] H (upd (upd H dx (.xd [(f, y)])) a (excv a C dx t1)) hp h2 := {
    keep := fun b o q n _ _ => k b o (offa n) q
    slot := fun b o q n _ _ => ⟨o.slots, k b o (offa n) q⟩
    free := fun b o q n _ => by rw [upd_ne (offa n), upd_ne (old q)]; exact n
    there := fun b o q _ => by
      by_cases hb : b = a
      · exact ⟨_, by rw [hb]; exact hx⟩
      · exact ⟨o, k b o hb q⟩
    tups := fun b xs q => by rw [upd_ne (offo q fun _ z => nomatch z), upd_ne (ne_of_none q hnd)]; exact q
    frzs := fun b o v q => by rw [upd_ne (offo q fun _ z => nomatch z), upd_ne (ne_of_none q hnd)]; exact q
    tbls := fun b ps q => ⟨#[], by rw [upd_ne (offo q fun _ z => nomatch z), upd_ne (ne_of_none q hnd), q]; simp⟩ }
  refine h dx _ hnd dne (I.un (t' := tk2) U fun b o q => ?_)
  by_cases hb : b = a
  · subst hb
    rw [upd_same] at q
    cases q
    exact ⟨hx, ⟨_, hx⟩, fun h1 h3 z k => k _ z⟩
  · rw [upd_ne hb] at q
    by_cases hdb : b = dx
    · subst hdb
      rw [upd_same] at q
      cases q
      exact ⟨_, hn, relO_put (fs := []) ry fun g => True.intro⟩
    · rw [upd_ne hdb] at q
      exact (I.hok b o q).stay (fun c v hc z => k c v (by
          rcases hc with hc | hc
          · rw [hc]; exact hb
          · exact offo hc fun _ z => nomatch z) z)
        (fun c hc => by rw [upd_ne (offo hc fun _ z => nomatch z), upd_ne (ne_of_none hc hnd)]; exact hc) (fun c xs hc => by rw [upd_ne (offo hc fun _ z => nomatch z), upd_ne (ne_of_none hc hnd)]; exact hc)
end
/-- Base.__init__(self, text): told, or not -/
def tHe (K : PySem.W.Frag) (ta : TA) : TE := fun σ H Q => ta σ H fun vs H1 => ∃ (a C : Addr) (ws : List V), vs = .ref a :: ws ∧ ws.length ≤ 1000 ∧ OexC K C ∧ H1 a = some (exo a C none) ∧ ((∀ t1, H1 t1 = none → Q .non (upd (upd H1 t1 (.tup ws)) a (exoT a C t1))) ∨ Q .non H1)
/-- self.f = e on it -/
def tKn (K : PySem.W.Frag) (f : Str) (to te : TE) : TS := fun D σ H => te σ H fun y H1 => to σ H1 fun x H2 => ∃ a C t1 : Addr, x = .ref a ∧ OexC K C ∧ PySem.W.findIn K (.ref C) f = some none ∧ H2 a = some (exoT a C t1) ∧ ∀ dx, H2 dx = none → dx ≠ a → D.nx σ (upd (upd H2 dx (.xd [(f, y)])) a (excv a C dx t1))
section
variable {X : Cx} {o e : Expr} {es : List Expr} {to te : TE} {ta : TA} {f x : Str} {p p' p1 p2 pos : Pos} {B : Addr}
theorem pe_he {W : Wk} {pl : Sem Bool} (hW : W.K = X.K) (hg : Gl X x) (hm : X.mg x = some (.ref B)) (hB : BaseF W B) (ha : PA X (e :: es) ta) (hdb : (x == ("__debug__" : Str)) = false := by decide)
    (hc : eval (.Call (.Attribute (.Name x p1) "__init__" p2) (e :: es) [] pos) X.env = (do
      let ov ← eval (.Name x p1) X.env
      standAt p2.atName
      let (g, first) ← holding [ov] (getMethod ov "__init__" pl)
      callWith pos g first (backTo pos (starEach (e :: es) X.env)) (backToKw pos (keywordEach [] X.env))) := by rfl)
    (he : starEach (e :: es) X.env = (false, eval e X.env) :: starEach es X.env := by rfl) (hpl : (backTo pos (starEach es X.env)).any (·.1) = false := by rfl) :
    PE X (.Call (.Attribute (.Name x p1) "__init__" p2) (e :: es) [] pos) (tHe X.K ta) := by
  refine ⟨fun pins s σ H Q I h => ?_⟩
  obtain ⟨b1, b2, b3⟩ := hB
  rw [hW] at b1 b2 b3
  refine PySem.W.methodCall_KW (ld_glob I hg hm ?_ hdb) hc
  refine PySem.W.method_cls I.kIn b1 (PySem.W.cls_value I.kIn b2 b3 (by decide +kernel) ?_)
  show wpAny _ _ (callWith pos (Value.builtin "ValueError.__init__") [] (backTo pos (starEach (e :: es) X.env)) []) _ _ _
  refine callWith_method1 (thn (ha.run pos pins _ σ H _ (I.tok _) h) fun us s1 hh => ?_) he hpl
  obtain ⟨vs, H1, I1, r1, a, C, ws, ev, hl, T, ea, q⟩ := hh
  subst ev
  cases r1 with
  | @cons _ u0 _ ur ra rr =>
    cases (show u0 = Value.ref a from ra)
    have hlen : ur.length ≤ sizeLine := by rw [← Paired.length rr, sizeLine_eq]; omega
    rcases q with q | q
    · exact init_laid T I1 ea hlen rr fun t1 s2 ht J => ⟨.non, _, J, rfl, q t1 ht⟩
    · exact oinit_ok T I1 ea hlen fun s2 J => ⟨.non, _, J, rfl, q⟩
theorem ps_kn (ho : PE X o to) (he : PE X e te) (hs : swapsWith e (some (.Attribute o f p')) pos.line X.env = pure false := by rfl) : PS X (.Assign [.Attribute o f p'] e pos) (tKn X.K f to te) := by
  refine ⟨fun pins s σ H D I h => ?_⟩
  refine plainObj_wpAny_Assign_Attribute (thn (he.run pins s σ H _ I h) fun v s1 h1 => ?_) hs
  obtain ⟨y, H1, I1, r1, q1⟩ := h1
  refine thn (ho.run pins s1 σ H1 _ I1 q1) fun u s2 h2 => ?_
  obtain ⟨x, H2, I2, r2, a, C, t1, rfl, T, hno, ea, q⟩ := h2
  cases (show u = Value.ref a from r2)
  exact kept_new T I2 ea hno r1 fun dx s3 n ne J => ⟨σ, _, J, q dx n ne⟩
end

/-! ### the two promises of such an __init__ -/
/-- the object is told whole -/
def spW (W : Wd) (c : Nat) : Sp := fun vs H Q _ => ∃ a y, vs = [.ref a, y] ∧ H a = some (exo a (W.C c) none) ∧
  ∀ t1 dx, H t1 = none → t1 ≠ a → H dx = none → dx ≠ a → dx ≠ t1 → Q .non (upd (upd (upd H t1 (.tup [.str (W.msg c)])) dx (fdict y)) a (excv a (W.C c) dx t1))
/-- for raise -/
def spR (W : Wd) (c : Nat) : Sp := fun vs H Q _ => ∃ a y, vs = [.ref a, y] ∧ H a = some (exo a (W.C c) none) ∧
  ∀ dx, H dx = none → dx ≠ a → Q .non (upd (upd H dx (exd dx [("found", y)])) a (exo a (W.C c) (some dx)))
abbrev initN : List Str := ["self", "found"]
/-- def __init__(self, found): Base.__init__(self, text); self.found = found -/
structure ExcI (W : Wd) (c : Nat) (fI : Addr) (fd : FuncData) : Prop where
  T : OexC W.K (W.C c)
  iC : PySem.W.findIn W.K (.ref (W.C c)) "__init__" = some (some (.ref fI))
  tI : PySem.W.typeIn W.K (.ref fI) = some (.type "function")
  G : FnOk W.P W.w W.K W.mg W.base CX0 1 fI fd initN (spW W c)
  G2 : FnOk W.P W.w W.K W.mg W.base CX0 1 fI fd initN (spR W c)
  hb : ∀ (s : Shared) (us : List Value), W.K.In s.heap → us.length = 2 → BindsTo s fd ⟨us, []⟩ (initN.zip us)
  hk : ∀ (s : Shared) (u v : Value), W.K.In s.heap → BindsTo s fd ⟨[u], [("found", v)]⟩ (initN.zip [u, v])
section
variable {W : Wd} {xB x qual : Str} {c : Nat} {B fI : Addr} {sc : Scope} {params : Arguments} {dV kV doc pm cdv ct oc : Value} {an od : Option Addr} {osl : Array (Option Value)} {p1 p2 p3 p4 p5 p6 p7 p8 p9 pc : Pos} {j : Nat} {pl : PySem.Env → Sem Bool}
theorem init_fn (lk : W.K.lookup fI = some ⟨oc, od, .func (PySem.W.fnOf x qual params [.Expr (.Call (.Attribute (.Name xB p1) "__init__" p2) [.Name "self" p3, .Constant (.str (W.msg c)) j pc] [] p4) p9, .Assign [.Attribute (.Name "self" p5) "found" p6] (.Name "found" p7) p8] sc dV kV doc pm an cdv ct), osl⟩)
    (hcd : PySem.W.codeIn W.K cdv qual = true) (S : FnScope initN initN sc) (T : OexC W.K (W.C c)) (hno : PySem.W.findIn W.K (.ref (W.C c)) "found" = some none) (hm : W.mg xB = some (.ref B)) (hB : BaseF W.toWk B) (hl : (W.msg c).length ≤ 1000)
    (hg : sc.names.lookup xB = some .globalImplicit := by rfl) (v1 : sc.names.lookup ("self" : Str) = some .local := by rfl) (v2 : sc.names.lookup ("found" : Str) = some .local := by rfl) (hdb : (xB == ("__debug__" : Str)) = false := by decide)
    (hc : ∀ env : PySem.Env, eval (.Call (.Attribute (.Name xB p1) "__init__" p2) [.Name "self" p3, .Constant (.str (W.msg c)) j pc] [] p4) env = (do
      let ov ← eval (.Name xB p1) env
      standAt p2.atName
      let (g, first) ← holding [ov] (getMethod ov "__init__" (pl env))
      callWith p4 g first (backTo p4 (starEach [.Name "self" p3, .Constant (.str (W.msg c)) j pc] env)) (backToKw p4 (keywordEach [] env))) := by intro _; rfl)
    (hs1 : ∀ env : PySem.Env, swapsWith (.Call (.Attribute (.Name xB p1) "__init__" p2) [.Name "self" p3, .Constant (.str (W.msg c)) j pc] [] p4) none p9.line env = pure false := by intro _; rfl)
    (hs2 : ∀ env : PySem.Env, swapsWith (.Name "found" p7) (some (.Attribute (.Name "self" p5) "found" p6)) p8.line env = pure false := by intro _; rfl) :
    FnOk W.P W.w W.K W.mg W.base CX0 1 fI (PySem.W.fnOf x qual params [.Expr (.Call (.Attribute (.Name xB p1) "__init__" p2) [.Name "self" p3, .Constant (.str (W.msg c)) j pc] [] p4) p9, .Assign [.Attribute (.Name "self" p5) "found" p6] (.Name "found" p7) p8] sc dV kV doc pm an cdv ct) initN (spW W c) ∧
    FnOk W.P W.w W.K W.mg W.base CX0 1 fI (PySem.W.fnOf x qual params [.Expr (.Call (.Attribute (.Name xB p1) "__init__" p2) [.Name "self" p3, .Constant (.str (W.msg c)) j pc] [] p4) p9, .Assign [.Attribute (.Name "self" p5) "found" p6] (.Name "found" p7) p8] sc dV kV doc pm an cdv ct) initN (spR W c) := by
  constructor
  · refine fn_of (k := 0) lk hcd S (fun vs H Q E h => by obtain ⟨a, y, rfl, _⟩ := h; rfl) fun A outer s H vs Q E hr h => ?_
    obtain ⟨a, y, rfl, ea, q⟩ := h
    refine ⟨_, pss_cons (ps_expr (pe_he (W := W.toWk) rfl hg hm hB (pa_cons (pe_var (i := 0) rfl (.inl v1)) (pa_cons pe_str pa_nil)) hdb (hc _)) (hs1 _)) (pss_one (ps_kn (pe_var (i := 0) rfl (.inl v1)) (pe_var (i := 1) rfl (.inl v2)) (hs2 _))), ?_⟩
    refine ⟨_, rfl, a, W.C c, [.str (W.msg c)], rfl, by simp, T, ea, .inl fun t1 ht => ?_⟩
    have hta : t1 ≠ a := fun z => by rw [z, ea] at ht; cases ht
    refine ⟨_, rfl, _, rfl, a, W.C c, t1, rfl, T, hno, upd_same, fun dx hd hda => ?_⟩
    rw [upd_ne hda] at hd
    have hdt : dx ≠ t1 := fun z => by rw [z, upd_same] at hd; cases hd
    rw [upd_ne hdt] at hd
    have e : upd (upd (upd (upd H t1 (.tup [.str (W.msg c)])) a (exoT a (W.C c) t1)) dx (.xd [("found", y)])) a (excv a (W.C c) dx t1) = upd (upd (upd H t1 (.tup [.str (W.msg c)])) dx (fdict y)) a (excv a (W.C c) dx t1) := by
      funext b
      by_cases hb : b = a
      · rw [hb, upd_same, upd_same]
      · rw [upd_ne hb, upd_ne hb]
        by_cases hbd : b = dx
        · rw [hbd, upd_same, upd_same]; rfl
        · rw [upd_ne hbd, upd_ne hbd, upd_ne hb]
    show Q .non _
    rw [e]
    exact q t1 dx ht hta hd hda hdt
  · refine fn_of (k := 0) lk hcd S (fun vs H Q E h => by obtain ⟨a, y, rfl, _⟩ := h; rfl) fun A outer s H vs Q E hr h => ?_
    obtain ⟨a, y, rfl, ea, q⟩ := h
    refine ⟨_, pss_cons (ps_expr (pe_he (W := W.toWk) rfl hg hm hB (pa_cons (pe_var (i := 0) rfl (.inl v1)) (pa_cons pe_str pa_nil)) hdb (hc _)) (hs1 _)) (pss_one (ps_ost (pe_var (i := 0) rfl (.inl v1)) (pe_var (i := 1) rfl (.inl v2)) (hs2 _))), ?_⟩
    refine ⟨_, rfl, a, W.C c, [.str (W.msg c)], rfl, by simp, T, ea, .inr ?_⟩
    exact ⟨_, rfl, _, rfl, a, W.C c, rfl, T, hno, .inl ⟨ea, fun dx hd hda => q dx hd hda⟩⟩
end
/-! ### C(e), a new exception -/
section
variable {X : Cx} {W : Wd} {c : Nat} {fI : Addr} {fd : FuncData}
/-- C called, what is found bound somehow -/
theorem mk_run {pins : List (Addr × Obj)} {σ : L2.St} {H : Hp} {s : Shared} {us : List Value} {y : V} {u : Value} {Q : Value → Shared → Prop} (hW : W.K = X.K) (hP : W.P = X.prog) (hw : W.w = X.w) (hmg : W.mg = X.mg) (hbs : W.base = X.base) (D : ExcI W c fI fd) (I : Inv X pins σ H s) (hr : Room 2 X.A) (ry : RelV y u)
    (hus : us.length ≤ 1000) (hbind : ∀ (s : Shared) (a : Value), W.K.In s.heap → BindsTo s fd ⟨a :: us, []⟩ (initN.zip [a, u]))
    (h : ∀ a t1 dx s2, H a = none → H t1 = none → t1 ≠ a → H dx = none → dx ≠ a → dx ≠ t1 → s.heap.get? a = none → Inv X pins σ (upd (upd (upd H t1 (.tup [.str (W.msg c)])) dx (fdict y)) a (excv a (W.C c) dx t1)) s2 → Q (.ref a) s2) :
    wpAny (model X.prog X.w) X.A (call (.ref (W.C c)) us) Q X.xe s := by
  obtain ⟨T, iC, tI, G, G2, hb, hk⟩ := D
  rw [hW] at T iC tI hbind
  rw [hP, hw, hW, hmg, hbs] at G
  obtain ⟨nm, q, N, bs, bm, sn, sub, ab, col, dd, k0, k1, k2, k3, k5, hC, hbm⟩ := T.cls
  obtain ⟨hp, g, dr, tk, os⟩ := s
  have hn : H (hp.objs.size + 1) = none := I.hok.fresh (Nat.le_succ _)
  have old : ∀ b o, hp.get? b = some o → ((hp.push (PySem.W.kdv_tup us)).push (PySem.HandSPX.excO (W.C c) hp.objs.size)).get? b = some o := fun b o e => Heap.get?_push_of_some _ (Heap.get?_push_of_some _ e)
  have hget : ((hp.push (PySem.W.kdv_tup us)).push (PySem.HandSPX.excO (W.C c) hp.objs.size)).get? (hp.objs.size + 1) = some (PySem.HandSPX.excO (W.C c) hp.objs.size) := by heap_get
  have I2 := I.laid (t' := tk) (a := hp.objs.size + 1) (o := exo (hp.objs.size + 1) (W.C c) none) old (Nat.le_succ _) (exo_ok hget)
  have r2 : Vals [V.ref (hp.objs.size + 1), y] [Value.ref (hp.objs.size + 1), u] := .cons rfl (.cons ry .nil)
  have hsz : us.length ≤ sizeLine := Nat.le_trans hus (Nat.le_trans (by decide) line6)
  have hnone : hp.get? (hp.objs.size + 1) = none := by
    cases e : hp.get? (hp.objs.size + 1) with
    | none => rfl
    | some o => exact absurd (Heap.lt_size e) (Nat.not_lt.mpr (Nat.le_succ _))
  have hq : spW W c [V.ref (hp.objs.size + 1), y] (upd H (hp.objs.size + 1) (exo (hp.objs.size + 1) (W.C c) none)) (fun v H2 => v = .non ∧ ∃ t1 dx, H t1 = none ∧ t1 ≠ hp.objs.size + 1 ∧ H dx = none ∧ dx ≠ hp.objs.size + 1 ∧ dx ≠ t1 ∧
      H2 = upd (upd (upd H t1 (.tup [.str (W.msg c)])) dx (fdict y)) (hp.objs.size + 1) (excv (hp.objs.size + 1) (W.C c) dx t1)) (fun _ _ _ => False) := by
    refine ⟨_, y, rfl, upd_same, fun t1 dx h1 h2 h3 h4 h5 => ⟨rfl, t1, dx, ?_, h2, ?_, h4, h5, ?_⟩⟩
    · rw [upd_ne h2] at h1; exact h1
    · rw [upd_ne h4] at h3; exact h3
    · funext b
      by_cases hb : b = hp.objs.size + 1
      · rw [hb, upd_same, upd_same]
      · rw [upd_ne hb, upd_ne hb]
        by_cases hbd : b = dx
        · rw [hbd, upd_same, upd_same]
        · rw [upd_ne hbd, upd_ne hbd]
          by_cases hbt : b = t1
          · rw [hbt, upd_same, upd_same]
          · rw [upd_ne hbt, upd_ne hbt, upd_ne hb]
  have run := G.run _ X.stack _ _ ⟨Value.ref (hp.objs.size + 1) :: us, []⟩ [Value.ref (hp.objs.size + 1), u] _ _ _ (Room.make hr (W.C c) us []) (I2.env0.make (W.C c) us []) (hbind _ _ I2.kIn) r2 hq
  refine wpAny_call (PySem.HandSPX.call_own F.excBase_ValueError (fun Y => PySem.HandSPX.refsVE_contains Y bm hbm) (I.kIn _ _ hC) (PySem.W.looks_findIn I.kIn iC) (fun self => PySem.W.bind_fn I.kIn self tI) hsz (codeAny_mono run fun r s2 hr2 => ?_))
  match r, hr2 with
  | .error er, hr2 => exact False.elim hr2
  | .ok (.ret w), hr2 =>
    obtain ⟨v, H2, I3, rv, rfl, t1, dx, h1, h2, h3, h4, h5, rfl⟩ := I2.after hr2
    exact ⟨rv, h _ t1 dx s2 hn h1 h2 h3 h4 h5 hnone I3⟩
  | .ok .next, hr2 => exact False.elim hr2
  | .ok .brk, hr2 => exact False.elim hr2
  | .ok .cont, hr2 => exact False.elim hr2
end
/-- C(e) -/
def eMk (c : Nat) (f : FE) : FE := fun env m => bnd (f env m) fun d m1 => some (.ok (.exc c d) m1)
/-- raise C(e) -/
def sRaise (c : Nat) (f : FE) : FS := fun env m => bnds (f env m) env fun d m1 => some (.exn env c d m1)
section
variable {W : Wd} {Wx : WX} {ph : Plc} {H : Hp} {m : Sto} {σ : L2.St} {env : Nv} {Q : VK} {L : Lv} {R : Rst} {e : Expr} {f : FE} {pos p : Pos} {x : Str} {c : Nat} {fI : Addr} {fd : FuncData}
theorem tL.one {Q : List V → Hp → Prop} (hi : ∀ v H1, (∃ ph1 m1 d, RelSto W ph1 H1 m1 ∧ Rep W ph1 H1 d v ∧ True) → True) (h : tE W Wx f σ H fun v H1 => Q [v] H1) : tL W Wx [f] σ H Q := by
  obtain ⟨ph, env, m, he, hs, o, e, p⟩ := h
  refine ⟨ph, env, m, he, hs, ?_⟩
  rw [evL_cons, e]
  cases o with
  | exn c d m1 => exact ⟨_, rfl, p⟩
  | ok d m1 =>
    refine ⟨_, rfl, fun vs H' ph' s r => ?_⟩
    obtain ⟨v, rfl, rv⟩ := r.one
    exact p v H' ph' s rv
theorem Rep.newE {a t1 dx : Addr} {d : D} {y : V} (hs : RelSto W ph H m) (r : Rep W ph H d y) (ha : H a = none) (ht : H t1 = none) (hta : t1 ≠ a) (hd : H dx = none) (hda : dx ≠ a) (hdt : dx ≠ t1) :
    Ste W ph H ph (upd (upd (upd H t1 (.tup [.str (W.msg c)])) dx (fdict y)) a (excv a (W.C c) dx t1)) m ∧ Rep W ph (upd (upd (upd H t1 (.tup [.str (W.msg c)])) dx (fdict y)) a (excv a (W.C c) dx t1)) (.exc c d) (.ref a) := by
  have s1 : Ste W ph H ph (upd H t1 (.tup [.str (W.msg c)])) m := .put ht hs
  have hd2 : upd H t1 (.tup [.str (W.msg c)]) dx = none := by rw [upd_ne hdt]; exact hd
  have s2 : Ste W ph _ ph (upd (upd H t1 (.tup [.str (W.msg c)])) dx (fdict y)) m := .put hd2 s1.sto
  have ha2 : upd (upd H t1 (.tup [.str (W.msg c)])) dx (fdict y) a = none := by rw [upd_ne hda.symm, upd_ne hta.symm]; exact ha
  have s3 : Ste W ph _ ph (upd (upd (upd H t1 (.tup [.str (W.msg c)])) dx (fdict y)) a (excv a (W.C c) dx t1)) m := .put ha2 s2.sto
  refine ⟨(s1.trans s2).trans s3, a, dx, y, t1, rfl, upd_same, ⟨hs.notin ha, hs.nopv ha⟩, ?_, ⟨hs.notin hd, hs.nopv hd⟩, ⟨?_, hs.notin ht, hs.nopv ht⟩, Rep.mono s3 _ _ (Rep.mono s2 _ _ (Rep.mono s1 _ _ r))⟩
  · rw [upd_ne hda, upd_same]
  · rw [upd_ne hta, upd_ne hdt.symm, upd_same]
theorem de_mk (D : ExcI W c fI fd) (hm : W.mg x = some (.ref (W.C c))) (ha : DE W L e f) (hk : 2 ≤ L.k := by decide) (hcl : L.calm = true := by rfl) (hg : L.sc.names.lookup x = some .globalImplicit := by rfl) (hdb : (x == ("__debug__" : Str)) = false := by decide)
    (he : ∀ env, starEach [e] env = (false, eval e env) :: starEach [] env := by intro _; rfl) (hpl : ∀ env, (backTo pos (starEach [] env)).any (·.1) = false := by intro _; rfl) : DE W L (.Call (.Name x p) [e] [] pos) (eMk c f) := by
  intro R F Wx tk
  refine ⟨fun pins s σ H Q I h => ?_⟩
  obtain ⟨ph, env, m, hv, hs, h⟩ := h
  refine wpAny_Call_Name_kw (ld_glob (X := mkX W L.N R) I (F.gl x hg) hm ?_ hdb)
  have hA : tL W Wx [f] σ H fun vs H1 => ∃ y, vs = [y] ∧ ∃ ph1 m1 d, RelSto W ph1 H1 m1 ∧ Rep W ph1 H1 d y ∧ tX W Wx (some (.ok (.exc c d) m1)) ph1 σ H1 Q :=
    tL.one (fun _ _ _ => trivial) (tE.mk hv hs ((tX.bnd hs h).imp fun v1 H1 ⟨ph1, m1, d1, s1, r1, h1⟩ => ⟨v1, rfl, ph1, m1, d1, s1.sto, r1, h1⟩))
  have hda : DA W L [e] [f] := da_cons ha da_nil he
  refine PySem.W.callWith_K (h₀ := W.base) I.ok.mod.kin D.T.kC (thn ((hda R F Wx tk).run pos pins s σ H _ I hA) fun us s1 h1 => ?_) (he _) (hpl _)
  obtain ⟨vs, H1, I1, rv, y, rfl, ph1, m1, d, hs1, r1, o, eo, po⟩ := h1
  cases eo
  obtain ⟨u, rfl, ru⟩ := vals1 rv
  refine ⟨I1.kIn, ?_⟩
  refine mk_run (X := mkX W L.N R) rfl rfl rfl rfl rfl D I1 ((F.room hcl).mono hk) ru (by simp) (fun s a X => D.hb s [a, u] X rfl) fun a t1 dx s2 h1 h2 h3 h4 h5 h6 _ J => ?_
  obtain ⟨st, rn⟩ := Rep.newE (c := c) hs1 r1 h1 h2 h3 h4 h5 h6
  exact ⟨.ref a, _, J, rfl, po _ _ ph1 st rn⟩
theorem ds_raise (D : ExcI W c fI fd) (hm : W.mg x = some (.ref (W.C c))) (ha : DE W L e f) (hk : 2 ≤ L.k := by decide) (hc : L.calm = true := by rfl) (hg : L.sc.names.lookup x = some .globalImplicit := by rfl) (hdb : (x == ("__debug__" : Str)) = false := by decide)
    (he : ∀ env, starEach [e] env = (false, eval e env) :: starEach [] env := by intro _; rfl) (hpl : ∀ env, (backTo pos (starEach [] env)).any (·.1) = false := by intro _; rfl) {p2 : Pos} : DS W L (.Raise (some (.Call (.Name x p) [e] [] pos)) none p2) (sRaise c f) := by
  intro R F Wx tk
  have hda : DA W L [e] [f] := da_cons ha da_nil he
  have hbd : Binds W.K fd initN [] := fun s us X hl => by
    rw [List.append_nil] at hl ⊢
    exact D.hb s us X hl
  refine PS.imp (ps_raise (X := mkX W L.N R) (F.calm hc) tk (pmk_oex (dvs := []) D.T D.iC D.tI D.G2 ((F.room hc).mono hk) hbd .nil pass0 (F.gl x hg) hm (hda R F Wx tk) hdb (he _) (hpl _))) fun Dn σ H h => ?_
  obtain ⟨ph, env, m, hv, hs, h⟩ := h
  refine tL.one (fun _ _ _ => trivial) (tE.mk hv hs ((tXS.bnds hs hv h).imp fun v1 H1 q => ?_))
  obtain ⟨ph1, m1, d1, s1, r1, o, e, p⟩ := q
  cases e
  refine ⟨by simp, fun a hna => ⟨a, v1, rfl, upd_same, fun dx hd hda => ⟨rfl, dx, _, upd_same, by rw [upd_ne hda, upd_same], ?_, ?_⟩⟩⟩
  · rw [upd_ne hda] at hd; exact hd
  · have hd' : H1 dx = none := by rw [upd_ne hda] at hd; exact hd
    have e2 : upd (del (upd (upd (upd H1 a (exo a (W.C c) none)) dx (exd dx [("found", v1)])) a (exo a (W.C c) (some dx))) a) dx (.xd [("found", v1)]) = upd H1 dx (fdict v1) := by
      funext b
      by_cases hb : b = dx
      · rw [hb, upd_same, upd_same]; rfl
      · rw [upd_ne hb, upd_ne hb]
        by_cases hba : b = a
        · rw [hba, del_same, hna]
        · rw [del_ne hba, upd_ne hba, upd_ne hb, upd_ne hba]
    rw [e2]
    have s2 : Ste W ph1 H1 ph1 (upd H1 dx (fdict v1)) m1 := .put hd' s1.sto
    exact p σ dx v1 _ ph1 s2 ((hv.mono s1).mono s2) upd_same ⟨s1.sto.notin hd', s1.sto.nopv hd'⟩ (Rep.mono s2 _ _ r1)
end
end PM

/-! PMT: try with several except clauses, each with a name or without. -/
namespace PM
open PySem PySem.Spec L2 PyProof.Rows
/-- the ends behind a clause whose name stands in slot i -/
def endsOff (D : Ends) (i : Nat) : Ends := { nx := fun σ H => D.nx (σ.set i none) H, rt := D.rt, bk := fun σ H => D.bk (σ.set i none) H, ct := fun σ H => D.ct (σ.set i none) H }
inductive HdN (X : Cx) : List ExceptHandler → List (Value × (Addr → Value → Option Addr → TS)) → Prop
  | nil : HdN X [] []
  | bare {x : Str} {c : Value} {ts : Addr → Value → Option Addr → TS} {s0 : Stmt} {ss : List Stmt} {p1 p2 : Pos} {hs : List ExceptHandler} {l : List (Value × (Addr → Value → Option Addr → TS))} (hc : Names X x c)
      (hw : ∀ (a : Addr) (oe : Obj) (cls : Value) (d : Option Addr) (pn : List (Addr × Obj)), Zc cls d oe → (∃ vs, oe.data = .fields vs) → PSs (X.suite a ((a, oe) :: pn)) (s0 :: ss) (ts a cls d)) (r : HdN X hs l) :
      HdN X (.ExceptHandler (some (.Name x p1)) none (s0 :: ss) p2 :: hs) ((c, ts) :: l)
  | named {x n : Str} {i : Nat} {c : Value} {ts : Addr → Value → Option Addr → TS} {s0 : Stmt} {ss : List Stmt} {p1 p2 : Pos} {hs : List ExceptHandler} {l : List (Value × (Addr → Value → Option Addr → TS))} (hc : Names X x c) (hi : X.N[i]? = some n) (hln : X.env.kindOf n = some .local)
      (hw : ∀ (a : Addr) (oe : Obj) (cls : Value) (d : Option Addr) (pn : List (Addr × Obj)), Zc cls d oe → (∃ vs, oe.data = .fields vs) → PSs (X.suite a ((a, oe) :: pn)) (s0 :: ss) (ts a cls d)) (r : HdN X hs l) :
      HdN X (.ExceptHandler (some (.Name x p1)) (some n) (s0 :: ss) p2 :: hs) ((c, fun a cls d D σ H => ts a cls d (endsOff D i) (σ.set i (some (.ref a))) H) :: l)
section
variable {X : Cx} {body : List Stmt} {hd0 : ExceptHandler} {hds : List ExceptHandler} {l : List (Value × (Addr → Value → Option Addr → TS))} {pos : Pos} {tb : WX → TS} {Wout : WX}
theorem ps_tryN (est : X.stack = X.env :: X.outer) (efr : X.env.frame = some X.env.locals) (nd : X.N.Nodup) (tk : Takes X Wout)
    (hb : ∀ (Wi : WX) (pn : List (Addr × Obj)) (xe : Value → Shared → Prop), Takes (X.tr pn xe) Wi → PassesOwn (model X.prog X.w) X.A X.env xe → PSs (X.tr pn xe) body (tb Wi)) (hh : HdN X (hd0 :: hds) l) :
    PS X (.Try body (hd0 :: hds) [] [] pos) (fun D σ H => tb (wMany X.K Wout D l) D σ H) := by
  refine ⟨fun pins s σ H D I h => ?_⟩
  have okX := I.ok
  have frX : X.A.frames = some (X.env :: X.outer) := okX.frames.trans (congrArg some est)
  let caught : Value → Shared → Prop := fun e s1 => wpAny (model X.prog X.w) X.A (noteFrame e X.env) (fun _ s2 => wpAny (model X.prog X.w) X.A (setFlight e none) (fun _ s3 => wpAny (model X.prog X.w) X.A (handleBy e X.env (hd0 :: hds)) (SP X pins D) X.xe s3) X.xe s2) X.xe s1
  have tkB : Takes (X.tr (X.pn ++ pins) caught) (wMany X.K Wout D l) := by
    rintro u s2 ⟨a, B, sI, pins2, σ2, H2, cls, d, rfl, J0, nb, up, sky, na, os, ag, wish⟩
    have J : Inv X pins σ2 H2 sI := J0.ofTry okX
    rw [show (X.tr (X.pn ++ pins) caught).stack = X.env :: X.outer from est] at sky nb
    show wpAny (model X.prog X.w) X.A (noteFrame (.ref a) X.env) _ _ _
    refine Sky.land Zc.steady frX efr sky fun h3 fl up3 => ?_
    have nb' : ∀ b o, sI.heap.get? b = some o → b ∉ frs X.stack → B.get? b = some o := by rw [est]; exact nb
    have J3 : Inv X pins σ2 H2 { s2 with heap := h3 } := J.landed nb' fl.1 (up.trans up3) os ag
    obtain ⟨oe, vs, he, hz, hd⟩ := fl.there
    have off : a ∉ frs (X.env :: X.outer) := fun hm => by
      obtain ⟨_, o1, e1, nf⟩ := fl.2.2.1.mem hm
      rw [he] at e1
      cases e1
      exact nf _ hd
    have nL : a ≠ X.env.locals := fun z => off (List.mem_filterMap.mpr ⟨X.env, List.mem_cons_self, by rw [efr, z]⟩)
    have nF : a ∉ X.fs := fun hm => by
      obtain ⟨e, h1, h2⟩ := List.mem_filterMap.mp hm
      exact off (List.mem_filterMap.mpr ⟨e, List.mem_cons_of_mem _ h1, h2⟩)
    have S3 := J3.suite he hd na nL nF
    have LT : PySem.W.Looks (model X.prog X.w) h3 (typeOf (.ref a)) cls := fun A Q E s k q => wpAny_typeOf_ref (k _ _ he) (by rw [hz.1]; exact q)
    have seen : ∀ {x : Str} {c : Value} {p : Pos} {Q : Value → Shared → Prop} {E : Value → Shared → Prop}, Names X x c → Q c { s2 with heap := h3 } → wpAny (model X.prog X.w) (X.A.mark (some (.ref a))) (eval (.Name x p) X.env) Q E { s2 with heap := h3 } := by
      rintro x c p Q E ⟨g1, g2, g3 | ⟨g3, g4, g5⟩⟩ q
      · exact ld_glob (X := X.suite a ((a, oe) :: (X.pn ++ pins))) S3 g1 g3 q g2
      · exact ld_blt (X := X.suite a ((a, oe) :: (X.pn ++ pins))) S3 g1 g3 g4 q g5 g2
    have go : ∀ {hs : List ExceptHandler} {m : List (Value × (Addr → Value → Option Addr → TS))}, HdN X hs m → wMany X.K Wout D m cls d σ2 H2 → wpAny (model X.prog X.w) X.A (handleBy (.ref a) X.env hs) (SP X pins D) X.xe { s2 with heap := h3 } := by
      intro hs m hk
      induction hk with
      | nil =>
        intro wv
        refine wpAny_handleBy_nil ?_
        obtain ⟨_, _, _, oe2, vs2, T, oT, ts2, he2, hz2, hd2, h12, _⟩ := id fl
        unfold PySem.passOn
        refine wpAny_bind (wpAny_field he2 hd2 h12 ?_)
        rw [if_neg (by simp)]
        have out : wpAny (model X.prog X.w) X.A (setFlight (.ref a) X.env.frame) (fun _ s4 => wpAny (model X.prog X.w) X.A (throw (.ref a) : Sem Flow) (SP X pins D) X.xe s4) X.xe { s2 with heap := h3 } := by
          rw [efr]
          exact HandSPX.setFlight_upZ fl fun h4 hh4 up4 => wpAny_throw (tk _ _ ⟨a, B, sI, pins, σ2, H2, cls, d, rfl, J, nb', (up.trans up3).trans up4, .inr (.inr (by rw [est]; exact hh4)), na, os, ag, wv⟩)
        first
          | exact wpAny_bind (wpAny_pure (wpAny_bind out))
          | exact wpAny_bind out
      | @bare x c ts s0 ss p1 p2 hs2 l2 hc hw r ih =>
        rintro ⟨b, hb1, yes, no⟩
        refine wpAny_handleBy_cons (codeAny_handlers_test (seen hc ((PySem.W.exm_one (M := model X.prog X.w) J3.kIn LT hb1).here ?_))) (by intro q; cases q)
        cases b with
        | false =>
          show wpAny _ X.A (handleBy (.ref a) X.env hs2) _ _ _
          exact ih (no rfl)
        | true =>
          refine codeAny_handlers_suite (HandSPX.lands_againZ fl fun h4 fl4 up4 => ?_)
          have J4 : Inv X pins σ2 H2 { s2 with heap := h4 } := J.landed nb' fl4.1 ((up.trans up3).trans up4) os ag
          obtain ⟨oe4, vs4, he4, hz4, hd4⟩ := fl4.there
          refine wpAny_mono ((hw a oe4 cls d (X.pn ++ pins) hz4 ⟨_, hd4⟩).run [] _ _ H2 _ (J4.suite he4 hd4 na nL nF) (yes rfl a na)) (fun f s6 hsp => ?_) fun _ _ z => False.elim z
          match f, hsp with
          | .next, ⟨_, _, S6, q6⟩ => exact ⟨_, _, S6.unsuite okX, q6⟩
          | .brk, ⟨_, _, S6, q6⟩ => exact ⟨_, _, S6.unsuite okX, q6⟩
          | .cont, ⟨_, _, S6, q6⟩ => exact ⟨_, _, S6.unsuite okX, q6⟩
          | .ret u, ⟨_, _, _, S6, r6, q6⟩ => exact ⟨_, _, _, S6.unsuite okX, r6, q6⟩
      | @named x n i c ts s0 ss p1 p2 hs2 l2 hc hi hln hw r ih =>
        rintro ⟨b, hb1, yes, no⟩
        refine wpAny_handleBy_cons (codeAny_handlers_test (seen hc ((PySem.W.exm_one (M := model X.prog X.w) J3.kIn LT hb1).here ?_))) (by intro q; cases q)
        cases b with
        | false =>
          show wpAny _ X.A (handleBy (.ref a) X.env hs2) _ _ _
          exact ih (no rfl)
        | true =>
          refine codeAny_handlers_suite_as (HandSPX.lands_againZ fl fun h4 fl4 up4 => ?_)
          have J4 : Inv X pins σ2 H2 { s2 with heap := h4 } := J.landed nb' fl4.1 ((up.trans up3).trans up4) os ag
          obtain ⟨oe4, vs4, he4, hz4, hd4⟩ := fl4.there
          refine store_ok (X := X.suite a ((a, oe4) :: (X.pn ++ pins))) (v := .ref a) (J4.suite he4 hd4 na nL nF) nd hi (.inl hln) rfl (fun s5 S5 => ?_) (.inr hln)
          refine wpAny_mono ((hw a oe4 cls d (X.pn ++ pins) hz4 ⟨_, hd4⟩).run [] s5 _ H2 _ S5 (yes rfl a na)) (fun f s6 hsp => ?_) fun _ _ z => False.elim z
          have tail : ∀ {σ6 : L2.St} {H6 : Hp} {Q : Shared → Prop}, Inv (X.suite a ((a, oe4) :: (X.pn ++ pins))) [] σ6 H6 s6 → (∀ s7, Inv X pins (σ6.set i none) H6 s7 → Q s7) →
              wpAny (model X.prog X.w) X.A (do bindName X.env n .none; unbindBehindTheSuite X.env n p2) (fun _ s7 => Q s7) X.xe s6 := fun S6 hq => gone_ok (S6.unsuite okX) nd hi hln hq
          match f, hsp with
          | .next, ⟨_, _, S6, q6⟩ => exact tail S6 fun s7 J7 => ⟨_, _, J7, q6⟩
          | .brk, ⟨_, _, S6, q6⟩ => exact tail S6 fun s7 J7 => ⟨_, _, J7, q6⟩
          | .cont, ⟨_, _, S6, q6⟩ => exact tail S6 fun s7 J7 => ⟨_, _, J7, q6⟩
          | .ret u, ⟨_, _, _, S6, r6, q6⟩ => exact tail S6 fun s7 J7 => ⟨_, _, _, J7, r6, q6⟩
    exact go hh wish
  refine wpAny_Try_except (wpAny_mono ((hb (wMany X.K Wout D l) (X.pn ++ pins) caught tkB PassesOwn.looking).run [] s σ H D (I.toTry _) h) (fun f s1 hsp => ?_) fun e s1 he => he)
  match f, hsp with
  | .next, ⟨_, _, J1, q⟩ => exact wpAny_execs_nil ⟨_, _, J1.ofTry okX, q⟩
  | .brk, ⟨_, _, J1, q⟩ => exact ⟨_, _, J1.ofTry okX, q⟩
  | .cont, ⟨_, _, J1, q⟩ => exact ⟨_, _, J1.ofTry okX, q⟩
  | .ret u, ⟨_, _, _, J1, r, q⟩ => exact ⟨_, _, _, J1.ofTry okX, r, q⟩
end
/-! ### data without the handled exception -/
mutual
def D.nc : D → Bool
  | .lst xs => ncL xs
  | .tup xs => ncL xs
  | .fz xs => ncL xs
  | .ob _ xs => ncL xs
  | .exc _ d => D.nc d
  | .cau _ _ => false
  | _ => true
def ncL : List D → Bool
  | [] => true
  | d :: ds => D.nc d && ncL ds
end
section
variable {W W' : Wd} {ph ph' : Plc} {H H' : Hp} {m m' : Sto}
mutual
theorem rep_nc (hc : W.ca = none) : ∀ {d : D} {v : V}, Rep W ph H d v → d.nc = true
  | .non, _, _ => rfl
  | .bl _, _, _ => rfl
  | .int _, _, _ => rfl
  | .str _, _, _ => rfl
  | .loc _, _, _ => rfl
  | .fn _, _, _ => rfl
  | .bex _ _, _, _ => rfl
  | .cls _, _, _ => rfl
  | .lst _, _, ⟨_, _, _, _, r⟩ => repL_nc hc r
  | .tup _, _, ⟨_, _, _, _, r⟩ => repL_nc hc r
  | .fz _, _, ⟨_, _, _, _, r⟩ => repL_nc hc r
  | .ob _ _, _, ⟨_, _, _, _, _, _, _, r⟩ => repL_nc hc r
  | .exc _ d, _, ⟨_, _, _, _, _, _, _, _, _, _, r⟩ => rep_nc (d := d) hc r
  | .cau _ _, _, ⟨_, _, _, _, q, _⟩ => by rw [hc] at q; cases q
theorem repL_nc (hc : W.ca = none) : ∀ {ds : List D} {vs : List V}, RepL W ph H ds vs → ncL ds = true
  | [], _, _ => rfl
  | d :: ds, _, ⟨_, _, _, h, t⟩ => by
    unfold ncL
    rw [rep_nc hc h, repL_nc hc t]; rfl
end
mutual
theorem rep_sw (hk : W.toWk = W'.toWk) : ∀ {d : D} {v : V}, d.nc = true → Rep W ph H d v → Rep W' ph H d v
  | .non, _, _, h => h
  | .bl _, _, _, h => h
  | .int _, _, _, h => h
  | .str _, _, _, h => h
  | .loc _, _, _, h => h
  | .fn _, _, _, h => h
  | .bex c x, _, n, ⟨a, t1, e, h, k, t⟩ => ⟨a, t1, e, by rw [← show W.C = W'.C from congrArg Wk.C hk]; exact h, k, t⟩
  | .cls t, v, _, h => by
    have h : v = clsV W.toWk t := h
    rw [hk] at h
    exact h
  | .lst xs, _, n, ⟨a, vs, e, l, r⟩ => ⟨a, vs, e, l, repL_sw hk (show ncL xs = true from n) r⟩
  | .tup xs, _, n, ⟨a, vs, e, l, r⟩ => ⟨a, vs, e, l, repL_sw hk (show ncL xs = true from n) r⟩
  | .fz xs, _, n, ⟨a, vs, e, l, r⟩ => ⟨a, vs, e, l.imp id (fun z H2 => by rw [← show W.K = W'.K from congrArg Wk.K hk]; exact z H2), repL_sw hk (show ncL xs = true from n) r⟩
  | .ob c xs, _, n, ⟨a, dx, vs, e, h, k, l, r⟩ => by
    refine ⟨a, dx, vs, e, ?_, k, ?_, repL_sw hk (show ncL xs = true from n) r⟩
    · rw [← show W.C = W'.C from congrArg Wk.C hk, ← show W.nm = W'.nm from congrArg Wk.nm hk]; exact h
    · rw [← show W.nm = W'.nm from congrArg Wk.nm hk]; exact l
  | .exc c d, _, n, ⟨a, dx, x, t1, e, h, k, h2, n2, t, r⟩ => by
    refine ⟨a, dx, x, t1, e, ?_, k, h2, n2, ?_, rep_sw hk (show d.nc = true from n) r⟩
    · rw [← show W.C = W'.C from congrArg Wk.C hk]; exact h
    · rw [← show W.msg = W'.msg from congrArg Wk.msg hk]; exact t
  | .cau _ _, _, n, _ => by cases n
theorem repL_sw (hk : W.toWk = W'.toWk) : ∀ {ds : List D} {vs : List V}, ncL ds = true → RepL W ph H ds vs → RepL W' ph H ds vs
  | [], _, _, h => h
  | d :: ds, _, n, ⟨v, r, e, h, t⟩ => by
    unfold ncL at n
    rw [Bool.and_eq_true] at n
    exact ⟨v, r, e, rep_sw hk n.1 h, repL_sw hk n.2 t⟩
end
def Cell.nc : Cell → Bool
  | .lst xs => ncL xs
  | .dct kvs => ncL (kvs.map (·.2))
  | .ins _ fs => ncL (fs.map (·.2))
  | .dead => true
theorem cell_nc (hc : W.ca = none) {a : Addr} {c : Cell} (h : CellAt W ph H a c) : c.nc = true := by
  cases c with
  | lst xs => obtain ⟨_, _, r⟩ := h; exact repL_nc hc r
  | dct kvs => obtain ⟨_, _, _, r⟩ := h; exact repL_nc hc r
  | ins c fs => obtain ⟨_, _, _, _, r⟩ := h; exact repL_nc hc r
  | dead => rfl
theorem cell_sw (hk : W.toWk = W'.toWk) {a : Addr} {c : Cell} (n : c.nc = true) (h : CellAt W ph H a c) : CellAt W' ph H a c := by
  cases c with
  | lst xs => obtain ⟨vs, e, r⟩ := h; exact ⟨vs, e, repL_sw hk n r⟩
  | dct kvs => obtain ⟨vs, e, q, r⟩ := h; exact ⟨vs, e, q, repL_sw hk n r⟩
  | ins c fs =>
    obtain ⟨dx, vs, e, q, r⟩ := h
    exact ⟨dx, vs, by rw [← show W.C = W'.C from congrArg Wk.C hk]; exact e, q, repL_sw hk n r⟩
  | dead => trivial
def stoNC (m : Sto) : Prop := ∀ (n : Nat) (c : Cell), m[n]? = some c → c.nc = true
theorem RelSto.nc (hc : W.ca = none) (h : RelSto W ph H m) : stoNC m := fun n c e => by
  obtain ⟨_, _, _, q⟩ := h.cell n c e
  exact cell_nc hc q
theorem RelSto.sw (hk : W.toWk = W'.toWk) (n : stoNC m) (h : RelSto W ph H m) : RelSto W' ph H m := ⟨h.len, h.nd, h.dj, h.pvs, fun k c e => by
  obtain ⟨a, e1, e2, e3⟩ := h.cell k c e
  exact ⟨a, e1, e2, cell_sw hk (n k c e) e3⟩⟩
theorem Ste.sw (hk : W.toWk = W'.toWk) (n : stoNC m') (s : Ste W ph H ph' H' m') : Ste W' ph H ph' H' m' := ⟨s.pre, s.prv, s.keep, s.new, s.fre, s.sto.sw hk n⟩
end
/-! ### try -/
structure Hd where
  c : Nat
  i : Option Nat
  g : FS
def envNC (env : Nv) : Prop := ∀ (i : Nat) (d : D), env[i]? = some (some d) → d.nc = true
open Classical in
/-- behind a clause with a name (slot i): nothing of the exception goes on, the places are as they were -/
noncomputable def offO (i : Nat) (m1 : Sto) : Option Out → Option Out
  | some (.nx env m) => if m = m1 ∧ envNC (env.set i none) then some (.nx (env.set i none) m) else none
  | some (.rt d m) => if m = m1 ∧ d.nc = true then some (.rt d m) else none
  | _ => none
def bareO : Option Out → Option Out
  | some (.exn _ _ _ _) => none
  | o => o
noncomputable def handD (ex : Nat → Nat → Option Bool) : List Hd → Nv → Nat → D → Sto → Option Out
  | [], env, c, d, m => some (.exn env c d m)
  | h :: r, env, c, d, m => match ex c h.c with
    | some true => match h.i with
      | none => bareO (h.g env m)
      | some i => offO i m (h.g (env.set i (some (.cau c d))) m)
    | some false => handD ex r env c d m
    | none => none
noncomputable def sTry (ex : Nat → Nat → Option Bool) (b : FS) (hs : List Hd) : FS := fun env m => match b env m with
  | some (.exn env1 c d m1) => handD ex hs env1 c d m1
  | o => o
/-- an exception of the class c may be asked what was found -/
def XfF (W : Wk) (c : Nat) : Prop := XfC W.K (W.C c) ∧ PySem.W.findIn W.K (.ref (W.C c)) "found" = some none
def ExTab (W : Wk) (ex : Nat → Nat → Option Bool) : Prop := ∀ c k b, ex c k = some b → PySem.W.exmOne W.K (.ref (W.C c)) (.ref (W.C k)) = some b ∧ XfF W c
def Lv.hot (L : Lv) : Lv := ⟨L.N, L.sc, L.k, false, L.top⟩
def Wd.at (W : Wd) (z : Addr × Addr) : Wd := ⟨W.toWk, W.base, some z, W.gs⟩
inductive DHs (W : Wd) (L : Lv) : List ExceptHandler → List Hd → Prop
  | nil : DHs W L [] []
  | bare {x : Str} {c : Nat} {s0 : Stmt} {ss : List Stmt} {p1 p2 : Pos} {hds : List ExceptHandler} {hs : List Hd} {g : FS} (hm : W.mg x = some (.ref (W.C c))) (hd : DSs W L.hot (s0 :: ss) g) (r : DHs W L hds hs)
      (hg : L.sc.names.lookup x = some .globalImplicit := by rfl) (hdb : (x == ("__debug__" : Str)) = false := by decide) : DHs W L (.ExceptHandler (some (.Name x p1)) none (s0 :: ss) p2 :: hds) (⟨c, none, g⟩ :: hs)
  | named {x n : Str} {c i : Nat} {s0 : Stmt} {ss : List Stmt} {p1 p2 : Pos} {hds : List ExceptHandler} {hs : List Hd} {g : FS} (hm : W.mg x = some (.ref (W.C c))) (hd : ∀ z, DSs (W.at z) L.hot (s0 :: ss) g) (r : DHs W L hds hs)
      (hi : L.N[i]? = some n := by rfl) (hn : L.sc.names.lookup n = some .local := by rfl) (hg : L.sc.names.lookup x = some .globalImplicit := by rfl) (hdb : (x == ("__debug__" : Str)) = false := by decide) :
      DHs W L (.ExceptHandler (some (.Name x p1)) (some n) (s0 :: ss) p2 :: hds) (⟨c, some i, g⟩ :: hs)
def noW : WX := fun _ _ _ _ => False
/-- the clauses' wishes -/
def tH (W : Wd) (h : Hd) : Value × (Addr → Value → Option Addr → TS) := (.ref (W.C h.c), match h.i with
  | none => fun _ _ _ => tS W noW h.g
  | some i => fun a cls d D σ H => ∃ dx c, d = some dx ∧ cls = .ref (W.C c) ∧ XfF W.toWk c ∧ tS (W.at (a, dx)) noW h.g (endsOff D i) (σ.set i (some (.ref a))) H)
section
variable {W : Wd} {Wx : WX} {ph ph' : Plc} {H H' : Hp} {m m' : Sto} {σ : L2.St} {env : Nv} {L : Lv} {R : Rst} {Dn : Ends} {body : List Stmt} {b : FS} {hds : List ExceptHandler} {hs : List Hd} {ex : Nat → Nat → Option Bool} {pos : Pos}
theorem Fits.hot (F : Fits W L R) (ht : L.top = true) (z : Option (Addr × Addr)) (a : Addr) (oe : Obj) (pn : List (Addr × Obj)) (hz : ∀ b dx, z = some (b, dx) → b = a ∧ ∃ c, Zc (.ref (W.C c)) (some dx) oe ∧ (∃ vs, oe.data = .fields vs) ∧ XfF W.toWk c) : Fits ⟨W.toWk, W.base, z, W.gs⟩ L.hot { R with A := R.A.mark (some (.ref a)), calm := false, pn := (a, oe) :: pn, xe := fun _ _ => False } :=
  ⟨fun z => absurd (show false = true from z) Bool.false_ne_true, F.un, F.grd, fun z => absurd (show false = true from z) Bool.false_ne_true, F.vis, F.gl, F.loc, F.lcl, F.scp, F.nd, fun _ => PassesOwn.never, fun _ b dx e => (let ⟨hb, c, h1, h2, h3⟩ := hz b dx e; by subst hb; exact ⟨R, oe, pn, c, rfl, h1, h2, h3.1, h3.2⟩), F.stk, F.dp⟩
theorem hdN_of (hca : W.ca = none) (F : Fits W L R) (ht : L.top = true) (h : DHs W L hds hs) : HdN (mkX W L.N R) hds (hs.map (tH W)) := by
  induction h with
  | nil => exact .nil
  | @bare x c s0 ss p1 p2 hds hs g hm hd r hg hdb ih =>
    refine .bare (ts := fun _ _ _ => tS W noW g) ⟨F.gl x hg, hdb, .inl hm⟩ (fun a oe cls d pn _ _ => ?_) ih
    have F2 := F.hot ht none a oe pn (fun b dx z => by cases z)
    rw [show (⟨W.toWk, W.base, none, W.gs⟩ : Wd) = W from by rw [← hca]] at F2
    exact hd _ F2 noW takes_none5
  | @named x n c i s0 ss p1 p2 hds hs g hm hd r hi hn hg hdb ih =>
    have nx : HdN (mkX W L.N R) _ _ := .named (X := mkX W L.N R) (x := x) (n := n) (i := i) (c := .ref (W.C c)) (s0 := s0) (ss := ss) (p1 := p1) (p2 := p2) (ts := fun a cls d D σ H => ∃ dx c, d = some dx ∧ cls = .ref (W.C c) ∧ XfF W.toWk c ∧ tS (W.at (a, dx)) noW g D σ H) ⟨F.gl x hg, hdb, .inl hm⟩ hi (F.lcl ht n hn) (fun a oe cls d pn hz hf => by
      refine ⟨fun pins s σ H D I q => ?_⟩
      obtain ⟨dx, c, rfl, rfl, hx, q⟩ := q
      exact (hd (a, dx) _ (F.hot ht (some (a, dx)) a oe pn (fun b dy z => by cases z; exact ⟨rfl, c, hz, hf, hx⟩)) noW takes_none5).run pins s σ H D I q) ih
    exact nx
open Classical in
theorem wish_of (hca : W.ca = none) (hex : ExTab W.toWk ex) {c : Nat} {d : D} {env1 : Nv} {m1 : Sto} : ∀ {hs : List Hd} {o : Out} {ph : Plc} {H : Hp}, handD ex hs env1 c d m1 = some o → PostS W Wx ph H Dn o →
    ∀ σ' dx x, RelSto W ph H m1 → RelEnv W ph H env1 σ' → H dx = some (fdict x) → ph.ok dx → Rep W ph H d x → wMany W.K Wx Dn (hs.map (tH W)) (.ref (W.C c)) (some dx) σ' H
  | [], o, ph, H, e, p, σ', dx, x, hs0, he, hdx, hk, r => by
    cases e
    exact p σ' dx x H ph (.refl hs0) he hdx hk r
  | h :: hs, o, ph, H, e, p, σ', dx, x, hs0, he, hdx, hk, r => by
    unfold handD at e
    cases q : ex c h.c with
    | none => rw [q] at e; cases e
    | some k =>
      rw [q] at e
      refine ⟨k, (hex _ _ _ q).1, fun hk1 a hna => ?_, fun hk1 => ?_⟩
      · subst hk1
        obtain ⟨hc, hi, g⟩ := h
        cases hi with
        | none =>
          have e : bareO (g env1 m1) = some o := e
          refine ⟨ph, env1, m1, he, hs0, ?_⟩
          cases q2 : g env1 m1 with
          | none => rw [q2] at e; cases e
          | some og =>
            rw [q2] at e
            refine ⟨og, q2, ?_⟩
            cases og <;> first | cases e; done | skip
            all_goals (cases e; exact p)
        | some i =>
          have e : offO i m1 (g (env1.set i (some (.cau c d))) m1) = some o := e
          have kk : W.toWk = (W.at (a, dx)).toWk := rfl
          have nm1 := hs0.nc hca
          have he' : RelEnv (W.at (a, dx)) ph H env1 σ' := ⟨he.len, fun j y ej => let ⟨v, h1, h2⟩ := he.val j y ej; ⟨v, h1, rep_sw kk (rep_nc hca h2) h2⟩⟩
          have rc : Rep (W.at (a, dx)) ph H (.cau c d) (.ref a) := ⟨a, dx, x, rfl, rfl, hdx, hk, rep_sw kk (rep_nc hca r) r⟩
          refine ⟨dx, c, rfl, rfl, (hex _ _ _ q).2, ph, _, m1, he'.set rc, hs0.sw kk nm1, ?_⟩
          cases q2 : g (env1.set i (some (.cau c d))) m1 with
          | none => rw [q2] at e; cases e
          | some og =>
            rw [q2] at e
            refine ⟨og, q2, ?_⟩
            cases og with
            | bk _ _ => cases e
            | ct _ _ => cases e
            | exn _ _ _ _ => cases e
            | rt d2 m2 =>
              have e : (if m2 = m1 ∧ d2.nc = true then some (Out.rt d2 m2) else none) = some o := e
              split at e
              · rename_i hz
                cases e
                obtain ⟨rfl, hn⟩ := hz
                exact fun v H2 ph2 s2 r2 => p v H2 ph2 (Ste.sw (W := W.at (a, dx)) (W' := W) rfl nm1 s2) (rep_sw (W := W.at (a, dx)) (W' := W) rfl hn r2)
              · cases e
            | nx env2 m2 =>
              have e : (if m2 = m1 ∧ envNC (env2.set i none) then some (Out.nx (env2.set i none) m2) else none) = some o := e
              split at e
              · rename_i hz
                cases e
                obtain ⟨rfl, hn⟩ := hz
                intro σ2 H2 ph2 s2 r2
                refine p _ H2 ph2 (Ste.sw (W := W.at (a, dx)) (W' := W) rfl nm1 s2) ⟨by simpa using r2.len, fun j y ej => ?_⟩
                have hy := hn j y ej
                by_cases hj : i = j
                · subst hj
                  by_cases hl : i < env2.length
                  · rw [List.getElem?_set_self hl] at ej; cases ej
                  · rw [List.getElem?_eq_none (by simpa using hl)] at ej; cases ej
                · rw [List.getElem?_set_ne hj] at ej
                  obtain ⟨v, h1, h2⟩ := r2.val j y ej
                  exact ⟨v, by rw [List.getElem?_set_ne hj]; exact h1, rep_sw (W := W.at (a, dx)) (W' := W) rfl hy h2⟩
              · cases e
      · subst hk1
        exact wish_of hca hex (by simpa using e) p σ' dx x hs0 he hdx hk r
theorem ds_try (hb : DSs W L body b) {hd0 : ExceptHandler} (hh : DHs W L (hd0 :: hds) hs) (hex : ExTab W.toWk ex) (hca : W.ca = none) (ht : L.top = true := by rfl) : DS W L (.Try body (hd0 :: hds) [] [] pos) (sTry ex b hs) := by
  intro R F Wx tk
  have fr := F.stk ht
  refine PS.imp (ps_tryN (X := mkX W L.N R) (tb := fun Wi => tS W Wi b) fr.1 fr.2 F.nd tk (fun Wi pn xe tk2 pass => hb { R with pn := pn, xe := xe } ⟨F.room, F.un, F.grd, F.calm, F.vis, F.gl, F.loc, F.lcl, F.scp, F.nd, fun _ => pass, fun _ a dx z => (by rw [hca] at z; cases z), F.stk, F.dp⟩ Wi tk2) (hdN_of hca F ht hh)) fun D σ H h => ?_
  obtain ⟨ph, env, m, he, hs0, o, e, p⟩ := h
  refine ⟨ph, env, m, he, hs0, ?_⟩
  unfold sTry at e
  cases q : b env m with
  | none => rw [q] at e; cases e
  | some ob =>
    rw [q] at e
    refine ⟨ob, rfl, ?_⟩
    cases ob with
    | nx env1 m1 => cases e; exact p
    | rt d m1 => cases e; exact p
    | bk env1 m1 => cases e; exact p
    | ct env1 m1 => cases e; exact p
    | exn env1 c d m1 => exact fun σ' dx x H' ph' s r a k rx => wish_of hca hex e (p.later s) σ' dx x s.sto r a k rx
end
/-- e.found, e the handled exception -/
def foundD : D → Sto → Option D
  | .cau _ d, _ => some d
  | _, _ => none
theorem de_caught {W : Wd} {L : Lv} {e : Expr} {f : FE} {pos : Pos} (he : DE W L e f) (ht : L.top = true := by rfl) (hb : ∀ env : PySem.Env, attributeBase e "found" env (eval e env) = eval e env := by intro _; rfl) : DE W L (.Attribute e "found" pos) (e1 foundD f) := by
  intro R F Wx tk
  cases hca : W.ca with
  | none =>
    refine ⟨fun pins s σ H Q I h => ?_⟩
    refine attr_of (hb _) (thn ((he R F Wx tk).run pins s σ H _ I (t_op1 h)) fun u s1 hh => ?_)
    obtain ⟨x, H1, I1, rx, ph, m, dx, d, hs, r, e, p⟩ := hh
    unfold foundD at e
    split at e
    · obtain ⟨_, _, _, _, q, _⟩ := r
      rw [hca] at q
      cases q
    · cases e
  | some z =>
    obtain ⟨a, dx⟩ := z
    obtain ⟨R0, oe, pn, c, rfl, hz, hf, hx, hno⟩ := F.cau ht a dx hca
    refine PE.imp (pe_xf (X := mkX W L.N R0) (a := a) (oe := oe) (pn := pn) hx hno hz hf (he _ F Wx tk) (hb _)) fun σ H Q h => ?_
    refine tE.imp (fun v H1 q => ?_) (t_op1 h)
    obtain ⟨ph, m, dy, d, hs, r, e, p⟩ := q
    unfold foundD at e
    split at e
    · cases e
      obtain ⟨a', dx', x, rfl, q, h2, n2, rx⟩ := r
      rw [hca] at q
      cases q
      exact ⟨rfl, rfl, dx, [("found", x)], x, rfl, h2, by simp [List.lookup], p.here hs rx⟩
    · cases e
end PM

/-! PMB: own objects: attributes, methods, making. -/
namespace PM
open PySem PySem.Spec L2 PyProof.Rows
/-- the classes below n, their objects' attributes by fn -/
structure ObF (W : Wk) (n : Nat) (fn : Nat → List Str) : Prop where
  nm : W.nm = fn
  cl : ∀ c, c < n → Cls W.K (W.C c)
  no : ∀ c, c < n → ∀ f, f ∈ fn c → NoAttr W.K (W.C c) f
/-- what stands in an object's place or value -/
def obOf (fn : Nat → List Str) : D → Sto → Option (Nat × List (Str × D))
  | .ob c xs, _ => some (c, (fn c).zip xs)
  | .loc k, m => match m[k]? with
    | some (.ins c fs) => some (c, fs)
    | _ => none
  | _, _ => none
def fldD (n : Nat) (fn : Nat → List Str) (f : Str) (x : D) (m : Sto) : Option D := match obOf fn x m with
  | some (c, fs) => if c < n ∧ f ∈ fn c then fs.lookup f else none
  | none => none
section
variable {W : Wd} {ph ph' : Plc} {H H' : Hp} {m m' : Sto} {n : Nat} {fn : Nat → List Str}
theorem zip_snd {α β : Type} : ∀ {xs : List α} {ys : List β}, xs.length = ys.length → (xs.zip ys).map (·.2) = ys
  | [], [], _ => rfl
  | x :: xs, y :: ys, h => by rw [List.zip_cons_cons, List.map_cons, zip_snd (by simpa using h)]
  | [], _ :: _, h => by cases h
  | _ :: _, [], h => by cases h
theorem zip_fst {α β : Type} : ∀ {xs : List α} {ys : List β}, xs.length = ys.length → (xs.zip ys).map (·.1) = xs
  | [], [], _ => rfl
  | x :: xs, y :: ys, h => by rw [List.zip_cons_cons, List.map_cons, zip_fst (by simpa using h)]
  | [], _ :: _, h => by cases h
  | _ :: _, [], h => by cases h
theorem zip_back {α β : Type} : ∀ (ps : List (α × β)), (ps.map (·.1)).zip (ps.map (·.2)) = ps
  | [] => rfl
  | p :: ps => by rw [List.map_cons, List.map_cons, List.zip_cons_cons, zip_back ps]
theorem repF_at : ∀ {fs : List (Str × D)} {fv : List (Str × V)} {f : Str} {d : D}, fs.map (·.1) = fv.map (·.1) → RepL W ph H (fs.map (·.2)) (fv.map (·.2)) → fs.lookup f = some d → ∃ v, fv.lookup f = some v ∧ Rep W ph H d v
  | [], _, _, _, _, _, e => by cases e
  | p :: fs, [], _, _, h, _, _ => by cases h
  | (g, x) :: fs, (g', y) :: fv, f, d, h, ⟨v, r, ev, h1, h2⟩, e => by
    rw [List.map_cons, List.map_cons] at h
    injection h with hg hr
    have hg : g = g' := hg
    subst hg
    rw [List.map_cons] at ev
    injection ev with e1 e2
    subst e1 e2
    rw [List.lookup_cons] at e ⊢
    cases q : f == g with
    | true => rw [q] at e; cases e; exact ⟨_, rfl, h1⟩
    | false => rw [q] at e; exact repF_at hr h2 e
theorem obOf_rep {x : D} {v : V} {c : Nat} {fs : List (Str × D)} (hn : W.nm = fn) (hs : RelSto W ph H m) (r : Rep W ph H x v) (e : obOf fn x m = some (c, fs)) : ∃ a dx fv, v = .ref a ∧ H a = some (.ins (W.C c) dx fv) ∧ fs.map (·.1) = fv.map (·.1) ∧ RepL W ph H (fs.map (·.2)) (fv.map (·.2)) := by
  unfold obOf at e
  split at e
  · rename_i c' xs
    cases e
    obtain ⟨a, dx, vs, rfl, h, _, l, r⟩ := r
    have lx : (fn c).length = xs.length := by rw [← hn, l, r.length]
    refine ⟨a, dx, _, rfl, h, ?_, ?_⟩
    · rw [zip_fst lx, zip_fst l, hn]
    · rw [zip_snd lx, zip_snd l]; exact r
  · rename_i k
    split at e
    · rename_i q
      cases e
      obtain ⟨a, rfl, ha⟩ := r
      obtain ⟨a', e1, _, dx, fv, e3, q1, q2⟩ := hs.cell k _ q
      rw [ha] at e1; cases e1
      exact ⟨a, dx, fv, rfl, e3, q1, q2⟩
    · cases e
  · cases e
theorem lookup_none {α β : Type} [BEq α] [LawfulBEq α] : ∀ {ps : List (α × β)} {f : α}, ¬ f ∈ ps.map (·.1) → ps.lookup f = none
  | [], _, _ => rfl
  | p :: ps, f, h => by
    rw [List.lookup_cons]
    have h1 : (f == p.1) = false := by simpa using fun z => h (by rw [z]; simp)
    rw [h1]
    exact lookup_none fun z => h (by rw [List.map_cons]; exact List.mem_cons_of_mem _ z)
end
section
variable {W : Wd} {Wx : WX} {ph : Plc} {H : Hp} {m : Sto} {σ : L2.St} {env : Nv} {Q : VK} {Dn : Ends} {L : Lv} {R : Rst} {o e v : Expr} {es : List Expr} {fo fv f : FE} {fs gs : List FE} {pos apos : Pos} {n : Nat} {fn : Nat → List Str} {g : Str}
theorem de_fld (hO : ObF W.toWk n fn) (he : DE W L e f) (hb : ∀ env : PySem.Env, attributeBase e g env (eval e env) = eval e env := by intro _; rfl) : DE W L (.Attribute e g pos) (e1 (fldD n fn g) f) := by
  intro R F Wx tk
  refine PE.imp (pe_fld (X := mkX W L.N R) (he R F Wx tk) (hb _)) fun σ H Q h => ?_
  refine tE.imp (fun v H1 q => ?_) (t_op1 h)
  obtain ⟨ph, m, x, d, hs, r, e, p⟩ := q
  unfold fldD at e
  split at e
  · rename_i c fs q
    split at e
    · rename_i hc
      obtain ⟨a, dx, fv, rfl, h1, h2, h3⟩ := obOf_rep hO.nm hs r q
      obtain ⟨u, h4, h5⟩ := repF_at h2 h3 e
      exact ⟨a, _, dx, fv, u, rfl, h1, hO.cl c hc.1, hO.no c hc.1 g hc.2, h4, p.here hs h5⟩
    · cases e
  · cases e
/-! self.f = e -/
def putFD (f : Str) (d : D) : List (Str × D) → List (Str × D)
  | [] => [(f, d)]
  | (g, x) :: r => if g = f then (g, d) :: r else (g, x) :: putFD f d r
theorem putFD_rep {y : D} {u : V} (ry : Rep W ph H y u) : ∀ {fs : List (Str × D)} {fv : List (Str × V)}, fs.map (·.1) = fv.map (·.1) → RepL W ph H (fs.map (·.2)) (fv.map (·.2)) → (putFD g y fs).map (·.1) = (putF g u fv).map (·.1) ∧ RepL W ph H ((putFD g y fs).map (·.2)) ((putF g u fv).map (·.2))
  | [], [], _, _ => ⟨rfl, .cons ry .nil⟩
  | [], _ :: _, h, _ => by cases h
  | _ :: _, [], h, _ => by cases h
  | (a, x) :: fs, (a', z) :: fv, h, ⟨v, r, ev, h1, h2⟩ => by
    rw [List.map_cons, List.map_cons] at h
    injection h with hg hr
    have hg : a = a' := hg
    subst hg
    rw [List.map_cons] at ev
    injection ev with e1 e2
    subst e1 e2
    unfold putFD putF
    split
    · exact ⟨by rw [List.map_cons, List.map_cons, hr], .cons ry h2⟩
    · obtain ⟨k1, k2⟩ := putFD_rep ry hr h2
      exact ⟨by rw [List.map_cons, List.map_cons, k1], .cons h1 k2⟩
def stoF (n : Nat) (fn : Nat → List Str) (g : Str) (x y : D) (m : Sto) : Option Sto := match x with
  | .loc k => match m[k]? with
    | some (.ins c fs) => if c < n ∧ g ∈ fn c ∧ fs.length < 900 then some (m.set k (.ins c (putFD g y fs))) else none
    | _ => none
  | _ => none
def sFldD (n : Nat) (fn : Nat → List Str) (g : Str) (fo fv : FE) : FS := fun env m => bnds (fv env m) env fun y m1 => bnds (fo env m1) env fun x m2 => (stoF n fn g x y m2).map fun m3 => Out.nx env m3
theorem ds_fld (hO : ObF W.toWk n fn) (ho : DE W L o fo) (hv : DE W L v fv) {p : Pos} (hs : ∀ env : PySem.Env, swapsWith v (some (.Attribute o g p)) pos.line env = pure false := by intro _; rfl) : DS W L (.Assign [.Attribute o g p] v pos) (sFldD n fn g fo fv) := by
  intro R F Wx tk
  refine PS.imp (ps_fld (X := mkX W L.N R) (ho R F Wx tk) (hv R F Wx tk) (hs _)) fun Dn σ H h => ?_
  obtain ⟨ph, env, m, he, hs, h⟩ := h
  refine tE.mk he hs ((tXS.bnds hs he h).imp fun v1 H1 q => ?_)
  obtain ⟨ph1, m1, d1, s1, r1, h1⟩ := q
  refine tE.mk (he.mono s1) s1.sto ((tXS.bnds s1.sto (he.mono s1) h1).imp fun v2 H2 q => ?_)
  obtain ⟨ph2, m2, d2, s2, r2, r, e, p⟩ := q
  have he2 := (he.mono s1).mono s2
  have r1' := Rep.mono s2 _ _ r1
  cases q : stoF n fn g d2 d1 m2 with
  | none => rw [q] at e; cases e
  | some m3 =>
    rw [q] at e
    cases e
    unfold stoF at q
    split at q
    · rename_i k
      cases q2 : m2[k]? with
      | none => rw [q2] at q; cases q
      | some c0 =>
        rw [q2] at q
        cases c0 <;> first | cases q; done | skip
        rename_i c fs
        have q : (if c < n ∧ g ∈ fn c ∧ fs.length < 900 then some (m2.set k (.ins c (putFD g d1 fs))) else none) = some m3 := q
        split at q
        · rename_i hc
          cases q
          obtain ⟨b, rfl, hb⟩ := r2
          obtain ⟨b', e1, _, dx, fv, e3, k1, k2⟩ := s2.sto.cell k _ q2
          rw [hb] at e1
          cases e1
          have hl : fv.length = fs.length := by have := congrArg List.length k1; simpa using this.symm
          have mv : Mov ph2 H2 ph2 (upd H2 b (.ins (W.C c) dx (putF g v1 fv))) := .place (List.mem_of_getElem? hb)
          obtain ⟨w1, w2⟩ := putFD_rep (g := g) r1' k1 k2
          exact ⟨b, _, dx, fv, rfl, e3, hO.cl c hc.1, hO.no c hc.1 g hc.2.1, by rw [hl]; omega, p _ _ ph2 (.write s2.sto hb ⟨dx, _, upd_same, w1, RepL.move mv _ _ w2⟩) (he2.move mv)⟩
        · cases q
    · cases q
/-! ### methods -/
structure MethB (W : Wd) (c : Nat) (x : Str) (k : Nat) (np : Nat) (F : FD) : Prop where
  ex : ∃ f fd ps, Meth W.K (W.C c) x f ∧ FnG W k f fd ps F ∧ ∀ (s : Shared) (us : List Value), W.K.In s.heap → us.length = np + 1 → us.length = ps.length → BindsTo s fd ⟨us, []⟩ (ps.zip us)
/-- what the name means in each class -/
def MtF (W : Wd) (k : Nat) (n : Nat) (fn : Nat → List Str) (x : Str) (np : Nat) (M : Nat → Option FD) : Prop := ∀ c F, M c = some F → c < n ∧ ¬ x ∈ fn c ∧ MethB W c x k np F
def methK (fn : Nat → List Str) (M : Nat → Option FD) (fs : List FE) (env : Nv) (x : D) (m1 : Sto) : Option Res := match obOf fn x m1 with
  | some (c, fl) => match M c with
    | some F => if fl.map (·.1) = fn c then bndl (evL fs env m1) fun ds m2 => F (x :: ds) m2 else none
    | none => none
  | none => none
theorem methK_some {M : Nat → Option FD} {x : D} {r : Res} (e : methK fn M fs env x m = some r) : ∃ c fl F, obOf fn x m = some (c, fl) ∧ M c = some F ∧ fl.map (·.1) = fn c ∧ methK fn M fs env x m = bndl (evL fs env m) fun ds m2 => F (x :: ds) m2 := by
  unfold methK at e ⊢
  cases q : obOf fn x m with
  | none => rw [q] at e; cases e
  | some cf =>
    obtain ⟨c, fl⟩ := cf
    simp only [q] at e
    cases q2 : M c with
    | none => simp only [q2] at e; cases e
    | some F =>
      simp only [q2] at e
      split at e
      · rename_i h
        exact ⟨c, fl, F, rfl, q2, h, by simp only [q2, h, if_true]⟩
      · cases e
def eMeth (fn : Nat → List Str) (M : Nat → Option FD) (fo : FE) (fs : List FE) : FE := fun env m => bnd (fo env m) (methK fn M fs env)
theorem meth_go {M : Nat → Option FD} {x : Str} {k : Nat} {pl : Sem Bool} {args : List Expr} (hO : ObF W.toWk n fn) (hM : MtF W k n fn x fs.length M) (hk : k ≤ L.k) (hcl : L.calm = true) (F : Fits W L R) (tk : Takes (mkX W L.N R) Wx) (ho : DE W L o fo)
    (ht : eval (.Call (.Attribute o x apos) args [] pos) R.env = (do
      let ov ← eval o R.env
      standAt apos.atName
      let (f, first) ← holding [ov] (getMethod ov x pl)
      callWith pos f first (backTo pos (starEach args R.env)) (backToKw pos (keywordEach [] R.env))))
    (hA : ∀ {pins : List (Addr × Obj)} {s : Shared} {H : Hp} {a : Addr} {g : Addr} {Q' : Value → Shared → Prop}, L2.Inv (mkX W L.N R) pins σ H s → PySem.W.keepIn W.K (.ref g) = true → ∀ P : List V → Hp → Prop, tL W Wx fs σ H P → (∀ us s2 vs H2, L2.Inv (mkX W L.N R) pins σ H2 s2 → Vals vs us → P vs H2 → wpAny (model W.P W.w) R.A (PySem.call (.ref g) (.ref a :: us)) Q' R.xe s2) →
      wpAny (model W.P W.w) R.A (callWith pos (.ref g) [.ref a] (backTo pos (starEach args R.env)) (backToKw pos (keywordEach [] R.env))) Q' R.xe s)
    {pins : List (Addr × Obj)} {s : Shared} (I : L2.Inv (mkX W L.N R) pins σ H s) (h : tE W Wx (eMeth fn M fo fs) σ H Q) : wpAny (model W.P W.w) R.A (eval (.Call (.Attribute o x apos) args [] pos) R.env) (EP (mkX W L.N R) pins σ Q) R.xe s := by
  obtain ⟨ph, env, m, he, hs, h⟩ := h
  have h1 : tE W Wx fo σ H fun v1 H1 => ∃ ph1 m1 d1, RelEnv W ph1 H1 env σ ∧ RelSto W ph1 H1 m1 ∧ Rep W ph1 H1 d1 v1 ∧ tX W Wx (methK fn M fs env d1 m1) ph1 σ H1 Q :=
    tE.mk he hs ((tX.bnd hs h).imp fun v1 H1 ⟨ph1, m1, d1, s1, r1, h1⟩ => ⟨ph1, m1, d1, he.mono s1, s1.sto, r1, h1⟩)
  refine PySem.W.methodCall_KW (pl := pl) (thn ((ho R F Wx tk).run pins s σ H _ I h1) fun u s1 hh => ?_) ht
  obtain ⟨v1, H1, I1, rv, ph1, m1, d1, he1, hs1, r1, h2⟩ := hh
  obtain ⟨c, fl, F2, q, q2, hfl, e0⟩ := methK_some h2.choose_spec.1
  rw [e0] at h2
  obtain ⟨hcn, hxn, f, fd, ps, hm, G, hb⟩ := let ⟨a, b, c⟩ := hM c F2 q2; (⟨a, b, c.ex⟩ : _ ∧ _ ∧ _)
  obtain ⟨a, dx, fv, rfl, e1, e2, e3⟩ := obOf_rep hO.nm hs1 r1 q
  cases rv
  refine getmeth_ok I1 e1 (hO.cl c hcn) hm (lookup_none (by rw [← e2, hfl]; exact hxn)) ?_
  obtain ⟨rr, er, pr⟩ := tX.bndl hs1 h2
  have hl : tL W Wx fs σ H1 fun vs H2 => vs.length = fs.length ∧ spF W F2 (.ref a :: vs) H2 Q (WE Wx σ) := by
    refine ⟨ph1, env, m1, he1, hs1, rr, er, ?_⟩
    cases rr with
    | exn c d m3 => exact pr
    | ok ds m3 =>
      intro vs H2 ph2 s2 r2
      obtain ⟨ph3, m4, ds2, s3, r3, h3⟩ := pr vs H2 ph2 s2 r2
      exact ⟨by rw [← r2.length]; exact evL_len er, spF_of s3.sto (.cons (Rep.mono s3 _ _ r1) r3) h3⟩
  refine hA I1 hm.kp _ hl fun us s2 vs H2 I2 rvs hq => ?_
  obtain ⟨hlen, hq⟩ := hq
  obtain ⟨p0, m0, d0, o0, k1, k2, k3, _⟩ := id hq
  have hlu : us.length = fs.length := by rw [RelV.len_vals rvs, hlen]
  have hps : (Value.ref a :: us).length = ps.length := by
    have := k2.length
    rw [G.len _ _ _ k3] at this
    rw [List.length_cons, RelV.len_vals rvs]
    simpa using this.symm
  exact run_G (ks := []) (ws := []) (bs := .ref a :: us) (vs := .ref a :: vs) G ((F.room hcl).mono hk) F.grd tk I2 (hb s2 _ I2.kIn (by simp [hlu]) hps) (.cons rfl rvs) hq
/-- o.x(e, ..) -/
theorem de_meth {M : Nat → Option FD} {x : Str} {k : Nat} {pl : PySem.Env → Sem Bool} {a : Expr} {as : List Expr} (hO : ObF W.toWk n fn) (hM : MtF W k n fn x fs.length M) (ho : DE W L o fo) (ha : DA W L (a :: as) fs) (hk : k ≤ L.k := by decide) (hcl : L.calm = true := by rfl)
    (ht : ∀ env : PySem.Env, eval (.Call (.Attribute o x apos) (a :: as) [] pos) env = (do
      let ov ← eval o env
      standAt apos.atName
      let (f, first) ← holding [ov] (getMethod ov x (pl env))
      callWith pos f first (backTo pos (starEach (a :: as) env)) (backToKw pos (keywordEach [] env))) := by intro _; rfl)
    (he : ∀ env, starEach (a :: as) env = (false, eval a env) :: starEach as env := by intro _; rfl) (hpl : ∀ env, (backTo pos (starEach as env)).any (·.1) = false := by intro _; rfl) : DE W L (.Call (.Attribute o x apos) (a :: as) [] pos) (eMeth fn M fo fs) :=
  fun R F Wx tk => ⟨fun pins s σ H Q I h => meth_go hO hM hk hcl F tk ho (ht R.env) (fun {pins s H b g Q'} I1 kp P hl hq => PySem.W.callWith_K (first := [.ref b]) (h₀ := W.base) I1.ok.mod.kin kp (thn ((ha R F Wx tk).run pos pins s σ H _ I1 hl) fun us s2 ⟨vs, H2, I2, r, q⟩ => ⟨I2.kIn, hq us s2 vs H2 I2 r q⟩) (he R.env) (hpl R.env)) I h⟩
/-- o.x() -/
theorem de_meth0 {M : Nat → Option FD} {x : Str} {k : Nat} {pl : PySem.Env → Sem Bool} (hO : ObF W.toWk n fn) (hM : MtF W k n fn x 0 M) (ho : DE W L o fo) (hk : k ≤ L.k := by decide) (hcl : L.calm = true := by rfl)
    (ht : ∀ env : PySem.Env, eval (.Call (.Attribute o x apos) [] [] pos) env = (do
      let ov ← eval o env
      standAt apos.atName
      let (f, first) ← holding [ov] (getMethod ov x (pl env))
      callWith pos f first (backTo pos (starEach [] env)) (backToKw pos (keywordEach [] env))) := by intro _; rfl) : DE W L (.Call (.Attribute o x apos) [] [] pos) (eMeth fn M fo []) :=
  fun R F Wx tk => ⟨fun pins s σ H Q I h => meth_go (fs := []) hO hM hk hcl F tk ho (ht R.env) (fun {pins s H b g Q'} I1 kp P hl hq => by
    obtain ⟨ph, env, m, he, hs, r, e, p⟩ := hl
    cases e
    exact PySem.W.callWith_K0 (first := [.ref b]) I1.kIn kp (hq [] s [] H I1 .nil (p [] H ph (.refl hs) rfl))) I h⟩
end
end PM

/-! PMB2: own objects are made. -/
namespace PM
open PySem PySem.Spec L2 PyProof.Rows
/-- what __init__ has made of the new place becomes a value -/
noncomputable def mkO (fn : Nat → List Str) (c : Nat) (m2 : Sto) : Option Res → Option Res
  | some (.ok .non m3) => match m3[m2.length]? with
    | some (.ins c' fs) => open Classical in if c' = c ∧ fs.map (·.1) = fn c ∧ ltL m2.length (fs.map (·.2)) = true ∧ Sim m2 m3 then some (.ok (.ob c (fs.map (·.2))) (m3.take m2.length)) else none
    | _ => none
  | some (.exn k d m3) => open Classical in if d.lt m2.length = true ∧ Sim m2 m3 then some (.exn k d (m3.take m2.length)) else some (.exn k d m3)
  | _ => none
noncomputable def eMake (fn : Nat → List Str) (c : Nat) (F : FD) (as : List Sel) (fs gs : List FE) : FE := fun env m => bndl (evL fs env m) fun ds m1 => bndl (evL gs env m1) fun es m2 => mkO fn c m2 (F (as.map (selD (.loc m2.length :: ds) es)) (m2 ++ [.ins c []]))
structure MkF (W : Wd) (x : Str) (c : Nat) (k : Nat) (f : Addr) (fd : FuncData) (ps : List Str) (F : FD) : Prop where
  «at» : W.mg x = some (.ref (W.C c))
  M : Mk W.K (W.C c) f
  G : FnG W k f fd ps F
section
variable {W : Wd} {Wx : WX} {ph : Plc} {H : Hp} {m : Sto} {σ : L2.St} {env : Nv} {Q : VK} {L : Lv} {R : Rst} {e : Expr} {es : List Expr} {fs gs : List FE} {pos p : Pos} {fn : Nat → List Str} {x : Str} {c k : Nat} {f : Addr} {fd : FuncData} {ps ks : List Str} {F : FD} {as : List Sel} {kws : List Keyword}
theorem under_make {A : Around} {C : Addr} {us : List Value} {kw : List (Str × Value)} : (A.under (.builtin "type.__call__" ⟨.ref C :: us, kw⟩)).guards = A.guards := by
  first | rfl | simp [Around.under, Code.guards, Code.isGuard, pushGuards, guardIds]
theorem go_make {pins : List (Addr × Obj)} {s : Shared} {us ws : List Value} (D : MkF W x c k f fd ps F) (hr : Room (k + 1) R.A) (hg : R.A.guards = some W.gs) (tk : Takes (mkX W L.N R) Wx) (I : Inv (mkX W L.N R) pins σ H s)
    {bs : Addr → List Value} {vs : Addr → List V} (hb : ∀ (s : Shared) (a : Addr), W.K.In s.heap → BindsTo s fd ⟨.ref a :: us, ks.zip ws⟩ (ps.zip (bs a))) (r : ∀ a, Vals (vs a) (bs a))
    (h : ∀ a dx, H a = none → H dx = none → dx ≠ a → spF W F (vs a) (upd (upd H dx (.own a)) a (.ins (W.C c) dx [])) (fun v H2 => v = .non ∧ Q (.ref a) H2) (WE Wx σ)) :
    wpAny (model W.P W.w) R.A (call (.ref (W.C c)) us (ks.zip ws)) (EP (mkX W L.N R) pins σ Q) R.xe s := by
  have hq := h (s.heap.objs.size + 1) s.heap.objs.size (I.hok.fresh (Nat.le_succ _)) (I.hok.fresh (Nat.le_refl _)) (Nat.ne_of_lt (Nat.lt_succ_self _))
  have I2 := Inv.made (C := W.C c) I
  have run := D.G.run _ R.stack _ _ ⟨Value.ref (s.heap.objs.size + 1) :: us, ks.zip ws⟩ (bs (s.heap.objs.size + 1)) _ _ (WE Wx σ) (Room.make hr (W.C c) us (ks.zip ws)) (by rw [under_make]; exact hg) (I2.env0.make (W.C c) us (ks.zip ws)) (hb _ _ I2.kIn) (r _) hq
  refine wpAny_call (make_map (f := f) I.kIn D.M.makes D.M.init (beq_iff_eq.mp D.M.fn) (codeAny_mono run fun o s2 ho => ?_))
  match o, ho with
  | .error er, ho => exact passAt tk σ pins _ _ er s2 I2 ho
  | .ok .next, ho => exact False.elim ho
  | .ok .brk, ho => exact False.elim ho
  | .ok .cont, ho => exact False.elim ho
  | .ok (.ret u), ho =>
    obtain ⟨v, H3, I3, rv, rfl, q3⟩ := I2.after ho
    exact ⟨rv, ⟨V.ref (s.heap.objs.size + 1), H3, I3, rfl, q3⟩⟩
/-- .. read from the plain outcome -/
theorem make_sp {ds es : List D} {vs zs : List V} (hnm : W.nm = fn) (ho : SelOk W as) (hs : RelSto W ph H m) (r1 : RepL W ph H ds vs) (r2 : RepL W ph H es zs) (h : tX W Wx (mkO fn c m (F (as.map (selD (.loc m.length :: ds) es)) (m ++ [.ins c []]))) ph σ H Q) {a dx : Addr} (ha : H a = none) (hd : H dx = none) (hda : dx ≠ a) :
    spF W F (as.map (selV (.ref a :: vs) zs)) (upd (upd H dx (.own a)) a (.ins (W.C c) dx [])) (fun v H2 => v = .non ∧ Q (.ref a) H2) (WE Wx σ) := by
  have s1 : Ste W ph H ph (upd H dx (.own a)) m := .put hd hs
  have ha1 : upd H dx (.own a) a = none := by rw [upd_ne hda.symm]; exact ha
  have s2 : Ste W ph (upd H dx (.own a)) (ph.add a) (upd (upd H dx (.own a)) a (.ins (W.C c) dx [])) (m ++ [.ins c []]) := .add s1.sto ha1 ⟨dx, [], upd_same, rfl, rfl⟩
  have s12 := s1.trans s2
  have rl : Rep W (ph.add a) (upd (upd H dx (.own a)) a (.ins (W.C c) dx [])) (.loc m.length) (.ref a) := Rep.add s1.sto
  obtain ⟨o, eo, po⟩ := h
  cases q : F (as.map (selD (.loc m.length :: ds) es)) (m ++ [.ins c []]) with
  | none => rw [q] at eo; cases eo
  | some ro =>
    rw [q] at eo
    refine ⟨ph.add a, m ++ [.ins c []], _, ro, s2.sto, selDV (.cons rl (RepL.mono s12 _ _ r1)) (RepL.mono s12 _ _ r2) fun d v u hm => (ho d v u hm).2, q, ?_⟩
    cases ro with
    | exn k2 d m3 =>
      intro dx2 x2 H3 ph3 s3 hdx hk rx
      have s123 := s12.trans s3
      have eo : (open Classical in if d.lt m.length = true ∧ Sim m m3 then some (Res.exn k2 d (m3.take m.length)) else some (.exn k2 d m3)) = some o := eo
      split at eo
      · rename_i hc
        cases eo
        obtain ⟨ex, ep⟩ := s123.pre
        exact po dx2 x2 H3 ph (s123.cut hs hc.2) hdx (Pre.ok ⟨⟨ex, ep⟩, s123.prv⟩ hk) (Rep.less ⟨⟨ex, ep⟩, s123.prv⟩ (by rw [hs.len]; exact hc.1) rx)
      · cases eo
        exact po dx2 x2 H3 ph3 s123 hdx hk rx
    | ok d m3 =>
      intro v H3 ph3 s3 rv
      have s123 := s12.trans s3
      cases d <;> first | cases eo; done | skip
      cases rv
      refine ⟨rfl, ?_⟩
      cases q3 : m3[m.length]? with
      | none => simp only [mkO, q3] at eo; cases eo
      | some c0 =>
        cases c0 <;> first | (simp only [mkO, q3] at eo; cases eo; done) | skip
        rename_i c' fl
        simp only [mkO, q3] at eo
        split at eo
        · rename_i hc
          cases eo
          obtain ⟨rfl, hf, hlt, hsim⟩ := hc
          obtain ⟨a', e1, _, dy, fv, e3, k1, k2⟩ := s3.sto.cell _ _ q3
          have hpa : ph3.pl[m.length]? = some a := by
            obtain ⟨ex, ep⟩ := s3.pre
            rw [ep, List.getElem?_append_left (by show m.length < (ph.pl ++ [a]).length; rw [List.length_append, hs.len]; simp)]
            show (ph.pl ++ [a])[m.length]? = some a
            rw [← hs.len]; simp
          rw [hpa] at e1
          cases e1
          obtain ⟨ex, ep⟩ := s123.pre
          have hl : (W.nm c').length = (fv.map (·.2)).length := by
            rw [hnm, ← hf, k1, List.length_map, List.length_map]
          refine po (.ref a) H3 ph (s123.cut hs hsim) ⟨a, dy, fv.map (·.2), rfl, ?_, ⟨hs.notin ha, hs.nopv ha⟩, hl, RepL.less ⟨⟨ex, ep⟩, s123.prv⟩ (by rw [hs.len]; exact hlt) k2⟩
          rw [hnm, ← hf, k1, zip_back]
          exact e3
        · cases eo
theorem t_make (h : tE W Wx (eMake fn c F as fs gs) σ H Q) : tL W Wx fs σ H fun vs H1 => tL W Wx gs σ H1 fun zs H2 => ∃ ph2 m2 ds es, ds.length = fs.length ∧ es.length = gs.length ∧ RelSto W ph2 H2 m2 ∧ RepL W ph2 H2 ds vs ∧ RepL W ph2 H2 es zs ∧ tX W Wx (mkO fn c m2 (F (as.map (selD (.loc m2.length :: ds) es)) (m2 ++ [.ins c []]))) ph2 σ H2 Q := by
  obtain ⟨ph, env, m, hv, hs, h⟩ := h
  obtain ⟨r, e, p⟩ := tX.bndl hs h
  refine ⟨ph, env, m, hv, hs, r, e, ?_⟩
  cases r with
  | exn c d m1 => exact p
  | ok ds m1 =>
    intro vs H1 ph1 s1 r1
    have hl := evL_len e
    obtain ⟨o, eo, po⟩ := h
    unfold eMake at eo
    rw [e, bndl_ok] at eo
    have h2 : tX W Wx (bndl (evL gs env m1) fun es m2 => mkO fn c m2 (F (as.map (selD (.loc m2.length :: ds) es)) (m2 ++ [.ins c []]))) ph1 σ H1 Q := ⟨o, eo, po.later s1⟩
    obtain ⟨r2, e2, p2⟩ := tX.bndl s1.sto h2
    refine ⟨ph1, env, m1, hv.mono s1, s1.sto, r2, e2, ?_⟩
    cases r2 with
    | exn c d m2 => exact p2
    | ok es m2 =>
      intro zs H2 ph2 s2 r2
      have hl2 := evL_len e2
      rw [e2, bndl_ok] at eo
      exact ⟨ph2, m2, ds, es, hl, hl2, s2.sto, RepL.mono s2 _ _ r1, r2, o, eo, po.later (s1.trans s2)⟩
/-- C(e, ..) and C(e, .., k = v, ..) -/
theorem de_make (D : MkF W x c k f fd ps F) (hnm : W.nm = fn) (hb : CallB W fd ps (fs.length + 1) [] as) (ha : DA W L (e :: es) fs) (hk : k + 1 ≤ L.k := by decide) (hcl : L.calm = true := by rfl) (hg : L.sc.names.lookup x = some .globalImplicit := by rfl)
    (hdb : (x == ("__debug__" : Str)) = false := by decide) (he : ∀ env, starEach (e :: es) env = (false, eval e env) :: starEach es env := by intro _; rfl) (hpl : ∀ env, (backTo pos (starEach es env)).any (·.1) = false := by intro _; rfl) :
    DE W L (.Call (.Name x p) (e :: es) [] pos) (eMake fn c F as fs []) := by
  intro R Ft Wx tk
  refine ⟨fun pins s σ H Q I h => ?_⟩
  refine wpAny_Call_Name_kw (ld_glob (X := mkX W L.N R) I (Ft.gl x hg) D.at ?_ hdb)
  refine PySem.W.callWith_K (h₀ := W.base) I.ok.mod.kin D.M.kp (thn ((ha R Ft Wx tk).run pos pins s σ H _ I (t_make h)) fun us s1 hh => ?_) (he _) (hpl _)
  obtain ⟨vs, H1, I1, r, q⟩ := hh
  refine ⟨I1.kIn, ?_⟩
  obtain ⟨ph, env, m, hv, hs, o, eo, po⟩ := q
  cases eo
  obtain ⟨ph2, m2, ds, es', l1, l2, hs2, r1, r2, h2⟩ := po [] H1 ph (.refl hs) rfl
  exact go_make (ks := []) (ws := []) D ((Ft.room hcl).mono hk) Ft.grd tk I1 (bs := fun a => as.map (selU (.ref a :: us) [])) (vs := fun a => as.map (selV (.ref a :: vs) [])) (fun s2 a X => hb.to s2 (.ref a :: us) [] X (by rw [List.length_cons, RelV.len_vals r, ← r1.length, l1]) rfl)
    (fun a => selVU (.cons (show L2.RelV (V.ref a) (Value.ref a) from rfl) r) .nil fun d v u hm => (hb.ok d v u hm).1) fun a dx h3 h4 h5 => make_sp hnm hb.ok hs2 r1 r2 h2 h3 h4 h5
theorem de_makeK (D : MkF W x c k f fd ps F) (hnm : W.nm = fn) (hb : CallB W fd ps (fs.length + 1) ks as) (ha : DA W L (e :: es) fs) (hkw : DK W L kws gs) (hkl : ks.length = gs.length := by rfl) (hk : k + 1 ≤ L.k := by decide) (hcl : L.calm = true := by rfl) (hg : L.sc.names.lookup x = some .globalImplicit := by rfl)
    (hall : ∀ env, (backToKw pos (keywordEach kws env)).all (·.1.isSome) = true := by intro _; rfl) (hks : ∀ env, (backToKw pos (keywordEach kws env)).filterMap (·.1) = ks := by intro _; rfl)
    (hdb : (x == ("__debug__" : Str)) = false := by decide) (he : ∀ env, starEach (e :: es) env = (false, eval e env) :: starEach es env := by intro _; rfl)
    (hpl : ∀ env, ((backTo pos (starEach (e :: es) env)).any (·.1) || (backToKw pos (keywordEach kws env)).any (·.1.isNone)) = false := by intro _; rfl) :
    DE W L (.Call (.Name x p) (e :: es) kws pos) (eMake fn c F as fs gs) := by
  intro R Ft Wx tk
  refine ⟨fun pins s σ H Q I h => ?_⟩
  refine wpAny_Call_Name_kw (ld_glob (X := mkX W L.N R) I (Ft.gl x hg) D.at ?_ hdb)
  refine PySem.W.callWith_KW (h₀ := W.base) I.ok.mod.kin D.M.kp (hall _) (thn ((ha R Ft Wx tk).run pos pins s σ H _ I (t_make h)) fun us s1 hh => ?_) (hpl _) (he _)
  obtain ⟨vs, H1, I1, r, q⟩ := hh
  refine thn ((hkw R Ft Wx tk).run pos pins s1 σ H1 _ I1 q) fun ws s2 hh2 => ?_
  obtain ⟨zs, H2, I2, rz, q2⟩ := hh2
  refine ⟨I2.kIn, ?_⟩
  rw [hks]
  obtain ⟨ph2, m2, ds, es', l1, l2, hs2, r1, r2, h2⟩ := q2
  exact go_make D ((Ft.room hcl).mono hk) Ft.grd tk I2 (bs := fun a => as.map (selU (.ref a :: us) ws)) (vs := fun a => as.map (selV (.ref a :: vs) zs)) (fun s3 a X => hb.to s3 (.ref a :: us) ws X (by rw [List.length_cons, RelV.len_vals r, ← r1.length, l1]) (by rw [RelV.len_vals rz, ← r2.length, l2, hkl]))
    (fun a => selVU (.cons (show L2.RelV (V.ref a) (Value.ref a) from rfl) r) rz fun d v u hm => (hb.ok d v u hm).1) fun a dx h3 h4 h5 => make_sp hnm hb.ok hs2 r1 r2 h2 h3 h4 h5
/-- C(k = v, ..) -/
theorem de_makeK0 (D : MkF W x c k f fd ps F) (hnm : W.nm = fn) (hb : CallB W fd ps 1 ks as) (hkw : DK W L kws gs) (hkl : ks.length = gs.length := by rfl) (hk : k + 1 ≤ L.k := by decide) (hcl : L.calm = true := by rfl) (hg : L.sc.names.lookup x = some .globalImplicit := by rfl)
    (hall : ∀ env, (backToKw pos (keywordEach kws env)).all (·.1.isSome) = true := by intro _; rfl) (hks : ∀ env, (backToKw pos (keywordEach kws env)).filterMap (·.1) = ks := by intro _; rfl)
    (hdb : (x == ("__debug__" : Str)) = false := by decide) (hpl : ∀ env, ((backTo pos (starEach [] env)).any (·.1) || (backToKw pos (keywordEach kws env)).any (·.1.isNone)) = false := by intro _; rfl) :
    DE W L (.Call (.Name x p) [] kws pos) (eMake fn c F as [] gs) := by
  intro R Ft Wx tk
  refine ⟨fun pins s σ H Q I h => ?_⟩
  refine wpAny_Call_Name_kw (ld_glob (X := mkX W L.N R) I (Ft.gl x hg) D.at ?_ hdb)
  refine PySem.W.callWith_KW0 (h₀ := W.base) I.ok.mod.kin D.M.kp (hall _) ?_ (hpl _)
  obtain ⟨ph, env, m, hv, hs, o, eo, po⟩ := t_make h
  cases eo
  have q := po [] H ph (.refl hs) rfl
  refine thn ((hkw R Ft Wx tk).run pos pins s σ H _ I q) fun ws s2 hh2 => ?_
  obtain ⟨zs, H2, I2, rz, q2⟩ := hh2
  refine ⟨I2.kIn, ?_⟩
  rw [hks]
  obtain ⟨ph2, m2, ds, es', l1, l2, hs2, r1, r2, h2⟩ := q2
  cases ds with
  | cons d ds => cases l1
  | nil =>
    exact go_make (us := []) D ((Ft.room hcl).mono hk) Ft.grd tk I2 (bs := fun a => as.map (selU [.ref a] ws)) (vs := fun a => as.map (selV [.ref a] zs)) (fun s3 a X => hb.to s3 [.ref a] ws X rfl (by rw [RelV.len_vals rz, ← r2.length, l2, hkl]))
      (fun a => selVU (.cons (show L2.RelV (V.ref a) (Value.ref a) from rfl) .nil) rz fun d v u hm => (hb.ok d v u hm).1) fun a dx h3 h4 h5 => make_sp (ds := []) (vs := []) hnm hb.ok hs2 RepL.nil r2 h2 h3 h4 h5
/-- C() -/
theorem de_make0 (D : MkF W x c k f fd ps F) (hnm : W.nm = fn) (hb : CallB W fd ps 1 [] as) (hk : k + 1 ≤ L.k := by decide) (hcl : L.calm = true := by rfl) (hg : L.sc.names.lookup x = some .globalImplicit := by rfl) (hdb : (x == ("__debug__" : Str)) = false := by decide) :
    DE W L (.Call (.Name x p) [] [] pos) (eMake fn c F as [] []) := by
  intro R Ft Wx tk
  refine ⟨fun pins s σ H Q I h => ?_⟩
  refine wpAny_Call_Name_kw (ld_glob (X := mkX W L.N R) I (Ft.gl x hg) D.at ?_ hdb)
  refine PySem.W.callWith_K0 I.kIn D.M.kp ?_
  obtain ⟨ph, env, m, hv, hs, h⟩ := h
  have h2 : tX W Wx (mkO fn c m (F (as.map (selD [.loc m.length] [])) (m ++ [.ins c []]))) ph σ H Q := h
  exact go_make (us := []) (ks := []) (ws := []) D ((Ft.room hcl).mono hk) Ft.grd tk I (bs := fun a => as.map (selU [.ref a] [])) (vs := fun a => as.map (selV [.ref a] [])) (fun s3 a X => hb.to s3 [.ref a] [] X rfl rfl)
    (fun a => selVU (.cons (show L2.RelV (V.ref a) (Value.ref a) from rfl) .nil) .nil fun d v u hm => (hb.ok d v u hm).1) fun a dx h3 h4 h5 => make_sp (ds := []) (es := []) (vs := []) (zs := []) hnm hb.ok hs RepL.nil RepL.nil h2 h3 h4 h5
end
end PM

/-! PMD: methods of built-in types: of texts, of list places. -/
namespace PM
open PySem PySem.Spec L2 PyProof.Rows
/-- a method of a text -/
def eSm (op : Str → List D → Sto → Option D) (f : FE) (fs : List FE) : FE := fun env m => bnd (f env m) fun x m1 => match x with
  | .str s => bndl (evL fs env m1) fun ds m2 => out m2 (op s ds m2)
  | _ => none
def rSm (W : Wd) (op : Str → List D → Sto → Option D) : V → List V → Hp → VK → Prop := fun x xs H Q => ∃ ph m s ds d, RelSto W ph H m ∧ x = .str s ∧ RepL W ph H ds xs ∧ op s ds m = some d ∧ PostD W ph H m Q d
structure SmOk (name : Str) (id : String) (op : Str → List D → Sto → Option D) : Prop where
  slot : Slot "str" name id
  ty : typeOf (.builtin id) = pure (.type "method_descriptor")
  run : ∀ (W : Wd) (X : Cx), X.K = W.K → MtR X id (rSm W op)
section
variable {W : Wd} {Wx : WX} {ph ph' : Plc} {H H' H1 : Hp} {m m' m1 : Sto} {L : Lv} {R : Rst} {X : Cx} {Q : VK} {Dn : Ends} {e a b o i v : Expr} {es : List Expr} {fa fb f fo fi fv : FE} {fs : List FE} {pos apos cpos : Pos} {σ : L2.St} {env : Nv} {name : Str} {id : String} {op : Str → List D → Sto → Option D}
theorem MtR.of {r r' : V → List V → Hp → VK → Prop} (h : MtR X id r) (hi : ∀ x xs H Q, r' x xs H Q → r x xs H Q) : MtR X id r' :=
  fun pins s σ H x xs v us Q I rx rs q => h pins s σ H x xs v us Q I rx rs (hi _ _ _ _ q)
theorem t_sm (h : tE W Wx (eSm op f fs) σ H Q) : tBM W.K "str" (rSm W op) (tE W Wx f) (tL W Wx fs) σ H Q := by
  obtain ⟨ph, env, m, he, hs, h⟩ := h
  refine tE.mk he hs ((tX.bnd hs h).imp fun v1 H1 q => ?_)
  obtain ⟨ph1, m1, d1, s1, r1, h1⟩ := q
  cases d1 <;> first | (obtain ⟨o, e, _⟩ := h1; cases e; done) | skip
  cases r1
  refine ⟨rfl, ?_⟩
  obtain ⟨r, e, p⟩ := tX.bndl s1.sto h1
  refine ⟨ph1, env, m1, he.mono s1, s1.sto, r, e, ?_⟩
  cases r with
  | exn c d m2 => exact p
  | ok ds m2 =>
    intro vs H2 ph2 s2 r2
    obtain ⟨ph3, m3, ds3, s3, r3, h3⟩ := p vs H2 ph2 s2 r2
    obtain ⟨d, e, p⟩ := tX.outD h3
    exact ⟨ph3, m3, _, ds3, d, s3.sto, rfl, r3, e, p⟩
theorem de_sm (hm : SmOk name id op) (ho : DE W L o f) (ha : DA W L (e :: es) fs)
    (hbase : ∀ env : PySem.Env, attributeBase o name env (eval o env) = eval o env := by intro _; rfl)
    (hfew : ∀ env : PySem.Env, ((backTo cpos (starEach (e :: es) env)).all (fun x => !x.1) && (backToKw cpos (keywordEach [] env)).all (fun x => x.1.isSome)
      && decide ((e :: es).length + ([] : List Keyword).length + (if ([] : List Keyword).isEmpty then 0 else 1) < 30)) = true := by intro _; rfl)
    (hline : (apos.endLine == cpos.line) = true := by rfl) (hs : ∀ env : PySem.Env, starEach (e :: es) env = (false, eval e env) :: starEach es env := by intro _; rfl) (hplain : ∀ env : PySem.Env, (backTo cpos (starEach es env)).any (·.1) = false := by intro _; rfl) :
    DE W L (.Call (.Attribute o name apos) (e :: es) [] cpos) (eSm op f fs) := by
  intro R Ft Wx tk
  exact PE.imp (pe_bm (X := mkX W L.N R) PySem.F.plainAttrs_str hm.slot hm.ty (hm.run W _ rfl) (ho R Ft Wx tk) (ha R Ft Wx tk) (hbase _) (hfew _) hline (hs _) (hplain _)) fun _ _ _ h => t_sm h
def swD : Str → List D → Sto → Option D
  | a, [.str b], _ => some (.bl (Txt.startswith a b))
  | _, _, _ => none
def findD : Str → List D → Sto → Option D
  | a, [.str b], _ => some (.int (Txt.find a b))
  | _, _, _ => none
def splitD : Str → List D → Sto → Option D
  | a, [.str b], _ => if (b.length == 0) = false ∧ a.length ≤ 100000 then some (.lst ((Txt.split a b).map .str)) else none
  | _, _, _ => none
def joinD : Str → List D → Sto → Option D
  | a, [x], m => match seqOf x m with
    | some xs => match strsOf xs with
      | some ys => if (ys.map (·.length)).sum + ys.length * a.length ≤ 16777216 then some (.str (Txt.join a ys)) else none
      | none => none
    | none => none
  | _, _, _ => none
theorem strs_rep : ∀ (ys : List Str), RepL W ph H (ys.map D.str) (ys.map V.str)
  | [] => rfl
  | y :: ys => .cons rfl (strs_rep ys)
theorem sm_sw : SmOk "startswith" "str.startswith" swD := by
  refine ⟨F.slot_str_startswith, rfl, fun W X _ => MtR.of mt_startswith ?_⟩
  rintro x xs H Q ⟨ph, m, s, ds, d, hs, rfl, r, e, p⟩
  unfold swD at e
  split at e
  · cases e
    obtain ⟨v, rfl, rv⟩ := r.one
    cases rv
    exact ⟨_, _, rfl, rfl, p.b hs⟩
  · cases e
theorem sm_find : SmOk "find" "str.find" findD := by
  refine ⟨F.slot_str_find, rfl, fun W X _ => MtR.of mt_find ?_⟩
  rintro x xs H Q ⟨ph, m, s, ds, d, hs, rfl, r, e, p⟩
  unfold findD at e
  split at e
  · cases e
    obtain ⟨v, rfl, rv⟩ := r.one
    cases rv
    exact ⟨_, _, rfl, rfl, p.i hs⟩
  · cases e
theorem sm_split : SmOk "split" "str.split" splitD := by
  refine ⟨F.slot_str_split, rfl, fun W X _ => MtR.of mt_split ?_⟩
  rintro x xs H Q ⟨ph, m, s, ds, d, hs, rfl, r, e, p⟩
  unfold splitD at e
  split at e
  · split at e
    · rename_i hc
      cases e
      obtain ⟨v, rfl, rv⟩ := r.one
      cases rv
      refine ⟨_, _, rfl, rfl, hc.1, ?_, fun b hb => p _ _ ph (.put hb hs) (.newL hb hs (strs_rep _))⟩
      have : sizeLine = 16777216 := by decide
      omega
    · cases e
  · cases e
theorem sm_join : SmOk "join" "str.join" joinD := by
  refine ⟨F.slot_str_join, rfl, fun W X hX => MtR.of mt_join ?_⟩
  rintro x xs H Q ⟨ph, m, s, ds, d, hs, rfl, r, e, p⟩
  unfold joinD at e
  split at e
  · split at e
    · rename_i xs q
      split at e
      · rename_i ys q2
        split at e
        · rename_i hl
          cases e
          obtain ⟨v, rfl, rv⟩ := r.one
          obtain ⟨a, vs, rfl, l, r⟩ := seqOf_rep hs rv q
          have := strsOf_rep q2 r
          subst this
          rw [hX]
          exact ⟨_, _, ys, rfl, rfl, l, hl, p.s hs⟩
        · cases e
      · cases e
    · cases e
  · cases e
/-! ### int() -/
def intD : List D → Sto → Option D
  | [.int i], _ => some (.int i)
  | [.bl k], _ => some (.int (if k then 1 else 0))
  | [.str a], _ => match PySem.intText? a with
    | some n => if a.length ≤ 640 then some (.int n) else none
    | none => none
  | _, _ => none
theorem opn_int : OpN W L (.type "int") intD := by
  refine OpN.of (rd := fun _ xs H Q => _) (fun R F => CallR.or call_int1 call_int_str) fun R ph H m ds d vs Q F hs r e p => ?_
  unfold intD at e
  split at e
  · cases e
    obtain ⟨v, rfl, rv⟩ := r.one
    cases rv
    exact .inl (.inl ⟨_, rfl, p.i hs⟩)
  · cases e
    obtain ⟨v, rfl, rv⟩ := r.one
    cases rv
    exact .inl (.inr ⟨_, rfl, p.i hs⟩)
  · split at e
    · rename_i n hn
      split at e
      · rename_i hl
        cases e
        obtain ⟨v, rfl, rv⟩ := r.one
        cases rv
        exact .inr ⟨_, _, rfl, hn, hl, p.i hs⟩
      · cases e
    · cases e
  · cases e
/-! ### - x -/
def negD : D → Sto → Option D
  | .int i, _ => some (.int (-i))
  | _, _ => none
theorem op1_neg : Op1 W L (unaryOp .USub) negD := by
  intro R F pins s σ H x u Q I r q
  obtain ⟨ph, m, dx, d, hs, r1, e, p⟩ := q
  unfold negD at e
  split at e
  · cases e; cases r1
    exact un_neg pins s σ H _ u Q I r ⟨_, rfl, p.i hs⟩
  · cases e
/-! ### methods of list places -/
def lstPl (x : D) (m : Sto) : Bool := match x with
  | .loc n => match m[n]? with
    | some (.lst _) => true
    | _ => false
  | _ => false
def eMm (op : D → List D → Sto → Option (D × Sto)) (f : FE) (fs : List FE) : FE := fun env m => bnd (f env m) fun x m1 => if lstPl x m1 = true then bndl (evL fs env m1) fun ds m2 => (op x ds m2).map fun p => Res.ok p.1 p.2 else none
def rMm (W : Wd) (op : D → List D → Sto → Option (D × Sto)) : V → List V → Hp → VK → Prop := fun x xs H Q => ∃ ph m dx ds d m', RelSto W ph H m ∧ Rep W ph H dx x ∧ RepL W ph H ds xs ∧ op dx ds m = some (d, m') ∧ ∀ v H' ph', Ste W ph H ph' H' m' → Rep W ph' H' d v → Q v H'
theorem lstPl_rep {x : D} {v : V} (hs : RelSto W ph H m) (r : Rep W ph H x v) (e : lstPl x m = true) : tyV W.K "list" v H := by
  unfold lstPl at e
  split at e
  · rename_i n
    split at e
    · rename_i xs q
      obtain ⟨a, rfl, ha⟩ := r
      obtain ⟨a', e1, _, vs, e3, _⟩ := hs.cell n _ q
      rw [ha] at e1; cases e1
      exact .inl ⟨rfl, vs, .inl (.inl e3)⟩
    · cases e
  · cases e
theorem t_mm {op : D → List D → Sto → Option (D × Sto)} (h : tE W Wx (eMm op f fs) σ H Q) : tBM W.K "list" (rMm W op) (tE W Wx f) (tL W Wx fs) σ H Q := by
  obtain ⟨ph, env, m, he, hs, h⟩ := h
  refine tE.mk he hs ((tX.bnd hs h).imp fun v1 H1 q => ?_)
  obtain ⟨ph1, m1, d1, s1, r1, h1⟩ := q
  by_cases hl : lstPl d1 m1 = true
  · rw [if_pos hl] at h1
    refine ⟨lstPl_rep s1.sto r1 hl, ?_⟩
    obtain ⟨r, e, p⟩ := tX.bndl s1.sto h1
    refine ⟨ph1, env, m1, he.mono s1, s1.sto, r, e, ?_⟩
    cases r with
    | exn c d m2 => exact p
    | ok ds m2 =>
      intro vs H2 ph2 s2 r2
      obtain ⟨ph3, m3, ds3, s3, r3, o, e, p⟩ := p vs H2 ph2 s2 r2
      cases q : op d1 ds3 m3 with
      | none => rw [q] at e; cases e
      | some dm =>
        rw [q] at e
        cases e
        exact ⟨ph3, m3, _, ds3, dm.1, dm.2, s3.sto, Rep.mono s3 _ _ r1, r3, q, p⟩
  · rw [if_neg hl] at h1
    obtain ⟨o, e, _⟩ := h1
    cases e
structure MmOk (name : Str) (id : String) (op : D → List D → Sto → Option (D × Sto)) : Prop where
  slot : Slot "list" name id
  ty : typeOf (.builtin id) = pure (.type "method_descriptor")
  run : ∀ (W : Wd) (X : Cx), X.K = W.K → MtR X id (rMm W op)
theorem de_mm {op : D → List D → Sto → Option (D × Sto)} (hm : MmOk name id op) (ho : DE W L o f) (ha : DA W L (e :: es) fs)
    (hbase : ∀ env : PySem.Env, attributeBase o name env (eval o env) = eval o env := by intro _; rfl)
    (hfew : ∀ env : PySem.Env, ((backTo cpos (starEach (e :: es) env)).all (fun x => !x.1) && (backToKw cpos (keywordEach [] env)).all (fun x => x.1.isSome)
      && decide ((e :: es).length + ([] : List Keyword).length + (if ([] : List Keyword).isEmpty then 0 else 1) < 30)) = true := by intro _; rfl)
    (hline : (apos.endLine == cpos.line) = true := by rfl) (hs : ∀ env : PySem.Env, starEach (e :: es) env = (false, eval e env) :: starEach es env := by intro _; rfl) (hplain : ∀ env : PySem.Env, (backTo cpos (starEach es env)).any (·.1) = false := by intro _; rfl) :
    DE W L (.Call (.Attribute o name apos) (e :: es) [] cpos) (eMm op f fs) := by
  intro R Ft Wx tk
  exact PE.imp (pe_bm (X := mkX W L.N R) PySem.F.plainAttrs_list hm.slot hm.ty (hm.run W _ rfl) (ho R Ft Wx tk) (ha R Ft Wx tk) (hbase _) (hfew _) hline (hs _) (hplain _)) fun _ _ _ h => t_mm h
theorem de_mm0 {op : D → List D → Sto → Option (D × Sto)} (hm : MmOk name id op) (ho : DE W L o f)
    (hbase : ∀ env : PySem.Env, attributeBase o name env (eval o env) = eval o env := by intro _; rfl) (hline : (apos.endLine == cpos.line) = true := by rfl) :
    DE W L (.Call (.Attribute o name apos) [] [] cpos) (eMm op f []) := by
  intro R Ft Wx tk
  refine PE.imp (pe_bm0 (X := mkX W L.N R) PySem.F.plainAttrs_list hm.slot hm.ty (hm.run W _ rfl) (ho R Ft Wx tk) (hbase _) hline) fun σ H Q h => ?_
  refine tE.imp (fun x H1 q => ?_) (t_mm h)
  obtain ⟨ty, ph, env, m, he, hs, r, e, p⟩ := q
  cases e
  exact ⟨ty, p [] H1 ph (.refl hs) rfl⟩
def appD : D → List D → Sto → Option (D × Sto)
  | .loc n, [d], m => match m[n]? with
    | some (.lst xs) => if xs.length < 100000 then some (.non, m.set n (.lst (xs ++ [d]))) else none
    | _ => none
  | _, _, _ => none
def popLD : D → List D → Sto → Option (D × Sto)
  | .loc n, [], m => match m[n]? with
    | some (.lst xs) => match xs[xs.length - 1]? with
      | some y => some (y, m.set n (.lst xs.dropLast))
      | none => none
    | _ => none
  | _, _, _ => none
theorem mm_app : MmOk "append" "list.append" appD := by
  refine ⟨F.slot_list_append, rfl, fun W X _ => MtR.of mt_append ?_⟩
  rintro x xs H Q ⟨ph, m, dx, ds, d, m', hs, rx, r, e, p⟩
  unfold appD at e
  split at e
  · rename_i n d0 
    split at e
    · rename_i ys q
      split at e
      · rename_i hl
        cases e
        obtain ⟨v, rfl, rv⟩ := r.one
        obtain ⟨b, rfl, hb⟩ := rx
        obtain ⟨b', e1, _, vs, e3, rr⟩ := hs.cell n _ q
        rw [hb] at e1; cases e1
        have mv : Mov ph H ph (upd H b (.lst (vs ++ [v]))) := .place (List.mem_of_getElem? hb)
        exact ⟨b, vs, v, rfl, rfl, e3, by rw [← rr.length]; exact Nat.lt_of_lt_of_le hl line5, p _ _ ph (.write hs hb ⟨_, upd_same, RepL.move mv _ _ (rr.append (.cons rv .nil))⟩) rfl⟩
      · cases e
    · cases e
  · cases e
theorem RepL.dropLast {ds : List D} {vs : List V} (h : RepL W ph H ds vs) : RepL W ph H ds.dropLast vs.dropLast := by
  rw [List.dropLast_eq_take, List.dropLast_eq_take, ← h.length]
  exact h.take _
theorem mm_pop : MmOk "pop" "list.pop" popLD := by
  refine ⟨F.slot_list_pop, rfl, fun W X _ => MtR.of mt_pop ?_⟩
  rintro x xs H Q ⟨ph, m, dx, ds, d, m', hs, rx, r, e, p⟩
  unfold popLD at e
  split at e
  · rename_i n
    split at e
    · rename_i ys q
      split at e
      · rename_i y hy
        cases e
        cases (show xs = [] from r)
        obtain ⟨b, rfl, hb⟩ := rx
        obtain ⟨b', e1, _, vs, e3, rr⟩ := hs.cell n _ q
        rw [hb] at e1; cases e1
        have mv : Mov ph H ph (upd H b (.lst vs.dropLast)) := .place (List.mem_of_getElem? hb)
        obtain ⟨v, hv, rv⟩ := rr.get hy
        exact ⟨b, vs, v, rfl, rfl, e3, by rw [← rr.length]; exact hv, p _ _ ph (.write hs hb ⟨_, upd_same, RepL.move mv _ _ rr.dropLast⟩) (Rep.move mv _ _ rv)⟩
      · cases e
    · cases e
  · cases e
end
end PM

/-! PMD2: list.reverse, list.clear, list.index. -/
namespace PM
open PySem PySem.Spec L2 PyProof.Rows
section
variable {W : Wd} {ph : Plc} {H : Hp}
theorem RepL.rev : ∀ {ds : List D} {vs : List V}, RepL W ph H ds vs → RepL W ph H ds.reverse vs.reverse
  | [], vs, h => by
    have h : vs = [] := h
    subst h
    exact h
  | d :: ds, vs, h => by
    cases vs with
    | nil => have := h.length; cases this
    | cons v vs =>
      obtain ⟨v', vs', e, h1, h2⟩ := h
      cases e
      rw [List.reverse_cons, List.reverse_cons]
      exact (RepL.rev h2).append (.cons h1 .nil)
def revD : D → List D → Sto → Option (D × Sto)
  | .loc n, [], m => match m[n]? with
    | some (.lst xs) => some (.non, m.set n (.lst xs.reverse))
    | _ => none
  | _, _, _ => none
theorem mm_rev : MmOk "reverse" "list.reverse" revD := by
  refine ⟨F.slot_list_reverse, rfl, fun W X _ => MtR.of mt_reverse ?_⟩
  rintro x xs H Q ⟨ph, m, dx, ds, d, m', hs, rx, r, e, p⟩
  unfold revD at e
  split at e
  · rename_i n
    split at e
    · rename_i ys q
      cases e
      cases (show xs = [] from r)
      obtain ⟨b, rfl, hb⟩ := rx
      obtain ⟨b', e1, _, vs, e3, rr⟩ := hs.cell n _ q
      rw [hb] at e1; cases e1
      have mv : Mov ph H ph (upd H b (.lst vs.reverse)) := .place (List.mem_of_getElem? hb)
      exact ⟨b, vs, rfl, rfl, e3, p _ _ ph (.write hs hb ⟨_, upd_same, RepL.move mv _ _ rr.rev⟩) rfl⟩
    · cases e
  · cases e
def clrD : D → List D → Sto → Option (D × Sto)
  | .loc n, [], m => match m[n]? with
    | some (.lst xs) => some (.non, m.set n (.lst []))
    | _ => none
  | _, _, _ => none
theorem mm_clr : MmOk "clear" "list.clear" clrD := by
  refine ⟨F.slot_list_clear, rfl, fun W X _ => MtR.of mt_clear ?_⟩
  rintro x xs H Q ⟨ph, m, dx, ds, d, m', hs, rx, r, e, p⟩
  unfold clrD at e
  split at e
  · rename_i n
    split at e
    · rename_i ys q
      cases e
      cases (show xs = [] from r)
      obtain ⟨b, rfl, hb⟩ := rx
      obtain ⟨b', e1, _, vs, e3, rr⟩ := hs.cell n _ q
      rw [hb] at e1; cases e1
      have mv : Mov ph H ph (upd H b (.lst [])) := .place (List.mem_of_getElem? hb)
      exact ⟨b, vs, rfl, rfl, e3, p _ _ ph (.write hs hb ⟨_, upd_same, .nil⟩) rfl⟩
    · cases e
  · cases e
def idxD : D → List D → Sto → Option (D × Sto)
  | x, [.int k], m => match lstOf x m with
    | some xs => match intsOf xs with
      | some ns => if k ∈ ns then some (.int ((ns.idxOf k : Nat) : Int), m) else none
      | none => none
    | none => none
  | _, _, _ => none
theorem flat_ints : ∀ ns : List Int, (ns.map V.int).all flatV = true
  | [] => rfl
  | n :: ns => by rw [List.map_cons, List.all_cons, flat_ints ns]; rfl
theorem mm_idx : MmOk "index" "list.index" idxD := by
  refine ⟨F.slot_list_index, rfl, fun W X hK => MtR.of mt_index ?_⟩
  rintro x xs H Q ⟨ph, m, dx, ds, d, m', hs, rx, r, e, p⟩
  unfold idxD at e
  split at e
  · rename_i k
    obtain ⟨v, rfl, rv⟩ := r.one
    cases rv
    cases q : lstOf dx m with
    | none => rw [q] at e; cases e
    | some zs =>
      simp only [q] at e
      obtain ⟨a, us2, rfl, l, r2⟩ := lstOf_sq hs rx q
      cases q2 : intsOf zs with
      | none => simp only [q2] at e; cases e
      | some ns =>
        simp only [q2] at e
        split at e
        · rename_i hk
          cases e
          have := intsOf_rep q2 r2
          subst this
          have hj := List.idxOf_lt_length_of_mem hk
          refine ⟨a, ns.map V.int, .int k, ns.idxOf k, .int k, rfl, rfl, by rw [hK]; exact l, rfl, flat_ints ns, ?_, ?_, ?_, p _ _ ph (.refl hs) rfl⟩
          · rw [List.getElem?_map, List.getElem?_eq_getElem hj, List.getElem_idxOf hj]
            rfl
          · simp [eqV]
          · intro j z' hlt hz
            rw [List.getElem?_map] at hz
            have hj2 : j < ns.length := by omega
            rw [List.getElem?_eq_getElem hj2] at hz
            cases hz
            show (ns[j] == k) = false
            have := List.not_of_lt_findIdx (p := (· == k)) (xs := ns) hlt
            simpa using this
        · cases e
  · cases e
end
end PM

/-! PMR0: repr of an own exception with one text. -/
namespace PM
open PySem PySem.Spec L2 PyProof.Rows
open PySem.W (Looks Frag findIn subIn looks_findIn looks_subIn)
open Builtin Builtin.Str Builtin.BaseException Builtin.Exceptions
def excTxt (nm m : Str) : Str := excReprHead nm.toString ++ "(" ++ reprText m ++ ")"
/-- the class C is shown by the name nm -/
structure ShC (K : Frag) (C : Addr) (nm : Str) : Prop where
  cls : ∃ q N bs bm hd sn sub ab col dd k0 k1 k2 k3 k5 nw, K.lookup C = some (excClassObj nm q C N bs bm hd sn sub ab col dd k0 k1 k2 k3 k5 nw)
  rp : findIn K (.ref C) "__repr__" = some (some (.builtin "BaseException.__repr__"))
  sub : subIn K (.ref C) (.type "BaseException") = some true
section
variable {prog : Program} {w : World} {M : Model} {A : Around} {E : Value → Shared → Prop} {s : Shared} {K : Frag} {C e t0 : Addr} {nm m : Str} {tk : Tok}
theorem nameWhole_C (S : ShC K C nm) (x : ExcC K C e t0 s.heap) {Q : String → Shared → Prop} (hq : Q nm.toString s) : wpAny M A (typeNameOfWhole (.ref e)) Q E s := by
  obtain ⟨q, N, bs, bm, hd, sn, sub, ab, col, dd, k0, k1, k2, k3, k5, nw, lk⟩ := S.cls
  have hC := x.1 _ _ lk
  unfold typeNameOfWhole shownTypeOf
  refine wpAny_bind (wpAny_bind (x.LT.here ?_))
  have hno : (Value.ref C == Value.type "builtin_function_or_method") = false := by first | rfl | simp
  simp only [hno, Bool.false_eq_true, if_false]
  refine wpAny_pure ?_
  show wpAny M A (do return (← classData C).name.toString) Q E s
  refine wpAny_bind ?_
  unfold classData
  exact wpAny_bind (wpAny_load hC (wpAny_pure (wpAny_pure hq)))
theorem bexcReprAt_C (b : Nat) (S : ShC K C nm) (x : ExcC K C e t0 s.heap) (ht : s.heap.TupAt t0 [.str m tk]) {Q : Fin → Shared → Prop}
    (hq : ∀ u tk', Q (.done (.ret (.str (excTxt nm m) u))) { s with toks := tk' }) (hsz : b + (excTxt nm m).length ≤ sizeLine) :
    wpAny (model prog w) A (Builtin.bexcReprAt b ⟨[.ref e], []⟩) Q E s := by
  have e1 : b + (Str.ofString ((nm.toString.cutAt '.').getLastD "") ++ Str.ofString "(" ++ reprText m ++ Str.ofString ")").length ≤ sizeLine := hsz
  have hsz2 : (Str.ofString ((nm.toString.cutAt '.').getLastD "") ++ Str.ofString "(" ++ reprText m ++ Str.ofString ")").length ≤ sizeLine := Nat.le_trans (Nat.le_add_left _ b) e1
  have eP : (Str.ofString "(").length = 1 := by rw [PySem.ofString_length]; rfl
  rw [strLen_append, strLen_append, strLen_append, eP] at e1
  have hsz1 : (reprText m).length ≤ sizeLine := by omega
  have hpile : b + ((Str.ofString ((nm.toString.cutAt '.').getLastD "")).length + 1) ≤ sizeLine := by omega
  unfold Builtin.bexcReprAt
  repeat (first | with_reducible refine nameWhole_C S x ?_ | with_reducible refine bexcArgs_C x ht ?_ | rw [pyReprUnder_leaf (v := .str m tk) hpile (by intro a; nofun)] | with_reducible refine wpAny_pyRepr_str ?_ | wp_step)
  exact hq _ _
theorem call_exc_repr (S : ShC K C nm) (x : ExcC K C e t0 s.heap) (ht : s.heap.TupAt t0 [.str m tk]) {Q : Value → Shared → Prop}
    (hq : ∀ u tk', Q (.str (excTxt nm m) u) { s with toks := tk' }) (hsz : (excTxt nm m).length ≤ sizeLine) : wpAny (model prog w) A (PySem.call (.builtin "BaseException.__repr__") [.ref e]) Q E s := by
  refine wpAny_call (codeAny_call_builtin F.excStr_Exception.repr.plain F.entry_bexc_repr (@PySem.W.check_slot (model prog w) _ _ s "BaseException.__repr__" "BaseException" "__repr__" (.ref e) [] [] _ (by decide +kernel) (by decide +kernel) (x.LI S.sub) (F.args_bexc_repr _) ?_))
  show wpAny _ _ (Builtin.bexcReprAt 0 ⟨[.ref e], []⟩) _ _ _
  exact bexcReprAt_C 0 S x ht (fun u tk' => hq u tk') (by rw [Nat.zero_add]; exact hsz)
theorem ifBound_C {name : Str} {i : String} {Q : Option Value → Shared → Prop} (x : ExcC K C e t0 s.heap) (hs : findIn K (.ref C) name = some (some (.builtin i))) (hb : bindSpecial (.builtin i) (.ref e) = pure (.builtin i, [.ref e])) {last : Value → List Value → Sem Value}
    (hc : wpAny M A (last (.builtin i) [.ref e]) (fun r => Q (some r)) E s) : wpAny M A (callSpecialIfBoundBy? last (.ref e) name) Q E s := by
  simp only [callSpecialIfBoundBy?, bindSpecialIfBound?]
  refine wpAny_holding (wpAny_bind (wpAny_bind ?_))
  unfold specialOf
  refine wpAny_bind (x.LT.here ((looks_findIn x.1 hs).here ?_))
  simp only [hb]
  refine wpAny_bind (wpAny_askSetting (wpAny_ite ?_))
  have fin : wpAny M A (last (.builtin i) [.ref e] >>= fun v => pure (some v)) Q E s :=
    wpAny_bind (wpAny_mono hc (fun v s' h' => wpAny_pure h') fun _ _ h' => h')
  split
  · exact wpAny_bind (wpAny_pure (wpAny_pure fin))
  · exact wpAny_tryCatch (wpAny_bind (wpAny_pure (wpAny_pure fin)))
theorem special_C {name : Str} {r : Option Value} {Q : Option Value → Shared → Prop} (x : ExcC K C e t0 s.heap) (hs : findIn K (.ref C) name = some r) (hq : Q r s) : wpAny M A (specialOf (.ref e) name) Q E s := by
  unfold specialOf
  exact wpAny_bind (x.LT.here ((looks_findIn x.1 hs).here hq))
theorem under_exc {b : Nat} (S : ShC K C nm) (x : ExcC K C e t0 s.heap) (ht : s.heap.TupAt t0 [.str m tk]) (hu : A.units < cLine) {Q : Str → Shared → Prop}
    (hq : ∀ tk', Q (excTxt nm m) { s with toks := tk' }) (hsz : b + (excTxt nm m).length ≤ sizeLine) : wpAny (model prog w) A (pyReprUnder b (.ref e)) Q E s := by
  refine wpAny_pyReprUnder_ref (by omega) ?_
  unfold pyReprObjUnder pyReprObjBy
  refine wpAny_bind (wpAny_cRoomFor hu ?_)
  refine wpAny_bind (special_C (name := Str.ofString "__repr__") x S.rp ?_)
  refine wpAny_bind (ifBound_C (name := Str.ofString "__repr__") x S.rp (F.excStr_Exception.repr.bind _) ?_)
  show wpAny _ _ (PySem.call (.builtin "BaseException.__repr__.under") [.ref e, rawInt b]) _ _ _
  refine wpAny_call (codeAny_call_builtin F.plain_bexc_repr_under F.entry_bexc_repr_under ?_)
  rw [F.check_bexc_repr_under]
  refine wpAny_pure ?_
  show wpAny _ _ (reprTwin "BaseException.__repr__" bexcReprAt ⟨[.ref e, rawInt b], []⟩) _ _ _
  rw [reprTwin_eq]
  refine wpAny_bind (@PySem.W.check_slot (model prog w) _ _ s "BaseException.__repr__" "BaseException" "__repr__" (.ref e) [] [] _ (by decide +kernel) (by decide +kernel) (x.LI S.sub) (F.args_bexc_repr _) ?_)
  refine bexcReprAt_C b S x ht (fun u tk' => ?_) hsz
  exact wpAny_bind (wpAny_isInstance (T := "str") (b := true) rfl isSubtype_str_str (wpAny_pure ⟨_, _, rfl, hq _⟩))
theorem reprK_exc {h : Heap} (S : ShC K C nm) (x : ExcC K C e t0 h) (ht : h.TupAt t0 [.str m tk]) (as : List Addr) : ReprK prog w as h 0 (.ref e) (excTxt nm m) := fun base hb A g E s Q hg hcl hu hk hQ => by
  have x2 : ExcC K C e t0 s.heap := by
    obtain ⟨k, o, vs, ho, h1⟩ := x
    exact ⟨fun b o e => hk b o (k b o e), o, vs, hk _ _ ho, h1⟩
  have ht2 : s.heap.TupAt t0 [.str m tk] := by
    obtain ⟨ot, k, ho, h1⟩ := ht
    exact ⟨ot, k, hk _ _ ho, h1⟩
  exact under_exc S x2 ht2 (by omega) (fun tk' => hQ s.heap tk' fun _ _ e => e) hb
theorem repr_exc (S : ShC K C nm) (x : ExcC K C e t0 s.heap) (ht : s.heap.TupAt t0 [.str m tk]) (hu : A.units + 1 < cLine) {Q : Value → Shared → Prop}
    (hq : ∀ u tk', Q (.str (excTxt nm m) u) { s with toks := tk' }) (hsz : (excTxt nm m).length ≤ sizeLine) : wpAny (model prog w) A (PySem.call (.builtin "repr") [.ref e]) Q E s := by
  refine Calls.call_function_entry F.kind_repr F.plain_repr F.entry_repr (F.args_repr1 _) ?_
  unfold Builtin.«repr»
  refine wpAny_bind (m := oneArg "repr" _) (wpAny_pure ?_)
  refine wpAny_bind (wpAny_cRoomFor (by show A.units + 1 < cLine; exact hu) ?_)
  refine wpAny_bind (special_C (name := Str.ofString "__repr__") x S.rp ?_)
  show wpAny _ _ (if (some (Value.builtin _)).isNone = true then _ else _) _ _ _
  rw [if_neg (by simp)]
  refine wpAny_bind (m := callSpecialIfBound? (.ref e) (Str.ofString "__repr__") _) (ifBound_C (last := fun g first => PySem.call g (first ++ [])) (name := Str.ofString "__repr__") x S.rp (F.excStr_Exception.repr.bind _) ?_)
  refine call_exc_repr S x ht (fun u tk' => ?_) hsz
  refine wpAny_bind (wpAny_isInstance (typeIs_str _ _ _) isSubtype_str_str ?_)
  first
    | exact wpAny_pure ⟨_, rfl, hq _ _⟩
    | (rw [if_pos rfl]; exact wpAny_pure ⟨_, rfl, hq _ _⟩)
    | (simp only [if_true]; exact wpAny_pure ⟨_, rfl, hq _ _⟩)
end
end PM

/-! PMR1: repr of long numbers. -/
namespace PM
open PySem PySem.Spec L2 PyProof.Rows
open PySem.Builtin PySem.Builtin.Int in
theorem overK {K : PySem.W.Frag} {M : Model} {h : Heap} (X : K.In h) (e : PySem.W.nsIn K cStatics "sys.int_max_str_digits" = some none) {i : Int} (hi : i.natAbs.log2 < 12000) : PySem.W.Looks M h (Builtin.overDigitLimit? i) none := by
  unfold Builtin.overDigitLimit?
  by_cases hs : i.natAbs.log2 < 1920
  · rw [if_pos hs]; exact .now
  · rw [if_neg hs]
    unfold Builtin.intMaxStrDigits
    refine PySem.W.Looks.andThen (a := 4300) ((PySem.W.looks_nsIn X e).andThen .now) ?_
    dsimp only
    rw [if_neg (show ¬ i.natAbs.log2 / 30 + 1 > 1000 by omega), if_pos (by simp; omega)]
    exact .now
theorem text_big {a : Int} (h : a.natAbs.log2 < 12000) : (Str.ofString (toString a)).length ≤ 12001 := by
  rw [PySem.ofString_length]; exact int_text_length_le (k := 12000) (by decide) h
theorem fits_big {a : Int} (h : a.natAbs.log2 < 12000) : (Str.ofString (toString a)).length ≤ sizeLine := by
  have := text_big h
  rw [sizeLine_eq]; omega
theorem gives_big {K : PySem.W.Frag} (e : PySem.W.nsIn K cStatics "sys.int_max_str_digits" = some none) {a : Int} (hi : a.natAbs.log2 < 12000) {t : Tok} : GivesAt (fun s => K.In s.heap) (Builtin.«int.__repr__» ⟨[.int a t], []⟩) (.str (toString a)) := by
  intro prog w A R s X hq
  unfold Builtin.«int.__repr__»
  show wpAny _ _ (do let r ← Builtin.overDigitLimit? a; _) _ _ s
  refine wpAny_bind ((overK X e hi).here ?_)
  exact wpAny_bind (wpAny_mkStr (wpAny_pure hq.2) hq.1)
section
variable {prog : Program} {w : World} {A : Around} {E : Value → Shared → Prop} {s : Shared} {K : PySem.W.Frag}
theorem repr_big {a : Int} {t : Tok} {Q : Value → Shared → Prop} (X : K.In s.heap) (e : PySem.W.nsIn K cStatics "sys.int_max_str_digits" = some none) (hi : a.natAbs.log2 < 12000) (h : Q (.str (toString a) s.toks) { s with toks := s.toks + 1 }) : wpAny (model prog w) A (call (.builtin "repr") [.int a t]) Q E s := by
  have hv : [Value.int a t].any Value.onHeap = false := rfl
  refine Calls.call_function_entry PySem.F.kind_repr PySem.F.plain_repr PySem.F.entry_repr (PySem.F.args_repr1 _) ?_
  unfold Builtin.«repr»
  refine wpAny_bind (m := oneArg "repr" _) (wpAny_pure ?_)
  simp only [cRoomFor, hv, Bool.false_eq_true, if_false, pure_bind]
  refine wpAny_bind (wpAny_specialOf (name := Str.ofString "__repr__") (typeIs_int s a t) PySem.F.slot_int_repr.lookup ?_)
  refine wpAny_bind (m := callSpecialIfBound? (.int a t) (Str.ofString "__repr__")) (wpAny_callSpecialIfBound?_slot (name := Str.ofString "__repr__") (typeIs_int s a t) PySem.F.slot_int_repr (call_givesAt PySem.F.slot_int_repr (typeIs_int s a t) PySem.F.entry_int_repr (PySem.F.args_int_repr_1 _) (gives_big e hi) X ⟨fits_big hi, ?_⟩))
  refine wpAny_bind (wpAny_isInstance (T := "str") (b := true) rfl isSubtype_str_str ?_)
  exact wpAny_pure ⟨_, rfl, h⟩
theorem pyReprObj_big {a : Int} {t : Tok} {Q : Value → Shared → Prop} (X : K.In s.heap) (e : PySem.W.nsIn K cStatics "sys.int_max_str_digits" = some none) (hi : a.natAbs.log2 < 12000) (h : Q (.str (toString a) s.toks) { s with toks := s.toks + 1 }) : wpAny (model prog w) A (pyReprObj (.int a t)) Q E s := by
  have hv : [Value.int a t].any Value.onHeap = false := rfl
  unfold pyReprObj
  simp only [cRoomFor, hv, Bool.false_eq_true, if_false, pure_bind]
  refine wpAny_bind (wpAny_specialOf (name := Str.ofString "__repr__") (typeIs_int s a t) PySem.F.slot_int_repr.lookup ?_)
  refine wpAny_bind (m := callSpecialIfBound? (.int a t) (Str.ofString "__repr__")) (wpAny_callSpecialIfBound?_slot (name := Str.ofString "__repr__") (typeIs_int s a t) PySem.F.slot_int_repr (call_givesAt PySem.F.slot_int_repr (typeIs_int s a t) PySem.F.entry_int_repr (PySem.F.args_int_repr_1 _) (gives_big e hi) X ⟨fits_big hi, ?_⟩))
  exact wpAny_bind (wpAny_isInstance (T := "str") (b := true) rfl isSubtype_str_str (wpAny_pure h))
end
theorem In_of {K : PySem.W.Frag} {h h' : Heap} (X : K.In h) (k : ∀ b o, h.get? b = some o → h'.get? b = some o) : K.In h' := fun a o e => k _ _ (X a o e)
theorem reprK_big {prog : Program} {w : World} {K : PySem.W.Frag} {h : Heap} (X : K.In h) (e : PySem.W.nsIn K cStatics "sys.int_max_str_digits" = some none) {a : Int} (hi : a.natAbs.log2 < 12000) (t : Tok) (as : List Addr) (d : Nat) : ReprK prog w as h d (.int a t) (toString a) := by
  intro base hb A g E s Q hg hcl hu hk hQ
  rw [pyReprUnder_leaf (v := .int a t) (by omega) (fun _ e => nomatch e)]
  unfold pyRepr
  exact wpAny_bind (pyReprObj_big (In_of X hk) e hi (wpAny_pure (hQ s.heap _ fun _ _ e => e)))
end PM

/-! PMR: repr of nested data. -/
namespace PM
open PySem PySem.Spec L2 PyProof.Rows
mutual
/-- v is shown as t in the heap, n levels deep -/
inductive RV (P : Program) (w : World) (h : Heap) : Nat → Value → Str → Prop
  | leaf {v : Value} {t : Str} : (∀ a, v ≠ .ref a) → ReprIs P w v t → (∀ (A : Around) (E : Value → Shared → Prop) (s : Shared) (Q : Value → Shared → Prop), (∀ tk u, Q (.str t u) { s with toks := tk }) → wpAny (model P w) A (call (.builtin "repr") [v]) Q E s) → RV P w h 0 v t
  | lst {a : Addr} {o : Obj} {items : List Value} {na n : Nat} {ts : List Str} : h.get? a = some o → o.cls = .type "list" → o.data = .seq items.toArray na → RVs P w h n items ts → RV P w h (n + 1) (.ref a) (listText ts)
  | tup {a : Addr} {o : Obj} {items : List Value} {na n : Nat} {ts : List Str} : h.get? a = some o → o.cls = .type "tuple" → o.data = .seq items.toArray na → RVs P w h n items ts → RV P w h (n + 1) (.ref a) (tupleText ts)
  | dct {a : Addr} {o : Obj} {es : List DictEntry} {na n : Nat} {ps : List Str} : h.get? a = some o → o.cls = .type "dict" → o.data = .dict es.toArray na → (a == sysModules) = false → RVd P w h n es ps → RV P w h (n + 1) (.ref a) (dictText ps)
  | big {K : PySem.W.Frag} {i : Int} {tk : Tok} : K.In h → PySem.W.nsIn K cStatics "sys.int_max_str_digits" = some none → i.natAbs.log2 < 12000 → RV P w h 0 (.int i tk) (toString i)
  | exc {a t0 C : Addr} {nm m : Str} {tk : Tok} {K : PySem.W.Frag} : ShC K C nm → ExcC K C a t0 h → h.TupAt t0 [.str m tk] → RV P w h 0 (.ref a) (excTxt nm m)
inductive RVs (P : Program) (w : World) (h : Heap) : Nat → List Value → List Str → Prop
  | nil : RVs P w h 0 [] []
  | cons {n k : Nat} {v : Value} {t : Str} {l : List Value} {ts : List Str} : RV P w h n v t → RVs P w h k l ts → RVs P w h (max n k) (v :: l) (t :: ts)
inductive RVd (P : Program) (w : World) (h : Heap) : Nat → List DictEntry → List Str → Prop
  | nil : RVd P w h 0 [] []
  | cons {n k j : Nat} {e : DictEntry} {t u : Str} {l : List DictEntry} {ts : List Str} : RV P w h n e.key t → RV P w h k e.val u → RVd P w h j l ts → RVd P w h (max (max n k) j) (e :: l) ((t ++ ": " ++ u) :: ts)
end
section
variable {P : Program} {w : World} {h : Heap}
theorem ty_ne {a b : String} {v : Value} (h : v = .type a) (k : v = .type b) (hn : a ≠ b) : False := by
  rw [h] at k
  exact hn (Value.type.inj k)
theorem ty_ref {a : Addr} {b : String} {v : Value} (h : v = .ref a) (k : v = .type b) : False := by
  rw [h] at k
  cases k
theorem exc_off {a t0 C : Addr} {K : PySem.W.Frag} {o : Obj} {b : String} (x : ExcC K C a t0 h) (h1 : h.get? a = some o) (h2 : o.cls = .type b) : False := by
  obtain ⟨_, o', vs, ho, hc, _⟩ := x
  rw [h1] at ho
  cases ho
  exact ty_ref hc h2
def Det (P : Program) (w : World) (h : Heap) (k : Nat) : Prop := ∀ (v : Value) (t : Str) (n' : Nat) (t' : Str), RV P w h k v t → RV P w h n' v t' → k = n'
theorem RVs.det {N : Nat} (hV : ∀ k, k ≤ N → Det P w h k) : ∀ (l : List Value) (n n' : Nat) (ts ts' : List Str), n ≤ N → RVs P w h n l ts → RVs P w h n' l ts' → n = n'
  | [], _, _, _, _, _, x, y => by cases x; cases y; rfl
  | v :: l, _, _, _, _, hn, x, y => by
    cases x with
    | cons a b =>
      cases y with
      | cons c d => rw [hV _ (Nat.le_trans (Nat.le_max_left _ _) hn) _ _ _ _ a c, RVs.det hV l _ _ _ _ (Nat.le_trans (Nat.le_max_right _ _) hn) b d]
theorem RVd.det {N : Nat} (hV : ∀ k, k ≤ N → Det P w h k) : ∀ (l : List DictEntry) (n n' : Nat) (ts ts' : List Str), n ≤ N → RVd P w h n l ts → RVd P w h n' l ts' → n = n'
  | [], _, _, _, _, _, x, y => by cases x; cases y; rfl
  | v :: l, _, _, _, _, hn, x, y => by
    cases x with
    | cons a a2 b =>
      cases y with
      | cons c c2 d => rw [hV _ (by omega) _ _ _ _ a c, hV _ (by omega) _ _ _ _ a2 c2, RVd.det hV l _ _ _ _ (by omega) b d]
theorem RV.det0 : ∀ n : Nat, ∀ k, k ≤ n → Det P w h k := by
  intro n
  induction n with
  | zero =>
    intro k hk v t n' t' x y
    cases x with
    | leaf hn _ _ =>
      cases y with
      | leaf _ _ _ => rfl
      | big _ _ _ => rfl
      | lst _ _ _ _ => exact absurd rfl (hn _)
      | tup _ _ _ _ => exact absurd rfl (hn _)
      | dct _ _ _ _ _ => exact absurd rfl (hn _)
      | exc _ _ _ => exact absurd rfl (hn _)
    | big _ _ _ =>
      cases y with
      | leaf _ _ _ => rfl
      | big _ _ _ => rfl
    | lst _ _ _ _ => omega
    | tup _ _ _ _ => omega
    | dct _ _ _ _ _ => omega
    | exc _ x1 _ =>
      cases y with
      | leaf hn _ _ => exact absurd rfl (hn _)
      | exc _ _ _ => rfl
      | lst k1 k2 _ _ => exact (exc_off x1 k1 k2).elim
      | tup k1 k2 _ _ => exact (exc_off x1 k1 k2).elim
      | dct k1 k2 _ _ _ => exact (exc_off x1 k1 k2).elim
  | succ N ih =>
    intro k hk v t n' t' x y
    cases x with
    | leaf hn _ _ =>
      cases y with
      | leaf _ _ _ => rfl
      | big _ _ _ => rfl
      | lst _ _ _ _ => exact absurd rfl (hn _)
      | tup _ _ _ _ => exact absurd rfl (hn _)
      | dct _ _ _ _ _ => exact absurd rfl (hn _)
      | exc _ _ _ => exact absurd rfl (hn _)
    | big _ _ _ =>
      cases y with
      | leaf _ _ _ => rfl
      | big _ _ _ => rfl
    | exc _ x1 _ =>
      cases y with
      | leaf hn _ _ => exact absurd rfl (hn _)
      | exc _ _ _ => rfl
      | lst k1 k2 _ _ => exact (exc_off x1 k1 k2).elim
      | tup k1 k2 _ _ => exact (exc_off x1 k1 k2).elim
      | dct k1 k2 _ _ _ => exact (exc_off x1 k1 k2).elim
    | lst h1 h2 h3 h4 =>
      cases y with
      | leaf hn _ _ => exact absurd rfl (hn _)
      | lst k1 k2 k3 k4 =>
        rw [h1] at k1; cases k1
        rw [h3] at k3
        injection k3 with e1 e2
        injection e1 with e1
        subst e1
        rw [RVs.det ih _ _ _ _ _ (by omega) h4 k4]
      | tup k1 k2 k3 k4 => rw [h1] at k1; cases k1; exact (ty_ne h2 k2 (by decide)).elim
      | dct k1 k2 k3 _ k4 => rw [h1] at k1; cases k1; exact (ty_ne h2 k2 (by decide)).elim
      | exc _ x1 _ => exact (exc_off x1 h1 h2).elim
    | tup h1 h2 h3 h4 =>
      cases y with
      | leaf hn _ _ => exact absurd rfl (hn _)
      | tup k1 k2 k3 k4 =>
        rw [h1] at k1; cases k1
        rw [h3] at k3
        injection k3 with e1 e2
        injection e1 with e1
        subst e1
        rw [RVs.det ih _ _ _ _ _ (by omega) h4 k4]
      | lst k1 k2 k3 k4 => rw [h1] at k1; cases k1; exact (ty_ne h2 k2 (by decide)).elim
      | dct k1 k2 k3 _ k4 => rw [h1] at k1; cases k1; exact (ty_ne h2 k2 (by decide)).elim
      | exc _ x1 _ => exact (exc_off x1 h1 h2).elim
    | dct h1 h2 h3 _ h4 =>
      cases y with
      | leaf hn _ _ => exact absurd rfl (hn _)
      | dct k1 k2 k3 _ k4 =>
        rw [h1] at k1; cases k1
        rw [h3] at k3
        injection k3 with e1 e2
        injection e1 with e1
        subst e1
        rw [RVd.det ih _ _ _ _ _ (by omega) h4 k4]
      | lst k1 k2 k3 k4 => rw [h1] at k1; cases k1; exact (ty_ne h2 k2 (by decide)).elim
      | tup k1 k2 k3 k4 => rw [h1] at k1; cases k1; exact (ty_ne h2 k2 (by decide)).elim
      | exc _ x1 _ => exact (exc_off x1 h1 h2).elim
theorem RV.det {n n' : Nat} {v : Value} {t t' : Str} (x : RV P w h n v t) (y : RV P w h n' v t') : n = n' := RV.det0 n n (Nat.le_refl _) _ _ _ _ x y
def Low (P : Program) (w : World) (h : Heap) (n : Nat) (as : List Addr) : Prop := ∀ b ∈ as, ∃ k t, k ≤ n ∧ RV P w h k (.ref b) t
theorem Low.off {n : Nat} {as : List Addr} {a : Addr} {t : Str} (l : Low P w h n as) (x : RV P w h (n + 1) (.ref a) t) : ¬ a ∈ as := fun hm => by
  obtain ⟨k, t', hk, y⟩ := l a hm
  have := x.det y
  omega
theorem ReprAllK.lift {as as' : List Addr} {d d' : Nat} {l : List Value} {ts : List Str} (x : ReprAllK P w as h d l ts) (h1 : ∀ b ∈ as, b ∈ as') (h2 : d ≤ d') : ReprAllK P w as' h d' l ts := by
  induction x with
  | nil => exact .nil
  | cons a _ ih => exact .cons ((a.more h1).level_le h2) ih
theorem RepEnt.lift {as as' : List Addr} {d d' : Nat} {l : List DictEntry} {ts : List Str} (x : ReprEntriesK P w as h d l ts) (h1 : ∀ b ∈ as, b ∈ as') (h2 : d ≤ d') : ReprEntriesK P w as' h d' l ts := by
  induction x with
  | nil => exact .nil
  | cons a b _ ih => exact .cons ((a.more h1).level_le h2) ((b.more h1).level_le h2) ih
theorem allK_at {as : List Addr} {d : Nat} {l : List Value} {ts : List Str} (x : ReprAllK P w as h d l ts) : ∀ (i : Nat) (y : Value), l.toArray[i]? = some y → ∃ t, ts[i]? = some t ∧ ReprK P w as h d y t := by
  induction x with
  | nil => intro i y e; simp at e
  | cons a _ ih =>
    intro i y e
    cases i with
    | zero => simp at e; subst e; exact ⟨_, rfl, a⟩
    | succ i =>
      obtain ⟨t, e1, e2⟩ := ih i y (by simpa using e)
      exact ⟨t, by simpa using e1, e2⟩
def Kp (P : Program) (w : World) (h : Heap) (n : Nat) : Prop := ∀ (v : Value) (t : Str), RV P w h n v t → ∃ as, ReprK P w as h n v t ∧ Low P w h n as
theorem RVs.k0 {N : Nat} (hV : ∀ k, k ≤ N → Kp P w h k) : ∀ (l : List Value) (n : Nat) (ts : List Str), n ≤ N → RVs P w h n l ts → ∃ as, ReprAllK P w as h n l ts ∧ Low P w h n as
  | [], _, _, _, x => by cases x; exact ⟨[], .nil, fun b hb => by cases hb⟩
  | v :: l, _, _, hn, x => by
    cases x with
    | cons a b =>
      obtain ⟨as, h1, l1⟩ := hV _ (Nat.le_trans (Nat.le_max_left _ _) hn) _ _ a
      obtain ⟨bs, h2, l2⟩ := RVs.k0 hV l _ _ (Nat.le_trans (Nat.le_max_right _ _) hn) b
      refine ⟨as ++ bs, .cons ((h1.more fun b hb => List.mem_append_left _ hb).level_le (Nat.le_max_left _ _)) (ReprAllK.lift h2 (fun b hb => List.mem_append_right _ hb) (Nat.le_max_right _ _)), fun b hb => ?_⟩
      rcases List.mem_append.mp hb with hb | hb
      · obtain ⟨j, t, hj, y⟩ := l1 b hb
        exact ⟨j, t, by omega, y⟩
      · obtain ⟨j, t, hj, y⟩ := l2 b hb
        exact ⟨j, t, by omega, y⟩
theorem RVd.k0 {N : Nat} (hV : ∀ k, k ≤ N → Kp P w h k) : ∀ (l : List DictEntry) (n : Nat) (ts : List Str), n ≤ N → RVd P w h n l ts → ∃ as, ReprEntriesK P w as h n l ts ∧ Low P w h n as
  | [], _, _, _, x => by cases x; exact ⟨[], .nil, fun b hb => by cases hb⟩
  | v :: l, _, _, hn, x => by
    cases x with
    | cons a a2 b =>
      obtain ⟨as, h1, l1⟩ := hV _ (by omega) _ _ a
      obtain ⟨cs, h3, l3⟩ := hV _ (by omega) _ _ a2
      obtain ⟨bs, h2, l2⟩ := RVd.k0 hV l _ _ (by omega) b
      refine ⟨as ++ (cs ++ bs), .cons ((h1.more fun b hb => List.mem_append_left _ hb).level_le (by omega)) ((h3.more fun b hb => List.mem_append_right _ (List.mem_append_left _ hb)).level_le (by omega)) (RepEnt.lift h2 (fun b hb => List.mem_append_right _ (List.mem_append_right _ hb)) (by omega)), fun b hb => ?_⟩
      rcases List.mem_append.mp hb with hb | hb
      · obtain ⟨j, t, hj, y⟩ := l1 b hb
        exact ⟨j, t, by omega, y⟩
      · rcases List.mem_append.mp hb with hb | hb
        · obtain ⟨j, t, hj, y⟩ := l3 b hb
          exact ⟨j, t, by omega, y⟩
        · obtain ⟨j, t, hj, y⟩ := l2 b hb
          exact ⟨j, t, by omega, y⟩
theorem Low.up {n : Nat} {as : List Addr} {a : Addr} {t : Str} (hl : Low P w h n as) (x : RV P w h (n + 1) (.ref a) t) : Low P w h (n + 1) (a :: as) := fun b hb => by
  rcases List.mem_cons.mp hb with rfl | hb
  · exact ⟨n + 1, _, Nat.le_refl _, x⟩
  · obtain ⟨k, t, hk, y⟩ := hl b hb
    exact ⟨k, t, by omega, y⟩
theorem RV.k0 : ∀ n : Nat, ∀ k, k ≤ n → Kp P w h k := by
  intro n
  induction n with
  | zero =>
    intro k hk v t x
    cases x with
    | leaf hn hr _ => exact ⟨[], .of_is hr _ _ _, fun b hb => by cases hb⟩
    | exc S x1 ht => exact ⟨[], reprK_exc S x1 ht [], fun b hb => by cases hb⟩
    | big X e hi => exact ⟨[], reprK_big X e hi _ [] _, fun b hb => by cases hb⟩
    | lst _ _ _ _ => omega
    | tup _ _ _ _ => omega
    | dct _ _ _ _ _ => omega
  | succ N ih =>
    intro k hk v t x
    cases x with
    | leaf hn hr _ => exact ⟨[], .of_is hr _ _ _, fun b hb => by cases hb⟩
    | exc S x1 ht => exact ⟨[], reprK_exc S x1 ht [], fun b hb => by cases hb⟩
    | big X e hi => exact ⟨[], reprK_big X e hi _ [] _, fun b hb => by cases hb⟩
    | @lst a o items na n ts h1 h2 h3 h4 =>
      obtain ⟨as, ha, hl⟩ := RVs.k0 ih _ _ _ (by omega) h4
      have na := hl.off (.lst h1 h2 h3 h4)
      refine ⟨a :: as, ?_, hl.up (.lst h1 h2 h3 h4)⟩
      cases items with
      | nil =>
        cases h4
        exact ReprK.listEmpty h1 h2 h3
      | cons y l => exact ReprK.list h1 h2 h3 na (by simpa using ha.length_eq) (allK_at ha)
    | @tup a o items na n ts h1 h2 h3 h4 =>
      obtain ⟨as, ha, hl⟩ := RVs.k0 ih _ _ _ (by omega) h4
      have na := hl.off (.tup h1 h2 h3 h4)
      exact ⟨a :: as, ReprK.tuple h1 h2 h3 na (by simpa using ha), hl.up (.tup h1 h2 h3 h4)⟩
    | @dct a o es na n ps h1 h2 h3 hs h4 =>
      obtain ⟨as, ha, hl⟩ := RVd.k0 ih _ _ _ (by omega) h4
      have na := hl.off (.dct h1 h2 h3 hs h4)
      exact ⟨a :: as, ReprK.dict h1 h2 h3 hs na (by simpa using ha), hl.up (.dct h1 h2 h3 hs h4)⟩
theorem RVs.k {n : Nat} {l : List Value} {ts : List Str} (x : RVs P w h n l ts) : ∃ as, ReprAllK P w as h n l ts ∧ Low P w h n as := RVs.k0 (RV.k0 n) l n ts (Nat.le_refl _) x
theorem RVd.k {n : Nat} {l : List DictEntry} {ts : List Str} (x : RVd P w h n l ts) : ∃ as, ReprEntriesK P w as h n l ts ∧ Low P w h n as := RVd.k0 (RV.k0 n) l n ts (Nat.le_refl _) x
/-- repr(v) -/
theorem RV.call {n : Nat} {v : Value} {t : Str} {A : Around} {E : Value → Shared → Prop} {s : Shared} {Q : Value → Shared → Prop} (x : RV P w s.heap n v t) (hg : A.guards = some []) (hu : A.units + (n + 8) < cLine) (ht : t.length ≤ sizeLine)
    (hQ : ∀ h' u tk, (∀ b o, s.heap.get? b = some o → h'.get? b = some o) → Q (.str t u) { s with heap := h', toks := tk }) : wpAny (model P w) A (PySem.call (.builtin "repr") [v]) Q E s := by
  have hg1 : A.in1.guards = some [] := hg
  have hu1 : A.in1.units + (n + 4) < cLine := by show A.units + 1 + (n + 4) < cLine; omega
  cases x with
  | leaf hn _ hc => exact hc A E s Q fun tk u => hQ s.heap u tk fun _ _ e => e
  | big X e hi => exact repr_big X e hi (hQ s.heap _ _ fun _ _ e => e)
  | exc S x1 ht1 => exact repr_exc S x1 ht1 (by omega) (fun u tk' => hQ s.heap u tk' fun _ _ e => e) ht
  | @lst a o items na n ts h1 h2 h3 h4 =>
    obtain ⟨as, ha, hl⟩ := RVs.k h4
    have nx := hl.off (.lst h1 h2 h3 h4)
    refine call_repr_slot (by omega) ⟨o, h1, h2⟩ F.slot_list_repr.toG ?_
    cases items with
    | nil =>
      cases h4
      exact call_list_repr_empty ⟨o, h1, h2⟩ h1 h3 ⟨_, _, rfl, hQ s.heap _ _ fun _ _ e => e⟩
    | cons y l => exact call_list_reprK h1 h2 h3 nx (by simpa using ha.length_eq) (allK_at ha) hg1 (fun b _ => Clear.nil b) (by omega) (fun _ _ e => e) (fun h' u tk hk => ⟨_, _, rfl, hQ h' u tk hk⟩) ht
  | @tup a o items na n ts h1 h2 h3 h4 =>
    obtain ⟨as, ha, hl⟩ := RVs.k h4
    have nx := hl.off (.tup h1 h2 h3 h4)
    exact call_repr_slot (by omega) ⟨o, h1, h2⟩ F.slot_tuple_repr (call_tuple_reprK h1 h2 h3 nx (by simpa using ha) hg1 (fun b _ => Clear.nil b) (by omega) (fun _ _ e => e) (fun h' u tk hk => ⟨_, _, rfl, hQ h' u tk hk⟩) ht)
  | @dct a o es na n ps h1 h2 h3 hs h4 =>
    obtain ⟨as, ha, hl⟩ := RVd.k h4
    have nx := hl.off (.dct h1 h2 h3 hs h4)
    exact call_repr_slot (by omega) ⟨o, h1, h2⟩ F.slot_dict_repr (call_dict_reprK h1 h2 h3 hs nx (by simpa using ha) hg1 (fun b _ => Clear.nil b) (by omega) (fun _ _ e => e) (fun h' u tk hk => ⟨_, _, rfl, hQ h' u tk hk⟩) ht)
end
/-! ### by data -/
def mapR (f : D → Option (Nat × Str)) : List D → Option (Nat × List Str)
  | [] => some (0, [])
  | d :: ds => match f d, mapR f ds with
    | some p, some q => some (max p.1 q.1, p.2 :: q.2)
    | _, _ => none
def keyT : Key → Option Str
  | .inl i => if i.natAbs.log2 < 1920 then some (↑(toString i)) else none
  | .inr s => if (reprText s).length ≤ 1000000 then some (reprText s) else none
def mapE (f : D → Option (Nat × Str)) : List (Key × D) → Option (Nat × List Str)
  | [] => some (0, [])
  | kv :: r => match keyT kv.1, f kv.2, mapE f r with
    | some k, some p, some q => some (max p.1 q.1, (k ++ ": " ++ p.2) :: q.2)
    | _, _, _ => none
/-- how data is shown, and how deep; xt: the classes of exceptions, by name and words -/
def shn (xt : Nat → Option (Str × Str)) (m : Sto) : Nat → D → Option (Nat × Str)
  | 0, _ => none
  | f + 1, d => match d with
    | .non => some (0, "None")
    | .bl b => some (0, if b then "True" else "False")
    | .int i => if i.natAbs.log2 < 12000 then some (0, toString i) else none
    | .str s => if (reprText s).length ≤ 1000000 then some (0, reprText s) else none
    | .lst xs => (mapR (shn xt m f) xs).map fun p => (p.1 + 1, listText p.2)
    | .fz xs => (mapR (shn xt m f) xs).map fun p => (p.1 + 1, listText p.2)
    | .tup xs => (mapR (shn xt m f) xs).map fun p => (p.1 + 1, tupleText p.2)
    | .loc n => match m[n]? with
      | some (.lst xs) => (mapR (shn xt m f) xs).map fun p => (p.1 + 1, listText p.2)
      | some (.dct kvs) => (mapE (shn xt m f) kvs).map fun p => (p.1 + 1, dictText p.2)
      | _ => none
    | .exc c _ => (xt c).map fun p => (0, excTxt p.1 p.2)
    | _ => none
def reprD (xt : Nat → Option (Str × Str)) : List D → Sto → Option D
  | [x], m => match shn xt m 40 x with
    | some p => if p.1 ≤ 40 ∧ p.2.length ≤ 1000000 then some (.str p.2) else none
    | none => none
  | _, _ => none
/-- the classes of exceptions are shown so -/
def XtTab0 (W : Wk) (xt : Nat → Option (Str × Str)) : Prop := ∀ c p, xt c = some p → ShC W.K (W.C c) p.1 ∧ W.msg c = p.2
def XtTab (W : Wk) (xt : Nat → Option (Str × Str)) : Prop := XtTab0 W xt ∧ PySem.W.nsIn W.K cStatics "sys.int_max_str_digits" = some none
section
variable {W : Wd} {X : Cx} {ph : Plc} {H : Hp} {m : Sto} {pins : List (Addr × Obj)} {σ : L2.St} {s : Shared} {L : Lv} {xt : Nat → Option (Str × Str)}
theorem isl {a : Addr} {vs : List V} (I : Inv X pins σ H s) (hq : SqL X.K H a vs) : ∃ (o : Obj) (its : List Value) (na : Nat), Vals vs its ∧ s.heap.get? a = some o ∧ o.cls = .type "list" ∧ o.data = .seq its.toArray na := by
  obtain ⟨its, r, ht, _⟩ := I.list hq
  obtain ⟨o, h1, h2, n, h3⟩ := ht.isList
  exact ⟨o, its, n, r, h1, h2, h3⟩
theorem ist {a : Addr} {vs : List V} (I : Inv X pins σ H s) (hq : SqT X.K H a vs) : ∃ (o : Obj) (its : List Value) (na : Nat), Vals vs its ∧ s.heap.get? a = some o ∧ o.cls = .type "tuple" ∧ o.data = .seq its.toArray na := by
  obtain ⟨its, r, ht, _⟩ := I.tuple hq
  obtain ⟨o, h1, h2, n, h3⟩ := ht
  exact ⟨o, its, n, r, h1, h2, h3⟩
def RvOk (W : Wd) (ph : Plc) (H : Hp) (s : Shared) (f : D → Option (Nat × Str)) : Prop := ∀ (d : D) (v : V) (u : Value) (p : Nat × Str), f d = some p → Rep W ph H d v → RelV v u → RV W.P W.w s.heap p.1 u p.2
theorem mapR_rv {f : D → Option (Nat × Str)} (hf : RvOk W ph H s f) : ∀ {ds : List D} {vs : List V} {us : List Value} {p : Nat × List Str}, mapR f ds = some p → RepL W ph H ds vs → Vals vs us → RVs W.P W.w s.heap p.1 us p.2
  | [], _, _, _, e, r, q => by
    have r : _ = [] := r
    subst r
    cases e; cases q
    exact .nil
  | d :: ds, _, _, _, e, ⟨v, vs, ev, r1, r2⟩, q => by
    subst ev
    unfold mapR at e
    cases q1 : f d with
    | none => rw [q1] at e; cases e
    | some p1 =>
      cases q2 : mapR f ds with
      | none => rw [q1, q2] at e; cases e
      | some p2 =>
        rw [q1, q2] at e
        cases e
        cases q with
        | cons a b => exact .cons (hf _ _ _ _ q1 r1 a) (mapR_rv hf q2 r2 b)
theorem keyT_rv {k : Key} {t : Str} {u : Value} (e : keyT k = some t) (r : RelV (kV k) u) : RV W.P W.w s.heap 0 u t := by
  cases k with
  | inl i =>
    have e : (if i.natAbs.log2 < 1920 then some (↑(toString i) : Str) else none) = some t := e
    split at e
    · rename_i hi
      cases e
      obtain ⟨tk, rfl⟩ := r
      exact .leaf (fun _ z => nomatch z) (.int tk hi) fun A E s Q h => PySem.P.repr_of_int hi (h _ _)
    · cases e
  | inr x =>
    have e : (if (reprText x).length ≤ 1000000 then some (reprText x) else none) = some t := e
    split at e
    · rename_i hi
      cases e
      obtain ⟨tk, rfl⟩ := r
      exact .leaf (fun _ z => nomatch z) (.str x tk (Nat.le_trans hi line6)) fun A E s Q h => PySem.P.repr_of_str (h _ _) (Nat.le_trans hi line6)
    · cases e
theorem mapE_rv {f : D → Option (Nat × Str)} (hf : RvOk W ph H s f) : ∀ {kds : List (Key × D)} {kvs : List (Key × V)} {us : List (Key × Value)} {es : List DictEntry} {p : Nat × List Str}, mapE f kds = some p → RepKV W ph H kds kvs → KV kvs us → PySem.Pairs (mixKind W.P W.w) es us → RVd W.P W.w s.heap p.1 es p.2
  | [], kvs, us, es, p, e, r, q, z => by
    cases kvs with
    | cons _ _ => cases r.1
    | nil =>
      cases q
      cases z
      cases e
      exact .nil
  | (k, d) :: kds, kvs, us, es, p, e, r, q, z => by
    cases kvs with
    | nil => cases r.1
    | cons kv kvs =>
      obtain ⟨h1, v, vs, ev, r1, r2⟩ := r
      rw [List.map_cons, List.map_cons] at h1
      injection h1 with h1 h3
      rw [List.map_cons] at ev
      injection ev with e1 e2
      cases q with
      | cons a b =>
        cases z with
        | @cons e0 kv0 es0 kvs0 z1 z2 z3 =>
          unfold mapE at e
          cases q1 : keyT k with
          | none => simp only [q1] at e; cases e
          | some tk =>
            cases q2 : f d with
            | none => simp only [q1, q2] at e; cases e
            | some p1 =>
              cases q3 : mapE f kds with
              | none => simp only [q1, q2, q3] at e; cases e
              | some p2 =>
                simp only [q1, q2, q3] at e
                cases e
                have hk : RelV (kV k) e0.key := by
                  have h1 : k = kv.1 := h1
                  rw [h1, a.1]
                  rcases keyIs_shape z1 with ⟨i, t, e3, e4⟩ | ⟨x, t, e3, e4⟩
                  · rw [e3, e4]; exact ⟨t, rfl⟩
                  · rw [e3, e4]; exact ⟨t, rfl⟩
                have hv : RelV v e0.val := by rw [← e1, z2]; exact a.2
                have := RVd.cons (keyT_rv (W := W) (s := s) q1 hk) (hf _ _ _ _ q2 r1 hv) (mapE_rv hf q3 ⟨h3, by rw [e2]; exact r2⟩ b z3)
                simpa using this
theorem shn_rv (hP : X.prog = W.P) (hw : X.w = W.w) (hK : X.K = W.K) (hx : XtTab W.toWk xt) (hs : RelSto W ph H m) (I : Inv X pins σ H s) : ∀ f : Nat, RvOk W ph H s (shn xt m f)
  | 0 => fun d v u p e r q => by cases e
  | f + 1 => fun d v u p e r q => by
    have ih := shn_rv hP hw hK hx hs I f
    cases d with
    | non =>
      cases e; cases r; cases q
      exact .leaf (fun _ z => nomatch z) .none fun A E s Q h => PySem.P.repr_of_none (h _ _)
    | bl b =>
      cases e; cases r; cases q
      exact .leaf (fun _ z => nomatch z) (.bool b) fun A E s Q h => PySem.P.repr_of_bool (h _ _)
    | int i =>
      have e : (if i.natAbs.log2 < 12000 then some (0, (↑(toString i) : Str)) else none) = some p := e
      split at e
      · rename_i hi
        cases e; cases r
        obtain ⟨t, rfl⟩ := q
        exact .big (by rw [← hK]; exact I.kIn) hx.2 hi
      · cases e
    | str x =>
      have e : (if (reprText x).length ≤ 1000000 then some (0, reprText x) else none) = some p := e
      split at e
      · rename_i hi
        cases e; cases r
        obtain ⟨t, rfl⟩ := q
        exact .leaf (fun _ z => nomatch z) (.str x t (Nat.le_trans hi line6)) fun A E s Q h => PySem.P.repr_of_str (h _ _) (Nat.le_trans hi line6)
      · cases e
    | lst xs =>
      obtain ⟨a, vs, rfl, l, r⟩ := r
      have e : (mapR (shn xt m f) xs).map (fun p => (p.1 + 1, listText p.2)) = some p := e
      cases q2 : mapR (shn xt m f) xs with
      | none => rw [q2] at e; cases e
      | some p2 =>
        rw [q2] at e
        cases e
        cases q
        obtain ⟨o, its, na, rv, h1, h2, h3⟩ := isl I l.sq
        exact .lst h1 h2 h3 (mapR_rv ih q2 r rv)
    | fz xs =>
      obtain ⟨a, vs, rfl, l, r⟩ := r
      have e : (mapR (shn xt m f) xs).map (fun p => (p.1 + 1, listText p.2)) = some p := e
      cases q2 : mapR (shn xt m f) xs with
      | none => rw [q2] at e; cases e
      | some p2 =>
        rw [q2] at e
        cases e
        cases q
        obtain ⟨o, its, na, rv, h1, h2, h3⟩ := isl I (by rw [hK]; exact l.sq)
        exact .lst h1 h2 h3 (mapR_rv ih q2 r rv)
    | tup xs =>
      obtain ⟨a, vs, rfl, l, r⟩ := r
      have e : (mapR (shn xt m f) xs).map (fun p => (p.1 + 1, tupleText p.2)) = some p := e
      cases q2 : mapR (shn xt m f) xs with
      | none => rw [q2] at e; cases e
      | some p2 =>
        rw [q2] at e
        cases e
        cases q
        obtain ⟨o, its, na, rv, h1, h2, h3⟩ := ist I l.sq
        exact .tup h1 h2 h3 (mapR_rv ih q2 r rv)
    | loc n =>
      obtain ⟨a, rfl, ha⟩ := r
      cases q
      have e : (match m[n]? with | some (.lst xs) => (mapR (shn xt m f) xs).map fun p => (p.1 + 1, listText p.2) | some (.dct kvs) => (mapE (shn xt m f) kvs).map fun p => (p.1 + 1, dictText p.2) | _ => none) = some p := e
      split at e
      · rename_i xs q1
        obtain ⟨a', e1, _, vs, e3, rr⟩ := hs.cell n _ q1
        rw [ha] at e1; cases e1
        cases q2 : mapR (shn xt m f) xs with
        | none => rw [q2] at e; cases e
        | some p2 =>
          rw [q2] at e
          cases e
          obtain ⟨o, its, na, rv, h1, h2, h3⟩ := isl I (SqL.of e3)
          exact .lst h1 h2 h3 (mapR_rv ih q2 rr rv)
      · rename_i kvs q1
        obtain ⟨a', e1, _, vs, e3, rr⟩ := hs.cell n _ q1
        rw [ha] at e1; cases e1
        cases q2 : mapE (shn xt m f) kvs with
        | none => rw [q2] at e; cases e
        | some p2 =>
          rw [q2] at e
          cases e
          obtain ⟨_, hsm, us, hkv, o, es, ep, h1, h2, h3, _, h5, _⟩ := (show ObjOk X.prog X.w H s.heap a (.dK vs) from I.hok a _ e3)
          rw [hP, hw] at h5
          exact .dct (es := es.toList) h1 h2.1 (by rw [Array.toArray_toList]; exact h3) hsm (mapE_rv ih q2 rr hkv h5)
      · cases e
    | exc c d =>
      have e : (xt c).map (fun p => (0, excTxt p.1 p.2)) = some p := e
      cases q1 : xt c with
      | none => rw [q1] at e; cases e
      | some z =>
        rw [q1] at e
        cases e
        obtain ⟨a, dx, x, t1, rfl, h, n, _, _, t, _⟩ := r
        cases q
        obtain ⟨S, em⟩ := hx.1 c z q1
        have hg : s.heap.get? a = some ({ cls := .ref (W.C c), dict := some dx, data := .fields #[.ref t1, .none, .none, .none, .bool false, .none] } : Obj) := (I.hok a _ h).1
        obtain ⟨o, its, na, rv, k1, k2, k3⟩ := ist I t.sq
        cases rv with
        | cons rx rr =>
          cases rr
          obtain ⟨tk, rfl⟩ := rx
          have k3 : o.data = .seq [.str (W.msg c) tk].toArray na := k3
          rw [em] at k3
          exact .exc S ⟨by rw [← hK]; exact I.kIn, _, _, hg, rfl, rfl, rfl⟩ ⟨o, na, k1, k2, k3⟩
    | ob _ _ => cases e
    | cau _ _ => cases e
    | fn _ => cases e
    | bex _ _ => cases e
    | cls _ => cases e
theorem opn_repr (hx : XtTab W.toWk xt) (hgs : W.gs = []) : OpN W L (.builtin "repr") (reprD xt) := by
  intro R F pins s σ H xs us Q I r q
  obtain ⟨ph, m, ds, d, hs, r1, e, p⟩ := q
  unfold reprD at e
  split at e
  · rename_i x
    obtain ⟨v, rfl, rx⟩ := r1.one
    obtain ⟨u, rfl, ru⟩ := vals1 r
    cases q : shn xt m 40 x with
    | none => simp only [q] at e; cases e
    | some z =>
      simp only [q] at e
      split at e
      · rename_i hc
        cases e
        have rv := shn_rv (W := W) rfl rfl rfl hx hs I 40 _ _ _ _ q rx ru
        refine rv.call (by rw [← hgs]; exact F.grd) (by have := F.un; show R.A.units + _ < _; omega) (Nat.le_trans hc.2 line6) fun h' u tk hk => ?_
        exact ⟨.str z.2, H, I.kept hk, ⟨_, rfl⟩, p.s hs⟩
      · cases e
  · cases e
end
end PM

/-! PME: the law's end. -/
namespace PM
open PySem PySem.Spec L2 PyProof.Rows
def numsD (ns : List Int) : D := .fz (ns.map .int)
theorem nums_rep {W : Wd} {ph : Plc} {H : Hp} : ∀ ns : List Int, RepL W ph H (ns.map .int) (ns.map V.int)
  | [] => rfl
  | _ :: ns => .cons rfl (nums_rep ns)
/-- the law's def answers True at every script -/
def Says (F : FD) (n : Nat) : Prop := ∀ ns : List Int, ns.length ≤ n → (∀ z ∈ ns, Builtin.Int.intBits z ≤ 1048576) → ∃ m, F [numsD ns] [] = some (.ok (.bl true) m)
theorem law_runs {W : Wk} {mb : Str → Option Value} {k : Nat} {fa a : Addr} {fd : FuncData} {x : Str} {F : FD} {s1 : Shared} {us : List Value} {ns : List Int} (KX : W.K.In s1.heap) (hns : s1.heap.Ns mainGlobals W.mg) (hb : s1.heap.Ns builtinsNs mb)
    (hbb : ∀ y : Str, y ≠ "__name__" → mb y = bootBuiltins y) (hlim : s1.heap.NoLimit) (hg : s1.gens = #[]) (ha : s1.heap.get? a = some { cls := .type "list", data := .seq us.toArray }) (hi : IntsAre us ns) (hl : ns.length ≤ sizeLine) (hr : Room k callerA)
    (G : ∀ base : Heap, W.K.In base → base.Ns mainGlobals W.mg → FnG ⟨W, base, none, []⟩ k fa fd [x] F) (hbind : ∀ (s : Shared) (u : Value), BindsTo s fd ⟨[u], []⟩ [(x, u)]) (hF : ∃ m, F [numsD ns] [] = some (.ok (.bl true) m)) :
    codeAny (model W.P W.w) callerA (.call (.ref fa) ⟨[.ref a], []⟩) (fun r s2 => r = .ok (.ret (.bool true)) ∧ PySem.OldK s1.heap s2.heap ∧ s2.os = s1.os ∧ AllBare s2.gens) s1 := by
  have rv : Vals (ns.map V.int) us := vals_ints hi
  have hlen := hi.length
  have main : ∀ H : Hp, Only H → (∀ base : Heap, FrzAt ⟨W, base, none, []⟩ ⟨[], []⟩ H a (ns.map V.int)) → HOk W.P W.w H s1.heap → (∀ b, H b ≠ none → b = a) → (H a ≠ none → W.K.lookup a = none) →
      codeAny (model W.P W.w) callerA (.call (.ref fa) ⟨[.ref a], []⟩) (fun r s2 => r = .ok (.ret (.bool true)) ∧ PySem.OldK s1.heap s2.heap ∧ s2.os = s1.os ∧ AllBare s2.gens) s1 := by
    intro H hO hZ hok hA hK
    have stays : ∀ {b : Addr} {o : Obj}, s1.heap.get? b = some o → H b = none → (hidT s1.heap H).get? b = some o := fun q z => hidT_get q z
    have noD : ∀ {b : Addr} {o : Obj} {es : Array DictEntry} {ep : Nat}, s1.heap.get? b = some o → o.data = .dict es ep → H b = none := by
      intro b o es ep q d
      cases z : H b with
      | none => rfl
      | some y =>
        have hba : b = a := hA b (by rw [z]; simp)
        rw [hba, ha] at q
        cases q
        cases (show Data.seq us.toArray _ = Data.dict es ep from d)
    have nsK : ∀ {b : Addr} {f : Str → Option Value}, s1.heap.Ns b f → (hidT s1.heap H).Ns b f := by
      rintro b f ⟨o, es, ep, q, d, r⟩
      exact ⟨o, es, ep, stays q (noD q d), d, r⟩
    have kin : W.K.In (hidT s1.heap H) := by
      intro b o q
      refine stays (KX b o q) ?_
      cases z : H b with
      | none => rfl
      | some y =>
        have hba : b = a := hA b (by rw [z]; simp)
        rw [hba, hK (by rw [← hba, z]; simp)] at q
        cases q
    obtain ⟨mc, l1, l2⟩ := hlim
    have md : Mod W.K W.mg (hidT s1.heap H) := ⟨kin, nsK hns, ⟨mb, nsK hb, hbb⟩, mc, nsK l1, l2⟩
    have e0 : Env0 W.P W.w W.K W.mg (hidT s1.heap H) callerA [] s1 H := ⟨rfl, md, fun b o q => of_hidT q, Nat.le_of_eq (hidT_size _ _), trivial, fun b hb => absurd (show b ∈ ([] : List Addr) from hb) (by simp), hok, .of_eq hg⟩
    obtain ⟨m, hm⟩ := hF
    have sp : spF ⟨W, hidT s1.heap H, none, []⟩ F [.ref a] H (fun v _ => v = .bl true) fun _ _ _ => False := by
      refine ⟨⟨[], []⟩, [], [numsD ns], _, ⟨rfl, .nil, (fun _ z => by cases z), (fun _ z => by cases z), (fun n c e => by rw [List.getElem?_nil] at e; cases e)⟩, .cons ⟨a, ns.map V.int, rfl, hZ _, nums_rep ns⟩ .nil, hm, fun v H' ph' s r => r⟩
    refine codeAny_mono ((G _ kin (nsK hns)).run callerA [] s1 H ⟨[.ref a], []⟩ [.ref a] [.ref a] _ _ hr rfl e0 (hbind s1 (.ref a)) (.cons rfl .nil) sp) fun r s2 h => ?_
    match r, h with
    | .error e, ⟨_, _, _, _, _, _, _, _, _, _, _, _, z⟩ => exact z.elim
    | .ok .next, h => exact False.elim h
    | .ok .brk, h => exact False.elim h
    | .ok .cont, h => exact False.elim h
    | .ok (.ret u), ⟨v, H2, os, bare, un, hok2, rvu, q⟩ =>
      cases (show v = .bl true from q)
      cases (show u = Value.bool true from rvu)
      refine ⟨rfl, PySem.OldK.of_keep fun b o q => ?_, os, bare⟩
      cases z : H b with
      | none => exact un.keep b o q z (fun y => absurd (show b ∈ ([] : List Addr) from y) (by simp)) (by simp)
      | some y =>
        rcases hO b with z2 | ⟨ob, xs, z2⟩
        · rw [z] at z2; cases z2
        · obtain ⟨w1, _⟩ := hok b _ z2
          obtain ⟨w2, _⟩ := hok2 b _ (un.frzs b ob _ z2)
          rw [q] at w1; cases w1
          exact w2
  cases hk : W.K.lookup a with
  | some o =>
    have e := KX a o hk
    rw [ha] at e
    cases e
    refine main (fun _ => none) (fun _ => .inl rfl) (fun _ => .inr fun H' => .inr ⟨_, us.toArray, _, hk, rfl, rfl, rfl, by rw [List.size_toArray, hlen]; exact hl, by simpa using rv⟩) (fun b u z => by cases (show (none : Option HO) = some u from z)) (fun b z => absurd rfl z) fun z => absurd rfl z
  | none =>
    have at_ : ∀ b, (if b = a then some (HO.frz { cls := .type "list", data := .seq us.toArray } (.lst (ns.map V.int))) else none) = if b = a then some (HO.frz { cls := .type "list", data := .seq us.toArray } (.lst (ns.map V.int))) else none := fun _ => rfl
    refine main (fun b => if b = a then some (.frz { cls := .type "list", data := .seq us.toArray } (.lst (ns.map V.int))) else none) (fun b => ?_) (fun _ => .inl ⟨⟨_, if_pos rfl⟩, by simp [Plc.ok]⟩) (fun b u z => ?_) (fun b z => ?_) fun _ => hk
    · by_cases hb : b = a
      · exact .inr ⟨_, _, if_pos hb⟩
      · exact .inl (if_neg hb)
    · by_cases hb : b = a
      · cases (if_pos hb).symm.trans z
        rw [hb]
        exact ⟨ha, by rw [List.length_map]; exact hl, us, _, rv, ha⟩
      · cases (if_neg hb).symm.trans z
    · by_cases hb : b = a
      · exact hb
      · exact absurd (if_neg hb) z
/-- the goal that k_head leaves -/
theorem law_end {l : PySem.W.OpenLaw} {n k : Nat} {q : Program} {loose : List Str} {XP : (Str → Option Value) → Heap → Prop} {YP : World → Heap → Prop} {d : DefRec} {K : PySem.Params → PySem.W.Frag} {x : Str}
    (hn : l.most = some n) (hn2 : n ≤ sizeLine) (hdf : d.params.defaults = []) (hr : Room k callerA) (hY : ∀ (w : World) (h : Heap), YP w h → (K w.params).In h)
    (hF : ∀ (w : World) (mg : Str → Option Value) (fa : Addr) (h : Heap), (K w.params).In h → h.Ns mainGlobals mg → mg d.name = some (.ref fa) →
      ∃ (W : Wk) (fd : FuncData) (F : FD), W.P = l.prog ∧ W.w = w ∧ W.K = K w.params ∧ W.mg = mg ∧ (∀ (s : Shared) (u : Value), BindsTo s fd ⟨[u], []⟩ [(x, u)]) ∧ Says F n ∧ ∀ base : Heap, (K w.params).In base → base.Ns mainGlobals mg → FnG ⟨W, base, none, []⟩ k fa fd [x] F) :
    PySem.W.WalkO q loose XP YP l.row.toRowW d [] (fun f vs => PySem.call f vs) := by
  refine Att.attach_callB hn hdf fun w s0 s1 mg mb fa o pm cd doc a vs ns G Y ho hd hcd hmg hobj hints hlen hbits hg => ?_
  have KX := hY w _ Y
  obtain ⟨W, fd, F, h1, h2, h3, h4, hb, hS, hG⟩ := hF w mg fa _ KX G.T.g hmg
  subst h2 h4
  rw [← h1]
  rw [← h3] at KX hG
  exact law_runs KX G.T.g G.T.b G.T.builtins G.T.nolimit hg hobj hints (Nat.le_trans hlen hn2) hr hG hb (hS ns hlen hbits)
end PM

/-! PMK: what the top has written, as facts of the text's defs and classes. -/
namespace PM
open PySem PySem.Spec L2 PyProof.Rows
/-- the def st stands at f under the name x -/
structure Dfn (W : Wk) (x : Str) (st : Stmt) (f : Addr) (fd : FuncData) : Prop where
  ex : ∃ (oc : Value) (od : Option Addr) (kV doc pm : Value) (an : Option Addr) (cdv ct : Value) (osl : Array (Option Value)), fd = PySem.W.fnOf x x (defArgs st) (defBody st) (defScope st) .none kV doc pm an cdv ct ∧ W.K.lookup f = some ⟨oc, od, .func fd, osl⟩ ∧ PySem.W.codeIn W.K cdv x = true
  «at» : W.mg x = some (.ref f)
  kp : PySem.W.keepIn W.K (.ref f) = true
section
variable {W : Wd} {x : Str} {st : Stmt} {f : Addr} {fd : FuncData} {N ps ks : List Str} {k np : Nat} {g : FS} {as : List Sel}
theorem Dfn.kn (D : Dfn W.toWk x st f fd) (S : FnScope N ps (defScope st)) (hb : DSs W ⟨N, defScope st, k, true, true⟩ (defBody st) g) (hca : W.ca = none) : Kn W x (k + 1) f fd ps (mkFn ps.length N.length g) := by
  obtain ⟨oc, od, kV, doc, pm, an, cdv, ct, osl, rfl, lk, hcd⟩ := D.ex
  exact ⟨D.at, D.kp, fnG_lk lk hcd S hb hca⟩
theorem Dfn.bp (D : Dfn W.toWk x st f fd) (h : ∀ (kV doc pm : Value) (an : Option Addr) (cdv ct : Value) (us : List Value), us.length = ps.length → bindArgs (PySem.W.fnOf x x (defArgs st) (defBody st) (defScope st) .none kV doc pm an cdv ct) ⟨us, []⟩ = pure (ps.zip us)) :
    ∀ (s : Shared) (us : List Value), W.K.In s.heap → us.length = ps.length → BindsTo s fd ⟨us, []⟩ (ps.zip us) := by
  obtain ⟨oc, od, kV, doc, pm, an, cdv, ct, osl, rfl, lk, hcd⟩ := D.ex
  exact fun s us _ hl => .of_eq (h kV doc pm an cdv ct us hl)
theorem Dfn.bk (D : Dfn W.toWk x st f fd) (hl : as.length = ps.length) (ho : SelOk W as) (h : ∀ (kV doc pm : Value) (an : Option Addr) (cdv ct : Value) (us ws : List Value), us.length = np → ws.length = ks.length → bindArgs (PySem.W.fnOf x x (defArgs st) (defBody st) (defScope st) .none kV doc pm an cdv ct) ⟨us, ks.zip ws⟩ = pure (ps.zip (as.map (selU us ws)))) :
    CallB W fd ps np ks as := by
  obtain ⟨oc, od, kV, doc, pm, an, cdv, ct, osl, rfl, lk, hcd⟩ := D.ex
  exact ⟨hl, ho, fun s us ws _ h1 h2 => .of_eq (h kV doc pm an cdv ct us ws h1 h2)⟩
theorem dfn_mk {W : Wk} {h : Heap} {oc kV doc pm cdv ct : Value} {od an : Option Addr} {osl : Array (Option Value)} (X : W.K.In h) (G : h.Ns mainGlobals W.mg) (a : PySem.W.nsIn W.K mainGlobals x = some (some (.ref f)))
    (l : W.K.lookup f = some ⟨oc, od, .func (PySem.W.fnOf x x (defArgs st) (defBody st) (defScope st) .none kV doc pm an cdv ct), osl⟩) (c : PySem.W.codeIn W.K cdv x = true) (k : PySem.W.keepIn W.K (.ref f) = true) :
    Dfn W x st f (PySem.W.fnOf x x (defArgs st) (defBody st) (defScope st) .none kV doc pm an cdv ct) := ⟨⟨oc, od, kV, doc, pm, an, cdv, ct, osl, rfl, l, c⟩, PySem.W.mg_of X G a, k⟩
theorem selOk_nil {as : List Sel} (h : as.all (fun a => match a with | .c _ _ _ => false | _ => true) = true) : SelOk W as := fun d v u hm => by
  have := List.all_eq_true.mp h _ hm
  cases this
end
/-- the class c of exceptions, its __init__ the def st; its base stands under xB -/
structure ExcR (W : Wk) (c : Nat) (x xB qual : Str) (st : Stmt) : Prop where
  T : OexC W.K (W.C c)
  hno : PySem.W.findIn W.K (.ref (W.C c)) "found" = some none
  «at» : W.mg x = some (.ref (W.C c))
  base : ∃ B, W.mg xB = some (.ref B) ∧ BaseF W B
  fn : ∃ (fI : Addr) (oc : Value) (od : Option Addr) (kV doc pm : Value) (an : Option Addr) (cdv ct : Value) (osl : Array (Option Value)), PySem.W.findIn W.K (.ref (W.C c)) "__init__" = some (some (.ref fI)) ∧ PySem.W.typeIn W.K (.ref fI) = some (.type "function") ∧
    W.K.lookup fI = some ⟨oc, od, .func (PySem.W.fnOf "__init__" qual (defArgs st) (defBody st) (defScope st) .none kV doc pm an cdv ct), osl⟩ ∧ PySem.W.codeIn W.K cdv qual = true
section
variable {W : Wd} {c : Nat} {x xB qual : Str} {st : Stmt} {p1 p2 p3 p4 p5 p6 p7 p8 p9 pc : Pos} {j : Nat} {pl : PySem.Env → Sem Bool}
theorem ExcR.mk_ (D : ExcR W.toWk c x xB qual st) (S : FnScope initN initN (defScope st)) (hl : (W.msg c).length ≤ 1000)
    (hB : defBody st = [.Expr (.Call (.Attribute (.Name xB p1) "__init__" p2) [.Name "self" p3, .Constant (.str (W.msg c)) j pc] [] p4) p9, .Assign [.Attribute (.Name "self" p5) "found" p6] (.Name "found" p7) p8])
    (hg : (defScope st).names.lookup xB = some .globalImplicit) (v1 : (defScope st).names.lookup ("self" : Str) = some .local) (v2 : (defScope st).names.lookup ("found" : Str) = some .local) (hdb : (xB == ("__debug__" : Str)) = false)
    (hc : ∀ env : PySem.Env, eval (.Call (.Attribute (.Name xB p1) "__init__" p2) [.Name "self" p3, .Constant (.str (W.msg c)) j pc] [] p4) env = (do
      let ov ← eval (.Name xB p1) env
      standAt p2.atName
      let (g, first) ← holding [ov] (getMethod ov "__init__" (pl env))
      callWith p4 g first (backTo p4 (starEach [.Name "self" p3, .Constant (.str (W.msg c)) j pc] env)) (backToKw p4 (keywordEach [] env))))
    (hs1 : ∀ env : PySem.Env, swapsWith (.Call (.Attribute (.Name xB p1) "__init__" p2) [.Name "self" p3, .Constant (.str (W.msg c)) j pc] [] p4) none p9.line env = pure false)
    (hs2 : ∀ env : PySem.Env, swapsWith (.Name "found" p7) (some (.Attribute (.Name "self" p5) "found" p6)) p8.line env = pure false)
    (hb : ∀ (kV doc pm : Value) (an : Option Addr) (cdv ct : Value) (us : List Value), us.length = 2 → bindArgs (PySem.W.fnOf "__init__" qual (defArgs st) (defBody st) (defScope st) .none kV doc pm an cdv ct) ⟨us, []⟩ = pure (initN.zip us))
    (hk : ∀ (kV doc pm : Value) (an : Option Addr) (cdv ct u v : Value), bindArgs (PySem.W.fnOf "__init__" qual (defArgs st) (defBody st) (defScope st) .none kV doc pm an cdv ct) ⟨[u], [("found", v)]⟩ = pure (initN.zip [u, v])) : ∃ fI fd, ExcI W c fI fd := by
  obtain ⟨T, hno, hat, ⟨B, hm, hBF⟩, fI, oc, od, kV, doc, pm, an, cdv, ct, osl, iC, tI, lk, hcd⟩ := D
  have lk' := lk
  rw [hB] at lk'
  obtain ⟨g1, g2⟩ := init_fn (j := j) (pl := pl) lk' hcd S T hno hm hBF hl hg v1 v2 hdb hc hs1 hs2
  rw [← hB] at g1 g2
  exact ⟨fI, _, T, iC, tI, g1, g2, fun s us _ h => .of_eq (hb kV doc pm an cdv ct us h), fun s u v _ => .of_eq (hk kV doc pm an cdv ct u v)⟩
end
end PM

/-! PMK2: defs with defaults. -/
namespace PM
open PySem PySem.Spec L2 PyProof.Rows
/-- where a parameter's value comes from, in plain data -/
inductive SelP where
  | p (i : Nat) | k (j : Nat) | d (x : D)
def selP (ds es : List D) : SelP → D
  | .p i => ds.getD i .non
  | .k j => es.getD j .non
  | .d x => x
def Sel.pl : Sel → SelP
  | .p i => .p i
  | .k j => .k j
  | .c d _ _ => .d d
theorem selP_pl (ds es : List D) (as : List Sel) : (as.map Sel.pl).map (selP ds es) = as.map (selD ds es) := by
  rw [List.map_map]
  congr 1
  funext a
  cases a <;> rfl
def eCallD (F : FD) (as : List SelP) (fs gs : List FE) : FE := fun env m => bndl (evL fs env m) fun ds m1 => bndl (evL gs env m1) fun es m2 => F (as.map (selP ds es)) m2
theorem eCallD_K (F : FD) (as : List Sel) (fs gs : List FE) : eCallD F (as.map Sel.pl) fs gs = eCallK F as fs gs := by
  unfold eCallD eCallK
  simp only [selP_pl]
/-- how the call is bound: by places, keywords, defaults by their number -/
inductive Sh where
  | p (i : Nat) | k (j : Nat) | d (i : Nat)
def Sh.sel (dcs : List (D × V)) (its : List Value) : Sh → Sel
  | .p i => .p i
  | .k j => .k j
  | .d i => .c (dcs.getD i (.non, .non)).1 (dcs.getD i (.non, .non)).2 (its.getD i .none)
def Sh.pl (dcs : List (D × V)) : Sh → SelP
  | .p i => .p i
  | .k j => .k j
  | .d i => .d (dcs.getD i (.non, .non)).1
def Sh.u (us ws its : List Value) : Sh → Value
  | .p i => us.getD i .none
  | .k j => ws.getD j .none
  | .d i => its.getD i .none
/-- the def st stands at f under the name x, dcs its defaults -/
structure DfnD (W : Wk) (x : Str) (st : Stmt) (dcs : List (D × V)) (f : Addr) (fd : FuncData) : Prop where
  ex : ∃ (oc : Value) (od : Option Addr) (T : Addr) (kV doc pm : Value) (an : Option Addr) (cdv ct : Value) (osl : Array (Option Value)) (o : Obj) (its : List Value) (n : Nat), fd = PySem.W.fnOf x x (defArgs st) (defBody st) (defScope st) (.ref T) kV doc pm an cdv ct ∧ W.K.lookup f = some ⟨oc, od, .func fd, osl⟩ ∧ PySem.W.codeIn W.K cdv x = true ∧
    W.K.lookup T = some o ∧ o.data = .seq its.toArray n ∧ Vals (dcs.map (·.2)) its
  «at» : W.mg x = some (.ref f)
  kp : PySem.W.keepIn W.K (.ref f) = true
  rep : ∀ (b : Heap) (ca : Option (Addr × Addr)) (gs : List Code) (ph : Plc) (H : Hp), ∀ p ∈ dcs, Rep ⟨W, b, ca, gs⟩ ph H p.1 p.2
section
variable {W : Wd} {x : Str} {st : Stmt} {f : Addr} {fd : FuncData} {N ps ks : List Str} {k np : Nat} {g : FS} {sh : List Sh} {dcs : List (D × V)}
theorem DfnD.kn (D : DfnD W.toWk x st dcs f fd) (S : FnScope N ps (defScope st)) (hb : DSs W ⟨N, defScope st, k, true, true⟩ (defBody st) g) (hca : W.ca = none) : Kn W x (k + 1) f fd ps (mkFn ps.length N.length g) := by
  obtain ⟨oc, od, T, kV, doc, pm, an, cdv, ct, osl, o, its, n, rfl, lk, hcd, _⟩ := D.ex
  exact ⟨D.at, D.kp, fnG_lk lk hcd S hb hca⟩
theorem Vals.getD0 : ∀ {vs : List V} {us : List Value} (i : Nat), Vals vs us → i < vs.length → RelV (vs.getD i .non) (us.getD i .none)
  | _, _, _, .nil, h => absurd h (Nat.not_lt_zero _)
  | _, _, 0, .cons r _, _ => r
  | _, _, i + 1, .cons _ t, h => Vals.getD0 i t (Nat.lt_of_succ_lt_succ h)
theorem DfnD.bk (D : DfnD W.toWk x st dcs f fd) (hl : sh.length = ps.length) (hd : (sh.all fun a => match a with | .d i => decide (i < dcs.length) | _ => true) = true)
    (h : ∀ (T : Addr) (kV doc pm : Value) (an : Option Addr) (cdv ct : Value) (us ws its : List Value), us.length = np → ws.length = ks.length → its.length = dcs.length →
      ∃ k, bindArgs (PySem.W.fnOf x x (defArgs st) (defBody st) (defScope st) (.ref T) kV doc pm an cdv ct) ⟨us, ks.zip ws⟩ = seqItems? (.ref T) >>= k ∧ k (some its.toArray) = pure (ps.zip (sh.map (Sh.u us ws its)))) :
    ∃ as, as.map Sel.pl = sh.map (Sh.pl dcs) ∧ CallB W fd ps np ks as := by
  obtain ⟨oc, od, T, kV, doc, pm, an, cdv, ct, osl, o, its, n, rfl, lk, hcd, lT, oT, rT⟩ := D.ex
  have li : its.length = dcs.length := by rw [← rT.length, List.length_map]
  refine ⟨sh.map (Sh.sel dcs its), ?_, ?_, ?_, ?_⟩
  · rw [List.map_map]
    congr 1
    funext a
    cases a <;> rfl
  · rw [List.length_map, hl]
  · intro d v u hm
    obtain ⟨a, ha, e⟩ := List.mem_map.mp hm
    cases a with
    | p i => cases e
    | k j => cases e
    | d i =>
      have hi : i < dcs.length := of_decide_eq_true (List.all_eq_true.mp hd _ ha)
      have e : Sel.c (dcs.getD i (.non, .non)).1 (dcs.getD i (.non, .non)).2 (its.getD i .none) = Sel.c d v u := e
      injection e with e1 e2 e3
      subst e1 e2 e3
      refine ⟨?_, fun ph H => ?_⟩
      · have := Vals.getD0 i rT (by rw [List.length_map]; exact hi)
        rw [List.getD_eq_getElem?_getD, List.getElem?_map] at this
        rw [List.getD_eq_getElem?_getD]
        rw [List.getElem?_eq_getElem hi] at this ⊢
        exact this
      · refine D.rep W.base W.ca W.gs ph H _ ?_
        rw [List.getD_eq_getElem?_getD, List.getElem?_eq_getElem hi]
        exact List.getElem_mem hi
  · intro s us ws X h1 h2
    obtain ⟨k, e1, e2⟩ := h T kV doc pm an cdv ct us ws its h1 h2 li
    refine BindsTo.of_looks fun M => ?_
    rw [e1]
    refine looks_items X lT oT (.of_pure ?_)
    rw [e2, List.map_map]
    congr 2
    apply List.map_congr_left
    intro a _
    cases a <;> rfl
end
def RepAll : List (D × V) → Prop
  | [] => True
  | p :: r => (∀ (W : Wd) (ph : Plc) (H : Hp), Rep W ph H p.1 p.2) ∧ RepAll r
theorem RepAll.at : ∀ {l : List (D × V)} {p : D × V}, RepAll l → p ∈ l → ∀ (W : Wd) (ph : Plc) (H : Hp), Rep W ph H p.1 p.2
  | q :: r, p, h, hm => by
    rcases List.mem_cons.mp hm with e | e
    · subst e; exact h.1
    · exact RepAll.at h.2 e
theorem dfnD_mk {W : Wk} {x : Str} {st : Stmt} {f T : Addr} {dcs : List (D × V)} {h : Heap} {oc kV doc pm cdv ct : Value} {od an : Option Addr} {osl : Array (Option Value)} {o : Obj} {its : List Value} {n : Nat} (X : W.K.In h) (G : h.Ns mainGlobals W.mg) (a : PySem.W.nsIn W.K mainGlobals x = some (some (.ref f)))
    (l : W.K.lookup f = some ⟨oc, od, .func (PySem.W.fnOf x x (defArgs st) (defBody st) (defScope st) (.ref T) kV doc pm an cdv ct), osl⟩) (c : PySem.W.codeIn W.K cdv x = true) (k : PySem.W.keepIn W.K (.ref f) = true)
    (lT : W.K.lookup T = some o) (oT : o.data = .seq its.toArray n) (rT : Vals (dcs.map (·.2)) its) (ra : RepAll dcs) :
    DfnD W x st dcs f (PySem.W.fnOf x x (defArgs st) (defBody st) (defScope st) (.ref T) kV doc pm an cdv ct) :=
  ⟨⟨oc, od, T, kV, doc, pm, an, cdv, ct, osl, o, its, n, rfl, l, c, lT, oT, rT⟩, PySem.W.mg_of X G a, k, fun b ca gs ph H p hp => ra.at hp _ ph H⟩
section
variable {W : Wd} {Wx : WX} {ph ph' ph1 : Plc} {H H' H1 : Hp} {m m' m1 : Sto} {L : Lv} {R : Rst} {e : Expr} {es : List Expr} {fs gs : List FE} {pos p : Pos} {x : Str} {k np : Nat} {fa : Addr} {fd : FuncData} {ps ks : List Str} {F : FD} {sl : List SelP} {kws : List Keyword}
theorem de_callD (Kf : Kn W x k fa fd ps F) (hb : ∃ as, as.map Sel.pl = sl ∧ CallB W fd ps fs.length ks as) (ha : DA W L (e :: es) fs) (hkw : DK W L kws gs) (hkl : ks.length = gs.length := by rfl) (hk : k ≤ L.k := by decide) (hcl : L.calm = true := by rfl) (hg : L.sc.names.lookup x = some .globalImplicit := by rfl)
    (hall : ∀ env, (backToKw pos (keywordEach kws env)).all (·.1.isSome) = true := by intro _; rfl) (hks : ∀ env, (backToKw pos (keywordEach kws env)).filterMap (·.1) = ks := by intro _; rfl)
    (hdb : (x == ("__debug__" : Str)) = false := by decide) (he : ∀ env, starEach (e :: es) env = (false, eval e env) :: starEach es env := by intro _; rfl)
    (hpl : ∀ env, ((backTo pos (starEach (e :: es) env)).any (·.1) || (backToKw pos (keywordEach kws env)).any (·.1.isNone)) = false := by intro _; rfl) :
    DE W L (.Call (.Name x p) (e :: es) kws pos) (eCallD F sl fs gs) := by
  obtain ⟨as, rfl, hb⟩ := hb
  rw [eCallD_K]
  exact de_callK Kf hb ha hkw hkl hk hcl hg hall hks hdb he hpl
end
end PM

/-! PMK3: facts of own classes, their methods; classes of exceptions in clauses. -/
namespace PM
open PySem PySem.Spec L2 PyProof.Rows
structure OwnR (W : Wk) (c : Nat) (x : Str) : Prop where
  cl : Cls W.K (W.C c)
  «at» : W.mg x = some (.ref (W.C c))
  makes : PySem.W.makesIn W.K (W.C c) = true
  kp : PySem.W.keepIn W.K (.ref (W.C c)) = true
structure MDfn (W : Wk) (c : Nat) (x qual : Str) (st : Stmt) (f : Addr) (fd : FuncData) : Prop where
  ex : ∃ (oc : Value) (od : Option Addr) (kV doc pm : Value) (an : Option Addr) (cdv ct : Value) (osl : Array (Option Value)), fd = PySem.W.fnOf x qual (defArgs st) (defBody st) (defScope st) .none kV doc pm an cdv ct ∧ W.K.lookup f = some ⟨oc, od, .func fd, osl⟩ ∧ PySem.W.codeIn W.K cdv qual = true
  M : Meth W.K (W.C c) x f
structure MDfnD (W : Wk) (c : Nat) (x qual : Str) (st : Stmt) (dcs : List (D × V)) (f : Addr) (fd : FuncData) : Prop where
  ex : ∃ (oc : Value) (od : Option Addr) (T : Addr) (kV doc pm : Value) (an : Option Addr) (cdv ct : Value) (osl : Array (Option Value)) (o : Obj) (its : List Value) (n : Nat), fd = PySem.W.fnOf x qual (defArgs st) (defBody st) (defScope st) (.ref T) kV doc pm an cdv ct ∧ W.K.lookup f = some ⟨oc, od, .func fd, osl⟩ ∧ PySem.W.codeIn W.K cdv qual = true ∧
    W.K.lookup T = some o ∧ o.data = .seq its.toArray n ∧ Vals (dcs.map (·.2)) its
  M : Meth W.K (W.C c) x f
  rep : ∀ (b : Heap) (ca : Option (Addr × Addr)) (gs : List Code) (ph : Plc) (H : Hp), ∀ p ∈ dcs, Rep ⟨W, b, ca, gs⟩ ph H p.1 p.2
section
variable {W : Wd} {c : Nat} {x qual : Str} {st : Stmt} {f : Addr} {fd : FuncData} {N ps ks : List Str} {k np : Nat} {g : FS} {sh : List Sh} {dcs : List (D × V)} {F : FD} {as : List Sel}
theorem MDfn.kn (D : MDfn W.toWk c x qual st f fd) (S : FnScope N ps (defScope st)) (hb : DSs W ⟨N, defScope st, k, true, true⟩ (defBody st) g) (hca : W.ca = none) : FnG W (k + 1) f fd ps (mkFn ps.length N.length g) := by
  obtain ⟨oc, od, kV, doc, pm, an, cdv, ct, osl, rfl, lk, hcd⟩ := D.ex
  exact fnG_lk lk hcd S hb hca
theorem MDfnD.kn (D : MDfnD W.toWk c x qual st dcs f fd) (S : FnScope N ps (defScope st)) (hb : DSs W ⟨N, defScope st, k, true, true⟩ (defBody st) g) (hca : W.ca = none) : FnG W (k + 1) f fd ps (mkFn ps.length N.length g) := by
  obtain ⟨oc, od, T, kV, doc, pm, an, cdv, ct, osl, o, its, n, rfl, lk, hcd, _⟩ := D.ex
  exact fnG_lk lk hcd S hb hca
theorem MDfn.meth (D : MDfn W.toWk c x qual st f fd) (G : FnG W k f fd ps F) (h : ∀ (kV doc pm : Value) (an : Option Addr) (cdv ct : Value) (us : List Value), us.length = np + 1 → bindArgs (PySem.W.fnOf x qual (defArgs st) (defBody st) (defScope st) .none kV doc pm an cdv ct) ⟨us, []⟩ = pure (ps.zip us)) : MethB W c x k np F := by
  obtain ⟨oc, od, kV, doc, pm, an, cdv, ct, osl, rfl, lk, hcd⟩ := D.ex
  exact ⟨f, _, ps, D.M, G, fun s us _ hl _ => .of_eq (h kV doc pm an cdv ct us hl)⟩
theorem MDfn.bk (D : MDfn W.toWk c x qual st f fd) (hl : as.length = ps.length) (ho : SelOk W as) (h : ∀ (kV doc pm : Value) (an : Option Addr) (cdv ct : Value) (us ws : List Value), us.length = np → ws.length = ks.length → bindArgs (PySem.W.fnOf x qual (defArgs st) (defBody st) (defScope st) .none kV doc pm an cdv ct) ⟨us, ks.zip ws⟩ = pure (ps.zip (as.map (selU us ws)))) :
    CallB W fd ps np ks as := by
  obtain ⟨oc, od, kV, doc, pm, an, cdv, ct, osl, rfl, lk, hcd⟩ := D.ex
  exact ⟨hl, ho, fun s us ws _ h1 h2 => .of_eq (h kV doc pm an cdv ct us ws h1 h2)⟩
theorem MDfnD.bk (D : MDfnD W.toWk c x qual st dcs f fd) (hl : sh.length = ps.length) (hd : (sh.all fun a => match a with | .d i => decide (i < dcs.length) | _ => true) = true)
    (h : ∀ (T : Addr) (kV doc pm : Value) (an : Option Addr) (cdv ct : Value) (us ws its : List Value), us.length = np → ws.length = ks.length → its.length = dcs.length →
      ∃ k, bindArgs (PySem.W.fnOf x qual (defArgs st) (defBody st) (defScope st) (.ref T) kV doc pm an cdv ct) ⟨us, ks.zip ws⟩ = seqItems? (.ref T) >>= k ∧ k (some its.toArray) = pure (ps.zip (sh.map (Sh.u us ws its)))) :
    ∃ as, as.map Sel.pl = sh.map (Sh.pl dcs) ∧ CallB W fd ps np ks as := by
  obtain ⟨oc, od, T, kV, doc, pm, an, cdv, ct, osl, o, its, n, rfl, lk, hcd, lT, oT, rT⟩ := D.ex
  have li : its.length = dcs.length := by rw [← rT.length, List.length_map]
  refine ⟨sh.map (Sh.sel dcs its), ?_, ?_, ?_, ?_⟩
  · rw [List.map_map]
    congr 1
    funext a
    cases a <;> rfl
  · rw [List.length_map, hl]
  · intro d v u hm
    obtain ⟨a, ha, e⟩ := List.mem_map.mp hm
    cases a with
    | p i => cases e
    | k j => cases e
    | d i =>
      have hi : i < dcs.length := of_decide_eq_true (List.all_eq_true.mp hd _ ha)
      have e : Sel.c (dcs.getD i (.non, .non)).1 (dcs.getD i (.non, .non)).2 (its.getD i .none) = Sel.c d v u := e
      injection e with e1 e2 e3
      subst e1 e2 e3
      refine ⟨?_, fun ph H => ?_⟩
      · have := Vals.getD0 i rT (by rw [List.length_map]; exact hi)
        rw [List.getD_eq_getElem?_getD, List.getElem?_map] at this
        rw [List.getD_eq_getElem?_getD]
        rw [List.getElem?_eq_getElem hi] at this ⊢
        exact this
      · refine D.rep W.base W.ca W.gs ph H _ ?_
        rw [List.getD_eq_getElem?_getD, List.getElem?_eq_getElem hi]
        exact List.getElem_mem hi
  · intro s us ws X h1 h2
    obtain ⟨k, e1, e2⟩ := h T kV doc pm an cdv ct us ws its h1 h2 li
    refine BindsTo.of_looks fun M => ?_
    rw [e1]
    refine looks_items X lT oT (.of_pure ?_)
    rw [e2, List.map_map]
    congr 2
    apply List.map_congr_left
    intro a _
    cases a <;> rfl
theorem OwnR.mkf {xn : Str} (O : OwnR W.toWk c xn) (M : Meth W.K (W.C c) "__init__" f) (G : FnG W k f fd ps F) : MkF W xn c k f fd ps F := ⟨O.at, ⟨O.makes, M.at_, M.fn, O.kp⟩, G⟩
end
theorem mdfn_mk {W : Wk} {c : Nat} {x qual : Str} {st : Stmt} {f : Addr} {oc kV doc pm cdv ct : Value} {od an : Option Addr} {osl : Array (Option Value)} (a : PySem.W.findIn W.K (.ref (W.C c)) x = some (some (.ref f))) (i : PySem.W.isFn W.K (.ref f) = true)
    (l : W.K.lookup f = some ⟨oc, od, .func (PySem.W.fnOf x qual (defArgs st) (defBody st) (defScope st) .none kV doc pm an cdv ct), osl⟩) (hc : PySem.W.codeIn W.K cdv qual = true) (k : PySem.W.keepIn W.K (.ref f) = true) :
    MDfn W c x qual st f (PySem.W.fnOf x qual (defArgs st) (defBody st) (defScope st) .none kV doc pm an cdv ct) := ⟨⟨oc, od, kV, doc, pm, an, cdv, ct, osl, rfl, l, hc⟩, ⟨a, i, k⟩⟩
theorem mdfnD_mk {W : Wk} {c : Nat} {x qual : Str} {st : Stmt} {f T : Addr} {dcs : List (D × V)} {oc kV doc pm cdv ct : Value} {od an : Option Addr} {osl : Array (Option Value)} {o : Obj} {its : List Value} {n : Nat} (a : PySem.W.findIn W.K (.ref (W.C c)) x = some (some (.ref f))) (i : PySem.W.isFn W.K (.ref f) = true)
    (l : W.K.lookup f = some ⟨oc, od, .func (PySem.W.fnOf x qual (defArgs st) (defBody st) (defScope st) (.ref T) kV doc pm an cdv ct), osl⟩) (hc : PySem.W.codeIn W.K cdv qual = true) (k : PySem.W.keepIn W.K (.ref f) = true)
    (lT : W.K.lookup T = some o) (oT : o.data = .seq its.toArray n) (rT : Vals (dcs.map (·.2)) its) (ra : RepAll dcs) :
    MDfnD W c x qual st dcs f (PySem.W.fnOf x qual (defArgs st) (defBody st) (defScope st) (.ref T) kV doc pm an cdv ct) :=
  ⟨⟨oc, od, T, kV, doc, pm, an, cdv, ct, osl, o, its, n, rfl, l, hc, lT, oT, rT⟩, ⟨a, i, k⟩, fun b ca gs ph H p hp => ra.at hp _ ph H⟩
/-! ### C(..) with defaults -/
noncomputable def eMakeD (fn : Nat → List Str) (c : Nat) (F : FD) (sl : List SelP) (fs gs : List FE) : FE := fun env m => bndl (evL fs env m) fun ds m1 => bndl (evL gs env m1) fun es m2 => mkO fn c m2 (F (sl.map (selP (.loc m2.length :: ds) es)) (m2 ++ [.ins c []]))
theorem eMakeD_K (fn : Nat → List Str) (c : Nat) (F : FD) (as : List Sel) (fs gs : List FE) : eMakeD fn c F (as.map Sel.pl) fs gs = eMake fn c F as fs gs := by
  unfold eMakeD eMake
  simp only [selP_pl]
section
variable {W : Wd} {L : Lv} {e : Expr} {es : List Expr} {fs gs : List FE} {pos p : Pos} {fn : Nat → List Str} {x : Str} {c k : Nat} {f : Addr} {fd : FuncData} {ps ks : List Str} {F : FD} {sl : List SelP} {kws : List Keyword}
theorem de_makeD (D : MkF W x c k f fd ps F) (hnm : W.nm = fn) (hb : ∃ as, as.map Sel.pl = sl ∧ CallB W fd ps (fs.length + 1) ks as) (ha : DA W L (e :: es) fs) (hkw : DK W L kws gs) (hkl : ks.length = gs.length := by rfl) (hk : k + 1 ≤ L.k := by decide) (hcl : L.calm = true := by rfl) (hg : L.sc.names.lookup x = some .globalImplicit := by rfl)
    (hall : ∀ env, (backToKw pos (keywordEach kws env)).all (·.1.isSome) = true := by intro _; rfl) (hks : ∀ env, (backToKw pos (keywordEach kws env)).filterMap (·.1) = ks := by intro _; rfl)
    (hdb : (x == ("__debug__" : Str)) = false := by decide) (he : ∀ env, starEach (e :: es) env = (false, eval e env) :: starEach es env := by intro _; rfl)
    (hpl : ∀ env, ((backTo pos (starEach (e :: es) env)).any (·.1) || (backToKw pos (keywordEach kws env)).any (·.1.isNone)) = false := by intro _; rfl) :
    DE W L (.Call (.Name x p) (e :: es) kws pos) (eMakeD fn c F sl fs gs) := by
  obtain ⟨as, rfl, hb⟩ := hb
  rw [eMakeD_K]
  exact de_makeK D hnm hb ha hkw hkl hk hcl hg hall hks hdb he hpl
theorem de_makeDK (D : MkF W x c k f fd ps F) (hnm : W.nm = fn) (hb : ∃ as, as.map Sel.pl = sl ∧ CallB W fd ps 1 ks as) (hkw : DK W L kws gs) (hkl : ks.length = gs.length := by rfl) (hk : k + 1 ≤ L.k := by decide) (hcl : L.calm = true := by rfl) (hg : L.sc.names.lookup x = some .globalImplicit := by rfl)
    (hall : ∀ env, (backToKw pos (keywordEach kws env)).all (·.1.isSome) = true := by intro _; rfl) (hks : ∀ env, (backToKw pos (keywordEach kws env)).filterMap (·.1) = ks := by intro _; rfl)
    (hdb : (x == ("__debug__" : Str)) = false := by decide) (hpl : ∀ env, ((backTo pos (starEach [] env)).any (·.1) || (backToKw pos (keywordEach kws env)).any (·.1.isNone)) = false := by intro _; rfl) :
    DE W L (.Call (.Name x p) [] kws pos) (eMakeD fn c F sl [] gs) := by
  obtain ⟨as, rfl, hb⟩ := hb
  rw [eMakeD_K]
  exact de_makeK0 D hnm hb hkw hkl hk hcl hg hall hks hdb hpl
theorem de_makeD0 (D : MkF W x c k f fd ps F) (hnm : W.nm = fn) (hb : ∃ as, as.map Sel.pl = sl ∧ CallB W fd ps 1 [] as) (hk : k + 1 ≤ L.k := by decide) (hcl : L.calm = true := by rfl) (hg : L.sc.names.lookup x = some .globalImplicit := by rfl) (hdb : (x == ("__debug__" : Str)) = false := by decide) :
    DE W L (.Call (.Name x p) [] [] pos) (eMakeD fn c F sl [] []) := by
  obtain ⟨as, rfl, hb⟩ := hb
  rw [eMakeD_K]
  exact de_make0 D hnm hb hk hcl hg hdb
end
/-! ### methods by name -/
def mOf (l : List (Nat × FD)) (c : Nat) : Option FD := l.lookup c
def MtAll (W : Wd) (k n : Nat) (fn : Nat → List Str) (x : Str) (np : Nat) : List (Nat × FD) → Prop
  | [] => True
  | p :: r => (p.1 < n ∧ ¬ x ∈ fn p.1 ∧ MethB W p.1 x k np p.2) ∧ MtAll W k n fn x np r
theorem MethB.mono {W : Wd} {c : Nat} {x : Str} {j k np : Nat} {F : FD} (h : MethB W c x j np F) (hk : j ≤ k) : MethB W c x k np F := let ⟨f, fd, ps, a, b, d⟩ := h.ex; ⟨f, fd, ps, a, b.mono hk, d⟩
theorem mt_of {W : Wd} {k n : Nat} {fn : Nat → List Str} {x : Str} {np : Nat} : ∀ {l : List (Nat × FD)}, MtAll W k n fn x np l → MtF W k n fn x np (mOf l)
  | [], _ => fun c F e => by cases e
  | p :: r, h => fun c F e => by
    unfold mOf at e
    rw [List.lookup_cons] at e
    split at e
    · rename_i q
      cases e
      have q := eq_of_beq q
      subst q
      exact h.1
    · exact mt_of h.2 c F e
/-! ### classes in clauses -/
def exOf (l : List ((Nat × Nat) × Bool)) (c k : Nat) : Option Bool := l.lookup (c, k)
def ExAll (W : Wk) : List ((Nat × Nat) × Bool) → Prop
  | [] => True
  | p :: r => (PySem.W.exmOne W.K (.ref (W.C p.1.1)) (.ref (W.C p.1.2)) = some p.2 ∧ XfF W p.1.1) ∧ ExAll W r
theorem exTab_of {W : Wk} : ∀ {l : List ((Nat × Nat) × Bool)}, ExAll W l → ExTab W (exOf l)
  | [], _ => fun c k b e => by cases e
  | p :: r, h => fun c k b e => by
    unfold exOf at e
    rw [List.lookup_cons] at e
    split at e
    · rename_i q
      cases e
      have q := eq_of_beq q
      obtain ⟨⟨c', k'⟩, b'⟩ := p
      cases q
      exact h.1
    · exact exTab_of h.2 c k b e
/-! ### exceptions shown -/
def xtOf (l : List (Nat × (Str × Str))) (c : Nat) : Option (Str × Str) := l.lookup c
def XtAll (W : Wk) : List (Nat × (Str × Str)) → Prop
  | [] => True
  | p :: r => (ShC W.K (W.C p.1) p.2.1 ∧ W.msg p.1 = p.2.2) ∧ XtAll W r
theorem xtTab_of {W : Wk} : ∀ {l : List (Nat × (Str × Str))}, XtAll W l → XtTab0 W (xtOf l)
  | [], _ => fun c p e => by cases e
  | q :: r, h => fun c p e => by
    unfold xtOf at e
    rw [List.lookup_cons] at e
    split at e
    · rename_i z
      cases e
      have z := eq_of_beq z
      subst z
      exact h.1
    · exact xtTab_of h.2 c p e
end PM

/-! PMQ0: what a built-in's own comparison says of an object of another kind: nothing. -/
namespace PMQ
open PySem PySem.Spec PyProof.Rows PySem.SeqAt
open AutoSeq1 (wpAny_loadPart')
section
variable {prog : Program} {w : World} {A : Around} {E : Value → Shared → Prop} {s : Shared} {K : PySem.W.Frag} {x C : Addr} {ox : Obj} {od : Option Obj}
/-- y says nothing of b -/
def Dec (prog : Program) (w : World) (A : Around) (s : Shared) (y : Value) (nm : Str) (b : Value) : Prop := ∀ E, wpAny (model prog w) A (tryCompare y nm b) (fun r s' => r = none ∧ s' = s) E s
theorem wpAny_isInstance_of {v base : Value} {tv : Value} {r : Bool} {Q : Bool → Shared → Prop} (h1 : PySem.W.Looks (model prog w) s.heap (typeOf v) tv) (h2 : PySem.W.Looks (model prog w) s.heap (isSubtype tv base) r) (h : Q r s) : wpAny (model prog w) A (isInstance v base) Q E s := by
  unfold isInstance
  exact wpAny_bind (h1.here (h2.here h))
theorem dec_none (x : Addr) : Dec prog w A s .none "__eq__" (.ref x) := fun E =>
  wpAny_tryCompare_declines (show s.TypeIs .none "NoneType" from rfl) F.slot_NoneType_eq_refl (call_gives F.slot_NoneType_eq_refl rfl F.entry_NoneType_eq (F.args_NoneType_eq_2 _ _) (NoneType___eq___none_ref_0 x) ⟨rfl, rfl, rfl⟩)
theorem asInt_ref {Q : Option Int → Shared → Prop} (h : s.heap.get? x = some ox) (hd : ∀ v, ox.data ≠ .prim v) (q : Q none s) : wpAny (model prog w) A (asInt? (.ref x)) Q E s := by
  unfold asInt?
  refine wpAny_bind (wpAny_load h ?_)
  split
  · rename_i z; exact absurd z (hd _)
  · exact wpAny_pure q
theorem asStr_ref {Q : Option Str → Shared → Prop} (h : s.heap.get? x = some ox) (hd : ∀ v, ox.data ≠ .prim v) (q : Q none s) : wpAny (model prog w) A (asStr? (.ref x)) Q E s := by
  unfold asStr?
  refine wpAny_bind (wpAny_load h ?_)
  split
  · rename_i z; exact absurd z (hd _)
  · exact wpAny_pure q
theorem int_dec {y : Value} {Q : Fin → Shared → Prop} (hy : (∃ b, y = .bool b) ∨ ∃ i t, y = .int i t) (h : s.heap.get? x = some ox) (hd : ∀ v, ox.data ≠ .prim v) (q : Q (.done (.ret .notImplemented)) s) : wpAny (model prog w) A (Builtin.«int.__eq__» ⟨[y, .ref x], []⟩) Q E s := by
  obtain ⟨hp, g, d, tk, os⟩ := s
  rcases hy with ⟨b, rfl⟩ | ⟨i, t, rfl⟩
  · wp_walk using wpAny_load h
    split
    · rename_i z; exact absurd z (hd _)
    · wp_walk
      exact q
  · wp_walk using wpAny_load h
    split
    · rename_i z; exact absurd z (hd _)
    · wp_walk
      exact q
theorem str_dec {a : Str} {t : Tok} {Q : Fin → Shared → Prop} (h : s.heap.get? x = some ox) (hd : ∀ v, ox.data ≠ .prim v) (q : Q (.done (.ret .notImplemented)) s) : wpAny (model prog w) A (Builtin.«str.__eq__» ⟨[.str a t, .ref x], []⟩) Q E s := by
  obtain ⟨hp, g, d, tk, os⟩ := s
  wp_walk using wpAny_load h
  split
  · rename_i z; exact absurd z (hd _)
  · wp_walk
    exact q
theorem dec_int {i : Int} {t : Tok} (h : s.heap.get? x = some ox) (hd : ∀ v, ox.data ≠ .prim v) : Dec prog w A s (.int i t) "__eq__" (.ref x) := fun E =>
  wpAny_tryCompare_declines (show s.TypeIs (.int i t) "int" from rfl) F.slot_int_eq (wpAny_call (codeAny_call_builtin F.slot_int_eq.plain F.entry_int_eq (F.slot_int_eq.check _ _ _ _ _ _ _ _ rfl (F.args_int_eq_2 _ _) (int_dec (.inr ⟨_, _, rfl⟩) h hd ⟨rfl, rfl, rfl⟩))))
theorem dec_bool {b : Bool} (h : s.heap.get? x = some ox) (hd : ∀ v, ox.data ≠ .prim v) : Dec prog w A s (.bool b) "__eq__" (.ref x) := fun E =>
  wpAny_tryCompare_declines (show s.TypeIs (.bool b) "bool" from rfl) F.slot_bool_eq (wpAny_call (codeAny_call_builtin F.slot_bool_eq.plain F.entry_int_eq (F.slot_bool_eq.check _ _ _ _ _ _ _ _ rfl (F.args_int_eq_2 _ _) (int_dec (.inl ⟨_, rfl⟩) h hd ⟨rfl, rfl, rfl⟩))))
theorem dec_str {a : Str} {t : Tok} (h : s.heap.get? x = some ox) (hd : ∀ v, ox.data ≠ .prim v) : Dec prog w A s (.str a t) "__eq__" (.ref x) := fun E =>
  wpAny_tryCompare_declines (show s.TypeIs (.str a t) "str" from rfl) F.slot_str_eq (wpAny_call (codeAny_call_builtin F.slot_str_eq.plain F.entry_str_eq (F.slot_str_eq.check _ _ _ _ _ _ _ _ rfl (F.args_str_eq_2 _ _) (str_dec h hd ⟨rfl, rfl, rfl⟩))))
theorem list_dec {l : Addr} {b tb : Value} {Q : Fin → Shared → Prop} (h1 : PySem.W.Looks (model prog w) s.heap (typeOf b) tb) (h2 : PySem.W.Looks (model prog w) s.heap (isSubtype tb (.type "list")) false) (q : Q (.done (.ret .notImplemented)) s) : wpAny (model prog w) A (Builtin.«list.__eq__» ⟨[.ref l, b], []⟩) Q E s := by
  obtain ⟨hp, g, d, tk, os⟩ := s
  wp_walk using wpAny_isInstance_of h1 h2
  exact q
theorem tuple_dec {l : Addr} {b tb : Value} {Q : Fin → Shared → Prop} (h1 : PySem.W.Looks (model prog w) s.heap (typeOf b) tb) (h2 : PySem.W.Looks (model prog w) s.heap (isSubtype tb (.type "tuple")) false) (q : Q (.done (.ret .notImplemented)) s) : wpAny (model prog w) A (Builtin.«tuple.__eq__» ⟨[.ref l, b], []⟩) Q E s := by
  obtain ⟨hp, g, d, tk, os⟩ := s
  wp_walk using wpAny_isInstance_of h1 h2
  exact q
theorem dec_list {l : Addr} {b tb : Value} (hl : s.TypeIs (.ref l) "list") (h1 : PySem.W.Looks (model prog w) s.heap (typeOf b) tb) (h2 : PySem.W.Looks (model prog w) s.heap (isSubtype tb (.type "list")) false) : Dec prog w A s (.ref l) "__eq__" b := fun E =>
  wpAny_tryCompare_declines hl F.slot_list_eq (wpAny_call (codeAny_call_builtin F.slot_list_eq.plain F.entry_list_eq (F.slot_list_eq.check _ _ _ _ _ _ _ _ hl (F.args_list_eq_2 _ _) (list_dec h1 h2 ⟨rfl, rfl, rfl⟩))))
theorem dec_tuple {l : Addr} {b tb : Value} (hl : s.TypeIs (.ref l) "tuple") (h1 : PySem.W.Looks (model prog w) s.heap (typeOf b) tb) (h2 : PySem.W.Looks (model prog w) s.heap (isSubtype tb (.type "tuple")) false) : Dec prog w A s (.ref l) "__eq__" b := fun E =>
  wpAny_tryCompare_declines hl F.slot_tuple_eq (wpAny_call (codeAny_call_builtin F.slot_tuple_eq.plain F.entry_tuple_eq (F.slot_tuple_eq.check _ _ _ _ _ _ _ _ hl (F.args_tuple_eq_2 _ _) (tuple_dec h1 h2 ⟨rfl, rfl, rfl⟩))))
theorem dict_dec {l : Addr} {b tb : Value} {oo : Obj} {Q : Fin → Shared → Prop} (hl : s.heap.get? l = some oo) (hc : oo.cls = .type "dict") (h1 : PySem.W.Looks (model prog w) s.heap (typeOf b) tb) (h2 : PySem.W.Looks (model prog w) s.heap (isSubtype tb (.type "dict")) false) (q : Q (.done (.ret .notImplemented)) s) : wpAny (model prog w) A (Builtin.«dict.__eq__» ⟨[.ref l, b], []⟩) Q E s := by
  obtain ⟨hp, g, d, tk, os⟩ := s
  wp_walk using wpAny_isInstance_of h1 h2, wpAny_loadPart' hl, wpAny_load hl
  exact q
theorem dec_dict {l : Addr} {b tb : Value} {oo : Obj} (hl : s.heap.get? l = some oo) (hc : oo.cls = .type "dict") (h1 : PySem.W.Looks (model prog w) s.heap (typeOf b) tb) (h2 : PySem.W.Looks (model prog w) s.heap (isSubtype tb (.type "dict")) false) : Dec prog w A s (.ref l) "__eq__" b := fun E =>
  wpAny_tryCompare_declines ⟨oo, hl, hc⟩ F.slot_dict_eq (wpAny_call (codeAny_call_builtin F.slot_dict_eq.plain F.entry_dict_eq (F.slot_dict_eq.check _ _ _ _ _ _ _ _ ⟨oo, hl, hc⟩ (F.args_dict_eq_2 _ _) (dict_dec hl hc h1 h2 ⟨rfl, rfl, rfl⟩))))
/-! object's own, of an instance or an exception -/
theorem objEq_dec {b : Value} {Q : Fin → Shared → Prop} (hb : ∀ (A : Around) (E : Value → Shared → Prop) (R : Bool → Shared → Prop), R false s → wpAny (model prog w) A (isSame (.ref x) b) R E s) (hq : Q (.done (.ret .notImplemented)) s) : wpAny (model prog w) A (Builtin.«object.__eq__» ⟨[.ref x, b], []⟩) Q E s := by
  unfold Builtin.«object.__eq__»
  repeat (first | with_reducible refine hb _ _ _ ?_ | wp_step)
  exact hq
theorem ifBound_eq {b : Value} {Q : Option Value → Shared → Prop} (X : K.In s.heap) (I : PySem.W.InstAt s.heap x ox C od) (hm : PySem.W.mroIn K C (.type "object") = some true) (hs : PySem.W.findIn K (.ref C) "__eq__" = some (some (.builtin "object.__eq__")))
    (hb : ∀ (A : Around) (E : Value → Shared → Prop) (R : Bool → Shared → Prop), R false s → wpAny (model prog w) A (isSame (.ref x) b) R E s) (q : Q (some .notImplemented) s) : wpAny (model prog w) A (callSpecialIfBound? (.ref x) "__eq__" [b]) Q E s :=
  HN.ifBound_objEq X I hs (wpAny_call (codeAny_call_builtin F.cmp_object.eq.plain F.cmpEntry_eq (PySem.W.check_slot F.cmpKind_eq F.cmpSplit_eq (I.type.andThen (PySem.W.looks_mroIn X hm)) (F.cmpArgs_eq _ _) (objEq_dec hb q))))
theorem dec_objEq {b : Value} (X : K.In s.heap) (I : PySem.W.InstAt s.heap x ox C od) (hm : PySem.W.mroIn K C (.type "object") = some true) (hs : PySem.W.findIn K (.ref C) "__eq__" = some (some (.builtin "object.__eq__")))
    (hb : ∀ (A : Around) (E : Value → Shared → Prop) (R : Bool → Shared → Prop), R false s → wpAny (model prog w) A (isSame (.ref x) b) R E s) : Dec prog w A s (.ref x) "__eq__" b := fun E => by
  unfold tryCompare
  exact wpAny_bind (ifBound_eq X I hm hs hb (wpAny_pure ⟨rfl, rfl⟩))
theorem ifBound_objNe {args : List Value} {Q : Option Value → Shared → Prop} (X : K.In s.heap) (I : PySem.W.InstAt s.heap x ox C od) (hs : PySem.W.findIn K (.ref C) "__ne__" = some (some (.builtin "object.__ne__")))
    (h : wpAny (model prog w) A (call (.builtin "object.__ne__") (.ref x :: args)) (fun v => Q (some v)) E s) : wpAny (model prog w) A (callSpecialIfBound? (.ref x) "__ne__" args) Q E s := by
  simp only [callSpecialIfBound?, bindSpecialIfBound?]
  refine wpAny_holding (wpAny_bind (wpAny_bind (wpAny_bind (I.type.here ((PySem.W.looks_findIn X hs).here ?_)))))
  refine wpAny_bind (wpAny_askSetting (wpAny_ite ?_))
  have fin : wpAny (model prog w) A (call (.builtin "object.__ne__") ([.ref x] ++ args) >>= fun v => pure (some v)) Q E s := wpAny_bind (wpAny_mono h (fun v s' h' => wpAny_pure h') fun _ _ h' => h')
  split
  · exact wpAny_bind (wpAny_of_eq (F.cmp_object.ne.bind _) (wpAny_pure (by exact fin)))
  · exact wpAny_tryCatch (wpAny_bind (wpAny_of_eq (F.cmp_object.ne.bind _) (wpAny_pure (by exact fin))))
theorem call_objNe {b : Value} {Q : Value → Shared → Prop} (X : K.In s.heap) (I : PySem.W.InstAt s.heap x ox C od) (hm : PySem.W.mroIn K C (.type "object") = some true)
    (h : wpAny (model prog w) A.in1 (Builtin.«object.__ne__» ⟨[.ref x, b], []⟩) (GQ.FinOf prog w A (wants Q E)) (fun e s' => wants Q E (.error e) s') s) : wpAny (model prog w) A (call (.builtin "object.__ne__") [.ref x, b]) Q E s :=
  wpAny_call (codeAny_call_builtin F.cmp_object.ne.plain F.cmpEntry_ne (PySem.W.check_slot F.cmpKind_ne F.cmpSplit_ne (I.type.andThen (PySem.W.looks_mroIn X hm)) (F.cmpArgs_ne _ _) h))
theorem objNe_dec {b : Value} {Q : Fin → Shared → Prop} (hu : A.units < cLine) (h : ∀ (E : Value → Shared → Prop) (Q : Option Value → Shared → Prop), Q (some .notImplemented) s → wpAny (model prog w) A (callSpecialIfBound? (.ref x) "__eq__" [b]) Q E s) (hq : Q (.done (.ret .notImplemented)) s) :
    wpAny (model prog w) A (Builtin.«object.__ne__» ⟨[.ref x, b], []⟩) Q E s := by
  unfold Builtin.«object.__ne__»
  repeat (first | with_reducible refine wpAny_cRoomFor hu ?_ | with_reducible refine h _ _ ?_ | wp_step)
  exact hq
theorem dec_objNe {b : Value} (hu : A.units + 1 < cLine) (X : K.In s.heap) (I : PySem.W.InstAt s.heap x ox C od) (hm : PySem.W.mroIn K C (.type "object") = some true) (hs : PySem.W.findIn K (.ref C) "__eq__" = some (some (.builtin "object.__eq__")))
    (hn : PySem.W.findIn K (.ref C) "__ne__" = some (some (.builtin "object.__ne__"))) (hb : ∀ (A : Around) (E : Value → Shared → Prop) (R : Bool → Shared → Prop), R false s → wpAny (model prog w) A (isSame (.ref x) b) R E s) : Dec prog w A s (.ref x) "__ne__" b := fun E => by
  unfold tryCompare
  exact wpAny_bind (ifBound_objNe X I hn (call_objNe X I hm (objNe_dec (A := A.in1) hu (fun E Q q => ifBound_eq X I hm hs hb q) (wpAny_pure ⟨rfl, rfl⟩))))
theorem str_ne_dec {a : Str} {t : Tok} {Q : Fin → Shared → Prop} (h : s.heap.get? x = some ox) (hd : ∀ v, ox.data ≠ .prim v) (q : Q (.done (.ret .notImplemented)) s) : wpAny (model prog w) A (Builtin.«str.__ne__» ⟨[.str a t, .ref x], []⟩) Q E s := by
  obtain ⟨hp, g, d, tk, os⟩ := s
  wp_walk using wpAny_load h
  split
  · rename_i z; exact absurd z (hd _)
  · wp_walk
    exact q
theorem dec_strNe {a : Str} {t : Tok} (h : s.heap.get? x = some ox) (hd : ∀ v, ox.data ≠ .prim v) : Dec prog w A s (.str a t) "__ne__" (.ref x) := fun E =>
  wpAny_tryCompare_declines (show s.TypeIs (.str a t) "str" from rfl) F.slot_str_ne_refl (wpAny_call (codeAny_call_builtin F.slot_str_ne_refl.plain F.entry_str_ne (F.slot_str_ne_refl.check _ _ _ _ _ _ _ _ rfl (F.args_str_ne_2 _ _) (str_ne_dec h hd ⟨rfl, rfl, rfl⟩))))
theorem dict_ne_dec {l : Addr} {b tb : Value} {oo : Obj} {Q : Fin → Shared → Prop} (hl : s.heap.get? l = some oo) (hc : oo.cls = .type "dict") (h1 : PySem.W.Looks (model prog w) s.heap (typeOf b) tb) (h2 : PySem.W.Looks (model prog w) s.heap (isSubtype tb (.type "dict")) false) (q : Q (.done (.ret .notImplemented)) s) : wpAny (model prog w) A (Builtin.«dict.__ne__» ⟨[.ref l, b], []⟩) Q E s := by
  obtain ⟨hp, g, d, tk, os⟩ := s
  wp_walk using wpAny_isInstance_of h1 h2, wpAny_loadPart' hl, wpAny_load hl
  exact q
theorem dec_dictNe {l : Addr} {b tb : Value} {oo : Obj} (hl : s.heap.get? l = some oo) (hc : oo.cls = .type "dict") (h1 : PySem.W.Looks (model prog w) s.heap (typeOf b) tb) (h2 : PySem.W.Looks (model prog w) s.heap (isSubtype tb (.type "dict")) false) : Dec prog w A s (.ref l) "__ne__" b := fun E =>
  wpAny_tryCompare_declines ⟨oo, hl, hc⟩ F.slot_dict_ne (wpAny_call (codeAny_call_builtin F.slot_dict_ne.plain F.entry_dict_ne (F.slot_dict_ne.check _ _ _ _ _ _ _ _ ⟨oo, hl, hc⟩ (F.args_dict_ne_2 _ _) (dict_ne_dec hl hc h1 h2 ⟨rfl, rfl, rfl⟩))))
/-! the comparison -/
/-- neither says anything: two that are not the same -/
theorem rc_none2 {a b ta tb : Value} {Q : Value → Shared → Prop} (hu : A.units < cLine) (ho : oneThing? .Eq a b = none) (h1 : PySem.W.Looks (model prog w) s.heap (typeOf a) ta) (h2 : PySem.W.Looks (model prog w) s.heap (typeOf b) tb) (hsub : PySem.W.Looks (model prog w) s.heap (isSubtype tb ta) false)
    (d1 : Dec prog w A s a "__eq__" b) (d2 : Dec prog w A s b "__eq__" a) (hk : ∀ Q' : Bool → Shared → Prop, Q' false s → wpAny (model prog w) A (isSame a b) Q' E s) (h : Q (.bool false) s) : wpAny (model prog w) A (richCompare .Eq a b) Q E s := by
  simp only [richCompare, cmpInfo_Eq, ho]
  refine wpAny_holding (wpAny_bind (wpAny_cRoomFor hu ?_))
  refine wpAny_bind (h1.here (wpAny_bind (h2.here ?_)))
  split
  · refine wpAny_bind (hsub.here ?_)
    simp only [Bool.false_eq_true, if_false, Bool.not_false, if_true]
    refine wpAny_bind (m := tryCompare a _ b) (wpAny_mono (d1 E) (fun r s1 z => ?_) fun _ _ e => e)
    obtain ⟨rfl, rfl⟩ := z
    refine wpAny_bind (m := tryCompare b _ a) (wpAny_mono (d2 E) (fun r s1 z => ?_) fun _ _ e => e)
    obtain ⟨rfl, rfl⟩ := z
    exact wpAny_bind (wpAny_rule (wpAny_bind (hk _ (wpAny_pure h))))
  · refine wpAny_bind (wpAny_pure ?_)
    simp only [Bool.false_eq_true, if_false, Bool.not_false, if_true]
    refine wpAny_bind (m := tryCompare a _ b) (wpAny_mono (d1 E) (fun r s1 z => ?_) fun _ _ e => e)
    obtain ⟨rfl, rfl⟩ := z
    refine wpAny_bind (m := tryCompare b _ a) (wpAny_mono (d2 E) (fun r s1 z => ?_) fun _ _ e => e)
    obtain ⟨rfl, rfl⟩ := z
    exact wpAny_bind (wpAny_rule (wpAny_bind (hk _ (wpAny_pure h))))
theorem rc_none2Ne {a b ta tb : Value} {Q : Value → Shared → Prop} (hu : A.units < cLine) (ho : oneThing? .NotEq a b = none) (h1 : PySem.W.Looks (model prog w) s.heap (typeOf a) ta) (h2 : PySem.W.Looks (model prog w) s.heap (typeOf b) tb) (hsub : PySem.W.Looks (model prog w) s.heap (isSubtype tb ta) false)
    (d1 : Dec prog w A s a "__ne__" b) (d2 : Dec prog w A s b "__ne__" a) (hk : ∀ Q' : Bool → Shared → Prop, Q' false s → wpAny (model prog w) A (isSame a b) Q' E s) (h : Q (.bool true) s) : wpAny (model prog w) A (richCompare .NotEq a b) Q E s := by
  simp only [richCompare, cmpInfo_NotEq, ho]
  refine wpAny_holding (wpAny_bind (wpAny_cRoomFor hu ?_))
  refine wpAny_bind (h1.here (wpAny_bind (h2.here ?_)))
  split
  · refine wpAny_bind (hsub.here ?_)
    simp only [Bool.false_eq_true, if_false, Bool.not_false, if_true]
    refine wpAny_bind (m := tryCompare a _ b) (wpAny_mono (d1 E) (fun r s1 z => ?_) fun _ _ e => e)
    obtain ⟨rfl, rfl⟩ := z
    refine wpAny_bind (m := tryCompare b _ a) (wpAny_mono (d2 E) (fun r s1 z => ?_) fun _ _ e => e)
    obtain ⟨rfl, rfl⟩ := z
    exact wpAny_bind (wpAny_rule (wpAny_bind (hk _ (wpAny_pure h))))
  · refine wpAny_bind (wpAny_pure ?_)
    simp only [Bool.false_eq_true, if_false, Bool.not_false, if_true]
    refine wpAny_bind (m := tryCompare a _ b) (wpAny_mono (d1 E) (fun r s1 z => ?_) fun _ _ e => e)
    obtain ⟨rfl, rfl⟩ := z
    refine wpAny_bind (m := tryCompare b _ a) (wpAny_mono (d2 E) (fun r s1 z => ?_) fun _ _ e => e)
    obtain ⟨rfl, rfl⟩ := z
    exact wpAny_bind (wpAny_rule (wpAny_bind (hk _ (wpAny_pure h))))
/-- the left one says nothing, the right one its own word -/
theorem rc_right {a ta : Value} {f : Addr} {Q : Value → Shared → Prop} (hu : A.units < cLine) (ho : oneThing? .Eq a (.ref x) = none) (X : K.In s.heap) (I : PySem.W.InstAt s.heap x ox C od) (h1 : PySem.W.Looks (model prog w) s.heap (typeOf a) ta) (hsub : PySem.W.subIn K (.ref C) ta = some false)
    (hs : PySem.W.findIn K (.ref C) "__eq__" = some (some (.ref f))) (hf : PySem.W.isFn K (.ref f) = true) (d1 : Dec prog w A s a "__eq__" (.ref x)) (h : wpAny (model prog w) A (call (.ref f) [.ref x, a]) (PySem.W.CmpBack Q) E s) : wpAny (model prog w) A (richCompare .Eq a (.ref x)) Q E s := by
  simp only [richCompare, cmpInfo_Eq, ho]
  refine wpAny_holding (wpAny_bind (wpAny_cRoomFor hu ?_))
  refine wpAny_bind (h1.here (wpAny_bind (I.type.here ?_)))
  have two : wpAny (model prog w) A (tryCompare (.ref x) "__eq__" a) (fun r s' => ∃ v, r = some v ∧ Q v s') E s := by
    unfold tryCompare
    refine wpAny_bind (PySem.W.ifBound_K X I hs hf (wpAny_mono h (fun v s' hv => ?_) fun _ _ e => e))
    cases v <;> first | exact hv.elim | exact wpAny_pure ⟨_, rfl, hv⟩
  split
  · refine wpAny_bind ((PySem.W.looks_subIn X hsub).here ?_)
    simp only [Bool.false_eq_true, if_false, Bool.not_false, if_true]
    refine wpAny_bind (m := tryCompare a _ (.ref x)) (wpAny_mono (d1 E) (fun r s1 z => ?_) fun _ _ e => e)
    obtain ⟨rfl, rfl⟩ := z
    refine wpAny_bind (m := tryCompare (.ref x) _ a) (wpAny_mono two (fun r s1 z => ?_) fun _ _ e => e)
    obtain ⟨v, rfl, q⟩ := z
    exact wpAny_pure q
  · refine wpAny_bind (wpAny_pure ?_)
    simp only [Bool.false_eq_true, if_false, Bool.not_false, if_true]
    refine wpAny_bind (m := tryCompare a _ (.ref x)) (wpAny_mono (d1 E) (fun r s1 z => ?_) fun _ _ e => e)
    obtain ⟨rfl, rfl⟩ := z
    refine wpAny_bind (m := tryCompare (.ref x) _ a) (wpAny_mono two (fun r s1 z => ?_) fun _ _ e => e)
    obtain ⟨v, rfl, q⟩ := z
    exact wpAny_pure q
/-- != by the own == -/
theorem rc_ne_own {b tb : Value} {f : Addr} {Q : Value → Shared → Prop} (hu : A.units + 1 < cLine) (X : K.In s.heap) (I : PySem.W.InstAt s.heap x ox C od) (hb : PySem.W.Looks (model prog w) s.heap (typeOf b) tb) (hn : PySem.W.notFirst K C tb = true) (hm : PySem.W.mroIn K C (.type "object") = some true)
    (hs : PySem.W.findIn K (.ref C) "__eq__" = some (some (.ref f))) (hf : PySem.W.isFn K (.ref f) = true) (hne : PySem.W.findIn K (.ref C) "__ne__" = some (some (.builtin "object.__ne__")))
    (h : wpAny (model prog w) A.in1 (call (.ref f) [.ref x, b]) (fun v s' => ∃ k, v = .bool k ∧ Q (.bool (!k)) s') E s) : wpAny (model prog w) A (richCompare .NotEq (.ref x) b) Q E s := by
  have one : wpAny (model prog w) A (tryCompare (.ref x) "__ne__" b) (fun r s' => ∃ v, r = some v ∧ Q v s') E s := by
    unfold tryCompare
    refine wpAny_bind (ifBound_objNe X I hne (call_objNe X I hm ?_))
    unfold Builtin.«object.__ne__»
    repeat (first
      | with_reducible refine wpAny_cRoomFor (A := A.in1) hu ?_
      | (refine wpAny_bind (m := callSpecialIfBound? (.ref x) (Str.ofString "__eq__") [b])
          (PySem.W.ifBound_K X I hs hf (wpAny_mono h (fun r s' hr => by
            obtain ⟨b, rfl, hq⟩ := hr
            refine wpAny_bind (m := truthy (.bool _)) (wpAny_truthy_bool ?_)
            exact wpAny_pure (wpAny_pure ⟨_, rfl, hq⟩)) fun _ _ e => e)))
      | wp_step)
  unfold richCompare
  simp only [oneThing_ref]
  refine wpAny_holding (wpAny_bind (wpAny_cRoomFor (Nat.lt_of_succ_lt hu) ?_))
  refine wpAny_bind (I.type.here (wpAny_bind (hb.here ?_)))
  split
  · rename_i q
    have e : PySem.W.subIn K tb (.ref C) = some false := by
      rcases Bool.or_eq_true_iff.mp hn with e | e
      · rw [beq_iff_eq.mp e] at q; simp at q
      · exact beq_iff_eq.mp e
    refine wpAny_bind ((PySem.W.looks_subIn X e).here ?_)
    simp only [Bool.false_eq_true, if_false]
    refine wpAny_bind (m := tryCompare (.ref x) _ b) (wpAny_mono one (fun r s1 z => ?_) fun _ _ e => e)
    obtain ⟨v, rfl, q⟩ := z
    exact wpAny_pure q
  · refine wpAny_bind (wpAny_pure ?_)
    simp only [Bool.false_eq_true, if_false]
    refine wpAny_bind (m := tryCompare (.ref x) _ b) (wpAny_mono one (fun r s1 z => ?_) fun _ _ e => e)
    obtain ⟨v, rfl, q⟩ := z
    exact wpAny_pure q
end
end PMQ

/-! PMQ1: == and != by a class's own __eq__. -/
namespace PM
open PySem PySem.Spec L2 PyProof.Rows
/-- the own __eq__ answers True or False, and changes nothing -/
noncomputable def callB (F : FD) (x y : D) (m : Sto) : Option D := match F [x, y] m with
  | some (.ok (.bl b) m') => open Classical in if m' = m then some (.bl b) else none
  | _ => none
theorem callB_some {F : FD} {x y d : D} {m : Sto} (h : callB F x y m = some d) : ∃ b, d = .bl b ∧ F [x, y] m = some (.ok (.bl b) m) := by
  unfold callB at h
  split at h
  · rename_i b m' q
    split at h
    · rename_i e
      cases h
      exact ⟨b, rfl, by rw [q, e]⟩
    · cases h
  · cases h
theorem callB_ok {F : FD} {x y : D} {m : Sto} {b : Bool} (h : F [x, y] m = some (.ok (.bl b) m)) : callB F x y m = some (.bl b) := by
  unfold callB
  rw [h]
  simp
/-- what may stand on the other side -/
def othD (n : Nat) (ex : Nat → Bool) : D → Sto → Bool
  | .non, _ => true
  | .bl _, _ => true
  | .int _, _ => true
  | .str _, _ => true
  | .lst _, _ => true
  | .tup _, _ => true
  | .exc c _, _ => ex c
  | .loc k, m => match m[k]? with
    | some (.lst _) => true
    | some (.dct _) => true
    | _ => false
  | _, _ => false
noncomputable def eqMD (n : Nat) (ex : Nat → Bool) (M : Nat → Option FD) (x y : D) (m : Sto) : Option D := match x with
  | .ob c _ => match M c with
    | some F => match y with
      | .ob c' _ => if c' < n then callB F x y m else none
      | _ => if othD n ex y m = true then callB F x y m else none
    | none => none
  | _ => match y with
    | .ob c _ => match M c with
      | some F => if othD n ex x m = true then callB F y x m else none
      | none => none
    | _ => eqD x y m
def notO : Option D → Option D
  | some (.bl b) => some (.bl (!b))
  | _ => none
noncomputable def neMD (n : Nat) (ex : Nat → Bool) (M : Nat → Option FD) (x y : D) (m : Sto) : Option D := match x with
  | .ob c _ => match M c with
    | some F => match y with
      | .ob c' _ => if c' < n then notO (callB F x y m) else none
      | _ => if othD n ex y m = true then notO (callB F x y m) else none
    | none => none
  | _ => match y with
    | .ob _ _ => none
    | _ => neD x y m
/-- what == asks of the class at C -/
structure EqC (W : Wk) (n : Nat) (ex : Nat → Bool) (c : Nat) : Prop where
  hm : PySem.W.mroIn W.K (W.C c) (.type "object") = some true
  hne : PySem.W.findIn W.K (.ref (W.C c)) "__ne__" = some (some (.builtin "object.__ne__"))
  b1 : PySem.W.mroIn W.K (W.C c) (.type "NoneType") = some false
  b2 : PySem.W.mroIn W.K (W.C c) (.type "bool") = some false
  b3 : PySem.W.mroIn W.K (W.C c) (.type "int") = some false
  b4 : PySem.W.mroIn W.K (W.C c) (.type "str") = some false
  b5 : PySem.W.mroIn W.K (W.C c) (.type "list") = some false
  b6 : PySem.W.mroIn W.K (W.C c) (.type "tuple") = some false
  b7 : PySem.W.mroIn W.K (W.C c) (.type "dict") = some false
  own : ∀ c', c' < n → PySem.W.notFirst W.K (W.C c) (.ref (W.C c')) = true
  exc : ∀ c', ex c' = true → PySem.W.mroIn W.K (W.C c') (.ref (W.C c)) = some false ∧ PySem.W.mroIn W.K (W.C c) (.ref (W.C c')) = some false ∧ PySem.W.findIn W.K (.ref (W.C c')) "__eq__" = some (some (.builtin "object.__eq__")) ∧ PySem.W.mroIn W.K (W.C c') (.type "object") = some true
def EqT (W : Wd) (k n : Nat) (fn : Nat → List Str) (ex : Nat → Bool) (M : Nat → Option FD) : Prop := (∀ c, c < n → Cls W.K (W.C c)) ∧ ∀ c F, M c = some F → EqC W.toWk n ex c ∧ MethB W c "__eq__" k 1 F
theorem sub_bt {K : PySem.W.Frag} {T : String} {l : List Value} {C : Addr} (e : fastBuiltinMro T = some l) (h : l.contains (.ref C) = false) : PySem.W.subIn K (.type T) (.ref C) = some false := by
  show (fastBuiltinMro T).map (·.contains (.ref C)) = some false
  rw [e, Option.map_some, h]
theorem nf_bt {K : PySem.W.Frag} {T : String} {C : Addr} (h : PySem.W.subIn K (.type T) (.ref C) = some false) : PySem.W.notFirst K C (.type T) = true := by
  unfold PySem.W.notFirst
  rw [h]; simp
theorem sub_non {K : PySem.W.Frag} {C : Addr} : PySem.W.subIn K (.type "NoneType") (.ref C) = some false := sub_bt (l := [.type "NoneType", .type "object"]) (by decide +kernel) (by simp)
theorem sub_bool {K : PySem.W.Frag} {C : Addr} : PySem.W.subIn K (.type "bool") (.ref C) = some false := sub_bt (l := [.type "bool", .type "int", .type "object"]) (by decide +kernel) (by simp)
theorem sub_int {K : PySem.W.Frag} {C : Addr} : PySem.W.subIn K (.type "int") (.ref C) = some false := sub_bt (l := [.type "int", .type "object"]) (by decide +kernel) (by simp)
theorem sub_str {K : PySem.W.Frag} {C : Addr} : PySem.W.subIn K (.type "str") (.ref C) = some false := sub_bt (l := [.type "str", .type "object"]) (by decide +kernel) (by simp)
theorem sub_list {K : PySem.W.Frag} {C : Addr} : PySem.W.subIn K (.type "list") (.ref C) = some false := sub_bt (l := [.type "list", .type "object"]) (by decide +kernel) (by simp)
theorem sub_tuple {K : PySem.W.Frag} {C : Addr} : PySem.W.subIn K (.type "tuple") (.ref C) = some false := sub_bt (l := [.type "tuple", .type "object"]) (by decide +kernel) (by simp)
theorem sub_dict {K : PySem.W.Frag} {C : Addr} : PySem.W.subIn K (.type "dict") (.ref C) = some false := sub_bt (l := [.type "dict", .type "object"]) (by decide +kernel) (by simp)
section
variable {W : Wd} {ph : Plc} {H : Hp} {m : Sto} {L : Lv} {R : Rst} {k n : Nat} {fn : Nat → List Str} {ex : Nat → Bool} {M : Nat → Option FD} {pins : List (Addr × Obj)} {s : Shared} {σ : L2.St}
/-- the other side as the model has it -/
theorem oth_rep {X : Cx} {c : Nat} {x : Addr} {ox : Obj} {od : Option Obj} {y : D} {v : V} {u : Value} (hX : X.K = W.K) (I : Inv X pins σ H s) (J : PySem.W.InstAt s.heap x ox (W.C c) od) (hpl : ox.data = .plain) (E : EqC W.toWk n ex c) (hs : RelSto W ph H m) (r : Rep W ph H y v) (rv : RelV v u) (h : othD n ex y m = true) :
    ∃ tb, PySem.W.Looks (model X.prog X.w) s.heap (typeOf u) tb ∧ PySem.W.notFirst W.K (W.C c) tb = true ∧ PySem.W.subIn W.K (.ref (W.C c)) tb = some false ∧ (∀ A, PMQ.Dec X.prog X.w A s u "__eq__" (.ref x)) ∧ oneThing? .Eq u (.ref x) = none ∧ u ≠ .ref x := by
  have kin : W.K.In s.heap := by rw [← hX]; exact I.kIn
  have hd : ∀ z, ox.data ≠ .prim z := fun z e => by rw [hpl] at e; cases e
  have sb : ∀ T, PySem.W.mroIn W.K (W.C c) (.type T) = some false → PySem.W.Looks (model X.prog X.w) s.heap (isSubtype (.ref (W.C c)) (.type T)) false := fun T e => PySem.W.looks_mroIn kin e
  have lst : ∀ a its, H a = some (.lst its) → v = .ref a → ∃ tb, PySem.W.Looks (model X.prog X.w) s.heap (typeOf u) tb ∧ PySem.W.notFirst W.K (W.C c) tb = true ∧ PySem.W.subIn W.K (.ref (W.C c)) tb = some false ∧ (∀ A, PMQ.Dec X.prog X.w A s u "__eq__" (.ref x)) ∧ oneThing? .Eq u (.ref x) = none ∧ u ≠ .ref x := by
    intro a its h1 e
    subst e
    cases (show u = Value.ref a from rv)
    obtain ⟨_, its2, kk, _, e1⟩ := I.hok a _ h1
    exact ⟨.type "list", (PySem.W.Looks.ld e1).andThen .now, nf_bt sub_list, E.b5, fun _ => PMQ.dec_list ⟨_, e1, rfl⟩ J.type (sb _ E.b5), rfl, fun z => by cases z; rw [J.at_] at e1; cases e1; cases hpl⟩
  unfold othD at h
  split at h
  · cases r; cases (show u = Value.none from rv)
    exact ⟨.type "NoneType", .of_pure rfl, nf_bt sub_non, E.b1, fun _ => PMQ.dec_none x, rfl, nofun⟩
  · rename_i b
    cases r; cases (show u = Value.bool b from rv)
    exact ⟨.type "bool", .of_pure rfl, nf_bt sub_bool, E.b2, fun _ => PMQ.dec_bool J.at_ hd, rfl, nofun⟩
  · cases r; obtain ⟨t, rfl⟩ := rv
    exact ⟨.type "int", .of_pure rfl, nf_bt sub_int, E.b3, fun _ => PMQ.dec_int J.at_ hd, rfl, nofun⟩
  · cases r; obtain ⟨t, rfl⟩ := rv
    exact ⟨.type "str", .of_pure rfl, nf_bt sub_str, E.b4, fun _ => PMQ.dec_str J.at_ hd, rfl, nofun⟩
  · obtain ⟨a, vs, rfl, l, r⟩ := r
    exact lst a vs l.1 rfl
  · obtain ⟨a, vs, rfl, l, r⟩ := r
    cases (show u = Value.ref a from rv)
    obtain ⟨_, its2, _, o, e1, e2, _⟩ := I.hok a _ l.1
    have e3 : PySem.W.Looks (model X.prog X.w) s.heap (typeOf (.ref a)) o.cls := (PySem.W.Looks.ld e1).andThen .now
    rw [e2] at e3
    exact ⟨.type "tuple", e3, nf_bt sub_tuple, E.b6, fun _ => PMQ.dec_tuple ⟨_, e1, e2⟩ J.type (sb _ E.b6), rfl, fun z => by cases z; rw [J.at_] at e1; cases e1; rw [J.cls] at e2; cases e2⟩
  · rename_i c' d
    obtain ⟨g1, g2, g3, g4⟩ := E.exc c' h
    obtain ⟨a, dx, y, t1, rfl, h1, _, h2, _⟩ := r
    cases (show u = Value.ref a from rv)
    obtain ⟨e1, _⟩ := I.hok a _ h1
    obtain ⟨od', hod⟩ := objOk_get (I.hok dx _ h2)
    have J' : PySem.W.InstAt s.heap a _ (W.C c') (some od') := ⟨e1, rfl, rfl, hod⟩
    have ne : a ≠ x := by
      intro z
      subst z
      rw [J.at_] at e1
      cases e1
      cases hpl
    refine ⟨.ref (W.C c'), J'.type, ?_, g2, fun _ => PMQ.dec_objEq kin J' g4 g3 fun A' E' R' q => ?_, rfl, fun z => ne (by injection z)⟩
    · unfold PySem.W.notFirst
      rw [show PySem.W.subIn W.K (.ref (W.C c')) (.ref (W.C c)) = some false from g1]; simp
    · exact wpAny_isSame_ref_other ne e1 J.at_ nofun q
  · rename_i q
    obtain ⟨a, rfl, ha⟩ := r
    split at h
    · rename_i xs q
      obtain ⟨a', e1, _, vs, e3, _⟩ := hs.cell _ _ q
      rw [ha] at e1; cases e1
      exact lst a vs e3 rfl
    · rename_i xs q
      obtain ⟨a', e1, _, kvs, e3, _⟩ := hs.cell _ _ q
      rw [ha] at e1; cases e1
      cases (show u = Value.ref a from rv)
      obtain ⟨_, _, ws, _, o, _, _, e4, e5, _⟩ := I.hok a _ e3
      have e6 : PySem.W.Looks (model X.prog X.w) s.heap (typeOf (.ref a)) o.cls := (PySem.W.Looks.ld e4).andThen .now
      rw [e5.1] at e6
      exact ⟨.type "dict", e6, nf_bt sub_dict, E.b7, fun _ => PMQ.dec_dict e4 e5.1 J.type (sb _ E.b7), rfl, fun z => by cases z; rw [J.at_] at e4; cases e4; have := e5.1; rw [J.cls] at this; cases this⟩
    · cases h
  · cases h
/-- the own def is called -/
theorem own_call {A : Around} {F : FD} {f : Addr} {fd : FuncData} {ps : List Str} {x y : D} {vx vy : V} {u1 u2 : Value} {b : Bool} (G : FnG W k f fd ps F) (hb : ∀ (s : Shared) (us : List Value), W.K.In s.heap → us.length = 2 → us.length = ps.length → BindsTo s fd ⟨us, []⟩ (ps.zip us)) (hr : Room k A) (hfr : A.frames = R.A.frames) (hg : A.guards = some W.gs) (I : Inv (mkX W L.N R) pins σ H s)
    (hs : RelSto W ph H m) (r1 : Rep W ph H x vx) (r2 : Rep W ph H y vy) (rv1 : RelV vx u1) (rv2 : RelV vy u2) (e : F [x, y] m = some (.ok (.bl b) m)) {P' : Hp → Prop} (p : ∀ H' ph', Ste W ph H ph' H' m → P' H') :
    wpAny (model W.P W.w) A (call (.ref f) [u1, u2]) (fun v s' => v = .bool b ∧ ∃ H', Inv (mkX W L.N R) pins σ H' s' ∧ P' H') R.xe s := by
  have sp : spF W F [vx, vy] H (fun v H' => v = .bl b ∧ P' H') fun _ _ _ => False := ⟨ph, m, [x, y], _, hs, .cons r1 (.cons r2 .nil), e, fun v H' ph' st r => by
    have r : v = .bl b := r
    subst r
    exact ⟨rfl, p _ _ st⟩⟩
  have e0 : Env0 W.P W.w W.K W.mg W.base A R.stack s H := by
    have e := I.env0
    exact ⟨by rw [hfr]; exact e.frames, e.mod, e.bs, e.bsz, e.funs, e.frf, e.hok, e.bare⟩
  refine wpAny_call (codeAny_mono (G.run A R.stack s H ⟨[u1, u2], []⟩ [u1, u2] [vx, vy] _ _ hr hg e0 (hb s _ I.kIn rfl (G.len _ _ _ e)) (.cons rv1 (.cons rv2 .nil)) sp) fun r s' hq => ?_)
  match r, hq with
  | .error e, ⟨_, _, _, _, _, _, _, _, _, _, _, _, z⟩ => exact z.elim
  | .ok .next, hq => exact hq.elim
  | .ok .brk, hq => exact hq.elim
  | .ok .cont, hq => exact hq.elim
  | .ok (.ret u), hq =>
    obtain ⟨v, H', I', rv, rfl, q⟩ := I.after hq
    cases (show u = Value.bool b from rv)
    exact ⟨rfl, H', I', q⟩
/-- an own object -/
theorem ob_inst {X : Cx} {c : Nat} {xs : List D} {v : V} (I : Inv X pins σ H s) (r : Rep W ph H (.ob c xs) v) : ∃ (a dx : Addr) (od : Obj), v = .ref a ∧ PySem.W.InstAt s.heap a (PySem.W.instObj (W.C c) dx) (W.C c) (some od) := by
  obtain ⟨a, dx, vs, rfl, h, _⟩ := r
  obtain ⟨mA, J, _⟩ := ins_get I.hok h
  obtain ⟨od, J, _⟩ := J.look
  exact ⟨a, dx, od, rfl, J⟩
theorem op2_eqM (hT : EqT W k n fn ex M) (hk : k ≤ L.k := by decide) (hcl : L.calm = true := by rfl) : Op2 W L (compareOp .Eq) (eqMD n ex M) := by
  intro R F pins s σ H x y v u Q I rx ry q
  obtain ⟨ph, m, dx, dy, d, hs, r1, r2, e, p⟩ := q
  have hr : Room k R.A := (F.room hcl).mono hk
  obtain ⟨mF, hF⟩ := I.fr
  have own : ∀ c xs Fc, dx = .ob c xs → M c = some Fc → callB Fc dx dy m = some d → (∃ c' ys, dy = .ob c' ys ∧ c' < n) ∨ othD n ex dy m = true → wpAny (model W.P W.w) R.A (compareOp .Eq v u) (EP (mkX W L.N R) pins σ Q) R.xe s := by
    intro c xs Fc ex hM e ho
    subst ex
    obtain ⟨b, rfl, e1⟩ := callB_some e
    obtain ⟨E, f, fd, ps, hm, G, hb⟩ := let ⟨a, b⟩ := hT.2 c Fc hM; (⟨a, b.ex⟩ : _ ∧ _)
    obtain ⟨a, dd, od, rfl, J⟩ := ob_inst I r1
    cases (show v = Value.ref a from rx)
    have hd : (PySem.W.instObj (W.C c) dd).data = .plain := rfl
    have ty : ∃ tb, PySem.W.Looks (model W.P W.w) s.heap (typeOf u) tb ∧ PySem.W.notFirst W.K (W.C c) tb = true := by
      rcases ho with ⟨c', ys, rfl, hc⟩ | ho
      · obtain ⟨a', dd', od', rfl, J'⟩ := ob_inst I r2
        cases (show u = Value.ref a' from ry)
        exact ⟨_, J'.type, E.own c' hc⟩
      · obtain ⟨tb, h1, h2, _⟩ := oth_rep (X := mkX W L.N R) rfl I J hd E hs r2 ry ho
        exact ⟨tb, h1, h2⟩
    obtain ⟨tb, h1, h2⟩ := ty
    refine PySem.W.cmp_K (op := .Eq) (tb := tb) hr.units0 hF I.ok.mod.kin J h1 h2 hm.at_ hm.fn ?_
    refine wpAny_mono (own_call (x := .ob c xs) (y := dy) G hb hr rfl F.grd I hs r1 r2 rx ry e1 (P' := fun H' => Q (.bl b) H') fun H' ph' st => p _ _ _ st rfl) (fun w s' z => ?_) fun _ _ x => x
    obtain ⟨rfl, H', I', q⟩ := z
    exact ⟨.bl b, H', I', rfl, q⟩
  have refl : ∀ c xs Fc, dy = .ob c xs → M c = some Fc → callB Fc dy dx m = some d → othD n ex dx m = true → wpAny (model W.P W.w) R.A (compareOp .Eq v u) (EP (mkX W L.N R) pins σ Q) R.xe s := by
    intro c xs Fc ex hM e ho
    subst ex
    obtain ⟨b, rfl, e1⟩ := callB_some e
    obtain ⟨E, f, fd, ps, hm, G, hb⟩ := let ⟨a, b⟩ := hT.2 c Fc hM; (⟨a, b.ex⟩ : _ ∧ _)
    obtain ⟨a, dd, od, rfl, J⟩ := ob_inst I r2
    cases (show u = Value.ref a from ry)
    have hd : (PySem.W.instObj (W.C c) dd).data = .plain := rfl
    obtain ⟨tb, h1, h2, h3, h4, h5, _⟩ := oth_rep (X := mkX W L.N R) rfl I J hd E hs r1 rx ho
    refine PMQ.rc_right (K := W.K) hr.units0 h5 I.kIn J h1 h3 hm.at_ hm.fn (h4 _) ?_
    refine wpAny_mono (own_call (x := .ob c xs) (y := dx) G hb hr rfl F.grd I hs r2 r1 ry rx e1 (P' := fun H' => Q (.bl b) H') fun H' ph' st => p _ _ _ st rfl) (fun w s' z => ?_) fun _ _ x => x
    obtain ⟨rfl, H', I', q⟩ := z
    exact ⟨.bl b, H', I', rfl, q⟩
  have base : eqD dx dy m = some d → wpAny (model W.P W.w) R.A (compareOp .Eq v u) (EP (mkX W L.N R) pins σ Q) R.xe s := fun e => op2_eq R F pins s σ H x y v u Q I rx ry ⟨ph, m, dx, dy, d, hs, r1, r2, e, p⟩
  unfold eqMD at e
  split at e
  · rename_i c xs
    split at e
    · rename_i Fc hM
      split at e
      · rename_i c' ys
        split at e
        · rename_i hc
          exact own c xs Fc rfl hM e (.inl ⟨_, _, rfl, hc⟩)
        · cases e
      · split at e
        · rename_i ho
          exact own c xs Fc rfl hM e (.inr ho)
        · cases e
    · cases e
  · split at e
    · rename_i c ys
      split at e
      · rename_i Fc hM
        split at e
        · rename_i ho
          exact refl c ys Fc rfl hM e ho
        · cases e
      · cases e
    · exact base e
theorem notO_some {o : Option D} {d : D} (h : notO o = some d) : ∃ b, o = some (.bl b) ∧ d = .bl (!b) := by
  unfold notO at h
  split at h
  · cases h; exact ⟨_, rfl, rfl⟩
  · cases h
theorem op2_neM (hT : EqT W k n fn ex M) (hk : k + 1 ≤ L.k := by decide) (hcl : L.calm = true := by rfl) : Op2 W L (compareOp .NotEq) (neMD n ex M) := by
  intro R F pins s σ H x y v u Q I rx ry q
  obtain ⟨ph, m, dx, dy, d, hs, r1, r2, e, p⟩ := q
  have hr : Room (k + 1) R.A := (F.room hcl).mono hk
  have hr1 : Room k R.A.in1 := hr.in1
  have own : ∀ c xs Fc, dx = .ob c xs → M c = some Fc → notO (callB Fc dx dy m) = some d → (∃ c' ys, dy = .ob c' ys ∧ c' < n) ∨ othD n ex dy m = true → wpAny (model W.P W.w) R.A (compareOp .NotEq v u) (EP (mkX W L.N R) pins σ Q) R.xe s := by
    intro c xs Fc ex hM e ho
    subst ex
    obtain ⟨b, e0, rfl⟩ := notO_some e
    obtain ⟨b', hb', e1⟩ := callB_some e0
    cases hb'
    obtain ⟨E, f, fd, ps, hm, G, hb⟩ := let ⟨a, b⟩ := hT.2 c Fc hM; (⟨a, b.ex⟩ : _ ∧ _)
    obtain ⟨a, dd, od, rfl, J⟩ := ob_inst I r1
    cases (show v = Value.ref a from rx)
    have hd : (PySem.W.instObj (W.C c) dd).data = .plain := rfl
    have ty : ∃ tb, PySem.W.Looks (model W.P W.w) s.heap (typeOf u) tb ∧ PySem.W.notFirst W.K (W.C c) tb = true := by
      rcases ho with ⟨c', ys, rfl, hc⟩ | ho
      · obtain ⟨a', dd', od', rfl, J'⟩ := ob_inst I r2
        cases (show u = Value.ref a' from ry)
        exact ⟨_, J'.type, E.own c' hc⟩
      · obtain ⟨tb, h1, h2, _⟩ := oth_rep (X := mkX W L.N R) rfl I J hd E hs r2 ry ho
        exact ⟨tb, h1, h2⟩
    obtain ⟨tb, h1, h2⟩ := ty
    refine PMQ.rc_ne_own (K := W.K) (f := f) (by have := hr.un; show R.A.units + 1 < cLine; omega) I.kIn J h1 h2 E.hm hm.at_ hm.fn E.hne ?_
    refine wpAny_mono (own_call (x := .ob c xs) (y := dy) G hb hr1 rfl F.grd I hs r1 r2 rx ry e1 (P' := fun H' => Q (.bl (!b)) H') fun H' ph' st => p _ _ _ st rfl) (fun w s' z => ?_) fun _ _ x => x
    obtain ⟨rfl, H', I', q⟩ := z
    exact ⟨b, rfl, .bl (!b), H', I', rfl, q⟩
  have base : neD dx dy m = some d → wpAny (model W.P W.w) R.A (compareOp .NotEq v u) (EP (mkX W L.N R) pins σ Q) R.xe s := fun e => op2_ne R F pins s σ H x y v u Q I rx ry ⟨ph, m, dx, dy, d, hs, r1, r2, e, p⟩
  unfold neMD at e
  split at e
  · rename_i c xs
    split at e
    · rename_i Fc hM
      split at e
      · rename_i c' ys
        split at e
        · rename_i hc
          exact own c xs Fc rfl hM e (.inl ⟨_, _, rfl, hc⟩)
        · cases e
      · split at e
        · rename_i ho
          exact own c xs Fc rfl hM e (.inr ho)
        · cases e
    · cases e
  · split at e
    · cases e
    · exact base e
theorem eqMD_bl (x y : D) (m : Sto) (d : D) (h : eqMD n ex M x y m = some d) : ∃ b, d = .bl b := by
  unfold eqMD at h
  split at h
  · split at h
    · split at h
      · split at h
        · obtain ⟨b, h, _⟩ := callB_some h; exact ⟨b, h⟩
        · cases h
      · split at h
        · obtain ⟨b, h, _⟩ := callB_some h; exact ⟨b, h⟩
        · cases h
    · cases h
  · split at h
    · split at h
      · split at h
        · obtain ⟨b, h, _⟩ := callB_some h; exact ⟨b, h⟩
        · cases h
      · cases h
    · exact eqD_bl _ _ _ _ h
theorem neMD_bl (x y : D) (m : Sto) (d : D) (h : neMD n ex M x y m = some d) : ∃ b, d = .bl b := by
  unfold neMD at h
  split at h
  · split at h
    · split at h
      · split at h
        · obtain ⟨b, _, h⟩ := notO_some h; exact ⟨_, h⟩
        · cases h
      · split at h
        · obtain ⟨b, _, h⟩ := notO_some h; exact ⟨_, h⟩
        · cases h
    · cases h
  · split at h
    · cases h
    · exact neD_bl _ _ _ _ h
end
end PM

/-! PMQ2: x in a list, by own ==. -/
namespace PMQ
open PySem PySem.Spec PyProof.Rows PySem.SeqAt
open AutoSeq1 (wpAny_loadPart')
open MeetsSeq MeetsSeq2 MeetsSeq3 SeqRoads2
section
variable {prog : Program} {w : World} {A : Around} {E : Value → Shared → Prop} {s : Shared} {R : Result → Shared → Prop}
theorem eqBool_right {u : Value} {x : Addr} {Q : Bool → Shared → Prop} (hne : u ≠ .ref x) (h : wpAny (model prog w) A (richCompare .Eq u (.ref x)) (fun v s' => ∃ r, v = .bool r ∧ Q r s') E s) : wpAny (model prog w) A (eqBool u (.ref x)) Q E s := by
  unfold eqBool
  refine wpAny_holding ?_
  refine wpAny_ite_split (fun hab => absurd (eq_of_beq hab) hne) (fun _ => ?_)
  cases u <;> (
    refine wpAny_bind (wpAny_mono h (fun v s' hv => ?_) fun _ _ x => x)
    obtain ⟨r, rfl, q⟩ := hv
    exact wpAny_truthy_bool q)
theorem eqBool_left {u : Value} {x : Addr} {Q : Bool → Shared → Prop} (hne : u ≠ .ref x) (h : wpAny (model prog w) A (richCompare .Eq (.ref x) u) (fun v s' => ∃ r, v = .bool r ∧ Q r s') E s) : wpAny (model prog w) A (eqBool (.ref x) u) Q E s := by
  unfold eqBool
  refine wpAny_holding ?_
  refine wpAny_ite_split (fun hab => absurd (eq_of_beq hab).symm hne) (fun _ => ?_)
  cases u <;> (
    refine wpAny_bind (wpAny_mono h (fun v s' hv => ?_) fun _ _ x => x)
    obtain ⟨r, rfl, q⟩ := hv
    exact wpAny_truthy_bool q)
def ListC (prog : Program) (w : World) (A : Around) (E : Value → Shared → Prop) (l : Addr) (x : Value) (N : Nat) (e : Nat → Bool) (I : Nat → Shared → Prop) : Prop :=
  ∀ i s, I i s → ∃ (items : Array Value) (n : Nat), s.heap.get? l = some { cls := .type "list", data := .seq items n } ∧ items.size = N ∧
    ∀ (h1 : i < items.size), wpAny (model prog w) A.in1 (eqBool items[i] x) (fun r s' => r = e i ∧ I (i + 1) s') E s
theorem in_loopG (l : Addr) (x : Value) (N : Nat) (e an : Nat → Bool) (h0 : an N = false) (hS : ∀ i, i < N → an i = (e i || an (i + 1))) (I : Nat → Shared → Prop) (hl : ListC prog w A (fun e s' => R (.error e) s') l x N e I)
    (fin : ∀ i s, I i s → R (.ok (.ret (.bool (an 0)))) s) (k : Nat) :
    ∀ i : Nat, N - i = k → i ≤ N → an i = an 0 → ∀ s, I i s →
      wpAny (model prog w) A.in1 (Builtin.«list.__contains__.loop» ⟨[.ref l, x, rawInt i], []⟩) (GQ.FinOf prog w A R) (fun e s' => R (.error e) s') s := by
  induction k with
  | zero =>
    intro i hk hi ha s h
    obtain ⟨items, n, hl1, hs1, _⟩ := hl _ _ h
    have hi' : i = N := by omega
    have hR : R (.ok (.ret (.bool (an 0)))) s := fin i s h
    rw [← ha, hi', h0] at hR
    obtain ⟨hp, g, d, tk, os⟩ := s
    wp_walk using wpAny_loadPart' hl1
    have hi1 : items[((i : Nat) : Int).toNat]? = none := by simp; omega
    rw [hi1]
    wp_walk
    exact hR
  | succ k ih =>
    intro i hk hi ha s h
    obtain ⟨items, n, hl1, hs1, turn⟩ := hl _ _ h
    have hlt : i < items.size := by omega
    have ht := turn hlt
    obtain ⟨hp, g, d, tk, os⟩ := s
    wp_walk using wpAny_loadPart' hl1
    have hi1 : items[((i : Nat) : Int).toNat]? = some items[i] := by simp [hlt]
    have hc : ((i : Int) + 1) = ((i + 1 : Nat) : Int) := by omega
    rw [hi1]
    refine wpAny_bind (wpAny_mono ht (fun r s2 h2 => ?_) fun _ _ x => x)
    obtain ⟨hr, h2⟩ := h2
    have hR := fin _ _ h2
    have hA := hS i (by omega)
    cases q : e i with
    | true =>
      rw [q] at hr hA
      subst hr
      rw [← ha, hA] at hR
      obtain ⟨hp2, g2, d2, tk2, os2⟩ := s2
      wp_walk
      exact hR
    | false =>
      rw [q] at hr hA
      subst hr
      have hrec := ih (i + 1) (by omega) (by omega) (by rw [← ha, hA]; rfl) s2 h2
      obtain ⟨hp2, g2, d2, tk2, os2⟩ := s2
      wp_walk
      rw [hc]
      exact ⟨plainId_quiet plain_contains_loop _, codeAny_builtin entry_contains_loop (by
        rw [Around.under_plainId plain_contains_loop _]
        exact hrec)⟩
theorem list_inG (l : Addr) (x : Value) (N : Nat) (e an : Nat → Bool) (h0 : an N = false) (hS : ∀ i, i < N → an i = (e i || an (i + 1))) (I : Nat → Shared → Prop) (hl : ListC prog w A (fun e s' => R (.error e) s') l x N e I)
    (fin : ∀ i s, I i s → R (.ok (.ret (.bool (an 0)))) s) (h : I 0 s) : wpAny (model prog w) A.in1 (Builtin.«list.__contains__» ⟨[.ref l, x], []⟩) (GQ.FinOf prog w A R) (fun e s' => R (.error e) s') s := by
  obtain ⟨items, n, hl1, hs1, _⟩ := hl _ _ h
  have hrec := in_loopG (A := A) (R := R) l x N e an h0 hS I hl fin _ 0 rfl (Nat.zero_le _) rfl s h
  obtain ⟨hp, g, d, tk, os⟩ := s
  wp_walk using wpAny_loadPart' hl1
  exact ⟨plainId_quiet plain_contains_loop _, codeAny_builtin entry_contains_loop (by
    rw [Around.under_plainId plain_contains_loop _]
    exact hrec)⟩
end
end PMQ
namespace PM
open PySem PySem.Spec L2 PyProof.Rows
def blO : Option D → Option Bool
  | some (.bl b) => some b
  | _ => none
theorem blO_some {o : Option D} {b : Bool} (h : blO o = some b) : o = some (.bl b) := by
  unfold blO at h
  split at h
  · cases h; rfl
  · cases h
noncomputable def pairM (n : Nat) (ex : Nat → Bool) (M : Nat → Option FD) (d x : D) (m : Sto) : Option Bool :=
  if flatD d = true ∧ flatD x = true then some (eqF d x) else match d with
    | .ob c _ => match M c with
      | some F => if flatD x = true then blO (callB F d x m) else none
      | none => none
    | _ => match x with
      | .ob c _ => match M c with
        | some F => if othD n ex d m = true then blO (callB F x d m) else none
        | none => none
      | _ => none
noncomputable def anyM (n : Nat) (ex : Nat → Bool) (M : Nat → Option FD) (x : D) (m : Sto) : List D → Option Bool
  | [] => some false
  | d :: ds => match pairM n ex M d x m, anyM n ex M x m ds with
    | some b, some c => some (b || c)
    | _, _ => none
noncomputable def inMD (n : Nat) (ex : Nat → Bool) (M : Nat → Option FD) (x y : D) (m : Sto) : Option D := match lstOf y m with
  | some ds => (anyM n ex M x m ds).map .bl
  | none => none
theorem oth_flat {n : Nat} {ex : Nat → Bool} {x : D} {m : Sto} (h : flatD x = true) : othD n ex x m = true := by
  cases x <;> first | rfl | cases h
theorem callB_bl {F : FD} {x y : D} {m : Sto} {b : Bool} (h : blO (callB F x y m) = some b) : F [x, y] m = some (.ok (.bl b) m) := by
  obtain ⟨b', e, h'⟩ := callB_some (blO_some h)
  cases e
  exact h'
section
variable {W : Wd} {ph ph1 : Plc} {H H1 : Hp} {m : Sto} {L : Lv} {R : Rst} {k n : Nat} {fn : Nat → List Str} {ex : Nat → Bool} {M : Nat → Option FD} {pins : List (Addr × Obj)} {s : Shared} {σ : L2.St}
theorem turnM {A : Around} {d x : D} {vd vx : V} {ud ux : Value} {b : Bool} (hT : EqT W k n fn ex M) (hr : Room k A) (hfr : A.frames = R.A.frames) (hg : A.guards = some W.gs) (I : Inv (mkX W L.N R) pins σ H1 s) (st : Ste W ph H ph1 H1 m)
    (r1 : Rep W ph1 H1 d vd) (r2 : Rep W ph1 H1 x vx) (rv1 : RelV vd ud) (rv2 : RelV vx ux) (e : pairM n ex M d x m = some b) :
    wpAny (model W.P W.w) A (eqBool ud ux) (fun r s' => r = b ∧ ∃ H' ph', Inv (mkX W L.N R) pins σ H' s' ∧ Ste W ph H ph' H' m) R.xe s := by
  have hs := st.sto
  obtain ⟨mF, hF⟩ := I.fr
  unfold pairM at e
  split at e
  · rename_i hf
    cases e
    have q := eqAt_V (A := A) (s := s) rv1 rv2 (flatD_rep hf.1 r1) (flatD_rep hf.2 r2)
    rw [eqF_rep hf.1 hf.2 r1 r2] at q
    exact q W.P W.w R.xe _ ⟨rfl, H1, ph1, I, st⟩
  · split at e
    · rename_i c xs _
      split at e
      · rename_i Fc hM
        split at e
        · rename_i hx
          have e1 := callB_bl e
          obtain ⟨E, f, fd, ps, hm, G, hb⟩ := let ⟨a, b⟩ := hT.2 c Fc hM; (⟨a, b.ex⟩ : _ ∧ _)
          obtain ⟨a, dd, od, rfl, J⟩ := ob_inst I r1
          cases (show ud = Value.ref a from rv1)
          obtain ⟨tb, h1, h2, _, _, _, ne⟩ := oth_rep (X := mkX W L.N R) rfl I J rfl E hs r2 rv2 (oth_flat hx)
          refine PMQ.eqBool_left ne (PySem.W.cmp_K (op := .Eq) (tb := tb) hr.units0 hF I.ok.mod.kin J h1 h2 hm.at_ hm.fn ?_)
          refine wpAny_mono (own_call (x := .ob c xs) (y := x) G hb hr hfr hg I hs r1 r2 rv1 rv2 e1 (P' := fun H' => ∃ ph', Ste W ph H ph' H' m) fun H' ph' s' => ⟨ph', st.trans s'⟩) (fun w s' z => ?_) fun _ _ x => x
          obtain ⟨rfl, H', I', ph', q⟩ := z
          exact ⟨b, rfl, rfl, H', ph', I', q⟩
        · cases e
      · cases e
    · split at e
      · rename_i c xs _
        split at e
        · rename_i Fc hM
          split at e
          · rename_i ho
            have e1 := callB_bl e
            obtain ⟨E, f, fd, ps, hm, G, hb⟩ := let ⟨a, b⟩ := hT.2 c Fc hM; (⟨a, b.ex⟩ : _ ∧ _)
            obtain ⟨a, dd, od, rfl, J⟩ := ob_inst I r2
            cases (show ux = Value.ref a from rv2)
            obtain ⟨tb, h1, h2, h3, h4, h5, ne⟩ := oth_rep (X := mkX W L.N R) rfl I J rfl E hs r1 rv1 ho
            refine PMQ.eqBool_right ne (PMQ.rc_right (K := W.K) hr.units0 h5 I.kIn J h1 h3 hm.at_ hm.fn (h4 _) ?_)
            refine wpAny_mono (own_call (x := .ob c xs) (y := d) G hb hr hfr hg I hs r2 r1 rv2 rv1 e1 (P' := fun H' => ∃ ph', Ste W ph H ph' H' m) fun H' ph' s' => ⟨ph', st.trans s'⟩) (fun w s' z => ?_) fun _ _ x => x
            obtain ⟨rfl, H', I', ph', q⟩ := z
            exact ⟨b, rfl, rfl, H', ph', I', q⟩
          · cases e
        · cases e
      · cases e
def bAt (n : Nat) (ex : Nat → Bool) (M : Nat → Option FD) (x : D) (m : Sto) (ds : List D) (i : Nat) : Prop := True
theorem anyM_at {x : D} : ∀ {ds : List D} {b : Bool}, anyM n ex M x m ds = some b → ∃ e : Nat → Bool, ∃ an : Nat → Bool, an 0 = b ∧ an ds.length = false ∧ (∀ i, i < ds.length → an i = (e i || an (i + 1))) ∧ ∀ (i : Nat) (d : D), ds[i]? = some d → pairM n ex M d x m = some (e i)
  | [], b, h => by
    cases h
    exact ⟨fun _ => false, fun _ => false, rfl, rfl, fun i hi => by simp at hi, fun i d e => by simp at e⟩
  | d :: ds, b, h => by
    unfold anyM at h
    split at h
    · rename_i b1 c1 q1 q2
      cases h
      obtain ⟨e, an, h0, h1, h2, h3⟩ := anyM_at q2
      refine ⟨fun i => if i = 0 then b1 else e (i - 1), fun i => if i = 0 then (b1 || c1) else an (i - 1), rfl, ?_, ?_, ?_⟩
      · simpa using h1
      · intro i hi
        cases i with
        | zero => simp [h0]
        | succ i =>
          simp only [Nat.add_one_ne_zero, if_false, Nat.add_sub_cancel]
          exact h2 i (by simpa using hi)
      · intro i d' hd
        cases i with
        | zero =>
          simp at hd
          subst hd
          simpa using q1
        | succ i =>
          simp at hd
          simpa using h3 i d' hd
    · cases h
theorem op2_inM (hT : EqT W k n fn ex M) (hk : k + 1 ≤ L.k := by decide) (hcl : L.calm = true := by rfl) : Op2 W L (compareOp .In) (inMD n ex M) := by
  intro R F pins s σ H x y v u Q I rx ry q
  obtain ⟨ph, m, dx, dy, d, hs, r1, r2, e, p⟩ := q
  have hr : Room (k + 1) R.A := (F.room hcl).mono hk
  unfold inMD at e
  split at e
  · rename_i ds ql
    cases qa : anyM n ex M dx m ds with
    | none => rw [qa] at e; cases e
    | some b =>
      rw [qa] at e
      cases e
      obtain ⟨ev, an, a0, a1, a2, a3⟩ := anyM_at qa
      obtain ⟨a, vs, rfl, hl, rl⟩ := lstOf_rep hs r2 ql
      cases (show u = Value.ref a from ry)
      have hlen := rl.length
      show wpAny _ R.A (do return Value.bool (← contains (.ref a) v)) _ _ s
      obtain ⟨_, its0, n0, rv0, e00⟩ := I.hok a _ hl
      have hT0 : s.TypeIs (.ref a) "list" := ⟨_, e00, rfl⟩
      have go : wpAny (model W.P W.w) R.A (call (.builtin "list.__contains__") [.ref a, v]) (fun w s' => ∃ H' ph', w = .bool b ∧ Inv (mkX W L.N R) pins σ H' s' ∧ Ste W ph H ph' H' m) R.xe s := by
        refine GQ.call_here PySem.F.slot_list_contains hT0 PySem.F.entry_list_contains (PySem.F.args_list_contains_2 _ _) ?_
        refine PMQ.list_inG (R := wants (fun w s' => ∃ H' ph', w = .bool b ∧ Inv (mkX W L.N R) pins σ H' s' ∧ Ste W ph H ph' H' m) R.xe) a v ds.length ev an a1 a2 (fun _ s' => ∃ H' ph', Inv (mkX W L.N R) pins σ H' s' ∧ Ste W ph H ph' H' m) ?_ ?_ ⟨H, ph, I, .refl hs⟩
        · rintro i s' ⟨H', ph', I', st⟩
          obtain ⟨a', vs', e', hl', rl'⟩ := lstOf_rep st.sto (Rep.mono st _ _ r2) ql
          cases e'
          obtain ⟨_, its, n1, rv, e1⟩ := I'.hok a _ hl'
          have hl2 := rl'.length
          have hl3 := rv.length
          refine ⟨its.toArray, n1, e1, by rw [List.size_toArray]; omega, fun h1 => ?_⟩
          have k1 : i < its.length := by simpa using h1
          have k2 : i < ds.length := by omega
          obtain ⟨v', g1, g2⟩ := rl'.get (i := i) (d := ds[i]) (by simp [k2])
          obtain ⟨u', g3, g4⟩ := rv.get g1
          have g5 : its.toArray[i] = u' := by
            have : its[i]? = some its[i] := List.getElem?_eq_getElem k1
            rw [g3] at this
            simpa using (Option.some.inj this).symm
          rw [g5]
          exact turnM hT hr.in1 rfl F.grd I' st g2 (Rep.mono st _ _ r1) g4 rx (a3 i _ (by simp [k2]))
        · rintro i s' ⟨H', ph', I', st⟩
          exact ⟨H', ph', by rw [a0], I', st⟩
      refine wpAny_bind (wpAny_contains_slot hT0 PySem.F.slot_list_contains (wpAny_mono go (fun w s' hv => ?_) fun _ _ e => e))
      obtain ⟨H', ph', rfl, I', st⟩ := hv
      exact wpAny_truthy_bool (wpAny_pure ⟨.bl b, H', I', rfl, p _ _ _ st rfl⟩)
  · cases e
theorem inMD_bl (x y : D) (m : Sto) (d : D) (h : inMD n ex M x y m = some d) : ∃ b, d = .bl b := by
  unfold inMD at h
  split at h
  · rename_i ds _
    cases q : anyM n ex M x m ds with
    | none => rw [q] at h; cases h
    | some b => rw [q] at h; cases h; exact ⟨_, rfl⟩
  · cases h
theorem eqT_of (hO : ObF W.toWk n fn) (hM : MtF W k n fn "__eq__" 1 M) (hE : ∀ c, c < n → EqC W.toWk n ex c) : EqT W k n fn ex M := ⟨hO.cl, fun c F h => ⟨hE c (hM c F h).1, (hM c F h).2.2⟩⟩
end
/-! the plain calculus -/
section
variable {n : Nat} {ex : Nat → Bool} {M : Nat → Option FD} {c c' : Nat} {xs ys : List D} {m : Sto} {F : FD} {y : D} {b : Bool}
theorem eqMD_oo (hM : M c = some F) (hc : c' < n) (h : F [.ob c xs, .ob c' ys] m = some (.ok (.bl b) m)) : eqMD n ex M (.ob c xs) (.ob c' ys) m = some (.bl b) := by
  simp only [eqMD, hM, hc, if_true]
  exact callB_ok h
theorem eqMD_ol (hM : M c = some F) (hy : othD n ex y m = true) (h : F [.ob c xs, y] m = some (.ok (.bl b) m)) : eqMD n ex M (.ob c xs) y m = some (.bl b) := by
  cases y <;> simp only [eqMD, hM, hy, if_true] <;> first | exact callB_ok h | cases hy
theorem eqMD_lo (hM : M c = some F) (hy : othD n ex y m = true) (h : F [.ob c xs, y] m = some (.ok (.bl b) m)) : eqMD n ex M y (.ob c xs) m = some (.bl b) := by
  cases y <;> simp only [eqMD, hM, hy, if_true] <;> first | exact callB_ok h | cases hy
theorem neMD_oo (hM : M c = some F) (hc : c' < n) (h : F [.ob c xs, .ob c' ys] m = some (.ok (.bl b) m)) : neMD n ex M (.ob c xs) (.ob c' ys) m = some (.bl (!b)) := by
  simp only [neMD, hM, hc, if_true]
  rw [callB_ok h]; rfl
end
end PM

/-! PMW: what a piece of plain semantics gives, read from its end. -/
namespace PM
open PySem PySem.Spec L2 PyProof.Rows
def Run {α : Type} (o : Option α) (P : α → Prop) : Prop := ∃ r, o = some r ∧ P r
@[simp] theorem run_some {α : Type} (r : α) (P : α → Prop) : Run (some r) P ↔ P r := ⟨fun ⟨_, e, h⟩ => by cases e; exact h, fun h => ⟨r, rfl, h⟩⟩
@[simp] theorem run_none {α : Type} (P : α → Prop) : Run none P ↔ False := ⟨fun ⟨_, e, _⟩ => (by cases e), False.elim⟩
@[simp] theorem run_if {α : Type} (c : Prop) [Decidable c] (x : α) (P : α → Prop) : Run (if c then some x else none) P ↔ c ∧ P x := by
  split <;> simp_all
@[simp] theorem run_map {α β : Type} (o : Option α) (f : α → β) (P : β → Prop) : Run (o.map f) P ↔ Run o fun x => P (f x) := by
  cases o <;> simp
theorem Run.imp {α : Type} {o : Option α} {P Q : α → Prop} (h : Run o P) (hi : ∀ r, P r → Q r) : Run o Q := let ⟨r, e, h⟩ := h; ⟨r, e, hi r h⟩
theorem Run.of {α : Type} {o : Option α} {r : α} {P : α → Prop} (e : o = some r) (h : P r) : Run o P := ⟨r, e, h⟩
def resC (K : D → Sto → Prop) (X : Nat → D → Sto → Prop) : Res → Prop
  | .ok d m => K d m
  | .exn c d m => X c d m
@[simp] theorem resC_ok (K : D → Sto → Prop) (X : Nat → D → Sto → Prop) (d : D) (m : Sto) : resC K X (.ok d m) = K d m := rfl
@[simp] theorem resC_exn (K : D → Sto → Prop) (X : Nat → D → Sto → Prop) (c : Nat) (d : D) (m : Sto) : resC K X (.exn c d m) = X c d m := rfl
def reslC (K : List D → Sto → Prop) (X : Nat → D → Sto → Prop) : ResL → Prop
  | .ok d m => K d m
  | .exn c d m => X c d m
@[simp] theorem reslC_ok (K : List D → Sto → Prop) (X : Nat → D → Sto → Prop) (d : List D) (m : Sto) : reslC K X (.ok d m) = K d m := rfl
@[simp] theorem reslC_exn (K : List D → Sto → Prop) (X : Nat → D → Sto → Prop) (c : Nat) (d : D) (m : Sto) : reslC K X (.exn c d m) = X c d m := rfl
def resiC (K : List D → Option (Nat × List D) → Sto → Prop) (X : Nat → D → Sto → Prop) : ResI → Prop
  | .ok d w m => K d w m
  | .exn c d m => X c d m
@[simp] theorem resiC_ok (K : List D → Option (Nat × List D) → Sto → Prop) (X : Nat → D → Sto → Prop) (d : List D) (w : Option (Nat × List D)) (m : Sto) : resiC K X (.ok d w m) = K d w m := rfl
@[simp] theorem resiC_exn (K : List D → Option (Nat × List D) → Sto → Prop) (X : Nat → D → Sto → Prop) (c : Nat) (d : D) (m : Sto) : resiC K X (.exn c d m) = X c d m := rfl
def seqC (K : Nv → Sto → Prop) (P : Out → Prop) : Out → Prop
  | .nx e m => K e m
  | o => P o
@[simp] theorem seqC_nx (K : Nv → Sto → Prop) (P : Out → Prop) (e : Nv) (m : Sto) : seqC K P (.nx e m) = K e m := rfl
@[simp] theorem seqC_rt (K : Nv → Sto → Prop) (P : Out → Prop) (d : D) (m : Sto) : seqC K P (.rt d m) = P (.rt d m) := rfl
@[simp] theorem seqC_exn (K : Nv → Sto → Prop) (P : Out → Prop) (e : Nv) (c : Nat) (d : D) (m : Sto) : seqC K P (.exn e c d m) = P (.exn e c d m) := rfl
@[simp] theorem seqC_bk (K : Nv → Sto → Prop) (P : Out → Prop) (e : Nv) (m : Sto) : seqC K P (.bk e m) = P (.bk e m) := rfl
@[simp] theorem seqC_ct (K : Nv → Sto → Prop) (P : Out → Prop) (e : Nv) (m : Sto) : seqC K P (.ct e m) = P (.ct e m) := rfl
def loopC (K : Nv → Sto → Prop) (P : Out → Prop) : Out → Prop
  | .nx e m => K e m
  | .ct e m => K e m
  | .bk e m => P (.nx e m)
  | o => P o
@[simp] theorem loopC_nx (K : Nv → Sto → Prop) (P : Out → Prop) (e : Nv) (m : Sto) : loopC K P (.nx e m) = K e m := rfl
@[simp] theorem loopC_rt (K : Nv → Sto → Prop) (P : Out → Prop) (d : D) (m : Sto) : loopC K P (.rt d m) = P (.rt d m) := rfl
@[simp] theorem loopC_exn (K : Nv → Sto → Prop) (P : Out → Prop) (e : Nv) (c : Nat) (d : D) (m : Sto) : loopC K P (.exn e c d m) = P (.exn e c d m) := rfl
def finC (m : Sto) (P : Res → Prop) : Out → Prop
  | .nx _ m' => P (fin m .non m')
  | .rt d m' => P (fin m d m')
  | .exn _ c d m' => P (.exn c d m')
  | _ => False
@[simp] theorem finC_nx (m : Sto) (P : Res → Prop) (e : Nv) (m' : Sto) : finC m P (.nx e m') = P (fin m .non m') := rfl
@[simp] theorem finC_rt (m : Sto) (P : Res → Prop) (d : D) (m' : Sto) : finC m P (.rt d m') = P (fin m d m') := rfl
@[simp] theorem finC_exn (m : Sto) (P : Res → Prop) (e : Nv) (c : Nat) (d : D) (m' : Sto) : finC m P (.exn e c d m') = P (.exn c d m') := rfl
section
variable {env : Nv} {m : Sto} {P : Res → Prop} {PL : ResL → Prop} {PI : ResI → Prop} {PO : Out → Prop} {a b c f t : FE} {fs gs : List FE} {g g1 g2 : FS} {i : Nat}
@[simp] theorem run_bnd {r : Option Res} {k : D → Sto → Option Res} : Run (bnd r k) P ↔ Run r (resC (fun d m => Run (k d m) P) fun c d m => P (.exn c d m)) := by
  cases r with
  | none => simp
  | some r => cases r <;> simp
@[simp] theorem run_bndl {r : Option ResL} {k : List D → Sto → Option Res} : Run (bndl r k) P ↔ Run r (reslC (fun d m => Run (k d m) P) fun c d m => P (.exn c d m)) := by
  cases r with
  | none => simp
  | some r => cases r <;> simp [bndl, reslC]
@[simp] theorem run_bnds {r : Option Res} {k : D → Sto → Option Out} : Run (bnds r env k) PO ↔ Run r (resC (fun d m => Run (k d m) PO) fun c d m => PO (.exn env c d m)) := by
  cases r with
  | none => simp
  | some r => cases r <;> simp
@[simp] theorem run_bndi {r : Option Res} {k : D → Sto → Option ResI} : Run (bndi r k) PI ↔ Run r (resC (fun d m => Run (k d m) PI) fun c d m => PI (.exn c d m)) := by
  cases r with
  | none => simp [bndi]
  | some r => cases r <;> simp [bndi]
@[simp] theorem run_bndil {r : Option ResL} {k : List D → Sto → Option ResI} : Run (bndil r k) PI ↔ Run r (reslC (fun d m => Run (k d m) PI) fun c d m => PI (.exn c d m)) := by
  cases r with
  | none => simp [bndil]
  | some r => cases r <;> simp [bndil, reslC]
@[simp] theorem run_out {o : Option D} : Run (out m o) P ↔ Run o fun d => P (.ok d m) := by
  cases o <;> simp
@[simp] theorem run_evL_nil : Run (evL [] env m) PL ↔ PL (.ok [] m) := by simp
@[simp] theorem run_evL_cons : Run (evL (f :: fs) env m) PL ↔ Run (f env m) (resC (fun d m1 => Run (evL fs env m1) (reslC (fun ds m2 => PL (.ok (d :: ds) m2)) fun c d m => PL (.exn c d m))) fun c d m => PL (.exn c d m)) := by
  rw [evL_cons]
  cases f env m with
  | none => simp [bndc]
  | some r =>
    cases r with
    | exn c d m => simp [bndc]
    | ok d m1 =>
      rw [bndc_ok, run_some, resC_ok]
      cases evL fs env m1 with
      | none => simp [consR]
      | some r => cases r <;> simp [consR, reslC]
@[simp] theorem run_var : Run (eVar i env m) P ↔ Run env[i]? fun o => Run o fun d => P (.ok d m) := by
  unfold eVar
  cases env[i]? with
  | none => simp
  | some o => cases o <;> simp
@[simp] theorem run_c {d : D} : Run (eC d env m) P ↔ P (.ok d m) := by simp [eC]
@[simp] theorem run_e1 {op : D → Sto → Option D} : Run (e1 op a env m) P ↔ Run (a env m) (resC (fun x m1 => Run (op x m1) fun d => P (.ok d m1)) fun c d m => P (.exn c d m)) := by
  unfold e1; simp only [run_bnd, run_out]
@[simp] theorem run_e2 {op : D → D → Sto → Option D} : Run (e2 op a b env m) P ↔ Run (a env m) (resC (fun x m1 => Run (b env m1) (resC (fun y m2 => Run (op x y m2) fun d => P (.ok d m2)) fun c d m => P (.exn c d m))) fun c d m => P (.exn c d m)) := by
  unfold e2; simp only [run_bnd, run_out]
@[simp] theorem run_eN {op : List D → Sto → Option D} : Run (eN op fs env m) P ↔ Run (evL fs env m) (reslC (fun ds m1 => Run (op ds m1) fun d => P (.ok d m1)) fun c d m => P (.exn c d m)) := by
  unfold eN; simp only [run_bndl, run_out]
@[simp] theorem run_call {F : FD} : Run (eCall F fs env m) P ↔ Run (evL fs env m) (reslC (fun ds m1 => Run (F ds m1) P) fun c d m => P (.exn c d m)) := by
  unfold eCall; simp only [run_bndl]
@[simp] theorem run_callK {F : FD} {as : List Sel} : Run (eCallK F as fs gs env m) P ↔ Run (evL fs env m) (reslC (fun ds m1 => Run (evL gs env m1) (reslC (fun es m2 => Run (F (as.map (selD ds es)) m2) P) fun c d m => P (.exn c d m))) fun c d m => P (.exn c d m)) := by
  unfold eCallK; simp only [run_bndl]
/-- a True or False decides -/
def blC (K : Bool → Sto → Prop) (X : Nat → D → Sto → Prop) : Res → Prop := resC (fun d m => ∃ b, d = .bl b ∧ K b m) X
@[simp] theorem blC_ok (K : Bool → Sto → Prop) (X : Nat → D → Sto → Prop) (b : Bool) (m : Sto) : blC K X (.ok (.bl b) m) ↔ K b m := ⟨fun ⟨_, e, h⟩ => by cases e; exact h, fun h => ⟨b, rfl, h⟩⟩
@[simp] theorem blC_exn (K : Bool → Sto → Prop) (X : Nat → D → Sto → Prop) (c : Nat) (d : D) (m : Sto) : blC K X (.exn c d m) = X c d m := rfl
@[simp] theorem run_and : Run (eAnd a b env m) P ↔ Run (a env m) (blC (fun k m1 => Run (if k = true then b env m1 else some (.ok (.bl false) m1)) P) fun c d m => P (.exn c d m)) := by
  unfold eAnd blC
  rw [run_bnd]
  constructor
  · rintro ⟨r, e, h⟩
    refine ⟨r, e, ?_⟩
    cases r with
    | exn c d m => exact h
    | ok d m1 =>
      obtain ⟨o, e2, h2⟩ := h
      obtain ⟨k, rfl⟩ := bl_of_and e2
      refine ⟨k, rfl, ?_⟩
      cases k <;> exact ⟨o, by simpa using e2, h2⟩
  · rintro ⟨r, e, h⟩
    refine ⟨r, e, ?_⟩
    cases r with
    | exn c d m => exact h
    | ok d m1 =>
      obtain ⟨k, rfl, h2⟩ := h
      cases k <;> simpa using h2
@[simp] theorem run_or : Run (eOr a b env m) P ↔ Run (a env m) (blC (fun k m1 => Run (if k = true then some (.ok (.bl true) m1) else b env m1) P) fun c d m => P (.exn c d m)) := by
  unfold eOr blC
  rw [run_bnd]
  constructor
  · rintro ⟨r, e, h⟩
    refine ⟨r, e, ?_⟩
    cases r with
    | exn c d m => exact h
    | ok d m1 =>
      obtain ⟨o, e2, h2⟩ := h
      obtain ⟨k, rfl⟩ := bl_of_or e2
      refine ⟨k, rfl, ?_⟩
      cases k <;> exact ⟨o, by simpa using e2, h2⟩
  · rintro ⟨r, e, h⟩
    refine ⟨r, e, ?_⟩
    cases r with
    | exn c d m => exact h
    | ok d m1 =>
      obtain ⟨k, rfl, h2⟩ := h
      cases k <;> simpa using h2
@[simp] theorem run_notV : Run (eNotV a env m) P ↔ Run (a env m) (blC (fun k m1 => P (.ok (.bl (!k)) m1)) fun c d m => P (.exn c d m)) := by
  unfold eNotV blC
  rw [run_bnd]
  constructor
  · rintro ⟨r, e, h⟩
    refine ⟨r, e, ?_⟩
    cases r with
    | exn c d m => exact h
    | ok d m1 =>
      obtain ⟨o, e2, h2⟩ := h
      cases d <;> first | cases e2; done | skip
      cases e2
      exact ⟨_, rfl, h2⟩
  · rintro ⟨r, e, h⟩
    refine ⟨r, e, ?_⟩
    cases r with
    | exn c d m => exact h
    | ok d m1 =>
      obtain ⟨k, rfl, h2⟩ := h
      simpa using h2
@[simp] theorem run_not : Run (eNot a env m) P ↔ Run (a env m) (resC (fun d m1 => Run (truth d m1) fun k => P (.ok (.bl (!k)) m1)) fun c d m => P (.exn c d m)) := by
  unfold eNot
  rw [run_bnd]
  constructor
  · rintro ⟨r, e, h⟩
    refine ⟨r, e, ?_⟩
    cases r with
    | exn c d m => exact h
    | ok d m1 =>
      obtain ⟨o, e2, h2⟩ := h
      cases q : truth d m1 with
      | none => simp only [q] at e2; cases e2
      | some k => simp only [q] at e2; cases e2; exact ⟨k, q, h2⟩
  · rintro ⟨r, e, h⟩
    refine ⟨r, e, ?_⟩
    cases r with
    | exn c d m => exact h
    | ok d m1 =>
      obtain ⟨k, q, h2⟩ := h
      exact ⟨_, by simp only [q], h2⟩
@[simp] theorem run_if3 : Run (eIf t a b env m) P ↔ Run (t env m) (resC (fun d m1 => Run (truth d m1) fun k => Run (if k = true then a env m1 else b env m1) P) fun c d m => P (.exn c d m)) := by
  unfold eIf
  rw [run_bnd]
  constructor
  · rintro ⟨r, e, h⟩
    refine ⟨r, e, ?_⟩
    cases r with
    | exn c d m => exact h
    | ok d m1 =>
      obtain ⟨o, e2, h2⟩ := h
      cases q : truth d m1 with
      | none => simp only [q] at e2; cases e2
      | some k => simp only [q] at e2; exact ⟨k, q, by cases k <;> exact ⟨o, by simpa using e2, h2⟩⟩
  · rintro ⟨r, e, h⟩
    refine ⟨r, e, ?_⟩
    cases r with
    | exn c d m => exact h
    | ok d m1 =>
      obtain ⟨k, q, o, e2, h2⟩ := h
      refine ⟨o, ?_, h2⟩
      simp only [q]
      cases k <;> simpa using e2
@[simp] theorem run_chain {o1 o2 : D → D → Sto → Option D} : Run (eChain o1 o2 a b c env m) P ↔ Run (a env m) (resC (fun x m1 => Run (b env m1) (resC (fun y m2 => Run (o1 x y m2) fun d => ∃ k, d = .bl k ∧ Run (if k = true then e2 (fun _ z m => o2 y z m) (eC .non) c env m2 else some (.ok (.bl false) m2)) P) fun c d m => P (.exn c d m))) fun c d m => P (.exn c d m)) := by
  unfold eChain
  simp only [run_bnd]
  constructor
  · rintro ⟨r, e, h⟩
    refine ⟨r, e, ?_⟩
    cases r with
    | exn c d m => exact h
    | ok d m1 =>
      obtain ⟨r2, e2, h2⟩ := h
      refine ⟨r2, e2, ?_⟩
      cases r2 with
      | exn c d m => exact h2
      | ok y m2 =>
        obtain ⟨o, e3, h3⟩ := h2
        obtain ⟨k, hk⟩ := bl_of_chain e3
        rw [hk] at e3
        refine ⟨_, hk, k, rfl, ?_⟩
        cases k with
        | true => exact ⟨o, by simpa [PM.e2, eC] using e3, h3⟩
        | false => exact ⟨o, by simpa using e3, h3⟩
  · rintro ⟨r, e, h⟩
    refine ⟨r, e, ?_⟩
    cases r with
    | exn c d m => exact h
    | ok d m1 =>
      obtain ⟨r2, e2, h2⟩ := h
      refine ⟨r2, e2, ?_⟩
      cases r2 with
      | exn c d m => exact h2
      | ok y m2 =>
        obtain ⟨d, hd, k, rfl, o, e3, h3⟩ := h2
        refine ⟨o, ?_, h3⟩
        rw [hd]
        cases k with
        | true => simpa [PM.e2, eC] using e3
        | false => simpa using e3
@[simp] theorem run_mk {c : Nat} : Run (eMk c a env m) P ↔ Run (a env m) (resC (fun d m1 => P (.ok (.exc c d) m1)) fun c d m => P (.exn c d m)) := by
  unfold eMk; simp only [run_bnd, run_some]
@[simp] theorem run_newL : Run (eNewL fs env m) P ↔ Run (evL fs env m) (reslC (fun ds m1 => ds.length ≤ 100000 ∧ P (.ok (.loc m1.length) (m1 ++ [.lst ds]))) fun c d m => P (.exn c d m)) := by
  unfold eNewL; simp only [run_bndl, run_if]
@[simp] theorem run_newD : Run (eNewD env m) P ↔ P (.ok (.loc m.length) (m ++ [.dct []])) := by simp [eNewD]
@[simp] theorem run_newD1 {k : Key} {d : D} : Run (eNewD1 k d env m) P ↔ P (.ok (.loc m.length) (m ++ [.dct [(k, d)]])) := by simp [eNewD1]
@[simp] theorem run_sl {lo hi : Option FE} : Run (eSl f lo hi env m) P ↔ Run (f env m) (resC (fun x m1 => Run (bndp lo env m1 fun l m2 => bndp hi env m2 fun h m3 => out m3 (slD x l h m3)) P) fun c d m => P (.exn c d m)) := by
  unfold eSl; simp only [run_bnd]
@[simp] theorem run_bndp_none {k : Option Int → Sto → Option Res} : Run (bndp none env m k) P ↔ Run (k none m) P := by simp
def intC (K : Int → Sto → Prop) (X : Nat → D → Sto → Prop) : Res → Prop := resC (fun d m => ∃ i, d = .int i ∧ K i m) X
@[simp] theorem intC_ok (K : Int → Sto → Prop) (X : Nat → D → Sto → Prop) (i : Int) (m : Sto) : intC K X (.ok (.int i) m) ↔ K i m := ⟨fun ⟨_, e, h⟩ => by cases e; exact h, fun h => ⟨i, rfl, h⟩⟩
@[simp] theorem intC_exn (K : Int → Sto → Prop) (X : Nat → D → Sto → Prop) (c : Nat) (d : D) (m : Sto) : intC K X (.exn c d m) = X c d m := rfl
@[simp] theorem run_bndp_some {k : Option Int → Sto → Option Res} : Run (bndp (some f) env m k) P ↔ Run (f env m) (intC (fun i m1 => Run (k (some i) m1) P) fun c d m => P (.exn c d m)) := by
  unfold bndp intC
  simp only [run_bnd]
  constructor
  · rintro ⟨r, e, h⟩
    refine ⟨r, e, ?_⟩
    cases r with
    | exn c d m => exact h
    | ok d m1 =>
      obtain ⟨o, e2, h2⟩ := h
      cases d <;> first | cases e2; done | skip
      exact ⟨_, rfl, o, e2, h2⟩
  · rintro ⟨r, e, h⟩
    refine ⟨r, e, ?_⟩
    cases r with
    | exn c d m => exact h
    | ok d m1 =>
      obtain ⟨i, rfl, h2⟩ := h
      exact h2
/-! statements -/
@[simp] theorem run_seq : Run (sSeq g1 g2 env m) PO ↔ Run (g1 env m) (seqC (fun e m => Run (g2 e m) PO) PO) := by
  unfold sSeq
  cases g1 env m with
  | none => simp
  | some o => cases o <;> simp [seqO]
@[simp] theorem run_next : Run (sNext env m) PO ↔ PO (.nx env m) := by simp [sNext]
@[simp] theorem run_set : Run (sSet i f env m) PO ↔ Run (f env m) (resC (fun d m1 => PO (.nx (env.set i (some d)) m1)) fun c d m => PO (.exn env c d m)) := by
  unfold sSet; simp only [run_bnds, run_some]
@[simp] theorem run_ret : Run (sRet f env m) PO ↔ Run (f env m) (resC (fun d m1 => PO (.rt d m1)) fun c d m => PO (.exn env c d m)) := by
  unfold sRet; simp only [run_bnds, run_some]
@[simp] theorem run_retN : Run (sRetN env m) PO ↔ PO (.rt .non m) := by simp [sRetN]
@[simp] theorem run_exp : Run (sExp f env m) PO ↔ Run (f env m) (resC (fun d m1 => PO (.nx env m1)) fun c d m => PO (.exn env c d m)) := by
  unfold sExp; simp only [run_bnds, run_some]
@[simp] theorem run_raise {c : Nat} : Run (sRaise c f env m) PO ↔ Run (f env m) (resC (fun d m1 => PO (.exn env c d m1)) fun c d m => PO (.exn env c d m)) := by
  unfold sRaise; simp only [run_bnds, run_some]
@[simp] theorem run_sif : Run (sIf t g1 g2 env m) PO ↔ Run (t env m) (resC (fun d m1 => Run (truth d m1) fun k => Run (if k = true then g1 env m1 else g2 env m1) PO) fun c d m => PO (.exn env c d m)) := by
  unfold sIf
  rw [run_bnds]
  constructor
  · rintro ⟨r, e, h⟩
    refine ⟨r, e, ?_⟩
    cases r with
    | exn c d m => exact h
    | ok d m1 =>
      obtain ⟨o, e2, h2⟩ := h
      cases q : truth d m1 with
      | none => simp only [q] at e2; cases e2
      | some k => simp only [q] at e2; exact ⟨k, q, by cases k <;> exact ⟨o, by simpa using e2, h2⟩⟩
  · rintro ⟨r, e, h⟩
    refine ⟨r, e, ?_⟩
    cases r with
    | exn c d m => exact h
    | ok d m1 =>
      obtain ⟨k, q, o, e2, h2⟩ := h
      refine ⟨o, ?_, h2⟩
      simp only [q]
      cases k <;> simpa using e2
@[simp] theorem run_par {is : List Nat} : Run (sPar is fs env m) PO ↔ Run (evL fs env m) (reslC (fun ds m1 => ds.length = is.length ∧ PO (.nx ((is.zip ds).foldl (fun e p => e.set p.1 (some p.2)) env) m1)) fun c d m => PO (.exn env c d m)) := by
  unfold sPar
  cases evL fs env m with
  | none => simp
  | some r => cases r <;> simp [reslC]
@[simp] theorem run_asg {gt : FT} : Run (sAsg gt f env m) PO ↔ Run (f env m) (resC (fun d m1 => Run (gt d env m1) fun e => PO (.nx e m1)) fun c d m => PO (.exn env c d m)) := by
  unfold sAsg; simp only [run_bnds, run_map]
@[simp] theorem run_store {fo fi fv : FE} : Run (sStore fo fi fv env m) PO ↔ Run (fv env m) (resC (fun z m1 => Run (fo env m1) (resC (fun x m2 => Run (fi env m2) (resC (fun y m3 => Run (stoD x y z m3) fun m4 => PO (.nx env m4)) fun c d m => PO (.exn env c d m))) fun c d m => PO (.exn env c d m))) fun c d m => PO (.exn env c d m)) := by
  unfold sStore; simp only [run_bnds, run_map]
@[simp] theorem run_for {it : FI} {gt : FT} : Run (sFor it gt g env m) PO ↔ Run (it env m) (resiC (fun ds w m1 => Run (forD gt g w ds env m1) PO) fun c d m => PO (.exn env c d m)) := by
  unfold sFor
  cases it env m with
  | none => simp
  | some r => cases r <;> simp [resiC]
theorem run_fn {np nN : Nat} {ds : List D} (h : ds.length = np) : Run (mkFn np nN g ds m) P ↔ Run (g (ds.map some ++ List.replicate (nN - np) none) m) (finC m P) := by
  unfold mkFn
  rw [if_pos h]
  cases g (ds.map some ++ List.replicate (nN - np) none) m with
  | none => simp [finO]
  | some o => cases o <;> simp [finO, finC]
/-- for, by an invariant -/
theorem for_inv {gt : FT} {ds : List D} (Inv : Nat → Nv → Sto → Prop) (h0 : Inv 0 env m) (step : ∀ i d e m, ds[i]? = some d → Inv i e m → ∃ e', gt d e m = some e' ∧ Run (g e' m) (loopC (Inv (i + 1)) PO)) (done : ∀ e m, Inv ds.length e m → PO (.nx e m)) :
    Run (forD gt g none ds env m) PO := by
  have key : ∀ (k i : Nat) (e : Nv) (m : Sto), ds.length - i = k → i ≤ ds.length → Inv i e m → Run (forD gt g none (ds.drop i) e m) PO := by
    intro k
    induction k with
    | zero =>
      intro i e m hk hi hI
      have : i = ds.length := by omega
      subst this
      rw [List.drop_length, forD_nil, run_some]
      exact done _ _ hI
    | succ k ih =>
      intro i e m hk hi hI
      have hlt : i < ds.length := by omega
      rw [List.drop_eq_getElem_cons hlt]
      obtain ⟨e', h1, h2⟩ := step i ds[i] e m (by simp [hlt]) hI
      rw [forD_cons _ _ _ _ _ _ _ h1]
      obtain ⟨o, e2, h2⟩ := h2
      rw [e2]
      cases o with
      | nx e3 m3 => exact ih (i + 1) e3 m3 (by omega) hlt h2
      | ct e3 m3 => exact ih (i + 1) e3 m3 (by omega) hlt h2
      | bk e3 m3 => exact ⟨_, rfl, h2⟩
      | rt d m3 => exact ⟨_, rfl, h2⟩
      | exn e3 c d m3 => exact ⟨_, rfl, h2⟩
  have := key ds.length 0 env m (by omega) (by omega) h0
  simpa using this
end
theorem run_rng1 {fs : List FE} {env : Nv} {m : Sto} {P : ResI → Prop} {n : Nat} {m1 : Sto} (h : evL fs env m = some (.ok [.int (n : Int)] m1)) (hn : n < 2 ^ 62) : Run (iRange1 fs env m) P ↔ P (.ok (rngD 0 n) none m1) := by
  unfold iRange1
  rw [h, bndil_ok]
  have : small62 (n : Int) = true := by
    unfold small62
    simp only [Bool.and_eq_true, decide_eq_true_eq]
    omega
  simp [this]
theorem rngD_at {lo : Int} {n i : Nat} {d : D} (h : (rngD lo n)[i]? = some d) : i < n ∧ d = .int (lo + i) := by
  unfold rngD at h
  rw [List.getElem?_map] at h
  cases q : (List.range n)[i]? with
  | none => rw [q] at h; cases h
  | some k =>
    rw [q] at h
    cases h
    have hi := (List.getElem?_eq_some_iff.mp q).1
    rw [List.length_range] at hi
    rw [List.getElem?_range hi] at q
    cases q
    exact ⟨hi, rfl⟩
@[simp] theorem rngD_len (lo : Int) (n : Nat) : (rngD lo n).length = n := by simp [rngD]
/-- a pure comprehension with a pure test -/
theorem lc_pure {g : FT} {t f : FE} {env : Nv} {m : Sto} {k : D → Bool} {h : D → D} : ∀ {ds : List D} {acc : List D}, (∀ d, d ∈ ds → ∃ env', g d env m = some env' ∧ t env' m = some (.ok (.bl (k d)) m) ∧ (k d = true → f env' m = some (.ok (h d) m))) → lcD g t f env ds m acc = some (.ok (acc ++ (ds.filter k).map h) m)
  | [], acc, _ => by simp [lcD]
  | d :: ds, acc, hd => by
    obtain ⟨e', h1, h2, h3⟩ := hd d List.mem_cons_self
    unfold lcD
    rw [h1]
    simp only [h2, bndb_ok, truth_bl]
    cases q : k d with
    | true =>
      simp only [h3 q, bndb_ok]
      rw [lc_pure (k := k) (h := h) fun x hx => hd x (List.mem_cons_of_mem _ hx)]
      simp [q, List.append_assoc]
    | false =>
      simp only []
      rw [lc_pure (k := k) (h := h) fun x hx => hd x (List.mem_cons_of_mem _ hx)]
      simp [q]
theorem lc_map {α : Type} {en : α → D} {g : FT} {t f : FE} {env : Nv} {m : Sto} {k : α → Bool} {h : α → D} : ∀ {xs : List α} {acc : List D}, (∀ x, x ∈ xs → ∃ env', g (en x) env m = some env' ∧ t env' m = some (.ok (.bl (k x)) m) ∧ (k x = true → f env' m = some (.ok (h x) m))) → lcD g t f env (xs.map en) m acc = some (.ok (acc ++ (xs.filter k).map h) m)
  | [], acc, _ => by simp [lcD]
  | x :: xs, acc, hd => by
    obtain ⟨e', h1, h2, h3⟩ := hd x List.mem_cons_self
    rw [List.map_cons]
    unfold lcD
    rw [h1]
    simp only [h2, bndb_ok, truth_bl]
    cases q : k x with
    | true =>
      simp only [h3 q, bndb_ok]
      rw [lc_map (k := k) (h := h) fun y hy => hd y (List.mem_cons_of_mem _ hy)]
      simp [q, List.append_assoc]
    | false =>
      simp only []
      rw [lc_map (k := k) (h := h) fun y hy => hd y (List.mem_cons_of_mem _ hy)]
      simp [q]
@[simp] theorem run_lc {vs : List Nat} {it : FI} {g : FT} {t f : FE} {env : Nv} {m : Sto} {P : Res → Prop} : Run (eLc vs it g t f env m) P ↔ Run (it env m) (resiC (fun ds w m1 => w = none ∧ Run (bndl (lcD g t f (wipeN env vs) ds m1 []) fun acc m1 => if acc.length ≤ 100000 then some (.ok (.lst acc) m1) else none) P) fun c d m => P (.exn c d m)) := by
  unfold eLc
  cases it env m with
  | none => simp [bndir]
  | some r =>
    cases r with
    | exn c d m => simp [bndir, resiC]
    | ok ds w m1 => cases w <;> simp [bndir]
end PM

/-! PMQ3: str and repr by own methods; f-strings. -/
namespace PM
open PySem PySem.Spec L2 PyProof.Rows
/-- a method of no argument answers a text, and changes nothing -/
noncomputable def callS (F : FD) (x : D) (m : Sto) : Option D := match F [x] m with
  | some (.ok (.str t) m') => open Classical in if m' = m then some (.str t) else none
  | _ => none
theorem callS_some {F : FD} {x d : D} {m : Sto} (h : callS F x m = some d) : ∃ t, d = .str t ∧ F [x] m = some (.ok (.str t) m) := by
  unfold callS at h
  split at h
  · rename_i t m' q
    split at h
    · rename_i e
      cases h
      exact ⟨t, rfl, by rw [q, e]⟩
    · cases h
  · cases h
theorem callS_ok {F : FD} {x : D} {m : Sto} {t : Str} (h : F [x] m = some (.ok (.str t) m)) : callS F x m = some (.str t) := by
  unfold callS
  rw [h]
  simp
noncomputable def strMD (M : Nat → Option FD) : List D → Sto → Option D
  | [.ob c xs], m => match M c with
    | some F => callS F (.ob c xs) m
    | none => none
  | ds, m => strD ds m
noncomputable def reprMD (xt : Nat → Option (Str × Str)) (M : Nat → Option FD) : List D → Sto → Option D
  | [.ob c xs], m => match M c with
    | some F => callS F (.ob c xs) m
    | none => none
  | ds, m => reprD xt ds m
/-- the methods of the name -/
def StrT (W : Wd) (k : Nat) (x : Str) (M : Nat → Option FD) : Prop := ∀ c F, M c = some F → MethB W c x k 0 F
theorem strT_of {W : Wd} {k n : Nat} {fn : Nat → List Str} {x : Str} {M : Nat → Option FD} (h : MtF W k n fn x 0 M) : StrT W k x M := fun c F hM => (h c F hM).2.2
section
variable {W : Wd} {ph : Plc} {H : Hp} {m : Sto} {L : Lv} {R : Rst} {k n : Nat} {M : Nat → Option FD} {pins : List (Addr × Obj)} {s : Shared} {σ : L2.St} {x : Str}
theorem own_callS {A : Around} {F : FD} {f : Addr} {fd : FuncData} {ps : List Str} {x : D} {vx : V} {u1 : Value} {t : Str} (G : FnG W k f fd ps F) (hb : ∀ (s : Shared) (us : List Value), W.K.In s.heap → us.length = 1 → us.length = ps.length → BindsTo s fd ⟨us, []⟩ (ps.zip us)) (hr : Room k A) (hfr : A.frames = R.A.frames) (hg : A.guards = some W.gs) (I : Inv (mkX W L.N R) pins σ H s)
    (hs : RelSto W ph H m) (r1 : Rep W ph H x vx) (rv1 : RelV vx u1) (e : F [x] m = some (.ok (.str t) m)) {Q : VK} (p : PostD W ph H m Q (.str t)) :
    wpAny (model W.P W.w) A (call (.ref f) [u1]) (fun v s' => ∃ tk, v = .str t tk ∧ EP (mkX W L.N R) pins σ Q v s') R.xe s := by
  have sp : spF W F [vx] H (fun v H' => v = .str t ∧ Q v H') fun _ _ _ => False := ⟨ph, m, [x], _, hs, .cons r1 .nil, e, fun v H' ph' st r => by
    have r : v = .str t := r
    subst r
    exact ⟨rfl, p _ _ _ st rfl⟩⟩
  have e0 : Env0 W.P W.w W.K W.mg W.base A R.stack s H := by
    have e := I.env0
    exact ⟨by rw [hfr]; exact e.frames, e.mod, e.bs, e.bsz, e.funs, e.frf, e.hok, e.bare⟩
  refine wpAny_call (codeAny_mono (G.run A R.stack s H ⟨[u1], []⟩ [u1] [vx] _ _ hr hg e0 (hb s _ I.kIn rfl (G.len _ _ _ e)) (.cons rv1 .nil) sp) fun r s' hq => ?_)
  match r, hq with
  | .error e, ⟨_, _, _, _, _, _, _, _, _, _, _, _, z⟩ => exact z.elim
  | .ok .next, hq => exact hq.elim
  | .ok .brk, hq => exact hq.elim
  | .ok .cont, hq => exact hq.elim
  | .ok (.ret u), hq =>
    obtain ⟨v, H', I', rv, rfl, q⟩ := I.after hq
    obtain ⟨tk, rfl⟩ := rv
    exact ⟨tk, rfl, .str t, H', I', ⟨tk, rfl⟩, q⟩
theorem ob_instS {X : Cx} {c : Nat} {xs : List D} {v : V} (I : Inv X pins σ H s) (r : Rep W ph H (.ob c xs) v) : ∃ (a dx : Addr) (od : Obj), v = .ref a ∧ PySem.W.InstAt s.heap a (PySem.W.instObj (W.C c) dx) (W.C c) (some od) := by
  obtain ⟨a, dx, vs, rfl, h, _⟩ := r
  obtain ⟨mA, J, _⟩ := ins_get I.hok h
  obtain ⟨od, J, _⟩ := J.look
  exact ⟨a, dx, od, rfl, J⟩
theorem opn_strM (hT : StrT W k "__str__" M) (hk : k + 2 ≤ L.k := by decide) (hcl : L.calm = true := by rfl) : OpN W L (.type "str") (strMD M) := by
  intro R F pins s σ H xs us Q I r q
  obtain ⟨ph, m, ds, d, hs, r1, e, p⟩ := q
  unfold strMD at e
  split at e
  · rename_i c xs'
    split at e
    · rename_i Fc hM
      obtain ⟨t, rfl, e1⟩ := callS_some e
      obtain ⟨f, fd, ps, hm, G, hb⟩ := (hT c Fc hM).ex
      obtain ⟨v, rfl, rv⟩ := r1.one
      obtain ⟨u, rfl, ru⟩ := r.one
      obtain ⟨a, dd, od, rfl, J⟩ := ob_instS I rv
      cases (show u = Value.ref a from ru)
      have hr : Room (k + 2) R.A := (F.room hcl).mono hk
      have hr2 : Room k R.A.in1.in1 := (show Room (k + 1) R.A.in1 from hr.in1).in1
      refine PySem.W.kso_call hr2.units0 I.kIn J hm.at_ hm.fn (wpAny_mono (own_callS (x := .ob c xs') G hb hr2 rfl F.grd I hs rv rfl e1 p) (fun w s' z => ?_) fun _ _ x => x)
      obtain ⟨tk, rfl, z⟩ := z
      exact z
    · cases e
  · exact opn_str R F pins s σ H xs us Q I r ⟨ph, m, ds, d, hs, r1, e, p⟩
theorem opn_reprM {xt : Nat → Option (Str × Str)} (hx : OpN W L (.builtin "repr") (reprD xt)) (hT : StrT W k "__repr__" M) (hk : k + 1 ≤ L.k := by decide) (hcl : L.calm = true := by rfl) : OpN W L (.builtin "repr") (reprMD xt M) := by
  intro R F pins s σ H xs us Q I r q
  obtain ⟨ph, m, ds, d, hs, r1, e, p⟩ := q
  unfold reprMD at e
  split at e
  · rename_i c xs'
    split at e
    · rename_i Fc hM
      obtain ⟨t, rfl, e1⟩ := callS_some e
      obtain ⟨f, fd, ps, hm, G, hb⟩ := (hT c Fc hM).ex
      obtain ⟨v, rfl, rv⟩ := r1.one
      obtain ⟨u, rfl, ru⟩ := r.one
      obtain ⟨a, dd, od, rfl, J⟩ := ob_instS I rv
      cases (show u = Value.ref a from ru)
      have hr : Room (k + 1) R.A := (F.room hcl).mono hk
      have hr2 : Room k R.A.in1 := hr.in1
      obtain ⟨mF, hF⟩ := I.fr
      refine PySem.W.repr_K hr2.units0 hF I.ok.mod.kin J hm.at_ hm.fn (wpAny_mono (own_callS (x := .ob c xs') G hb hr2 rfl F.grd I hs rv rfl e1 p) (fun w s' z => ?_) fun _ _ x => x)
      obtain ⟨tk, rfl, z⟩ := z
      exact z
    · cases e
  · exact hx R F pins s σ H xs us Q I r ⟨ph, m, ds, d, hs, r1, e, p⟩
end
/-! ### f-strings -/
def fmtD : D → Sto → Option D
  | .str y, _ => if y.length ≤ 1000000 then some (.str y) else none
  | .int i, _ => if i.natAbs.log2 < 1920 then some (.str (toString i)) else none
  | _, _ => none
def catS : Str → List Str → Str
  | a, [] => a
  | a, s :: ss => catS (a ++ s) ss
def catD : List D → Sto → Option D := fun ds _ => match strsOf ds with
  | some ss => if (ss.map (·.length)).sum ≤ 1000000 then some (.str (catS Str.empty ss)) else none
  | none => none
def eJoin (fs : List FE) : FE := fun env m => match evL fs env m with
  | some (.ok ds m1) => out m1 (catD ds m1)
  | _ => none
inductive DJ (W : Wd) (L : Lv) : List Expr → List FE → Prop where
  | nil : DJ W L [] []
  | cons {e : Expr} {f : FE} {es : List Expr} {fs : List FE} (h : DE W L e f) (r : DJ W L es fs) : DJ W L (e :: es) (f :: fs)
section
variable {W : Wd} {Wx : WX} {ph : Plc} {H : Hp} {m : Sto} {σ : L2.St} {env : Nv} {Q : VK} {L : Lv} {R : Rst} {e : Expr} {es : List Expr} {f : FE} {fs : List FE} {pos : Pos}
theorem de_fmt (he : DE W L e f) : DE W L (.FormattedValue e (-1) none pos) (e1 fmtD f) := by
  intro R F Wx tk
  refine PE.imp (pe_fmt (he R F Wx tk)) fun σ H Q h => ?_
  obtain ⟨ph, env, m, hv, hs, h⟩ := h
  refine tE.mk hv hs ((tX.bnd hs h).imp fun v1 H1 q => ?_)
  obtain ⟨ph1, m1, d1, s1, r1, h1⟩ := q
  obtain ⟨d, e, p⟩ := tX.outD h1
  unfold fmtD at e
  split at e
  · split at e
    · rename_i hl
      cases e; cases r1
      exact .inl ⟨_, rfl, Nat.le_trans hl line6, p.s s1.sto⟩
    · cases e
  · split at e
    · rename_i hl
      cases e; cases r1
      exact .inr ⟨_, rfl, hl, p.s s1.sto⟩
    · cases e
  · cases e
theorem dj_pj (h : DJ W L es fs) (F : Fits W L R) (tk : Takes (mkX W L.N R) Wx) : PJ (mkX W L.N R) es (fs.map (tE W Wx)) := by
  induction h with
  | nil => exact .nil
  | cons h r ih => exact .cons (h R F Wx tk) ih
theorem tjs_of {Q : VK} : ∀ {fs : List FE} {acc : Str} {H : Hp} {ph : Plc} {m : Sto}, RelEnv W ph H env σ → RelSto W ph H m → acc.length ≤ 1000000 →
    (∃ r, evL fs env m = some r ∧ match r with
      | .ok ds m' => ∃ ss, strsOf ds = some ss ∧ acc.length + (ss.map (·.length)).sum ≤ 1000000 ∧ ∀ v H' ph', Ste W ph H ph' H' m' → Rep W ph' H' (.str (catS acc ss)) v → Q v H'
      | .exn _ _ _ => False) →
    tJs (fs.map (tE W Wx)) acc σ H fun out H1 => Q (.str out) H1
  | [], acc, H, ph, m, hv, hs, hl, ⟨r, e, h⟩ => by
    cases e
    obtain ⟨ss, e, _, p⟩ := h
    cases e
    exact p _ _ _ (.refl hs) rfl
  | f :: fs, acc, H, ph, m, hv, hs, hl, ⟨r, e, h⟩ => by
    show tE W Wx f σ H fun x H1 => ∃ y : Str, x = .str y ∧ (acc ++ y).length ≤ sizeLine ∧ tJs (fs.map (tE W Wx)) (acc ++ y) σ H1 fun out H1 => Q (.str out) H1
    rw [evL_cons] at e
    refine tE.mk hv hs ?_
    cases hf : f env m with
    | none => rw [hf] at e; cases e
    | some q =>
      rw [hf] at e
      cases q with
      | exn c d m1 =>
        have e : some (ResL.exn c d m1) = some r := e
        cases e
        exact h.elim
      | ok d m1 =>
        rw [bndc_ok] at e
        refine ⟨_, rfl, fun v H1 ph1 s1 r1 => ?_⟩
        cases hf2 : evL fs env m1 with
        | none => rw [hf2] at e; cases e
        | some q2 =>
          rw [hf2] at e
          cases q2 with
          | exn c d2 m2 =>
            have e : some (ResL.exn c d2 m2) = some r := e
            cases e
            exact h.elim
          | ok ds m2 =>
            cases e
            obtain ⟨ss, e1, e2, p⟩ := h
            have : ∃ y ss', d = .str y ∧ strsOf ds = some ss' ∧ ss = y :: ss' := by
              unfold strsOf at e1
              split at e1
              · rename_i q; cases q
              · rename_i y ds' q
                cases q
                cases q3 : strsOf ds with
                | none => rw [q3] at e1; cases e1
                | some ss' => rw [q3] at e1; cases e1; exact ⟨y, ss', rfl, rfl, rfl⟩
              · cases e1
            obtain ⟨y, ss', rfl, e3, rfl⟩ := this
            cases r1
            simp only [List.map_cons, List.sum_cons] at e2
            have hl2 : (acc ++ y).length ≤ 1000000 := by rw [strLen_append]; omega
            refine ⟨y, rfl, Nat.le_trans hl2 line6, tjs_of (hv.mono s1) s1.sto hl2 ⟨_, hf2, ss', e3, by rw [strLen_append]; omega, fun v H' ph' s2 r2 => p v H' ph' (s1.trans s2) r2⟩⟩
theorem de_joined {v1 v2 : Expr} {rest : List Expr} (h : DJ W L (v1 :: v2 :: rest) fs) : DE W L (.JoinedStr (v1 :: v2 :: rest) pos) (eJoin fs) := by
  intro R F Wx tk
  refine PE.imp (pe_joined (dj_pj h F tk)) fun σ H Q h => ?_
  obtain ⟨ph, env, m, hv, hs, o, e, p⟩ := h
  unfold eJoin at e
  split at e
  · rename_i ds m1 q
    unfold catD at e
    split at e
    · rename_i ss q2
      split at e
      · rename_i hl
        cases e
        exact tjs_of hv hs (Nat.zero_le _) ⟨_, q, ss, q2, by rw [show Str.empty.length = 0 from rfl]; omega, p⟩
      · cases e
    · cases e
  · cases e
end
/-! the plain calculus -/
section
variable {env : Nv} {m : Sto} {P : Res → Prop} {fs : List FE} {M : Nat → Option FD} {c : Nat} {xs : List D} {F : FD} {t : Str} {i : Int}
theorem run_join {ds : List D} {ss : List Str} (e : evL fs env m = some (.ok ds m)) (e2 : strsOf ds = some ss) (hl : (ss.map (·.length)).sum ≤ 1000000) (h : P (.ok (.str (catS Str.empty ss)) m)) : Run (eJoin fs env m) P := by
  unfold eJoin
  rw [e]
  simp only [catD, e2, if_pos hl, out_some]
  exact ⟨_, rfl, h⟩
@[simp] theorem fmtD_int : fmtD (.int i) m = if i.natAbs.log2 < 1920 then some (.str (toString i)) else none := rfl
@[simp] theorem fmtD_str : fmtD (.str t) m = if t.length ≤ 1000000 then some (.str t) else none := rfl
theorem strMD_ob (hM : M c = some F) (h : F [.ob c xs] m = some (.ok (.str t) m)) : strMD M [.ob c xs] m = some (.str t) := by
  simp only [strMD, hM]
  exact callS_ok h
theorem reprMD_ob {xt : Nat → Option (Str × Str)} (hM : M c = some F) (h : F [.ob c xs] m = some (.ok (.str t) m)) : reprMD xt M [.ob c xs] m = some (.str t) := by
  simp only [reprMD, hM]
  exact callS_ok h
end
end PM

/-! PMQ6: repr of a list or a tuple in which own objects stand that answer by their own __repr__. -/
namespace PM
open PySem PySem.Spec L2 PyProof.Rows
def Wd.gd (W : Wd) (g : List Code) : Wd := ⟨W.toWk, W.base, W.ca, g⟩
section
variable {W : Wd} {g : List Code} {ph ph' : Plc} {H H' : Hp} {m : Sto}
mutual
theorem rep_gd : ∀ {d : D} {v : V}, Rep W ph H d v → Rep (W.gd g) ph H d v
  | .non, _, h => h
  | .bl _, _, h => h
  | .int _, _, h => h
  | .str _, _, h => h
  | .loc _, _, h => h
  | .fn _, _, h => h
  | .bex _ _, _, h => h
  | .cls _, _, h => h
  | .lst xs, _, ⟨a, vs, e, l, r⟩ => ⟨a, vs, e, l, repL_gd r⟩
  | .tup xs, _, ⟨a, vs, e, l, r⟩ => ⟨a, vs, e, l, repL_gd r⟩
  | .fz xs, _, ⟨a, vs, e, l, r⟩ => ⟨a, vs, e, l, repL_gd r⟩
  | .ob c xs, _, ⟨a, dx, vs, e, h, n, l, r⟩ => ⟨a, dx, vs, e, h, n, l, repL_gd r⟩
  | .exc c d, _, ⟨a, dx, x, t1, e, h, n, h2, n2, t, r⟩ => ⟨a, dx, x, t1, e, h, n, h2, n2, t, rep_gd (d := d) r⟩
  | .cau c d, _, ⟨a, dx, x, e, hc, h2, n2, r⟩ => ⟨a, dx, x, e, hc, h2, n2, rep_gd (d := d) r⟩
theorem repL_gd : ∀ {ds : List D} {vs : List V}, RepL W ph H ds vs → RepL (W.gd g) ph H ds vs
  | [], _, h => h
  | d :: ds, _, ⟨v, r, e, h, t⟩ => ⟨v, r, e, rep_gd h, repL_gd t⟩
end
theorem cell_gd {a : Addr} {c : Cell} (h : CellAt W ph H a c) : CellAt (W.gd g) ph H a c := by
  cases c with
  | lst xs => obtain ⟨vs, h, r⟩ := h; exact ⟨vs, h, repL_gd r⟩
  | dct kds => obtain ⟨kvs, h, e, r⟩ := h; exact ⟨kvs, h, e, repL_gd r⟩
  | ins c fs => obtain ⟨dx, fv, h, e, r⟩ := h; exact ⟨dx, fv, h, e, repL_gd r⟩
  | dead => trivial
theorem sto_gd (h : RelSto W ph H m) : RelSto (W.gd g) ph H m :=
  ⟨h.len, h.nd, h.dj, h.pvs, fun n c e => let ⟨a, e1, e2, e3⟩ := h.cell n c e; ⟨a, e1, e2, cell_gd e3⟩⟩
theorem ste_gd (h : Ste W ph H ph' H' m) : Ste (W.gd g) ph H ph' H' m := ⟨h.pre, h.prv, h.keep, h.new, h.fre, sto_gd h.sto⟩
theorem ste_back (h : Ste (W.gd g) ph H ph' H' m) : Ste W ph H ph' H' m := ste_gd (W := W.gd g) (g := W.gs) h
theorem ste_ph (h : Ste W ph H ph' H' m) (hs : RelSto W ph H m) : ph' = ph := by
  obtain ⟨ex, e⟩ := h.pre
  have h1 := h.sto.len
  have h2 := hs.len
  rw [e, List.length_append] at h1
  have : ex = [] := List.length_eq_zero_iff.mp (by omega)
  subst this
  rw [List.append_nil] at e
  cases ph
  cases ph'
  have e2 := h.prv
  simp only at e e2
  rw [e, e2]
end
/-- a list's, a tuple's object -/
def SeqAtH (h : Heap) (a : Addr) (its : List Value) : Prop := ∃ o na, h.get? a = some o ∧ (o.cls = .type "list" ∨ o.cls = .type "tuple") ∧ o.data = .seq its.toArray na
/-- the guards name a alone -/
def Only1 (a : Addr) (g : List Code) : Prop := ∀ id v rest kw, Code.builtin id ⟨v :: rest, kw⟩ ∈ g → v = .ref a
theorem Only1.clear {a b : Addr} {g : List Code} (h : Only1 a g) (hb : b ≠ a) : Clear g b := fun id v rest kw hm e => by
  have := h id v rest kw hm
  rw [e] at this
  exact hb (Value.ref.inj this)
/-- an item of the list at a is shown as t, from within its repr -/
def ItI (W : Wd) (N : List Str) (R : Rst) (A : Around) (a : Addr) (m : Sto) (d : D) (t : Str) : Prop :=
  ∀ (A' : Around) (g : List Code), A'.depth ≤ A.depth + 1 → A'.units = A.units + 1 → A'.frames = A.frames → A'.handled = A.handled → A'.guards = some g → Only1 a g →
    ∀ (base : Nat), base + t.length ≤ sizeLine → ∀ (pins : List (Addr × Obj)) (σ : L2.St) (ph : Plc) (H : Hp) (s : Shared) (v : V) (u : Value) (its : List Value) (Q : Str → Shared → Prop), Inv (mkX W N R) pins σ H s → RelSto W ph H m → Rep W ph H d v → RelV v u → SeqAtH s.heap a its → (u ∈ its ∨ ∀ b, u ≠ .ref b) →
      (∀ H' s', Inv (mkX W N R) pins σ H' s' → Ste W ph H ph H' m → Q t s') → wpAny (model W.P W.w) A' (pyReprUnder base u) Q R.xe s
section
variable {W : Wd} {g : List Code} {ph ph' : Plc} {H H' : Hp} {m : Sto} {L : Lv} {R : Rst} {A : Around} {a : Addr} {xt : Nat → Option (Str × Str)} {N : List Str}
theorem rvs_mem {P : Program} {w : World} {h : Heap} : ∀ {n : Nat} {l : List Value} {ts : List Str} {u : Value}, RVs P w h n l ts → u ∈ l → ∃ k t, k ≤ n ∧ RV P w h k u t
  | _, _, _, _, .nil, hu => by cases hu
  | _, _, _, _, .cons x r, hu => by
    rcases List.mem_cons.mp hu with rfl | hu
    · exact ⟨_, _, Nat.le_max_left _ _, x⟩
    · obtain ⟨k, t, hk, y⟩ := rvs_mem r hu
      exact ⟨k, t, Nat.le_trans hk (Nat.le_max_right _ _), y⟩
/-- plain data -/
theorem it_plain (hx : XtTab W.toWk xt) (hu : A.units + 100 < cLine) {d : D} {n : Nat} {t : Str} (e : shn xt m 40 d = some (n, t)) (hn : n ≤ 40) : ItI W N R A a m d t := by
  intro A' g hd hun hf hh hg ho base hb pins σ ph H s v u its Q I hs r rv ha hm q
  have x := shn_rv (X := mkX W N R) (W := W) rfl rfl rfl hx hs I 40 _ _ _ _ e r rv
  obtain ⟨as, k, low⟩ := RV.k0 n n (Nat.le_refl _) _ _ x
  have hna : ¬ a ∈ as := fun hma => by
    obtain ⟨j, t', hj, y⟩ := low a hma
    obtain ⟨o, na, h1, h2, h3⟩ := ha
    have key : ∃ n0 its' ts', n0 < j ∧ RVs W.P W.w s.heap n0 its' ts' ∧ its' = its := by
      cases y with
      | leaf hn _ _ => exact absurd rfl (hn _)
      | lst k1 k2 k3 k4 =>
        rw [h1] at k1; cases k1
        rw [h3] at k3
        injection k3 with e1 e2
        injection e1 with e1
        exact ⟨_, _, _, Nat.lt_succ_self _, k4, e1.symm⟩
      | tup k1 k2 k3 k4 =>
        rw [h1] at k1; cases k1
        rw [h3] at k3
        injection k3 with e1 e2
        injection e1 with e1
        exact ⟨_, _, _, Nat.lt_succ_self _, k4, e1.symm⟩
      | dct k1 k2 k3 _ k4 => rw [h1] at k1; cases k1; rw [h3] at k3; cases k3
      | exc _ x1 _ =>
        rcases h2 with h2 | h2
        · exact (exc_off x1 h1 h2).elim
        · exact (exc_off x1 h1 h2).elim
    obtain ⟨n0, its', ts', hlt, rs, rfl⟩ := key
    rcases hm with hm | hm
    · obtain ⟨i, t2, hi, z⟩ := rvs_mem rs hm
      have := z.det x
      omega
    · have hn0 : n = 0 := by
        cases x with
        | leaf _ _ _ => rfl
        | big _ _ _ => rfl
        | lst _ _ _ _ => exact absurd rfl (hm _)
        | tup _ _ _ _ => exact absurd rfl (hm _)
        | dct _ _ _ _ _ => exact absurd rfl (hm _)
        | exc _ _ _ => exact absurd rfl (hm _)
      omega
  refine k base hb A' g R.xe s Q hg (fun b hbm => ho.clear fun z => hna (z ▸ hbm)) (by rw [hun]; omega) (fun _ _ e => e) fun h' tk hk => q H _ (I.kept hk) (.refl hs)
theorem ifBy_own {M : Model} {E : Value → Shared → Prop} {s : Shared} {K : PySem.W.Frag} {x C f : Addr} {name : Str} {ox : Obj} {od : Option Obj} {last : Value → List Value → Sem Value} {Q : Option Value → Shared → Prop} (X : K.In s.heap) (I : PySem.W.InstAt s.heap x ox C od) (hs : PySem.W.findIn K (.ref C) name = some (some (.ref f))) (hf : PySem.W.isFn K (.ref f) = true)
    (h : wpAny M A (last (.ref f) [.ref x]) (fun v => Q (some v)) E s) : wpAny M A (callSpecialIfBoundBy? last (.ref x) name) Q E s := by
  simp only [callSpecialIfBoundBy?, bindSpecialIfBound?]
  refine wpAny_holding (wpAny_bind (wpAny_bind (wpAny_bind (I.type.here ((PySem.W.looks_findIn X hs).here ?_)))))
  refine wpAny_bind (wpAny_askSetting (wpAny_ite ?_))
  have fin : wpAny M A (last (.ref f) [.ref x] >>= fun v => pure (some v)) Q E s := wpAny_bind (wpAny_mono h (fun v s' h' => wpAny_pure h') fun _ _ h' => h')
  split
  · exact wpAny_bind ((PySem.W.bind_fn X _ (beq_iff_eq.mp hf)).here (wpAny_pure (by exact fin)))
  · exact wpAny_tryCatch (wpAny_bind ((PySem.W.bind_fn X _ (beq_iff_eq.mp hf)).here (wpAny_pure (by exact fin))))
/-- the methods of the name, whatever is being shown -/
def RpT (W : Wd) (k : Nat) (x : Str) (M : Nat → Option FD) : Prop := ∀ g, StrT (W.gd g) k x M
theorem it_own {k : Nat} {M : Nat → Option FD} {c : Nat} {xs : List D} {Fc : FD} {t : Str} (hT : RpT W k "__repr__" M) (hM : M c = some Fc) (e : Fc [.ob c xs] m = some (.ok (.str t) m)) (hr : Room (k + 1) A) (hfr : A.frames = R.A.frames) : ItI W L.N R A a m (.ob c xs) t := by
  intro A' g hd hun hf hh hg ho base hb pins σ ph H s v u its Q I hs r rv ha hm q
  obtain ⟨f, fd, ps, hmt, G, hbd⟩ := (hT g c Fc hM).ex
  obtain ⟨b, dd, od, rfl, J⟩ := ob_instS I r
  cases (show u = Value.ref b from rv)
  have hr2 : Room k A' := ⟨by rw [hh]; exact hr.hd, by have := hr.dp; omega, by have := hr.un; omega⟩
  refine wpAny_pyReprUnder_ref (by omega) ?_
  unfold pyReprObjUnder pyReprObjBy
  refine wpAny_bind (wpAny_cRoomFor hr2.units0 ?_)
  refine wpAny_bind (wpAny_bind (J.type.here ((PySem.W.looks_findIn I.kIn hmt.at_).here ?_)))
  show wpAny _ _ (if (some (Value.ref f)).isNone = true then _ else _) _ _ _
  rw [if_neg (by simp)]
  refine wpAny_bind (ifBy_own (name := Str.ofString "__repr__") I.kIn J hmt.at_ hmt.fn ?_)
  show wpAny _ _ (PySem.call (.ref f) [.ref b]) _ _ _
  have own := own_callS (W := W.gd g) (L := L) (R := R) (A := A') (x := .ob c xs) (Q := fun v H' => ∃ ph', Ste W ph H ph' H' m) G hbd hr2 (by rw [hf, hfr]) hg I (sto_gd hs) (rep_gd r) rfl e (fun v H' ph' st _ => ⟨ph', ste_back st⟩)
  refine wpAny_mono own (fun w s' z => ?_) fun _ _ x => x
  obtain ⟨tk, rfl, v', H', I', _, ph', st⟩ := z
  refine wpAny_bind (wpAny_isInstance (typeIs_str _ _ _) isSubtype_str_str ?_)
  have e1 := ste_ph st hs
  subst e1
  first
    | exact wpAny_pure ⟨t, tk, rfl, q H' s' I' st⟩
    | (rw [if_pos rfl]; exact wpAny_pure ⟨t, tk, rfl, q H' s' I' st⟩)
    | (simp only [if_true]; exact wpAny_pure ⟨t, tk, rfl, q H' s' I' st⟩)
end
end PM
namespace PM
open PySem PySem.Spec L2 PyProof.Rows
open Builtin Builtin.List
theorem loop_depth {A : Around} {args : Args} : (A.under (.builtin "list.__repr__.loop" args)).depth ≤ A.depth + 1 := by
  first | exact Nat.le_refl _ | exact Nat.le_succ _ | simp [Around.under, Code.weight, Code.isCreation, Code.isGuard, Code.isCaller, Code.frames, Code.isFrame, guardIds]
theorem loop_frames {A : Around} {args : Args} : (A.under (.builtin "list.__repr__.loop" args)).frames = A.frames := by
  first | rfl | simp [Around.under, Code.envs, pushEnvs]
theorem loop_handled {A : Around} {args : Args} : (A.under (.builtin "list.__repr__.loop" args)).handled = A.handled := by
  first | rfl | simp [Around.under]
theorem strs_vals : ∀ {ts : List Str} {its : List Value}, Vals (ts.map V.str) its → ∃ done : List (Str × Tok), its = strValues done ∧ done.map (·.1) = ts
  | [], _, .nil => ⟨[], rfl, rfl⟩
  | t :: ts, _, .cons r q => by
    obtain ⟨tk, rfl⟩ := r
    obtain ⟨done, rfl, e⟩ := strs_vals q
    exact ⟨(t, tk) :: done, rfl, by rw [List.map_cons, e]⟩
/-- what a walk by repr leaves -/
structure Kp0 (W : Wd) (ph0 : Plc) (H0 H : Hp) : Prop where
  keep : ∀ b o, H0 b = some o → ¬ b ∈ ph0.pl → H b = some o
  fre : ∀ b, (H0 b).isSome = true → (H b).isSome = true
section
variable {W : Wd} {ph0 : Plc} {H0 : Hp} {m : Sto} {L : Lv} {R : Rst} {A : Around} {a P : Addr} {x : D} {ds : List D} {ts : List Str} {base : Nat} {Rs : Result → Shared → Prop} {pins : List (Addr × Obj)} {σ : L2.St}
theorem loopI (hg : A.guards = some []) (hne : P ≠ a) (hx : lstOf x m = some ds) (hP0 : H0 P = none) (hPl : ¬ P ∈ ph0.pl) (hlen : ts.length = ds.length)
    (hit : ∀ (i : Nat) (d : D), ds[i]? = some d → ∃ t, ts[i]? = some t ∧ ItI W L.N R A a m d t) (hsz : base + (listText ts).length ≤ sizeLine) (hE : ∀ e s, R.xe e s → Rs (.error e) s)
    (hR : ∀ H' s' u, Inv (mkX W L.N R) pins σ H' s' → Kp0 W ph0 H0 H' → RelSto W (ph0.hide P) H' m → Rs (.ok (.ret (.str (listText ts) u))) s') :
    ∀ (k i : Nat) (H : Hp) (s : Shared), ds.length - i = k → i ≤ ds.length → Inv (mkX W L.N R) pins σ H s → Kp0 W ph0 H0 H → RelSto W (ph0.hide P) H m → Rep W (ph0.hide P) H x (.ref a) → H P = some (.lst ((ts.take i).map V.str)) →
      codeAny (model W.P W.w) A (.builtin "list.__repr__.loop" ⟨[.ref a, rawInt i, .ref P, rawInt ((base + piled (ts.take i) : Nat) : Int)], []⟩) Rs s := by
  have hX : (listText ts).length = (textFrom 0 "[" ts).length + 1 := by
    show (textFrom 0 "[" ts ++ "]").length = _
    rw [strLen_append]; rfl
  have hL := textFrom_len ts 0 "["
  have hsz2 : ∀ t ∈ ts, t.length ≤ sizeLine := fun t ht => by
    have h2 := hL.2.1 t ht
    omega
  have hsz3 : (listText ts).length ≤ sizeLine := by omega
  have hsz1 : ts.length ≤ sizeLine := by
    have h1 := hL.1
    rw [if_neg (Nat.lt_irrefl 0)] at h1
    omega
  have hp3 := piled_le_listText ts
  intro k
  induction k with
  | zero =>
    intro i H s hk hi I K hs r hP
    have hin : i = ds.length := by omega
    obtain ⟨a', vs, ea, sq, rl⟩ := lstOf_sq hs r hx
    cases ea
    obtain ⟨o, its, na, rv, h1, h2, h3⟩ := isl I sq
    obtain ⟨_, its2, n2, r2, _, e2⟩ := I.lstM hP
    obtain ⟨done, rfl, hdone⟩ := strs_vals r2
    have hl : its.length = ds.length := by rw [← rv.length, rl.length]
    refine codeAny_builtin F.entry_list_repr_loop ?_
    show wpAny _ _ («list.__repr__.loop» ⟨[.ref a, .int i 0, .ref P, .int ((base + piled (ts.take i) : Nat) : Int) 0], []⟩) _ _ s
    rw [repr_loop_tree]
    refine wpAny_bind (wpAny_listItems h1 h3 ?_)
    have hnone : its.toArray[(i : Int).toNat]? = none := by simp [hin, hl]
    simp only [hnone]
    unfold reprEnd
    refine wpAny_bind (wpAny_listItems e2 rfl ?_)
    show wpAny _ _ (forIn (strValues done).zipIdx ("[" : Str) reprBody >>= _) _ _ _
    rw [repr_fold]
    refine wpAny_bind (wpAny_pure ?_)
    have hall : done.map (·.1) = ts := by rw [hdone, hin, ← hlen, List.take_length]
    rw [hall]
    refine wpAny_bind (wpAny_mkStr (wpAny_pure ?_) hsz3)
    exact hR H _ _ (I.tok _) K hs
  | succ k ih =>
    intro i H s hk hi I K hs r hP
    have hlt : i < ds.length := by omega
    obtain ⟨a', vs, ea, sq, rl⟩ := lstOf_sq hs r hx
    cases ea
    obtain ⟨o, its, na, rv, h1, h2, h3⟩ := isl I sq
    obtain ⟨t, ht, hrep⟩ := hit i ds[i] (List.getElem?_eq_getElem hlt)
    obtain ⟨v, hv, rd⟩ := rl.get (List.getElem?_eq_getElem hlt)
    obtain ⟨u, hu, ru⟩ := rv.get hv
    have hp1 := piled_take_succ ht
    have hp2 := piled_take_le ts (i + 1)
    refine codeAny_builtin F.entry_list_repr_loop ?_
    show wpAny _ _ («list.__repr__.loop» ⟨[.ref a, .int i 0, .ref P, .int ((base + piled (ts.take i) : Nat) : Int) 0], []⟩) _ _ s
    rw [repr_loop_tree]
    refine wpAny_bind (wpAny_listItems h1 h3 ?_)
    have hsome : its.toArray[(i : Int).toNat]? = some u := by simpa using hu
    simp only [hsome]
    rw [Int.toNat_natCast]
    have only : Only1 a [Code.builtin "list.__repr__.loop" ⟨[.ref a, .int i 0, .ref P, .int ((base + piled (ts.take i) : Nat) : Int) 0], []⟩] := by
      intro id v rest kw hm
      rw [List.mem_singleton] at hm
      injection hm with e1 e2
      injection e2 with e3 e4
      injection e3 with e5 e6
    refine wpAny_bind (wpAny_holding (wpAny_mono (hrep _ _ loop_depth (units_under_list_loop _ _) loop_frames loop_handled (guards_under_guard (isGuard_list_loop _) hg) only (base + piled (ts.take i) + 1) (by omega) pins σ (ph0.hide P) H s v u its _ I hs rd ru ⟨o, na, h1, .inl h2, h3⟩ (.inl (List.mem_of_getElem? hu)) fun H' s' I' st => ?_) (fun _ _ z => z) fun e s z => hE e s z))
    refine wpAny_bind (wpAny_mkStr ?_ (hsz2 t (List.mem_of_getElem? ht)))
    refine wpAny_bind ?_
    show wpAny _ _ (updateSeq P _) _ _ _
    have hP' : H' P = some (.lst ((ts.take i).map V.str)) := st.keep P _ hP hPl
    have I2 := I'.tok (s'.toks + 1)
    obtain ⟨_, its2, n2, r2, hl2, e2⟩ := I2.lstM hP'
    have hz : ((ts.take (i + 1)).map V.str).length ≤ sizeLine := by rw [List.length_map, List.length_take]; omega
    have er : Vals ((ts.take (i + 1)).map V.str) (its2 ++ [.str t s'.toks]) := by
      rw [List.take_add_one, ht, List.map_append]
      exact r2.append (.cons ⟨_, rfl⟩ .nil)
    refine wpAny_updateSeq e2 rfl (wpAny_pure ⟨F.quiet_list_repr_loop _, ?_⟩) (by rw [List.size_toArray, ← hl2, List.length_map, List.length_take]; omega)
    have e1 : ((i : Int) + 1) = ((i + 1 : Nat) : Int) := by omega
    have e3 : base + piled (ts.take i) + (t.length + 2) = base + piled (ts.take (i + 1)) := by omega
    rw [e1, e3]
    have I3 := I2.lset (its' := its2 ++ [.str t s'.toks]) (f := (·.push (.str t s'.toks))) (t' := s'.toks + 1) hP' e2 (by simp) er hz
    have hpv : P ∈ (ph0.hide P).pv := List.mem_cons_self
    refine ih (i + 1) _ _ (by omega) hlt I3 ⟨fun b ob q n => ?_, fun b q => ?_⟩ (st.sto.priv hpv hPl) (Rep.move (.priv hpv) _ _ (Rep.mono st _ _ r)) upd_same
    · rw [upd_ne (ne_of_none q hP0)]
      exact st.keep b ob (K.keep b ob q n) n
    · unfold upd
      split
      · rfl
      · exact st.fre b (K.fre b q)
/-- repr of a list -/
theorem reprI_list (hgs : W.gs = []) {ph : Plc} {H : Hp} {s : Shared} {d0 : D} {ds0 : List D} {Q : VK} (hu : R.A.units + 100 < cLine) (hgd : R.A.guards = some W.gs) (I : Inv (mkX W L.N R) pins σ H s) (hs : RelSto W ph H m) (r : Rep W ph H x (.ref a)) (hx : lstOf x m = some (d0 :: ds0)) (hlen : ts.length = (d0 :: ds0).length)
    (hit : ∀ (i : Nat) (d : D), (d0 :: ds0)[i]? = some d → ∃ t, ts[i]? = some t ∧ ItI W L.N R R.A.in1 a m d t) (hsz : (listText ts).length ≤ sizeLine) (p : PostD W ph H m Q (.str (listText ts))) :
    wpAny (model W.P W.w) R.A (PySem.call (.builtin "repr") [.ref a]) (EP (mkX W L.N R) pins σ Q) R.xe s := by
  obtain ⟨a', vs, ea, sq, rl⟩ := lstOf_sq hs r hx
  cases ea
  obtain ⟨o, its, na, rv, h1, h2, h3⟩ := isl I sq
  have hg1 : R.A.in1.guards = some [] := by rw [← hgs]; exact hgd
  refine call_repr_slot (by omega) ⟨o, h1, h2⟩ F.slot_list_repr.toG ?_
  refine wpAny_call (codeAny_call_builtin F.slot_list_repr.plain F.entry_list_repr (F.slot_list_repr.check _ _ _ _ _ _ _ _ ⟨o, h1, h2⟩ (F.args_list_repr_1 _) ?_))
  have hne : ∃ u l, its = u :: l := by
    cases its with
    | nil =>
      have h5 : vs.length = 0 := rv.length
      have h6 : ds0.length + 1 = vs.length := rl.length
      omega
    | cons u l => exact ⟨u, l, rfl⟩
  obtain ⟨u, l, rfl⟩ := hne
  refine wpAny_list_repr_head (A := R.A.in1.in1) (g := []) hg1 (fun v rest kw hm => by cases hm) h1 h3 ?_
  refine wpAny_bind (m := newList []) (wpAny_newObj_type ?_)
  refine wpAny_pure ⟨F.quiet_list_repr_loop _, ?_⟩
  have hn : H s.heap.objs.size = none := I.hok.fresh (Nat.le_refl _)
  have I1 := I.lnew (its := []) (ys := []) (t' := s.toks) .nil (Nat.zero_le _)
  have hPl := hs.notin hn
  refine loopI (ph0 := ph) (H0 := H) (x := x) (base := 0) (A := R.A.in1) hg1 (Nat.ne_of_gt (Heap.lt_size h1)) hx hn hPl hlen hit (by omega) (fun e s z => z) (fun H' s' u I' K hs' => ?_) _ 0 _ _ rfl (Nat.zero_le _) I1 ⟨fun b ob q _ => by rw [upd_ne (ne_of_none q hn)]; exact q, fun b q => ?_⟩ (hs.hide hn) (Rep.move (.hide hn) _ _ r) upd_same
  · exact ⟨_, _, rfl, .str _, H', I', ⟨_, rfl⟩, p _ _ ph ⟨⟨[], by simp⟩, rfl, K.keep, fun _ h => .inl h, K.fre, hs'.unhide⟩ rfl⟩
  · unfold upd
    split
    · rfl
    · exact q
/-! ### tuples -/
theorem tup_depth {A : Around} {args : Args} : (A.under (.builtin "tuple.__repr__" args)).depth ≤ A.depth + 1 := by
  first | exact Nat.le_refl _ | exact Nat.le_succ _ | simp [Around.under, Code.weight, Code.isCreation, Code.isGuard, Code.isCaller, Code.frames, Code.isFrame, guardIds]
theorem tup_frames {A : Around} {args : Args} : (A.under (.builtin "tuple.__repr__" args)).frames = A.frames := by
  first | rfl | simp [Around.under, Code.envs, pushEnvs]
theorem tup_handled {A : Around} {args : Args} : (A.under (.builtin "tuple.__repr__" args)).handled = A.handled := by
  first | rfl | simp [Around.under]
theorem tupFoldI {A' : Around} {g : List Code} {ph : Plc} {vs0 : List V} (h1 : A'.depth ≤ A.depth + 1) (h2 : A'.units = A.units + 1) (h3 : A'.frames = A.frames) (h4 : A'.handled = A.handled) (h5 : A'.guards = some g) (h6 : Only1 a g) (hna : ¬ a ∈ ph.pl) :
    ∀ (l : List Value) (ds : List D) (vs : List V) (ts : List Str) (acc : Array Str) (n : Nat) (H : Hp) (s : Shared) (Q : (Array Str × Nat) → Shared → Prop), RepL W ph H ds vs → Vals vs l → (∀ v ∈ vs, v ∈ vs0) → H a = some (.tup vs0) → ts.length = ds.length → (∀ (i : Nat) (d : D), ds[i]? = some d → ∃ t, ts[i]? = some t ∧ ItI W L.N R A a m d t) → n + piled ts ≤ sizeLine →
      Inv (mkX W L.N R) pins σ H s → RelSto W ph H m → (∀ H' s', Inv (mkX W L.N R) pins σ H' s' → Ste W ph H ph H' m → Q ⟨acc ++ ts.toArray, n + piled ts⟩ s') →
      wpAny (model W.P W.w) A' (forIn l (⟨acc, n⟩ : (Array Str × Nat)) tupBody) Q R.xe s := by
  intro l
  induction l with
  | nil =>
    intro ds vs ts acc n H s Q rl rv _ _ hlen _ _ I hs h
    cases rv
    have hd := rl.length
    have ht : ts = [] := List.length_eq_zero_iff.mp (by rw [hlen, hd]; rfl)
    subst ht
    have h0 := h H s I (.refl hs)
    simp only [List.forIn_nil]
    exact wpAny_pure (by simpa [piled] using h0)
  | cons u l ih =>
    intro ds vs ts acc n H s Q rl rv hmem ha hlen hit hn I hs h
    cases rv with
    | @cons v _ vs' _ ru rv' =>
      cases ds with
      | nil => cases rl
      | cons d ds =>
        obtain ⟨v1, vs1, ev, rd, rl'⟩ := rl
        injection ev with e1 e2
        subst e1 e2
        cases ts with
        | nil => cases hlen
        | cons t ts =>
          obtain ⟨t0, et, hI⟩ := hit 0 d rfl
          cases et
          rw [piled_cons] at hn
          obtain ⟨its, rvI, hT, _⟩ := I.tuple (.inl (.inl ha))
          obtain ⟨ot, hot, hoc, no, hod⟩ := hT
          have hm : u ∈ its ∨ ∀ b, u ≠ .ref b := by
            cases v with
            | ref b =>
              left
              cases (show u = Value.ref b from ru)
              obtain ⟨i, hi, e⟩ := List.mem_iff_getElem.mp (hmem _ List.mem_cons_self)
              obtain ⟨w, hw, rw'⟩ := rvI.get (i := i) (x := V.ref b) (by rw [List.getElem?_eq_getElem hi, e])
              cases (show w = Value.ref b from rw')
              exact List.mem_of_getElem? hw
            | _ =>
              right
              intro b z
              subst z
              first | (obtain ⟨_, z⟩ := ru; cases z; done) | (cases ru; done) | exact Value.noConfusion ru
          rw [List.forIn_cons]
          refine wpAny_bind (wpAny_bind (hI A' g h1 h2 h3 h4 h5 h6 (n + 1) (by omega) pins σ ph H s v u its _ I hs rd ru ⟨ot, no, hot, .inr hoc, hod⟩ hm fun H' s' I' st => wpAny_pure ?_))
          refine ih ds vs' ts (acc.push t) (n + (t.length + 2)) H' s' Q (RepL.mono st _ _ rl') rv' (fun v hv => hmem v (List.mem_cons_of_mem _ hv)) (st.keep a _ ha hna) (by simpa using hlen) (fun i d hd => by
            obtain ⟨t1, e1, e2⟩ := hit (i + 1) d (by simpa using hd)
            exact ⟨t1, by simpa using e1, e2⟩) (by omega) I' st.sto fun H'' s'' I'' st2 => ?_
          have hq := h H'' s'' I'' (st.trans st2)
          have e : n + piled (t :: ts) = n + (t.length + 2) + piled ts := by rw [piled_cons]; omega
          rw [e] at hq
          simpa using hq
/-- repr of a tuple -/
theorem reprI_tup (hgs : W.gs = []) {ph : Plc} {H : Hp} {s : Shared} {Q : VK} (hu : R.A.units + 100 < cLine) (hgd : R.A.guards = some W.gs) (I : Inv (mkX W L.N R) pins σ H s) (hs : RelSto W ph H m) (r : Rep W ph H (.tup ds) (.ref a)) (hlen : ts.length = ds.length)
    (hit : ∀ (i : Nat) (d : D), ds[i]? = some d → ∃ t, ts[i]? = some t ∧ ItI W L.N R R.A.in1 a m d t) (hsz : (tupleText ts).length ≤ sizeLine) (p : PostD W ph H m Q (.str (tupleText ts))) :
    wpAny (model W.P W.w) R.A (PySem.call (.builtin "repr") [.ref a]) (EP (mkX W L.N R) pins σ Q) R.xe s := by
  obtain ⟨a', vs, ea, tu, rl⟩ := r
  cases ea
  obtain ⟨o, its, na, rv, h1, h2, h3⟩ := ist I (tu.sq (K := W.K))
  have hg1 : R.A.in1.guards = some [] := by rw [← hgs]; exact hgd
  have hlen2 : ts.length = its.toArray.size := by rw [hlen, rl.length, rv.length, List.size_toArray]
  have hp := piled_le_tupleText ts
  refine call_repr_slot (by omega) ⟨o, h1, h2⟩ F.slot_tuple_repr ?_
  refine wpAny_call (codeAny_call_builtin_own (Code.quiet_builtin _ (by decide +kernel)) F.entry_tuple_repr (F.slot_tuple_repr.check _ _ _ _ _ _ _ _ ⟨o, h1, h2⟩ (F.args_tuple_repr_1 _) ?_))
  show wpOwn _ _ _ (Builtin.tupleReprAt 0 ⟨[.ref a], []⟩) _ _ _
  rw [tuple_repr_tree, tupleReprUnderWay_eq]
  refine wpOwn_bind (wpOwn_stackTailAny hg1 (tupGuardF_off _) (tupGuardF_pos _) ?_)
  show wpOwn _ _ _ (if false = true then _ else _) _ _ _
  rw [if_neg Bool.false_ne_true]
  refine wpOwn_of_wpAny ?_
  show wpAny _ _ (tupleReprRest 0 (.ref a)) _ _ s
  unfold tupleReprRest Builtin.Tuple.tupleItemsOf
  refine wpAny_bind (wpAny_bind (wpAny_seqItems h1 h3 (wpAny_pure ?_)))
  rw [← Array.forIn_toList]
  have only : Only1 a [Code.builtin "tuple.__repr__" ⟨[.ref a], []⟩] := by
    intro id v rest kw hm
    rw [List.mem_singleton] at hm
    injection hm with e1 e2
    injection e2 with e3 e4
    injection e3 with e5 e6
  refine wpAny_bind (tupFoldI (L := L) (R := R) (A := R.A.in1) (m := m) (ph := ph) (vs0 := vs) tup_depth (units_under_tuple_repr _ _) tup_frames tup_handled (guards_under_guard (isGuard_tuple_repr _) hg1) only tu.2.1 its.toArray.toList ds vs ts _ _ H s _ rl rv (fun v hv => hv) tu.1 hlen hit (by omega) I hs fun H' s' I' st => ?_)
  refine wpAny_bind (wpAny_mkStr (wpAny_pure ?_) (by simpa [tupleText, hlen2] using hsz))
  have et : Str.ofString "(" ++ (Str.ofString ", ").join ((#[] : Array Str) ++ ts.toArray).toList ++ Str.ofString (if (its.toArray.size == 1) = true then ",)" else ")") = tupleText ts := by simp [tupleText, hlen2]
  refine ⟨_, _, rfl, .str (tupleText ts), H', I'.tok _, ?_, p _ _ ph st rfl⟩
  exact ⟨s'.toks, by rw [← et]⟩
end
end PM
namespace PM
open PySem PySem.Spec L2 PyProof.Rows
open Classical in
/-- how an item is shown: an own object by its __repr__, all else by its kind -/
noncomputable def itT (xt : Nat → Option (Str × Str)) (M : Nat → Option FD) (m : Sto) (d : D) : Option Str := match d with
  | .ob c xs => match M c with
    | some F => match callS F (.ob c xs) m with
      | some (.str t) => some t
      | _ => none
    | none => none
  | d => match shn xt m 40 d with
    | some p => if p.1 ≤ 40 then some p.2 else none
    | none => none
def mapT (f : D → Option Str) : List D → Option (List Str)
  | [] => some []
  | d :: ds => match f d, mapT f ds with
    | some t, some ts => some (t :: ts)
    | _, _ => none
theorem mapT_len {f : D → Option Str} : ∀ {ds : List D} {ts : List Str}, mapT f ds = some ts → ts.length = ds.length
  | [], _, e => by cases e; rfl
  | d :: ds, ts, e => by
    unfold mapT at e
    split at e
    · rename_i t ts' _ q
      cases e
      rw [List.length_cons, List.length_cons, mapT_len q]
    · cases e
theorem mapT_at {f : D → Option Str} : ∀ {ds : List D} {ts : List Str}, mapT f ds = some ts → ∀ (i : Nat) (d : D), ds[i]? = some d → ∃ t, ts[i]? = some t ∧ f d = some t
  | [], _, _ => fun i d h => by simp at h
  | d :: ds, ts, e => fun i d' h => by
    unfold mapT at e
    split at e
    · rename_i t ts' q1 q2
      cases e
      cases i with
      | zero => cases h; exact ⟨t, rfl, q1⟩
      | succ i =>
        obtain ⟨t', a, b⟩ := mapT_at q2 i d' (by simpa using h)
        exact ⟨t', by simpa using a, b⟩
    · cases e
noncomputable def reprCD (xt : Nat → Option (Str × Str)) (M : Nat → Option FD) : List D → Sto → Option D
  | [x], m => match lstOf x m with
    | some (d :: ds) => match mapT (itT xt M m) (d :: ds) with
      | some ts => if (listText ts).length ≤ 1000000 then some (.str (listText ts)) else none
      | none => none
    | some [] => reprD xt [x] m
    | none => match x with
      | .tup xs => match mapT (itT xt M m) xs with
        | some ts => if (tupleText ts).length ≤ 1000000 then some (.str (tupleText ts)) else none
        | none => none
      | x => reprD xt [x] m
  | ds, m => reprD xt ds m
theorem rpT_one {W : Wd} {c k : Nat} {x : Str} {F : FD} (h : ∀ g, MethB (W.gd g) c x k 0 F) : RpT W k x (mOf [(c, F)]) := fun g c' F' e => by
  unfold mOf at e
  rw [List.lookup_cons] at e
  split at e
  · rename_i q
    cases e
    have q := eq_of_beq q
    subst q
    exact h g
  · cases e
section
variable {W : Wd} {L : Lv} {m : Sto} {R : Rst} {a : Addr} {k : Nat} {M : Nat → Option FD} {xt : Nat → Option (Str × Str)}
theorem it_of {d : D} {t : Str} (hx : XtTab W.toWk xt) (hT : RpT W k "__repr__" M) (hr : Room (k + 2) R.A) (e : itT xt M m d = some t) : ItI W L.N R R.A.in1 a m d t := by
  have hr1 : Room (k + 1) R.A.in1 := hr.in1
  have hu1 : R.A.in1.units + 100 < cLine := by have := hr1.un; omega
  unfold itT at e
  split at e
  · rename_i c xs
    split at e
    · rename_i F hM
      split at e
      · rename_i t' q
        cases e
        obtain ⟨t2, e1, e2⟩ := callS_some q
        cases e1
        exact it_own (L := L) hT hM e2 hr1 rfl
      · cases e
    · cases e
  · split at e
    · rename_i p q
      split at e
      · rename_i hp
        cases e
        exact it_plain hx hu1 q hp
      · cases e
    · cases e
theorem opn_reprC (hx : XtTab W.toWk xt) (hgs : W.gs = []) (hT : RpT W k "__repr__" M) (hk : k + 2 ≤ L.k := by decide) (hcl : L.calm = true := by rfl) : OpN W L (.builtin "repr") (reprCD xt M) := by
  intro R F pins s σ H xs us Q I r q
  obtain ⟨ph, m, ds, d, hs, r1, e, p⟩ := q
  have hr : Room (k + 2) R.A := (F.room hcl).mono hk
  have hu : R.A.units + 100 < cLine := by have := hr.un; omega
  have base : reprD xt ds m = some d → wpAny (model W.P W.w) R.A (PySem.call (.builtin "repr") us) (EP (mkX W L.N R) pins σ Q) R.xe s := fun e => opn_repr hx hgs R F pins s σ H xs us Q I r ⟨ph, m, ds, d, hs, r1, e, p⟩
  unfold reprCD at e
  split at e
  · rename_i x
    split at e
    · rename_i d0 ds0 q1
      split at e
      · rename_i ts q2
        split at e
        · rename_i hl
          cases e
          obtain ⟨v, rfl, rx⟩ := r1.one
          obtain ⟨a, vs, rfl, _, _⟩ := lstOf_sq hs rx q1
          rw [Vals.ref1 r]
          exact reprI_list hgs hu F.grd I hs rx q1 (mapT_len q2) (fun i d hd => by
            obtain ⟨t, e1, e2⟩ := mapT_at q2 i d hd
            exact ⟨t, e1, it_of hx hT hr e2⟩) (Nat.le_trans hl line6) p
        · cases e
      · cases e
    · exact base e
    · split at e
      · rename_i xs _
        split at e
        · rename_i ts q2
          split at e
          · rename_i hl
            cases e
            obtain ⟨v, rfl, rx⟩ := r1.one
            obtain ⟨a, vs, rfl, tu, rl⟩ := rx
            rw [Vals.ref1 r]
            exact reprI_tup hgs hu F.grd I hs ⟨a, vs, rfl, tu, rl⟩ (mapT_len q2) (fun i d hd => by
              obtain ⟨t, e1, e2⟩ := mapT_at q2 i d hd
              exact ⟨t, e1, it_of hx hT hr e2⟩) (Nat.le_trans hl line6) p
          · cases e
        · cases e
      · exact base e
  · exact base e
end
end PM

/-! PMW2: the plain operators, by cases of their arguments; the boxes of the laws. -/
namespace PM
open PySem PySem.Spec L2 PyProof.Rows
section
variable {i j : Int} {m : Sto} {a b : Str} {xs ys : List D} {n : Nat} {x y d : D}
@[simp] theorem addD_int : addD (.int i) (.int j) m = some (.int (i + j)) := rfl
@[simp] theorem addD_str : addD (.str a) (.str b) m = if a.length + b.length ≤ 1000000 then some (.str (a ++ b)) else none := rfl
@[simp] theorem addD_lst : addD (.lst xs) (.lst ys) m = if xs.length + ys.length ≤ 100000 then some (.lst (xs ++ ys)) else none := rfl
@[simp] theorem subD_int : subD (.int i) (.int j) m = some (.int (i - j)) := rfl
@[simp] theorem mulD_int : mulD (.int i) (.int j) m = if (i.natAbs < 2 ^ 64 ∨ j.natAbs < 2 ^ 64) ∨ (big i ∧ big j) then some (.int (i * j)) else none := rfl
@[simp] theorem divD_int : divD (.int i) (.int j) m = if j ≠ 0 ∧ j.natAbs.log2 < 9000 then some (.int (i.fdiv j)) else none := rfl
@[simp] theorem modD_int : modD (.int i) (.int j) m = if j ≠ 0 then some (.int (i.fmod j)) else none := rfl
@[simp] theorem powD_int : powD (.int i) (.int j) m = if 0 ≤ j ∧ j ≤ 1000000 ∧ i.natAbs < 2 ^ 64 then some (.int (i ^ j.toNat)) else none := rfl
@[simp] theorem cmpI_int {p : Int → Int → Bool} : cmpI p (.int i) (.int j) m = some (.bl (p i j)) := rfl
@[simp] theorem opLst_eq : opLst xs m = if xs.length ≤ 100000 then some (.lst xs) else none := rfl
@[simp] theorem opTup_eq : opTup xs m = if xs.length ≤ 100000 then some (.tup xs) else none := rfl
@[simp] theorem maxD_eq : maxD [.int i, .int j] m = some (.int (if j > i then j else i)) := rfl
@[simp] theorem minD_eq : minD [.int i, .int j] m = some (.int (if j < i then j else i)) := rfl
@[simp] theorem minXD_eq : minXD [.int i, .int j] m = some (.int (if j < i then j else i)) := rfl
@[simp] theorem absD_eq : absD [.int i] m = some (.int (if i < 0 then -i else i)) := rfl
@[simp] theorem strD_eq : strD [.int i] m = if i.natAbs.log2 < 1920 then some (.str (toString i)) else none := rfl
@[simp] theorem lenD_str : lenD [.str a] m = if a.length ≤ 1000000 then some (.int a.length) else none := rfl
@[simp] theorem lenD_lst : lenD [.lst xs] m = some (.int xs.length) := rfl
@[simp] theorem lenD_tup : lenD [.tup xs] m = some (.int xs.length) := rfl
@[simp] theorem lenD_fz : lenD [.fz xs] m = some (.int xs.length) := rfl
theorem ixD_str : ixD (.str a) (.int i) m = if a.length ≤ 1000000 then (L2.atI a.cps.toList i).map (fun c => .str ⟨#[c]⟩) else none := rfl
@[simp] theorem ixD_lst : ixD (.lst xs) (.int i) m = L2.atI xs i := rfl
@[simp] theorem ixD_tup : ixD (.tup xs) (.int i) m = L2.atI xs i := rfl
@[simp] theorem ixD_fz : ixD (.fz xs) (.int i) m = L2.atI xs i := rfl
theorem ixD_loc (h : m[n]? = some (.lst xs)) : ixD (.loc n) (.int i) m = L2.atI xs i := by
  show (seqOf (.loc n) m).bind _ = _
  simp only [seqOf, h]
  rfl
theorem stoD_loc (h : m[n]? = some (.lst xs)) : stoD (.loc n) (.int i) d m = (ixN xs.length i).map fun j => m.set n (.lst (xs.set j d)) := by
  simp only [stoD, stoL, h]
@[simp] theorem slD_str {lo hi : Option Int} : slD (.str a) lo hi m = if a.length ≤ 1000000 then some (.str (cutS a lo hi)) else none := rfl
@[simp] theorem slD_lst {lo hi : Option Int} : slD (.lst xs) lo hi m = some (.lst (cutL xs lo hi)) := rfl
@[simp] theorem run_any {f : FE} {env : Nv} {P : ResI → Prop} : Run (iAny f env m) P ↔ Run (f env m) (resC (fun d m1 => Run (itemsD d m1) P) fun c d m => P (.exn c d m)) := by
  unfold iAny; simp only [run_bndi]
@[simp] theorem itemsD_lst : itemsD (.lst xs) m = some (.ok xs none m) := rfl
@[simp] theorem itemsD_tup : itemsD (.tup xs) m = some (.ok xs none m) := rfl
@[simp] theorem itemsD_str : itemsD (.str a) m = some (.ok (a.cps.toList.map fun c => .str ⟨#[c]⟩) none m) := rfl
@[simp] theorem atI_0 {α : Type} {x : α} {xs : List α} : L2.atI (x :: xs) 0 = some x := atI_nat (j := 0) rfl
@[simp] theorem atI_1 {α : Type} {x y : α} {xs : List α} : L2.atI (x :: y :: xs) 1 = some y := atI_nat (j := 1) rfl
@[simp] theorem atI_2 {α : Type} {x y z : α} {xs : List α} : L2.atI (x :: y :: z :: xs) 2 = some z := atI_nat (j := 2) rfl
@[simp] theorem atI_3 {α : Type} {x y z u : α} {xs : List α} : L2.atI (x :: y :: z :: u :: xs) 3 = some u := atI_nat (j := 3) rfl
@[simp] theorem ixN_0 {k : Nat} : ixN (k + 1) 0 = some 0 := by unfold ixN; rw [if_pos (by decide), if_pos (by omega)]; rfl
@[simp] theorem ixN_1 {k : Nat} : ixN (k + 2) 1 = some 1 := by unfold ixN; rw [if_pos (by decide), if_pos (by omega)]; rfl
@[simp] theorem ixN_2 {k : Nat} : ixN (k + 3) 2 = some 2 := by unfold ixN; rw [if_pos (by decide), if_pos (by omega)]; rfl
theorem atI_ok (h0 : 0 ≤ i) (h1 : i < xs.length) : ∃ d, L2.atI xs i = some d ∧ xs[i.toNat]? = some d := by
  have hl : i.toNat < xs.length := by omega
  refine ⟨xs[i.toNat], ?_, by simp [hl]⟩
  have := atI_nat (xs := xs) (j := i.toNat) (v := xs[i.toNat]) (by simp [hl])
  rw [show ((i.toNat : Nat) : Int) = i by omega] at this
  exact this
theorem atI_two (h0 : 0 ≤ i) (h1 : i < 2) : ∃ d, L2.atI [x, y] i = some d ∧ (d = x ∨ d = y) := by
  have : i = 0 ∨ i = 1 := by omega
  rcases this with rfl | rfl
  · exact ⟨x, rfl, .inl rfl⟩
  · exact ⟨y, rfl, .inr rfl⟩
theorem atI_mem (h0 : 0 ≤ i) (h1 : i < xs.length) : ∃ d, L2.atI xs i = some d ∧ d ∈ xs := by
  obtain ⟨d, e1, e2⟩ := atI_ok h0 h1
  exact ⟨d, e1, List.mem_of_getElem? e2⟩
end
theorem atI_mem' {α : Type} {xs : List α} {i : Int} (h0 : 0 ≤ i) (h1 : i < xs.length) : ∃ d, L2.atI xs i = some d ∧ d ∈ xs := by
  have hl : i.toNat < xs.length := by omega
  have := atI_nat (xs := xs) (j := i.toNat) (v := xs[i.toNat]) (by simp [hl])
  rw [show ((i.toNat : Nat) : Int) = i by omega] at this
  exact ⟨_, this, List.getElem_mem hl⟩
theorem log2_lt {n k : Nat} (h : n < 2 ^ k) (hk : 0 < k) : n.log2 < k := by
  by_cases h0 : n = 0
  · rw [h0]; simpa using hk
  · exact (Nat.log2_lt h0).mpr h
/-! ### the law's boxes -/
/-- at n: what is left of the number, the seed, how often was drawn (at most c times) -/
def BoxAt (m : Sto) (n : Nat) (c : Int) : Prop := ∃ a b k : Int, m[n]? = some (.lst [.int a, .int b, .int k]) ∧ 0 ≤ a ∧ 0 ≤ b ∧ b < 2147483629 ∧ 0 ≤ k ∧ k ≤ c
/-- nothing but the place n -/
def But1 (m m' : Sto) (n : Nat) : Prop := m'.length = m.length ∧ ∀ i : Nat, i ≠ n → m'[i]? = m[i]?
theorem But1.refl (m : Sto) (n : Nat) : But1 m m n := ⟨rfl, fun _ _ => rfl⟩
theorem But1.trans {m1 m2 m3 : Sto} {n : Nat} (h : But1 m1 m2 n) (k : But1 m2 m3 n) : But1 m1 m3 n := ⟨k.1.trans h.1, fun i hi => (k.2 i hi).trans (h.2 i hi)⟩
theorem But1.set (m : Sto) (n : Nat) (c : Cell) : But1 m (m.set n c) n := ⟨by simp, fun i hi => by rw [List.getElem?_set_ne (fun z => hi z.symm)]⟩
theorem BoxAt.mono {m : Sto} {n : Nat} {c c' : Int} (h : BoxAt m n c) (hc : c ≤ c') : BoxAt m n c' := let ⟨a, b, k, e, h1, h2, h3, h4, h5⟩ := h; ⟨a, b, k, e, h1, h2, h3, h4, by omega⟩
theorem get_set {m : Sto} {n : Nat} {c c' : Cell} (h : m[n]? = some c) : (m.set n c')[n]? = some c' := by
  rw [List.getElem?_set_self (List.getElem?_eq_some_iff.mp h).1]
def noX (_ : Nat) (_ : D) (_ : Sto) : Prop := False
/-- a drawn number -/
def Took (n : Nat) (c many : Int) (m : Sto) : D → Sto → Prop := fun d m' => ∃ r : Int, d = .int r ∧ 0 ≤ r ∧ r < many ∧ BoxAt m' n (c + 1) ∧ But1 m m' n
theorem Run.ok {o : Option Res} {K K' : D → Sto → Prop} {X : Nat → D → Sto → Prop} (h : Run o (resC K' noX)) (hk : ∀ d m, K' d m → K d m) : Run o (resC K X) :=
  h.imp fun r hr => by cases r with
    | ok d m => exact hk d m hr
    | exn c d m => exact hr.elim
theorem run_rng1i {fs : List FE} {env : Nv} {m : Sto} {P : ResI → Prop} : Run (iRange1 fs env m) P ↔ Run (evL fs env m) (reslC (fun ds m1 => ∃ j, ds = [.int j] ∧ small62 j = true ∧ P (.ok (rngD 0 j.toNat) none m1)) fun c d m => P (.exn c d m)) := by
  unfold iRange1
  rw [run_bndil]
  constructor
  · rintro ⟨r, e, h⟩
    refine ⟨r, e, ?_⟩
    cases r with
    | exn c d m => exact h
    | ok ds m1 =>
      obtain ⟨o, e2, h2⟩ := h
      split at e2
      · rename_i j
        split at e2
        · rename_i hj
          cases e2
          exact ⟨j, rfl, hj, h2⟩
        · cases e2
      · cases e2
  · rintro ⟨r, e, h⟩
    refine ⟨r, e, ?_⟩
    cases r with
    | exn c d m => exact h
    | ok ds m1 =>
      obtain ⟨j, rfl, hj, h2⟩ := h
      refine ⟨_, ?_, h2⟩
      simp only [hj, if_true]
theorem fmod_pos {a b : Int} (h : 0 < b) : 0 ≤ a.fmod b ∧ a.fmod b < b := ⟨Int.fmod_nonneg_of_pos a h, Int.fmod_lt_of_pos a h⟩
theorem fdiv_small {a b : Int} (h : 0 < b) (ha : 0 ≤ a) : 0 ≤ a.fdiv b ∧ a.fdiv b ≤ a := by
  rw [Int.fdiv_eq_ediv_of_nonneg a (by omega)]
  exact ⟨Int.ediv_nonneg ha (by omega), Int.ediv_le_self b ha⟩
theorem sq_le {k : Int} (h0 : 0 ≤ k) (h1 : k ≤ 90000) : 0 ≤ 104729 * (k + 1) * (k + 1) ∧ 104729 * (k + 1) * (k + 1) ≤ 104729 * 90001 * 90001 := by
  have h2 : (k + 1) * (k + 1) ≤ 90001 * 90001 := Int.mul_le_mul (by omega) (by omega) (by omega) (by omega)
  have h3 : 0 ≤ (k + 1) * (k + 1) := Int.mul_nonneg (by omega) (by omega)
  rw [Int.mul_assoc]
  omega
theorem took_rest {m : Sto} {n : Nat} {c many a b k : Int} (hm : m[n]? = some (.lst [.int a, .int b, .int k])) (ha : 0 ≤ a) (hb0 : 0 ≤ b) (hb1 : b < 2147483629) (hk0 : 0 ≤ k) (hk1 : k ≤ c) (h0 : 0 < many) :
    Took n c many m (.int (a.fmod many)) (m.set n (.lst [.int (a.fdiv many), .int b, .int k])) :=
  ⟨_, rfl, (fmod_pos h0).1, (fmod_pos h0).2, ⟨_, _, _, get_set hm, (fdiv_small h0 ha).1, hb0, hb1, hk0, by omega⟩, .set _ _ _⟩
theorem took_draw {m : Sto} {n : Nat} {c many a b k x : Int} (hm : m[n]? = some (.lst [.int a, .int b, .int k])) (ha : 0 ≤ a) (hb0 : 0 ≤ b) (hb1 : b < 2147483629) (hk0 : 0 ≤ k) (hk1 : k ≤ c) (h0 : 0 < many) :
    Took n c many m (.int (x.fmod many)) (m.set n (.lst [.int a, .int b, .int (k + 1)])) :=
  ⟨_, rfl, (fmod_pos h0).1, (fmod_pos h0).2, ⟨_, _, _, get_set hm, ha, hb0, hb1, by omega, by omega⟩, .set _ _ _⟩
theorem draw_1 {b k s : Int} (hb0 : 0 ≤ b) (hb1 : b < 2147483629) (hk0 : 0 ≤ k) (hk1 : k ≤ 90000) (hs : 0 ≤ s) (hs2 : s < 1000) : (b + 7919 * (k + 1) + s).natAbs < 18446744073709551616 := by omega
theorem draw_2 {x k : Int} (hk0 : 0 ≤ k) (hk1 : k ≤ 90000) : ((x.fmod 2147483647).fdiv 8 + 104729 * (k + 1) * (k + 1) + 5).natAbs < 18446744073709551616 := by
  have h1 := fmod_pos (a := x) (b := 2147483647) (by decide)
  have h2 := fdiv_small (a := x.fmod 2147483647) (b := 8) (by decide) h1.1
  have h3 := sq_le hk0 hk1
  omega
theorem fin_both {K : D → Sto → Prop} {X : Nat → D → Sto → Prop} {m m' : Sto} {d : D} (h1 : K d m') (h2 : d.lt m.length = true → K d (m'.take m.length)) : resC K X (fin m d m') := by
  unfold fin
  split
  · rename_i h; exact h2 h.1
  · exact h1
theorem fin_loc {m m' : Sto} {n : Nat} (h : m.length ≤ n) : fin m (.loc n) m' = .ok (.loc n) m' := by
  unfold fin
  rw [if_neg]
  rintro ⟨z, _⟩
  unfold D.lt at z
  simp at z
  omega
/-- places may have come, those there but n are as they were -/
def Grow (n : Nat) (m m' : Sto) : Prop := m.length ≤ m'.length ∧ ∀ i : Nat, i < m.length → i ≠ n → m'[i]? = m[i]?
theorem Grow.refl (n : Nat) (m : Sto) : Grow n m m := ⟨Nat.le_refl _, fun _ _ _ => rfl⟩
theorem Grow.trans {n : Nat} {m1 m2 m3 : Sto} (h : Grow n m1 m2) (k : Grow n m2 m3) : Grow n m1 m3 := ⟨Nat.le_trans h.1 k.1, fun i hi hn => (k.2 i (Nat.lt_of_lt_of_le hi h.1) hn).trans (h.2 i hi hn)⟩
theorem Grow.take {n : Nat} {m m' : Sto} (h : Grow n m m') : Grow n m (m'.take m.length) := ⟨by have := h.1; rw [List.length_take]; omega, fun i hi hn => by rw [List.getElem?_take_of_lt hi]; exact h.2 i hi hn⟩
theorem But1.grow {n : Nat} {m m' : Sto} (h : But1 m m' n) : Grow n m m' := ⟨Nat.le_of_eq h.1.symm, fun i _ hn => h.2 i hn⟩
theorem Grow.app {n : Nat} {m ex : Sto} : Grow n m (m ++ ex) := ⟨by simp, fun i hi _ => by rw [List.getElem?_append_left hi]⟩
theorem BoxAt.take {m : Sto} {n k : Nat} {c : Int} (h : BoxAt m n c) (hn : n < k) : BoxAt (m.take k) n c := let ⟨a, b, j, e, h⟩ := h; ⟨a, b, j, by rw [List.getElem?_take_of_lt hn]; exact e, h⟩
theorem BoxAt.app {m ex : Sto} {n : Nat} {c : Int} (h : BoxAt m n c) : BoxAt (m ++ ex) n c := let ⟨a, b, j, e, h⟩ := h; ⟨a, b, j, by rw [List.getElem?_append_left (List.getElem?_eq_some_iff.mp e).1]; exact e, h⟩
theorem BoxAt.lt {m : Sto} {n : Nat} {c : Int} (h : BoxAt m n c) : n < m.length := let ⟨_, _, _, e, _⟩ := h; (List.getElem?_eq_some_iff.mp e).1
/-- behind a def that draws from the box at n at most c times -/
def Did (n : Nat) (c : Int) (m : Sto) (P : D → Sto → Prop) : D → Sto → Prop := fun d m' => P d m' ∧ BoxAt m' n c ∧ Grow n m m'
theorem Did.fin {n : Nat} {c : Int} {m m' : Sto} {P : D → Sto → Prop} {d : D} {X : Nat → D → Sto → Prop} (hn : n < m.length) (h : Did n c m P d m') (ht : d.lt m.length = true → P d (m'.take m.length)) : resC (Did n c m P) X (fin m d m') :=
  fin_both h fun hl => ⟨ht hl, h.2.1.take hn, h.2.2.take⟩
theorem ix_sign {z : Str} {r : Int} {m : Sto} (h0 : 0 ≤ r) (h1 : r < z.length) (hz : z.length ≤ 1000000) : ∃ c, ixD (.str z) (.int r) m = some (.str ⟨#[c]⟩) ∧ c ∈ z.cps.toList := by
  have hl : z.cps.toList.length = z.length := by simp [Str.length]
  obtain ⟨c, e, hc⟩ := atI_mem' (xs := z.cps.toList) h0 (by rw [hl]; exact h1)
  exact ⟨c, by rw [ixD_str, if_pos hz, e]; rfl, hc⟩
theorem Run.eq {o : Option Res} {d : D} {m : Sto} (h : Run o (resC (fun x m' => x = d ∧ m' = m) noX)) : o = some (.ok d m) := by
  obtain ⟨r, e, h⟩ := h
  cases r with
  | ok x m' => obtain ⟨rfl, rfl⟩ := h; exact e
  | exn c x m' => exact h.elim
theorem isiD_eq {tab : Ty → Ty → Option Bool} {x : D} {u : Ty} {m : Sto} : isiD tab [x, .cls u] m = (tyD x m).bind fun t => (tab t u).map .bl := by
  simp only [isiD]
  cases tyD x m <;> rfl
/-- letters as there are -/
def okS (s : Str) : Prop := ∀ c ∈ s.cps.toList, c < 0x110000
instance (s : Str) : Decidable (okS s) := inferInstanceAs (Decidable (∀ c ∈ s.cps.toList, c < 0x110000))
theorem okS_strOk {s : Str} (h : okS s) : PyData.strOk s = true := by
  unfold PyData.strOk
  rw [← Array.all_toList]
  exact List.all_eq_true.mpr fun c hc => decide_eq_true (h c hc)
theorem okS_app {a b : Str} (ha : okS a) (hb : okS b) : okS (a ++ b) := fun c hc => by
  have : c ∈ (a.cps ++ b.cps).toList := hc
  rw [Array.toList_append] at this
  exact (List.mem_append.mp this).elim (ha c) (hb c)
theorem okS_one {c : Nat} (h : c < 0x110000) : okS ⟨#[c]⟩ := fun x hx => by
  have : x ∈ [c] := hx
  rw [List.mem_singleton.mp this]; exact h
theorem okS_cut {a : Str} {lo hi : Option Int} (ha : okS a) : okS (cutS a lo hi) := fun c hc => by
  have : c ∈ (a.cps.toList.drop (HT.sIx a.length 0 lo)).take (HT.sIx a.length a.length hi - HT.sIx a.length 0 lo) := by simpa [cutS] using hc
  exact ha c (List.mem_of_mem_drop (List.mem_of_mem_take this))
theorem okS_mem {a : Str} {c : Nat} (ha : okS a) (h : c ∈ a.cps.toList) : okS ⟨#[c]⟩ := okS_one (ha c h)
theorem allD_bls {bs : List Bool} {m : Sto} : allD [.lst (bs.map .bl)] m = some (.bl (bs.all id)) := by
  unfold allD aggD
  simp only [lstOf, blsOf_map]
  rfl
end PM

/-! PMW3: the plain calculus: methods, defaults. -/
namespace PM
open PySem PySem.Spec L2 PyProof.Rows
section
variable {f : FE} {fs gs : List FE} {env : Nv} {m : Sto} {P : Res → Prop}
@[simp] theorem run_callD {F : FD} {as : List SelP} : Run (eCallD F as fs gs env m) P ↔ Run (evL fs env m) (reslC (fun ds m1 => Run (evL gs env m1) (reslC (fun es m2 => Run (F (as.map (selP ds es)) m2) P) fun c d m => P (.exn c d m))) fun c d m => P (.exn c d m)) := by
  unfold eCallD; simp
def strC (K : Str → Sto → Prop) (X : Nat → D → Sto → Prop) : Res → Prop := resC (fun d m => ∃ i, d = .str i ∧ K i m) X
@[simp] theorem strC_ok (K : Str → Sto → Prop) (X : Nat → D → Sto → Prop) (i : Str) (m : Sto) : strC K X (.ok (.str i) m) ↔ K i m := ⟨fun ⟨_, e, h⟩ => by cases e; exact h, fun h => ⟨i, rfl, h⟩⟩
@[simp] theorem strC_exn (K : Str → Sto → Prop) (X : Nat → D → Sto → Prop) (c : Nat) (d : D) (m : Sto) : strC K X (.exn c d m) = X c d m := rfl
@[simp] theorem run_sm {op : Str → List D → Sto → Option D} : Run (eSm op f fs env m) P ↔ Run (f env m) (strC (fun s m1 => Run (evL fs env m1) (reslC (fun ds m2 => Run (op s ds m2) fun d => P (.ok d m2)) fun c d m => P (.exn c d m))) fun c d m => P (.exn c d m)) := by
  unfold eSm
  rw [run_bnd]
  constructor
  · rintro ⟨r, e, h⟩
    refine ⟨r, e, ?_⟩
    cases r with
    | exn c d m => exact h
    | ok d m1 =>
      cases d <;> first | (obtain ⟨_, e, _⟩ := h; cases e; done) | skip
      refine ⟨_, rfl, ?_⟩
      simpa using h
  · rintro ⟨r, e, h⟩
    refine ⟨r, e, ?_⟩
    cases r with
    | exn c d m => exact h
    | ok d m1 =>
      obtain ⟨s, rfl, h⟩ := h
      simpa using h
@[simp] theorem run_mm {op : D → List D → Sto → Option (D × Sto)} : Run (eMm op f fs env m) P ↔ Run (f env m) (resC (fun x m1 => lstPl x m1 = true ∧ Run (evL fs env m1) (reslC (fun ds m2 => Run (op x ds m2) fun p => P (.ok p.1 p.2)) fun c d m => P (.exn c d m))) fun c d m => P (.exn c d m)) := by
  unfold eMm
  rw [run_bnd]
  constructor
  · rintro ⟨r, e, h⟩
    refine ⟨r, e, ?_⟩
    cases r with
    | exn c d m => exact h
    | ok d m1 =>
      have h : Run (if lstPl d m1 = true then bndl (evL fs env m1) fun ds m2 => (op d ds m2).map fun p => Res.ok p.1 p.2 else none) P := h
      by_cases hl : lstPl d m1 = true
      · rw [if_pos hl] at h
        exact ⟨hl, by simpa using h⟩
      · rw [if_neg hl] at h
        obtain ⟨_, e, _⟩ := h
        cases e
  · rintro ⟨r, e, h⟩
    refine ⟨r, e, ?_⟩
    cases r with
    | exn c d m => exact h
    | ok d m1 =>
      obtain ⟨hl, h⟩ := h
      show Run (if lstPl d m1 = true then _ else _) P
      rw [if_pos hl]
      simpa using h
theorem draw_1b {b k : Int} (hb0 : 0 ≤ b) (hb1 : b < 2147483629) (hk0 : 0 ≤ k) (hk1 : k ≤ 90000) : (b + 104729 * (k + 1) + 71).natAbs < 18446744073709551616 := by omega
theorem draw_2b {x k : Int} (hk0 : 0 ≤ k) (hk1 : k ≤ 90000) : ((x.fmod 2147483647).fdiv 8 + 96581 * (k + 1) * (k + 1) + 3).natAbs < 18446744073709551616 := by
  have h1 := fmod_pos (a := x) (b := 2147483647) (by decide)
  have h2 := fdiv_small (a := x.fmod 2147483647) (b := 8) (by decide) h1.1
  have h4 : (k + 1) * (k + 1) ≤ 90001 * 90001 := Int.mul_le_mul (by omega) (by omega) (by omega) (by omega)
  have h5 : 0 ≤ (k + 1) * (k + 1) := Int.mul_nonneg (by omega) (by omega)
  rw [Int.mul_assoc 96581]
  omega
section
variable {a b : Str} {i : Int} {k : Bool} {d : D}
@[simp] theorem eqD_str : eqD (.str a) (.str b) m = some (.bl (decide (a = b))) := rfl
@[simp] theorem eqD_int {j : Int} : eqD (.int i) (.int j) m = some (.bl (decide (i = j))) := rfl
@[simp] theorem neD_int {j : Int} : neD (.int i) (.int j) m = some (.bl (!decide (i = j))) := rfl
@[simp] theorem neD_str : neD (.str a) (.str b) m = some (.bl (!decide (a = b))) := rfl
@[simp] theorem intD_int : intD [.int i] m = some (.int i) := rfl
@[simp] theorem intD_bl : intD [.bl k] m = some (.int (if k then 1 else 0)) := rfl
@[simp] theorem swD_str : swD a [.str b] m = some (.bl (Txt.startswith a b)) := rfl
@[simp] theorem findD_str : findD a [.str b] m = some (.int (Txt.find a b)) := rfl
@[simp] theorem negD_int : negD (.int i) m = some (.int (-i)) := rfl
@[simp] theorem mulD_str : mulD (.str a) (.int i) m = if a.length * i.toNat ≤ 1000000 ∧ i.natAbs < 2 ^ 60 then some (.str (repS a i.toNat)) else none := rfl
end
end
end PM

/-! PMW4: the plain calculus: objects, try, sorted; the state of a def that draws. -/
namespace PM
open PySem PySem.Spec L2 PyProof.Rows
section
variable {f : FE} {fs gs : List FE} {env : Nv} {m : Sto} {P : Res → Prop} {PO : Out → Prop} {fn : Nat → List Str} {c n : Nat} {F : FD}
/-- what becomes of a new object -/
def mkC (fn : Nat → List Str) (c : Nat) (m2 : Sto) (P : Res → Prop) : Res → Prop := fun r => Run (mkO fn c m2 (some r)) P
@[simp] theorem run_makeD {as : List SelP} : Run (eMakeD fn c F as fs gs env m) P ↔ Run (evL fs env m) (reslC (fun ds m1 => Run (evL gs env m1) (reslC (fun es m2 => Run (F (as.map (selP (.loc m2.length :: ds) es)) (m2 ++ [.ins c []])) (mkC fn c m2 P)) fun c d m => P (.exn c d m))) fun c d m => P (.exn c d m)) := by
  unfold eMakeD
  simp only [run_bndl]
  have : ∀ (m2 : Sto) (o : Option Res), Run (mkO fn c m2 o) P ↔ Run o (mkC fn c m2 P) := fun m2 o => by
    cases o with
    | none => simp [mkO]
    | some r => simp [mkC]
  simp only [this]
theorem ltL_all {k : Nat} : ∀ {xs : List D}, ltL k xs = true ↔ ∀ x ∈ xs, x.lt k = true
  | [] => by simp [ltL]
  | x :: xs => by simp [ltL, ltL_all (xs := xs)]
theorem mkC_ok {m2 : Sto} {fs : List (Str × D)} (h1 : fs.map (·.1) = fn c) (h2 : ltL m2.length (fs.map (·.2)) = true) (hk : P (.ok (.ob c (fs.map (·.2))) m2)) : mkC fn c m2 P (.ok .non (m2 ++ [.ins c fs])) := by
  unfold mkC mkO
  have e : (m2 ++ [Cell.ins c fs])[m2.length]? = some (.ins c fs) := List.getElem?_concat_length
  simp only [e]
  rw [if_pos ⟨rfl, h1, h2, Sim.app m2 _⟩, run_some, List.take_left' rfl]
  exact hk
theorem mkC_exn {m2 : Sto} {k : Nat} {d : D} {ex : Sto} (h : d.lt m2.length = true) (hk : P (.exn k d m2)) : mkC fn c m2 P (.exn k d (m2 ++ ex)) := by
  unfold mkC mkO
  simp only []
  rw [if_pos ⟨h, Sim.app m2 _⟩, run_some, List.take_left' rfl]
  exact hk
def obC (fn : Nat → List Str) (M : Nat → Option FD) (fs : List FE) (env : Nv) (P : Res → Prop) : Res → Prop := resC (fun x m1 => Run (methK fn M fs env x m1) P) fun c d m => P (.exn c d m)
@[simp] theorem run_meth {M : Nat → Option FD} : Run (eMeth fn M f fs env m) P ↔ Run (f env m) (obC fn M fs env P) := by
  unfold eMeth obC
  simp only [run_bnd]
@[simp] theorem obC_exn {M : Nat → Option FD} {d : D} : obC fn M fs env P (.exn c d m) = P (.exn c d m) := rfl
theorem methK_ob {M : Nat → Option FD} {xs : List D} (hM : M c = some F) (hl : (fn c).length = xs.length) : methK fn M fs env (.ob c xs) m = bndl (evL fs env m) fun ds m2 => F (.ob c xs :: ds) m2 := by
  unfold methK
  simp only [obOf, hM]
  rw [if_pos (zip_fst hl)]
theorem obC_ok {M : Nat → Option FD} {xs : List D} (hM : M c = some F) (hl : (fn c).length = xs.length) : obC fn M fs env P (.ok (.ob c xs) m) ↔ Run (evL fs env m) (reslC (fun ds m2 => Run (F (.ob c xs :: ds) m2) P) fun c d m => P (.exn c d m)) := by
  unfold obC
  rw [resC_ok, methK_ob hM hl, run_bndl]
@[simp] theorem mOf_hit {F : FD} {l : List (Nat × FD)} : mOf ((c, F) :: l) c = some F := by simp [mOf, List.lookup]
theorem mOf_skip {F : FD} {l : List (Nat × FD)} {k : Nat} (h : c ≠ k) : mOf ((k, F) :: l) c = mOf l c := by
  unfold mOf
  rw [List.lookup_cons]
  have : (c == k) = false := by simpa using h
  rw [this]
/-! self.f = e -/
@[simp] theorem run_fld {n : Nat} {g : Str} {fo fv : FE} : Run (sFldD n fn g fo fv env m) PO ↔ Run (fv env m) (resC (fun y m1 => Run (fo env m1) (resC (fun x m2 => Run (stoF n fn g x y m2) fun m3 => PO (.nx env m3)) fun c d m => PO (.exn env c d m))) fun c d m => PO (.exn env c d m)) := by
  unfold sFldD; simp only [run_bnds, run_map]
theorem stoF_new {n : Nat} {g : Str} {y : D} {c : Nat} {fs : List (Str × D)} (h : c < n ∧ g ∈ fn c ∧ fs.length < 900) : stoF n fn g (.loc m.length) y (m ++ [.ins c fs]) = some (m ++ [.ins c (putFD g y fs)]) := by
  have e : (m ++ [Cell.ins c fs])[m.length]? = some (.ins c fs) := List.getElem?_concat_length
  simp only [stoF, e]
  rw [if_pos h, List.set_append_right _ _ (Nat.le_refl _)]
  simp
theorem fldD_ob {n : Nat} {g : Str} {xs : List D} {d : D} (h : c < n ∧ g ∈ fn c) (e : ((fn c).zip xs).lookup g = some d) : fldD n fn g (.ob c xs) m = some d := by
  simp only [fldD, obOf]
  rw [if_pos h, e]
/-! try -/
def tryC (ex : Nat → Nat → Option Bool) (hs : List Hd) (PO : Out → Prop) : Out → Prop
  | .exn env1 c d m1 => Run (handD ex hs env1 c d m1) PO
  | o => PO o
@[simp] theorem tryC_nx {ex : Nat → Nat → Option Bool} {hs : List Hd} : tryC ex hs PO (.nx env m) = PO (.nx env m) := rfl
@[simp] theorem tryC_rt {ex : Nat → Nat → Option Bool} {hs : List Hd} {d : D} : tryC ex hs PO (.rt d m) = PO (.rt d m) := rfl
@[simp] theorem tryC_exn {ex : Nat → Nat → Option Bool} {hs : List Hd} {d : D} : tryC ex hs PO (.exn env c d m) = Run (handD ex hs env c d m) PO := rfl
@[simp] theorem run_try {ex : Nat → Nat → Option Bool} {b : FS} {hs : List Hd} : Run (sTry ex b hs env m) PO ↔ Run (b env m) (tryC ex hs PO) := by
  unfold sTry
  cases b env m with
  | none => simp
  | some o => cases o <;> simp [tryC]
theorem Run.eqr {α : Type} {o : Option α} {r : α} (h : Run o (fun x => x = r)) : o = some r := by
  obtain ⟨x, e, h⟩ := h
  rw [e, h]
/-- whether the clause is the exception's -/
def handC (b : Option Bool) (p q : Prop) : Prop := match b with
  | some true => p
  | some false => q
  | none => False
@[simp] theorem handC_t {p q : Prop} : handC (some true) p q = p := rfl
@[simp] theorem handC_f {p q : Prop} : handC (some false) p q = q := rfl
def offC (i : Nat) (m1 : Sto) (PO : Out → Prop) : Out → Prop
  | .nx env m => m = m1 ∧ envNC (env.set i none) ∧ PO (.nx (env.set i none) m)
  | .rt d m => m = m1 ∧ d.nc = true ∧ PO (.rt d m)
  | _ => False
@[simp] theorem offC_rt {i : Nat} {m1 : Sto} {d : D} : offC i m1 PO (.rt d m) = (m = m1 ∧ d.nc = true ∧ PO (.rt d m)) := rfl
@[simp] theorem offC_nx {i : Nat} {m1 : Sto} : offC i m1 PO (.nx env m) = (m = m1 ∧ envNC (env.set i none) ∧ PO (.nx (env.set i none) m)) := rfl
def bareC (PO : Out → Prop) : Out → Prop
  | .exn _ _ _ _ => False
  | o => PO o
@[simp] theorem bareC_rt {d : D} : bareC PO (.rt d m) = PO (.rt d m) := rfl
@[simp] theorem bareC_nx : bareC PO (.nx env m) = PO (.nx env m) := rfl
@[simp] theorem run_hand_nil {ex : Nat → Nat → Option Bool} {d : D} : Run (handD ex [] env c d m) PO ↔ PO (.exn env c d m) := by simp [handD]
@[simp] theorem run_hand_named {ex : Nat → Nat → Option Bool} {k i : Nat} {g : FS} {r : List Hd} {d : D} : Run (handD ex (⟨k, some i, g⟩ :: r) env c d m) PO ↔ handC (ex c k) (Run (g (env.set i (some (.cau c d))) m) (offC i m PO)) (Run (handD ex r env c d m) PO) := by
  simp only [handD]
  cases ex c k with
  | none => simp [handC]
  | some b =>
    cases b with
    | false => simp
    | true =>
      simp only [handC_t]
      cases g (env.set i (some (.cau c d))) m with
      | none => simp [offO]
      | some o => cases o <;> simp [offO, offC, and_assoc]
@[simp] theorem run_hand_bare {ex : Nat → Nat → Option Bool} {k : Nat} {g : FS} {r : List Hd} {d : D} : Run (handD ex (⟨k, none, g⟩ :: r) env c d m) PO ↔ handC (ex c k) (Run (g env m) (bareC PO)) (Run (handD ex r env c d m) PO) := by
  simp only [handD]
  cases ex c k with
  | none => simp [handC]
  | some b =>
    cases b with
    | false => simp
    | true =>
      simp only [handC_t]
      cases g env m with
      | none => simp [bareO]
      | some o => cases o <;> simp [bareO, bareC]
@[simp] theorem foundD_cau {d : D} : foundD (.cau c d) m = some d := rfl
@[simp] theorem nc_tup {xs : List D} : D.nc (.tup xs) = ncL xs := rfl
@[simp] theorem ncL_cons {d : D} {ds : List D} : ncL (d :: ds) = (d.nc && ncL ds) := rfl
@[simp] theorem ncL_nil : ncL [] = true := rfl
@[simp] theorem nc_str {s : Str} : D.nc (.str s) = true := rfl
@[simp] theorem nc_int {i : Int} : D.nc (.int i) = true := rfl
@[simp] theorem nc_non : D.nc .non = true := rfl
@[simp] theorem nc_bl {b : Bool} : D.nc (.bl b) = true := rfl
@[simp] theorem nc_loc {q : Nat} : D.nc (.loc q) = true := rfl
end
/-! ### the state of a def that draws -/
/-- behind draws from the box at n (at most c in all), in a def that began with m0 -/
structure St (n : Nat) (c : Int) (m0 m : Sto) : Prop where
  box : BoxAt m n c
  grow : Grow n m0 m
  lt : n < m0.length
section
variable {n : Nat} {c c' c1 : Int} {m m0 m1 m' : Sto} {d : D} {K : D → Sto → Prop} {X : Nat → D → Sto → Prop}
theorem St.start (h : BoxAt m n c) : St n c m m := ⟨h, .refl _ _, h.lt⟩
theorem St.mono (S : St n c m0 m) (h : c ≤ c') : St n c' m0 m := ⟨S.box.mono h, S.grow, S.lt⟩
theorem St.app {ex : Sto} (S : St n c m0 m) : St n c m0 (m ++ ex) := ⟨S.box.app, S.grow.trans .app, S.lt⟩
theorem St.trans (S : St n c m0 m) (S1 : St n c1 m m1) : St n c1 m0 m1 := ⟨S1.box, S.grow.trans S1.grow, S.lt⟩
theorem St.took (S : St n c m0 m) (B : BoxAt m1 n c1) (k : But1 m m1 n) : St n c1 m0 m1 := ⟨B, S.grow.trans k.grow, S.lt⟩
theorem St.ltm (S : St n c m0 m) : n < m.length := S.box.lt
theorem St.take (S : St n c m0 m) (S1 : St n c1 m m1) : St n c1 m0 (m1.take m.length) := ⟨S1.box.take S.ltm, S.grow.trans S1.grow.take, S.lt⟩
/-- a def's end -/
theorem St.fin (S : St n c m0 m) (S1 : St n c1 m m1) (k : ∀ m', St n c1 m0 m' → (m' = m1 ∨ (d.lt m.length = true ∧ m' = m1.take m.length)) → K d m') : resC K X (fin m d m1) :=
  fin_both (k m1 (S.trans S1) (.inl rfl)) fun h => k _ (S.take S1) (.inr ⟨h, rfl⟩)
/-- a def's end, the value as it is by itself -/
theorem St.fin0 (S : St n c m0 m) (S1 : St n c1 m m1) (k : ∀ m', St n c1 m0 m' → K d m') : resC K X (PM.fin m d m1) := S.fin S1 fun m' h _ => k m' h
end
@[simp] theorem sortedD_ints {ns : List Int} {m : Sto} (h : ns.length ≤ 100000) : sortedD [.lst (ns.map .int)] m = some (.lst ((ns.mergeSort leI).map .int)) := by
  simp only [sortedD, lstOf, List.length_map, intsOf_map]
  rw [if_pos h]
theorem small62_max {k n : Nat} (h : k ≤ 63) (hn : n ≤ 63) : small62 (if (if (n : Int) < k then (n : Int) else k) > 2 then (if (n : Int) < k then (n : Int) else k) else 2) = true := by
  unfold small62
  simp only [Bool.and_eq_true, decide_eq_true_eq]
  constructor <;> (repeat' split) <;> omega
end PM

/-! PMV: plain values: equal to themselves, shown by some text. -/
namespace PM
open PySem PySem.Spec L2 PyProof.Rows
section
variable {xt : Nat → Option (Str × Str)} {m m' : Sto} {d x y : D} {ds es : List D} {k j n n' : Nat}
/-- d is shown by a text of at most n signs, less than k deep -/
def Ps (xt : Nat → Option (Str × Str)) (m : Sto) (d : D) (k n : Nat) : Prop := ∃ j t, j ≤ k ∧ t.length ≤ n ∧ ∀ f, k < f → shn xt m f d = some (j, t)
def PsL (xt : Nat → Option (Str × Str)) (m : Sto) (ds : List D) (k n : Nat) : Prop := ∃ j ts, j ≤ k ∧ piled ts ≤ n ∧ ∀ f, k < f → mapR (shn xt m f) ds = some (j, ts)
theorem succ_of {k f : Nat} (h : k < f) : ∃ g, f = g + 1 ∧ k ≤ g := ⟨f - 1, by omega, by omega⟩
theorem Ps.mono (h : Ps xt m d k n) (hk : k ≤ j) (hn : n ≤ n') : Ps xt m d j n' := let ⟨a, t, h1, h2, h3⟩ := h; ⟨a, t, by omega, by omega, fun f hf => h3 f (by omega)⟩
theorem PsL.mono (h : PsL xt m ds k n) (hk : k ≤ j) (hn : n ≤ n') : PsL xt m ds j n' := let ⟨a, t, h1, h2, h3⟩ := h; ⟨a, t, by omega, by omega, fun f hf => h3 f (by omega)⟩
theorem Ps.non : Ps xt m .non k 4 := ⟨0, "None", by omega, by decide, fun f hf => by obtain ⟨g, rfl, _⟩ := succ_of hf; rfl⟩
theorem Ps.bl {b : Bool} : Ps xt m (.bl b) k 5 := ⟨0, if b then "True" else "False", by omega, by cases b <;> decide, fun f hf => by obtain ⟨g, rfl, _⟩ := succ_of hf; rfl⟩
theorem Ps.int {i : Int} (h : i.natAbs.log2 < 1920) : Ps xt m (.int i) k 1921 := ⟨0, _, by omega, int_text_len_1921 h, fun f hf => by
  obtain ⟨g, rfl, _⟩ := succ_of hf
  show (if i.natAbs.log2 < 12000 then some (0, (↑(toString i) : Str)) else none) = _
  rw [if_pos (by omega)]⟩
/-- a long number, by its signs -/
theorem Ps.long {i : Int} {j : Nat} (hj : 0 < j) (h : i.natAbs < 10 ^ j) (hl : i.natAbs.log2 < 12000) : Ps xt m (.int i) k (j + 1) := ⟨0, _, by omega, by
    rw [PySem.ofString_length]; exact int_text_length_le10 hj h, fun f hf => by
  obtain ⟨g, rfl, _⟩ := succ_of hf
  show (if i.natAbs.log2 < 12000 then some (0, (↑(toString i) : Str)) else none) = _
  rw [if_pos hl]⟩
theorem Ps.str {s : Str} (h : ∀ c ∈ s.cps.toList, c < 0x110000) (hl : s.length ≤ 99999) : Ps xt m (.str s) k (10 * s.length + 2) := by
  have h1 := StrLaws.reprText_len s (fun c hc => Nat.lt_trans (h c hc) (by decide))
  exact ⟨0, _, by omega, h1, fun f hf => by
    obtain ⟨g, rfl, _⟩ := succ_of hf
    show (if (reprText s).length ≤ 1000000 then some (0, reprText s) else none) = _
    rw [if_pos (by omega)]⟩
theorem Ps.exc {c : Nat} {p : Str × Str} (h : xt c = some p) (hl : (excTxt p.1 p.2).length ≤ n) : Ps xt m (.exc c d) k n := ⟨0, _, by omega, hl, fun f hf => by
  obtain ⟨g, rfl, _⟩ := succ_of hf
  show (xt c).map (fun p => (0, excTxt p.1 p.2)) = _
  rw [h]; rfl⟩
theorem PsL.nil : PsL xt m [] k 0 := ⟨0, [], by omega, by simp [piled], fun f hf => rfl⟩
theorem PsL.cons (h : Ps xt m d k n) (t : PsL xt m ds k n') : PsL xt m (d :: ds) k (n + 2 + n') := by
  obtain ⟨a, u, h1, h2, h3⟩ := h
  obtain ⟨b, us, h4, h5, h6⟩ := t
  refine ⟨max a b, u :: us, by omega, by rw [piled_cons]; omega, fun f hf => ?_⟩
  simp only [mapR, h3 f hf, h6 f hf]
theorem PsL.all : ∀ {ds : List D}, (∀ d ∈ ds, Ps xt m d k n) → PsL xt m ds k (ds.length * (n + 2))
  | [], _ => .mono .nil (Nat.le_refl _) (by simp)
  | d :: ds, h => .mono (.cons (h d List.mem_cons_self) (PsL.all fun x hx => h x (List.mem_cons_of_mem _ hx))) (Nat.le_refl _) (by rw [List.length_cons, Nat.succ_mul]; omega)
theorem listText_len (ts : List Str) : (listText ts).length ≤ piled ts + 2 := by
  cases ts with
  | nil => rw [listText_nil]; decide
  | cons t r =>
    have h := textFrom_length_pos r 1 (("[" : Str) ++ (if (0 : Nat) > 0 then ", " else "" : String) ++ t) (Nat.succ_pos 0)
    have e : ((("[" : Str) ++ (if (0 : Nat) > 0 then ", " else "" : String) ++ t)).length = 1 + t.length := by
      rw [strLen_append, strLen_append]; rfl
    have hX : (listText (t :: r)).length = (textFrom 0 "[" (t :: r)).length + 1 := by
      show (textFrom 0 "[" (t :: r) ++ "]").length = _
      rw [strLen_append]; rfl
    have hY : (textFrom 0 "[" (t :: r)).length = (textFrom 1 (("[" : Str) ++ (if (0 : Nat) > 0 then ", " else "" : String) ++ t) r).length := rfl
    rw [hX, hY, h, e, piled_cons]; omega
theorem tupleText_len (ts : List Str) : (tupleText ts).length ≤ piled ts + 3 := by
  unfold tupleText
  rw [strLen_append, strLen_append]
  have e1 : ((("(" : String) : Str)).length = 1 := rfl
  have e3 : (((if ts.length == 1 then ",)" else ")" : String) : Str)).length ≤ 2 := by split <;> decide
  rw [e1]
  by_cases h : ts = []
  · subst h; simp [piled]; decide
  · have := join_length_add ts h
    omega
theorem dictText_len (ts : List Str) : (dictText ts).length ≤ piled ts + 2 := by
  unfold dictText
  rw [strLen_append, strLen_append]
  have e1 : ((("{" : String) : Str)).length = 1 := rfl
  have e2 : ((("}" : String) : Str)).length = 1 := rfl
  rw [e1, e2]
  by_cases h : ts = []
  · subst h; simp [piled]; decide
  · have := join_length_add ts h
    omega
theorem Ps.tup (h : PsL xt m ds k n) : Ps xt m (.tup ds) (k + 1) (n + 3) := by
  obtain ⟨a, ts, h1, h2, h3⟩ := h
  refine ⟨a + 1, tupleText ts, by omega, by have := tupleText_len ts; omega, fun f hf => ?_⟩
  obtain ⟨g, rfl, hg⟩ := succ_of hf
  show (mapR (shn xt m g) ds).map (fun p => (p.1 + 1, tupleText p.2)) = _
  rw [h3 g (by omega)]; rfl
theorem Ps.lst (h : PsL xt m ds k n) : Ps xt m (.lst ds) (k + 1) (n + 3) := by
  obtain ⟨a, ts, h1, h2, h3⟩ := h
  refine ⟨a + 1, listText ts, by omega, by have := listText_len ts; omega, fun f hf => ?_⟩
  obtain ⟨g, rfl, hg⟩ := succ_of hf
  show (mapR (shn xt m g) ds).map (fun p => (p.1 + 1, listText p.2)) = _
  rw [h3 g (by omega)]; rfl
theorem Ps.fz (h : PsL xt m ds k n) : Ps xt m (.fz ds) (k + 1) (n + 3) := by
  obtain ⟨a, ts, h1, h2, h3⟩ := h
  refine ⟨a + 1, listText ts, by omega, by have := listText_len ts; omega, fun f hf => ?_⟩
  obtain ⟨g, rfl, hg⟩ := succ_of hf
  show (mapR (shn xt m g) ds).map (fun p => (p.1 + 1, listText p.2)) = _
  rw [h3 g (by omega)]; rfl
theorem Ps.loc {i : Nat} (e : m[i]? = some (.lst ds)) (h : PsL xt m ds k n) : Ps xt m (.loc i) (k + 1) (n + 3) := by
  obtain ⟨a, ts, h1, h2, h3⟩ := h
  refine ⟨a + 1, listText ts, by omega, by have := listText_len ts; omega, fun f hf => ?_⟩
  obtain ⟨g, rfl, hg⟩ := succ_of hf
  simp only [shn, e, h3 g (by omega)]; rfl
def PsE (xt : Nat → Option (Str × Str)) (m : Sto) (kvs : List (Key × D)) (k n : Nat) : Prop := ∃ j ts, j ≤ k ∧ piled ts ≤ n ∧ ∀ f, k < f → mapE (shn xt m f) kvs = some (j, ts)
theorem PsE.nil : PsE xt m [] k 0 := ⟨0, [], by omega, by simp [piled], fun f hf => rfl⟩
theorem PsE.cons {q : Key} {u : Str} {kvs : List (Key × D)} {l : Nat} (hq : keyT q = some u) (hu : u.length ≤ l) (h : Ps xt m d k n) (t : PsE xt m kvs k n') : PsE xt m ((q, d) :: kvs) k (l + 2 + n + 2 + n') := by
  obtain ⟨a, v, h1, h2, h3⟩ := h
  obtain ⟨b, us, h4, h5, h6⟩ := t
  refine ⟨max a b, (u ++ ": " ++ v) :: us, by omega, ?_, fun f hf => ?_⟩
  · rw [piled_cons, strLen_append, strLen_append]
    have : (((": " : String) : Str)).length = 2 := rfl
    omega
  · simp only [mapE, hq, h3 f hf, h6 f hf]
theorem Ps.dct {i : Nat} {kvs : List (Key × D)} (e : m[i]? = some (.dct kvs)) (h : PsE xt m kvs k n) : Ps xt m (.loc i) (k + 1) (n + 3) := by
  obtain ⟨a, ts, h1, h2, h3⟩ := h
  refine ⟨a + 1, dictText ts, by omega, by have := dictText_len ts; omega, fun f hf => ?_⟩
  obtain ⟨g, rfl, hg⟩ := succ_of hf
  simp only [shn, e, h3 g (by omega)]; rfl
theorem reprD_ps (h : Ps xt m d k n) (hk : k < 40) (hn : n ≤ 1000000) : ∃ t, reprD xt [d] m = some (.str t) := by
  obtain ⟨a, t, h1, h2, h3⟩ := h
  refine ⟨t, ?_⟩
  simp only [reprD, h3 40 hk]
  rw [if_pos ⟨by omega, by omega⟩]
/-! plain data -/
def Pd (m : Sto) (d : D) (k : Nat) : Prop := ∃ p : PyData, p.canLay0 = true ∧ p.depth ≤ k ∧ ∀ f, k < f → dataF m f d = some p
def PdL (m : Sto) (ds : List D) (k : Nat) : Prop := ∃ ps : List PyData, PyData.canLayAll0 ps = true ∧ PyData.depthAll ps ≤ k ∧ ∀ f, k < f → mapO (dataF m f) ds = some ps
theorem Pd.mono (h : Pd m d k) (hk : k ≤ j) : Pd m d j := let ⟨p, h1, h2, h3⟩ := h; ⟨p, h1, by omega, fun f hf => h3 f (by omega)⟩
theorem Pd.non : Pd m .non k := ⟨.none, rfl, by simp [PyData.depth], fun f hf => by obtain ⟨g, rfl, _⟩ := succ_of hf; rfl⟩
theorem Pd.bl {b : Bool} : Pd m (.bl b) k := ⟨.bool b, rfl, by simp [PyData.depth], fun f hf => by obtain ⟨g, rfl, _⟩ := succ_of hf; rfl⟩
theorem Pd.int {i : Int} : Pd m (.int i) k := ⟨.int i, rfl, by simp [PyData.depth], fun f hf => by obtain ⟨g, rfl, _⟩ := succ_of hf; rfl⟩
theorem Pd.str {s : Str} (h : okS s) : Pd m (.str s) k := ⟨.str s, by simp only [PyData.canLay0]; exact okS_strOk h, by simp [PyData.depth], fun f hf => by obtain ⟨g, rfl, _⟩ := succ_of hf; rfl⟩
theorem PdL.nil : PdL m [] k := ⟨[], rfl, by simp [PyData.depthAll], fun f hf => rfl⟩
theorem PdL.cons (h : Pd m d k) (t : PdL m ds k) : PdL m (d :: ds) k := by
  obtain ⟨p, h1, h2, h3⟩ := h
  obtain ⟨ps, h4, h5, h6⟩ := t
  refine ⟨p :: ps, by simp only [PyData.canLayAll0, h1, h4]; rfl, by simp only [PyData.depthAll]; omega, fun f hf => by simp only [mapO, h3 f hf, h6 f hf]⟩
theorem PdL.all : ∀ {ds : List D}, (∀ d ∈ ds, Pd m d k) → PdL m ds k
  | [], _ => .nil
  | d :: ds, h => .cons (h d List.mem_cons_self) (PdL.all fun x hx => h x (List.mem_cons_of_mem _ hx))
theorem Pd.tup (h : PdL m ds k) : Pd m (.tup ds) (k + 1) := by
  obtain ⟨ps, h1, h2, h3⟩ := h
  refine ⟨.tuple ps, by simp only [PyData.canLay0]; exact h1, by simp only [PyData.depth]; omega, fun f hf => ?_⟩
  obtain ⟨g, rfl, hg⟩ := succ_of hf
  simp only [dataF, h3 g (by omega)]; rfl
theorem Pd.lst (h : PdL m ds k) : Pd m (.lst ds) (k + 1) := by
  obtain ⟨ps, h1, h2, h3⟩ := h
  refine ⟨.list ps, by simp only [PyData.canLay0]; exact h1, by simp only [PyData.depth]; omega, fun f hf => ?_⟩
  obtain ⟨g, rfl, hg⟩ := succ_of hf
  simp only [dataF, h3 g (by omega)]; rfl
theorem Pd.fz (h : PdL m ds k) : Pd m (.fz ds) (k + 1) := by
  obtain ⟨ps, h1, h2, h3⟩ := h
  refine ⟨.list ps, by simp only [PyData.canLay0]; exact h1, by simp only [PyData.depth]; omega, fun f hf => ?_⟩
  obtain ⟨g, rfl, hg⟩ := succ_of hf
  simp only [dataF, h3 g (by omega)]; rfl
theorem Pd.loc {i : Nat} (e : m[i]? = some (.lst ds)) (h : PdL m ds k) : Pd m (.loc i) (k + 1) := by
  obtain ⟨ps, h1, h2, h3⟩ := h
  refine ⟨.list ps, by simp only [PyData.canLay0]; exact h1, by simp only [PyData.depth]; omega, fun f hf => ?_⟩
  obtain ⟨g, rfl, hg⟩ := succ_of hf
  simp only [dataF, e, h3 g (by omega)]; rfl
theorem lenNe_self (d : D) (m : Sto) : lenNe d d m = false := by
  unfold lenNe
  cases lstOf d m <;> simp
/-- .. == [] -/
theorem eq_nil {xs : List D} : eqD (.lst xs) (.lst []) m = some (.bl xs.isEmpty) := by
  cases xs with
  | nil => rfl
  | cons x xs => rfl
theorem ne_nil {xs : List D} : neD (.lst xs) (.lst []) m = some (.bl (!xs.isEmpty)) := by
  cases xs with
  | nil => rfl
  | cons x xs => rfl
/-- of two values by their data -/
theorem eqD_data {p q : PyData} (h1 : p.canLay0 = true) (h2 : p.depth ≤ 64) (h3 : q.canLay0 = true) (h4 : q.depth ≤ 64) (e1 : dataF m 70 x = some p) (e2 : dataF m 70 y = some q) {b : Bool} (hne : PyData.eqv p q = b) (hl : lenNe x y m = false) : eqD x y m = some (.bl b) := by
  have s1 : SeqAt.shaped p = true := by unfold SeqAt.shaped; rw [h1]; simp [h2]
  have s2 : SeqAt.shaped q = true := by unfold SeqAt.shaped; rw [h3]; simp [h4]
  unfold eqD eqB
  split
  · rename_i i j _
    cases e1; cases e2
    simp only [PyData.eqv] at hne
    rw [← hne, Option.map_some]; congr 2
  · cases e1; cases e2
    simp only [PyData.eqv] at hne
    rw [← hne, Option.map_some]; congr 2
  · cases e1; cases e2
    simp only [PyData.eqv] at hne
    rw [← hne, Option.map_some]; congr 2
  · cases e1; cases e2
    simp only [PyData.eqv] at hne
    rw [← hne]; rfl
  · simp only [hl, e1, e2, s1, s2, hne]
    rfl
theorem eq_self (h : Pd m d k) (hk : k ≤ 64) : eqD d d m = some (.bl true) := by
  obtain ⟨p, h1, h2, h3⟩ := h
  exact eqD_data h1 (by omega) h1 (by omega) (h3 70 (by omega)) (h3 70 (by omega)) (SeqAt.eqv_refl p h1) (lenNe_self d m)
end
end PM

/-! PMW5: lists in places; slices; joined texts. -/
namespace PM
open PySem PySem.Spec L2 PyProof.Rows
section
variable {m m' ex : Sto} {n : Nat} {xs : List D} {x d : D} {c c' : Cell} {k : Nat}
theorem appD_at (h : m[n]? = some (.lst xs)) (hl : xs.length < 100000) : appD (.loc n) [d] m = some (.non, m.set n (.lst (xs ++ [d]))) := by
  simp only [appD, h]
  rw [if_pos hl]
@[simp] theorem lstPl_at : lstPl (.loc n) m = true ↔ ∃ xs, m[n]? = some (.lst xs) := by
  unfold lstPl
  cases q : m[n]? with
  | none => simp [q]
  | some c => cases c <;> simp [q]
theorem atI_neg1 {α : Type} {xs : List α} {x : α} : L2.atI (xs ++ [x]) (-1) = some x := by
  have h : ixN (xs ++ [x]).length (-1) = some xs.length := by
    rw [List.length_append, List.length_singleton]
    unfold ixN
    rw [if_neg (by decide), if_pos (by omega)]
    congr 1
    omega
  unfold L2.atI
  rw [h]
  simp
theorem atI_neg1' {α : Type} {f : Nat → α} {k : Nat} : L2.atI ((List.range (k + 1)).map f) (-1) = some (f k) := by
  rw [List.range_succ, List.map_append]
  exact atI_neg1
theorem ixD_last (h : m[n]? = some (.lst ((List.range (k + 1)).map (fun i => d)))) : True := trivial
theorem slD_at (h : m[n]? = some (.lst xs)) {lo hi : Option Int} : slD (.loc n) lo hi m = some (.lst (cutL xs lo hi)) := by
  simp only [slD, lstOf, h]
  rfl
theorem cutL_take {α : Type} {xs : List α} {k : Nat} : cutL xs none (some (k : Int)) = xs.take k := by
  unfold cutL
  rw [HT.sIx_nat, HT.sIx_none]
  simp only [Nat.sub_zero, List.drop_zero]
  by_cases h : k ≤ xs.length
  · rw [Nat.min_eq_left h]
  · rw [Nat.min_eq_right (by omega), List.take_of_length_le (Nat.le_refl _), List.take_of_length_le (by omega)]
theorem cutL_drop {α : Type} {xs : List α} {k : Nat} : cutL xs (some (k : Int)) none = xs.drop k := by
  unfold cutL
  rw [HT.sIx_nat, HT.sIx_none]
  rw [List.take_of_length_le (by rw [List.length_drop]; omega)]
  by_cases h : k ≤ xs.length
  · rw [Nat.min_eq_left h]
  · rw [Nat.min_eq_right (by omega), List.drop_of_length_le (Nat.le_refl _), List.drop_of_length_le (by omega)]
@[simp] theorem get_new : (m ++ [c])[m.length]? = some c := List.getElem?_concat_length
@[simp] theorem set_new : (m ++ [c]).set m.length c' = m ++ [c'] := by
  rw [List.set_append_right _ _ (Nat.le_refl _)]
  simp
@[simp] theorem fin_loc_new : fin m (.loc m.length) (m ++ ex) = .ok (.loc m.length) (m ++ ex) := fin_loc (Nat.le_refl _)
theorem ixD_new {i : Int} : ixD (.loc m.length) (.int i) (m ++ [.lst xs]) = L2.atI xs i := ixD_loc get_new
@[simp] theorem appD_new (hl : xs.length < 100000) : appD (.loc m.length) [d] (m ++ [.lst xs]) = some (.non, m ++ [.lst (xs ++ [d])]) := by
  rw [appD_at get_new hl, set_new]
theorem slD_new {lo hi : Option Int} : slD (.loc m.length) lo hi (m ++ [.lst xs]) = some (.lst (cutL xs lo hi)) := slD_at get_new
/-! joined texts -/
def sgnS (cs : List Nat) : Str := ⟨cs.toArray⟩
@[simp] theorem sgnS_cps (cs : List Nat) : (sgnS cs).cps.toList = cs := by simp [sgnS]
@[simp] theorem sgnS_len (cs : List Nat) : (sgnS cs).length = cs.length := by simp [sgnS, Str.length]
theorem glued_ones : ∀ cs : List Nat, Txt.join "" (cs.map fun c => (⟨#[c]⟩ : Str)) = sgnS cs := by
  intro cs
  have h : signs (sgnS cs) = cs.map fun c => (⟨#[c]⟩ : Str) := by
    first
      | rfl
      | simp [signs, sgnS]
  have := join_nil_signs (sgnS cs)
  rw [h] at this
  unfold Txt.join
  rw [StrLaws.glued_eq_join]
  exact this
theorem joinOnes {cs : List Nat} (hl : cs.length ≤ 1000000) : joinD "" [.lst (cs.map fun c => .str ⟨#[c]⟩)] m = some (.str (sgnS cs)) := by
  have e : (cs.map fun c => D.str ⟨#[c]⟩) = (cs.map fun c => (⟨#[c]⟩ : Str)).map .str := by rw [List.map_map]; rfl
  simp only [joinD, seqOf, e, strsOf_map]
  have hsum : ((cs.map fun c => (⟨#[c]⟩ : Str)).map (·.length)).sum = cs.length := by
    clear hl e
    induction cs with
    | nil => rfl
    | cons c cs ih =>
      simp only [List.map_cons, List.sum_cons, List.length_cons, ih]
      show 1 + cs.length = _
      omega
  have h0 : ("" : Str).length = 0 := rfl
  rw [hsum, h0, if_pos (by omega), glued_ones]
theorem str_ext {a b : Str} (h : a.cps.toList = b.cps.toList) : a = b := by
  obtain ⟨x⟩ := a
  obtain ⟨y⟩ := b
  have : x = y := Array.toList_inj.mp h
  rw [this]
end
end PM

/-! PMW6: comprehensions over a place; for over a place. -/
namespace PM
open PySem PySem.Spec L2 PyProof.Rows
@[simp] theorem run_lcW {vs : List Nat} {it : FI} {g : FT} {t f : FE} {env : Nv} {m : Sto} {P : Res → Prop} : Run (eLcW vs it g t f env m) P ↔ Run (it env m) (resiC (fun ds w m1 => Run (bndl (lcW g t f w (wipeN env vs) ds m1 []) fun acc m1 => if acc.length ≤ 100000 then some (.ok (.lst acc) m1) else none) P) fun c d m => P (.exn c d m)) := by
  unfold eLcW
  cases it env m with
  | none => simp [bndirW]
  | some r =>
    cases r with
    | exn c d m => simp [bndirW, resiC]
    | ok ds w m1 => simp [bndirW, resiC]
/-- a pure comprehension over a place with a pure test -/
theorem lcW_map {α : Type} {en : α → D} {g : FT} {t f : FE} {w : Option (Nat × List D)} {env : Nv} {m : Sto} {k : α → Bool} {h : α → D} (hw : wOk w m) : ∀ {xs : List α} {acc : List D}, (∀ x, x ∈ xs → ∃ env', g (en x) env m = some env' ∧ t env' m = some (.ok (.bl (k x)) m) ∧ (k x = true → f env' m = some (.ok (h x) m))) → lcW g t f w env (xs.map en) m acc = some (.ok (acc ++ (xs.filter k).map h) m)
  | [], acc, _ => by simp [lcW, hw]
  | x :: xs, acc, hd => by
    obtain ⟨e', h1, h2, h3⟩ := hd x List.mem_cons_self
    rw [List.map_cons]
    unfold lcW
    rw [if_pos hw, h1]
    simp only [h2, bndb_ok, truth_bl]
    cases q : k x with
    | true =>
      simp only [h3 q, bndb_ok]
      rw [lcW_map (k := k) (h := h) hw fun y hy => hd y (List.mem_cons_of_mem _ hy)]
      simp [q, List.append_assoc]
    | false =>
      simp only []
      rw [lcW_map (k := k) (h := h) hw fun y hy => hd y (List.mem_cons_of_mem _ hy)]
      simp [q]
theorem lcW_all {α : Type} {en : α → D} {g : FT} {t f : FE} {w : Option (Nat × List D)} {env : Nv} {m : Sto} {h : α → D} (hw : wOk w m) {xs : List α} {acc : List D} (hd : ∀ x, x ∈ xs → ∃ env', g (en x) env m = some env' ∧ t env' m = some (.ok (.bl true) m) ∧ f env' m = some (.ok (h x) m)) : lcW g t f w env (xs.map en) m acc = some (.ok (acc ++ xs.map h) m) := by
  have := lcW_map (k := fun _ => true) (h := h) (acc := acc) hw fun x hx => let ⟨e, a, b, c⟩ := hd x hx; ⟨e, a, b, fun _ => c⟩
  rwa [List.filter_eq_self.mpr fun _ _ => rfl] at this
theorem lc_all {α : Type} {en : α → D} {g : FT} {t f : FE} {env : Nv} {m : Sto} {h : α → D} {xs : List α} {acc : List D} (hd : ∀ x, x ∈ xs → ∃ env', g (en x) env m = some env' ∧ t env' m = some (.ok (.bl true) m) ∧ f env' m = some (.ok (h x) m)) : lcD g t f env (xs.map en) m acc = some (.ok (acc ++ xs.map h) m) := by
  have := lc_map (k := fun _ => true) (h := h) (acc := acc) fun x hx => let ⟨e, a, b, c⟩ := hd x hx; ⟨e, a, b, fun _ => c⟩
  rwa [List.filter_eq_self.mpr fun _ _ => rfl] at this
theorem lcW_none {α : Type} {en : α → D} {g : FT} {t f : FE} {w : Option (Nat × List D)} {env : Nv} {m : Sto} (hw : wOk w m) {xs : List α} {acc : List D} (hd : ∀ x, x ∈ xs → ∃ env', g (en x) env m = some env' ∧ t env' m = some (.ok (.bl false) m)) : lcW g t f w env (xs.map en) m acc = some (.ok acc m) := by
  have := lcW_map (k := fun _ => false) (h := en) (acc := acc) (f := f) hw fun x hx => let ⟨e, a, b⟩ := hd x hx; ⟨e, a, b, fun z => by cases z⟩
  rw [List.filter_eq_nil_iff.mpr fun _ _ z => by cases z] at this
  simpa using this
theorem itemsD_at {m : Sto} {n : Nat} {xs : List D} (h : m[n]? = some (.lst xs)) : itemsD (.loc n) m = some (.ok xs (some (n, xs)) m) := by
  simp only [itemsD, h]
theorem run_enu {fs : List FE} {env : Nv} {m m1 : Sto} {P : ResI → Prop} {xs : List D} (e : evL fs env m = some (.ok [.lst xs] m1)) : Run (iEnu fs env m) P ↔ P (.ok (prsD 0 xs) none m1) := by
  unfold iEnu
  rw [e]
  simp
theorem run_enuW {fs : List FE} {env : Nv} {m m1 : Sto} {P : ResI → Prop} {n : Nat} {xs : List D} (e : evL fs env m = some (.ok [.loc n] m1)) (h : m1[n]? = some (.lst xs)) : Run (iEnu fs env m) P ↔ P (.ok (prsD 0 xs) (some (n, xs)) m1) := by
  unfold iEnu
  rw [e]
  simp [h]
theorem prsD_map {α : Type} {f : α → D} : ∀ {k : Nat} {xs : List α}, prsD k (xs.map f) = (xs.zipIdx k).map fun p => .tup [.int (p.2 : Nat), f p.1]
  | _, [] => rfl
  | k, x :: xs => by
    rw [List.map_cons, prsD, List.zipIdx_cons, List.map_cons, prsD_map]
/-- for over a place, by an invariant -/
theorem for_invo {gt : FT} {g : FS} {env : Nv} {m : Sto} {PO : Out → Prop} {ds : List D} {w : Option (Nat × List D)} (Inv : Nat → Nv → Sto → Prop) (h0 : Inv 0 env m) (hw : ∀ i e m, Inv i e m → wOk w m) (step : ∀ i d e m, ds[i]? = some d → Inv i e m → ∃ e', gt d e m = some e' ∧ Run (g e' m) (loopC (Inv (i + 1)) PO)) (done : ∀ e m, Inv ds.length e m → PO (.nx e m)) :
    Run (forD gt g w ds env m) PO := by
  have key : ∀ (k i : Nat) (e : Nv) (m : Sto), ds.length - i = k → i ≤ ds.length → Inv i e m → Run (forD gt g w (ds.drop i) e m) PO := by
    intro k
    induction k with
    | zero =>
      intro i e m hk hi hI
      have : i = ds.length := by omega
      subst this
      rw [List.drop_length]
      exact ⟨.nx e m, by simp only [forD]; rw [if_pos (hw _ _ _ hI)], done _ _ hI⟩
    | succ k ih =>
      intro i e m hk hi hI
      have hlt : i < ds.length := by omega
      rw [List.drop_eq_getElem_cons hlt]
      obtain ⟨e', h1, h2⟩ := step i ds[i] e m (by simp [hlt]) hI
      have ef : forD gt g w (ds[i] :: ds.drop (i + 1)) e m = contO (g e' m) (forD gt g w (ds.drop (i + 1))) := by
        simp only [forD]
        rw [if_pos (hw _ _ _ hI), h1]
      rw [ef]
      obtain ⟨o, e2, h2⟩ := h2
      rw [e2]
      cases o with
      | nx e3 m3 => exact ih (i + 1) e3 m3 (by omega) hlt h2
      | ct e3 m3 => exact ih (i + 1) e3 m3 (by omega) hlt h2
      | bk e3 m3 => exact ⟨_, rfl, h2⟩
      | rt d m3 => exact ⟨_, rfl, h2⟩
      | exn e3 c d m3 => exact ⟨_, rfl, h2⟩
  have := key ds.length 0 env m (by omega) (by omega) h0
  simpa using this
theorem get_appI {m ex : Sto} {j : Nat} : (m ++ ex)[m.length + j]? = ex[j]? := by rw [List.getElem?_append_right (by omega)]; simp
theorem set_appI {m ex : Sto} {j : Nat} {c : Cell} : (m ++ ex).set (m.length + j) c = m ++ ex.set j c := by rw [List.set_append_right _ _ (by omega)]; simp
end PM

/-! PMQ8: the calculus of enumerate over what may be a tuple. -/
namespace PM
open PySem PySem.Spec L2 PyProof.Rows
theorem run_enuQ {fs : List FE} {env : Nv} {m m1 : Sto} {P : ResI → Prop} {d : D} {xs : List D} (e : evL fs env m = some (.ok [d] m1)) (h : d = .lst xs ∨ d = .tup xs) : Run (iEnuQ fs env m) P ↔ P (.ok (prsD 0 xs) none m1) := by
  unfold iEnuQ
  rw [e]
  rcases h with rfl | rfl <;> simp
theorem run_enuQW {fs : List FE} {env : Nv} {m m1 : Sto} {P : ResI → Prop} {n : Nat} {xs : List D} (e : evL fs env m = some (.ok [.loc n] m1)) (h : m1[n]? = some (.lst xs)) : Run (iEnuQ fs env m) P ↔ P (.ok (prsD 0 xs) (some (n, xs)) m1) := by
  unfold iEnuQ
  rw [e]
  simp [h]
theorem iEnuQ_loc {fs : List FE} {env : Nv} {m m1 : Sto} {n : Nat} {xs : List D} (e : evL fs env m = some (.ok [.loc n] m1)) (h : m1[n]? = some (.lst xs)) : iEnuQ fs env m = some (.ok (prsD 0 xs) (some (n, xs)) m1) := by
  unfold iEnuQ
  rw [e]
  simp [h]
theorem iEnuQ_of {fs : List FE} {env : Nv} {m m1 : Sto} {d : D} {xs : List D} (e : evL fs env m = some (.ok [d] m1)) (h : d = .lst xs ∨ d = .tup xs) : iEnuQ fs env m = some (.ok (prsD 0 xs) none m1) := by
  unfold iEnuQ
  rw [e]
  rcases h with rfl | rfl <;> simp
end PM

namespace LW
open PySem PySem.Spec L2 PyProof.Rows PM

abbrev top (i : Nat) : Stmt := PySem.Challenge.pw_hailwords_k17_rounds_judged.main.body.getD i (.Pass ⟨0, 0, 0, 0⟩)
def fnm : Nat → List Str
  | 0 => ["above", "below"]
  | 1 => ["times", "plus"]
  | _ => []
abbrev s_common : Stmt := top 14
abbrev s_is_number : Stmt := top 12
abbrev s_need_number : Stmt := top 13
abbrev s_Frac___init__ : Stmt := inClass (top 15) 0
abbrev s_Frac___str__ : Stmt := inClass (top 15) 2
abbrev s_Frac___repr__ : Stmt := inClass (top 15) 3
abbrev s_is_whole : Stmt := top 9
abbrev s_Rule___init__ : Stmt := inClass (top 18) 0
abbrev s__law_box : Stmt := top 33
abbrev s__law_cell : Stmt := top 32
abbrev s_Frac_told : Stmt := inClass (top 15) 6
abbrev s_Rule_told : Stmt := inClass (top 18) 4
abbrev s__law_low : Stmt := top 39
abbrev s__law_lead : Stmt := top 40
abbrev s__law_due : Stmt := top 42
abbrev s__law_just : Stmt := top 36
abbrev s__law_take : Stmt := top 34
abbrev s__law_odd : Stmt := top 35
abbrev s_Frac_top : Stmt := inClass (top 15) 4
abbrev s__law_pair : Stmt := top 41
abbrev s__law_other : Stmt := top 43
abbrev s_Frac___eq__ : Stmt := inClass (top 15) 1
abbrev s_Rule___eq__ : Stmt := inClass (top 18) 1
abbrev s_need_rule : Stmt := top 19
abbrev s_Frac_is_odd : Stmt := inClass (top 15) 7
abbrev s_Frac_half : Stmt := inClass (top 15) 9
abbrev s_Frac_led : Stmt := inClass (top 15) 8
abbrev s_Rule_addend : Stmt := inClass (top 18) 3
abbrev s_Rule_factor : Stmt := inClass (top 18) 2
abbrev s_next_of : Stmt := top 20
abbrev s_is_round : Stmt := top 30
abbrev s__law_refused : Stmt := top 44
abbrev s__law_rule : Stmt := top 37
abbrev s__law_word : Stmt := top 38
abbrev s_led_by : Stmt := top 24
abbrev s_is_word : Stmt := top 10
abbrev s_need_word : Stmt := top 23
abbrev s_need_letters : Stmt := top 27
abbrev s_ring_of : Stmt := top 28
abbrev s_walked : Stmt := top 21
abbrev s_round_of : Stmt := top 29
abbrev s_law : Stmt := top 45
abbrev s_NoNumber : Stmt := inClass (top 2) 0
abbrev s_NoBottom : Stmt := inClass (top 3) 0
abbrev s_NoHalf : Stmt := inClass (top 4) 0
abbrev s_NoRule : Stmt := inClass (top 5) 0
abbrev s_NoWord : Stmt := inClass (top 6) 0
theorem boot_abs : bootBuiltins "abs" = some (.builtin "abs") := by decide +kernel
theorem boot_all : bootBuiltins "all" = some (.builtin "all") := by decide +kernel
theorem boot_bool : bootBuiltins "bool" = some (.type "bool") := by decide +kernel
theorem boot_int : bootBuiltins "int" = some (.type "int") := by decide +kernel
theorem boot_isinstance : bootBuiltins "isinstance" = some (.builtin "isinstance") := by decide +kernel
theorem boot_len : bootBuiltins "len" = some (.builtin "len") := by decide +kernel
theorem boot_list : bootBuiltins "list" = some (.type "list") := by decide +kernel
theorem boot_max : bootBuiltins "max" = some (.builtin "max") := by decide +kernel
theorem boot_min : bootBuiltins "min" = some (.builtin "min") := by decide +kernel
theorem boot_repr : bootBuiltins "repr" = some (.builtin "repr") := by decide +kernel
theorem boot_str : bootBuiltins "str" = some (.type "str") := by decide +kernel
theorem boot_tuple : bootBuiltins "tuple" = some (.type "tuple") := by decide +kernel
def tab : Ty → Ty → Option Bool := tabOf [((.bi .non, .own (0 : Nat)), false), ((.bi .bool, .own (0 : Nat)), false), ((.bi .int, .own (0 : Nat)), false), ((.bi .str, .own (0 : Nat)), false), ((.bi .lst, .own (0 : Nat)), false), ((.bi .tup, .own (0 : Nat)), false), ((.bi .dct, .own (0 : Nat)), false), ((.own (0 : Nat), .own (0 : Nat)), true), ((.own (1 : Nat), .own (0 : Nat)), false), ((.exc (4 : Nat), .own (0 : Nat)), false), ((.bi .non, .own (1 : Nat)), false), ((.bi .bool, .own (1 : Nat)), false), ((.bi .int, .own (1 : Nat)), false), ((.bi .str, .own (1 : Nat)), false), ((.bi .lst, .own (1 : Nat)), false), ((.bi .tup, .own (1 : Nat)), false), ((.bi .dct, .own (1 : Nat)), false), ((.own (0 : Nat), .own (1 : Nat)), false), ((.own (1 : Nat), .own (1 : Nat)), true), ((.exc (4 : Nat), .own (1 : Nat)), false), ((.own (0 : Nat), .bi .bool), false), ((.own (1 : Nat), .bi .bool), false), ((.exc (4 : Nat), .bi .bool), false), ((.own (0 : Nat), .bi .int), false), ((.own (1 : Nat), .bi .int), false), ((.exc (4 : Nat), .bi .int), false), ((.own (0 : Nat), .bi .lst), false), ((.own (1 : Nat), .bi .lst), false), ((.exc (4 : Nat), .bi .lst), false), ((.own (0 : Nat), .bi .str), false), ((.own (1 : Nat), .bi .str), false), ((.exc (4 : Nat), .bi .str), false), ((.own (0 : Nat), .bi .tup), false), ((.own (1 : Nat), .bi .tup), false), ((.exc (4 : Nat), .bi .tup), false)]
def exT : Nat → Nat → Option Bool := exOf [(((2 : Nat), (5 : Nat)), false), (((2 : Nat), (7 : Nat)), true), (((3 : Nat), (5 : Nat)), false), (((3 : Nat), (7 : Nat)), true), (((4 : Nat), (5 : Nat)), false), (((4 : Nat), (7 : Nat)), true), (((5 : Nat), (5 : Nat)), true), (((5 : Nat), (7 : Nat)), true), (((6 : Nat), (5 : Nat)), false), (((6 : Nat), (7 : Nat)), true)]
@[simp] theorem tab_NoneType_Frac : tab (.bi .non) (.own (0 : Nat)) = some false := rfl
@[simp] theorem tab_bool_Frac : tab (.bi .bool) (.own (0 : Nat)) = some false := rfl
@[simp] theorem tab_int_Frac : tab (.bi .int) (.own (0 : Nat)) = some false := rfl
@[simp] theorem tab_str_Frac : tab (.bi .str) (.own (0 : Nat)) = some false := rfl
@[simp] theorem tab_list_Frac : tab (.bi .lst) (.own (0 : Nat)) = some false := rfl
@[simp] theorem tab_tuple_Frac : tab (.bi .tup) (.own (0 : Nat)) = some false := rfl
@[simp] theorem tab_dict_Frac : tab (.bi .dct) (.own (0 : Nat)) = some false := rfl
@[simp] theorem tab_Frac_Frac : tab (.own (0 : Nat)) (.own (0 : Nat)) = some true := rfl
@[simp] theorem tab_Rule_Frac : tab (.own (1 : Nat)) (.own (0 : Nat)) = some false := rfl
@[simp] theorem tab_NoHalf_Frac : tab (.exc (4 : Nat)) (.own (0 : Nat)) = some false := rfl
@[simp] theorem tab_NoneType_Rule : tab (.bi .non) (.own (1 : Nat)) = some false := rfl
@[simp] theorem tab_bool_Rule : tab (.bi .bool) (.own (1 : Nat)) = some false := rfl
@[simp] theorem tab_int_Rule : tab (.bi .int) (.own (1 : Nat)) = some false := rfl
@[simp] theorem tab_str_Rule : tab (.bi .str) (.own (1 : Nat)) = some false := rfl
@[simp] theorem tab_list_Rule : tab (.bi .lst) (.own (1 : Nat)) = some false := rfl
@[simp] theorem tab_tuple_Rule : tab (.bi .tup) (.own (1 : Nat)) = some false := rfl
@[simp] theorem tab_dict_Rule : tab (.bi .dct) (.own (1 : Nat)) = some false := rfl
@[simp] theorem tab_Frac_Rule : tab (.own (0 : Nat)) (.own (1 : Nat)) = some false := rfl
@[simp] theorem tab_Rule_Rule : tab (.own (1 : Nat)) (.own (1 : Nat)) = some true := rfl
@[simp] theorem tab_NoHalf_Rule : tab (.exc (4 : Nat)) (.own (1 : Nat)) = some false := rfl
@[simp] theorem tab_Frac_bool : tab (.own (0 : Nat)) (.bi .bool) = some false := rfl
@[simp] theorem tab_Rule_bool : tab (.own (1 : Nat)) (.bi .bool) = some false := rfl
@[simp] theorem tab_NoHalf_bool : tab (.exc (4 : Nat)) (.bi .bool) = some false := rfl
@[simp] theorem tab_Frac_int : tab (.own (0 : Nat)) (.bi .int) = some false := rfl
@[simp] theorem tab_Rule_int : tab (.own (1 : Nat)) (.bi .int) = some false := rfl
@[simp] theorem tab_NoHalf_int : tab (.exc (4 : Nat)) (.bi .int) = some false := rfl
@[simp] theorem tab_Frac_list : tab (.own (0 : Nat)) (.bi .lst) = some false := rfl
@[simp] theorem tab_Rule_list : tab (.own (1 : Nat)) (.bi .lst) = some false := rfl
@[simp] theorem tab_NoHalf_list : tab (.exc (4 : Nat)) (.bi .lst) = some false := rfl
@[simp] theorem tab_Frac_str : tab (.own (0 : Nat)) (.bi .str) = some false := rfl
@[simp] theorem tab_Rule_str : tab (.own (1 : Nat)) (.bi .str) = some false := rfl
@[simp] theorem tab_NoHalf_str : tab (.exc (4 : Nat)) (.bi .str) = some false := rfl
@[simp] theorem tab_Frac_tuple : tab (.own (0 : Nat)) (.bi .tup) = some false := rfl
@[simp] theorem tab_Rule_tuple : tab (.own (1 : Nat)) (.bi .tup) = some false := rfl
@[simp] theorem tab_NoHalf_tuple : tab (.exc (4 : Nat)) (.bi .tup) = some false := rfl
@[simp] theorem exT_NoNumber_NoRule : exT (2 : Nat) (5 : Nat) = some false := rfl
@[simp] theorem exT_NoNumber_HailError : exT (2 : Nat) (7 : Nat) = some true := rfl
@[simp] theorem exT_NoBottom_NoRule : exT (3 : Nat) (5 : Nat) = some false := rfl
@[simp] theorem exT_NoBottom_HailError : exT (3 : Nat) (7 : Nat) = some true := rfl
@[simp] theorem exT_NoHalf_NoRule : exT (4 : Nat) (5 : Nat) = some false := rfl
@[simp] theorem exT_NoHalf_HailError : exT (4 : Nat) (7 : Nat) = some true := rfl
@[simp] theorem exT_NoRule_NoRule : exT (5 : Nat) (5 : Nat) = some true := rfl
@[simp] theorem exT_NoRule_HailError : exT (5 : Nat) (7 : Nat) = some true := rfl
@[simp] theorem exT_NoWord_NoRule : exT (6 : Nat) (5 : Nat) = some false := rfl
@[simp] theorem exT_NoWord_HailError : exT (6 : Nat) (7 : Nat) = some true := rfl
def xtx : Nat → Option (Str × Str) := xtOf [((4 : Nat), ("NoHalf", "the fraction is odd"))]
def exq : Nat → Bool := fun c => c == (4 : Nat)
structure Txt (W : Wk) : Prop where
  b_abs : W.mg "abs" = none
  b_all : W.mg "all" = none
  b_bool : W.mg "bool" = none
  b_enumerate : W.mg "enumerate" = none
  b_int : W.mg "int" = none
  b_isinstance : W.mg "isinstance" = none
  b_len : W.mg "len" = none
  b_list : W.mg "list" = none
  b_max : W.mg "max" = none
  b_min : W.mg "min" = none
  b_range : W.mg "range" = none
  b_repr : W.mg "repr" = none
  b_str : W.mg "str" = none
  b_tuple : W.mg "tuple" = none
  c_MOST : ∃ t, W.mg "MOST" = some (.int 99 t)
  c_MOST_LETTERS : ∃ t, W.mg "MOST_LETTERS" = some (.int 60 t)
  c_MOST_ROUND : ∃ t, W.mg "MOST_ROUND" = some (.int 60 t)
  d_common : ∃ f fd, Dfn W "common" s_common f fd
  d_is_number : ∃ f fd, Dfn W "is_number" s_is_number f fd
  d_need_number : ∃ f fd, Dfn W "need_number" s_need_number f fd
  d_Frac___init__ : ∃ f fd, MDfnD W (0 : Nat) "__init__" "Frac.__init__" s_Frac___init__ [(.int 1, .int 1)] f fd
  d_Frac___str__ : ∃ f fd, MDfn W (0 : Nat) "__str__" "Frac.__str__" s_Frac___str__ f fd
  d_Frac___repr__ : ∃ f fd, MDfn W (0 : Nat) "__repr__" "Frac.__repr__" s_Frac___repr__ f fd
  d_is_whole : ∃ f fd, Dfn W "is_whole" s_is_whole f fd
  d_Rule___init__ : ∃ f fd, MDfnD W (1 : Nat) "__init__" "Rule.__init__" s_Rule___init__ [(.int 3, .int 3), (.int 1, .int 1)] f fd
  d__law_box : ∃ f fd, Dfn W "_law_box" s__law_box f fd
  d__law_cell : ∃ f fd, Dfn W "_law_cell" s__law_cell f fd
  d_Frac_told : ∃ f fd, MDfn W (0 : Nat) "told" "Frac.told" s_Frac_told f fd
  d_Rule_told : ∃ f fd, MDfn W (1 : Nat) "told" "Rule.told" s_Rule_told f fd
  d__law_low : ∃ f fd, Dfn W "_law_low" s__law_low f fd
  d__law_lead : ∃ f fd, Dfn W "_law_lead" s__law_lead f fd
  d__law_due : ∃ f fd, Dfn W "_law_due" s__law_due f fd
  d__law_just : ∃ f fd, Dfn W "_law_just" s__law_just f fd
  d__law_take : ∃ f fd, Dfn W "_law_take" s__law_take f fd
  d__law_odd : ∃ f fd, Dfn W "_law_odd" s__law_odd f fd
  d_Frac_top : ∃ f fd, MDfn W (0 : Nat) "top" "Frac.top" s_Frac_top f fd
  d__law_pair : ∃ f fd, Dfn W "_law_pair" s__law_pair f fd
  d__law_other : ∃ f fd, Dfn W "_law_other" s__law_other f fd
  d_Frac___eq__ : ∃ f fd, MDfn W (0 : Nat) "__eq__" "Frac.__eq__" s_Frac___eq__ f fd
  d_Rule___eq__ : ∃ f fd, MDfn W (1 : Nat) "__eq__" "Rule.__eq__" s_Rule___eq__ f fd
  d_need_rule : ∃ f fd, Dfn W "need_rule" s_need_rule f fd
  d_Frac_is_odd : ∃ f fd, MDfn W (0 : Nat) "is_odd" "Frac.is_odd" s_Frac_is_odd f fd
  d_Frac_half : ∃ f fd, MDfn W (0 : Nat) "half" "Frac.half" s_Frac_half f fd
  d_Frac_led : ∃ f fd, MDfn W (0 : Nat) "led" "Frac.led" s_Frac_led f fd
  d_Rule_addend : ∃ f fd, MDfn W (1 : Nat) "addend" "Rule.addend" s_Rule_addend f fd
  d_Rule_factor : ∃ f fd, MDfn W (1 : Nat) "factor" "Rule.factor" s_Rule_factor f fd
  d_next_of : ∃ f fd, Dfn W "next_of" s_next_of f fd
  d_is_round : ∃ f fd, Dfn W "is_round" s_is_round f fd
  d__law_refused : ∃ f fd, Dfn W "_law_refused" s__law_refused f fd
  d__law_rule : ∃ f fd, Dfn W "_law_rule" s__law_rule f fd
  d__law_word : ∃ f fd, Dfn W "_law_word" s__law_word f fd
  d_led_by : ∃ f fd, Dfn W "led_by" s_led_by f fd
  d_is_word : ∃ f fd, Dfn W "is_word" s_is_word f fd
  d_need_word : ∃ f fd, Dfn W "need_word" s_need_word f fd
  d_need_letters : ∃ f fd, Dfn W "need_letters" s_need_letters f fd
  d_ring_of : ∃ f fd, Dfn W "ring_of" s_ring_of f fd
  d_walked : ∃ f fd, Dfn W "walked" s_walked f fd
  d_round_of : ∃ f fd, Dfn W "round_of" s_round_of f fd
  d_law : ∃ f fd, Dfn W "law" s_law f fd
  o_Frac : OwnR W (0 : Nat) "Frac"
  o_Rule : OwnR W (1 : Nat) "Rule"
  ob : ObF W (2 : Nat) fnm
  e_NoNumber : ExcR W (2 : Nat) "NoNumber" "HailError" "NoNumber.__init__" s_NoNumber
  m_NoNumber : W.msg (2 : Nat) = "not a valid number"
  e_NoBottom : ExcR W (3 : Nat) "NoBottom" "HailError" "NoBottom.__init__" s_NoBottom
  m_NoBottom : W.msg (3 : Nat) = "the denominator is not an odd integer"
  e_NoHalf : ExcR W (4 : Nat) "NoHalf" "HailError" "NoHalf.__init__" s_NoHalf
  m_NoHalf : W.msg (4 : Nat) = "the fraction is odd"
  e_NoRule : ExcR W (5 : Nat) "NoRule" "HailError" "NoRule.__init__" s_NoRule
  m_NoRule : W.msg (5 : Nat) = "not a rule"
  e_NoWord : ExcR W (6 : Nat) "NoWord" "HailError" "NoWord.__init__" s_NoWord
  m_NoWord : W.msg (6 : Nat) = "not a word"
  a_HailError : W.mg "HailError" = some (.ref (W.C (7 : Nat)))
  ex : ExTab W exT
  xt : XtTab W xtx
  isi : IsiTab W tab
  eqc : ∀ c, c < (2 : Nat) → EqC W (2 : Nat) exq c
theorem se_NoNumber : FnScope initN initN (defScope s_NoNumber) := ⟨rfl, rfl, rfl, by decide +kernel, rfl, by decide +kernel, by decide +kernel⟩
theorem ex_NoNumber {W : Wd} (T : Txt W.toWk) : ∃ fI fd, ExcI W (2 : Nat) fI fd :=
  T.e_NoNumber.mk_ se_NoNumber (by rw [T.m_NoNumber]; decide) (by rw [T.m_NoNumber]; rfl) rfl rfl rfl (by decide) (by rw [T.m_NoNumber]; intro _; rfl) (by rw [T.m_NoNumber]; intro _; rfl) (by intro _; rfl) (fun _ _ _ _ _ _ us hl => match us, hl with | [_, _], _ => rfl) (fun _ _ _ _ _ _ _ _ => rfl)
theorem se_NoBottom : FnScope initN initN (defScope s_NoBottom) := ⟨rfl, rfl, rfl, by decide +kernel, rfl, by decide +kernel, by decide +kernel⟩
theorem ex_NoBottom {W : Wd} (T : Txt W.toWk) : ∃ fI fd, ExcI W (3 : Nat) fI fd :=
  T.e_NoBottom.mk_ se_NoBottom (by rw [T.m_NoBottom]; decide) (by rw [T.m_NoBottom]; rfl) rfl rfl rfl (by decide) (by rw [T.m_NoBottom]; intro _; rfl) (by rw [T.m_NoBottom]; intro _; rfl) (by intro _; rfl) (fun _ _ _ _ _ _ us hl => match us, hl with | [_, _], _ => rfl) (fun _ _ _ _ _ _ _ _ => rfl)
theorem se_NoHalf : FnScope initN initN (defScope s_NoHalf) := ⟨rfl, rfl, rfl, by decide +kernel, rfl, by decide +kernel, by decide +kernel⟩
theorem ex_NoHalf {W : Wd} (T : Txt W.toWk) : ∃ fI fd, ExcI W (4 : Nat) fI fd :=
  T.e_NoHalf.mk_ se_NoHalf (by rw [T.m_NoHalf]; decide) (by rw [T.m_NoHalf]; rfl) rfl rfl rfl (by decide) (by rw [T.m_NoHalf]; intro _; rfl) (by rw [T.m_NoHalf]; intro _; rfl) (by intro _; rfl) (fun _ _ _ _ _ _ us hl => match us, hl with | [_, _], _ => rfl) (fun _ _ _ _ _ _ _ _ => rfl)
theorem se_NoRule : FnScope initN initN (defScope s_NoRule) := ⟨rfl, rfl, rfl, by decide +kernel, rfl, by decide +kernel, by decide +kernel⟩
theorem ex_NoRule {W : Wd} (T : Txt W.toWk) : ∃ fI fd, ExcI W (5 : Nat) fI fd :=
  T.e_NoRule.mk_ se_NoRule (by rw [T.m_NoRule]; decide) (by rw [T.m_NoRule]; rfl) rfl rfl rfl (by decide) (by rw [T.m_NoRule]; intro _; rfl) (by rw [T.m_NoRule]; intro _; rfl) (by intro _; rfl) (fun _ _ _ _ _ _ us hl => match us, hl with | [_, _], _ => rfl) (fun _ _ _ _ _ _ _ _ => rfl)
theorem se_NoWord : FnScope initN initN (defScope s_NoWord) := ⟨rfl, rfl, rfl, by decide +kernel, rfl, by decide +kernel, by decide +kernel⟩
theorem ex_NoWord {W : Wd} (T : Txt W.toWk) : ∃ fI fd, ExcI W (6 : Nat) fI fd :=
  T.e_NoWord.mk_ se_NoWord (by rw [T.m_NoWord]; decide) (by rw [T.m_NoWord]; rfl) rfl rfl rfl (by decide) (by rw [T.m_NoWord]; intro _; rfl) (by rw [T.m_NoWord]; intro _; rfl) (by intro _; rfl) (fun _ _ _ _ _ _ us hl => match us, hl with | [_, _], _ => rfl) (fun _ _ _ _ _ _ _ _ => rfl)
noncomputable def g_common : FS := (sSeq (sWhile (e2 gtD (eVar 1) (eC (.int 0))) (sPar [0, 1] [(eVar 1), (e2 modD (eVar 0) (eVar 1))])) (sRet (eVar 0)))
noncomputable def F_common : FD := mkFn 2 2 g_common
theorem sc_common : FnScope ["one", "other"] ["one", "other"] (defScope s_common) := ⟨rfl, rfl, rfl, by decide +kernel, rfl, by decide +kernel, by decide +kernel⟩
theorem kn_common {W : Wd} (T : Txt W.toWk) (hca : W.ca = none) (hgs : W.gs = []) : ∃ f fd, Dfn W.toWk "common" s_common f fd ∧ Kn W "common" 1 f fd ["one", "other"] F_common := by
  obtain ⟨f, fd, D⟩ := T.d_common
  exact ⟨f, fd, D, D.kn (N := ["one", "other"]) (ps := ["one", "other"]) (k := 0) (g := g_common) sc_common (dss_cons (ds_while (dt_cmp op2_gt cmpI_bl (de_var (i := 1)) de_int (by rfl)) (dss_one (ds_par (i := 0) (j := 1) rfl (da_cons (de_var (i := 1)) (da_cons (de_bin op2_mod (de_var (i := 0)) (de_var (i := 1))) da_nil))))) (dss_one (ds_ret (de_var (i := 0))))) hca⟩
noncomputable def g_is_number : FS := (sRet (eAnd (eN (isiD tab) [(eVar 0), (eC (.cls (.bi .int)))]) (eNotV (eN (isiD tab) [(eVar 0), (eC (.cls (.bi .bool)))]))))
noncomputable def F_is_number : FD := mkFn 1 1 g_is_number
theorem sc_is_number : FnScope ["thing"] ["thing"] (defScope s_is_number) := ⟨rfl, rfl, rfl, by decide +kernel, rfl, by decide +kernel, by decide +kernel⟩
theorem kn_is_number {W : Wd} (T : Txt W.toWk) (hca : W.ca = none) (hgs : W.gs = []) : ∃ f fd, Dfn W.toWk "is_number" s_is_number f fd ∧ Kn W "is_number" 1 f fd ["thing"] F_is_number := by
  obtain ⟨f, fd, D⟩ := T.d_is_number
  exact ⟨f, fd, D, D.kn (N := ["thing"]) (ps := ["thing"]) (k := 0) (g := g_is_number) sc_is_number (dss_one (ds_ret (de_and (de_callB (opn_isi T.isi) T.b_isinstance boot_isinstance (da_cons (de_var (i := 0)) (da_cons (de_ty (T := .int) T.b_int boot_int) da_nil))) (de_one (de_not (de_callB (opn_isi T.isi) T.b_isinstance boot_isinstance (da_cons (de_var (i := 0)) (da_cons (de_ty (T := .bool) T.b_bool boot_bool) da_nil)))))))) hca⟩
noncomputable def g_need_number : FS := (sIf (eNot (eCall F_is_number [(eVar 0)])) (sRaise (2 : Nat) (eVar 0)) sNext)
noncomputable def F_need_number : FD := mkFn 1 1 g_need_number
theorem sc_need_number : FnScope ["thing"] ["thing"] (defScope s_need_number) := ⟨rfl, rfl, rfl, by decide +kernel, rfl, by decide +kernel, by decide +kernel⟩
theorem kn_need_number {W : Wd} (T : Txt W.toWk) (hca : W.ca = none) (hgs : W.gs = []) : ∃ f fd, Dfn W.toWk "need_number" s_need_number f fd ∧ Kn W "need_number" 3 f fd ["thing"] F_need_number := by
  obtain ⟨f_is_number, fd_is_number, D_is_number, K_is_number⟩ := kn_is_number T hca hgs
  obtain ⟨fi_NoNumber, fj_NoNumber, E_NoNumber⟩ := ex_NoNumber T
  obtain ⟨f, fd, D⟩ := T.d_need_number
  exact ⟨f, fd, D, D.kn (N := ["thing"]) (ps := ["thing"]) (k := 2) (g := g_need_number) sc_need_number (dss_one (ds_if (dt_not (dt_val (de_call K_is_number (D_is_number.bp fun _ _ _ _ _ _ us hl => match us, hl with | [_], _ => rfl) (da_cons (de_var (i := 0)) da_nil)))) (dss_one (ds_raise E_NoNumber T.e_NoNumber.at (de_var (i := 0)))) dss_nil)) hca⟩
noncomputable def g_Frac___init__ : FS := (sSeq (sExp (eCall F_need_number [(eVar 1)])) (sSeq (sIf (eOr (eNot (eCall F_is_number [(eVar 2)])) (e2 eqD (e2 modD (eVar 2) (eC (.int 2))) (eC (.int 0)))) (sRaise (3 : Nat) (eVar 2)) sNext) (sSeq (sSet 3 (eCall F_common [(eN absD [(eVar 1)]), (eN absD [(eVar 2)])])) (sSeq (sIf (e2 ltD (eVar 2) (eC (.int 0))) (sSet 3 (e2 subD (eC (.int 0)) (eVar 3))) sNext) (sSeq (sFldD (2 : Nat) fnm "above" (eVar 0) (e2 divD (eVar 1) (eVar 3))) (sFldD (2 : Nat) fnm "below" (eVar 0) (e2 divD (eVar 2) (eVar 3))))))))
noncomputable def r_Frac___init___5 : FS := (sFldD (2 : Nat) fnm "below" (eVar 0) (e2 divD (eVar 2) (eVar 3)))
noncomputable def r_Frac___init___4 : FS := sSeq (sFldD (2 : Nat) fnm "above" (eVar 0) (e2 divD (eVar 1) (eVar 3))) r_Frac___init___5
noncomputable def r_Frac___init___3 : FS := sSeq (sIf (e2 ltD (eVar 2) (eC (.int 0))) (sSet 3 (e2 subD (eC (.int 0)) (eVar 3))) sNext) r_Frac___init___4
noncomputable def r_Frac___init___2 : FS := sSeq (sSet 3 (eCall F_common [(eN absD [(eVar 1)]), (eN absD [(eVar 2)])])) r_Frac___init___3
noncomputable def r_Frac___init___1 : FS := sSeq (sIf (eOr (eNot (eCall F_is_number [(eVar 2)])) (e2 eqD (e2 modD (eVar 2) (eC (.int 2))) (eC (.int 0)))) (sRaise (3 : Nat) (eVar 2)) sNext) r_Frac___init___2
theorem gr_Frac___init__ : g_Frac___init__ = sSeq (sExp (eCall F_need_number [(eVar 1)])) r_Frac___init___1 := rfl
noncomputable def F_Frac___init__ : FD := mkFn 3 4 g_Frac___init__
theorem sc_Frac___init__ : FnScope ["self", "top", "bottom", "shared"] ["self", "top", "bottom"] (defScope s_Frac___init__) := ⟨rfl, rfl, rfl, by decide +kernel, rfl, by decide +kernel, by decide +kernel⟩
theorem kn_Frac___init__ {W : Wd} (T : Txt W.toWk) (hca : W.ca = none) (hgs : W.gs = []) : ∃ f fd, MDfnD W.toWk (0 : Nat) "__init__" "Frac.__init__" s_Frac___init__ [(.int 1, .int 1)] f fd ∧ FnG W 4 f fd ["self", "top", "bottom"] F_Frac___init__ := by
  obtain ⟨f_common, fd_common, D_common, K_common⟩ := kn_common T hca hgs
  obtain ⟨f_is_number, fd_is_number, D_is_number, K_is_number⟩ := kn_is_number T hca hgs
  obtain ⟨f_need_number, fd_need_number, D_need_number, K_need_number⟩ := kn_need_number T hca hgs
  obtain ⟨fi_NoBottom, fj_NoBottom, E_NoBottom⟩ := ex_NoBottom T
  obtain ⟨f, fd, D⟩ := T.d_Frac___init__
  exact ⟨f, fd, D, D.kn (N := ["self", "top", "bottom", "shared"]) (ps := ["self", "top", "bottom"]) (k := 3) (g := g_Frac___init__) sc_Frac___init__ (dss_cons (ds_exp (de_call K_need_number (D_need_number.bp fun _ _ _ _ _ _ us hl => match us, hl with | [_], _ => rfl) (da_cons (de_var (i := 1)) da_nil))) (dss_cons (ds_if (dt_w (dw_or (dt_not (dt_val (de_call K_is_number (D_is_number.bp fun _ _ _ _ _ _ us hl => match us, hl with | [_], _ => rfl) (da_cons (de_var (i := 2)) da_nil)))) (dw_or1 (dt_cmp op2_eq eqD_bl (de_bin op2_mod (de_var (i := 2)) de_int) de_int (by rfl))))) (dss_one (ds_raise E_NoBottom T.e_NoBottom.at (de_var (i := 2)))) dss_nil) (dss_cons (ds_set (i := 3) (de_call K_common (D_common.bp fun _ _ _ _ _ _ us hl => match us, hl with | [_, _], _ => rfl) (da_cons (de_callB opn_abs T.b_abs boot_abs (da_cons (de_var (i := 1)) da_nil)) (da_cons (de_callB opn_abs T.b_abs boot_abs (da_cons (de_var (i := 2)) da_nil)) da_nil)))) (dss_cons (ds_if (dt_cmp op2_lt cmpI_bl (de_var (i := 2)) de_int (by rfl)) (dss_one (ds_set (i := 3) (de_bin op2_sub de_int (de_var (i := 3))))) dss_nil) (dss_cons (ds_fld T.ob (de_var (i := 0)) (de_bin op2_div (de_var (i := 1)) (de_var (i := 3)))) (dss_one (ds_fld T.ob (de_var (i := 0)) (de_bin op2_div (de_var (i := 2)) (de_var (i := 3)))))))))) hca⟩
noncomputable def g_Frac___str__ : FS := (sSeq (sIf (e2 eqD (e1 (fldD (2 : Nat) fnm "below") (eVar 0)) (eC (.int 1))) (sRet (eN strD [(e1 (fldD (2 : Nat) fnm "above") (eVar 0))])) sNext) (sRet (eJoin [(e1 fmtD (e1 (fldD (2 : Nat) fnm "above") (eVar 0))), (eC (.str "/")), (e1 fmtD (e1 (fldD (2 : Nat) fnm "below") (eVar 0)))])))
noncomputable def F_Frac___str__ : FD := mkFn 1 1 g_Frac___str__
theorem sc_Frac___str__ : FnScope ["self"] ["self"] (defScope s_Frac___str__) := ⟨rfl, rfl, rfl, by decide +kernel, rfl, by decide +kernel, by decide +kernel⟩
theorem kn_Frac___str__ {W : Wd} (T : Txt W.toWk) (hca : W.ca = none) : ∃ f fd, MDfn W.toWk (0 : Nat) "__str__" "Frac.__str__" s_Frac___str__ f fd ∧ FnG W 1 f fd ["self"] F_Frac___str__ := by
  obtain ⟨f, fd, D⟩ := T.d_Frac___str__
  exact ⟨f, fd, D, D.kn (N := ["self"]) (ps := ["self"]) (k := 0) (g := g_Frac___str__) sc_Frac___str__ (dss_cons (ds_if (dt_cmp op2_eq eqD_bl (de_fld T.ob (de_var (i := 0))) de_int (by rfl)) (dss_one (ds_ret (de_callTy opn_str T.b_str boot_str (da_cons (de_fld T.ob (de_var (i := 0))) da_nil)))) dss_nil) (dss_one (ds_ret (de_joined (.cons (de_fmt (de_fld T.ob (de_var (i := 0)))) (.cons de_str (.cons (de_fmt (de_fld T.ob (de_var (i := 0)))) .nil))))))) hca⟩
noncomputable def g_Frac___repr__ : FS := (sRet (eJoin [(eC (.str "Frac(")), (e1 fmtD (eN (strMD (mOf [((0 : Nat), F_Frac___str__)])) [(eVar 0)])), (eC (.str ")"))]))
noncomputable def F_Frac___repr__ : FD := mkFn 1 1 g_Frac___repr__
theorem sc_Frac___repr__ : FnScope ["self"] ["self"] (defScope s_Frac___repr__) := ⟨rfl, rfl, rfl, by decide +kernel, rfl, by decide +kernel, by decide +kernel⟩
theorem kn_Frac___repr__ {W : Wd} (T : Txt W.toWk) (hca : W.ca = none) : ∃ f fd, MDfn W.toWk (0 : Nat) "__repr__" "Frac.__repr__" s_Frac___repr__ f fd ∧ FnG W 4 f fd ["self"] F_Frac___repr__ := by
  obtain ⟨f_Frac___str__, fd_Frac___str__, D_Frac___str__, G_Frac___str__⟩ := kn_Frac___str__ T hca
  have MT___str__ : MtF W 1 (2 : Nat) fnm "__str__" 0 (mOf [((0 : Nat), F_Frac___str__)]) := mt_of ⟨⟨by decide, by decide, (D_Frac___str__.meth (np := 0) G_Frac___str__ fun _ _ _ _ _ _ us hl => match us, hl with | [_], _ => rfl).mono (by decide)⟩, trivial⟩
  obtain ⟨f, fd, D⟩ := T.d_Frac___repr__
  exact ⟨f, fd, D, D.kn (N := ["self"]) (ps := ["self"]) (k := 3) (g := g_Frac___repr__) sc_Frac___repr__ (dss_one (ds_ret (de_joined (.cons de_str (.cons (de_fmt (de_callTy (opn_strM (k := 1) (strT_of MT___str__)) T.b_str boot_str (da_cons (de_var (i := 0)) da_nil))) (.cons de_str .nil)))))) hca⟩
noncomputable def g_is_whole : FS := (sRet (eAnd (eN (isiD tab) [(eVar 0), (eC (.cls (.bi .int)))]) (eAnd (eNotV (eN (isiD tab) [(eVar 0), (eC (.cls (.bi .bool)))])) (eChain leD leD (eVar 1) (eVar 0) (eVar 2)))))
noncomputable def F_is_whole : FD := mkFn 3 3 g_is_whole
theorem sc_is_whole : FnScope ["thing", "low", "high"] ["thing", "low", "high"] (defScope s_is_whole) := ⟨rfl, rfl, rfl, by decide +kernel, rfl, by decide +kernel, by decide +kernel⟩
theorem kn_is_whole {W : Wd} (T : Txt W.toWk) (hca : W.ca = none) (hgs : W.gs = []) : ∃ f fd, Dfn W.toWk "is_whole" s_is_whole f fd ∧ Kn W "is_whole" 1 f fd ["thing", "low", "high"] F_is_whole := by
  obtain ⟨f, fd, D⟩ := T.d_is_whole
  exact ⟨f, fd, D, D.kn (N := ["thing", "low", "high"]) (ps := ["thing", "low", "high"]) (k := 0) (g := g_is_whole) sc_is_whole (dss_one (ds_ret (de_and (de_callB (opn_isi T.isi) T.b_isinstance boot_isinstance (da_cons (de_var (i := 0)) (da_cons (de_ty (T := .int) T.b_int boot_int) da_nil))) (de_and (de_not (de_callB (opn_isi T.isi) T.b_isinstance boot_isinstance (da_cons (de_var (i := 0)) (da_cons (de_ty (T := .bool) T.b_bool boot_bool) da_nil)))) (de_one (de_chain op2_le op2_le (de_var (i := 1)) (de_var (i := 0)) (de_var (i := 2)))))))) hca⟩
noncomputable def g_Rule___init__ : FS := (sSeq (sIf (eOr (eNot (eCall F_is_whole [(eVar 1), (eC (.int 1)), (eC (.int 99))])) (e2 eqD (e2 modD (eVar 1) (eC (.int 2))) (eC (.int 0)))) (sRaise (2 : Nat) (eVar 1)) sNext) (sSeq (sIf (eOr (eNot (eCall F_is_whole [(eVar 2), (e2 subD (eC (.int 0)) (eC (.int 99))), (eC (.int 99))])) (e2 eqD (e2 modD (eVar 2) (eC (.int 2))) (eC (.int 0)))) (sRaise (2 : Nat) (eVar 2)) sNext) (sSeq (sFldD (2 : Nat) fnm "times" (eVar 0) (eVar 1)) (sFldD (2 : Nat) fnm "plus" (eVar 0) (eVar 2)))))
noncomputable def r_Rule___init___3 : FS := (sFldD (2 : Nat) fnm "plus" (eVar 0) (eVar 2))
noncomputable def r_Rule___init___2 : FS := sSeq (sFldD (2 : Nat) fnm "times" (eVar 0) (eVar 1)) r_Rule___init___3
noncomputable def r_Rule___init___1 : FS := sSeq (sIf (eOr (eNot (eCall F_is_whole [(eVar 2), (e2 subD (eC (.int 0)) (eC (.int 99))), (eC (.int 99))])) (e2 eqD (e2 modD (eVar 2) (eC (.int 2))) (eC (.int 0)))) (sRaise (2 : Nat) (eVar 2)) sNext) r_Rule___init___2
theorem gr_Rule___init__ : g_Rule___init__ = sSeq (sIf (eOr (eNot (eCall F_is_whole [(eVar 1), (eC (.int 1)), (eC (.int 99))])) (e2 eqD (e2 modD (eVar 1) (eC (.int 2))) (eC (.int 0)))) (sRaise (2 : Nat) (eVar 1)) sNext) r_Rule___init___1 := rfl
noncomputable def F_Rule___init__ : FD := mkFn 3 3 g_Rule___init__
theorem sc_Rule___init__ : FnScope ["self", "factor", "addend"] ["self", "factor", "addend"] (defScope s_Rule___init__) := ⟨rfl, rfl, rfl, by decide +kernel, rfl, by decide +kernel, by decide +kernel⟩
theorem kn_Rule___init__ {W : Wd} (T : Txt W.toWk) (hca : W.ca = none) (hgs : W.gs = []) : ∃ f fd, MDfnD W.toWk (1 : Nat) "__init__" "Rule.__init__" s_Rule___init__ [(.int 3, .int 3), (.int 1, .int 1)] f fd ∧ FnG W 3 f fd ["self", "factor", "addend"] F_Rule___init__ := by
  obtain ⟨f_is_whole, fd_is_whole, D_is_whole, K_is_whole⟩ := kn_is_whole T hca hgs
  obtain ⟨fi_NoNumber, fj_NoNumber, E_NoNumber⟩ := ex_NoNumber T
  obtain ⟨t_MOST, c_MOST⟩ := T.c_MOST
  obtain ⟨f, fd, D⟩ := T.d_Rule___init__
  exact ⟨f, fd, D, D.kn (N := ["self", "factor", "addend"]) (ps := ["self", "factor", "addend"]) (k := 2) (g := g_Rule___init__) sc_Rule___init__ (dss_cons (ds_if (dt_w (dw_or (dt_not (dt_val (de_call K_is_whole (D_is_whole.bp fun _ _ _ _ _ _ us hl => match us, hl with | [_, _, _], _ => rfl) (da_cons (de_var (i := 1)) (da_cons de_int (da_cons (de_glob (d := .int 99) (v := .int 99) c_MOST ⟨_, rfl⟩ (fun _ _ => rfl)) da_nil)))))) (dw_or1 (dt_cmp op2_eq eqD_bl (de_bin op2_mod (de_var (i := 1)) de_int) de_int (by rfl))))) (dss_one (ds_raise E_NoNumber T.e_NoNumber.at (de_var (i := 1)))) dss_nil) (dss_cons (ds_if (dt_w (dw_or (dt_not (dt_val (de_call K_is_whole (D_is_whole.bp fun _ _ _ _ _ _ us hl => match us, hl with | [_, _, _], _ => rfl) (da_cons (de_var (i := 2)) (da_cons (de_bin op2_sub de_int (de_glob (d := .int 99) (v := .int 99) c_MOST ⟨_, rfl⟩ (fun _ _ => rfl))) (da_cons (de_glob (d := .int 99) (v := .int 99) c_MOST ⟨_, rfl⟩ (fun _ _ => rfl)) da_nil)))))) (dw_or1 (dt_cmp op2_eq eqD_bl (de_bin op2_mod (de_var (i := 2)) de_int) de_int (by rfl))))) (dss_one (ds_raise E_NoNumber T.e_NoNumber.at (de_var (i := 2)))) dss_nil) (dss_cons (ds_fld T.ob (de_var (i := 0)) (de_var (i := 1))) (dss_one (ds_fld T.ob (de_var (i := 0)) (de_var (i := 2))))))) hca⟩
noncomputable def g__law_box : FS := (sRet (eNewL [(eN maxD [(eC (.int 0)), (e2 subD (eVar 0) (e2 powD (eC (.int 10)) (eC (.int 18))))]), (e2 modD (eVar 0) (eC (.int 2147483629))), (eC (.int 0))]))
noncomputable def F__law_box : FD := mkFn 1 1 g__law_box
theorem sc__law_box : FnScope ["cell"] ["cell"] (defScope s__law_box) := ⟨rfl, rfl, rfl, by decide +kernel, rfl, by decide +kernel, by decide +kernel⟩
theorem kn__law_box {W : Wd} (T : Txt W.toWk) (hca : W.ca = none) (hgs : W.gs = []) : ∃ f fd, Dfn W.toWk "_law_box" s__law_box f fd ∧ Kn W "_law_box" 1 f fd ["cell"] F__law_box := by
  obtain ⟨f, fd, D⟩ := T.d__law_box
  exact ⟨f, fd, D, D.kn (N := ["cell"]) (ps := ["cell"]) (k := 0) (g := g__law_box) sc__law_box (dss_one (ds_ret (de_newL (da_cons (de_callB (opn_max rfl) T.b_max boot_max (da_cons de_int (da_cons (de_bin op2_sub (de_var (i := 0)) (de_bin op2_pow de_int de_int)) da_nil))) (da_cons (de_bin op2_mod (de_var (i := 0)) de_int) (da_cons de_int da_nil)))))) hca⟩
noncomputable def g__law_cell : FS := (sSeq (sIf (e2 ltD (eVar 1) (eN lenD [(eVar 0)])) (sRet (e2 ixD (eVar 0) (eVar 1))) sNext) (sRet (e2 addD (e2 mulD (eC (.int 15485863)) (eVar 1)) (eC (.int 17)))))
noncomputable def F__law_cell : FD := mkFn 2 2 g__law_cell
theorem sc__law_cell : FnScope ["script", "k"] ["script", "k"] (defScope s__law_cell) := ⟨rfl, rfl, rfl, by decide +kernel, rfl, by decide +kernel, by decide +kernel⟩
theorem kn__law_cell {W : Wd} (T : Txt W.toWk) (hca : W.ca = none) (hgs : W.gs = []) : ∃ f fd, Dfn W.toWk "_law_cell" s__law_cell f fd ∧ Kn W "_law_cell" 1 f fd ["script", "k"] F__law_cell := by
  obtain ⟨f, fd, D⟩ := T.d__law_cell
  exact ⟨f, fd, D, D.kn (N := ["script", "k"]) (ps := ["script", "k"]) (k := 0) (g := g__law_cell) sc__law_cell (dss_cons (ds_if (dt_cmp op2_lt cmpI_bl (de_var (i := 1)) (de_callB opn_len T.b_len boot_len (da_cons (de_var (i := 0)) da_nil)) (by rfl)) (dss_one (ds_ret (de_ix (de_var (i := 0)) (de_var (i := 1))))) dss_nil) (dss_one (ds_ret (de_bin op2_add (de_bin op2_mul de_int (de_var (i := 1))) de_int)))) hca⟩
noncomputable def g_Frac_told : FS := (sRet (eN opTup [(e1 (fldD (2 : Nat) fnm "above") (eVar 0)), (e1 (fldD (2 : Nat) fnm "below") (eVar 0))]))
noncomputable def F_Frac_told : FD := mkFn 1 1 g_Frac_told
theorem sc_Frac_told : FnScope ["self"] ["self"] (defScope s_Frac_told) := ⟨rfl, rfl, rfl, by decide +kernel, rfl, by decide +kernel, by decide +kernel⟩
theorem kn_Frac_told {W : Wd} (T : Txt W.toWk) (hca : W.ca = none) (hgs : W.gs = []) : ∃ f fd, MDfn W.toWk (0 : Nat) "told" "Frac.told" s_Frac_told f fd ∧ FnG W 1 f fd ["self"] F_Frac_told := by
  obtain ⟨f, fd, D⟩ := T.d_Frac_told
  exact ⟨f, fd, D, D.kn (N := ["self"]) (ps := ["self"]) (k := 0) (g := g_Frac_told) sc_Frac_told (dss_one (ds_ret (de_tup (da_cons (de_fld T.ob (de_var (i := 0))) (da_cons (de_fld T.ob (de_var (i := 0))) da_nil))))) hca⟩
noncomputable def g_Rule_told : FS := (sRet (eN opTup [(e1 (fldD (2 : Nat) fnm "times") (eVar 0)), (e1 (fldD (2 : Nat) fnm "plus") (eVar 0))]))
noncomputable def F_Rule_told : FD := mkFn 1 1 g_Rule_told
theorem sc_Rule_told : FnScope ["self"] ["self"] (defScope s_Rule_told) := ⟨rfl, rfl, rfl, by decide +kernel, rfl, by decide +kernel, by decide +kernel⟩
theorem kn_Rule_told {W : Wd} (T : Txt W.toWk) (hca : W.ca = none) (hgs : W.gs = []) : ∃ f fd, MDfn W.toWk (1 : Nat) "told" "Rule.told" s_Rule_told f fd ∧ FnG W 1 f fd ["self"] F_Rule_told := by
  obtain ⟨f, fd, D⟩ := T.d_Rule_told
  exact ⟨f, fd, D, D.kn (N := ["self"]) (ps := ["self"]) (k := 0) (g := g_Rule_told) sc_Rule_told (dss_one (ds_ret (de_tup (da_cons (de_fld T.ob (de_var (i := 0))) (da_cons (de_fld T.ob (de_var (i := 0))) da_nil))))) hca⟩
noncomputable def g__law_low : FS := (sSeq (sPar [2, 3] [(eN absD [(eVar 0)]), (eN absD [(eVar 1)])]) (sSeq (sWhile (e2 gtD (eVar 3) (eC (.int 0))) (sPar [2, 3] [(eVar 3), (e2 modD (eN intD [(eVar 2)]) (eVar 3))])) (sSeq (sSet 2 (eIf (e2 gtD (eVar 1) (eC (.int 0))) (eVar 2) (e2 subD (eC (.int 0)) (eVar 2)))) (sRet (eN opTup [(e2 divD (eVar 0) (eVar 2)), (e2 divD (eVar 1) (eVar 2))])))))
noncomputable def r__law_low_3 : FS := (sRet (eN opTup [(e2 divD (eVar 0) (eVar 2)), (e2 divD (eVar 1) (eVar 2))]))
noncomputable def r__law_low_2 : FS := sSeq (sSet 2 (eIf (e2 gtD (eVar 1) (eC (.int 0))) (eVar 2) (e2 subD (eC (.int 0)) (eVar 2)))) r__law_low_3
noncomputable def r__law_low_1 : FS := sSeq (sWhile (e2 gtD (eVar 3) (eC (.int 0))) (sPar [2, 3] [(eVar 3), (e2 modD (eN intD [(eVar 2)]) (eVar 3))])) r__law_low_2
theorem gr__law_low : g__law_low = sSeq (sPar [2, 3] [(eN absD [(eVar 0)]), (eN absD [(eVar 1)])]) r__law_low_1 := rfl
noncomputable def F__law_low : FD := mkFn 2 4 g__law_low
theorem sc__law_low : FnScope ["top", "bottom", "one", "other"] ["top", "bottom"] (defScope s__law_low) := ⟨rfl, rfl, rfl, by decide +kernel, rfl, by decide +kernel, by decide +kernel⟩
theorem kn__law_low {W : Wd} (T : Txt W.toWk) (hca : W.ca = none) (hgs : W.gs = []) : ∃ f fd, Dfn W.toWk "_law_low" s__law_low f fd ∧ Kn W "_law_low" 1 f fd ["top", "bottom"] F__law_low := by
  obtain ⟨f, fd, D⟩ := T.d__law_low
  exact ⟨f, fd, D, D.kn (N := ["top", "bottom", "one", "other"]) (ps := ["top", "bottom"]) (k := 0) (g := g__law_low) sc__law_low (dss_cons (ds_par (i := 2) (j := 3) rfl (da_cons (de_callB opn_abs T.b_abs boot_abs (da_cons (de_var (i := 0)) da_nil)) (da_cons (de_callB opn_abs T.b_abs boot_abs (da_cons (de_var (i := 1)) da_nil)) da_nil))) (dss_cons (ds_while (dt_cmp op2_gt cmpI_bl (de_var (i := 3)) de_int (by rfl)) (dss_one (ds_par (i := 2) (j := 3) rfl (da_cons (de_var (i := 3)) (da_cons (de_bin op2_mod (de_callTy opn_int T.b_int boot_int (da_cons (de_var (i := 2)) da_nil)) (de_var (i := 3))) da_nil))))) (dss_cons (ds_set (i := 2) (de_if (dt_cmp op2_gt cmpI_bl (de_var (i := 1)) de_int (by rfl)) (de_var (i := 2)) (de_bin op2_sub de_int (de_var (i := 2))))) (dss_one (ds_ret (de_tup (da_cons (de_bin op2_div (de_var (i := 0)) (de_var (i := 2))) (da_cons (de_bin op2_div (de_var (i := 1)) (de_var (i := 2))) da_nil)))))))) hca⟩
noncomputable def g__law_lead : FS := (sSeq (sAsg (gT [(gN 2), (gN 3)]) (eVar 1)) (sSeq (sIf (e2 eqD (e2 modD (eVar 2) (eC (.int 2))) (eC (.int 1))) (sSet 2 (e2 addD (e2 mulD (e2 ixD (eVar 0) (eC (.int 0))) (eVar 2)) (e2 mulD (e2 ixD (eVar 0) (eC (.int 1))) (eVar 3)))) sNext) (sRet (eCall F__law_low [(e2 divD (eVar 2) (eC (.int 2))), (eVar 3)]))))
noncomputable def r__law_lead_2 : FS := (sRet (eCall F__law_low [(e2 divD (eVar 2) (eC (.int 2))), (eVar 3)]))
noncomputable def r__law_lead_1 : FS := sSeq (sIf (e2 eqD (e2 modD (eVar 2) (eC (.int 2))) (eC (.int 1))) (sSet 2 (e2 addD (e2 mulD (e2 ixD (eVar 0) (eC (.int 0))) (eVar 2)) (e2 mulD (e2 ixD (eVar 0) (eC (.int 1))) (eVar 3)))) sNext) r__law_lead_2
theorem gr__law_lead : g__law_lead = sSeq (sAsg (gT [(gN 2), (gN 3)]) (eVar 1)) r__law_lead_1 := rfl
noncomputable def F__law_lead : FD := mkFn 2 4 g__law_lead
theorem sc__law_lead : FnScope ["rule", "pair", "top", "bottom"] ["rule", "pair"] (defScope s__law_lead) := ⟨rfl, rfl, rfl, by decide +kernel, rfl, by decide +kernel, by decide +kernel⟩
theorem kn__law_lead {W : Wd} (T : Txt W.toWk) (hca : W.ca = none) (hgs : W.gs = []) : ∃ f fd, Dfn W.toWk "_law_lead" s__law_lead f fd ∧ Kn W "_law_lead" 2 f fd ["rule", "pair"] F__law_lead := by
  obtain ⟨f__law_low, fd__law_low, D__law_low, K__law_low⟩ := kn__law_low T hca hgs
  obtain ⟨f, fd, D⟩ := T.d__law_lead
  exact ⟨f, fd, D, D.kn (N := ["rule", "pair", "top", "bottom"]) (ps := ["rule", "pair"]) (k := 1) (g := g__law_lead) sc__law_lead (dss_cons (ds_asg (de_var (i := 1)) (dg_t rfl (dgs_cons (dg_n (i := 2)) (dgs_cons (dg_n (i := 3)) dgs_nil)))) (dss_cons (ds_if (dt_cmp op2_eq eqD_bl (de_bin op2_mod (de_var (i := 2)) de_int) de_int (by rfl)) (dss_one (ds_set (i := 2) (de_bin op2_add (de_bin op2_mul (de_ix (de_var (i := 0)) de_int) (de_var (i := 2))) (de_bin op2_mul (de_ix (de_var (i := 0)) de_int) (de_var (i := 3)))))) dss_nil) (dss_one (ds_ret (de_call K__law_low (D__law_low.bp fun _ _ _ _ _ _ us hl => match us, hl with | [_, _], _ => rfl) (da_cons (de_bin op2_div (de_var (i := 2)) de_int) (da_cons (de_var (i := 3)) da_nil))))))) hca⟩
noncomputable def g__law_due : FS := (sSeq (sIf (eOr (eNot (eN (isiD tab) [(eVar 1), (eN opTup [(eC (.cls (.bi .lst))), (eC (.cls (.bi .tup)))])])) (eOr (e2 ltD (eN lenD [(eVar 1)]) (eC (.int 1))) (e2 gtD (eN lenD [(eVar 1)]) (eC (.int 60))))) (sRet (eC (.bl false))) sNext) (sSeq (sIf (e2 neD (eLcW [2] (iAny (eVar 1)) (gN 2) (eNot (eN (isiD tab) [(eVar 2), (eC (.cls (.own (0 : Nat))))])) (eVar 2)) (eN opLst [])) (sRet (eC (.bl false))) sNext) (sSeq (sSet 3 (eLcW [2] (iAny (eVar 1)) (gN 2) tTrue (eMeth fnm (mOf [((0 : Nat), F_Frac_told), ((1 : Nat), F_Rule_told)]) (eVar 2) []))) (sRet (e2 eqD (eLc [4] (iAny (eVar 3)) (gN 4) tTrue (eCall F__law_lead [(eVar 0), (eVar 4)])) (e2 addD (eSl (eVar 3) (some (eC (.int 1))) none) (eSl (eVar 3) none (some (eC (.int 1))))))))))
noncomputable def r__law_due_3 : FS := (sRet (e2 eqD (eLc [4] (iAny (eVar 3)) (gN 4) tTrue (eCall F__law_lead [(eVar 0), (eVar 4)])) (e2 addD (eSl (eVar 3) (some (eC (.int 1))) none) (eSl (eVar 3) none (some (eC (.int 1)))))))
noncomputable def r__law_due_2 : FS := sSeq (sSet 3 (eLcW [2] (iAny (eVar 1)) (gN 2) tTrue (eMeth fnm (mOf [((0 : Nat), F_Frac_told), ((1 : Nat), F_Rule_told)]) (eVar 2) []))) r__law_due_3
noncomputable def r__law_due_1 : FS := sSeq (sIf (e2 neD (eLcW [2] (iAny (eVar 1)) (gN 2) (eNot (eN (isiD tab) [(eVar 2), (eC (.cls (.own (0 : Nat))))])) (eVar 2)) (eN opLst [])) (sRet (eC (.bl false))) sNext) r__law_due_2
theorem gr__law_due : g__law_due = sSeq (sIf (eOr (eNot (eN (isiD tab) [(eVar 1), (eN opTup [(eC (.cls (.bi .lst))), (eC (.cls (.bi .tup)))])])) (eOr (e2 ltD (eN lenD [(eVar 1)]) (eC (.int 1))) (e2 gtD (eN lenD [(eVar 1)]) (eC (.int 60))))) (sRet (eC (.bl false))) sNext) r__law_due_1 := rfl
noncomputable def F__law_due : FD := mkFn 2 5 g__law_due
theorem sc__law_due : FnScope ["rule", "thing", "part", "pairs", "pair"] ["rule", "thing"] (defScope s__law_due) := ⟨rfl, rfl, rfl, by decide +kernel, rfl, by decide +kernel, by decide +kernel⟩
theorem kn__law_due {W : Wd} (T : Txt W.toWk) (hca : W.ca = none) (hgs : W.gs = []) : ∃ f fd, Dfn W.toWk "_law_due" s__law_due f fd ∧ Kn W "_law_due" 3 f fd ["rule", "thing"] F__law_due := by
  obtain ⟨f_Frac_told, fd_Frac_told, D_Frac_told, G_Frac_told⟩ := kn_Frac_told T hca hgs
  obtain ⟨f_Rule_told, fd_Rule_told, D_Rule_told, G_Rule_told⟩ := kn_Rule_told T hca hgs
  obtain ⟨f__law_lead, fd__law_lead, D__law_lead, K__law_lead⟩ := kn__law_lead T hca hgs
  have MT_told : MtF W 1 (2 : Nat) fnm "told" 0 (mOf [((0 : Nat), F_Frac_told), ((1 : Nat), F_Rule_told)]) := mt_of ⟨⟨by decide, by decide, (D_Frac_told.meth (np := 0) G_Frac_told fun _ _ _ _ _ _ us hl => match us, hl with | [_], _ => rfl).mono (by decide)⟩, ⟨by decide, by decide, (D_Rule_told.meth (np := 0) G_Rule_told fun _ _ _ _ _ _ us hl => match us, hl with | [_], _ => rfl).mono (by decide)⟩, trivial⟩
  obtain ⟨f, fd, D⟩ := T.d__law_due
  exact ⟨f, fd, D, D.kn (N := ["rule", "thing", "part", "pairs", "pair"]) (ps := ["rule", "thing"]) (k := 2) (g := g__law_due) sc__law_due (dss_cons (ds_if (dt_w (dw_or (dt_not (dt_val (de_callB (opn_isi T.isi) T.b_isinstance boot_isinstance (da_cons (de_var (i := 1)) (da_cons (de_tup (da_cons (de_ty (T := .lst) T.b_list boot_list) (da_cons (de_ty (T := .tup) T.b_tuple boot_tuple) da_nil))) da_nil))))) (dw_or (dt_cmp op2_lt cmpI_bl (de_callB opn_len T.b_len boot_len (da_cons (de_var (i := 1)) da_nil)) de_int (by rfl)) (dw_or1 (dt_cmp op2_gt cmpI_bl (de_callB opn_len T.b_len boot_len (da_cons (de_var (i := 1)) da_nil)) de_int (by rfl)))))) (dss_one (ds_ret de_bl)) dss_nil) (dss_cons (ds_if (dt_cmp op2_ne neD_bl (de_lcW (own := [("part", 2)]) (di_any (de_var (i := 1))) (dg_n (i := 2)) (.one (dt_not (dt_val (de_callB (opn_isi T.isi) T.b_isinstance boot_isinstance (da_cons (de_var (i := 2)) (da_cons (de_own T.o_Frac.at rfl) da_nil)))))) (de_var (i := 2)) (fun _ => blkOk_by (by decide +kernel))) (de_lst da_nil) (by rfl)) (dss_one (ds_ret de_bl)) dss_nil) (dss_cons (ds_setLcW (i := 3) (own := [("part", 2)]) (di_any (de_var (i := 1))) (dg_n (i := 2)) .none (de_meth0 (k := 1) T.ob MT_told (de_var (i := 2))) (fun _ => blkOk_by (by decide +kernel))) (dss_one (ds_ret (de_cmp op2_eq (de_lc (own := [("pair", 4)]) (di_any (de_var (i := 3))) (dg_n (i := 4)) .none (de_call K__law_lead (D__law_lead.bp fun _ _ _ _ _ _ us hl => match us, hl with | [_, _], _ => rfl) (da_cons (de_var (i := 0)) (da_cons (de_var (i := 4)) da_nil))) (fun _ => blkOk_by (by decide +kernel))) (de_bin op2_add (de_sl (de_var (i := 3)) (dp_some de_int) dp_none) (de_sl (de_var (i := 3)) dp_none (dp_some de_int))) (by rfl))))))) hca⟩
noncomputable def g__law_just : FS := (sRet (eAnd (e2 eqD (eVar 0) (eVar 1)) (e2 eqD (eN (reprD xtx) [(eVar 0)]) (eN (reprD xtx) [(eVar 1)]))))
noncomputable def F__law_just : FD := mkFn 2 2 g__law_just
theorem sc__law_just : FnScope ["told", "due"] ["told", "due"] (defScope s__law_just) := ⟨rfl, rfl, rfl, by decide +kernel, rfl, by decide +kernel, by decide +kernel⟩
theorem kn__law_just {W : Wd} (T : Txt W.toWk) (hca : W.ca = none) (hgs : W.gs = []) : ∃ f fd, Dfn W.toWk "_law_just" s__law_just f fd ∧ Kn W "_law_just" 1 f fd ["told", "due"] F__law_just := by
  obtain ⟨f, fd, D⟩ := T.d__law_just
  exact ⟨f, fd, D, D.kn (N := ["told", "due"]) (ps := ["told", "due"]) (k := 0) (g := g__law_just) sc__law_just (dss_one (ds_ret (de_and (de_cmp op2_eq (de_var (i := 0)) (de_var (i := 1)) (by rfl)) (de_one (de_cmp op2_eq (de_callB (opn_repr T.xt hgs) T.b_repr boot_repr (da_cons (de_var (i := 0)) da_nil)) (de_callB (opn_repr T.xt hgs) T.b_repr boot_repr (da_cons (de_var (i := 1)) da_nil)) (by rfl)))))) hca⟩
noncomputable def g__law_take : FS := (sSeq (sIf (e2 gtD (e2 ixD (eVar 0) (eC (.int 0))) (eC (.int 0))) (sSeq (sSet 2 (e2 modD (e2 ixD (eVar 0) (eC (.int 0))) (eVar 1))) (sSeq (sStore (eVar 0) (eC (.int 0)) (e2 divD (e2 ixD (eVar 0) (eC (.int 0))) (eVar 1))) (sRet (eVar 2)))) sNext) (sSeq (sStore (eVar 0) (eC (.int 2)) (e2 addD (e2 ixD (eVar 0) (eC (.int 2))) (eC (.int 1)))) (sSeq (sSet 3 (e2 modD (e2 powD (e2 addD (e2 addD (e2 ixD (eVar 0) (eC (.int 1))) (e2 mulD (eC (.int 7919)) (e2 ixD (eVar 0) (eC (.int 2))))) (eC (.int 17))) (eC (.int 5))) (eC (.int 2147483647)))) (sSeq (sSet 4 (e2 modD (e2 powD (e2 addD (e2 addD (e2 divD (eVar 3) (eC (.int 8))) (e2 mulD (e2 mulD (eC (.int 104729)) (e2 ixD (eVar 0) (eC (.int 2)))) (e2 ixD (eVar 0) (eC (.int 2))))) (eC (.int 5))) (eC (.int 3))) (eC (.int 2147483629)))) (sRet (e2 modD (e2 addD (e2 divD (eVar 3) (eC (.int 4))) (e2 mulD (eC (.int 536870909)) (e2 divD (eVar 4) (eC (.int 4))))) (eVar 1)))))))
noncomputable def r__law_take_4 : FS := (sRet (e2 modD (e2 addD (e2 divD (eVar 3) (eC (.int 4))) (e2 mulD (eC (.int 536870909)) (e2 divD (eVar 4) (eC (.int 4))))) (eVar 1)))
noncomputable def r__law_take_3 : FS := sSeq (sSet 4 (e2 modD (e2 powD (e2 addD (e2 addD (e2 divD (eVar 3) (eC (.int 8))) (e2 mulD (e2 mulD (eC (.int 104729)) (e2 ixD (eVar 0) (eC (.int 2)))) (e2 ixD (eVar 0) (eC (.int 2))))) (eC (.int 5))) (eC (.int 3))) (eC (.int 2147483629)))) r__law_take_4
noncomputable def r__law_take_2 : FS := sSeq (sSet 3 (e2 modD (e2 powD (e2 addD (e2 addD (e2 ixD (eVar 0) (eC (.int 1))) (e2 mulD (eC (.int 7919)) (e2 ixD (eVar 0) (eC (.int 2))))) (eC (.int 17))) (eC (.int 5))) (eC (.int 2147483647)))) r__law_take_3
noncomputable def r__law_take_1 : FS := sSeq (sStore (eVar 0) (eC (.int 2)) (e2 addD (e2 ixD (eVar 0) (eC (.int 2))) (eC (.int 1)))) r__law_take_2
theorem gr__law_take : g__law_take = sSeq (sIf (e2 gtD (e2 ixD (eVar 0) (eC (.int 0))) (eC (.int 0))) (sSeq (sSet 2 (e2 modD (e2 ixD (eVar 0) (eC (.int 0))) (eVar 1))) (sSeq (sStore (eVar 0) (eC (.int 0)) (e2 divD (e2 ixD (eVar 0) (eC (.int 0))) (eVar 1))) (sRet (eVar 2)))) sNext) r__law_take_1 := rfl
noncomputable def F__law_take : FD := mkFn 2 5 g__law_take
theorem sc__law_take : FnScope ["box", "many", "digit", "one", "other"] ["box", "many"] (defScope s__law_take) := ⟨rfl, rfl, rfl, by decide +kernel, rfl, by decide +kernel, by decide +kernel⟩
theorem kn__law_take {W : Wd} (T : Txt W.toWk) (hca : W.ca = none) (hgs : W.gs = []) : ∃ f fd, Dfn W.toWk "_law_take" s__law_take f fd ∧ Kn W "_law_take" 1 f fd ["box", "many"] F__law_take := by
  obtain ⟨f, fd, D⟩ := T.d__law_take
  exact ⟨f, fd, D, D.kn (N := ["box", "many", "digit", "one", "other"]) (ps := ["box", "many"]) (k := 0) (g := g__law_take) sc__law_take (dss_cons (ds_if (dt_cmp op2_gt cmpI_bl (de_ix (de_var (i := 0)) de_int) de_int (by rfl)) (dss_cons (ds_set (i := 2) (de_bin op2_mod (de_ix (de_var (i := 0)) de_int) (de_var (i := 1)))) (dss_cons (ds_store (de_var (i := 0)) de_int (de_bin op2_div (de_ix (de_var (i := 0)) de_int) (de_var (i := 1)))) (dss_one (ds_ret (de_var (i := 2)))))) dss_nil) (dss_cons (ds_store (de_var (i := 0)) de_int (de_bin op2_add (de_ix (de_var (i := 0)) de_int) de_int)) (dss_cons (ds_set (i := 3) (de_bin op2_mod (de_bin op2_pow (de_bin op2_add (de_bin op2_add (de_ix (de_var (i := 0)) de_int) (de_bin op2_mul de_int (de_ix (de_var (i := 0)) de_int))) de_int) de_int) de_int)) (dss_cons (ds_set (i := 4) (de_bin op2_mod (de_bin op2_pow (de_bin op2_add (de_bin op2_add (de_bin op2_div (de_var (i := 3)) de_int) (de_bin op2_mul (de_bin op2_mul de_int (de_ix (de_var (i := 0)) de_int)) (de_ix (de_var (i := 0)) de_int))) de_int) de_int) de_int)) (dss_one (ds_ret (de_bin op2_mod (de_bin op2_add (de_bin op2_div (de_var (i := 3)) de_int) (de_bin op2_mul de_int (de_bin op2_div (de_var (i := 4)) de_int))) (de_var (i := 1))))))))) hca⟩
noncomputable def g__law_odd : FS := (sSeq (sSet 1 (eN opLst [(eC .non), (eC (.bl true)), (eC (.bl false)), (eC (.str "")), (eC (.str "7")), (eC (.str "a b")), (eN opLst []), (eN opLst [(eC (.int 1))]), (eN opTup [(eC (.int 1))]), eNewD, (eNewD1 (.inr "a") (.int 1)), (e2 powD (eC (.int 10)) (eC (.int 29))), (e2 subD (eC (.int 0)) (e2 powD (eC (.int 10)) (eC (.int 29)))), (eMk (4 : Nat) (eC (.str "a"))), (eN opLst [(eC (.str "a"))])])) (sRet (e2 ixD (eVar 1) (eCall F__law_take [(eVar 0), (eC (.int 15))]))))
noncomputable def F__law_odd : FD := mkFn 1 2 g__law_odd
theorem sc__law_odd : FnScope ["box", "some"] ["box"] (defScope s__law_odd) := ⟨rfl, rfl, rfl, by decide +kernel, rfl, by decide +kernel, by decide +kernel⟩
theorem kn__law_odd {W : Wd} (T : Txt W.toWk) (hca : W.ca = none) (hgs : W.gs = []) : ∃ f fd, Dfn W.toWk "_law_odd" s__law_odd f fd ∧ Kn W "_law_odd" 3 f fd ["box"] F__law_odd := by
  obtain ⟨f__law_take, fd__law_take, D__law_take, K__law_take⟩ := kn__law_take T hca hgs
  obtain ⟨fi_NoHalf, fj_NoHalf, E_NoHalf⟩ := ex_NoHalf T
  obtain ⟨f, fd, D⟩ := T.d__law_odd
  exact ⟨f, fd, D, D.kn (N := ["box", "some"]) (ps := ["box"]) (k := 2) (g := g__law_odd) sc__law_odd (dss_cons (ds_set (i := 1) (de_lst (da_cons de_non (da_cons de_bl (da_cons de_bl (da_cons de_str (da_cons de_str (da_cons de_str (da_cons (de_lst da_nil) (da_cons (de_lst (da_cons de_int da_nil)) (da_cons (de_tup (da_cons de_int da_nil)) (da_cons de_newD (da_cons (de_newD1 (k := (.inr "a")) (d := (.int 1)) (u := (.int 1)) (fun _ => pe_str) (fun _ => pe_int) (fun _ _ => rfl)) (da_cons (de_bin op2_pow de_int de_int) (da_cons (de_bin op2_sub de_int (de_bin op2_pow de_int de_int)) (da_cons (de_mk E_NoHalf T.e_NoHalf.at de_str) (da_cons (de_lst (da_cons de_str da_nil)) da_nil))))))))))))))))) (dss_one (ds_ret (de_ix (de_var (i := 1)) (de_call K__law_take (D__law_take.bp fun _ _ _ _ _ _ us hl => match us, hl with | [_, _], _ => rfl) (da_cons (de_var (i := 0)) (da_cons de_int da_nil))))))) hca⟩
noncomputable def g_Frac_top : FS := (sRet (e1 (fldD (2 : Nat) fnm "above") (eVar 0)))
noncomputable def F_Frac_top : FD := mkFn 1 1 g_Frac_top
theorem sc_Frac_top : FnScope ["self"] ["self"] (defScope s_Frac_top) := ⟨rfl, rfl, rfl, by decide +kernel, rfl, by decide +kernel, by decide +kernel⟩
theorem kn_Frac_top {W : Wd} (T : Txt W.toWk) (hca : W.ca = none) (hgs : W.gs = []) : ∃ f fd, MDfn W.toWk (0 : Nat) "top" "Frac.top" s_Frac_top f fd ∧ FnG W 1 f fd ["self"] F_Frac_top := by
  obtain ⟨f, fd, D⟩ := T.d_Frac_top
  exact ⟨f, fd, D, D.kn (N := ["self"]) (ps := ["self"]) (k := 0) (g := g_Frac_top) sc_Frac_top (dss_one (ds_ret (de_fld T.ob (de_var (i := 0))))) hca⟩
noncomputable def g__law_pair : FS := (sSeq (sSet 1 (e2 ixD (eN opLst [(eC (.int 1)), (eC (.int 3)), (e2 addD (e2 mulD (eC (.int 2)) (eCall F__law_take [(eVar 0), (eC (.int 50))])) (eC (.int 1))), (e2 addD (e2 mulD (eC (.int 2)) (eCall F__law_take [(eVar 0), (e2 powD (eC (.int 10)) (eC (.int 20)))])) (eC (.int 1)))]) (eCall F__law_take [(eVar 0), (eC (.int 4))]))) (sSeq (sSet 2 (e2 ixD (eN opLst [(e2 subD (eCall F__law_take [(eVar 0), (eC (.int 41))]) (eC (.int 20))), (eCall F__law_take [(eVar 0), (e2 powD (eC (.int 10)) (eC (.int 20)))]), (e2 subD (eC (.int 0)) (eCall F__law_take [(eVar 0), (e2 powD (eC (.int 10)) (eC (.int 9)))])), (eVar 1)]) (eCall F__law_take [(eVar 0), (eC (.int 4))]))) (sRet (eCall F__law_low [(eVar 2), (eVar 1)]))))
noncomputable def r__law_pair_2 : FS := (sRet (eCall F__law_low [(eVar 2), (eVar 1)]))
noncomputable def r__law_pair_1 : FS := sSeq (sSet 2 (e2 ixD (eN opLst [(e2 subD (eCall F__law_take [(eVar 0), (eC (.int 41))]) (eC (.int 20))), (eCall F__law_take [(eVar 0), (e2 powD (eC (.int 10)) (eC (.int 20)))]), (e2 subD (eC (.int 0)) (eCall F__law_take [(eVar 0), (e2 powD (eC (.int 10)) (eC (.int 9)))])), (eVar 1)]) (eCall F__law_take [(eVar 0), (eC (.int 4))]))) r__law_pair_2
theorem gr__law_pair : g__law_pair = sSeq (sSet 1 (e2 ixD (eN opLst [(eC (.int 1)), (eC (.int 3)), (e2 addD (e2 mulD (eC (.int 2)) (eCall F__law_take [(eVar 0), (eC (.int 50))])) (eC (.int 1))), (e2 addD (e2 mulD (eC (.int 2)) (eCall F__law_take [(eVar 0), (e2 powD (eC (.int 10)) (eC (.int 20)))])) (eC (.int 1)))]) (eCall F__law_take [(eVar 0), (eC (.int 4))]))) r__law_pair_1 := rfl
noncomputable def F__law_pair : FD := mkFn 1 3 g__law_pair
theorem sc__law_pair : FnScope ["box", "bottom", "top"] ["box"] (defScope s__law_pair) := ⟨rfl, rfl, rfl, by decide +kernel, rfl, by decide +kernel, by decide +kernel⟩
theorem kn__law_pair {W : Wd} (T : Txt W.toWk) (hca : W.ca = none) (hgs : W.gs = []) : ∃ f fd, Dfn W.toWk "_law_pair" s__law_pair f fd ∧ Kn W "_law_pair" 2 f fd ["box"] F__law_pair := by
  obtain ⟨f__law_low, fd__law_low, D__law_low, K__law_low⟩ := kn__law_low T hca hgs
  obtain ⟨f__law_take, fd__law_take, D__law_take, K__law_take⟩ := kn__law_take T hca hgs
  obtain ⟨f, fd, D⟩ := T.d__law_pair
  exact ⟨f, fd, D, D.kn (N := ["box", "bottom", "top"]) (ps := ["box"]) (k := 1) (g := g__law_pair) sc__law_pair (dss_cons (ds_set (i := 1) (de_ix (de_lst (da_cons de_int (da_cons de_int (da_cons (de_bin op2_add (de_bin op2_mul de_int (de_call K__law_take (D__law_take.bp fun _ _ _ _ _ _ us hl => match us, hl with | [_, _], _ => rfl) (da_cons (de_var (i := 0)) (da_cons de_int da_nil)))) de_int) (da_cons (de_bin op2_add (de_bin op2_mul de_int (de_call K__law_take (D__law_take.bp fun _ _ _ _ _ _ us hl => match us, hl with | [_, _], _ => rfl) (da_cons (de_var (i := 0)) (da_cons (de_bin op2_pow de_int de_int) da_nil)))) de_int) da_nil))))) (de_call K__law_take (D__law_take.bp fun _ _ _ _ _ _ us hl => match us, hl with | [_, _], _ => rfl) (da_cons (de_var (i := 0)) (da_cons de_int da_nil))))) (dss_cons (ds_set (i := 2) (de_ix (de_lst (da_cons (de_bin op2_sub (de_call K__law_take (D__law_take.bp fun _ _ _ _ _ _ us hl => match us, hl with | [_, _], _ => rfl) (da_cons (de_var (i := 0)) (da_cons de_int da_nil))) de_int) (da_cons (de_call K__law_take (D__law_take.bp fun _ _ _ _ _ _ us hl => match us, hl with | [_, _], _ => rfl) (da_cons (de_var (i := 0)) (da_cons (de_bin op2_pow de_int de_int) da_nil))) (da_cons (de_bin op2_sub de_int (de_call K__law_take (D__law_take.bp fun _ _ _ _ _ _ us hl => match us, hl with | [_, _], _ => rfl) (da_cons (de_var (i := 0)) (da_cons (de_bin op2_pow de_int de_int) da_nil)))) (da_cons (de_var (i := 1)) da_nil))))) (de_call K__law_take (D__law_take.bp fun _ _ _ _ _ _ us hl => match us, hl with | [_, _], _ => rfl) (da_cons (de_var (i := 0)) (da_cons de_int da_nil))))) (dss_one (ds_ret (de_call K__law_low (D__law_low.bp fun _ _ _ _ _ _ us hl => match us, hl with | [_, _], _ => rfl) (da_cons (de_var (i := 2)) (da_cons (de_var (i := 1)) da_nil))))))) hca⟩
noncomputable def g__law_other : FS := (sSeq (sPar [2, 3] [(eCall F__law_take [(eVar 0), (eN lenD [(eVar 1)])]), (eCall F__law_take [(eVar 0), (eC (.int 9))])]) (sSeq (sIf (e2 eqD (eVar 3) (eC (.int 0))) (sRet (eCall F__law_odd [(eVar 0)])) sNext) (sSeq (sIf (e2 eqD (eVar 3) (eC (.int 1))) (sRet (e2 addD (eSl (eVar 1) (some (eVar 2)) none) (eSl (eVar 1) none (some (eVar 2))))) sNext) (sSeq (sIf (e2 eqD (eVar 3) (eC (.int 2))) (sRet (e2 addD (eVar 1) (eVar 1))) sNext) (sSeq (sIf (e2 eqD (eVar 3) (eC (.int 3))) (sRet (e2 addD (eSl (eVar 1) none (some (eVar 2))) (eSl (eVar 1) (some (e2 addD (eVar 2) (eC (.int 1)))) none))) sNext) (sSeq (sIf (e2 eqD (eVar 3) (eC (.int 4))) (sRet (e2 addD (eSl (eVar 1) none (some (e2 addD (eVar 2) (eC (.int 1))))) (eSl (eVar 1) (some (eVar 2)) none))) sNext) (sSeq (sSet 4 (eCall F__law_pair [(eVar 0)])) (sSeq (sIf (e2 eqD (eVar 3) (eC (.int 5))) (sRet (e2 addD (e2 addD (eSl (eVar 1) none (some (eVar 2))) (eN opLst [(eMakeD fnm (0 : Nat) F_Frac___init__ [.p 0, .p 1, .p 2] [(e2 ixD (eVar 4) (eC (.int 0))), (e2 ixD (eVar 4) (eC (.int 1)))] [])])) (eSl (eVar 1) (some (e2 addD (eVar 2) (eC (.int 1)))) none))) sNext) (sSeq (sIf (e2 eqD (eVar 3) (eC (.int 6))) (sRet (e2 addD (e2 addD (eSl (eVar 1) none (some (eVar 2))) (eN opLst [(e2 ixD (eN opLst [(eCall F__law_odd [(eVar 0)]), (eMeth fnm (mOf [((0 : Nat), F_Frac_told), ((1 : Nat), F_Rule_told)]) (e2 ixD (eVar 1) (eVar 2)) []), (eMeth fnm (mOf [((0 : Nat), F_Frac_top)]) (e2 ixD (eVar 1) (eVar 2)) [])]) (eCall F__law_take [(eVar 0), (eC (.int 3))]))])) (eSl (eVar 1) (some (e2 addD (eVar 2) (eC (.int 1)))) none))) sNext) (sRet (eIf (e2 eqD (eVar 3) (eC (.int 7))) (eN tupleD [(eVar 1)]) (e2 mulD (eVar 1) (e2 divD (eC (.int 60)) (eN lenD [(eVar 1)]))))))))))))))
noncomputable def r__law_other_9 : FS := (sRet (eIf (e2 eqD (eVar 3) (eC (.int 7))) (eN tupleD [(eVar 1)]) (e2 mulD (eVar 1) (e2 divD (eC (.int 60)) (eN lenD [(eVar 1)])))))
noncomputable def r__law_other_8 : FS := sSeq (sIf (e2 eqD (eVar 3) (eC (.int 6))) (sRet (e2 addD (e2 addD (eSl (eVar 1) none (some (eVar 2))) (eN opLst [(e2 ixD (eN opLst [(eCall F__law_odd [(eVar 0)]), (eMeth fnm (mOf [((0 : Nat), F_Frac_told), ((1 : Nat), F_Rule_told)]) (e2 ixD (eVar 1) (eVar 2)) []), (eMeth fnm (mOf [((0 : Nat), F_Frac_top)]) (e2 ixD (eVar 1) (eVar 2)) [])]) (eCall F__law_take [(eVar 0), (eC (.int 3))]))])) (eSl (eVar 1) (some (e2 addD (eVar 2) (eC (.int 1)))) none))) sNext) r__law_other_9
noncomputable def r__law_other_7 : FS := sSeq (sIf (e2 eqD (eVar 3) (eC (.int 5))) (sRet (e2 addD (e2 addD (eSl (eVar 1) none (some (eVar 2))) (eN opLst [(eMakeD fnm (0 : Nat) F_Frac___init__ [.p 0, .p 1, .p 2] [(e2 ixD (eVar 4) (eC (.int 0))), (e2 ixD (eVar 4) (eC (.int 1)))] [])])) (eSl (eVar 1) (some (e2 addD (eVar 2) (eC (.int 1)))) none))) sNext) r__law_other_8
noncomputable def r__law_other_6 : FS := sSeq (sSet 4 (eCall F__law_pair [(eVar 0)])) r__law_other_7
noncomputable def r__law_other_5 : FS := sSeq (sIf (e2 eqD (eVar 3) (eC (.int 4))) (sRet (e2 addD (eSl (eVar 1) none (some (e2 addD (eVar 2) (eC (.int 1))))) (eSl (eVar 1) (some (eVar 2)) none))) sNext) r__law_other_6
noncomputable def r__law_other_4 : FS := sSeq (sIf (e2 eqD (eVar 3) (eC (.int 3))) (sRet (e2 addD (eSl (eVar 1) none (some (eVar 2))) (eSl (eVar 1) (some (e2 addD (eVar 2) (eC (.int 1)))) none))) sNext) r__law_other_5
noncomputable def r__law_other_3 : FS := sSeq (sIf (e2 eqD (eVar 3) (eC (.int 2))) (sRet (e2 addD (eVar 1) (eVar 1))) sNext) r__law_other_4
noncomputable def r__law_other_2 : FS := sSeq (sIf (e2 eqD (eVar 3) (eC (.int 1))) (sRet (e2 addD (eSl (eVar 1) (some (eVar 2)) none) (eSl (eVar 1) none (some (eVar 2))))) sNext) r__law_other_3
noncomputable def r__law_other_1 : FS := sSeq (sIf (e2 eqD (eVar 3) (eC (.int 0))) (sRet (eCall F__law_odd [(eVar 0)])) sNext) r__law_other_2
theorem gr__law_other : g__law_other = sSeq (sPar [2, 3] [(eCall F__law_take [(eVar 0), (eN lenD [(eVar 1)])]), (eCall F__law_take [(eVar 0), (eC (.int 9))])]) r__law_other_1 := rfl
noncomputable def F__law_other : FD := mkFn 2 5 g__law_other
theorem sc__law_other : FnScope ["box", "row", "at", "way", "pair"] ["box", "row"] (defScope s__law_other) := ⟨rfl, rfl, rfl, by decide +kernel, rfl, by decide +kernel, by decide +kernel⟩
theorem kn__law_other {W : Wd} (T : Txt W.toWk) (hca : W.ca = none) (hgs : W.gs = []) : ∃ f fd, Dfn W.toWk "_law_other" s__law_other f fd ∧ Kn W "_law_other" 6 f fd ["box", "row"] F__law_other := by
  obtain ⟨f_Frac___init__, fd_Frac___init__, D_Frac___init__, G_Frac___init__⟩ := kn_Frac___init__ T hca hgs
  obtain ⟨f_Frac_told, fd_Frac_told, D_Frac_told, G_Frac_told⟩ := kn_Frac_told T hca hgs
  obtain ⟨f_Frac_top, fd_Frac_top, D_Frac_top, G_Frac_top⟩ := kn_Frac_top T hca hgs
  obtain ⟨f_Rule_told, fd_Rule_told, D_Rule_told, G_Rule_told⟩ := kn_Rule_told T hca hgs
  obtain ⟨f__law_odd, fd__law_odd, D__law_odd, K__law_odd⟩ := kn__law_odd T hca hgs
  obtain ⟨f__law_pair, fd__law_pair, D__law_pair, K__law_pair⟩ := kn__law_pair T hca hgs
  obtain ⟨f__law_take, fd__law_take, D__law_take, K__law_take⟩ := kn__law_take T hca hgs
  have MT_told : MtF W 1 (2 : Nat) fnm "told" 0 (mOf [((0 : Nat), F_Frac_told), ((1 : Nat), F_Rule_told)]) := mt_of ⟨⟨by decide, by decide, (D_Frac_told.meth (np := 0) G_Frac_told fun _ _ _ _ _ _ us hl => match us, hl with | [_], _ => rfl).mono (by decide)⟩, ⟨by decide, by decide, (D_Rule_told.meth (np := 0) G_Rule_told fun _ _ _ _ _ _ us hl => match us, hl with | [_], _ => rfl).mono (by decide)⟩, trivial⟩
  have MT_top : MtF W 1 (2 : Nat) fnm "top" 0 (mOf [((0 : Nat), F_Frac_top)]) := mt_of ⟨⟨by decide, by decide, (D_Frac_top.meth (np := 0) G_Frac_top fun _ _ _ _ _ _ us hl => match us, hl with | [_], _ => rfl).mono (by decide)⟩, trivial⟩
  obtain ⟨f, fd, D⟩ := T.d__law_other
  exact ⟨f, fd, D, D.kn (N := ["box", "row", "at", "way", "pair"]) (ps := ["box", "row"]) (k := 5) (g := g__law_other) sc__law_other (dss_cons (ds_par (i := 2) (j := 3) rfl (da_cons (de_call K__law_take (D__law_take.bp fun _ _ _ _ _ _ us hl => match us, hl with | [_, _], _ => rfl) (da_cons (de_var (i := 0)) (da_cons (de_callB opn_len T.b_len boot_len (da_cons (de_var (i := 1)) da_nil)) da_nil))) (da_cons (de_call K__law_take (D__law_take.bp fun _ _ _ _ _ _ us hl => match us, hl with | [_, _], _ => rfl) (da_cons (de_var (i := 0)) (da_cons de_int da_nil))) da_nil))) (dss_cons (ds_if (dt_cmp op2_eq eqD_bl (de_var (i := 3)) de_int (by rfl)) (dss_one (ds_ret (de_call K__law_odd (D__law_odd.bp fun _ _ _ _ _ _ us hl => match us, hl with | [_], _ => rfl) (da_cons (de_var (i := 0)) da_nil)))) dss_nil) (dss_cons (ds_if (dt_cmp op2_eq eqD_bl (de_var (i := 3)) de_int (by rfl)) (dss_one (ds_ret (de_bin op2_add (de_sl (de_var (i := 1)) (dp_some (de_var (i := 2))) dp_none) (de_sl (de_var (i := 1)) dp_none (dp_some (de_var (i := 2))))))) dss_nil) (dss_cons (ds_if (dt_cmp op2_eq eqD_bl (de_var (i := 3)) de_int (by rfl)) (dss_one (ds_ret (de_bin op2_add (de_var (i := 1)) (de_var (i := 1))))) dss_nil) (dss_cons (ds_if (dt_cmp op2_eq eqD_bl (de_var (i := 3)) de_int (by rfl)) (dss_one (ds_ret (de_bin op2_add (de_sl (de_var (i := 1)) dp_none (dp_some (de_var (i := 2)))) (de_sl (de_var (i := 1)) (dp_some (de_bin op2_add (de_var (i := 2)) de_int)) dp_none)))) dss_nil) (dss_cons (ds_if (dt_cmp op2_eq eqD_bl (de_var (i := 3)) de_int (by rfl)) (dss_one (ds_ret (de_bin op2_add (de_sl (de_var (i := 1)) dp_none (dp_some (de_bin op2_add (de_var (i := 2)) de_int))) (de_sl (de_var (i := 1)) (dp_some (de_var (i := 2))) dp_none)))) dss_nil) (dss_cons (ds_set (i := 4) (de_call K__law_pair (D__law_pair.bp fun _ _ _ _ _ _ us hl => match us, hl with | [_], _ => rfl) (da_cons (de_var (i := 0)) da_nil))) (dss_cons (ds_if (dt_cmp op2_eq eqD_bl (de_var (i := 3)) de_int (by rfl)) (dss_one (ds_ret (de_bin op2_add (de_bin op2_add (de_sl (de_var (i := 1)) dp_none (dp_some (de_var (i := 2)))) (de_lst (da_cons (de_makeD (T.o_Frac.mkf D_Frac___init__.M G_Frac___init__) T.ob.nm (D_Frac___init__.bk (ks := []) (sh := [.p 0, .p 1, .p 2]) rfl rfl fun _ _ _ _ _ _ _ us ws its h1 h2 h3 => match us, h1, ws, h2, its, h3 with | [_, _, _], _, [], _, [_], _ => ⟨_, rfl, rfl⟩) (da_cons (de_ix (de_var (i := 4)) de_int) (da_cons (de_ix (de_var (i := 4)) de_int) da_nil)) dk_nil) da_nil))) (de_sl (de_var (i := 1)) (dp_some (de_bin op2_add (de_var (i := 2)) de_int)) dp_none)))) dss_nil) (dss_cons (ds_if (dt_cmp op2_eq eqD_bl (de_var (i := 3)) de_int (by rfl)) (dss_one (ds_ret (de_bin op2_add (de_bin op2_add (de_sl (de_var (i := 1)) dp_none (dp_some (de_var (i := 2)))) (de_lst (da_cons (de_ix (de_lst (da_cons (de_call K__law_odd (D__law_odd.bp fun _ _ _ _ _ _ us hl => match us, hl with | [_], _ => rfl) (da_cons (de_var (i := 0)) da_nil)) (da_cons (de_meth0 (k := 1) T.ob MT_told (de_ix (de_var (i := 1)) (de_var (i := 2)))) (da_cons (de_meth0 (k := 1) T.ob MT_top (de_ix (de_var (i := 1)) (de_var (i := 2)))) da_nil)))) (de_call K__law_take (D__law_take.bp fun _ _ _ _ _ _ us hl => match us, hl with | [_, _], _ => rfl) (da_cons (de_var (i := 0)) (da_cons de_int da_nil)))) da_nil))) (de_sl (de_var (i := 1)) (dp_some (de_bin op2_add (de_var (i := 2)) de_int)) dp_none)))) dss_nil) (dss_one (ds_ret (de_if (dt_cmp op2_eq eqD_bl (de_var (i := 3)) de_int (by rfl)) (de_callTy opn_tuple T.b_tuple boot_tuple (da_cons (de_var (i := 1)) da_nil)) (de_bin op2_mul (de_var (i := 1)) (de_bin op2_div de_int (de_callB opn_len T.b_len boot_len (da_cons (de_var (i := 1)) da_nil)))))))))))))))) hca⟩
noncomputable def g_Frac___eq__ : FS := (sSeq (sIf (eNot (eN (isiD tab) [(eVar 1), (eC (.cls (.own (0 : Nat))))])) (sRet (eC (.bl false))) sNext) (sRet (eAnd (e2 eqD (e1 (fldD (2 : Nat) fnm "above") (eVar 0)) (e1 (fldD (2 : Nat) fnm "above") (eVar 1))) (e2 eqD (e1 (fldD (2 : Nat) fnm "below") (eVar 0)) (e1 (fldD (2 : Nat) fnm "below") (eVar 1))))))
noncomputable def F_Frac___eq__ : FD := mkFn 2 2 g_Frac___eq__
theorem sc_Frac___eq__ : FnScope ["self", "other"] ["self", "other"] (defScope s_Frac___eq__) := ⟨rfl, rfl, rfl, by decide +kernel, rfl, by decide +kernel, by decide +kernel⟩
theorem kn_Frac___eq__ {W : Wd} (T : Txt W.toWk) (hca : W.ca = none) (hgs : W.gs = []) : ∃ f fd, MDfn W.toWk (0 : Nat) "__eq__" "Frac.__eq__" s_Frac___eq__ f fd ∧ FnG W 1 f fd ["self", "other"] F_Frac___eq__ := by
  obtain ⟨f, fd, D⟩ := T.d_Frac___eq__
  exact ⟨f, fd, D, D.kn (N := ["self", "other"]) (ps := ["self", "other"]) (k := 0) (g := g_Frac___eq__) sc_Frac___eq__ (dss_cons (ds_if (dt_not (dt_val (de_callB (opn_isi T.isi) T.b_isinstance boot_isinstance (da_cons (de_var (i := 1)) (da_cons (de_own T.o_Frac.at rfl) da_nil))))) (dss_one (ds_ret de_bl)) dss_nil) (dss_one (ds_ret (de_and (de_cmp op2_eq (de_fld T.ob (de_var (i := 0))) (de_fld T.ob (de_var (i := 1))) (by rfl)) (de_one (de_cmp op2_eq (de_fld T.ob (de_var (i := 0))) (de_fld T.ob (de_var (i := 1))) (by rfl))))))) hca⟩
noncomputable def g_Rule___eq__ : FS := (sSeq (sIf (eNot (eN (isiD tab) [(eVar 1), (eC (.cls (.own (1 : Nat))))])) (sRet (eC (.bl false))) sNext) (sRet (eAnd (e2 eqD (e1 (fldD (2 : Nat) fnm "times") (eVar 0)) (e1 (fldD (2 : Nat) fnm "times") (eVar 1))) (e2 eqD (e1 (fldD (2 : Nat) fnm "plus") (eVar 0)) (e1 (fldD (2 : Nat) fnm "plus") (eVar 1))))))
noncomputable def F_Rule___eq__ : FD := mkFn 2 2 g_Rule___eq__
theorem sc_Rule___eq__ : FnScope ["self", "other"] ["self", "other"] (defScope s_Rule___eq__) := ⟨rfl, rfl, rfl, by decide +kernel, rfl, by decide +kernel, by decide +kernel⟩
theorem kn_Rule___eq__ {W : Wd} (T : Txt W.toWk) (hca : W.ca = none) (hgs : W.gs = []) : ∃ f fd, MDfn W.toWk (1 : Nat) "__eq__" "Rule.__eq__" s_Rule___eq__ f fd ∧ FnG W 1 f fd ["self", "other"] F_Rule___eq__ := by
  obtain ⟨f, fd, D⟩ := T.d_Rule___eq__
  exact ⟨f, fd, D, D.kn (N := ["self", "other"]) (ps := ["self", "other"]) (k := 0) (g := g_Rule___eq__) sc_Rule___eq__ (dss_cons (ds_if (dt_not (dt_val (de_callB (opn_isi T.isi) T.b_isinstance boot_isinstance (da_cons (de_var (i := 1)) (da_cons (de_own T.o_Rule.at rfl) da_nil))))) (dss_one (ds_ret de_bl)) dss_nil) (dss_one (ds_ret (de_and (de_cmp op2_eq (de_fld T.ob (de_var (i := 0))) (de_fld T.ob (de_var (i := 1))) (by rfl)) (de_one (de_cmp op2_eq (de_fld T.ob (de_var (i := 0))) (de_fld T.ob (de_var (i := 1))) (by rfl))))))) hca⟩
noncomputable def g_need_rule : FS := (sIf (eNot (eN (isiD tab) [(eVar 0), (eC (.cls (.own (1 : Nat))))])) (sRaise (5 : Nat) (eVar 0)) sNext)
noncomputable def F_need_rule : FD := mkFn 1 1 g_need_rule
theorem sc_need_rule : FnScope ["thing"] ["thing"] (defScope s_need_rule) := ⟨rfl, rfl, rfl, by decide +kernel, rfl, by decide +kernel, by decide +kernel⟩
theorem kn_need_rule {W : Wd} (T : Txt W.toWk) (hca : W.ca = none) (hgs : W.gs = []) : ∃ f fd, Dfn W.toWk "need_rule" s_need_rule f fd ∧ Kn W "need_rule" 3 f fd ["thing"] F_need_rule := by
  obtain ⟨fi_NoRule, fj_NoRule, E_NoRule⟩ := ex_NoRule T
  obtain ⟨f, fd, D⟩ := T.d_need_rule
  exact ⟨f, fd, D, D.kn (N := ["thing"]) (ps := ["thing"]) (k := 2) (g := g_need_rule) sc_need_rule (dss_one (ds_if (dt_not (dt_val (de_callB (opn_isi T.isi) T.b_isinstance boot_isinstance (da_cons (de_var (i := 0)) (da_cons (de_own T.o_Rule.at rfl) da_nil))))) (dss_one (ds_raise E_NoRule T.e_NoRule.at (de_var (i := 0)))) dss_nil)) hca⟩
noncomputable def g_Frac_is_odd : FS := (sRet (e2 eqD (e2 modD (e1 (fldD (2 : Nat) fnm "above") (eVar 0)) (eC (.int 2))) (eC (.int 1))))
noncomputable def F_Frac_is_odd : FD := mkFn 1 1 g_Frac_is_odd
theorem sc_Frac_is_odd : FnScope ["self"] ["self"] (defScope s_Frac_is_odd) := ⟨rfl, rfl, rfl, by decide +kernel, rfl, by decide +kernel, by decide +kernel⟩
theorem kn_Frac_is_odd {W : Wd} (T : Txt W.toWk) (hca : W.ca = none) (hgs : W.gs = []) : ∃ f fd, MDfn W.toWk (0 : Nat) "is_odd" "Frac.is_odd" s_Frac_is_odd f fd ∧ FnG W 1 f fd ["self"] F_Frac_is_odd := by
  obtain ⟨f, fd, D⟩ := T.d_Frac_is_odd
  exact ⟨f, fd, D, D.kn (N := ["self"]) (ps := ["self"]) (k := 0) (g := g_Frac_is_odd) sc_Frac_is_odd (dss_one (ds_ret (de_cmp op2_eq (de_bin op2_mod (de_fld T.ob (de_var (i := 0))) de_int) de_int (by rfl)))) hca⟩
noncomputable def g_Frac_half : FS := (sSeq (sIf (eMeth fnm (mOf [((0 : Nat), F_Frac_is_odd)]) (eVar 0) []) (sRaise (4 : Nat) (eVar 0)) sNext) (sRet (eMakeD fnm (0 : Nat) F_Frac___init__ [.p 0, .p 1, .p 2] [(e2 divD (e1 (fldD (2 : Nat) fnm "above") (eVar 0)) (eC (.int 2))), (e1 (fldD (2 : Nat) fnm "below") (eVar 0))] [])))
noncomputable def F_Frac_half : FD := mkFn 1 1 g_Frac_half
theorem sc_Frac_half : FnScope ["self"] ["self"] (defScope s_Frac_half) := ⟨rfl, rfl, rfl, by decide +kernel, rfl, by decide +kernel, by decide +kernel⟩
theorem kn_Frac_half {W : Wd} (T : Txt W.toWk) (hca : W.ca = none) (hgs : W.gs = []) : ∃ f fd, MDfn W.toWk (0 : Nat) "half" "Frac.half" s_Frac_half f fd ∧ FnG W 6 f fd ["self"] F_Frac_half := by
  obtain ⟨f_Frac___init__, fd_Frac___init__, D_Frac___init__, G_Frac___init__⟩ := kn_Frac___init__ T hca hgs
  obtain ⟨f_Frac_is_odd, fd_Frac_is_odd, D_Frac_is_odd, G_Frac_is_odd⟩ := kn_Frac_is_odd T hca hgs
  obtain ⟨fi_NoHalf, fj_NoHalf, E_NoHalf⟩ := ex_NoHalf T
  have MT_is_odd : MtF W 1 (2 : Nat) fnm "is_odd" 0 (mOf [((0 : Nat), F_Frac_is_odd)]) := mt_of ⟨⟨by decide, by decide, (D_Frac_is_odd.meth (np := 0) G_Frac_is_odd fun _ _ _ _ _ _ us hl => match us, hl with | [_], _ => rfl).mono (by decide)⟩, trivial⟩
  obtain ⟨f, fd, D⟩ := T.d_Frac_half
  exact ⟨f, fd, D, D.kn (N := ["self"]) (ps := ["self"]) (k := 5) (g := g_Frac_half) sc_Frac_half (dss_cons (ds_if (dt_val (de_meth0 (k := 1) T.ob MT_is_odd (de_var (i := 0)))) (dss_one (ds_raise E_NoHalf T.e_NoHalf.at (de_var (i := 0)))) dss_nil) (dss_one (ds_ret (de_makeD (T.o_Frac.mkf D_Frac___init__.M G_Frac___init__) T.ob.nm (D_Frac___init__.bk (ks := []) (sh := [.p 0, .p 1, .p 2]) rfl rfl fun _ _ _ _ _ _ _ us ws its h1 h2 h3 => match us, h1, ws, h2, its, h3 with | [_, _, _], _, [], _, [_], _ => ⟨_, rfl, rfl⟩) (da_cons (de_bin op2_div (de_fld T.ob (de_var (i := 0))) de_int) (da_cons (de_fld T.ob (de_var (i := 0))) da_nil)) dk_nil)))) hca⟩
noncomputable def g_Frac_led : FS := (sSeq (sExp (eCall F_need_number [(eVar 1)])) (sSeq (sExp (eCall F_need_number [(eVar 2)])) (sRet (eMakeD fnm (0 : Nat) F_Frac___init__ [.p 0, .p 1, .p 2] [(e2 addD (e2 mulD (e1 (fldD (2 : Nat) fnm "above") (eVar 0)) (eVar 1)) (e2 mulD (e1 (fldD (2 : Nat) fnm "below") (eVar 0)) (eVar 2))), (e1 (fldD (2 : Nat) fnm "below") (eVar 0))] []))))
noncomputable def r_Frac_led_2 : FS := (sRet (eMakeD fnm (0 : Nat) F_Frac___init__ [.p 0, .p 1, .p 2] [(e2 addD (e2 mulD (e1 (fldD (2 : Nat) fnm "above") (eVar 0)) (eVar 1)) (e2 mulD (e1 (fldD (2 : Nat) fnm "below") (eVar 0)) (eVar 2))), (e1 (fldD (2 : Nat) fnm "below") (eVar 0))] []))
noncomputable def r_Frac_led_1 : FS := sSeq (sExp (eCall F_need_number [(eVar 2)])) r_Frac_led_2
theorem gr_Frac_led : g_Frac_led = sSeq (sExp (eCall F_need_number [(eVar 1)])) r_Frac_led_1 := rfl
noncomputable def F_Frac_led : FD := mkFn 3 3 g_Frac_led
theorem sc_Frac_led : FnScope ["self", "factor", "addend"] ["self", "factor", "addend"] (defScope s_Frac_led) := ⟨rfl, rfl, rfl, by decide +kernel, rfl, by decide +kernel, by decide +kernel⟩
theorem kn_Frac_led {W : Wd} (T : Txt W.toWk) (hca : W.ca = none) (hgs : W.gs = []) : ∃ f fd, MDfn W.toWk (0 : Nat) "led" "Frac.led" s_Frac_led f fd ∧ FnG W 6 f fd ["self", "factor", "addend"] F_Frac_led := by
  obtain ⟨f_Frac___init__, fd_Frac___init__, D_Frac___init__, G_Frac___init__⟩ := kn_Frac___init__ T hca hgs
  obtain ⟨f_need_number, fd_need_number, D_need_number, K_need_number⟩ := kn_need_number T hca hgs
  obtain ⟨f, fd, D⟩ := T.d_Frac_led
  exact ⟨f, fd, D, D.kn (N := ["self", "factor", "addend"]) (ps := ["self", "factor", "addend"]) (k := 5) (g := g_Frac_led) sc_Frac_led (dss_cons (ds_exp (de_call K_need_number (D_need_number.bp fun _ _ _ _ _ _ us hl => match us, hl with | [_], _ => rfl) (da_cons (de_var (i := 1)) da_nil))) (dss_cons (ds_exp (de_call K_need_number (D_need_number.bp fun _ _ _ _ _ _ us hl => match us, hl with | [_], _ => rfl) (da_cons (de_var (i := 2)) da_nil))) (dss_one (ds_ret (de_makeD (T.o_Frac.mkf D_Frac___init__.M G_Frac___init__) T.ob.nm (D_Frac___init__.bk (ks := []) (sh := [.p 0, .p 1, .p 2]) rfl rfl fun _ _ _ _ _ _ _ us ws its h1 h2 h3 => match us, h1, ws, h2, its, h3 with | [_, _, _], _, [], _, [_], _ => ⟨_, rfl, rfl⟩) (da_cons (de_bin op2_add (de_bin op2_mul (de_fld T.ob (de_var (i := 0))) (de_var (i := 1))) (de_bin op2_mul (de_fld T.ob (de_var (i := 0))) (de_var (i := 2)))) (da_cons (de_fld T.ob (de_var (i := 0))) da_nil)) dk_nil))))) hca⟩
noncomputable def g_Rule_addend : FS := (sRet (e1 (fldD (2 : Nat) fnm "plus") (eVar 0)))
noncomputable def F_Rule_addend : FD := mkFn 1 1 g_Rule_addend
theorem sc_Rule_addend : FnScope ["self"] ["self"] (defScope s_Rule_addend) := ⟨rfl, rfl, rfl, by decide +kernel, rfl, by decide +kernel, by decide +kernel⟩
theorem kn_Rule_addend {W : Wd} (T : Txt W.toWk) (hca : W.ca = none) (hgs : W.gs = []) : ∃ f fd, MDfn W.toWk (1 : Nat) "addend" "Rule.addend" s_Rule_addend f fd ∧ FnG W 1 f fd ["self"] F_Rule_addend := by
  obtain ⟨f, fd, D⟩ := T.d_Rule_addend
  exact ⟨f, fd, D, D.kn (N := ["self"]) (ps := ["self"]) (k := 0) (g := g_Rule_addend) sc_Rule_addend (dss_one (ds_ret (de_fld T.ob (de_var (i := 0))))) hca⟩
noncomputable def g_Rule_factor : FS := (sRet (e1 (fldD (2 : Nat) fnm "times") (eVar 0)))
noncomputable def F_Rule_factor : FD := mkFn 1 1 g_Rule_factor
theorem sc_Rule_factor : FnScope ["self"] ["self"] (defScope s_Rule_factor) := ⟨rfl, rfl, rfl, by decide +kernel, rfl, by decide +kernel, by decide +kernel⟩
theorem kn_Rule_factor {W : Wd} (T : Txt W.toWk) (hca : W.ca = none) (hgs : W.gs = []) : ∃ f fd, MDfn W.toWk (1 : Nat) "factor" "Rule.factor" s_Rule_factor f fd ∧ FnG W 1 f fd ["self"] F_Rule_factor := by
  obtain ⟨f, fd, D⟩ := T.d_Rule_factor
  exact ⟨f, fd, D, D.kn (N := ["self"]) (ps := ["self"]) (k := 0) (g := g_Rule_factor) sc_Rule_factor (dss_one (ds_ret (de_fld T.ob (de_var (i := 0))))) hca⟩
noncomputable def g_next_of : FS := (sSeq (sIf (eN (isiD tab) [(eVar 1), (eC (.cls (.own (0 : Nat))))]) (sRet (eMeth fnm (mOf [((0 : Nat), F_Frac_half)]) (eIf (eMeth fnm (mOf [((0 : Nat), F_Frac_is_odd)]) (eVar 1) []) (eMeth fnm (mOf [((0 : Nat), F_Frac_led)]) (eVar 1) [(eMeth fnm (mOf [((1 : Nat), F_Rule_factor)]) (eVar 0) []), (eMeth fnm (mOf [((1 : Nat), F_Rule_addend)]) (eVar 0) [])]) (eVar 1)) [])) sNext) (sRet (eIf (e2 eqD (e2 modD (eVar 1) (eC (.int 2))) (eC (.int 1))) (e2 divD (e2 addD (e2 mulD (eMeth fnm (mOf [((1 : Nat), F_Rule_factor)]) (eVar 0) []) (eVar 1)) (eMeth fnm (mOf [((1 : Nat), F_Rule_addend)]) (eVar 0) [])) (eC (.int 2))) (e2 divD (eVar 1) (eC (.int 2))))))
noncomputable def F_next_of : FD := mkFn 2 2 g_next_of
theorem sc_next_of : FnScope ["rule", "number"] ["rule", "number"] (defScope s_next_of) := ⟨rfl, rfl, rfl, by decide +kernel, rfl, by decide +kernel, by decide +kernel⟩
theorem kn_next_of {W : Wd} (T : Txt W.toWk) (hca : W.ca = none) (hgs : W.gs = []) : ∃ f fd, Dfn W.toWk "next_of" s_next_of f fd ∧ Kn W "next_of" 7 f fd ["rule", "number"] F_next_of := by
  obtain ⟨f_Frac_half, fd_Frac_half, D_Frac_half, G_Frac_half⟩ := kn_Frac_half T hca hgs
  obtain ⟨f_Frac_is_odd, fd_Frac_is_odd, D_Frac_is_odd, G_Frac_is_odd⟩ := kn_Frac_is_odd T hca hgs
  obtain ⟨f_Frac_led, fd_Frac_led, D_Frac_led, G_Frac_led⟩ := kn_Frac_led T hca hgs
  obtain ⟨f_Rule_addend, fd_Rule_addend, D_Rule_addend, G_Rule_addend⟩ := kn_Rule_addend T hca hgs
  obtain ⟨f_Rule_factor, fd_Rule_factor, D_Rule_factor, G_Rule_factor⟩ := kn_Rule_factor T hca hgs
  have MT_addend : MtF W 1 (2 : Nat) fnm "addend" 0 (mOf [((1 : Nat), F_Rule_addend)]) := mt_of ⟨⟨by decide, by decide, (D_Rule_addend.meth (np := 0) G_Rule_addend fun _ _ _ _ _ _ us hl => match us, hl with | [_], _ => rfl).mono (by decide)⟩, trivial⟩
  have MT_factor : MtF W 1 (2 : Nat) fnm "factor" 0 (mOf [((1 : Nat), F_Rule_factor)]) := mt_of ⟨⟨by decide, by decide, (D_Rule_factor.meth (np := 0) G_Rule_factor fun _ _ _ _ _ _ us hl => match us, hl with | [_], _ => rfl).mono (by decide)⟩, trivial⟩
  have MT_half : MtF W 6 (2 : Nat) fnm "half" 0 (mOf [((0 : Nat), F_Frac_half)]) := mt_of ⟨⟨by decide, by decide, (D_Frac_half.meth (np := 0) G_Frac_half fun _ _ _ _ _ _ us hl => match us, hl with | [_], _ => rfl).mono (by decide)⟩, trivial⟩
  have MT_is_odd : MtF W 1 (2 : Nat) fnm "is_odd" 0 (mOf [((0 : Nat), F_Frac_is_odd)]) := mt_of ⟨⟨by decide, by decide, (D_Frac_is_odd.meth (np := 0) G_Frac_is_odd fun _ _ _ _ _ _ us hl => match us, hl with | [_], _ => rfl).mono (by decide)⟩, trivial⟩
  have MT_led : MtF W 6 (2 : Nat) fnm "led" 2 (mOf [((0 : Nat), F_Frac_led)]) := mt_of ⟨⟨by decide, by decide, (D_Frac_led.meth (np := 2) G_Frac_led fun _ _ _ _ _ _ us hl => match us, hl with | [_, _, _], _ => rfl).mono (by decide)⟩, trivial⟩
  obtain ⟨f, fd, D⟩ := T.d_next_of
  exact ⟨f, fd, D, D.kn (N := ["rule", "number"]) (ps := ["rule", "number"]) (k := 6) (g := g_next_of) sc_next_of (dss_cons (ds_if (dt_val (de_callB (opn_isi T.isi) T.b_isinstance boot_isinstance (da_cons (de_var (i := 1)) (da_cons (de_own T.o_Frac.at rfl) da_nil)))) (dss_one (ds_ret (de_meth0 (k := 6) T.ob MT_half (de_if (dt_val (de_meth0 (k := 1) T.ob MT_is_odd (de_var (i := 1)))) (de_meth (k := 6) T.ob MT_led (de_var (i := 1)) (da_cons (de_meth0 (k := 1) T.ob MT_factor (de_var (i := 0))) (da_cons (de_meth0 (k := 1) T.ob MT_addend (de_var (i := 0))) da_nil))) (de_var (i := 1)))))) dss_nil) (dss_one (ds_ret (de_if (dt_cmp op2_eq eqD_bl (de_bin op2_mod (de_var (i := 1)) de_int) de_int (by rfl)) (de_bin op2_div (de_bin op2_add (de_bin op2_mul (de_meth0 (k := 1) T.ob MT_factor (de_var (i := 0))) (de_var (i := 1))) (de_meth0 (k := 1) T.ob MT_addend (de_var (i := 0)))) de_int) (de_bin op2_div (de_var (i := 1)) de_int))))) hca⟩
noncomputable def g_is_round : FS := (sSeq (sExp (eCall F_need_rule [(eVar 0)])) (sSeq (sIf (eOr (eNot (eN (isiD tab) [(eVar 1), (eN opTup [(eC (.cls (.bi .lst))), (eC (.cls (.bi .tup)))])])) (eNot (eChain leD leD (eC (.int 1)) (eN lenD [(eVar 1)]) (eC (.int 60))))) (sRet (eC (.bl false))) sNext) (sSeq (sIf (eNot (eN allD [(eLcW [2] (iAny (eVar 1)) (gN 2) tTrue (eN (isiD tab) [(eVar 2), (eC (.cls (.own (0 : Nat))))]))])) (sRet (eC (.bl false))) sNext) (sRet (eN allD [(eLcW [3, 2] (iEnuQ [(eVar 1)]) (gT [(gN 3), (gN 2)]) tTrue (e2 (eqMD (2 : Nat) exq (mOf [((0 : Nat), F_Frac___eq__), ((1 : Nat), F_Rule___eq__)])) (eCall F_next_of [(eVar 0), (eVar 2)]) (e2 ixD (eVar 1) (e2 modD (e2 addD (eVar 3) (eC (.int 1))) (eN lenD [(eVar 1)])))))])))))
noncomputable def r_is_round_3 : FS := (sRet (eN allD [(eLcW [3, 2] (iEnuQ [(eVar 1)]) (gT [(gN 3), (gN 2)]) tTrue (e2 (eqMD (2 : Nat) exq (mOf [((0 : Nat), F_Frac___eq__), ((1 : Nat), F_Rule___eq__)])) (eCall F_next_of [(eVar 0), (eVar 2)]) (e2 ixD (eVar 1) (e2 modD (e2 addD (eVar 3) (eC (.int 1))) (eN lenD [(eVar 1)])))))]))
noncomputable def r_is_round_2 : FS := sSeq (sIf (eNot (eN allD [(eLcW [2] (iAny (eVar 1)) (gN 2) tTrue (eN (isiD tab) [(eVar 2), (eC (.cls (.own (0 : Nat))))]))])) (sRet (eC (.bl false))) sNext) r_is_round_3
noncomputable def r_is_round_1 : FS := sSeq (sIf (eOr (eNot (eN (isiD tab) [(eVar 1), (eN opTup [(eC (.cls (.bi .lst))), (eC (.cls (.bi .tup)))])])) (eNot (eChain leD leD (eC (.int 1)) (eN lenD [(eVar 1)]) (eC (.int 60))))) (sRet (eC (.bl false))) sNext) r_is_round_2
theorem gr_is_round : g_is_round = sSeq (sExp (eCall F_need_rule [(eVar 0)])) r_is_round_1 := rfl
noncomputable def F_is_round : FD := mkFn 2 4 g_is_round
theorem sc_is_round : FnScope ["rule", "thing", "one", "at"] ["rule", "thing"] (defScope s_is_round) := ⟨rfl, rfl, rfl, by decide +kernel, rfl, by decide +kernel, by decide +kernel⟩
theorem kn_is_round {W : Wd} (T : Txt W.toWk) (hca : W.ca = none) (hgs : W.gs = []) : ∃ f fd, Dfn W.toWk "is_round" s_is_round f fd ∧ Kn W "is_round" 8 f fd ["rule", "thing"] F_is_round := by
  obtain ⟨f_Frac___eq__, fd_Frac___eq__, D_Frac___eq__, G_Frac___eq__⟩ := kn_Frac___eq__ T hca hgs
  obtain ⟨f_Rule___eq__, fd_Rule___eq__, D_Rule___eq__, G_Rule___eq__⟩ := kn_Rule___eq__ T hca hgs
  obtain ⟨f_need_rule, fd_need_rule, D_need_rule, K_need_rule⟩ := kn_need_rule T hca hgs
  obtain ⟨f_next_of, fd_next_of, D_next_of, K_next_of⟩ := kn_next_of T hca hgs
  obtain ⟨t_MOST_ROUND, c_MOST_ROUND⟩ := T.c_MOST_ROUND
  have MT___eq__ : MtF W 1 (2 : Nat) fnm "__eq__" 1 (mOf [((0 : Nat), F_Frac___eq__), ((1 : Nat), F_Rule___eq__)]) := mt_of ⟨⟨by decide, by decide, (D_Frac___eq__.meth (np := 1) G_Frac___eq__ fun _ _ _ _ _ _ us hl => match us, hl with | [_, _], _ => rfl).mono (by decide)⟩, ⟨by decide, by decide, (D_Rule___eq__.meth (np := 1) G_Rule___eq__ fun _ _ _ _ _ _ us hl => match us, hl with | [_, _], _ => rfl).mono (by decide)⟩, trivial⟩
  obtain ⟨f, fd, D⟩ := T.d_is_round
  exact ⟨f, fd, D, D.kn (N := ["rule", "thing", "one", "at"]) (ps := ["rule", "thing"]) (k := 7) (g := g_is_round) sc_is_round (dss_cons (ds_exp (de_call K_need_rule (D_need_rule.bp fun _ _ _ _ _ _ us hl => match us, hl with | [_], _ => rfl) (da_cons (de_var (i := 0)) da_nil))) (dss_cons (ds_if (dt_w (dw_or (dt_not (dt_val (de_callB (opn_isi T.isi) T.b_isinstance boot_isinstance (da_cons (de_var (i := 1)) (da_cons (de_tup (da_cons (de_ty (T := .lst) T.b_list boot_list) (da_cons (de_ty (T := .tup) T.b_tuple boot_tuple) da_nil))) da_nil))))) (dw_or1 (dt_not (dt_chain op2_le op2_le cmpI_bl de_int (de_callB opn_len T.b_len boot_len (da_cons (de_var (i := 1)) da_nil)) (de_glob (d := .int 60) (v := .int 60) c_MOST_ROUND ⟨_, rfl⟩ (fun _ _ => rfl))))))) (dss_one (ds_ret de_bl)) dss_nil) (dss_cons (ds_if (dt_not (dt_val (de_callB (opn_all rfl) T.b_all boot_all (da_cons (de_lcW (own := [("one", 2)]) (di_any (de_var (i := 1))) (dg_n (i := 2)) .none (de_callB (opn_isi T.isi) T.b_isinstance boot_isinstance (da_cons (de_var (i := 2)) (da_cons (de_own T.o_Frac.at rfl) da_nil))) (fun _ => blkOk_by (by decide +kernel))) da_nil)))) (dss_one (ds_ret de_bl)) dss_nil) (dss_one (ds_ret (de_callB (opn_all rfl) T.b_all boot_all (da_cons (de_lcW (own := [("at", 3), ("one", 2)]) (di_enuQ (da_cons (de_var (i := 1)) da_nil) T.b_enumerate) (dg_t rfl (dgs_cons (dg_n (i := 3)) (dgs_cons (dg_n (i := 2)) dgs_nil))) .none (de_cmp (op2_eqM (k := 1) (eqT_of T.ob MT___eq__ T.eqc)) (de_call K_next_of (D_next_of.bp fun _ _ _ _ _ _ us hl => match us, hl with | [_, _], _ => rfl) (da_cons (de_var (i := 0)) (da_cons (de_var (i := 2)) da_nil))) (de_ix (de_var (i := 1)) (de_bin op2_mod (de_bin op2_add (de_var (i := 3)) de_int) (de_callB opn_len T.b_len boot_len (da_cons (de_var (i := 1)) da_nil)))) (by rfl)) (fun _ => blkOk_by (by decide +kernel))) da_nil))))))) hca⟩
noncomputable def g__law_refused : FS := (sSeq (sSet 1 (eC .non)) (sSeq (sTry exT (sSet 1 (eN opTup [(eC (.str "told")), (eCall F_is_round [(eVar 0), (eN opLst [])])])) [⟨(5 : Nat), some 2, (sSet 1 (eN opTup [(eC (.str "rule")), (e1 foundD (eVar 2))]))⟩, ⟨(7 : Nat), none, (sSet 1 (eN opTup [(eC (.str "other")), (eC .non)]))⟩]) (sRet (eVar 1))))
noncomputable def r__law_refused_2 : FS := (sRet (eVar 1))
noncomputable def r__law_refused_1 : FS := sSeq (sTry exT (sSet 1 (eN opTup [(eC (.str "told")), (eCall F_is_round [(eVar 0), (eN opLst [])])])) [⟨(5 : Nat), some 2, (sSet 1 (eN opTup [(eC (.str "rule")), (e1 foundD (eVar 2))]))⟩, ⟨(7 : Nat), none, (sSet 1 (eN opTup [(eC (.str "other")), (eC .non)]))⟩]) r__law_refused_2
theorem gr__law_refused : g__law_refused = sSeq (sSet 1 (eC .non)) r__law_refused_1 := rfl
noncomputable def F__law_refused : FD := mkFn 1 3 g__law_refused
theorem sc__law_refused : FnScope ["thing", "found", "e"] ["thing"] (defScope s__law_refused) := ⟨rfl, rfl, rfl, by decide +kernel, rfl, by decide +kernel, by decide +kernel⟩
theorem kn__law_refused {W : Wd} (T : Txt W.toWk) (hca : W.ca = none) (hgs : W.gs = []) : ∃ f fd, Dfn W.toWk "_law_refused" s__law_refused f fd ∧ Kn W "_law_refused" 9 f fd ["thing"] F__law_refused := by
  obtain ⟨f_is_round, fd_is_round, D_is_round, K_is_round⟩ := kn_is_round T hca hgs
  obtain ⟨f, fd, D⟩ := T.d__law_refused
  exact ⟨f, fd, D, D.kn (N := ["thing", "found", "e"]) (ps := ["thing"]) (k := 8) (g := g__law_refused) sc__law_refused (dss_cons (ds_set (i := 1) de_non) (dss_cons (ds_try (dss_one (ds_set (i := 1) (de_tup (da_cons de_str (da_cons (de_call K_is_round (D_is_round.bp fun _ _ _ _ _ _ us hl => match us, hl with | [_, _], _ => rfl) (da_cons (de_var (i := 0)) (da_cons (de_lst da_nil) da_nil))) da_nil))))) (.named (i := 2) T.e_NoRule.at (fun z => (dss_one (ds_set (i := 1) (de_tup (da_cons de_str (da_cons (de_caught (de_var (i := 2))) da_nil)))))) (.bare T.a_HailError (dss_one (ds_set (i := 1) (de_tup (da_cons de_str (da_cons de_non da_nil))))) .nil)) T.ex hca) (dss_one (ds_ret (de_var (i := 1)))))) hca⟩
noncomputable def g__law_rule : FS := (sSeq (sSet 1 (e2 ixD (eN opLst [(eC (.int 3)), (eC (.int 1)), (eC (.int 5)), (eC (.int 7)), (eC (.int 99)), (e2 addD (eC (.int 1)) (e2 mulD (eC (.int 2)) (eCall F__law_take [(eVar 0), (eC (.int 50))])))]) (eCall F__law_take [(eVar 0), (eC (.int 6))]))) (sRet (eN opTup [(eVar 1), (e2 ixD (eN opLst [(eC (.int 1)), (e1 negD (eC (.int 1))), (eC (.int 99)), (e1 negD (eC (.int 99))), (e2 subD (e2 mulD (eC (.int 2)) (eCall F__law_take [(eVar 0), (eC (.int 100))])) (eC (.int 99))), (eC (.int 5))]) (eCall F__law_take [(eVar 0), (eC (.int 6))]))])))
noncomputable def F__law_rule : FD := mkFn 1 2 g__law_rule
theorem sc__law_rule : FnScope ["box", "factor"] ["box"] (defScope s__law_rule) := ⟨rfl, rfl, rfl, by decide +kernel, rfl, by decide +kernel, by decide +kernel⟩
theorem kn__law_rule {W : Wd} (T : Txt W.toWk) (hca : W.ca = none) (hgs : W.gs = []) : ∃ f fd, Dfn W.toWk "_law_rule" s__law_rule f fd ∧ Kn W "_law_rule" 2 f fd ["box"] F__law_rule := by
  obtain ⟨f__law_take, fd__law_take, D__law_take, K__law_take⟩ := kn__law_take T hca hgs
  obtain ⟨f, fd, D⟩ := T.d__law_rule
  exact ⟨f, fd, D, D.kn (N := ["box", "factor"]) (ps := ["box"]) (k := 1) (g := g__law_rule) sc__law_rule (dss_cons (ds_set (i := 1) (de_ix (de_lst (da_cons de_int (da_cons de_int (da_cons de_int (da_cons de_int (da_cons de_int (da_cons (de_bin op2_add de_int (de_bin op2_mul de_int (de_call K__law_take (D__law_take.bp fun _ _ _ _ _ _ us hl => match us, hl with | [_, _], _ => rfl) (da_cons (de_var (i := 0)) (da_cons de_int da_nil))))) da_nil))))))) (de_call K__law_take (D__law_take.bp fun _ _ _ _ _ _ us hl => match us, hl with | [_, _], _ => rfl) (da_cons (de_var (i := 0)) (da_cons de_int da_nil))))) (dss_one (ds_ret (de_tup (da_cons (de_var (i := 1)) (da_cons (de_ix (de_lst (da_cons de_int (da_cons (de_un op1_neg de_int) (da_cons de_int (da_cons (de_un op1_neg de_int) (da_cons (de_bin op2_sub (de_bin op2_mul de_int (de_call K__law_take (D__law_take.bp fun _ _ _ _ _ _ us hl => match us, hl with | [_, _], _ => rfl) (da_cons (de_var (i := 0)) (da_cons de_int da_nil)))) de_int) (da_cons de_int da_nil))))))) (de_call K__law_take (D__law_take.bp fun _ _ _ _ _ _ us hl => match us, hl with | [_, _], _ => rfl) (da_cons (de_var (i := 0)) (da_cons de_int da_nil)))) da_nil)))))) hca⟩
noncomputable def g__law_word : FS := (sSeq (sSet 2 (e2 ixD (eN opLst [(eCall F__law_take [(eVar 0), (e2 addD (eVar 1) (eC (.int 1)))]), (eCall F__law_take [(eVar 0), (eN minXD [(eC (.int 6)), (e2 addD (eVar 1) (eC (.int 1)))])]), (eVar 1)]) (eCall F__law_take [(eVar 0), (eC (.int 3))]))) (sSeq (sPar [3, 4] [(eCall F__law_take [(eVar 0), (eC (.int 6))]), (eC (.str ""))]) (sSeq (sFor (iRange1 [(eVar 2)]) (gN 5) (sSeq (sSet 6 (e2 ixD (eC (.str "eo")) (eCall F__law_take [(eVar 0), (eC (.int 2))]))) (sSet 4 (e2 addD (eVar 4) (e2 ixD (eN opLst [(eC (.str "e")), (eC (.str "o")), (e2 ixD (eC (.str "eo")) (e2 modD (eVar 5) (eC (.int 2)))), (e2 ixD (eC (.str "oe")) (e2 modD (eVar 5) (eC (.int 2)))), (eVar 6), (eVar 6)]) (eVar 3)))))) (sRet (eVar 4)))))
noncomputable def r__law_word_3 : FS := (sRet (eVar 4))
noncomputable def r__law_word_2 : FS := sSeq (sFor (iRange1 [(eVar 2)]) (gN 5) (sSeq (sSet 6 (e2 ixD (eC (.str "eo")) (eCall F__law_take [(eVar 0), (eC (.int 2))]))) (sSet 4 (e2 addD (eVar 4) (e2 ixD (eN opLst [(eC (.str "e")), (eC (.str "o")), (e2 ixD (eC (.str "eo")) (e2 modD (eVar 5) (eC (.int 2)))), (e2 ixD (eC (.str "oe")) (e2 modD (eVar 5) (eC (.int 2)))), (eVar 6), (eVar 6)]) (eVar 3)))))) r__law_word_3
noncomputable def r__law_word_1 : FS := sSeq (sPar [3, 4] [(eCall F__law_take [(eVar 0), (eC (.int 6))]), (eC (.str ""))]) r__law_word_2
theorem gr__law_word : g__law_word = sSeq (sSet 2 (e2 ixD (eN opLst [(eCall F__law_take [(eVar 0), (e2 addD (eVar 1) (eC (.int 1)))]), (eCall F__law_take [(eVar 0), (eN minXD [(eC (.int 6)), (e2 addD (eVar 1) (eC (.int 1)))])]), (eVar 1)]) (eCall F__law_take [(eVar 0), (eC (.int 3))]))) r__law_word_1 := rfl
noncomputable def F__law_word : FD := mkFn 2 7 g__law_word
theorem sc__law_word : FnScope ["box", "most", "many", "way", "found", "k", "sign"] ["box", "most"] (defScope s__law_word) := ⟨rfl, rfl, rfl, by decide +kernel, rfl, by decide +kernel, by decide +kernel⟩
theorem kn__law_word {W : Wd} (T : Txt W.toWk) (hca : W.ca = none) (hgs : W.gs = []) : ∃ f fd, Dfn W.toWk "_law_word" s__law_word f fd ∧ Kn W "_law_word" 2 f fd ["box", "most"] F__law_word := by
  obtain ⟨f__law_take, fd__law_take, D__law_take, K__law_take⟩ := kn__law_take T hca hgs
  obtain ⟨f, fd, D⟩ := T.d__law_word
  exact ⟨f, fd, D, D.kn (N := ["box", "most", "many", "way", "found", "k", "sign"]) (ps := ["box", "most"]) (k := 1) (g := g__law_word) sc__law_word (dss_cons (ds_set (i := 2) (de_ix (de_lst (da_cons (de_call K__law_take (D__law_take.bp fun _ _ _ _ _ _ us hl => match us, hl with | [_, _], _ => rfl) (da_cons (de_var (i := 0)) (da_cons (de_bin op2_add (de_var (i := 1)) de_int) da_nil))) (da_cons (de_call K__law_take (D__law_take.bp fun _ _ _ _ _ _ us hl => match us, hl with | [_, _], _ => rfl) (da_cons (de_var (i := 0)) (da_cons (de_callB (opn_minX rfl) T.b_min boot_min (da_cons de_int (da_cons (de_bin op2_add (de_var (i := 1)) de_int) da_nil))) da_nil))) (da_cons (de_var (i := 1)) da_nil)))) (de_call K__law_take (D__law_take.bp fun _ _ _ _ _ _ us hl => match us, hl with | [_, _], _ => rfl) (da_cons (de_var (i := 0)) (da_cons de_int da_nil))))) (dss_cons (ds_par (i := 3) (j := 4) rfl (da_cons (de_call K__law_take (D__law_take.bp fun _ _ _ _ _ _ us hl => match us, hl with | [_, _], _ => rfl) (da_cons (de_var (i := 0)) (da_cons de_int da_nil))) (da_cons de_str da_nil))) (dss_cons (ds_for (di_rng1 (da_cons (de_var (i := 2)) da_nil) T.b_range) (dg_n (i := 5)) (dss_cons (ds_set (i := 6) (de_ix de_str (de_call K__law_take (D__law_take.bp fun _ _ _ _ _ _ us hl => match us, hl with | [_, _], _ => rfl) (da_cons (de_var (i := 0)) (da_cons de_int da_nil))))) (dss_one (ds_set (i := 4) (de_bin op2_add (de_var (i := 4)) (de_ix (de_lst (da_cons de_str (da_cons de_str (da_cons (de_ix de_str (de_bin op2_mod (de_var (i := 5)) de_int)) (da_cons (de_ix de_str (de_bin op2_mod (de_var (i := 5)) de_int)) (da_cons (de_var (i := 6)) (da_cons (de_var (i := 6)) da_nil))))))) (de_var (i := 3)))))))) (dss_one (ds_ret (de_var (i := 4))))))) hca⟩
noncomputable def g_led_by : FS := (sSeq (sAsg (gT [(gN 2), (gN 3), (gN 4)]) (eN opTup [(eC (.int 1)), (eC (.int 0)), (eC (.int 1))])) (sSeq (sFor (iAny (eVar 1)) (gN 5) (sSeq (sIf (e2 eqD (eVar 5) (eC (.str "o"))) (sPar [2, 3] [(e2 mulD (eVar 2) (eMeth fnm (mOf [((1 : Nat), F_Rule_factor)]) (eVar 0) [])), (e2 addD (e2 mulD (eVar 3) (eMeth fnm (mOf [((1 : Nat), F_Rule_factor)]) (eVar 0) [])) (e2 mulD (eMeth fnm (mOf [((1 : Nat), F_Rule_addend)]) (eVar 0) []) (eVar 4)))]) sNext) (sSet 4 (e2 mulD (eVar 4) (eC (.int 2)))))) (sRet (eN opTup [(eVar 2), (eVar 3), (eVar 4)]))))
noncomputable def r_led_by_2 : FS := (sRet (eN opTup [(eVar 2), (eVar 3), (eVar 4)]))
noncomputable def r_led_by_1 : FS := sSeq (sFor (iAny (eVar 1)) (gN 5) (sSeq (sIf (e2 eqD (eVar 5) (eC (.str "o"))) (sPar [2, 3] [(e2 mulD (eVar 2) (eMeth fnm (mOf [((1 : Nat), F_Rule_factor)]) (eVar 0) [])), (e2 addD (e2 mulD (eVar 3) (eMeth fnm (mOf [((1 : Nat), F_Rule_factor)]) (eVar 0) [])) (e2 mulD (eMeth fnm (mOf [((1 : Nat), F_Rule_addend)]) (eVar 0) []) (eVar 4)))]) sNext) (sSet 4 (e2 mulD (eVar 4) (eC (.int 2)))))) r_led_by_2
theorem gr_led_by : g_led_by = sSeq (sAsg (gT [(gN 2), (gN 3), (gN 4)]) (eN opTup [(eC (.int 1)), (eC (.int 0)), (eC (.int 1))])) r_led_by_1 := rfl
noncomputable def F_led_by : FD := mkFn 2 6 g_led_by
theorem sc_led_by : FnScope ["rule", "word", "times", "plus", "size", "sign"] ["rule", "word"] (defScope s_led_by) := ⟨rfl, rfl, rfl, by decide +kernel, rfl, by decide +kernel, by decide +kernel⟩
theorem kn_led_by {W : Wd} (T : Txt W.toWk) (hca : W.ca = none) (hgs : W.gs = []) : ∃ f fd, Dfn W.toWk "led_by" s_led_by f fd ∧ Kn W "led_by" 2 f fd ["rule", "word"] F_led_by := by
  obtain ⟨f_Rule_addend, fd_Rule_addend, D_Rule_addend, G_Rule_addend⟩ := kn_Rule_addend T hca hgs
  obtain ⟨f_Rule_factor, fd_Rule_factor, D_Rule_factor, G_Rule_factor⟩ := kn_Rule_factor T hca hgs
  have MT_addend : MtF W 1 (2 : Nat) fnm "addend" 0 (mOf [((1 : Nat), F_Rule_addend)]) := mt_of ⟨⟨by decide, by decide, (D_Rule_addend.meth (np := 0) G_Rule_addend fun _ _ _ _ _ _ us hl => match us, hl with | [_], _ => rfl).mono (by decide)⟩, trivial⟩
  have MT_factor : MtF W 1 (2 : Nat) fnm "factor" 0 (mOf [((1 : Nat), F_Rule_factor)]) := mt_of ⟨⟨by decide, by decide, (D_Rule_factor.meth (np := 0) G_Rule_factor fun _ _ _ _ _ _ us hl => match us, hl with | [_], _ => rfl).mono (by decide)⟩, trivial⟩
  obtain ⟨f, fd, D⟩ := T.d_led_by
  exact ⟨f, fd, D, D.kn (N := ["rule", "word", "times", "plus", "size", "sign"]) (ps := ["rule", "word"]) (k := 1) (g := g_led_by) sc_led_by (dss_cons (ds_asg (de_tup (da_cons de_int (da_cons de_int (da_cons de_int da_nil)))) (dg_t rfl (dgs_cons (dg_n (i := 2)) (dgs_cons (dg_n (i := 3)) (dgs_cons (dg_n (i := 4)) dgs_nil)))) (hw := fun R F => by unfold swappedStores Env.kindOf Env.blockKind; simp only [F.scp rfl]; rfl)) (dss_cons (ds_for (di_any (de_var (i := 1))) (dg_n (i := 5)) (dss_cons (ds_if (dt_cmp op2_eq eqD_bl (de_var (i := 5)) de_str (by rfl)) (dss_one (ds_par (i := 2) (j := 3) rfl (da_cons (de_bin op2_mul (de_var (i := 2)) (de_meth0 (k := 1) T.ob MT_factor (de_var (i := 0)))) (da_cons (de_bin op2_add (de_bin op2_mul (de_var (i := 3)) (de_meth0 (k := 1) T.ob MT_factor (de_var (i := 0)))) (de_bin op2_mul (de_meth0 (k := 1) T.ob MT_addend (de_var (i := 0))) (de_var (i := 4)))) da_nil)))) dss_nil) (dss_one (ds_set (i := 4) (de_bin op2_mul (de_var (i := 4)) de_int))))) (dss_one (ds_ret (de_tup (da_cons (de_var (i := 2)) (da_cons (de_var (i := 3)) (da_cons (de_var (i := 4)) da_nil)))))))) hca⟩
noncomputable def g_is_word : FS := (sSeq (sIf (eOr (eNot (eN (isiD tab) [(eVar 0), (eC (.cls (.bi .str)))])) (e2 gtD (eN lenD [(eVar 0)]) (eC (.int 60)))) (sRet (eC (.bl false))) sNext) (sRet (eN allD [(eLc [1] (iAny (eVar 0)) (gN 1) tTrue (e2 inD (eVar 1) (eN opTup [(eC (.str "e")), (eC (.str "o"))])))])))
noncomputable def F_is_word : FD := mkFn 1 2 g_is_word
theorem sc_is_word : FnScope ["thing", "sign"] ["thing"] (defScope s_is_word) := ⟨rfl, rfl, rfl, by decide +kernel, rfl, by decide +kernel, by decide +kernel⟩
theorem kn_is_word {W : Wd} (T : Txt W.toWk) (hca : W.ca = none) (hgs : W.gs = []) : ∃ f fd, Dfn W.toWk "is_word" s_is_word f fd ∧ Kn W "is_word" 1 f fd ["thing"] F_is_word := by
  obtain ⟨t_MOST_LETTERS, c_MOST_LETTERS⟩ := T.c_MOST_LETTERS
  obtain ⟨f, fd, D⟩ := T.d_is_word
  exact ⟨f, fd, D, D.kn (N := ["thing", "sign"]) (ps := ["thing"]) (k := 0) (g := g_is_word) sc_is_word (dss_cons (ds_if (dt_w (dw_or (dt_not (dt_val (de_callB (opn_isi T.isi) T.b_isinstance boot_isinstance (da_cons (de_var (i := 0)) (da_cons (de_ty (T := .str) T.b_str boot_str) da_nil))))) (dw_or1 (dt_cmp op2_gt cmpI_bl (de_callB opn_len T.b_len boot_len (da_cons (de_var (i := 0)) da_nil)) (de_glob (d := .int 60) (v := .int 60) c_MOST_LETTERS ⟨_, rfl⟩ (fun _ _ => rfl)) (by rfl))))) (dss_one (ds_ret de_bl)) dss_nil) (dss_one (ds_ret (de_callB (opn_all rfl) T.b_all boot_all (da_cons (de_lc (own := [("sign", 1)]) (di_any (de_var (i := 0))) (dg_n (i := 1)) .none (de_cmp op2_in (de_var (i := 1)) (de_tup (da_cons de_str (da_cons de_str da_nil))) (by rfl)) (fun _ => blkOk_by (by decide +kernel))) da_nil))))) hca⟩
noncomputable def g_need_word : FS := (sIf (eNot (eCall F_is_word [(eVar 0)])) (sRaise (6 : Nat) (eVar 0)) sNext)
noncomputable def F_need_word : FD := mkFn 1 1 g_need_word
theorem sc_need_word : FnScope ["thing"] ["thing"] (defScope s_need_word) := ⟨rfl, rfl, rfl, by decide +kernel, rfl, by decide +kernel, by decide +kernel⟩
theorem kn_need_word {W : Wd} (T : Txt W.toWk) (hca : W.ca = none) (hgs : W.gs = []) : ∃ f fd, Dfn W.toWk "need_word" s_need_word f fd ∧ Kn W "need_word" 3 f fd ["thing"] F_need_word := by
  obtain ⟨f_is_word, fd_is_word, D_is_word, K_is_word⟩ := kn_is_word T hca hgs
  obtain ⟨fi_NoWord, fj_NoWord, E_NoWord⟩ := ex_NoWord T
  obtain ⟨f, fd, D⟩ := T.d_need_word
  exact ⟨f, fd, D, D.kn (N := ["thing"]) (ps := ["thing"]) (k := 2) (g := g_need_word) sc_need_word (dss_one (ds_if (dt_not (dt_val (de_call K_is_word (D_is_word.bp fun _ _ _ _ _ _ us hl => match us, hl with | [_], _ => rfl) (da_cons (de_var (i := 0)) da_nil)))) (dss_one (ds_raise E_NoWord T.e_NoWord.at (de_var (i := 0)))) dss_nil)) hca⟩
noncomputable def g_need_letters : FS := (sSeq (sExp (eCall F_need_word [(eVar 0)])) (sIf (e2 eqD (eVar 0) (eC (.str ""))) (sRaise (6 : Nat) (eVar 0)) sNext))
noncomputable def F_need_letters : FD := mkFn 1 1 g_need_letters
theorem sc_need_letters : FnScope ["thing"] ["thing"] (defScope s_need_letters) := ⟨rfl, rfl, rfl, by decide +kernel, rfl, by decide +kernel, by decide +kernel⟩
theorem kn_need_letters {W : Wd} (T : Txt W.toWk) (hca : W.ca = none) (hgs : W.gs = []) : ∃ f fd, Dfn W.toWk "need_letters" s_need_letters f fd ∧ Kn W "need_letters" 4 f fd ["thing"] F_need_letters := by
  obtain ⟨f_need_word, fd_need_word, D_need_word, K_need_word⟩ := kn_need_word T hca hgs
  obtain ⟨fi_NoWord, fj_NoWord, E_NoWord⟩ := ex_NoWord T
  obtain ⟨f, fd, D⟩ := T.d_need_letters
  exact ⟨f, fd, D, D.kn (N := ["thing"]) (ps := ["thing"]) (k := 3) (g := g_need_letters) sc_need_letters (dss_cons (ds_exp (de_call K_need_word (D_need_word.bp fun _ _ _ _ _ _ us hl => match us, hl with | [_], _ => rfl) (da_cons (de_var (i := 0)) da_nil))) (dss_one (ds_if (dt_cmp op2_eq eqD_bl (de_var (i := 0)) de_str (by rfl)) (dss_one (ds_raise E_NoWord T.e_NoWord.at (de_var (i := 0)))) dss_nil))) hca⟩
noncomputable def g_ring_of : FS := (sSeq (sExp (eCall F_need_rule [(eVar 0)])) (sSeq (sExp (eCall F_need_letters [(eVar 1)])) (sSeq (sAsg (gT [(gN 2), (gN 3), (gN 4)]) (eCall F_led_by [(eVar 0), (eVar 1)])) (sRet (eMakeD fnm (0 : Nat) F_Frac___init__ [.p 0, .p 1, .p 2] [(eVar 3), (e2 subD (eVar 4) (eVar 2))] [])))))
noncomputable def r_ring_of_3 : FS := (sRet (eMakeD fnm (0 : Nat) F_Frac___init__ [.p 0, .p 1, .p 2] [(eVar 3), (e2 subD (eVar 4) (eVar 2))] []))
noncomputable def r_ring_of_2 : FS := sSeq (sAsg (gT [(gN 2), (gN 3), (gN 4)]) (eCall F_led_by [(eVar 0), (eVar 1)])) r_ring_of_3
noncomputable def r_ring_of_1 : FS := sSeq (sExp (eCall F_need_letters [(eVar 1)])) r_ring_of_2
theorem gr_ring_of : g_ring_of = sSeq (sExp (eCall F_need_rule [(eVar 0)])) r_ring_of_1 := rfl
noncomputable def F_ring_of : FD := mkFn 2 5 g_ring_of
theorem sc_ring_of : FnScope ["rule", "word", "times", "plus", "size"] ["rule", "word"] (defScope s_ring_of) := ⟨rfl, rfl, rfl, by decide +kernel, rfl, by decide +kernel, by decide +kernel⟩
theorem kn_ring_of {W : Wd} (T : Txt W.toWk) (hca : W.ca = none) (hgs : W.gs = []) : ∃ f fd, Dfn W.toWk "ring_of" s_ring_of f fd ∧ Kn W "ring_of" 6 f fd ["rule", "word"] F_ring_of := by
  obtain ⟨f_Frac___init__, fd_Frac___init__, D_Frac___init__, G_Frac___init__⟩ := kn_Frac___init__ T hca hgs
  obtain ⟨f_led_by, fd_led_by, D_led_by, K_led_by⟩ := kn_led_by T hca hgs
  obtain ⟨f_need_letters, fd_need_letters, D_need_letters, K_need_letters⟩ := kn_need_letters T hca hgs
  obtain ⟨f_need_rule, fd_need_rule, D_need_rule, K_need_rule⟩ := kn_need_rule T hca hgs
  obtain ⟨f, fd, D⟩ := T.d_ring_of
  exact ⟨f, fd, D, D.kn (N := ["rule", "word", "times", "plus", "size"]) (ps := ["rule", "word"]) (k := 5) (g := g_ring_of) sc_ring_of (dss_cons (ds_exp (de_call K_need_rule (D_need_rule.bp fun _ _ _ _ _ _ us hl => match us, hl with | [_], _ => rfl) (da_cons (de_var (i := 0)) da_nil))) (dss_cons (ds_exp (de_call K_need_letters (D_need_letters.bp fun _ _ _ _ _ _ us hl => match us, hl with | [_], _ => rfl) (da_cons (de_var (i := 1)) da_nil))) (dss_cons (ds_asg (de_call K_led_by (D_led_by.bp fun _ _ _ _ _ _ us hl => match us, hl with | [_, _], _ => rfl) (da_cons (de_var (i := 0)) (da_cons (de_var (i := 1)) da_nil))) (dg_t rfl (dgs_cons (dg_n (i := 2)) (dgs_cons (dg_n (i := 3)) (dgs_cons (dg_n (i := 4)) dgs_nil))))) (dss_one (ds_ret (de_makeD (T.o_Frac.mkf D_Frac___init__.M G_Frac___init__) T.ob.nm (D_Frac___init__.bk (ks := []) (sh := [.p 0, .p 1, .p 2]) rfl rfl fun _ _ _ _ _ _ _ us ws its h1 h2 h3 => match us, h1, ws, h2, its, h3 with | [_, _, _], _, [], _, [_], _ => ⟨_, rfl, rfl⟩) (da_cons (de_var (i := 3)) (da_cons (de_bin op2_sub (de_var (i := 4)) (de_var (i := 2))) da_nil)) dk_nil)))))) hca⟩
noncomputable def g_walked : FS := (sSeq (sSet 3 (eNewL [(eVar 1)])) (sSeq (sFor (iRange1 [(eVar 2)]) (gN 4) (sExp (eMm appD (eVar 3) [(eCall F_next_of [(eVar 0), (e2 ixD (eVar 3) (e1 negD (eC (.int 1))))])]))) (sRet (eVar 3))))
noncomputable def r_walked_2 : FS := (sRet (eVar 3))
noncomputable def r_walked_1 : FS := sSeq (sFor (iRange1 [(eVar 2)]) (gN 4) (sExp (eMm appD (eVar 3) [(eCall F_next_of [(eVar 0), (e2 ixD (eVar 3) (e1 negD (eC (.int 1))))])]))) r_walked_2
theorem gr_walked : g_walked = sSeq (sSet 3 (eNewL [(eVar 1)])) r_walked_1 := rfl
noncomputable def F_walked : FD := mkFn 3 5 g_walked
theorem sc_walked : FnScope ["rule", "number", "many", "found", "turn"] ["rule", "number", "many"] (defScope s_walked) := ⟨rfl, rfl, rfl, by decide +kernel, rfl, by decide +kernel, by decide +kernel⟩
theorem kn_walked {W : Wd} (T : Txt W.toWk) (hca : W.ca = none) (hgs : W.gs = []) : ∃ f fd, Dfn W.toWk "walked" s_walked f fd ∧ Kn W "walked" 8 f fd ["rule", "number", "many"] F_walked := by
  obtain ⟨f_next_of, fd_next_of, D_next_of, K_next_of⟩ := kn_next_of T hca hgs
  obtain ⟨f, fd, D⟩ := T.d_walked
  exact ⟨f, fd, D, D.kn (N := ["rule", "number", "many", "found", "turn"]) (ps := ["rule", "number", "many"]) (k := 7) (g := g_walked) sc_walked (dss_cons (ds_set (i := 3) (de_newL (da_cons (de_var (i := 1)) da_nil))) (dss_cons (ds_for (di_rng1 (da_cons (de_var (i := 2)) da_nil) T.b_range) (dg_n (i := 4)) (dss_one (ds_exp (de_mm mm_app (de_var (i := 3)) (da_cons (de_call K_next_of (D_next_of.bp fun _ _ _ _ _ _ us hl => match us, hl with | [_, _], _ => rfl) (da_cons (de_var (i := 0)) (da_cons (de_ix (de_var (i := 3)) (de_un op1_neg de_int)) da_nil))) da_nil))))) (dss_one (ds_ret (de_var (i := 3)))))) hca⟩
noncomputable def g_round_of : FS := (sRet (eCall F_walked [(eVar 0), (eCall F_ring_of [(eVar 0), (eVar 1)]), (e2 subD (eN lenD [(eVar 1)]) (eC (.int 1)))]))
noncomputable def F_round_of : FD := mkFn 2 2 g_round_of
theorem sc_round_of : FnScope ["rule", "word"] ["rule", "word"] (defScope s_round_of) := ⟨rfl, rfl, rfl, by decide +kernel, rfl, by decide +kernel, by decide +kernel⟩
theorem kn_round_of {W : Wd} (T : Txt W.toWk) (hca : W.ca = none) (hgs : W.gs = []) : ∃ f fd, Dfn W.toWk "round_of" s_round_of f fd ∧ Kn W "round_of" 9 f fd ["rule", "word"] F_round_of := by
  obtain ⟨f_ring_of, fd_ring_of, D_ring_of, K_ring_of⟩ := kn_ring_of T hca hgs
  obtain ⟨f_walked, fd_walked, D_walked, K_walked⟩ := kn_walked T hca hgs
  obtain ⟨f, fd, D⟩ := T.d_round_of
  exact ⟨f, fd, D, D.kn (N := ["rule", "word"]) (ps := ["rule", "word"]) (k := 8) (g := g_round_of) sc_round_of (dss_one (ds_ret (de_call K_walked (D_walked.bp fun _ _ _ _ _ _ us hl => match us, hl with | [_, _, _], _ => rfl) (da_cons (de_var (i := 0)) (da_cons (de_call K_ring_of (D_ring_of.bp fun _ _ _ _ _ _ us hl => match us, hl with | [_, _], _ => rfl) (da_cons (de_var (i := 0)) (da_cons (de_var (i := 1)) da_nil))) (da_cons (de_bin op2_sub (de_callB opn_len T.b_len boot_len (da_cons (de_var (i := 1)) da_nil)) de_int) da_nil)))))) hca⟩
noncomputable def g_law : FS := (sSeq (sPar [1, 2] [(eN opLst [(eMakeD fnm (0 : Nat) F_Frac___init__ [.p 0, .p 1, .d (.int 1)] [(e1 negD (eC (.int 5)))] []), (eMakeD fnm (0 : Nat) F_Frac___init__ [.p 0, .p 1, .d (.int 1)] [(e1 negD (eC (.int 7)))] []), (eMakeD fnm (0 : Nat) F_Frac___init__ [.p 0, .p 1, .d (.int 1)] [(e1 negD (eC (.int 10)))] [])]), (eN opLst [(eMakeD fnm (0 : Nat) F_Frac___init__ [.p 0, .p 1, .d (.int 1)] [(eC (.int 0))] [])])]) (sSeq (sSet 3 (eN opLst [(eCall F_is_round [(eMakeD fnm (1 : Nat) F_Rule___init__ [.p 0, .d (.int 3), .d (.int 1)] [] []), (eVar 1)]), (eCall F_is_round [(eMakeD fnm (1 : Nat) F_Rule___init__ [.p 0, .d (.int 3), .d (.int 1)] [] []), (eSl (eVar 1) none (some (eC (.int 2))))]), (eCall F_is_round [(eMakeD fnm (1 : Nat) F_Rule___init__ [.p 0, .d (.int 3), .d (.int 1)] [] []), (eN opLst [])]), (eCall F_is_round [(eMakeD fnm (1 : Nat) F_Rule___init__ [.p 0, .d (.int 3), .d (.int 1)] [] []), (e2 mulD (eVar 2) (eC (.int 60)))])])) (sSeq (sSet 3 (e2 addD (eVar 3) (eN opLst [(eCall F_is_round [(eMakeD fnm (1 : Nat) F_Rule___init__ [.p 0, .d (.int 3), .d (.int 1)] [] []), (e2 mulD (eVar 2) (eC (.int 61)))]), (eCall F_is_round [(eMakeD fnm (1 : Nat) F_Rule___init__ [.p 0, .d (.int 3), .d (.int 1)] [] []), (eN opLst [(eC (.int 0))])])]))) (sSeq (sIf (eNot (eCall F__law_just [(eVar 3), (eN opLst [(eC (.bl true)), (eC (.bl false)), (eC (.bl false)), (eC (.bl true)), (eC (.bl false)), (eC (.bl false))])])) (sRet (eC (.bl false))) sNext) (sSeq (sFor (iRange1 [(eN maxD [(eC (.int 2)), (eN minXD [(eC (.int 8)), (eN lenD [(eVar 0)])])])]) (gN 4) (sSeq (sSet 5 (eCall F__law_box [(eCall F__law_cell [(eVar 0), (eVar 4)])])) (sSeq (sPar [6, 7] [(eCall F__law_rule [(eVar 5)]), (e2 addD (eCall F__law_word [(eVar 5), (eC (.int 11))]) (e2 ixD (eC (.str "eo")) (eCall F__law_take [(eVar 5), (eC (.int 2))])))]) (sSeq (sPar [8, 1] [(eMakeD fnm (1 : Nat) F_Rule___init__ [.p 0, .p 1, .p 2] [(e2 ixD (eVar 6) (eC (.int 0))), (e2 ixD (eVar 6) (eC (.int 1)))] []), (eCall F_round_of [(eMakeD fnm (1 : Nat) F_Rule___init__ [.p 0, .p 1, .p 2] [(e2 ixD (eVar 6) (eC (.int 0))), (e2 ixD (eVar 6) (eC (.int 1)))] []), (eVar 7)])]) (sSeq (sFor (iAny (eN opLst [(eVar 1), (eCall F__law_other [(eVar 5), (eVar 1)]), (eCall F__law_other [(eVar 5), (eVar 1)]), (eCall F__law_other [(eVar 5), (eVar 1)])])) (gN 9) (sSeq (sSet 10 (eN (reprCD xtx (mOf [((0 : Nat), F_Frac___repr__)])) [(eVar 9)])) (sIf (eOr (eNot (eCall F__law_just [(eCallK F_is_round [.k 0, .k 1] [] [(eVar 8), (eVar 9)]), (eCall F__law_due [(eVar 6), (eVar 9)])])) (e2 neD (eN (reprCD xtx (mOf [((0 : Nat), F_Frac___repr__)])) [(eVar 9)]) (eVar 10))) (sRet (eC (.bl false))) sNext))) (sSeq (sPar [11, 12] [(eCall F__law_rule [(eVar 5)]), (eCall F__law_odd [(eVar 5)])]) (sSeq (sIf (eNot (eCall F__law_just [(eCall F_is_round [(eMakeD fnm (1 : Nat) F_Rule___init__ [.p 0, .p 1, .p 2] [(e2 ixD (eVar 11) (eC (.int 0))), (e2 ixD (eVar 11) (eC (.int 1)))] []), (eVar 1)]), (eCall F__law_due [(eVar 11), (eVar 1)])])) (sRet (eC (.bl false))) sNext) (sIf (e2 neD (eN (reprD xtx) [(eCall F__law_refused [(eVar 12)])]) (eN (reprD xtx) [(eN opTup [(eC (.str "rule")), (eVar 12)])])) (sRet (eC (.bl false))) sNext)))))))) (sRet (eC (.bl true))))))))
noncomputable def r_law_5 : FS := (sRet (eC (.bl true)))
noncomputable def r_law_4 : FS := sSeq (sFor (iRange1 [(eN maxD [(eC (.int 2)), (eN minXD [(eC (.int 8)), (eN lenD [(eVar 0)])])])]) (gN 4) (sSeq (sSet 5 (eCall F__law_box [(eCall F__law_cell [(eVar 0), (eVar 4)])])) (sSeq (sPar [6, 7] [(eCall F__law_rule [(eVar 5)]), (e2 addD (eCall F__law_word [(eVar 5), (eC (.int 11))]) (e2 ixD (eC (.str "eo")) (eCall F__law_take [(eVar 5), (eC (.int 2))])))]) (sSeq (sPar [8, 1] [(eMakeD fnm (1 : Nat) F_Rule___init__ [.p 0, .p 1, .p 2] [(e2 ixD (eVar 6) (eC (.int 0))), (e2 ixD (eVar 6) (eC (.int 1)))] []), (eCall F_round_of [(eMakeD fnm (1 : Nat) F_Rule___init__ [.p 0, .p 1, .p 2] [(e2 ixD (eVar 6) (eC (.int 0))), (e2 ixD (eVar 6) (eC (.int 1)))] []), (eVar 7)])]) (sSeq (sFor (iAny (eN opLst [(eVar 1), (eCall F__law_other [(eVar 5), (eVar 1)]), (eCall F__law_other [(eVar 5), (eVar 1)]), (eCall F__law_other [(eVar 5), (eVar 1)])])) (gN 9) (sSeq (sSet 10 (eN (reprCD xtx (mOf [((0 : Nat), F_Frac___repr__)])) [(eVar 9)])) (sIf (eOr (eNot (eCall F__law_just [(eCallK F_is_round [.k 0, .k 1] [] [(eVar 8), (eVar 9)]), (eCall F__law_due [(eVar 6), (eVar 9)])])) (e2 neD (eN (reprCD xtx (mOf [((0 : Nat), F_Frac___repr__)])) [(eVar 9)]) (eVar 10))) (sRet (eC (.bl false))) sNext))) (sSeq (sPar [11, 12] [(eCall F__law_rule [(eVar 5)]), (eCall F__law_odd [(eVar 5)])]) (sSeq (sIf (eNot (eCall F__law_just [(eCall F_is_round [(eMakeD fnm (1 : Nat) F_Rule___init__ [.p 0, .p 1, .p 2] [(e2 ixD (eVar 11) (eC (.int 0))), (e2 ixD (eVar 11) (eC (.int 1)))] []), (eVar 1)]), (eCall F__law_due [(eVar 11), (eVar 1)])])) (sRet (eC (.bl false))) sNext) (sIf (e2 neD (eN (reprD xtx) [(eCall F__law_refused [(eVar 12)])]) (eN (reprD xtx) [(eN opTup [(eC (.str "rule")), (eVar 12)])])) (sRet (eC (.bl false))) sNext)))))))) r_law_5
noncomputable def r_law_3 : FS := sSeq (sIf (eNot (eCall F__law_just [(eVar 3), (eN opLst [(eC (.bl true)), (eC (.bl false)), (eC (.bl false)), (eC (.bl true)), (eC (.bl false)), (eC (.bl false))])])) (sRet (eC (.bl false))) sNext) r_law_4
noncomputable def r_law_2 : FS := sSeq (sSet 3 (e2 addD (eVar 3) (eN opLst [(eCall F_is_round [(eMakeD fnm (1 : Nat) F_Rule___init__ [.p 0, .d (.int 3), .d (.int 1)] [] []), (e2 mulD (eVar 2) (eC (.int 61)))]), (eCall F_is_round [(eMakeD fnm (1 : Nat) F_Rule___init__ [.p 0, .d (.int 3), .d (.int 1)] [] []), (eN opLst [(eC (.int 0))])])]))) r_law_3
noncomputable def r_law_1 : FS := sSeq (sSet 3 (eN opLst [(eCall F_is_round [(eMakeD fnm (1 : Nat) F_Rule___init__ [.p 0, .d (.int 3), .d (.int 1)] [] []), (eVar 1)]), (eCall F_is_round [(eMakeD fnm (1 : Nat) F_Rule___init__ [.p 0, .d (.int 3), .d (.int 1)] [] []), (eSl (eVar 1) none (some (eC (.int 2))))]), (eCall F_is_round [(eMakeD fnm (1 : Nat) F_Rule___init__ [.p 0, .d (.int 3), .d (.int 1)] [] []), (eN opLst [])]), (eCall F_is_round [(eMakeD fnm (1 : Nat) F_Rule___init__ [.p 0, .d (.int 3), .d (.int 1)] [] []), (e2 mulD (eVar 2) (eC (.int 60)))])])) r_law_2
theorem gr_law : g_law = sSeq (sPar [1, 2] [(eN opLst [(eMakeD fnm (0 : Nat) F_Frac___init__ [.p 0, .p 1, .d (.int 1)] [(e1 negD (eC (.int 5)))] []), (eMakeD fnm (0 : Nat) F_Frac___init__ [.p 0, .p 1, .d (.int 1)] [(e1 negD (eC (.int 7)))] []), (eMakeD fnm (0 : Nat) F_Frac___init__ [.p 0, .p 1, .d (.int 1)] [(e1 negD (eC (.int 10)))] [])]), (eN opLst [(eMakeD fnm (0 : Nat) F_Frac___init__ [.p 0, .p 1, .d (.int 1)] [(eC (.int 0))] [])])]) r_law_1 := rfl
noncomputable def F_law : FD := mkFn 1 13 g_law
theorem sc_law : FnScope ["script", "row", "long", "found", "k", "box", "rule", "word", "one", "thing", "kept", "other", "odd"] ["script"] (defScope s_law) := ⟨rfl, rfl, rfl, by decide +kernel, rfl, by decide +kernel, by decide +kernel⟩
theorem kn_law {W : Wd} (T : Txt W.toWk) (hca : W.ca = none) (hgs : W.gs = []) : ∃ f fd, Dfn W.toWk "law" s_law f fd ∧ Kn W "law" 10 f fd ["script"] F_law := by
  obtain ⟨f_Frac___init__, fd_Frac___init__, D_Frac___init__, G_Frac___init__⟩ := kn_Frac___init__ T hca hgs
  obtain ⟨f_Frac___repr__, fd_Frac___repr__, D_Frac___repr__, G_Frac___repr__⟩ := kn_Frac___repr__ T hca
  obtain ⟨f_Rule___init__, fd_Rule___init__, D_Rule___init__, G_Rule___init__⟩ := kn_Rule___init__ T hca hgs
  obtain ⟨f__law_box, fd__law_box, D__law_box, K__law_box⟩ := kn__law_box T hca hgs
  obtain ⟨f__law_cell, fd__law_cell, D__law_cell, K__law_cell⟩ := kn__law_cell T hca hgs
  obtain ⟨f__law_due, fd__law_due, D__law_due, K__law_due⟩ := kn__law_due T hca hgs
  obtain ⟨f__law_just, fd__law_just, D__law_just, K__law_just⟩ := kn__law_just T hca hgs
  obtain ⟨f__law_odd, fd__law_odd, D__law_odd, K__law_odd⟩ := kn__law_odd T hca hgs
  obtain ⟨f__law_other, fd__law_other, D__law_other, K__law_other⟩ := kn__law_other T hca hgs
  obtain ⟨f__law_refused, fd__law_refused, D__law_refused, K__law_refused⟩ := kn__law_refused T hca hgs
  obtain ⟨f__law_rule, fd__law_rule, D__law_rule, K__law_rule⟩ := kn__law_rule T hca hgs
  obtain ⟨f__law_take, fd__law_take, D__law_take, K__law_take⟩ := kn__law_take T hca hgs
  obtain ⟨f__law_word, fd__law_word, D__law_word, K__law_word⟩ := kn__law_word T hca hgs
  obtain ⟨f_is_round, fd_is_round, D_is_round, K_is_round⟩ := kn_is_round T hca hgs
  obtain ⟨f_round_of, fd_round_of, D_round_of, K_round_of⟩ := kn_round_of T hca hgs
  obtain ⟨f, fd, D⟩ := T.d_law
  exact ⟨f, fd, D, D.kn (N := ["script", "row", "long", "found", "k", "box", "rule", "word", "one", "thing", "kept", "other", "odd"]) (ps := ["script"]) (k := 9) (g := g_law) sc_law (dss_cons (ds_par (i := 1) (j := 2) rfl (da_cons (de_lst (da_cons (de_makeD (T.o_Frac.mkf D_Frac___init__.M G_Frac___init__) T.ob.nm (D_Frac___init__.bk (ks := []) (sh := [.p 0, .p 1, .d 0]) rfl rfl fun _ _ _ _ _ _ _ us ws its h1 h2 h3 => match us, h1, ws, h2, its, h3 with | [_, _], _, [], _, [_], _ => ⟨_, rfl, rfl⟩) (da_cons (de_un op1_neg de_int) da_nil) dk_nil) (da_cons (de_makeD (T.o_Frac.mkf D_Frac___init__.M G_Frac___init__) T.ob.nm (D_Frac___init__.bk (ks := []) (sh := [.p 0, .p 1, .d 0]) rfl rfl fun _ _ _ _ _ _ _ us ws its h1 h2 h3 => match us, h1, ws, h2, its, h3 with | [_, _], _, [], _, [_], _ => ⟨_, rfl, rfl⟩) (da_cons (de_un op1_neg de_int) da_nil) dk_nil) (da_cons (de_makeD (T.o_Frac.mkf D_Frac___init__.M G_Frac___init__) T.ob.nm (D_Frac___init__.bk (ks := []) (sh := [.p 0, .p 1, .d 0]) rfl rfl fun _ _ _ _ _ _ _ us ws its h1 h2 h3 => match us, h1, ws, h2, its, h3 with | [_, _], _, [], _, [_], _ => ⟨_, rfl, rfl⟩) (da_cons (de_un op1_neg de_int) da_nil) dk_nil) da_nil)))) (da_cons (de_lst (da_cons (de_makeD (T.o_Frac.mkf D_Frac___init__.M G_Frac___init__) T.ob.nm (D_Frac___init__.bk (ks := []) (sh := [.p 0, .p 1, .d 0]) rfl rfl fun _ _ _ _ _ _ _ us ws its h1 h2 h3 => match us, h1, ws, h2, its, h3 with | [_, _], _, [], _, [_], _ => ⟨_, rfl, rfl⟩) (da_cons de_int da_nil) dk_nil) da_nil)) da_nil))) (dss_cons (ds_set (i := 3) (de_lst (da_cons (de_call K_is_round (D_is_round.bp fun _ _ _ _ _ _ us hl => match us, hl with | [_, _], _ => rfl) (da_cons (de_makeD0 (T.o_Rule.mkf D_Rule___init__.M G_Rule___init__) T.ob.nm (D_Rule___init__.bk (ks := []) (sh := [.p 0, .d 0, .d 1]) rfl rfl fun _ _ _ _ _ _ _ us ws its h1 h2 h3 => match us, h1, ws, h2, its, h3 with | [_], _, [], _, [_, _], _ => ⟨_, rfl, rfl⟩)) (da_cons (de_var (i := 1)) da_nil))) (da_cons (de_call K_is_round (D_is_round.bp fun _ _ _ _ _ _ us hl => match us, hl with | [_, _], _ => rfl) (da_cons (de_makeD0 (T.o_Rule.mkf D_Rule___init__.M G_Rule___init__) T.ob.nm (D_Rule___init__.bk (ks := []) (sh := [.p 0, .d 0, .d 1]) rfl rfl fun _ _ _ _ _ _ _ us ws its h1 h2 h3 => match us, h1, ws, h2, its, h3 with | [_], _, [], _, [_, _], _ => ⟨_, rfl, rfl⟩)) (da_cons (de_sl (de_var (i := 1)) dp_none (dp_some de_int)) da_nil))) (da_cons (de_call K_is_round (D_is_round.bp fun _ _ _ _ _ _ us hl => match us, hl with | [_, _], _ => rfl) (da_cons (de_makeD0 (T.o_Rule.mkf D_Rule___init__.M G_Rule___init__) T.ob.nm (D_Rule___init__.bk (ks := []) (sh := [.p 0, .d 0, .d 1]) rfl rfl fun _ _ _ _ _ _ _ us ws its h1 h2 h3 => match us, h1, ws, h2, its, h3 with | [_], _, [], _, [_, _], _ => ⟨_, rfl, rfl⟩)) (da_cons (de_lst da_nil) da_nil))) (da_cons (de_call K_is_round (D_is_round.bp fun _ _ _ _ _ _ us hl => match us, hl with | [_, _], _ => rfl) (da_cons (de_makeD0 (T.o_Rule.mkf D_Rule___init__.M G_Rule___init__) T.ob.nm (D_Rule___init__.bk (ks := []) (sh := [.p 0, .d 0, .d 1]) rfl rfl fun _ _ _ _ _ _ _ us ws its h1 h2 h3 => match us, h1, ws, h2, its, h3 with | [_], _, [], _, [_, _], _ => ⟨_, rfl, rfl⟩)) (da_cons (de_bin op2_mul (de_var (i := 2)) de_int) da_nil))) da_nil)))))) (dss_cons (ds_set (i := 3) (de_bin op2_add (de_var (i := 3)) (de_lst (da_cons (de_call K_is_round (D_is_round.bp fun _ _ _ _ _ _ us hl => match us, hl with | [_, _], _ => rfl) (da_cons (de_makeD0 (T.o_Rule.mkf D_Rule___init__.M G_Rule___init__) T.ob.nm (D_Rule___init__.bk (ks := []) (sh := [.p 0, .d 0, .d 1]) rfl rfl fun _ _ _ _ _ _ _ us ws its h1 h2 h3 => match us, h1, ws, h2, its, h3 with | [_], _, [], _, [_, _], _ => ⟨_, rfl, rfl⟩)) (da_cons (de_bin op2_mul (de_var (i := 2)) de_int) da_nil))) (da_cons (de_call K_is_round (D_is_round.bp fun _ _ _ _ _ _ us hl => match us, hl with | [_, _], _ => rfl) (da_cons (de_makeD0 (T.o_Rule.mkf D_Rule___init__.M G_Rule___init__) T.ob.nm (D_Rule___init__.bk (ks := []) (sh := [.p 0, .d 0, .d 1]) rfl rfl fun _ _ _ _ _ _ _ us ws its h1 h2 h3 => match us, h1, ws, h2, its, h3 with | [_], _, [], _, [_, _], _ => ⟨_, rfl, rfl⟩)) (da_cons (de_lst (da_cons de_int da_nil)) da_nil))) da_nil))))) (dss_cons (ds_if (dt_not (dt_val (de_call K__law_just (D__law_just.bp fun _ _ _ _ _ _ us hl => match us, hl with | [_, _], _ => rfl) (da_cons (de_var (i := 3)) (da_cons (de_lst (da_cons de_bl (da_cons de_bl (da_cons de_bl (da_cons de_bl (da_cons de_bl (da_cons de_bl da_nil))))))) da_nil))))) (dss_one (ds_ret de_bl)) dss_nil) (dss_cons (ds_for (di_rng1 (da_cons (de_callB (opn_max rfl) T.b_max boot_max (da_cons de_int (da_cons (de_callB (opn_minX rfl) T.b_min boot_min (da_cons de_int (da_cons (de_callB opn_len T.b_len boot_len (da_cons (de_var (i := 0)) da_nil)) da_nil))) da_nil))) da_nil) T.b_range) (dg_n (i := 4)) (dss_cons (ds_set (i := 5) (de_call K__law_box (D__law_box.bp fun _ _ _ _ _ _ us hl => match us, hl with | [_], _ => rfl) (da_cons (de_call K__law_cell (D__law_cell.bp fun _ _ _ _ _ _ us hl => match us, hl with | [_, _], _ => rfl) (da_cons (de_var (i := 0)) (da_cons (de_var (i := 4)) da_nil))) da_nil))) (dss_cons (ds_par (i := 6) (j := 7) rfl (da_cons (de_call K__law_rule (D__law_rule.bp fun _ _ _ _ _ _ us hl => match us, hl with | [_], _ => rfl) (da_cons (de_var (i := 5)) da_nil)) (da_cons (de_bin op2_add (de_call K__law_word (D__law_word.bp fun _ _ _ _ _ _ us hl => match us, hl with | [_, _], _ => rfl) (da_cons (de_var (i := 5)) (da_cons de_int da_nil))) (de_ix de_str (de_call K__law_take (D__law_take.bp fun _ _ _ _ _ _ us hl => match us, hl with | [_, _], _ => rfl) (da_cons (de_var (i := 5)) (da_cons de_int da_nil))))) da_nil))) (dss_cons (ds_par (i := 8) (j := 1) rfl (da_cons (de_makeD (T.o_Rule.mkf D_Rule___init__.M G_Rule___init__) T.ob.nm (D_Rule___init__.bk (ks := []) (sh := [.p 0, .p 1, .p 2]) rfl rfl fun _ _ _ _ _ _ _ us ws its h1 h2 h3 => match us, h1, ws, h2, its, h3 with | [_, _, _], _, [], _, [_, _], _ => ⟨_, rfl, rfl⟩) (da_cons (de_ix (de_var (i := 6)) de_int) (da_cons (de_ix (de_var (i := 6)) de_int) da_nil)) dk_nil) (da_cons (de_call K_round_of (D_round_of.bp fun _ _ _ _ _ _ us hl => match us, hl with | [_, _], _ => rfl) (da_cons (de_makeD (T.o_Rule.mkf D_Rule___init__.M G_Rule___init__) T.ob.nm (D_Rule___init__.bk (ks := []) (sh := [.p 0, .p 1, .p 2]) rfl rfl fun _ _ _ _ _ _ _ us ws its h1 h2 h3 => match us, h1, ws, h2, its, h3 with | [_, _, _], _, [], _, [_, _], _ => ⟨_, rfl, rfl⟩) (da_cons (de_ix (de_var (i := 6)) de_int) (da_cons (de_ix (de_var (i := 6)) de_int) da_nil)) dk_nil) (da_cons (de_var (i := 7)) da_nil))) da_nil))) (dss_cons (ds_for (di_any (de_lst (da_cons (de_var (i := 1)) (da_cons (de_call K__law_other (D__law_other.bp fun _ _ _ _ _ _ us hl => match us, hl with | [_, _], _ => rfl) (da_cons (de_var (i := 5)) (da_cons (de_var (i := 1)) da_nil))) (da_cons (de_call K__law_other (D__law_other.bp fun _ _ _ _ _ _ us hl => match us, hl with | [_, _], _ => rfl) (da_cons (de_var (i := 5)) (da_cons (de_var (i := 1)) da_nil))) (da_cons (de_call K__law_other (D__law_other.bp fun _ _ _ _ _ _ us hl => match us, hl with | [_, _], _ => rfl) (da_cons (de_var (i := 5)) (da_cons (de_var (i := 1)) da_nil))) da_nil)))))) (dg_n (i := 9)) (dss_cons (ds_set (i := 10) (de_callB (opn_reprC (k := 4) T.xt hgs (rpT_one fun g => by obtain ⟨f, fd, D, G⟩ := kn_Frac___repr__ (W := W.gd g) T hca; exact D.meth (np := 0) G fun _ _ _ _ _ _ us hl => match us, hl with | [_], _ => rfl)) T.b_repr boot_repr (da_cons (de_var (i := 9)) da_nil))) (dss_one (ds_if (dt_w (dw_or (dt_not (dt_val (de_call K__law_just (D__law_just.bp fun _ _ _ _ _ _ us hl => match us, hl with | [_, _], _ => rfl) (da_cons (de_callK0 K_is_round (D_is_round.bk (ks := ["rule", "thing"]) (as := [.k 0, .k 1]) rfl (selOk_nil rfl) fun _ _ _ _ _ _ us ws h1 h2 => match us, h1, ws, h2 with | [], _, [_, _], _ => rfl) (dk_cons (de_var (i := 8)) (dk_cons (de_var (i := 9)) dk_nil))) (da_cons (de_call K__law_due (D__law_due.bp fun _ _ _ _ _ _ us hl => match us, hl with | [_, _], _ => rfl) (da_cons (de_var (i := 6)) (da_cons (de_var (i := 9)) da_nil))) da_nil))))) (dw_or1 (dt_cmp op2_ne neD_bl (de_callB (opn_reprC (k := 4) T.xt hgs (rpT_one fun g => by obtain ⟨f, fd, D, G⟩ := kn_Frac___repr__ (W := W.gd g) T hca; exact D.meth (np := 0) G fun _ _ _ _ _ _ us hl => match us, hl with | [_], _ => rfl)) T.b_repr boot_repr (da_cons (de_var (i := 9)) da_nil)) (de_var (i := 10)) (by rfl))))) (dss_one (ds_ret de_bl)) dss_nil)))) (dss_cons (ds_par (i := 11) (j := 12) rfl (da_cons (de_call K__law_rule (D__law_rule.bp fun _ _ _ _ _ _ us hl => match us, hl with | [_], _ => rfl) (da_cons (de_var (i := 5)) da_nil)) (da_cons (de_call K__law_odd (D__law_odd.bp fun _ _ _ _ _ _ us hl => match us, hl with | [_], _ => rfl) (da_cons (de_var (i := 5)) da_nil)) da_nil))) (dss_cons (ds_if (dt_not (dt_val (de_call K__law_just (D__law_just.bp fun _ _ _ _ _ _ us hl => match us, hl with | [_, _], _ => rfl) (da_cons (de_call K_is_round (D_is_round.bp fun _ _ _ _ _ _ us hl => match us, hl with | [_, _], _ => rfl) (da_cons (de_makeD (T.o_Rule.mkf D_Rule___init__.M G_Rule___init__) T.ob.nm (D_Rule___init__.bk (ks := []) (sh := [.p 0, .p 1, .p 2]) rfl rfl fun _ _ _ _ _ _ _ us ws its h1 h2 h3 => match us, h1, ws, h2, its, h3 with | [_, _, _], _, [], _, [_, _], _ => ⟨_, rfl, rfl⟩) (da_cons (de_ix (de_var (i := 11)) de_int) (da_cons (de_ix (de_var (i := 11)) de_int) da_nil)) dk_nil) (da_cons (de_var (i := 1)) da_nil))) (da_cons (de_call K__law_due (D__law_due.bp fun _ _ _ _ _ _ us hl => match us, hl with | [_, _], _ => rfl) (da_cons (de_var (i := 11)) (da_cons (de_var (i := 1)) da_nil))) da_nil))))) (dss_one (ds_ret de_bl)) dss_nil) (dss_one (ds_if (dt_cmp op2_ne neD_bl (de_callB (opn_repr T.xt hgs) T.b_repr boot_repr (da_cons (de_call K__law_refused (D__law_refused.bp fun _ _ _ _ _ _ us hl => match us, hl with | [_], _ => rfl) (da_cons (de_var (i := 12)) da_nil)) da_nil)) (de_callB (opn_repr T.xt hgs) T.b_repr boot_repr (da_cons (de_tup (da_cons de_str (da_cons (de_var (i := 12)) da_nil))) da_nil)) (by rfl)) (dss_one (ds_ret de_bl)) dss_nil))))))))) (dss_one (ds_ret de_bl))))))) hca⟩

end LW
namespace LW
open PySem PySem.Spec L2 PyProof.Rows PM
/-! snippet base: _law_take, _law_cell, _law_box (seed 17) -/
theorem log100 {i : Int} (h : i ≤ 10 ^ 100) (h0 : 0 ≤ i) : i.natAbs.log2 < 9000 := by
  have h1 : i.natAbs ≤ 10 ^ 100 := by omega
  have h2 : i.natAbs < 2 ^ 400 := Nat.lt_of_le_of_lt h1 (by decide +kernel)
  exact Nat.lt_of_lt_of_le (log2_lt h2 (by decide)) (by decide)
theorem take_ok {m : Sto} {n : Nat} {c many : Int} (hB : BoxAt m n c) (hc : c ≤ 90000) (h0 : 0 < many) (h1 : many ≤ 10 ^ 100) : Run (F__law_take [.loc n, .int many] m) (resC (Took n c many m) noX) := by
  obtain ⟨a, b, k, hm, ha, hb0, hb1, hk0, hk1⟩ := hB
  have hlog : many.natAbs.log2 < 9000 := log100 h1 (by omega)
  have hz : many ≠ 0 := by omega
  unfold F__law_take
  rw [run_fn (by rfl)]
  by_cases hpos : 0 < a
  · simp [g__law_take, ixD_loc hm, stoD_loc hm, hpos, hz, hlog]
    exact took_rest hm ha hb0 hb1 hk0 hk1 h0
  · have hm2 : (m.set n (.lst [D.int a, D.int b, D.int (k + 1)]))[n]? = some (.lst [D.int a, D.int b, D.int (k + 1)]) := get_set hm
    simp [g__law_take, ixD_loc hm, stoD_loc hm, ixD_loc hm2, hpos, hz]
    exact ⟨draw_1 hb0 hb1 hk0 (by omega) (by decide) (by decide), by decide, .inl (.inr (by omega)), draw_2 hk0 (by omega), by decide, took_draw hm ha hb0 hb1 hk0 hk1 h0⟩
theorem take_st {m0 m : Sto} {n : Nat} {c many : Int} {K : D → Sto → Prop} {X : Nat → D → Sto → Prop} (S : St n c m0 m) (hc : c ≤ 90000) (h0 : 0 < many) (h1 : many ≤ 10 ^ 100) (k : ∀ (r : Int) (m' : Sto), 0 ≤ r → r < many → St n (c + 1) m0 m' → But1 m m' n → K (.int r) m') :
    Run (F__law_take [.loc n, .int many] m) (resC K X) :=
  Run.ok (take_ok S.box hc h0 h1) fun d m' ⟨r, e, a, b, B, q⟩ => by subst e; exact k r m' a b (S.took B q) q
theorem cell_ok {m : Sto} {ns : List Int} {k : Nat} {K : D → Sto → Prop} {X : Nat → D → Sto → Prop} (h : ∀ i, K (.int i) m) : Run (F__law_cell [numsD ns, .int k] m) (resC K X) := by
  refine Run.ok (K' := fun d m' => (∃ i, d = .int i) ∧ m' = m) ?_ fun d m' ⟨⟨i, e⟩, e'⟩ => by subst e e'; exact h i
  unfold F__law_cell
  rw [run_fn (by rfl)]
  by_cases h : (k : Int) < ns.length
  · have h2 : k < ns.length := by omega
    obtain ⟨d, e1, e2⟩ := atI_ok (xs := ns.map D.int) (i := k) (by omega) (by simpa using h)
    have e3 : ∃ i, d = .int i := by
      rw [List.getElem?_map] at e2
      cases q : ns[(k : Int).toNat]? with
      | none => rw [q] at e2; cases e2
      | some i => rw [q] at e2; cases e2; exact ⟨i, rfl⟩
    simp [g__law_cell, numsD, h, e1, e3]
  · simp [g__law_cell, numsD, h]
theorem box_ok {m : Sto} {i : Int} {K : D → Sto → Prop} {X : Nat → D → Sto → Prop} (h : ∀ c, BoxAt (m ++ [c]) m.length 0 → K (.loc m.length) (m ++ [c])) : Run (F__law_box [.int i] m) (resC K X) := by
  unfold F__law_box
  rw [run_fn (by rfl)]
  simp [g__law_box]
  try rw [fin_loc (Nat.le_refl _)]
  refine h _ ⟨_, _, 0, List.getElem?_concat_length, ?_, (fmod_pos (a := i) (b := 2147483629) (by decide)).1, (fmod_pos (by decide)).2, by decide, by decide⟩
  split <;> omega

/-! snippet just: _law_just -/
theorem just_self {m : Sto} {d : D} {k n : Nat} (h1 : Pd m d k) (h2 : Ps xtx m d k n) (hk : k < 40) (hn : n ≤ 1000000) : F__law_just [d, d] m = some (.ok (.bl true) m) := by
  refine Run.eq ?_
  unfold F__law_just
  rw [run_fn (by rfl)]
  obtain ⟨t, e2⟩ := reprD_ps h2 hk hn
  have e1 := eq_self h1 (by omega)
  have e3 : eqD (.str t) (.str t) m = some (.bl true) := by simp [eqD, eqB]
  simp [g__law_just, e1, e2, e3]
theorem just_run {m : Sto} {d : D} {k n : Nat} {P : Res → Prop} (h1 : Pd m d k) (h2 : Ps xtx m d k n) (hk : k < 40) (hn : n ≤ 1000000) (h : P (.ok (.bl true) m)) : Run (F__law_just [d, d] m) P := .of (just_self h1 h2 hk hn) h

/-! snippet eo -/
/-- a text of the letters e and o -/
def EO (s : Str) : Prop := ∀ c ∈ s.cps.toList, c = 101 ∨ c = 111
theorem EO.app {a b : Str} (ha : EO a) (hb : EO b) : EO (a ++ b) := fun c hc => by
  have : c ∈ (a.cps ++ b.cps).toList := hc
  rw [Array.toList_append] at this
  exact (List.mem_append.mp this).elim (ha c) (hb c)
theorem EO.ok {a : Str} (h : EO a) : okS a := fun c hc => by rcases h c hc with e | e <;> subst e <;> decide
theorem EO.mem {z : Str} {c : Nat} (hz : EO z) (h : c ∈ z.cps.toList) : EO ⟨#[c]⟩ := fun x hx => by
  have : x ∈ [c] := hx
  rw [List.mem_singleton.mp this]; exact hz c h
theorem EO_e : EO "e" := fun c hc => by have : c ∈ [101] := hc; simp at this; exact .inl this
theorem EO_o : EO "o" := fun c hc => by have : c ∈ [111] := hc; simp at this; exact .inr this
theorem EO_nil : EO "" := fun c hc => by have : c ∈ ([] : List Nat) := hc; cases this
theorem EO_eo : EO "eo" := fun c hc => by have : c ∈ [101, 111] := hc; simpa using this
theorem EO_oe : EO "oe" := fun c hc => by have : c ∈ [111, 101] := hc; simp at this; exact this.symm
/-- a rule's numbers -/
def FA (f a : Int) : Prop := 1 ≤ f ∧ f ≤ 99 ∧ f % 2 = 1 ∧ -99 ≤ a ∧ a ≤ 99 ∧ a % 2 = 1
theorem FA31 : FA 3 1 := by unfold FA; decide

/-! snippet word: _law_word -/
theorem word_st {m0 m : Sto} {n : Nat} {c : Int} {most : Int} {K : D → Sto → Prop} {X : Nat → D → Sto → Prop} (S : St n c m0 m) (hc : c ≤ 80000) (h0 : 0 ≤ most) (h1 : most ≤ 100) (k : ∀ (s : Str) (m' : Sto), s.length ≤ most → EO s → St n (c + 110) m0 m' → K (.str s) m') :
    Run (F__law_word [.loc n, .int most] m) (resC K X) := by
  unfold F__law_word
  rw [run_fn (by rfl)]
  have S0 := St.start S.box
  simp [g__law_word]
  refine take_st S0 (by omega) (by omega) (by omega) fun r1 m1 p1 q1 S1 _ => ?_
  refine take_st S1 (by omega) (by split <;> omega) (by split <;> omega) fun r2 m2 p2 q2 S2 _ => ?_
  refine take_st S2 (by omega) (by decide) (by decide) fun r3 m3 p3 q3 S3 _ => ?_
  have hm : ∃ many : Nat, L2.atI [D.int r1, D.int r2, D.int most] r3 = some (.int (many : Int)) ∧ many ≤ most := by
    obtain ⟨d, e1, hd⟩ := atI_mem (xs := [D.int r1, D.int r2, D.int most]) p3 q3
    simp only [List.mem_cons, List.not_mem_nil, or_false] at hd
    have q2' : r2 < most + 1 := by split at q2 <;> omega
    rcases hd with rfl | rfl | rfl
    · exact ⟨r1.toNat, by rw [e1, show ((r1.toNat : Nat) : Int) = r1 by omega], by omega⟩
    · exact ⟨r2.toNat, by rw [e1, show ((r2.toNat : Nat) : Int) = r2 by omega], by omega⟩
    · exact ⟨most.toNat, by rw [e1, show ((most.toNat : Nat) : Int) = most by omega], by omega⟩
  obtain ⟨many, em, hmany⟩ := hm
  simp [em]
  refine take_st S3 (by omega) (by decide) (by decide) fun r4 m4 p4 q4 S4 _ => ?_
  rw [run_rng1 (n := many) (m1 := m4) (by rfl) (by omega)]
  simp
  refine for_inv (fun i e m' => ∃ s kk sl, e = [some (.loc n), some (.int most), some (.int (many : Int)), some (.int r4), some (.str s), kk, sl] ∧ s.length = i ∧ EO s ∧ St n (c + 4 + i) m m') ?_ ?_ ?_
  · exact ⟨_, _, _, rfl, rfl, EO_nil, S4.mono (by omega)⟩
  · rintro i d e m' hd ⟨s, kk, sl, rfl, hs, hk0, S⟩
    obtain ⟨hi, rfl⟩ := rngD_at hd
    refine ⟨_, rfl, ?_⟩
    simp
    refine take_st S (by omega) (by decide) (by decide) fun r5 m5 p5 q5 S5 _ => ?_
    obtain ⟨c1, e1, w1⟩ := ix_sign (z := "eo") (m := m5) p5 q5 (by decide)
    have hf := fmod_pos (a := (i : Int)) (b := 2) (by decide)
    obtain ⟨c2, e2, w2⟩ := ix_sign (z := "eo") (m := m5) hf.1 hf.2 (by decide)
    obtain ⟨c3, e3, w3⟩ := ix_sign (z := "oe") (m := m5) hf.1 hf.2 (by decide)
    simp [e1, e2, e3]
    obtain ⟨d, e4, hd⟩ := atI_mem (xs := [D.str "e", D.str "o", D.str ⟨#[c2]⟩, D.str ⟨#[c3]⟩, D.str ⟨#[c1]⟩, D.str ⟨#[c1]⟩]) p4 q4
    refine Run.of e4 ?_
    have ho : ∃ s : Str, d = .str s ∧ s.length = 1 ∧ EO s := by
      simp only [List.mem_cons, List.not_mem_nil, or_false] at hd
      rcases hd with rfl | rfl | rfl | rfl | rfl | rfl
      · exact ⟨_, rfl, rfl, EO_e⟩
      · exact ⟨_, rfl, rfl, EO_o⟩
      · exact ⟨_, rfl, rfl, EO_eo.mem w2⟩
      · exact ⟨_, rfl, rfl, EO_oe.mem w3⟩
      · exact ⟨_, rfl, rfl, EO_eo.mem w1⟩
      · exact ⟨_, rfl, rfl, EO_eo.mem w1⟩
    obtain ⟨z, rfl, hz, hk⟩ := ho
    rw [addD_str, run_if]
    exact ⟨by omega, _, rfl, by rw [PySem.strLen_append]; omega, hk0.app hk, S5.mono (by omega)⟩
  · rintro e m' ⟨s, kk, sl, rfl, hs, hk0, S'⟩
    simp
    rw [rngD_len] at hs S'
    exact S.fin0 (S'.mono (by omega)) fun m2 S2 => k s m2 (by omega) hk0 S2

/-! snippet rule: _law_rule -/
theorem rule_st {m0 m : Sto} {n : Nat} {c : Int} {K : D → Sto → Prop} {X : Nat → D → Sto → Prop} (S : St n c m0 m) (hc : c ≤ 80000) (k : ∀ (f a : Int) (m' : Sto), FA f a → St n (c + 4) m0 m' → K (.tup [.int f, .int a]) m') :
    Run (F__law_rule [.loc n] m) (resC K X) := by
  unfold F__law_rule
  rw [run_fn (by rfl)]
  have S0 := St.start S.box
  simp [g__law_rule]
  refine take_st S0 (by omega) (by decide) (by decide) fun r1 m1 p1 q1 S1 _ => ?_
  simp
  refine take_st S1 (by omega) (by decide) (by decide) fun r2 m2 p2 q2 S2 _ => ?_
  obtain ⟨d, e1, hd⟩ := atI_mem (xs := [D.int 3, D.int 1, D.int 5, D.int 7, D.int 99, D.int (1 + 2 * r1)]) p2 q2
  have hf : ∃ f, d = .int f ∧ 1 ≤ f ∧ f ≤ 99 ∧ f % 2 = 1 := by
    simp only [List.mem_cons, List.not_mem_nil, or_false] at hd
    rcases hd with rfl | rfl | rfl | rfl | rfl | rfl <;> refine ⟨_, rfl, ?_⟩ <;> omega
  obtain ⟨f, rfl, hf⟩ := hf
  simp [e1]
  refine take_st S2 (by omega) (by decide) (by decide) fun r3 m3 p3 q3 S3 _ => ?_
  simp
  refine take_st S3 (by omega) (by decide) (by decide) fun r4 m4 p4 q4 S4 _ => ?_
  obtain ⟨d, e2, hd⟩ := atI_mem (xs := [D.int 1, D.int (-1), D.int 99, D.int (-99), D.int (2 * r3 - 99), D.int 5]) p4 q4
  have ha : ∃ a, d = .int a ∧ -99 ≤ a ∧ a ≤ 99 ∧ a % 2 = 1 := by
    simp only [List.mem_cons, List.not_mem_nil, or_false] at hd
    rcases hd with rfl | rfl | rfl | rfl | rfl | rfl <;> refine ⟨_, rfl, ?_⟩ <;> omega
  obtain ⟨a, rfl, ha⟩ := ha
  simp [e2]
  exact S.fin0 (S4.mono (by omega)) fun m' S' => k f a m' ⟨hf.1, hf.2.1, hf.2.2, ha.1, ha.2.1, ha.2.2⟩ S'

/-! snippet mkrule: is_whole of integers, Rule(..) -/
def rl (f a : Int) : D := .ob (1 : Nat) [.int f, .int a]
theorem whole_int {m : Sto} {i lo hi : Int} : F_is_whole [.int i, .int lo, .int hi] m = some (.ok (.bl (decide (lo ≤ i) && decide (i ≤ hi))) m) := by
  refine Run.eq ?_
  unfold F_is_whole
  rw [run_fn (by rfl)]
  have t1 : tab (.bi .int) (.bi .int) = some true := rfl
  have t2 : tab (.bi .int) (.bi .bool) = some false := rfl
  by_cases h1 : lo ≤ i <;> simp [g_is_whole, isiD_eq, tyD, t1, t2, h1]
theorem putFD_nil {f : Str} {d : D} : putFD f d [] = [(f, d)] := rfl
theorem mkrule_ok {m2 : Sto} {f a : Int} {P : Res → Prop} (h : FA f a) (hP : P (.ok (rl f a) m2)) : Run (F_Rule___init__ [.loc m2.length, .int f, .int a] (m2 ++ [.ins (1 : Nat) []])) (mkC fnm (1 : Nat) m2 P) := by
  obtain ⟨h1, h2, h3, h4, h5, h6⟩ := h
  have f2 : f.fmod 2 = 1 := by rw [Int.fmod_eq_emod_of_nonneg _ (by decide)]; exact h3
  have a2 : a.fmod 2 = 1 := by rw [Int.fmod_eq_emod_of_nonneg _ (by decide)]; exact h6
  have e1 : ∀ m, F_is_whole [.int f, .int 1, .int 99] m = some (.ok (.bl true) m) := fun m => by rw [whole_int]; simp [h1, h2]
  have e2 : ∀ m, F_is_whole [.int a, .int (-99), .int 99] m = some (.ok (.bl true) m) := fun m => by rw [whole_int]; simp [h4, h5]
  unfold F_Rule___init__
  rw [run_fn (by rfl)]
  simp [g_Rule___init__, e1, e2, f2, a2]
  rw [stoF_new (m := m2) (fs := []) ⟨by decide, by decide, by decide⟩, run_some, putFD_nil, stoF_new (m := m2) (fs := [(("times" : Str), D.int f)]) ⟨by decide, by decide, by simp⟩, run_some, fin_len]
  · exact mkC_ok rfl rfl hP
  · simp

/-! snippet rulem: rule.factor(), rule.addend(), need_rule -/
@[simp] theorem ob_factor {f a : Int} {m : Sto} {env : Nv} {P : Res → Prop} : obC fnm (mOf [((1 : Nat), F_Rule_factor)]) [] env P (.ok (rl f a) m) ↔ P (.ok (.int f) m) := by
  unfold rl
  rw [obC_ok mOf_hit rfl]
  simp
  unfold F_Rule_factor
  rw [run_fn (by rfl)]
  have e : fldD (2 : Nat) fnm "times" (.ob (1 : Nat) [.int f, .int a]) m = some (.int f) := fldD_ob (by decide) rfl
  simp [g_Rule_factor, e]
@[simp] theorem ob_addend {f a : Int} {m : Sto} {env : Nv} {P : Res → Prop} : obC fnm (mOf [((1 : Nat), F_Rule_addend)]) [] env P (.ok (rl f a) m) ↔ P (.ok (.int a) m) := by
  unfold rl
  rw [obC_ok mOf_hit rfl]
  simp
  unfold F_Rule_addend
  rw [run_fn (by rfl)]
  have e : fldD (2 : Nat) fnm "plus" (.ob (1 : Nat) [.int f, .int a]) m = some (.int a) := fldD_ob (by decide) rfl
  simp [g_Rule_addend, e]
theorem need_rule_ok {f a : Int} {m : Sto} : F_need_rule [rl f a] m = some (.ok .non m) := by
  refine Run.eq ?_
  unfold F_need_rule
  rw [run_fn (by rfl)]
  simp [g_need_rule, isiD_eq, tyD, rl]

/-! snippet isword: is_word, need_word of words -/
theorem sgn_e (c : Nat) : (("e" : Str) == ⟨#[c]⟩) = decide (c = 101) := by
  by_cases h : c = 101
  · subst h; decide
  · simp [h]
    intro z
    have : (#[101] : Array Nat) = #[c] := congrArg Str.cps z
    simp at this
    exact h this.symm
theorem sgn_o (c : Nat) : (("o" : Str) == ⟨#[c]⟩) = decide (c = 111) := by
  by_cases h : c = 111
  · subst h; decide
  · simp [h]
    intro z
    have : (#[111] : Array Nat) = #[c] := congrArg Str.cps z
    simp at this
    exact h this.symm
theorem is_o (c : Nat) : ((⟨#[c]⟩ : Str) = "o") ↔ c = 111 := by
  constructor
  · intro z
    have : (#[c] : Array Nat) = #[111] := congrArg Str.cps z
    simpa using this
  · intro z; subst z; rfl
def isEO (c : Nat) : Bool := decide (c = 101) || decide (c = 111)
def allEO (s : Str) : Bool := s.cps.toList.all isEO
theorem allEO_iff (s : Str) : allEO s = true ↔ EO s := by
  unfold allEO EO isEO
  rw [List.all_eq_true]
  simp
def wd (s : Str) : Bool := decide (s.length ≤ 60) && allEO s
theorem word_eq {m : Sto} {s : Str} (hl : s.length ≤ 1000) : F_is_word [.str s] m = some (.ok (.bl (wd s)) m) := by
  refine Run.eq ?_
  unfold F_is_word
  rw [run_fn (by rfl)]
  have t1 : tab (.bi .str) (.bi .str) = some true := rfl
  have hl2 : s.length ≤ 1000000 := by omega
  by_cases h60 : 60 < (s.length : Int)
  · simp [g_is_word, isiD_eq, tyD, t1, wd, hl2, h60]
    omega
  · simp [g_is_word, isiD_eq, tyD, t1, wd, hl2, h60]
    rw [lc_map (k := fun _ => true) (h := fun c => .bl (isEO c)) fun c _ => ⟨_, rfl, rfl, fun _ => ?_⟩]
    · have e : (List.map (fun c => D.bl (isEO c)) (List.filter (fun _ => true) s.cps.toList)) = (s.cps.toList.map isEO).map .bl := by rw [List.filter_eq_self.mpr (fun _ _ => rfl), List.map_map]; rfl
      rw [List.nil_append, e]
      have hlen : s.cps.toList.length = s.length := by simp [Str.length]
      have h60' : decide (s.length ≤ 60) = true := by simp; omega
      rw [run_some, reslC_ok, allD_bls, run_some]
      refine ⟨by rw [List.length_map, List.length_map, hlen]; omega, ?_⟩
      rw [fin_len rfl, h60']
      refine ⟨?_, rfl⟩
      unfold allEO
      rw [List.all_map]
      rfl
    · have : isEO c = ((("e" : Str) == ⟨#[c]⟩) || ((("o" : Str) == ⟨#[c]⟩) || false)) := by
        rw [sgn_e, sgn_o, Bool.or_false]; rfl
      rw [this]
      rfl
theorem wd_of {s : Str} (h : EO s) (hl : s.length ≤ 60) : wd s = true := by
  unfold wd
  rw [(allEO_iff s).mpr h]
  simp [hl]
theorem need_word_ok {m : Sto} {s : Str} (h : EO s) (hl : s.length ≤ 60) : F_need_word [.str s] m = some (.ok .non m) := by
  refine Run.eq ?_
  unfold F_need_word
  rw [run_fn (by rfl)]
  simp [g_need_word, word_eq (show s.length ≤ 1000 by omega), wd_of h hl]
theorem EO_lit {s : Str} (h : allEO s = true) : EO s := (allEO_iff s).mp h

/-! snippet ledd: what a word leads by -/
def stp (f a : Int) (x : Int × Int × Int) (c : Nat) : Int × Int × Int := if c = 111 then (x.1 * f, x.2.1 * f + a * x.2.2, x.2.2 * 2) else (x.1, x.2.1, x.2.2 * 2)
def led (f a : Int) (cs : List Nat) : Int × Int × Int := cs.foldl (stp f a) (1, 0, 1)
def mapD (x : Int × Int × Int) : D := .tup [.int x.1, .int x.2.1, .int x.2.2]
theorem led_snoc (f a : Int) (cs : List Nat) (c : Nat) : led f a (cs ++ [c]) = stp f a (led f a cs) c := by
  unfold led; rw [List.foldl_append]; rfl
theorem take_snoc {cs : List Nat} {i c : Nat} (q : cs[i]? = some c) : cs.take (i + 1) = cs.take i ++ [c] := by rw [List.take_add_one, q]; rfl

/-! snippet led: led_by -/
theorem led_ok {m : Sto} {f a : Int} {s : Str} (h : FA f a) : F_led_by [rl f a, .str s] m = some (.ok (mapD (led f a s.cps.toList)) m) := by
  obtain ⟨h1, h2, h3, h4, h5, h6⟩ := h
  refine Run.eq ?_
  unfold F_led_by
  rw [run_fn (by rfl)]
  simp [g_led_by, gT, gTs, gN]
  refine for_inv (fun i e m' => m' = m ∧ ∃ sl, e = [some (rl f a), some (.str s), some (.int (led f a (s.cps.toList.take i)).1), some (.int (led f a (s.cps.toList.take i)).2.1), some (.int (led f a (s.cps.toList.take i)).2.2), sl]) ⟨rfl, _, rfl⟩ ?_ ?_
  · rintro i d e m' hd ⟨rfl, sl, rfl⟩
    rw [List.getElem?_map] at hd
    cases q : s.cps.toList[i]? with
    | none => rw [q] at hd; cases hd
    | some c =>
      rw [q] at hd
      cases hd
      refine ⟨_, rfl, ?_⟩
      rw [take_snoc q, led_snoc]
      generalize led f a (s.cps.toList.take i) = x
      have b1 : f.natAbs < 2 ^ 64 := by omega
      have b2 : a.natAbs < 2 ^ 64 := by omega
      by_cases hc : c = 111
      · subst hc
        have hc2 : (⟨#[111]⟩ : Str) = "o" := (is_o 111).mpr rfl
        simp [hc2, b1, b2, stp]
      · have hc2 : ¬ (⟨#[c]⟩ : Str) = "o" := fun z => hc ((is_o c).mp z)
        simp [hc2, stp, hc]
  · rintro e m' ⟨rfl, sl, rfl⟩
    rw [List.length_map, List.take_length]
    simp [mapD]

/-! snippet ledm: led, what it computes -/
theorem led_app_gen (f a T P Z : Int) : ∀ (ds : List Nat) (x y : Int × Int × Int), x = (y.1 * T, y.1 * P + y.2.1 * Z, y.2.2 * Z) → ds.foldl (stp f a) x = ((ds.foldl (stp f a) y).1 * T, (ds.foldl (stp f a) y).1 * P + (ds.foldl (stp f a) y).2.1 * Z, (ds.foldl (stp f a) y).2.2 * Z)
  | [], x, y, h => h
  | c :: ds, x, y, h => by
    rw [List.foldl_cons, List.foldl_cons]
    refine led_app_gen f a T P Z ds _ _ ?_
    subst h
    unfold stp
    split
    · simp only [Prod.mk.injEq]
      refine ⟨by grind, by grind, by grind⟩
    · simp only [Prod.mk.injEq]
      refine ⟨trivial, trivial, by grind⟩
theorem led_app (f a : Int) (cs ds : List Nat) : led f a (cs ++ ds) = ((led f a ds).1 * (led f a cs).1, (led f a ds).1 * (led f a cs).2.1 + (led f a ds).2.1 * (led f a cs).2.2, (led f a ds).2.2 * (led f a cs).2.2) := by
  unfold led
  rw [List.foldl_append]
  refine led_app_gen f a _ _ _ ds _ _ ?_
  simp
theorem led_bound {f a : Int} (h : FA f a) : ∀ (n : Nat) (cs : List Nat), cs.length = n → (led f a cs).1.natAbs ≤ 2 ^ (8 * n) ∧ (led f a cs).2.1.natAbs ≤ 2 ^ (8 * n) ∧ (led f a cs).2.2.natAbs ≤ 2 ^ (8 * n)
  | 0, cs, hl => by
    have : cs = [] := List.length_eq_zero_iff.mp hl
    subst this
    exact ⟨(by decide : (1 : Int).natAbs ≤ 1), (by decide : (0 : Int).natAbs ≤ 1), (by decide : (1 : Int).natAbs ≤ 1)⟩
  | n + 1, cs, hl => by
    have hne : cs ≠ [] := by intro z; subst z; cases hl
    rw [← List.dropLast_concat_getLast hne, led_snoc]
    obtain ⟨b1, b2, b3⟩ := led_bound h n cs.dropLast (by rw [List.length_dropLast]; omega)
    generalize led f a cs.dropLast = x at b1 b2 b3
    obtain ⟨h1, h2, h3, h4, h5, h6⟩ := h
    have e : 2 ^ (8 * (n + 1)) = 256 * 2 ^ (8 * n) := by rw [Nat.mul_add, Nat.pow_add]; omega
    rw [e]
    generalize 2 ^ (8 * n) = N at b1 b2 b3
    have f1 : f.natAbs ≤ 99 := by omega
    have a1 : a.natAbs ≤ 99 := by omega
    unfold stp
    split
    · refine ⟨?_, ?_, ?_⟩
      · show (x.1 * f).natAbs ≤ _
        rw [Int.natAbs_mul]
        exact Nat.le_trans (Nat.mul_le_mul b1 f1) (by omega)
      · show (x.2.1 * f + a * x.2.2).natAbs ≤ _
        refine Nat.le_trans (Int.natAbs_add_le _ _) ?_
        rw [Int.natAbs_mul, Int.natAbs_mul]
        have q1 := Nat.mul_le_mul b2 f1
        have q2 := Nat.mul_le_mul a1 b3
        omega
      · show (x.2.2 * 2).natAbs ≤ _
        omega
    · refine ⟨?_, ?_, ?_⟩
      · show x.1.natAbs ≤ _
        omega
      · show x.2.1.natAbs ≤ _
        omega
      · show (x.2.2 * 2).natAbs ≤ _
        omega
theorem led_power (f a : Int) (cs : List Nat) : (led f a cs).1 = f ^ (cs.filter fun c => decide (c = 111)).length := by
  have key : ∀ (cs : List Nat) (x : Int × Int × Int), (cs.foldl (stp f a) x).1 = x.1 * f ^ (cs.filter fun c => decide (c = 111)).length := by
    intro cs
    induction cs with
    | nil => intro x; simp
    | cons c cs ih =>
      intro x
      rw [List.foldl_cons, ih, List.filter_cons]
      unfold stp
      split
      · rename_i h
        rw [if_pos (by simpa using h), List.length_cons, Int.pow_succ]
        show x.1 * f * _ = _
        grind
      · rename_i h
        rw [if_neg (by simpa using h)]
  have := key cs (1, 0, 1)
  rw [Int.one_mul] at this
  exact this
theorem big_of {i : Int} {k : Nat} (h : i.natAbs ≤ 2 ^ k) (hk : k < 399999) : big i := by
  unfold big BITS
  have : i.natAbs < 2 ^ (k + 1) := by rw [Nat.pow_succ]; have := Nat.pos_of_ne_zero (show 2 ^ k ≠ 0 from Nat.ne_of_gt (Nat.pow_pos (by decide))); omega
  exact Nat.lt_of_lt_of_le (log2_lt this (by omega)) (by omega)
theorem log_of {i : Int} {k : Nat} (h : i.natAbs ≤ 2 ^ k) (hk : k < 1919) : i.natAbs.log2 < 1920 := by
  have : i.natAbs < 2 ^ (k + 1) := by rw [Nat.pow_succ]; have := Nat.pos_of_ne_zero (show 2 ^ k ≠ 0 from Nat.ne_of_gt (Nat.pow_pos (by decide))); omega
  exact Nat.lt_of_lt_of_le (log2_lt this (by omega)) (by omega)
theorem led_b {f a : Int} (h : FA f a) (s : Str) (hl : s.length ≤ 130) : (led f a s.cps.toList).1.natAbs ≤ 2 ^ 1040 ∧ (led f a s.cps.toList).2.1.natAbs ≤ 2 ^ 1040 ∧ (led f a s.cps.toList).2.2.natAbs ≤ 2 ^ 1040 := by
  have hlen : s.cps.toList.length = s.length := by simp [Str.length]
  obtain ⟨b1, b2, b3⟩ := led_bound h _ _ hlen
  have : 2 ^ (8 * s.length) ≤ 2 ^ 1040 := Nat.pow_le_pow_right (by decide) (by omega)
  exact ⟨Nat.le_trans b1 this, Nat.le_trans b2 this, Nat.le_trans b3 this⟩
theorem ps_map {m : Sto} {x : Int × Int × Int} (h : x.1.natAbs ≤ 2 ^ 1040 ∧ x.2.1.natAbs ≤ 2 ^ 1040 ∧ x.2.2.natAbs ≤ 2 ^ 1040) : Ps xtx m (mapD x) 1 6000 :=
  (Ps.tup (.cons (Ps.int (log_of h.1 (by decide))) (.cons (Ps.int (log_of h.2.1 (by decide))) (.cons (Ps.int (log_of h.2.2 (by decide))) .nil)))).mono (Nat.le_refl _) (by decide)
theorem pd_map {m : Sto} {x : Int × Int × Int} : Pd m (mapD x) 1 := .tup (.cons .int (.cons .int (.cons .int .nil)))
theorem app_cps (a b : Str) : (a ++ b).cps.toList = a.cps.toList ++ b.cps.toList := Array.toList_append

/-! snippet wk: walks of integers -/
def nxI (f a n : Int) : Int := if n.fmod 2 = 1 then (f * n + a).fdiv 2 else n.fdiv 2
def wkI (f a n : Int) : Nat → Int
  | 0 => n
  | k + 1 => nxI f a (wkI f a n k)
def ltN (n : Int) : Nat := if n.fmod 2 = 1 then 111 else 101
def wdL (f a n : Int) (k : Nat) : List Nat := (List.range k).map fun i => ltN (wkI f a n i)
def rowD (f a n : Int) (k : Nat) : List D := (List.range (k + 1)).map fun i => .int (wkI f a n i)
theorem rowD_succ (f a n : Int) (k : Nat) : rowD f a n (k + 1) = rowD f a n k ++ [.int (wkI f a n (k + 1))] := by
  unfold rowD
  rw [List.range_succ, List.map_append]
  rfl
theorem rowD_len (f a n : Int) (k : Nat) : (rowD f a n k).length = k + 1 := by simp [rowD]
theorem rowD_take (f a n : Int) (k : Nat) : (rowD f a n k).take k = (List.range k).map fun i => .int (wkI f a n i) := by
  unfold rowD
  rw [List.range_succ, List.map_append, List.take_left' (by simp)]
theorem ltN_mem (n : Int) : ltN n = 101 ∨ ltN n = 111 := by unfold ltN; split <;> simp
theorem EO_wd (f a n : Int) (k : Nat) : EO (sgnS (wdL f a n k)) := fun c hc => by
  rw [sgnS_cps] at hc
  obtain ⟨i, _, rfl⟩ := List.mem_map.mp hc
  exact ltN_mem _
theorem fmod2 (n : Int) : n.fmod 2 = 0 ∨ n.fmod 2 = 1 := by
  have := fmod_pos (a := n) (b := 2) (by decide)
  omega
theorem nx_bound {f a n : Int} (h1 : f.natAbs ≤ 99) (h2 : a.natAbs ≤ 99) : (nxI f a n).natAbs + 1 ≤ (n.natAbs + 1) * 64 := by
  unfold nxI
  split
  · rw [Int.fdiv_eq_ediv_of_nonneg _ (by decide)]
    have q : (f * n).natAbs ≤ 99 * n.natAbs := by rw [Int.natAbs_mul]; exact Nat.mul_le_mul_right _ h1
    generalize f * n = y at q
    omega
  · rw [Int.fdiv_eq_ediv_of_nonneg _ (by decide)]
    omega
theorem wk_bound {f a n : Int} (h1 : f.natAbs ≤ 99) (h2 : a.natAbs ≤ 99) : ∀ k : Nat, (wkI f a n k).natAbs + 1 ≤ (n.natAbs + 1) * 64 ^ k
  | 0 => by simp [wkI]
  | k + 1 => by
    have := wk_bound (n := n) h1 h2 k
    refine Nat.le_trans (nx_bound h1 h2) ?_
    rw [Nat.pow_succ, ← Nat.mul_assoc]
    exact Nat.mul_le_mul_right _ this
theorem wk_le {f a n : Int} (h1 : f.natAbs ≤ 99) (h2 : a.natAbs ≤ 99) {k b : Nat} (hn : n.natAbs < 2 ^ b) : (wkI f a n k).natAbs ≤ 2 ^ (b + 6 * k) := by
  have h := wk_bound (n := n) h1 h2 k
  have e : 64 ^ k = 2 ^ (6 * k) := by rw [Nat.pow_mul]
  rw [e] at h
  have : (n.natAbs + 1) * 2 ^ (6 * k) ≤ 2 ^ b * 2 ^ (6 * k) := Nat.mul_le_mul_right _ hn
  rw [Nat.pow_add]
  omega

/-! snippet whiled: while, by a measure -/
end LW
namespace PM
open PySem PySem.Spec L2 PyProof.Rows
def whC (Inv : Nv → Sto → Prop) (PO : Out → Prop) : Out → Prop
  | .nx e m => Inv e m
  | .ct e m => Inv e m
  | .bk e m => PO (.nx e m)
  | .rt d m => PO (.rt d m)
  | .exn e c d m => PO (.exn e c d m)
theorem run_whileD {t : FE} {b : FS} {PO : Out → Prop} (Inv : Nat → Nv → Sto → Prop)
    (step : ∀ k e m, Inv k e m → Run (t e m) (resC (fun d m1 => Run (truth d m1) fun q => if q = true then Run (b e m1) (whC (fun e' m' => ∃ j, j < k ∧ Inv j e' m') PO) else PO (.nx e m1)) fun c d m1 => PO (.exn e c d m1))) :
    ∀ (n k : Nat) (e : Nv) (m : Sto), k < n → Inv k e m → Run (whileD t b n e m) PO := by
  intro n
  induction n with
  | zero => intro k e m h; omega
  | succ n ih =>
    intro k e m hk hI
    obtain ⟨r, e1, h1⟩ := step k e m hI
    simp only [whileD]
    rw [e1]
    cases r with
    | exn c d m1 => exact ⟨_, rfl, h1⟩
    | ok d m1 =>
      obtain ⟨q, e2, h2⟩ := h1
      simp only [bnds, e2]
      cases q with
      | false => exact ⟨_, rfl, by simpa using h2⟩
      | true =>
        simp only [if_true] at h2
        obtain ⟨o, e3, h3⟩ := h2
        simp only
        rw [e3]
        cases o with
        | nx e4 m4 => obtain ⟨j, hj, h4⟩ := h3; exact ih j e4 m4 (by omega) h4
        | ct e4 m4 => obtain ⟨j, hj, h4⟩ := h3; exact ih j e4 m4 (by omega) h4
        | bk e4 m4 => exact ⟨_, rfl, h3⟩
        | rt d m4 => exact ⟨_, rfl, h3⟩
        | exn e4 c d m4 => exact ⟨_, rfl, h3⟩
theorem run_while {t : FE} {b : FS} {PO : Out → Prop} {env : Nv} {m : Sto} (Inv : Nat → Nv → Sto → Prop) (k : Nat) (hk : k < 2 ^ 60) (h0 : Inv k env m)
    (step : ∀ k e m, Inv k e m → Run (t e m) (resC (fun d m1 => Run (truth d m1) fun q => if q = true then Run (b e m1) (whC (fun e' m' => ∃ j, j < k ∧ Inv j e' m') PO) else PO (.nx e m1)) fun c d m1 => PO (.exn e c d m1))) :
    Run (sWhile t b env m) PO := run_whileD Inv step fuel k env m hk h0
@[simp] theorem whC_nx {Inv : Nv → Sto → Prop} {PO : Out → Prop} {e : Nv} {m : Sto} : whC Inv PO (.nx e m) = Inv e m := rfl
end PM
namespace LW
open PySem PySem.Spec L2 PyProof.Rows PM

/-! snippet oddv (lists as values): values of any kind, _law_odd, _law_grown -/
theorem tab_b {a b : BT} (ha : a ≠ .val) (hb : b ≠ .val) : tab (.bi a) (.bi b) = some (isiBi a b) := by
  show (if a = .val ∨ b = .val then none else some (isiBi a b)) = _
  rw [if_neg (fun z => z.elim ha hb)]
def Flat (d : D) : Prop := (∃ i, d = .int i ∧ i.natAbs ≤ 2 ^ 400) ∨ (∃ s, d = .str s ∧ s.length ≤ 100 ∧ okS s)
def FlatE (p : Key × D) : Prop := (∃ s, p.1 = .inr s ∧ s.length ≤ 100 ∧ okS s) ∧ Flat p.2
/-- a value of any kind; what it leads to stands in no place n, and holds at most L items -/
inductive Thg (n L : Nat) (m : Sto) : D → Prop
  | non : Thg n L m .non
  | bl (b : Bool) : Thg n L m (.bl b)
  | int (i : Int) (h : i.natAbs ≤ 2 ^ 1000) : Thg n L m (.int i)
  | str (s : Str) (hl : s.length ≤ 900) (h : okS s) : Thg n L m (.str s)
  | tup (xs : List D) (hl : xs.length ≤ L) (h : ∀ x ∈ xs, Flat x) : Thg n L m (.tup xs)
  | exc (d : D) (h : Flat d) : Thg n L m (.exc (4 : Nat) d)
  | lsv (xs : List D) (hl : xs.length ≤ L) (h : ∀ x ∈ xs, Flat x) : Thg n L m (.lst xs)
  | lst (q : Nat) (xs : List D) (e : m[q]? = some (.lst xs)) (hn : q ≠ n) (hl : xs.length ≤ L) (h : ∀ x ∈ xs, Flat x) : Thg n L m (.loc q)
  | dct (q : Nat) (kvs : List (Key × D)) (e : m[q]? = some (.dct kvs)) (hn : q ≠ n) (hl : kvs.length ≤ L) (h : ∀ x ∈ kvs, FlatE x) : Thg n L m (.loc q)
theorem Thg.keep {n L : Nat} {m m' : Sto} {d : D} (h : Thg n L m d) (g : Grow n m m') : Thg n L m' d := by
  cases h with
  | non => exact .non
  | bl b => exact .bl b
  | int i h => exact .int i h
  | str s hl h => exact .str s hl h
  | tup xs hl h => exact .tup xs hl h
  | lsv xs hl h => exact .lsv xs hl h
  | exc d h => exact .exc d h
  | lst q xs e hn hl h => exact .lst q xs (by rw [g.2 q (List.getElem?_eq_some_iff.mp e).1 hn]; exact e) hn hl h
  | dct q xs e hn hl h => exact .dct q xs (by rw [g.2 q (List.getElem?_eq_some_iff.mp e).1 hn]; exact e) hn hl h
theorem Thg.mono {n L L' : Nat} {m : Sto} {d : D} (h : Thg n L m d) (hL : L ≤ L') : Thg n L' m d := by
  cases h with
  | non => exact .non
  | bl b => exact .bl b
  | int i h => exact .int i h
  | str s hl h => exact .str s hl h
  | tup xs hl h => exact .tup xs (by omega) h
  | lsv xs hl h => exact .lsv xs (by omega) h
  | exc d h => exact .exc d h
  | lst q xs e hn hl h => exact .lst q xs e hn (by omega) h
  | dct q xs e hn hl h => exact .dct q xs e hn (by omega) h
theorem ps_flat {m : Sto} {d : D} (h : Flat d) (k : Nat) : Ps xtx m d k 1921 := by
  rcases h with ⟨i, rfl, h⟩ | ⟨s, rfl, h1, h2⟩
  · refine .int ?_
    have : i.natAbs < 2 ^ 401 := by rw [Nat.pow_succ]; have := Nat.pow_pos (n := 400) (show 0 < 2 by decide); omega
    exact Nat.lt_of_lt_of_le (log2_lt this (by decide)) (by decide)
  · exact (Ps.str h2 (by omega)).mono (Nat.le_refl _) (by omega)
theorem ps_flatE {m : Sto} (k : Nat) : ∀ {kvs : List (Key × D)}, (∀ p ∈ kvs, FlatE p) → PsE xtx m kvs k (kvs.length * 3000)
  | [], _ => .nil
  | (q, d) :: kvs, h => by
    obtain ⟨⟨s, e, h1, h2⟩, hf⟩ := h _ List.mem_cons_self
    have e : q = .inr s := e
    subst e
    have r1 := StrLaws.reprText_len s (fun c hc => Nat.lt_trans (h2 c hc) (by decide))
    have hq : keyT (.inr s) = some (reprText s) := if_pos (by omega)
    have := PsE.cons (m := m) (l := 1002) hq (by omega) (ps_flat hf k) (ps_flatE k fun p hp => h p (List.mem_cons_of_mem _ hp))
    obtain ⟨a, ts, t1, t2, t3⟩ := this
    refine ⟨a, ts, t1, ?_, t3⟩
    rw [List.length_cons, Nat.succ_mul]
    omega
theorem Thg.ps {n L : Nat} {m : Sto} {d : D} (h : Thg n L m d) (hL : L ≤ 100) : Ps xtx m d 1 400000 := by
  cases h with
  | non => exact Ps.non.mono (Nat.le_refl _) (by decide)
  | bl b => exact Ps.bl.mono (Nat.le_refl _) (by decide)
  | int i h =>
    refine (Ps.int ?_).mono (Nat.le_refl _) (by decide)
    have : i.natAbs < 2 ^ 1001 := by rw [Nat.pow_succ]; have := Nat.pow_pos (n := 1000) (show 0 < 2 by decide); omega
    exact Nat.lt_of_lt_of_le (log2_lt this (by decide)) (by decide)
  | str s hl h => exact (Ps.str h (by omega)).mono (Nat.le_refl _) (by omega)
  | tup xs hl h =>
    have hx : xs.length * 1923 ≤ 100 * 1923 := Nat.mul_le_mul_right _ (by omega)
    exact (Ps.tup (k := 0) (PsL.all fun x hx => ps_flat (h x hx) 0)).mono (Nat.le_refl _) (by omega)
  | lsv xs hl h =>
    have hx : xs.length * 1923 ≤ 100 * 1923 := Nat.mul_le_mul_right _ (by omega)
    exact (Ps.lst (k := 0) (PsL.all fun x hx => ps_flat (h x hx) 0)).mono (Nat.le_refl _) (by omega)
  | exc d h => exact Ps.exc (p := ("NoHalf", "the fraction is odd")) rfl (by decide +kernel)
  | lst q xs e hn hl h =>
    have hx : xs.length * 1923 ≤ 100 * 1923 := Nat.mul_le_mul_right _ (by omega)
    exact (Ps.loc (k := 0) e (PsL.all fun x hx => ps_flat (h x hx) 0)).mono (Nat.le_refl _) (by omega)
  | dct q kvs e hn hl h =>
    have hx : kvs.length * 3000 ≤ 100 * 3000 := Nat.mul_le_mul_right _ (by omega)
    exact (Ps.dct (k := 0) e (ps_flatE 0 h)).mono (Nat.le_refl _) (by omega)
/-- places that the store of the start did not hold -/
def New (m0 : Sto) (d : D) : Prop := ∀ q, d = .loc q → m0.length ≤ q
theorem odd_st {m0 m : Sto} {n : Nat} {c : Int} {K : D → Sto → Prop} {X : Nat → D → Sto → Prop} (S : St n c m0 m) (hc : c ≤ 80000) (k : ∀ (d : D) (m' : Sto), Thg n 1 m' d → New m d → St n (c + 1) m0 m' → Grow n m m' → K d m') :
    Run (F__law_odd [.loc n] m) (resC K X) := by
  unfold F__law_odd
  rw [run_fn (by rfl)]
  have S0 := St.start S.box
  simp [g__law_odd]
  refine take_st S0.app (by omega) (by decide) (by decide) fun r m2 p2 q2 S2 k2 => ?_
  rw [ixD_lst]
  obtain ⟨d, e1, hd⟩ := atI_mem (xs := [D.non, D.bl true, D.bl false, D.str "", D.str "7", D.str "a b", D.lst [], D.lst [D.int 1], D.tup [D.int 1], D.loc m.length, D.loc (m.length + 1), D.int 100000000000000000000000000000, D.int (-100000000000000000000000000000), D.exc (4 : Nat) (D.str "a"), D.lst [D.str "a"]]) p2 q2
  refine Run.of e1 ?_
  have hn := S.ltm
  have w : ∀ j : Nat, m2[m.length + j]? = (m ++ [Cell.dct [], Cell.dct [(Sum.inr ("a" : Str), D.int 1)]])[m.length + j]? := fun j => k2.2 _ (by omega)
  have w' : ∀ j : Nat, m2[m.length + j]? = [Cell.dct [], Cell.dct [(Sum.inr ("a" : Str), D.int 1)]][j]? := fun j => by rw [w, List.getElem?_append_right (by omega)]; congr 1; omega
  have f1 : Flat (.int 1) := .inl ⟨1, rfl, by decide +kernel⟩
  have fa : Flat (.str "a") := .inr ⟨"a", rfl, by decide, by decide⟩
  have fa1 : Flat (.str "a") := fa
  have key : Thg n 1 m2 d ∧ New m d := by
    simp only [List.mem_cons, List.not_mem_nil, or_false] at hd
    have nl : ∀ j, New m (D.loc (m.length + j)) := fun j q e => by cases e; omega
    rcases hd with rfl | rfl | rfl | rfl | rfl | rfl | rfl | rfl | rfl | rfl | rfl | rfl | rfl | rfl | rfl
    · exact ⟨.non, fun q e => by cases e⟩
    · exact ⟨.bl _, fun q e => by cases e⟩
    · exact ⟨.bl _, fun q e => by cases e⟩
    · exact ⟨.str _ (by decide) (by decide), fun q e => by cases e⟩
    · exact ⟨.str _ (by decide) (by decide), fun q e => by cases e⟩
    · exact ⟨.str _ (by decide) (by decide), fun q e => by cases e⟩
    · exact ⟨.lsv _ (by decide) (by simp), fun q e => by cases e⟩
    · exact ⟨.lsv _ (by decide) (by simp [f1]), fun q e => by cases e⟩
    · exact ⟨.tup _ (by decide) (by simp [f1]), fun q e => by cases e⟩
    · exact ⟨.dct _ [] (w' 0) (by omega) (by decide) (by simp), nl 0⟩
    · refine ⟨.dct _ [(Sum.inr "a", D.int 1)] (w' 1) (by omega) (by decide) ?_, nl 1⟩
      intro x hx
      rw [List.mem_singleton] at hx
      subst hx
      exact ⟨⟨"a", rfl, by decide, by decide⟩, f1⟩
    · exact ⟨.int _ (by decide +kernel), fun q e => by cases e⟩
    · exact ⟨.int _ (by decide +kernel), fun q e => by cases e⟩
    · exact ⟨.exc _ fa1, fun q e => by cases e⟩
    · exact ⟨.lsv _ (by decide) (by simp [fa]), fun q e => by cases e⟩
  have g2 : Grow n m m2 := S2.grow
  refine S.fin S2 fun m' S' hm => k d m' ?_ key.2 S' ?_
  · rcases hm with rfl | ⟨hlt, rfl⟩
    · exact key.1
    · obtain ⟨kk, nn⟩ := key
      cases kk with
      | non => exact .non
      | bl b => exact .bl b
      | int i h => exact .int i h
      | str s hl h => exact .str s hl h
      | tup xs hl h => exact .tup xs hl h
      | lsv xs hl h => exact .lsv xs hl h
      | exc d h => exact .exc d h
      | lst q xs e hn hl h =>
        have := nn q rfl
        simp [D.lt] at hlt
        omega
      | dct q xs e hn hl h =>
        have := nn q rfl
        simp [D.lt] at hlt
        omega
  · rcases hm with rfl | ⟨hl, rfl⟩
    · exact g2
    · exact g2.take
theorem Flat.nc {d : D} (h : Flat d) : d.nc = true := by
  rcases h with ⟨i, rfl, _⟩ | ⟨s, rfl, _⟩ <;> rfl
theorem ncL_all : ∀ {xs : List D}, (∀ x ∈ xs, x.nc = true) → ncL xs = true
  | [], _ => rfl
  | x :: xs, h => by simp [ncL, h x List.mem_cons_self, ncL_all fun y hy => h y (List.mem_cons_of_mem _ hy)]
theorem Thg.nc {n L : Nat} {m : Sto} {d : D} (h : Thg n L m d) : d.nc = true := by
  cases h with
  | tup xs hl h => simp [D.nc, ncL_all fun x hx => (h x hx).nc]
  | lsv xs hl h => simp [D.nc, ncL_all fun x hx => (h x hx).nc]
  | exc d h => simp [D.nc, h.nc]
  | _ => rfl

/-! snippet frac: Frac(..), what it goes to -/
theorem half_mod {a b : Nat} (h : b ≤ a) (h0 : 0 < b) : 2 * (a % b) < a := by
  have h1 := Nat.div_add_mod a b
  have h2 := Nat.mod_lt a h0
  have h3 : 1 ≤ a / b := (Nat.le_div_iff_mul_le h0).mpr (by omega)
  have h4 : b * 1 ≤ b * (a / b) := Nat.mul_le_mul_left b h3
  omega
theorem common_ok {m : Sto} {a b : Nat} (ha : a ≤ 2 ^ 2000) (hb : b ≤ 2 ^ 2000) : F_common [.int a, .int b] m = some (.ok (.int (Nat.gcd a b)) m) := by
  refine Run.eq ?_
  unfold F_common
  rw [run_fn (by rfl)]
  simp [g_common]
  refine run_while (fun k e m' => m' = m ∧ ∃ x y : Nat, e = [some (.int (x : Int)), some (.int (y : Int))] ∧ Nat.gcd x y = Nat.gcd a b ∧ x ≤ 2 ^ 2000 ∧ y ≤ 2 ^ 2000 ∧ ((y ≤ x ∧ x * y < 2 ^ k) ∨ (∃ j, k = j + 1 ∧ x * y < 2 ^ j))) 4002 (by decide) ⟨rfl, a, b, rfl, rfl, ha, hb, .inr ⟨4001, rfl, ?_⟩⟩ ?_
  · have h1 : a * b ≤ 2 ^ 2000 * 2 ^ 2000 := Nat.mul_le_mul ha hb
    rw [← Nat.pow_add] at h1
    exact Nat.lt_of_le_of_lt h1 (Nat.pow_lt_pow_right (by decide) (by decide))
  · rintro k e m' ⟨rfl, x, y, rfl, hg, hx, hy, hk⟩
    simp
    cases y with
    | zero =>
      simp at hg
      simp [hg]
    | succ y =>
      have hm : ((x : Int)).fmod ((y + 1 : Nat) : Int) = ((x % (y + 1) : Nat) : Int) := by rw [Int.fmod_eq_emod_of_nonneg _ (by omega)]; rfl
      simp [show (0 : Int) < (y : Int) + 1 by omega]
      have hg2 : (y + 1).gcd (x % (y + 1)) = a.gcd b := by rw [← hg, Nat.gcd_comm, ← Nat.gcd_rec, Nat.gcd_comm]
      have hr := Nat.mod_lt x (show 0 < y + 1 by omega)
      have key : ∃ j, j < k ∧ (x % (y + 1) ≤ y + 1 ∧ (y + 1) * (x % (y + 1)) < 2 ^ j) := by
        have up : ∀ j, y + 1 ≤ x → x * (y + 1) < 2 ^ j → ∃ i, i < j ∧ (y + 1) * (x % (y + 1)) < 2 ^ i := by
          intro j h1 h2
          have h3 := half_mod h1 (by omega)
          have h4 : (y + 1) * (2 * (x % (y + 1))) ≤ (y + 1) * x := Nat.mul_le_mul_left _ (by omega)
          cases j with
          | zero =>
            have : 1 ≤ x * (y + 1) := Nat.mul_pos (by omega) (by omega)
            simp at h2
            omega
          | succ j =>
            refine ⟨j, by omega, ?_⟩
            rw [Nat.pow_succ] at h2
            rw [Nat.mul_comm (y + 1) x] at h4
            have h5 : (y + 1) * (2 * (x % (y + 1))) = 2 * ((y + 1) * (x % (y + 1))) := by grind
            omega
        rcases hk with ⟨h1, h2⟩ | ⟨j, rfl, h2⟩
        · obtain ⟨i, hi, h3⟩ := up k h1 h2
          exact ⟨i, hi, by omega, h3⟩
        · by_cases h1 : y + 1 ≤ x
          · obtain ⟨i, hi, h3⟩ := up j h1 h2
            exact ⟨i, by omega, by omega, h3⟩
          · refine ⟨j, by omega, by omega, ?_⟩
            rw [Nat.mod_eq_of_lt (by omega), Nat.mul_comm]
            exact h2
      obtain ⟨j, hj, h1, h2⟩ := key
      exact ⟨j, hj, y + 1, x % (y + 1), ⟨by omega, by rw [← hm]; rfl⟩, hg2, hy, Nat.le_trans (Nat.le_of_lt hr) hy, .inl ⟨h1, h2⟩⟩
/-! fractions -/
def fr (t b : Int) : D := .ob (0 : Nat) [.int t, .int b]
def gS (t b : Int) : Int := if b < 0 then -(Nat.gcd t.natAbs b.natAbs : Int) else (Nat.gcd t.natAbs b.natAbs : Int)
def frN (t b : Int) : D := fr (t.fdiv (gS t b)) (b.fdiv (gS t b))
theorem gS_ne {t b : Int} (h : b ≠ 0) : gS t b ≠ 0 := by
  have : 0 < Nat.gcd t.natAbs b.natAbs := Nat.gcd_pos_of_pos_right _ (by omega)
  unfold gS
  split <;> omega
theorem gS_le {t b : Int} (h : b ≠ 0) : (gS t b).natAbs ≤ b.natAbs := by
  have h1 : Nat.gcd t.natAbs b.natAbs ≤ b.natAbs := Nat.gcd_le_right _ (by omega)
  unfold gS
  split <;> omega
theorem gS_dvd {t b : Int} : gS t b ∣ t ∧ gS t b ∣ b := by
  have h1 : (Nat.gcd t.natAbs b.natAbs : Int) ∣ t := Int.ofNat_dvd_left.mpr (Nat.gcd_dvd_left _ _)
  have h2 : (Nat.gcd t.natAbs b.natAbs : Int) ∣ b := Int.ofNat_dvd_left.mpr (Nat.gcd_dvd_right _ _)
  unfold gS
  split
  · exact ⟨Int.neg_dvd.mpr h1, Int.neg_dvd.mpr h2⟩
  · exact ⟨h1, h2⟩
/-- in lowest terms -/
theorem fr_low {t b : Int} (h : b % 2 = 1) : ∃ t' b' : Int, t = gS t b * t' ∧ b = gS t b * b' ∧ t.fdiv (gS t b) = t' ∧ b.fdiv (gS t b) = b' ∧ 0 < b' ∧ b' % 2 = 1 ∧ (gS t b) % 2 = 1 ∧ b'.natAbs ≤ b.natAbs ∧ t'.natAbs ≤ t.natAbs := by
  have hb0 : b ≠ 0 := by intro z; rw [z] at h; cases h
  have h0 := gS_ne (t := t) hb0
  obtain ⟨⟨t', e1⟩, ⟨b', e2⟩⟩ := gS_dvd (t := t) (b := b)
  have hs : (b < 0 → gS t b < 0) ∧ (¬ b < 0 → 0 < gS t b) := by
    have : 0 < Nat.gcd t.natAbs b.natAbs := Nat.gcd_pos_of_pos_right _ (by omega)
    unfold gS
    constructor <;> intro q <;> simp [q] <;> omega
  have h1 : 1 ≤ (gS t b).natAbs := by omega
  generalize gS t b = g at *
  refine ⟨t', b', e1, e2, ?_, ?_, ?_, ?_, ?_, ?_, ?_⟩
  · rw [e1]; exact Int.mul_fdiv_cancel_left _ h0
  · rw [e2]; exact Int.mul_fdiv_cancel_left _ h0
  · by_cases q : b < 0
    · have := hs.1 q
      rw [e2] at q
      exact Int.pos_of_mul_neg_right q this
    · have := hs.2 q
      have q2 : 0 < g * b' := by rw [← e2]; omega
      exact Int.pos_of_mul_pos_right q2 (by omega)
  · rcases Int.emod_two_eq b' with z | z
    · rw [e2, Int.mul_emod, z] at h; simp at h
    · exact z
  · rcases Int.emod_two_eq g with z | z
    · rw [e2, Int.mul_emod, z] at h; simp at h
    · exact z
  · rw [e2, Int.natAbs_mul]; exact Nat.le_mul_of_pos_left _ h1
  · rw [e1, Int.natAbs_mul]; exact Nat.le_mul_of_pos_left _ h1
theorem isnum_int {m : Sto} {i : Int} : F_is_number [.int i] m = some (.ok (.bl true) m) := by
  refine Run.eqr ?_
  unfold F_is_number
  rw [run_fn (by rfl)]
  simp [g_is_number, isiD_eq, tyD, tab_b, isiBi]
theorem neednum_int {m : Sto} {i : Int} : F_need_number [.int i] m = some (.ok .non m) := by
  refine Run.eqr ?_
  unfold F_need_number
  rw [run_fn (by rfl)]
  simp [g_need_number, isnum_int]
theorem mkfrac_ok {m2 : Sto} {t b : Int} {P : Res → Prop} (h : b % 2 = 1) (ht : t.natAbs ≤ 2 ^ 2000) (hb : b.natAbs ≤ 2 ^ 2000) (hP : P (.ok (frN t b) m2)) : Run (F_Frac___init__ [.loc m2.length, .int t, .int b] (m2 ++ [.ins (0 : Nat) []])) (mkC fnm (0 : Nat) m2 P) := by
  have hb0 : b ≠ 0 := by intro z; rw [z] at h; cases h
  have hf : b.fmod 2 = 1 := by rw [Int.fmod_eq_emod_of_nonneg _ (by decide)]; exact h
  have hc := common_ok (m := m2 ++ [.ins (0 : Nat) []]) ht hb
  have hg0 := gS_ne (t := t) hb0
  have hlg : (gS t b).natAbs.log2 < 9000 := Nat.lt_of_lt_of_le (log2_lt (k := 2001) (Nat.lt_of_le_of_lt (Nat.le_trans (gS_le hb0) hb) (Nat.pow_lt_pow_right (by decide) (by decide))) (by decide)) (by decide)
  have a1 : (if t < 0 then -t else t) = (t.natAbs : Int) := by split <;> omega
  have a2 : (if b < 0 then -b else b) = (b.natAbs : Int) := by split <;> omega
  unfold F_Frac___init__
  rw [run_fn (by rfl)]
  simp [g_Frac___init__, neednum_int, isnum_int, hf, a1, a2, hc]
  by_cases q : b < 0
  · have eS : gS t b = -(Nat.gcd t.natAbs b.natAbs : Int) := if_pos q
    simp [q, ← eS, hg0, hlg]
    rw [stoF_new (m := m2) (fs := []) ⟨by decide, by decide, by decide⟩, run_some, putFD_nil, stoF_new (m := m2) (fs := [(("above" : Str), D.int (t.fdiv (gS t b)))]) ⟨by decide, by decide, by simp⟩, run_some, fin_len]
    · exact mkC_ok rfl rfl hP
    · simp
  · have eS : gS t b = (Nat.gcd t.natAbs b.natAbs : Int) := if_neg q
    simp [q, ← eS, hg0, hlg]
    rw [stoF_new (m := m2) (fs := []) ⟨by decide, by decide, by decide⟩, run_some, putFD_nil, stoF_new (m := m2) (fs := [(("above" : Str), D.int (t.fdiv (gS t b)))]) ⟨by decide, by decide, by simp⟩, run_some, fin_len]
    · exact mkC_ok rfl rfl hP
    · simp
@[simp] theorem fld_above {t b : Int} {m : Sto} : fldD 2 fnm (Str.ofString "above") (fr t b) m = some (.int t) := fldD_ob (by decide) rfl
@[simp] theorem fld_below {t b : Int} {m : Sto} : fldD 2 fnm (Str.ofString "below") (fr t b) m = some (.int b) := fldD_ob (by decide) rfl
theorem ob_odd {t b : Int} {m : Sto} {env : Nv} {P : Res → Prop} : obC fnm (mOf [((0 : Nat), F_Frac_is_odd)]) [] env P (.ok (fr t b) m) ↔ P (.ok (.bl (decide (t.fmod 2 = 1))) m) := by
  unfold fr
  rw [obC_ok mOf_hit rfl]
  simp
  unfold F_Frac_is_odd
  rw [run_fn (by rfl)]
  have e : fldD (2 : Nat) fnm "above" (.ob (0 : Nat) [.int t, .int b]) m = some (.int t) := fldD_ob (by decide) rfl
  simp [g_Frac_is_odd, e]
theorem half_ok {t b : Int} {m : Sto} {P : Res → Prop} (ht0 : t % 2 = 0) (h : b % 2 = 1) (ht : t.natAbs ≤ 2 ^ 2000) (hb : b.natAbs ≤ 2 ^ 2000) (hP : P (.ok (frN (t.fdiv 2) b) m)) : Run (F_Frac_half [fr t b] m) P := by
  have q : ¬ t.fmod 2 = 1 := by rw [Int.fmod_eq_emod_of_nonneg _ (by decide)]; omega
  have e0 : Nat.log2 2 < 9000 := by decide
  have e3 : (t.fdiv 2).natAbs ≤ 2 ^ 2000 := by
    rw [Int.fdiv_eq_ediv_of_nonneg _ (by decide)]
    exact Nat.le_trans (Int.natAbs_ediv_le_natAbs _ _) ht
  unfold F_Frac_half
  rw [run_fn (by rfl)]
  simp [g_Frac_half, ob_odd, q, e0, selP]
  refine mkfrac_ok h e3 hb ?_
  simp [frN, fr]
  exact hP
theorem led_fr {t b f a : Int} {m : Sto} {P : Res → Prop} (h : b % 2 = 1) (hF : FA f a) (ht : t.natAbs ≤ 2 ^ 1900) (hb : b.natAbs ≤ 2 ^ 1900) (hP : P (.ok (frN (t * f + b * a) b) m)) : Run (F_Frac_led [fr t b, .int f, .int a] m) P := by
  have b1 : f.natAbs ≤ 99 := by have := hF.1; have := hF.2.1; omega
  have b2 : a.natAbs ≤ 99 := by have := hF.2.2.2.1; have := hF.2.2.2.2.1; omega
  have b3 : f.natAbs < 2 ^ 64 := by omega
  have b4 : a.natAbs < 2 ^ 64 := by omega
  have e3 : (t * f + b * a).natAbs ≤ 2 ^ 2000 := by
    have h1 : (t * f).natAbs ≤ 2 ^ 1900 * 99 := by rw [Int.natAbs_mul]; exact Nat.mul_le_mul ht b1
    have h2 : (b * a).natAbs ≤ 2 ^ 1900 * 99 := by rw [Int.natAbs_mul]; exact Nat.mul_le_mul hb b2
    have h3 : (2 : Nat) ^ 2000 = 2 ^ 1900 * 2 ^ 100 := by rw [← Nat.pow_add]
    rw [h3]
    have h4 : (2 : Nat) ^ 1900 * 198 ≤ 2 ^ 1900 * 2 ^ 100 := Nat.mul_le_mul_left _ (by decide)
    omega
  have hb2 : b.natAbs ≤ 2 ^ 2000 := Nat.le_trans hb (Nat.pow_le_pow_right (by decide) (by decide))
  unfold F_Frac_led
  rw [run_fn (by rfl)]
  simp [g_Frac_led, neednum_int, b3, b4, selP]
  refine mkfrac_ok h e3 hb2 ?_
  simp [frN, fr]
  exact hP
theorem ob_led {t b : Int} {m : Sto} {fs : List FE} {env : Nv} {P : Res → Prop} : obC fnm (mOf [((0 : Nat), F_Frac_led)]) fs env P (.ok (fr t b) m) ↔ Run (evL fs env m) (reslC (fun ds m2 => Run (F_Frac_led (fr t b :: ds) m2) P) fun c d m => P (.exn c d m)) := obC_ok mOf_hit rfl
theorem ob_half {t b : Int} {m : Sto} {env : Nv} {P : Res → Prop} : obC fnm (mOf [((0 : Nat), F_Frac_half)]) [] env P (.ok (fr t b) m) ↔ Run (F_Frac_half [fr t b] m) P := by
  unfold fr
  rw [obC_ok mOf_hit rfl]
  simp
/-- what a fraction goes to -/
def nxF (f a : Int) (x : Int × Int) : Int × Int :=
  let y := if x.1 % 2 = 1 then ((x.1 * f + x.2 * a).fdiv (gS (x.1 * f + x.2 * a) x.2), x.2.fdiv (gS (x.1 * f + x.2 * a) x.2)) else x
  ((y.1.fdiv 2).fdiv (gS (y.1.fdiv 2) y.2), y.2.fdiv (gS (y.1.fdiv 2) y.2))
structure FrB (k : Nat) (x : Int × Int) : Prop where
  odd : x.2 % 2 = 1
  t : x.1.natAbs ≤ 2 ^ k
  b : x.2.natAbs ≤ 2 ^ k
theorem FrB.low {k : Nat} {x : Int × Int} (h : FrB k x) : FrB k (x.1.fdiv (gS x.1 x.2), x.2.fdiv (gS x.1 x.2)) := by
  obtain ⟨t', b', e1, e2, e3, e4, h1, h2, h3, h4, h5⟩ := fr_low (t := x.1) h.odd
  rw [e3, e4]
  exact ⟨h2, Nat.le_trans h5 h.t, Nat.le_trans h4 h.b⟩
theorem even_low {t b : Int} (h : b % 2 = 1) (ht : t % 2 = 0) : (t.fdiv (gS t b)) % 2 = 0 := by
  obtain ⟨t', b', e1, e2, e3, e4, h1, h2, h3, h4, h5⟩ := fr_low (t := t) h
  rw [e3]
  rcases Int.emod_two_eq t' with z | z
  · exact z
  · rw [e1, Int.mul_emod, h3, z] at ht; simp at ht
theorem FrB.mul {k : Nat} {x : Int × Int} {f a : Int} (hF : FA f a) (h : FrB k x) : FrB (k + 8) (x.1 * f + x.2 * a, x.2) := by
  have b1 : f.natAbs ≤ 99 := by have := hF.1; have := hF.2.1; omega
  have b2 : a.natAbs ≤ 99 := by have := hF.2.2.2.1; have := hF.2.2.2.2.1; omega
  have h1 : (x.1 * f).natAbs ≤ 2 ^ k * 99 := by rw [Int.natAbs_mul]; exact Nat.mul_le_mul h.t b1
  have h2 : (x.2 * a).natAbs ≤ 2 ^ k * 99 := by rw [Int.natAbs_mul]; exact Nat.mul_le_mul h.b b2
  have e : (2 : Nat) ^ (k + 8) = 2 ^ k * 256 := by rw [Nat.pow_add]
  have hb := h.b
  refine ⟨h.odd, ?_, ?_⟩ <;> simp only [e] <;> omega
theorem FrB.half {k : Nat} {x : Int × Int} (h : FrB k x) : FrB k (x.1.fdiv 2, x.2) := by
  refine ⟨h.odd, ?_, h.b⟩
  simp only
  rw [Int.fdiv_eq_ediv_of_nonneg _ (by decide)]
  exact Nat.le_trans (Int.natAbs_ediv_le_natAbs _ _) h.t
theorem nxF_b {k : Nat} {x : Int × Int} {f a : Int} (hF : FA f a) (h : FrB k x) : FrB (k + 8) (nxF f a x) := by
  have hk : FrB (k + 8) x := ⟨h.odd, Nat.le_trans h.t (Nat.pow_le_pow_right (by decide) (by omega)), Nat.le_trans h.b (Nat.pow_le_pow_right (by decide) (by omega))⟩
  unfold nxF
  simp only
  split
  · exact (FrB.half (h.mul hF).low).low
  · exact (FrB.half hk).low
theorem nextfr_ok {m : Sto} {f a : Int} {x : Int × Int} {k : Nat} {P : Res → Prop} (hF : FA f a) (h : FrB k x) (hk : k ≤ 1900) (hP : P (.ok (fr (nxF f a x).1 (nxF f a x).2) m)) : Run (F_next_of [rl f a, fr x.1 x.2] m) P := by
  have p19 : (2 : Nat) ^ k ≤ 2 ^ 1900 := Nat.pow_le_pow_right (by decide) hk
  have ht := Nat.le_trans h.t p19
  have hb := Nat.le_trans h.b p19
  have er : isiD tab [fr x.1 x.2, .cls (.own (0 : Nat))] m = some (.bl true) := by simp [isiD_eq, tyD, fr]
  unfold F_next_of
  rw [run_fn (by rfl)]
  simp [g_next_of, er, ob_odd]
  have hf2 : ∀ y : Int, y.fmod 2 = y % 2 := fun y => Int.fmod_eq_emod_of_nonneg _ (by decide)
  by_cases q : x.1 % 2 = 1
  · have q2 : x.1.fmod 2 = 1 := by rw [hf2]; exact q
    have hM := (h.mul hF).low
    have hev : (x.1 * f + x.2 * a) % 2 = 0 := by
      have h1 := hF.2.2.1
      have h2 := hF.2.2.2.2.2
      have h3 := h.odd
      rw [Int.add_emod, Int.mul_emod, q, h1, Int.mul_emod x.2, h3, h2]; decide
    have p20 : (2 : Nat) ^ (k + 8) ≤ 2 ^ 2000 := Nat.pow_le_pow_right (by decide) (by omega)
    simp [q2, ob_led]
    refine led_fr h.odd hF ht hb ?_
    unfold frN
    rw [ob_half]
    refine half_ok (even_low h.odd hev) hM.odd (Nat.le_trans hM.t p20) (Nat.le_trans hM.b p20) ?_
    simp [frN, fr]
    have : nxF f a x = ((((x.1 * f + x.2 * a).fdiv (gS (x.1 * f + x.2 * a) x.2)).fdiv 2).fdiv (gS (((x.1 * f + x.2 * a).fdiv (gS (x.1 * f + x.2 * a) x.2)).fdiv 2) (x.2.fdiv (gS (x.1 * f + x.2 * a) x.2))), (x.2.fdiv (gS (x.1 * f + x.2 * a) x.2)).fdiv (gS (((x.1 * f + x.2 * a).fdiv (gS (x.1 * f + x.2 * a) x.2)).fdiv 2) (x.2.fdiv (gS (x.1 * f + x.2 * a) x.2)))) := by
      unfold nxF
      rw [if_pos q]
    rw [this] at hP
    exact hP
  · have q2 : ¬ x.1.fmod 2 = 1 := by rw [hf2]; exact q
    have p20 : (2 : Nat) ^ k ≤ 2 ^ 2000 := Nat.pow_le_pow_right (by decide) (by omega)
    simp [q2, ob_half]
    refine half_ok (by omega) h.odd (Nat.le_trans h.t p20) (Nat.le_trans h.b p20) ?_
    simp [frN, fr]
    have : nxF f a x = ((x.1.fdiv 2).fdiv (gS (x.1.fdiv 2) x.2), x.2.fdiv (gS (x.1.fdiv 2) x.2)) := by
      unfold nxF
      rw [if_neg q]
    rw [this] at hP
    exact hP

/-! snippet low: _law_low -/
def GI (a b k x y : Nat) : Prop := Nat.gcd x y = Nat.gcd a b ∧ x ≤ 2 ^ 2000 ∧ y ≤ 2 ^ 2000 ∧ ((y ≤ x ∧ x * y < 2 ^ k) ∨ (∃ j, k = j + 1 ∧ x * y < 2 ^ j))
theorem GI.start {a b : Nat} (ha : a ≤ 2 ^ 2000) (hb : b ≤ 2 ^ 2000) : GI a b 4002 a b := by
  refine ⟨rfl, ha, hb, .inr ⟨4001, rfl, ?_⟩⟩
  have h1 : a * b ≤ 2 ^ 2000 * 2 ^ 2000 := Nat.mul_le_mul ha hb
  rw [← Nat.pow_add] at h1
  exact Nat.lt_of_le_of_lt h1 (Nat.pow_lt_pow_right (by decide) (by decide))
theorem GI.next {a b k x y : Nat} (h : GI a b k x (y + 1)) : ∃ j, j < k ∧ GI a b j (y + 1) (x % (y + 1)) := by
  obtain ⟨hg, hx, hy, hk⟩ := h
  have hg2 : (y + 1).gcd (x % (y + 1)) = a.gcd b := by rw [← hg, Nat.gcd_comm, ← Nat.gcd_rec, Nat.gcd_comm]
  have hr := Nat.mod_lt x (show 0 < y + 1 by omega)
  have key : ∃ j, j < k ∧ (x % (y + 1) ≤ y + 1 ∧ (y + 1) * (x % (y + 1)) < 2 ^ j) := by
    have up : ∀ j, y + 1 ≤ x → x * (y + 1) < 2 ^ j → ∃ i, i < j ∧ (y + 1) * (x % (y + 1)) < 2 ^ i := by
      intro j h1 h2
      have h3 := half_mod h1 (by omega)
      have h4 : (y + 1) * (2 * (x % (y + 1))) ≤ (y + 1) * x := Nat.mul_le_mul_left _ (by omega)
      cases j with
      | zero =>
        have : 1 ≤ x * (y + 1) := Nat.mul_pos (by omega) (by omega)
        simp at h2
        omega
      | succ j =>
        refine ⟨j, by omega, ?_⟩
        rw [Nat.pow_succ] at h2
        rw [Nat.mul_comm (y + 1) x] at h4
        have h5 : (y + 1) * (2 * (x % (y + 1))) = 2 * ((y + 1) * (x % (y + 1))) := by grind
        omega
    rcases hk with ⟨h1, h2⟩ | ⟨j, rfl, h2⟩
    · obtain ⟨i, hi, h3⟩ := up k h1 h2
      exact ⟨i, hi, by omega, h3⟩
    · by_cases h1 : y + 1 ≤ x
      · obtain ⟨i, hi, h3⟩ := up j h1 h2
        exact ⟨i, by omega, by omega, h3⟩
      · refine ⟨j, by omega, by omega, ?_⟩
        rw [Nat.mod_eq_of_lt (by omega), Nat.mul_comm]
        exact h2
  obtain ⟨j, hj, h1, h2⟩ := key
  exact ⟨j, hj, hg2, hy, Nat.le_trans (Nat.le_of_lt hr) hy, .inl ⟨h1, h2⟩⟩
theorem low_ok {m : Sto} {t b : Int} (h : b % 2 = 1) (ht : t.natAbs ≤ 2 ^ 2000) (hb : b.natAbs ≤ 2 ^ 2000) : F__law_low [.int t, .int b] m = some (.ok (.tup [.int (t.fdiv (gS t b)), .int (b.fdiv (gS t b))]) m) := by
  have hb0 : b ≠ 0 := by intro z; rw [z] at h; cases h
  have hg0 := gS_ne (t := t) hb0
  have hlg : (gS t b).natAbs.log2 < 9000 := Nat.lt_of_lt_of_le (log2_lt (k := 2001) (Nat.lt_of_le_of_lt (Nat.le_trans (gS_le hb0) hb) (Nat.pow_lt_pow_right (by decide) (by decide))) (by decide)) (by decide)
  have a1 : (if t < 0 then -t else t) = (t.natAbs : Int) := by split <;> omega
  have a2 : (if b < 0 then -b else b) = (b.natAbs : Int) := by split <;> omega
  refine Run.eq ?_
  unfold F__law_low
  rw [run_fn (by rfl), gr__law_low]
  simp [a1, a2, r__law_low_1]
  refine run_while (fun k e m' => m' = m ∧ ∃ x y : Nat, e = [some (.int t), some (.int b), some (.int (x : Int)), some (.int (y : Int))] ∧ GI t.natAbs b.natAbs k x y) 4002 (by decide) ⟨rfl, _, _, rfl, GI.start ht hb⟩ ?_
  rintro k e m' ⟨rfl, x, y, rfl, hI⟩
  simp
  cases y with
  | zero =>
    have hg : x = Nat.gcd t.natAbs b.natAbs := by have := hI.1; simpa using this
    subst hg
    by_cases q : 0 < b
    · have eS : gS t b = (Nat.gcd t.natAbs b.natAbs : Int) := if_neg (by omega)
      simp [r__law_low_2, q, ← eS, r__law_low_3, hg0, hlg]
    · have eS : gS t b = -(Nat.gcd t.natAbs b.natAbs : Int) := if_pos (by omega)
      simp [r__law_low_2, q, ← eS, r__law_low_3, hg0, hlg]
  | succ y =>
    have hm : ((x : Int)).fmod ((y + 1 : Nat) : Int) = ((x % (y + 1) : Nat) : Int) := by rw [Int.fmod_eq_emod_of_nonneg _ (by omega)]; rfl
    have h0 : (0 : Int) < (y : Int) + 1 := by omega
    have h1 : ¬ ((y : Int) + 1 = 0) := by omega
    obtain ⟨j, hj, hN⟩ := hI.next
    simp [h0, h1]
    exact ⟨j, hj, y + 1, x % (y + 1), ⟨by omega, by rw [← hm]; rfl⟩, hN⟩
theorem gS_mul {g u v : Int} (hg : g ≠ 0) (hv : 0 < v) : gS (g * u) (g * v) = g * gS u v := by
  unfold gS
  rw [Int.natAbs_mul, Int.natAbs_mul, Nat.gcd_mul_left, if_neg (show ¬ v < 0 by omega)]
  by_cases q : g < 0
  · rw [if_pos (Int.mul_neg_of_neg_of_pos q hv)]
    have : (g.natAbs : Int) = -g := by omega
    rw [Int.natCast_mul, this]
    grind
  · have h0 : 0 < g := by omega
    rw [if_neg (by have := Int.mul_pos h0 hv; omega)]
    have : (g.natAbs : Int) = g := by omega
    rw [Int.natCast_mul, this]
theorem fdiv_mul {g u s : Int} (hg : g ≠ 0) (hs : s ≠ 0) (h : s ∣ u) : (g * u).fdiv (g * s) = u.fdiv s := by
  obtain ⟨u', rfl⟩ := h
  rw [Int.mul_fdiv_cancel_left _ hs, ← Int.mul_assoc, Int.mul_fdiv_cancel_left]
  exact Int.mul_ne_zero hg hs
def lowP (t b : Int) : Int × Int := (t.fdiv (gS t b), b.fdiv (gS t b))
theorem low_mul {g u v : Int} (hg : g ≠ 0) (hv : 0 < v) : lowP (g * u) (g * v) = lowP u v := by
  have h0 := gS_ne (t := u) (b := v) (by omega)
  unfold lowP
  rw [gS_mul hg hv, fdiv_mul hg h0 gS_dvd.1, fdiv_mul hg h0 gS_dvd.2]
theorem low_one {t b : Int} (h : b % 2 = 1) : gS (lowP t b).1 (lowP t b).2 = 1 ∧ 0 < (lowP t b).2 ∧ (lowP t b).2 % 2 = 1 := by
  obtain ⟨t', b', e1, e2, e3, e4, h1, h2, h3, h4, h5⟩ := fr_low (t := t) h
  have hb0 : b ≠ 0 := by intro z; rw [z] at h; cases h
  have h0 := gS_ne (t := t) hb0
  unfold lowP
  rw [e3, e4]
  refine ⟨?_, h1, h2⟩
  have e5 := gS_mul (u := t') h0 h1
  rw [← e1, ← e2] at e5
  have : gS t b * 1 = gS t b * gS t' b' := by rw [Int.mul_one]; exact e5
  exact (Int.eq_of_mul_eq_mul_left h0 this).symm

/-! snippet wkf: walks of fractions -/
def wkF (f a : Int) (x : Int × Int) : Nat → Int × Int
  | 0 => x
  | k + 1 => nxF f a (wkF f a x k)
theorem wkF_b {k : Nat} {x : Int × Int} {f a : Int} (hF : FA f a) (h : FrB k x) : ∀ i, FrB (k + 8 * i) (wkF f a x i)
  | 0 => h
  | i + 1 => nxF_b hF (wkF_b hF h i)
def rowF (f a : Int) (x : Int × Int) (k : Nat) : List D := (List.range (k + 1)).map fun i => fr (wkF f a x i).1 (wkF f a x i).2
theorem rowF_succ (f a : Int) (x : Int × Int) (k : Nat) : rowF f a x (k + 1) = rowF f a x k ++ [fr (wkF f a x (k + 1)).1 (wkF f a x (k + 1)).2] := by
  unfold rowF
  rw [List.range_succ, List.map_append]
  rfl
theorem rowF_len (f a : Int) (x : Int × Int) (k : Nat) : (rowF f a x k).length = k + 1 := by simp [rowF]
theorem walkedF_ok {m : Sto} {f a : Int} {x : Int × Int} {b k : Nat} (h : FA f a) (hx : FrB b x) (hb : b + 8 * k ≤ 1900) : F_walked [rl f a, fr x.1 x.2, .int k] m = some (.ok (.loc m.length) (m ++ [.lst (rowF f a x k)])) := by
  refine Run.eq ?_
  unfold F_walked
  rw [run_fn (by rfl)]
  simp [g_walked]
  rw [run_rng1 (n := k) (m1 := m ++ [.lst [fr x.1 x.2]]) (by rfl) (by omega)]
  simp
  refine for_inv (fun i e m' => m' = m ++ [.lst (rowF f a x i)] ∧ ∃ sl, e = [some (rl f a), some (fr x.1 x.2), some (.int k), some (.loc m.length), sl]) ⟨rfl, _, rfl⟩ ?_ ?_
  · rintro i d e m' hd ⟨rfl, sl, rfl⟩
    obtain ⟨hi, rfl⟩ := rngD_at hd
    refine ⟨_, rfl, ?_⟩
    have e1 : ixD (.loc m.length) (.int (-1)) (m ++ [.lst (rowF f a x i)]) = some (fr (wkF f a x i).1 (wkF f a x i).2) := by
      rw [ixD_new]; exact atI_neg1'
    simp [gN, e1]
    refine nextfr_ok h (wkF_b h hx i) (by omega) ?_
    simp
    rw [appD_new (by rw [rowF_len]; omega)]
    simp [rowF_succ, wkF]
  · rintro e m' ⟨rfl, sl, rfl⟩
    rw [rngD_len]
    simp

/-! snippet ringf: ring_of -/
/-- the ring of a word -/
def rgF (f a : Int) (w : Str) : Int × Int := ((led f a w.cps.toList).2.1.fdiv (gS (led f a w.cps.toList).2.1 ((led f a w.cps.toList).2.2 - (led f a w.cps.toList).1)), ((led f a w.cps.toList).2.2 - (led f a w.cps.toList).1).fdiv (gS (led f a w.cps.toList).2.1 ((led f a w.cps.toList).2.2 - (led f a w.cps.toList).1)))
theorem letters_ok {m : Sto} {w : Str} (h : EO w) (h1 : 1 ≤ w.length) (h2 : w.length ≤ 60) : F_need_letters [.str w] m = some (.ok .non m) := by
  refine Run.eq ?_
  have hn : w ≠ "" := fun e => by rw [e] at h1; exact absurd h1 (by decide)
  unfold F_need_letters
  rw [run_fn (by rfl)]
  simp [g_need_letters, need_word_ok h h2, hn]
theorem led_par {f a : Int} (h : FA f a) : ∀ (n : Nat) (cs : List Nat), cs.length = n → (led f a cs).1 % 2 = 1 ∧ (0 < n → (led f a cs).2.2 % 2 = 0)
  | 0, cs, hl => by
    have : cs = [] := List.length_eq_zero_iff.mp hl
    subst this
    exact ⟨(by decide : (1 : Int) % 2 = 1), fun z => absurd z (by decide)⟩
  | n + 1, cs, hl => by
    have hne : cs ≠ [] := by intro z; subst z; cases hl
    rw [← List.dropLast_concat_getLast hne, led_snoc]
    obtain ⟨b1, b2⟩ := led_par h n cs.dropLast (by rw [List.length_dropLast]; omega)
    generalize led f a cs.dropLast = x at b1 b2
    unfold stp
    split
    · refine ⟨?_, fun _ => ?_⟩
      · show (x.1 * f) % 2 = 1
        rw [Int.mul_emod, b1, h.2.2.1]; decide
      · show (x.2.2 * 2) % 2 = 0
        omega
    · refine ⟨b1, fun _ => ?_⟩
      show (x.2.2 * 2) % 2 = 0
      omega
theorem rg_b {f a : Int} {w : Str} (h : FA f a) (h1 : 1 ≤ w.length) (h2 : w.length ≤ 60) : FrB 1041 ((led f a w.cps.toList).2.1, (led f a w.cps.toList).2.2 - (led f a w.cps.toList).1) := by
  obtain ⟨p1, p2⟩ := led_par h _ w.cps.toList rfl
  have p2 := p2 (by simp [Str.length] at h1 ⊢; omega)
  have b := led_b h w (by omega)
  generalize led f a w.cps.toList = x at p1 p2 b
  have hd : ∀ k : Nat, k = 1041 → (x.2.2 - x.1).natAbs ≤ 2 ^ k := fun k hk => by
    have : (x.2.2 - x.1).natAbs ≤ 2 ^ 1040 + 2 ^ 1040 := Nat.le_trans (by omega) (Nat.add_le_add b.2.2 b.1)
    subst hk
    rw [Nat.pow_succ, Nat.mul_two]
    exact this
  refine ⟨?_, Nat.le_trans b.2.1 (Nat.pow_le_pow_right (by decide) (by decide)), hd _ rfl⟩
  show (x.2.2 - x.1) % 2 = 1
  omega
theorem ring_ok {m : Sto} {f a : Int} {w : Str} (h : FA f a) (hw : EO w) (h1 : 1 ≤ w.length) (h2 : w.length ≤ 60) : F_ring_of [rl f a, .str w] m = some (.ok (fr (rgF f a w).1 (rgF f a w).2) m) := by
  have e := led_ok (m := m) (s := w) h
  have B := rg_b h h1 h2
  unfold rgF
  generalize led f a w.cps.toList = x at e B ⊢
  have p20 : (2 : Nat) ^ 1041 ≤ 2 ^ 2000 := Nat.pow_le_pow_right (by decide) (by decide)
  unfold mapD at e
  refine Run.eqr ?_
  unfold F_ring_of
  rw [run_fn (by rfl)]
  simp [g_ring_of, need_rule_ok, letters_ok hw h1 h2, e, gT, gTs, gN, selP]
  refine mkfrac_ok B.odd (Nat.le_trans B.t p20) (Nat.le_trans B.b p20) ?_
  simp [frN, fr]

/-! snippet roundof: round_of -/
theorem round_ok {m : Sto} {f a : Int} {w : Str} (h : FA f a) (hw : EO w) (h1 : 1 ≤ w.length) (h2 : w.length ≤ 60) : F_round_of [rl f a, .str w] m = some (.ok (.loc m.length) (m ++ [.lst (rowF f a (rgF f a w) (w.length - 1))])) := by
  have B := (rg_b h h1 h2).low
  have e2 := walkedF_ok (m := m) (f := f) (a := a) (x := rgF f a w) (k := w.length - 1) h B (by omega)
  rw [show ((w.length - 1 : Nat) : Int) = (w.length : Int) - 1 by omega] at e2
  refine Run.eqr ?_
  unfold F_round_of
  rw [run_fn (by rfl)]
  simp [g_round_of, ring_ok h hw h1 h2, show w.length ≤ 1000000 by omega, e2]

/-! snippet ldi: a step, by whole numbers -/
def ldI (f a t b : Int) : Int := if t % 2 = 1 then f * t + a * b else t
theorem nx_low {f a t b : Int} (hF : FA f a) (h : b % 2 = 1) : nxF f a (t, b) = lowP ((ldI f a t b).fdiv 2) b := by
  unfold nxF ldI
  by_cases q : t % 2 = 1
  · simp only [q, if_true]
    have hev : (t * f + b * a) % 2 = 0 := by
      rw [Int.add_emod, Int.mul_emod, q, hF.2.2.1, Int.mul_emod b, h, hF.2.2.2.2.2]; decide
    have ev := even_low h hev
    obtain ⟨t', b', e1, e2, e3, e4, h1, h2, h3, h4, h5⟩ := fr_low (t := t * f + b * a) h
    have hb0 : b ≠ 0 := by intro z; rw [z] at h; cases h
    have h0 := gS_ne (t := t * f + b * a) hb0
    rw [show f * t + a * b = t * f + b * a by grind]
    rw [e3] at ev
    rw [e3, e4]
    generalize gS (t * f + b * a) b = g at *
    have e6 : (t * f + b * a).fdiv 2 = g * t'.fdiv 2 := by
      rw [Int.fdiv_eq_ediv_of_nonneg _ (by decide), Int.fdiv_eq_ediv_of_nonneg _ (by decide)]
      obtain ⟨s, hs⟩ : ∃ s, t' = 2 * s := ⟨t' / 2, by omega⟩
      rw [hs] at e1 ⊢
      have : t * f + b * a = 2 * (g * s) := by rw [e1]; grind
      rw [this, Int.mul_ediv_cancel_left _ (by decide), Int.mul_ediv_cancel_left _ (by decide)]
    show lowP (t'.fdiv 2) b' = _
    rw [e6]
    conv => rhs; rw [e2]
    exact (low_mul h0 h1).symm
  · simp only [q, if_false]
    rfl

/-! snippet ringm: walks of fractions and of whole numbers -/
theorem led_mul (f a b : Int) : ∀ (n : Nat) (cs : List Nat), cs.length = n → led f (a * b) cs = ((led f a cs).1, (led f a cs).2.1 * b, (led f a cs).2.2)
  | 0, cs, hl => by
    have : cs = [] := List.length_eq_zero_iff.mp hl
    subst this
    show ((1 : Int), (0 : Int), (1 : Int)) = (1, 0 * b, 1)
    rw [Int.zero_mul]
  | n + 1, cs, hl => by
    have hne : cs ≠ [] := by intro z; subst z; cases hl
    rw [← List.dropLast_concat_getLast hne, led_snoc, led_snoc, led_mul f a b n cs.dropLast (by rw [List.length_dropLast]; omega)]
    generalize led f a cs.dropLast = x
    unfold stp
    split
    · simp only [Prod.mk.injEq]
      exact ⟨trivial, by grind, trivial⟩
    · rfl
theorem led_size (f a : Int) : ∀ (n : Nat) (cs : List Nat), cs.length = n → (led f a cs).2.2 = 2 ^ n
  | 0, cs, hl => by
    have : cs = [] := List.length_eq_zero_iff.mp hl
    subst this
    rfl
  | n + 1, cs, hl => by
    have hne : cs ≠ [] := by intro z; subst z; cases hl
    rw [← List.dropLast_concat_getLast hne, led_snoc]
    have := led_size f a n cs.dropLast (by rw [List.length_dropLast]; omega)
    generalize led f a cs.dropLast = x at this
    unfold stp
    split <;> (show x.2.2 * 2 = _; rw [this, Int.pow_succ])
theorem odd_dvd {f : Int} (hf : f % 2 = 1) : ∀ (k : Nat) (x y : Int), f * x = 2 ^ k * y → ∃ z, x = 2 ^ k * z
  | 0, x, y, _ => ⟨x, by simp⟩
  | k + 1, x, y, h => by
    obtain ⟨z, rfl⟩ := odd_dvd hf k x (2 * y) (by rw [h, Int.pow_succ]; grind)
    have h0 : (2 : Int) ^ k ≠ 0 := Int.ne_of_gt (Int.pow_pos (by decide))
    have h1 : f * z = 2 * y := by
      refine Int.eq_of_mul_eq_mul_left h0 ?_
      rw [Int.pow_succ] at h
      grind
    rcases Int.emod_two_eq z with q | q
    · refine ⟨z / 2, ?_⟩
      have : z = 2 * (z / 2) := by omega
      rw [Int.pow_succ, Int.mul_assoc, ← this]
    · have : (f * z) % 2 = 1 := by rw [Int.mul_emod, hf, q]; decide
      omega
/-- by which letters a number goes that comes to a whole one by a word's numbers -/
theorem walk_word {f A : Int} (hf : f % 2 = 1) (hA : A % 2 = 1) : ∀ (k : Nat) (cs : List Nat) (n y : Int), cs.length = k → (∀ c ∈ cs, c = 101 ∨ c = 111) → (led f A cs).1 * n + (led f A cs).2.1 = (led f A cs).2.2 * y → wdL f A n k = cs ∧ wkI f A n k = y
  | 0, cs, n, y, hl, _, h => by
    have : cs = [] := List.length_eq_zero_iff.mp hl
    subst this
    have h : 1 * n + 0 = 1 * y := h
    exact ⟨rfl, by show n = y; omega⟩
  | k + 1, cs, n, y, hl, hc, h => by
    have hne : cs ≠ [] := by intro z; subst z; cases hl
    have hlen : cs.dropLast.length = k := by rw [List.length_dropLast]; omega
    have e0 := List.dropLast_concat_getLast hne
    have hlast := hc _ (List.getLast_mem hne)
    have hrest : ∀ c ∈ cs.dropLast, c = 101 ∨ c = 111 := fun c h => hc c ((List.dropLast_sublist _).subset h)
    rw [← e0, led_snoc] at h
    have hz := led_size f A k cs.dropLast hlen
    have ih := walk_word hf hA k cs.dropLast n
    generalize cs.getLast hne = c at e0 hlast h
    generalize hds : cs.dropLast = ds at *
    have z0 : (2 : Int) ^ k ≠ 0 := Int.ne_of_gt (Int.pow_pos (by decide))
    have snocw : ∀ n, wdL f A n (k + 1) = wdL f A n k ++ [ltN (wkI f A n k)] := fun n => by
      unfold wdL
      rw [List.range_succ, List.map_append]
      rfl
    rw [← e0, snocw]
    rcases hlast with rfl | rfl
    · have h : (led f A ds).1 * n + (led f A ds).2.1 = (led f A ds).2.2 * 2 * y := h
      obtain ⟨w1, w2⟩ := ih (2 * y) hlen hrest (by rw [h]; grind)
      rw [w1, w2]
      have q : (2 * y).fmod 2 = 0 := by rw [Int.fmod_eq_emod_of_nonneg _ (by decide)]; omega
      refine ⟨by unfold ltN; rw [if_neg (by omega)], ?_⟩
      show nxI f A (wkI f A n k) = y
      rw [w2]
      unfold nxI
      rw [if_neg (by omega), Int.fdiv_eq_ediv_of_nonneg _ (by decide)]
      omega
    · have h : (led f A ds).1 * f * n + ((led f A ds).2.1 * f + A * (led f A ds).2.2) = (led f A ds).2.2 * 2 * y := h
      rw [hz] at h
      obtain ⟨y', hy⟩ := odd_dvd hf k ((led f A ds).1 * n + (led f A ds).2.1) (2 * y - A) (by grind)
      have h2 : f * y' = 2 * y - A := by
        refine Int.eq_of_mul_eq_mul_left z0 ?_
        rw [← Int.mul_assoc, Int.mul_comm _ f, Int.mul_assoc, ← hy]
        grind
      obtain ⟨w1, w2⟩ := ih y' hlen hrest (by rw [hz]; exact hy)
      have hp : y' % 2 = 1 := by
        rcases Int.emod_two_eq y' with q | q
        · have : (f * y') % 2 = 0 := by rw [Int.mul_emod, q]; simp
          omega
        · exact q
      rw [w1, w2]
      have q : y'.fmod 2 = 1 := by rw [Int.fmod_eq_emod_of_nonneg _ (by decide)]; exact hp
      refine ⟨by unfold ltN; rw [if_pos q], ?_⟩
      show nxI f A (wkI f A n k) = y
      rw [w2]
      unfold nxI
      rw [if_pos q, h2, Int.fdiv_eq_ediv_of_nonneg _ (by decide)]
      omega
theorem ld_nx {f a t b : Int} : (ldI f a t b).fdiv 2 = nxI f (a * b) t := by
  unfold ldI nxI
  have : (t.fmod 2 = 1) ↔ (t % 2 = 1) := by rw [Int.fmod_eq_emod_of_nonneg _ (by decide)]
  by_cases q : t % 2 = 1
  · rw [if_pos q, if_pos (this.mpr q)]
  · rw [if_neg q, if_neg (fun z => q (this.mp z))]
theorem par_low {t b : Int} (h : b % 2 = 1) : (lowP t b).1 % 2 = t % 2 ∧ ltN (lowP t b).1 = ltN t := by
  obtain ⟨t', b', e1, e2, e3, e4, h1, h2, h3, h4, h5⟩ := fr_low (t := t) h
  have e : (lowP t b).1 = t' := e3
  have p : t' % 2 = t % 2 := by
    conv => rhs; rw [e1, Int.mul_emod, h3]
    rcases Int.emod_two_eq t' with q | q <;> rw [q] <;> decide
  refine ⟨by rw [e]; exact p, ?_⟩
  rw [e]
  unfold ltN
  rw [Int.fmod_eq_emod_of_nonneg _ (by decide), Int.fmod_eq_emod_of_nonneg _ (by decide), p]
/-- a step of a fraction, by its whole numbers -/
theorem nx_lowP {f a t b : Int} (hF : FA f a) (h : b % 2 = 1) : nxF f a (lowP t b) = lowP (nxI f (a * b) t) b := by
  obtain ⟨t', b', e1, e2, e3, e4, h1, h2, h3, h4, h5⟩ := fr_low (t := t) h
  have e : lowP t b = (t', b') := Prod.ext e3 e4
  have hb0 : b ≠ 0 := by intro z; rw [z] at h; cases h
  have h0 := gS_ne (t := t) hb0
  rw [e, nx_low hF h2, ← ld_nx]
  generalize gS t b = g at *
  have ev : (ldI f a t' b') % 2 = 0 := by
    unfold ldI
    by_cases q : t' % 2 = 1
    · rw [if_pos q, Int.add_emod, Int.mul_emod, q, hF.2.2.1, Int.mul_emod a, h2, hF.2.2.2.2.2]; decide
    · rw [if_neg q]; omega
  have e5 : ldI f a t b = g * ldI f a t' b' := by
    unfold ldI
    have : t % 2 = 1 ↔ t' % 2 = 1 := by
      rw [e1, Int.mul_emod, h3]
      rcases Int.emod_two_eq t' with q | q <;> rw [q] <;> decide
    by_cases q : t' % 2 = 1
    · rw [if_pos q, if_pos (this.mpr q), e1, e2]; grind
    · rw [if_neg q, if_neg (fun z => q (this.mp z))]; exact e1
  have e6 : (ldI f a t b).fdiv 2 = g * (ldI f a t' b').fdiv 2 := by
    rw [e5, Int.fdiv_eq_ediv_of_nonneg _ (by decide), Int.fdiv_eq_ediv_of_nonneg _ (by decide)]
    obtain ⟨s, hs⟩ : ∃ s, ldI f a t' b' = 2 * s := ⟨ldI f a t' b' / 2, by omega⟩
    rw [hs, show g * (2 * s) = 2 * (g * s) by grind, Int.mul_ediv_cancel_left _ (by decide), Int.mul_ediv_cancel_left _ (by decide)]
  rw [e6]
  conv => rhs; rw [e2]
  exact (low_mul h0 h1).symm
theorem wk_lowP {f a t b : Int} (hF : FA f a) (h : b % 2 = 1) : ∀ i, wkF f a (lowP t b) i = lowP (wkI f (a * b) t i) b
  | 0 => rfl
  | i + 1 => by
    show nxF f a (wkF f a (lowP t b) i) = lowP (nxI f (a * b) (wkI f (a * b) t i)) b
    rw [wk_lowP hF h i, nx_lowP hF h]
/-- the ring of a word goes by the word, and comes back -/
theorem ring_walk {f a : Int} {w : Str} (hF : FA f a) (hw : EO w) (h1 : 1 ≤ w.length) : wkF f a (rgF f a w) w.length = rgF f a w ∧ ∀ i, i < w.length → w.cps.toList[i]? = some (ltN (wkF f a (rgF f a w) i).1) := by
  have hl : w.cps.toList.length = w.length := by simp [Str.length]
  obtain ⟨p1, p2⟩ := led_par hF _ w.cps.toList rfl
  have p2 := p2 (by omega)
  have e1 : rgF f a w = lowP (led f a w.cps.toList).2.1 ((led f a w.cps.toList).2.2 - (led f a w.cps.toList).1) := rfl
  rw [e1]
  have hb : ((led f a w.cps.toList).2.2 - (led f a w.cps.toList).1) % 2 = 1 := by omega
  have hA : (a * ((led f a w.cps.toList).2.2 - (led f a w.cps.toList).1)) % 2 = 1 := by rw [Int.mul_emod, hF.2.2.2.2.2, hb]; decide
  have key := walk_word hF.2.2.1 hA w.length w.cps.toList (led f a w.cps.toList).2.1 (led f a w.cps.toList).2.1 hl hw (by
    rw [led_mul f a _ _ w.cps.toList rfl]
    grind)
  generalize (led f a w.cps.toList).2.1 = P at *
  generalize ((led f a w.cps.toList).2.2 - (led f a w.cps.toList).1) = b at *
  refine ⟨by rw [wk_lowP hF hb, key.2], fun i hi => ?_⟩
  rw [wk_lowP hF hb, (par_low hb).2, ← key.1]
  unfold wdL
  rw [List.getElem?_map, List.getElem?_range hi]
  rfl

/-! snippet lead: _law_lead -/
theorem lead_ok {m : Sto} {f a t b : Int} (hF : FA f a) (h : b % 2 = 1) (ht : t.natAbs ≤ 2 ^ 1900) (hb : b.natAbs ≤ 2 ^ 1900) : F__law_lead [.tup [.int f, .int a], .tup [.int t, .int b]] m = some (.ok (.tup [.int (nxF f a (t, b)).1, .int (nxF f a (t, b)).2]) m) := by
  have b1 : f.natAbs ≤ 99 := by have := hF.1; have := hF.2.1; omega
  have b2 : a.natAbs ≤ 99 := by have := hF.2.2.2.1; have := hF.2.2.2.2.1; omega
  have b3 : f.natAbs < 2 ^ 64 := by omega
  have b4 : a.natAbs < 2 ^ 64 := by omega
  have e0 : Nat.log2 2 < 9000 := by decide
  have B : FrB 1900 (t, b) := ⟨h, ht, hb⟩
  have p20 : (2 : Nat) ^ 1908 ≤ 2 ^ 2000 := Nat.pow_le_pow_right (by decide) (by decide)
  have p19 : (2 : Nat) ^ 1900 ≤ 2 ^ 2000 := Nat.pow_le_pow_right (by decide) (by decide)
  have hl : ((ldI f a t b).fdiv 2).natAbs ≤ 2 ^ 2000 := by
    unfold ldI
    split
    · rw [show f * t + a * b = t * f + b * a by grind]
      exact Nat.le_trans (B.mul hF).half.t p20
    · exact Nat.le_trans B.half.t p19
  have e5 := low_ok (m := m) h hl (Nat.le_trans hb p19)
  rw [nx_low hF h]
  unfold ldI at e5 ⊢
  refine Run.eqr ?_
  unfold F__law_lead
  rw [run_fn (by rfl), gr__law_lead]
  have hf2 : t.fmod 2 = t % 2 := Int.fmod_eq_emod_of_nonneg _ (by decide)
  simp [gT, gTs, gN, r__law_lead_1, hf2]
  by_cases q : t % 2 = 1
  · rw [if_pos q] at e5
    simp [q, r__law_lead_2, b3, b4, e0, e5, lowP]
  · rw [if_neg q] at e5
    simp [q, r__law_lead_2, b3, b4, e0, e5, lowP]

/-! snippet fstr: str of a Frac -/
def txtP (t b : Int) : Str := if b = 1 then ((toString t : String) : Str) else ((toString t : String) : Str) ++ "/" ++ ((toString b : String) : Str)
theorem eqI {i j : Int} {m : Sto} : eqD (.int i) (.int j) m = some (.bl (decide (i = j))) := rfl
theorem nil_app (a : Str) : Str.empty ++ a = a := str_ext (by show ((#[] : Array Nat) ++ a.cps).toList = _; simp)
theorem len_int {i : Int} (h : i.natAbs.log2 < 1920) : ((toString i : String) : Str).length ≤ 1921 := int_text_len_1921 h
theorem len_txt {t b : Int} (ht : t.natAbs.log2 < 1920) (hb : b.natAbs.log2 < 1920) : (txtP t b).length ≤ 4000 := by
  have h1 := len_int ht
  have h2 := len_int hb
  unfold txtP
  split
  · omega
  · rw [strLen_append, strLen_append, show (Str.ofString "/").length = 1 from rfl]; omega
theorem str_ok {t b : Int} {m : Sto} (ht : t.natAbs.log2 < 1920) (hb : b.natAbs.log2 < 1920) : F_Frac___str__ [fr t b] m = some (.ok (.str (txtP t b)) m) := by
  have h1 := len_int ht
  have h2 := len_int hb
  refine Run.eqr ?_
  unfold F_Frac___str__
  rw [run_fn (by rfl)]
  by_cases q : b = 1
  · simp [g_Frac___str__, eqI, q, ht, txtP]
  · simp [g_Frac___str__, eqI, q]
    refine run_join (ds := [.str ((toString t : String) : Str), .str "/", .str ((toString b : String) : Str)]) (ss := [((toString t : String) : Str), "/", ((toString b : String) : Str)]) ?_ rfl ?_ ?_
    · refine Run.eqr ?_
      simp [ht, hb]
    · simp only [List.map_cons, List.map_nil, List.sum_cons, List.sum_nil, show (Str.ofString "/").length = 1 from rfl]
      omega
    · simp [catS, nil_app, txtP, q]
theorem ascii_int (i : Int) : okS ((toString i : String) : Str) := fun c hc => by
  rcases Nat.lt_or_ge c 0x110000 with h | h
  · exact h
  · exact absurd hc (int_text_free' c ⟨by omega, .inr (by omega)⟩ i)
theorem okS_txt (t b : Int) : okS (txtP t b) := by
  unfold txtP
  split
  · exact ascii_int t
  · exact okS_app (okS_app (ascii_int t) (by decide)) (ascii_int b)

/-! snippet thgrule: need_rule of any value -/
theorem rule_thg {n L : Nat} {m : Sto} {d : D} (h : Thg n L m d) : F_need_rule [d] m = some (.exn (5 : Nat) d m) := by
  refine Run.eqr ?_
  unfold F_need_rule
  rw [run_fn (by rfl)]
  cases h <;> simp [g_need_rule, isiD_eq, tyD, *]

/-! snippet pairf: _law_pair -/
theorem pair_st {m0 m : Sto} {n : Nat} {c : Int} {K : D → Sto → Prop} {X : Nat → D → Sto → Prop} (S : St n c m0 m) (hc : c ≤ 80000) (k : ∀ (x : Int × Int) (m' : Sto), FrB 1000 x → gS x.1 x.2 = 1 → 0 < x.2 → St n (c + 10) m0 m' → K (.tup [.int x.1, .int x.2]) m') :
    Run (F__law_pair [.loc n] m) (resC K X) := by
  unfold F__law_pair
  rw [run_fn (by rfl)]
  have S0 := St.start S.box
  simp [g__law_pair]
  refine take_st S0 (by omega) (by decide) (by decide) fun r1 m1 p1 q1 S1 _ => ?_
  try simp
  refine take_st S1 (by omega) (by decide) (by decide) fun r2 m2 p2 q2 S2 _ => ?_
  try simp
  refine take_st S2 (by omega) (by decide) (by decide) fun r3 m3 p3 q3 S3 _ => ?_
  obtain ⟨d, e1, hd⟩ := atI_mem (xs := [D.int 1, D.int 3, D.int (2 * r1 + 1), D.int (2 * r2 + 1)]) p3 q3
  rw [ixD_lst]
  refine Run.of e1 ?_
  have hb : ∃ b : Int, d = .int b ∧ b % 2 = 1 ∧ b.natAbs ≤ 10 ^ 21 := by
    simp only [List.mem_cons, List.not_mem_nil, or_false] at hd
    rcases hd with rfl | rfl | rfl | rfl <;> refine ⟨_, rfl, ?_⟩ <;> omega
  obtain ⟨b, rfl, hb1, hb2⟩ := hb
  try simp
  refine take_st S3 (by omega) (by decide) (by decide) fun r4 m4 p4 q4 S4 _ => ?_
  try simp
  refine take_st S4 (by omega) (by decide) (by decide) fun r5 m5 p5 q5 S5 _ => ?_
  try simp
  refine take_st S5 (by omega) (by decide) (by decide) fun r6 m6 p6 q6 S6 _ => ?_
  try simp
  refine take_st S6 (by omega) (by decide) (by decide) fun r7 m7 p7 q7 S7 _ => ?_
  obtain ⟨d, e2, hd⟩ := atI_mem (xs := [D.int (r4 - 20), D.int r5, D.int (-r6), D.int b]) p7 q7
  try rw [ixD_lst]
  refine Run.of e2 ?_
  have ht : ∃ t : Int, d = .int t ∧ t.natAbs ≤ 10 ^ 21 := by
    simp only [List.mem_cons, List.not_mem_nil, or_false] at hd
    rcases hd with rfl | rfl | rfl | rfl <;> refine ⟨_, rfl, ?_⟩ <;> omega
  obtain ⟨t, rfl, ht⟩ := ht
  have p10 : (10 : Nat) ^ 21 ≤ 2 ^ 1000 := by decide +kernel
  have p20 : (2 : Nat) ^ 1000 ≤ 2 ^ 2000 := Nat.pow_le_pow_right (by decide) (by decide)
  have B : FrB 1000 (t, b) := ⟨hb1, Nat.le_trans ht p10, Nat.le_trans hb2 p10⟩
  simp [low_ok (m := m7) hb1 (Nat.le_trans B.t p20) (Nat.le_trans B.b p20)]
  exact S.fin0 (S7.mono (by omega)) fun m' S' => k (lowP t b) m' B.low (low_one hb1).1 (low_one hb1).2.1 S'

/-! snippet isifr -/
theorem isi_fr {m : Sto} {t b : Int} : isiD tab [fr t b, .cls (.own (0 : Nat))] m = some (.bl true) := by simp [isiD_eq, tyD, fr]
theorem row_at {f a : Int} {x : Int × Int} {k i : Nat} (hi : i < k + 1) : (rowF f a x k)[i]? = some (fr (wkF f a x i).1 (wkF f a x i).2) := by
  unfold rowF
  rw [List.getElem?_map, List.getElem?_range hi]
  rfl

end LW

namespace LW
open PySem PySem.Spec L2 PyProof.Rows PM
def frp (x : Int × Int) : D := fr x.1 x.2
def tp (x : Int × Int) : D := .tup [.int x.1, .int x.2]
/-- an item of what is passed as a round -/
def ItQ (n : Nat) (m : Sto) (x : D) : Prop := (∃ y : Int × Int, x = frp y ∧ FrB 1850 y) ∨ (∃ y : Int × Int, x = tp y ∧ FrB 1850 y) ∨ (∃ i : Int, x = .int i ∧ i.natAbs ≤ 2 ^ 1850) ∨ Thg n 1 m x
def SeqQ (n : Nat) (m : Sto) (d : D) (ds : List D) : Prop := (d = .lst ds ∨ d = .tup ds ∨ ∃ q, d = .loc q ∧ q ≠ n ∧ m[q]? = some (.lst ds)) ∧ ds.length ≤ 80 ∧ ∀ x ∈ ds, ItQ n m x
def lty : D := .tup [.cls (.bi .lst), .cls (.bi .tup)]
def ThQ (n : Nat) (m : Sto) (d : D) : Prop := (∃ ds, SeqQ n m d ds) ∨ (Thg n 1 m d ∧ isiD tab [d, lty] m = some (.bl false))
theorem ItQ.keep {n : Nat} {m m' : Sto} {d : D} (h : ItQ n m d) (g : Grow n m m') : ItQ n m' d := by
  rcases h with h | h | h | h
  · exact .inl h
  · exact .inr (.inl h)
  · exact .inr (.inr (.inl h))
  · exact .inr (.inr (.inr (h.keep g)))
theorem SeqQ.view {n : Nat} {m : Sto} {d : D} {ds : List D} (h : SeqQ n m d ds) : ∃ w, wOk w m ∧ itemsD d m = some (.ok ds w m) ∧ lenD [d] m = some (.int (ds.length : Nat)) ∧ isiD tab [d, lty] m = some (.bl true) ∧
    (∀ fs env, evL fs env m = some (.ok [d] m) → iEnuQ fs env m = some (.ok (prsD 0 ds) w m)) ∧ ∀ j : Int, ixD d (.int j) m = L2.atI ds j := by
  obtain ⟨h, -, -⟩ := h
  rcases h with rfl | rfl | ⟨q, rfl, -, e⟩
  · refine ⟨none, trivial, rfl, lenD_lst, ?_, fun fs env h => iEnuQ_of h (.inl rfl), fun j => ixD_lst⟩
    simp [isiD, tyD, anyT, tab_b, isiBi, lty]
  · refine ⟨none, trivial, rfl, rfl, ?_, fun fs env h => iEnuQ_of h (.inr rfl), fun j => rfl⟩
    simp [isiD, tyD, anyT, tab_b, isiBi, lty]
  · refine ⟨some (q, ds), e, itemsD_at e, ?_, ?_, fun fs env h => iEnuQ_loc h e, fun j => ixD_loc e⟩
    · simp only [lenD, seqOf, e]
    · simp [isiD, tyD, e, anyT, tab_b, isiBi, lty]
def isF (x : D) : Bool := match x with
  | .ob 0 [.int _, .int _] => true
  | _ => false
theorem ItQ.isi {n : Nat} {m : Sto} {d : D} (h : ItQ n m d) : isiD tab [d, .cls (.own (0 : Nat))] m = some (.bl (isF d)) := by
  rcases h with ⟨y, rfl, -⟩ | ⟨y, rfl, -⟩ | ⟨i, rfl, -⟩ | h
  · exact isi_fr
  · simp [isiD_eq, tyD, tp, isF]
  · simp [isiD_eq, tyD, isF]
  · cases h <;> simp [isiD_eq, tyD, isF, *]
theorem ItQ.fr {n : Nat} {m : Sto} {d : D} (h : ItQ n m d) (hf : isF d = true) : ∃ y : Int × Int, d = frp y ∧ FrB 1850 y := by
  rcases h with h | ⟨y, rfl, -⟩ | ⟨i, rfl, -⟩ | h
  · exact h
  · cases hf
  · cases hf
  · cases h <;> cases hf
theorem prsD_range {f : Nat → D} (n : Nat) : prsD 0 ((List.range n).map f) = (List.range n).map fun i => .tup [.int (i : Nat), f i] := by
  refine List.ext_getElem? fun i => ?_
  rw [prsD_get, List.getElem?_map, List.getElem?_map]
  by_cases h : i < n
  · rw [List.getElem?_range h]; simp
  · rw [List.getElem?_eq_none (by simpa using h)]; simp
theorem all_true {α : Type} (xs : List α) (m : Sto) : allD [.lst (xs.map fun _ => D.bl true)] m = some (.bl true) := by
  have : (xs.map fun _ => D.bl true) = (xs.map fun _ => true).map .bl := by rw [List.map_map]; rfl
  rw [this, allD_bls]
  simp
theorem all_bl {α : Type} {b : α → Bool} (xs : List α) (m : Sto) : allD [.lst (xs.map fun x => D.bl (b x))] m = some (.bl (xs.all b)) := by
  have : (xs.map fun x => D.bl (b x)) = (xs.map b).map .bl := by rw [List.map_map]; rfl
  rw [this, allD_bls]
  simp [List.all_map]
theorem feq_ok {m : Sto} {t b t2 b2 : Int} : F_Frac___eq__ [.ob (0 : Nat) [.int t, .int b], .ob (0 : Nat) [.int t2, .int b2]] m = some (.ok (.bl (decide (t = t2) && decide (b = b2))) m) := by
  have e1 : ∀ t b : Int, fldD (2 : Nat) fnm (Str.ofString "above") (.ob (0 : Nat) [.int t, .int b]) m = some (.int t) := fun t b => fld_above
  have e2 : ∀ t b : Int, fldD (2 : Nat) fnm (Str.ofString "below") (.ob (0 : Nat) [.int t, .int b]) m = some (.int b) := fun t b => fld_below
  refine Run.eqr ?_
  unfold F_Frac___eq__
  rw [run_fn (by rfl)]
  simp [g_Frac___eq__, isiD_eq, tyD, e1, e2, eqI]
  by_cases q : t = t2
  · subst q; simp [e2, eqI]
  · simp [q]
theorem pair_dec (x y : Int × Int) : decide (x = y) = (decide (x.1 = y.1) && decide (x.2 = y.2)) := by
  rw [← Bool.decide_and]
  exact decide_eq_decide.mpr ⟨fun e => by rw [e]; exact ⟨rfl, rfl⟩, fun e => Prod.ext e.1 e.2⟩
theorem eq_fr {m : Sto} {x y : Int × Int} : eqMD (2 : Nat) exq (mOf [((0 : Nat), F_Frac___eq__), ((1 : Nat), F_Rule___eq__)]) (fr x.1 x.2) (fr y.1 y.2) m = some (.bl (decide (x = y))) := by
  rw [pair_dec]
  exact eqMD_oo mOf_hit (by decide) feq_ok
/-- whether the numbers go round -/
def goB (f a : Int) (N : Nat) (y : Nat → Int × Int) : Bool := (List.range N).all fun i => decide (nxF f a (y i) = y ((i + 1) % N))
section
variable {n : Nat} {m : Sto} {d : D} {ds : List D} {f a : Int}
theorem isround_len (S : SeqQ n m d ds) (h : ¬ (1 ≤ ds.length ∧ ds.length ≤ 60)) : F_is_round [rl f a, d] m = some (.ok (.bl false) m) := by
  obtain ⟨w, hw, e1, e2, e3, e4, e5⟩ := S.view
  refine Run.eqr ?_
  unfold F_is_round
  rw [run_fn (by rfl), gr_is_round]
  have e3' : isiD tab [d, .tup [.cls (.bi .lst), .cls (.bi .tup)]] m = some (.bl true) := e3
  by_cases q : 1 ≤ ds.length
  · have q2 : ¬ (ds.length : Int) ≤ 60 := by omega
    have q1 : (1 : Int) ≤ ds.length := by omega
    simp [need_rule_ok, r_is_round_1, e2, e3', q, q1, q2]
  · have q1 : ¬ (1 : Int) ≤ ds.length := by omega
    simp [need_rule_ok, r_is_round_1, e2, e3', q, q1]
theorem isround_non (S : SeqQ n m d ds) (h1 : 1 ≤ ds.length) (h2 : ds.length ≤ 60) (hx : ds.all isF = false) : F_is_round [rl f a, d] m = some (.ok (.bl false) m) := by
  obtain ⟨w, hw, e1, e2, e3, e4, e5⟩ := S.view
  have e3' : isiD tab [d, .tup [.cls (.bi .lst), .cls (.bi .tup)]] m = some (.bl true) := e3
  have q2 : (ds.length : Int) ≤ 60 := by omega
  have q1 : (1 : Int) ≤ ds.length := by omega
  refine Run.eqr ?_
  unfold F_is_round
  rw [run_fn (by rfl), gr_is_round]
  simp [need_rule_ok, r_is_round_1, e1, e2, e3', q1, q2, h1, r_is_round_2]
  rw [show ds = ds.map (fun x => x) by simp, lcW_all (en := fun x : D => x) (h := fun x => D.bl (isF x)) hw fun x hx => ⟨_, rfl, rfl, Run.eqr (by simp [wipeN, gN, (S.2.2 x hx).isi])⟩]
  simp
  refine ⟨by omega, ?_⟩
  rw [all_bl, hx]
  simp
theorem isround_fr {N : Nat} {y : Nat → Int × Int} (h : FA f a) (S : SeqQ n m d ((List.range N).map fun i => fr (y i).1 (y i).2)) (hy : ∀ i, i < N → FrB 1850 (y i)) (h1 : 1 ≤ N) (h2 : N ≤ 60) : F_is_round [rl f a, d] m = some (.ok (.bl (goB f a N y)) m) := by
  obtain ⟨w, hw, e1, e2, e3, e4, e5⟩ := S.view
  have e3' : isiD tab [d, .tup [.cls (.bi .lst), .cls (.bi .tup)]] m = some (.bl true) := e3
  simp only [List.length_map, List.length_range] at e2
  have q2 : (N : Int) ≤ 60 := by omega
  have q1 : (1 : Int) ≤ N := by omega
  have q1' : 1 ≤ N := h1
  refine Run.eqr ?_
  unfold F_is_round
  rw [run_fn (by rfl), gr_is_round]
  simp [need_rule_ok, r_is_round_1, e1, e2, e3', q1, q2, q1', r_is_round_2]
  rw [lcW_all (en := fun i => fr (y i).1 (y i).2) (h := fun _ => .bl true) hw fun i _ => ⟨_, rfl, rfl, Run.eqr (by simp [wipeN, gN, isi_fr])⟩]
  simp
  refine ⟨by omega, ?_⟩
  rw [all_true]
  simp [r_is_round_3]
  rw [e4 _ _ (by rfl), run_some, resiC_ok, prsD_range, lcW_all (en := fun i => D.tup [.int (i : Nat), fr (y i).1 (y i).2]) (h := fun i => .bl (decide (nxF f a (y i) = y ((i + 1) % N)))) hw fun i hi => ⟨_, rfl, rfl, Run.eqr ?_⟩]
  · simp
    refine ⟨by omega, ?_⟩
    rw [all_bl]
    simp [goB]
  · have hi := List.mem_range.mp hi
    have e6 : ((i : Int) + 1).fmod (N : Int) = (((i + 1) % N : Nat) : Int) := by rw [Int.fmod_eq_emod_of_nonneg _ (by omega)]; rfl
    have k0 : ¬ (N : Int) = 0 := by omega
    have k0' : ¬ N = 0 := by omega
    have hj : (i + 1) % N < N := Nat.mod_lt _ (by omega)
    have e7 : ixD d (.int (((i + 1) % N : Nat) : Int)) m = some (fr (y ((i + 1) % N)).1 (y ((i + 1) % N)).2) := by
      rw [e5]
      refine atI_nat ?_
      rw [List.getElem?_map, List.getElem?_range hj]
      rfl
    simp [wipeN, gT, gTs, gN]
    refine nextfr_ok h (hy i hi) (by omega) ?_
    simp [e2, k0, k0', e6]
    rw [show ((i : Int) + 1) % (N : Int) = (((i + 1) % N : Nat) : Int) from rfl, e7, run_some, eq_fr]
    simp
end
theorem ob_told {t b : Int} {m : Sto} {env : Nv} {P : Res → Prop} : obC fnm (mOf [((0 : Nat), F_Frac_told), ((1 : Nat), F_Rule_told)]) [] env P (.ok (fr t b) m) ↔ P (.ok (.tup [.int t, .int b]) m) := by
  unfold fr
  rw [obC_ok mOf_hit rfl]
  simp
  unfold F_Frac_told
  rw [run_fn (by rfl)]
  have e1 : fldD (2 : Nat) fnm "above" (.ob (0 : Nat) [.int t, .int b]) m = some (.int t) := fldD_ob (by decide) rfl
  have e2 : fldD (2 : Nat) fnm "below" (.ob (0 : Nat) [.int t, .int b]) m = some (.int b) := fldD_ob (by decide) rfl
  simp [g_Frac_told, e1, e2]
theorem ob_top {t b : Int} {m : Sto} {env : Nv} {P : Res → Prop} : obC fnm (mOf [((0 : Nat), F_Frac_top)]) [] env P (.ok (fr t b) m) ↔ P (.ok (.int t) m) := by
  unfold fr
  rw [obC_ok mOf_hit rfl]
  simp
  unfold F_Frac_top
  rw [run_fn (by rfl)]
  have e1 : fldD (2 : Nat) fnm "above" (.ob (0 : Nat) [.int t, .int b]) m = some (.int t) := fldD_ob (by decide) rfl
  simp [g_Frac_top, e1]
def pD (x : Int × Int) : PyData := .tuple [.int x.1, .int x.2]
theorem eqv_all {α : Type} {u v : α → Int × Int} : ∀ xs : List α, PyData.eqvAll (xs.map fun i => pD (u i)) (xs.map fun i => pD (v i)) = xs.all fun i => decide (u i = v i)
  | [] => rfl
  | x :: xs => by
    rw [List.map_cons, List.map_cons, List.all_cons]
    simp only [PyData.eqvAll]
    rw [eqv_all xs, pair_dec]
    congr 1
    simp only [pD, PyData.eqv, PyData.eqvAll, Bool.and_true]
    by_cases q1 : (u x).1 = (v x).1 <;> by_cases q2 : (u x).2 = (v x).2 <;> simp [q1, q2]
theorem lay_all {α : Type} {u : α → Int × Int} : ∀ xs : List α, PyData.canLayAll0 (xs.map fun i => pD (u i)) = true ∧ PyData.depthAll (xs.map fun i => pD (u i)) ≤ 3
  | [] => ⟨rfl, by simp [PyData.depthAll]⟩
  | x :: xs => by
    obtain ⟨h1, h2⟩ := lay_all (u := u) xs
    have e : PyData.canLay0 (pD (u x)) = true := rfl
    refine ⟨by rw [List.map_cons]; simp only [PyData.canLayAll0, e, h1, Bool.and_self], ?_⟩
    rw [List.map_cons]
    simp only [PyData.depthAll, pD, PyData.depth] at h2 ⊢
    omega
theorem data_all {α : Type} {u : α → Int × Int} {m : Sto} : ∀ xs : List α, mapO (dataF m 69) (xs.map fun i => tp (u i)) = some (xs.map fun i => pD (u i))
  | [] => rfl
  | x :: xs => by
    rw [List.map_cons]
    simp only [mapO, data_all xs]
    rfl
theorem eq_tps {α : Type} {u v : α → Int × Int} {m : Sto} (xs : List α) : eqD (.lst (xs.map fun i => tp (u i))) (.lst (xs.map fun i => tp (v i))) m = some (.bl (xs.all fun i => decide (u i = v i))) := by
  obtain ⟨a1, a2⟩ := lay_all (u := u) xs
  obtain ⟨b1, b2⟩ := lay_all (u := v) xs
  have d1 : ∀ u : α → Int × Int, dataF m 70 (.lst (xs.map fun i => tp (u i))) = some (.list (xs.map fun i => pD (u i))) := fun u => by
    show (mapO (dataF m 69) _).map PyData.list = _
    rw [data_all]; rfl
  refine eqD_data (p := .list (xs.map fun i => pD (u i))) (q := .list (xs.map fun i => pD (v i))) (by simp [PyData.canLay0, a1]) (by simp [PyData.depth]; omega) (by simp [PyData.canLay0, b1]) (by simp [PyData.depth]; omega) (d1 u) (d1 v) ?_ ?_
  · simp only [PyData.eqv]
    exact eqv_all xs
  · simp [lenNe, lstOf]
theorem turn1 {α : Type} (g : Nat → α) {N : Nat} (h : 1 ≤ N) : (((List.range N).map g).drop 1 ++ ((List.range N).map g).take 1) = (List.range N).map fun i => g ((i + 1) % N) := by
  refine List.ext_getElem? fun i => ?_
  by_cases q : i < N
  · rw [List.getElem?_map, List.getElem?_range q]
    by_cases q2 : i + 1 < N
    · rw [List.getElem?_append_left (by simp; omega), List.getElem?_drop, List.getElem?_map, List.getElem?_range (by omega), Option.map_some, Option.map_some, Nat.mod_eq_of_lt q2, Nat.add_comm 1 i]
    · have : i + 1 = N := by omega
      rw [List.getElem?_append_right (by simp; omega), Option.map_some, this, Nat.mod_self, List.length_drop, List.length_map, List.length_range, show i - (N - 1) = 0 by omega]
      rw [List.getElem?_take_of_lt (by omega), List.getElem?_map, List.getElem?_range (by omega), Option.map_some]
  · rw [List.getElem?_eq_none (by simp; omega), List.getElem?_eq_none (by simp; omega)]
section
variable {n : Nat} {m : Sto} {d : D} {ds : List D} {f a : Int}
theorem due_len (S : SeqQ n m d ds) (h : ¬ (1 ≤ ds.length ∧ ds.length ≤ 60)) {r : D} : F__law_due [r, d] m = some (.ok (.bl false) m) := by
  obtain ⟨w, hw, e1, e2, e3, e4, e5⟩ := S.view
  have e3' : isiD tab [d, .tup [.cls (.bi .lst), .cls (.bi .tup)]] m = some (.bl true) := e3
  refine Run.eqr ?_
  unfold F__law_due
  rw [run_fn (by rfl), gr__law_due]
  by_cases q : ds.length < 1
  · have q1 : (ds.length : Int) < 1 := by omega
    simp [e2, e3', q, q1]
  · have q1 : ¬ (ds.length : Int) < 1 := by omega
    have q2 : (60 : Int) < ds.length := by omega
    simp [e2, e3', q, q1, q2]
theorem due_non (S : SeqQ n m d ds) (h1 : 1 ≤ ds.length) (h2 : ds.length ≤ 60) (hx : ds.all isF = false) {r : D} : F__law_due [r, d] m = some (.ok (.bl false) m) := by
  obtain ⟨w, hw, e1, e2, e3, e4, e5⟩ := S.view
  have e3' : isiD tab [d, .tup [.cls (.bi .lst), .cls (.bi .tup)]] m = some (.bl true) := e3
  have q1 : ¬ (ds.length : Int) < 1 := by omega
  have q1' : ¬ ds.length < 1 := by omega
  have q2 : ¬ (60 : Int) < ds.length := by omega
  refine Run.eqr ?_
  unfold F__law_due
  rw [run_fn (by rfl), gr__law_due]
  simp [e1, e2, e3', q1, q1', q2, r__law_due_1]
  have hn : (ds.filter fun x => !isF x) ≠ [] := by
    intro z
    rw [List.filter_eq_nil_iff] at z
    rw [List.all_eq_false] at hx
    obtain ⟨x, hx, hf⟩ := hx
    exact z x hx (by simpa using hf)
  rw [show ds = ds.map (fun x => x) by simp, lcW_map (en := fun x : D => x) (k := fun x => !isF x) (h := fun x => x) hw fun x hx => ⟨_, rfl, Run.eqr (by simp [wipeN, gN, (S.2.2 x hx).isi]), fun _ => rfl⟩]
  have hn2 : ¬ ∀ x, x ∈ ds → isF x = true := by
    intro z
    rw [List.all_eq_false] at hx
    obtain ⟨x, hx, hf⟩ := hx
    exact hf (z x hx)
  have hln : (ds.filter fun x => !isF x).length ≤ 100000 := Nat.le_trans (List.length_filter_le _ _) (by omega)
  simp [ne_nil, hln]
  rw [if_neg hn2]
  simp
theorem due_fr {N : Nat} {y : Nat → Int × Int} (h : FA f a) (S : SeqQ n m d ((List.range N).map fun i => fr (y i).1 (y i).2)) (hy : ∀ i, i < N → FrB 1850 (y i)) (h1 : 1 ≤ N) (h2 : N ≤ 60) : F__law_due [.tup [.int f, .int a], d] m = some (.ok (.bl (goB f a N y)) m) := by
  obtain ⟨w, hw, e1, e2, e3, e4, e5⟩ := S.view
  have e3' : isiD tab [d, .tup [.cls (.bi .lst), .cls (.bi .tup)]] m = some (.bl true) := e3
  simp only [List.length_map, List.length_range] at e2
  have q1 : ¬ (N : Int) < 1 := by omega
  have q1' : ¬ N < 1 := by omega
  have q1n : ¬ N = 0 := by omega
  have q2 : ¬ (60 : Int) < N := by omega
  refine Run.eqr ?_
  unfold F__law_due
  rw [run_fn (by rfl), gr__law_due]
  simp [e1, e2, e3', q1, q1', q1n, q2, r__law_due_1]
  rw [lcW_none (en := fun i => fr (y i).1 (y i).2) hw fun i _ => ⟨_, rfl, Run.eqr (by simp [wipeN, gN, isi_fr])⟩]
  simp [ne_nil, r__law_due_2, e1]
  rw [lcW_all (en := fun i => fr (y i).1 (y i).2) (h := fun i => tp (y i)) hw fun i _ => ⟨_, rfl, rfl, Run.eqr (by simp [wipeN, gN, ob_told, tp])⟩]
  simp [r__law_due_3]
  refine ⟨by omega, ?_⟩
  rw [lc_all (en := fun i => tp (y i)) (h := fun i => tp (nxF f a (y i))) fun i hi => ⟨_, rfl, rfl, Run.eqr (by
    have hi := hy i (List.mem_range.mp hi)
    have p19 : (2 : Nat) ^ 1850 ≤ 2 ^ 1900 := Nat.pow_le_pow_right (by decide) (by decide)
    simp [wipeN, gN, tp, lead_ok (m := m) h hi.odd (Nat.le_trans hi.t p19) (Nat.le_trans hi.b p19)])⟩]
  have c1 : cutL ((List.range N).map fun i => tp (y i)) (some 1) none = ((List.range N).map fun i => tp (y i)).drop 1 := cutL_drop (k := 1)
  have c2 : cutL ((List.range N).map fun i => tp (y i)) none (some 1) = ((List.range N).map fun i => tp (y i)).take 1 := cutL_take (k := 1)
  simp [c1, c2]
  refine ⟨by omega, by omega, ?_⟩
  rw [← List.drop_one, turn1 _ h1, eq_tps (u := fun i => nxF f a (y i)) (v := fun i => y ((i + 1) % N))]
  simp [goB]
theorem isround_nos (h : isiD tab [d, lty] m = some (.bl false)) : F_is_round [rl f a, d] m = some (.ok (.bl false) m) := by
  have e3' : isiD tab [d, .tup [.cls (.bi .lst), .cls (.bi .tup)]] m = some (.bl false) := h
  refine Run.eqr ?_
  unfold F_is_round
  rw [run_fn (by rfl), gr_is_round]
  simp [need_rule_ok, r_is_round_1, e3']
theorem due_nos (h : isiD tab [d, lty] m = some (.bl false)) {r : D} : F__law_due [r, d] m = some (.ok (.bl false) m) := by
  have e3' : isiD tab [d, .tup [.cls (.bi .lst), .cls (.bi .tup)]] m = some (.bl false) := h
  refine Run.eqr ?_
  unfold F__law_due
  rw [run_fn (by rfl), gr__law_due]
  simp [e3']
theorem fr_of : ∀ {ds : List D}, (∀ x ∈ ds, ItQ n m x) → ds.all isF = true → ∃ ys : List (Int × Int), ds = ys.map frp ∧ ∀ y ∈ ys, FrB 1850 y
  | [], _, _ => ⟨[], rfl, by simp⟩
  | d :: ds, h, e => by
    rw [List.all_cons, Bool.and_eq_true] at e
    obtain ⟨ys, rfl, h2⟩ := fr_of (fun x hx => h x (List.mem_cons_of_mem _ hx)) e.2
    obtain ⟨y, rfl, h3⟩ := (h d List.mem_cons_self).fr e.1
    exact ⟨y :: ys, rfl, fun z hz => by
      rcases List.mem_cons.mp hz with rfl | hz
      · exact h3
      · exact h2 z hz⟩
theorem both_ok (h : FA f a) (T : ThQ n m d) : ∃ b, F_is_round [rl f a, d] m = some (.ok (.bl b) m) ∧ F__law_due [.tup [.int f, .int a], d] m = some (.ok (.bl b) m) := by
  rcases T with ⟨ds, S⟩ | ⟨-, T⟩
  · by_cases q : 1 ≤ ds.length ∧ ds.length ≤ 60
    · cases qf : ds.all isF with
      | false => exact ⟨false, isround_non S q.1 q.2 qf, due_non S q.1 q.2 qf⟩
      | true =>
        obtain ⟨ys, rfl, hb⟩ := fr_of S.2.2 qf
        rw [List.length_map] at q
        have e : ys.map frp = (List.range ys.length).map fun i => fr (ys.getD i (0, 1)).1 (ys.getD i (0, 1)).2 := by
          refine List.ext_getElem? fun i => ?_
          rw [List.getElem?_map, List.getElem?_map]
          by_cases hi : i < ys.length
          · rw [List.getElem?_range hi, List.getElem?_eq_getElem hi, Option.map_some, Option.map_some, List.getD_eq_getElem?_getD, List.getElem?_eq_getElem hi]; rfl
          · rw [List.getElem?_eq_none (by omega), List.getElem?_eq_none (by simpa using hi)]; rfl
        rw [e] at S
        have hy : ∀ i, i < ys.length → FrB 1850 (ys.getD i (0, 1)) := fun i hi => by
          rw [List.getD_eq_getElem?_getD, List.getElem?_eq_getElem hi]
          exact hb _ (List.getElem_mem hi)
        exact ⟨_, isround_fr h S hy q.1 q.2, due_fr h S hy q.1 q.2⟩
    · exact ⟨false, isround_len S q, due_len S q⟩
  · exact ⟨false, isround_nos T, due_nos T⟩
end
/-! how it is shown -/
theorem Thg.ps1 {n : Nat} {m : Sto} {d : D} (h : Thg n 1 m d) : Ps xtx m d 1 10000 := by
  cases h with
  | non => exact Ps.non.mono (Nat.le_refl _) (by decide)
  | bl b => exact Ps.bl.mono (Nat.le_refl _) (by decide)
  | int i h =>
    refine (Ps.int ?_).mono (Nat.le_refl _) (by decide)
    have : i.natAbs < 2 ^ 1001 := by rw [Nat.pow_succ]; have := Nat.pow_pos (n := 1000) (show 0 < 2 by decide); omega
    exact Nat.lt_of_lt_of_le (log2_lt this (by decide)) (by decide)
  | str s hl h => exact (Ps.str h (by omega)).mono (Nat.le_refl _) (by omega)
  | tup xs hl h =>
    have hx : xs.length * 1923 ≤ 1 * 1923 := Nat.mul_le_mul_right _ (by omega)
    exact (Ps.tup (k := 0) (PsL.all fun x hx => ps_flat (h x hx) 0)).mono (Nat.le_refl _) (by omega)
  | lsv xs hl h =>
    have hx : xs.length * 1923 ≤ 1 * 1923 := Nat.mul_le_mul_right _ (by omega)
    exact (Ps.lst (k := 0) (PsL.all fun x hx => ps_flat (h x hx) 0)).mono (Nat.le_refl _) (by omega)
  | exc d h => exact Ps.exc (p := ("NoHalf", "the fraction is odd")) rfl (by decide +kernel)
  | lst q xs e hn hl h =>
    have hx : xs.length * 1923 ≤ 1 * 1923 := Nat.mul_le_mul_right _ (by omega)
    exact (Ps.loc (k := 0) e (PsL.all fun x hx => ps_flat (h x hx) 0)).mono (Nat.le_refl _) (by omega)
  | dct q kvs e hn hl h =>
    have hx : kvs.length * 3000 ≤ 1 * 3000 := Nat.mul_le_mul_right _ (by omega)
    exact (Ps.dct (k := 0) e (ps_flatE 0 h)).mono (Nat.le_refl _) (by omega)
def rprP (t b : Int) : Str := "Frac(" ++ txtP t b ++ ")"
theorem repr_ok {t b : Int} {m : Sto} (ht : t.natAbs.log2 < 1920) (hb : b.natAbs.log2 < 1920) : F_Frac___repr__ [fr t b] m = some (.ok (.str (rprP t b)) m) := by
  have hl := len_txt ht hb
  refine Run.eqr ?_
  unfold F_Frac___repr__
  rw [run_fn (by rfl)]
  simp [g_Frac___repr__]
  have e2 : strMD (mOf [((0 : Nat), F_Frac___str__)]) [fr t b] m = some (.str (txtP t b)) := strMD_ob mOf_hit (str_ok ht hb)
  refine run_join (ds := [.str "Frac(", .str (txtP t b), .str ")"]) (ss := ["Frac(", txtP t b, ")"]) ?_ rfl ?_ ?_
  · refine Run.eqr ?_
    have l6 : (txtP t b).length ≤ 1000000 := by omega
    simp [e2, l6]
  · simp only [List.map_cons, List.map_nil, List.sum_cons, List.sum_nil, show (Str.ofString "Frac(").length = 5 from rfl, show (Str.ofString ")").length = 1 from rfl]
    omega
  · simp [catS, nil_app, rprP]
noncomputable abbrev MR : Nat → Option FD := mOf [((0 : Nat), F_Frac___repr__)]
theorem it_fr {m : Sto} {y : Int × Int} (B : FrB 1850 y) : ∃ t, itT xtx MR m (frp y) = some t ∧ t.length ≤ 10000 := by
  have ht : y.1.natAbs.log2 < 1920 := log_of B.t (by decide)
  have hb : y.2.natAbs.log2 < 1920 := log_of B.b (by decide)
  have hl := len_txt ht hb
  have e := repr_ok (m := m) ht hb
  refine ⟨rprP y.1 y.2, ?_, ?_⟩
  · have e0 : itT xtx MR m (frp y) = match callS F_Frac___repr__ (.ob (0 : Nat) [.int y.1, .int y.2]) m with | some (.str t) => some t | _ => none := rfl
    have e2 : callS F_Frac___repr__ (.ob (0 : Nat) [.int y.1, .int y.2]) m = some (.str (rprP y.1 y.2)) := by
      unfold callS
      rw [show F_Frac___repr__ [.ob (0 : Nat) [.int y.1, .int y.2]] m = some (.ok (.str (rprP y.1 y.2)) m) from e]
      simp
    rw [e0, e2]
  · unfold rprP
    rw [strLen_append, strLen_append, show (Str.ofString "Frac(").length = 5 from rfl, show (Str.ofString ")").length = 1 from rfl]
    omega
theorem it_ps {m : Sto} {d : D} {k n : Nat} (h : Ps xtx m d k n) (hk : k < 40) (hd : ∀ c xs, d ≠ .ob c xs) : ∃ t, itT xtx MR m d = some t ∧ t.length ≤ n := by
  obtain ⟨j, t, h1, h2, h3⟩ := h
  refine ⟨t, ?_, h2⟩
  unfold itT
  split
  · rename_i c xs
    exact absurd rfl (hd c xs)
  · rw [h3 40 hk]
    simp [show j ≤ 40 by omega]
theorem ItQ.it {n : Nat} {m : Sto} {d : D} (h : ItQ n m d) : ∃ t, itT xtx MR m d = some t ∧ t.length ≤ 10000 := by
  rcases h with ⟨y, rfl, B⟩ | ⟨y, rfl, B⟩ | ⟨i, rfl, hi⟩ | h
  · exact it_fr B
  · exact it_ps (k := 1) ((Ps.tup (k := 0) (.cons (.int (log_of B.t (by decide))) (.cons (.int (log_of B.b (by decide))) .nil))).mono (Nat.le_refl _) (by decide)) (by decide) (fun c xs z => by cases z)
  · exact it_ps (k := 0) ((Ps.int (log_of hi (by decide))).mono (Nat.le_refl _) (by decide)) (by decide) (fun c xs z => by cases z)
  · exact it_ps h.ps1 (by decide) (fun c xs z => by subst z; cases h)
theorem its_ok {n : Nat} {m : Sto} : ∀ {ds : List D}, (∀ x ∈ ds, ItQ n m x) → ∃ ts, mapT (itT xtx MR m) ds = some ts ∧ piled ts ≤ ds.length * 10002
  | [], _ => ⟨[], rfl, by simp [piled]⟩
  | d :: ds, h => by
    obtain ⟨ts, e1, e2⟩ := its_ok fun x hx => h x (List.mem_cons_of_mem _ hx)
    obtain ⟨t, e3, e4⟩ := (h d List.mem_cons_self).it
    refine ⟨t :: ts, by simp only [mapT, e1, e3], ?_⟩
    rw [piled_cons, List.length_cons, Nat.succ_mul]
    omega
theorem repr_lst {n : Nat} {m : Sto} {d : D} {ds : List D} (h : ∀ x ∈ ds, ItQ n m x) (hl : ds.length ≤ 80) (e : lstOf d m = some ds) (hd : ds = [] → ∃ t, reprD xtx [d] m = some (.str t)) : ∃ t, reprCD xtx MR [d] m = some (.str t) := by
  obtain ⟨ts, e1, e2⟩ := its_ok h
  have hx : ds.length * 10002 ≤ 80 * 10002 := Nat.mul_le_mul_right _ hl
  have := listText_len ts
  cases ds with
  | nil =>
    obtain ⟨t, e3⟩ := hd rfl
    refine ⟨t, ?_⟩
    simp only [reprCD, e]
    exact e3
  | cons x xs =>
    refine ⟨listText ts, ?_⟩
    simp only [reprCD, e, e1]
    rw [if_pos (by omega)]
theorem repr_q {n : Nat} {m : Sto} {d : D} (T : ThQ n m d) : ∃ t, reprCD xtx MR [d] m = some (.str t) := by
  rcases T with ⟨ds, hd, hl, hx⟩ | ⟨T, hn⟩
  · rcases hd with rfl | rfl | ⟨q, rfl, -, e⟩
    · refine repr_lst hx hl rfl fun z => ?_
      subst z
      exact reprD_ps (k := 1) (n := 5) ((Ps.lst (k := 0) .nil).mono (Nat.le_refl _) (by decide)) (by decide) (by decide)
    · obtain ⟨ts, e1, e2⟩ := its_ok hx
      have hx : ds.length * 10002 ≤ 80 * 10002 := Nat.mul_le_mul_right _ hl
      have := tupleText_len ts
      refine ⟨tupleText ts, ?_⟩
      simp only [reprCD, lstOf, e1]
      rw [if_pos (by omega)]
    · refine repr_lst hx hl (by simp only [lstOf, e]) fun z => ?_
      subst z
      exact reprD_ps (k := 1) (n := 5) ((Ps.loc (k := 0) e .nil).mono (Nat.le_refl _) (by decide)) (by decide) (by decide)
  · obtain ⟨t, e⟩ := reprD_ps T.ps1 (by decide) (by decide)
    refine ⟨t, ?_⟩
    cases T with
    | tup xs hl h => simp [isiD, tyD, anyT, tab_b, isiBi, lty] at hn
    | lsv xs hl h => simp [isiD, tyD, anyT, tab_b, isiBi, lty] at hn
    | lst q xs e2 hq hl h => simp [isiD, tyD, anyT, tab_b, isiBi, lty, e2] at hn
    | dct q kvs e2 hq hl h => simp only [reprCD, lstOf, e2]; exact e
    | _ => exact e
/-! what is put for the round -/
theorem Flat.thg {n : Nat} {m : Sto} {d : D} (h : Flat d) : Thg n 1 m d := by
  rcases h with ⟨i, rfl, h⟩ | ⟨s, rfl, h1, h2⟩
  · exact .int i (Nat.le_trans h (Nat.pow_le_pow_right (by decide) (by decide)))
  · exact .str s (by omega) h2
theorem ThQ.of {n : Nat} {m : Sto} {d : D} (h : Thg n 1 m d) : ThQ n m d := by
  cases h with
  | tup xs hl h => exact .inl ⟨xs, .inr (.inl rfl), by omega, fun x hx => .inr (.inr (.inr (h x hx).thg))⟩
  | lsv xs hl h => exact .inl ⟨xs, .inl rfl, by omega, fun x hx => .inr (.inr (.inr (h x hx).thg))⟩
  | lst q xs e hn hl h => exact .inl ⟨xs, .inr (.inr ⟨q, rfl, hn, e⟩), by omega, fun x hx => .inr (.inr (.inr (h x hx).thg))⟩
  | non => exact .inr ⟨.non, by simp [isiD, tyD, anyT, tab_b, isiBi, lty]⟩
  | bl b => exact .inr ⟨.bl b, by simp [isiD, tyD, anyT, tab_b, isiBi, lty]⟩
  | int i h => exact .inr ⟨.int i h, by simp [isiD, tyD, anyT, tab_b, isiBi, lty]⟩
  | str s hl h => exact .inr ⟨.str s hl h, by simp [isiD, tyD, anyT, tab_b, isiBi, lty]⟩
  | exc d h => exact .inr ⟨.exc d h, by simp [isiD, tyD, anyT, lty]⟩
  | dct q kvs e hn hl h => exact .inr ⟨.dct q kvs e hn hl h, by simp [isiD, tyD, anyT, tab_b, isiBi, lty, e]⟩
theorem SeqQ.keep {n : Nat} {m m' : Sto} {d : D} {ds : List D} (h : SeqQ n m d ds) (g : Grow n m m') : SeqQ n m' d ds := by
  obtain ⟨hd, hl, hx⟩ := h
  refine ⟨?_, hl, fun x h => (hx x h).keep g⟩
  rcases hd with rfl | rfl | ⟨q, rfl, hq, e⟩
  · exact .inl rfl
  · exact .inr (.inl rfl)
  · exact .inr (.inr ⟨q, rfl, hq, by rw [g.2 q (List.getElem?_eq_some_iff.mp e).1 hq]; exact e⟩)
theorem ThQ.keep {n : Nat} {m m' : Sto} {d : D} (h : ThQ n m d) (g : Grow n m m') : ThQ n m' d := by
  rcases h with ⟨ds, S⟩ | ⟨T, e⟩
  · exact .inl ⟨ds, S.keep g⟩
  · exact .of (T.keep g)
theorem ItQ.fin {n : Nat} {m m1 m' : Sto} {x : D} (h : ItQ n m1 x) (hN : New m x) (hm : m' = m1 ∨ (x.lt m.length = true ∧ m' = m1.take m.length)) : ItQ n m' x := by
  rcases hm with rfl | ⟨hlt, rfl⟩
  · exact h
  · rcases h with h | h | h | kk
    · exact .inl h
    · exact .inr (.inl h)
    · exact .inr (.inr (.inl h))
    · refine .inr (.inr (.inr ?_))
      cases kk with
      | non => exact .non
      | bl b => exact .bl b
      | int i h => exact .int i h
      | str s hl h => exact .str s hl h
      | tup xs hl h => exact .tup xs hl h
      | lsv xs hl h => exact .lsv xs hl h
      | exc d h => exact .exc d h
      | lst q xs e hn hl h =>
        have := hN q rfl
        simp [D.lt] at hlt
        omega
      | dct q xs e hn hl h =>
        have := hN q rfl
        simp [D.lt] at hlt
        omega
theorem fin_lst {m0 m m1 : Sto} {n : Nat} {c c1 : Int} {ds : List D} {K : D → Sto → Prop} {X : Nat → D → Sto → Prop} (S : St n c m0 m) (S1 : St n c1 m m1) (hx : ∀ x ∈ ds, ItQ n m1 x) (hN : ∀ x ∈ ds, New m x) (hl : ds.length ≤ 80) (k : ∀ m', ThQ n m' (.lst ds) → St n c1 m0 m' → Grow n m m' → K (.lst ds) m') : resC K X (fin m (.lst ds) m1) := by
  refine S.fin S1 fun m' S' hm => k m' (.inl ⟨ds, .inl rfl, hl, fun x h => ?_⟩) S' ?_
  · refine (hx x h).fin (hN x h) ?_
    rcases hm with e | ⟨hlt, e⟩
    · exact .inl e
    · exact .inr ⟨ltL_all.mp hlt x h, e⟩
  · rcases hm with rfl | ⟨hlt, rfl⟩
    · exact S1.grow
    · exact S1.grow.take
theorem new_fr {m : Sto} {y : Int × Int} : New m (frp y) := fun q e => by cases e
theorem fin_frs {m0 m m1 : Sto} {n : Nat} {c c1 : Int} {ys : List (Int × Int)} {K : D → Sto → Prop} {X : Nat → D → Sto → Prop} (S : St n c m0 m) (S1 : St n c1 m m1) (hx : ∀ y ∈ ys, FrB 1850 y) (hl : ys.length ≤ 80) (k : ∀ m', ThQ n m' (.lst (ys.map frp)) → St n c1 m0 m' → Grow n m m' → K (.lst (ys.map frp)) m') : resC K X (fin m (.lst (ys.map frp)) m1) := by
  refine fin_lst S S1 (fun x h => ?_) (fun x h => ?_) (by rw [List.length_map]; exact hl) k
  · obtain ⟨y, hy, rfl⟩ := List.mem_map.mp h
    exact .inl ⟨y, rfl, hx y hy⟩
  · obtain ⟨y, hy, rfl⟩ := List.mem_map.mp h
    exact new_fr
theorem cut_mem {α : Type} {xs : List α} {lo hi : Option Int} {x : α} (h : x ∈ cutL xs lo hi) : x ∈ xs := by
  unfold cutL at h
  exact List.mem_of_mem_drop (List.mem_of_mem_take h)
theorem cut_map {α β : Type} {g : α → β} {xs : List α} {lo hi : Option Int} : cutL (xs.map g) lo hi = (cutL xs lo hi).map g := by
  unfold cutL
  rw [List.length_map, ← List.map_drop, ← List.map_take]
theorem cut_len {α : Type} {xs : List α} {lo hi : Option Int} : (cutL xs lo hi).length ≤ xs.length := by
  unfold cutL
  rw [List.length_take, List.length_drop]
  omega
theorem other_st {m0 m : Sto} {n r : Nat} {c : Int} {ys : List (Int × Int)} {K : D → Sto → Prop} {X : Nat → D → Sto → Prop} (S : St n c m0 m) (hc : c ≤ 70000) (hr : m[r]? = some (.lst (ys.map frp))) (hn : r ≠ n) (h1 : 1 ≤ ys.length) (h2 : ys.length ≤ 12) (hy : ∀ y ∈ ys, FrB 1850 y)
    (k : ∀ d m', ThQ n m' d → St n (c + 30) m0 m' → Grow n m m' → K d m') : Run (F__law_other [.loc n, .loc r] m) (resC K X) := by
  have hrl : r < m.length := (List.getElem?_eq_some_iff.mp hr).1
  have S0 := St.start S.box
  have el : lenD [.loc r] m = some (.int (ys.length : Nat)) := by simp only [lenD, seqOf, hr, List.length_map]
  unfold F__law_other
  rw [run_fn (by rfl), gr__law_other]
  simp [el]
  refine take_st S0 (by omega) (by omega) (by omega) fun r1 m1 p1 q1 S1 k1 => ?_
  try simp
  refine take_st S1 (by omega) (by decide) (by decide) fun r2 m2 p2 q2 S2 k2 => ?_
  have g2 : Grow n m m2 := k1.grow.trans k2.grow
  have hr2 : m2[r]? = some (.lst (ys.map frp)) := by rw [g2.2 r hrl hn]; exact hr
  have sl : ∀ lo hi, slD (.loc r) lo hi m2 = some (.lst ((cutL ys lo hi).map frp)) := fun lo hi => by rw [slD_at hr2, cut_map]
  have fl : ∀ lo hi (y : Int × Int), y ∈ cutL ys lo hi → FrB 1850 y := fun lo hi y h => hy y (cut_mem h)
  have ll : ∀ lo hi, (cutL ys lo hi).length ≤ ys.length := fun lo hi => cut_len
  have fin2 : ∀ zs : List (Int × Int), (∀ y ∈ zs, FrB 1850 y) → zs.length ≤ 80 → resC K X (fin m (.lst (zs.map frp)) m2) := fun zs hz hl => fin_frs S S2 hz hl fun m' T S' g => k _ m' T (S'.mono (by omega)) g
  have cat2 : ∀ l1 h1 l2 h2, resC K X (fin m (.lst ((cutL ys l1 h1).map frp ++ (cutL ys l2 h2).map frp)) m2) := fun l1 h1 l2 h2 => by
    rw [← List.map_append]
    refine fin2 _ (fun y h => ?_) ?_
    · rcases List.mem_append.mp h with h | h
      · exact fl _ _ y h
      · exact fl _ _ y h
    · rw [List.length_append]
      have := ll l1 h1
      have := ll l2 h2
      omega
  have cl2 : ∀ l1 h1 l2 h2, (cutL ys l1 h1).length + (cutL ys l2 h2).length ≤ 100000 := fun l1 h1 l2 h2 => by
    have := ll l1 h1
    have := ll l2 h2
    omega
  try simp
  by_cases w0 : r2 = 0
  · subst w0
    simp [r__law_other_1]
    refine odd_st S2 (by omega) fun d m3 t3 n3 S3 g3 => ?_
    try simp
    refine S.fin S3 fun m' S' hm => k d m' (.of ?_) (S'.mono (by omega)) ?_
    · rcases ItQ.fin (x := d) (.inr (.inr (.inr t3))) (fun q e => Nat.le_trans g2.1 (n3 q e)) hm with ⟨y, rfl, -⟩ | ⟨y, rfl, -⟩ | ⟨i, rfl, -⟩ | h
      · cases t3
      · cases t3 with | tup xs hl h => exact .tup _ hl h
      · cases t3 with | int i h => exact .int _ h
      · exact h
    · rcases hm with rfl | ⟨hlt, rfl⟩
      · exact g2.trans g3
      · exact (g2.trans g3).take
  simp [w0, r__law_other_1]
  by_cases w1 : r2 = 1
  · subst w1
    simp [sl, cl2, r__law_other_2]
    exact cat2 _ _ _ _
  simp [w1, r__law_other_2]
  by_cases w2 : r2 = 2
  · subst w2
    have e : addD (.loc r) (.loc r) m2 = some (.lst ((ys ++ ys).map frp)) := by
      simp only [addD, lstOf, hr2, List.length_map, List.map_append]
      rw [if_pos (by omega)]
    simp [e, r__law_other_3]
    rw [← List.map_append]
    refine fin2 _ (fun y h => ?_) ?_
    · rcases List.mem_append.mp h with h | h <;> exact hy y h
    · rw [List.length_append]; omega
  simp [w2, r__law_other_3]
  by_cases w3 : r2 = 3
  · subst w3
    simp [sl, cl2, r__law_other_4]
    exact cat2 _ _ _ _
  simp [w3, r__law_other_4]
  by_cases w4 : r2 = 4
  · subst w4
    simp [sl, cl2, r__law_other_5]
    exact cat2 _ _ _ _
  simp [w4, r__law_other_5, r__law_other_6]
  refine pair_st S2 (by omega) fun x m3 B hx1 hx2 S3 => ?_
  have g3 : Grow n m m3 := S3.grow
  have hr3 : m3[r]? = some (.lst (ys.map frp)) := by rw [g3.2 r hrl hn]; exact hr
  have sl3 : ∀ lo hi, slD (.loc r) lo hi m3 = some (.lst ((cutL ys lo hi).map frp)) := fun lo hi => by rw [slD_at hr3, cut_map]
  try simp
  by_cases w5 : r2 = 5
  · subst w5
    simp [r__law_other_7, sl3, selP]
    have p20 : (2 : Nat) ^ 1000 ≤ 2 ^ 2000 := Nat.pow_le_pow_right (by decide) (by decide)
    refine mkfrac_ok B.odd (Nat.le_trans B.t p20) (Nat.le_trans B.b p20) ?_
    have a1 := ll none (some r1)
    have a2 := ll (some (r1 + 1)) none
    have l1 : (cutL ys none (some r1)).length ≤ 99999 := by omega
    have l2 : (cutL ys none (some r1)).length + ((cutL ys (some (r1 + 1)) none).length + 1) ≤ 100000 := by omega
    have l3 : (cutL ys none (some r1)).length + 1 + (cutL ys (some (r1 + 1)) none).length ≤ 100000 := by omega
    simp [sl3, l1, l2, l3]
    have e : (cutL ys none (some r1)).map frp ++ frN x.1 x.2 :: (cutL ys (some (r1 + 1)) none).map frp = (cutL ys none (some r1) ++ lowP x.1 x.2 :: cutL ys (some (r1 + 1)) none).map frp := by
      rw [List.map_append, List.map_cons]; rfl
    rw [e]
    refine fin_frs S S3 (fun y h => ?_) ?_ fun m' T S' g => k _ m' T (S'.mono (by omega)) g
    · rcases List.mem_append.mp h with h | h
      · exact fl _ _ y h
      · rcases List.mem_cons.mp h with rfl | h
        · exact ⟨B.low.odd, Nat.le_trans B.low.t (Nat.pow_le_pow_right (by decide) (by decide)), Nat.le_trans B.low.b (Nat.pow_le_pow_right (by decide) (by decide))⟩
        · exact fl _ _ y h
    · rw [List.length_append, List.length_cons]; omega
  simp [w5, r__law_other_7, r__law_other_8]
  by_cases w6 : r2 = 6
  · subst w6
    simp [sl3]
    refine odd_st S3 (by omega) fun d m4 t4 n4 S4 g4 => ?_
    obtain ⟨i, rfl⟩ : ∃ i : Nat, r1 = (i : Int) := ⟨r1.toNat, by omega⟩
    have hi : i < ys.length := by omega
    have hat : ∀ M : Sto, M[r]? = some (.lst (ys.map frp)) → ixD (.loc r) (.int (i : Int)) M = some (fr ys[i].1 ys[i].2) := fun M h => by
      rw [ixD_loc h]
      exact atI_nat (by rw [List.getElem?_map, List.getElem?_eq_getElem hi]; rfl)
    have hr4 : m4[r]? = some (.lst (ys.map frp)) := by rw [g4.2 r (Nat.lt_of_lt_of_le hrl g3.1) hn]; exact hr3
    simp [hat _ hr4, ob_told, ob_top]
    refine take_st S4 (by omega) (by decide) (by decide) fun r5 m5 p5 q5 S5 k5 => ?_
    obtain ⟨z, ez, hz⟩ := atI_mem (xs := [d, D.tup [D.int ys[i].1, D.int ys[i].2], D.int ys[i].1]) p5 q5
    have hr5 : m5[r]? = some (.lst (ys.map frp)) := by rw [k5.2 r hn]; exact hr4
    have sl5 : ∀ lo hi, slD (.loc r) lo hi m5 = some (.lst ((cutL ys lo hi).map frp)) := fun lo hi => by rw [slD_at hr5, cut_map]
    rw [ixD_lst]
    refine Run.of ez ?_
    have a1 := ll none (some (i : Int))
    have a2 := ll (some ((i : Int) + 1)) none
    have l1 : (cutL ys none (some (i : Int))).length ≤ 99999 := by omega
    have l2 : (cutL ys none (some (i : Int))).length + ((cutL ys (some ((i : Int) + 1)) none).length + 1) ≤ 100000 := by omega
    have l3 : (cutL ys none (some (i : Int))).length + 1 + (cutL ys (some ((i : Int) + 1)) none).length ≤ 100000 := by omega
    simp [sl5, l1, l2, l3]
    have hb := hy ys[i] (List.getElem_mem hi)
    have hzq : ItQ n m5 z ∧ New m z := by
      simp only [List.mem_cons, List.not_mem_nil, or_false] at hz
      rcases hz with rfl | rfl | rfl
      · exact ⟨.inr (.inr (.inr (t4.keep k5.grow))), fun q e => Nat.le_trans g3.1 (n4 q e)⟩
      · exact ⟨.inr (.inl ⟨ys[i], rfl, hb⟩), fun q e => by cases e⟩
      · exact ⟨.inr (.inr (.inl ⟨_, rfl, hb.t⟩)), fun q e => by cases e⟩
    refine fin_lst S S5 (fun x h => ?_) (fun x h => ?_) ?_ fun m' T S' g => k _ m' T (S'.mono (by omega)) g
    · rcases List.mem_append.mp h with h | h
      · obtain ⟨y, hy', rfl⟩ := List.mem_map.mp h
        exact .inl ⟨y, rfl, fl _ _ y hy'⟩
      · rcases List.mem_cons.mp h with rfl | h
        · exact hzq.1
        · obtain ⟨y, hy', rfl⟩ := List.mem_map.mp h
          exact .inl ⟨y, rfl, fl _ _ y hy'⟩
    · rcases List.mem_append.mp h with h | h
      · obtain ⟨y, hy', rfl⟩ := List.mem_map.mp h
        exact new_fr
      · rcases List.mem_cons.mp h with rfl | h
        · exact hzq.2
        · obtain ⟨y, hy', rfl⟩ := List.mem_map.mp h
          exact new_fr
    · rw [List.length_append, List.length_cons, List.length_map, List.length_map]; omega
  simp [w6, r__law_other_8, r__law_other_9]
  by_cases w7 : r2 = 7
  · subst w7
    have e : tupleD [.loc r] m3 = some (.tup (ys.map frp)) := by simp only [tupleD, lstOf, hr3]
    simp [e]
    refine S.fin S3 fun m' S' hm => k _ m' (.inl ⟨_, .inr (.inl rfl), by rw [List.length_map]; omega, fun x h => ?_⟩) (S'.mono (by omega)) ?_
    · obtain ⟨y, hy', rfl⟩ := List.mem_map.mp h
      exact .inl ⟨y, rfl, hy y hy'⟩
    · rcases hm with rfl | ⟨hlt, rfl⟩
      · exact g3
      · exact g3.take
  simp [w7]
  have el3 : lenD [.loc r] m3 = some (.int (ys.length : Nat)) := by simp only [lenD, seqOf, hr3, List.length_map]
  have d0 : ¬ (ys.length : Int) = 0 := by omega
  have d0' : ¬ ys.length = 0 := by omega
  obtain ⟨j, hj⟩ : ∃ j : Nat, (60 : Int).fdiv (ys.length : Int) = (j : Int) := ⟨60 / ys.length, by rw [Int.fdiv_eq_ediv_of_nonneg _ (by omega)]; rfl⟩
  have hj2 : ys.length * j ≤ 60 := by
    have : (j : Int) = ((60 / ys.length : Nat) : Int) := by rw [← hj, Int.fdiv_eq_ediv_of_nonneg _ (by omega)]; rfl
    have : j = 60 / ys.length := by omega
    rw [this]
    exact Nat.mul_div_le 60 ys.length
  have hj3 : j ≤ 60 := Nat.le_trans (Nat.le_mul_of_pos_left j (by omega)) hj2
  have em : mulD (.loc r) (.int (j : Int)) m3 = some (.lst (((List.replicate j ys).flatten).map frp)) := by
    simp only [mulD, lstOf, hr3, List.length_map]
    rw [if_pos ⟨by rw [Int.toNat_natCast]; omega, by rw [Int.natAbs_natCast]; omega⟩, Int.toNat_natCast]
    congr 2
    clear hj hj2 hj3
    induction j with
    | zero => rfl
    | succ j ih => rw [List.replicate_succ, List.replicate_succ, List.flatten_cons, List.flatten_cons, List.map_append, ih]
  simp [el3, d0, d0', hj]
  refine ⟨Nat.lt_of_le_of_lt (Nat.log2_le_self _) (by omega), ?_⟩
  rw [em, run_some]
  refine fin_frs S S3 (fun y h => ?_) ?_ fun m' T S' g => k _ m' T (S'.mono (by omega)) g
  · obtain ⟨l, hl, hy'⟩ := List.mem_flatten.mp h
    rw [List.eq_of_mem_replicate hl] at hy'
    exact hy y hy'
  · simp
    rw [Nat.mul_comm]; omega
theorem refused_ok {n : Nat} {m : Sto} {d : D} (h : Thg n 1 m d) : F__law_refused [d] m = some (.ok (.tup [.str "rule", d]) m) := by
  have e0 : F_is_round [d, .lst []] m = some (.exn (5 : Nat) d m) := by
    refine Run.eqr ?_
    unfold F_is_round
    rw [run_fn (by rfl), gr_is_round]
    simp [rule_thg h]
  refine Run.eqr ?_
  unfold F__law_refused
  rw [run_fn (by rfl), gr__law_refused]
  have hn := h.nc
  have hE : envNC [some d, some (D.tup [D.str (Str.ofString "rule"), d]), none] := by
    intro i x e
    match i, e with
    | 0, e => cases e; exact hn
    | 1, e => cases e; simp [hn]
    | 2, e => cases e
    | n + 3, e => simp at e
  simp [r__law_refused_1, e0, r__law_refused_2, hE]
theorem frN_one {t : Int} : frN t 1 = fr t 1 := by simp [frN, gS]
theorem frB_of {t : Int} (h : t.natAbs ≤ 2 ^ 400) : FrB 1850 (t, 1) := ⟨rfl, Nat.le_trans h (Nat.pow_le_pow_right (by decide) (by decide)), Nat.pow_pos (by decide)⟩
theorem says : Says F_law 63 := by
  intro ns hlen hbits
  have key : Run (F_law [numsD ns] []) (resC (fun d _ => d = .bl true) noX) := by
    unfold F_law
    rw [run_fn (by rfl), gr_law]
    have R : ∀ (N : Nat) (y : Nat → Int × Int) (l : List D) (b : Bool), l = ((List.range N).map fun i => fr (y i).1 (y i).2) → (∀ i, i < N → (y i).2 = 1 ∧ (y i).1.natAbs ≤ 2 ^ 400) → 1 ≤ N → N ≤ 60 → goB 3 1 N y = b → F_is_round [rl 3 1, .lst l] [] = some (.ok (.bl b) []) := by
      intro N y l b hl hy h1 h2 hb
      subst hl hb
      have hB : ∀ i, i < N → FrB 1850 (y i) := fun i hi => by
        obtain ⟨a, b⟩ := hy i hi
        have := frB_of b
        rw [← a] at this
        exact this
      refine isround_fr (n := 0) FA31 ⟨.inl rfl, by simp; omega, fun x hx => ?_⟩ hB h1 h2
      obtain ⟨i, hi, rfl⟩ := List.mem_map.mp hx
      exact .inl ⟨_, rfl, hB i (List.mem_range.mp hi)⟩
    have R1 := R 3 (fun i => [((-5 : Int), (1 : Int)), (-7, 1), (-10, 1)].getD i (0, 1)) [fr (-5) 1, fr (-7) 1, fr (-10) 1] true rfl (by decide +kernel) (by decide) (by decide) (by decide +kernel)
    have R2 := R 2 (fun i => [((-5 : Int), (1 : Int)), (-7, 1)].getD i (0, 1)) [fr (-5) 1, fr (-7) 1] false rfl (by decide +kernel) (by decide) (by decide) (by decide +kernel)
    have R4 := R 60 (fun i => (0, 1)) (List.replicate 60 (fr 0 1)) true rfl (by decide +kernel) (by decide) (by decide) (by decide +kernel)
    have R3 : F_is_round [rl 3 1, .lst []] [] = some (.ok (.bl false) []) := isround_len (n := 0) ⟨.inl rfl, by decide, by simp⟩ (by simp)
    have R5 : F_is_round [rl 3 1, .lst (List.replicate 61 (fr 0 1))] [] = some (.ok (.bl false) []) := isround_len (n := 0) ⟨.inl rfl, by simp, fun x hx => by rw [List.eq_of_mem_replicate hx]; exact .inl ⟨(0, 1), rfl, frB_of (by decide)⟩⟩ (by simp)
    have R6 : F_is_round [rl 3 1, .lst [.int 0]] [] = some (.ok (.bl false) []) := isround_non (n := 0) ⟨.inl rfl, by decide, fun x hx => by rw [List.mem_singleton] at hx; subst hx; exact .inr (.inr (.inl ⟨0, rfl, by decide⟩))⟩ (by decide) (by decide) rfl
    simp [selP]
    refine mkfrac_ok (m2 := []) (by decide) (by decide +kernel) (by decide) ?_
    try simp [selP]
    refine mkfrac_ok (m2 := []) (by decide) (by decide +kernel) (by decide) ?_
    try simp [selP]
    refine mkfrac_ok (m2 := []) (by decide) (by decide +kernel) (by decide) ?_
    try simp [selP]
    refine mkfrac_ok (m2 := []) (by decide) (by decide +kernel) (by decide) ?_
    rw [frN_one, frN_one, frN_one, frN_one]
    simp [r_law_1, selP]
    have c2 : cutL [fr (-5) 1, fr (-7) 1, fr (-10) 1] none (some 2) = [fr (-5) 1, fr (-7) 1] := rfl
    have m60 : mulD (.lst [fr 0 1]) (.int 60) [] = some (.lst (List.replicate 60 (fr 0 1))) := rfl
    have m61 : mulD (.lst [fr 0 1]) (.int 61) [] = some (.lst (List.replicate 61 (fr 0 1))) := rfl
    refine mkrule_ok (m2 := []) FA31 ?_
    simp only [resC_ok, R1, run_some]
    refine mkrule_ok (m2 := []) FA31 ?_
    simp only [resC_ok, c2, R2, run_some]
    refine mkrule_ok (m2 := []) FA31 ?_
    simp only [resC_ok, R3, run_some]
    refine mkrule_ok (m2 := []) FA31 ?_
    simp only [resC_ok, m60, R4, run_some]
    simp [r_law_2, selP]
    refine mkrule_ok (m2 := []) FA31 ?_
    simp only [resC_ok, m61, R5, run_some]
    refine mkrule_ok (m2 := []) FA31 ?_
    simp only [resC_ok, R6, run_some]
    simp [r_law_3]
    refine just_run (k := 1) (n := 1000) (.lst (PdL.all fun d hd => ?_)) ((Ps.lst (k := 0) (PsL.all (n := 5) fun d hd => ?_)).mono (Nat.le_refl _) (by decide)) (by decide) (by decide) ?_
    · simp only [List.mem_cons, List.not_mem_nil, or_false] at hd
      rcases hd with rfl | rfl | rfl | rfl | rfl | rfl <;> exact .bl
    · simp only [List.mem_cons, List.not_mem_nil, or_false] at hd
      rcases hd with rfl | rfl | rfl | rfl | rfl | rfl <;> exact .bl
    simp [r_law_4, run_rng1i, numsD]
    refine ⟨small62_max (k := 8) (by decide) hlen, ?_⟩
    refine for_inv (fun i e m => ∃ a b c d e5 e6 e7 e8 e9 e10 e11 e12, e = [some (numsD ns), a, b, c, d, e5, e6, e7, e8, e9, e10, e11, e12]) ⟨_, _, _, _, _, _, _, _, _, _, _, _, rfl⟩ ?_ ?_
    · rintro i d e m hd ⟨a, b, c, d4, e5, e6, e7, e8, e9, e10, e11, e12, rfl⟩
      obtain ⟨hi, rfl⟩ := rngD_at hd
      refine ⟨_, rfl, ?_⟩
      simp
      refine cell_ok fun z => ?_
      refine box_ok fun cl B => ?_
      try simp
      refine rule_st (St.start B) (by decide) fun f a m1 hf S1 => ?_
      try simp
      refine word_st S1 (by decide) (by decide) (by decide) fun w0 m2 hl hw0 S2 => ?_
      try simp
      refine take_st S2 (by decide) (by decide) (by decide) fun r m3 p3 q3 S3 _ => ?_
      obtain ⟨cc, e1, hc⟩ := ix_sign (z := "eo") (m := m3) p3 q3 (by decide)
      rw [e1]
      have hs : EO ⟨#[cc]⟩ := EO_eo.mem hc
      have l2 : (w0 ++ (⟨#[cc]⟩ : Str)).length = w0.length + 1 := by rw [strLen_append]; rfl
      have l3 : w0.length + (⟨#[cc]⟩ : Str).length ≤ 1000000 := by rw [show (⟨#[cc]⟩ : Str).length = 1 from rfl]; omega
      have hw : EO (w0 ++ (⟨#[cc]⟩ : Str)) := hw0.app hs
      obtain ⟨w, ew⟩ : ∃ w, w = w0 ++ (⟨#[cc]⟩ : Str) := ⟨_, rfl⟩
      rw [← ew] at l2 hw
      have hw1 : 1 ≤ w.length := by omega
      have hw2 : w.length ≤ 12 := by omega
      simp [l3, ← ew, selP]
      refine mkrule_ok (m2 := m3) hf ?_
      simp [selP]
      refine mkrule_ok (m2 := m3) hf ?_
      simp only [resC_ok, round_ok (m := m3) hf hw hw1 (by omega), run_some]
      have Bx := (rg_b hf hw1 (by omega)).low
      obtain ⟨ys, hys⟩ : ∃ ys, ys = (List.range (w.length - 1 + 1)).map fun i => wkF f a (rgF f a w) i := ⟨_, rfl⟩
      have eys : rowF f a (rgF f a w) (w.length - 1) = ys.map frp := by rw [hys, List.map_map]; rfl
      have hyl : ys.length = w.length := by rw [hys]; simp; omega
      have hyb : ∀ y ∈ ys, FrB 1850 y := by
        intro y hy
        rw [hys] at hy
        obtain ⟨i, hi, rfl⟩ := List.mem_map.mp hy
        have hi := List.mem_range.mp hi
        have b := wkF_b hf Bx i
        exact ⟨b.odd, Nat.le_trans b.t (Nat.pow_le_pow_right (by decide) (by omega)), Nat.le_trans b.b (Nat.pow_le_pow_right (by decide) (by omega))⟩
      rw [eys]
      have S4 := S3.app (ex := [Cell.lst (ys.map frp)])
      have hn : m.length < m3.length := S3.ltm
      have hr4 : (m3 ++ [Cell.lst (ys.map frp)])[m3.length]? = some (.lst (ys.map frp)) := by simp
      generalize hM4 : m3 ++ [Cell.lst (ys.map frp)] = m4 at S4 hr4 ⊢
      have hrn : m3.length ≠ m.length := by omega
      have hr4l : m3.length < m4.length := (List.getElem?_eq_some_iff.mp hr4).1
      generalize m3.length = rr at hr4 hrn hr4l ⊢
      have t0 : ThQ m.length m4 (.loc rr) := .inl ⟨_, .inr (.inr ⟨rr, rfl, hrn, hr4⟩), by rw [List.length_map]; omega, fun x hx => by
        obtain ⟨y, hy, rfl⟩ := List.mem_map.mp hx
        exact .inl ⟨y, rfl, hyb y hy⟩⟩
      refine other_st S4 (by omega) hr4 hrn (by omega) (by omega) hyb fun d1 m5 t1 S5 g5 => ?_
      have hr5 : m5[rr]? = some (.lst (ys.map frp)) := by rw [g5.2 rr hr4l hrn]; exact hr4
      have hr5l := Nat.lt_of_lt_of_le hr4l g5.1
      try simp
      refine other_st S5 (by omega) hr5 hrn (by omega) (by omega) hyb fun d2 m6 t2 S6 g6 => ?_
      have hr6 : m6[rr]? = some (.lst (ys.map frp)) := by rw [g6.2 rr hr5l hrn]; exact hr5
      have hr6l := Nat.lt_of_lt_of_le hr5l g6.1
      try simp
      refine other_st S6 (by omega) hr6 hrn (by omega) (by omega) hyb fun d3 m7 t3 S7 g7 => ?_
      have hr7 : m7[rr]? = some (.lst (ys.map frp)) := by rw [g7.2 rr hr6l hrn]; exact hr6
      have hr7l := Nat.lt_of_lt_of_le hr6l g7.1
      have T0 := ((t0.keep g5).keep g6).keep g7
      have T1 := (t1.keep g6).keep g7
      have T2 := t2.keep g7
      try simp
      refine for_inv (fun j e m' => m' = m7 ∧ ∃ e9 e10, e = [some (numsD ns), some (.loc rr), b, c, some (.int (i : Nat)), some (.loc m.length), some (.tup [.int f, .int a]), some (.str w), some (rl f a), e9, e10, e11, e12]) ⟨rfl, _, _, rfl⟩ ?_ ?_
      · rintro j d e m' hd ⟨rfl, e9, e10, rfl⟩
        have hd := List.mem_of_getElem? hd
        have T : ThQ m.length m' d := by
          simp only [List.mem_cons, List.not_mem_nil, or_false] at hd
          rcases hd with rfl | rfl | rfl | rfl
          · exact T0
          · exact T1
          · exact T2
          · exact t3
        obtain ⟨v, v1, v2⟩ := both_ok hf T
        obtain ⟨t, ht⟩ := repr_q T
        refine ⟨_, rfl, ?_⟩
        simp [gN, ht, selD, v1, v2]
        refine just_run (k := 0) (n := 5) .bl .bl (by decide) (by decide) ?_
        simp [ht]
      · rintro e m' ⟨rfl, e9, e10, rfl⟩
        simp
        refine rule_st (St.start S7.box) (by omega) fun f2 a2 m8 hf2 S8 => ?_
        try simp
        refine odd_st (St.start S8.box) (by omega) fun d9 m9 t9 n9 S9 g9 => ?_
        obtain ⟨v, v1, v2⟩ := both_ok hf2 ((T0.keep S8.grow).keep g9)
        try simp [selP]
        refine mkrule_ok (m2 := m9) hf2 ?_
        simp only [resC_ok, v1, v2, run_some]
        refine just_run (k := 0) (n := 5) .bl .bl (by decide) (by decide) ?_
        obtain ⟨t, ht⟩ := reprD_ps (d := .tup [.str "rule", d9]) (k := 2) (n := 20000) ((Ps.tup (k := 1) (.cons (Ps.str (by decide) (by decide)) (.cons t9.ps1 .nil))).mono (Nat.le_refl _) (by decide)) (by decide) (by decide)
        simp [refused_ok t9, ht]
    · rintro e m ⟨a, b, c, d4, e5, e6, e7, e8, e9, e10, e11, e12, rfl⟩
      simp [r_law_5]
      exact fin_both rfl fun _ => rfl
  obtain ⟨r, e, h⟩ := key
  cases r with
  | ok d m => exact ⟨m, by rw [e, show d = .bl true from h]⟩
  | exn c d m => exact h.elim
end LW

namespace LW
open PySem PySem.Spec L2 PyProof.Rows PM
def theW (P : Program) (w : World) (K : PySem.W.Frag) (mg : Str → Option Value) (C : Nat → Addr) : Wk := ⟨P, w, K, mg, C, fnm, fun c => match c with | 2 => "not a valid number" | 3 => "the denominator is not an odd integer" | 4 => "the fraction is odd" | 5 => "not a rule" | 6 => "not a word" | _ => ""⟩
theorem fin {P : Program} {w : World} {K : PySem.W.Frag} {h : Heap} {mg : Str → Option Value} {fa : Addr} (KX : K.In h) (G : h.Ns mainGlobals mg) (hmg : mg "law" = some (.ref fa))
    {t_MOST : Tok}
    {t_MOST_LETTERS : Tok}
    {t_MOST_ROUND : Tok}
    {f_common : Addr} {oc_common kV_common dc_common pm_common cd_common ct_common : Value} {od_common an_common : Option Addr} {sl_common : Array (Option Value)}
    {f_is_number : Addr} {oc_is_number kV_is_number dc_is_number pm_is_number cd_is_number ct_is_number : Value} {od_is_number an_is_number : Option Addr} {sl_is_number : Array (Option Value)}
    {f_need_number : Addr} {oc_need_number kV_need_number dc_need_number pm_need_number cd_need_number ct_need_number : Value} {od_need_number an_need_number : Option Addr} {sl_need_number : Array (Option Value)}
    {f_Frac___init__ : Addr} {oc_Frac___init__ kV_Frac___init__ dc_Frac___init__ pm_Frac___init__ cd_Frac___init__ ct_Frac___init__ : Value} {od_Frac___init__ an_Frac___init__ : Option Addr} {sl_Frac___init__ : Array (Option Value)}
    {T_Frac___init__ : Addr} {co_Frac___init__ : Value} {do_Frac___init__ : Option Addr} {n_Frac___init__ : Nat} {so_Frac___init__ : Array (Option Value)} {t0_Frac___init__ : Tok}
    {f_Frac___str__ : Addr} {oc_Frac___str__ kV_Frac___str__ dc_Frac___str__ pm_Frac___str__ cd_Frac___str__ ct_Frac___str__ : Value} {od_Frac___str__ an_Frac___str__ : Option Addr} {sl_Frac___str__ : Array (Option Value)}
    {f_Frac___repr__ : Addr} {oc_Frac___repr__ kV_Frac___repr__ dc_Frac___repr__ pm_Frac___repr__ cd_Frac___repr__ ct_Frac___repr__ : Value} {od_Frac___repr__ an_Frac___repr__ : Option Addr} {sl_Frac___repr__ : Array (Option Value)}
    {f_is_whole : Addr} {oc_is_whole kV_is_whole dc_is_whole pm_is_whole cd_is_whole ct_is_whole : Value} {od_is_whole an_is_whole : Option Addr} {sl_is_whole : Array (Option Value)}
    {f_Rule___init__ : Addr} {oc_Rule___init__ kV_Rule___init__ dc_Rule___init__ pm_Rule___init__ cd_Rule___init__ ct_Rule___init__ : Value} {od_Rule___init__ an_Rule___init__ : Option Addr} {sl_Rule___init__ : Array (Option Value)}
    {T_Rule___init__ : Addr} {co_Rule___init__ : Value} {do_Rule___init__ : Option Addr} {n_Rule___init__ : Nat} {so_Rule___init__ : Array (Option Value)} {t0_Rule___init__ : Tok} {t1_Rule___init__ : Tok}
    {f__law_box : Addr} {oc__law_box kV__law_box dc__law_box pm__law_box cd__law_box ct__law_box : Value} {od__law_box an__law_box : Option Addr} {sl__law_box : Array (Option Value)}
    {f__law_cell : Addr} {oc__law_cell kV__law_cell dc__law_cell pm__law_cell cd__law_cell ct__law_cell : Value} {od__law_cell an__law_cell : Option Addr} {sl__law_cell : Array (Option Value)}
    {f_Frac_told : Addr} {oc_Frac_told kV_Frac_told dc_Frac_told pm_Frac_told cd_Frac_told ct_Frac_told : Value} {od_Frac_told an_Frac_told : Option Addr} {sl_Frac_told : Array (Option Value)}
    {f_Rule_told : Addr} {oc_Rule_told kV_Rule_told dc_Rule_told pm_Rule_told cd_Rule_told ct_Rule_told : Value} {od_Rule_told an_Rule_told : Option Addr} {sl_Rule_told : Array (Option Value)}
    {f__law_low : Addr} {oc__law_low kV__law_low dc__law_low pm__law_low cd__law_low ct__law_low : Value} {od__law_low an__law_low : Option Addr} {sl__law_low : Array (Option Value)}
    {f__law_lead : Addr} {oc__law_lead kV__law_lead dc__law_lead pm__law_lead cd__law_lead ct__law_lead : Value} {od__law_lead an__law_lead : Option Addr} {sl__law_lead : Array (Option Value)}
    {f__law_due : Addr} {oc__law_due kV__law_due dc__law_due pm__law_due cd__law_due ct__law_due : Value} {od__law_due an__law_due : Option Addr} {sl__law_due : Array (Option Value)}
    {f__law_just : Addr} {oc__law_just kV__law_just dc__law_just pm__law_just cd__law_just ct__law_just : Value} {od__law_just an__law_just : Option Addr} {sl__law_just : Array (Option Value)}
    {f__law_take : Addr} {oc__law_take kV__law_take dc__law_take pm__law_take cd__law_take ct__law_take : Value} {od__law_take an__law_take : Option Addr} {sl__law_take : Array (Option Value)}
    {f__law_odd : Addr} {oc__law_odd kV__law_odd dc__law_odd pm__law_odd cd__law_odd ct__law_odd : Value} {od__law_odd an__law_odd : Option Addr} {sl__law_odd : Array (Option Value)}
    {f_Frac_top : Addr} {oc_Frac_top kV_Frac_top dc_Frac_top pm_Frac_top cd_Frac_top ct_Frac_top : Value} {od_Frac_top an_Frac_top : Option Addr} {sl_Frac_top : Array (Option Value)}
    {f__law_pair : Addr} {oc__law_pair kV__law_pair dc__law_pair pm__law_pair cd__law_pair ct__law_pair : Value} {od__law_pair an__law_pair : Option Addr} {sl__law_pair : Array (Option Value)}
    {f__law_other : Addr} {oc__law_other kV__law_other dc__law_other pm__law_other cd__law_other ct__law_other : Value} {od__law_other an__law_other : Option Addr} {sl__law_other : Array (Option Value)}
    {f_Frac___eq__ : Addr} {oc_Frac___eq__ kV_Frac___eq__ dc_Frac___eq__ pm_Frac___eq__ cd_Frac___eq__ ct_Frac___eq__ : Value} {od_Frac___eq__ an_Frac___eq__ : Option Addr} {sl_Frac___eq__ : Array (Option Value)}
    {f_Rule___eq__ : Addr} {oc_Rule___eq__ kV_Rule___eq__ dc_Rule___eq__ pm_Rule___eq__ cd_Rule___eq__ ct_Rule___eq__ : Value} {od_Rule___eq__ an_Rule___eq__ : Option Addr} {sl_Rule___eq__ : Array (Option Value)}
    {f_need_rule : Addr} {oc_need_rule kV_need_rule dc_need_rule pm_need_rule cd_need_rule ct_need_rule : Value} {od_need_rule an_need_rule : Option Addr} {sl_need_rule : Array (Option Value)}
    {f_Frac_is_odd : Addr} {oc_Frac_is_odd kV_Frac_is_odd dc_Frac_is_odd pm_Frac_is_odd cd_Frac_is_odd ct_Frac_is_odd : Value} {od_Frac_is_odd an_Frac_is_odd : Option Addr} {sl_Frac_is_odd : Array (Option Value)}
    {f_Frac_half : Addr} {oc_Frac_half kV_Frac_half dc_Frac_half pm_Frac_half cd_Frac_half ct_Frac_half : Value} {od_Frac_half an_Frac_half : Option Addr} {sl_Frac_half : Array (Option Value)}
    {f_Frac_led : Addr} {oc_Frac_led kV_Frac_led dc_Frac_led pm_Frac_led cd_Frac_led ct_Frac_led : Value} {od_Frac_led an_Frac_led : Option Addr} {sl_Frac_led : Array (Option Value)}
    {f_Rule_addend : Addr} {oc_Rule_addend kV_Rule_addend dc_Rule_addend pm_Rule_addend cd_Rule_addend ct_Rule_addend : Value} {od_Rule_addend an_Rule_addend : Option Addr} {sl_Rule_addend : Array (Option Value)}
    {f_Rule_factor : Addr} {oc_Rule_factor kV_Rule_factor dc_Rule_factor pm_Rule_factor cd_Rule_factor ct_Rule_factor : Value} {od_Rule_factor an_Rule_factor : Option Addr} {sl_Rule_factor : Array (Option Value)}
    {f_next_of : Addr} {oc_next_of kV_next_of dc_next_of pm_next_of cd_next_of ct_next_of : Value} {od_next_of an_next_of : Option Addr} {sl_next_of : Array (Option Value)}
    {f_is_round : Addr} {oc_is_round kV_is_round dc_is_round pm_is_round cd_is_round ct_is_round : Value} {od_is_round an_is_round : Option Addr} {sl_is_round : Array (Option Value)}
    {f__law_refused : Addr} {oc__law_refused kV__law_refused dc__law_refused pm__law_refused cd__law_refused ct__law_refused : Value} {od__law_refused an__law_refused : Option Addr} {sl__law_refused : Array (Option Value)}
    {f__law_rule : Addr} {oc__law_rule kV__law_rule dc__law_rule pm__law_rule cd__law_rule ct__law_rule : Value} {od__law_rule an__law_rule : Option Addr} {sl__law_rule : Array (Option Value)}
    {f__law_word : Addr} {oc__law_word kV__law_word dc__law_word pm__law_word cd__law_word ct__law_word : Value} {od__law_word an__law_word : Option Addr} {sl__law_word : Array (Option Value)}
    {f_led_by : Addr} {oc_led_by kV_led_by dc_led_by pm_led_by cd_led_by ct_led_by : Value} {od_led_by an_led_by : Option Addr} {sl_led_by : Array (Option Value)}
    {f_is_word : Addr} {oc_is_word kV_is_word dc_is_word pm_is_word cd_is_word ct_is_word : Value} {od_is_word an_is_word : Option Addr} {sl_is_word : Array (Option Value)}
    {f_need_word : Addr} {oc_need_word kV_need_word dc_need_word pm_need_word cd_need_word ct_need_word : Value} {od_need_word an_need_word : Option Addr} {sl_need_word : Array (Option Value)}
    {f_need_letters : Addr} {oc_need_letters kV_need_letters dc_need_letters pm_need_letters cd_need_letters ct_need_letters : Value} {od_need_letters an_need_letters : Option Addr} {sl_need_letters : Array (Option Value)}
    {f_ring_of : Addr} {oc_ring_of kV_ring_of dc_ring_of pm_ring_of cd_ring_of ct_ring_of : Value} {od_ring_of an_ring_of : Option Addr} {sl_ring_of : Array (Option Value)}
    {f_walked : Addr} {oc_walked kV_walked dc_walked pm_walked cd_walked ct_walked : Value} {od_walked an_walked : Option Addr} {sl_walked : Array (Option Value)}
    {f_round_of : Addr} {oc_round_of kV_round_of dc_round_of pm_round_of cd_round_of ct_round_of : Value} {od_round_of an_round_of : Option Addr} {sl_round_of : Array (Option Value)}
    {f_law : Addr} {oc_law kV_law dc_law pm_law cd_law ct_law : Value} {od_law an_law : Option Addr} {sl_law : Array (Option Value)}
    {C_Frac : Addr}
    {C_Rule : Addr}
    {B_HailError : Addr}
    {C_NoNumber f_NoNumber N_NoNumber : Addr} {q_NoNumber : Str} {bs_NoNumber bm_NoNumber sb_NoNumber : List Value} {sn_NoNumber : List Str} {ab_NoNumber : Bool} {co_NoNumber : Option Bool} {dd_NoNumber : Option Addr} {k0_NoNumber k1_NoNumber k2_NoNumber k3_NoNumber k5_NoNumber : Option Value}
    {oc_NoNumber kV_NoNumber dc_NoNumber pm_NoNumber cd_NoNumber ct_NoNumber : Value} {od_NoNumber an_NoNumber : Option Addr} {sl_NoNumber : Array (Option Value)} 
    {C_NoBottom f_NoBottom N_NoBottom : Addr} {q_NoBottom : Str} {bs_NoBottom bm_NoBottom sb_NoBottom : List Value} {sn_NoBottom : List Str} {ab_NoBottom : Bool} {co_NoBottom : Option Bool} {dd_NoBottom : Option Addr} {k0_NoBottom k1_NoBottom k2_NoBottom k3_NoBottom k5_NoBottom : Option Value}
    {oc_NoBottom kV_NoBottom dc_NoBottom pm_NoBottom cd_NoBottom ct_NoBottom : Value} {od_NoBottom an_NoBottom : Option Addr} {sl_NoBottom : Array (Option Value)} 
    {C_NoHalf f_NoHalf N_NoHalf : Addr} {q_NoHalf : Str} {bs_NoHalf bm_NoHalf sb_NoHalf : List Value} {sn_NoHalf : List Str} {ab_NoHalf : Bool} {co_NoHalf : Option Bool} {dd_NoHalf : Option Addr} {k0_NoHalf k1_NoHalf k2_NoHalf k3_NoHalf k5_NoHalf : Option Value}
    {oc_NoHalf kV_NoHalf dc_NoHalf pm_NoHalf cd_NoHalf ct_NoHalf : Value} {od_NoHalf an_NoHalf : Option Addr} {sl_NoHalf : Array (Option Value)} 
    {C_NoRule f_NoRule N_NoRule : Addr} {q_NoRule : Str} {bs_NoRule bm_NoRule sb_NoRule : List Value} {sn_NoRule : List Str} {ab_NoRule : Bool} {co_NoRule : Option Bool} {dd_NoRule : Option Addr} {k0_NoRule k1_NoRule k2_NoRule k3_NoRule k5_NoRule : Option Value}
    {oc_NoRule kV_NoRule dc_NoRule pm_NoRule cd_NoRule ct_NoRule : Value} {od_NoRule an_NoRule : Option Addr} {sl_NoRule : Array (Option Value)} 
    {C_NoWord f_NoWord N_NoWord : Addr} {q_NoWord : Str} {bs_NoWord bm_NoWord sb_NoWord : List Value} {sn_NoWord : List Str} {ab_NoWord : Bool} {co_NoWord : Option Bool} {dd_NoWord : Option Addr} {k0_NoWord k1_NoWord k2_NoWord k3_NoWord k5_NoWord : Option Value}
    {oc_NoWord kV_NoWord dc_NoWord pm_NoWord cd_NoWord ct_NoWord : Value} {od_NoWord an_NoWord : Option Addr} {sl_NoWord : Array (Option Value)} 
    (z_abs : PySem.W.nsIn K mainGlobals "abs" = some none)
    (z_all : PySem.W.nsIn K mainGlobals "all" = some none)
    (z_bool : PySem.W.nsIn K mainGlobals "bool" = some none)
    (z_enumerate : PySem.W.nsIn K mainGlobals "enumerate" = some none)
    (z_int : PySem.W.nsIn K mainGlobals "int" = some none)
    (z_isinstance : PySem.W.nsIn K mainGlobals "isinstance" = some none)
    (z_len : PySem.W.nsIn K mainGlobals "len" = some none)
    (z_list : PySem.W.nsIn K mainGlobals "list" = some none)
    (z_max : PySem.W.nsIn K mainGlobals "max" = some none)
    (z_min : PySem.W.nsIn K mainGlobals "min" = some none)
    (z_range : PySem.W.nsIn K mainGlobals "range" = some none)
    (z_repr : PySem.W.nsIn K mainGlobals "repr" = some none)
    (z_str : PySem.W.nsIn K mainGlobals "str" = some none)
    (z_tuple : PySem.W.nsIn K mainGlobals "tuple" = some none)
    (k_MOST : PySem.W.nsIn K mainGlobals "MOST" = some (some (.int 99 t_MOST)))
    (k_MOST_LETTERS : PySem.W.nsIn K mainGlobals "MOST_LETTERS" = some (some (.int 60 t_MOST_LETTERS)))
    (k_MOST_ROUND : PySem.W.nsIn K mainGlobals "MOST_ROUND" = some (some (.int 60 t_MOST_ROUND)))
    (a_common : PySem.W.nsIn K mainGlobals "common" = some (some (.ref f_common)))
    (l_common : K.lookup f_common = some ⟨oc_common, od_common, .func (PySem.W.fnOf "common" "common" (defArgs s_common) (defBody s_common) (defScope s_common) .none kV_common dc_common pm_common an_common cd_common ct_common), sl_common⟩)
    (c_common : PySem.W.codeIn K cd_common "common" = true)
    (k_common : PySem.W.keepIn K (.ref f_common) = true)
    (a_is_number : PySem.W.nsIn K mainGlobals "is_number" = some (some (.ref f_is_number)))
    (l_is_number : K.lookup f_is_number = some ⟨oc_is_number, od_is_number, .func (PySem.W.fnOf "is_number" "is_number" (defArgs s_is_number) (defBody s_is_number) (defScope s_is_number) .none kV_is_number dc_is_number pm_is_number an_is_number cd_is_number ct_is_number), sl_is_number⟩)
    (c_is_number : PySem.W.codeIn K cd_is_number "is_number" = true)
    (k_is_number : PySem.W.keepIn K (.ref f_is_number) = true)
    (a_need_number : PySem.W.nsIn K mainGlobals "need_number" = some (some (.ref f_need_number)))
    (l_need_number : K.lookup f_need_number = some ⟨oc_need_number, od_need_number, .func (PySem.W.fnOf "need_number" "need_number" (defArgs s_need_number) (defBody s_need_number) (defScope s_need_number) .none kV_need_number dc_need_number pm_need_number an_need_number cd_need_number ct_need_number), sl_need_number⟩)
    (c_need_number : PySem.W.codeIn K cd_need_number "need_number" = true)
    (k_need_number : PySem.W.keepIn K (.ref f_need_number) = true)
    (a_Frac___init__ : PySem.W.findIn K (.ref C_Frac) "__init__" = some (some (.ref f_Frac___init__)))
    (i_Frac___init__ : PySem.W.isFn K (.ref f_Frac___init__) = true)
    (l_Frac___init__ : K.lookup f_Frac___init__ = some ⟨oc_Frac___init__, od_Frac___init__, .func (PySem.W.fnOf "__init__" "Frac.__init__" (defArgs s_Frac___init__) (defBody s_Frac___init__) (defScope s_Frac___init__) (.ref T_Frac___init__) kV_Frac___init__ dc_Frac___init__ pm_Frac___init__ an_Frac___init__ cd_Frac___init__ ct_Frac___init__), sl_Frac___init__⟩)
    (c_Frac___init__ : PySem.W.codeIn K cd_Frac___init__ "Frac.__init__" = true)
    (k_Frac___init__ : PySem.W.keepIn K (.ref f_Frac___init__) = true)
    (dt_Frac___init__ : K.lookup T_Frac___init__ = some ⟨co_Frac___init__, do_Frac___init__, .seq #[.int 1 t0_Frac___init__] n_Frac___init__, so_Frac___init__⟩)
    (a_Frac___str__ : PySem.W.findIn K (.ref C_Frac) "__str__" = some (some (.ref f_Frac___str__)))
    (i_Frac___str__ : PySem.W.isFn K (.ref f_Frac___str__) = true)
    (l_Frac___str__ : K.lookup f_Frac___str__ = some ⟨oc_Frac___str__, od_Frac___str__, .func (PySem.W.fnOf "__str__" "Frac.__str__" (defArgs s_Frac___str__) (defBody s_Frac___str__) (defScope s_Frac___str__) .none kV_Frac___str__ dc_Frac___str__ pm_Frac___str__ an_Frac___str__ cd_Frac___str__ ct_Frac___str__), sl_Frac___str__⟩)
    (c_Frac___str__ : PySem.W.codeIn K cd_Frac___str__ "Frac.__str__" = true)
    (k_Frac___str__ : PySem.W.keepIn K (.ref f_Frac___str__) = true)
    (a_Frac___repr__ : PySem.W.findIn K (.ref C_Frac) "__repr__" = some (some (.ref f_Frac___repr__)))
    (i_Frac___repr__ : PySem.W.isFn K (.ref f_Frac___repr__) = true)
    (l_Frac___repr__ : K.lookup f_Frac___repr__ = some ⟨oc_Frac___repr__, od_Frac___repr__, .func (PySem.W.fnOf "__repr__" "Frac.__repr__" (defArgs s_Frac___repr__) (defBody s_Frac___repr__) (defScope s_Frac___repr__) .none kV_Frac___repr__ dc_Frac___repr__ pm_Frac___repr__ an_Frac___repr__ cd_Frac___repr__ ct_Frac___repr__), sl_Frac___repr__⟩)
    (c_Frac___repr__ : PySem.W.codeIn K cd_Frac___repr__ "Frac.__repr__" = true)
    (k_Frac___repr__ : PySem.W.keepIn K (.ref f_Frac___repr__) = true)
    (a_is_whole : PySem.W.nsIn K mainGlobals "is_whole" = some (some (.ref f_is_whole)))
    (l_is_whole : K.lookup f_is_whole = some ⟨oc_is_whole, od_is_whole, .func (PySem.W.fnOf "is_whole" "is_whole" (defArgs s_is_whole) (defBody s_is_whole) (defScope s_is_whole) .none kV_is_whole dc_is_whole pm_is_whole an_is_whole cd_is_whole ct_is_whole), sl_is_whole⟩)
    (c_is_whole : PySem.W.codeIn K cd_is_whole "is_whole" = true)
    (k_is_whole : PySem.W.keepIn K (.ref f_is_whole) = true)
    (a_Rule___init__ : PySem.W.findIn K (.ref C_Rule) "__init__" = some (some (.ref f_Rule___init__)))
    (i_Rule___init__ : PySem.W.isFn K (.ref f_Rule___init__) = true)
    (l_Rule___init__ : K.lookup f_Rule___init__ = some ⟨oc_Rule___init__, od_Rule___init__, .func (PySem.W.fnOf "__init__" "Rule.__init__" (defArgs s_Rule___init__) (defBody s_Rule___init__) (defScope s_Rule___init__) (.ref T_Rule___init__) kV_Rule___init__ dc_Rule___init__ pm_Rule___init__ an_Rule___init__ cd_Rule___init__ ct_Rule___init__), sl_Rule___init__⟩)
    (c_Rule___init__ : PySem.W.codeIn K cd_Rule___init__ "Rule.__init__" = true)
    (k_Rule___init__ : PySem.W.keepIn K (.ref f_Rule___init__) = true)
    (dt_Rule___init__ : K.lookup T_Rule___init__ = some ⟨co_Rule___init__, do_Rule___init__, .seq #[.int 3 t0_Rule___init__, .int 1 t1_Rule___init__] n_Rule___init__, so_Rule___init__⟩)
    (a__law_box : PySem.W.nsIn K mainGlobals "_law_box" = some (some (.ref f__law_box)))
    (l__law_box : K.lookup f__law_box = some ⟨oc__law_box, od__law_box, .func (PySem.W.fnOf "_law_box" "_law_box" (defArgs s__law_box) (defBody s__law_box) (defScope s__law_box) .none kV__law_box dc__law_box pm__law_box an__law_box cd__law_box ct__law_box), sl__law_box⟩)
    (c__law_box : PySem.W.codeIn K cd__law_box "_law_box" = true)
    (k__law_box : PySem.W.keepIn K (.ref f__law_box) = true)
    (a__law_cell : PySem.W.nsIn K mainGlobals "_law_cell" = some (some (.ref f__law_cell)))
    (l__law_cell : K.lookup f__law_cell = some ⟨oc__law_cell, od__law_cell, .func (PySem.W.fnOf "_law_cell" "_law_cell" (defArgs s__law_cell) (defBody s__law_cell) (defScope s__law_cell) .none kV__law_cell dc__law_cell pm__law_cell an__law_cell cd__law_cell ct__law_cell), sl__law_cell⟩)
    (c__law_cell : PySem.W.codeIn K cd__law_cell "_law_cell" = true)
    (k__law_cell : PySem.W.keepIn K (.ref f__law_cell) = true)
    (a_Frac_told : PySem.W.findIn K (.ref C_Frac) "told" = some (some (.ref f_Frac_told)))
    (i_Frac_told : PySem.W.isFn K (.ref f_Frac_told) = true)
    (l_Frac_told : K.lookup f_Frac_told = some ⟨oc_Frac_told, od_Frac_told, .func (PySem.W.fnOf "told" "Frac.told" (defArgs s_Frac_told) (defBody s_Frac_told) (defScope s_Frac_told) .none kV_Frac_told dc_Frac_told pm_Frac_told an_Frac_told cd_Frac_told ct_Frac_told), sl_Frac_told⟩)
    (c_Frac_told : PySem.W.codeIn K cd_Frac_told "Frac.told" = true)
    (k_Frac_told : PySem.W.keepIn K (.ref f_Frac_told) = true)
    (a_Rule_told : PySem.W.findIn K (.ref C_Rule) "told" = some (some (.ref f_Rule_told)))
    (i_Rule_told : PySem.W.isFn K (.ref f_Rule_told) = true)
    (l_Rule_told : K.lookup f_Rule_told = some ⟨oc_Rule_told, od_Rule_told, .func (PySem.W.fnOf "told" "Rule.told" (defArgs s_Rule_told) (defBody s_Rule_told) (defScope s_Rule_told) .none kV_Rule_told dc_Rule_told pm_Rule_told an_Rule_told cd_Rule_told ct_Rule_told), sl_Rule_told⟩)
    (c_Rule_told : PySem.W.codeIn K cd_Rule_told "Rule.told" = true)
    (k_Rule_told : PySem.W.keepIn K (.ref f_Rule_told) = true)
    (a__law_low : PySem.W.nsIn K mainGlobals "_law_low" = some (some (.ref f__law_low)))
    (l__law_low : K.lookup f__law_low = some ⟨oc__law_low, od__law_low, .func (PySem.W.fnOf "_law_low" "_law_low" (defArgs s__law_low) (defBody s__law_low) (defScope s__law_low) .none kV__law_low dc__law_low pm__law_low an__law_low cd__law_low ct__law_low), sl__law_low⟩)
    (c__law_low : PySem.W.codeIn K cd__law_low "_law_low" = true)
    (k__law_low : PySem.W.keepIn K (.ref f__law_low) = true)
    (a__law_lead : PySem.W.nsIn K mainGlobals "_law_lead" = some (some (.ref f__law_lead)))
    (l__law_lead : K.lookup f__law_lead = some ⟨oc__law_lead, od__law_lead, .func (PySem.W.fnOf "_law_lead" "_law_lead" (defArgs s__law_lead) (defBody s__law_lead) (defScope s__law_lead) .none kV__law_lead dc__law_lead pm__law_lead an__law_lead cd__law_lead ct__law_lead), sl__law_lead⟩)
    (c__law_lead : PySem.W.codeIn K cd__law_lead "_law_lead" = true)
    (k__law_lead : PySem.W.keepIn K (.ref f__law_lead) = true)
    (a__law_due : PySem.W.nsIn K mainGlobals "_law_due" = some (some (.ref f__law_due)))
    (l__law_due : K.lookup f__law_due = some ⟨oc__law_due, od__law_due, .func (PySem.W.fnOf "_law_due" "_law_due" (defArgs s__law_due) (defBody s__law_due) (defScope s__law_due) .none kV__law_due dc__law_due pm__law_due an__law_due cd__law_due ct__law_due), sl__law_due⟩)
    (c__law_due : PySem.W.codeIn K cd__law_due "_law_due" = true)
    (k__law_due : PySem.W.keepIn K (.ref f__law_due) = true)
    (a__law_just : PySem.W.nsIn K mainGlobals "_law_just" = some (some (.ref f__law_just)))
    (l__law_just : K.lookup f__law_just = some ⟨oc__law_just, od__law_just, .func (PySem.W.fnOf "_law_just" "_law_just" (defArgs s__law_just) (defBody s__law_just) (defScope s__law_just) .none kV__law_just dc__law_just pm__law_just an__law_just cd__law_just ct__law_just), sl__law_just⟩)
    (c__law_just : PySem.W.codeIn K cd__law_just "_law_just" = true)
    (k__law_just : PySem.W.keepIn K (.ref f__law_just) = true)
    (a__law_take : PySem.W.nsIn K mainGlobals "_law_take" = some (some (.ref f__law_take)))
    (l__law_take : K.lookup f__law_take = some ⟨oc__law_take, od__law_take, .func (PySem.W.fnOf "_law_take" "_law_take" (defArgs s__law_take) (defBody s__law_take) (defScope s__law_take) .none kV__law_take dc__law_take pm__law_take an__law_take cd__law_take ct__law_take), sl__law_take⟩)
    (c__law_take : PySem.W.codeIn K cd__law_take "_law_take" = true)
    (k__law_take : PySem.W.keepIn K (.ref f__law_take) = true)
    (a__law_odd : PySem.W.nsIn K mainGlobals "_law_odd" = some (some (.ref f__law_odd)))
    (l__law_odd : K.lookup f__law_odd = some ⟨oc__law_odd, od__law_odd, .func (PySem.W.fnOf "_law_odd" "_law_odd" (defArgs s__law_odd) (defBody s__law_odd) (defScope s__law_odd) .none kV__law_odd dc__law_odd pm__law_odd an__law_odd cd__law_odd ct__law_odd), sl__law_odd⟩)
    (c__law_odd : PySem.W.codeIn K cd__law_odd "_law_odd" = true)
    (k__law_odd : PySem.W.keepIn K (.ref f__law_odd) = true)
    (a_Frac_top : PySem.W.findIn K (.ref C_Frac) "top" = some (some (.ref f_Frac_top)))
    (i_Frac_top : PySem.W.isFn K (.ref f_Frac_top) = true)
    (l_Frac_top : K.lookup f_Frac_top = some ⟨oc_Frac_top, od_Frac_top, .func (PySem.W.fnOf "top" "Frac.top" (defArgs s_Frac_top) (defBody s_Frac_top) (defScope s_Frac_top) .none kV_Frac_top dc_Frac_top pm_Frac_top an_Frac_top cd_Frac_top ct_Frac_top), sl_Frac_top⟩)
    (c_Frac_top : PySem.W.codeIn K cd_Frac_top "Frac.top" = true)
    (k_Frac_top : PySem.W.keepIn K (.ref f_Frac_top) = true)
    (a__law_pair : PySem.W.nsIn K mainGlobals "_law_pair" = some (some (.ref f__law_pair)))
    (l__law_pair : K.lookup f__law_pair = some ⟨oc__law_pair, od__law_pair, .func (PySem.W.fnOf "_law_pair" "_law_pair" (defArgs s__law_pair) (defBody s__law_pair) (defScope s__law_pair) .none kV__law_pair dc__law_pair pm__law_pair an__law_pair cd__law_pair ct__law_pair), sl__law_pair⟩)
    (c__law_pair : PySem.W.codeIn K cd__law_pair "_law_pair" = true)
    (k__law_pair : PySem.W.keepIn K (.ref f__law_pair) = true)
    (a__law_other : PySem.W.nsIn K mainGlobals "_law_other" = some (some (.ref f__law_other)))
    (l__law_other : K.lookup f__law_other = some ⟨oc__law_other, od__law_other, .func (PySem.W.fnOf "_law_other" "_law_other" (defArgs s__law_other) (defBody s__law_other) (defScope s__law_other) .none kV__law_other dc__law_other pm__law_other an__law_other cd__law_other ct__law_other), sl__law_other⟩)
    (c__law_other : PySem.W.codeIn K cd__law_other "_law_other" = true)
    (k__law_other : PySem.W.keepIn K (.ref f__law_other) = true)
    (a_Frac___eq__ : PySem.W.findIn K (.ref C_Frac) "__eq__" = some (some (.ref f_Frac___eq__)))
    (i_Frac___eq__ : PySem.W.isFn K (.ref f_Frac___eq__) = true)
    (l_Frac___eq__ : K.lookup f_Frac___eq__ = some ⟨oc_Frac___eq__, od_Frac___eq__, .func (PySem.W.fnOf "__eq__" "Frac.__eq__" (defArgs s_Frac___eq__) (defBody s_Frac___eq__) (defScope s_Frac___eq__) .none kV_Frac___eq__ dc_Frac___eq__ pm_Frac___eq__ an_Frac___eq__ cd_Frac___eq__ ct_Frac___eq__), sl_Frac___eq__⟩)
    (c_Frac___eq__ : PySem.W.codeIn K cd_Frac___eq__ "Frac.__eq__" = true)
    (k_Frac___eq__ : PySem.W.keepIn K (.ref f_Frac___eq__) = true)
    (a_Rule___eq__ : PySem.W.findIn K (.ref C_Rule) "__eq__" = some (some (.ref f_Rule___eq__)))
    (i_Rule___eq__ : PySem.W.isFn K (.ref f_Rule___eq__) = true)
    (l_Rule___eq__ : K.lookup f_Rule___eq__ = some ⟨oc_Rule___eq__, od_Rule___eq__, .func (PySem.W.fnOf "__eq__" "Rule.__eq__" (defArgs s_Rule___eq__) (defBody s_Rule___eq__) (defScope s_Rule___eq__) .none kV_Rule___eq__ dc_Rule___eq__ pm_Rule___eq__ an_Rule___eq__ cd_Rule___eq__ ct_Rule___eq__), sl_Rule___eq__⟩)
    (c_Rule___eq__ : PySem.W.codeIn K cd_Rule___eq__ "Rule.__eq__" = true)
    (k_Rule___eq__ : PySem.W.keepIn K (.ref f_Rule___eq__) = true)
    (a_need_rule : PySem.W.nsIn K mainGlobals "need_rule" = some (some (.ref f_need_rule)))
    (l_need_rule : K.lookup f_need_rule = some ⟨oc_need_rule, od_need_rule, .func (PySem.W.fnOf "need_rule" "need_rule" (defArgs s_need_rule) (defBody s_need_rule) (defScope s_need_rule) .none kV_need_rule dc_need_rule pm_need_rule an_need_rule cd_need_rule ct_need_rule), sl_need_rule⟩)
    (c_need_rule : PySem.W.codeIn K cd_need_rule "need_rule" = true)
    (k_need_rule : PySem.W.keepIn K (.ref f_need_rule) = true)
    (a_Frac_is_odd : PySem.W.findIn K (.ref C_Frac) "is_odd" = some (some (.ref f_Frac_is_odd)))
    (i_Frac_is_odd : PySem.W.isFn K (.ref f_Frac_is_odd) = true)
    (l_Frac_is_odd : K.lookup f_Frac_is_odd = some ⟨oc_Frac_is_odd, od_Frac_is_odd, .func (PySem.W.fnOf "is_odd" "Frac.is_odd" (defArgs s_Frac_is_odd) (defBody s_Frac_is_odd) (defScope s_Frac_is_odd) .none kV_Frac_is_odd dc_Frac_is_odd pm_Frac_is_odd an_Frac_is_odd cd_Frac_is_odd ct_Frac_is_odd), sl_Frac_is_odd⟩)
    (c_Frac_is_odd : PySem.W.codeIn K cd_Frac_is_odd "Frac.is_odd" = true)
    (k_Frac_is_odd : PySem.W.keepIn K (.ref f_Frac_is_odd) = true)
    (a_Frac_half : PySem.W.findIn K (.ref C_Frac) "half" = some (some (.ref f_Frac_half)))
    (i_Frac_half : PySem.W.isFn K (.ref f_Frac_half) = true)
    (l_Frac_half : K.lookup f_Frac_half = some ⟨oc_Frac_half, od_Frac_half, .func (PySem.W.fnOf "half" "Frac.half" (defArgs s_Frac_half) (defBody s_Frac_half) (defScope s_Frac_half) .none kV_Frac_half dc_Frac_half pm_Frac_half an_Frac_half cd_Frac_half ct_Frac_half), sl_Frac_half⟩)
    (c_Frac_half : PySem.W.codeIn K cd_Frac_half "Frac.half" = true)
    (k_Frac_half : PySem.W.keepIn K (.ref f_Frac_half) = true)
    (a_Frac_led : PySem.W.findIn K (.ref C_Frac) "led" = some (some (.ref f_Frac_led)))
    (i_Frac_led : PySem.W.isFn K (.ref f_Frac_led) = true)
    (l_Frac_led : K.lookup f_Frac_led = some ⟨oc_Frac_led, od_Frac_led, .func (PySem.W.fnOf "led" "Frac.led" (defArgs s_Frac_led) (defBody s_Frac_led) (defScope s_Frac_led) .none kV_Frac_led dc_Frac_led pm_Frac_led an_Frac_led cd_Frac_led ct_Frac_led), sl_Frac_led⟩)
    (c_Frac_led : PySem.W.codeIn K cd_Frac_led "Frac.led" = true)
    (k_Frac_led : PySem.W.keepIn K (.ref f_Frac_led) = true)
    (a_Rule_addend : PySem.W.findIn K (.ref C_Rule) "addend" = some (some (.ref f_Rule_addend)))
    (i_Rule_addend : PySem.W.isFn K (.ref f_Rule_addend) = true)
    (l_Rule_addend : K.lookup f_Rule_addend = some ⟨oc_Rule_addend, od_Rule_addend, .func (PySem.W.fnOf "addend" "Rule.addend" (defArgs s_Rule_addend) (defBody s_Rule_addend) (defScope s_Rule_addend) .none kV_Rule_addend dc_Rule_addend pm_Rule_addend an_Rule_addend cd_Rule_addend ct_Rule_addend), sl_Rule_addend⟩)
    (c_Rule_addend : PySem.W.codeIn K cd_Rule_addend "Rule.addend" = true)
    (k_Rule_addend : PySem.W.keepIn K (.ref f_Rule_addend) = true)
    (a_Rule_factor : PySem.W.findIn K (.ref C_Rule) "factor" = some (some (.ref f_Rule_factor)))
    (i_Rule_factor : PySem.W.isFn K (.ref f_Rule_factor) = true)
    (l_Rule_factor : K.lookup f_Rule_factor = some ⟨oc_Rule_factor, od_Rule_factor, .func (PySem.W.fnOf "factor" "Rule.factor" (defArgs s_Rule_factor) (defBody s_Rule_factor) (defScope s_Rule_factor) .none kV_Rule_factor dc_Rule_factor pm_Rule_factor an_Rule_factor cd_Rule_factor ct_Rule_factor), sl_Rule_factor⟩)
    (c_Rule_factor : PySem.W.codeIn K cd_Rule_factor "Rule.factor" = true)
    (k_Rule_factor : PySem.W.keepIn K (.ref f_Rule_factor) = true)
    (a_next_of : PySem.W.nsIn K mainGlobals "next_of" = some (some (.ref f_next_of)))
    (l_next_of : K.lookup f_next_of = some ⟨oc_next_of, od_next_of, .func (PySem.W.fnOf "next_of" "next_of" (defArgs s_next_of) (defBody s_next_of) (defScope s_next_of) .none kV_next_of dc_next_of pm_next_of an_next_of cd_next_of ct_next_of), sl_next_of⟩)
    (c_next_of : PySem.W.codeIn K cd_next_of "next_of" = true)
    (k_next_of : PySem.W.keepIn K (.ref f_next_of) = true)
    (a_is_round : PySem.W.nsIn K mainGlobals "is_round" = some (some (.ref f_is_round)))
    (l_is_round : K.lookup f_is_round = some ⟨oc_is_round, od_is_round, .func (PySem.W.fnOf "is_round" "is_round" (defArgs s_is_round) (defBody s_is_round) (defScope s_is_round) .none kV_is_round dc_is_round pm_is_round an_is_round cd_is_round ct_is_round), sl_is_round⟩)
    (c_is_round : PySem.W.codeIn K cd_is_round "is_round" = true)
    (k_is_round : PySem.W.keepIn K (.ref f_is_round) = true)
    (a__law_refused : PySem.W.nsIn K mainGlobals "_law_refused" = some (some (.ref f__law_refused)))
    (l__law_refused : K.lookup f__law_refused = some ⟨oc__law_refused, od__law_refused, .func (PySem.W.fnOf "_law_refused" "_law_refused" (defArgs s__law_refused) (defBody s__law_refused) (defScope s__law_refused) .none kV__law_refused dc__law_refused pm__law_refused an__law_refused cd__law_refused ct__law_refused), sl__law_refused⟩)
    (c__law_refused : PySem.W.codeIn K cd__law_refused "_law_refused" = true)
    (k__law_refused : PySem.W.keepIn K (.ref f__law_refused) = true)
    (a__law_rule : PySem.W.nsIn K mainGlobals "_law_rule" = some (some (.ref f__law_rule)))
    (l__law_rule : K.lookup f__law_rule = some ⟨oc__law_rule, od__law_rule, .func (PySem.W.fnOf "_law_rule" "_law_rule" (defArgs s__law_rule) (defBody s__law_rule) (defScope s__law_rule) .none kV__law_rule dc__law_rule pm__law_rule an__law_rule cd__law_rule ct__law_rule), sl__law_rule⟩)
    (c__law_rule : PySem.W.codeIn K cd__law_rule "_law_rule" = true)
    (k__law_rule : PySem.W.keepIn K (.ref f__law_rule) = true)
    (a__law_word : PySem.W.nsIn K mainGlobals "_law_word" = some (some (.ref f__law_word)))
    (l__law_word : K.lookup f__law_word = some ⟨oc__law_word, od__law_word, .func (PySem.W.fnOf "_law_word" "_law_word" (defArgs s__law_word) (defBody s__law_word) (defScope s__law_word) .none kV__law_word dc__law_word pm__law_word an__law_word cd__law_word ct__law_word), sl__law_word⟩)
    (c__law_word : PySem.W.codeIn K cd__law_word "_law_word" = true)
    (k__law_word : PySem.W.keepIn K (.ref f__law_word) = true)
    (a_led_by : PySem.W.nsIn K mainGlobals "led_by" = some (some (.ref f_led_by)))
    (l_led_by : K.lookup f_led_by = some ⟨oc_led_by, od_led_by, .func (PySem.W.fnOf "led_by" "led_by" (defArgs s_led_by) (defBody s_led_by) (defScope s_led_by) .none kV_led_by dc_led_by pm_led_by an_led_by cd_led_by ct_led_by), sl_led_by⟩)
    (c_led_by : PySem.W.codeIn K cd_led_by "led_by" = true)
    (k_led_by : PySem.W.keepIn K (.ref f_led_by) = true)
    (a_is_word : PySem.W.nsIn K mainGlobals "is_word" = some (some (.ref f_is_word)))
    (l_is_word : K.lookup f_is_word = some ⟨oc_is_word, od_is_word, .func (PySem.W.fnOf "is_word" "is_word" (defArgs s_is_word) (defBody s_is_word) (defScope s_is_word) .none kV_is_word dc_is_word pm_is_word an_is_word cd_is_word ct_is_word), sl_is_word⟩)
    (c_is_word : PySem.W.codeIn K cd_is_word "is_word" = true)
    (k_is_word : PySem.W.keepIn K (.ref f_is_word) = true)
    (a_need_word : PySem.W.nsIn K mainGlobals "need_word" = some (some (.ref f_need_word)))
    (l_need_word : K.lookup f_need_word = some ⟨oc_need_word, od_need_word, .func (PySem.W.fnOf "need_word" "need_word" (defArgs s_need_word) (defBody s_need_word) (defScope s_need_word) .none kV_need_word dc_need_word pm_need_word an_need_word cd_need_word ct_need_word), sl_need_word⟩)
    (c_need_word : PySem.W.codeIn K cd_need_word "need_word" = true)
    (k_need_word : PySem.W.keepIn K (.ref f_need_word) = true)
    (a_need_letters : PySem.W.nsIn K mainGlobals "need_letters" = some (some (.ref f_need_letters)))
    (l_need_letters : K.lookup f_need_letters = some ⟨oc_need_letters, od_need_letters, .func (PySem.W.fnOf "need_letters" "need_letters" (defArgs s_need_letters) (defBody s_need_letters) (defScope s_need_letters) .none kV_need_letters dc_need_letters pm_need_letters an_need_letters cd_need_letters ct_need_letters), sl_need_letters⟩)
    (c_need_letters : PySem.W.codeIn K cd_need_letters "need_letters" = true)
    (k_need_letters : PySem.W.keepIn K (.ref f_need_letters) = true)
    (a_ring_of : PySem.W.nsIn K mainGlobals "ring_of" = some (some (.ref f_ring_of)))
    (l_ring_of : K.lookup f_ring_of = some ⟨oc_ring_of, od_ring_of, .func (PySem.W.fnOf "ring_of" "ring_of" (defArgs s_ring_of) (defBody s_ring_of) (defScope s_ring_of) .none kV_ring_of dc_ring_of pm_ring_of an_ring_of cd_ring_of ct_ring_of), sl_ring_of⟩)
    (c_ring_of : PySem.W.codeIn K cd_ring_of "ring_of" = true)
    (k_ring_of : PySem.W.keepIn K (.ref f_ring_of) = true)
    (a_walked : PySem.W.nsIn K mainGlobals "walked" = some (some (.ref f_walked)))
    (l_walked : K.lookup f_walked = some ⟨oc_walked, od_walked, .func (PySem.W.fnOf "walked" "walked" (defArgs s_walked) (defBody s_walked) (defScope s_walked) .none kV_walked dc_walked pm_walked an_walked cd_walked ct_walked), sl_walked⟩)
    (c_walked : PySem.W.codeIn K cd_walked "walked" = true)
    (k_walked : PySem.W.keepIn K (.ref f_walked) = true)
    (a_round_of : PySem.W.nsIn K mainGlobals "round_of" = some (some (.ref f_round_of)))
    (l_round_of : K.lookup f_round_of = some ⟨oc_round_of, od_round_of, .func (PySem.W.fnOf "round_of" "round_of" (defArgs s_round_of) (defBody s_round_of) (defScope s_round_of) .none kV_round_of dc_round_of pm_round_of an_round_of cd_round_of ct_round_of), sl_round_of⟩)
    (c_round_of : PySem.W.codeIn K cd_round_of "round_of" = true)
    (k_round_of : PySem.W.keepIn K (.ref f_round_of) = true)
    (a_law : PySem.W.nsIn K mainGlobals "law" = some (some (.ref f_law)))
    (l_law : K.lookup f_law = some ⟨oc_law, od_law, .func (PySem.W.fnOf "law" "law" (defArgs s_law) (defBody s_law) (defScope s_law) .none kV_law dc_law pm_law an_law cd_law ct_law), sl_law⟩)
    (c_law : PySem.W.codeIn K cd_law "law" = true)
    (k_law : PySem.W.keepIn K (.ref f_law) = true)
    (oa_Frac : PySem.W.nsIn K mainGlobals "Frac" = some (some (.ref C_Frac)))
    (pg_Frac : PySem.W.plainGet K C_Frac Str.empty = true)
    (hd_Frac : PySem.W.hasDictIn K C_Frac = true)
    (po_Frac : PySem.W.plainOver K C_Frac = true)
    (sa_Frac : PySem.W.findIn K (.ref C_Frac) "__setattr__" = some (some (.builtin "object.__setattr__")))
    (mk_Frac : PySem.W.makesIn K C_Frac = true)
    (ke_Frac : PySem.W.keepIn K (.ref C_Frac) = true)
    (ha_Frac : PySem.W.findIn K (.ref C_Frac) "__class__" = some (some (.builtin "object.__class__")))
    (hm_Frac : PySem.W.mroIn K C_Frac (.type "object") = some true)
    (na_Frac_above : PySem.W.findIn K (.ref C_Frac) "above" = some none)
    (na_Frac_below : PySem.W.findIn K (.ref C_Frac) "below" = some none)
    (oa_Rule : PySem.W.nsIn K mainGlobals "Rule" = some (some (.ref C_Rule)))
    (pg_Rule : PySem.W.plainGet K C_Rule Str.empty = true)
    (hd_Rule : PySem.W.hasDictIn K C_Rule = true)
    (po_Rule : PySem.W.plainOver K C_Rule = true)
    (sa_Rule : PySem.W.findIn K (.ref C_Rule) "__setattr__" = some (some (.builtin "object.__setattr__")))
    (mk_Rule : PySem.W.makesIn K C_Rule = true)
    (ke_Rule : PySem.W.keepIn K (.ref C_Rule) = true)
    (ha_Rule : PySem.W.findIn K (.ref C_Rule) "__class__" = some (some (.builtin "object.__class__")))
    (hm_Rule : PySem.W.mroIn K C_Rule (.type "object") = some true)
    (na_Rule_times : PySem.W.findIn K (.ref C_Rule) "times" = some none)
    (na_Rule_plus : PySem.W.findIn K (.ref C_Rule) "plus" = some none)
    (a_HailError : PySem.W.nsIn K mainGlobals "HailError" = some (some (.ref B_HailError)))
    (sg_HailError : PySem.W.specialIn K (.ref B_HailError) "__getattribute__" = some (some (.builtin "type.__getattribute__")))
    (rd_HailError : PySem.W.readsIn K B_HailError (.type "type") = true)
    (fc_HailError : PySem.W.findCls K (.ref B_HailError) (.type "type") "__init__" = some (.val (.builtin "ValueError.__init__")))
    (a_NoNumber : PySem.W.nsIn K mainGlobals "NoNumber" = some (some (.ref C_NoNumber)))
    (cl_NoNumber : K.lookup C_NoNumber = some (excClassObj "NoNumber" q_NoNumber C_NoNumber N_NoNumber bs_NoNumber bm_NoNumber true sn_NoNumber sb_NoNumber ab_NoNumber co_NoNumber dd_NoNumber k0_NoNumber k1_NoNumber k2_NoNumber k3_NoNumber k5_NoNumber "ValueError.__new__"))
    (rv_NoNumber : PySem.HandSPX.refsVE bm_NoNumber = true)
    (sa_NoNumber : PySem.W.findIn K (.ref C_NoNumber) "__setattr__" = some (some (.builtin "object.__setattr__")))
    (eb_NoNumber : PySem.W.subIn K (.ref C_NoNumber) (.type "BaseException") = some true)
    (ty_NoNumber : PySem.W.typeIn K (.ref C_NoNumber) = some (.type "type"))
    (ke_NoNumber : PySem.W.keepIn K (.ref C_NoNumber) = true)
    (no_NoNumber : PySem.W.findIn K (.ref C_NoNumber) "found" = some none)
    (fi_NoNumber : PySem.W.findIn K (.ref C_NoNumber) "__init__" = some (some (.ref f_NoNumber)))
    (ti_NoNumber : PySem.W.typeIn K (.ref f_NoNumber) = some (.type "function"))
    (l_NoNumber : K.lookup f_NoNumber = some ⟨oc_NoNumber, od_NoNumber, .func (PySem.W.fnOf "__init__" "NoNumber.__init__" (defArgs s_NoNumber) (defBody s_NoNumber) (defScope s_NoNumber) .none kV_NoNumber dc_NoNumber pm_NoNumber an_NoNumber cd_NoNumber ct_NoNumber), sl_NoNumber⟩)
    (c_NoNumber : PySem.W.codeIn K cd_NoNumber "NoNumber.__init__" = true)
    (ga_NoNumber : PySem.W.findIn K (.ref C_NoNumber) "__getattribute__" = some (some (.builtin "BaseException.__getattribute__")))
    (gg_NoNumber : PySem.W.findIn K (.ref C_NoNumber) "__getattr__" = some none)
    (hb_NoNumber : PySem.W.hasDictIn K C_NoNumber = true)
    (ha_NoNumber : PySem.W.findIn K (.ref C_NoNumber) "__class__" = some (some (.builtin "object.__class__")))
    (hm_NoNumber : PySem.W.mroIn K C_NoNumber (.type "object") = some true)
    (a_NoBottom : PySem.W.nsIn K mainGlobals "NoBottom" = some (some (.ref C_NoBottom)))
    (cl_NoBottom : K.lookup C_NoBottom = some (excClassObj "NoBottom" q_NoBottom C_NoBottom N_NoBottom bs_NoBottom bm_NoBottom true sn_NoBottom sb_NoBottom ab_NoBottom co_NoBottom dd_NoBottom k0_NoBottom k1_NoBottom k2_NoBottom k3_NoBottom k5_NoBottom "ValueError.__new__"))
    (rv_NoBottom : PySem.HandSPX.refsVE bm_NoBottom = true)
    (sa_NoBottom : PySem.W.findIn K (.ref C_NoBottom) "__setattr__" = some (some (.builtin "object.__setattr__")))
    (eb_NoBottom : PySem.W.subIn K (.ref C_NoBottom) (.type "BaseException") = some true)
    (ty_NoBottom : PySem.W.typeIn K (.ref C_NoBottom) = some (.type "type"))
    (ke_NoBottom : PySem.W.keepIn K (.ref C_NoBottom) = true)
    (no_NoBottom : PySem.W.findIn K (.ref C_NoBottom) "found" = some none)
    (fi_NoBottom : PySem.W.findIn K (.ref C_NoBottom) "__init__" = some (some (.ref f_NoBottom)))
    (ti_NoBottom : PySem.W.typeIn K (.ref f_NoBottom) = some (.type "function"))
    (l_NoBottom : K.lookup f_NoBottom = some ⟨oc_NoBottom, od_NoBottom, .func (PySem.W.fnOf "__init__" "NoBottom.__init__" (defArgs s_NoBottom) (defBody s_NoBottom) (defScope s_NoBottom) .none kV_NoBottom dc_NoBottom pm_NoBottom an_NoBottom cd_NoBottom ct_NoBottom), sl_NoBottom⟩)
    (c_NoBottom : PySem.W.codeIn K cd_NoBottom "NoBottom.__init__" = true)
    (ga_NoBottom : PySem.W.findIn K (.ref C_NoBottom) "__getattribute__" = some (some (.builtin "BaseException.__getattribute__")))
    (gg_NoBottom : PySem.W.findIn K (.ref C_NoBottom) "__getattr__" = some none)
    (hb_NoBottom : PySem.W.hasDictIn K C_NoBottom = true)
    (ha_NoBottom : PySem.W.findIn K (.ref C_NoBottom) "__class__" = some (some (.builtin "object.__class__")))
    (hm_NoBottom : PySem.W.mroIn K C_NoBottom (.type "object") = some true)
    (a_NoHalf : PySem.W.nsIn K mainGlobals "NoHalf" = some (some (.ref C_NoHalf)))
    (cl_NoHalf : K.lookup C_NoHalf = some (excClassObj "NoHalf" q_NoHalf C_NoHalf N_NoHalf bs_NoHalf bm_NoHalf true sn_NoHalf sb_NoHalf ab_NoHalf co_NoHalf dd_NoHalf k0_NoHalf k1_NoHalf k2_NoHalf k3_NoHalf k5_NoHalf "ValueError.__new__"))
    (rv_NoHalf : PySem.HandSPX.refsVE bm_NoHalf = true)
    (sa_NoHalf : PySem.W.findIn K (.ref C_NoHalf) "__setattr__" = some (some (.builtin "object.__setattr__")))
    (eb_NoHalf : PySem.W.subIn K (.ref C_NoHalf) (.type "BaseException") = some true)
    (ty_NoHalf : PySem.W.typeIn K (.ref C_NoHalf) = some (.type "type"))
    (ke_NoHalf : PySem.W.keepIn K (.ref C_NoHalf) = true)
    (no_NoHalf : PySem.W.findIn K (.ref C_NoHalf) "found" = some none)
    (fi_NoHalf : PySem.W.findIn K (.ref C_NoHalf) "__init__" = some (some (.ref f_NoHalf)))
    (ti_NoHalf : PySem.W.typeIn K (.ref f_NoHalf) = some (.type "function"))
    (l_NoHalf : K.lookup f_NoHalf = some ⟨oc_NoHalf, od_NoHalf, .func (PySem.W.fnOf "__init__" "NoHalf.__init__" (defArgs s_NoHalf) (defBody s_NoHalf) (defScope s_NoHalf) .none kV_NoHalf dc_NoHalf pm_NoHalf an_NoHalf cd_NoHalf ct_NoHalf), sl_NoHalf⟩)
    (c_NoHalf : PySem.W.codeIn K cd_NoHalf "NoHalf.__init__" = true)
    (ga_NoHalf : PySem.W.findIn K (.ref C_NoHalf) "__getattribute__" = some (some (.builtin "BaseException.__getattribute__")))
    (gg_NoHalf : PySem.W.findIn K (.ref C_NoHalf) "__getattr__" = some none)
    (hb_NoHalf : PySem.W.hasDictIn K C_NoHalf = true)
    (ha_NoHalf : PySem.W.findIn K (.ref C_NoHalf) "__class__" = some (some (.builtin "object.__class__")))
    (hm_NoHalf : PySem.W.mroIn K C_NoHalf (.type "object") = some true)
    (a_NoRule : PySem.W.nsIn K mainGlobals "NoRule" = some (some (.ref C_NoRule)))
    (cl_NoRule : K.lookup C_NoRule = some (excClassObj "NoRule" q_NoRule C_NoRule N_NoRule bs_NoRule bm_NoRule true sn_NoRule sb_NoRule ab_NoRule co_NoRule dd_NoRule k0_NoRule k1_NoRule k2_NoRule k3_NoRule k5_NoRule "ValueError.__new__"))
    (rv_NoRule : PySem.HandSPX.refsVE bm_NoRule = true)
    (sa_NoRule : PySem.W.findIn K (.ref C_NoRule) "__setattr__" = some (some (.builtin "object.__setattr__")))
    (eb_NoRule : PySem.W.subIn K (.ref C_NoRule) (.type "BaseException") = some true)
    (ty_NoRule : PySem.W.typeIn K (.ref C_NoRule) = some (.type "type"))
    (ke_NoRule : PySem.W.keepIn K (.ref C_NoRule) = true)
    (no_NoRule : PySem.W.findIn K (.ref C_NoRule) "found" = some none)
    (fi_NoRule : PySem.W.findIn K (.ref C_NoRule) "__init__" = some (some (.ref f_NoRule)))
    (ti_NoRule : PySem.W.typeIn K (.ref f_NoRule) = some (.type "function"))
    (l_NoRule : K.lookup f_NoRule = some ⟨oc_NoRule, od_NoRule, .func (PySem.W.fnOf "__init__" "NoRule.__init__" (defArgs s_NoRule) (defBody s_NoRule) (defScope s_NoRule) .none kV_NoRule dc_NoRule pm_NoRule an_NoRule cd_NoRule ct_NoRule), sl_NoRule⟩)
    (c_NoRule : PySem.W.codeIn K cd_NoRule "NoRule.__init__" = true)
    (ga_NoRule : PySem.W.findIn K (.ref C_NoRule) "__getattribute__" = some (some (.builtin "BaseException.__getattribute__")))
    (gg_NoRule : PySem.W.findIn K (.ref C_NoRule) "__getattr__" = some none)
    (hb_NoRule : PySem.W.hasDictIn K C_NoRule = true)
    (ha_NoRule : PySem.W.findIn K (.ref C_NoRule) "__class__" = some (some (.builtin "object.__class__")))
    (hm_NoRule : PySem.W.mroIn K C_NoRule (.type "object") = some true)
    (a_NoWord : PySem.W.nsIn K mainGlobals "NoWord" = some (some (.ref C_NoWord)))
    (cl_NoWord : K.lookup C_NoWord = some (excClassObj "NoWord" q_NoWord C_NoWord N_NoWord bs_NoWord bm_NoWord true sn_NoWord sb_NoWord ab_NoWord co_NoWord dd_NoWord k0_NoWord k1_NoWord k2_NoWord k3_NoWord k5_NoWord "ValueError.__new__"))
    (rv_NoWord : PySem.HandSPX.refsVE bm_NoWord = true)
    (sa_NoWord : PySem.W.findIn K (.ref C_NoWord) "__setattr__" = some (some (.builtin "object.__setattr__")))
    (eb_NoWord : PySem.W.subIn K (.ref C_NoWord) (.type "BaseException") = some true)
    (ty_NoWord : PySem.W.typeIn K (.ref C_NoWord) = some (.type "type"))
    (ke_NoWord : PySem.W.keepIn K (.ref C_NoWord) = true)
    (no_NoWord : PySem.W.findIn K (.ref C_NoWord) "found" = some none)
    (fi_NoWord : PySem.W.findIn K (.ref C_NoWord) "__init__" = some (some (.ref f_NoWord)))
    (ti_NoWord : PySem.W.typeIn K (.ref f_NoWord) = some (.type "function"))
    (l_NoWord : K.lookup f_NoWord = some ⟨oc_NoWord, od_NoWord, .func (PySem.W.fnOf "__init__" "NoWord.__init__" (defArgs s_NoWord) (defBody s_NoWord) (defScope s_NoWord) .none kV_NoWord dc_NoWord pm_NoWord an_NoWord cd_NoWord ct_NoWord), sl_NoWord⟩)
    (c_NoWord : PySem.W.codeIn K cd_NoWord "NoWord.__init__" = true)
    (ga_NoWord : PySem.W.findIn K (.ref C_NoWord) "__getattribute__" = some (some (.builtin "BaseException.__getattribute__")))
    (gg_NoWord : PySem.W.findIn K (.ref C_NoWord) "__getattr__" = some none)
    (hb_NoWord : PySem.W.hasDictIn K C_NoWord = true)
    (ha_NoWord : PySem.W.findIn K (.ref C_NoWord) "__class__" = some (some (.builtin "object.__class__")))
    (hm_NoWord : PySem.W.mroIn K C_NoWord (.type "object") = some true)
    (xs_HailError : PySem.W.subIn K (.ref B_HailError) (.type "BaseException") = some true)
    (xd_HailError : PySem.W.hasDictIn K B_HailError = true)
    (xt_HailError : PySem.W.typeIn K (.ref B_HailError) = some (.type "type"))
    (xs_NoRule : PySem.W.subIn K (.ref C_NoRule) (.type "BaseException") = some true)
    (xd_NoRule : PySem.W.hasDictIn K C_NoRule = true)
    (xt_NoRule : PySem.W.typeIn K (.ref C_NoRule) = some (.type "type"))
    (xx_NoNumber_NoRule : PySem.W.subIn K (.ref C_NoNumber) (.ref C_NoRule) = some false)
    (xx_NoNumber_HailError : PySem.W.subIn K (.ref C_NoNumber) (.ref B_HailError) = some true)
    (xx_NoBottom_NoRule : PySem.W.subIn K (.ref C_NoBottom) (.ref C_NoRule) = some false)
    (xx_NoBottom_HailError : PySem.W.subIn K (.ref C_NoBottom) (.ref B_HailError) = some true)
    (xx_NoHalf_NoRule : PySem.W.subIn K (.ref C_NoHalf) (.ref C_NoRule) = some false)
    (xx_NoHalf_HailError : PySem.W.subIn K (.ref C_NoHalf) (.ref B_HailError) = some true)
    (xx_NoRule_NoRule : PySem.W.subIn K (.ref C_NoRule) (.ref C_NoRule) = some true)
    (xx_NoRule_HailError : PySem.W.subIn K (.ref C_NoRule) (.ref B_HailError) = some true)
    (xx_NoWord_NoRule : PySem.W.subIn K (.ref C_NoWord) (.ref C_NoRule) = some false)
    (xx_NoWord_HailError : PySem.W.subIn K (.ref C_NoWord) (.ref B_HailError) = some true)
    (hn : PySem.W.specialIn K (.builtin "object.__class__") "__get__" = some (some (.builtin "getset_descriptor.__get__")))
    (ht : PySem.W.takesIn K (.builtin "object.__class__") = some true)
    (kit_NoneType_Frac : PySem.W.kitOne K (.type "NoneType") (.ref C_Frac) = some false)
    (kit_bool_Frac : PySem.W.kitOne K (.type "bool") (.ref C_Frac) = some false)
    (kit_int_Frac : PySem.W.kitOne K (.type "int") (.ref C_Frac) = some false)
    (kit_str_Frac : PySem.W.kitOne K (.type "str") (.ref C_Frac) = some false)
    (kit_list_Frac : PySem.W.kitOne K (.type "list") (.ref C_Frac) = some false)
    (kit_tuple_Frac : PySem.W.kitOne K (.type "tuple") (.ref C_Frac) = some false)
    (kit_dict_Frac : PySem.W.kitOne K (.type "dict") (.ref C_Frac) = some false)
    (kit_Frac_Frac : PySem.W.kitOne K (.ref C_Frac) (.ref C_Frac) = some true)
    (kit_Rule_Frac : PySem.W.kitOne K (.ref C_Rule) (.ref C_Frac) = some false)
    (kit_NoHalf_Frac : PySem.W.kitOne K (.ref C_NoHalf) (.ref C_Frac) = some false)
    (kit_NoneType_Rule : PySem.W.kitOne K (.type "NoneType") (.ref C_Rule) = some false)
    (kit_bool_Rule : PySem.W.kitOne K (.type "bool") (.ref C_Rule) = some false)
    (kit_int_Rule : PySem.W.kitOne K (.type "int") (.ref C_Rule) = some false)
    (kit_str_Rule : PySem.W.kitOne K (.type "str") (.ref C_Rule) = some false)
    (kit_list_Rule : PySem.W.kitOne K (.type "list") (.ref C_Rule) = some false)
    (kit_tuple_Rule : PySem.W.kitOne K (.type "tuple") (.ref C_Rule) = some false)
    (kit_dict_Rule : PySem.W.kitOne K (.type "dict") (.ref C_Rule) = some false)
    (kit_Frac_Rule : PySem.W.kitOne K (.ref C_Frac) (.ref C_Rule) = some false)
    (kit_Rule_Rule : PySem.W.kitOne K (.ref C_Rule) (.ref C_Rule) = some true)
    (kit_NoHalf_Rule : PySem.W.kitOne K (.ref C_NoHalf) (.ref C_Rule) = some false)
    (kit_Frac_bool : PySem.W.kitOne K (.ref C_Frac) (.type "bool") = some false)
    (kit_Rule_bool : PySem.W.kitOne K (.ref C_Rule) (.type "bool") = some false)
    (kit_NoHalf_bool : PySem.W.kitOne K (.ref C_NoHalf) (.type "bool") = some false)
    (kit_Frac_int : PySem.W.kitOne K (.ref C_Frac) (.type "int") = some false)
    (kit_Rule_int : PySem.W.kitOne K (.ref C_Rule) (.type "int") = some false)
    (kit_NoHalf_int : PySem.W.kitOne K (.ref C_NoHalf) (.type "int") = some false)
    (kit_Frac_list : PySem.W.kitOne K (.ref C_Frac) (.type "list") = some false)
    (kit_Rule_list : PySem.W.kitOne K (.ref C_Rule) (.type "list") = some false)
    (kit_NoHalf_list : PySem.W.kitOne K (.ref C_NoHalf) (.type "list") = some false)
    (kit_Frac_str : PySem.W.kitOne K (.ref C_Frac) (.type "str") = some false)
    (kit_Rule_str : PySem.W.kitOne K (.ref C_Rule) (.type "str") = some false)
    (kit_NoHalf_str : PySem.W.kitOne K (.ref C_NoHalf) (.type "str") = some false)
    (kit_Frac_tuple : PySem.W.kitOne K (.ref C_Frac) (.type "tuple") = some false)
    (kit_Rule_tuple : PySem.W.kitOne K (.ref C_Rule) (.type "tuple") = some false)
    (kit_NoHalf_tuple : PySem.W.kitOne K (.ref C_NoHalf) (.type "tuple") = some false)
    (dg : PySem.W.nsIn K cStatics "sys.int_max_str_digits" = some none)
    (rp_NoHalf : PySem.W.findIn K (.ref C_NoHalf) "__repr__" = some (some (.builtin "BaseException.__repr__")))
    (qn_Frac : PySem.W.findIn K (.ref C_Frac) "__ne__" = some (some (.builtin "object.__ne__")))
    (qb_Frac_NoneType : PySem.W.mroIn K C_Frac (.type "NoneType") = some false)
    (qb_Frac_bool : PySem.W.mroIn K C_Frac (.type "bool") = some false)
    (qb_Frac_int : PySem.W.mroIn K C_Frac (.type "int") = some false)
    (qb_Frac_str : PySem.W.mroIn K C_Frac (.type "str") = some false)
    (qb_Frac_list : PySem.W.mroIn K C_Frac (.type "list") = some false)
    (qb_Frac_tuple : PySem.W.mroIn K C_Frac (.type "tuple") = some false)
    (qb_Frac_dict : PySem.W.mroIn K C_Frac (.type "dict") = some false)
    (qo_Frac_Rule : PySem.W.mroIn K C_Rule (.ref C_Frac) = some false)
    (qx_Frac_NoHalf : PySem.W.mroIn K C_NoHalf (.ref C_Frac) = some false)
    (qy_Frac_NoHalf : PySem.W.mroIn K C_Frac (.ref C_NoHalf) = some false)
    (qn_Rule : PySem.W.findIn K (.ref C_Rule) "__ne__" = some (some (.builtin "object.__ne__")))
    (qb_Rule_NoneType : PySem.W.mroIn K C_Rule (.type "NoneType") = some false)
    (qb_Rule_bool : PySem.W.mroIn K C_Rule (.type "bool") = some false)
    (qb_Rule_int : PySem.W.mroIn K C_Rule (.type "int") = some false)
    (qb_Rule_str : PySem.W.mroIn K C_Rule (.type "str") = some false)
    (qb_Rule_list : PySem.W.mroIn K C_Rule (.type "list") = some false)
    (qb_Rule_tuple : PySem.W.mroIn K C_Rule (.type "tuple") = some false)
    (qb_Rule_dict : PySem.W.mroIn K C_Rule (.type "dict") = some false)
    (qo_Rule_Frac : PySem.W.mroIn K C_Frac (.ref C_Rule) = some false)
    (qx_Rule_NoHalf : PySem.W.mroIn K C_NoHalf (.ref C_Rule) = some false)
    (qy_Rule_NoHalf : PySem.W.mroIn K C_Rule (.ref C_NoHalf) = some false)
    (qe_NoHalf : PySem.W.findIn K (.ref C_NoHalf) "__eq__" = some (some (.builtin "object.__eq__"))) :
    ∃ (W : Wk) (fd : FuncData) (F : FD), W.P = P ∧ W.w = w ∧ W.K = K ∧ W.mg = mg ∧ (∀ (s : Shared) (u : Value), BindsTo s fd ⟨[u], []⟩ [("script", u)]) ∧ Says F 63 ∧ ∀ base : Heap, K.In base → base.Ns mainGlobals mg → FnG ⟨W, base, none, []⟩ 10 fa fd ["script"] F := by
  let Wb : Wk := theW P w K mg (fun c => match c with | 0 => C_Frac | 1 => C_Rule | 7 => B_HailError | 2 => C_NoNumber | 3 => C_NoBottom | 4 => C_NoHalf | 5 => C_NoRule | 6 => C_NoWord | _ => 0)
  have cl_Frac : Cls K C_Frac := ⟨pg_Frac, hd_Frac, po_Frac, sa_Frac⟩
  have cl_Rule : Cls K C_Rule := ⟨pg_Rule, hd_Rule, po_Rule, sa_Rule⟩
  have ob : ObF Wb (2 : Nat) fnm := by
    refine ⟨rfl, fun c hc => ?_, fun c hc f hf => ?_⟩
    · match c, hc with
      | 0, _ => exact cl_Frac
      | 1, _ => exact cl_Rule
    · match c, hc with
      | 0, _ =>
        have hf : f ∈ (["above", "below"] : List Str) := hf
        rcases List.mem_cons.mp hf with h | h
        · subst h; exact na_Frac_above
        · cases List.mem_singleton.mp h; exact na_Frac_below
      | 1, _ =>
        have hf : f ∈ (["times", "plus"] : List Str) := hf
        rcases List.mem_cons.mp hf with h | h
        · subst h; exact na_Rule_times
        · cases List.mem_singleton.mp h; exact na_Rule_plus
  have ci_NoNumber : (PySem.W.clsIn K C_NoNumber).isSome = true := by unfold PySem.W.clsIn; rw [cl_NoNumber]; rfl
  have ci_NoBottom : (PySem.W.clsIn K C_NoBottom).isSome = true := by unfold PySem.W.clsIn; rw [cl_NoBottom]; rfl
  have ci_NoHalf : (PySem.W.clsIn K C_NoHalf).isSome = true := by unfold PySem.W.clsIn; rw [cl_NoHalf]; rfl
  have ci_NoRule : (PySem.W.clsIn K C_NoRule).isSome = true := by unfold PySem.W.clsIn; rw [cl_NoRule]; rfl
  have ci_NoWord : (PySem.W.clsIn K C_NoWord).isSome = true := by unfold PySem.W.clsIn; rw [cl_NoWord]; rfl
  have isi : IsiTab Wb tab := isiTab_of ⟨⟨kit_NoneType_Frac, trivial⟩, ⟨kit_bool_Frac, trivial⟩, ⟨kit_int_Frac, trivial⟩, ⟨kit_str_Frac, trivial⟩, ⟨kit_list_Frac, trivial⟩, ⟨kit_tuple_Frac, trivial⟩, ⟨kit_dict_Frac, trivial⟩, ⟨kit_Frac_Frac, ⟨cl_Frac, ha_Frac, hn, ht, hm_Frac⟩⟩, ⟨kit_Rule_Frac, ⟨cl_Rule, ha_Rule, hn, ht, hm_Rule⟩⟩, ⟨kit_NoHalf_Frac, ⟨ci_NoHalf, ga_NoHalf, ⟨_, gg_NoHalf⟩, eb_NoHalf, ha_NoHalf, hn, ht, hm_NoHalf⟩⟩, ⟨kit_NoneType_Rule, trivial⟩, ⟨kit_bool_Rule, trivial⟩, ⟨kit_int_Rule, trivial⟩, ⟨kit_str_Rule, trivial⟩, ⟨kit_list_Rule, trivial⟩, ⟨kit_tuple_Rule, trivial⟩, ⟨kit_dict_Rule, trivial⟩, ⟨kit_Frac_Rule, ⟨cl_Frac, ha_Frac, hn, ht, hm_Frac⟩⟩, ⟨kit_Rule_Rule, ⟨cl_Rule, ha_Rule, hn, ht, hm_Rule⟩⟩, ⟨kit_NoHalf_Rule, ⟨ci_NoHalf, ga_NoHalf, ⟨_, gg_NoHalf⟩, eb_NoHalf, ha_NoHalf, hn, ht, hm_NoHalf⟩⟩, ⟨kit_Frac_bool, ⟨cl_Frac, ha_Frac, hn, ht, hm_Frac⟩⟩, ⟨kit_Rule_bool, ⟨cl_Rule, ha_Rule, hn, ht, hm_Rule⟩⟩, ⟨kit_NoHalf_bool, ⟨ci_NoHalf, ga_NoHalf, ⟨_, gg_NoHalf⟩, eb_NoHalf, ha_NoHalf, hn, ht, hm_NoHalf⟩⟩, ⟨kit_Frac_int, ⟨cl_Frac, ha_Frac, hn, ht, hm_Frac⟩⟩, ⟨kit_Rule_int, ⟨cl_Rule, ha_Rule, hn, ht, hm_Rule⟩⟩, ⟨kit_NoHalf_int, ⟨ci_NoHalf, ga_NoHalf, ⟨_, gg_NoHalf⟩, eb_NoHalf, ha_NoHalf, hn, ht, hm_NoHalf⟩⟩, ⟨kit_Frac_list, ⟨cl_Frac, ha_Frac, hn, ht, hm_Frac⟩⟩, ⟨kit_Rule_list, ⟨cl_Rule, ha_Rule, hn, ht, hm_Rule⟩⟩, ⟨kit_NoHalf_list, ⟨ci_NoHalf, ga_NoHalf, ⟨_, gg_NoHalf⟩, eb_NoHalf, ha_NoHalf, hn, ht, hm_NoHalf⟩⟩, ⟨kit_Frac_str, ⟨cl_Frac, ha_Frac, hn, ht, hm_Frac⟩⟩, ⟨kit_Rule_str, ⟨cl_Rule, ha_Rule, hn, ht, hm_Rule⟩⟩, ⟨kit_NoHalf_str, ⟨ci_NoHalf, ga_NoHalf, ⟨_, gg_NoHalf⟩, eb_NoHalf, ha_NoHalf, hn, ht, hm_NoHalf⟩⟩, ⟨kit_Frac_tuple, ⟨cl_Frac, ha_Frac, hn, ht, hm_Frac⟩⟩, ⟨kit_Rule_tuple, ⟨cl_Rule, ha_Rule, hn, ht, hm_Rule⟩⟩, ⟨kit_NoHalf_tuple, ⟨ci_NoHalf, ga_NoHalf, ⟨_, gg_NoHalf⟩, eb_NoHalf, ha_NoHalf, hn, ht, hm_NoHalf⟩⟩, trivial⟩
  have eqc : ∀ c, c < (2 : Nat) → EqC Wb (2 : Nat) exq c := fun c hc => match c, hc with
    | 0, _ => ⟨hm_Frac, qn_Frac, qb_Frac_NoneType, qb_Frac_bool, qb_Frac_int, qb_Frac_str, qb_Frac_list, qb_Frac_tuple, qb_Frac_dict, fun c hc => match c, hc with | 0, _ => (by show PySem.W.notFirst K C_Frac (.ref C_Frac) = true; unfold PySem.W.notFirst; simp) | 1, _ => (by show PySem.W.notFirst K C_Frac (.ref C_Rule) = true; unfold PySem.W.notFirst; rw [show PySem.W.subIn K (.ref C_Rule) (.ref C_Frac) = some false from qo_Frac_Rule]; simp), fun c h => by
        simp only [exq, Bool.or_eq_true, beq_iff_eq] at h
        subst h
        · exact ⟨qx_Frac_NoHalf, qy_Frac_NoHalf, qe_NoHalf, hm_NoHalf⟩⟩
    | 1, _ => ⟨hm_Rule, qn_Rule, qb_Rule_NoneType, qb_Rule_bool, qb_Rule_int, qb_Rule_str, qb_Rule_list, qb_Rule_tuple, qb_Rule_dict, fun c hc => match c, hc with | 0, _ => (by show PySem.W.notFirst K C_Rule (.ref C_Frac) = true; unfold PySem.W.notFirst; rw [show PySem.W.subIn K (.ref C_Frac) (.ref C_Rule) = some false from qo_Rule_Frac]; simp) | 1, _ => (by show PySem.W.notFirst K C_Rule (.ref C_Rule) = true; unfold PySem.W.notFirst; simp), fun c h => by
        simp only [exq, Bool.or_eq_true, beq_iff_eq] at h
        subst h
        · exact ⟨qx_Rule_NoHalf, qy_Rule_NoHalf, qe_NoHalf, hm_NoHalf⟩⟩
  have ex : ExTab Wb exT := exTab_of ⟨⟨PySem.W.exm_ref xs_NoRule xd_NoRule xt_NoRule xx_NoNumber_NoRule, ⟨⟨ga_NoNumber, gg_NoNumber, eb_NoNumber, hb_NoNumber⟩, no_NoNumber⟩⟩, ⟨PySem.W.exm_ref xs_HailError xd_HailError xt_HailError xx_NoNumber_HailError, ⟨⟨ga_NoNumber, gg_NoNumber, eb_NoNumber, hb_NoNumber⟩, no_NoNumber⟩⟩, ⟨PySem.W.exm_ref xs_NoRule xd_NoRule xt_NoRule xx_NoBottom_NoRule, ⟨⟨ga_NoBottom, gg_NoBottom, eb_NoBottom, hb_NoBottom⟩, no_NoBottom⟩⟩, ⟨PySem.W.exm_ref xs_HailError xd_HailError xt_HailError xx_NoBottom_HailError, ⟨⟨ga_NoBottom, gg_NoBottom, eb_NoBottom, hb_NoBottom⟩, no_NoBottom⟩⟩, ⟨PySem.W.exm_ref xs_NoRule xd_NoRule xt_NoRule xx_NoHalf_NoRule, ⟨⟨ga_NoHalf, gg_NoHalf, eb_NoHalf, hb_NoHalf⟩, no_NoHalf⟩⟩, ⟨PySem.W.exm_ref xs_HailError xd_HailError xt_HailError xx_NoHalf_HailError, ⟨⟨ga_NoHalf, gg_NoHalf, eb_NoHalf, hb_NoHalf⟩, no_NoHalf⟩⟩, ⟨PySem.W.exm_ref xs_NoRule xd_NoRule xt_NoRule xx_NoRule_NoRule, ⟨⟨ga_NoRule, gg_NoRule, eb_NoRule, hb_NoRule⟩, no_NoRule⟩⟩, ⟨PySem.W.exm_ref xs_HailError xd_HailError xt_HailError xx_NoRule_HailError, ⟨⟨ga_NoRule, gg_NoRule, eb_NoRule, hb_NoRule⟩, no_NoRule⟩⟩, ⟨PySem.W.exm_ref xs_NoRule xd_NoRule xt_NoRule xx_NoWord_NoRule, ⟨⟨ga_NoWord, gg_NoWord, eb_NoWord, hb_NoWord⟩, no_NoWord⟩⟩, ⟨PySem.W.exm_ref xs_HailError xd_HailError xt_HailError xx_NoWord_HailError, ⟨⟨ga_NoWord, gg_NoWord, eb_NoWord, hb_NoWord⟩, no_NoWord⟩⟩, trivial⟩
  have xt : XtTab Wb xtx := ⟨xtTab_of ⟨⟨⟨⟨_, _, _, _, _, _, _, _, _, _, _, _, _, _, _, _, cl_NoHalf⟩, rp_NoHalf, eb_NoHalf⟩, rfl⟩, trivial⟩, dg⟩
  have T : Txt Wb := ⟨PySem.W.mg_none_of KX G z_abs, PySem.W.mg_none_of KX G z_all, PySem.W.mg_none_of KX G z_bool, PySem.W.mg_none_of KX G z_enumerate, PySem.W.mg_none_of KX G z_int, PySem.W.mg_none_of KX G z_isinstance, PySem.W.mg_none_of KX G z_len, PySem.W.mg_none_of KX G z_list, PySem.W.mg_none_of KX G z_max, PySem.W.mg_none_of KX G z_min, PySem.W.mg_none_of KX G z_range, PySem.W.mg_none_of KX G z_repr, PySem.W.mg_none_of KX G z_str, PySem.W.mg_none_of KX G z_tuple, ⟨_, PySem.W.mg_of KX G k_MOST⟩, ⟨_, PySem.W.mg_of KX G k_MOST_LETTERS⟩, ⟨_, PySem.W.mg_of KX G k_MOST_ROUND⟩, ⟨_, _, dfn_mk (W := Wb) KX G a_common l_common c_common k_common⟩, ⟨_, _, dfn_mk (W := Wb) KX G a_is_number l_is_number c_is_number k_is_number⟩, ⟨_, _, dfn_mk (W := Wb) KX G a_need_number l_need_number c_need_number k_need_number⟩, ⟨_, _, mdfnD_mk (W := Wb) a_Frac___init__ i_Frac___init__ l_Frac___init__ c_Frac___init__ k_Frac___init__ dt_Frac___init__ rfl (.cons ⟨_, rfl⟩ .nil) ⟨fun _ _ _ => rfl, trivial⟩⟩, ⟨_, _, mdfn_mk (W := Wb) a_Frac___str__ i_Frac___str__ l_Frac___str__ c_Frac___str__ k_Frac___str__⟩, ⟨_, _, mdfn_mk (W := Wb) a_Frac___repr__ i_Frac___repr__ l_Frac___repr__ c_Frac___repr__ k_Frac___repr__⟩, ⟨_, _, dfn_mk (W := Wb) KX G a_is_whole l_is_whole c_is_whole k_is_whole⟩, ⟨_, _, mdfnD_mk (W := Wb) a_Rule___init__ i_Rule___init__ l_Rule___init__ c_Rule___init__ k_Rule___init__ dt_Rule___init__ rfl (.cons ⟨_, rfl⟩ (.cons ⟨_, rfl⟩ .nil)) ⟨fun _ _ _ => rfl, fun _ _ _ => rfl, trivial⟩⟩, ⟨_, _, dfn_mk (W := Wb) KX G a__law_box l__law_box c__law_box k__law_box⟩, ⟨_, _, dfn_mk (W := Wb) KX G a__law_cell l__law_cell c__law_cell k__law_cell⟩, ⟨_, _, mdfn_mk (W := Wb) a_Frac_told i_Frac_told l_Frac_told c_Frac_told k_Frac_told⟩, ⟨_, _, mdfn_mk (W := Wb) a_Rule_told i_Rule_told l_Rule_told c_Rule_told k_Rule_told⟩, ⟨_, _, dfn_mk (W := Wb) KX G a__law_low l__law_low c__law_low k__law_low⟩, ⟨_, _, dfn_mk (W := Wb) KX G a__law_lead l__law_lead c__law_lead k__law_lead⟩, ⟨_, _, dfn_mk (W := Wb) KX G a__law_due l__law_due c__law_due k__law_due⟩, ⟨_, _, dfn_mk (W := Wb) KX G a__law_just l__law_just c__law_just k__law_just⟩, ⟨_, _, dfn_mk (W := Wb) KX G a__law_take l__law_take c__law_take k__law_take⟩, ⟨_, _, dfn_mk (W := Wb) KX G a__law_odd l__law_odd c__law_odd k__law_odd⟩, ⟨_, _, mdfn_mk (W := Wb) a_Frac_top i_Frac_top l_Frac_top c_Frac_top k_Frac_top⟩, ⟨_, _, dfn_mk (W := Wb) KX G a__law_pair l__law_pair c__law_pair k__law_pair⟩, ⟨_, _, dfn_mk (W := Wb) KX G a__law_other l__law_other c__law_other k__law_other⟩, ⟨_, _, mdfn_mk (W := Wb) a_Frac___eq__ i_Frac___eq__ l_Frac___eq__ c_Frac___eq__ k_Frac___eq__⟩, ⟨_, _, mdfn_mk (W := Wb) a_Rule___eq__ i_Rule___eq__ l_Rule___eq__ c_Rule___eq__ k_Rule___eq__⟩, ⟨_, _, dfn_mk (W := Wb) KX G a_need_rule l_need_rule c_need_rule k_need_rule⟩, ⟨_, _, mdfn_mk (W := Wb) a_Frac_is_odd i_Frac_is_odd l_Frac_is_odd c_Frac_is_odd k_Frac_is_odd⟩, ⟨_, _, mdfn_mk (W := Wb) a_Frac_half i_Frac_half l_Frac_half c_Frac_half k_Frac_half⟩, ⟨_, _, mdfn_mk (W := Wb) a_Frac_led i_Frac_led l_Frac_led c_Frac_led k_Frac_led⟩, ⟨_, _, mdfn_mk (W := Wb) a_Rule_addend i_Rule_addend l_Rule_addend c_Rule_addend k_Rule_addend⟩, ⟨_, _, mdfn_mk (W := Wb) a_Rule_factor i_Rule_factor l_Rule_factor c_Rule_factor k_Rule_factor⟩, ⟨_, _, dfn_mk (W := Wb) KX G a_next_of l_next_of c_next_of k_next_of⟩, ⟨_, _, dfn_mk (W := Wb) KX G a_is_round l_is_round c_is_round k_is_round⟩, ⟨_, _, dfn_mk (W := Wb) KX G a__law_refused l__law_refused c__law_refused k__law_refused⟩, ⟨_, _, dfn_mk (W := Wb) KX G a__law_rule l__law_rule c__law_rule k__law_rule⟩, ⟨_, _, dfn_mk (W := Wb) KX G a__law_word l__law_word c__law_word k__law_word⟩, ⟨_, _, dfn_mk (W := Wb) KX G a_led_by l_led_by c_led_by k_led_by⟩, ⟨_, _, dfn_mk (W := Wb) KX G a_is_word l_is_word c_is_word k_is_word⟩, ⟨_, _, dfn_mk (W := Wb) KX G a_need_word l_need_word c_need_word k_need_word⟩, ⟨_, _, dfn_mk (W := Wb) KX G a_need_letters l_need_letters c_need_letters k_need_letters⟩, ⟨_, _, dfn_mk (W := Wb) KX G a_ring_of l_ring_of c_ring_of k_ring_of⟩, ⟨_, _, dfn_mk (W := Wb) KX G a_walked l_walked c_walked k_walked⟩, ⟨_, _, dfn_mk (W := Wb) KX G a_round_of l_round_of c_round_of k_round_of⟩, ⟨_, _, dfn_mk (W := Wb) KX G a_law l_law c_law k_law⟩, ⟨cl_Frac, PySem.W.mg_of KX G oa_Frac, mk_Frac, ke_Frac⟩, ⟨cl_Rule, PySem.W.mg_of KX G oa_Rule, mk_Rule, ke_Rule⟩, ob, ⟨⟨⟨_, _, _, _, _, _, _, _, _, _, _, _, _, _, _, cl_NoNumber, rv_NoNumber⟩, sa_NoNumber, eb_NoNumber, ty_NoNumber, ke_NoNumber⟩, no_NoNumber, PySem.W.mg_of KX G a_NoNumber, ⟨B_HailError, PySem.W.mg_of KX G a_HailError, sg_HailError, rd_HailError, fc_HailError⟩, ⟨f_NoNumber, _, _, _, _, _, _, _, _, _, fi_NoNumber, ti_NoNumber, l_NoNumber, c_NoNumber⟩⟩, rfl, ⟨⟨⟨_, _, _, _, _, _, _, _, _, _, _, _, _, _, _, cl_NoBottom, rv_NoBottom⟩, sa_NoBottom, eb_NoBottom, ty_NoBottom, ke_NoBottom⟩, no_NoBottom, PySem.W.mg_of KX G a_NoBottom, ⟨B_HailError, PySem.W.mg_of KX G a_HailError, sg_HailError, rd_HailError, fc_HailError⟩, ⟨f_NoBottom, _, _, _, _, _, _, _, _, _, fi_NoBottom, ti_NoBottom, l_NoBottom, c_NoBottom⟩⟩, rfl, ⟨⟨⟨_, _, _, _, _, _, _, _, _, _, _, _, _, _, _, cl_NoHalf, rv_NoHalf⟩, sa_NoHalf, eb_NoHalf, ty_NoHalf, ke_NoHalf⟩, no_NoHalf, PySem.W.mg_of KX G a_NoHalf, ⟨B_HailError, PySem.W.mg_of KX G a_HailError, sg_HailError, rd_HailError, fc_HailError⟩, ⟨f_NoHalf, _, _, _, _, _, _, _, _, _, fi_NoHalf, ti_NoHalf, l_NoHalf, c_NoHalf⟩⟩, rfl, ⟨⟨⟨_, _, _, _, _, _, _, _, _, _, _, _, _, _, _, cl_NoRule, rv_NoRule⟩, sa_NoRule, eb_NoRule, ty_NoRule, ke_NoRule⟩, no_NoRule, PySem.W.mg_of KX G a_NoRule, ⟨B_HailError, PySem.W.mg_of KX G a_HailError, sg_HailError, rd_HailError, fc_HailError⟩, ⟨f_NoRule, _, _, _, _, _, _, _, _, _, fi_NoRule, ti_NoRule, l_NoRule, c_NoRule⟩⟩, rfl, ⟨⟨⟨_, _, _, _, _, _, _, _, _, _, _, _, _, _, _, cl_NoWord, rv_NoWord⟩, sa_NoWord, eb_NoWord, ty_NoWord, ke_NoWord⟩, no_NoWord, PySem.W.mg_of KX G a_NoWord, ⟨B_HailError, PySem.W.mg_of KX G a_HailError, sg_HailError, rd_HailError, fc_HailError⟩, ⟨f_NoWord, _, _, _, _, _, _, _, _, _, fi_NoWord, ti_NoWord, l_NoWord, c_NoWord⟩⟩, rfl, PySem.W.mg_of KX G a_HailError, ex, xt, isi, eqc⟩
  cases hmg.symm.trans (PySem.W.mg_of KX G a_law)
  refine ⟨Wb, PySem.W.fnOf "law" "law" (defArgs s_law) (defBody s_law) (defScope s_law) .none kV_law dc_law pm_law an_law cd_law ct_law, F_law, rfl, rfl, rfl, rfl, fun s u => .of_eq rfl, says, fun base h1 h2 => ?_⟩
  obtain ⟨f, fd, D, Kf⟩ := kn_law (W := ⟨Wb, base, none, []⟩) T rfl rfl
  cases D.at.symm.trans (PySem.W.mg_of KX G a_law)
  obtain ⟨_, _, _, _, _, _, _, _, _, e1, e2, _⟩ := D.ex
  cases e2.symm.trans l_law
  exact Kf.G

end LW
open PySem PySem.W PyProof.Rows
set_option maxRecDepth 100000 in
set_option maxHeartbeats 0 in
theorem PySem.Challenge.cw_hailwords_k17_rounds_judged_holds : PySem.Challenge.rw_hailwords_k17_rounds_judged.Holds := by
  w_on; o_law; k_head; (case hw => w_witness2)
  k_fill
  refine PM.law_end (l := PySem.Challenge.rw_hailwords_k17_rounds_judged) (n := 63) (k := 10) (x := "script") rfl (by rw [sizeLine_eq]; decide) rfl ⟨rfl, by decide, by decide⟩ (fun w h Y => PySem.W.kIn_of Y) ?F
  case F =>
    intro w mg fa h KX G hmg
    refine' LW.fin KX G hmg ?z_abs ?z_all ?z_bool ?z_enumerate ?z_int ?z_isinstance ?z_len ?z_list ?z_max ?z_min ?z_range ?z_repr ?z_str ?z_tuple ?k_MOST ?k_MOST_LETTERS ?k_MOST_ROUND ?a_common ?l_common ?c_common ?k_common ?a_is_number ?l_is_number ?c_is_number ?k_is_number ?a_need_number ?l_need_number ?c_need_number ?k_need_number ?a_Frac___init__ ?i_Frac___init__ ?l_Frac___init__ ?c_Frac___init__ ?k_Frac___init__ ?dt_Frac___init__ ?a_Frac___str__ ?i_Frac___str__ ?l_Frac___str__ ?c_Frac___str__ ?k_Frac___str__ ?a_Frac___repr__ ?i_Frac___repr__ ?l_Frac___repr__ ?c_Frac___repr__ ?k_Frac___repr__ ?a_is_whole ?l_is_whole ?c_is_whole ?k_is_whole ?a_Rule___init__ ?i_Rule___init__ ?l_Rule___init__ ?c_Rule___init__ ?k_Rule___init__ ?dt_Rule___init__ ?a__law_box ?l__law_box ?c__law_box ?k__law_box ?a__law_cell ?l__law_cell ?c__law_cell ?k__law_cell ?a_Frac_told ?i_Frac_told ?l_Frac_told ?c_Frac_told ?k_Frac_told ?a_Rule_told ?i_Rule_told ?l_Rule_told ?c_Rule_told ?k_Rule_told ?a__law_low ?l__law_low ?c__law_low ?k__law_low ?a__law_lead ?l__law_lead ?c__law_lead ?k__law_lead ?a__law_due ?l__law_due ?c__law_due ?k__law_due ?a__law_just ?l__law_just ?c__law_just ?k__law_just ?a__law_take ?l__law_take ?c__law_take ?k__law_take ?a__law_odd ?l__law_odd ?c__law_odd ?k__law_odd ?a_Frac_top ?i_Frac_top ?l_Frac_top ?c_Frac_top ?k_Frac_top ?a__law_pair ?l__law_pair ?c__law_pair ?k__law_pair ?a__law_other ?l__law_other ?c__law_other ?k__law_other ?a_Frac___eq__ ?i_Frac___eq__ ?l_Frac___eq__ ?c_Frac___eq__ ?k_Frac___eq__ ?a_Rule___eq__ ?i_Rule___eq__ ?l_Rule___eq__ ?c_Rule___eq__ ?k_Rule___eq__ ?a_need_rule ?l_need_rule ?c_need_rule ?k_need_rule ?a_Frac_is_odd ?i_Frac_is_odd ?l_Frac_is_odd ?c_Frac_is_odd ?k_Frac_is_odd ?a_Frac_half ?i_Frac_half ?l_Frac_half ?c_Frac_half ?k_Frac_half ?a_Frac_led ?i_Frac_led ?l_Frac_led ?c_Frac_led ?k_Frac_led ?a_Rule_addend ?i_Rule_addend ?l_Rule_addend ?c_Rule_addend ?k_Rule_addend ?a_Rule_factor ?i_Rule_factor ?l_Rule_factor ?c_Rule_factor ?k_Rule_factor ?a_next_of ?l_next_of ?c_next_of ?k_next_of ?a_is_round ?l_is_round ?c_is_round ?k_is_round ?a__law_refused ?l__law_refused ?c__law_refused ?k__law_refused ?a__law_rule ?l__law_rule ?c__law_rule ?k__law_rule ?a__law_word ?l__law_word ?c__law_word ?k__law_word ?a_led_by ?l_led_by ?c_led_by ?k_led_by ?a_is_word ?l_is_word ?c_is_word ?k_is_word ?a_need_word ?l_need_word ?c_need_word ?k_need_word ?a_need_letters ?l_need_letters ?c_need_letters ?k_need_letters ?a_ring_of ?l_ring_of ?c_ring_of ?k_ring_of ?a_walked ?l_walked ?c_walked ?k_walked ?a_round_of ?l_round_of ?c_round_of ?k_round_of ?a_law ?l_law ?c_law ?k_law ?oa_Frac ?pg_Frac ?hd_Frac ?po_Frac ?sa_Frac ?mk_Frac ?ke_Frac ?ha_Frac ?hm_Frac ?na_Frac_above ?na_Frac_below ?oa_Rule ?pg_Rule ?hd_Rule ?po_Rule ?sa_Rule ?mk_Rule ?ke_Rule ?ha_Rule ?hm_Rule ?na_Rule_times ?na_Rule_plus ?a_HailError ?sg_HailError ?rd_HailError ?fc_HailError ?a_NoNumber ?cl_NoNumber ?rv_NoNumber ?sa_NoNumber ?eb_NoNumber ?ty_NoNumber ?ke_NoNumber ?no_NoNumber ?fi_NoNumber ?ti_NoNumber ?l_NoNumber ?c_NoNumber ?ga_NoNumber ?gg_NoNumber ?hb_NoNumber ?ha_NoNumber ?hm_NoNumber ?a_NoBottom ?cl_NoBottom ?rv_NoBottom ?sa_NoBottom ?eb_NoBottom ?ty_NoBottom ?ke_NoBottom ?no_NoBottom ?fi_NoBottom ?ti_NoBottom ?l_NoBottom ?c_NoBottom ?ga_NoBottom ?gg_NoBottom ?hb_NoBottom ?ha_NoBottom ?hm_NoBottom ?a_NoHalf ?cl_NoHalf ?rv_NoHalf ?sa_NoHalf ?eb_NoHalf ?ty_NoHalf ?ke_NoHalf ?no_NoHalf ?fi_NoHalf ?ti_NoHalf ?l_NoHalf ?c_NoHalf ?ga_NoHalf ?gg_NoHalf ?hb_NoHalf ?ha_NoHalf ?hm_NoHalf ?a_NoRule ?cl_NoRule ?rv_NoRule ?sa_NoRule ?eb_NoRule ?ty_NoRule ?ke_NoRule ?no_NoRule ?fi_NoRule ?ti_NoRule ?l_NoRule ?c_NoRule ?ga_NoRule ?gg_NoRule ?hb_NoRule ?ha_NoRule ?hm_NoRule ?a_NoWord ?cl_NoWord ?rv_NoWord ?sa_NoWord ?eb_NoWord ?ty_NoWord ?ke_NoWord ?no_NoWord ?fi_NoWord ?ti_NoWord ?l_NoWord ?c_NoWord ?ga_NoWord ?gg_NoWord ?hb_NoWord ?ha_NoWord ?hm_NoWord ?xs_HailError ?xd_HailError ?xt_HailError ?xs_NoRule ?xd_NoRule ?xt_NoRule ?xx_NoNumber_NoRule ?xx_NoNumber_HailError ?xx_NoBottom_NoRule ?xx_NoBottom_HailError ?xx_NoHalf_NoRule ?xx_NoHalf_HailError ?xx_NoRule_NoRule ?xx_NoRule_HailError ?xx_NoWord_NoRule ?xx_NoWord_HailError ?hn ?ht ?kit_NoneType_Frac ?kit_bool_Frac ?kit_int_Frac ?kit_str_Frac ?kit_list_Frac ?kit_tuple_Frac ?kit_dict_Frac ?kit_Frac_Frac ?kit_Rule_Frac ?kit_NoHalf_Frac ?kit_NoneType_Rule ?kit_bool_Rule ?kit_int_Rule ?kit_str_Rule ?kit_list_Rule ?kit_tuple_Rule ?kit_dict_Rule ?kit_Frac_Rule ?kit_Rule_Rule ?kit_NoHalf_Rule ?kit_Frac_bool ?kit_Rule_bool ?kit_NoHalf_bool ?kit_Frac_int ?kit_Rule_int ?kit_NoHalf_int ?kit_Frac_list ?kit_Rule_list ?kit_NoHalf_list ?kit_Frac_str ?kit_Rule_str ?kit_NoHalf_str ?kit_Frac_tuple ?kit_Rule_tuple ?kit_NoHalf_tuple ?dg ?rp_NoHalf ?qn_Frac ?qb_Frac_NoneType ?qb_Frac_bool ?qb_Frac_int ?qb_Frac_str ?qb_Frac_list ?qb_Frac_tuple ?qb_Frac_dict ?qo_Frac_Rule ?qx_Frac_NoHalf ?qy_Frac_NoHalf ?qn_Rule ?qb_Rule_NoneType ?qb_Rule_bool ?qb_Rule_int ?qb_Rule_str ?qb_Rule_list ?qb_Rule_tuple ?qb_Rule_dict ?qo_Rule_Frac ?qx_Rule_NoHalf ?qy_Rule_NoHalf ?qe_NoHalf
    (case oa_Frac => k_is)
    (case oa_Rule => k_is)
    (case a_HailError => k_is)
    (case a_NoNumber => k_is)
    (case a_NoBottom => k_is)
    (case a_NoHalf => k_is)
    (case a_NoRule => k_is)
    (case a_NoWord => k_is)
    (case z_abs => k_is)
    (case z_all => k_is)
    (case z_bool => k_is)
    (case z_enumerate => k_is)
    (case z_int => k_is)
    (case z_isinstance => k_is)
    (case z_len => k_is)
    (case z_list => k_is)
    (case z_max => k_is)
    (case z_min => k_is)
    (case z_range => k_is)
    (case z_repr => k_is)
    (case z_str => k_is)
    (case z_tuple => k_is)
    (case k_MOST => k_is)
    (case k_MOST_LETTERS => k_is)
    (case k_MOST_ROUND => k_is)
    (case a_common => k_is)
    (case l_common => k_is)
    (case c_common => k_is)
    (case k_common => k_is)
    (case a_is_number => k_is)
    (case l_is_number => k_is)
    (case c_is_number => k_is)
    (case k_is_number => k_is)
    (case a_need_number => k_is)
    (case l_need_number => k_is)
    (case c_need_number => k_is)
    (case k_need_number => k_is)
    (case a_Frac___init__ => k_is)
    (case i_Frac___init__ => k_is)
    (case l_Frac___init__ => k_is)
    (case c_Frac___init__ => k_is)
    (case k_Frac___init__ => k_is)
    (case dt_Frac___init__ => k_is)
    (case a_Frac___str__ => k_is)
    (case i_Frac___str__ => k_is)
    (case l_Frac___str__ => k_is)
    (case c_Frac___str__ => k_is)
    (case k_Frac___str__ => k_is)
    (case a_Frac___repr__ => k_is)
    (case i_Frac___repr__ => k_is)
    (case l_Frac___repr__ => k_is)
    (case c_Frac___repr__ => k_is)
    (case k_Frac___repr__ => k_is)
    (case a_is_whole => k_is)
    (case l_is_whole => k_is)
    (case c_is_whole => k_is)
    (case k_is_whole => k_is)
    (case a_Rule___init__ => k_is)
    (case i_Rule___init__ => k_is)
    (case l_Rule___init__ => k_is)
    (case c_Rule___init__ => k_is)
    (case k_Rule___init__ => k_is)
    (case dt_Rule___init__ => k_is)
    (case a__law_box => k_is)
    (case l__law_box => k_is)
    (case c__law_box => k_is)
    (case k__law_box => k_is)
    (case a__law_cell => k_is)
    (case l__law_cell => k_is)
    (case c__law_cell => k_is)
    (case k__law_cell => k_is)
    (case a_Frac_told => k_is)
    (case i_Frac_told => k_is)
    (case l_Frac_told => k_is)
    (case c_Frac_told => k_is)
    (case k_Frac_told => k_is)
    (case a_Rule_told => k_is)
    (case i_Rule_told => k_is)
    (case l_Rule_told => k_is)
    (case c_Rule_told => k_is)
    (case k_Rule_told => k_is)
    (case a__law_low => k_is)
    (case l__law_low => k_is)
    (case c__law_low => k_is)
    (case k__law_low => k_is)
    (case a__law_lead => k_is)
    (case l__law_lead => k_is)
    (case c__law_lead => k_is)
    (case k__law_lead => k_is)
    (case a__law_due => k_is)
    (case l__law_due => k_is)
    (case c__law_due => k_is)
    (case k__law_due => k_is)
    (case a__law_just => k_is)
    (case l__law_just => k_is)
    (case c__law_just => k_is)
    (case k__law_just => k_is)
    (case a__law_take => k_is)
    (case l__law_take => k_is)
    (case c__law_take => k_is)
    (case k__law_take => k_is)
    (case a__law_odd => k_is)
    (case l__law_odd => k_is)
    (case c__law_odd => k_is)
    (case k__law_odd => k_is)
    (case a_Frac_top => k_is)
    (case i_Frac_top => k_is)
    (case l_Frac_top => k_is)
    (case c_Frac_top => k_is)
    (case k_Frac_top => k_is)
    (case a__law_pair => k_is)
    (case l__law_pair => k_is)
    (case c__law_pair => k_is)
    (case k__law_pair => k_is)
    (case a__law_other => k_is)
    (case l__law_other => k_is)
    (case c__law_other => k_is)
    (case k__law_other => k_is)
    (case a_Frac___eq__ => k_is)
    (case i_Frac___eq__ => k_is)
    (case l_Frac___eq__ => k_is)
    (case c_Frac___eq__ => k_is)
    (case k_Frac___eq__ => k_is)
    (case a_Rule___eq__ => k_is)
    (case i_Rule___eq__ => k_is)
    (case l_Rule___eq__ => k_is)
    (case c_Rule___eq__ => k_is)
    (case k_Rule___eq__ => k_is)
    (case a_need_rule => k_is)
    (case l_need_rule => k_is)
    (case c_need_rule => k_is)
    (case k_need_rule => k_is)
    (case a_Frac_is_odd => k_is)
    (case i_Frac_is_odd => k_is)
    (case l_Frac_is_odd => k_is)
    (case c_Frac_is_odd => k_is)
    (case k_Frac_is_odd => k_is)
    (case a_Frac_half => k_is)
    (case i_Frac_half => k_is)
    (case l_Frac_half => k_is)
    (case c_Frac_half => k_is)
    (case k_Frac_half => k_is)
    (case a_Frac_led => k_is)
    (case i_Frac_led => k_is)
    (case l_Frac_led => k_is)
    (case c_Frac_led => k_is)
    (case k_Frac_led => k_is)
    (case a_Rule_addend => k_is)
    (case i_Rule_addend => k_is)
    (case l_Rule_addend => k_is)
    (case c_Rule_addend => k_is)
    (case k_Rule_addend => k_is)
    (case a_Rule_factor => k_is)
    (case i_Rule_factor => k_is)
    (case l_Rule_factor => k_is)
    (case c_Rule_factor => k_is)
    (case k_Rule_factor => k_is)
    (case a_next_of => k_is)
    (case l_next_of => k_is)
    (case c_next_of => k_is)
    (case k_next_of => k_is)
    (case a_is_round => k_is)
    (case l_is_round => k_is)
    (case c_is_round => k_is)
    (case k_is_round => k_is)
    (case a__law_refused => k_is)
    (case l__law_refused => k_is)
    (case c__law_refused => k_is)
    (case k__law_refused => k_is)
    (case a__law_rule => k_is)
    (case l__law_rule => k_is)
    (case c__law_rule => k_is)
    (case k__law_rule => k_is)
    (case a__law_word => k_is)
    (case l__law_word => k_is)
    (case c__law_word => k_is)
    (case k__law_word => k_is)
    (case a_led_by => k_is)
    (case l_led_by => k_is)
    (case c_led_by => k_is)
    (case k_led_by => k_is)
    (case a_is_word => k_is)
    (case l_is_word => k_is)
    (case c_is_word => k_is)
    (case k_is_word => k_is)
    (case a_need_word => k_is)
    (case l_need_word => k_is)
    (case c_need_word => k_is)
    (case k_need_word => k_is)
    (case a_need_letters => k_is)
    (case l_need_letters => k_is)
    (case c_need_letters => k_is)
    (case k_need_letters => k_is)
    (case a_ring_of => k_is)
    (case l_ring_of => k_is)
    (case c_ring_of => k_is)
    (case k_ring_of => k_is)
    (case a_walked => k_is)
    (case l_walked => k_is)
    (case c_walked => k_is)
    (case k_walked => k_is)
    (case a_round_of => k_is)
    (case l_round_of => k_is)
    (case c_round_of => k_is)
    (case k_round_of => k_is)
    (case a_law => k_is)
    (case l_law => k_is)
    (case c_law => k_is)
    (case k_law => k_is)
    (case pg_Frac => k_is)
    (case hd_Frac => k_is)
    (case po_Frac => k_is)
    (case sa_Frac => k_is)
    (case mk_Frac => k_is)
    (case ke_Frac => k_is)
    (case ha_Frac => k_is)
    (case hm_Frac => k_is)
    (case na_Frac_above => k_is)
    (case na_Frac_below => k_is)
    (case pg_Rule => k_is)
    (case hd_Rule => k_is)
    (case po_Rule => k_is)
    (case sa_Rule => k_is)
    (case mk_Rule => k_is)
    (case ke_Rule => k_is)
    (case ha_Rule => k_is)
    (case hm_Rule => k_is)
    (case na_Rule_times => k_is)
    (case na_Rule_plus => k_is)
    (case sg_HailError => k_is)
    (case rd_HailError => k_is)
    (case fc_HailError => k_is)
    (case cl_NoNumber => k_is)
    (case rv_NoNumber => decide +kernel)
    (case sa_NoNumber => k_is)
    (case eb_NoNumber => k_is)
    (case ty_NoNumber => k_is)
    (case ke_NoNumber => k_is)
    (case no_NoNumber => k_is)
    (case fi_NoNumber => k_is)
    (case ti_NoNumber => k_is)
    (case l_NoNumber => k_is)
    (case c_NoNumber => k_is)
    (case ga_NoNumber => k_is)
    (case gg_NoNumber => k_is)
    (case hb_NoNumber => k_is)
    (case ha_NoNumber => k_is)
    (case hm_NoNumber => k_is)
    (case cl_NoBottom => k_is)
    (case rv_NoBottom => decide +kernel)
    (case sa_NoBottom => k_is)
    (case eb_NoBottom => k_is)
    (case ty_NoBottom => k_is)
    (case ke_NoBottom => k_is)
    (case no_NoBottom => k_is)
    (case fi_NoBottom => k_is)
    (case ti_NoBottom => k_is)
    (case l_NoBottom => k_is)
    (case c_NoBottom => k_is)
    (case ga_NoBottom => k_is)
    (case gg_NoBottom => k_is)
    (case hb_NoBottom => k_is)
    (case ha_NoBottom => k_is)
    (case hm_NoBottom => k_is)
    (case cl_NoHalf => k_is)
    (case rv_NoHalf => decide +kernel)
    (case sa_NoHalf => k_is)
    (case eb_NoHalf => k_is)
    (case ty_NoHalf => k_is)
    (case ke_NoHalf => k_is)
    (case no_NoHalf => k_is)
    (case fi_NoHalf => k_is)
    (case ti_NoHalf => k_is)
    (case l_NoHalf => k_is)
    (case c_NoHalf => k_is)
    (case ga_NoHalf => k_is)
    (case gg_NoHalf => k_is)
    (case hb_NoHalf => k_is)
    (case ha_NoHalf => k_is)
    (case hm_NoHalf => k_is)
    (case cl_NoRule => k_is)
    (case rv_NoRule => decide +kernel)
    (case sa_NoRule => k_is)
    (case eb_NoRule => k_is)
    (case ty_NoRule => k_is)
    (case ke_NoRule => k_is)
    (case no_NoRule => k_is)
    (case fi_NoRule => k_is)
    (case ti_NoRule => k_is)
    (case l_NoRule => k_is)
    (case c_NoRule => k_is)
    (case ga_NoRule => k_is)
    (case gg_NoRule => k_is)
    (case hb_NoRule => k_is)
    (case ha_NoRule => k_is)
    (case hm_NoRule => k_is)
    (case cl_NoWord => k_is)
    (case rv_NoWord => decide +kernel)
    (case sa_NoWord => k_is)
    (case eb_NoWord => k_is)
    (case ty_NoWord => k_is)
    (case ke_NoWord => k_is)
    (case no_NoWord => k_is)
    (case fi_NoWord => k_is)
    (case ti_NoWord => k_is)
    (case l_NoWord => k_is)
    (case c_NoWord => k_is)
    (case ga_NoWord => k_is)
    (case gg_NoWord => k_is)
    (case hb_NoWord => k_is)
    (case ha_NoWord => k_is)
    (case hm_NoWord => k_is)
    (case xs_HailError => k_is)
    (case xd_HailError => k_is)
    (case xt_HailError => k_is)
    (case xs_NoRule => k_is)
    (case xd_NoRule => k_is)
    (case xt_NoRule => k_is)
    (case xx_NoNumber_NoRule => k_is)
    (case xx_NoNumber_HailError => k_is)
    (case xx_NoBottom_NoRule => k_is)
    (case xx_NoBottom_HailError => k_is)
    (case xx_NoHalf_NoRule => k_is)
    (case xx_NoHalf_HailError => k_is)
    (case xx_NoRule_NoRule => k_is)
    (case xx_NoRule_HailError => k_is)
    (case xx_NoWord_NoRule => k_is)
    (case xx_NoWord_HailError => k_is)
    (case hn => k_is)
    (case ht => k_is)
    (case kit_NoneType_Frac => kit_is)
    (case kit_bool_Frac => kit_is)
    (case kit_int_Frac => kit_is)
    (case kit_str_Frac => kit_is)
    (case kit_list_Frac => kit_is)
    (case kit_tuple_Frac => kit_is)
    (case kit_dict_Frac => kit_is)
    (case kit_Frac_Frac => kit_is)
    (case kit_Rule_Frac => kit_is)
    (case kit_NoHalf_Frac => kit_is)
    (case kit_NoneType_Rule => kit_is)
    (case kit_bool_Rule => kit_is)
    (case kit_int_Rule => kit_is)
    (case kit_str_Rule => kit_is)
    (case kit_list_Rule => kit_is)
    (case kit_tuple_Rule => kit_is)
    (case kit_dict_Rule => kit_is)
    (case kit_Frac_Rule => kit_is)
    (case kit_Rule_Rule => kit_is)
    (case kit_NoHalf_Rule => kit_is)
    (case kit_Frac_bool => kit_is)
    (case kit_Rule_bool => kit_is)
    (case kit_NoHalf_bool => kit_is)
    (case kit_Frac_int => kit_is)
    (case kit_Rule_int => kit_is)
    (case kit_NoHalf_int => kit_is)
    (case kit_Frac_list => kit_is)
    (case kit_Rule_list => kit_is)
    (case kit_NoHalf_list => kit_is)
    (case kit_Frac_str => kit_is)
    (case kit_Rule_str => kit_is)
    (case kit_NoHalf_str => kit_is)
    (case kit_Frac_tuple => kit_is)
    (case kit_Rule_tuple => kit_is)
    (case kit_NoHalf_tuple => kit_is)
    (case dg => k_is)
    (case rp_NoHalf => k_is)
    (case qn_Frac => k_is)
    (case qb_Frac_NoneType => k_is)
    (case qb_Frac_bool => k_is)
    (case qb_Frac_int => k_is)
    (case qb_Frac_str => k_is)
    (case qb_Frac_list => k_is)
    (case qb_Frac_tuple => k_is)
    (case qb_Frac_dict => k_is)
    (case qo_Frac_Rule => k_is)
    (case qx_Frac_NoHalf => k_is)
    (case qy_Frac_NoHalf => k_is)
    (case qn_Rule => k_is)
    (case qb_Rule_NoneType => k_is)
    (case qb_Rule_bool => k_is)
    (case qb_Rule_int => k_is)
    (case qb_Rule_str => k_is)
    (case qb_Rule_list => k_is)
    (case qb_Rule_tuple => k_is)
    (case qb_Rule_dict => k_is)
    (case qo_Rule_Frac => k_is)
    (case qx_Rule_NoHalf => k_is)
    (case qy_Rule_NoHalf => k_is)
    (case qe_NoHalf => k_is)
#print axioms PySem.Challenge.cw_hailwords_k17_rounds_judged_holds
